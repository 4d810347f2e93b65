import PyProof.Rows.All
import Wide.All
import OpenK.AllK
import Wide.FinOn
import KE.KStateDown
import Lean
import HandS.ForMost
import HandS.ForExc
import HandS.Defaults
import HandS.Lambda
import HandS.Head0
import HandS.Head1
import HandS.Head2
import HandS.HeadEnd
import HandS.HeadHook1
import HandS.HeadHook2
import HandS.HeadHook3
import HandS.HeadHook4
import HandS.HeadWalk
import HandS.TupMul
import HandS.TupAny
import HandS.Style
import KE.SortData
import KE.DataEq
import KE.DataCmp
import KE.DataMinMax
import KE.DataFind
import PyProof.ReprReads
import HandS.IsInst
import HandS.Conv
import HandS.Zip
import HandS.Walk
import HandS.CallLocal
import HandS.CallSlots
import HandS.ExcIs
import HandS.ExcField
import KE.KExcSuper
import HandS.ExcInit
import KE.LtData
import HandS.Flow
import HandS.HotCalls
import KE.GoesMore
import KE.GoesEnum
import KE.GoesZip
import HandS.Star
import HandS.Iter
import KE.KItemsList
import HandS.ListItems
import HandS.SetFor
import KE.KExcIs
import PyProof.ReprLen
import PyProof.StrLawsRepr
import HandS.EndTab
import PySem.Challenge.RW_starshelves_k01_whole_words_and_kinds
set_option Elab.async false
set_option linter.all false
set_option maxRecDepth 100000
set_option maxHeartbeats 4000000
namespace SH
open PySem PySem.Spec PyProof.Rows L2
/-- a written default -/
def dvOf : Expr → Option He.Dv
  | .Constant .none _ _ => some .non
  | .Constant (.bool b) _ _ => some (.bl b)
  | .Constant (.int i) _ _ => some (.int i)
  | .Constant (.str s) _ _ => some (.str s)
  | .UnaryOp .USub (.Constant (.int i) _ _) _ => some (.int (-i))
  | _ => none
def dvsOf (es : List Expr) : List He.Dv := es.filterMap dvOf
def defOf1 (cls : Option Str) : Stmt → List He.DefD
  | .FunctionDef n a b _ _ _ sc _ _ _ => match cls with
    | none => [⟨(n, none), n, n, a, b, sc, dvsOf a.defaults, []⟩]
    | some c => [⟨(c, some n), n, c ++ "." ++ n, a, b, sc, dvsOf a.defaults, []⟩]
  | _ => []
def topDefs : List Stmt → List He.DefD
  | [] => []
  | .FunctionDef n a b d r t sc ts bd p :: l => defOf1 none (.FunctionDef n a b d r t sc ts bd p) ++ topDefs l
  | .ClassDef n _ _ b _ _ _ _ _ _ _ :: l => b.flatMap (defOf1 (some n)) ++ topDefs l
  | _ :: l => topDefs l
def defNames : List Stmt → List Str
  | [] => []
  | .FunctionDef n .. :: l => n :: defNames l
  | _ :: l => defNames l
end SH

set_option Elab.async false
set_option linter.all false
set_option autoImplicit false
set_option maxRecDepth 100000
set_option maxHeartbeats 4000000
/-! tuple * int where nothing is laid anew; t[::-1] -/
namespace SH
open PySem PySem.Spec PyProof.Rows L2
theorem tuple_mulSame (l : Addr) (items : Array Value) (n : Nat) (dd : Option Addr) (sl : Array (Option Value)) (x : Int) (u : Tok) (c0 : (decide (x < -(2 ^ 63)) || decide (x ≥ 2 ^ 63)) = false) (c1 : (items.isEmpty || x == 1) = true) :
    Meets (Builtin.«tuple.__mul__» ⟨[.ref l, .int x u], []⟩) (fun _ R s => s.heap.get? l = some { cls := .type "tuple", dict := dd, data := .seq items n, slots := sl } ∧ R (.ok (.ret (Value.ref l))) s) :=
  .of_wp fun prog w A R s h => by
    obtain ⟨hp, g, d, tk, os⟩ := s
    obtain ⟨hl, h⟩ := h
    have f1 := AutoSeq1.idx_int
    wp_walk using wpAny_loadPart' hl
    repeat (first
      | (refine wpAny_ite_false (decide_eq_false (by rw [c0]; exact Bool.false_ne_true)) ?_; wp_walk using wpAny_loadPart' hl)
      | (refine wpAny_ite_true (decide_eq_true c1) ?_; wp_walk using wpAny_loadPart' hl))
    exact ⟨_, rfl, h⟩
theorem tuple_mulNone (l : Addr) (items : Array Value) (n : Nat) (dd : Option Addr) (sl : Array (Option Value)) (x : Int) (u : Tok) (c0 : (decide (x < -(2 ^ 63)) || decide (x ≥ 2 ^ 63)) = false) (c1 : (items.isEmpty || x == 1) = false) (c2 : (decide (x ≤ 0) || items.isEmpty) = true) :
    Meets (Builtin.«tuple.__mul__» ⟨[.ref l, .int x u], []⟩) (fun _ R s => s.heap.get? l = some { cls := .type "tuple", dict := dd, data := .seq items n, slots := sl } ∧
      R (.ok (.ret (Value.ref s.heap.objs.size))) { s with heap := s.heap.push { cls := Value.type "tuple", data := Data.seq #[] }, toks := s.toks }) :=
  .of_wp fun prog w A R s h => by
    obtain ⟨hp, g, d, tk, os⟩ := s
    obtain ⟨hl, h⟩ := h
    have f1 := AutoSeq1.idx_int
    wp_walk using wpAny_loadPart' hl
    repeat (first
      | (refine wpAny_ite_false (decide_eq_false (by rw [c0]; exact Bool.false_ne_true)) ?_; wp_walk using wpAny_loadPart' hl)
      | (refine wpAny_ite_false (decide_eq_false (by rw [c1]; exact Bool.false_ne_true)) ?_; wp_walk using wpAny_loadPart' hl)
      | (refine wpAny_ite_true (decide_eq_true c2) ?_; wp_walk using wpAny_loadPart' hl))
    exact ⟨_, rfl, h⟩
section
variable {X : Cx}
/-- t * n where t is none, or n is at most 1 -/
def rRepT0 (K : PySem.W.Frag) : R2 := fun x y H Q => ∃ l k xs, x = .ref l ∧ y = .int k ∧ SqT K H l xs ∧ -1000 ≤ k ∧ k ≤ 1000 ∧ (xs = [] ∨ k ≤ 1) ∧ (xs = [] ∨ k = 1 → Q (.ref l) H) ∧ (xs ≠ [] → k ≤ 0 → ∀ p, H p = none → Q (.ref p) (upd H p (.tup [])))
theorem op_repT0 : OpR X (binaryOp .Mult) (rRepT0 X.K) := by
  intro pins s σ H x y v u Q I rx ry h
  obtain ⟨l, k, xs, rfl, rfl, hT, h1, h2, h3, q1, q2⟩ := h
  cases rx
  obtain ⟨t, rfl⟩ := ry
  obtain ⟨its, r, ⟨⟨cls, dd, data, sl⟩, ho, hc, n, hd⟩, hs⟩ := I.tuple hT
  simp only at hc hd
  subst hc hd
  have hle : its.length = xs.length := r.length.symm
  have he : its = [] ↔ xs = [] := by
    constructor <;> intro e <;> subst e
    · exact List.eq_nil_of_length_eq_zero hle.symm
    · exact List.eq_nil_of_length_eq_zero hle
  have c0 : (decide (k < -(2 ^ 63)) || decide (k ≥ 2 ^ 63)) = false := by
    rw [decide_eq_false (by omega), decide_eq_false (by omega)] <;> rfl
  by_cases hx : xs = [] ∨ k = 1
  · have c1 : (its.toArray.isEmpty || k == 1) = true := by
      rcases hx with e | e
      · rw [he.mpr e]; rfl
      · rw [e]; simp
    exact wpAny_binaryOp_repeat_ref (T := "tuple") (U := "int") (by decide) ⟨_, ho, rfl⟩ (fun s' => typeIs_int s' k t) noFill_tuple_mul F.fills_int_mul F.slot_int_rmul repeat_tuple F.slot_int_index.lookup
      (call_meets F.slot_int_rmul (typeIs_int s k t) F.entry_int_rmul (F.args_int_rmul_2 _ _) (int_rmul_tuple k t l its.toArray n dd sl)
        ⟨ho, rfl, ⟨_, ho, rfl⟩, call_meets F.slot_tuple_mul ⟨_, ho, rfl⟩ F.entry_tuple_mul (F.args_tuple_mul_2 _ _) (tuple_mulSame l its.toArray n dd sl k t c0 c1) ⟨ho, ⟨.ref l, H, I, rfl, q1 hx⟩⟩⟩)
  · have hn : xs ≠ [] := fun e => hx (.inl e)
    have hk : k ≤ 0 := by
      rcases h3 with e | e
      · exact absurd e hn
      · have : k ≠ 1 := fun e => hx (.inr e)
        omega
    have hi : its.toArray.isEmpty = false := by
      cases its with
      | nil => exact absurd (he.mp rfl) hn
      | cons a b => rfl
    have c1 : (its.toArray.isEmpty || k == 1) = false := by
      rw [hi, Bool.false_or]
      exact beq_eq_false_iff_ne.mpr (by omega)
    have c2 : (decide (k ≤ 0) || its.toArray.isEmpty) = true := by
      rw [decide_eq_true hk]; rfl
    refine wpAny_binaryOp_repeat_ref (T := "tuple") (U := "int") (by decide) ⟨_, ho, rfl⟩ (fun s' => typeIs_int s' k t) noFill_tuple_mul F.fills_int_mul F.slot_int_rmul repeat_tuple F.slot_int_index.lookup
      (call_meets F.slot_int_rmul (typeIs_int s k t) F.entry_int_rmul (F.args_int_rmul_2 _ _) (int_rmul_tuple k t l its.toArray n dd sl)
        ⟨ho, rfl, ⟨_, ho, rfl⟩, call_meets F.slot_tuple_mul ⟨_, ho, rfl⟩ F.entry_tuple_mul (F.args_tuple_mul_2 _ _) (tuple_mulNone l its.toArray n dd sl k t c0 c1 c2) ⟨ho, ?_⟩⟩)
    refine ⟨.ref s.heap.objs.size, _, I.laid (t' := s.toks) (o := .tup []) (fun b ob q => Heap.get?_push_of_some _ q) (Nat.le_refl _) ?_, rfl, q2 hn hk _ (I.hok.fresh (Nat.le_refl _))⟩
    exact ⟨Nat.zero_le _, [], .nil, IsTup.new _ _⟩
/-! ### t[::-1] -/
theorem sliceApplied_rev {prog : Program} {w : World} {A : Around} {E : Value → Shared → Prop} {s : Shared} {sl : Addr} {vl vu vs : Value} {n : Nat} {Q : Int × Int × Nat → Shared → Prop} (hs : s.heap.IsSliceOf sl vl vu vs) (pl : IsPart vl none) (pu : IsPart vu none) (ps : IsPart vs (some (-1)))
    (h : Q ((n : Int) - 1, -1, n) s) : wpAny (model prog w) A (Builtin.Slice.sliceApplied (.ref sl) (pure (n : Int))) Q E s := by
  obtain ⟨os, hos, hcs, hds⟩ := id hs
  unfold Builtin.Slice.sliceApplied Builtin.Slice.sliceFields
  refine wpAny_bind (wpAny_bind (wpAny_field hos hds (x := vl) rfl (wpAny_bind (wpAny_field hos hds (x := vu) rfl (wpAny_bind (wpAny_field hos hds (x := vs) rfl (wpAny_pure ?_)))))))
  refine wpAny_bind (HT.slicePart_ ps ?_)
  show wpAny _ _ (if ((-1 : Int) == 0) = true then _ else _) _ _ s
  rw [if_neg (by decide)]
  refine wpAny_bind (HT.slicePart_ pl (wpAny_bind (HT.slicePart_ pu (wpAny_bind (wpAny_pure ?_)))))
  show wpAny _ _ (match Builtin.Slice.sliceAdjust none none (-1) (n : Int) with | (lo, hi) => pure (lo, (-1 : Int), Builtin.Slice.slicePlaces lo hi (-1))) _ _ s
  have e1 : Builtin.Slice.sliceAdjust none none (-1) (n : Int) = ((n : Int) - 1, -1) := by
    unfold Builtin.Slice.sliceAdjust
    simp
  have e2 : Builtin.Slice.slicePlaces ((n : Int) - 1) (-1) (-1) = n := by
    unfold Builtin.Slice.slicePlaces
    simp only [show ¬ ((-1 : Int) > 0) by omega, if_false]
    simp only [Int.neg_neg, Int.ediv_one]
    split <;> omega
  rw [e1]
  show wpAny _ _ (pure ((n : Int) - 1, (-1 : Int), Builtin.Slice.slicePlaces ((n : Int) - 1) (-1) (-1))) _ _ s
  rw [e2]
  exact wpAny_pure h
theorem pick_rev (xs : Array Value) : ((List.range xs.size).filterMap fun (k : Nat) => xs[(((xs.size : Int) - 1) + (k : Int) * (-1)).toNat]?) = xs.toList.reverse := by
  have e : ∀ k ∈ List.range xs.size, xs[(((xs.size : Int) - 1) + (k : Int) * (-1)).toNat]? = xs[xs.size - 1 - k]? := by
    intro k hk
    have := List.mem_range.mp hk
    congr 1
    omega
  have fc : ∀ (l : List Nat) (f g : Nat → Option Value), (∀ k ∈ l, f k = g k) → l.filterMap f = l.filterMap g := fun l f g h => by
    induction l with
    | nil => rfl
    | cons a l ih => rw [List.filterMap_cons, List.filterMap_cons, h a List.mem_cons_self, ih fun k hk => h k (List.mem_cons_of_mem _ hk)]
  rw [fc _ _ _ e]
  have := PySem.W.krv_all xs
  have h2 : ((List.range xs.size).map (fun k => xs.size - 1 - k)).filterMap (xs[·]?) = (List.range xs.size).reverse.filterMap (xs[·]?) := by rw [PySem.W.krv_range]
  rw [List.filterMap_map, List.filterMap_reverse, this] at h2
  exact h2
theorem getItem_tuple_rev {prog : Program} {w : World} {A : Around} {E : Value → Shared → Prop} {s : Shared} {t sl : Addr} {items : Array Value} {vl vu vs : Value} {Q : Value → Shared → Prop} (ht : IsTup s.heap t items) (hs : s.heap.IsSliceOf sl vl vu vs) (pl : IsPart vl none) (pu : IsPart vu none) (ps : IsPart vs (some (-1)))
    (h : Q (.ref s.heap.objs.size) { s with heap := s.heap.push { cls := .type "tuple", data := .seq items.toList.reverse.toArray } })
    (hsz : items.size ≤ sizeLine) : wpAny (model prog w) A (getItem (.ref t) (.ref sl)) Q E s := by
  obtain ⟨os, hos, hcs, hds⟩ := id hs
  have hTs : s.TypeIs (.ref sl) "slice" := ⟨os, hos, hcs⟩
  unfold getItem
  try with_reducible refine wpAny_holding ?_
  first | refine wpAny_bind (wpAny_pure ?_) | skip
  refine wpAny_bind (wpAny_sequenceKey ht.typeIs (by decide) ?_)
  refine wpAny_bind (wpAny_callSpecial?_slot (name := Str.ofString "__getitem__") ht.typeIs PyProof.Rows.slot_tuple_getitem
    (wpAny_call_entry PyProof.Rows.slot_tuple_getitem ht.typeIs entry_tuple_getitem ?_ (args_tuple_getitem _ _)))
  show wpAny _ _ (Builtin.Tuple.tupleItemsOf (.ref t) >>= _) _ _ s
  refine wpAny_bind (tupleItemsOf_ ht ?_)
  refine wpAny_bind (wpAny_typeOf hTs ?_)
  rw [if_pos (by decide)]
  refine wpAny_bind (sliceApplied_rev hs pl pu ps ?_)
  have hno : ¬ ((((items.size : Int) - 1 == 0 && (-1 : Int) == 1 && items.size == items.size)) = true) := by
    intro q
    rw [Bool.and_eq_true, Bool.and_eq_true] at q
    exact absurd (eq_of_beq q.1.2) (by decide)
  show wpAny _ _ (if ((((items.size : Int) - 1 == 0 && (-1 : Int) == 1 && items.size == items.size)) = true) then _ else _) _ _ s
  rw [if_neg hno, pick_rev]
  have hz : sizeOk (.seq items.toList.reverse.toArray) := by
    show items.toList.reverse.toArray.size ≤ sizeLine
    rw [List.size_toArray, List.length_reverse, Array.length_toList]
    exact hsz
  first
    | exact wpAny_bind (m := Builtin.Tuple.tupleExact _) (wpAny_newObj_type (wpAny_pure ⟨_, rfl, wpAny_pure h⟩) hz)
    | exact wpAny_bind (m := Builtin.Tuple.tupleExact _) (wpAny_newObj_type (wpAny_bind (wpAny_pure (wpAny_pure ⟨_, rfl, wpAny_pure h⟩))) hz)
    | exact wpAny_bind (wpAny_bind (m := Builtin.Tuple.tupleExact _) (wpAny_newObj_type (wpAny_pure (wpAny_pure ⟨_, rfl, wpAny_pure h⟩)) hz))
    | exact wpAny_bind (wpAny_bind (m := Builtin.Tuple.tupleExact _) (wpAny_newObj_type (wpAny_pure ⟨_, rfl, wpAny_pure h⟩) hz))
/-- xs[::-1] of a list, of a tuple -/
def tRevA (K : PySem.W.Frag) (te : TE) : TE := fun σ H Q => te σ H fun x H1 => ∃ a xs, x = .ref a ∧ ((SqL K H1 a xs ∧ ∀ p, H1 p = none → Q (.ref p) (upd H1 p (.lst xs.reverse))) ∨ (SqT K H1 a xs ∧ ∀ p, H1 p = none → Q (.ref p) (upd H1 p (.tup xs.reverse))))
theorem pe_revA {e : Expr} {te : TE} {k : Nat} {p1 p2 p3 pos : Pos} (he : PE X e te) : PE X (.Subscript e (.Slice none none (some (.UnaryOp .USub (.Constant (.int 1) k p1) p2)) p3) pos) (tRevA X.K te) := by
  refine ⟨fun pins s σ H Q I h => ?_⟩
  refine Subscript_ (thn (he.run pins s σ H _ I h) fun v s1 ⟨x, H1, I1, r1, q1⟩ => ?_)
  obtain ⟨a, xs, ex, hx⟩ := q1
  subst ex
  cases r1
  have hst : PO X (some (.UnaryOp .USub (.Constant (.int 1) k p1) p2)) (tPart (tUn (rU fun i => .int (-i)) (tC (.int 1)))) := po_some (pe_un un_neg pe_int)
  refine wpAny_Slice (thn (po_none.run pins s1 σ H1 (fun o H2 => o = none ∧ H2 = H1) I1 ⟨rfl, rfl⟩) fun vl s2 ⟨l, H2, I2, pl, el, e2⟩ => ?_)
  subst el e2
  refine thn (po_none.run pins s2 σ H2 (fun o H3 => o = none ∧ H3 = H2) I2 ⟨rfl, rfl⟩) fun vu s3 ⟨u, H3, I3, pu, eu, e3⟩ => ?_
  subst eu e3
  refine thn (hst.run pins s3 σ H3 (fun o H4 => o = some (-1) ∧ H4 = H3) I3 ⟨1, rfl, -1, rfl, rfl, rfl⟩) fun vs s4 ⟨o, H4, I4, ps, eo, e4⟩ => ?_
  subst eo e4
  have I5 : Inv X pins σ H4 { s4 with heap := s4.heap.push { cls := .type "slice", data := .fields #[vl, vu, vs] } } := I4.kept (t' := s4.toks) fun b ob q => Heap.get?_push_of_some _ q
  show wpAny (model X.prog X.w) X.A (subscriptTail e (.Slice none none (some (.UnaryOp .USub (.Constant (.int 1) k p1) p2)) p3) (.ref a) (.ref s4.heap.objs.size)) (EP X pins σ Q) X.xe { s4 with heap := s4.heap.push { cls := .type "slice", data := .fields #[vl, vu, vs] } }
  rcases hx with ⟨hx, q⟩ | ⟨hx, q⟩
  · obtain ⟨its, r, ht, hz⟩ := I5.list hx
    have hlen := r.length
    refine tail_any (ops := [.ref a, .ref s4.heap.objs.size]) ht.isList.typeIs (PySem.slot_list_getitem.lookup) ?_ (by with_unfolding_all rfl)
    refine wpAny_getItem_list_slice ht.isList (Heap.IsSliceOf.new _ vl vu vs) pl pu ps (by decide) ?_ (by rw [List.size_toArray]; omega)
    rw [PySem.W.krv_pick]
    refine ⟨.ref _, _, I5.laid (t' := s4.toks) (o := .lst xs.reverse) (fun b ob q => Heap.get?_push_of_some _ q) (Nat.le_refl _) ?_, rfl, q _ (I5.hok.fresh (Nat.le_refl _))⟩
    exact ⟨by rw [List.length_reverse]; exact hz, _, 0, r.reverse, Heap.get?_push_size _ rfl⟩
  · obtain ⟨its, r, ht, hz⟩ := I5.tuple hx
    have hlen := r.length
    refine tail_any (ops := [.ref a, .ref s4.heap.objs.size]) ht.typeIs (PyProof.Rows.slot_tuple_getitem.lookup) ?_ (by with_unfolding_all rfl)
    refine getItem_tuple_rev ht (Heap.IsSliceOf.new _ vl vu vs) pl pu ps ?_ (by rw [List.size_toArray]; omega)
    refine ⟨.ref _, _, I5.laid (t' := s4.toks) (o := .tup xs.reverse) (fun b ob q => Heap.get?_push_of_some _ q) (Nat.le_refl _) ?_, rfl, q _ (I5.hok.fresh (Nat.le_refl _))⟩
    exact ⟨by rw [List.length_reverse]; exact hz, _, r.reverse, IsTup.new _ _⟩
end
end SH

set_option Elab.async false
set_option linter.all false
set_option maxRecDepth 100000
set_option maxHeartbeats 4000000
namespace SH
open PySem PySem.Spec PyProof.Rows L2

/-- a value by what it is, the heap read off -/
inductive D where
  | non | bl (b : Bool) | int (i : Int) | str (s : Str)
  | tup (l : List D) | lst (l : List D)
  | fn (x : Str)
  | ptr (k : Nat)
  | scr (ns : List Int)
instance : Inhabited D := ⟨.non⟩

mutual
def D.py : D → Option PyData
  | .non => some .none
  | .bl b => some (.bool b)
  | .int i => some (.int i)
  | .str s => some (.str s)
  | .tup l => (D.pys l).map .tuple
  | .lst l => (D.pys l).map .list
  | .fn _ => none
  | .ptr _ => none
  | .scr _ => none
def D.pys : List D → Option (List PyData)
  | [] => some []
  | d :: l => match D.py d, D.pys l with
    | some p, some ps => some (p :: ps)
    | _, _ => none
end

mutual
inductive Rep (K : PySem.W.Frag) (mg : Str → Option Value) (μ : List Addr) (F : Hp) : V → D → Prop
  | non : Rep K mg μ F .non .non
  | bl (b) : Rep K mg μ F (.bl b) (.bl b)
  | int (i) : Rep K mg μ F (.int i) (.int i)
  | str (s) : Rep K mg μ F (.str s) (.str s)
  | tup {a vs ds} : SqT K F a vs → Reps K mg μ F vs ds → Rep K mg μ F (.ref a) (.tup ds)
  | lst {a vs ds} : F a = some (.lst vs) → Reps K mg μ F vs ds → Rep K mg μ F (.ref a) (.lst ds)
  | fn {x f} : mg x = some (.ref f) → PySem.W.keepIn K (.ref f) = true → Rep K mg μ F (.ref f) (.fn x)
  | ptr {k a} : μ[k]? = some a → Rep K mg μ F (.ref a) (.ptr k)
  | scr {a ns} : SqL K F a (ns.map V.int) → Rep K mg μ F (.ref a) (.scr ns)
inductive Reps (K : PySem.W.Frag) (mg : Str → Option Value) (μ : List Addr) (F : Hp) : List V → List D → Prop
  | nil : Reps K mg μ F [] []
  | cons {v vs d ds} : Rep K mg μ F v d → Reps K mg μ F vs ds → Reps K mg μ F (v :: vs) (d :: ds)
end

theorem Rd.same {H H' : Hp} {a : Addr} {u : HO} (e : Same H H') (h : Rd H a u) : Rd H' a u := by
  rcases h with h | ⟨o, h⟩
  · exact .inl (e _ _ h)
  · exact .inr ⟨o, e _ _ h⟩
theorem sqL_same {K : PySem.W.Frag} {H H' : Hp} {a : Addr} {xs : List V} (e : Same H H') (h : SqL K H a xs) : SqL K H' a xs := by
  rcases h with h | h
  · exact .inl (Rd.same e h)
  · exact .inr h
theorem sqT_same {K : PySem.W.Frag} {H H' : Hp} {a : Addr} {xs : List V} (e : Same H H') (h : SqT K H a xs) : SqT K H' a xs := by
  rcases h with h | h
  · exact .inl (Rd.same e h)
  · exact .inr h
/-- the later list of addresses -/
def Pre (μ μ' : List Addr) : Prop := ∃ more, μ' = μ ++ more
theorem Pre.refl (μ : List Addr) : Pre μ μ := ⟨[], by simp⟩
theorem Pre.trans {a b c : List Addr} (h : Pre a b) (g : Pre b c) : Pre a c := by
  obtain ⟨x, rfl⟩ := h; obtain ⟨y, rfl⟩ := g
  exact ⟨x ++ y, by simp⟩
theorem Pre.get {μ μ' : List Addr} (h : Pre μ μ') {k : Nat} {a : Addr} (e : μ[k]? = some a) : μ'[k]? = some a := by
  obtain ⟨x, rfl⟩ := h
  rw [List.getElem?_append_left (List.getElem?_eq_some_iff.mp e).1]; exact e
section
variable {K : PySem.W.Frag} {mg : Str → Option Value} {μ μ' : List Addr} {F F' : Hp}
mutual
theorem Rep.mono (e : Same F F') (m : Pre μ μ') : ∀ {v : V} {d : D}, Rep K mg μ F v d → Rep K mg μ' F' v d
  | _, _, .non => .non
  | _, _, .bl b => .bl b
  | _, _, .int i => .int i
  | _, _, .str s => .str s
  | _, _, .tup h r => .tup (sqT_same e h) (Reps.mono e m r)
  | _, _, .lst h r => .lst (e _ _ h) (Reps.mono e m r)
  | _, _, .fn h k => .fn h k
  | _, _, .ptr h => .ptr (m.get h)
  | _, _, .scr h => .scr (sqL_same e h)
theorem Reps.mono (e : Same F F') (m : Pre μ μ') : ∀ {v : List V} {d : List D}, Reps K mg μ F v d → Reps K mg μ' F' v d
  | _, _, .nil => .nil
  | _, _, .cons h r => .cons (Rep.mono e m h) (Reps.mono e m r)
end
theorem Reps.length : ∀ {vs : List V} {ds : List D}, Reps K mg μ F vs ds → vs.length = ds.length
  | _, _, .nil => rfl
  | _, _, .cons _ r => by simp [Reps.length r]
theorem Reps.append : ∀ {vs us : List V} {ds es : List D}, Reps K mg μ F vs ds → Reps K mg μ F us es → Reps K mg μ F (vs ++ us) (ds ++ es)
  | _, _, _, _, .nil, s => s
  | _, _, _, _, .cons h r, s => .cons h (Reps.append r s)
theorem Reps.reverse : ∀ {vs : List V} {ds : List D}, Reps K mg μ F vs ds → Reps K mg μ F vs.reverse ds.reverse
  | _, _, .nil => .nil
  | _, _, .cons h r => by
    rw [List.reverse_cons, List.reverse_cons]
    exact Reps.append (Reps.reverse r) (.cons h .nil)
theorem Reps.get : ∀ {vs : List V} {ds : List D} {i : Nat} {d : D}, Reps K mg μ F vs ds → ds[i]? = some d → ∃ v, vs[i]? = some v ∧ Rep K mg μ F v d
  | _, _, _, _, .nil, e => by simp at e
  | _, _, 0, _, .cons h _, e => by simp at e; subst e; exact ⟨_, rfl, h⟩
  | _, _, i + 1, d, .cons _ r, e => by
    obtain ⟨v, h1, h2⟩ := Reps.get (i := i) r (by simpa using e)
    exact ⟨v, by simpa using h1, h2⟩
theorem Reps.getV : ∀ {vs : List V} {ds : List D} {i : Nat} {v : V}, Reps K mg μ F vs ds → vs[i]? = some v → ∃ d, ds[i]? = some d ∧ Rep K mg μ F v d
  | _, _, _, _, .nil, e => by simp at e
  | _, _, 0, _, .cons h _, e => by simp at e; subst e; exact ⟨_, rfl, h⟩
  | _, _, i + 1, d, .cons _ r, e => by
    obtain ⟨v, h1, h2⟩ := Reps.getV (i := i) r (by simpa using e)
    exact ⟨v, by simpa using h1, h2⟩
theorem Reps.take : ∀ {vs : List V} {ds : List D} (n : Nat), Reps K mg μ F vs ds → Reps K mg μ F (vs.take n) (ds.take n)
  | _, _, 0, _ => .nil
  | _, _, _ + 1, .nil => .nil
  | _, _, n + 1, .cons h r => .cons h (Reps.take n r)
theorem Reps.drop : ∀ {vs : List V} {ds : List D} (n : Nat), Reps K mg μ F vs ds → Reps K mg μ F (vs.drop n) (ds.drop n)
  | _, _, 0, r => r
  | _, _, _ + 1, .nil => .nil
  | _, _, n + 1, .cons _ r => Reps.drop n r
theorem Reps.ints : ∀ {vs : List V} {ns : List Int}, Reps K mg μ F vs (ns.map .int) → vs = ns.map V.int
  | _, [], .nil => rfl
  | _, n :: ns, .cons h r => by cases h; rw [Reps.ints r]; rfl
theorem Reps.bls : ∀ {vs : List V} {ns : List Bool}, Reps K mg μ F vs (ns.map .bl) → vs = ns.map V.bl
  | _, [], .nil => rfl
  | _, n :: ns, .cons h r => by cases h; rw [Reps.bls r]; rfl
theorem Reps.ofInts : ∀ ns : List Int, Reps K mg μ F (ns.map V.int) (ns.map D.int)
  | [] => .nil
  | n :: ns => .cons (.int n) (Reps.ofInts ns)
end
end SH

set_option Elab.async false
set_option linter.all false
set_option autoImplicit false
set_option maxRecDepth 100000
set_option maxHeartbeats 4000000
/-! own errors whose __init__ says super().__init__(..) and then keeps its arguments -/
namespace SH
open PySem PySem.Spec PyProof.Rows L2 LamX
open PySem.W (Frag findIn typeIn keepIn subIn mroIn nsIn alongIn codeIn clsIn ksFn ksEnv kxs_mw)
open PySem.HandSPX (refsVE excO)
section
variable {prog : Program} {w : World} {A : Around} {E : Value → Shared → Prop} {h : Heap} {g : Array GenState} {d : Drawn} {t : Nat} {os : OsState}
variable {nm q : Str} {C N : Addr} {bs bm : List Value} {hdct : Bool} {sn : List Str} {sub : List Value} {ab : Bool} {col : Option Bool} {dd : Option Addr} {k0 k1 k2 k3 k5 : Option Value}
theorem mw_call {u e t0 : Addr} {rest : List Value} {Q : Value → Shared → Prop} (hC : h.get? C = some (excClassObj nm q C N bs bm hdct sn sub ab col dd k0 k1 k2 k3 k5 "ValueError.__new__")) (he : h.get? e = some (excO C t0)) (hu : h.get? u = some (kxs_mw "ValueError.__init__" e)) (hz : rest.length ≤ sizeLine)
    (hq : ∀ h' t1, (∀ b o, b ≠ e → h.get? b = some o → h'.get? b = some o) → h'.get? e = some (excO C t1) → Q .none ⟨h', g, d, t, os⟩) :
    wpAny (model prog w) A (call (.ref u) rest) Q E ⟨h, g, d, t, os⟩ := by
  refine wpAny_call (codeAny_of_tree ?_); show wpAny _ A.in1 (callAny (.ref u) ⟨rest, []⟩) _ _ _; simp only [callAny]; refine wpAny_bind (wpAny_load hu ?_)
  have c1 : (Value.type "method-wrapper" == Value.type "method" || Value.type "method-wrapper" == Value.type "builtin_function_or_method" || Value.type "method-wrapper" == Value.type "method-wrapper") = true := by decide
  simp only [kxs_mw, c1, if_true]
  refine PySem.W.KFB.if_so (by decide) (wpAny_bind (PySem.W.check_bound_init F.excBase_ValueError.toExcCallFacts hC he rfl (wpAny_bind (wpAny_pure (wpAny_pure ⟨plainId_quiet F.excBase_ValueError.init.plain _, codeAny_builtin F.excBase_ValueError.initEntry ?_⟩)))))
  exact PySem.W.exc_init_tree (cls := .ref C) (t0 := t0) (dv := none) (c2 := .none) (c3 := .none) (b4 := .bool false) he hz fun h' k e1 _ => hq h' _ k e1
end
/-! ### the text of such an __init__ -/
inductive Names : List Str → List Expr → Prop
  | nil : Names [] []
  | cons {f : Str} {fs : List Str} {l : List Expr} {p : Pos} : Names fs l → Names (f :: fs) (.Name f p :: l)
inductive Sets : List Str → List Stmt → Prop
  | nil : Sets [] []
  | cons {f : Str} {fs : List Str} {l : List Stmt} {p1 p2 p3 p4 : Pos} : Sets fs l → Sets (f :: fs) (.Assign [.Attribute (.Name "self" p1) f p2] (.Name f p3) p4 :: l)
/-- what the dict tells behind the assignments -/
def putM : List (Str × Value) → (Str → Option Value) → Str → Option Value
  | [], m => m
  | (f, v) :: l, m => putM l (fun y => if y = f then some v else m y)
def SuperEv (q : Str) (scope : Scope) (fI cda cc : Addr) (args : List Expr) (p0 p1 p2 p3 : Pos) : Prop := ∀ L : Addr, ∃ pl : Sem Bool, eval (.Call (.Attribute (.Call (.Name "super" p0) [] [] p1) "__init__" p2) args [] p3) (ksEnv q scope L fI (.ref cda) cc) = (do
      let ov ← attributeBase (.Call (.Name "super" p0) [] [] p1) "__init__" (ksEnv q scope L fI (.ref cda) cc) (eval (.Call (.Name "super" p0) [] [] p1) (ksEnv q scope L fI (.ref cda) cc))
      standAt p2.atName
      let (f, first) ← holding [ov] (getMethod ov "__init__" pl)
      callWith p3 f first (backTo p3 (starEach args (ksEnv q scope L fI (.ref cda) cc))) [])
structure ExC (P : Program) (K : Frag) (mg : Str → Option Value) (cn : Str) (fs : List Str) (C fI cc cda : Addr) : Prop where
  gC : mg cn = some (.ref C)
  kC : keepIn K (.ref C) = true
  cls : ∃ nm q N bs bm sn sub ab col dd k0 k1 k2 k3 k5, K.lookup C = some (excClassObj nm q C N bs bm true sn sub ab col dd k0 k1 k2 k3 k5 "ValueError.__new__") ∧ refsVE bm = true ∧ alongIn K "__init__" bm = some (some (.builtin "ValueError.__init__"))
  sa : findIn K (.ref C) "__setattr__" = some (some (.builtin "object.__setattr__"))
  noF : ∀ f ∈ fs, findIn K (.ref C) f = some none
  iC : findIn K (.ref C) "__init__" = some (some (.ref fI))
  tC : typeIn K (.ref fI) = some (.type "function")
  exC : subIn K (.ref C) (.type "BaseException") = some true
  tyC : typeIn K (.ref C) = some (.type "type")
  sbV : subIn K (.ref C) (.type "ValueError") = some true
  sbC : mroIn K C (.ref C) = some true
  op : nsIn K cStatics "thirdparty.any" = some none
  code : ∃ ccl cdd vs ccs file tf, K.lookup cda = some ⟨ccl, cdd, .fields vs, ccs⟩ ∧ vs[2]? = some (.str file tf) ∧ ((P.main.file : Str) == file) = true
  cell : ∃ cl cld csl, K.lookup cc = some ⟨cl, cld, .cell (some (.ref C)), csl⟩
  noS : mg "super" = none
  top : (P.main.scope.names.lookup ("super" : Str)).isSome = false
  short : fs.length ≤ 100
  nself : ∀ f ∈ fs, (f == ("__debug__" : Str)) = false
  fn : ∃ (oc : Value) (od : Option Addr) (q : Str) (params : Arguments) (body : List Stmt) (scope : Scope) (doc pm : Value) (an : Option Addr) (ct : Value) (osl : Array (Option Value)) (ar : Arg) (args : List Expr) (sets : List Stmt) (p0 p1 p2 p3 p4 : Pos),
    K.lookup fI = some ⟨oc, od, .func (ksFn "__init__" q params body scope .none .none doc pm an (.ref cda) ct cc), osl⟩ ∧ codeIn K (.ref cda) q = true ∧ (params.posonlyargs ++ params.args).head? = some ar ∧ ar.arg = "self" ∧
    (∀ (s : Shared) (x : Value) (vs : List Value), vs.length = fs.length → BindsTo s (ksFn "__init__" q params body scope .none .none doc pm an (.ref cda) ct cc) ⟨x :: vs, []⟩ ((("self" : Str), x) :: fs.zip vs)) ∧
    body = .Expr (.Call (.Attribute (.Call (.Name "super" p0) [] [] p1) "__init__" p2) args [] p3) p4 :: sets ∧ Names fs args ∧ Sets fs sets ∧ fs ≠ [] ∧ SuperEv q scope fI cda cc args p0 p1 p2 p3 ∧
    scope.kind = .function ∧ scope.isGenerator = false ∧ scope.isCoroutine = false ∧ (∀ x ∈ scope.names, x.2 ≠ .cell) ∧ (∀ f ∈ ("self" : Str) :: fs, scope.names.lookup f = some .local) ∧ scope.names.lookup ("super" : Str) = some .globalImplicit ∧ scope.names.lookup ("__class__" : Str) = some .free ∧ (("self" : Str) :: fs).Nodup
section
variable {prog : Program} {w : World} {M : Model} {A : Around} {E : Value → Shared → Prop} {s : Shared} {env : Env} {m : Str → Option Value}
/-- the arguments' names, read -/
theorem names_run (hn : s.heap.Ns env.locals m) (hk : env.scope.kind = .function) {pos : Pos} : ∀ {fs : List Str} {args : List Expr} {vs : List Value} {Q : List Value → Shared → Prop}, Names fs args → (∀ f ∈ fs, env.kindOf f = some .local ∧ (f == ("__debug__" : Str)) = false) → vs.length = fs.length → (∀ p ∈ fs.zip vs, m p.1 = some p.2) → Q vs s →
    wpAny M A (spliced (backTo pos (starEach args env))) Q E s
  | [], _, [], Q, .nil, _, _, _, h => Calls.spliced_nil h
  | f :: fs, _, v :: vs, Q, .cons (l := l) (p := p) r, hl, he, hm, h => by
    show wpAny _ _ (spliced ((false, eval (.Name f p) env) :: backTo pos (starEach l env))) _ _ s
    refine Calls.spliced_cons (wpAny_Name (wpAny_loadName_local hk (hl f List.mem_cons_self).1 hn (hm (f, v) List.mem_cons_self) ?_) (hl f List.mem_cons_self).2)
    exact names_run hn hk r (fun g hg => hl g (List.mem_cons_of_mem _ hg)) (by simpa using he) (fun p hp => hm p (List.mem_cons_of_mem _ hp)) h
  | [], _, _ :: _, _, _, _, he, _, _ => by simp at he
  | _ :: _, _, [], _, _, _, he, _, _ => by simp at he
theorem kin_but {K : Frag} {h h' : Heap} {x : Addr} (X : K.In h) (hx : K.lookup x = none) (k : ∀ b o, b ≠ x → h.get? b = some o → h'.get? b = some o) : K.In h' := fun a o e => k a o (fun z => by rw [z, hx] at e; cases e) (X a o e)
/-- further fields -/
theorem sets_old {K : Frag} {x C dx : Addr} {fv : Array Value} {cd : ClassData} (hcd : clsIn K C = some cd) (hm : refsVE cd.mro = true) (hh : cd.hasDict = true) (hsa : findIn K (.ref C) "__setattr__" = some (some (.builtin "object.__setattr__"))) (kdx : K.lookup dx = none) (hk : env.scope.kind = .function)
    (hself : env.kindOf "self" = some .local) (ms : m "self" = some (.ref x)) (hL : env.locals ≠ dx) (hxd : x ≠ dx) : ∀ {fs : List Str} {sets : List Stmt} {vs : List Value} {m0 : Str → Option Value} {nl : List Str} {s : Shared} {Q : Flow → Shared → Prop}, Sets fs sets → (∀ f ∈ fs, env.kindOf f = some .local ∧ (f == ("__debug__" : Str)) = false ∧ findIn K (.ref C) f = some none) →
    vs.length = fs.length → (∀ p ∈ fs.zip vs, m p.1 = some p.2) → K.In s.heap → s.heap.get? x = some { cls := .ref C, dict := some dx, data := .fields fv } → s.heap.Ns1 dx m0 → Within m0 nl → nl.length + fs.length ≤ 1000 → s.heap.Ns env.locals m →
    (∀ h' tk, (∀ b o, b ≠ dx → s.heap.get? b = some o → h'.get? b = some o) → h'.Ns1 dx (putM (fs.zip vs) m0) → Q .next { s with heap := h', toks := tk }) → wpAny (model prog w) A (PySem.execs sets env) Q E s
  | [], _, [], m0, nl, s, Q, .nil, _, _, _, _, _, hns, _, _, _, h => wpAny_execs_nil (h s.heap s.toks (fun _ _ _ e => e) hns)
  | f :: fs, _, v :: vs, m0, nl, s, Q, .cons (l := l) (p1 := p1) (p2 := p2) (p3 := p3) (p4 := p4) r, hl, he, hmm, X, hx, hns, hw, hz, hn, h => by
    obtain ⟨l1, l2, l3⟩ := hl f List.mem_cons_self
    refine wpAny_execs_cons (plainObj_wpAny_Assign_Attribute (wpAny_Name (wpAny_loadName_local hk l1 hn (hmm (f, v) List.mem_cons_self) (wpAny_Name (wpAny_loadName_local hk hself hn ms ?_) (by decide))) l2))
    obtain ⟨oD, esD, epD, hoD, hdD, _⟩ := hns.count hw
    refine PySem.W.set_plain X (ox := { cls := .ref C, dict := some dx, data := .fields fv }) (od := some oD) ⟨hx, rfl, rfl, hoD⟩ hsa ?_
    obtain ⟨hp, g, d, t, os⟩ := s
    simp only [List.length_cons] at hz
    refine PySem.OEX.osa_old X hx hns hw (by omega) hcd hm hh l3 fun h1 tk1 k1 n1 => ?_
    have X1 := kin_but X kdx k1
    refine sets_old hcd hm hh hsa kdx hk hself ms hL hxd (nl := f :: nl) (s := ⟨h1, g, d, tk1, os⟩) r (fun g hg => hl g (List.mem_cons_of_mem _ hg)) (by simpa using he) (fun p hp => hmm p (List.mem_cons_of_mem _ hp)) X1 (k1 _ _ hxd hx) n1 (Within.cons f v hw) (by simp only [List.length_cons]; omega) (hn.at fun o e => k1 _ _ hL e) fun h2 tk2 k2 n2 => ?_
    exact h h2 tk2 (fun b o hb e => k2 b o hb (k1 b o hb e)) n2
  | [], _, _ :: _, _, _, _, _, _, _, he, _, _, _, _, _, _, _, _ => by simp at he
  | _ :: _, _, [], _, _, _, _, _, _, he, _, _, _, _, _, _, _, _ => by simp at he
theorem names_plain {pos : Pos} : ∀ {fs : List Str} {args : List Expr}, Names fs args → (backTo pos (starEach args env)).any (·.1) = false
  | _, _, .nil => rfl
  | _, _, .cons (f := f) (l := l) (p := p) r => by
    show ((false, eval (.Name f p) env) :: backTo pos (starEach l env)).any (·.1) = false
    rw [List.any_cons, names_plain r]; rfl
/-- what __init__ leaves of a new error at x -/
structure InitEnd (h h' : Heap) (x C dx : Addr) (m : Str → Option Value) : Prop where
  keep : ∀ b o, b ≠ x → h.get? b = some o → h'.get? b = some o
  obj : ∃ t1 : Addr, h'.get? x = some { cls := .ref C, dict := some dx, data := .fields #[.ref t1, .none, .none, .none, .bool false, .none] }
  dbig : h.objs.size ≤ dx
  dne : dx ≠ x
  ns : h'.Ns1 dx m
theorem boot_super : bootBuiltins "super" = some (.type "super") := by decide +kernel
theorem zip_look : ∀ {fs : List Str} {vs : List Value}, fs.Nodup → ∀ p ∈ fs.zip vs, (fs.zip vs).reverse.lookup p.1 = some p.2
  | [], _, _, p, hp => by cases hp
  | _ :: _, [], _, p, hp => by cases hp
  | f :: fs, v :: vs, hn, p, hp => by
    rw [List.nodup_cons] at hn
    rw [List.zip_cons_cons, List.reverse_cons, List.lookup_append]
    rcases List.mem_cons.mp hp with e | hp'
    · subst e
      have : (fs.zip vs).reverse.lookup f = none := by
        rw [List.lookup_eq_none_iff]
        intro q hq
        have := (List.of_mem_zip (List.mem_reverse.mp hq)).1
        have ne : f ≠ q.1 := fun z => hn.1 (z ▸ this)
        simpa using ne
      rw [this]
      simp [List.lookup]
    · rw [zip_look hn.2 p hp']; rfl
theorem drop_self (C : Addr) (l : List Value) : ((Value.ref C :: l).dropWhile (fun y => y != Value.ref C)).drop 1 = l := by
  have e : (Value.ref C != Value.ref C) = false := by simp
  rw [List.dropWhile_cons, e]; rfl
theorem exc_init {P : Program} {K : Frag} {mg : Str → Option Value} {base : Heap} {cn : Str} {fs : List Str} {C fI cc cda x t0 : Addr} {vs : List Value} {R : Result → Shared → Prop} {s : Shared} (T : ExC P K mg cn fs C fI cc cda) (Mo : Mod K mg base) (hb : ∀ b o, base.get? b = some o → s.heap.get? b = some o)
    (hlim : s.heap.NoLimit) (hx : s.heap.get? x = some (excO C t0)) (kx : K.lookup x = none) (hroom : A.depth < recursionLimit) (hv : vs.length = fs.length) (hq : ∀ h' tk dx, InitEnd s.heap h' x C dx (putM (fs.zip vs) fun _ => none) → R (.ok (.ret .none)) { s with heap := h', toks := tk }) :
    codeAny (model P w) A (.call (.ref fI) ⟨.ref x :: vs, []⟩) R s := by
  obtain ⟨oc, od, q, params, body, scope, doc, pm, an, ct, osl, ar, args, sets, p0, p1, p2, p3, p4, lk, hcd, hhd, har, hbd, hbo, hna, hse, hne, hsev, hki, hge, hco, hce, hlo, hsu, hfr, hnd⟩ := T.fn
  obtain ⟨nm, q', N, bs, bm, sn, sub, ab, col, dd, k0, k1, k2, k3, k5, hC, hve, hal⟩ := T.cls
  obtain ⟨ccl, cdd, cvs, ccs, file, tf, hco', hcv, hfi⟩ := T.code
  obtain ⟨cl, cld, csl, hcell⟩ := T.cell
  obtain ⟨mb, b1, b2⟩ := Mo.blt
  have hcl : clsIn K C = some { name := nm, bases := bs, mro := .ref C :: bm, ns := N, qualname := q', hasDict := true, slotNames := sn, subclasses := sub, abstract := ab, collection := col, hasDel := false } := by unfold clsIn; rw [hC] <;> rfl
  have X : K.In s.heap := Mo.kin.keeps hb
  have hsz := T.short
  refine ks_codeAny_call_defAt (fd := ksFn "__init__" q params body scope .none .none doc pm an (.ref cda) ct cc) (body := body) (binds := (("self" : Str), .ref x) :: fs.zip vs) hroom (X _ _ lk) rfl hlim (PySem.W.codeRec_of X hcd) rfl (hbd s _ vs hv) hce (fun y hy => ?_) (fun h₁ hns hk₁ => ?_) hco hge hki
  · rcases List.mem_cons.mp hy with e | hy
    · rw [e]; exact hlo _ List.mem_cons_self
    · exact hlo _ (List.mem_cons_of_mem _ (List.of_mem_zip hy).1)
  have X₁ : K.In h₁ := X.keeps hk₁
  have hx₁ := hk₁ _ _ hx
  have hD : h₁.get? C = some _ := X₁ _ _ hC
  have nd2 := List.nodup_cons.mp hnd
  have ms : ((("self" : Str), Value.ref x) :: fs.zip vs).reverse.lookup ("self" : Str) = some (.ref x) := by
    rw [List.reverse_cons, List.lookup_append]
    have : (fs.zip vs).reverse.lookup ("self" : Str) = none := by
      rw [List.lookup_eq_none_iff]
      intro y hy
      have := (List.of_mem_zip (List.mem_reverse.mp hy)).1
      have ne : ("self" : Str) ≠ y.1 := fun z => nd2.1 (z ▸ this)
      simpa using ne
    rw [this]
    simp [List.lookup]
  have mf : ∀ p ∈ fs.zip vs, ((("self" : Str), Value.ref x) :: fs.zip vs).reverse.lookup p.1 = some p.2 := fun p hp => by
    rw [List.reverse_cons, List.lookup_append, zip_look nd2.2 p hp]; rfl
  subst hbo
  obtain ⟨pl, hev⟩ := hsev s.heap.objs.size
  refine ks_wpAt_execs_cons (ks_wpAt_Expr_any (ks_wpAt_MethodCall (pl := pl) ?_ hev) (hi := by unfold interactive; rw [show (callEnv (ksFn "__init__" q params _ scope .none .none doc pm an (.ref cda) ct cc) s.heap.objs.size fI).scope.kind = .function from hki]; rfl))
  refine ks_wpAt_super_base (env := ksEnv q scope s.heap.objs.size fI (.ref cda) cc) hsu hfr (by decide) rfl (X₁ _ _ lk) rfl hhd rfl (X₁ _ _ hco') rfl hcv hfi T.top ?_
  refine PySem.W.ks_loadName_global hki hsu (Calls.loadGlobal_builtin (Mo.glob.keeps fun b o e => hk₁ b o (hb b o e)) T.noS (b1.keeps fun b o e => hk₁ b o (hb b o e)) ((b2 _ (by decide)).trans boot_super) ⟨rfl, ?_⟩)
  refine wpAny_loadName_free hki hfr rfl ⟨_, X₁ _ _ hcell, rfl⟩ ?_
  rw [har]
  refine wpAny_loadName_local hki (hlo _ List.mem_cons_self) hns ms ?_
  have noc : ∀ c, (excO C t0).data ≠ .cls c := fun c z => by cases z
  refine PySem.ks_wpAny_isType_cls hD rfl ⟨rfl, ?_⟩
  refine PySem.ks_wpAny_call_super hD rfl hx₁ rfl noc (PySem.W.looks_mroIn X₁ T.sbC) (fun h₂ e₂ k₂ => ?_)
  have X₂ : K.In h₂ := X₁.keeps k₂
  have hx₂ := k₂ _ _ hx₁
  have I₂ : PySem.W.InstAt h₂ x (excO C t0) C none := ⟨hx₂, rfl, rfl, trivial⟩
  refine PySem.W.kxs_getMethod (i := "ValueError.__init__") (B := "ValueError") (l₀ := .ref C :: bm) (l := bm) PySem.W.kxs_ValueError e₂ (PySem.W.looks_opaque X₂ T.op) ?_ (drop_self C bm) X₂ hal (I₂.type.andThen (PySem.W.looks_subIn X₂ T.sbV)) (PySem.W.ks_ne X₂ I₂ hcl) (by decide) ?_
  · exact (PySem.W.looks_clsIn X₂ hcl).andThen .now
  have hxL : s.heap.objs.size ≠ x := Nat.ne_of_gt (Heap.lt_size hx)
  have kp : ∀ b o, h₂.get? b = some o → (h₂.push (kxs_mw "ValueError.__init__" x)).get? b = some o := fun b o e => Heap.get?_push_of_some _ e
  have n₂ := (hns.keeps k₂).keeps kp
  have hloc : ∀ f ∈ fs, (ksEnv q scope s.heap.objs.size fI (.ref cda) cc).kindOf f = some .local ∧ (f == ("__debug__" : Str)) = false := fun f hf => ⟨hlo f (List.mem_cons_of_mem _ hf), T.nself f hf⟩
  refine PySem.W.kxs_callWith (i := "ValueError.__init__") (x := x) (first := []) (names_plain hna) ?_
  cases hna with
  | nil => exact absurd rfl hne
  | cons r =>
    rename_i f fs' l p
    refine Calls.evalArgs_plain (x := eval (.Name f p) (ksEnv q scope s.heap.objs.size fI (.ref cda) cc)) (rest := backTo p3 (starEach l (ksEnv q scope s.heap.objs.size fI (.ref cda) cc))) ?_
    refine names_run (env := ksEnv q scope s.heap.objs.size fI (.ref cda) cc) (pos := p3) (vs := vs) n₂ hki (.cons (p := p) r) hloc hv mf ⟨Heap.get?_push_at rfl rfl, ?_⟩
    refine mw_call (t0 := t0) (kp _ _ (X₂ _ _ hC)) (kp _ _ hx₂) (Heap.get?_push_at rfl rfl) (by rw [List.nil_append, hv, sizeLine_eq]; omega) fun h₃ t1 k₃ e₃ => ?_
    refine wpAt_of_wpAny ?_
    have X₃ : K.In h₃ := kin_but (X₂.keeps kp) kx k₃
    have n₃ := n₂.at fun o e => k₃ _ o hxL e
    cases hse with
    | cons r2 =>
      rename_i l2 q1 q2 q3 q4
      cases vs with
      | nil => simp at hv
      | cons v vs =>
        obtain ⟨l1, l2'⟩ := hloc f List.mem_cons_self
        refine wpAny_execs_cons (plainObj_wpAny_Assign_Attribute (wpAny_Name (wpAny_loadName_local hki l1 n₃ (mf (f, v) List.mem_cons_self) (wpAny_Name (wpAny_loadName_local hki (hlo _ List.mem_cons_self) n₃ ms ?_) (by decide))) l2'))
        refine PySem.W.set_plain X₃ (ox := excO C t1) (od := none) ⟨e₃, rfl, rfl, trivial⟩ T.sa ?_
        refine PySem.HandSPX.exc_osa X₃ e₃ hcl (show refsVE (.ref C :: bm) = true from hve) rfl (T.noF f List.mem_cons_self) fun h₄ tk₄ dx k₄ dn dne hx₄ hn₄ => ?_
        have lt3 : s.heap.objs.size < h₃.objs.size := n₃.lt
        have kdx : K.lookup dx = none := by
          cases e : K.lookup dx with
          | none => rfl
          | some o => exact absurd (Heap.lt_size (X₃ _ _ e)) (Nat.not_lt_of_le dn)
        have hLd : s.heap.objs.size ≠ dx := Nat.ne_of_lt (Nat.lt_of_lt_of_le lt3 dn)
        simp only [List.length_cons] at hsz hv
        refine sets_old (env := ksEnv q scope s.heap.objs.size fI (.ref cda) cc) (nl := [f]) (vs := vs) (m0 := fun y => if y = f then some v else none) (s := ⟨h₄, _, _, tk₄, _⟩) hcl (show refsVE (.ref C :: bm) = true from hve) rfl T.sa kdx hki (hlo _ List.mem_cons_self) ms hLd (Ne.symm dne) r2
          (fun g hg => ⟨(hloc g (List.mem_cons_of_mem _ hg)).1, (hloc g (List.mem_cons_of_mem _ hg)).2, T.noF g (List.mem_cons_of_mem _ hg)⟩) (by omega) (fun p hp => mf p (List.mem_cons_of_mem _ hp)) (kin_but X₃ kx k₄) hx₄ hn₄ (Within.cons f v Within.nil) (by simp only [List.length_cons, List.length_nil]; omega) (n₃.at fun o e => k₄ _ o hxL e) fun h₅ tk₅ k₅ n₅ => ?_
        refine hq h₅ tk₅ dx ⟨fun b o hbx e => ?_, ⟨t1, k₅ _ _ (Ne.symm dne) hx₄⟩, Nat.le_of_lt (Nat.lt_of_lt_of_le lt3 dn), dne, n₅⟩
        have hbd : b ≠ dx := Nat.ne_of_lt (Nat.lt_of_lt_of_le (Nat.lt_trans (Heap.lt_size e) lt3) dn)
        exact k₅ b o hbd (k₄ b o hbx (k₃ b o hbx (kp b o (k₂ b o (hk₁ b o e)))))
end
end SH

set_option Elab.async false
set_option linter.all false
set_option autoImplicit false
set_option maxRecDepth 100000
set_option maxHeartbeats 4000000
/-! own errors, made and raised -/
namespace SH
open PySem PySem.Spec PyProof.Rows L2 LamX
open PySem.W (Frag findIn typeIn keepIn subIn mroIn nsIn alongIn codeIn clsIn ksFn ksEnv kxs_mw)
open PySem.HandSPX (refsVE excO)
theorem putM_none : ∀ {fs : List Str} {us : List Value} {m : Str → Option Value} {y : Str}, y ∉ fs → putM (fs.zip us) m y = m y
  | [], _, _, _, _ => rfl
  | _ :: _, [], _, _, _ => rfl
  | f :: fs, u :: us, m, y, h => by
    rw [List.zip_cons_cons]
    show putM (fs.zip us) (fun z => if z = f then some u else m z) y = m y
    rw [putM_none (fun z => h (List.mem_cons_of_mem _ z)), if_neg (fun (z : y = f) => h (by rw [z]; exact List.mem_cons_self))]
theorem relO_putM : ∀ {fs : List Str} {vs : List V} {us : List Value}, fs.Nodup → Vals vs us → ∀ y, RelO ((fs.zip vs).lookup y) (putM (fs.zip us) (fun _ => none) y)
  | [], _, _, _, _, y => trivial
  | _ :: _, _, _, _, .nil, y => trivial
  | f :: fs, _, _, hn, .cons (a := v) (b := u) (l₁ := vs) (l₂ := us) r rs, y => by
    rw [List.nodup_cons] at hn
    rw [List.zip_cons_cons, List.zip_cons_cons, List.lookup_cons]
    show RelO _ (putM (fs.zip us) (fun z => if z = f then some u else none) y)
    by_cases e : y = f
    · subst e
      rw [putM_none hn.1, if_pos rfl, beq_self_eq_true]
      exact r
    · have e' : (y == f) = false := by simpa using e
      rw [e']
      have key : ∀ (l : List Str) (us : List Value) (m m' : Str → Option Value), m y = m' y → putM (l.zip us) m y = putM (l.zip us) m' y := by
        intro l
        induction l with
        | nil => intro us m m' h; exact h
        | cons a l ih =>
          intro us m m' h
          cases us with
          | nil => exact h
          | cons b us =>
            refine ih us _ _ ?_
            show (if y = a then some b else m y) = (if y = a then some b else m' y)
            rw [h]
      rw [key fs us _ (fun _ => none) (if_neg e)]
      exact relO_putM hn.2 rs y
section
variable {prog : Program} {w : World} {A : Around} {E : Value → Shared → Prop} {R : Result → Shared → Prop} {s : Shared}
structure OwnMade (h h' : Heap) (e C d : Addr) (m : Str → Option Value) : Prop where
  keep : ∀ b o, h.get? b = some o → h'.get? b = some o
  new : h.objs.size ≤ e
  obj : ∃ oe vs, h'.get? e = some oe ∧ oe.cls = .ref C ∧ oe.dict = some d ∧ oe.data = .fields vs ∧ vs[1]? = some .none
  dbig : h.objs.size ≤ d
  dne : d ≠ e
  ns : h'.Ns1 d m
theorem exc_made {P : Program} {K : Frag} {mg : Str → Option Value} {base : Heap} {cn : Str} {fs : List Str} {C fI cc cda : Addr} {vs : List Value} (T : ExC P K mg cn fs C fI cc cda) (Mo : Mod K mg base) (hb : ∀ b o, base.get? b = some o → s.heap.get? b = some o) (hlim : s.heap.NoLimit) (hroom : A.depth + 1 < recursionLimit) (hv : vs.length = fs.length)
    (hq : ∀ h' tk e d, OwnMade s.heap h' e C d (putM (fs.zip vs) fun _ => none) → R (.ok (.ret (.ref e))) { s with heap := h', toks := tk }) : codeAny (model P w) A (.call (.ref C) ⟨vs, []⟩) R s := by
  obtain ⟨nm, q, N, bs, bm, sn, sub, ab, col, dd, k0, k1, k2, k3, k5, hC, hve, _⟩ := T.cls
  have hsz := T.short
  obtain ⟨hp, g, dr, tk, os⟩ := s
  have X : K.In hp := Mo.kin.keeps hb
  have k : ∀ b o, hp.get? b = some o → ((hp.push (PySem.W.kdv_tup vs)).push (excO C hp.objs.size)).get? b = some o := fun b o e => Heap.get?_push_of_some _ (Heap.get?_push_of_some _ e)
  have hget : ((hp.push (PySem.W.kdv_tup vs)).push (excO C hp.objs.size)).get? (hp.objs.size + 1) = some (excO C hp.objs.size) := by heap_get
  have kx : K.lookup (hp.objs.size + 1) = none := by
    cases e : K.lookup (hp.objs.size + 1) with
    | none => rfl
    | some o => exact absurd (Nat.lt_of_succ_lt (Heap.lt_size (show hp.get? _ = some o from X _ _ e))) (Nat.lt_irrefl _)
  refine PySem.HandSPX.call_own F.excBase_ValueError (fun X => PySem.HandSPX.refsVE_contains X bm hve) (X _ _ hC) (PySem.W.looks_findIn X T.iC) (fun self => PySem.W.bind_fn X self T.tC) (by rw [hv, sizeLine_eq]; omega) ?_
  refine exc_init (s := ⟨(hp.push (PySem.W.kdv_tup vs)).push (excO C hp.objs.size), g, dr, tk, os⟩) T Mo (fun b o e => k b o (hb b o e)) (hlim.keeps k) hget kx ?_ hv fun h' tk' dx z => ?_
  · exact hroom
  · obtain ⟨t1, ho⟩ := z.obj
    have y : hp.objs.size + 1 + 1 ≤ dx := by
      have := z.dbig
      rw [Heap.size_push, Heap.size_push] at this
      exact this
    exact ⟨rfl, hq h' tk' (hp.objs.size + 1) dx ⟨fun b o e => z.keep b o (Nat.ne_of_lt (Nat.lt_succ_of_lt (Heap.lt_size e))) (k b o e), Nat.le_succ _, ⟨_, _, ho, rfl, rfl, rfl, rfl⟩, Nat.le_trans (Nat.le_trans (Nat.le_succ _) (Nat.le_succ _)) y, z.dne, z.ns⟩⟩
variable {X : Cx}
def tMkE (fs : List Str) (C : Addr) (ta : TA) : L2.St → Hp → XK → Prop := fun σ H Q => ta σ H fun vs H1 => vs.length = fs.length ∧ ∀ d, H1 d = none → Q (.ref C) (some d) (upd H1 d (.xd (fs.zip vs)))
/-- C(e, ..) -/
theorem pmk_exc {cn : Str} {fs : List Str} {C fI cc cda : Addr} {e : Expr} {es : List Expr} {ta : TA} {p pos : Pos} {k : Nat} (T : ExC X.prog X.K X.mg cn fs C fI cc cda) (hr : Room k X.A) (hfn : fs.Nodup) (ha : PA X (e :: es) ta) (hg : Gl X cn) (hdb : (cn == ("__debug__" : Str)) = false)
    (he : starEach (e :: es) X.env = (false, eval e X.env) :: starEach es X.env) (hpl : (backTo pos (starEach es X.env)).any (·.1) = false) : PMk X (.Call (.Name cn p) (e :: es) [] pos) (tMkE fs C ta) := by
  intro pins s σ H Q I h
  refine wpAny_Call_Name_kw (ld_glob I hg T.gC ?_ hdb)
  refine PySem.W.callWith_K (h₀ := X.base) I.ok.mod.kin T.kC (thn (ha.run pos pins s σ H _ I h) fun us s1 hh => ?_) he hpl
  obtain ⟨vs, H1, I1, r1, hl, q1⟩ := hh
  refine ⟨I1.kIn, ?_⟩
  have hlu : us.length = fs.length := r1.length.symm.trans hl
  have hlim := I1.nolimit
  have hbk : ∀ b o, X.base.get? b = some o → s1.heap.get? b = some o := I1.bk
  obtain ⟨hp, g, dr, tk, os⟩ := s1
  refine wpAny_call (exc_made T I1.mod hbk hlim (by have := hr.dp; omega) hlu fun h' tk' e d M => ?_)
  show MkP X pins σ Q (.ref e) ⟨h', g, dr, tk', os⟩
  obtain ⟨oe, fv, hoe, hc, hd, hdat, h1⟩ := M.obj
  obtain ⟨G', g1, g2⟩ := restrict h' fun b => decide (b ≠ e)
  have gk : ∀ b, b ≠ e → G'.get? b = h'.get? b := fun b hb => g1 b (decide_eq_true hb)
  have ge : G'.get? e = none := g2 e (by simp)
  have old : ∀ b o, hp.get? b = some o → G'.get? b = some o := fun b o q => (gk b (Nat.ne_of_lt (Nat.lt_of_lt_of_le (Heap.lt_size q) M.new))).trans (M.keep b o q)
  have ob : ObjOk X.prog X.w (upd H1 d (.xd (fs.zip vs))) G' d (.xd (fs.zip vs)) := ⟨_, M.ns.at (fun o q => (gk d M.dne).trans q), fun f => relO_putM hfn r1 f⟩
  have J : Inv X pins σ (upd H1 d (.xd (fs.zip vs))) ⟨G', g, dr, tk', os⟩ := I1.laid (t' := tk') old M.dbig ob
  refine ⟨e, oe, fv, ⟨G', g, dr, tk', os⟩, _, .ref C, some d, rfl, J, fun b o q => ?_, ge, hoe, ⟨hc, hd⟩, hdat, h1, ?_, rfl, I1.bare, raises_own T.exC T.tyC, q1 d (I1.hok.fresh M.dbig)⟩
  · by_cases hb : b = e
    · exact absurd (show G'.get? b = some o from q) (by rw [hb, ge]; exact fun z => nomatch z)
    · exact (gk b hb).symm.trans q
  · rw [upd_ne (Ne.symm M.dne)]; exact I1.hok.fresh M.new
end
end SH

set_option Elab.async false
set_option linter.all false
set_option maxRecDepth 100000
set_option maxHeartbeats 4000000
namespace SH
open PySem PySem.Spec PyProof.Rows L2
section
variable {X : Cx} {pins : List (Addr × Obj)} {σ : L2.St} {H : Hp} {s : Shared} {mg : Str → Option Value} {μ : List Addr} {F : Hp}
mutual
theorem Rep.reads (I : Inv X pins σ H s) (e : Same F H) : ∀ {v : V} {d : D} {u : Value} {p : PyData}, Rep X.K mg μ F v d → RelV v u → d.py = some p → ∃ as, Reads s.heap u p as
  | _, _, _, _, .non, r, h => by cases h; cases r; exact ⟨_, .none⟩
  | _, _, _, _, .bl b, r, h => by cases h; cases r; exact ⟨_, .bool b⟩
  | _, _, _, _, .int i, r, h => by cases h; obtain ⟨t, rfl⟩ := r; exact ⟨_, .int i t⟩
  | _, _, _, _, .str i, r, h => by cases h; obtain ⟨t, rfl⟩ := r; exact ⟨_, .str i t⟩
  | _, _, _, _, .tup (ds := ds) q rs, r, h => by
    cases r
    unfold D.py at h
    cases hp : D.pys ds with
    | none => rw [hp] at h; cases h
    | some ps =>
      rw [hp] at h; cases h
      obtain ⟨its, hv, ht, _⟩ := I.tuple (sqT_same e q)
      obtain ⟨as, ra⟩ := Reps.reads I e rs hv hp
      obtain ⟨o, ho, hc, n, hd⟩ := ht
      exact ⟨_, .tuple ho hc hd (by simpa using ra)⟩
  | _, _, _, _, .lst (ds := ds) q rs, r, h => by
    cases r
    unfold D.py at h
    cases hp : D.pys ds with
    | none => rw [hp] at h; cases h
    | some ps =>
      rw [hp] at h; cases h
      obtain ⟨its, hv, ht, _⟩ := I.list (SqL.of (e _ _ q))
      obtain ⟨as, ra⟩ := Reps.reads I e rs hv hp
      obtain ⟨o, n, ho, hc, _, hd⟩ := ht
      exact ⟨_, .list ho hc hd (by simpa using ra)⟩
  | _, _, _, _, .fn _ _, _, h => by cases h
  | _, _, _, _, .ptr _, _, h => by cases h
  | _, _, _, _, .scr _, _, h => by cases h
theorem Reps.reads (I : Inv X pins σ H s) (e : Same F H) : ∀ {vs : List V} {ds : List D} {us : List Value} {ps : List PyData}, Reps X.K mg μ F vs ds → Vals vs us → D.pys ds = some ps → ∃ as, ReadsAll s.heap us ps as
  | _, _, _, _, .nil, .nil, h => by cases h; exact ⟨_, .nil⟩
  | _, _, _, _, .cons (d := d) (ds := ds) r rs, .cons q qs, h => by
    unfold D.pys at h
    cases h1 : d.py with
    | none => rw [h1] at h; cases h
    | some p =>
      cases h2 : D.pys ds with
      | none => rw [h1, h2] at h; cases h
      | some ps =>
        rw [h1, h2] at h; cases h
        obtain ⟨a1, x1⟩ := Rep.reads I e r q h1
        obtain ⟨a2, x2⟩ := Reps.reads I e rs qs h2
        exact ⟨_, .cons x1 x2⟩
end
end
end SH

set_option Elab.async false
set_option linter.all false
set_option maxRecDepth 100000
set_option maxHeartbeats 4000000
/-! sorted of tuples, empty ones among them -/
namespace PySem.SeqAt
open PySem PySem.Calls PyProof.Rows PySem.W
variable {A : Around} {s : Shared}
theorem call_tuple_lt {prog : Program} {w : World} {E : Value → Shared → Prop} {Q : Value → Shared → Prop} {l b : Addr} {items items2 : Array Value} {e r : Nat → Bool} (hl : s.heap.IsTuple l items) (hb : s.heap.IsTuple b items2)
    (he : ∀ j (h1 : j < items.size) (h2 : j < items2.size), EqAt A.in1 s items[j] items2[j] (e j)) (hr : ∀ j (h1 : j < items.size) (h2 : j < items2.size), e j = false → RcLt A.in1 s items[j] items2[j] (r j))
    (h : Q (.bool (firstLt e r (decide (items.size < items2.size)) (List.range (min items.size items2.size)))) s) : wpAny (model prog w) A (call (.builtin "tuple.__lt__") [.ref l, .ref b]) Q E s := by
  obtain ⟨⟨cls, dd, data, sl⟩, ho, hc, n, hd⟩ := id hl
  obtain ⟨⟨cls2, dd2, data2, sl2⟩, ho2, hc2, n2, hd2⟩ := id hb
  simp only at hc hd hc2 hd2
  subst hc hd hc2 hd2
  exact call_meets F.slot_tuple_lt ⟨_, ho, rfl⟩ F.entry_tuple_lt (F.args_tuple_lt_2 _ _) (tuple_ltAt l b items items2 n n2 dd dd2 sl sl2 e r) ⟨ho, ho2, he, hr, h⟩
end PySem.SeqAt
namespace PySem.W
open PySem PySem.Calls PyProof.Rows PySem.SeqAt
section
variable {prog : Program} {w : World} {A : Around} {E : Value → Shared → Prop} {s : Shared}
theorem oneLt_tup {f : Bool} {xs ys : List PyData} {a b : Value} {as bs : List Addr} {Q : Bool → Shared → Prop} (ra : Reads s.heap a (.tuple xs) as) (rb : Reads s.heap b (.tuple ys) bs) (h : alike (.tuple xs) (.tuple ys) = true)
    (hu : A.units + min (PyData.tuple xs).depth (PyData.tuple ys).depth < cLine) (hq : Q (dataLt (.tuple xs) (.tuple ys)) s) : wpAny (model prog w) A (oneLt' f a b) Q E s := by
  cases f with
  | false => exact oneLt_alike (fun e => by cases e) ra rb h (by simp) hu hq
  | true =>
    have hal : alikeAll xs ys = true := by simpa [alike] using h
    cases ra with
    | @tuple l o vs n _ as₁ h1 h2 h3 h4 =>
      cases rb with
      | @tuple l' o' vs' n' _ bs₁ k1 k2 k3 k4 =>
        have n1 : vs.size = xs.length := by simpa using ReadsAll.length _ _ _ h4
        have n2 : vs'.size = ys.length := by simpa using ReadsAll.length _ _ _ k4
        rw [dataLt_tuple, ← firstLt_toks xs ys hal, ← n1, ← n2] at hq
        rw [oneLt'_eq]
        simp only [if_true]
        refine wpAny_bind (wpAny_cRoomFor (room_here hu) ?_)
        refine wpAny_bind (wpAny_callSpecialIfBound?_slot (T := "tuple") ⟨_, h1, h2⟩ F.slot_tuple_lt (call_tuple_lt (e := pairEq xs ys) (r := fun j => dataLt (xs.getD j .none) (ys.getD j .none)) ⟨_, h1, h2, _, h3⟩ ⟨_, k1, k2, _, k3⟩ (fun j j1 j2 => ?_) (fun j j1 j2 hj => ?_) ?_))
        · have := eqAt_alikeAll xs ys A.in1 s vs.toList vs'.toList _ _ h4 k4 hal (room_in hu) j (by simpa using j1) (by simpa using j2)
          simpa using this
        · have := rcLt_alikeAll xs ys A.in1 s vs.toList vs'.toList _ _ h4 k4 hal (room_in hu) j (by simpa using j1) (by simpa using j2) hj
          simpa using this
        · exact wpAny_truthy_bool hq
theorem keyLt'_general (x y : Value) : keyLt' general' x y = oneLt' false x y := rfl
/-- the first item of each -/
def firstsOf (h : Heap) : List Value → List (Option Value) → Prop
  | [], [] => True
  | v :: vs, f :: fs => (∃ a o xs n, v = .ref a ∧ h.get? a = some o ∧ o.cls = .type "tuple" ∧ o.data = .seq xs n ∧ xs[0]? = f) ∧ firstsOf h vs fs
  | _, _ => False
theorem firsts_run {M : Model} : ∀ (vs : List Value) (fs : List (Option Value)) {Q : List (Option Value) → Shared → Prop}, firstsOf s.heap vs fs → Q fs s → wpAny M A (vs.mapM firstOfTuple') Q E s
  | [], [], _, _, h => by rw [List.mapM_nil]; exact wpAny_pure h
  | [], _ :: _, _, t, _ => t.elim
  | _ :: _, [], _, t, _ => t.elim
  | v :: vs, f :: fs, Q, t, h => by
    obtain ⟨⟨a, o, xs, n, rfl, ho, hc, hd, hf⟩, t⟩ := t
    rw [List.mapM_cons]
    refine wpAny_bind ?_
    rw [kas_first_eq]
    refine wpAny_bind (Looks.here (show Looks M s.heap (typeOf (.ref a)) o.cls from (Looks.ld ho).andThen .now) ?_)
    rw [hc, if_neg (by first | decide | simp)]
    refine wpAny_bind (listItems_at ho hd (wpAny_pure ?_))
    rw [hf]
    exact wpAny_bind (firsts_run vs fs (Q := fun bs s' => wpAny M A (pure (f :: bs)) Q E s') t (wpAny_pure h))
theorem firsts_of {h : Heap} : ∀ {vs : List Value} {ds : List PyData}, EachIs (fun v d => ∃ as, Reads h v d as) vs ds → (∀ d, d ∈ ds → ∃ xs, d = .tuple xs) → ∃ fs, firstsOf h vs fs ∧ ((fs.all fun x => x.isSome) = true → ∀ d, d ∈ ds → ∃ x r, d = .tuple (x :: r))
  | _, _, .nil, _ => ⟨[], trivial, fun _ d hd => absurd hd (by simp)⟩
  | _, _, .cons (b := d) ⟨as, r⟩ t, ht => by
    obtain ⟨fs, h1, h2⟩ := firsts_of t fun d hd => ht d (List.mem_cons_of_mem _ hd)
    obtain ⟨ps, rfl⟩ := ht d (List.mem_cons_self ..)
    cases r with
    | @tuple a o xs n _ _ ho hc hd hr =>
      refine ⟨xs[0]? :: fs, ⟨⟨a, o, xs, n, rfl, ho, hc, hd, rfl⟩, h1⟩, fun hall => ?_⟩
      simp only [List.all_cons, Bool.and_eq_true] at hall
      intro e he
      rcases List.mem_cons.mp he with rfl | he
      · cases ps with
        | cons x r => exact ⟨x, r, rfl⟩
        | nil =>
          have hx : xs.toList = [] := by generalize hz : xs.toList = z at hr; cases hr; rfl
          have : xs = #[] := by simpa using hx
          subst this
          exact absurd hall.1 (by simp)
      · exact h2 hall.2 e he
theorem tups_kind {M : Model} {vs : List Value} {fs : List (Option Value)} {Q : SortKind → Shared → Prop} (t : firstsOf s.heap vs fs) (hn : (fs.all fun x => x.isSome) = false) (hT : ∀ v ∈ vs, Looks M s.heap (typeOf v) (Value.type "tuple"))
    (h : ∀ b : Bool, Q (cond b general' oneType') s) (E : Value → Shared → Prop) (kd : SortKind) (hk : kd = cond ((fs[0]?.bind id).isSome) general' oneType') : wpAny M A (keyKind' vs.toArray) (fun k s' => s' = s ∧ k = kd) E s := by
  rw [kat_kind_eq, List.mapM_toArray, map_eq_pure_bind]
  refine wpAny_bind (wpAny_bind (firsts_run vs fs t (wpAny_pure ?_)))
  have e1 : (fs.toArray.all fun x => x.isSome) = false := by simpa using hn
  rw [if_neg (by rw [e1]; decide)]
  by_cases q : (fs[0]?.bind id).isSome = true
  · have q' : (fs.toArray[0]?.bind id).isSome = true := by simpa using q
    rw [if_pos q']
    exact wpAny_pure ⟨rfl, by rw [hk, q]; rfl⟩
  · have q' : ¬ (fs.toArray[0]?.bind id).isSome = true := by simpa using q
    rw [if_neg q']
    rw [oneTypeOnly'_eq, List.mapM_toArray, map_eq_pure_bind]
    refine wpAny_bind (wpAny_bind (wpAny_bind (kas_mapM (r := Value.type "tuple") _ (fun v hv Q' hq => (hT v hv).here hq) (wpAny_pure ?_))))
    have qf : (fs[0]?.bind id).isSome = false := by simpa using q
    rw [qf] at hk
    cases vs with
    | nil => cases fs with
      | nil => simp at hn
      | cons => exact t.elim
    | cons v vs =>
      have hall : ((List.map (fun _ => Value.type "tuple") (v :: vs)).toArray.all fun x => x == Value.type "tuple") = true := by
        simp only [List.all_toArray, List.all_map, List.all_eq_true]
        intro _ _
        exact beq_self_eq_true _
      have h0 : (List.map (fun _ => Value.type "tuple") (v :: vs)).toArray[0]? = some (Value.type "tuple") := by simp
      rw [h0]
      simp only [hall, if_true]
      exact wpAny_pure (wpAny_pure ⟨rfl, by rw [hk]; rfl⟩)
/-- tuples, empty ones among them -/
theorem SortsAt.tup {vs : List Value} {ds : List PyData} (e : EachIs (fun v d => ∃ as, Reads s.heap v d as) vs ds) (hal : AllAlike ds) (ht : ∀ d, d ∈ ds → ∃ xs, d = .tuple xs) (hu : ∀ d, d ∈ ds → A.units + d.depth < cLine) : SortsAt prog w A s (dataKind s.heap ds) vs := by
  have room : ∀ {d d' : PyData}, d ∈ ds → A.units + min d.depth d'.depth < cLine := fun {d d'} hd => Nat.lt_of_le_of_lt (Nat.add_le_add_left (Nat.min_le_left _ _) _) (hu d hd)
  obtain ⟨fs, f1, f2⟩ := firsts_of e ht
  cases hall : (fs.all fun x => x.isSome) with
  | true => exact SortsAt.data e hal (.inl (f2 hall)) hu
  | false =>
    refine ⟨fun v hv => ?_, cond ((fs[0]?.bind id).isSome) general' oneType', ?_, fun h2 E Q hq => ?_⟩
    · obtain ⟨d, hd, as, r⟩ := e.left v hv
      exact ⟨_, dataKind_some hal hd r⟩
    · intro E x y a b Q ha hb hq
      obtain ⟨d, as, hd, ra, rfl⟩ := dataKind_inv ha
      obtain ⟨d', as', hd', rb, rfl⟩ := dataKind_inv hb
      have hr := room (d' := d') hd
      have hdd := hal d hd d' hd'
      obtain ⟨xs, rfl⟩ := ht d hd
      obtain ⟨ys, rfl⟩ := ht d' hd'
      cases (fs[0]?.bind id).isSome with
      | true => rw [cond_true, keyLt'_general]; exact oneLt_tup ra rb hdd hr hq
      | false => rw [cond_false, keyLt'_oneType]; exact oneLt_tup ra rb hdd hr hq
    · refine wpAny_mono (tups_kind (Q := fun _ _ => True) f1 hall (fun v hv => ?_) (fun _ => trivial) E _ rfl) (fun k s' ⟨e1, e2⟩ => by subst e1 e2; exact hq) fun _ _ x => x
      obtain ⟨d, hd, as, r⟩ := e.left v hv
      obtain ⟨xs, rfl⟩ := ht d hd
      exact looks_reads r
variable {β : Type} {vs : List Value} {bs : List β} {enc : β → PyData} {R : Value → β → Prop}
theorem sorted_any {l : Addr} {Q : Value → Shared → Prop} (hl : s.heap.IsList l vs.toArray) (e : EachIs R vs bs) (er : EachIs (fun v b => ∃ as, Reads s.heap v (enc b) as) vs bs) (hal : AllAlike (bs.map enc)) (hk : (∀ d, d ∈ bs.map enc → ∃ xs, d = .tuple xs) ∨ Sortable (bs.map enc)) (hL : bs.length ≤ sizeLine)
    (hu : ∀ b, b ∈ bs → A.units + 2 + (enc b).depth < cLine) (h : ∀ out, out.length = bs.length → EachIs R out (bs.mergeSort (dataLe false enc)) → Q (.ref (s.heap.objs.size + 1)) { s with heap := sortedAll s.heap vs (List.toArray out) }) :
    wpAny (model prog w) A (call (.builtin "sorted") [.ref l]) Q E s := by
  have er' : EachIs (fun v b => ∃ as, Reads (sortingHeap (copyHeap s.heap vs) (s.heap.objs.size + 1) vs) v (enc b) as) vs bs := er.mono fun _ _ ⟨as, r⟩ => ⟨as, PyProof.Rows.Reads.keeps (fun _ _ => sorting_copy_old) r⟩
  refine sorted_vals (κ := dataKind (sortingHeap (copyHeap s.heap vs) (s.heap.objs.size + 1) vs) (bs.map enc)) hl ?_ (by rw [e.length]; exact hL) (h _ (by rw [sortVals_length false rfl]; exact e.length) (sortVals_data false e er' hal))
  have e3 := each_map (R := fun v d => ∃ as, Reads (sortingHeap (copyHeap s.heap vs) (s.heap.objs.size + 1) vs) v d as) enc er'
  rcases hk with hk | hk
  · exact SortsAt.tup (s := { s with heap := sortingHeap (copyHeap s.heap vs) (s.heap.objs.size + 1) vs }) e3 hal hk (bound_map hu)
  · exact SortsAt.data (s := { s with heap := sortingHeap (copyHeap s.heap vs) (s.heap.objs.size + 1) vs }) e3 hal hk (bound_map hu)
end
/-! one sorted list -/
theorem chain_uniq {α : Type} {lt : α → α → Prop} : ∀ {l m : List α}, l.Pairwise (fun a b => lt a b ∨ a = b) → m.Pairwise (fun a b => ¬ lt b a) → l.Perm m → l = m
  | [], m, _, _, p => (List.nil_perm.mp p).symm ▸ rfl
  | a :: l, [], _, _, p => absurd p.length_eq (by simp)
  | a :: l, b :: m, h, k, p => by
    have hb : b ∈ a :: l := p.symm.subset List.mem_cons_self
    have ha : a ∈ b :: m := p.subset List.mem_cons_self
    have e : a = b := by
      rcases List.mem_cons.mp hb with e | hb
      · exact e.symm
      · rcases List.mem_cons.mp ha with e | ha
        · exact e
        · rcases (List.pairwise_cons.mp h).1 b hb with q | q
          · exact absurd q ((List.pairwise_cons.mp k).1 a ha)
          · exact q
    subst e
    rw [chain_uniq (List.pairwise_cons.mp h).2 (List.pairwise_cons.mp k).2 (List.perm_cons a |>.mp p)]
end PySem.W

set_option Elab.async false
set_option linter.all false
set_option maxRecDepth 100000
set_option maxHeartbeats 4000000
namespace SH
open PySem PySem.Spec PyProof.Rows L2

/-- a mutable object of the store -/
inductive MObj where
  | dict (kvs : List (Key × D))
abbrev G := List MObj
structure Exc where
  cls : Str
  fs : List (Str × D)
inductive Res (α : Type) where
  | ok (a : α) (g : G)
  | exc (x : Exc) (g : G)
  | bad
@[reducible] def Res.bind {α β : Type} (r : Res α) (f : α → G → Res β) : Res β := match r with
  | .ok a g => f a g
  | .exc x g => .exc x g
  | .bad => .bad
/-- what a given callable tells, by the store; where it was handed in -/
structure Thk where
  f : Addr
  t : G → Res D
  F : Hp
  μ : List Addr
/-- ghosts: tables of code objects; the error that a suite holds (its address, class, dict); the callable that was handed in -/
structure Tg where
  tabs : List (Addr × Str)
  err : Option (Addr × Value × Option Addr) := none
  thk : Option Thk := none
/-- a slot's content: data, or a list of one's own -/
inductive SV where
  | dat (d : D)
  | own (xs : List D)
  | err (x : Exc)
  | thk (t : G → Res D)
abbrev Sl := List (Option SV)
inductive BOp where
  | add | sub | mul | mod | fdiv | pow
inductive COp where
  | eq | ne | lt | le | gt | ge | in_ | notIn
inductive BI where
  | len | tuple | list | int | all | any | sum | isInt | isBool | isTuple | isList | isStr | sorted | min1 | max1 | min2 | max2 | repr | sset | lset
mutual
inductive ME where
  | slot (i : Nat)
  | lit (d : D)
  | tup (es : List ME)
  | lst (es : List ME)
  | bin (o : BOp) (a b : ME)
  | neg (a : ME)
  | cmp (o : COp) (a b : ME)
  | isN (a : ME)
  | notN (a : ME)
  | and_ (a b : ME)
  | or_ (a b : ME)
  | not_ (a : ME)
  | ite (c a b : ME)
  | call (f : Nat) (pat : List (Nat ⊕ D)) (es : List ME)
  | callV (tab : List (Str × Nat × List (Nat ⊕ D))) (f : ME) (es : List ME)
  | said (f : Nat) (e : ME)
  | thk (i : Nat)
  | isErr (i : Nat) (all names : List Str)
  | errF (i : Nat) (known : List Str) (f : Str)
  | count (a b : ME)
  | bi (b : BI) (es : List ME)
  | idx (a b : ME)
  | slice (a : ME) (lo hi : Option ME)
  | comp (it : MI) (tg : List Nat) (vs : List Nat) (ifs : List ME) (elt : ME)
  | comp2 (it : MI) (tg : List Nat) (vs : List Nat) (ifs : List ME) (it1 : MI) (tg1 : List Nat) (vs1 : List Nat) (ifs1 : List ME) (elt : ME)
  | getK (a : ME) (k : Key)
  | cat (tup : Bool) (st : List Bool) (es : List ME)
  | index (a b : ME)
  | lzip (a b : ME)
  | rev (a : ME)
  | errCall (h : Exc → G → Res D) (i : Nat)
  | mkD (ks : List Key) (es : List ME)
  | chain (o1 o2 : COp) (a b c : ME)
inductive MI where
  | seq (e : ME)
  | range (lo hi : ME)
  | enum (e : ME)
  | zip (a b : ME)
  | range3 (lo hi st : ME)
end
/-- the defs; those that get a callable -/
structure Fns where
  call : Nat → List D → G → Res D
  hear : Nat → (G → Res D) → G → Res D
  lev : Nat
instance : CoeFun Fns (fun _ => Nat → List D → G → Res D) := ⟨Fns.call⟩
def badF : Fns := ⟨fun _ _ _ => .bad, fun _ _ _ => .bad, 0⟩

/-! ### operations on data -/
def sizeOk (n : Nat) : Bool := Nat.ble n sizeLine
def bin (o : BOp) (a b : D) : Option D := match o, a, b with
  | .add, .int i, .int j => some (.int (i + j))
  | .add, .str x, .str y => if sizeOk (x.length + y.length) then some (.str (x ++ y)) else none
  | .add, .lst x, .lst y => if sizeOk (x.length + y.length) then some (.lst (x ++ y)) else none
  | .add, .tup x, .tup y => if sizeOk (x.length + y.length) then some (.tup (x ++ y)) else none
  | .sub, .int i, .int j => some (.int (i - j))
  | .mul, .int i, .int j => if i.natAbs < 18446744073709551616 || j.natAbs < 18446744073709551616 then some (.int (i * j)) else none
  | .mul, .lst x, .int n => if decide (-9223372036854775808 ≤ n) && decide (n < 9223372036854775808) && sizeOk (x.length * n.toNat) then some (.lst (List.replicate n.toNat x).flatten) else none
  | .mul, .tup x, .int n => if decide (-1000 ≤ n) && decide (n ≤ 1000) && Nat.ble x.length 1000 then some (.tup (List.replicate n.toNat x).flatten) else none
  | .mod, .int i, .int j => if 0 < j then some (.int (i % j)) else none
  | .fdiv, .int i, .int j => if 0 < j && j < 1073741824 then some (.int (i / j)) else none
  | .pow, .int i, .int j => if 0 ≤ j && j ≤ 1000000 && i.natAbs < 18446744073709551616 then some (.int (i ^ j.toNat)) else none
  | _, _, _ => none
mutual
def D.eqv : D → D → Bool
  | .non, .non => true
  | .bl a, .bl b => a == b
  | .bl a, .int j => (if a then 1 else 0) == j
  | .int i, .bl b => i == (if b then 1 else 0)
  | .int i, .int j => i == j
  | .str x, .str y => x == y
  | .tup x, .tup y => D.eqvs x y
  | .lst x, .lst y => D.eqvs x y
  | _, _ => false
def D.eqvs : List D → List D → Bool
  | [], [] => true
  | x :: xs, y :: ys => D.eqv x y && D.eqvs xs ys
  | _, _ => false
end
mutual
def D.depth : D → Nat
  | .tup l => D.depths l + 1
  | .lst l => D.depths l + 1
  | _ => 0
def D.depths : List D → Nat
  | [] => 0
  | d :: l => max (D.depth d) (D.depths l)
end
mutual
/-- no function, no pointer inside -/
def D.plain : D → Bool
  | .tup l => D.plains l
  | .lst l => D.plains l
  | .fn _ => false
  | .ptr _ => false
  | .scr _ => false
  | _ => true
def D.plains : List D → Bool
  | [] => true
  | d :: l => D.plain d && D.plains l
end
mutual
/-- equal, and of the same kind at each place -/
def D.same : D → D → Bool
  | .non, .non => true
  | .bl a, .bl b => a == b
  | .int i, .int j => i == j
  | .str x, .str y => x == y
  | .tup x, .tup y => D.sames x y
  | .lst x, .lst y => D.sames x y
  | _, _ => false
def D.sames : List D → List D → Bool
  | [], [] => true
  | x :: xs, y :: ys => D.same x y && D.sames xs ys
  | _, _ => false
end
def D.isNon : D → Bool
  | .non => true
  | _ => false
def truth : D → Option Bool
  | .non => some false
  | .bl b => some b
  | .int i => some (i != 0)
  | .str s => if sizeOk s.length then some ((s.length : Int) != 0) else none
  | .tup l => some (!l.isEmpty)
  | .lst l => some (!l.isEmpty)
  | _ => none
def cmp (o : COp) (a b : D) : Option Bool := match o with
  | .eq => if a.plain && b.plain && Nat.ble a.depth 60 then some (a.eqv b) else none
  | .ne => if a.plain && b.plain && Nat.ble a.depth 60 then some (!a.eqv b) else none
  | .lt => match a, b with
    | .int i, .int j => some (decide (i < j))
    | _, _ => none
  | .le => match a, b with
    | .int i, .int j => some (decide (i ≤ j))
    | _, _ => none
  | .gt => match a, b with
    | .int i, .int j => some (decide (j < i))
    | _, _ => none
  | .ge => match a, b with
    | .int i, .int j => some (decide (j ≤ i))
    | _, _ => none
  | .in_ => match b with
    | .lst l => if a.plain && D.plains l && Nat.ble a.depth 60 then some (l.any fun d => d.eqv a) else none
    | .tup l => if a.plain && D.plains l && Nat.ble a.depth 60 then some (l.any fun d => d.eqv a) else none
    | _ => none
  | .notIn => match b with
    | .lst l => if a.plain && D.plains l && Nat.ble a.depth 60 then some (!l.any fun d => d.eqv a) else none
    | .tup l => if a.plain && D.plains l && Nat.ble a.depth 60 then some (!l.any fun d => d.eqv a) else none
    | _ => none
def ints? : List D → Option (List Int)
  | [] => some []
  | .int i :: l => (ints? l).map (i :: ·)
  | _ => none
def bls? : List D → Option (List Bool)
  | [] => some []
  | .bl i :: l => (bls? l).map (i :: ·)
  | _ => none
/-- the text that repr tells -/
def reprD (d : D) : Option D := match d.py with
  | some p => if p.showable && Nat.ble p.depth 100 && sizeOk p.shown.length then some (.str p.shown) else none
  | none => none
/-! sorted -/
mutual
def D.lt : D → D → Bool
  | .int i, .int j => decide (i < j)
  | .tup x, .tup y => D.lts x y
  | _, _ => false
def D.lts : List D → List D → Bool
  | [], [] => false
  | [], _ :: _ => true
  | _ :: _, [] => false
  | a :: x, b :: y => D.lt a b || (D.same a b && D.lts x y)
end
def insD (a : D) : List D → List D
  | [] => [a]
  | b :: l => if D.lt b a then b :: insD a l else a :: b :: l
def isoD : List D → List D
  | [] => []
  | a :: l => insD a (isoD l)
def encD (d : D) : PyData := d.py.getD .none
/-- each is below the next one, or the same -/
def chainD : List D → Bool
  | a :: b :: l => (PySem.W.dataLt (encD a) (encD b) || D.same a b) && chainD (b :: l)
  | _ => true
def isI : D → Bool
  | .int _ => true
  | _ => false
def isRow : D → Bool
  | .tup l => l.all isI
  | _ => false
def isIRow : D → Bool
  | .tup [.int _, .tup l] => l.all isI
  | _ => false
def isRows : D → Bool
  | .tup l => l.all isRow
  | _ => false
def sortLD (l : List D) : Option D := if (l.all isI || l.all isRow || l.all isIRow || l.all isRows) && chainD (isoD l) && sizeOk l.length then some (.lst (isoD l)) else none
def minI : List Int → Option D
  | [] => none
  | a :: l => some (.int (l.foldl (fun m x => if x < m then x else m) a))
def maxI : List Int → Option D
  | [] => none
  | a :: l => some (.int (l.foldl (fun m x => if x > m then x else m) a))
/-- ascending, each once -/
def insU (x : Int) : List Int → List Int
  | [] => [x]
  | y :: l => if x < y then x :: y :: l else if x = y then y :: l else y :: insU x l
def sortU : List Int → List Int
  | [] => []
  | x :: l => insU x (sortU l)
def bi (b : BI) (xs : List D) : Option D := match b, xs with
  | .len, [.tup l] => some (.int l.length)
  | .len, [.lst l] => some (.int l.length)
  | .len, [.str s] => if sizeOk s.length then some (.int s.length) else none
  | .tuple, [.tup l] => some (.tup l)
  | .tuple, [.lst l] => some (.tup l)
  | .list, [.tup l] => some (.lst l)
  | .list, [.lst l] => some (.lst l)
  | .int, [.int i] => some (.int i)
  | .int, [.bl b] => some (.int (if b then 1 else 0))
  | .all, [.lst l] => (bls? l).map fun bs => .bl (bs.all id)
  | .any, [.lst l] => (bls? l).map fun bs => .bl (bs.any id)
  | .sum, [.lst l] => (ints? l).map fun ns => .int ns.sum
  | .isInt, [d] => match d with
    | .int _ => some (.bl true)
    | .bl _ => some (.bl true)
    | .fn _ => none
    | .ptr _ => none
    | .scr _ => none
    | _ => some (.bl false)
  | .isBool, [d] => match d with
    | .bl _ => some (.bl true)
    | .fn _ => none
    | .ptr _ => none
    | .scr _ => none
    | _ => some (.bl false)
  | .isTuple, [d] => match d with
    | .tup _ => some (.bl true)
    | .fn _ => none
    | .ptr _ => none
    | .scr _ => none
    | _ => some (.bl false)
  | .isList, [d] => match d with
    | .lst _ => some (.bl true)
    | .fn _ => none
    | .ptr _ => none
    | .scr _ => none
    | _ => some (.bl false)
  | .isStr, [d] => match d with
    | .str _ => some (.bl true)
    | .fn _ => none
    | .ptr _ => none
    | .scr _ => none
    | _ => some (.bl false)
  | .sorted, [.lst l] => sortLD l
  | .min1, [.lst l] => (ints? l).bind minI
  | .max1, [.lst l] => (ints? l).bind maxI
  | .min2, [.int i, .int j] => some (.int (if j < i then j else i))
  | .max2, [.int i, .int j] => some (.int (if j > i then j else i))
  | .repr, [d] => reprD d
  | .sset, [.tup l] => (ints? l).bind fun ns => if Nat.ble (ns.length + 1) 64 then some (.lst ((sortU ns).map .int)) else none
  | _, _ => none
def idx (a b : D) : Option D := match a, b with
  | .tup l, .int i => atI l i
  | .lst l, .int i => atI l i
  | _, _ => none
def cutD (l : List D) (lo hi : Option Int) : List D := (l.drop (HT.sIx l.length 0 lo)).take (HT.sIx l.length l.length hi - HT.sIx l.length 0 lo)
def slice (a : D) (lo hi : Option Int) : Option D := match a with
  | .tup l => some (.tup (cutD l lo hi))
  | .lst l => some (.lst (cutD l lo hi))
  | .scr ns => some (.lst (cutD (ns.map .int) lo hi))
  | _ => none
def lift {α : Type} (o : Option α) (g : G) : Res α := match o with
  | some a => .ok a g
  | none => .bad
def getSl (S : Sl) (i : Nat) : Option D := match S[i]? with
  | some (some (.dat d)) => some d
  | _ => none
def getErr (S : Sl) (i : Nat) : Option Exc := match S[i]? with
  | some (some (.err x)) => some x
  | _ => none
def isErrD (x : Exc) (all names : List Str) : Option D := if all.contains x.cls then some (.bl (names.contains x.cls)) else none
def errFD (x : Exc) (known : List Str) (f : Str) : Option D := if known.contains x.cls then x.fs.lookup f else none
def countD (a b : D) : Option D := match a with
  | .lst l => if D.plains l && b.plain && Nat.ble b.depth 60 then some (.int ((l.countP fun d => d.eqv b : Nat) : Int)) else none
  | _ => none
def revD (a : D) : Option D := match a with
  | .tup l => some (.tup l.reverse)
  | .lst l => some (.lst l.reverse)
  | _ => none
/-- where a list has a value first -/
def ixL (b : D) : List D → Nat → Option Nat
  | [], _ => none
  | d :: l, n => if d.eqv b then some n else ixL b l (n + 1)
def indexD (a b : D) : Option D := match a with
  | .lst l => if D.plains l && b.plain && Nat.ble b.depth 60 then (ixL b l 0).map fun n => .int (n : Nat) else none
  | _ => none
/-- names get the parts of a value -/
def putAll : List Nat → List D → Sl → Sl
  | i :: is, d :: ds, S => putAll is ds (S.set i (some (.dat d)))
  | _, _, S => S
def putTup (tg : List Nat) (d : D) (S : Sl) : Option Sl := match d with
  | .tup l => if l.length == tg.length then some (putAll tg l S) else none
  | _ => none
def putTg (tg : List Nat) (d : D) (S : Sl) : Option Sl := match tg with
  | [i] => some (S.set i (some (.dat d)))
  | _ => putTup tg d S
def wipeS (S : Sl) : List Nat → Sl
  | [] => S
  | v :: vs => (wipeS S vs).set v none
def rangeL (lo hi : Int) : List D := (List.range (hi - lo).toNat).map fun (i : Nat) => .int (lo + (i : Int))
/-- from i down to j, but for j -/
def downL (i j : Int) : List D := (List.range (i - j).toNat).map fun (k : Nat) => .int (i + (k : Int) * (-1))
def downD (l : List D) : Option (List D) := match l with
  | [.int i, .int j, .int c] => if c == -1 && -4611686018427387904 ≤ i && i < 4611686018427387904 && -4611686018427387904 ≤ j && j < 4611686018427387904 && Nat.ble (i - j).toNat sizeLine then some (downL i j) else none
  | _ => none
def enumL : Nat → List D → List D
  | _, [] => []
  | n, d :: l => .tup [.int n, d] :: enumL (n + 1) l
def zipL : List D → List D → List D
  | a :: l, b :: m => .tup [a, b] :: zipL l m
  | _, _ => []
def seqL : D → Option (List D)
  | .tup l => some l
  | .lst l => some l
  | .scr ns => some (ns.map .int)
  | _ => none
def seqX : D → Option (List D)
  | .tup l => some l
  | .lst l => some l
  | _ => none
def zipD : D → D → Option (List D)
  | .tup l, .tup m => some (zipL l m)
  | .lst l, .lst m => some (zipL l m)
  | .tup l, .lst m => some (zipL l m)
  | .lst l, .tup m => some (zipL l m)
  | _, _ => none
def enumD : D → Option (List D)
  | .tup l => some (enumL 0 l)
  | .lst l => some (enumL 0 l)
  | _ => none
def dGet (kvs : List (Key × D)) (k : Key) : Option D := (kvs.find? fun kv => decide (kv.1 = k)).map (·.2)
def dPut (kvs : List (Key × D)) (k : Key) (v : D) : List (Key × D) :=
  if (kvs.any fun kv => decide (kv.1 = k)) = true then kvs.map (fun kv => if kv.1 = k then (kv.1, v) else kv) else kvs ++ [(k, v)]
def dMerge (kvs more : List (Key × D)) : List (Key × D) := more.foldl (fun acc kv => dPut acc kv.1 kv.2) kvs
/-- the parameters' values, out of those that are written -/
def pickAll (l : List D) : List (Nat ⊕ D) → Option (List D)
  | [] => some []
  | .inl i :: r => match l[i]?, pickAll l r with
    | some d, some ds => some (d :: ds)
    | _, _ => none
  | .inr d :: r => (pickAll l r).map (d :: ·)
/-- the turns of a comprehension -/
def turns (tg vs : List Nat) (S : Sl) (tests : Sl → G → Res Bool) (elt : Sl → G → Res D) : List D → List D → G → Res (List D)
  | [], acc, g => .ok acc.reverse g
  | d :: l, acc, g => match putTg tg d (wipeS S vs) with
    | none => .bad
    | some S1 => match tests S1 g with
      | .ok true g1 => (match elt S1 g1 with
        | .ok e g2 => turns tg vs S tests elt l (e :: acc) g2
        | _ => .bad)
      | .ok false g1 => turns tg vs S tests elt l acc g1
      | _ => .bad
/-- the turns of the inner one of two; what is found stands the other way round -/
def turnsA (tg vs : List Nat) (S : Sl) (tests : Sl → G → Res Bool) (elt : Sl → G → Res D) : List D → List D → G → Res (List D)
  | [], acc, g => .ok acc g
  | d :: l, acc, g => match putTg tg d (wipeS S vs) with
    | none => .bad
    | some S1 => match tests S1 g with
      | .ok true g1 => (match elt S1 g1 with
        | .ok e g2 => if sizeOk (acc.length + 1) then turnsA tg vs S tests elt l (e :: acc) g2 else .bad
        | _ => .bad)
      | .ok false g1 => turnsA tg vs S tests elt l acc g1
      | _ => .bad
def turnsO (tg vs : List Nat) (S : Sl) (tests : Sl → G → Res Bool) (inner : Sl → List D → G → Res (List D)) : List D → List D → G → Res (List D)
  | [], acc, g => .ok acc g
  | d :: l, acc, g => match putTg tg d (wipeS S vs) with
    | none => .bad
    | some S1 => match tests S1 g with
      | .ok true g1 => (match inner S1 acc g1 with
        | .ok acc' g2 => turnsO tg vs S tests inner l acc' g2
        | _ => .bad)
      | .ok false g1 => turnsO tg vs S tests inner l acc g1
      | _ => .bad
/-- the defs, two calls deeper -/
def lowF (Φ : Fns) : Fns := ⟨fun i => Φ.call (i + 1000000), fun i => Φ.hear (i + 1000000), Φ.lev - 2⟩
/-- the slots that hold data -/
def datS (S : Sl) : Sl := S.map fun o => match o with
  | some (.dat d) => some (.dat d)
  | _ => none
def getThk (S : Sl) (i : Nat) (g : G) : Res D := match S[i]? with
  | some (some (.thk t)) => t g
  | _ => .bad
def valOf (tab : List (Str × Nat × List (Nat ⊕ D))) (x : D) : Option (Nat × List (Nat ⊕ D)) := match x with
  | .fn n => tab.lookup n
  | _ => none
def callPat (Φ : Fns) (i : Nat) (pat : List (Nat ⊕ D)) (l : List D) (g : G) : Res D := match pickAll l pat with
  | some ds => Φ i ds g
  | none => .bad
def okOnly {α : Type} (r : Res α) : Res α := match r with
  | .ok a g => .ok a g
  | _ => .bad
mutual
def ev (Φ : Fns) : ME → Sl → G → Res D
  | .slot i, S, g => lift (getSl S i) g
  | .lit d, _, g => .ok d g
  | .tup es, S, g => (evs Φ es S g).bind fun l g => .ok (.tup l) g
  | .lst es, S, g => (evs Φ es S g).bind fun l g => .ok (.lst l) g
  | .bin o a b, S, g => (ev Φ a S g).bind fun x g => (ev Φ b S g).bind fun y g => lift (bin o x y) g
  | .neg a, S, g => (ev Φ a S g).bind fun x g => match x with
    | .int i => .ok (.int (-i)) g
    | _ => .bad
  | .cmp o a b, S, g => (ev Φ a S g).bind fun x g => (ev Φ b S g).bind fun y g => (lift (cmp o x y) g).bind fun b g => .ok (.bl b) g
  | .isN a, S, g => (ev Φ a S g).bind fun x g => .ok (.bl x.isNon) g
  | .notN a, S, g => (ev Φ a S g).bind fun x g => .ok (.bl (!x.isNon)) g
  | .and_ a b, S, g => (ev Φ a S g).bind fun x g => match truth x with
    | some true => ev Φ b S g
    | some false => .ok x g
    | none => .bad
  | .or_ a b, S, g => (ev Φ a S g).bind fun x g => match truth x with
    | some true => .ok x g
    | some false => ev Φ b S g
    | none => .bad
  | .not_ a, S, g => (ev Φ a S g).bind fun x g => (lift (truth x) g).bind fun b g => .ok (.bl (!b)) g
  | .ite c a b, S, g => (ev Φ c S g).bind fun x g => match truth x with
    | some true => ev Φ a S g
    | some false => ev Φ b S g
    | none => .bad
  | .call f pat es, S, g => (evs Φ es S g).bind fun l g => match pickAll l pat with
    | some ds => Φ f ds g
    | none => .bad
  | .callV tab f es, S, g => (ev Φ f S g).bind fun x g => match valOf tab x with
    | some ip => (evs Φ es S g).bind fun l g => callPat Φ ip.1 ip.2 l g
    | none => .bad
  | .said z e, S, g => Φ.hear z (fun g => ev (lowF Φ) e (datS S) g) g
  | .thk i, S, g => getThk S i g
  | .isErr i all names, S, g => lift ((getErr S i).bind fun x => isErrD x all names) g
  | .errF i known f, S, g => lift ((getErr S i).bind fun x => errFD x known f) g
  | .count a b, S, g => (ev Φ a S g).bind fun x g => match x with
    | .lst l => (ev Φ b S g).bind fun y g => lift (countD (.lst l) y) g
    | _ => .bad
  | .bi b es, S, g => (evs Φ es S g).bind fun l g => lift (bi b l) g
  | .idx a b, S, g => (ev Φ a S g).bind fun x g => (ev Φ b S g).bind fun y g => lift (idx x y) g
  | .slice a lo hi, S, g => (ev Φ a S g).bind fun x g => (evo Φ lo S g).bind fun l g => (evo Φ hi S g).bind fun h g => lift (slice x l h) g
  | .comp it tg vs ifs elt, S, g => (evi Φ it S g).bind fun l g => (turns tg vs S (fun S g => evt Φ ifs S g) (fun S g => ev Φ elt S g) l [] g).bind fun l g => .ok (.lst l) g
  | .comp2 it tg vs ifs it1 tg1 vs1 ifs1 elt, S, g => (evi Φ it S g).bind fun l g => okOnly ((turnsO tg vs S (fun S g => evt Φ ifs S g) (fun S1 acc g => (evi Φ it1 S1 g).bind fun l1 g => turnsA tg1 vs1 S1 (fun S g => evt Φ ifs1 S g) (fun S g => ev Φ elt S g) l1 acc g) l [] g).bind fun acc g => .ok (.lst acc.reverse) g)
  | .getK a k, S, g => (ev Φ a S g).bind fun x g => match x with
    | .ptr p => (match g[p]? with
      | some (.dict kvs) => lift (dGet kvs k) g
      | none => .bad)
    | _ => .bad
  | .cat tup st es, S, g => (evc Φ es st S g).bind fun l g => if sizeOk l.length then .ok (cond tup (.tup l) (.lst l)) g else .bad
  | .index a b, S, g => (ev Φ a S g).bind fun x g => match x with
    | .lst l => (ev Φ b S g).bind fun y g => lift (indexD (.lst l) y) g
    | _ => .bad
  | .errCall h i, S, g => match getErr S i with
    | some x => okOnly (h x g)
    | none => .bad
  | .lzip a b, S, g => (ev Φ a S g).bind fun x g => (ev Φ b S g).bind fun y g => (lift (zipD x y) g).bind fun l g => .ok (.lst l) g
  | .rev a, S, g => (ev Φ a S g).bind fun x g => lift (revD x) g
  | .chain o1 o2 a b c, S, g => (ev Φ a S g).bind fun x g => (ev Φ b S g).bind fun y g => (lift (cmp o1 x y) g).bind fun t g => match t with
    | true => (ev Φ c S g).bind fun z g => (lift (cmp o2 y z) g).bind fun t g => .ok (.bl t) g
    | false => .ok (.bl false) g
  | .mkD ks es, S, g => (evs Φ es S g).bind fun l g => .ok (.ptr g.length) (g ++ [.dict (dMerge [] (ks.zip l))])
def evs (Φ : Fns) : List ME → Sl → G → Res (List D)
  | [], _, g => .ok [] g
  | e :: es, S, g => (ev Φ e S g).bind fun x g => (evs Φ es S g).bind fun l g => .ok (x :: l) g
/-- values, some of which are told item by item -/
def evc (Φ : Fns) : List ME → List Bool → Sl → G → Res (List D)
  | [], _, _, g => .ok [] g
  | e :: es, true :: st, S, g => (ev Φ e S g).bind fun x g => match seqX x with
    | some xs => (evc Φ es st S g).bind fun l g => .ok (xs ++ l) g
    | none => .bad
  | e :: es, st, S, g => (ev Φ e S g).bind fun x g => (evc Φ es st.tail S g).bind fun l g => .ok (x :: l) g
def evo (Φ : Fns) : Option ME → Sl → G → Res (Option Int)
  | none, _, g => .ok none g
  | some e, S, g => (ev Φ e S g).bind fun x g => match x with
    | .int i => .ok (some i) g
    | _ => .bad
/-- tests, one behind another -/
def evt (Φ : Fns) : List ME → Sl → G → Res Bool
  | [], _, g => .ok true g
  | e :: es, S, g => (ev Φ e S g).bind fun x g => match truth x with
    | some true => evt Φ es S g
    | some false => .ok false g
    | none => .bad
def evi (Φ : Fns) : MI → Sl → G → Res (List D)
  | .seq e, S, g => (ev Φ e S g).bind fun x g => lift (seqL x) g
  | .range lo hi, S, g => (ev Φ lo S g).bind fun x g => (ev Φ hi S g).bind fun y g => match x, y with
    | .int i, .int j => if -4611686018427387904 ≤ i && i < 4611686018427387904 && -4611686018427387904 ≤ j && j < 4611686018427387904 && Nat.ble (j - i).toNat sizeLine then .ok (rangeL i j) g else .bad
    | _, _ => .bad
  | .range3 lo hi st, S, g => (ev Φ lo S g).bind fun x g => (ev Φ hi S g).bind fun y g => (ev Φ st S g).bind fun z g => lift (downD [x, y, z]) g
  | .enum e, S, g => (ev Φ e S g).bind fun x g => lift (enumD x) g
  | .zip a b, S, g => (ev Φ a S g).bind fun x g => (ev Φ b S g).bind fun y g => lift (zipD x y) g
end
example : ev badF (.bin .add (.lit (.int 2)) (.lit (.int 3))) [] [] = .ok (.int 5) [] := by rfl
example : ev badF (.comp (.range (.lit (.int 0)) (.lit (.int 5))) [0] [0] [] (.bin .mul (.slot 0) (.slot 0))) [none] [] = .ok (.lst [.int 0, .int 1, .int 4, .int 9, .int 16]) [] := by rfl
end SH

set_option Elab.async false
set_option linter.all false
set_option autoImplicit false
set_option maxRecDepth 100000
set_option maxHeartbeats 4000000
namespace SH
open PySem PySem.Spec PyProof.Rows L2 LamX

/-- a mutable object stands at a -/
def StoreAt (K : PySem.W.Frag) (mg : Str → Option Value) (μ : List Addr) (F H : Hp) (a : Addr) : MObj → Prop
  | .dict kvs => ∃ kvs' : List (Key × V), H a = some (.dK kvs') ∧ Paired (fun (p : Key × V) (q : Key × D) => p.1 = q.1 ∧ Rep K mg μ F p.2 q.2) kvs' kvs
structure View (K : PySem.W.Frag) (mg : Str → Option Value) (T : Tg) (F : Hp) (μ : List Addr) (g : G) (H : Hp) : Prop where
  le : Same F H
  nt : ∀ a o, F a = some o → ∀ ps, o ≠ .tbl ps
  nod : μ.Nodup
  off : ∀ a ∈ μ, F a = none
  st : Paired (fun a m => StoreAt K mg μ F H a m) μ g
  tab : Tabs T.tabs H
  tbs : ∀ a ps, H a = some (.tbl ps) → ∃ q, (a, q) ∈ T.tabs
  bas : ∀ b, T.thk = some b → Same b.F F ∧ Pre b.μ μ
theorem tbs_upd {T : Tg} {H : Hp} {p : Addr} {o : HO} (h : ∀ a ps, H a = some (.tbl ps) → ∃ q, (a, q) ∈ T.tabs) (ho : ∀ ps, o ≠ .tbl ps) : ∀ a ps, upd H p o a = some (.tbl ps) → ∃ q, (a, q) ∈ T.tabs := by
  intro a ps e
  by_cases z : a = p
  · subst z
    rw [upd_same] at e
    cases e
    exact absurd rfl (ho ps)
  · rw [upd_ne z] at e
    exact h a ps e
structure Go (K : PySem.W.Frag) (mg : Str → Option Value) (T : Tg) (F : Hp) (μ : List Addr) (H : Hp) (F' : Hp) (μ' : List Addr) (g' : G) (H' : Hp) : Prop where
  view : View K mg T F' μ' g' H'
  ff : Same F F'
  pre : Pre μ μ'
  new : ∀ a o, F' a = some o → F a = some o ∨ H a = none
  newμ : ∀ a ∈ μ', a ∈ μ ∨ H a = none
  keep : ∀ a o, H a = some o → a ∉ μ → (∀ ps, o ≠ .tbl ps) → H' a = some o
  dom : ∀ a o, H a = some o → ∃ o', H' a = some o'
section
variable {K : PySem.W.Frag} {mg : Str → Option Value} {T : Tg} {F F1 F2 : Hp} {μ μ1 μ2 : List Addr} {g g1 g2 : G} {H H1 H2 : Hp}
theorem Go.refl (v : View K mg T F μ g H) : Go K mg T F μ H F μ g H :=
  ⟨v, Same.refl _, Pre.refl _, fun a o h => .inl h, fun a h => .inl h, fun a o h _ _ => h, fun a o h => ⟨o, h⟩⟩
theorem Go.free (x : Go K mg T F μ H F1 μ1 g1 H1) {a : Addr} (h : H1 a = none) : H a = none := by
  cases q : H a with
  | none => rfl
  | some o => obtain ⟨o', e⟩ := x.dom a o q; rw [h] at e; cases e
theorem Go.trans (x : Go K mg T F μ H F1 μ1 g1 H1) (y : Go K mg T F1 μ1 H1 F2 μ2 g2 H2) : Go K mg T F μ H F2 μ2 g2 H2 where
  view := y.view
  ff := x.ff.trans y.ff
  pre := x.pre.trans y.pre
  new := fun a o h => by
    rcases y.new a o h with h | h
    · exact x.new a o h
    · exact .inr (x.free h)
  newμ := fun a h => by
    rcases y.newμ a h with h | h
    · exact x.newμ a h
    · exact .inr (x.free h)
  keep := fun a o h hm ht => y.keep a o (x.keep a o h hm ht) (fun hm' => by
    rcases x.newμ a hm' with q | q
    · exact hm q
    · rw [h] at q; cases q) ht
  dom := fun a o h => by
    obtain ⟨o', h'⟩ := x.dom a o h
    exact y.dom a o' h'
/-- a store's view stays when the frozen view grows -/
theorem StoreAt.mono {a : Addr} {m : MObj} (x : StoreAt K mg μ F H a m) (e : Same F F1) (p : Pre μ μ1) (h : H1 a = H a) : StoreAt K mg μ1 F1 H1 a m := by
  cases m with
  | dict kvs =>
    obtain ⟨k, h1, h2⟩ := x
    exact ⟨k, h.trans h1, Paired.mapP h2 fun _ _ q => ⟨q.1, q.2.mono e p⟩⟩
theorem paired_mem {α β : Type} {R R' : α → β → Prop} : ∀ {l : List α} {m : List β}, Paired R l m → (∀ a ∈ l, ∀ b, R a b → R' a b) → Paired R' l m
  | _, _, .nil, _ => .nil
  | _, _, .cons r t, f => .cons (f _ List.mem_cons_self _ r) (paired_mem t fun a h b => f a (List.mem_cons_of_mem _ h) b)
theorem StoreAt.some {a : Addr} {m : MObj} (x : StoreAt K mg μ F H a m) : H a ≠ none := by
  cases m with
  | dict kvs => obtain ⟨k, h1, _⟩ := x; rw [h1]; intro z; cases z
theorem store_some : ∀ {l : List Addr} {m : G}, Paired (fun a m => StoreAt K mg μ F H a m) l m → ∀ {a : Addr}, a ∈ l → H a ≠ none
  | _, _, .nil, _, h => by cases h
  | _, _, .cons r t, a, h => by
    rcases List.mem_cons.mp h with e | h
    · subst e; exact r.some
    · exact store_some t h
/-- a new frozen object -/
theorem View.laid (v : View K mg T F μ g H) {p : Addr} {o : HO} (hp : H p = none) (ho : ∀ ps, o ≠ .tbl ps) : Go K mg T F μ H (upd F p o) μ g (upd H p o) := by
  have fp : F p = none := by
    cases q : F p with
    | none => rfl
    | some u => rw [v.le p u q] at hp; cases hp
  have hs : Same F (upd F p o) := fun a u h => by rw [upd_ne (ne_of_none h fp)]; exact h
  have hm : ∀ a ∈ μ, a ≠ p := fun a ha z => by
    subst z
    exact store_some v.st ha hp
  refine ⟨⟨?_, ?_, v.nod, ?_, ?_, ?_, tbs_upd v.tbs ho, fun b hb => ⟨(v.bas b hb).1.trans hs, (v.bas b hb).2⟩⟩, hs, Pre.refl _, ?_, fun a h => .inl h, ?_, ?_⟩
  · intro a u h
    by_cases e : a = p
    · subst e; rw [upd_same] at h ⊢; exact h
    · rw [upd_ne e] at h ⊢; exact v.le a u h
  · intro a u h
    by_cases e : a = p
    · subst e; rw [upd_same] at h; cases h; exact ho
    · rw [upd_ne e] at h; exact v.nt a u h
  · intro a ha; rw [upd_ne (hm a ha)]; exact v.off a ha
  · exact paired_mem v.st fun a ha m r => r.mono hs (Pre.refl _) (upd_ne (hm a ha))
  · exact v.tab.ext fun b u h => by rw [upd_ne (ne_of_none h hp)]; exact h
  · intro a u h
    by_cases e : a = p
    · subst e; exact .inr hp
    · rw [upd_ne e] at h; exact .inl h
  · intro a u h _ _; rw [upd_ne (ne_of_none h hp)]; exact h
  · intro a u h; exact ⟨u, by rw [upd_ne (ne_of_none h hp)]; exact h⟩
end

/-! ### slots -/
/-- the error in the air: its class, its dict -/
def ExcAt (K : PySem.W.Frag) (mg : Str → Option Value) (F : Hp) (μ : List Addr) (x : Exc) (cls : Value) (dd : Option Addr) : Prop :=
  mg x.cls = some cls ∧ ∃ d fs, dd = some d ∧ F d = some (.xd fs) ∧ Paired (fun (p : Str × V) (q : Str × D) => p.1 = q.1 ∧ Rep K mg μ F p.2 q.2) fs x.fs
theorem ExcAt.mono {K : PySem.W.Frag} {mg : Str → Option Value} {F F1 : Hp} {μ μ1 : List Addr} {x : Exc} {cls : Value} {dd : Option Addr} (h : ExcAt K mg F μ x cls dd) (e : Same F F1) (p : Pre μ μ1) : ExcAt K mg F1 μ1 x cls dd := by
  obtain ⟨h1, d, fs, h2, h3, h4⟩ := h
  exact ⟨h1, d, fs, h2, e _ _ h3, Paired.mapP h4 fun _ _ q => ⟨q.1, q.2.mono e p⟩⟩
structure RelS (K : PySem.W.Frag) (mg : Str → Option Value) (T : Tg) (S : Sl) (σ : L2.St) (F : Hp) (μ : List Addr) (H : Hp) : Prop where
  len : S.length = σ.length
  dat : ∀ (i : Nat) (d : D), S[i]? = some (some (SV.dat d)) → ∃ v, σ[i]? = some (some v) ∧ Rep K mg μ F v d
  own : ∀ (i : Nat) (xs : List D), S[i]? = some (some (SV.own xs)) → ∃ a vs, σ[i]? = some (some (V.ref a)) ∧ H a = some (.lst vs) ∧ F a = none ∧ a ∉ μ ∧ Reps K mg μ F vs xs
  apart : ∀ (i j : Nat) (xs ys : List D) (a : Addr), S[i]? = some (some (SV.own xs)) → S[j]? = some (some (SV.own ys)) → σ[i]? = some (some (V.ref a)) → σ[j]? = some (some (V.ref a)) → i = j
  err : ∀ (i : Nat) (x : Exc), S[i]? = some (some (SV.err x)) → ∃ a cls dd, T.err = some (a, cls, dd) ∧ σ[i]? = some (some (V.ref a)) ∧ ExcAt K mg F μ x cls dd
  thk : ∀ (i : Nat) (t : G → Res D), S[i]? = some (some (SV.thk t)) → ∃ b, T.thk = some b ∧ b.t = t ∧ σ[i]? = some (some (V.ref b.f))
section
variable {K : PySem.W.Frag} {mg : Str → Option Value} {T : Tg} {F F1 F2 : Hp} {μ μ1 μ2 : List Addr} {g g1 g2 : G} {H H1 H2 : Hp} {S : Sl} {σ : L2.St}
theorem RelS.go (r : RelS K mg T S σ F μ H) (x' : Go K mg T F μ H F1 μ1 g1 H1) : RelS K mg T S σ F1 μ1 H1 where
  len := r.len
  dat := fun i d h => by
    obtain ⟨v, e, q⟩ := r.dat i d h
    exact ⟨v, e, q.mono x'.ff x'.pre⟩
  own := fun i xs h => by
    obtain ⟨a, vs, e, ha, hf, hm, q⟩ := r.own i xs h
    refine ⟨a, vs, e, x'.keep a _ ha hm (fun ps z => nomatch z), ?_, fun z => ?_, q.mono x'.ff x'.pre⟩
    · cases z : F1 a with
      | none => rfl
      | some o =>
        rcases x'.new a o z with y | y
        · rw [hf] at y; cases y
        · rw [ha] at y; cases y
    · rcases x'.newμ a z with y | y
      · exact hm y
      · rw [ha] at y; cases y
  apart := r.apart
  err := fun i x h => by
    obtain ⟨a, cls, dd, h1, h2, h3⟩ := r.err i x h
    exact ⟨a, cls, dd, h1, h2, h3.mono x'.ff x'.pre⟩
  thk := r.thk
end

theorem set_thk {S : Sl} {i j : Nat} {o : Option SV} {t : G → Res D} (h : (S.set i o)[j]? = some (some (.thk t))) (ho : ∀ t, o ≠ some (.thk t)) : i ≠ j ∧ S[j]? = some (some (.thk t)) := by
  by_cases e : i = j
  · subst e
    have hl : i < S.length := by
      have := (List.getElem?_eq_some_iff.mp h).1
      rwa [List.length_set] at this
    rw [List.getElem?_set_self hl] at h
    exact absurd (Option.some.inj h) (ho t)
  · rw [List.getElem?_set_ne e] at h
    exact ⟨e, h⟩
/-! ### what is wanted behind -/
def Aft (K : PySem.W.Frag) (mg : Str → Option Value) (T : Tg) {α β : Type} (RP : List Addr → Hp → β → α → Prop) (r : Res α) (F : Hp) (μ : List Addr) (H : Hp) (Q : β → Hp → Prop) (EX : XK) : Prop :=
  match r with
  | .ok a g' => ∀ v F' μ' H', Go K mg T F μ H F' μ' g' H' → RP μ' F' v a → Q v H'
  | .exc x g' => ∀ cls dd F' μ' H', Go K mg T F μ H F' μ' g' H' → ExcAt K mg F' μ' x cls dd → EX cls dd H'
  | .bad => False
section
variable {K : PySem.W.Frag} {mg : Str → Option Value} {T : Tg} {F F1 F2 : Hp} {μ μ1 μ2 : List Addr} {g g1 g2 : G} {H H1 H2 : Hp} {S : Sl} {σ : L2.St} {EX : XK}
variable {α β γ δ : Type} {RP : List Addr → Hp → β → α → Prop} {RQ : List Addr → Hp → δ → γ → Prop}
theorem Aft.from {r : Res α} {Q : β → Hp → Prop} (x : Go K mg T F μ H F1 μ1 g1 H1) (h : Aft K mg T RP r F μ H Q EX) : Aft K mg T RP r F1 μ1 H1 Q EX := by
  cases r with
  | ok a g' => exact fun v F' μ' H' y q => h v F' μ' H' (x.trans y) q
  | exc e g' => exact fun c d F' μ' H' y q => h c d F' μ' H' (x.trans y) q
  | bad => exact h
theorem Aft.imp {r : Res α} {Q Q' : β → Hp → Prop} (h : Aft K mg T RP r F μ H Q EX) (k : ∀ v H, Q v H → Q' v H) : Aft K mg T RP r F μ H Q' EX := by
  cases r with
  | ok a g' => exact fun v F' μ' H' y q => k _ _ (h v F' μ' H' y q)
  | exc e g' => exact h
  | bad => exact h
theorem Aft.bind {r : Res α} {f : α → G → Res γ} {Q : δ → Hp → Prop} (h : Aft K mg T RQ (r.bind f) F μ H Q EX) :
    Aft K mg T RP r F μ H (fun v H1 => ∃ x F1 μ1 g1, Go K mg T F μ H F1 μ1 g1 H1 ∧ RP μ1 F1 v x ∧ Aft K mg T RQ (f x g1) F1 μ1 H1 Q EX) EX := by
  cases r with
  | ok a g' => exact fun v F' μ' H' y q => ⟨a, F', μ', g', y, q, Aft.from y h⟩
  | exc e g' => exact h
  | bad => exact h
/-- a value that stands already -/
theorem Aft.val {a : α} {Q : β → Hp → Prop} (h : Aft K mg T RP (.ok a g) F μ H Q EX) (v : View K mg T F μ g H) {b : β} (r : RP μ F b a) : Q b H := h b F μ H (Go.refl v) r
theorem Aft.lift {o : Option α} {Q : β → Hp → Prop} (h : Aft K mg T RP (lift o g) F μ H Q EX) : ∃ a, o = some a ∧ Aft K mg T RP (.ok a g) F μ H Q EX := by
  cases o with
  | none => exact h.elim
  | some a => exact ⟨a, rfl, h⟩
/-- a new object of this kind -/
theorem Aft.laid {a : α} {Q : β → Hp → Prop} (h : Aft K mg T RP (.ok a g) F μ H Q EX) (v : View K mg T F μ g H) {p : Addr} {o : HO} (hp : H p = none) (ho : ∀ ps, o ≠ .tbl ps) {b : β} (r : RP μ (upd F p o) b a) : Q b (upd H p o) :=
  h b _ μ _ (v.laid hp ho) r
end
/-- the value is d -/
abbrev RD (K : PySem.W.Frag) (mg : Str → Option Value) : List Addr → Hp → V → D → Prop := fun μ F v d => Rep K mg μ F v d
abbrev RDs (K : PySem.W.Frag) (mg : Str → Option Value) : List Addr → Hp → List V → List D → Prop := fun μ F v d => Reps K mg μ F v d
abbrev RB : List Addr → Hp → Bool → Bool → Prop := fun _ _ a b => a = b
abbrev RDo (K : PySem.W.Frag) (mg : Str → Option Value) : List Addr → Hp → V → Option D → Prop := fun μ F v d => match d with
  | none => v = .non
  | some d => Rep K mg μ F v d

/-! ### readings -/
def tE (K : PySem.W.Frag) (mg : Str → Option Value) (T : Tg) (Φ : Fns) (E : L2.St → XK) (m : ME) : TE := fun σ H Q =>
  ∃ F μ g S, View K mg T F μ g H ∧ RelS K mg T S σ F μ H ∧ Aft K mg T (RD K mg) (ev Φ m S g) F μ H Q (E σ)
def tEs (K : PySem.W.Frag) (mg : Str → Option Value) (T : Tg) (Φ : Fns) (E : L2.St → XK) (ms : List ME) : TA := fun σ H Q =>
  ∃ F μ g S, View K mg T F μ g H ∧ RelS K mg T S σ F μ H ∧ Aft K mg T (RDs K mg) (evs Φ ms S g) F μ H Q (E σ)
/-- a test: the truth of the value -/
def evT (Φ : Fns) (m : ME) (S : Sl) (g : G) : Res Bool := (ev Φ m S g).bind fun x g => lift (truth x) g
def tT (K : PySem.W.Frag) (mg : Str → Option Value) (T : Tg) (Φ : Fns) (E : L2.St → XK) (m : ME) : TT := fun σ H Q =>
  ∃ F μ g S, View K mg T F μ g H ∧ RelS K mg T S σ F μ H ∧ Aft K mg T RB (evT Φ m S g) F μ H Q (E σ)

theorem PE.mono {X : Cx} {e : Expr} {t t' : TE} (h : PE X e t) (k : ∀ σ H Q, t' σ H Q → t σ H Q) : PE X e t' := ⟨fun pins s σ H Q I q => h.run pins s σ H Q I (k σ H Q q)⟩
theorem PT.mono {X : Cx} {e : Expr} {t t' : TT} (h : PT X e t) (k : ∀ σ H Q, t' σ H Q → t σ H Q) : PT X e t' := ⟨fun pins s σ H Q I q => h.run pins s σ H Q I (k σ H Q q)⟩
end SH

set_option Elab.async false
set_option linter.all false
set_option autoImplicit false
set_option maxRecDepth 100000
set_option maxHeartbeats 4000000
namespace SH
open PySem PySem.Spec PyProof.Rows L2 LamX

/-! ### arguments come to parameters -/
def simpleP (p : Arguments) (ps : List Str) : Bool := p.posonlyargs.isEmpty && p.kwonlyargs.isEmpty && p.vararg.isNone && p.kwarg.isNone && decide (p.args.map (·.arg) = ps)
/-- the keywords come in -/
def kwIn {α : Type} (ps : List Str) : List (Str × α) → List (Str × α) → Option (List (Str × α))
  | slots, [] => some slots
  | slots, (k, v) :: r => if ps.contains k && (slots.lookup k).isNone then kwIn ps (slots ++ [(k, v)]) r else none
/-- the defaults come in -/
def dfIn {α : Type} : List (Str × α) → List (Str × α) → List (Str × α)
  | slots, [] => slots
  | slots, (k, v) :: r => if (slots.lookup k).isNone then dfIn (slots ++ [(k, v)]) r else dfIn slots r
def bindP {α : Type} (ps : List Str) (us : List α) (kw : List (Str × α)) (its : List α) : Option (List α) :=
  if us.length ≤ ps.length && its.length ≤ ps.length then match kwIn ps (ps.zip us) kw with
    | some slots => if ((ps.take (ps.length - its.length)).filter fun n => (slots.lookup n).isNone).isEmpty then
        let last := dfIn slots ((ps.drop (ps.length - its.length)).zip its)
        let vs := ps.filterMap fun n => last.lookup n
        if vs.length == ps.length then some vs else none
      else none
    | none => none
  else none
/-- a def as it is called -/
structure FnI where
  name : Str
  ps : List Str
  dfl : List D := []
/-- the promise of the i-th def -/
def spD (K : PySem.W.Frag) (mg : Str → Option Value) (T : Tg) (Φ : Fns) (n i : Nat) : Sp := fun vs H Q E =>
  ∃ F μ g ds, View K mg T F μ g H ∧ Reps K mg μ F vs ds ∧ ds.length = n ∧ Aft K mg T (RD K mg) (Φ i ds g) F μ H Q E
/-- a def's contract, where no guard stands around -/
structure FnG (P : Program) (w : World) (K : PySem.W.Frag) (mg : Str → Option Value) (base : Heap) (k : Nat) (f : Addr) (fd : FuncData) (ps : List Str) (sp : Sp) : Prop where
  run : ∀ (A : Around) (outer : List Env) (s : Shared) (H : Hp) (args : Args) (us : List Value) (vs : List V) (Q : VK) (E : XK), Room k A → A.guards = some [] → Env0 P w K mg base A outer s H → BindsTo s fd args (ps.zip us) → Vals vs us → vs.length = ps.length →
    sp vs H Q E → codeAny (model P w) A (.call (.ref f) args) (CR (CX P w) outer P w H s Q E) s
structure FnAt (X : Cx) (T : Tg) (Φ : Fns) (k i : Nat) (fi : FnI) : Prop where
  at_ : ∃ f fd dvs its, X.mg fi.name = some (.ref f) ∧ PySem.W.keepIn X.K (.ref f) = true ∧ FnG X.prog X.w X.K X.mg X.base k f fd fi.ps (spD X.K X.mg T Φ fi.ps.length i) ∧
    Vals dvs its ∧ (∀ μ F, Reps X.K X.mg μ F dvs fi.dfl) ∧
    (∀ (s : Shared) (us : List Value) (kw : List (Str × Value)) (vs : List Value), X.K.In s.heap → bindP fi.ps us kw its = some vs → BindsTo s fd ⟨us, kw⟩ (fi.ps.zip vs))
/-- what the module's names are: defs, built-in names that it leaves free, constants -/
structure Lib where
  fns : List FnI
  free : List Str
  con : List (Str × D)
  exs : List (Str × List Str)
  /-- the name that an except suite holds its error by -/
  ev : Option Str := none
  /-- which classes' errors each class takes -/
  subs : List (Str × List Str) := []
  /-- lambdas may be made -/
  lam : Bool := false
  /-- the defs that call what they get -/
  says : List (Str × Nat) := []
  /-- a callable was handed in -/
  thk : Bool := false
  /-- the defs that get the error that is handled -/
  hots : List (Str × (Exc → G → Res D)) := []
/-- x(e), e the error that is handled -/
def HotP (P : Program) (w : World) (K : PySem.W.Frag) (mg : Str → Option Value) (base : Heap) (x : Str) (h : Exc → G → Res D) : Prop := ∃ f, mg x = some (.ref f) ∧ PySem.W.keepIn K (.ref f) = true ∧
  ∀ (A : Around) (outer : List Env) (s : Shared) (H : Hp) (Q : VK) (p : Addr × Obj) (T : Tg) (F : Hp) (μ : List Addr) (g : G) (cls : Value) (dd : Option Addr) (ex : Exc), L2H.RoomH 0 A → A.guards = some [] → L2H.PinOk outer H s p → Env0 P w K mg base A outer s H → Zc cls dd p.2 → (∃ vs, p.2.data = .fields vs) →
    T.err = some (p.1, cls, dd) → View K mg T F μ g H → ExcAt K mg F μ ex cls dd → Aft K mg T (RD K mg) (okOnly (h ex g)) F μ H Q (fun _ _ _ => False) → codeAny (model P w) A (.call (.ref f) ⟨[.ref p.1], []⟩) (CR (CX P w) outer P w H s Q (fun _ _ _ => False)) s
/-- f(), whose outcome is t by the store, from the heap H on -/
def Thunk (P : Program) (w : World) (K : PySem.W.Frag) (mg : Str → Option Value) (base : Heap) (T : Tg) (k : Nat) (f : Addr) (s : Shared) (H : Hp) (outer : List Env) (F : Hp) (μ : List Addr) (t : G → Res D) : Prop :=
  ∀ (A' : Around) (outer' : List Env) (s' : Shared) (HZ F' : Hp) (μ' : List Addr) (g' : G) (Q' : VK) (E' : XK), Room k A' → A'.guards = some [] → Env0 P w K mg base A' outer' s' HZ → Un (frs outer) [] H HZ s.heap s'.heap → View K mg T F' μ' g' HZ → Same F F' → Pre μ μ' → Aft K mg T (RD K mg) (t g') F' μ' HZ Q' E' →
    PySem.W.FnAt f s'.heap ∧ codeAny (model P w) A' (.call (.ref f) ⟨[], []⟩) (CR (CX P w) outer' P w HZ s' Q' E') s'
/-- x(f), x a def that calls what it gets -/
structure SaidAt (P : Program) (w : World) (K : PySem.W.Frag) (mg : Str → Option Value) (base : Heap) (T : Tg) (Φ : Fns) (k : Nat) (x : Str) (z : Nat) : Prop where
  at_ : ∃ g, mg x = some (.ref g) ∧ PySem.W.keepIn K (.ref g) = true ∧ ∀ (A : Around) (outer : List Env) (s : Shared) (H : Hp) (f : Addr) (F : Hp) (μ : List Addr) (g0 : G) (t : G → Res D) (Q : VK) (E : XK), Room k A → A.guards = some [] → Env0 P w K mg base A outer s H → View K mg T F μ g0 H →
    Thunk P w K mg base T (k - 1) f s H outer F μ t → Aft K mg T (RD K mg) (Φ.hear z t g0) F μ H Q E → codeAny (model P w) A (.call (.ref g) ⟨[.ref f], []⟩) (CR (CX P w) outer P w H s Q E) s
/-- the callable that was handed in, called in this context -/
def ThkOk (X : Cx) (T : Tg) : Prop := ∀ b, T.thk = some b → X.ex = [] ∧ ∀ (s : Shared) (H F : Hp) (μ : List Addr) (g : G) (Q : VK) (E' : XK), Env0 X.prog X.w X.K X.mg X.base X.A X.stack s H → Un X.fs [] X.H_0 H X.s_0.heap s.heap → View X.K X.mg T F μ g H → Aft X.K X.mg T (RD X.K X.mg) (b.t g) F μ H Q E' →
  PySem.W.FnAt b.f s.heap ∧ codeAny (model X.prog X.w) X.A (.call (.ref b.f) ⟨[], []⟩) (CR (CX X.prog X.w) X.stack X.prog X.w H s Q E') s
/-- a def's code object and its table -/
structure LamOk (base : Heap) (mg : Str → Option Value) (T : Tg) (code : Value) (qual : Str) : Prop where
  ex : ∃ c P, TabB base mg c P ∧ code = .ref c ∧ (P, qual ++ "<lambda>") ∈ T.tabs ∧ ∀ p ∈ T.tabs, p.1 = P → p.2 = qual ++ "<lambda>"
/-- the class of a name -/
def ClsV (mg : Str → Option Value) (C : Str) (cv : Value) : Prop := mg C = some cv ∨ (mg C = none ∧ bootBuiltins C = some cv ∧ C ≠ "__name__")
/-- an own error class, as isinstance and the fields ask -/
structure ErrC (K : PySem.W.Frag) (fs : List Str) (D : Addr) : Prop where
  c : ExcC K D
  no : ∀ f ∈ fs, PySem.W.findIn K (.ref D) f = some none
def SubOk (K : PySem.W.Frag) (mg : Str → Option Value) (exs : List (Str × List Str)) (C : Str) (l : List Str) : Prop :=
  ∃ c : V, ∃ cv : Value, RelV c cv ∧ (∀ u, RelV c u → u = cv) ∧ ClsV mg C cv ∧ ∀ cn fs, (cn, fs) ∈ exs → ∃ D, mg cn = some (.ref D) ∧ ErrC K fs D ∧ PySem.W.kitOne K (.ref D) cv = some (l.contains cn) ∧ PySem.W.exmOne K (.ref D) cv = some (l.contains cn)
structure CtxOk (T : Tg) (Φ : Fns) (L : Lib) (N : List Str) (sc : Scope) (cs : List Str) (k : Nat) (E : L2.St → XK) (X : Cx) : Prop where
  hN : X.N = N
  nd : N.Nodup
  calm : L.ev = none → X.calm = true
  un : X.A.units + 100 < cLine
  hsc : X.env.scope = sc
  room : L.ev = none → Room k X.A
  grd : X.A.guards = some []
  pass : L.ev = none → ∀ σ, PassesAt (CX X.prog X.w) X σ (E σ)
  fns : ∀ i f, L.fns[i]? = some f → FnAt X T Φ k i f
  free : ∀ x ∈ L.free, X.mg x = none
  con : ∀ x d, (x, d) ∈ L.con → ∃ v u, X.mg x = some u ∧ RelV v u ∧ ∀ μ F, Rep X.K X.mg μ F v d
  st : ∀ x ∈ cs, X.fn x = true
  po : L.ev = none → PassesOwn (model X.prog X.w) X.A X.env X.xe
  exs : ∀ cn fs, (cn, fs) ∈ L.exs → ∃ C fI cc cda, ExC X.prog X.K X.mg cn fs C fI cc cda
  tk : L.ev = none → Takes X (fun cls d σ H => E σ cls d H)
  err : ∀ v, L.ev = some v → ∀ a cls dd, T.err = some (a, cls, dd) → ∃ oe, (a, oe) ∈ X.pn ∧ Zc cls dd oe ∧ ∃ vs, oe.data = .fields vs
  subs : ∀ C l, (C, l) ∈ L.subs → SubOk X.K X.mg L.exs C l
  cold : L.ev = none → T.err = none
  lamOk : L.lam = true → LamOk X.base X.mg T X.env.code X.env.qual
  low : L.lam = true → 2 ≤ k ∧ ∀ i f, L.fns[i]? = some f → FnAt X T (lowF Φ) (k - 2) i f
  says : ∀ x z, (x, z) ∈ L.says → SaidAt X.prog X.w X.K X.mg X.base T Φ k x z
  thk : L.thk = true → ThkOk X T
  hots : ∀ x h, (x, h) ∈ L.hots → L2H.RoomH 0 X.A ∧ HotP X.prog X.w X.K X.mg X.base x h
section
variable {T : Tg} {Φ : Fns} {L : Lib} {N : List Str} {sc : Scope} {cs : List Str} {k : Nat} {E : L2.St → XK} {X : Cx}
theorem se_slot {i : Nat} {x : Str} {pos : Pos} (ok : CtxOk T Φ L N sc cs k E X) (hN : N[i]? = some x) (hv : Vis sc x) (hd : (x == ("__debug__" : Str)) = false) (hcd : (x == ("__classdict__" : Str)) = false) :
    PE X (.Name x pos) (tE X.K X.mg T Φ E (.slot i)) := by
  refine PE.mono (pe_var (i := i) (by rw [ok.hN]; exact hN) (by rw [ok.hsc]; exact hv) hd hcd) fun σ H Q h => ?_
  obtain ⟨F, μ, g, S, hv, hr, h⟩ := h
  unfold ev at h
  obtain ⟨d, e, h⟩ := Aft.lift h
  unfold getSl at e
  split at e
  · rename_i d' hd'
    cases e
    obtain ⟨v, e1, e2⟩ := hr.dat _ _ hd'
    exact ⟨v, e1, h.val hv e2⟩
  · cases e
theorem se_int {i : Int} {j : Nat} {pos : Pos} : PE X (.Constant (.int i) j pos) (tE X.K X.mg T Φ E (.lit (.int i))) :=
  PE.mono pe_int fun σ H Q ⟨F, μ, g, S, hv, hr, h⟩ => Aft.val (RP := RD X.K X.mg) h hv (.int i)
theorem se_bl {i : Bool} {j : Nat} {pos : Pos} : PE X (.Constant (.bool i) j pos) (tE X.K X.mg T Φ E (.lit (.bl i))) :=
  PE.mono pe_bl fun σ H Q ⟨F, μ, g, S, hv, hr, h⟩ => Aft.val (RP := RD X.K X.mg) h hv (.bl i)
theorem se_str {i : Str} {j : Nat} {pos : Pos} : PE X (.Constant (.str i) j pos) (tE X.K X.mg T Φ E (.lit (.str i))) :=
  PE.mono pe_str fun σ H Q ⟨F, μ, g, S, hv, hr, h⟩ => Aft.val (RP := RD X.K X.mg) h hv (.str i)
theorem se_non {j : Nat} {pos : Pos} : PE X (.Constant .none j pos) (tE X.K X.mg T Φ E (.lit .non)) :=
  PE.mono pe_non fun σ H Q ⟨F, μ, g, S, hv, hr, h⟩ => Aft.val (RP := RD X.K X.mg) h hv .non

theorem PA.mono {X : Cx} {e : List Expr} {t t' : TA} (h : PA X e t) (k : ∀ σ H Q, t' σ H Q → t σ H Q) : PA X e t' := ⟨fun pos pins s σ H Q I q => h.run pos pins s σ H Q I (k σ H Q q)⟩
theorem sa_nil : PA X [] (tEs X.K X.mg T Φ E []) :=
  PA.mono pa_nil fun σ H Q ⟨F, μ, g, S, hv, hr, h⟩ => Aft.val (RP := RDs X.K X.mg) h hv .nil
theorem ntT {vs : List V} : ∀ ps, HO.tup vs ≠ .tbl ps := fun ps z => by cases z
theorem ntL {vs : List V} : ∀ ps, HO.lst vs ≠ .tbl ps := fun ps z => by cases z
def notStar : Expr → Bool
  | .Starred .. => false
  | _ => true
theorem star_of {e : Expr} {es : List Expr} {env : Env} (h : notStar e = true) : starEach (e :: es) env = (false, eval e env) :: starEach es env := by
  cases e <;> first | rfl | cases h
theorem sa_cons {e : Expr} {es : List Expr} {m : ME} {ms : List ME} (he : PE X e (tE X.K X.mg T Φ E m)) (hes : PA X es (tEs X.K X.mg T Φ E ms)) (hst : notStar e = true) : PA X (e :: es) (tEs X.K X.mg T Φ E (m :: ms)) := by
  refine PA.mono (pa_cons he hes (star_of hst)) fun σ H Q h => ?_
  obtain ⟨F, μ, g, S, hv, hr, h⟩ := h
  unfold evs at h
  refine ⟨F, μ, g, S, hv, hr, Aft.imp (Aft.bind h) fun v H1 ⟨x, F1, μ1, g1, y, r, h1⟩ => ?_⟩
  refine ⟨F1, μ1, g1, S, y.view, hr.go y, Aft.imp (Aft.bind (RP := RDs X.K X.mg) h1) fun vs H2 ⟨xs, F2, μ2, g2, y2, rs, h2⟩ => ?_⟩
  exact Aft.val (RP := RDs X.K X.mg) h2 y2.view (.cons (r.mono y2.ff y2.pre) rs)
theorem evs_len (Φ : Fns) : ∀ (ms : List ME) (S : Sl) (g g' : G) (l : List D), evs Φ ms S g = .ok l g' → l.length = ms.length
  | [], S, g, g', l, h => by unfold evs at h; cases h; rfl
  | m :: ms, S, g, g', l, h => by
    unfold evs at h
    cases e : ev Φ m S g with
    | ok x g1 =>
      rw [e] at h
      cases e2 : evs Φ ms S g1 with
      | ok xs g2 =>
        simp only [Res.bind, e2] at h
        cases h
        simp [evs_len Φ ms S g1 _ xs e2]
      | exc _ _ => simp only [Res.bind, e2] at h; cases h
      | bad => simp only [Res.bind, e2] at h; cases h
    | exc _ _ => rw [e] at h; cases h
    | bad => rw [e] at h; cases h
theorem Aft.bindE {K : PySem.W.Frag} {mg : Str → Option Value} {T : Tg} {F : Hp} {μ : List Addr} {H : Hp} {EX : XK} {α β γ δ : Type} {RP : List Addr → Hp → β → α → Prop} {RQ : List Addr → Hp → δ → γ → Prop}
    {r : Res α} {f : α → G → Res γ} {Q : δ → Hp → Prop} (h : Aft K mg T RQ (r.bind f) F μ H Q EX) :
    Aft K mg T RP r F μ H (fun v H1 => ∃ x F1 μ1 g1, r = .ok x g1 ∧ Go K mg T F μ H F1 μ1 g1 H1 ∧ RP μ1 F1 v x ∧ Aft K mg T RQ (f x g1) F1 μ1 H1 Q EX) EX := by
  cases r with
  | ok a g' => exact fun v F' μ' H' y q => ⟨a, F', μ', g', rfl, y, q, Aft.from y h⟩
  | exc e g' => exact h
  | bad => exact h
theorem se_tup {es : List Expr} {ms : List ME} {j : Nat} {pos : Pos} (hes : PA X es (tEs X.K X.mg T Φ E ms)) (hl : ms.length ≤ sizeLine) : PE X (.Tuple es j pos) (tE X.K X.mg T Φ E (.tup ms)) := by
  refine PE.mono (pe_tup hes) fun σ H Q h => ?_
  obtain ⟨F, μ, g, S, hv, hr, h⟩ := h
  unfold ev at h
  refine ⟨F, μ, g, S, hv, hr, Aft.imp (Aft.bindE (RP := RDs X.K X.mg) h) fun vs H1 ⟨x, F1, μ1, g1, e, y, r, h1⟩ => ⟨?_, fun p hp => ?_⟩⟩
  · rw [r.length, evs_len _ _ _ _ _ _ e]; exact hl
  · exact Aft.laid (RP := RD X.K X.mg) h1 y.view hp ntT (.tup (SqT.of upd_same) (r.mono (y.view.laid hp ntT).ff (Pre.refl _)))
theorem se_lst {es : List Expr} {ms : List ME} {pos : Pos} (hes : PA X es (tEs X.K X.mg T Φ E ms)) (hl : ms.length ≤ sizeLine) : PE X (.List es pos) (tE X.K X.mg T Φ E (.lst ms)) := by
  refine PE.mono (pe_lst hes) fun σ H Q h => ?_
  obtain ⟨F, μ, g, S, hv, hr, h⟩ := h
  unfold ev at h
  refine ⟨F, μ, g, S, hv, hr, Aft.imp (Aft.bindE (RP := RDs X.K X.mg) h) fun vs H1 ⟨x, F1, μ1, g1, e, y, r, h1⟩ => ⟨?_, fun p hp => ?_⟩⟩
  · rw [r.length, evs_len _ _ _ _ _ _ e]; exact hl
  · exact Aft.laid (RP := RD X.K X.mg) h1 y.view hp ntL (.lst upd_same (r.mono (y.view.laid hp ntL).ff (Pre.refl _)))
/-- what a binary operation asks of its values -/
def OpD (X : Cx) (T : Tg) (f : D → D → Option D) (r : V → V → Hp → VK → Prop) : Prop :=
  ∀ {x y z : D} {v w : V} {F : Hp} {μ : List Addr} {g : G} {H : Hp} {Q : VK} {EX : XK}, f x y = some z → View X.K X.mg T F μ g H → Rep X.K X.mg μ F v x → Rep X.K X.mg μ F w y → Aft X.K X.mg T (RD X.K X.mg) (.ok z g) F μ H Q EX → r v w H Q
theorem se_op {a b : Expr} {ma mb : ME} {f : D → D → Option D} {r : V → V → Hp → VK → Prop} (ha : PE X a (tE X.K X.mg T Φ E ma)) (hb : PE X b (tE X.K X.mg T Φ E mb)) (hf : OpD X T f r) {σ : L2.St} {H : Hp} {Q : VK}
    (h : ∃ F μ g S, View X.K X.mg T F μ g H ∧ RelS X.K X.mg T S σ F μ H ∧ Aft X.K X.mg T (RD X.K X.mg) ((ev Φ ma S g).bind fun x g => (ev Φ mb S g).bind fun y g => lift (f x y) g) F μ H Q (E σ)) : tOp r (tE X.K X.mg T Φ E ma) (tE X.K X.mg T Φ E mb) σ H Q := by
  obtain ⟨F, μ, g, S, hv, hr, h⟩ := h
  refine ⟨F, μ, g, S, hv, hr, Aft.imp (Aft.bind h) fun v H1 ⟨x, F1, μ1, g1, y1, r1, h1⟩ => ?_⟩
  refine ⟨F1, μ1, g1, S, y1.view, hr.go y1, Aft.imp (Aft.bind h1) fun w H2 ⟨y, F2, μ2, g2, y2, r2, h2⟩ => ?_⟩
  obtain ⟨z, e, h3⟩ := Aft.lift h2
  exact hf e y2.view (r1.mono y2.ff y2.pre) r2 h3
theorem se_bin {a b : Expr} {ma mb : ME} {op : Operator} {o : BOp} {pos : Pos} {r : V → V → Hp → VK → Prop} (ho : OpR X (binaryOp op) r) (hf : OpD X T (bin o) r) (ha : PE X a (tE X.K X.mg T Φ E ma)) (hb : PE X b (tE X.K X.mg T Φ E mb)) :
    PE X (.BinOp a op b pos) (tE X.K X.mg T Φ E (.bin o ma mb)) := by
  refine PE.mono (pe_op ho ha hb) fun σ H Q h => se_op ha hb hf ?_
  obtain ⟨F, μ, g, S, hv, hr, h⟩ := h
  unfold ev at h
  exact ⟨F, μ, g, S, hv, hr, h⟩
end
end SH

set_option Elab.async false
set_option linter.all false
set_option autoImplicit false
set_option maxRecDepth 100000
set_option maxHeartbeats 4000000
namespace SH
open PySem PySem.Spec PyProof.Rows L2 LamX
section
variable {T : Tg} {Φ : Fns} {L : Lib} {N : List Str} {sc : Scope} {cs : List Str} {k : Nat} {E : L2.St → XK} {X : Cx}
theorem sizeOk_le {n : Nat} (h : sizeOk n = true) : n ≤ sizeLine := Nat.le_of_ble_eq_true h
/-! ### operators -/
theorem Reps.times {K : PySem.W.Frag} {mg : Str → Option Value} {μ : List Addr} {F : Hp} {vs : List V} {ds : List D} (r : Reps K mg μ F vs ds) : ∀ n : Nat, Reps K mg μ F (List.replicate n vs).flatten (List.replicate n ds).flatten
  | 0 => .nil
  | n + 1 => by
    rw [List.replicate_succ, List.replicate_succ, List.flatten_cons, List.flatten_cons]
    exact r.append (Reps.times r n)
def rAddD (K : PySem.W.Frag) : V → V → Hp → VK → Prop := fun x y H Q => (((∃ i j : Int, x = .int i ∧ y = .int j ∧ Q (.int (i + j)) H) ∨ (∃ i j, x = .str i ∧ y = .str j ∧ i.length + j.length ≤ sizeLine ∧ Q (.str (i ++ j)) H)) ∨ rCat x y H Q) ∨ rCatA K x y H Q
theorem op_addD : OpR X (binaryOp .Add) (rAddD X.K) := OpR.or (OpR.or (OpR.or op_add op_add_str) op_cat) op_catA
theorem od_add : OpD X T (bin .add) (rAddD X.K) := by
  intro x y z v w F μ g H Q EX e hv rx ry h
  unfold bin at e
  cases rx <;> cases ry <;> try (cases e; done)
  · cases e; exact .inl (.inl (.inl ⟨_, _, rfl, rfl, Aft.val (RP := RD X.K X.mg) h hv (.int _)⟩))
  · rename_i i j
    simp only at e
    split at e
    · rename_i hz
      cases e
      exact .inl (.inl (.inr ⟨_, _, rfl, rfl, sizeOk_le hz, Aft.val (RP := RD X.K X.mg) h hv (.str _)⟩))
    · cases e
  · rename_i a vs ds q1 r1 b us es q2 r2
    simp only at e
    split at e
    · rename_i hz
      cases e
      have hz' := sizeOk_le hz
      refine .inr ⟨a, b, vs, us, rfl, rfl, sqT_same hv.le q1, sqT_same hv.le q2, by rw [r1.length, r2.length]; exact hz', ?_, ?_, ?_⟩
      · rintro rfl
        cases r1
        exact Aft.val (RP := RD X.K X.mg) h hv (.tup q2 r2)
      · rintro hx rfl
        cases r2
        refine Aft.val (RP := RD X.K X.mg) h hv ?_
        rw [List.append_nil]
        exact .tup q1 r1
      · intro _ _ p hp
        have gg := hv.laid (p := p) (o := .tup (vs ++ us)) hp ntT
        exact Aft.laid (RP := RD X.K X.mg) h hv hp ntT (.tup (SqT.of upd_same) ((r1.mono gg.ff (Pre.refl _)).append (r2.mono gg.ff (Pre.refl _))))
    · cases e
  · rename_i a vs ds q1 r1 b us es q2 r2
    simp only at e
    split at e
    · rename_i hz
      cases e
      have hz' := sizeOk_le hz
      refine .inl (.inr ⟨a, b, vs, us, rfl, rfl, hv.le _ _ q1, hv.le _ _ q2, by rw [r1.length, r2.length]; exact hz', fun p hp => ?_⟩)
      have gg := hv.laid (p := p) (o := .lst (vs ++ us)) hp ntL
      exact Aft.laid (RP := RD X.K X.mg) h hv hp ntL (.lst upd_same ((r1.mono gg.ff (Pre.refl _)).append (r2.mono gg.ff (Pre.refl _))))
    · cases e
theorem od_sub : OpD X T (bin .sub) (rI0 fun i j => .int (i - j)) := by
  intro x y z v w F μ g H Q EX e hv rx ry h
  unfold bin at e
  cases rx <;> cases ry <;> try (cases e; done)
  cases e; exact ⟨_, _, rfl, rfl, Aft.val (RP := RD X.K X.mg) h hv (.int _)⟩
def rMulD (K : PySem.W.Frag) : V → V → Hp → VK → Prop := fun x y H Q => (rI CMul (fun i j => .int (i * j)) x y H Q ∨ rRep x y H Q) ∨ (rRepT K x y H Q ∨ rRepT0 K x y H Q)
theorem op_mulD : OpR X (binaryOp .Mult) (rMulD X.K) := OpR.or (OpR.or op_mul op_rep) (OpR.or op_repT op_repT0)
theorem od_mul : OpD X T (bin .mul) (rMulD X.K) := by
  intro x y z v w F μ g H Q EX e hv rx ry h
  unfold bin at e
  cases rx <;> cases ry <;> try (cases e; done)
  · simp only at e
    split at e
    · rename_i hz
      cases e
      refine .inl (.inl ⟨_, _, rfl, rfl, ?_, Aft.val (RP := RD X.K X.mg) h hv (.int _)⟩)
      simp only [Bool.or_eq_true, decide_eq_true_eq] at hz
      unfold CMul
      omega
    · cases e
  · rename_i a vs ds q1 r1 n
    simp only at e
    split at e
    · rename_i hz
      cases e
      simp only [Bool.and_eq_true, decide_eq_true_eq] at hz
      by_cases hsame : vs = [] ∨ n ≤ 1
      · refine .inr (.inr ⟨a, n, vs, rfl, rfl, sqT_same hv.le q1, hz.1.1, hz.1.2, hsame, fun hw => ?_, fun hne hk p hp => ?_⟩)
        · refine Aft.val (RP := RD X.K X.mg) h hv ?_
          rcases hw with rfl | rfl
          · cases r1
            have e0 : (List.replicate n.toNat ([] : List D)).flatten = [] := by simp
            rw [e0]
            exact .tup q1 .nil
          · have e0 : (List.replicate (1 : Int).toNat ds).flatten = ds := by simp
            rw [e0]
            exact .tup q1 r1
        · have e0 : (List.replicate n.toNat ds).flatten = [] := by
            rw [show n.toNat = 0 by omega]; rfl
          rw [e0] at h
          exact Aft.laid (RP := RD X.K X.mg) h hv hp ntT (.tup (SqT.of upd_same) .nil)
      refine .inr (.inl ⟨a, n, vs, rfl, rfl, sqT_same hv.le q1, fun e => hsame (.inl e), by have : ¬ n ≤ 1 := fun e => hsame (.inr e); omega, hz.1.2, by rw [r1.length]; exact Nat.le_of_ble_eq_true hz.2, fun p hp => ?_⟩)
      · have gg := hv.laid (p := p) (o := .tup (List.replicate n.toNat vs).flatten) hp ntT
        exact Aft.laid (RP := RD X.K X.mg) h hv hp ntT (.tup (SqT.of upd_same) (Reps.times (r1.mono gg.ff (Pre.refl _)) _))
    · cases e
  · rename_i a vs ds q1 r1 n
    simp only at e
    split at e
    · rename_i hz
      cases e
      simp only [Bool.and_eq_true, decide_eq_true_eq] at hz
      refine .inl (.inr ⟨a, n, vs, rfl, rfl, hv.le _ _ q1, by omega, by omega, by rw [r1.length]; exact sizeOk_le hz.2, fun p hp => ?_⟩)
      have gg := hv.laid (p := p) (o := .lst (List.replicate n.toNat vs).flatten) hp ntL
      exact Aft.laid (RP := RD X.K X.mg) h hv hp ntL (.lst upd_same (Reps.times (r1.mono gg.ff (Pre.refl _)) _))
    · cases e
theorem od_mod : OpD X T (bin .mod) (rI (fun _ j => 0 < j) fun i j => .int (i % j)) := by
  intro x y z v w F μ g H Q EX e hv rx ry h
  unfold bin at e
  cases rx <;> cases ry <;> try (cases e; done)
  simp only at e
  split at e
  · cases e; exact ⟨_, _, rfl, rfl, by assumption, Aft.val (RP := RD X.K X.mg) h hv (.int _)⟩
  · cases e
theorem od_fdiv : OpD X T (bin .fdiv) (rI CDiv fun i j => .int (i / j)) := by
  intro x y z v w F μ g H Q EX e hv rx ry h
  unfold bin at e
  cases rx <;> cases ry <;> try (cases e; done)
  simp only at e
  split at e
  · rename_i hz
    simp only [Bool.and_eq_true, decide_eq_true_eq] at hz
    cases e; exact ⟨_, _, rfl, rfl, hz, Aft.val (RP := RD X.K X.mg) h hv (.int _)⟩
  · cases e
theorem od_pow : OpD X T (bin .pow) (rI CPow fun i j => .int (i ^ j.toNat)) := by
  intro x y z v w F μ g H Q EX e hv rx ry h
  unfold bin at e
  cases rx <;> cases ry <;> try (cases e; done)
  simp only at e
  split at e
  · rename_i hz
    simp only [Bool.and_eq_true, decide_eq_true_eq] at hz
    cases e; exact ⟨_, _, rfl, rfl, ⟨hz.1.1, hz.1.2, by omega⟩, Aft.val (RP := RD X.K X.mg) h hv (.int _)⟩
  · cases e
/-! ### one operand -/
theorem se_neg {a : Expr} {ma : ME} {pos : Pos} (ha : PE X a (tE X.K X.mg T Φ E ma)) : PE X (.UnaryOp .USub a pos) (tE X.K X.mg T Φ E (.neg ma)) := by
  refine PE.mono (pe_un un_neg ha) fun σ H Q h => ?_
  obtain ⟨F, μ, g, S, hv, hr, h⟩ := h
  unfold ev at h
  refine ⟨F, μ, g, S, hv, hr, Aft.imp (Aft.bind h) fun v H1 ⟨x, F1, μ1, g1, y1, r1, h1⟩ => ?_⟩
  cases r1 <;> try (exact h1.elim)
  exact ⟨_, rfl, Aft.val (RP := RD X.K X.mg) h1 y1.view (.int _)⟩
theorem rep_non {K : PySem.W.Frag} {mg : Str → Option Value} {μ : List Addr} {F : Hp} {v : V} {d : D} (r : Rep K mg μ F v d) : decide (v = .non) = d.isNon := by
  cases r <;> first | rfl | exact decide_eq_false (fun z => nomatch z)
theorem se_isN {a : Expr} {ma : ME} {j : Nat} {p pos : Pos} (ha : PE X a (tE X.K X.mg T Φ E ma)) : PE X (.Compare a [.Is] [.Constant .none j p] pos) (tE X.K X.mg T Φ E (.isN ma)) := by
  refine PE.mono (pe_cmp (pc_isN ha)) fun σ H Q h => ?_
  obtain ⟨F, μ, g, S, hv, hr, h⟩ := h
  unfold ev at h
  refine ⟨F, μ, g, S, hv, hr, Aft.imp (Aft.bind h) fun v H1 ⟨x, F1, μ1, g1, y1, r1, h1⟩ => ?_⟩
  rw [rep_non r1]
  exact Aft.val (RP := RD X.K X.mg) h1 y1.view (.bl _)
theorem se_notN {a : Expr} {ma : ME} {j : Nat} {p pos : Pos} (ha : PE X a (tE X.K X.mg T Φ E ma)) : PE X (.Compare a [.IsNot] [.Constant .none j p] pos) (tE X.K X.mg T Φ E (.notN ma)) := by
  refine PE.mono (pe_cmp (pc_notN ha)) fun σ H Q h => ?_
  obtain ⟨F, μ, g, S, hv, hr, h⟩ := h
  unfold ev at h
  refine ⟨F, μ, g, S, hv, hr, Aft.imp (Aft.bind h) fun v H1 ⟨x, F1, μ1, g1, y1, r1, h1⟩ => ?_⟩
  rw [rep_non r1]
  exact Aft.val (RP := RD X.K X.mg) h1 y1.view (.bl _)
/-! ### truth -/
theorem tru_of {K : PySem.W.Frag} {mg : Str → Option Value} {μ : List Addr} {F H : Hp} {v : V} {d : D} {b : Bool} (le : Same F H) (r : Rep K mg μ F v d) (h : truth d = some b) : TruV K v H b := by
  cases r <;> unfold truth at h <;> try (cases h; done)
  · cases h; rfl
  · cases h; rfl
  · cases h; rfl
  · simp only at h
    split at h
    · cases h; exact ⟨sizeOk_le (by assumption), rfl⟩
    · cases h
  · rename_i a vs ds q rs
    cases h
    refine .inr (.inl ⟨vs, sqT_same le q, ?_⟩)
    cases rs <;> rfl
  · rename_i a vs ds q rs
    cases h
    refine .inl ⟨vs, SqL.of (le _ _ q), ?_⟩
    cases rs <;> rfl
theorem se_and {a b : Expr} {rest : List Expr} {ma mb : ME} {pos : Pos} (ha : PE X a (tE X.K X.mg T Φ E ma)) (hb : PE X (.BoolOp .And (b :: rest) pos) (tE X.K X.mg T Φ E mb)) : PE X (.BoolOp .And (a :: b :: rest) pos) (tE X.K X.mg T Φ E (.and_ ma mb)) := by
  refine PE.mono (pe_andT ha hb) fun σ H Q h => ?_
  obtain ⟨F, μ, g, S, hv, hr, h⟩ := h
  unfold ev at h
  refine ⟨F, μ, g, S, hv, hr, Aft.imp (Aft.bind h) fun v H1 ⟨x, F1, μ1, g1, y1, r1, h1⟩ => ?_⟩
  cases e : truth x with
  | none => rw [e] at h1; exact h1.elim
  | some c =>
    rw [e] at h1
    refine ⟨c, tru_of y1.view.le r1 e, ?_⟩
    cases c with
    | true => exact ⟨F1, μ1, g1, S, y1.view, hr.go y1, h1⟩
    | false => exact Aft.val (RP := RD X.K X.mg) h1 y1.view r1
theorem se_or {a b : Expr} {rest : List Expr} {ma mb : ME} {pos : Pos} (ha : PE X a (tE X.K X.mg T Φ E ma)) (hb : PE X (.BoolOp .Or (b :: rest) pos) (tE X.K X.mg T Φ E mb)) : PE X (.BoolOp .Or (a :: b :: rest) pos) (tE X.K X.mg T Φ E (.or_ ma mb)) := by
  refine PE.mono (pe_orT ha hb) fun σ H Q h => ?_
  obtain ⟨F, μ, g, S, hv, hr, h⟩ := h
  unfold ev at h
  refine ⟨F, μ, g, S, hv, hr, Aft.imp (Aft.bind h) fun v H1 ⟨x, F1, μ1, g1, y1, r1, h1⟩ => ?_⟩
  cases e : truth x with
  | none => rw [e] at h1; exact h1.elim
  | some c =>
    rw [e] at h1
    refine ⟨c, tru_of y1.view.le r1 e, ?_⟩
    cases c with
    | false => exact ⟨F1, μ1, g1, S, y1.view, hr.go y1, h1⟩
    | true => exact Aft.val (RP := RD X.K X.mg) h1 y1.view r1
theorem se_not {a : Expr} {ma : ME} {pos : Pos} (ha : PE X a (tE X.K X.mg T Φ E ma)) : PE X (.UnaryOp .Not a pos) (tE X.K X.mg T Φ E (.not_ ma)) := by
  refine PE.mono (pe_notT ha) fun σ H Q h => ?_
  obtain ⟨F, μ, g, S, hv, hr, h⟩ := h
  unfold ev at h
  refine ⟨F, μ, g, S, hv, hr, Aft.imp (Aft.bind h) fun v H1 ⟨x, F1, μ1, g1, y1, r1, h1⟩ => ?_⟩
  cases e : truth x with
  | none => rw [e] at h1; exact h1.elim
  | some c =>
    rw [e] at h1
    exact ⟨c, tru_of y1.view.le r1 e, Aft.val (RP := RD X.K X.mg) h1 y1.view (.bl _)⟩
/-! ### tests -/
theorem evT_and (ma mb : ME) (S : Sl) (g : G) : evT Φ (.and_ ma mb) S g = (evT Φ ma S g).bind fun c g => match c with | true => evT Φ mb S g | false => .ok false g := by
  unfold evT
  simp only [ev]
  cases ev Φ ma S g with
  | ok x g1 =>
    simp only [Res.bind]
    cases e : truth x with
    | none => rfl
    | some c => cases c <;> simp [lift, e]
  | exc _ _ => rfl
  | bad => rfl
theorem evT_or (ma mb : ME) (S : Sl) (g : G) : evT Φ (.or_ ma mb) S g = (evT Φ ma S g).bind fun c g => match c with | false => evT Φ mb S g | true => .ok true g := by
  unfold evT
  simp only [ev]
  cases ev Φ ma S g with
  | ok x g1 =>
    simp only [Res.bind]
    cases e : truth x with
    | none => rfl
    | some c => cases c <;> simp [lift, e]
  | exc _ _ => rfl
  | bad => rfl
theorem evT_not (ma : ME) (S : Sl) (g : G) : evT Φ (.not_ ma) S g = (evT Φ ma S g).bind fun c g => .ok (!c) g := by
  unfold evT
  rw [show ev Φ (.not_ ma) S g = (ev Φ ma S g).bind fun x g => (lift (truth x) g).bind fun b g => .ok (.bl (!b)) g from by rw [ev]]
  cases ev Φ ma S g with
  | ok x g1 =>
    simp only [Res.bind]
    cases e : truth x with
    | none => rfl
    | some c => rfl
  | exc _ _ => rfl
  | bad => rfl
def plainTest : Expr → Bool
  | .UnaryOp .Not _ _ => false
  | .BoolOp .. => false
  | .IfExp .. => false
  | .Compare .. => false
  | _ => true
theorem plainTest_is {e : Expr} {env : Env} (h : plainTest e = true) (whole : Sem Value) : isTrue e env whole = (do let v ← whole; standAt e.pos; holding [v] (truthy v)) := by
  cases e <;> first | rfl | (cases h; done) | skip
  rename_i op a p
  cases op <;> first | rfl | cases h
theorem st_val {e : Expr} {m : ME} (he : PE X e (tE X.K X.mg T Φ E m)) (hp : plainTest e = true) : PT X e (tT X.K X.mg T Φ E m) := by
  refine PT.mono (pt_truth he (plainTest_is hp)) fun σ H Q h => ?_
  obtain ⟨F, μ, g, S, hv, hr, h⟩ := h
  unfold evT at h
  refine ⟨F, μ, g, S, hv, hr, Aft.imp (Aft.bind h) fun v H1 ⟨x, F1, μ1, g1, y1, r1, h1⟩ => ?_⟩
  obtain ⟨b, e, h2⟩ := Aft.lift h1
  exact ⟨b, tru_of y1.view.le r1 e, Aft.val (RP := RB) h2 y1.view rfl⟩
theorem PW.mono {X : Cx} {e : Expr} {t t' : TT} (h : PW X e t) (k : ∀ σ H Q, t' σ H Q → t σ H Q) : PW X e t' := ⟨fun whole pins s σ H Q I q => h.run whole pins s σ H Q I (k σ H Q q)⟩
theorem sw_and {a b : Expr} {rest : List Expr} {ma mb : ME} {pos : Pos} (ha : PT X a (tT X.K X.mg T Φ E ma)) (hb : PW X (.BoolOp .And (b :: rest) pos) (tT X.K X.mg T Φ E mb)) : PW X (.BoolOp .And (a :: b :: rest) pos) (tT X.K X.mg T Φ E (.and_ ma mb)) := by
  refine PW.mono (pw_and ha hb) fun σ H Q h => ?_
  obtain ⟨F, μ, g, S, hv, hr, h⟩ := h
  rw [evT_and] at h
  refine ⟨F, μ, g, S, hv, hr, Aft.imp (Aft.bind (RP := RB) h) fun v H1 ⟨x, F1, μ1, g1, y1, r1, h1⟩ => ?_⟩
  cases r1
  cases v with
  | true => exact ⟨F1, μ1, g1, S, y1.view, hr.go y1, h1⟩
  | false => exact Aft.val (RP := RB) h1 y1.view rfl
theorem sw_or {a b : Expr} {rest : List Expr} {ma mb : ME} {pos : Pos} (ha : PT X a (tT X.K X.mg T Φ E ma)) (hb : PW X (.BoolOp .Or (b :: rest) pos) (tT X.K X.mg T Φ E mb)) : PW X (.BoolOp .Or (a :: b :: rest) pos) (tT X.K X.mg T Φ E (.or_ ma mb)) := by
  refine PW.mono (pw_or ha hb) fun σ H Q h => ?_
  obtain ⟨F, μ, g, S, hv, hr, h⟩ := h
  rw [evT_or] at h
  refine ⟨F, μ, g, S, hv, hr, Aft.imp (Aft.bind (RP := RB) h) fun v H1 ⟨x, F1, μ1, g1, y1, r1, h1⟩ => ?_⟩
  cases r1
  cases v with
  | false => exact ⟨F1, μ1, g1, S, y1.view, hr.go y1, h1⟩
  | true => exact Aft.val (RP := RB) h1 y1.view rfl
theorem st_not {a : Expr} {ma : ME} {pos : Pos} (ha : PT X a (tT X.K X.mg T Φ E ma)) : PT X (.UnaryOp .Not a pos) (tT X.K X.mg T Φ E (.not_ ma)) := by
  refine PT.mono (pt_not ha) fun σ H Q h => ?_
  obtain ⟨F, μ, g, S, hv, hr, h⟩ := h
  rw [evT_not] at h
  refine ⟨F, μ, g, S, hv, hr, Aft.imp (Aft.bind (RP := RB) h) fun v H1 ⟨x, F1, μ1, g1, y1, r1, h1⟩ => ?_⟩
  cases r1
  exact Aft.val (RP := RB) h1 y1.view rfl
/-- a comparison as a test -/
theorem st_cmp {e : Expr} {m : ME} {t : TE} (h : PT X e (tTest t)) (k : ∀ σ H Q, tE X.K X.mg T Φ E m σ H Q → t σ H Q) (hb : ∀ S g d g', ev Φ m S g = .ok d g' → ∃ b, d = .bl b) : PT X e (tT X.K X.mg T Φ E m) := by
  refine PT.mono h fun σ H Q h => k σ H _ ?_
  obtain ⟨F, μ, g, S, hv, hr, h⟩ := h
  refine ⟨F, μ, g, S, hv, hr, ?_⟩
  unfold evT at h
  have hb' := hb S g
  cases e : ev Φ m S g with
  | ok d g1 =>
    rw [e] at h
    obtain ⟨b, rfl⟩ := hb' d g1 e
    intro v F' μ' H' y r
    cases r
    exact ⟨b, rfl, h b F' μ' H' y rfl⟩
  | exc x g1 => rw [e] at h; exact h
  | bad => rw [e] at h; exact h
theorem bl_cmp {o : COp} {ma mb : ME} (S : Sl) (g : G) (d : D) (g' : G) (h : ev Φ (.cmp o ma mb) S g = .ok d g') : ∃ b, d = .bl b := by
  simp only [ev] at h
  cases e : ev Φ ma S g with
  | ok x g1 =>
    simp only [e, Res.bind] at h
    cases e2 : ev Φ mb S g1 with
    | ok y g2 =>
      simp only [e2] at h
      cases e3 : cmp o x y with
      | none => simp only [e3, lift] at h; cases h
      | some c => simp only [e3, lift] at h; cases h; exact ⟨_, rfl⟩
    | exc _ _ => simp only [e2] at h; cases h
    | bad => simp only [e2] at h; cases h
  | exc _ _ => simp only [e, Res.bind] at h; cases h
  | bad => simp only [e, Res.bind] at h; cases h
theorem bl_isN {ma : ME} (S : Sl) (g : G) (d : D) (g' : G) (h : ev Φ (.isN ma) S g = .ok d g') : ∃ b, d = .bl b := by
  simp only [ev] at h
  cases e : ev Φ ma S g with
  | ok x g1 => simp only [e, Res.bind] at h; cases h; exact ⟨_, rfl⟩
  | exc _ _ => simp only [e, Res.bind] at h; cases h
  | bad => simp only [e, Res.bind] at h; cases h
theorem bl_notN {ma : ME} (S : Sl) (g : G) (d : D) (g' : G) (h : ev Φ (.notN ma) S g = .ok d g') : ∃ b, d = .bl b := by
  simp only [ev] at h
  cases e : ev Φ ma S g with
  | ok x g1 => simp only [e, Res.bind] at h; cases h; exact ⟨_, rfl⟩
  | exc _ _ => simp only [e, Res.bind] at h; cases h
  | bad => simp only [e, Res.bind] at h; cases h
theorem se_ite {c a b : Expr} {mc ma mb : ME} {pos : Pos} (hc : PT X c (tT X.K X.mg T Φ E mc)) (ha : PE X a (tE X.K X.mg T Φ E ma)) (hb : PE X b (tE X.K X.mg T Φ E mb)) : PE X (.IfExp c a b pos) (tE X.K X.mg T Φ E (.ite mc ma mb)) := by
  refine PE.mono (pe_ifExp hc ha hb) fun σ H Q h => ?_
  obtain ⟨F, μ, g, S, hv, hr, h⟩ := h
  have e : ev Φ (.ite mc ma mb) S g = (evT Φ mc S g).bind fun c g => match c with | true => ev Φ ma S g | false => ev Φ mb S g := by
    rw [ev]
    unfold evT
    cases ev Φ mc S g with
    | ok x g1 =>
      simp only [Res.bind]
      cases e : truth x with
      | none => rfl
      | some c => cases c <;> rfl
    | exc _ _ => rfl
    | bad => rfl
  rw [e] at h
  refine ⟨F, μ, g, S, hv, hr, Aft.imp (Aft.bind (RP := RB) h) fun v H1 ⟨x, F1, μ1, g1, y1, r1, h1⟩ => ?_⟩
  cases r1
  cases v with
  | true => exact ⟨F1, μ1, g1, S, y1.view, hr.go y1, h1⟩
  | false => exact ⟨F1, μ1, g1, S, y1.view, hr.go y1, h1⟩
end
end SH

set_option Elab.async false
set_option linter.all false
set_option autoImplicit false
set_option maxRecDepth 100000
set_option maxHeartbeats 4000000
namespace SH
open PySem PySem.Spec PyProof.Rows L2 LamX
/-! ### data and the library's data -/
mutual
theorem py_plain : ∀ (d : D), d.plain = true → ∃ p, d.py = some p ∧ p.plain = true ∧ p.depth = d.depth
  | .non, _ => ⟨_, rfl, rfl, rfl⟩
  | .bl b, _ => ⟨_, rfl, rfl, rfl⟩
  | .int i, _ => ⟨_, rfl, rfl, rfl⟩
  | .str s, _ => ⟨_, rfl, rfl, rfl⟩
  | .tup l, h => by
    obtain ⟨ps, h1, h2, h3⟩ := pys_plain l (by simpa only [D.plain] using h)
    exact ⟨.tuple ps, by simp only [D.py, h1, Option.map_some], by simpa only [PyData.plain] using h2, by simp only [PyData.depth, D.depth, h3]⟩
  | .lst l, h => by
    obtain ⟨ps, h1, h2, h3⟩ := pys_plain l (by simpa only [D.plain] using h)
    exact ⟨.list ps, by simp only [D.py, h1, Option.map_some], by simpa only [PyData.plain] using h2, by simp only [PyData.depth, D.depth, h3]⟩
  | .fn _, h => by simp only [D.plain] at h; cases h
  | .ptr _, h => by simp only [D.plain] at h; cases h
  | .scr _, h => by simp only [D.plain] at h; cases h
theorem pys_plain : ∀ (l : List D), D.plains l = true → ∃ p, D.pys l = some p ∧ PyData.plainAll p = true ∧ PyData.depthAll p = D.depths l
  | [], _ => ⟨_, rfl, rfl, rfl⟩
  | d :: l, h => by
    simp only [D.plains, Bool.and_eq_true] at h
    obtain ⟨p, a1, a2, a3⟩ := py_plain d h.1
    obtain ⟨ps, b1, b2, b3⟩ := pys_plain l h.2
    exact ⟨p :: ps, by simp only [D.pys, a1, b1], by simp only [PyData.plainAll, a2, b2, Bool.and_self], by simp only [PyData.depthAll, D.depths, a3, b3]⟩
end
theorem pys_cons {d : D} {l : List D} {ps : List PyData} (h : D.pys (d :: l) = some ps) : ∃ p q, ps = p :: q ∧ d.py = some p ∧ D.pys l = some q := by
  simp only [D.pys] at h
  cases e : d.py with
  | none => simp only [e] at h; cases h
  | some p =>
    cases e2 : D.pys l with
    | none => simp only [e, e2] at h; cases h
    | some q => simp only [e, e2] at h; cases h; exact ⟨p, q, rfl, rfl, rfl⟩
theorem py_tup {l : List D} {p : PyData} (h : (D.tup l).py = some p) : ∃ ps, p = .tuple ps ∧ D.pys l = some ps := by
  simp only [D.py] at h
  cases e : D.pys l with
  | none => rw [e] at h; cases h
  | some ps => rw [e] at h; cases h; exact ⟨ps, rfl, rfl⟩
theorem py_lst {l : List D} {p : PyData} (h : (D.lst l).py = some p) : ∃ ps, p = .list ps ∧ D.pys l = some ps := by
  simp only [D.py] at h
  cases e : D.pys l with
  | none => rw [e] at h; cases h
  | some ps => rw [e] at h; cases h; exact ⟨ps, rfl, rfl⟩
theorem py_non {p : PyData} (h : D.non.py = some p) : p = .none := by simp only [D.py] at h; cases h; rfl
theorem py_bl {b : Bool} {p : PyData} (h : (D.bl b).py = some p) : p = .bool b := by simp only [D.py] at h; cases h; rfl
theorem py_int {b : Int} {p : PyData} (h : (D.int b).py = some p) : p = .int b := by simp only [D.py] at h; cases h; rfl
theorem py_str {b : Str} {p : PyData} (h : (D.str b).py = some p) : p = .str b := by simp only [D.py] at h; cases h; rfl
mutual
theorem eqv_py : ∀ (d e : D) (p q : PyData), d.py = some p → e.py = some q → PyData.eqv p q = d.eqv e := fun d e p q hp hq => by
  cases d <;> (try (simp only [D.py] at hp; cases hp; done)) <;> cases e <;> (try (simp only [D.py] at hq; cases hq; done))
  all_goals first
    | (obtain ⟨ps, rfl, h1⟩ := py_tup hp; obtain ⟨qs, rfl, h2⟩ := py_tup hq; simp only [PyData.eqv, D.eqv]; exact eqvs_py _ _ _ _ h1 h2)
    | (obtain ⟨ps, rfl, h1⟩ := py_lst hp; obtain ⟨qs, rfl, h2⟩ := py_lst hq; simp only [PyData.eqv, D.eqv]; exact eqvs_py _ _ _ _ h1 h2)
    | skip
  all_goals (try (obtain ⟨ps, rfl, h1⟩ := py_tup hp))
  all_goals (try (obtain ⟨ps, rfl, h1⟩ := py_lst hp))
  all_goals (try (obtain ⟨qs, rfl, h2⟩ := py_tup hq))
  all_goals (try (obtain ⟨qs, rfl, h2⟩ := py_lst hq))
  all_goals (try (cases py_non hp))
  all_goals (try (cases py_bl hp))
  all_goals (try (cases py_int hp))
  all_goals (try (cases py_str hp))
  all_goals (try (cases py_non hq))
  all_goals (try (cases py_bl hq))
  all_goals (try (cases py_int hq))
  all_goals (try (cases py_str hq))
  all_goals (simp only [PyData.eqv, D.eqv])
theorem eqvs_py : ∀ (l m : List D) (ps qs : List PyData), D.pys l = some ps → D.pys m = some qs → PyData.eqvAll ps qs = D.eqvs l m
  | [], [], ps, qs, h1, h2 => by simp only [D.pys] at h1 h2; cases h1; cases h2; simp only [PyData.eqvAll, D.eqvs]
  | [], e :: m, ps, qs, h1, h2 => by
    obtain ⟨q, qs', rfl, _, _⟩ := pys_cons h2
    simp only [D.pys] at h1; cases h1; simp only [PyData.eqvAll, D.eqvs]
  | d :: l, [], ps, qs, h1, h2 => by
    obtain ⟨q, qs', rfl, _, _⟩ := pys_cons h1
    simp only [D.pys] at h2; cases h2; simp only [PyData.eqvAll, D.eqvs]
  | d :: l, e :: m, ps, qs, h1, h2 => by
    obtain ⟨p, ps', rfl, a1, a2⟩ := pys_cons h1
    obtain ⟨q, qs', rfl, b1, b2⟩ := pys_cons h2
    simp only [PyData.eqvAll, D.eqvs]
    rw [eqv_py d e p q a1 b1, eqvs_py l m ps' qs' a2 b2]
end
theorem any_py {e : D} {q : PyData} (hq : e.py = some q) : ∀ (l : List D) (ps : List PyData), D.pys l = some ps → (ps.any fun y => PyData.eqv y q) = l.any fun d => d.eqv e
  | [], ps, h => by simp only [D.pys] at h; cases h; rfl
  | d :: l, ps, h => by
    obtain ⟨p, ps', rfl, a1, a2⟩ := pys_cons h
    simp only [List.any_cons]
    rw [eqv_py d e p q a1 hq, any_py hq l ps' a2]
section
variable {T : Tg} {Φ : Fns} {L : Lib} {N : List Str} {sc : Scope} {cs : List Str} {k : Nat} {E : L2.St → XK} {X : Cx}
/-- the two values are read as data -/
def rData (K : PySem.W.Frag) (mg : Str → Option Value) (R : D → D → Bool → Prop) : R2 := fun x y H Q => ∃ F μ d e b, Same F H ∧ Rep K mg μ F x d ∧ Rep K mg μ F y e ∧ R d e b ∧ Q (.bl b) H
theorem op_eqD (hu : X.A.units + 100 < cLine) : OpR X (compareOp .Eq) (rData X.K X.mg fun d e b => cmp .eq d e = some b) := by
  intro pins s σ H x y v u Q I rx ry h
  obtain ⟨F, μ, d, e, b, le, r1, r2, h, hQ⟩ := h
  simp only [cmp] at h
  split at h
  · rename_i hc
    cases h
    simp only [Bool.and_eq_true] at hc
    obtain ⟨p, a1, a2, a3⟩ := py_plain d hc.1.1
    obtain ⟨q, b1, b2, b3⟩ := py_plain e hc.1.2
    obtain ⟨as, ra⟩ := Rep.reads I le r1 rx a1
    obtain ⟨bs, rb⟩ := Rep.reads I le r2 ry b1
    have hd := Nat.le_of_ble_eq_true hc.2
    refine SeqAt.eq_plain ra rb a2 b2 (by rw [a3]; omega) ?_
    rw [eqv_py d e p q a1 b1]
    exact ⟨.bl _, H, I, rfl, hQ⟩
  · cases h
theorem op_neD (hu : X.A.units + 100 < cLine) : OpR X (compareOp .NotEq) (rData X.K X.mg fun d e b => cmp .ne d e = some b) := by
  intro pins s σ H x y v u Q I rx ry h
  obtain ⟨F, μ, d, e, b, le, r1, r2, h, hQ⟩ := h
  simp only [cmp] at h
  split at h
  · rename_i hc
    cases h
    simp only [Bool.and_eq_true] at hc
    obtain ⟨p, a1, a2, a3⟩ := py_plain d hc.1.1
    obtain ⟨q, b1, b2, b3⟩ := py_plain e hc.1.2
    obtain ⟨as, ra⟩ := Rep.reads I le r1 rx a1
    obtain ⟨bs, rb⟩ := Rep.reads I le r2 ry b1
    have hd := Nat.le_of_ble_eq_true hc.2
    refine SeqAt.ne_plain ra rb a2 b2 (by rw [a3]; omega) ?_
    rw [eqv_py d e p q a1 b1]
    exact ⟨.bl _, H, I, rfl, hQ⟩
  · cases h
theorem op_inD (hu : X.A.units + 100 < cLine) : OpR X (compareOp .In) (rData X.K X.mg fun d e b => cmp .in_ d e = some b) := by
  intro pins s σ H x y v u Q I rx ry h
  obtain ⟨F, μ, d, e, b, le, r1, r2, h, hQ⟩ := h
  simp only [cmp] at h
  split at h
  · split at h
    · rename_i l hc
      cases h
      simp only [Bool.and_eq_true] at hc
      obtain ⟨p, a1, a2, a3⟩ := py_plain d hc.1.1
      obtain ⟨q, b1, b2, b3⟩ := pys_plain l hc.1.2
      obtain ⟨as, ra⟩ := Rep.reads I le r1 rx a1
      obtain ⟨bs, rb⟩ := Rep.reads I le r2 ry (p := .list q) (by simp only [D.py, b1, Option.map_some])
      have hd := Nat.le_of_ble_eq_true hc.2
      refine SeqAt.in_list_data rb ra b2 a2 (by rw [a3]; omega) ?_
      rw [any_py a1 l q b1]
      exact ⟨.bl _, H, I, rfl, hQ⟩
    · cases h
  · split at h
    · rename_i l hc
      cases h
      simp only [Bool.and_eq_true] at hc
      obtain ⟨p, a1, a2, a3⟩ := py_plain d hc.1.1
      obtain ⟨q, b1, b2, b3⟩ := pys_plain l hc.1.2
      obtain ⟨as, ra⟩ := Rep.reads I le r1 rx a1
      obtain ⟨bs, rb⟩ := Rep.reads I le r2 ry (p := .tuple q) (by simp only [D.py, b1, Option.map_some])
      have hd := Nat.le_of_ble_eq_true hc.2
      refine SeqAt.in_tuple_data rb ra b2 a2 (by rw [a3]; omega) ?_
      rw [any_py a1 l q b1]
      exact ⟨.bl _, H, I, rfl, hQ⟩
    · cases h
  · cases h
theorem op_notInD (hu : X.A.units + 100 < cLine) : OpR X (compareOp .NotIn) (rData X.K X.mg fun d e b => cmp .notIn d e = some b) := by
  intro pins s σ H x y v u Q I rx ry h
  obtain ⟨F, μ, d, e, b, le, r1, r2, h, hQ⟩ := h
  simp only [cmp] at h
  split at h
  · split at h
    · rename_i l hc
      cases h
      simp only [Bool.and_eq_true] at hc
      obtain ⟨p, a1, a2, a3⟩ := py_plain d hc.1.1
      obtain ⟨q, b1, b2, b3⟩ := pys_plain l hc.1.2
      obtain ⟨as, ra⟩ := Rep.reads I le r1 rx a1
      obtain ⟨bs, rb⟩ := Rep.reads I le r2 ry (p := .list q) (by simp only [D.py, b1, Option.map_some])
      have hd := Nat.le_of_ble_eq_true hc.2
      refine SeqAt.notIn_list_data rb ra b2 a2 (by rw [a3]; omega) ?_
      rw [any_py a1 l q b1]
      exact ⟨.bl _, H, I, rfl, hQ⟩
    · cases h
  · split at h
    · rename_i l hc
      cases h
      simp only [Bool.and_eq_true] at hc
      obtain ⟨p, a1, a2, a3⟩ := py_plain d hc.1.1
      obtain ⟨q, b1, b2, b3⟩ := pys_plain l hc.1.2
      obtain ⟨as, ra⟩ := Rep.reads I le r1 rx a1
      obtain ⟨bs, rb⟩ := Rep.reads I le r2 ry (p := .tuple q) (by simp only [D.py, b1, Option.map_some])
      have hd := Nat.le_of_ble_eq_true hc.2
      refine SeqAt.notIn_tuple_data rb ra b2 a2 (by rw [a3]; omega) ?_
      rw [any_py a1 l q b1]
      exact ⟨.bl _, H, I, rfl, hQ⟩
    · cases h
  · cases h
/-- <, <=, >, >= -/
theorem op_intD {op : CmpOp} {o : COp} {f : Int → Int → Bool} (ho : OpR X (compareOp op) (rI0 fun i j => .bl (f i j))) (hf : ∀ d e b, cmp o d e = some b → ∃ i j, d = .int i ∧ e = .int j ∧ b = f i j) :
    OpR X (compareOp op) (rData X.K X.mg fun d e b => cmp o d e = some b) := by
  intro pins s σ H x y v u Q I rx ry h
  obtain ⟨F, μ, d, e, b, le, r1, r2, h, hQ⟩ := h
  obtain ⟨i, j, rfl, rfl, rfl⟩ := hf d e b h
  cases r1
  cases r2
  exact ho pins s σ H _ _ v u Q I rx ry ⟨_, _, rfl, rfl, hQ⟩
theorem op_ltD : OpR X (compareOp .Lt) (rData X.K X.mg fun d e b => cmp .lt d e = some b) := op_intD op_lt fun d e b h => by
  simp only [cmp] at h
  split at h
  · cases h; exact ⟨_, _, rfl, rfl, rfl⟩
  · cases h
theorem op_leD : OpR X (compareOp .LtE) (rData X.K X.mg fun d e b => cmp .le d e = some b) := op_intD op_le fun d e b h => by
  simp only [cmp] at h
  split at h
  · cases h; exact ⟨_, _, rfl, rfl, rfl⟩
  · cases h
theorem op_gtD : OpR X (compareOp .Gt) (rData X.K X.mg fun d e b => cmp .gt d e = some b) := op_intD op_gt fun d e b h => by
  simp only [cmp] at h
  split at h
  · cases h; exact ⟨_, _, rfl, rfl, rfl⟩
  · cases h
theorem op_geD : OpR X (compareOp .GtE) (rData X.K X.mg fun d e b => cmp .ge d e = some b) := op_intD op_ge fun d e b h => by
  simp only [cmp] at h
  split at h
  · cases h; exact ⟨_, _, rfl, rfl, rfl⟩
  · cases h
def cop : CmpOp → Option COp
  | .Eq => some .eq
  | .NotEq => some .ne
  | .Lt => some .lt
  | .LtE => some .le
  | .Gt => some .gt
  | .GtE => some .ge
  | .In => some .in_
  | .NotIn => some .notIn
  | _ => none
theorem op_all {op : CmpOp} {o : COp} (hu : X.A.units + 100 < cLine) (h : cop op = some o) : OpR X (compareOp op) (rData X.K X.mg fun d e b => cmp o d e = some b) := by
  cases op <;> simp only [cop] at h <;> cases h
  · exact op_eqD hu
  · exact op_neD hu
  · exact op_ltD
  · exact op_leD
  · exact op_gtD
  · exact op_geD
  · exact op_inD hu
  · exact op_notInD hu
theorem room_u {k : Nat} {A : Around} (r : Room k A) : A.units + 100 < cLine := by have := r.un; omega
theorem tcmp {a b : Expr} {ma mb : ME} {o : COp} (ha : PE X a (tE X.K X.mg T Φ E ma)) (hb : PE X b (tE X.K X.mg T Φ E mb)) (σ : L2.St) (H : Hp) (Q : VK) (h : tE X.K X.mg T Φ E (.cmp o ma mb) σ H Q) :
    tOp (rData X.K X.mg fun d e b => cmp o d e = some b) (tE X.K X.mg T Φ E ma) (tE X.K X.mg T Φ E mb) σ H Q := by
  obtain ⟨F, μ, g, S, hv, hr, h⟩ := h
  unfold ev at h
  refine ⟨F, μ, g, S, hv, hr, Aft.imp (Aft.bind h) fun v H1 ⟨x, F1, μ1, g1, y1, r1, h1⟩ => ?_⟩
  refine ⟨F1, μ1, g1, S, y1.view, hr.go y1, Aft.imp (Aft.bind h1) fun w H2 ⟨y, F2, μ2, g2, y2, r2, h2⟩ => ?_⟩
  cases e : cmp o x y with
  | none => rw [e] at h2; exact h2.elim
  | some c =>
    rw [e] at h2
    exact ⟨F2, μ2, x, y, c, y2.view.le, r1.mono y2.ff y2.pre, r2, e, Aft.val (RP := RD X.K X.mg) h2 y2.view (.bl c)⟩
theorem se_cmp {a b : Expr} {ma mb : ME} {op : CmpOp} {o : COp} {pos : Pos} (ok : CtxOk T Φ L N sc cs k E X) (ho : cop op = some o) (hm : behindInMarks op b = false) (ha : PE X a (tE X.K X.mg T Φ E ma)) (hb : PE X b (tE X.K X.mg T Φ E mb)) :
    PE X (.Compare a [op] [b] pos) (tE X.K X.mg T Φ E (.cmp o ma mb)) :=
  PE.mono (pe_cmpR (op_all (ok.un) ho) ha hb hm) fun σ H Q h => tcmp ha hb σ H Q h
theorem st_cmpD {a b : Expr} {ma mb : ME} {op : CmpOp} {o : COp} {pos : Pos} (ok : CtxOk T Φ L N sc cs k E X) (ho : cop op = some o) (hm : behindInMarks op b = false) (ha : PE X a (tE X.K X.mg T Φ E ma)) (hb : PE X b (tE X.K X.mg T Φ E mb)) :
    PT X (.Compare a [op] [b] pos) (tT X.K X.mg T Φ E (.cmp o ma mb)) :=
  st_cmp (pt_cmpR (op_all (ok.un) ho) ha hb hm) (fun σ H Q h => tcmp ha hb σ H Q h) bl_cmp
end
end SH

set_option Elab.async false
set_option linter.all false
set_option autoImplicit false
set_option maxRecDepth 100000
set_option maxHeartbeats 4000000
namespace SH
open PySem PySem.Spec PyProof.Rows L2 LamX
section
variable {T : Tg} {Φ : Fns} {L : Lib} {N : List Str} {sc : Scope} {cs : List Str} {k : Nat} {E : L2.St → XK} {X : Cx}
variable {K : PySem.W.Frag} {mg : Str → Option Value} {μ : List Addr} {F H : Hp}
theorem atI_rep {vs : List V} {ds : List D} {i : Int} {d : D} (r : Reps K mg μ F vs ds) (h : atI ds i = some d) : ∃ v, atI vs i = some v ∧ Rep K mg μ F v d := by
  unfold atI at h ⊢
  rw [r.length]
  cases e : ixN ds.length i with
  | none => rw [e] at h; cases h
  | some j =>
    rw [e] at h
    exact r.get h
def plainIx : Expr → Bool
  | .Slice .. => false
  | _ => true
theorem plainIx_is {b : Expr} (h : plainIx b = true) : PlainIx b := by
  cases b <;> first | (intro _ _; rfl) | cases h
theorem se_idx {a b : Expr} {ma mb : ME} {pos : Pos} (ha : PE X a (tE X.K X.mg T Φ E ma)) (hb : PE X b (tE X.K X.mg T Φ E mb)) (hp : plainIx b = true) : PE X (.Subscript a b pos) (tE X.K X.mg T Φ E (.idx ma mb)) := by
  refine PE.mono (pe_ix (IxR.or ix_list ix_tup) ha hb (plainIx_is hp)) fun σ H Q h => se_op ha hb (f := idx) ?_ ?_
  · intro x y z v w F μ g H Q EX e hv rx ry h
    unfold idx at e
    split at e
    · cases rx with
      | tup q r =>
        cases ry
        obtain ⟨u, e1, e2⟩ := atI_rep r e
        exact .inr ⟨_, _, _, u, rfl, rfl, sqT_same hv.le q, e1, Aft.val (RP := RD X.K X.mg) h hv e2⟩
    · cases rx with
      | lst q r =>
        cases ry
        obtain ⟨u, e1, e2⟩ := atI_rep r e
        exact .inl ⟨_, _, _, u, rfl, rfl, SqL.of (hv.le _ _ q), e1, Aft.val (RP := RD X.K X.mg) h hv e2⟩
    · cases e
  · obtain ⟨F, μ, g, S, hv, hr, h⟩ := h
    unfold ev at h
    exact ⟨F, μ, g, S, hv, hr, h⟩
/-! ### slices -/
abbrev ROI : List Addr → Hp → Option Int → Option Int → Prop := fun _ _ i d => i = d
def tO (K : PySem.W.Frag) (mg : Str → Option Value) (T : Tg) (Φ : Fns) (E : L2.St → XK) (m : Option ME) : TO := fun σ H Q =>
  ∃ F μ g S, View K mg T F μ g H ∧ RelS K mg T S σ F μ H ∧ Aft K mg T ROI (evo Φ m S g) F μ H Q (E σ)
theorem PO.mono {X : Cx} {e : Option Expr} {t t' : TO} (h : PO X e t) (k : ∀ σ H Q, t' σ H Q → t σ H Q) : PO X e t' := ⟨fun pins s σ H Q I q => h.run pins s σ H Q I (k σ H Q q)⟩
theorem so_none : PO X none (tO X.K X.mg T Φ E none) := by
  refine PO.mono po_none fun σ H Q h => ?_
  obtain ⟨F, μ, g, S, hv, hr, h⟩ := h
  simp only [evo] at h
  exact Aft.val (RP := ROI) h hv rfl
theorem so_some {e : Expr} {m : ME} (he : PE X e (tE X.K X.mg T Φ E m)) : PO X (some e) (tO X.K X.mg T Φ E (some m)) := by
  refine PO.mono (po_some he) fun σ H Q h => ?_
  obtain ⟨F, μ, g, S, hv, hr, h⟩ := h
  simp only [evo] at h
  refine ⟨F, μ, g, S, hv, hr, Aft.imp (Aft.bind h) fun v H1 ⟨x, F1, μ1, g1, y1, r1, h1⟩ => ?_⟩
  cases r1 <;> try (exact h1.elim)
  exact ⟨_, rfl, Aft.val (RP := ROI) h1 y1.view rfl⟩
theorem cut_rep {vs : List V} {ds : List D} {lo hi : Option Int} (r : Reps K mg μ F vs ds) : Reps K mg μ F (cutV vs lo hi) (cutD ds lo hi) := by
  unfold cutV cutD
  rw [r.length]
  exact (r.drop _).take _
theorem cutV_whole {vs : List V} {lo hi : Option Int} (h : HT.sIx vs.length 0 lo = 0 ∧ HT.sIx vs.length vs.length hi = vs.length) : cutV vs lo hi = vs := by
  unfold cutV
  rw [h.1, h.2]
  simp
theorem reps_det : ∀ {vs : List V} {ds es : List D}, vs = vs → True := fun _ => trivial
def rSlD (K : PySem.W.Frag) : V → Option Int → Option Int → Hp → VK → Prop := fun x lo hi H Q => rSlL K x lo hi H Q ∨ rSlA K x lo hi H Q
theorem sl_D : SlR X (rSlD X.K) := SlR.or sl_list sl_tupA
theorem se_slice {a : Expr} {lo hi : Option Expr} {ma : ME} {ml mh : Option ME} {p pos : Pos} (ha : PE X a (tE X.K X.mg T Φ E ma)) (hl : PO X lo (tO X.K X.mg T Φ E ml)) (hh : PO X hi (tO X.K X.mg T Φ E mh)) :
    PE X (.Subscript a (.Slice lo hi none p) pos) (tE X.K X.mg T Φ E (.slice ma ml mh)) := by
  refine PE.mono (pe_slice sl_D ha hl hh) fun σ H Q h => ?_
  obtain ⟨F, μ, g, S, hv, hr, h⟩ := h
  simp only [ev] at h
  refine ⟨F, μ, g, S, hv, hr, Aft.imp (Aft.bind h) fun v H1 ⟨x, F1, μ1, g1, y1, r1, h1⟩ => ?_⟩
  refine ⟨F1, μ1, g1, S, y1.view, hr.go y1, Aft.imp (Aft.bind (RP := ROI) h1) fun l H2 ⟨y, F2, μ2, g2, y2, r2, h2⟩ => ?_⟩
  refine ⟨F2, μ2, g2, S, y2.view, (hr.go y1).go y2, Aft.imp (Aft.bind (RP := ROI) h2) fun u H3 ⟨z, F3, μ3, g3, y3, r3, h3⟩ => ?_⟩
  have r1' := r1.mono (y2.ff.trans y3.ff) (y2.pre.trans y3.pre)
  obtain ⟨w, e, h4⟩ := Aft.lift h3
  cases r2
  cases r3
  unfold slice at e
  cases r1' with
  | @tup aa vs ds q r =>
    cases e
    refine .inr ⟨_, vs, rfl, sqT_same y3.view.le q, fun hw => ?_, fun hw pp hp => ?_⟩
    · refine Aft.val (RP := RD X.K X.mg) h4 y3.view (.tup q ?_)
      have := cut_rep (lo := l) (hi := u) r
      rw [cutV_whole hw] at this
      exact this
    · have gg := y3.view.laid (p := pp) (o := .tup (cutV vs l u)) hp ntT
      exact Aft.laid (RP := RD X.K X.mg) h4 y3.view hp ntT (.tup (SqT.of upd_same) ((cut_rep r).mono gg.ff (Pre.refl _)))
  | @lst aa vs ds q r =>
    cases e
    refine .inl ⟨_, vs, rfl, SqL.of (y3.view.le _ _ q), fun pp hp => ?_⟩
    have gg := y3.view.laid (p := pp) (o := .lst (cutV vs l u)) hp ntL
    exact Aft.laid (RP := RD X.K X.mg) h4 y3.view hp ntL (.lst upd_same ((cut_rep r).mono gg.ff (Pre.refl _)))
  | @scr aa ns q =>
    cases e
    refine .inl ⟨_, _, rfl, sqL_same y3.view.le q, fun pp hp => ?_⟩
    exact Aft.laid (RP := RD X.K X.mg) h4 y3.view hp ntL (.lst upd_same (cut_rep (Reps.ofInts ns)))
  | _ => cases e
/-! ### x[::-1] -/
theorem se_rev {a : Expr} {ma : ME} {kk : Nat} {p1 p2 p3 pos : Pos} (ha : PE X a (tE X.K X.mg T Φ E ma)) : PE X (.Subscript a (.Slice none none (some (.UnaryOp .USub (.Constant (.int 1) kk p1) p2)) p3) pos) (tE X.K X.mg T Φ E (.rev ma)) := by
  refine PE.mono (pe_revA ha) fun σ H Q h => ?_
  obtain ⟨F, μ, g, S, hv, hr, h⟩ := h
  simp only [ev] at h
  refine ⟨F, μ, g, S, hv, hr, Aft.imp (Aft.bind h) fun v H1 ⟨x, F1, μ1, g1, y1, r1, h1⟩ => ?_⟩
  obtain ⟨w, e, h2⟩ := Aft.lift h1
  unfold revD at e
  cases r1 with
  | @tup aa vs ds q r =>
    cases e
    refine ⟨_, vs, rfl, .inr ⟨sqT_same y1.view.le q, fun pp hp => ?_⟩⟩
    have gg := y1.view.laid (p := pp) (o := .tup vs.reverse) hp ntT
    exact Aft.laid (RP := RD X.K X.mg) h2 y1.view hp ntT (.tup (SqT.of upd_same) ((Reps.reverse r).mono gg.ff (Pre.refl _)))
  | @lst aa vs ds q r =>
    cases e
    refine ⟨_, vs, rfl, .inl ⟨SqL.of (y1.view.le _ _ q), fun pp hp => ?_⟩⟩
    have gg := y1.view.laid (p := pp) (o := .lst vs.reverse) hp ntL
    exact Aft.laid (RP := RD X.K X.mg) h2 y1.view hp ntL (.lst upd_same ((Reps.reverse r).mono gg.ff (Pre.refl _)))
  | _ => cases e
end
end SH

set_option Elab.async false
set_option linter.all false
set_option autoImplicit false
set_option maxRecDepth 100000
set_option maxHeartbeats 4000000
namespace SH
open PySem PySem.Spec PyProof.Rows L2 LamX
section
variable {T : Tg} {Φ : Fns} {L : Lib} {N : List Str} {sc : Scope} {cs : List Str} {k : Nat} {E : L2.St → XK} {X : Cx}
variable {K : PySem.W.Frag} {mg : Str → Option Value} {μ : List Addr} {F H : Hp}
def noStars : List Expr → Bool
  | [] => true
  | e :: es => notStar e && noStars es
theorem stars_of {env : Env} {pos : Pos} : ∀ {es : List Expr}, noStars es = true → (backTo pos (starEach es env)).any (·.1) = false
  | [], _ => rfl
  | e :: es, h => by
    simp only [noStars, Bool.and_eq_true] at h
    rw [star_of h.1]
    have := stars_of (env := env) (pos := pos) h.2
    simp only [backTo, List.map_cons, List.any_cons, Bool.false_or] at this ⊢
    exact this
/-- what a built-in asks of its values -/
def CallD (X : Cx) (T : Tg) (f : List D → Option D) (r : List V → Hp → VK → Prop) : Prop :=
  ∀ {xs : List D} {z : D} {vs : List V} {F : Hp} {μ : List Addr} {g : G} {H : Hp} {Q : VK} {EX : XK}, f xs = some z → View X.K X.mg T F μ g H → Reps X.K X.mg μ F vs xs → Aft X.K X.mg T (RD X.K X.mg) (.ok z g) F μ H Q EX → r vs H Q
theorem tbi {ms : List ME} {b : BI} {r : List V → Hp → VK → Prop} (hd : CallD X T (bi b) r) (σ : L2.St) (H : Hp) (Q : VK) (h : tE X.K X.mg T Φ E (.bi b ms) σ H Q) : tCB r (tEs X.K X.mg T Φ E ms) σ H Q := by
  obtain ⟨F, μ, g, S, hv, hr, h⟩ := h
  simp only [ev] at h
  refine ⟨F, μ, g, S, hv, hr, Aft.imp (Aft.bind (RP := RDs X.K X.mg) h) fun v H1 ⟨x, F1, μ1, g1, y1, r1, h1⟩ => ?_⟩
  obtain ⟨z, e, h2⟩ := Aft.lift h1
  exact hd e y1.view r1 h2
/-- f(e, ..), f built in -/
theorem se_biB {x : Str} {id : String} {e : Expr} {es : List Expr} {ms : List ME} {b : BI} {p pos : Pos} {r : List V → Hp → VK → Prop} (ok : CtxOk T Φ L N sc cs k E X) (hc : CallR X (.builtin id) r) (hd : CallD X T (bi b) r) (hg : sc.names.lookup x = some .globalImplicit) (hf : x ∈ L.free)
    (hv : bootBuiltins x = some (.builtin id)) (hn : x ≠ "__name__") (hdb : (x == ("__debug__" : Str)) = false) (hs : noStars (e :: es) = true) (ha : PA X (e :: es) (tEs X.K X.mg T Φ E ms)) : PE X (.Call (.Name x p) (e :: es) [] pos) (tE X.K X.mg T Φ E (.bi b ms)) := by
  have hs' := hs
  simp only [noStars, Bool.and_eq_true] at hs'
  have hgl : Gl X x := by unfold Gl Env.kindOf; rw [ok.hsc]; exact hg
  exact PE.mono (pe_callB hc hgl (ok.free x hf) hv ha hn hdb (star_of hs'.1) (stars_of hs'.2)) fun σ H Q h => tbi hd σ H Q h
theorem se_biT {x : Str} {id : String} {e : Expr} {es : List Expr} {ms : List ME} {b : BI} {p pos : Pos} {r : List V → Hp → VK → Prop} (ok : CtxOk T Φ L N sc cs k E X) (hc : CallR X (.type id) r) (hd : CallD X T (bi b) r) (hg : sc.names.lookup x = some .globalImplicit) (hf : x ∈ L.free)
    (hv : bootBuiltins x = some (.type id)) (hn : x ≠ "__name__") (hdb : (x == ("__debug__" : Str)) = false) (hs : noStars (e :: es) = true) (ha : PA X (e :: es) (tEs X.K X.mg T Φ E ms)) : PE X (.Call (.Name x p) (e :: es) [] pos) (tE X.K X.mg T Φ E (.bi b ms)) := by
  have hs' := hs
  simp only [noStars, Bool.and_eq_true] at hs'
  have hgl : Gl X x := by unfold Gl Env.kindOf; rw [ok.hsc]; exact hg
  exact PE.mono (pe_callTy hc hgl (ok.free x hf) hv ha hn hdb (star_of hs'.1) (stars_of hs'.2)) fun σ H Q h => tbi hd σ H Q h
theorem reps1 {vs : List V} {d : D} (r : Reps K mg μ F vs [d]) : ∃ v, vs = [v] ∧ Rep K mg μ F v d := by
  cases r with
  | cons h t => cases t; exact ⟨_, rfl, h⟩
theorem reps2 {vs : List V} {d e : D} (r : Reps K mg μ F vs [d, e]) : ∃ v w, vs = [v, w] ∧ Rep K mg μ F v d ∧ Rep K mg μ F w e := by
  cases r with
  | cons h t => obtain ⟨w, rfl, q⟩ := reps1 t; exact ⟨_, _, rfl, h, q⟩
theorem ints_of : ∀ {l : List D} {ns : List Int}, ints? l = some ns → l = ns.map .int
  | [], ns, h => by simp only [ints?] at h; cases h; rfl
  | .int i :: l, ns, h => by
    simp only [ints?] at h
    cases e : ints? l with
    | none => rw [e] at h; cases h
    | some m => rw [e] at h; cases h; rw [ints_of e]; rfl
  | .non :: l, ns, h => by simp only [ints?] at h; cases h
  | .bl _ :: l, ns, h => by simp only [ints?] at h; cases h
  | .str _ :: l, ns, h => by simp only [ints?] at h; cases h
  | .tup _ :: l, ns, h => by simp only [ints?] at h; cases h
  | .lst _ :: l, ns, h => by simp only [ints?] at h; cases h
  | .fn _ :: l, ns, h => by simp only [ints?] at h; cases h
  | .ptr _ :: l, ns, h => by simp only [ints?] at h; cases h
  | .scr _ :: l, ns, h => by simp only [ints?] at h; cases h
theorem bls_of : ∀ {l : List D} {ns : List Bool}, bls? l = some ns → l = ns.map .bl
  | [], ns, h => by simp only [bls?] at h; cases h; rfl
  | .bl i :: l, ns, h => by
    simp only [bls?] at h
    cases e : bls? l with
    | none => rw [e] at h; cases h
    | some m => rw [e] at h; cases h; rw [bls_of e]; rfl
  | .non :: l, ns, h => by simp only [bls?] at h; cases h
  | .int _ :: l, ns, h => by simp only [bls?] at h; cases h
  | .str _ :: l, ns, h => by simp only [bls?] at h; cases h
  | .tup _ :: l, ns, h => by simp only [bls?] at h; cases h
  | .lst _ :: l, ns, h => by simp only [bls?] at h; cases h
  | .fn _ :: l, ns, h => by simp only [bls?] at h; cases h
  | .ptr _ :: l, ns, h => by simp only [bls?] at h; cases h
  | .scr _ :: l, ns, h => by simp only [bls?] at h; cases h
theorem cd_len : CallD X T (bi .len) (fun xs H Q => ∃ x n, xs = [x] ∧ LenV X.K x H n ∧ Q (.int n) H) := by
  intro xs z vs F μ g H Q EX e hv r h
  unfold bi at e
  split at e <;> try (cases e; done)
  all_goals (rename_i heq; try (cases heq; done))
  · obtain ⟨v, rfl, q⟩ := reps1 r
    cases q with
    | tup a b => cases e; exact ⟨_, _, rfl, .inr ⟨_, sqT_same hv.le a, rfl⟩, by rw [b.length]; exact Aft.val (RP := RD X.K X.mg) h hv (.int _)⟩
  · obtain ⟨v, rfl, q⟩ := reps1 r
    cases q with
    | lst a b => cases e; exact ⟨_, _, rfl, .inl ⟨_, SqL.of (hv.le _ _ a), rfl⟩, by rw [b.length]; exact Aft.val (RP := RD X.K X.mg) h hv (.int _)⟩
  · split at e
    · obtain ⟨v, rfl, q⟩ := reps1 r
      cases q
      cases e
      exact ⟨_, _, rfl, ⟨sizeOk_le (by assumption), rfl⟩, Aft.val (RP := RD X.K X.mg) h hv (.int _)⟩
    · cases e
theorem cd_tuple : CallD X T (bi .tuple) (fun xs H Q => ∃ p ys, xs = [.ref p] ∧ ((SqL X.K H p ys ∧ ∀ l, H l = none → Q (.ref l) (upd H l (.tup ys))) ∨ (SqT X.K H p ys ∧ Q (.ref p) H))) := by
  intro xs z vs F μ g H Q EX e hv r h
  unfold bi at e
  split at e <;> try (cases e; done)
  all_goals (rename_i heq; try (cases heq; done))
  · obtain ⟨v, rfl, q⟩ := reps1 r
    cases q with
    | tup a b => cases e; exact ⟨_, _, rfl, .inr ⟨sqT_same hv.le a, Aft.val (RP := RD X.K X.mg) h hv (.tup a b)⟩⟩
  · obtain ⟨v, rfl, q⟩ := reps1 r
    cases q with
    | lst a b =>
      cases e
      refine ⟨_, _, rfl, .inl ⟨SqL.of (hv.le _ _ a), fun p hp => ?_⟩⟩
      exact Aft.laid (RP := RD X.K X.mg) h hv hp ntT (.tup (SqT.of upd_same) (b.mono (hv.laid hp ntT).ff (Pre.refl _)))
theorem cd_list : CallD X T (bi .list) (fun xs H Q => ∃ p ys, xs = [.ref p] ∧ (SqL X.K H p ys ∨ SqT X.K H p ys) ∧ ∀ l, H l = none → Q (.ref l) (upd H l (.lst ys))) := by
  intro xs z vs F μ g H Q EX e hv r h
  unfold bi at e
  split at e <;> try (cases e; done)
  all_goals (rename_i heq; try (cases heq; done))
  · obtain ⟨v, rfl, q⟩ := reps1 r
    cases q with
    | tup a b =>
      cases e
      refine ⟨_, _, rfl, .inr (sqT_same hv.le a), fun p hp => ?_⟩
      exact Aft.laid (RP := RD X.K X.mg) h hv hp ntL (.lst upd_same (b.mono (hv.laid hp ntL).ff (Pre.refl _)))
  · obtain ⟨v, rfl, q⟩ := reps1 r
    cases q with
    | lst a b =>
      cases e
      refine ⟨_, _, rfl, .inl (SqL.of (hv.le _ _ a)), fun p hp => ?_⟩
      exact Aft.laid (RP := RD X.K X.mg) h hv hp ntL (.lst upd_same (b.mono (hv.laid hp ntL).ff (Pre.refl _)))
theorem cd_int : CallD X T (bi .int) (fun xs H Q => (∃ i, xs = [.int i] ∧ Q (.int i) H) ∨ ∃ k, xs = [.bl k] ∧ Q (.int (if k then 1 else 0)) H) := by
  intro xs z vs F μ g H Q EX e hv r h
  unfold bi at e
  split at e <;> try (cases e; done)
  all_goals (rename_i heq; try (cases heq; done))
  · obtain ⟨v, rfl, q⟩ := reps1 r
    cases q
    cases e
    exact .inl ⟨_, rfl, Aft.val (RP := RD X.K X.mg) h hv (.int _)⟩
  · obtain ⟨v, rfl, q⟩ := reps1 r
    cases q
    cases e
    exact .inr ⟨_, rfl, Aft.val (RP := RD X.K X.mg) h hv (.int _)⟩
theorem cd_all : CallD X T (bi .all) (rAll X.K) := by
  intro xs z vs F μ g H Q EX e hv r h
  unfold bi at e
  split at e <;> try (cases e; done)
  all_goals (rename_i heq; try (cases heq; done))
  rename_i l
  obtain ⟨v, rfl, q⟩ := reps1 r
  cases eb : bls? l with
  | none => rw [eb] at e; cases e
  | some bs =>
    rw [eb] at e; cases e
    cases q with
    | lst a b =>
      have := bls_of eb
      subst this
      have hb := b.bls
      subst hb
      exact ⟨_, bs, rfl, SqL.of (hv.le _ _ a), Aft.val (RP := RD X.K X.mg) h hv (.bl _)⟩
theorem cd_any : CallD X T (bi .any) (rAny X.K) := by
  intro xs z vs F μ g H Q EX e hv r h
  unfold bi at e
  split at e <;> try (cases e; done)
  all_goals (rename_i heq; try (cases heq; done))
  rename_i l
  obtain ⟨v, rfl, q⟩ := reps1 r
  cases eb : bls? l with
  | none => rw [eb] at e; cases e
  | some bs =>
    rw [eb] at e; cases e
    cases q with
    | lst a b =>
      have := bls_of eb
      subst this
      have hb := b.bls
      subst hb
      exact ⟨_, bs, rfl, SqL.of (hv.le _ _ a), Aft.val (RP := RD X.K X.mg) h hv (.bl _)⟩
theorem cd_sum : CallD X T (bi .sum) (rSum X.K) := by
  intro xs z vs F μ g H Q EX e hv r h
  unfold bi at e
  split at e <;> try (cases e; done)
  all_goals (rename_i heq; try (cases heq; done))
  rename_i l
  obtain ⟨v, rfl, q⟩ := reps1 r
  cases eb : ints? l with
  | none => rw [eb] at e; cases e
  | some bs =>
    rw [eb] at e; cases e
    cases q with
    | lst a b =>
      have := ints_of eb
      subst this
      have hb := b.ints
      subst hb
      exact ⟨_, bs, rfl, SqL.of (hv.le _ _ a), Aft.val (RP := RD X.K X.mg) h hv (.int _)⟩
theorem cd_min2 : CallD X T (bi .min2) (fun xs H Q => ∃ i j, xs = [.int i, .int j] ∧ Q (.int (if j < i then j else i)) H) := by
  intro xs z vs F μ g H Q EX e hv r h
  unfold bi at e
  split at e <;> try (cases e; done)
  all_goals (rename_i heq; try (cases heq; done))
  obtain ⟨v, w, rfl, q, q2⟩ := reps2 r
  cases q; cases q2; cases e
  exact ⟨_, _, rfl, Aft.val (RP := RD X.K X.mg) h hv (.int _)⟩
theorem cd_max2 : CallD X T (bi .max2) (fun xs H Q => ∃ i j, xs = [.int i, .int j] ∧ Q (.int (if j > i then j else i)) H) := by
  intro xs z vs F μ g H Q EX e hv r h
  unfold bi at e
  split at e <;> try (cases e; done)
  all_goals (rename_i heq; try (cases heq; done))
  obtain ⟨v, w, rfl, q, q2⟩ := reps2 r
  cases q; cases q2; cases e
  exact ⟨_, _, rfl, Aft.val (RP := RD X.K X.mg) h hv (.int _)⟩
/-! ### repr -/
mutual
theorem py_noDict : ∀ (d : D) (p : PyData), d.py = some p → p.hasDict = false
  | .non, p, h => by cases h; rfl
  | .bl _, p, h => by cases h; rfl
  | .int _, p, h => by cases h; rfl
  | .str _, p, h => by cases h; rfl
  | .tup l, p, h => by
    unfold D.py at h
    cases e : D.pys l with
    | none => rw [e] at h; cases h
    | some q => rw [e] at h; cases h; exact pys_noDict l q e
  | .lst l, p, h => by
    unfold D.py at h
    cases e : D.pys l with
    | none => rw [e] at h; cases h
    | some q => rw [e] at h; cases h; exact pys_noDict l q e
  | .fn _, p, h => by cases h
  | .ptr _, p, h => by cases h
  | .scr _, p, h => by cases h
theorem pys_noDict : ∀ (l : List D) (p : List PyData), D.pys l = some p → PyData.hasDictAll p = false
  | [], p, h => by cases h; rfl
  | d :: l, p, h => by
    unfold D.pys at h
    cases e1 : d.py with
    | none => rw [e1] at h; cases h
    | some q =>
      cases e2 : D.pys l with
      | none => rw [e1, e2] at h; cases h
      | some r =>
        rw [e1, e2] at h
        cases h
        unfold PyData.hasDictAll
        rw [py_noDict d q e1, pys_noDict l r e2]
        rfl
end
def rRepr (X : Cx) : List V → Hp → VK → Prop := fun xs H Q => ∃ v d p F μ, xs = [v] ∧ Same F H ∧ Rep X.K X.mg μ F v d ∧ d.py = some p ∧ p.showable = true ∧ p.depth ≤ 100 ∧ p.shown.length ≤ sizeLine ∧ Q (.str p.shown) H
theorem cr_repr {k : Nat} (hr : Room k X.A) (hg : X.A.guards = some []) : CallR X (.builtin "repr") (rRepr X) := by
  intro pins s σ H xs us Q I r h
  obtain ⟨v, d, p, F, μ, rfl, hF, rp, hp, h1, h2, h3, q⟩ := h
  obtain ⟨u, rfl, r1⟩ := vals1 r
  have hun := hr.un
  have key : ∀ {a : Addr}, u = .ref a → wpAny (model X.prog X.w) X.A (call (.builtin "repr") [u]) (EP X pins σ Q) X.xe s := fun {a} e => by
    subst e
    obtain ⟨as, rd⟩ := rp.reads I hF r1 hp
    exact repr_of_reads' rd h1 (PyData.noDict_hsm (py_noDict d p hp)) hg (by omega) (fun _ _ e => e) (fun h' u tk hk => ⟨.str p.shown, H, I.kept hk, ⟨_, rfl⟩, q⟩) h3
  cases rp with
  | non =>
    cases hp
    cases r1
    exact PySem.P.repr_of_none ⟨.str _, H, I.tok _, ⟨_, rfl⟩, q⟩
  | bl b =>
    cases hp
    cases r1
    refine PySem.P.repr_of_bool ⟨.str _, H, I.tok _, ⟨_, rfl⟩, ?_⟩
    cases b <;> exact q
  | int i =>
    cases hp
    obtain ⟨t, rfl⟩ := r1
    exact PySem.P.repr_of_int (by simpa [PyData.showable] using h1) ⟨.str _, H, I.tok _, ⟨_, rfl⟩, q⟩
  | str x =>
    cases hp
    obtain ⟨t, rfl⟩ := r1
    exact PySem.P.repr_of_str ⟨.str _, H, I.tok _, ⟨_, rfl⟩, q⟩ h3
  | tup _ _ => exact key r1
  | lst _ _ => exact key r1
  | fn _ _ => cases hp
  | ptr _ => cases hp
  | scr _ => cases hp
theorem cd_repr : CallD X T (bi .repr) (rRepr X) := by
  intro xs z vs F μ g H Q EX e hv r h
  unfold bi at e
  split at e <;> try (cases e; done)
  all_goals (rename_i heq; try (cases heq; done))
  obtain ⟨v, rfl, q⟩ := reps1 r
  unfold reprD at e
  split at e
  · rename_i p hp
    split at e
    · rename_i hz
      cases e
      simp only [Bool.and_eq_true] at hz
      exact ⟨v, _, p, F, μ, rfl, hv.le, q, hp, hz.1.1, Nat.le_of_ble_eq_true hz.1.2, sizeOk_le hz.2, Aft.val (RP := RD X.K X.mg) h hv (.str _)⟩
    · cases e
  · cases e
end
end SH

set_option Elab.async false
set_option linter.all false
set_option autoImplicit false
set_option maxRecDepth 100000
set_option maxHeartbeats 4000000
namespace SH
open PySem PySem.Spec PyProof.Rows L2 LamX
section
variable {T : Tg} {Φ : Fns} {L : Lib} {N : List Str} {sc : Scope} {cs : List Str} {k : Nat} {E : L2.St → XK} {X : Cx}
variable {K : PySem.W.Frag} {mg : Str → Option Value} {μ : List Addr} {F H : Hp}
/-! ### isinstance(e, int) and its like -/
def tyD : D → Option String
  | .non => some "NoneType"
  | .bl _ => some "bool"
  | .int _ => some "int"
  | .str _ => some "str"
  | .tup _ => some "tuple"
  | .lst _ => some "list"
  | _ => none
theorem ty_of {v : V} {d : D} {t : String} (le : Same F H) (r : Rep K mg μ F v d) (h : tyD d = some t) : TyX K H v (.type t) := by
  cases r <;> simp only [tyD] at h <;> cases h
  · exact .base .non
  · exact .base (.bl _)
  · exact .base (.int _)
  · exact .base (.str _)
  · rename_i q _
    rcases sqT_same le q with (q | ⟨o, q⟩) | ⟨o, its, n, q, c, _⟩
    · exact .base (.tup q)
    · exact .fTuple q
    · exact .kTuple q c
  · rename_i q _
    exact .base (.lst (le _ _ q))
theorem se_isi {x c : Str} {cn : String} {e : Expr} {m : ME} {b : BI} {p p2 pos : Pos} (ok : CtxOk T Φ L N sc cs k E X) (hg : sc.names.lookup ("isinstance" : Str) = some .globalImplicit) (hf : ("isinstance" : Str) ∈ L.free)
    (hgc : sc.names.lookup c = some .globalImplicit) (hfc : c ∈ L.free) (hvc : bootBuiltins c = some (.type cn)) (hnc : c ≠ "__name__") (hdc : (c == ("__debug__" : Str)) = false)
    (hb : ∀ d z, bi b [d] = some z → ∃ t r, tyD d = some t ∧ kitB t cn = some r ∧ z = .bl r) (hs : notStar e = true)
    (he : PE X e (tE X.K X.mg T Φ E m)) : PE X (.Call (.Name "isinstance" p) [e, .Name c p2] [] pos) (tE X.K X.mg T Φ E (.bi b [m])) := by
  have hgl : Gl X "isinstance" := by unfold Gl Env.kindOf; rw [ok.hsc]; exact hg
  have hgl2 : Gl X c := by unfold Gl Env.kindOf; rw [ok.hsc]; exact hgc
  refine PE.mono (pe_callB call_isi hgl (ok.free _ hf) (by decide +kernel) (pa_cons he (pa_cons (pe_bltn hgl2 (ok.free c hfc) hvc (v := .ty cn) rfl hnc hdc) pa_nil) (star_of hs)) (by decide) (by decide) (star_of hs) rfl) fun σ H Q h => ?_
  obtain ⟨F, μ, g, S, hv, hr, h⟩ := h
  have e2 : ev Φ (.bi b [m]) S g = (ev Φ m S g).bind fun x g => lift (bi b [x]) g := by
    simp only [ev, evs]
    cases ev Φ m S g <;> rfl
  rw [e2] at h
  refine ⟨F, μ, g, S, hv, hr, Aft.imp (Aft.bind h) fun v H1 ⟨x, F1, μ1, g1, y1, r1, h1⟩ => ?_⟩
  obtain ⟨z, e3, h2⟩ := Aft.lift h1
  obtain ⟨t, r, a1, a2, rfl⟩ := hb x z e3
  exact ⟨v, .ty cn, .type t, .type cn, r, rfl, .ty cn, ty_of y1.view.le r1 a1, kit_ty a2, Aft.val (RP := RD X.K X.mg) h2 y1.view (.bl _)⟩
theorem hb_int : ∀ d z, bi .isInt [d] = some z → ∃ t r, tyD d = some t ∧ kitB t "int" = some r ∧ z = .bl r := by
  intro d z h
  simp only [bi] at h
  cases d <;> simp only at h <;> cases h <;> exact ⟨_, _, rfl, by decide +kernel, rfl⟩
theorem hb_bool : ∀ d z, bi .isBool [d] = some z → ∃ t r, tyD d = some t ∧ kitB t "bool" = some r ∧ z = .bl r := by
  intro d z h
  simp only [bi] at h
  cases d <;> simp only at h <;> cases h <;> exact ⟨_, _, rfl, by decide +kernel, rfl⟩
theorem hb_tuple : ∀ d z, bi .isTuple [d] = some z → ∃ t r, tyD d = some t ∧ kitB t "tuple" = some r ∧ z = .bl r := by
  intro d z h
  simp only [bi] at h
  cases d <;> simp only at h <;> cases h <;> exact ⟨_, _, rfl, by decide +kernel, rfl⟩
theorem hb_list : ∀ d z, bi .isList [d] = some z → ∃ t r, tyD d = some t ∧ kitB t "list" = some r ∧ z = .bl r := by
  intro d z h
  simp only [bi] at h
  cases d <;> simp only at h <;> cases h <;> exact ⟨_, _, rfl, by decide +kernel, rfl⟩
theorem hb_str : ∀ d z, bi .isStr [d] = some z → ∃ t r, tyD d = some t ∧ kitB t "str" = some r ∧ z = .bl r := by
  intro d z h
  simp only [bi] at h
  cases d <;> simp only at h <;> cases h <;> exact ⟨_, _, rfl, by decide +kernel, rfl⟩
/-! ### a def is called -/
theorem run_fnG {pins : List (Addr × Obj)} {σ : L2.St} {H : Hp} {s : Shared} {Q : VK} {us ws : List Value} {kw : List (Str × Value)} {vs : List V} {f : Addr} {fd : FuncData} {ps : List Str} {sp : Sp} (G : FnG X.prog X.w X.K X.mg X.base k f fd ps sp) (hr : Room k X.A) (hg : X.A.guards = some [])
    (hb : BindsTo s fd ⟨ws, kw⟩ (ps.zip us)) (hx : PassesAt (CX X.prog X.w) X σ (E σ)) (I : Inv X pins σ H s) (r : Vals vs us) (hl : vs.length = ps.length) (h : sp vs H Q (E σ)) : wpAny (model X.prog X.w) X.A (call (.ref f) ws kw) (EP X pins σ Q) X.xe s := by
  refine wpAny_call (codeAny_mono (G.run X.A X.stack s H ⟨ws, kw⟩ us vs Q (E σ) hr hg I.env0 hb r hl h) fun r s' hq => ?_)
  match r, hq with
  | .error e, hq => exact hx pins H s e s' I hq
  | .ok (.ret u), hq => exact I.after hq
end
end SH

set_option Elab.async false
set_option linter.all false
set_option autoImplicit false
set_option maxRecDepth 100000
set_option maxHeartbeats 4000000
namespace SH
open PySem PySem.Spec PyProof.Rows L2 LamX
section
variable {T : Tg} {Φ : Fns} {L : Lib} {N : List Str} {sc : Scope} {cs : List Str} {k : Nat} {E : L2.St → XK} {X : Cx}
variable {K : PySem.W.Frag} {mg : Str → Option Value} {μ μ1 : List Addr} {F F1 H H1 : Hp} {S : Sl} {σ : L2.St} {g g1 : G}
/-! ### slots set and wiped -/
theorem RelS.set {i : Nat} {v : V} {d : D} (r : RelS K mg T S σ F μ H) (q : Rep K mg μ F v d) : RelS K mg T (S.set i (some (.dat d))) (σ.set i (some v)) F μ H where
  len := by rw [List.length_set, List.length_set]; exact r.len
  dat := fun j e h => by
    by_cases hj : i = j
    · subst hj
      have hl : i < S.length := by
        have := (List.getElem?_eq_some_iff.mp h).1
        rwa [List.length_set] at this
      rw [List.getElem?_set_self hl] at h
      cases h
      exact ⟨v, by rw [List.getElem?_set_self (by rw [← r.len]; exact hl)], q⟩
    · rw [List.getElem?_set_ne hj] at h ⊢
      exact r.dat j e h
  own := fun j e h => by
    by_cases hj : i = j
    · subst hj
      have hl : i < S.length := by
        have := (List.getElem?_eq_some_iff.mp h).1
        rwa [List.length_set] at this
      rw [List.getElem?_set_self hl] at h
      cases h
    · rw [List.getElem?_set_ne hj] at h ⊢
      exact r.own j e h
  apart := fun a b xs ys p h1 h2 h3 h4 => by
    by_cases ha : i = a
    · subst ha
      have hl : i < S.length := by
        have := (List.getElem?_eq_some_iff.mp h1).1
        rwa [List.length_set] at this
      rw [List.getElem?_set_self hl] at h1
      cases h1
    · by_cases hb : i = b
      · subst hb
        have hl : i < S.length := by
          have := (List.getElem?_eq_some_iff.mp h2).1
          rwa [List.length_set] at this
        rw [List.getElem?_set_self hl] at h2
        cases h2
      · rw [List.getElem?_set_ne ha] at h1 h3
        rw [List.getElem?_set_ne hb] at h2 h4
        exact r.apart a b xs ys p h1 h2 h3 h4
  err := fun j x h => by
    by_cases hj : i = j
    · subst hj
      have hl : i < S.length := by
        have := (List.getElem?_eq_some_iff.mp h).1
        rwa [List.length_set] at this
      rw [List.getElem?_set_self hl] at h
      cases h
    · rw [List.getElem?_set_ne hj] at h ⊢
      exact r.err j x h
  thk := fun j t h => by
    obtain ⟨hj, h⟩ := set_thk h (fun t z => by cases z)
    rw [List.getElem?_set_ne hj]
    exact r.thk j t h
theorem RelS.unset {i : Nat} (r : RelS K mg T S σ F μ H) : RelS K mg T (S.set i none) (σ.set i none) F μ H where
  len := by rw [List.length_set, List.length_set]; exact r.len
  dat := fun j e h => by
    by_cases hj : i = j
    · subst hj
      have hl : i < S.length := by
        have := (List.getElem?_eq_some_iff.mp h).1
        rwa [List.length_set] at this
      rw [List.getElem?_set_self hl] at h
      cases h
    · rw [List.getElem?_set_ne hj] at h ⊢
      exact r.dat j e h
  own := fun j e h => by
    by_cases hj : i = j
    · subst hj
      have hl : i < S.length := by
        have := (List.getElem?_eq_some_iff.mp h).1
        rwa [List.length_set] at this
      rw [List.getElem?_set_self hl] at h
      cases h
    · rw [List.getElem?_set_ne hj] at h ⊢
      exact r.own j e h
  apart := fun a b xs ys p h1 h2 h3 h4 => by
    by_cases ha : i = a
    · subst ha
      have hl : i < S.length := by
        have := (List.getElem?_eq_some_iff.mp h1).1
        rwa [List.length_set] at this
      rw [List.getElem?_set_self hl] at h1
      cases h1
    · by_cases hb : i = b
      · subst hb
        have hl : i < S.length := by
          have := (List.getElem?_eq_some_iff.mp h2).1
          rwa [List.length_set] at this
        rw [List.getElem?_set_self hl] at h2
        cases h2
      · rw [List.getElem?_set_ne ha] at h1 h3
        rw [List.getElem?_set_ne hb] at h2 h4
        exact r.apart a b xs ys p h1 h2 h3 h4
  err := fun j x h => by
    by_cases hj : i = j
    · subst hj
      have hl : i < S.length := by
        have := (List.getElem?_eq_some_iff.mp h).1
        rwa [List.length_set] at this
      rw [List.getElem?_set_self hl] at h
      cases h
    · rw [List.getElem?_set_ne hj] at h ⊢
      exact r.err j x h
  thk := fun j t h => by
    obtain ⟨hj, h⟩ := set_thk h (fun t z => by cases z)
    rw [List.getElem?_set_ne hj]
    exact r.thk j t h
theorem RelS.wipe (r : RelS K mg T S σ F μ H) : ∀ vs : List Nat, RelS K mg T (wipeS S vs) (L2.wipe σ vs) F μ H
  | [] => r
  | v :: vs => (RelS.wipe r vs).unset
/-! ### targets -/
def putV : List Nat → List V → L2.St → L2.St
  | i :: is, v :: vs, σ => putV is vs (σ.set i (some v))
  | _, _, σ => σ
theorem RelS.putAll : ∀ (tg : List Nat) (vs : List V) (ds : List D) (S : Sl) (σ : L2.St), RelS K mg T S σ F μ H → Reps K mg μ F vs ds → RelS K mg T (putAll tg ds S) (putV tg vs σ) F μ H
  | [], _, _, _, _, r, q => by cases q <;> exact r
  | i :: is, _, _, _, _, r, .nil => r
  | i :: is, v :: vs, d :: ds, S, σ, r, .cons h t => RelS.putAll is vs ds (S.set i (some (.dat d))) (σ.set i (some v)) (r.set h) t
theorem putV_ne : ∀ (tg : List Nat) (vs : List V) (σ : L2.St) (j : Nat), j ∉ tg → (putV tg vs σ)[j]? = σ[j]?
  | [], vs, σ, j, _ => by cases vs <;> rfl
  | i :: is, [], σ, j, _ => rfl
  | i :: is, v :: vs, σ, j, h => by
    show (putV is vs (σ.set i (some v)))[j]? = _
    rw [putV_ne is vs _ j (fun z => h (List.mem_cons_of_mem _ z)), List.getElem?_set_ne (fun z => h (by rw [z]; exact List.mem_cons_self))]
theorem putV_len : ∀ (tg : List Nat) (vs : List V) (σ : L2.St), (putV tg vs σ).length = σ.length
  | [], vs, σ => by cases vs <;> rfl
  | i :: is, [], σ => rfl
  | i :: is, v :: vs, σ => by
    show (putV is vs (σ.set i (some v))).length = _
    rw [putV_len is vs _, List.length_set]
def gs : List Nat → TGs
  | [] => gNil
  | i :: is => gCons (gName i) (gs is)
theorem gs_of : ∀ {tg : List Nat} {vs : List V} {σ : L2.St} {H : Hp} {Q : L2.St → Hp → Prop}, vs.length = tg.length → Q (putV tg vs σ) H → gs tg vs σ H Q
  | [], [], _, _, _, _, h => ⟨rfl, h⟩
  | i :: is, v :: vs, σ, H, Q, hl, h => ⟨v, vs, rfl, gs_of (by simpa using hl) h⟩
/-- the names of a target, as a reading -/
def tgG (K : PySem.W.Frag) : List Nat → TG
  | [i] => gName i
  | tg => gTup K tg.length (gs tg)
/-- what a target does -/
theorem tgG_of {tg : List Nat} {v : V} {d : D} {S' : Sl} {Q : L2.St → Hp → Prop} (r : RelS K mg T S σ F μ H) (le : Same F H) (q : Rep K mg μ F v d) (h : putTg tg d S = some S') (hQ : ∀ σ', RelS K mg T S' σ' F μ H → (∀ j, j ∉ tg → σ'[j]? = σ[j]?) → σ'.length = σ.length → Q σ' H) : tgG K tg v σ H Q := by
  have many : ∀ tg : List Nat, putTup tg d S = some S' → (∀ σ', RelS K mg T S' σ' F μ H → (∀ j, j ∉ tg → σ'[j]? = σ[j]?) → σ'.length = σ.length → Q σ' H) → gTup K tg.length (gs tg) v σ H Q := by
    intro tg h hQ
    unfold putTup at h
    cases q with
    | @tup a vs ds p rs =>
      simp only at h
      split at h
      · rename_i hl
        cases h
        have hl' : ds.length = tg.length := by simpa using hl
        exact ⟨a, vs, rfl, sqT_same le p, rs.length.trans hl', gs_of (rs.length.trans hl') (hQ _ (RelS.putAll tg vs ds S σ r rs) (putV_ne tg vs σ) (putV_len tg vs σ))⟩
      · cases h
    | _ => cases h
  match tg, h, hQ with
  | [i], h, hQ =>
    cases h
    exact hQ _ (r.set q) (fun j hj => List.getElem?_set_ne (fun z => hj (by rw [z]; exact List.mem_cons_self))) (List.length_set ..)
  | [], h, hQ => exact many [] h hQ
  | i :: j :: l, h, hQ => exact many (i :: j :: l) h hQ
def tgName : Expr → Option Str
  | .Name x _ => some x
  | _ => none
theorem tgName_is {e : Expr} {x : Str} (h : tgName e = some x) : ∃ p, e = .Name x p := by
  cases e <;> first | (cases h; done) | skip
  rename_i y p
  cases h
  exact ⟨p, rfl⟩
def stOk (sc : Scope) (cs : List Str) (x : Str) : Bool := match sc.names.lookup x with
  | some .local => true
  | some .cell => cs.contains x
  | _ => false
theorem stOk_loc {x : Str} (h : stOk sc cs x = true) : Loc sc x := by
  unfold stOk at h
  split at h
  · exact .inl (by assumption)
  · exact .inr (by assumption)
  · cases h
theorem stOk_fn {X : Cx} {x : Str} (hs : X.env.scope = sc) (hst : ∀ x ∈ cs, X.fn x = true) (h : stOk sc cs x = true) : X.fn x = true ∨ X.env.scope.names.lookup x = some .local := by
  unfold stOk at h
  split at h
  · exact .inr (by rw [hs]; assumption)
  · exact .inl (hst x (by simpa using h))
  · cases h
/-- the target's names stand in these slots -/
def tgNames (N : List Str) (sc : Scope) (cs : List Str) : List Nat → List Expr → Bool
  | [], [] => true
  | i :: is, e :: es => (match tgName e with
    | some x => decide (N[i]? = some x) && stOk sc cs x
    | none => false) && tgNames N sc cs is es
  | _, _ => false
theorem tgNames_cons {i : Nat} {is : List Nat} {e : Expr} {es : List Expr} (h : tgNames N sc cs (i :: is) (e :: es) = true) : ∃ x p, e = .Name x p ∧ N[i]? = some x ∧ stOk sc cs x = true ∧ tgNames N sc cs is es = true := by
  simp only [tgNames, Bool.and_eq_true] at h
  cases q : tgName e with
  | none => rw [q] at h; cases h.1
  | some x =>
    rw [q] at h
    obtain ⟨p, rfl⟩ := tgName_is q
    simp only [Bool.and_eq_true, decide_eq_true_eq] at h
    exact ⟨x, p, rfl, h.1.1, h.1.2, h.2⟩
theorem ass_name (x : Str) (p : Pos) (es : List Expr) (env : Env) : assignEach (.Name x p :: es) env = (false, assign (.Name x p) env) :: assignEach es env := rfl
theorem tg_ass {env : Env} : ∀ (is : List Nat) (es : List Expr), tgNames N sc cs is es = true → (assignEach es env).length = is.length ∧ (assignEach es env).findIdx? (·.1) = none
  | [], [], _ => ⟨rfl, rfl⟩
  | [], e :: es, h => by cases h
  | i :: is, [], h => by cases h
  | i :: is, e :: es, h => by
    obtain ⟨x, p, rfl, _, _, h'⟩ := tgNames_cons h
    obtain ⟨h1, h2⟩ := tg_ass (env := env) is es h'
    rw [ass_name]
    refine ⟨by rw [List.length_cons, List.length_cons, h1], ?_⟩
    rw [List.findIdx?_cons, h2]; rfl
theorem pgs_names {X : Cx} (hN : X.N = N) (nd : N.Nodup) (hs : X.env.scope = sc) (hst : ∀ x ∈ cs, X.fn x = true) : ∀ (is : List Nat) (es : List Expr), tgNames N sc cs is es = true → PGs X es (gs is)
  | [], [], _ => pgs_nil
  | [], e :: es, h => by cases h
  | i :: is, [], h => by cases h
  | i :: is, e :: es, h => by
    obtain ⟨x, p, rfl, h1, h2, h'⟩ := tgNames_cons h
    exact pgs_cons (pg_name (by rw [hN]; exact nd) (by rw [hN]; exact h1) (by rw [hs]; exact stOk_loc h2) (stOk_fn hs hst h2)) (pgs_names hN nd hs hst is es h') rfl
/-- a target: a name, or a tuple of names -/
def tgOk (N : List Str) (sc : Scope) (cs : List Str) (tg : List Nat) : Expr → Bool
  | .Name x p => (match tg with | [_] => true | _ => false) && tgNames N sc cs tg [.Name x p]
  | .Tuple es _ _ => (match tg with | [_] => false | _ => true) && tgNames N sc cs tg es
  | _ => false
theorem pg_one {X : Cx} {i : Nat} {x : Str} {p : Pos} (hN : X.N = N) (nd : N.Nodup) (hs : X.env.scope = sc) (hst : ∀ x ∈ cs, X.fn x = true) (h : tgNames N sc cs [i] [.Name x p] = true) : PG X (.Name x p) (gName i) := by
  obtain ⟨y, q, e, h1, h2, _⟩ := tgNames_cons h
  cases e
  exact pg_name (by rw [hN]; exact nd) (by rw [hN]; exact h1) (by rw [hs]; exact stOk_loc h2) (stOk_fn hs hst h2)
theorem pg_many {X : Cx} {tg : List Nat} {es : List Expr} {kk : Nat} {p : Pos} (hN : X.N = N) (nd : N.Nodup) (hs : X.env.scope = sc) (hst : ∀ x ∈ cs, X.fn x = true) (hc : X.calm = true) (h : tgNames N sc cs tg es = true) : PG X (.Tuple es kk p) (gTup X.K tg.length (gs tg)) := by
  have a := tg_ass (env := X.env) tg es h
  exact pg_tup hc (pgs_names hN nd hs hst tg es h) a.1 a.2
theorem pg_tg {X : Cx} {tg : List Nat} {e : Expr} (hN : X.N = N) (nd : N.Nodup) (hs : X.env.scope = sc) (hst : ∀ x ∈ cs, X.fn x = true) (hc : X.calm = true) (h : tgOk N sc cs tg e = true) : PG X e (tgG X.K tg) := by
  cases e <;> first | (cases h; done) | skip
  · rename_i x p
    unfold tgOk at h
    simp only [Bool.and_eq_true] at h
    obtain ⟨h1, h2⟩ := h
    match tg, h1, h2 with
    | [i], _, h2 => exact pg_one hN nd hs hst h2
    | [], h1, _ => cases h1
    | _ :: _ :: _, h1, _ => cases h1
  · rename_i es kk p
    unfold tgOk at h
    simp only [Bool.and_eq_true] at h
    obtain ⟨h1, h2⟩ := h
    have b := pg_many (kk := kk) (p := p) hN nd hs hst hc h2
    match tg, h1, b with
    | [i], h1, _ => cases h1
    | [], _, b => exact b
    | i :: j :: l, _, b => exact b
end
end SH

set_option Elab.async false
set_option linter.all false
set_option autoImplicit false
set_option maxRecDepth 100000
set_option maxHeartbeats 4000000
namespace SH
open PySem PySem.Spec PyProof.Rows L2 LamX
/-! ### enumerate over a tuple -/
/-- the tuple at a, its items in new pairs with their places -/
def IteT (K : PySem.W.Frag) (a : Addr) : It where
  go := fun i H => ∃ (xs : List V) (x : V), SqT K H a xs ∧ xs[i]? = some x
  yld := fun i H v H' => ∃ t x, v = .ref t ∧ H t = none ∧ H' = upd H t (.tup [.int (i : Nat), x]) ∧ ∀ xs, SqT K H a xs → xs[i]? = some x
  stop := fun i H => ∃ xs : List V, SqT K H a xs ∧ xs.length = i
theorem enum_apart {h : Heap} {e it a : Addr} {c : Int} {old : Value} {i : Nat} {its : Array Value} (he : IsEnum h e it c old) (hi : h.IsTupleIter it a i) (ht : IsTup h a its) : a ≠ it ∧ e ≠ a := by
  obtain ⟨o1, e1, c1, d1⟩ := hi
  obtain ⟨o2, e2, c2, n, d2⟩ := ht
  refine ⟨fun z => ?_, fun z => ?_⟩
  · rw [z, e1] at e2; cases e2; rw [c1] at c2; exact absurd (Value.type.inj c2) (by decide)
  · have e3 : h.get? e = _ := he
    rw [z, e2] at e3; cases e3; exact absurd (Value.type.inj c2) (by decide)
theorem turn_enumT {P : Program} {w : World} {K : PySem.W.Frag} {elts : List Expr} {kk : Nat} {tpos : Pos} (a e it : Addr) :
    Turn P w K (.Tuple elts kk tpos) (IteT K a) [e, it] e (fun i h => (∃ old, IsEnum h e it ((i : Nat) : Int) old) ∧ h.IsTupleIter it a i ∧ e ≠ it) := by
  refine { mem := by simp, obj := ?_, keep := ?_, item := ?_, done := ?_, self := ?_ }
  · rintro i h ⟨⟨old, he⟩, ⟨o, ho, hc, hd⟩, _⟩ b hb
    rcases List.mem_cons.mp hb with rfl | hb
    · exact ⟨_, he, fun v q => nomatch q⟩
    · obtain rfl := List.mem_singleton.mp hb
      exact ⟨o, ho, fun v q => by rw [hd] at q; cases q⟩
  · rintro i h h' ⟨⟨old, he⟩, hi, hne⟩ kp
    exact ⟨⟨old, kp e (by simp) _ he⟩, hi.at fun o q => kp it (by simp) o q, hne⟩
  · intro X hP hw hK hc i pins s σ H E I hf st hg
    subst hP hw hK
    obtain ⟨⟨old, he⟩, hit, hne⟩ := st
    obtain ⟨xs, x, hq, hx⟩ := hg
    obtain ⟨its, rv, tp, hz⟩ := I.tuple hq
    obtain ⟨u, hu, ru⟩ := rv.get hx
    obtain ⟨hai, hea⟩ := enum_apart he hit tp
    have lte : e < s.heap.objs.size := Heap.lt_size he
    have lti : it < s.heap.objs.size := by obtain ⟨_, q, _⟩ := hit; exact Heap.lt_size q
    have hil : i < its.toArray.size := by
      have := (List.getElem?_eq_some_iff.mp hu).1
      simpa using this
    have hh : X.A.in1.handled = none := I.ok.hd hc
    refine wpAny_pyNext_enum_itemD (Draws.tuple hh it a hai its.toArray) he ⟨hit, tp⟩ hil hne (by simp [hne, hea]) fun y h' tk hy out st' hT hsz kp => ?_
    have ey : y = u := by
      have h2 : its.toArray[i]? = some u := by simpa using hu
      rw [h2] at hy; exact (Option.some.inj hy).symm
    subst ey
    refine ⟨_, rfl, wpAny_letOwnedTupleGo_enum (s := { s with heap := h', toks := tk + 1 }) out fun h'' he' sb => ?_⟩
    have old2 : ∀ b, b < s.heap.objs.size → b ∉ [e, it] → ∀ ob, s.heap.get? b = some ob → h''.get? b = some ob := fun b _ hb ob q =>
      (sb.2 b (fun z => hb (by simp [z]))).trans (kp b ob (fun z => hb (by simp [z])) (fun z => hb (by simp [z])) q)
    have tup2 : h''.get? s.heap.objs.size = some { cls := .type "tuple", data := .seq #[.int i tk, y] } := (sb.2 _ (Nat.ne_of_gt lte)).trans hT
    have new : ObjOk X.prog X.w (upd H s.heap.objs.size (.tup [.int (i : Nat), x])) h'' s.heap.objs.size (.tup [.int (i : Nat), x]) :=
      ⟨(by decide : 2 ≤ sizeLine), [.int i tk, y], .cons ⟨_, rfl⟩ (.cons ru .nil), ⟨_, tup2, rfl, _, rfl⟩⟩
    have I1 : Inv X pins σ (upd H s.heap.objs.size (.tup [.int (i : Nat), x])) { s with heap := h'', toks := tk + 1 } :=
      I.turnedNew (ch := [e, it]) (fun b ob hb q => old2 b (Heap.lt_size q) hb ob q) hf (Nat.le_refl _) new
    refine ⟨.ref s.heap.objs.size, _, I1, rfl, ⟨_, x, rfl, I.hok.fresh (Nat.le_refl _), rfl, fun ys hy2 => by rw [I.tuple_inj hy2 hq]; exact hx⟩, ⟨⟨y, ?_⟩, ?_, hne⟩, fun b hb => ?_⟩
    · have e1 : ((i + 1 : Nat) : Int) = (i : Int) + 1 := by omega
      rw [e1]; exact he'
    · exact st'.1.at fun o q => (sb.2 it (Ne.symm hne)).trans q
    · have lb : b < s.heap.objs.size := by
        rcases List.mem_cons.mp hb with rfl | hb
        · exact lte
        · obtain rfl := List.mem_singleton.mp hb
          exact lti
      rw [upd_ne (Nat.ne_of_lt lb)]
      exact (hf b hb).1
  · intro X hP hw hK hc i pins s σ H E I hf st hg
    subst hP hw hK
    obtain ⟨⟨old, he⟩, hit, hne⟩ := st
    obtain ⟨xs, hq, hx⟩ := hg
    obtain ⟨its, rv, tp, hz⟩ := I.tuple hq
    obtain ⟨hai, hea⟩ := enum_apart he hit tp
    obtain ⟨f0, f1, f2, f3, f4, f5⟩ := hf it (by simp)
    have hh : X.A.in1.handled = none := I.ok.hd hc
    have hl : i = its.toArray.size := by
      rw [List.size_toArray, ← rv.length]; exact hx.symm
    refine wpAny_pyNext_enum_endD (Draws.tuple hh it a hai its.toArray) he ⟨by rw [← hl]; exact hit, tp⟩ fun h' eb => ⟨rfl, ?_⟩
    exact I.turned (t' := s.toks) (fun b o hb q => eb b o hb q) f0 f1 f3 f4 f5
  · rintro A i s Q E ⟨⟨_, he⟩, _⟩ h
    exact wpAny_pyIter_enum he h
/-! ### enumerate(v), v told by how its iterator begins -/
set_option maxHeartbeats 1000000 in
theorem meets_enum1 {v : Value} {o : Obj} {HH : Heap → Prop} (B : Begins v o HH) :
    Meets (Builtin.«enumerate.__new__» ⟨[.type "enumerate", v], []⟩) (fun _ R s => HH s.heap ∧
      R (.ok (.ret (.ref (s.heap.push o).objs.size))) { s with heap := (s.heap.push o).push { cls := .type "enumerate", data := .fields #[.none, .bool false, .ref s.heap.objs.size, rawInt 0, .none, .none] } }) := by
  refine .of_wp fun prog w A R s hs => ?_
  obtain ⟨hp, g, d, tk, os⟩ := s
  obtain ⟨hh, hR⟩ := hs
  have hsub := sub_enumerate
  have q1 : ∀ {A' : Around} {E' : Value → Shared → Prop} {Q' : Value → Shared → Prop}, Q' (.ref hp.objs.size) ⟨hp.push o, g, d, tk, os⟩ → wpAny (model prog w) A' (pyIter v) Q' E' ⟨hp, g, d, tk, os⟩ :=
    fun q => B.iter prog w _ _ ⟨hp, g, d, tk, os⟩ _ hh q
  wp_walk using q1
  refine wpAny_stack_any fun st => wpAny_pure ?_
  split
  · rename_i c _ _ _ _ _
    cases (c == Value.type "enumerate") <;> (wp_walk using q1; exact ⟨_, rfl, hR⟩)
  · wp_walk using q1
    exact ⟨_, rfl, hR⟩
theorem enum_begin1 {prog : Program} {w : World} {A : Around} {E : Value → Shared → Prop} {s : Shared} {v : Value} {o : Obj} {HH : Heap → Prop} {Q : Value → Shared → Prop} (B : Begins v o HH) (h1 : HH s.heap)
    (h : ∀ h', IsEnum h' (s.heap.objs.size + 1) s.heap.objs.size 0 .none → h'.get? s.heap.objs.size = some o → (∀ b u, s.heap.get? b = some u → h'.get? b = some u) → Q (.ref (s.heap.objs.size + 1)) { s with heap := h' }) :
    wpAny (model prog w) A (call (.type "enumerate") [v]) Q E s := by
  refine callType_new F.called_enumerate (by decide) (F.typeCall_enumerate_1 _) (F.newCall_enumerate_1 _) (fun obj => F.args_object_init_2 obj _) F.entry_enumerate_new (meets_enum1 B) ⟨h1, ?_⟩
  have z : (s.heap.push o).objs.size = s.heap.objs.size + 1 := Heap.size_push ..
  show _ ∧ _
  rw [z]
  have he := Heap.get?_push_size (s.heap.push o) (o := { cls := .type "enumerate", data := .fields #[.none, .bool false, .ref s.heap.objs.size, rawInt 0, .none, .none] }) rfl
  rw [z] at he
  exact ⟨⟨_, he, rfl⟩, h _ he (Heap.get?_push_of_some _ (Heap.get?_push_size _ B.free)) fun b u x => Heap.get?_push_of_some _ (Heap.get?_push_of_some _ x)⟩
def iEnumA (K : PySem.W.Frag) (ta : TA) : TI := fun σ H R => ta σ H fun vs H1 => ∃ a xs, vs = [.ref a] ∧ ((SqL K H1 a xs ∧ (xs.length ≤ sizeLine → R (Ite K a) H1)) ∨ (SqT K H1 a xs ∧ (xs.length ≤ sizeLine → R (IteT K a) H1)))
theorem pi_enumA {X : Cx} {e : Expr} {ta : TA} {p pos tpos : Pos} {elts : List Expr} {kk : Nat} (hg : Gl X "enumerate") (hm : X.mg "enumerate" = none) (ha : PA X [e] ta) (hs : starEach [e] X.env = [(false, eval e X.env)]) :
    PI X (.Tuple elts kk tpos) (.Call (.Name "enumerate" p) [e] [] pos) (iEnumA X.K ta) := by
  refine ⟨fun pins s σ H R I h => ?_⟩
  refine Call_ (ld_blt I hg hm boot_enumerate (PyProof.Rows.callWith_type1 (thn (ha.run pos pins s σ H _ I h) fun us s1 ⟨vs, H1, I1, r1, q1⟩ => ?_) hs rfl))
  obtain ⟨a, xs, rfl, q1⟩ := q1
  have two : ∀ b, b ∈ [s1.heap.objs.size + 1, s1.heap.objs.size] → FpOk X pins H1 b := fun b hb => by
    have le : s1.heap.objs.size ≤ b := by
      rcases List.mem_cons.mp hb with z | z
      · omega
      · have := List.mem_singleton.mp z; omega
    exact I1.fpOk le (I1.hok.fresh le)
  cases r1 with
  | cons r rr =>
    cases rr
    cases r
    rcases q1 with ⟨hq, q⟩ | ⟨hq, q⟩
    · obtain ⟨its, rv, tp, hz⟩ := I1.list hq
      refine enum_begin1 (begins_list a its.toArray) tp.isList fun h' he ho kp => wpAny_pyIter_enum he ?_
      exact ⟨s1.heap.objs.size + 1, [s1.heap.objs.size + 1, s1.heap.objs.size], _, _, H1, rfl, I1.kept (t' := s1.toks) kp, turn_enum a (s1.heap.objs.size + 1) s1.heap.objs.size, ⟨⟨.none, he⟩, ⟨_, ho, rfl, rfl⟩, Nat.succ_ne_self _⟩, two, q hz⟩
    · obtain ⟨its, rv, tp, hz⟩ := I1.tuple hq
      refine enum_begin1 (begins_tuple a its.toArray) tp fun h' he ho kp => wpAny_pyIter_enum he ?_
      exact ⟨s1.heap.objs.size + 1, [s1.heap.objs.size + 1, s1.heap.objs.size], _, _, H1, rfl, I1.kept (t' := s1.toks) kp, turn_enumT a (s1.heap.objs.size + 1) s1.heap.objs.size, ⟨⟨.none, he⟩, ⟨_, ho, rfl, rfl⟩, Nat.succ_ne_self _⟩, two, q hz⟩
/-- any list or tuple -/
def iSeq (K : PySem.W.Frag) (tl : TE) : TI := fun σ H R => tl σ H fun x H1 => ∃ a xs, x = .ref a ∧ ((SqL K H1 a xs ∧ (xs.length ≤ sizeLine → R (Itl K a) H1)) ∨ (SqT K H1 a xs ∧ (xs.length ≤ sizeLine → R (Itt K a) H1)))
theorem pi_seq {X : Cx} {tg l : Expr} {tl : TE} (hl : PE X l tl) : PI X tg l (iSeq X.K tl) := by
  refine ⟨fun pins s σ H R I h => ?_⟩
  refine thn (hl.run pins s σ H _ I h) fun v s1 hh => ?_
  obtain ⟨x, H1, I1, r1, a, xs, rfl, q1⟩ := hh
  cases r1
  have one : ∀ b, b ∈ [s1.heap.objs.size] → FpOk X pins H1 b := fun b hb => by
    have le : s1.heap.objs.size ≤ b := by have := List.mem_singleton.mp hb; omega
    exact I1.fpOk le (I1.hok.fresh le)
  have kp : ∀ (o : Obj) (b : Addr) (u : Obj), s1.heap.get? b = some u → (s1.heap.push o).get? b = some u := fun o b u e => Heap.get?_push_of_some _ e
  rcases q1 with ⟨hq, q⟩ | ⟨hq, q⟩
  · obtain ⟨its, rv, tp, hz⟩ := I1.list hq
    refine wpAny_pyIter_list tp.isList ⟨s1.heap.objs.size, [s1.heap.objs.size], _, _, H1, rfl, I1.kept (t' := s1.toks) (kp _), turn_list a _, ⟨_, Heap.get?_push_size _ rfl, rfl, rfl⟩, one, q hz⟩
  · obtain ⟨its, rv, tp, hz⟩ := I1.tuple hq
    refine wpAny_pyIter_tuple (show s1.heap.IsTuple a its.toArray from tp) ⟨s1.heap.objs.size, [s1.heap.objs.size], _, _, H1, rfl, I1.kept (t' := s1.toks) (kp _), turn_tuple a _, ⟨_, Heap.get?_push_size _ rfl, rfl, rfl⟩, one, q hz⟩
end SH

set_option Elab.async false
set_option linter.all false
set_option autoImplicit false
set_option maxRecDepth 100000
set_option maxHeartbeats 4000000
namespace SH
open PySem PySem.Spec PyProof.Rows L2 LamX
/-! ### zip over lists and tuples, of whatever kinds -/
def SqK (ka : Bool) (K : PySem.W.Frag) (H : Hp) (a : Addr) (xs : List V) : Prop := match ka with
  | true => SqL K H a xs
  | false => SqT K H a xs
def IterK (ka : Bool) (h : Heap) (it a : Addr) (i : Nat) : Prop := match ka with
  | true => h.IsListIter it a i
  | false => h.IsTupleIter it a i
def HoldK (ka : Bool) (h : Heap) (a : Addr) (its : Array Value) : Prop := match ka with
  | true => h.IsList a its
  | false => h.IsTuple a its
def ItzA (ka kb : Bool) (K : PySem.W.Frag) (a b : Addr) : It where
  go := fun i H => ∃ (xs ys : List V) (x y : V), SqK ka K H a xs ∧ SqK kb K H b ys ∧ xs[i]? = some x ∧ ys[i]? = some y
  yld := fun i H v H' => ∃ t x y, v = .ref t ∧ H t = none ∧ H' = upd H t (.tup [x, y]) ∧ (∀ xs, SqK ka K H a xs → xs[i]? = some x) ∧ ∀ ys, SqK kb K H b ys → ys[i]? = some y
  stop := fun i H => ∃ xs ys : List V, SqK ka K H a xs ∧ SqK kb K H b ys ∧ i = min xs.length ys.length
section
variable {X : Cx} {pins : List (Addr × Obj)} {σ : L2.St} {H : Hp} {s : Shared}
theorem inv_seqK {ka : Bool} {a : Addr} {xs : List V} (I : Inv X pins σ H s) (h : SqK ka X.K H a xs) : ∃ its : List Value, Vals xs its ∧ HoldK ka s.heap a its.toArray ∧ xs.length ≤ sizeLine := by
  cases ka with
  | true =>
    obtain ⟨its, r, p, z⟩ := I.list h
    exact ⟨its, r, p.isList, z⟩
  | false =>
    obtain ⟨its, r, p, z⟩ := I.tuple h
    exact ⟨its, r, p, z⟩
theorem seqK_inj {ka : Bool} {a : Addr} {xs ys : List V} (I : Inv X pins σ H s) (h : SqK ka X.K H a xs) (h' : SqK ka X.K H a ys) : xs = ys := by
  cases ka with
  | true => exact I.list_inj h h'
  | false => exact I.tuple_inj h h'
theorem drawsK {prog : Program} {w : World} {A : Around} (ka : Bool) (hh : A.handled = none) (it l : Addr) (hne : l ≠ it) (its : Array Value) :
    Draws prog w A it [it, l] its.size (fun i v => its[i]? = some v) (fun i h => IterK ka h it l i ∧ HoldK ka h l its) := by
  cases ka with
  | true => exact Draws.list hh it l hne its
  | false => exact Draws.tuple hh it l hne its
theorem iterK_obj {ka : Bool} {h : Heap} {it a : Addr} {i : Nat} (x : IterK ka h it a i) : ∃ o, h.get? it = some o ∧ ∀ v, o.data ≠ .cell v := by
  cases ka with
  | true => obtain ⟨o, e, _, d⟩ := x; exact ⟨o, e, fun v q => by rw [d] at q; cases q⟩
  | false => obtain ⟨o, e, _, d⟩ := x; exact ⟨o, e, fun v q => by rw [d] at q; cases q⟩
theorem iterK_at {ka : Bool} {h h' : Heap} {it a : Addr} {i : Nat} (x : IterK ka h it a i) (k : ∀ o, h.get? it = some o → h'.get? it = some o) : IterK ka h' it a i := by
  cases ka with
  | true => exact Heap.IsListIter.at x k
  | false => exact Heap.IsTupleIter.at x k
end
/-- the zip's own cells, and what it walks -/
structure ZApart (z ti to_ i1 i2 a b : Addr) : Prop where
  sep : ZipSep2 z ti to_ i1 i2 [i1, a] [i2, b]
  a1 : a ≠ i1
  b2 : b ≠ i2
theorem zap {n a b : Nat} (la : a < n) (lb : b < n) : ZApart (n + 4) (n + 2) (n + 3) n (n + 1) a b :=
  ⟨⟨fun (h : n + 2 = n + 4) => by omega, fun (h : n + 3 = n + 4) => by omega, fun (h : n + 2 = n + 3) => by omega, fun (h : n + 2 = n) => by omega, by simp,
    fun h => by rcases List.mem_cons.mp h with (h : n + 4 = n) | h; omega; have : n + 4 = a := List.mem_singleton.mp h; omega,
    fun h => by rcases List.mem_cons.mp h with (h : n + 3 = n) | h; omega; have : n + 3 = a := List.mem_singleton.mp h; omega,
    fun (h : n + 2 = n + 1) => by omega, by simp,
    fun h => by rcases List.mem_cons.mp h with (h : n + 4 = n + 1) | h; omega; have : n + 4 = b := List.mem_singleton.mp h; omega,
    fun h => by rcases List.mem_cons.mp h with (h : n + 3 = n + 1) | h; omega; have : n + 3 = b := List.mem_singleton.mp h; omega,
    fun h => by rcases List.mem_cons.mp h with (h : n = n + 1) | h; omega; have : n = b := List.mem_singleton.mp h; omega,
    fun h => by rcases List.mem_cons.mp h with (h : n + 1 = n) | h; omega; have : n + 1 = a := List.mem_singleton.mp h; omega⟩, fun (h : a = n) => by omega, fun (h : b = n + 1) => by omega⟩
theorem turn_zipA {P : Program} {w : World} {K : PySem.W.Frag} {elts : List Expr} {kk : Nat} {tpos : Pos} (ka kb : Bool) {a b z ti to_ i1 i2 : Addr} (D : ZApart z ti to_ i1 i2 a b) :
    Turn P w K (.Tuple elts kk tpos) (ItzA ka kb K a b) [z, ti, to_, i1, i2] z (fun i h => IsZip h z ti to_ .none ∧ IsTupOf2 h ti (.ref i1) (.ref i2) ∧ (∃ x y, IsTupOf2 h to_ x y) ∧ IterK ka h i1 a i ∧ IterK kb h i2 b i) := by
  have five : ∀ {c : Addr}, c ∈ [z, ti, to_, i1, i2] → c = z ∨ c = ti ∨ c = to_ ∨ c = i1 ∨ c = i2 := fun {c} hc => by simpa using hc
  refine { mem := by simp, obj := ?_, keep := ?_, item := ?_, done := ?_, self := ?_ }
  · rintro i h ⟨hz, hti, ⟨x, y, hto⟩, h1, h2⟩ c hc
    rcases five hc with rfl | rfl | rfl | rfl | rfl
    · exact ⟨_, hz, fun v q => nomatch q⟩
    · exact ⟨_, hti, fun v q => nomatch q⟩
    · exact ⟨_, hto, fun v q => nomatch q⟩
    · exact iterK_obj h1
    · exact iterK_obj h2
  · rintro i h h' ⟨hz, hti, ⟨x, y, hto⟩, h1, h2⟩ kp
    exact ⟨kp z (by simp) _ hz, kp ti (by simp) _ hti, ⟨x, y, kp to_ (by simp) _ hto⟩, iterK_at h1 fun o q => kp i1 (by simp) o q, iterK_at h2 fun o q => kp i2 (by simp) o q⟩
  · intro X hP hw hK hc i pins s σ H E I hf st hg
    subst hP hw hK
    obtain ⟨hz, hti, ⟨x0, y0, hto⟩, h1, h2⟩ := st
    obtain ⟨xs, ys, x, y, qx, qy, hx, hy⟩ := hg
    obtain ⟨its, rv, hd1, _⟩ := inv_seqK I qx
    obtain ⟨its2, rv2, hd2, _⟩ := inv_seqK I qy
    obtain ⟨u, hu, ru⟩ := rv.get hx
    obtain ⟨u2, hu2, ru2⟩ := rv2.get hy
    have hh : X.A.in1.handled = none := I.ok.hd hc
    have ltz : z < s.heap.objs.size := Heap.lt_size hz
    have l1 : i < its.toArray.size := by
      have := (List.getElem?_eq_some_iff.mp hu).1
      simpa using this
    have l2 : i < its2.toArray.size := by
      have := (List.getElem?_eq_some_iff.mp hu2).1
      simpa using this
    refine wpAny_pyNext_zipD2_item D.sep (drawsK ka hh i1 a D.a1 its.toArray) (drawsK kb hh i2 b D.b2 its2.toArray) hz hti hto ⟨h1, hd1⟩ ⟨h2, hd2⟩ l1 l2 fun v1 v2 h' tk p1 p2 z' to' st1 st2 tup _ kp => ?_
    have e1 : v1 = u := by
      have q : its.toArray[i]? = some u := by simpa using hu
      rw [q] at p1; exact (Option.some.inj p1).symm
    have e2 : v2 = u2 := by
      have q : its2.toArray[i]? = some u2 := by simpa using hu2
      rw [q] at p2; exact (Option.some.inj p2).symm
    subst e1 e2
    refine ⟨_, rfl, wpAny_letOwnedTupleGo_zip (s := { s with heap := h', toks := tk }) z' fun h'' z'' sb => ?_⟩
    have tup2 : h''.get? s.heap.objs.size = some { cls := .type "tuple", data := .seq #[v1, v2] } := (sb.2 _ (Nat.ne_of_gt ltz)).trans tup
    have old : ∀ c o, c ∉ [z, ti, to_, i1, i2] → s.heap.get? c = some o → h''.get? c = some o := fun c o hcn q =>
      (sb.2 c (fun e => hcn (by simp [e]))).trans (kp c o (fun e => hcn (by simp [e])) (fun e => hcn (by simp [e])) (fun e => hcn (by simp [e])) (fun e => hcn (by simp [e])) q)
    have new : ObjOk X.prog X.w (upd H s.heap.objs.size (.tup [x, y])) h'' s.heap.objs.size (.tup [x, y]) :=
      ⟨(by decide : 2 ≤ sizeLine), [v1, v2], .cons ru (.cons ru2 .nil), ⟨_, tup2, rfl, _, rfl⟩⟩
    have I1 : Inv X pins σ (upd H s.heap.objs.size (.tup [x, y])) { s with heap := h'', toks := tk } :=
      I.turnedNew (ch := [z, ti, to_, i1, i2]) (fun c o hcn q => old c o hcn q) hf (Nat.le_refl _) new
    refine ⟨.ref s.heap.objs.size, _, I1, rfl, ⟨_, x, y, rfl, I.hok.fresh (Nat.le_refl _), rfl, fun l hl => by rw [seqK_inj I hl qx]; exact hx, fun l hl => by rw [seqK_inj I hl qy]; exact hy⟩, ⟨z'', ?_, ⟨v1, v2, ?_⟩, ?_, ?_⟩, fun c hcm => ?_⟩
    · exact (sb.2 _ D.sep.TIz).trans (kp _ _ D.sep.TIz D.sep.TITO D.sep.TIi1 D.sep.TIi2 hti)
    · exact (sb.2 _ D.sep.TOz).trans to'
    · exact iterK_at st1.1 fun o q => (sb.2 _ (Ne.symm D.sep.zi1)).trans q
    · exact iterK_at st2.1 fun o q => (sb.2 _ (Ne.symm D.sep.zi2)).trans q
    · have lt : c < s.heap.objs.size := by
        rcases five hcm with rfl | rfl | rfl | rfl | rfl
        · exact ltz
        · exact Heap.lt_size hti
        · exact Heap.lt_size hto
        · obtain ⟨o, q, _⟩ := iterK_obj h1; exact Heap.lt_size q
        · obtain ⟨o, q, _⟩ := iterK_obj h2; exact Heap.lt_size q
      rw [upd_ne (Nat.ne_of_lt lt)]
      exact (hf c hcm).1
  · intro X hP hw hK hc i pins s σ H E I hf st hg
    subst hP hw hK
    obtain ⟨hz, hti, ⟨x0, y0, hto⟩, h1, h2⟩ := st
    obtain ⟨xs, ys, qx, qy, hend⟩ := hg
    obtain ⟨its, rv, hd1, _⟩ := inv_seqK I qx
    obtain ⟨its2, rv2, hd2, _⟩ := inv_seqK I qy
    have hh : X.A.in1.handled = none := I.ok.hd hc
    have s1 : its.toArray.size = xs.length := by rw [List.size_toArray, rv.length]
    have s2 : its2.toArray.size = ys.length := by rw [List.size_toArray, rv2.length]
    refine wpAny_pyNext_zipD2_end D.sep (drawsK ka hh i1 a D.a1 its.toArray) (drawsK kb hh i2 b D.b2 its2.toArray) hz hti hto ⟨h1, hd1⟩ ⟨h2, hd2⟩ (by omega) (by omega) (by omega) fun h' tk kp => ⟨rfl, ?_⟩
    exact I.turnedL (ch := [z, ti, to_, i1, i2]) (fun c o hb q => kp c o (fun e => hb (by simp [e])) (fun e => hb (by simp [e])) (fun e => hb (by simp [e])) (fun e => hb (by simp [e])) q) hf
  · rintro A i s Q E ⟨hz, _⟩ h
    exact wpAny_pyIter_zip hz h
def beginO (ka : Bool) (a : Addr) : Obj := match ka with
  | true => { cls := .type "list_iterator", data := .fields #[.ref a, .int 0 0] }
  | false => { cls := .type "tuple_iterator", data := .fields #[.ref a, .int 0 0] }
theorem beginsK (ka : Bool) (a : Addr) (its : Array Value) : Begins (.ref a) (beginO ka a) fun h => HoldK ka h a its := by
  cases ka with
  | true => exact begins_list a its
  | false => exact begins_tuple a its
theorem iterK_begin {ka : Bool} {h : Heap} {it a : Addr} (e : h.get? it = some (beginO ka a)) : IterK ka h it a 0 := by
  cases ka with
  | true => exact ⟨_, e, rfl, rfl⟩
  | false => exact ⟨_, e, rfl, rfl⟩
theorem holdK_lt {ka : Bool} {h : Heap} {a : Addr} {its : Array Value} (x : HoldK ka h a its) : a < h.objs.size := by
  cases ka with
  | true => obtain ⟨o, e, _⟩ := x; exact Heap.lt_size e
  | false => obtain ⟨o, e, _⟩ := x; exact Heap.lt_size e
def iZipK (K : PySem.W.Frag) (ta : TA) : TI := fun σ H R => ta σ H fun vs H1 => ∃ ka kb a b xs ys, vs = [.ref a, .ref b] ∧ SqK ka K H1 a xs ∧ SqK kb K H1 b ys ∧ (xs.length ≤ sizeLine → R (ItzA ka kb K a b) H1)
theorem pi_zipK {X : Cx} {e e2 : Expr} {ta : TA} {p pos tpos : Pos} {elts : List Expr} {kk : Nat} (hg : Gl X "zip") (hm : X.mg "zip" = none) (ha : PA X [e, e2] ta)
    (hs : starEach [e, e2] X.env = (false, eval e X.env) :: starEach [e2] X.env) (hpl : (backTo pos (starEach [e2] X.env)).any (·.1) = false) :
    PI X (.Tuple elts kk tpos) (.Call (.Name "zip" p) [e, e2] [] pos) (iZipK X.K ta) := by
  refine ⟨fun pins s σ H R I h => ?_⟩
  refine Call_ (ld_blt I hg hm PyProof.Rows.boot_zip (PyProof.Rows.callWith_type1 (thn (ha.run pos pins s σ H _ I h) fun us s1 hh => ?_) hs hpl))
  obtain ⟨vs, H1, I1, r1, ka, kb, a, b, xs, ys, rfl, qx, qy, q⟩ := hh
  obtain ⟨its, rv, hd1, hz1⟩ := inv_seqK I1 qx
  obtain ⟨its2, rv2, hd2, hz2⟩ := inv_seqK I1 qy
  have la := holdK_lt hd1
  have lb := holdK_lt hd2
  cases r1 with
  | cons r rr =>
    cases rr with
    | cons r' rr =>
      cases rr
      cases r
      cases r'
      refine zip_begins2 (beginsK ka a its.toArray) (beginsK kb b its2.toArray) hd1 hd2 fun h' hz hti hto o1 o2 hsz kp => wpAny_pyIter_zip hz ?_
      have ap := zap la lb
      refine ⟨s1.heap.objs.size + 4, [s1.heap.objs.size + 4, s1.heap.objs.size + 2, s1.heap.objs.size + 3, s1.heap.objs.size, s1.heap.objs.size + 1], _, _, H1, rfl, I1.kept (t' := s1.toks) kp, turn_zipA ka kb ap, ⟨hz, hti, ⟨_, _, hto⟩, iterK_begin o1, iterK_begin o2⟩, fun c hcm => ?_, q hz1⟩
      have le : s1.heap.objs.size ≤ c := by
        simp only [List.mem_cons, List.not_mem_nil, or_false] at hcm
        rcases hcm with z | z | z | z | z
        all_goals (rw [z]; first | exact Nat.le_refl _ | exact Nat.le_add_right _ _)
      exact I1.fpOk le (I1.hok.fresh le)
end SH

set_option Elab.async false
set_option linter.all false
set_option autoImplicit false
set_option maxRecDepth 100000
set_option maxHeartbeats 4000000
namespace SH
open PySem PySem.Spec PyProof.Rows L2 LamX
/-- the i-th turn hands on d: as it stands, or as a new tuple -/
def YD (K : PySem.W.Frag) (mg : Str → Option Value) (μ : List Addr) (F H : Hp) (x : V) (H' : Hp) (d : D) : Prop :=
  (H' = H ∧ Rep K mg μ F x d) ∨ ∃ t vs ds, x = .ref t ∧ H t = none ∧ H' = upd H t (.tup vs) ∧ d = .tup ds ∧ Reps K mg μ F vs ds
/-- J goes through l -/
def RW (K : PySem.W.Frag) (mg : Str → Option Value) : List Addr → Hp → It → List D → Prop := fun μ F J l =>
  l.length ≤ sizeLine ∧ ∀ H, Same F H → (∀ i, i < l.length → J.go i H) ∧ J.stop l.length H ∧ ∀ i d x H', l[i]? = some d → J.yld i H x H' → YD K mg μ F H x H' d
def tI (K : PySem.W.Frag) (mg : Str → Option Value) (T : Tg) (Φ : Fns) (E : L2.St → XK) (m : MI) : TI := fun σ H R =>
  ∃ F μ g S, View K mg T F μ g H ∧ RelS K mg T S σ F μ H ∧ Aft K mg T (RW K mg) (evi Φ m S g) F μ H R (E σ)
theorem PI.mono {X : Cx} {tg e : Expr} {t t' : TI} (h : PI X tg e t) (k : ∀ σ H Q, t' σ H Q → t σ H Q) : PI X tg e t' := ⟨fun pins s σ H Q I q => h.run pins s σ H Q I (k σ H Q q)⟩
theorem PI.or {X : Cx} {tg e : Expr} {t t' : TI} (h : PI X tg e t) (h' : PI X tg e t') : PI X tg e (fun σ H R => t σ H R ∨ t' σ H R) := ⟨fun pins s σ H Q I q => by
  rcases q with q | q
  · exact h.run pins s σ H Q I q
  · exact h'.run pins s σ H Q I q⟩
section
variable {T : Tg} {Φ : Fns} {L : Lib} {N : List Str} {sc : Scope} {cs : List Str} {k : Nat} {E : L2.St → XK} {X : Cx}
variable {K : PySem.W.Frag} {mg : Str → Option Value} {μ μ1 : List Addr} {F F1 H H1 : Hp} {S : Sl} {σ : L2.St} {g g1 : G}
theorem rw_list {a : Addr} {vs : List V} {l : List D} (hF : ∀ H, Same F H → SqL K H a vs) (r : Reps K mg μ F vs l) (hz : vs.length ≤ sizeLine) : RW K mg μ F (Itl K a) l := by
  refine ⟨by rw [← r.length]; exact hz, fun H le => ⟨fun i hi => ?_, ⟨vs, hF H le, by rw [r.length]; exact Nat.le_refl _⟩, fun i d x H' hd y => ?_⟩⟩
  · exact ⟨vs, vs[i]'(by rw [r.length]; exact hi), hF H le, by simp⟩
  · obtain ⟨v, e, q⟩ := r.get hd
    have := y.2 vs (hF H le)
    rw [e] at this; cases this
    exact .inl ⟨y.1, q⟩
theorem rw_tup {a : Addr} {vs : List V} {l : List D} (hF : ∀ H, Same F H → SqT K H a vs) (r : Reps K mg μ F vs l) (hz : vs.length ≤ sizeLine) : RW K mg μ F (Itt K a) l := by
  refine ⟨by rw [← r.length]; exact hz, fun H le => ⟨fun i hi => ?_, ⟨vs, hF H le, by rw [r.length]; exact Nat.le_refl _⟩, fun i d x H' hd y => ?_⟩⟩
  · exact ⟨vs, vs[i]'(by rw [r.length]; exact hi), hF H le, by simp⟩
  · obtain ⟨v, e, q⟩ := r.get hd
    have := y.2 vs (hF H le)
    rw [e] at this; cases this
    exact .inl ⟨y.1, q⟩
theorem si_seq {tg e : Expr} {m : ME} (he : PE X e (tE X.K X.mg T Φ E m)) : PI X tg e (tI X.K X.mg T Φ E (.seq m)) := by
  refine PI.mono (pi_seq he) fun σ H R h => ?_
  obtain ⟨F, μ, g, S, hv, hr, h⟩ := h
  simp only [evi] at h
  refine ⟨F, μ, g, S, hv, hr, Aft.imp (Aft.bind h) fun v H1 ⟨x, F1, μ1, g1, y1, r1, h1⟩ => ?_⟩
  obtain ⟨l, e1, h2⟩ := Aft.lift h1
  cases r1 with
  | @tup aa vs ds q r =>
    cases e1
    exact ⟨aa, vs, rfl, .inr ⟨sqT_same y1.view.le q, fun hz => Aft.val (RP := RW X.K X.mg) h2 y1.view (rw_tup (fun H le => sqT_same le q) r hz)⟩⟩
  | @lst aa vs ds q r =>
    cases e1
    exact ⟨aa, vs, rfl, .inl ⟨SqL.of (y1.view.le _ _ q), fun hz => Aft.val (RP := RW X.K X.mg) h2 y1.view (rw_list (fun H le => SqL.of (le _ _ q)) r hz)⟩⟩
  | @scr aa ns q =>
    cases e1
    exact ⟨aa, ns.map V.int, rfl, .inl ⟨sqL_same y1.view.le q, fun hz => Aft.val (RP := RW X.K X.mg) h2 y1.view (rw_list (fun H le => sqL_same le q) (Reps.ofInts ns) hz)⟩⟩
  | _ => cases e1
theorem rw_range {lo hi : Int} (hz : (hi - lo).toNat ≤ sizeLine) : RW K mg μ F (Itr lo (hi - lo).toNat) (rangeL lo hi) := by
  have hl : (rangeL lo hi).length = (hi - lo).toNat := by simp [rangeL]
  refine ⟨by rw [hl]; exact hz, fun H le => ⟨fun i hi' => by rw [hl] at hi'; exact hi', by rw [hl]; exact Nat.le_refl _, fun i d x H' hd y => ?_⟩⟩
  obtain ⟨e1, e2⟩ := y
  have : d = .int (lo + (i : Int)) := by
    unfold rangeL at hd
    rw [List.getElem?_map] at hd
    cases q : (List.range (hi - lo).toNat)[i]? with
    | none => rw [q] at hd; cases hd
    | some j =>
      rw [q] at hd
      have hj : j = i := by
        obtain ⟨hb, hj⟩ := List.getElem?_eq_some_iff.mp q
        rw [List.getElem_range] at hj
        exact hj.symm
      subst hj
      cases hd
      rfl
  subst this
  exact .inl ⟨e1, by rw [e2]; exact .int _⟩
theorem gl_of (ok : CtxOk T Φ L N sc cs k E X) {x : Str} (hg : sc.names.lookup x = some .globalImplicit) : Gl X x := by unfold Gl Env.kindOf; rw [ok.hsc]; exact hg
theorem si_range1 {tg e : Expr} {m : ME} {p pos : Pos} (ok : CtxOk T Φ L N sc cs k E X) (hg : sc.names.lookup ("range" : Str) = some .globalImplicit) (hf : ("range" : Str) ∈ L.free) (hs : notStar e = true)
    (he : PE X e (tE X.K X.mg T Φ E m)) : PI X tg (.Call (.Name "range" p) [e] [] pos) (tI X.K X.mg T Φ E (.range (.lit (.int 0)) m)) := by
  refine PI.mono (pi_range1 (gl_of ok hg) (ok.free _ hf) (sa_cons he sa_nil hs) (star_of hs)) fun σ H R h => ?_
  obtain ⟨F, μ, g, S, hv, hr, h⟩ := h
  have e2 : evi Φ (.range (.lit (.int 0)) m) S g = (evs Φ [m] S g).bind fun l g => match l with
      | [.int j] => if -4611686018427387904 ≤ (0 : Int) && (0 : Int) < 4611686018427387904 && -4611686018427387904 ≤ j && j < 4611686018427387904 && Nat.ble (j - 0).toNat sizeLine then .ok (rangeL 0 j) g else .bad
      | _ => .bad := by
    simp only [evi, evs, ev, Res.bind]
    cases ev Φ m S g with
    | ok x g1 => cases x <;> rfl
    | exc _ _ => rfl
    | bad => rfl
  rw [e2] at h
  refine ⟨F, μ, g, S, hv, hr, Aft.imp (Aft.bindE (RP := RDs X.K X.mg) h) fun vs H1 ⟨x, F1, μ1, g1, ee, y1, r1, h1⟩ => ?_⟩
  have hl := evs_len _ _ _ _ _ _ ee
  match x, hl, r1, h1 with
  | [d], _, r1, h1 =>
    obtain ⟨v, rfl, q⟩ := reps1 r1
    cases q with
    | int j =>
      simp only at h1
      split at h1
      · rename_i hc
        simp only [Bool.and_eq_true, decide_eq_true_eq] at hc
        refine ⟨j, rfl, by omega, by omega, ?_⟩
        have := Aft.val (RP := RW X.K X.mg) h1 y1.view (rw_range (Nat.le_of_ble_eq_true hc.2))
        rwa [Int.sub_zero] at this
      · exact h1.elim
    | _ => exact h1.elim
theorem si_range2 {tg e e' : Expr} {m m' : ME} {p pos : Pos} (ok : CtxOk T Φ L N sc cs k E X) (hg : sc.names.lookup ("range" : Str) = some .globalImplicit) (hf : ("range" : Str) ∈ L.free) (hs : notStar e = true) (hs' : notStar e' = true)
    (he : PE X e (tE X.K X.mg T Φ E m)) (he' : PE X e' (tE X.K X.mg T Φ E m')) : PI X tg (.Call (.Name "range" p) [e, e'] [] pos) (tI X.K X.mg T Φ E (.range m m')) := by
  refine PI.mono (pi_range2 (gl_of ok hg) (ok.free _ hf) (sa_cons he (sa_cons he' sa_nil hs') hs) (by rw [star_of hs, star_of hs']; rfl) (star_of hs')) fun σ H R h => ?_
  obtain ⟨F, μ, g, S, hv, hr, h⟩ := h
  have e2 : evi Φ (.range m m') S g = (evs Φ [m, m'] S g).bind fun l g => match l with
      | [.int i, .int j] => if -4611686018427387904 ≤ i && i < 4611686018427387904 && -4611686018427387904 ≤ j && j < 4611686018427387904 && Nat.ble (j - i).toNat sizeLine then .ok (rangeL i j) g else .bad
      | _ => .bad := by
    simp only [evi, evs, Res.bind]
    cases ev Φ m S g with
    | ok x g1 =>
      simp only
      cases ev Φ m' S g1 with
      | ok y g2 => cases x <;> cases y <;> rfl
      | exc _ _ => rfl
      | bad => rfl
    | exc _ _ => rfl
    | bad => rfl
  rw [e2] at h
  refine ⟨F, μ, g, S, hv, hr, Aft.imp (Aft.bindE (RP := RDs X.K X.mg) h) fun vs H1 ⟨x, F1, μ1, g1, ee, y1, r1, h1⟩ => ?_⟩
  have hl := evs_len _ _ _ _ _ _ ee
  match x, hl, r1, h1 with
  | [d, d'], _, r1, h1 =>
    obtain ⟨v, w, rfl, q, q'⟩ := reps2 r1
    cases q with
    | int i =>
      cases q' with
      | int j =>
        simp only at h1
        split at h1
        · rename_i hc
          simp only [Bool.and_eq_true, decide_eq_true_eq] at hc
          refine ⟨i, j, rfl, by omega, ?_⟩
          exact Aft.val (RP := RW X.K X.mg) h1 y1.view (rw_range (Nat.le_of_ble_eq_true hc.2))
        · exact h1.elim
      | _ => exact h1.elim
    | _ => exact h1.elim
theorem enumL_len : ∀ (n : Nat) (l : List D), (enumL n l).length = l.length
  | _, [] => rfl
  | n, d :: l => by simp [enumL, enumL_len (n + 1) l]
theorem enumL_get : ∀ (n : Nat) (l : List D) (i : Nat) (d : D), (enumL n l)[i]? = some d → ∃ e, l[i]? = some e ∧ d = .tup [.int ((n + i : Nat) : Int), e]
  | _, [], _, _, h => by simp [enumL] at h
  | n, e :: l, 0, d, h => by simp [enumL] at h; subst h; exact ⟨e, rfl, by simp⟩
  | n, e :: l, i + 1, d, h => by
    obtain ⟨x, h1, h2⟩ := enumL_get (n + 1) l i d (by simpa [enumL] using h)
    exact ⟨x, by simpa using h1, by rw [h2]; congr 3; omega⟩
theorem zipL_get : ∀ (l m : List D) (i : Nat) (d : D), (zipL l m)[i]? = some d → ∃ a b, l[i]? = some a ∧ m[i]? = some b ∧ d = .tup [a, b]
  | [], _, _, _, h => by simp [zipL] at h
  | _ :: _, [], _, _, h => by simp [zipL] at h
  | a :: l, b :: m, 0, d, h => by simp [zipL] at h; exact ⟨a, b, rfl, rfl, h.symm⟩
  | a :: l, b :: m, i + 1, d, h => by
    obtain ⟨x, y, h1, h2, h3⟩ := zipL_get l m i d (by simpa [zipL] using h)
    exact ⟨x, y, by simpa using h1, by simpa using h2, h3⟩
theorem zipL_len : ∀ (l m : List D), (zipL l m).length = min l.length m.length
  | [], _ => by simp [zipL]
  | _ :: _, [] => by simp [zipL]
  | a :: l, b :: m => by simp [zipL, zipL_len l m]
theorem rw_enum {a : Addr} {vs : List V} {l : List D} (hF : ∀ H, Same F H → SqL K H a vs) (r : Reps K mg μ F vs l) (hz : vs.length ≤ sizeLine) : RW K mg μ F (Ite K a) (enumL 0 l) := by
  refine ⟨by rw [enumL_len, ← r.length]; exact hz, fun H le => ⟨fun i hi => ?_, ⟨vs, hF H le, by rw [enumL_len, r.length]; exact Nat.le_refl _⟩, fun i d x H' hd y => ?_⟩⟩
  · rw [enumL_len] at hi
    exact ⟨vs, vs[i]'(by rw [r.length]; exact hi), hF H le, by simp⟩
  · obtain ⟨e, h1, rfl⟩ := enumL_get 0 l i d hd
    obtain ⟨t, z, rfl, h2, h3, h4⟩ := y
    obtain ⟨v, e1, q⟩ := r.get h1
    have := h4 vs (hF H le)
    rw [e1] at this; cases this
    exact .inr ⟨t, _, _, rfl, h2, h3, rfl, .cons (by rw [Nat.zero_add]; exact .int _) (.cons q .nil)⟩
theorem rw_enumT {a : Addr} {vs : List V} {l : List D} (hF : ∀ H, Same F H → SqT K H a vs) (r : Reps K mg μ F vs l) (hz : vs.length ≤ sizeLine) : RW K mg μ F (IteT K a) (enumL 0 l) := by
  refine ⟨by rw [enumL_len, ← r.length]; exact hz, fun H le => ⟨fun i hi => ?_, ⟨vs, hF H le, by rw [enumL_len, r.length]⟩, fun i d x H' hd y => ?_⟩⟩
  · rw [enumL_len] at hi
    exact ⟨vs, vs[i]'(by rw [r.length]; exact hi), hF H le, by simp⟩
  · obtain ⟨e, h1, rfl⟩ := enumL_get 0 l i d hd
    obtain ⟨t, z, rfl, h2, h3, h4⟩ := y
    obtain ⟨v, e1, q⟩ := r.get h1
    have := h4 vs (hF H le)
    rw [e1] at this; cases this
    exact .inr ⟨t, _, _, rfl, h2, h3, rfl, .cons (by rw [Nat.zero_add]; exact .int _) (.cons q .nil)⟩
theorem si_enum {elts : List Expr} {kk : Nat} {tpos : Pos} {e : Expr} {m : ME} {p pos : Pos} (ok : CtxOk T Φ L N sc cs k E X) (hg : sc.names.lookup ("enumerate" : Str) = some .globalImplicit) (hf : ("enumerate" : Str) ∈ L.free) (hs : notStar e = true)
    (he : PE X e (tE X.K X.mg T Φ E m)) : PI X (.Tuple elts kk tpos) (.Call (.Name "enumerate" p) [e] [] pos) (tI X.K X.mg T Φ E (.enum m)) := by
  refine PI.mono (pi_enumA (gl_of ok hg) (ok.free _ hf) (sa_cons he sa_nil hs) (star_of hs)) fun σ H R h => ?_
  obtain ⟨F, μ, g, S, hv, hr, h⟩ := h
  have e2 : evi Φ (.enum m) S g = (evs Φ [m] S g).bind fun l g => match l with
      | [d] => lift (enumD d) g
      | _ => .bad := by
    simp only [evi, evs, Res.bind]
    cases ev Φ m S g <;> rfl
  rw [e2] at h
  refine ⟨F, μ, g, S, hv, hr, Aft.imp (Aft.bindE (RP := RDs X.K X.mg) h) fun vs H1 ⟨x, F1, μ1, g1, ee, y1, r1, h1⟩ => ?_⟩
  have hl := evs_len _ _ _ _ _ _ ee
  match x, hl, r1, h1 with
  | [d], _, r1, h1 =>
    obtain ⟨v, rfl, q⟩ := reps1 r1
    obtain ⟨l, e1, h2⟩ := Aft.lift h1
    cases q with
    | @tup aa vs ds q r =>
      cases e1
      exact ⟨aa, vs, rfl, .inr ⟨sqT_same y1.view.le q, fun hz => Aft.val (RP := RW X.K X.mg) h2 y1.view (rw_enumT (fun H le => sqT_same le q) r hz)⟩⟩
    | @lst aa vs ds q r =>
      cases e1
      exact ⟨aa, vs, rfl, .inl ⟨SqL.of (y1.view.le _ _ q), fun hz => Aft.val (RP := RW X.K X.mg) h2 y1.view (rw_enum (fun H le => SqL.of (le _ _ q)) r hz)⟩⟩
    | _ => cases e1
theorem rw_zip {ka kb : Bool} {a b : Addr} {vs us : List V} {l m : List D} (hF : ∀ H, Same F H → SqK ka K H a vs) (hG : ∀ H, Same F H → SqK kb K H b us) (r : Reps K mg μ F vs l) (q : Reps K mg μ F us m) (hz : vs.length ≤ sizeLine) : RW K mg μ F (ItzA ka kb K a b) (zipL l m) := by
  refine ⟨by rw [zipL_len, ← r.length]; omega, fun H le => ⟨fun i hi => ?_, ⟨vs, us, hF H le, hG H le, by rw [zipL_len, r.length, q.length]⟩, fun i d x H' hd y => ?_⟩⟩
  · rw [zipL_len] at hi
    have h1 : i < vs.length := by rw [r.length]; omega
    have h2 : i < us.length := by rw [q.length]; omega
    exact ⟨vs, us, vs[i], us[i], hF H le, hG H le, by simp, by simp⟩
  · obtain ⟨e, f, h1, h2, rfl⟩ := zipL_get l m i d hd
    obtain ⟨t, z, w, rfl, h3, h4, h5, h6⟩ := y
    obtain ⟨v, e1, q1⟩ := r.get h1
    obtain ⟨u, e2, q2⟩ := q.get h2
    have a1 := h5 vs (hF H le)
    have a2 := h6 us (hG H le)
    rw [e1] at a1; cases a1
    rw [e2] at a2; cases a2
    exact .inr ⟨t, _, _, rfl, h3, h4, rfl, .cons q1 (.cons q2 .nil)⟩
/-- a list or a tuple -/
theorem seqK_of {v : V} {d : D} {l : List D} (r : Rep K mg μ F v d) (h : d = .tup l ∨ d = .lst l) : ∃ ka a vs, v = .ref a ∧ (∀ H, Same F H → SqK ka K H a vs) ∧ Reps K mg μ F vs l := by
  rcases h with rfl | rfl
  · cases r with
    | tup q r => exact ⟨false, _, _, rfl, fun H le => sqT_same le q, r⟩
  · cases r with
    | lst q r => exact ⟨true, _, _, rfl, fun H le => SqL.of (le _ _ q), r⟩
theorem zipD_of {x y : D} {l : List D} (h : zipD x y = some l) : ∃ a b, (x = .tup a ∨ x = .lst a) ∧ (y = .tup b ∨ y = .lst b) ∧ l = zipL a b := by
  unfold zipD at h
  split at h <;> cases h
  · exact ⟨_, _, .inl rfl, .inl rfl, rfl⟩
  · exact ⟨_, _, .inr rfl, .inr rfl, rfl⟩
  · exact ⟨_, _, .inl rfl, .inr rfl, rfl⟩
  · exact ⟨_, _, .inr rfl, .inl rfl, rfl⟩
theorem si_zip {elts : List Expr} {kk : Nat} {tpos : Pos} {e e' : Expr} {m m' : ME} {p pos : Pos} (ok : CtxOk T Φ L N sc cs k E X) (hg : sc.names.lookup ("zip" : Str) = some .globalImplicit) (hf : ("zip" : Str) ∈ L.free) (hs : notStar e = true) (hs' : notStar e' = true)
    (he : PE X e (tE X.K X.mg T Φ E m)) (he' : PE X e' (tE X.K X.mg T Φ E m')) : PI X (.Tuple elts kk tpos) (.Call (.Name "zip" p) [e, e'] [] pos) (tI X.K X.mg T Φ E (.zip m m')) := by
  refine PI.mono (pi_zipK (gl_of ok hg) (ok.free _ hf) (sa_cons he (sa_cons he' sa_nil hs') hs) (star_of hs) (stars_of (by simp [noStars, hs']))) fun σ H R h => ?_
  obtain ⟨F, μ, g, S, hv, hr, h⟩ := h
  have e2 : evi Φ (.zip m m') S g = (evs Φ [m, m'] S g).bind fun l g => match l with
      | [x, y] => lift (zipD x y) g
      | _ => .bad := by
    simp only [evi, evs, Res.bind]
    cases ev Φ m S g with
    | ok x g1 =>
      simp only
      cases ev Φ m' S g1 <;> rfl
    | exc _ _ => rfl
    | bad => rfl
  rw [e2] at h
  refine ⟨F, μ, g, S, hv, hr, Aft.imp (Aft.bindE (RP := RDs X.K X.mg) h) fun vs H1 ⟨x, F1, μ1, g1, ee, y1, r1, h1⟩ => ?_⟩
  have hl := evs_len _ _ _ _ _ _ ee
  match x, hl, r1, h1 with
  | [d, d'], _, r1, h1 =>
    obtain ⟨v, w, rfl, q, q'⟩ := reps2 r1
    obtain ⟨l, e1, h2⟩ := Aft.lift h1
    obtain ⟨la, lb, c1, c2, rfl⟩ := zipD_of e1
    obtain ⟨ka, a, xs, rfl, hF, ra⟩ := seqK_of q c1
    obtain ⟨kb, b, ys, rfl, hG, rb⟩ := seqK_of q' c2
    exact ⟨ka, kb, a, b, xs, ys, rfl, hF _ y1.view.le, hG _ y1.view.le, fun hz => Aft.val (RP := RW X.K X.mg) h2 y1.view (rw_zip hF hG ra rb hz)⟩
/-! ### list comprehensions -/
/-- a list that was grown is told -/
theorem Go.freeze {D : Addr} {vs : List V} (x : Go K mg T F μ H F1 μ1 g1 H1) (h0 : H D = none) (h1 : H1 D = some (.lst vs)) (hF : F1 D = none) (hm : D ∉ μ1) : Go K mg T F μ H (upd F1 D (.lst vs)) μ1 g1 H1 where
  view := by
    have hs : Same F1 (upd F1 D (.lst vs)) := fun a u q => by rw [upd_ne (ne_of_none q hF)]; exact q
    refine ⟨fun a u q => ?_, fun a u q => ?_, x.view.nod, fun a ha => ?_, ?_, x.view.tab, x.view.tbs, fun b hb => ⟨(x.view.bas b hb).1.trans hs, (x.view.bas b hb).2⟩⟩
    · by_cases e : a = D
      · subst e; rw [upd_same] at q; cases q; exact h1
      · rw [upd_ne e] at q; exact x.view.le a u q
    · by_cases e : a = D
      · subst e; rw [upd_same] at q; cases q; exact ntL
      · rw [upd_ne e] at q; exact x.view.nt a u q
    · rw [upd_ne (fun e => hm (by rw [← e]; exact ha))]; exact x.view.off a ha
    · exact paired_mem x.view.st fun a ha m r => r.mono hs (Pre.refl _) rfl
  ff := fun a u q => by
    have := x.ff a u q
    rw [upd_ne (ne_of_none this hF)]; exact this
  pre := x.pre
  new := fun a u q => by
    by_cases e : a = D
    · subst e; exact .inr h0
    · rw [upd_ne e] at q; exact x.new a u q
  newμ := x.newμ
  keep := x.keep
  dom := x.dom
/-- the list at D grows -/
theorem Go.grow {D : Addr} {vs ws : List V} (x : Go K mg T F μ H F1 μ1 g1 H1) (h0 : H D = none) (h1 : H1 D = some (.lst vs)) (hF : F1 D = none) (hm : D ∉ μ1) : Go K mg T F μ H F1 μ1 g1 (upd H1 D (.lst ws)) where
  view := by
    refine ⟨fun a u q => ?_, x.view.nt, x.view.nod, x.view.off, ?_, ?_, tbs_upd x.view.tbs ntL, x.view.bas⟩
    · rw [upd_ne (ne_of_none q hF)]; exact x.view.le a u q
    · exact paired_mem x.view.st fun a ha m r => r.mono (Same.refl _) (Pre.refl _) (upd_ne fun e => hm (by rw [← e]; exact ha))
    · intro p hp
      obtain ⟨ps, e1, e2, e3⟩ := x.view.tab p hp
      have ne : p.1 ≠ D := fun e => by rw [e, h1] at e1; cases e1
      refine ⟨ps, by rw [upd_ne ne]; exact e1, e2, fun pos cv hc => ?_⟩
      obtain ⟨c, e4, e5⟩ := e3 pos cv hc
      exact ⟨c, e4, by rw [upd_ne (fun e => by rw [e, h1] at e5; cases e5)]; exact e5⟩
  ff := x.ff
  pre := x.pre
  new := x.new
  newμ := x.newμ
  keep := fun a o q hm' ht => by rw [upd_ne (fun e => by rw [e, h0] at q; cases q)]; exact x.keep a o q hm' ht
  dom := fun a o q => by
    obtain ⟨o', e⟩ := x.dom a o q
    exact ⟨o', by rw [upd_ne (fun e => by rw [e, h0] at q; cases q)]; exact e⟩
end
end SH

set_option Elab.async false
set_option linter.all false
set_option autoImplicit false
set_option maxRecDepth 100000
set_option maxHeartbeats 4000000
namespace SH
open PySem PySem.Spec PyProof.Rows L2 LamX
section
variable {T : Tg} {Φ : Fns} {L : Lib} {N : List Str} {sc : Scope} {cs : List Str} {k : Nat} {E : L2.St → XK} {X : Cx}
variable {K : PySem.W.Frag} {mg : Str → Option Value} {μ μ1 : List Addr} {F F1 H H1 : Hp} {S : Sl} {σ : L2.St} {g g1 : G}
/-- nothing may be raised -/
abbrev EF : L2.St → XK := fun _ _ _ _ => False
/-- the captured names that a block makes -/
def cellNames (scope : Scope) : List Str := (scope.names.map (·.1)).filter fun x => scope.names.lookup x == some .cell
theorem CtxOk.blk (ok : CtxOk T Φ L N sc cs k E X) (hh : L.ev = none) (ht : L.thk = false) {scope : Scope} {own : List (Str × Nat)} (s : Shared) (H : Hp) (C : Addr) (cl : List (Str × Addr)) (fp : List Addr) : CtxOk T Φ L N (relS scope sc) (cellNames scope) k EF (X.blk s H scope (compEnvC scope cl C X.env) fp) where
  hN := ok.hN
  nd := ok.nd
  calm := ok.calm
  un := ok.un
  hsc := by rw [← ok.hsc]; rfl
  room := ok.room
  grd := ok.grd
  pass := fun _ σ pins H s e s' I c => by
    obtain ⟨a, B, H', cls, d, h1, h2, h3, h4, h5, h6, h7, h8⟩ := c
    exact h8.elim
  fns := fun i f h => ⟨(ok.fns i f h).at_⟩
  free := ok.free
  con := ok.con
  st := fun x h => by
    show (scope.names.lookup x == some .cell) = true
    have := (List.mem_filter.mp h).2
    exact this
  po := fun _ => PassesOwn.never
  exs := ok.exs
  tk := fun _ => LamX.takes0
  err := fun v hv => by rw [hh] at hv; cases hv
  subs := ok.subs
  cold := ok.cold
  lamOk := fun h => ⟨(ok.lamOk h).ex⟩
  low := fun h => ⟨(ok.low h).1, fun i f hf => ⟨((ok.low h).2 i f hf).at_⟩⟩
  says := ok.says
  thk := fun h => by rw [ht] at h; cases h
  hots := ok.hots
theorem wipe_get {vs : List Nat} : ∀ {σ : L2.St} {j : Nat}, j ∈ vs → j < σ.length → (L2.wipe σ vs)[j]? = some none := by
  induction vs with
  | nil => intro σ j h; cases h
  | cons v vs ih =>
    intro σ j h hl
    show ((L2.wipe σ vs).set v none)[j]? = _
    by_cases e : v = j
    · subst e
      rw [List.getElem?_set_self (by rw [L2.wipe_length]; exact hl)]
    · rw [List.getElem?_set_ne e]
      rcases List.mem_cons.mp h with h | h
      · exact absurd h.symm e
      · exact ih h hl
theorem wipe_ne {vs : List Nat} : ∀ {σ : L2.St} {j : Nat}, j ∉ vs → (L2.wipe σ vs)[j]? = σ[j]? := by
  induction vs with
  | nil => intro σ j h; rfl
  | cons v vs ih =>
    intro σ j h
    show ((L2.wipe σ vs).set v none)[j]? = _
    rw [List.getElem?_set_ne (fun e => h (by rw [e]; exact List.mem_cons_self)), ih (fun z => h (List.mem_cons_of_mem _ z))]
/-- what was set at wiped places is wiped again -/
theorem wipe_back {vs tg : List Nat} {σ σ2 : L2.St} (hsub : ∀ j ∈ tg, j ∈ vs) (h : ∀ j, j ∉ tg → σ2[j]? = (L2.wipe σ vs)[j]?) (hl : σ2.length = (L2.wipe σ vs).length) : L2.wipe σ2 vs = L2.wipe σ vs := by
  apply List.ext_getElem?
  intro j
  rw [L2.wipe_length] at hl
  by_cases hj : j ∈ vs
  · by_cases hb : j < σ.length
    · rw [wipe_get hj (by rw [hl]; exact hb), wipe_get hj hb]
    · rw [List.getElem?_eq_none (by rw [L2.wipe_length, hl]; omega), List.getElem?_eq_none (by rw [L2.wipe_length]; omega)]
  · rw [wipe_ne hj, h j (fun z => hj (hsub j z))]
theorem turns_no_exc {tg vs : List Nat} {S : Sl} {tests : Sl → G → Res Bool} {elt : Sl → G → Res D} : ∀ (l acc : List D) (g : G) (x : Exc) (g' : G), turns tg vs S tests elt l acc g ≠ .exc x g'
  | [], acc, g, x, g', h => by simp only [turns] at h; cases h
  | d :: l, acc, g, x, g', h => by
    simp only [turns] at h
    split at h
    · cases h
    · split at h
      · split at h
        · exact turns_no_exc l _ _ x g' h
        · cases h
      · exact turns_no_exc l _ _ x g' h
      · cases h
/-- a turn's value comes in -/
theorem YD.go {x : V} {H' : Hp} {d : D} (v : View K mg T F μ g H) (y : YD K mg μ F H x H' d) : ∃ F', Go K mg T F μ H F' μ g H' ∧ Rep K mg μ F' x d := by
  rcases y with ⟨rfl, r⟩ | ⟨t, vs, ds, rfl, ht, rfl, rfl, r⟩
  · exact ⟨F, Go.refl v, r⟩
  · have gg := v.laid (o := .tup vs) ht ntT
    exact ⟨_, gg, .tup (SqT.of upd_same) (r.mono gg.ff (Pre.refl _))⟩
theorem PTs.mono {X : Cx} {e : List Expr} {t t' : TT} (h : PTs X e t) (k : ∀ σ H Q, t' σ H Q → t σ H Q) : PTs X e t' := ⟨fun pins s σ H Q I q => h.run pins s σ H Q I (k σ H Q q)⟩
def tTs (K : PySem.W.Frag) (mg : Str → Option Value) (T : Tg) (Φ : Fns) (E : L2.St → XK) (ms : List ME) : TT := fun σ H Q =>
  ∃ F μ g S, View K mg T F μ g H ∧ RelS K mg T S σ F μ H ∧ Aft K mg T RB (evt Φ ms S g) F μ H Q (E σ)
theorem sts_nil : PTs X [] (tTs X.K X.mg T Φ E []) := by
  refine PTs.mono pts_nil fun σ H Q h => ?_
  obtain ⟨F, μ, g, S, hv, hr, h⟩ := h
  simp only [evt] at h
  exact Aft.val (RP := RB) h hv rfl
theorem sts_one {e : Expr} {m : ME} (he : PT X e (tT X.K X.mg T Φ E m)) : PTs X [e] (tTs X.K X.mg T Φ E [m]) := by
  refine PTs.mono (pts_one he) fun σ H Q h => ?_
  obtain ⟨F, μ, g, S, hv, hr, h⟩ := h
  refine ⟨F, μ, g, S, hv, hr, ?_⟩
  have e2 : evt Φ [m] S g = evT Φ m S g := by
    simp only [evt]
    unfold evT
    cases ev Φ m S g with
    | ok x g1 =>
      simp only [Res.bind]
      cases q : truth x with
      | none => rfl
      | some b => cases b <;> rfl
    | exc _ _ => rfl
    | bad => rfl
  rw [← e2]
  exact h
theorem t_comp {mi : MI} {tg vs : List Nat} {mts : List ME} {me : ME} {wi : TI} (hsub : ∀ j ∈ tg, j ∈ vs) (σ : L2.St) (H : Hp) (Q : VK) (h : tE K mg T Φ E (.comp mi tg vs mts me) σ H Q) :
    tLc (tI K mg T Φ E mi) (tgG K tg) (tTs K mg T Φ EF mts) (tE K mg T Φ EF me) vs σ H Q := by
  obtain ⟨F, μ, g, S, hv, hr, h⟩ := h
  simp only [ev] at h
  refine ⟨F, μ, g, S, hv, hr, Aft.imp (Aft.bind (RP := RW K mg) h) fun J H1 ⟨l, F1, μ1, g1, y1, rw1, h1⟩ => ?_⟩
  intro D hD
  obtain ⟨hsz, hwalk⟩ := rw1
  cases ht : turns tg vs S (fun S g => evt Φ mts S g) (fun S g => ev Φ me S g) l [] g1 with
  | exc x g' => exact absurd ht (turns_no_exc _ _ _ _ _)
  | bad => rw [ht] at h1; exact h1.elim
  | ok L gL =>
    rw [ht] at h1
    have fD : F1 D = none := by
      cases q : F1 D with
      | none => rfl
      | some u => rw [y1.view.le D u q] at hD; cases hD
    have mD : D ∉ μ1 := fun z => store_some y1.view.st z hD
    have g0 : Go K mg T F1 μ1 H1 F1 μ1 g1 (upd H1 D (.lst [])) := by
      refine ⟨⟨fun a u q => ?_, y1.view.nt, y1.view.nod, y1.view.off, ?_, ?_, tbs_upd y1.view.tbs ntL, y1.view.bas⟩, Same.refl _, Pre.refl _, fun a o q => .inl q, fun a q => .inl q, fun a o q _ _ => ?_, fun a o q => ?_⟩
      · rw [upd_ne (ne_of_none q fD)]; exact y1.view.le a u q
      · exact paired_mem y1.view.st fun a ha m r => r.mono (Same.refl _) (Pre.refl _) (upd_ne fun e => mD (by rw [← e]; exact ha))
      · exact y1.view.tab.ext fun b u q => by rw [upd_ne (ne_of_none q hD)]; exact q
      · rw [upd_ne (ne_of_none q hD)]; exact q
      · exact ⟨o, by rw [upd_ne (ne_of_none q hD)]; exact q⟩
    let Pv : Nat → Hp → Prop := fun i H' => ∃ F' μ' g' acc accV, Go K mg T F1 μ1 H1 F' μ' g' H' ∧ H' D = some (.lst accV) ∧ F' D = none ∧ D ∉ μ' ∧ Reps K mg μ' F' accV acc.reverse ∧ acc.length ≤ i ∧
      turns tg vs S (fun S g => evt Φ mts S g) (fun S g => ev Φ me S g) (l.drop i) acc g' = .ok L gL
    have walk : Walk J l.length (fun H' => Same F1 H') (fun i H x H' => ∃ d, l[i]? = some d ∧ YD K mg μ1 F1 H x H' d) :=
      ⟨fun i H' hi q => (hwalk H' q).1 i hi, fun H' q => (hwalk H' q).2.1, fun i H' x H2 hi q y => ⟨l[i], by simp, (hwalk H' q).2.2 i l[i] x H2 (by simp) y⟩⟩
    refine lc_it walk Pv ⟨F1, μ1, g1, [], [], g0, upd_same, fD, mD, .nil, Nat.le_refl _, by rw [List.drop_zero]; exact ht⟩ ?_ ?_ ?_
    · rintro i H' _ ⟨F', μ', g', acc, accV, gg, _⟩
      exact gg.ff.trans gg.view.le
    · rintro i x H' H2 hi ⟨F', μ', g', acc, accV, gg, hD', fD', mD', racc, hlen, htr⟩ ⟨d, hd, yd⟩
      have hdrop : l.drop i = d :: l.drop (i + 1) := by
        rw [List.drop_eq_getElem_cons hi]
        congr 1
        have := List.getElem?_eq_getElem hi
        rw [this] at hd; exact Option.some.inj hd
      rw [hdrop] at htr
      simp only [turns] at htr
      -- the item
      have yd' : YD K mg μ' F' H' x H2 d := by
        rcases yd with ⟨e, r⟩ | ⟨t, vs', ds', e1, e2, e3, e4, r⟩
        · exact .inl ⟨e, r.mono gg.ff gg.pre⟩
        · exact .inr ⟨t, vs', ds', e1, e2, e3, e4, r.mono gg.ff gg.pre⟩
      obtain ⟨F2, go2, rx⟩ := YD.go gg.view yd'
      have hr2 : RelS K mg T S σ F2 μ' H2 := ((hr.go y1).go gg).go go2
      have D2 : H2 D = some (.lst accV) := go2.keep D _ hD' mD' ntL
      have fD2 : F2 D = none := by
        cases q : F2 D with
        | none => rfl
        | some u =>
          rcases go2.new D u q with z | z
          · rw [fD'] at z; cases z
          · rw [hD'] at z; cases z
      cases hp : putTg tg d (wipeS S vs) with
      | none => rw [hp] at htr; cases htr
      | some S1 =>
        rw [hp] at htr
        simp only at htr
        refine tgG_of (hr2.wipe vs) go2.view.le rx hp fun σ2 hr3 hne hl2 => ⟨wipe_back hsub hne hl2, ?_⟩
        -- the tests
        cases het : evt Φ mts S1 g' with
        | exc x g'' => rw [het] at htr; cases htr
        | bad => rw [het] at htr; cases htr
        | ok b g3 =>
          rw [het] at htr
          refine ⟨F2, μ', g', S1, go2.view, hr3, ?_⟩
          rw [het]
          intro b' F3 μ3 H3 go3 eb
          have eb' : b' = b := eb
          subst eb'
          have D3 : H3 D = some (.lst accV) := go3.keep D _ D2 mD' ntL
          have fD3 : F3 D = none := by
            cases q : F3 D with
            | none => rfl
            | some u =>
              rcases go3.new D u q with z | z
              · rw [fD2] at z; cases z
              · rw [D2] at z; cases z
          have mD3 : D ∉ μ3 := fun z => by
            rcases go3.newμ D z with z | z
            · exact mD' z
            · rw [D2] at z; cases z
          have ga := (gg.trans go2).trans go3
          cases b' with
          | false =>
            refine ⟨F3, μ3, g3, acc, accV, ga, D3, fD3, mD3, racc.mono (go2.ff.trans go3.ff) (go2.pre.trans go3.pre), Nat.le_succ_of_le hlen, htr⟩
          | true =>
            simp only [if_true]
            cases hee : ev Φ me S1 g3 with
            | exc x g'' => simp only [hee] at htr; cases htr
            | bad => simp only [hee] at htr; cases htr
            | ok e g4 =>
              simp only [hee] at htr
              refine ⟨F3, μ3, g3, S1, go3.view, hr3.go go3, ?_⟩
              rw [hee]
              intro v F4 μ4 H4 go4 rv
              have D4 : H4 D = some (.lst accV) := go4.keep D _ D3 mD3 ntL
              have fD4 : F4 D = none := by
                cases q : F4 D with
                | none => rfl
                | some u =>
                  rcases go4.new D u q with z | z
                  · rw [fD3] at z; cases z
                  · rw [D3] at z; cases z
              have mD4 : D ∉ μ4 := fun z => by
                rcases go4.newμ D z with z | z
                · exact mD3 z
                · rw [D3] at z; cases z
              have lacc : accV.length = acc.length := by rw [racc.length, List.length_reverse]
              refine ⟨accV, D4, by omega, F4, μ4, g4, e :: acc, accV ++ [v], Go.grow (ga.trans go4) hD D4 fD4 mD4, upd_same, fD4, mD4, ?_, by simp only [List.length_cons]; omega, htr⟩
              rw [List.reverse_cons]
              exact (racc.mono ((go2.ff.trans go3.ff).trans go4.ff) ((go2.pre.trans go3.pre).trans go4.pre)).append (.cons rv .nil)
    · rintro H' ⟨F', μ', g', acc, accV, gg, hD', fD', mD', racc, hlen, htr⟩
      rw [List.drop_length] at htr
      simp only [turns] at htr
      cases htr
      have gf := Go.freeze gg hD hD' fD' mD'
      exact h1 (.ref D) _ μ' H' gf (.lst upd_same (racc.mono (fun a u q => by rw [upd_ne (ne_of_none q fD')]; exact q) (Pre.refl _)))
end
end SH

set_option Elab.async false
set_option linter.all false
set_option autoImplicit false
set_option maxRecDepth 100000
set_option maxHeartbeats 4000000
namespace SH
open PySem PySem.Spec PyProof.Rows L2 LamX
section
variable {T : Tg} {Φ : Fns} {L : Lib} {N : List Str} {sc : Scope} {cs : List Str} {k : Nat} {E : L2.St → XK} {X : Cx}
def notSet : Expr → Bool
  | .Set .. => false
  | _ => true
theorem folded_of {e : Expr} {env : Env} (h : notSet e = true) (x : Value) : foldedSetIterable e env x = pure x := by
  cases e <;> first | rfl | cases h
theorem se_comp {elt tg iter : Expr} {ifs : List Expr} {scope : Scope} {own : List (Str × Nat)} {tgs : List Nat} {mi : MI} {mts : List ME} {me : ME} {pos : Pos} (ok : CtxOk T Φ L N sc cs k E X) (hh : L.ev = none) (ht : L.thk = false)
    (hi : PI X tg iter (tI X.K X.mg T Φ E mi)) (hb : blkC N sc scope own = true) (htg : tgOk N (relS scope sc) (cellNames scope) tgs tg = true) (hsub : (tgs.all fun j => (own.map (·.2)).contains j) = true) (hset : notSet iter = true)
    (hts : ∀ X', CtxOk T Φ L N (relS scope sc) (cellNames scope) k EF X' → PTs X' ifs (tTs X'.K X'.mg T Φ EF mts)) (hel : ∀ X', CtxOk T Φ L N (relS scope sc) (cellNames scope) k EF X' → PE X' elt (tE X'.K X'.mg T Φ EF me)) :
    PE X (.ListComp elt [⟨tg, iter, ifs, 0⟩] scope pos) (tE X.K X.mg T Φ E (.comp mi tgs (own.map (·.2)) mts me)) := by
  have bo : BlkOk X.N X.env.scope scope own := blkOk_by (by rw [ok.hN, ok.hsc]; exact hb)
  have c := fun (s : Shared) (H : Hp) (C : Addr) (cl : List (Str × Addr)) (fp : List Addr) => ok.blk hh ht (scope := scope) (own := own) s H C cl fp
  refine PE.mono (pe_lc (te := tE X.K X.mg T Φ EF me) (tt := tTs X.K X.mg T Φ EF mts) (g := tgG X.K tgs) (ok.calm hh) (by rw [ok.hN]; exact ok.nd) hi bo (fun s H C cl fp => pg_tg (c s H C cl fp).hN ok.nd (c s H C cl fp).hsc (c s H C cl fp).st (ok.calm hh) htg) (fun s H C cl fp => hts _ (c s H C cl fp)) (fun s H C cl fp => hel _ (c s H C cl fp)) (folded_of hset)) fun σ H Q h => ?_
  refine t_comp (wi := tI X.K X.mg T Φ E mi) (fun j hj => ?_) σ H Q h
  have := List.all_eq_true.mp hsub j hj
  simpa using this
/-- name = [..], the store put off to the comprehension's end -/
theorem ps_comp {i : Nat} {y : Str} {py spos : Pos} {elt tg iter : Expr} {ifs : List Expr} {scope : Scope} {own : List (Str × Nat)} {tgs : List Nat} {mi : MI} {mts : List ME} {me : ME} {pos : Pos} (ok : CtxOk T Φ L N sc cs k E X) (hh : L.ev = none) (ht : L.thk = false)
    (hy : N[i]? = some y) (hyl : sc.names.lookup y = some .local) (hsw : swapsWith (.ListComp elt [⟨tg, iter, ifs, 0⟩] scope pos) (some (.Name y py)) spos.line X.env = pure true)
    (hi : PI X tg iter (tI X.K X.mg T Φ E mi)) (hb : blkC N sc scope own = true) (htg : tgOk N (relS scope sc) (cellNames scope) tgs tg = true) (hsub : (tgs.all fun j => (own.map (·.2)).contains j) = true) (hset : notSet iter = true)
    (hts : ∀ X', CtxOk T Φ L N (relS scope sc) (cellNames scope) k EF X' → PTs X' ifs (tTs X'.K X'.mg T Φ EF mts)) (hel : ∀ X', CtxOk T Φ L N (relS scope sc) (cellNames scope) k EF X' → PE X' elt (tE X'.K X'.mg T Φ EF me)) :
    PS X (.Assign [.Name y py] (.ListComp elt [⟨tg, iter, ifs, 0⟩] scope pos) spos) (tAsg (tE X.K X.mg T Φ E (.comp mi tgs (own.map (·.2)) mts me)) (gName i)) := by
  have bo : BlkOk X.N X.env.scope scope own := blkOk_by (by rw [ok.hN, ok.hsc]; exact hb)
  have c := fun (s : Shared) (H : Hp) (C : Addr) (cl : List (Str × Addr)) (fp : List Addr) => ok.blk hh ht (scope := scope) (own := own) s H C cl fp
  have base := ps_setLc (te := tE X.K X.mg T Φ EF me) (tt := tTs X.K X.mg T Φ EF mts) (g := tgG X.K tgs) (py := py) (spos := spos) (i := i) (y := y) (ok.calm hh) (by rw [ok.hN]; exact ok.nd) (by rw [ok.hN]; exact hy) (by rw [ok.hsc]; exact hyl) hsw hi bo (fun s H C cl fp => pg_tg (c s H C cl fp).hN ok.nd (c s H C cl fp).hsc (c s H C cl fp).st (ok.calm hh) htg) (fun s H C cl fp => hts _ (c s H C cl fp)) (fun s H C cl fp => hel _ (c s H C cl fp)) (folded_of hset)
  refine ⟨fun pins s σ H D I h => base.run pins s σ H D I ?_⟩
  refine t_comp (wi := tI X.K X.mg T Φ E mi) (fun j hj => ?_) σ H _ h
  have := List.all_eq_true.mp hsub j hj
  simpa using this
end
/-! ### statements -/
inductive MS where
  | set (tg : List Nat) (e : ME)
  | own (i : Nat) (e : ME)
  | par (i j : Nat) (a b : ME)
  | expr (e : ME)
  | ret (e : ME)
  | retN
  | if_ (c : ME) (a b : List MS)
  | for_ (it : MI) (tg : List Nat) (body : List MS)
  | app (i : Nat) (e : ME)
  | ext (i : Nat) (e : ME)
  | setI (i : Nat) (ix e : ME)
  | while_ (c : ME) (body : List MS)
  | setK (a : ME) (k : Key) (e : ME)
  | raise_ (cls : Str) (fs : List Str) (es : List ME)
  | pass | brk | cont
  | frz (is : List Nat)
  | try_ (body : List MS) (all l : List Str) (i : Nat) (suite : List MS)
inductive SR where
  | next (S : Sl) (g : G)
  | ret (d : D) (g : G)
  | brk (S : Sl) (g : G)
  | cont (S : Sl) (g : G)
  | exc (x : Exc) (S : Sl) (g : G)
  | bad
/-- what an expression hands on -/
def thenS {α : Type} (r : Res α) (S : Sl) (f : α → G → SR) : SR := match r with
  | .ok a g => f a g
  | .exc x g => .exc x S g
  | .bad => .bad
def ofO (o : Option SR) : SR := match o with
  | some r => r
  | none => .bad
/-- the turns of a for -/
def forL (tg : List Nat) (body : Sl → G → SR) : List D → Sl → G → SR
  | [], S, g => .next S g
  | d :: l, S, g => match putTg tg d S with
    | none => .bad
    | some S1 => match body S1 g with
      | .next S2 g2 => forL tg body l S2 g2
      | .cont S2 g2 => forL tg body l S2 g2
      | .brk S2 g2 => .next S2 g2
      | r => r
/-- the turns of a while -/
def whileL (test : Sl → G → Res Bool) (body : Sl → G → SR) : Nat → Sl → G → SR
  | 0, _, _ => .bad
  | n + 1, S, g => match test S g with
    | .ok true g1 => (match body S g1 with
      | .next S2 g2 => whileL test body n S2 g2
      | .cont S2 g2 => whileL test body n S2 g2
      | .brk S2 g2 => .next S2 g2
      | r => r)
    | .ok false g1 => .next S g1
    | .exc x g1 => .exc x S g1
    | .bad => .bad
def setAt (xs : List D) (y x : D) : Option (List D) := match y with
  | .int k => (ixN xs.length k).map fun j => xs.set j x
  | _ => none
def freezeS (S : Sl) (i : Nat) : Sl := match S[i]? with
  | some (some (.own xs)) => S.set i (some (.dat (.lst xs)))
  | _ => S
/-- the suite's name goes, and no slot holds an error -/
def clr (i : Nat) (S : Sl) : Sl := (S.set i none).map fun o => match o with
  | some (.err _) => none
  | some (.thk _) => none
  | o => o
def endTry (i : Nat) : SR → SR
  | .next S g => .next (clr i S) g
  | .brk S g => .brk (clr i S) g
  | .cont S g => .cont (clr i S) g
  | .ret d g => .ret d g
  | _ => .bad
mutual
def exec (Φ : Fns) : MS → Sl → G → SR
  | .set tg e, S, g => thenS (ev Φ e S g) S fun x g => ofO ((putTg tg x S).map fun S1 => .next S1 g)
  | .own i e, S, g => thenS (ev Φ e S g) S fun x g => match x with
    | .lst l => .next (S.set i (some (.own l))) g
    | _ => .bad
  | .par i j a b, S, g => thenS (ev Φ a S g) S fun x g => thenS (ev Φ b S g) S fun y g => .next ((S.set i (some (.dat x))).set j (some (.dat y))) g
  | .expr e, S, g => thenS (ev Φ e S g) S fun _ g => .next S g
  | .ret e, S, g => thenS (ev Φ e S g) S fun x g => .ret x g
  | .retN, S, g => .ret .non g
  | .if_ c a b, S, g => thenS (evT Φ c S g) S fun x g => match x with
    | true => execs Φ a S g
    | false => execs Φ b S g
  | .for_ it tg body, S, g => thenS (evi Φ it S g) S fun l g => forL tg (fun S g => execs Φ body S g) l S g
  | .app i e, S, g => match S[i]? with
    | some (some (.own xs)) => thenS (ev Φ e S g) S fun x g => if xs.length < sizeLine then .next (S.set i (some (.own (xs ++ [x])))) g else .bad
    | _ => .bad
  | .ext i e, S, g => match S[i]? with
    | some (some (.own xs)) => thenS (ev Φ e S g) S fun x g => match seqX x with
      | some ys => if sizeOk (xs.length + ys.length) then .next (S.set i (some (.own (xs ++ ys)))) g else .bad
      | none => .bad
    | _ => .bad
  | .setI i ix e, S, g => thenS (ev Φ e S g) S fun x g => match S[i]? with
    | some (some (.own xs)) => thenS (ev Φ ix S g) S fun y g => (match setAt xs y x with
      | some xs' => .next (S.set i (some (.own xs'))) g
      | none => .bad)
    | _ => .bad
  | .while_ c body, S, g => whileL (fun S g => evT Φ c S g) (fun S g => execs Φ body S g) 100000 S g
  | .setK a k e, S, g => thenS (ev Φ e S g) S fun x g => thenS (ev Φ a S g) S fun y g => match y with
    | .ptr p => (match g[p]? with
      | some (.dict kvs) => if kvs.length < 1000 then .next S (g.set p (.dict (dPut kvs k x))) else .bad
      | none => .bad)
    | _ => .bad
  | .raise_ c fs es, S, g => thenS (evs Φ es S g) S fun l g => .exc ⟨c, fs.zip l⟩ S g
  | .pass, S, g => .next S g
  | .brk, S, g => .brk S g
  | .cont, S, g => .cont S g
  | .frz is, S, g => .next (is.foldl freezeS S) g
  | .try_ body all l i suite, S, g => match execs Φ body S g with
    | .exc x S1 g1 => if all.contains x.cls then (if l.contains x.cls then endTry i (execs Φ suite (S1.set i (some (.err x))) g1) else .exc x S1 g1) else .bad
    | r => r
def execs (Φ : Fns) : List MS → Sl → G → SR
  | [], S, g => .next S g
  | m :: ms, S, g => match exec Φ m S g with
    | .next S1 g1 => execs Φ ms S1 g1
    | r => r
end
end SH

set_option Elab.async false
set_option linter.all false
set_option autoImplicit false
set_option maxRecDepth 100000
set_option maxHeartbeats 4000000
namespace SH
open PySem PySem.Spec PyProof.Rows L2 LamX
/-- a list of one's own stands at a -/
def OwnAt (S : Sl) (σ : L2.St) (a : Addr) : Prop := ∃ (i : Nat) (xs : List D), S[i]? = some (some (SV.own xs)) ∧ σ[i]? = some (some (V.ref a))
structure GoO (K : PySem.W.Frag) (mg : Str → Option Value) (T : Tg) (O : Addr → Prop) (F : Hp) (μ : List Addr) (H : Hp) (F' : Hp) (μ' : List Addr) (g' : G) (H' : Hp) : Prop where
  view : View K mg T F' μ' g' H'
  ff : Same F F'
  pre : Pre μ μ'
  new : ∀ a o, F' a = some o → F a = some o ∨ H a = none ∨ O a
  newμ : ∀ a ∈ μ', a ∈ μ ∨ H a = none
  keep : ∀ a o, H a = some o → a ∉ μ → (∀ ps, o ≠ .tbl ps) → ¬ O a → H' a = some o
  dom : ∀ a o, H a = some o → ∃ o', H' a = some o'
section
variable {K : PySem.W.Frag} {mg : Str → Option Value} {T : Tg} {F F1 F2 : Hp} {μ μ1 μ2 : List Addr} {g g1 g2 : G} {H H1 H2 : Hp} {S S1 S2 : Sl} {σ σ1 σ2 : L2.St} {O O1 : Addr → Prop}
theorem Go.toO (x : Go K mg T F μ H F1 μ1 g1 H1) : GoO K mg T O F μ H F1 μ1 g1 H1 :=
  ⟨x.view, x.ff, x.pre, fun a o h => by rcases x.new a o h with h | h; exact .inl h; exact .inr (.inl h), x.newμ, fun a o h1 h2 h3 _ => x.keep a o h1 h2 h3, x.dom⟩
theorem GoO.free (x : GoO K mg T O F μ H F1 μ1 g1 H1) {a : Addr} (h : H1 a = none) : H a = none := by
  cases q : H a with
  | none => rfl
  | some o => obtain ⟨o', e⟩ := x.dom a o q; rw [h] at e; cases e
theorem GoO.trans (x : GoO K mg T O F μ H F1 μ1 g1 H1) (y : GoO K mg T O1 F1 μ1 H1 F2 μ2 g2 H2) (ho : ∀ a, O1 a → O a ∨ H a = none) : GoO K mg T O F μ H F2 μ2 g2 H2 where
  view := y.view
  ff := x.ff.trans y.ff
  pre := x.pre.trans y.pre
  new := fun a o h => by
    rcases y.new a o h with h | h | h
    · exact x.new a o h
    · exact .inr (.inl (x.free h))
    · rcases ho a h with h | h
      · exact .inr (.inr h)
      · exact .inr (.inl h)
  newμ := fun a h => by
    rcases y.newμ a h with h | h
    · exact x.newμ a h
    · exact .inr (x.free h)
  keep := fun a o h hm ht hO => y.keep a o (x.keep a o h hm ht hO) (fun hm' => by
    rcases x.newμ a hm' with q | q
    · exact hm q
    · rw [h] at q; cases q) ht (fun q => by
    rcases ho a q with q | q
    · exact hO q
    · rw [h] at q; cases q)
  dom := fun a o h => by
    obtain ⟨o', h'⟩ := x.dom a o h
    exact y.dom a o' h'
def AftS (K : PySem.W.Frag) (mg : Str → Option Value) (T : Tg) (S₀ : Sl) (σ₀ : L2.St) (r : SR) (F : Hp) (μ : List Addr) (H : Hp) (D : Ends) (E : L2.St → XK) : Prop := match r with
  | .next S g => ∀ σ' F' μ' H', GoO K mg T (OwnAt S₀ σ₀) F μ H F' μ' g H' → RelS K mg T S σ' F' μ' H' → (∀ a, OwnAt S σ' a → OwnAt S₀ σ₀ a ∨ H a = none) → D.nx σ' H'
  | .brk S g => ∀ σ' F' μ' H', GoO K mg T (OwnAt S₀ σ₀) F μ H F' μ' g H' → RelS K mg T S σ' F' μ' H' → (∀ a, OwnAt S σ' a → OwnAt S₀ σ₀ a ∨ H a = none) → D.bk σ' H'
  | .cont S g => ∀ σ' F' μ' H', GoO K mg T (OwnAt S₀ σ₀) F μ H F' μ' g H' → RelS K mg T S σ' F' μ' H' → (∀ a, OwnAt S σ' a → OwnAt S₀ σ₀ a ∨ H a = none) → D.ct σ' H'
  | .ret d g => ∀ v F' μ' H', GoO K mg T (OwnAt S₀ σ₀) F μ H F' μ' g H' → Rep K mg μ' F' v d → D.rt v H'
  | .exc x S g => ∀ σ' cls dd F' μ' H', GoO K mg T (OwnAt S₀ σ₀) F μ H F' μ' g H' → RelS K mg T S σ' F' μ' H' → (∀ a, OwnAt S σ' a → OwnAt S₀ σ₀ a ∨ H a = none) → ExcAt K mg F' μ' x cls dd → E σ' cls dd H'
  | .bad => False
theorem AftS.from {r : SR} {D : Ends} {E : L2.St → XK} (x : GoO K mg T (OwnAt S σ) F μ H F1 μ1 g1 H1) (ho : ∀ a, OwnAt S1 σ1 a → OwnAt S σ a ∨ H a = none) (h : AftS K mg T S σ r F μ H D E) : AftS K mg T S1 σ1 r F1 μ1 H1 D E := by
  have sub : ∀ {S2 : Sl} {σ2 : L2.St}, (∀ a, OwnAt S2 σ2 a → OwnAt S1 σ1 a ∨ H1 a = none) → ∀ a, OwnAt S2 σ2 a → OwnAt S σ a ∨ H a = none := fun hs a q => by
    rcases hs a q with q | q
    · exact ho a q
    · exact .inr (x.free q)
  cases r with
  | next S2 g2 => exact fun σ' F' μ' H' y rl hs => h σ' F' μ' H' (x.trans y ho) rl (sub hs)
  | brk S2 g2 => exact fun σ' F' μ' H' y rl hs => h σ' F' μ' H' (x.trans y ho) rl (sub hs)
  | cont S2 g2 => exact fun σ' F' μ' H' y rl hs => h σ' F' μ' H' (x.trans y ho) rl (sub hs)
  | ret d g2 => exact fun v F' μ' H' y rl => h v F' μ' H' (x.trans y ho) rl
  | exc e S2 g2 => exact fun σ' c d F' μ' H' y rl hs q => h σ' c d F' μ' H' (x.trans y ho) rl (sub hs) q
  | bad => exact h
theorem AftS.bind {α β : Type} {RP : List Addr → Hp → β → α → Prop} {r : Res α} {f : α → G → SR} {D : Ends} {E : L2.St → XK} (hr : RelS K mg T S σ F μ H) (h : AftS K mg T S σ (thenS r S f) F μ H D E) :
    Aft K mg T RP r F μ H (fun v H1 => ∃ x F1 μ1 g1, Go K mg T F μ H F1 μ1 g1 H1 ∧ RP μ1 F1 v x ∧ AftS K mg T S σ (f x g1) F1 μ1 H1 D E) (E σ) := by
  cases r with
  | ok a g' => exact fun v F' μ' H' y q => ⟨a, F', μ', g', y, q, AftS.from y.toO (fun a h => .inl h) h⟩
  | exc e g' => exact fun c d F' μ' H' y q => h σ c d F' μ' H' y.toO (hr.go y) (fun a h => .inl h) q
  | bad => exact h
end
/-! ### readings -/
def tM (K : PySem.W.Frag) (mg : Str → Option Value) (T : Tg) (Φ : Fns) (E : L2.St → XK) (m : MS) : TS := fun D σ H =>
  ∃ F μ g S, View K mg T F μ g H ∧ RelS K mg T S σ F μ H ∧ AftS K mg T S σ (exec Φ m S g) F μ H D E
def tMs (K : PySem.W.Frag) (mg : Str → Option Value) (T : Tg) (Φ : Fns) (E : L2.St → XK) (m : List MS) : TS := fun D σ H =>
  ∃ F μ g S, View K mg T F μ g H ∧ RelS K mg T S σ F μ H ∧ AftS K mg T S σ (execs Φ m S g) F μ H D E
theorem PS.mono {X : Cx} {e : Stmt} {t t' : TS} (h : PS X e t) (k : ∀ D σ H, t' D σ H → t D σ H) : PS X e t' := ⟨fun pins s σ H D I q => h.run pins s σ H D I (k D σ H q)⟩
theorem PSs.mono {X : Cx} {e : List Stmt} {t t' : TS} (h : PSs X e t) (k : ∀ D σ H, t' D σ H → t D σ H) : PSs X e t' := ⟨fun pins s σ H D I q => h.run pins s σ H D I (k D σ H q)⟩
section
variable {T : Tg} {Φ : Fns} {L : Lib} {N : List Str} {sc : Scope} {cs : List Str} {k : Nat} {E : L2.St → XK} {X : Cx}
variable {K : PySem.W.Frag} {mg : Str → Option Value} {F F1 F2 : Hp} {μ μ1 μ2 : List Addr} {g g1 g2 : G} {H H1 H2 : Hp} {S S1 S2 : Sl} {σ σ1 σ2 : L2.St}
theorem ss_nil : PSs X [] (tMs X.K X.mg T Φ E []) := PSs.mono pss_nil fun D σ H ⟨F, μ, g, S, hv, hr, h⟩ => by
  simp only [execs] at h
  exact h σ F μ H (Go.refl hv).toO hr fun a q => .inl q
theorem ss_cons {st : Stmt} {sts : List Stmt} {m : MS} {ms : List MS} (h1 : PS X st (tM X.K X.mg T Φ E m)) (h2 : PSs X sts (tMs X.K X.mg T Φ E ms)) : PSs X (st :: sts) (tMs X.K X.mg T Φ E (m :: ms)) := by
  refine PSs.mono (pss_cons h1 h2) fun D σ H ⟨F, μ, g, S, hv, hr, h⟩ => ⟨F, μ, g, S, hv, hr, ?_⟩
  simp only [execs] at h
  cases e : exec Φ m S g with
  | next S1 g1 =>
    rw [e] at h
    exact fun σ' F' μ' H' y rl hs => ⟨F', μ', g1, S1, y.view, rl, AftS.from y hs h⟩
  | brk S1 g1 => rw [e] at h; exact h
  | cont S1 g1 => rw [e] at h; exact h
  | ret d g1 => rw [e] at h; exact h
  | exc x S1 g1 => rw [e] at h; exact h
  | bad => rw [e] at h; exact h
theorem set_own {S : Sl} {i j : Nat} {d : D} {xs : List D} (h : (S.set i (some (.dat d)))[j]? = some (some (SV.own xs))) : j ≠ i ∧ S[j]? = some (some (SV.own xs)) := by
  by_cases e : i = j
  · subst e
    have hl : i < S.length := by
      have := (List.getElem?_eq_some_iff.mp h).1
      rwa [List.length_set] at this
    rw [List.getElem?_set_self hl] at h
    cases h
  · rw [List.getElem?_set_ne e] at h
    exact ⟨fun z => e z.symm, h⟩
theorem freeze_one (i : Nat) (hv : View K mg T F μ g H) (hr : RelS K mg T S σ F μ H) : ∃ F', GoO K mg T (OwnAt S σ) F μ H F' μ g H ∧ RelS K mg T (freezeS S i) σ F' μ H ∧ ∀ a, OwnAt (freezeS S i) σ a → OwnAt S σ a := by
  unfold freezeS
  split
  · rename_i xs hS
    obtain ⟨a, vs, e1, e2, e3, e4, e5⟩ := hr.own i xs hS
    have hs : Same F (upd F a (.lst vs)) := fun b u q => by rw [upd_ne (ne_of_none q e3)]; exact q
    have hi : i < S.length := (List.getElem?_eq_some_iff.mp hS).1
    have ap : ∀ (j : Nat) (ys : List D) (b : Addr), j ≠ i → S[j]? = some (some (SV.own ys)) → σ[j]? = some (some (V.ref b)) → b ≠ a := fun j ys b hj h1 h2 z => by
      subst z
      exact hj (hr.apart j i ys xs b h1 hS h2 e1)
    have v2 : View K mg T (upd F a (.lst vs)) μ g H := by
      refine ⟨fun b u q => ?_, fun b u q => ?_, hv.nod, fun b hb => ?_, ?_, hv.tab, hv.tbs, fun b hb => ⟨(hv.bas b hb).1.trans hs, (hv.bas b hb).2⟩⟩
      · by_cases e : b = a
        · subst e; rw [upd_same] at q; cases q; exact e2
        · rw [upd_ne e] at q; exact hv.le b u q
      · by_cases e : b = a
        · subst e; rw [upd_same] at q; cases q; exact ntL
        · rw [upd_ne e] at q; exact hv.nt b u q
      · rw [upd_ne (fun e => e4 (by rw [← e]; exact hb))]; exact hv.off b hb
      · exact paired_mem hv.st fun b hb m r => r.mono hs (Pre.refl _) rfl
    refine ⟨upd F a (.lst vs), ⟨v2, hs, Pre.refl _, fun b u q => ?_, fun b q => .inl q, fun b u q _ _ _ => q, fun b u q => ⟨u, q⟩⟩, ?_, ?_⟩
    · by_cases e : b = a
      · subst e; exact .inr (.inr ⟨i, xs, hS, e1⟩)
      · rw [upd_ne e] at q; exact .inl q
    · refine ⟨by rw [List.length_set]; exact hr.len, fun j d h => ?_, fun j ys h => ?_, fun j1 j2 ys zs b h1 h2 h3 h4 => ?_, fun j x h => ?_, fun j t h => hr.thk j t (set_thk h (fun t z => by cases z)).2⟩
      · by_cases e : i = j
        · subst e
          rw [List.getElem?_set_self hi] at h
          cases h
          exact ⟨_, e1, .lst upd_same (e5.mono hs (Pre.refl _))⟩
        · rw [List.getElem?_set_ne e] at h
          obtain ⟨v, q1, q2⟩ := hr.dat j d h
          exact ⟨v, q1, q2.mono hs (Pre.refl _)⟩
      · obtain ⟨hj, h'⟩ := set_own h
        obtain ⟨b, ws, q1, q2, q3, q4, q5⟩ := hr.own j ys h'
        exact ⟨b, ws, q1, q2, by rw [upd_ne (ap j ys b hj h' q1)]; exact q3, q4, q5.mono hs (Pre.refl _)⟩
      · exact hr.apart j1 j2 ys zs b (set_own h1).2 (set_own h2).2 h3 h4
      · by_cases e : i = j
        · subst e
          rw [List.getElem?_set_self hi] at h
          cases h
        · rw [List.getElem?_set_ne e] at h
          obtain ⟨a', cls, dd, q1, q2, q3⟩ := hr.err j x h
          exact ⟨a', cls, dd, q1, q2, q3.mono hs (Pre.refl _)⟩
    · rintro b ⟨j, ys, h1, h2⟩
      exact ⟨j, ys, (set_own h1).2, h2⟩
  · exact ⟨F, (Go.refl hv).toO, hr, fun a q => q⟩
theorem freeze_all : ∀ (is : List Nat) {F : Hp} {S : Sl}, View K mg T F μ g H → RelS K mg T S σ F μ H → ∃ F', GoO K mg T (OwnAt S σ) F μ H F' μ g H ∧ RelS K mg T (is.foldl freezeS S) σ F' μ H ∧ ∀ a, OwnAt (is.foldl freezeS S) σ a → OwnAt S σ a
  | [], F, S, hv, hr => ⟨F, (Go.refl hv).toO, hr, fun a q => q⟩
  | i :: is, F, S, hv, hr => by
    obtain ⟨F1, g1, r1, o1⟩ := freeze_one i hv hr
    obtain ⟨F2, g2, r2, o2⟩ := freeze_all is g1.view r1
    exact ⟨F2, g1.trans g2 (fun a q => .inl (o1 a q)), r2, fun a q => o1 a (o2 a q)⟩
/-- a ghost step ahead of a statement -/
theorem ss_frz {sts : List Stmt} {is : List Nat} {ms : List MS} (h2 : PSs X sts (tMs X.K X.mg T Φ E ms)) : PSs X sts (tMs X.K X.mg T Φ E (.frz is :: ms)) := by
  refine PSs.mono h2 fun D σ H ⟨F, μ, g, S, hv, hr, h⟩ => ?_
  simp only [execs, exec] at h
  obtain ⟨F', gg, rl, ho⟩ := freeze_all is hv hr
  exact ⟨F', μ, g, _, gg.view, rl, AftS.from gg (fun a q => .inl (ho a q)) h⟩
theorem ss_pass {pos : Pos} : PS X (.Pass pos) (tM X.K X.mg T Φ E .pass) := PS.mono ps_pass fun D σ H ⟨F, μ, g, S, hv, hr, h⟩ => by
  simp only [exec] at h
  exact h σ F μ H (Go.refl hv).toO hr fun a q => .inl q
theorem ss_brk {pos : Pos} : PS X (.Break pos) (tM X.K X.mg T Φ E .brk) := PS.mono ps_break fun D σ H ⟨F, μ, g, S, hv, hr, h⟩ => by
  simp only [exec] at h
  exact h σ F μ H (Go.refl hv).toO hr fun a q => .inl q
theorem ss_cont {pos : Pos} : PS X (.Continue pos) (tM X.K X.mg T Φ E .cont) := PS.mono ps_continue fun D σ H ⟨F, μ, g, S, hv, hr, h⟩ => by
  simp only [exec] at h
  exact h σ F μ H (Go.refl hv).toO hr fun a q => .inl q
theorem ss_retN {pos : Pos} : PS X (.Return none pos) (tM X.K X.mg T Φ E .retN) := PS.mono ps_retN fun D σ H ⟨F, μ, g, S, hv, hr, h⟩ => by
  simp only [exec] at h
  exact h .non F μ H (Go.refl hv).toO .non
theorem ss_ret {e : Expr} {m : ME} {pos : Pos} (he : PE X e (tE X.K X.mg T Φ E m)) : PS X (.Return (some e) pos) (tM X.K X.mg T Φ E (.ret m)) := PS.mono (ps_ret he) fun D σ H ⟨F, μ, g, S, hv, hr, h⟩ => by
  simp only [exec] at h
  refine ⟨F, μ, g, S, hv, hr, Aft.imp (AftS.bind (RP := RD X.K X.mg) hr h) fun v H1 ⟨x, F1, μ1, g1, y, r, h1⟩ => ?_⟩
  exact h1 v F1 μ1 H1 (Go.refl y.view).toO r
theorem ss_if {c : Expr} {a b : List Stmt} {mc : ME} {ma mb : List MS} {pos : Pos} (hc : PT X c (tT X.K X.mg T Φ E mc)) (ha : PSs X a (tMs X.K X.mg T Φ E ma)) (hb : PSs X b (tMs X.K X.mg T Φ E mb)) : PS X (.If c a b pos) (tM X.K X.mg T Φ E (.if_ mc ma mb)) := by
  refine PS.mono (ps_if hc ha hb) fun D σ H ⟨F, μ, g, S, hv, hr, h⟩ => ?_
  simp only [exec] at h
  refine ⟨F, μ, g, S, hv, hr, Aft.imp (AftS.bind (RP := RB) hr h) fun v H1 ⟨x, F1, μ1, g1, y, r, h1⟩ => ?_⟩
  cases r
  cases v with
  | true => exact ⟨F1, μ1, g1, S, y.view, hr.go y, AftS.from (Go.refl y.view).toO (fun a q => .inl q) h1⟩
  | false => exact ⟨F1, μ1, g1, S, y.view, hr.go y, AftS.from (Go.refl y.view).toO (fun a q => .inl q) h1⟩
def notComp : Expr → Bool
  | .ListComp .. => false
  | .SetComp .. => false
  | .DictComp .. => false
  | _ => true
theorem swaps_no {e : Expr} {t : Option Expr} {l : Nat} {env : Env} (h : notComp e = true) : swapsWith e t l env = pure false := by
  cases e <;> first | rfl | cases h
theorem ss_expr {e : Expr} {m : ME} {pos : Pos} (he : PE X e (tE X.K X.mg T Φ E m)) (hc : notComp e = true) : PS X (.Expr e pos) (tM X.K X.mg T Φ E (.expr m)) := PS.mono (ps_expr he (swaps_no hc)) fun D σ H ⟨F, μ, g, S, hv, hr, h⟩ => by
  simp only [exec] at h
  refine ⟨F, μ, g, S, hv, hr, Aft.imp (AftS.bind (RP := RD X.K X.mg) hr h) fun v H1 ⟨x, F1, μ1, g1, y, r, h1⟩ => ?_⟩
  exact h1 σ F1 μ1 H1 (Go.refl y.view).toO (hr.go y) fun a q => .inl q
theorem putAll_own : ∀ (tg : List Nat) (l : List D) (S : Sl) (j : Nat) (xs : List D), l.length = tg.length → (putAll tg l S)[j]? = some (some (SV.own xs)) → j ∉ tg ∧ S[j]? = some (some (SV.own xs))
  | [], [], S, j, xs, _, h => ⟨by simp, h⟩
  | [], _ :: _, S, j, xs, hl, h => by simp at hl
  | _ :: _, [], S, j, xs, hl, h => by simp at hl
  | i :: is, d :: l, S, j, xs, hl, h => by
    obtain ⟨h1, h2⟩ := putAll_own is l (S.set i (some (.dat d))) j xs (by simpa using hl) h
    obtain ⟨h3, h4⟩ := set_own h2
    exact ⟨by simp [h1, h3], h4⟩
theorem putTg_own {tg : List Nat} {d : D} {j : Nat} {xs : List D} (h : putTg tg d S = some S1) (o : S1[j]? = some (some (SV.own xs))) : j ∉ tg ∧ S[j]? = some (some (SV.own xs)) := by
  have many : ∀ tg : List Nat, putTup tg d S = some S1 → j ∉ tg ∧ S[j]? = some (some (SV.own xs)) := fun tg h => by
    unfold putTup at h
    split at h
    · split at h
      · rename_i hl
        cases h
        exact putAll_own tg _ S j xs (by simpa using hl) o
      · cases h
    · cases h
  match tg, h with
  | [i], h =>
    cases h
    obtain ⟨h1, h2⟩ := set_own o
    exact ⟨by simpa using h1, h2⟩
  | [], h => exact many [] h
  | i :: j' :: l, h => exact many (i :: j' :: l) h
theorem own_putTg {tg : List Nat} {d : D} (h : putTg tg d S = some S1) (hn : ∀ j, j ∉ tg → σ1[j]? = σ[j]?) {a : Addr} (o : OwnAt S1 σ1 a) : OwnAt S σ a := by
  obtain ⟨j, xs, h1, h2⟩ := o
  obtain ⟨h3, h4⟩ := putTg_own h h1
  exact ⟨j, xs, h4, by rw [← hn j h3]; exact h2⟩
theorem t_set {tg : List Nat} {m : ME} (D : Ends) (σ : L2.St) (H : Hp) (h : tM K mg T Φ E (.set tg m) D σ H) : tAsg (tE K mg T Φ E m) (tgG K tg) D σ H := by
  obtain ⟨F, μ, g, S, hv, hr, h⟩ := h
  simp only [exec] at h
  refine ⟨F, μ, g, S, hv, hr, Aft.imp (AftS.bind (RP := RD K mg) hr h) fun v H1 ⟨x, F1, μ1, g1, y, r, h1⟩ => ?_⟩
  cases e : putTg tg x S with
  | none => rw [e] at h1; exact h1.elim
  | some S1 =>
    rw [e] at h1
    exact tgG_of (hr.go y) y.view.le r e fun σ' rl hn hl => h1 σ' F1 μ1 H1 (Go.refl y.view).toO rl fun a q => .inl (own_putTg e hn q)
end
end SH

set_option Elab.async false
set_option linter.all false
set_option autoImplicit false
set_option maxRecDepth 100000
set_option maxHeartbeats 4000000
namespace SH
open PySem PySem.Spec PyProof.Rows L2 LamX
section
variable {T : Tg} {Φ : Fns} {L : Lib} {N : List Str} {sc : Scope} {cs : List Str} {k : Nat} {E : L2.St → XK} {X : Cx}
variable {K : PySem.W.Frag} {mg : Str → Option Value} {F F1 F2 : Hp} {μ μ1 μ2 : List Addr} {g g1 g2 : G} {H H1 H2 : Hp} {S S1 S2 : Sl} {σ σ1 σ2 : L2.St}
/-! ### assignments -/
def notTuple : Expr → Bool
  | .Tuple .. => false
  | _ => true
theorem stores_name {x : Str} {p : Pos} {e : Expr} {env : Env} : swappedStores [.Name x p] e env = pure none := by
  cases e <;> rfl
theorem stores_tup {es : List Expr} {kk : Nat} {p : Pos} {e : Expr} {env : Env} (h : notTuple e = true) : swappedStores [.Tuple es kk p] e env = pure none := by
  cases e <;> first | rfl | cases h
theorem sole_name {x : Str} {p : Pos} {e : Expr} {l : Nat} {env : Env} (h : notComp e = true) : swapsWithSole [.Name x p] e l env = pure false := by
  cases e <;> first | rfl | cases h
theorem sole_tup {es : List Expr} {kk : Nat} {p : Pos} {e : Expr} {l : Nat} {env : Env} : swapsWithSole [.Tuple es kk p] e l env = pure false := by
  cases e <;> rfl
theorem pg_nm {x : Str} {p : Pos} {i : Nat} (ok : CtxOk T Φ L N sc cs k E X) (h : tgOk N sc cs [i] (.Name x p) = true) : PG X (.Name x p) (tgG X.K [i]) := by
  unfold tgOk at h
  simp only [Bool.and_eq_true] at h
  exact pg_one ok.hN ok.nd ok.hsc ok.st h.2
theorem ss_setN {x : Str} {p pos : Pos} {e : Expr} {m : ME} {i : Nat} (ok : CtxOk T Φ L N sc cs k E X) (htg : tgOk N sc cs [i] (.Name x p) = true) (hc : notComp e = true) (he : PE X e (tE X.K X.mg T Φ E m)) : PS X (.Assign [.Name x p] e pos) (tM X.K X.mg T Φ E (.set [i] m)) :=
  PS.mono (ps_asg he (pg_nm ok htg) (sole_name hc) stores_name rfl) fun D σ H h => t_set D σ H h
theorem ss_setT {es : List Expr} {kk : Nat} {p pos : Pos} {e : Expr} {m : ME} {tg : List Nat} (ok : CtxOk T Φ L N sc cs k E X) (hh : L.ev = none) (htg : tgOk N sc cs tg (.Tuple es kk p) = true) (hc : notTuple e = true) (he : PE X e (tE X.K X.mg T Φ E m)) : PS X (.Assign [.Tuple es kk p] e pos) (tM X.K X.mg T Φ E (.set tg m)) :=
  PS.mono (ps_asg he (pg_tg ok.hN ok.nd ok.hsc ok.st (ok.calm hh) htg) sole_tup (stores_tup hc) rfl) fun D σ H h => t_set D σ H h
/-- whether a comprehension's store is put off -/
def putOff (sc : Scope) (t : Str) (tl vl : Nat) (scope : Scope) : Bool := sc.kind == .function && sc.names.lookup t == some .local && tl == vl && !(scope.names.any fun (n, k) => n == t && (k == .local || k == .cell))
theorem swaps_comp {elt : Expr} {gens : List Comprehension} {scope : Scope} {cpos : Pos} {t : Str} {p : Pos} {l : Nat} (hs : X.env.scope = sc) (hk : sc.kind = .function) :
    swapsWith (.ListComp elt gens scope cpos) (some (.Name t p)) l X.env = pure (putOff sc t p.line cpos.line scope) := by
  unfold putOff
  rw [← hs]
  have : X.env.blockKind = X.env.scope.kind := by
    unfold Env.blockKind
    rw [hs, hk]; rfl
  show (pure (X.env.blockKind == .function && X.env.kindOf t == some .local && p.line == cpos.line && !(scope.names.any fun (n, k) => n == t && (k == .local || k == .cell))) : Sem Bool) = _
  rw [this]
  rfl
theorem ss_setC {y : Str} {py spos cpos : Pos} {elt tg iter : Expr} {ifs : List Expr} {scope : Scope} {own : List (Str × Nat)} {tgs : List Nat} {mi : MI} {mts : List ME} {me : ME} {i : Nat} (ok : CtxOk T Φ L N sc cs k E X) (hh : L.ev = none) (ht : L.thk = false)
    (hk : sc.kind = .function) (hy : tgOk N sc cs [i] (.Name y py) = true) (hi : PI X tg iter (tI X.K X.mg T Φ E mi)) (hb : blkC N sc scope own = true) (htg : tgOk N (relS scope sc) (cellNames scope) tgs tg = true) (hsub : (tgs.all fun j => (own.map (·.2)).contains j) = true) (hset : notSet iter = true)
    (hts : ∀ X', CtxOk T Φ L N (relS scope sc) (cellNames scope) k EF X' → PTs X' ifs (tTs X'.K X'.mg T Φ EF mts)) (hel : ∀ X', CtxOk T Φ L N (relS scope sc) (cellNames scope) k EF X' → PE X' elt (tE X'.K X'.mg T Φ EF me)) :
    PS X (.Assign [.Name y py] (.ListComp elt [⟨tg, iter, ifs, 0⟩] scope cpos) spos) (tM X.K X.mg T Φ E (.set [i] (.comp mi tgs (own.map (·.2)) mts me))) := by
  have sw := swaps_comp (X := X) (elt := elt) (gens := [⟨tg, iter, ifs, 0⟩]) (scope := scope) (cpos := cpos) (t := y) (p := py) (l := spos.line) ok.hsc hk
  cases hp : putOff sc y py.line cpos.line scope with
  | false =>
    rw [hp] at sw
    exact PS.mono (ps_asg (se_comp ok hh ht hi hb htg hsub hset hts hel) (pg_nm ok hy) sw stores_name rfl) fun D σ H h => t_set D σ H h
  | true =>
    rw [hp] at sw
    have hl : sc.names.lookup y = some .local := by
      unfold putOff at hp
      simp only [Bool.and_eq_true, beq_iff_eq] at hp
      exact hp.1.1.2
    have hN : N[i]? = some y := by
      unfold tgOk at hy
      simp only [Bool.and_eq_true] at hy
      obtain ⟨x, p, e, h1, _⟩ := tgNames_cons hy.2
      cases e
      exact h1
    exact PS.mono (ps_comp ok hh ht hN hl sw hi hb htg hsub hset hts hel) fun D σ H h => t_set D σ H h
/-! ### a list of one's own -/
/-- behind: a new list at p, not told yet -/
def AftF (K : PySem.W.Frag) (mg : Str → Option Value) (T : Tg) (r : Res D) (F : Hp) (μ : List Addr) (H : Hp) (Q : VK) (EX : XK) : Prop := match r with
  | .ok (.lst l) g' => ∀ p vs F' μ' H', Go K mg T F μ H F' μ' g' H' → H p = none → H' p = some (.lst vs) → F' p = none → p ∉ μ' → Reps K mg μ' F' vs l → Q (.ref p) H'
  | .ok _ _ => False
  | .exc x g' => ∀ cls dd F' μ' H', Go K mg T F μ H F' μ' g' H' → ExcAt K mg F' μ' x cls dd → EX cls dd H'
  | .bad => False
def tF (K : PySem.W.Frag) (mg : Str → Option Value) (T : Tg) (Φ : Fns) (E : L2.St → XK) (m : ME) : TE := fun σ H Q =>
  ∃ F μ g S, View K mg T F μ g H ∧ RelS K mg T S σ F μ H ∧ AftF K mg T (ev Φ m S g) F μ H Q (E σ)
/-- the list at p is new, and of nobody's -/
theorem View.lone (v : View K mg T F μ g H) {p : Addr} {o : HO} (hp : H p = none) (ho : ∀ ps, o ≠ .tbl ps) : Go K mg T F μ H F μ g (upd H p o) ∧ F p = none ∧ p ∉ μ := by
  have fp : F p = none := by
    cases q : F p with
    | none => rfl
    | some u => rw [v.le p u q] at hp; cases hp
  have mp : p ∉ μ := fun z => store_some v.st z hp
  refine ⟨⟨⟨fun a u q => ?_, v.nt, v.nod, v.off, ?_, ?_, tbs_upd v.tbs ho, v.bas⟩, Same.refl _, Pre.refl _, fun a o q => .inl q, fun a q => .inl q, fun a o q _ _ => ?_, fun a o q => ?_⟩, fp, mp⟩
  · rw [upd_ne (ne_of_none q fp)]; exact v.le a u q
  · exact paired_mem v.st fun a ha m r => r.mono (Same.refl _) (Pre.refl _) (upd_ne fun e => mp (by rw [← e]; exact ha))
  · exact v.tab.ext fun b u q => by rw [upd_ne (ne_of_none q hp)]; exact q
  · rw [upd_ne (ne_of_none q hp)]; exact q
  · exact ⟨o, by rw [upd_ne (ne_of_none q hp)]; exact q⟩
theorem sf_lst {es : List Expr} {ms : List ME} {pos : Pos} (hes : PA X es (tEs X.K X.mg T Φ E ms)) (hl : ms.length ≤ sizeLine) : PE X (.List es pos) (tF X.K X.mg T Φ E (.lst ms)) := by
  refine PE.mono (pe_lst hes) fun σ H Q h => ?_
  obtain ⟨F, μ, g, S, hv, hr, h⟩ := h
  refine ⟨F, μ, g, S, hv, hr, ?_⟩
  simp only [ev] at h
  cases e : evs Φ ms S g with
  | ok l g1 =>
    rw [e] at h
    intro vs F1 μ1 H1 y r
    refine ⟨by rw [r.length, evs_len _ _ _ _ _ _ e]; exact hl, fun p hp => ?_⟩
    obtain ⟨gg, fp, mp⟩ := y.view.lone (o := .lst vs) hp ntL
    exact h p vs F1 μ1 _ (y.trans gg) (y.free hp) upd_same fp mp r
  | exc x g1 => rw [e] at h; exact h
  | bad => rw [e] at h; exact h
theorem add_lst {x z : D} {l : List D} (h : bin .add x z = some (.lst l)) : ∃ l1 l2, x = .lst l1 ∧ z = .lst l2 ∧ l = l1 ++ l2 ∧ l1.length + l2.length ≤ sizeLine := by
  unfold bin at h
  cases x <;> cases z <;> simp only at h <;> try (cases h; done)
  all_goals (split at h <;> cases h)
  rename_i hz
  exact ⟨_, _, rfl, rfl, rfl, sizeOk_le hz⟩
theorem sf_add {a b : Expr} {ma mb : ME} {pos : Pos} (ha : PE X a (tE X.K X.mg T Φ E ma)) (hb : PE X b (tE X.K X.mg T Φ E mb)) : PE X (.BinOp a .Add b pos) (tF X.K X.mg T Φ E (.bin .add ma mb)) := by
  refine PE.mono (pe_op op_cat ha hb) fun σ H Q h => ?_
  obtain ⟨F, μ, g, S, hv, hr, h⟩ := h
  refine ⟨F, μ, g, S, hv, hr, ?_⟩
  simp only [ev] at h
  cases e1 : ev Φ ma S g with
  | ok x g1 =>
    simp only [e1, Res.bind] at h
    intro v F1 μ1 H1 y1 r1
    refine ⟨F1, μ1, g1, S, y1.view, hr.go y1, ?_⟩
    cases e2 : ev Φ mb S g1 with
    | ok z g2 =>
      simp only [e2] at h
      intro w F2 μ2 H2 y2 r2
      cases e3 : bin .add x z with
      | none => rw [e3] at h; exact h.elim
      | some d =>
        rw [e3] at h
        cases d with
        | lst l =>
          obtain ⟨l1, l2, rfl, rfl, rfl, hz⟩ := add_lst e3
          have r1' := r1.mono y2.ff y2.pre
          cases r1' with
          | lst q1 s1 =>
            cases r2 with
            | lst q2 s2 =>
              refine ⟨_, _, _, _, rfl, rfl, y2.view.le _ _ q1, y2.view.le _ _ q2, by rw [s1.length, s2.length]; exact hz, fun p hp => ?_⟩
              obtain ⟨gg, fp, mp⟩ := y2.view.lone (o := .lst _) hp ntL
              exact h p _ F2 μ2 _ ((y1.trans y2).trans gg) ((y1.trans y2).free hp) upd_same fp mp (s1.append s2)
        | _ => exact h.elim
    | exc x g2 => simp only [e2] at h; exact fun cls dd F2 μ2 H2 y2 q => h cls dd F2 μ2 H2 (y1.trans y2) q
    | bad => simp only [e2] at h; exact h.elim
  | exc x g1 => simp only [e1, Res.bind] at h; exact h
  | bad => simp only [e1, Res.bind] at h; exact h.elim
theorem RelS.setOwn {i : Nat} {p : Addr} {vs : List V} {l : List D} (r : RelS K mg T S σ F μ H) (hfresh : ∀ a, OwnAt S σ a → a ≠ p) (h1 : H p = some (.lst vs)) (h2 : F p = none) (h3 : p ∉ μ) (q : Reps K mg μ F vs l) : RelS K mg T (S.set i (some (.own l))) (σ.set i (some (.ref p))) F μ H where
  len := by rw [List.length_set, List.length_set]; exact r.len
  dat := fun j e h => by
    by_cases hj : i = j
    · subst hj
      have hl : i < S.length := by
        have := (List.getElem?_eq_some_iff.mp h).1
        rwa [List.length_set] at this
      rw [List.getElem?_set_self hl] at h
      cases h
    · rw [List.getElem?_set_ne hj] at h ⊢
      exact r.dat j e h
  own := fun j e h => by
    by_cases hj : i = j
    · subst hj
      have hl : i < S.length := by
        have := (List.getElem?_eq_some_iff.mp h).1
        rwa [List.length_set] at this
      rw [List.getElem?_set_self hl] at h
      cases h
      exact ⟨p, vs, by rw [List.getElem?_set_self (by rw [← r.len]; exact hl)], h1, h2, h3, q⟩
    · rw [List.getElem?_set_ne hj] at h ⊢
      exact r.own j e h
  apart := fun a b xs ys c e1 e2 e3 e4 => by
    by_cases ha : i = a
    · by_cases hb : i = b
      · exact ha.symm.trans hb
      · exfalso
        subst ha
        rw [List.getElem?_set_ne hb] at e2 e4
        have hl : i < S.length := by
          have := (List.getElem?_eq_some_iff.mp e1).1
          rwa [List.length_set] at this
        rw [List.getElem?_set_self (by rw [← r.len]; exact hl)] at e3
        cases e3
        exact hfresh _ ⟨b, ys, e2, e4⟩ rfl
    · by_cases hb : i = b
      · exfalso
        subst hb
        rw [List.getElem?_set_ne ha] at e1 e3
        have hl : i < S.length := by
          have := (List.getElem?_eq_some_iff.mp e2).1
          rwa [List.length_set] at this
        rw [List.getElem?_set_self (by rw [← r.len]; exact hl)] at e4
        cases e4
        exact hfresh _ ⟨a, xs, e1, e3⟩ rfl
      · rw [List.getElem?_set_ne ha] at e1 e3
        rw [List.getElem?_set_ne hb] at e2 e4
        exact r.apart a b xs ys c e1 e2 e3 e4
  err := fun j x h => by
    by_cases hj : i = j
    · subst hj
      have hl : i < S.length := by
        have := (List.getElem?_eq_some_iff.mp h).1
        rwa [List.length_set] at this
      rw [List.getElem?_set_self hl] at h
      cases h
    · rw [List.getElem?_set_ne hj] at h ⊢
      exact r.err j x h
  thk := fun j t h => by
    obtain ⟨hj, h⟩ := set_thk h (fun t z => by cases z)
    rw [List.getElem?_set_ne hj]
    exact r.thk j t h
theorem own_setOwn {i : Nat} {p a : Addr} {l : List D} (hlen : S.length = σ.length) (o : OwnAt (S.set i (some (.own l))) (σ.set i (some (.ref p))) a) : OwnAt S σ a ∨ a = p := by
  obtain ⟨j, xs, h1, h2⟩ := o
  by_cases hj : i = j
  · subst hj
    have hl : i < σ.length := by
      have := (List.getElem?_eq_some_iff.mp h2).1
      rwa [List.length_set] at this
    rw [List.getElem?_set_self hl] at h2
    cases h2
    exact .inr rfl
  · rw [List.getElem?_set_ne hj] at h1 h2
    exact .inl ⟨j, xs, h1, h2⟩
theorem t_own {i : Nat} {m : ME} (D : Ends) (σ : L2.St) (H : Hp) (h : tM K mg T Φ E (.own i m) D σ H) : tAsg (tF K mg T Φ E m) (gName i) D σ H := by
  obtain ⟨F, μ, g, S, hv, hr, h⟩ := h
  simp only [exec] at h
  refine ⟨F, μ, g, S, hv, hr, ?_⟩
  cases e : ev Φ m S g with
  | exc x g1 =>
    rw [e] at h
    exact fun c d F' μ' H' y q => h σ c d F' μ' H' y.toO (hr.go y) (fun a h => .inl h) q
  | bad => rw [e] at h; exact h
  | ok d g1 =>
    rw [e] at h
    cases d <;> try (exact h)
    intro p vs F' μ' H' y hp hp' fp mp r
    have hr' := hr.go y
    refine h _ F' μ' H' y.toO (hr'.setOwn (fun a o z => ?_) hp' fp mp r) (fun a o => ?_)
    · subst z
      obtain ⟨j, xs, h1, h2⟩ := o
      obtain ⟨b, ws, q1, q2, _⟩ := hr.own j xs h1
      rw [h2] at q1; cases q1
      rw [hp] at q2; cases q2
    · rcases own_setOwn hr.len o with q | q
      · exact .inl q
      · exact .inr (by rw [q]; exact hp)
theorem ss_own {x : Str} {p pos : Pos} {e : Expr} {m : ME} {i : Nat} (ok : CtxOk T Φ L N sc cs k E X) (htg : tgOk N sc cs [i] (.Name x p) = true) (hc : notComp e = true) (he : PE X e (tF X.K X.mg T Φ E m)) : PS X (.Assign [.Name x p] e pos) (tM X.K X.mg T Φ E (.own i m)) :=
  PS.mono (ps_asg he (pg_nm ok htg) (sole_name hc) stores_name rfl) fun D σ H h => t_own D σ H h
/-! ### x.append(e) -/
theorem GoO.write {a : Addr} {vs ws : List V} (hv : View K mg T F μ g H) (hr : RelS K mg T S σ F μ H) (o : OwnAt S σ a) (h1 : H a = some (.lst vs)) (hF : F a = none) (hm : a ∉ μ) : GoO K mg T (OwnAt S σ) F μ H F μ g (upd H a (.lst ws)) where
  view := by
    refine ⟨fun b u q => ?_, hv.nt, hv.nod, hv.off, ?_, ?_, tbs_upd hv.tbs ntL, hv.bas⟩
    · rw [upd_ne (ne_of_none q hF)]; exact hv.le b u q
    · exact paired_mem hv.st fun b hb m r => r.mono (Same.refl _) (Pre.refl _) (upd_ne fun e => hm (by rw [← e]; exact hb))
    · intro p hp
      obtain ⟨ps, e1, e2, e3⟩ := hv.tab p hp
      have ne : p.1 ≠ a := fun e => by rw [e, h1] at e1; cases e1
      refine ⟨ps, by rw [upd_ne ne]; exact e1, e2, fun pos cv hc => ?_⟩
      obtain ⟨c, e4, e5⟩ := e3 pos cv hc
      exact ⟨c, e4, by rw [upd_ne (fun e => by rw [e, h1] at e5; cases e5)]; exact e5⟩
  ff := Same.refl _
  pre := Pre.refl _
  new := fun b u q => .inl q
  newμ := fun b q => .inl q
  keep := fun b u q _ _ hO => by rw [upd_ne (fun e => hO (by rw [e]; exact o))]; exact q
  dom := fun b u q => by
    by_cases e : b = a
    · subst e; exact ⟨_, upd_same⟩
    · exact ⟨u, by rw [upd_ne e]; exact q⟩
theorem RelS.write {i : Nat} {a : Addr} {vs : List V} {l l' : List D} {ws : List V} (hr : RelS K mg T S σ F μ H) (hS : S[i]? = some (some (SV.own l))) (hσ : σ[i]? = some (some (V.ref a))) (q : Reps K mg μ F ws l') (hF : F a = none) (hm : a ∉ μ) :
    RelS K mg T (S.set i (some (.own l'))) σ F μ (upd H a (.lst ws)) where
  len := by rw [List.length_set]; exact hr.len
  dat := fun j d h => by
    by_cases e : i = j
    · subst e
      rw [List.getElem?_set_self (List.getElem?_eq_some_iff.mp hS).1] at h
      cases h
    · rw [List.getElem?_set_ne e] at h
      exact hr.dat j d h
  own := fun j xs h => by
    by_cases e : i = j
    · subst e
      rw [List.getElem?_set_self (List.getElem?_eq_some_iff.mp hS).1] at h
      cases h
      exact ⟨a, ws, hσ, upd_same, hF, hm, q⟩
    · rw [List.getElem?_set_ne e] at h
      obtain ⟨b, us, e1, e2, e3, e4, e5⟩ := hr.own j xs h
      have ne : b ≠ a := fun z => by
        subst z
        exact e (hr.apart i j l xs b hS h hσ e1)
      exact ⟨b, us, e1, by rw [upd_ne ne]; exact e2, e3, e4, e5⟩
  apart := fun j1 j2 xs ys b h1 h2 h3 h4 => by
    have back : ∀ (j : Nat) (zs : List D), (S.set i (some (.own l')))[j]? = some (some (SV.own zs)) → ∃ zs', S[j]? = some (some (SV.own zs')) := fun j zs h => by
      by_cases e : i = j
      · subst e; exact ⟨l, hS⟩
      · rw [List.getElem?_set_ne e] at h; exact ⟨zs, h⟩
    obtain ⟨x1, q1⟩ := back j1 xs h1
    obtain ⟨x2, q2⟩ := back j2 ys h2
    exact hr.apart j1 j2 x1 x2 b q1 q2 h3 h4
  err := fun j x h => by
    by_cases e : i = j
    · subst e
      rw [List.getElem?_set_self (List.getElem?_eq_some_iff.mp hS).1] at h
      cases h
    · rw [List.getElem?_set_ne e] at h
      exact hr.err j x h
  thk := fun j t h => hr.thk j t (set_thk h (fun t z => by cases z)).2
theorem own_write {i : Nat} {l l' : List D} {a : Addr} (hS : S[i]? = some (some (SV.own l))) (o : OwnAt (S.set i (some (.own l'))) σ a) : OwnAt S σ a := by
  obtain ⟨j, xs, h1, h2⟩ := o
  by_cases e : i = j
  · subst e; exact ⟨i, l, hS, h2⟩
  · rw [List.getElem?_set_ne e] at h1; exact ⟨j, xs, h1, h2⟩
theorem ss_app {x : Str} {i : Nat} {e : Expr} {m : ME} {p apos cpos pos : Pos} (ok : CtxOk T Φ L N sc cs k E X) (hN : N[i]? = some x) (hv : Vis sc x) (hd : (x == ("__debug__" : Str)) = false) (hcd : (x == ("__classdict__" : Str)) = false) (hs : notStar e = true)
    (hline : (apos.endLine == cpos.line) = true) (he : PE X e (tE X.K X.mg T Φ E m)) : PS X (.Expr (.Call (.Attribute (.Name x p) "append" apos) [e] [] cpos) pos) (tM X.K X.mg T Φ E (.app i m)) := by
  have few : ((backTo cpos (starEach [e] X.env)).all (fun x => !x.1) && (backToKw cpos (keywordEach [] X.env)).all (fun x => x.1.isSome)
      && decide ([e].length + ([] : List Keyword).length + (if ([] : List Keyword).isEmpty then 0 else 1) < 30)) = true := by
    rw [star_of hs]; rfl
  have base := pe_bm (X := X) (o := .Name x p) (cpos := cpos) (apos := apos) PySem.F.plainAttrs_list PySem.F.slot_list_append PySem.F.type_list_append mt_append (pe_var (i := i) (pos := p) (by rw [ok.hN]; exact hN) (by rw [ok.hsc]; exact hv) hd hcd) (pa_cons he pa_nil (star_of hs)) rfl few hline (star_of hs) rfl
  refine PS.mono (ps_expr base rfl) fun D σ H ⟨F, μ, g, S, hvw, hr, h⟩ => ?_
  simp only [exec] at h
  split at h
  · rename_i xs hS
    obtain ⟨a, vs, e1, e2, e3, e4, e5⟩ := hr.own i xs hS
    refine ⟨.ref a, e1, .inl ⟨rfl, vs, SqL.of e2⟩, ?_⟩
    refine ⟨F, μ, g, S, hvw, hr, Aft.imp (AftS.bind (RP := RD X.K X.mg) hr h) fun v H1 ⟨d, F1, μ1, g1, y, r, h1⟩ => ?_⟩
    have hr1 := hr.go y
    obtain ⟨b, us, q1, q2, q3, q4, q5⟩ := hr1.own i xs hS
    rw [e1] at q1; cases q1
    split at h1
    · rename_i hz
      refine ⟨a, us, v, rfl, rfl, q2, by rw [q5.length]; exact hz, ?_⟩
      have o : OwnAt S σ a := ⟨i, xs, hS, e1⟩
      exact h1 σ F1 μ1 _ (GoO.write y.view hr1 o q2 q3 q4) (hr1.write (vs := us) hS e1 (q5.append (.cons r .nil)) q3 q4) (fun c oc => .inl (own_write hS oc))
    · exact h1.elim
  · exact h.elim
/-! ### for -/
/-- the store of one turn -/
theorem t_for {mi : MI} {tg : List Nat} {body : List MS} {tb : TS} (htb : ∀ D σ H, tMs K mg T Φ E body D σ H → tb D σ H) (D : Ends) (σ : L2.St) (H : Hp) (h : tM K mg T Φ E (.for_ mi tg body) D σ H) : tFor (tI K mg T Φ E mi) (tgG K tg) tb D σ H := by
  obtain ⟨F, μ, g, S, hv, hr, h⟩ := h
  simp only [exec] at h
  refine ⟨F, μ, g, S, hv, hr, Aft.imp (AftS.bind (RP := RW K mg) hr h) fun J H1 ⟨l, F1, μ1, g1, y1, rw1, h1⟩ => ?_⟩
  obtain ⟨hsz, hwalk⟩ := rw1
  have hr1 := hr.go y1
  let Pv : Nat → L2.St → Hp → Prop := fun i σ' H' => ∃ F' μ' g' S', GoO K mg T (OwnAt S σ) F1 μ1 H1 F' μ' g' H' ∧ RelS K mg T S' σ' F' μ' H' ∧ (∀ a, OwnAt S' σ' a → OwnAt S σ a ∨ H1 a = none) ∧
    AftS K mg T S' σ' (forL tg (fun S g => execs Φ body S g) (l.drop i) S' g') F' μ' H' D E
  have walk : Walk J l.length (fun H' => Same F1 H') (fun i H x H' => ∃ d, l[i]? = some d ∧ YD K mg μ1 F1 H x H' d) :=
    ⟨fun i H' hi q => (hwalk H' q).1 i hi, fun H' q => (hwalk H' q).2.1, fun i H' x H2 hi q y => ⟨l[i], by simp, (hwalk H' q).2.2 i l[i] x H2 (by simp) y⟩⟩
  refine for_it walk Pv ⟨F1, μ1, g1, S, (Go.refl y1.view).toO, hr1, fun a q => .inl q, by rw [List.drop_zero]; exact h1⟩ ?_ ?_ ?_
  · rintro i σ' H' _ ⟨F', μ', g', S', gg, _⟩
    exact gg.ff.trans gg.view.le
  · rintro i x σ' H' H2 hi ⟨F', μ', g', S', gg, rl, ho, ha⟩ ⟨d, hd, yd⟩
    have hdrop : l.drop i = d :: l.drop (i + 1) := by
      rw [List.drop_eq_getElem_cons hi]
      congr 1
      have := List.getElem?_eq_getElem hi
      rw [this] at hd; exact Option.some.inj hd
    rw [hdrop] at ha
    simp only [forL] at ha
    have yd' : YD K mg μ' F' H' x H2 d := by
      rcases yd with ⟨e, r⟩ | ⟨t, vs', ds', e1, e2, e3, e4, r⟩
      · exact .inl ⟨e, r.mono gg.ff gg.pre⟩
      · exact .inr ⟨t, vs', ds', e1, e2, e3, e4, r.mono gg.ff gg.pre⟩
    obtain ⟨F2, go2, rx⟩ := YD.go gg.view yd'
    have rl2 := rl.go go2
    cases hp : putTg tg d S' with
    | none => rw [hp] at ha; exact ha.elim
    | some S1 =>
      rw [hp] at ha
      simp only at ha
      refine tgG_of rl2 go2.view.le rx hp fun σ2 rl3 hne hl2 => htb _ _ _ ⟨F2, μ', g', S1, go2.view, rl3, ?_⟩
      have o2 : ∀ a, OwnAt S1 σ2 a → OwnAt S' σ' a := fun a q => own_putTg hp hne q
      -- what the rest asks, from here on
      have next : ∀ {S3 : Sl} {g3 : G}, AftS K mg T S' σ' (forL tg (fun S g => execs Φ body S g) (l.drop (i + 1)) S3 g3) F' μ' H' D E →
          ∀ σ3 F3 μ3 H3, GoO K mg T (OwnAt S1 σ2) F2 μ' H2 F3 μ3 g3 H3 → RelS K mg T S3 σ3 F3 μ3 H3 → (∀ a, OwnAt S3 σ3 a → OwnAt S1 σ2 a ∨ H2 a = none) → Pv (i + 1) σ3 H3 := by
        intro S3 g3 hrest σ3 F3 μ3 H3 y rl4 ho3
        have y' : GoO K mg T (OwnAt S' σ') F' μ' H' F3 μ3 g3 H3 := (go2.toO (O := OwnAt S' σ')).trans y fun a q => .inl (o2 a q)
        have ho4 : ∀ a, OwnAt S3 σ3 a → OwnAt S' σ' a ∨ H' a = none := fun a q => by
          rcases ho3 a q with q | q
          · exact .inl (o2 a q)
          · exact .inr (go2.free q)
        refine ⟨F3, μ3, g3, S3, gg.trans y' ho, rl4, fun a q => ?_, AftS.from y' ho4 hrest⟩
        rcases ho4 a q with q | q
        · exact ho a q
        · exact .inr (gg.free q)
      have base : ∀ {r : SR}, AftS K mg T S' σ' r F' μ' H' D E → AftS K mg T S1 σ2 r F2 μ' H2 D E := fun hb => AftS.from (go2.toO (O := OwnAt S' σ')) (fun a q => .inl (o2 a q)) hb
      cases e : execs Φ body S1 g' with
      | next S3 g3 => rw [e] at ha; exact next ha
      | cont S3 g3 => rw [e] at ha; exact next ha
      | brk S3 g3 => rw [e] at ha; exact base ha
      | ret d3 g3 => rw [e] at ha; exact base ha
      | exc x3 S3 g3 => rw [e] at ha; exact base ha
      | bad => rw [e] at ha; exact ha
  · rintro σ' H' ⟨F', μ', g', S', gg, rl, ho, ha⟩
    rw [List.drop_length] at ha
    simp only [forL] at ha
    exact ha σ' F' μ' H' (Go.refl gg.view).toO rl fun a q => .inl q
theorem ss_for {tge iter : Expr} {body : List Stmt} {mi : MI} {tg : List Nat} {mb : List MS} {pos : Pos} (ok : CtxOk T Φ L N sc cs k E X) (hh : L.ev = none) (hi : PI X tge iter (tI X.K X.mg T Φ E mi)) (htg : tgOk N sc cs tg tge = true) (hset : notSet iter = true) (hb : PSs X body (tMs X.K X.mg T Φ E mb)) :
    PS X (.For tge iter body [] pos) (tM X.K X.mg T Φ E (.for_ mi tg mb)) :=
  PS.mono (ps_for (ok.po hh) (ok.calm hh) hi (pg_tg ok.hN ok.nd ok.hsc ok.st (ok.calm hh) htg) hb (folded_of hset)) fun D σ H h => t_for (fun _ _ _ q => q) D σ H h
end
end SH

set_option Elab.async false
set_option linter.all false
set_option autoImplicit false
set_option maxRecDepth 100000
set_option maxHeartbeats 4000000
namespace SH
open PySem PySem.Spec PyProof.Rows L2 LamX
/-! ### sorted -/
mutual
theorem D.same_is : ∀ {a b : D}, D.same a b = true → a = b
  | .non, b, h => by cases b <;> first | rfl | (simp [D.same] at h)
  | .bl x, b, h => by cases b <;> simp [D.same] at h; rw [h]
  | .int x, b, h => by cases b <;> simp [D.same] at h; rw [h]
  | .str x, b, h => by cases b <;> simp [D.same] at h; rw [h]
  | .tup x, b, h => by
    cases b <;> simp only [D.same] at h <;> try (cases h; done)
    rw [D.sames_is h]
  | .lst x, b, h => by
    cases b <;> simp only [D.same] at h <;> try (cases h; done)
    rw [D.sames_is h]
  | .fn x, b, h => by cases b <;> simp [D.same] at h
  | .ptr x, b, h => by cases b <;> simp [D.same] at h
  | .scr x, b, h => by cases b <;> simp [D.same] at h
theorem D.sames_is : ∀ {a b : List D}, D.sames a b = true → a = b
  | [], [], _ => rfl
  | [], _ :: _, h => by simp [D.sames] at h
  | _ :: _, [], h => by simp [D.sames] at h
  | a :: l, b :: m, h => by
    simp only [D.sames, Bool.and_eq_true] at h
    rw [D.same_is h.1, D.sames_is h.2]
end
theorem insD_perm (a : D) : ∀ l : List D, (insD a l).Perm (a :: l)
  | [] => List.Perm.refl _
  | b :: l => by
    unfold insD
    split
    · exact ((insD_perm a l).cons b).trans (List.Perm.swap a b l)
    · exact List.Perm.refl _
theorem isoD_perm : ∀ l : List D, (isoD l).Perm l
  | [] => List.Perm.refl _
  | a :: l => (insD_perm a (isoD l)).trans ((isoD_perm l).cons a)
def ltD (a b : D) : Prop := PySem.W.dataLt (encD a) (encD b) = true
theorem ltD_trans {a b c : D} (h : ltD a b) (k : ltD b c) : ltD a c := lex_trans (O := PyProof.Rows.itemOrd) _ _ _ h k
theorem chain_pw : ∀ {l : List D}, chainD l = true → l.Pairwise (fun a b => ltD a b ∨ a = b)
  | [], _ => .nil
  | [a], _ => by simp
  | a :: b :: l, h => by
    simp only [chainD, Bool.and_eq_true, Bool.or_eq_true] at h
    have ih := chain_pw h.2
    have ab : ltD a b ∨ a = b := h.1.imp id D.same_is
    refine List.pairwise_cons.mpr ⟨fun c hc => ?_, ih⟩
    rcases List.mem_cons.mp hc with rfl | hc
    · exact ab
    · have bc := (List.pairwise_cons.mp ih).1 c hc
      rcases ab with q | q
      · rcases bc with r | r
        · exact .inl (ltD_trans q r)
        · exact .inl (r ▸ q)
      · exact q.symm ▸ bc
theorem merge_pw (l : List D) : (l.mergeSort (PySem.W.dataLe false encD)).Pairwise (fun a b => ¬ ltD b a) := by
  have key : (l.mergeSort (PySem.W.dataLe false encD)).Pairwise (fun a b => PySem.W.dataLe false encD a b = true) := by
    refine List.pairwise_mergeSort (fun a b c h k => ?_) (fun a b => ?_) l
    · rw [PySem.W.dataLe_eq] at *
      simp only [cond_false, Bool.not_eq_true'] at *
      cases q : PySem.W.dataLt (encD c) (encD a) with
      | false => rfl
      | true =>
        rcases lex_negTrans (O := PyProof.Rows.itemOrd) _ (PySem.W.keyToks (encD b)) _ q with r | r
        · exact absurd (r.symm.trans k) (by decide)
        · exact absurd (r.symm.trans h) (by decide)
    · rw [PySem.W.dataLe_eq]
      simp only [cond_false, Bool.or_eq_true, Bool.not_eq_true']
      cases q : PySem.W.dataLt (encD b) (encD a) with
      | false => exact .inl rfl
      | true =>
        refine .inr ?_
        cases r : PySem.W.dataLt (encD a) (encD b) with
        | false => rfl
        | true =>
          have t := lex_trans (O := PyProof.Rows.itemOrd) _ _ _ q r
          rw [lex_irrefl] at t
          cases t
  refine key.imp fun {a b} h => ?_
  rw [PySem.W.dataLe_eq] at h
  simp only [cond_false, Bool.not_eq_true'] at h
  intro q
  exact absurd (q.symm.trans h) (by decide)
theorem sorted_is {l : List D} (h : chainD (isoD l) = true) : l.mergeSort (PySem.W.dataLe false encD) = isoD l :=
  (PySem.W.chain_uniq (lt := ltD) (chain_pw h) (merge_pw l) ((isoD_perm l).trans (List.mergeSort_perm l _).symm)).symm
/-! the shapes -/
theorem isI_is : ∀ {l : List D}, l.all isI = true → ∃ ns : List Int, l = ns.map D.int
  | [], _ => ⟨[], rfl⟩
  | d :: l, h => by
    simp only [List.all_cons, Bool.and_eq_true] at h
    obtain ⟨ns, rfl⟩ := isI_is h.2
    cases d with
    | int i => exact ⟨i :: ns, rfl⟩
    | _ => simp [isI] at h
theorem pys_ints : ∀ ns : List Int, D.pys (ns.map D.int) = some (ns.map PyData.int)
  | [] => rfl
  | n :: ns => by simp only [List.map_cons, D.pys, D.py, pys_ints ns]
abbrev rowP (ns : List Int) : PyData := .tuple (ns.map PyData.int)
abbrev rowD (ns : List Int) : D := .tup (ns.map D.int)
theorem py_row (ns : List Int) : (rowD ns).py = some (rowP ns) := by simp only [D.py, pys_ints, Option.map_some]
theorem isRow_is {d : D} (h : isRow d = true) : ∃ ns, d = rowD ns := by
  cases d with
  | tup l =>
    obtain ⟨ns, rfl⟩ := isI_is (show l.all isI = true from h)
    exact ⟨ns, rfl⟩
  | _ => simp [isRow] at h
theorem isRow_all : ∀ {l : List D}, l.all isRow = true → ∃ rs : List (List Int), l = rs.map rowD
  | [], _ => ⟨[], rfl⟩
  | d :: l, h => by
    simp only [List.all_cons, Bool.and_eq_true] at h
    obtain ⟨ns, rfl⟩ := isRow_all h.2
    obtain ⟨n, rfl⟩ := isRow_is h.1
    exact ⟨n :: ns, rfl⟩
theorem pys_rows : ∀ rs : List (List Int), D.pys (rs.map rowD) = some (rs.map rowP)
  | [] => rfl
  | n :: ns => by simp only [List.map_cons, D.pys, py_row, pys_rows ns]
theorem alike_rows : ∀ xs ys : List (List Int), PySem.W.alikeAll (xs.map rowP) (ys.map rowP) = true
  | [], _ => rfl
  | _ :: _, [] => rfl
  | x :: xs, y :: ys => by simp only [List.map_cons, PySem.W.alikeAll, PySem.W.alike, PySem.W.alike_ints, alike_rows xs ys, Bool.and_self]
theorem depth_rows : ∀ xs : List (List Int), PyData.depthAll (xs.map rowP) ≤ 1
  | [] => by simp [PyData.depthAll]
  | x :: xs => by
    have := depth_rows xs
    simp only [List.map_cons, PyData.depthAll, PyData.depth, PySem.W.depth_ints]
    omega
/-- what is needed of the items -/
structure SortOk (l : List D) : Prop where
  py : ∀ d ∈ l, d.py = some (encD d)
  ali : PySem.W.AllAlike (l.map encD)
  srt : (∀ d, d ∈ l.map encD → ∃ xs, d = .tuple xs) ∨ PySem.W.Sortable (l.map encD)
  dep : ∀ d ∈ l, (encD d).depth ≤ 2
theorem SortOk.of {l : List D} (f : D → PyData → Prop) (h : ∀ d ∈ l, ∃ p, d.py = some p ∧ f d p ∧ p.depth ≤ 2 ∧ (∀ d' ∈ l, ∀ p', d'.py = some p' → PySem.W.alike p p' = true)) (hs : (∀ d ∈ l, ∀ p, d.py = some p → ∃ xs, p = .tuple xs) ∨ (∀ d ∈ l, ∀ p, d.py = some p → p ≠ .none ∧ ∀ xs, p ≠ .tuple xs)) : SortOk l := by
  have py : ∀ d ∈ l, d.py = some (encD d) := fun d hd => by
    obtain ⟨p, e, _⟩ := h d hd
    rw [e]; unfold encD; rw [e]; rfl
  refine ⟨py, fun a ha b hb => ?_, ?_, fun d hd => ?_⟩
  · obtain ⟨d, hd, rfl⟩ := List.mem_map.mp ha
    obtain ⟨d', hd', rfl⟩ := List.mem_map.mp hb
    obtain ⟨p, e, _, _, q⟩ := h d hd
    have : encD d = p := Option.some.inj ((py d hd).symm.trans e)
    rw [this]
    exact q d' hd' _ (py d' hd')
  · rcases hs with hs | hs
    · exact .inl fun p hp => by
        obtain ⟨d, hd, rfl⟩ := List.mem_map.mp hp
        exact hs d hd _ (py d hd)
    · exact .inr (.inr fun p hp => by
        obtain ⟨d, hd, rfl⟩ := List.mem_map.mp hp
        exact hs d hd _ (py d hd))
  · obtain ⟨p, e, _, q, _⟩ := h d hd
    have : encD d = p := Option.some.inj ((py d hd).symm.trans e)
    rw [this]; exact q
theorem sortOk_of {l : List D} (h : (l.all isI || l.all isRow || l.all isIRow || l.all isRows) = true) : SortOk l := by
  simp only [Bool.or_eq_true] at h
  rcases h with ((h | h) | h) | h
  · have key : ∀ d ∈ l, ∃ i, d = .int i := fun d hd => by
      have := List.all_eq_true.mp h d hd
      cases d with
      | int i => exact ⟨_, rfl⟩
      | _ => simp [isI] at this
    refine SortOk.of (fun _ _ => True) (fun d hd => ?_) (.inr fun d hd p e => ?_)
    · obtain ⟨i, rfl⟩ := key d hd
      refine ⟨.int i, rfl, trivial, by simp [PyData.depth], fun d' hd' p' e => ?_⟩
      obtain ⟨j, rfl⟩ := key d' hd'
      cases e; rfl
    · obtain ⟨i, rfl⟩ := key d hd
      cases e; exact ⟨by simp, by simp⟩
  · have key : ∀ d ∈ l, ∃ ns, d = rowD ns := fun d hd => isRow_is (List.all_eq_true.mp h d hd)
    refine SortOk.of (fun _ _ => True) (fun d hd => ?_) (.inl fun d hd p e => ?_)
    · obtain ⟨ns, rfl⟩ := key d hd
      refine ⟨_, py_row ns, trivial, by simp only [PyData.depth, PySem.W.depth_ints]; omega, fun d' hd' p' e => ?_⟩
      obtain ⟨ms, rfl⟩ := key d' hd'
      cases (py_row ms).symm.trans e
      simp only [PySem.W.alike, PySem.W.alike_ints]
    · obtain ⟨ns, rfl⟩ := key d hd
      cases (py_row ns).symm.trans e
      exact ⟨_, rfl⟩
  · have key : ∀ d ∈ l, ∃ i ns, d = .tup [.int i, rowD ns] := fun d hd => by
      have := List.all_eq_true.mp h d hd
      unfold isIRow at this
      split at this
      · obtain ⟨ns, rfl⟩ := isI_is this
        exact ⟨_, ns, rfl⟩
      · cases this
    have pe : ∀ (i : Int) (ns : List Int), (D.tup [.int i, rowD ns]).py = some (.tuple [.int i, rowP ns]) := fun i ns => by
      have := py_row ns
      simp only [D.py, D.pys] at this ⊢
      rw [this]; rfl
    refine SortOk.of (fun _ _ => True) (fun d hd => ?_) (.inl fun d hd p e => ?_)
    · obtain ⟨i, ns, rfl⟩ := key d hd
      refine ⟨_, pe i ns, trivial, by simp only [PyData.depth, PyData.depthAll, PySem.W.depth_ints]; omega, fun d' hd' p' e => ?_⟩
      obtain ⟨j, ms, rfl⟩ := key d' hd'
      cases (pe j ms).symm.trans e
      simp only [PySem.W.alike, PySem.W.alikeAll, PySem.W.alike_ints, Bool.and_self]
    · obtain ⟨i, ns, rfl⟩ := key d hd
      cases (pe i ns).symm.trans e
      exact ⟨_, rfl⟩
  · have key : ∀ d ∈ l, ∃ rs : List (List Int), d = .tup (rs.map rowD) := fun d hd => by
      have := List.all_eq_true.mp h d hd
      cases d with
      | tup l =>
        obtain ⟨rs, rfl⟩ := isRow_all (show l.all isRow = true from this)
        exact ⟨rs, rfl⟩
      | _ => simp [isRows] at this
    have pe : ∀ rs : List (List Int), (D.tup (rs.map rowD)).py = some (.tuple (rs.map rowP)) := fun rs => by simp only [D.py, pys_rows, Option.map_some]
    refine SortOk.of (fun _ _ => True) (fun d hd => ?_) (.inl fun d hd p e => ?_)
    · obtain ⟨rs, rfl⟩ := key d hd
      refine ⟨_, pe rs, trivial, by have := depth_rows rs; simp only [PyData.depth]; omega, fun d' hd' p' e => ?_⟩
      obtain ⟨ms, rfl⟩ := key d' hd'
      cases (pe ms).symm.trans e
      simp only [PySem.W.alike, alike_rows]
    · obtain ⟨rs, rfl⟩ := key d hd
      cases (pe rs).symm.trans e
      exact ⟨_, rfl⟩
/-- sorted(l) by data -/
def rSortD (X : Cx) : List V → Hp → VK → Prop := fun vs H Q => ∃ (a : Addr) (xs : List V) (l : List D) (F : Hp) (μ : List Addr), vs = [V.ref a] ∧ SqL X.K H a xs ∧ Same F H ∧ Reps X.K X.mg μ F xs l ∧ SortOk l ∧ chainD (isoD l) = true ∧
  ∀ (ys : List V) (p : Addr), Reps X.K X.mg μ F ys (isoD l) → H p = none → Q (.ref p) (upd H p (.lst ys))
section
variable {T : Tg} {X : Cx} {K : PySem.W.Frag} {mg : Str → Option Value} {μ : List Addr} {F H : Hp}
theorem each_reps {pins : List (Addr × Obj)} {σ : L2.St} {s : Shared} (I : Inv X pins σ H s) (e : Same F H) : ∀ {vs : List V} {ds : List D} {us : List Value}, Reps X.K mg μ F vs ds → Vals vs us → (∀ d ∈ ds, d.py = some (encD d)) → PySem.W.EachIs (fun u d => ∃ v, RelV v u ∧ Rep X.K mg μ F v d) us ds ∧ PySem.W.EachIs (fun u d => ∃ as, Reads s.heap u (encD d) as) us ds
  | _, _, _, .nil, .nil, _ => ⟨.nil, .nil⟩
  | _, _, _, .cons (d := d) r rs, .cons q qs, h => by
    obtain ⟨h1, h2⟩ := each_reps I e rs qs fun d hd => h d (List.mem_cons_of_mem _ hd)
    exact ⟨.cons ⟨_, q, r⟩ h1, .cons (Rep.reads I e r q (h d List.mem_cons_self)) h2⟩
theorem reps_each : ∀ {us : List Value} {ds : List D}, PySem.W.EachIs (fun u d => ∃ v, RelV v u ∧ Rep K mg μ F v d) us ds → ∃ vs, Vals vs us ∧ Reps K mg μ F vs ds
  | _, _, .nil => ⟨[], .nil, .nil⟩
  | _, _, .cons ⟨v, r, p⟩ t => by
    obtain ⟨vs, h1, h2⟩ := reps_each t
    exact ⟨v :: vs, .cons r h1, .cons p h2⟩
theorem cr_sortD {k : Nat} (hr : Room k X.A) : CallR X (.builtin "sorted") (rSortD X) := by
  intro pins s σ H vs us Q I r h
  obtain ⟨a, xs, l, F, μ, rfl, hs, hF, rp, so, hc, q⟩ := h
  obtain ⟨its, rv, hl, hz⟩ := I.list hs
  rw [Vals.ref1 r]
  obtain ⟨e1, e2⟩ := each_reps I hF rp rv so.py
  have hun := hr.un
  refine PySem.W.sorted_any (R := fun u d => ∃ v, RelV v u ∧ Rep X.K X.mg μ F v d) (enc := encD) hl.isList e1 e2 so.ali so.srt (by rw [← rp.length]; exact hz) (fun d hd => by have := so.dep d hd; omega) fun out ho he => ?_
  rw [sorted_is hc] at he
  obtain ⟨ys, y1, y2⟩ := reps_each he
  obtain ⟨ep, he'⟩ := PyProof.Rows.sortedAll_at s.heap its out.toArray
  have hlen : ys.length ≤ sizeLine := by
    rw [y2.length, (isoD_perm l).length_eq, ← rp.length]; exact hz
  exact ⟨.ref _, upd H (s.heap.objs.size + 1) (.lst ys), I.laid (t' := s.toks) (fun _ _ => PyProof.Rows.sortedAll_old) (Nat.le_succ _) ⟨hlen, out, ep, y1, he'⟩, rfl, q _ _ y2 (I.hok.fresh (Nat.le_succ _))⟩
theorem cd_sorted : CallD X T (bi .sorted) (rSortD X) := by
  intro xs z vs F μ g H Q EX e hv r h
  unfold bi at e
  split at e <;> try (cases e; done)
  all_goals (rename_i heq; try (cases heq; done))
  rename_i l
  obtain ⟨v, rfl, q⟩ := reps1 r
  unfold sortLD at e
  split at e
  · rename_i hz
    cases e
    simp only [Bool.and_eq_true] at hz
    cases q with
    | lst a b =>
      refine ⟨_, _, l, F, μ, rfl, SqL.of (hv.le _ _ a), hv.le, b, sortOk_of hz.1.1, hz.1.2, fun ys p ry hp => ?_⟩
      exact Aft.laid (RP := RD X.K X.mg) h hv hp ntL (.lst upd_same (ry.mono (hv.laid hp ntL).ff (Pre.refl _)))
  · cases e
end
end SH

set_option Elab.async false
set_option linter.all false
set_option autoImplicit false
set_option maxRecDepth 100000
set_option maxHeartbeats 4000000
namespace SH
open PySem PySem.Spec PyProof.Rows L2 LamX
section
variable {T : Tg} {Φ : Fns} {L : Lib} {N : List Str} {sc : Scope} {cs : List Str} {k : Nat} {E : L2.St → XK} {X : Cx}
variable {K : PySem.W.Frag} {mg : Str → Option Value} {μ : List Addr} {F H : Hp}
/-! ### displays with stars -/
def tCat (K : PySem.W.Frag) (mg : Str → Option Value) (T : Tg) (Φ : Fns) (E : L2.St → XK) (ms : List ME) (st : List Bool) : TA := fun σ H Q =>
  ∃ F μ g S, View K mg T F μ g H ∧ RelS K mg T S σ F μ H ∧ Aft K mg T (RDs K mg) (evc Φ ms st S g) F μ H Q (E σ)
theorem sc_nil {st : List Bool} : PA X [] (tCat X.K X.mg T Φ E [] st) :=
  PA.mono pa_nil fun σ H Q ⟨F, μ, g, S, hv, hr, h⟩ => Aft.val (RP := RDs X.K X.mg) (by unfold evc at h; exact h) hv .nil
theorem sc_cons {e : Expr} {es : List Expr} {m : ME} {ms : List ME} {st : List Bool} (he : PE X e (tE X.K X.mg T Φ E m)) (hes : PA X es (tCat X.K X.mg T Φ E ms st)) (hst : notStar e = true) : PA X (e :: es) (tCat X.K X.mg T Φ E (m :: ms) (false :: st)) := by
  refine PA.mono (pa_cons he hes (star_of hst)) fun σ H Q h => ?_
  obtain ⟨F, μ, g, S, hv, hr, h⟩ := h
  have h : Aft X.K X.mg T (RDs X.K X.mg) ((ev Φ m S g).bind fun x g => (evc Φ ms st S g).bind fun l g => .ok (x :: l) g) F μ H Q (E σ) := by
    unfold evc at h; exact h
  refine ⟨F, μ, g, S, hv, hr, Aft.imp (Aft.bind h) fun v H1 ⟨x, F1, μ1, g1, y, r, h1⟩ => ?_⟩
  refine ⟨F1, μ1, g1, S, y.view, hr.go y, Aft.imp (Aft.bind (RP := RDs X.K X.mg) h1) fun vs H2 ⟨xs, F2, μ2, g2, y2, rs, h2⟩ => ?_⟩
  exact Aft.val (RP := RDs X.K X.mg) h2 y2.view (.cons (r.mono y2.ff y2.pre) rs)
theorem seqX_is {x : D} {xs : List D} {v : V} (h : seqX x = some xs) (r : Rep K mg μ F v x) (le : Same F H) : ∃ p vs, v = V.ref p ∧ (SqT K H p vs ∨ SqL K H p vs) ∧ Reps K mg μ F vs xs := by
  cases r with
  | tup a b => cases h; exact ⟨_, _, rfl, .inl (sqT_same le a), b⟩
  | lst a b => cases h; exact ⟨_, _, rfl, .inr (SqL.of (le _ _ a)), b⟩
  | _ => cases h
theorem sc_star {e : Expr} {es : List Expr} {m : ME} {ms : List ME} {st : List Bool} {p : Pos} (he : PE X e (tE X.K X.mg T Φ E m)) (hes : PA X es (tCat X.K X.mg T Φ E ms st)) : PA X (.Starred e p :: es) (tCat X.K X.mg T Φ E (m :: ms) (true :: st)) := by
  refine PA.mono (StX.pa_star he hes) fun σ H Q h => ?_
  obtain ⟨F, μ, g, S, hv, hr, h⟩ := h
  have h : Aft X.K X.mg T (RDs X.K X.mg) ((ev Φ m S g).bind fun x g => match seqX x with
    | some xs => (evc Φ ms st S g).bind fun l g => .ok (xs ++ l) g
    | none => .bad) F μ H Q (E σ) := by
    unfold evc at h; exact h
  refine ⟨F, μ, g, S, hv, hr, Aft.imp (Aft.bind h) fun v H1 ⟨x, F1, μ1, g1, y, r, h1⟩ => ?_⟩
  cases q : seqX x with
  | none => rw [q] at h1; exact h1.elim
  | some xs =>
    rw [q] at h1
    obtain ⟨a, vs, rfl, hs, rs⟩ := seqX_is q r y.view.le
    refine ⟨a, vs, rfl, hs, F1, μ1, g1, S, y.view, hr.go y, Aft.imp (Aft.bind (RP := RDs X.K X.mg) h1) fun ws H2 ⟨xs2, F2, μ2, g2, y2, rs2, h2⟩ => ?_⟩
    exact Aft.val (RP := RDs X.K X.mg) h2 y2.view ((rs.mono y2.ff y2.pre).append rs2)
theorem se_catT {es : List Expr} {ms : List ME} {st : List Bool} {j : Nat} {pos : Pos} (hes : PA X es (tCat X.K X.mg T Φ E ms st)) : PE X (.Tuple es j pos) (tE X.K X.mg T Φ E (.cat true st ms)) := by
  refine PE.mono (pe_tup hes) fun σ H Q h => ?_
  obtain ⟨F, μ, g, S, hv, hr, h⟩ := h
  unfold ev at h
  refine ⟨F, μ, g, S, hv, hr, Aft.imp (Aft.bind (RP := RDs X.K X.mg) h) fun vs H1 ⟨x, F1, μ1, g1, y, r, h1⟩ => ?_⟩
  cases q : sizeOk x.length with
  | false => rw [q] at h1; exact h1.elim
  | true =>
    rw [q] at h1
    refine ⟨by rw [r.length]; exact Nat.le_of_ble_eq_true q, fun p hp => ?_⟩
    exact Aft.laid (RP := RD X.K X.mg) h1 y.view hp ntT (.tup (SqT.of upd_same) (r.mono (y.view.laid hp ntT).ff (Pre.refl _)))
theorem se_catL {es : List Expr} {ms : List ME} {st : List Bool} {pos : Pos} (hes : PA X es (tCat X.K X.mg T Φ E ms st)) : PE X (.List es pos) (tE X.K X.mg T Φ E (.cat false st ms)) := by
  refine PE.mono (pe_lst hes) fun σ H Q h => ?_
  obtain ⟨F, μ, g, S, hv, hr, h⟩ := h
  unfold ev at h
  refine ⟨F, μ, g, S, hv, hr, Aft.imp (Aft.bind (RP := RDs X.K X.mg) h) fun vs H1 ⟨x, F1, μ1, g1, y, r, h1⟩ => ?_⟩
  cases q : sizeOk x.length with
  | false => rw [q] at h1; exact h1.elim
  | true =>
    rw [q] at h1
    refine ⟨by rw [r.length]; exact Nat.le_of_ble_eq_true q, fun p hp => ?_⟩
    exact Aft.laid (RP := RD X.K X.mg) h1 y.view hp ntL (.lst upd_same (r.mono (y.view.laid hp ntL).ff (Pre.refl _)))
theorem sf_catL {es : List Expr} {ms : List ME} {st : List Bool} {pos : Pos} (hes : PA X es (tCat X.K X.mg T Φ E ms st)) : PE X (.List es pos) (tF X.K X.mg T Φ E (.cat false st ms)) := by
  refine PE.mono (pe_lst hes) fun σ H Q h => ?_
  obtain ⟨F, μ, g, S, hv, hr, h⟩ := h
  refine ⟨F, μ, g, S, hv, hr, ?_⟩
  simp only [ev] at h
  cases e : evc Φ ms st S g with
  | ok l g1 =>
    rw [e] at h
    intro vs F1 μ1 H1 y r
    cases q : sizeOk l.length with
    | false => simp only [Res.bind, q] at h; exact h.elim
    | true =>
      simp only [Res.bind, q, if_true, cond_false] at h
      refine ⟨by rw [r.length]; exact Nat.le_of_ble_eq_true q, fun p hp => ?_⟩
      obtain ⟨gg, fp, mp⟩ := y.view.lone (o := .lst vs) hp ntL
      exact h p vs F1 μ1 _ (y.trans gg) (y.free hp) upd_same fp mp r
  | exc x g1 => rw [e] at h; exact h
  | bad => rw [e] at h; exact h
/-! ### min, max of a list of ints -/
theorem fold_min : ∀ (l : List Int) (a : Int), (l.foldl (fun m x => if x < m then x else m) a ∈ a :: l) ∧ (∀ y ∈ a :: l, l.foldl (fun m x => if x < m then x else m) a ≤ y)
  | [], a => ⟨by simp, by simp⟩
  | b :: l, a => by
    obtain ⟨h1, h2⟩ := fold_min l (if b < a then b else a)
    rw [List.foldl_cons]
    refine ⟨?_, fun y hy => ?_⟩
    · rcases List.mem_cons.mp h1 with h | h
      · rw [h]; split <;> simp
      · exact List.mem_cons_of_mem _ (List.mem_cons_of_mem _ h)
    · have hm := h2 (if b < a then b else a) List.mem_cons_self
      rcases List.mem_cons.mp hy with rfl | hy
      · refine Int.le_trans hm ?_; split <;> omega
      · rcases List.mem_cons.mp hy with rfl | hy
        · refine Int.le_trans hm ?_; split <;> omega
        · exact h2 y (List.mem_cons_of_mem _ hy)
theorem fold_max : ∀ (l : List Int) (a : Int), (l.foldl (fun m x => if x > m then x else m) a ∈ a :: l) ∧ (∀ y ∈ a :: l, y ≤ l.foldl (fun m x => if x > m then x else m) a)
  | [], a => ⟨by simp, by simp⟩
  | b :: l, a => by
    obtain ⟨h1, h2⟩ := fold_max l (if b > a then b else a)
    rw [List.foldl_cons]
    refine ⟨?_, fun y hy => ?_⟩
    · rcases List.mem_cons.mp h1 with h | h
      · rw [h]; split <;> simp
      · exact List.mem_cons_of_mem _ (List.mem_cons_of_mem _ h)
    · have hm := h2 (if b > a then b else a) List.mem_cons_self
      rcases List.mem_cons.mp hy with rfl | hy
      · refine Int.le_trans ?_ hm; split <;> omega
      · rcases List.mem_cons.mp hy with rfl | hy
        · refine Int.le_trans ?_ hm; split <;> omega
        · exact h2 y (List.mem_cons_of_mem _ hy)
theorem ints_is : ∀ {l : List D} {ns : List Int}, ints? l = some ns → l = ns.map D.int
  | [], ns, h => by cases h; rfl
  | d :: l, ns, h => by
    cases d <;> simp only [ints?] at h <;> try (cases h; done)
    cases q : ints? l with
    | none => rw [q] at h; cases h
    | some ms => rw [q] at h; cases h; rw [ints_is q]; rfl
theorem cd_min1 : CallD X T (bi .min1) (rMin X.K) := by
  intro xs z vs F μ g H Q EX e hv r h
  unfold bi at e
  split at e <;> try (cases e; done)
  all_goals (rename_i heq; try (cases heq; done))
  rename_i l
  obtain ⟨v, rfl, q⟩ := reps1 r
  cases eb : ints? l with
  | none => rw [eb] at e; cases e
  | some bs =>
    rw [eb] at e
    have := ints_is eb
    subst this
    cases q with
    | lst a b =>
      have b' := b.ints
      subst b'
      cases bs with
      | nil => cases e
      | cons n ns =>
        cases e
        refine ⟨_, n :: ns, rfl, SqL.of (hv.le _ _ a), by simp, fun m hm hle => ?_⟩
        obtain ⟨k1, k2⟩ := fold_min ns n
        have : m = ns.foldl (fun m x => if x < m then x else m) n := Int.le_antisymm (hle _ k1) (k2 _ hm)
        rw [this]
        exact Aft.val (RP := RD X.K X.mg) h hv (.int _)
theorem cd_max1 : CallD X T (bi .max1) (rMax X.K) := by
  intro xs z vs F μ g H Q EX e hv r h
  unfold bi at e
  split at e <;> try (cases e; done)
  all_goals (rename_i heq; try (cases heq; done))
  rename_i l
  obtain ⟨v, rfl, q⟩ := reps1 r
  cases eb : ints? l with
  | none => rw [eb] at e; cases e
  | some bs =>
    rw [eb] at e
    have := ints_is eb
    subst this
    cases q with
    | lst a b =>
      have b' := b.ints
      subst b'
      cases bs with
      | nil => cases e
      | cons n ns =>
        cases e
        refine ⟨_, n :: ns, rfl, SqL.of (hv.le _ _ a), by simp, fun m hm hle => ?_⟩
        obtain ⟨k1, k2⟩ := fold_max ns n
        have : m = ns.foldl (fun m x => if x > m then x else m) n := Int.le_antisymm (k2 _ hm) (hle _ k1)
        rw [this]
        exact Aft.val (RP := RD X.K X.mg) h hv (.int _)
end
end SH

set_option Elab.async false
set_option linter.all false
set_option autoImplicit false
set_option maxRecDepth 100000
set_option maxHeartbeats 4000000
namespace SH
open PySem PySem.Spec PyProof.Rows L2 LamX
section
variable {T : Tg} {Φ : Fns} {L : Lib} {N : List Str} {sc : Scope} {cs : List Str} {k : Nat} {E : L2.St → XK} {X : Cx}
variable {K : PySem.W.Frag} {mg : Str → Option Value} {F F1 F2 : Hp} {μ μ1 μ2 : List Addr} {g g1 g2 : G} {H H1 H2 : Hp} {S S1 S2 : Sl} {σ σ1 σ2 : L2.St}
/-! ### a comprehension's list as one's own -/
theorem t_compF {mi : MI} {tg vs : List Nat} {mts : List ME} {me : ME} {wi : TI} (hsub : ∀ j ∈ tg, j ∈ vs) (σ : L2.St) (H : Hp) (Q : VK) (h : tF K mg T Φ E (.comp mi tg vs mts me) σ H Q) :
    tLc (tI K mg T Φ E mi) (tgG K tg) (tTs K mg T Φ EF mts) (tE K mg T Φ EF me) vs σ H Q := by
  obtain ⟨F, μ, g, S, hv, hr, h⟩ := h
  simp only [ev] at h
  refine ⟨F, μ, g, S, hv, hr, ?_⟩
  cases hei : evi Φ mi S g with
  | exc x g' => rw [hei] at h; exact h
  | bad => rw [hei] at h; exact h
  | ok l g1 =>
  rw [hei] at h
  simp only [Res.bind] at h
  intro J F1 μ1 H1 y1 rw1
  intro D hD
  obtain ⟨hsz, hwalk⟩ := rw1
  cases ht : turns tg vs S (fun S g => evt Φ mts S g) (fun S g => ev Φ me S g) l [] g1 with
  | exc x g' => exact absurd ht (turns_no_exc _ _ _ _ _)
  | bad => rw [ht] at h; exact h.elim
  | ok L gL =>
    rw [ht] at h
    have fD : F1 D = none := by
      cases q : F1 D with
      | none => rfl
      | some u => rw [y1.view.le D u q] at hD; cases hD
    have mD : D ∉ μ1 := fun z => store_some y1.view.st z hD
    have g0 : Go K mg T F1 μ1 H1 F1 μ1 g1 (upd H1 D (.lst [])) := by
      refine ⟨⟨fun a u q => ?_, y1.view.nt, y1.view.nod, y1.view.off, ?_, ?_, tbs_upd y1.view.tbs ntL, y1.view.bas⟩, Same.refl _, Pre.refl _, fun a o q => .inl q, fun a q => .inl q, fun a o q _ _ => ?_, fun a o q => ?_⟩
      · rw [upd_ne (ne_of_none q fD)]; exact y1.view.le a u q
      · exact paired_mem y1.view.st fun a ha m r => r.mono (Same.refl _) (Pre.refl _) (upd_ne fun e => mD (by rw [← e]; exact ha))
      · exact y1.view.tab.ext fun b u q => by rw [upd_ne (ne_of_none q hD)]; exact q
      · rw [upd_ne (ne_of_none q hD)]; exact q
      · exact ⟨o, by rw [upd_ne (ne_of_none q hD)]; exact q⟩
    let Pv : Nat → Hp → Prop := fun i H' => ∃ F' μ' g' acc accV, Go K mg T F1 μ1 H1 F' μ' g' H' ∧ H' D = some (.lst accV) ∧ F' D = none ∧ D ∉ μ' ∧ Reps K mg μ' F' accV acc.reverse ∧ acc.length ≤ i ∧
      turns tg vs S (fun S g => evt Φ mts S g) (fun S g => ev Φ me S g) (l.drop i) acc g' = .ok L gL
    have walk : Walk J l.length (fun H' => Same F1 H') (fun i H x H' => ∃ d, l[i]? = some d ∧ YD K mg μ1 F1 H x H' d) :=
      ⟨fun i H' hi q => (hwalk H' q).1 i hi, fun H' q => (hwalk H' q).2.1, fun i H' x H2 hi q y => ⟨l[i], by simp, (hwalk H' q).2.2 i l[i] x H2 (by simp) y⟩⟩
    refine lc_it walk Pv ⟨F1, μ1, g1, [], [], g0, upd_same, fD, mD, .nil, Nat.le_refl _, by rw [List.drop_zero]; exact ht⟩ ?_ ?_ ?_
    · rintro i H' _ ⟨F', μ', g', acc, accV, gg, _⟩
      exact gg.ff.trans gg.view.le
    · rintro i x H' H2 hi ⟨F', μ', g', acc, accV, gg, hD', fD', mD', racc, hlen, htr⟩ ⟨d, hd, yd⟩
      have hdrop : l.drop i = d :: l.drop (i + 1) := by
        rw [List.drop_eq_getElem_cons hi]
        congr 1
        have := List.getElem?_eq_getElem hi
        rw [this] at hd; exact Option.some.inj hd
      rw [hdrop] at htr
      simp only [turns] at htr
      -- the item
      have yd' : YD K mg μ' F' H' x H2 d := by
        rcases yd with ⟨e, r⟩ | ⟨t, vs', ds', e1, e2, e3, e4, r⟩
        · exact .inl ⟨e, r.mono gg.ff gg.pre⟩
        · exact .inr ⟨t, vs', ds', e1, e2, e3, e4, r.mono gg.ff gg.pre⟩
      obtain ⟨F2, go2, rx⟩ := YD.go gg.view yd'
      have hr2 : RelS K mg T S σ F2 μ' H2 := ((hr.go y1).go gg).go go2
      have D2 : H2 D = some (.lst accV) := go2.keep D _ hD' mD' ntL
      have fD2 : F2 D = none := by
        cases q : F2 D with
        | none => rfl
        | some u =>
          rcases go2.new D u q with z | z
          · rw [fD'] at z; cases z
          · rw [hD'] at z; cases z
      cases hp : putTg tg d (wipeS S vs) with
      | none => rw [hp] at htr; cases htr
      | some S1 =>
        rw [hp] at htr
        simp only at htr
        refine tgG_of (hr2.wipe vs) go2.view.le rx hp fun σ2 hr3 hne hl2 => ⟨wipe_back hsub hne hl2, ?_⟩
        -- the tests
        cases het : evt Φ mts S1 g' with
        | exc x g'' => rw [het] at htr; cases htr
        | bad => rw [het] at htr; cases htr
        | ok b g3 =>
          rw [het] at htr
          refine ⟨F2, μ', g', S1, go2.view, hr3, ?_⟩
          rw [het]
          intro b' F3 μ3 H3 go3 eb
          have eb' : b' = b := eb
          subst eb'
          have D3 : H3 D = some (.lst accV) := go3.keep D _ D2 mD' ntL
          have fD3 : F3 D = none := by
            cases q : F3 D with
            | none => rfl
            | some u =>
              rcases go3.new D u q with z | z
              · rw [fD2] at z; cases z
              · rw [D2] at z; cases z
          have mD3 : D ∉ μ3 := fun z => by
            rcases go3.newμ D z with z | z
            · exact mD' z
            · rw [D2] at z; cases z
          have ga := (gg.trans go2).trans go3
          cases b' with
          | false =>
            refine ⟨F3, μ3, g3, acc, accV, ga, D3, fD3, mD3, racc.mono (go2.ff.trans go3.ff) (go2.pre.trans go3.pre), Nat.le_succ_of_le hlen, htr⟩
          | true =>
            simp only [if_true]
            cases hee : ev Φ me S1 g3 with
            | exc x g'' => simp only [hee] at htr; cases htr
            | bad => simp only [hee] at htr; cases htr
            | ok e g4 =>
              simp only [hee] at htr
              refine ⟨F3, μ3, g3, S1, go3.view, hr3.go go3, ?_⟩
              rw [hee]
              intro v F4 μ4 H4 go4 rv
              have D4 : H4 D = some (.lst accV) := go4.keep D _ D3 mD3 ntL
              have fD4 : F4 D = none := by
                cases q : F4 D with
                | none => rfl
                | some u =>
                  rcases go4.new D u q with z | z
                  · rw [fD3] at z; cases z
                  · rw [D3] at z; cases z
              have mD4 : D ∉ μ4 := fun z => by
                rcases go4.newμ D z with z | z
                · exact mD3 z
                · rw [D3] at z; cases z
              have lacc : accV.length = acc.length := by rw [racc.length, List.length_reverse]
              refine ⟨accV, D4, by omega, F4, μ4, g4, e :: acc, accV ++ [v], Go.grow (ga.trans go4) hD D4 fD4 mD4, upd_same, fD4, mD4, ?_, by simp only [List.length_cons]; omega, htr⟩
              rw [List.reverse_cons]
              exact (racc.mono ((go2.ff.trans go3.ff).trans go4.ff) ((go2.pre.trans go3.pre).trans go4.pre)).append (.cons rv .nil)
    · rintro H' ⟨F', μ', g', acc, accV, gg, hD', fD', mD', racc, hlen, htr⟩
      rw [List.drop_length] at htr
      simp only [turns] at htr
      cases htr
      exact h D accV F' μ' H' (y1.trans gg) (y1.free hD) hD' fD' mD' racc

theorem ss_ownC {y : Str} {py spos cpos : Pos} {elt tg iter : Expr} {ifs : List Expr} {scope : Scope} {own : List (Str × Nat)} {tgs : List Nat} {mi : MI} {mts : List ME} {me : ME} {i : Nat} (ok : CtxOk T Φ L N sc cs k E X) (hh : L.ev = none) (ht : L.thk = false)
    (hk : sc.kind = .function) (hy : tgOk N sc cs [i] (.Name y py) = true) (hi : PI X tg iter (tI X.K X.mg T Φ E mi)) (hb : blkC N sc scope own = true) (htg : tgOk N (relS scope sc) (cellNames scope) tgs tg = true) (hsub : (tgs.all fun j => (own.map (·.2)).contains j) = true) (hset : notSet iter = true)
    (hts : ∀ X', CtxOk T Φ L N (relS scope sc) (cellNames scope) k EF X' → PTs X' ifs (tTs X'.K X'.mg T Φ EF mts)) (hel : ∀ X', CtxOk T Φ L N (relS scope sc) (cellNames scope) k EF X' → PE X' elt (tE X'.K X'.mg T Φ EF me)) :
    PS X (.Assign [.Name y py] (.ListComp elt [⟨tg, iter, ifs, 0⟩] scope cpos) spos) (tM X.K X.mg T Φ E (.own i (.comp mi tgs (own.map (·.2)) mts me))) := by
  have sw := swaps_comp (X := X) (elt := elt) (gens := [⟨tg, iter, ifs, 0⟩]) (scope := scope) (cpos := cpos) (t := y) (p := py) (l := spos.line) ok.hsc hk
  have bo : BlkOk X.N X.env.scope scope own := blkOk_by (by rw [ok.hN, ok.hsc]; exact hb)
  have c := fun (s : Shared) (H : Hp) (C : Addr) (cl : List (Str × Addr)) (fp : List Addr) => ok.blk hh ht (scope := scope) (own := own) s H C cl fp
  have sub : ∀ j ∈ tgs, j ∈ own.map (·.2) := fun j hj => by
    have := List.all_eq_true.mp hsub j hj
    simpa using this
  cases hp : putOff sc y py.line cpos.line scope with
  | false =>
    rw [hp] at sw
    have pf : PE X (.ListComp elt [⟨tg, iter, ifs, 0⟩] scope cpos) (tF X.K X.mg T Φ E (.comp mi tgs (own.map (·.2)) mts me)) :=
      PE.mono (pe_lc (te := tE X.K X.mg T Φ EF me) (tt := tTs X.K X.mg T Φ EF mts) (g := tgG X.K tgs) (ok.calm hh) (by rw [ok.hN]; exact ok.nd) hi bo (fun s H C cl fp => pg_tg (c s H C cl fp).hN ok.nd (c s H C cl fp).hsc (c s H C cl fp).st (ok.calm hh) htg) (fun s H C cl fp => hts _ (c s H C cl fp)) (fun s H C cl fp => hel _ (c s H C cl fp)) (folded_of hset)) fun σ H Q h => t_compF (wi := tI X.K X.mg T Φ E mi) sub σ H Q h
    exact PS.mono (ps_asg pf (pg_nm ok hy) sw stores_name rfl) fun D σ H h => t_own D σ H h
  | true =>
    rw [hp] at sw
    have hl : sc.names.lookup y = some .local := by
      unfold putOff at hp
      simp only [Bool.and_eq_true, beq_iff_eq] at hp
      exact hp.1.1.2
    have hN : N[i]? = some y := by
      unfold tgOk at hy
      simp only [Bool.and_eq_true] at hy
      obtain ⟨x, p, e, h1, _⟩ := tgNames_cons hy.2
      cases e
      exact h1
    have base := ps_setLc (te := tE X.K X.mg T Φ EF me) (tt := tTs X.K X.mg T Φ EF mts) (g := tgG X.K tgs) (py := py) (spos := spos) (i := i) (y := y) (ok.calm hh) (by rw [ok.hN]; exact ok.nd) (by rw [ok.hN]; exact hN) (by rw [ok.hsc]; exact hl) sw hi bo (fun s H C cl fp => pg_tg (c s H C cl fp).hN ok.nd (c s H C cl fp).hsc (c s H C cl fp).st (ok.calm hh) htg) (fun s H C cl fp => hts _ (c s H C cl fp)) (fun s H C cl fp => hel _ (c s H C cl fp)) (folded_of hset)
    refine ⟨fun pins s σ H D I h => base.run pins s σ H D I ?_⟩
    have h' := t_own D σ H h
    exact t_compF (wi := tI X.K X.mg T Φ E mi) sub σ H _ h'
/-! ### x[i] = e -/
theorem Reps.setD : ∀ {vs : List V} {ds : List D} {v : V} {d : D} (j : Nat), Reps K mg μ F vs ds → Rep K mg μ F v d → Reps K mg μ F (vs.set j v) (ds.set j d)
  | _, _, _, _, _, .nil, _ => .nil
  | _, _, _, _, 0, .cons _ rs, r => .cons r rs
  | _, _, _, _, j + 1, .cons h rs, r => .cons h (Reps.setD j rs r)
theorem ss_setI {x : Str} {i : Nat} {e ie : Expr} {m mi : ME} {p p2 pos : Pos} (ok : CtxOk T Φ L N sc cs k E X) (hN : N[i]? = some x) (hv : Vis sc x) (hd : (x == ("__debug__" : Str)) = false) (hcd : (x == ("__classdict__" : Str)) = false) (hc : notComp e = true)
    (he : PE X e (tE X.K X.mg T Φ E m)) (hi : PE X ie (tE X.K X.mg T Φ E mi)) (hpl : plainIx ie = true) : PS X (.Assign [.Subscript (.Name x p) ie p2] e pos) (tM X.K X.mg T Φ E (.setI i mi m)) := by
  have hsole : swapsWithSole [.Subscript (.Name x p) ie p2] e pos.line X.env = pure false := by
    show swapsWith e (some (.Subscript (.Name x p) ie p2)) pos.line X.env = pure false
    exact swaps_no hc
  refine PS.mono (ps_asg he (pg_sub (pe_var (i := i) (pos := p) (by rw [ok.hN]; exact hN) (by rw [ok.hsc]; exact hv) hd hcd) hi set_list (fun v => by cases ie <;> first | rfl | cases hpl)) hsole (by cases e <;> rfl) rfl) fun D σ H ⟨F, μ, g, S, hvw, hr, h⟩ => ?_
  simp only [exec] at h
  refine ⟨F, μ, g, S, hvw, hr, Aft.imp (AftS.bind (RP := RD X.K X.mg) hr h) fun v H1 ⟨d, F1, μ1, g1, y, r, h1⟩ => ?_⟩
  have hr1 := hr.go y
  split at h1
  · rename_i xs hS
    obtain ⟨a, vs, e1, e2, e3, e4, e5⟩ := hr1.own i xs hS
    refine ⟨.ref a, e1, F1, μ1, g1, S, y.view, hr1, Aft.imp (AftS.bind (RP := RD X.K X.mg) hr1 h1) fun w H2 ⟨dy, F2, μ2, g2, y2, r2, h2⟩ => ?_⟩
    have hr2 := hr1.go y2
    obtain ⟨b, us, q1, q2, q3, q4, q5⟩ := hr2.own i xs hS
    rw [e1] at q1; cases q1
    cases hset : setAt xs dy d with
    | none => rw [hset] at h2; exact h2.elim
    | some xs' =>
      rw [hset] at h2
      cases dy <;> simp only [setAt] at hset <;> try (cases hset; done)
      rename_i kk
      cases hix : ixN xs.length kk with
      | none => rw [hix] at hset; cases hset
      | some j =>
        rw [hix] at hset
        cases hset
        cases r2
        refine ⟨a, us, kk, j, rfl, rfl, q2, by rw [q5.length]; exact hix, ?_⟩
        have o : OwnAt S σ a := ⟨i, xs, hS, e1⟩
        exact h2 σ F2 μ2 _ (GoO.write y2.view hr2 o q2 q3 q4) (hr2.write (vs := us) hS e1 (q5.setD j (r.mono y2.ff y2.pre)) q3 q4) (fun c oc => .inl (own_write hS oc))
  · exact h1.elim
/-! ### while -/
theorem ss_while {c : Expr} {body : List Stmt} {mc : ME} {mb : List MS} {pos : Pos} (ok : CtxOk T Φ L N sc cs k E X) (hh : L.ev = none) (hc : PT X c (tT X.K X.mg T Φ E mc)) (hb : PSs X body (tMs X.K X.mg T Φ E mb)) :
    PS X (.While c body [] pos) (tM X.K X.mg T Φ E (.while_ mc mb)) := by
  refine PS.mono (ps_while (ok.po hh) hc hb) fun D σ H ⟨F, μ, g, S, hv, hr, h⟩ => ?_
  simp only [exec] at h
  let W : Nat → L2.St → Hp → Prop := fun m σ' H' => ∃ F' μ' g' S', View X.K X.mg T F' μ' g' H' ∧ RelS X.K X.mg T S' σ' F' μ' H' ∧ AftS X.K X.mg T S' σ' (whileL (fun S g => evT Φ mc S g) (fun S g => execs Φ mb S g) m S' g') F' μ' H' D E
  refine ⟨W, ⟨100000, F, μ, g, S, hv, hr, h⟩, fun m σ' H' ⟨F', μ', g', S', v', r', a'⟩ => ?_⟩
  cases m with
  | zero => exact a'.elim
  | succ m =>
    refine ⟨F', μ', g', S', v', r', ?_⟩
    simp only [whileL] at a'
    cases et : evT Φ mc S' g' with
    | bad => rw [et] at a'; exact a'
    | exc x g1 =>
      rw [et] at a'
      exact fun cls dd F2 μ2 H2 y q => a' σ' cls dd F2 μ2 H2 y.toO (r'.go y) (fun a o => .inl o) q
    | ok b g1 =>
      rw [et] at a'
      intro b' F1 μ1 H1 y eb
      have eb' : b' = b := eb
      subst eb'
      have r1 := r'.go y
      cases b' with
      | false => exact a' σ' F1 μ1 H1 y.toO r1 fun a o => .inl o
      | true =>
        refine ⟨fun σ2 H2 => W m σ2 H2, fun σ2 H2 q => ⟨m, Nat.lt_succ_self _, q⟩, F1, μ1, g1, S', y.view, r1, ?_⟩
        simp only at a'
        have nextW : ∀ {S3 : Sl} {g3 : G}, AftS X.K X.mg T S' σ' (whileL (fun S g => evT Φ mc S g) (fun S g => execs Φ mb S g) m S3 g3) F' μ' H' D E →
            ∀ σ3 F3 μ3 H3, GoO X.K X.mg T (OwnAt S' σ') F1 μ1 H1 F3 μ3 g3 H3 → RelS X.K X.mg T S3 σ3 F3 μ3 H3 → (∀ a, OwnAt S3 σ3 a → OwnAt S' σ' a ∨ H1 a = none) → W m σ3 H3 := by
          intro S3 g3 hrest σ3 F3 μ3 H3 z rl ho
          refine ⟨F3, μ3, g3, S3, z.view, rl, AftS.from ((y.toO (O := OwnAt S' σ')).trans z fun a q => .inl q) (fun a q => ?_) hrest⟩
          rcases ho a q with q | q
          · exact .inl q
          · exact .inr (y.free q)
        have base : ∀ {r : SR}, AftS X.K X.mg T S' σ' r F' μ' H' D E → AftS X.K X.mg T S' σ' r F1 μ1 H1 D E := fun hb => AftS.from (y.toO (O := OwnAt S' σ')) (fun a q => .inl q) hb
        cases e : execs Φ mb S' g1 with
        | next S3 g3 => rw [e] at a'; exact nextW a'
        | cont S3 g3 => rw [e] at a'; exact nextW a'
        | brk S3 g3 => rw [e] at a'; exact base a'
        | ret d3 g3 => rw [e] at a'; exact base a'
        | exc x3 S3 g3 => rw [e] at a'; exact base a'
        | bad => rw [e] at a'; exact a'
/-! ### range(i, j, -1) -/
theorem rw_down {i j : Int} (hz : (i - j).toNat ≤ sizeLine) : RW K mg μ F (Itc i (-1) (i - j).toNat) (downL i j) := by
  have hl : (downL i j).length = (i - j).toNat := by simp [downL]
  refine ⟨by rw [hl]; exact hz, fun H le => ⟨fun n hn => by rw [hl] at hn; exact hn, by rw [hl]; exact Nat.le_refl _, fun n d x H' hd y => ?_⟩⟩
  obtain ⟨e1, e2⟩ := y
  have : d = .int (i + (n : Int) * (-1)) := by
    unfold downL at hd
    rw [List.getElem?_map] at hd
    cases q : (List.range (i - j).toNat)[n]? with
    | none => rw [q] at hd; cases hd
    | some m =>
      rw [q] at hd
      obtain ⟨_, hm⟩ := List.getElem?_eq_some_iff.mp q
      rw [List.getElem_range] at hm
      subst hm
      cases hd
      rfl
  subst this
  exact .inl ⟨e1, by rw [e2]; exact .int _⟩
theorem si_range3 {tg e e' e'' : Expr} {m m' m'' : ME} {p pos : Pos} (ok : CtxOk T Φ L N sc cs k E X) (hg : sc.names.lookup ("range" : Str) = some .globalImplicit) (hf : ("range" : Str) ∈ L.free) (hs : notStar e = true) (hs' : notStar e' = true) (hs'' : notStar e'' = true)
    (he : PE X e (tE X.K X.mg T Φ E m)) (he' : PE X e' (tE X.K X.mg T Φ E m')) (he'' : PE X e'' (tE X.K X.mg T Φ E m'')) : PI X tg (.Call (.Name "range" p) [e, e', e''] [] pos) (tI X.K X.mg T Φ E (.range3 m m' m'')) := by
  refine PI.mono (pi_range3 (gl_of ok hg) (ok.free _ hf) (sa_cons he (sa_cons he' (sa_cons he'' sa_nil hs'') hs') hs) (star_of hs) (stars_of (by simp [noStars, hs', hs'']))) fun σ H R h => ?_
  obtain ⟨F, μ, g, S, hv, hr, h⟩ := h
  have e2 : evi Φ (.range3 m m' m'') S g = (evs Φ [m, m', m''] S g).bind fun l g => lift (downD l) g := by
    simp only [evi, evs, Res.bind]
    cases ev Φ m S g with
    | ok x g1 =>
      simp only
      cases ev Φ m' S g1 with
      | ok y g2 =>
        simp only
        cases ev Φ m'' S g2 with
        | ok z g3 => rfl
        | exc _ _ => rfl
        | bad => rfl
      | exc _ _ => rfl
      | bad => rfl
    | exc _ _ => rfl
    | bad => rfl
  rw [e2] at h
  refine ⟨F, μ, g, S, hv, hr, Aft.imp (Aft.bind (RP := RDs X.K X.mg) h) fun vs H1 ⟨x, F1, μ1, g1, y1, r1, h1⟩ => ?_⟩
  obtain ⟨l, e3, h2⟩ := Aft.lift h1
  unfold downD at e3
  split at e3
  · rename_i i j c
    split at e3
    · rename_i hc
      cases e3
      simp only [Bool.and_eq_true, decide_eq_true_eq, beq_iff_eq] at hc
      obtain ⟨⟨⟨⟨⟨c1, c2⟩, c3⟩, c4⟩, c5⟩, c6⟩ := hc
      subst c1
      cases r1 with
      | cons q1 t1 =>
        cases t1 with
        | cons q2 t2 =>
          cases t2 with
          | cons q3 t3 =>
            cases t3; cases q1; cases q2; cases q3
            exact ⟨i, j, -1, (i - j).toNat, rfl, RgC.neg (by omega) (by omega) (by omega) (by omega), Aft.val (RP := RW X.K X.mg) h2 y1.view (rw_down (Nat.le_of_ble_eq_true c6))⟩
    · cases e3
  · cases e3
end
end SH

set_option Elab.async false
set_option linter.all false
set_option autoImplicit false
set_option maxRecDepth 100000
set_option maxHeartbeats 4000000
/-! [e for a in A if .. for b in B if ..] -/
namespace SH
open PySem PySem.Spec PyProof.Rows L2 LamX
section
variable {T : Tg} {Φ : Fns} {L : Lib} {N : List Str} {sc : Scope} {cs : List Str} {k : Nat} {E : L2.St → XK} {X : Cx}
variable {K : PySem.W.Frag} {mg : Str → Option Value} {F F1 F2 : Hp} {μ μ1 μ2 : List Addr} {g g1 g2 : G} {H H1 H2 : Hp} {S S1 S2 : Sl} {σ σ1 σ2 : L2.St}
/-- a list that is still being made, through what was done meanwhile -/
structure Open (K : PySem.W.Frag) (mg : Str → Option Value) (D : Addr) (accV : List V) (F : Hp) (μ : List Addr) (H : Hp) : Prop where
  at_ : H D = some (.lst accV)
  nf : F D = none
  nm : D ∉ μ
theorem Open.go {D : Addr} {accV : List V} (o : Open K mg D accV F μ H) (x : Go K mg T F μ H F1 μ1 g1 H1) : Open K mg D accV F1 μ1 H1 := by
  refine ⟨x.keep D _ o.at_ o.nm ntL, ?_, fun z => ?_⟩
  · cases q : F1 D with
    | none => rfl
    | some u =>
      rcases x.new D u q with z | z
      · rw [o.nf] at z; cases z
      · rw [o.at_] at z; cases z
  · rcases x.newμ D z with z | z
    · exact o.nm z
    · rw [o.at_] at z; cases z
theorem wipeS_own : ∀ {vs : List Nat} {S : Sl} {j : Nat} {xs : List D}, (wipeS S vs)[j]? = some (some (.own xs)) → S[j]? = some (some (.own xs)) ∧ j ∉ vs
  | [], S, j, xs, h => ⟨h, by simp⟩
  | v :: vs, S, j, xs, h => by
    unfold wipeS at h
    by_cases e : v = j
    · subst e
      have hl : v < (wipeS S vs).length := by
        have := (List.getElem?_eq_some_iff.mp h).1
        rwa [List.length_set] at this
      rw [List.getElem?_set_self hl] at h
      cases h
    · rw [List.getElem?_set_ne e] at h
      obtain ⟨h1, h2⟩ := wipeS_own h
      exact ⟨h1, by simp only [List.mem_cons, not_or]; exact ⟨fun z => e z.symm, h2⟩⟩
theorem wipe_out : ∀ {vs : List Nat} {σ : L2.St} {j : Nat}, j ∉ vs → (L2.wipe σ vs)[j]? = σ[j]? := by
  intro vs
  induction vs with
  | nil => intro σ j _; rfl
  | cons v vs ih =>
    intro σ j h
    simp only [List.mem_cons, not_or] at h
    first
      | (show (L2.wipe (σ.set v none) vs)[j]? = _; rw [ih h.2, List.getElem?_set_ne (fun z => h.1 z.symm)])
      | (show ((L2.wipe σ vs).set v none)[j]? = _; rw [List.getElem?_set_ne (fun z => h.1 z.symm), ih h.2])
theorem own_wipe {vs : List Nat} {a : Addr} (o : OwnAt (wipeS S vs) (L2.wipe σ vs) a) : OwnAt S σ a := by
  obtain ⟨j, xs, h1, h2⟩ := o
  obtain ⟨h3, h4⟩ := wipeS_own h1
  rw [wipe_out h4] at h2
  exact ⟨j, xs, h3, h2⟩
theorem RelS.upd_off {D : Addr} {o : HO} (r : RelS K mg T S σ F μ H) (h : ∀ a, OwnAt S σ a → a ≠ D) : RelS K mg T S σ F μ (upd H D o) where
  len := r.len
  dat := r.dat
  own := fun i xs q => by
    obtain ⟨a, vs, e1, e2, e3, e4, e5⟩ := r.own i xs q
    exact ⟨a, vs, e1, by rw [upd_ne (h a ⟨i, xs, q, e1⟩)]; exact e2, e3, e4, e5⟩
  apart := r.apart
  err := r.err
  thk := r.thk
theorem t_comp2 {mi mi1 : MI} {tg vs tg1 vs1 : List Nat} {mts mts1 : List ME} {me : ME} (hsub : ∀ j ∈ tg, j ∈ vs) (hsub1 : ∀ j ∈ tg1, j ∈ vs1) (σ : L2.St) (H : Hp) (Q : VK) (h : tE K mg T Φ E (.comp2 mi tg vs mts mi1 tg1 vs1 mts1 me) σ H Q) :
    tLc2 (tI K mg T Φ E mi) (tgG K tg) (tTs K mg T Φ EF mts) (tI K mg T Φ EF mi1) (tgG K tg1) (tTs K mg T Φ EF mts1) (tE K mg T Φ EF me) vs vs1 σ H Q := by
  obtain ⟨F, μ, g, S, hv, hr, h⟩ := h
  simp only [ev] at h
  refine ⟨F, μ, g, S, hv, hr, Aft.imp (Aft.bind (RP := RW K mg) h) fun J H1 ⟨l, F1, μ1, g1, y1, rw1, h1⟩ => ?_⟩
  intro D hD
  obtain ⟨hsz, hwalk⟩ := rw1
  let inner : Sl → List SH.D → G → Res (List SH.D) := fun S1 acc g => (evi Φ mi1 S1 g).bind fun l1 g => turnsA tg1 vs1 S1 (fun S g => evt Φ mts1 S g) (fun S g => ev Φ me S g) l1 acc g
  cases ht : turnsO tg vs S (fun S g => evt Φ mts S g) inner l [] g1 with
  | exc x g' => rw [show turnsO tg vs S (fun S g => evt Φ mts S g) (fun S1 acc g => (evi Φ mi1 S1 g).bind fun l1 g => turnsA tg1 vs1 S1 (fun S g => evt Φ mts1 S g) (fun S g => ev Φ me S g) l1 acc g) l [] g1 = _ from ht] at h1; exact h1.elim
  | bad => rw [show turnsO tg vs S (fun S g => evt Φ mts S g) (fun S1 acc g => (evi Φ mi1 S1 g).bind fun l1 g => turnsA tg1 vs1 S1 (fun S g => evt Φ mts1 S g) (fun S g => ev Φ me S g) l1 acc g) l [] g1 = _ from ht] at h1; exact h1.elim
  | ok LL gL =>
    rw [show turnsO tg vs S (fun S g => evt Φ mts S g) (fun S1 acc g => (evi Φ mi1 S1 g).bind fun l1 g => turnsA tg1 vs1 S1 (fun S g => evt Φ mts1 S g) (fun S g => ev Φ me S g) l1 acc g) l [] g1 = _ from ht] at h1
    have h1 : Aft K mg T (RD K mg) (.ok (.lst LL.reverse) gL) F1 μ1 H1 Q (E σ) := h1
    obtain ⟨g0, fD, mD⟩ := y1.view.lone (o := .lst []) hD ntL
    let Pv : Nat → Hp → Prop := fun i H' => ∃ F' μ' g' acc accV, Go K mg T F1 μ1 H1 F' μ' g' H' ∧ Open K mg D accV F' μ' H' ∧ Reps K mg μ' F' accV acc.reverse ∧
      turnsO tg vs S (fun S g => evt Φ mts S g) inner (l.drop i) acc g' = .ok LL gL
    refine ⟨fun i m H' => m = l.length - i ∧ i ≤ l.length ∧ Pv i H', ⟨_, rfl, Nat.zero_le _, F1, μ1, g1, [], [], g0, ⟨upd_same, fD, mD⟩, .nil, by rw [List.drop_zero]; exact ht⟩, ?_⟩
    rintro i m H' ⟨rfl, hil, F', μ', g', acc, accV, gg, op, racc, htr⟩
    have sm : Same F1 H' := gg.ff.trans gg.view.le
    by_cases hi : i < l.length
    rotate_left
    · have hie : i = l.length := by omega
      subst hie
      refine .inl ⟨(hwalk H' sm).2.1, ?_⟩
      rw [List.drop_length] at htr
      simp only [turnsO] at htr
      cases htr
      have gf := Go.freeze gg hD op.at_ op.nf op.nm
      exact h1 (.ref D) _ μ' H' gf (.lst upd_same (racc.mono (fun a u q => by rw [upd_ne (ne_of_none q op.nf)]; exact q) (Pre.refl _)))
    · refine .inr ⟨(hwalk H' sm).1 i hi, fun H'' => Pv (i + 1) H'', fun H'' q => ⟨_, by omega, rfl, by omega, q⟩, fun x H2 yl => ?_⟩
      have yd := (hwalk H' sm).2.2 i l[i] x H2 (by simp) yl
      rw [List.drop_eq_getElem_cons hi] at htr
      simp only [turnsO] at htr
      have yd' : YD K mg μ' F' H' x H2 l[i] := by
        rcases yd with ⟨e, r⟩ | ⟨t, vs', ds', e1, e2, e3, e4, r⟩
        · exact .inl ⟨e, r.mono gg.ff gg.pre⟩
        · exact .inr ⟨t, vs', ds', e1, e2, e3, e4, r.mono gg.ff gg.pre⟩
      obtain ⟨F2, go2, rx⟩ := YD.go gg.view yd'
      have hr2 : RelS K mg T S σ F2 μ' H2 := ((hr.go y1).go gg).go go2
      have op2 := op.go go2
      cases hp : putTg tg l[i] (wipeS S vs) with
      | none => rw [hp] at htr; cases htr
      | some S1 =>
        rw [hp] at htr
        simp only at htr
        refine tgG_of (hr2.wipe vs) go2.view.le rx hp fun σ2 hr3 hne hl2 => ⟨wipe_back hsub hne hl2, ?_⟩
        have apartD : ∀ a, OwnAt S1 σ2 a → a ≠ D := fun a o e => by
          obtain ⟨j, xs, q1, q2⟩ := own_wipe (own_putTg hp hne o)
          obtain ⟨b, vs', q3, q4, _⟩ := hr.own j xs q1
          rw [q2] at q3
          cases q3
          rw [e, y1.free hD] at q4
          cases q4
        cases het : evt Φ mts S1 g' with
        | exc x g'' => rw [het] at htr; cases htr
        | bad => rw [het] at htr; cases htr
        | ok b g3 =>
          rw [het] at htr
          refine ⟨F2, μ', g', S1, go2.view, hr3, ?_⟩
          rw [het]
          intro b' F3 μ3 H3 go3 eb
          have eb' : b' = b := eb
          subst eb'
          have op3 := op2.go go3
          have ga := (gg.trans go2).trans go3
          have racc3 := racc.mono (go2.ff.trans go3.ff) (go2.pre.trans go3.pre)
          cases b' with
          | false => exact ⟨F3, μ3, g3, acc, accV, ga, op3, racc3, htr⟩
          | true =>
            simp only [if_true]
            simp only at htr
            cases hin : inner S1 acc g3 with
            | exc x g'' => rw [hin] at htr; cases htr
            | bad => rw [hin] at htr; cases htr
            | ok acc' g4 =>
              rw [hin] at htr
              have hr4 := hr3.go go3
              have hin : (evi Φ mi1 S1 g3).bind (fun l1 g => turnsA tg1 vs1 S1 (fun S g => evt Φ mts1 S g) (fun S g => ev Φ me S g) l1 acc g) = .ok acc' g4 := hin
              refine ⟨F3, μ3, g3, S1, go3.view, hr4, ?_⟩
              cases hei : evi Φ mi1 S1 g3 with
              | exc x g'' => rw [hei] at hin; cases hin
              | bad => rw [hei] at hin; cases hin
              | ok l1 g5 =>
                rw [hei] at hin
                have hin : turnsA tg1 vs1 S1 (fun S g => evt Φ mts1 S g) (fun S g => ev Φ me S g) l1 acc g5 = .ok acc' g4 := hin
                intro J1 F4 μ4 H4 go4 rw4
                obtain ⟨hsz1, hwalk1⟩ := rw4
                have op4 := op3.go go4
                have hr5 := hr4.go go4
                let Pw : Nat → Hp → Prop := fun j H' => ∃ F' μ' g' acc2 accV2, Go K mg T F4 μ4 H4 F' μ' g' H' ∧ Go K mg T F1 μ1 H1 F' μ' g' H' ∧ Open K mg D accV2 F' μ' H' ∧ Reps K mg μ' F' accV2 acc2.reverse ∧
                  turnsA tg1 vs1 S1 (fun S g => evt Φ mts1 S g) (fun S g => ev Φ me S g) (l1.drop j) acc2 g' = .ok acc' g4
                refine ⟨fun j k H' => k = l1.length - j ∧ j ≤ l1.length ∧ ∃ F' μ' g' acc2 accV2, RelS K mg T S1 σ2 F' μ' H' ∧ Same F4 F' ∧ Pre μ4 μ' ∧ Go K mg T F1 μ1 H1 F' μ' g' H' ∧ Open K mg D accV2 F' μ' H' ∧ Reps K mg μ' F' accV2 acc2.reverse ∧
                  turnsA tg1 vs1 S1 (fun S g => evt Φ mts1 S g) (fun S g => ev Φ me S g) (l1.drop j) acc2 g' = .ok acc' g4, ⟨_, rfl, Nat.zero_le _, F4, μ4, g5, acc, accV, hr5, Same.refl _, Pre.refl _, ga.trans go4, op4, racc3.mono go4.ff go4.pre, by rw [List.drop_zero]; exact hin⟩, ?_⟩
                rintro j k H5 ⟨rfl, hjl, F5, μ5, g6, acc2, accV2, hr6, sF, sM, gg5, op5, racc5, htr1⟩
                have sm1 : Same F4 H5 := sF.trans gg5.view.le
                by_cases hj : j < l1.length
                rotate_left
                · have hje : j = l1.length := by omega
                  subst hje
                  refine .inl ⟨(hwalk1 H5 sm1).2.1, ?_⟩
                  rw [List.drop_length] at htr1
                  simp only [turnsA] at htr1
                  cases htr1
                  exact ⟨F5, μ5, g4, acc', accV2, gg5, op5, racc5, htr⟩
                · refine .inr ⟨(hwalk1 H5 sm1).1 j hj, fun H'' => ∃ F' μ' g' acc2 accV2, RelS K mg T S1 σ2 F' μ' H'' ∧ Same F4 F' ∧ Pre μ4 μ' ∧ Go K mg T F1 μ1 H1 F' μ' g' H'' ∧ Open K mg D accV2 F' μ' H'' ∧ Reps K mg μ' F' accV2 acc2.reverse ∧
                    turnsA tg1 vs1 S1 (fun S g => evt Φ mts1 S g) (fun S g => ev Φ me S g) (l1.drop (j + 1)) acc2 g' = .ok acc' g4, fun H'' q => ⟨_, by omega, rfl, by omega, q⟩, fun x1 H6 yl1 => ?_⟩
                  have yd1 := (hwalk1 H5 sm1).2.2 j l1[j] x1 H6 (by simp) yl1
                  rw [List.drop_eq_getElem_cons hj] at htr1
                  simp only [turnsA] at htr1
                  have yd1' : YD K mg μ5 F5 H5 x1 H6 l1[j] := by
                    rcases yd1 with ⟨e, r⟩ | ⟨t, vs', ds', e1, e2, e3, e4, r⟩
                    · exact .inl ⟨e, r.mono sF sM⟩
                    · exact .inr ⟨t, vs', ds', e1, e2, e3, e4, r.mono sF sM⟩
                  obtain ⟨F6, go6, rx1⟩ := YD.go gg5.view yd1'
                  have hr7 := hr6.go go6
                  have op6 := op5.go go6
                  cases hp1 : putTg tg1 l1[j] (wipeS S1 vs1) with
                  | none => rw [hp1] at htr1; cases htr1
                  | some S3 =>
                    rw [hp1] at htr1
                    simp only at htr1
                    refine tgG_of (hr7.wipe vs1) go6.view.le rx1 hp1 fun σ3 hr8 hne1 hl3 => ⟨wipe_back hsub1 hne1 hl3, ?_⟩
                    cases het1 : evt Φ mts1 S3 g6 with
                    | exc x g'' => rw [het1] at htr1; cases htr1
                    | bad => rw [het1] at htr1; cases htr1
                    | ok b1 g7 =>
                      rw [het1] at htr1
                      refine ⟨F6, μ5, g6, S3, go6.view, hr8, ?_⟩
                      rw [het1]
                      intro b2 F7 μ7 H7 go7 eb1
                      have eb1' : b2 = b1 := eb1
                      subst eb1'
                      have op7 := op6.go go7
                      have gb := (gg5.trans go6).trans go7
                      have s7 := (sF.trans go6.ff).trans go7.ff
                      have m7 := (sM.trans go6.pre).trans go7.pre
                      cases b2 with
                      | false => exact ⟨F7, μ7, g7, acc2, accV2, hr7.go go7, s7, m7, gb, op7, racc5.mono (go6.ff.trans go7.ff) (go6.pre.trans go7.pre), htr1⟩
                      | true =>
                        simp only [if_true]
                        simp only at htr1
                        cases hee : ev Φ me S3 g7 with
                        | exc x g'' => simp only [hee] at htr1; cases htr1
                        | bad => simp only [hee] at htr1; cases htr1
                        | ok e g8 =>
                          simp only [hee] at htr1
                          cases hok : sizeOk (acc2.length + 1) with
                          | false => rw [hok] at htr1; cases htr1
                          | true =>
                            rw [hok] at htr1
                            simp only [if_true] at htr1
                            refine ⟨F7, μ7, g7, S3, go7.view, hr8.go go7, ?_⟩
                            rw [hee]
                            intro v F8 μ8 H8 go8 rv
                            have op8 := op7.go go8
                            have lacc : accV2.length = acc2.length := by rw [racc5.length, List.length_reverse]
                            have hle : acc2.length + 1 ≤ sizeLine := Nat.le_of_ble_eq_true hok
                            have gw := Go.grow (ws := accV2 ++ [v]) (gb.trans go8) hD op8.at_ op8.nf op8.nm
                            refine ⟨accV2, op8.at_, by omega, F8, μ8, g8, e :: acc2, accV2 ++ [v], ?_, s7.trans go8.ff, m7.trans go8.pre, gw, ⟨upd_same, op8.nf, op8.nm⟩, ?_, htr1⟩
                            · exact ((hr7.go go7).go go8).upd_off apartD
                            · rw [List.reverse_cons]
                              exact (racc5.mono ((go6.ff.trans go7.ff).trans go8.ff) ((go6.pre.trans go7.pre).trans go8.pre)).append (.cons rv .nil)
theorem se_comp2 {elt tg iter tg1 iter1 : Expr} {ifs ifs1 : List Expr} {scope : Scope} {own : List (Str × Nat)} {tgs tgs1 : List Nat} {mi mi1 : MI} {mts mts1 : List ME} {me : ME} {pos : Pos} (ok : CtxOk T Φ L N sc cs k E X) (hh : L.ev = none) (ht : L.thk = false)
    (hi : PI X tg iter (tI X.K X.mg T Φ E mi)) (hb : blkC N sc scope own = true) (htg : tgOk N (relS scope sc) (cellNames scope) tgs tg = true) (hsub : (tgs.all fun j => (own.map (·.2)).contains j) = true) (htg1 : tgOk N (relS scope sc) (cellNames scope) tgs1 tg1 = true) (hsub1 : (tgs1.all fun j => (own.map (·.2)).contains j) = true) (hset : notSet iter = true) (hset1 : notSet iter1 = true)
    (hts : ∀ X', CtxOk T Φ L N (relS scope sc) (cellNames scope) k EF X' → PTs X' ifs (tTs X'.K X'.mg T Φ EF mts)) (hi1 : ∀ X', CtxOk T Φ L N (relS scope sc) (cellNames scope) k EF X' → PI X' tg1 iter1 (tI X'.K X'.mg T Φ EF mi1)) (hts1 : ∀ X', CtxOk T Φ L N (relS scope sc) (cellNames scope) k EF X' → PTs X' ifs1 (tTs X'.K X'.mg T Φ EF mts1)) (hel : ∀ X', CtxOk T Φ L N (relS scope sc) (cellNames scope) k EF X' → PE X' elt (tE X'.K X'.mg T Φ EF me)) :
    PE X (.ListComp elt [⟨tg, iter, ifs, 0⟩, ⟨tg1, iter1, ifs1, 0⟩] scope pos) (tE X.K X.mg T Φ E (.comp2 mi tgs (own.map (·.2)) mts mi1 tgs1 tgs1 mts1 me)) := by
  have bo : BlkOk X.N X.env.scope scope own := blkOk_by (by rw [ok.hN, ok.hsc]; exact hb)
  have c := fun (s : Shared) (H : Hp) (C : Addr) (cl : List (Str × Addr)) (fp : List Addr) => ok.blk hh ht (scope := scope) (own := own) s H C cl fp
  have sub : ∀ j ∈ tgs, j ∈ own.map (·.2) := fun j hj => by
    have := List.all_eq_true.mp hsub j hj
    simpa using this
  have sub1 : ∀ j ∈ tgs1, j ∈ own.map (·.2) := fun j hj => by
    have := List.all_eq_true.mp hsub1 j hj
    simpa using this
  refine PE.mono (pe_lc2 (te := tE X.K X.mg T Φ EF me) (tt := tTs X.K X.mg T Φ EF mts) (tt1 := tTs X.K X.mg T Φ EF mts1) (wi1 := tI X.K X.mg T Φ EF mi1) (g := tgG X.K tgs) (g1 := tgG X.K tgs1) (vs1 := tgs1) (ok.calm hh) (by rw [ok.hN]; exact ok.nd) hi bo sub1 (fun s H C cl fp => pg_tg (c s H C cl fp).hN ok.nd (c s H C cl fp).hsc (c s H C cl fp).st (ok.calm hh) htg) (fun s H C cl fp => hts _ (c s H C cl fp)) (fun s H C cl fp => hi1 _ (c s H C cl fp)) (fun s H C cl fp => pg_tg (c s H C cl fp).hN ok.nd (c s H C cl fp).hsc (c s H C cl fp).st (ok.calm hh) htg1) (fun s H C cl fp => hts1 _ (c s H C cl fp)) (fun s H C cl fp => hel _ (c s H C cl fp)) (folded_of hset) (fun env x => folded_of hset1 x)) fun σ H Q h => ?_
  exact t_comp2 sub (fun j hj => hj) σ H Q h
theorem ss_setC2 {y : Str} {py spos cpos : Pos} {i : Nat} {elt tg iter tg1 iter1 : Expr} {ifs ifs1 : List Expr} {scope : Scope} {own : List (Str × Nat)} {tgs tgs1 : List Nat} {mi mi1 : MI} {mts mts1 : List ME} {me : ME} (ok : CtxOk T Φ L N sc cs k E X) (hh : L.ev = none) (ht : L.thk = false) (hk : sc.kind = .function) (hy : tgOk N sc cs [i] (.Name y py) = true)
    (hi : PI X tg iter (tI X.K X.mg T Φ E mi)) (hb : blkC N sc scope own = true) (htg : tgOk N (relS scope sc) (cellNames scope) tgs tg = true) (hsub : (tgs.all fun j => (own.map (·.2)).contains j) = true) (htg1 : tgOk N (relS scope sc) (cellNames scope) tgs1 tg1 = true) (hsub1 : (tgs1.all fun j => (own.map (·.2)).contains j) = true) (hset : notSet iter = true) (hset1 : notSet iter1 = true)
    (hts : ∀ X', CtxOk T Φ L N (relS scope sc) (cellNames scope) k EF X' → PTs X' ifs (tTs X'.K X'.mg T Φ EF mts)) (hi1 : ∀ X', CtxOk T Φ L N (relS scope sc) (cellNames scope) k EF X' → PI X' tg1 iter1 (tI X'.K X'.mg T Φ EF mi1)) (hts1 : ∀ X', CtxOk T Φ L N (relS scope sc) (cellNames scope) k EF X' → PTs X' ifs1 (tTs X'.K X'.mg T Φ EF mts1)) (hel : ∀ X', CtxOk T Φ L N (relS scope sc) (cellNames scope) k EF X' → PE X' elt (tE X'.K X'.mg T Φ EF me)) :
    PS X (.Assign [.Name y py] (.ListComp elt [⟨tg, iter, ifs, 0⟩, ⟨tg1, iter1, ifs1, 0⟩] scope cpos) spos) (tM X.K X.mg T Φ E (.set [i] (.comp2 mi tgs (own.map (·.2)) mts mi1 tgs1 tgs1 mts1 me))) := by
  have sw := swaps_comp (X := X) (elt := elt) (gens := [⟨tg, iter, ifs, 0⟩, ⟨tg1, iter1, ifs1, 0⟩]) (scope := scope) (cpos := cpos) (t := y) (p := py) (l := spos.line) ok.hsc hk
  have bo : BlkOk X.N X.env.scope scope own := blkOk_by (by rw [ok.hN, ok.hsc]; exact hb)
  have c := fun (s : Shared) (H : Hp) (C : Addr) (cl : List (Str × Addr)) (fp : List Addr) => ok.blk hh ht (scope := scope) (own := own) s H C cl fp
  have sub : ∀ j ∈ tgs, j ∈ own.map (·.2) := fun j hj => by
    have := List.all_eq_true.mp hsub j hj
    simpa using this
  have sub1 : ∀ j ∈ tgs1, j ∈ own.map (·.2) := fun j hj => by
    have := List.all_eq_true.mp hsub1 j hj
    simpa using this
  cases hp : putOff sc y py.line cpos.line scope with
  | false =>
    rw [hp] at sw
    exact PS.mono (ps_asg (se_comp2 ok hh ht hi hb htg hsub htg1 hsub1 hset hset1 hts hi1 hts1 hel) (pg_nm ok hy) sw stores_name rfl) fun D σ H h => t_set D σ H h
  | true =>
    rw [hp] at sw
    have hl : sc.names.lookup y = some .local := by
      unfold putOff at hp
      simp only [Bool.and_eq_true, beq_iff_eq] at hp
      exact hp.1.1.2
    have hN : N[i]? = some y := by
      unfold tgOk at hy
      simp only [Bool.and_eq_true] at hy
      obtain ⟨x, p, e, h1, _⟩ := tgNames_cons hy.2
      cases e
      exact h1
    have base := ps_setLc2 (te := tE X.K X.mg T Φ EF me) (tt := tTs X.K X.mg T Φ EF mts) (tt1 := tTs X.K X.mg T Φ EF mts1) (wi1 := tI X.K X.mg T Φ EF mi1) (g := tgG X.K tgs) (g1 := tgG X.K tgs1) (vs1 := tgs1) (py := py) (spos := spos) (i := i) (y := y) (ok.calm hh) (by rw [ok.hN]; exact ok.nd) (by rw [ok.hN]; exact hN) (by rw [ok.hsc]; exact hl) sw hi bo sub1 (fun s H C cl fp => pg_tg (c s H C cl fp).hN ok.nd (c s H C cl fp).hsc (c s H C cl fp).st (ok.calm hh) htg) (fun s H C cl fp => hts _ (c s H C cl fp)) (fun s H C cl fp => hi1 _ (c s H C cl fp)) (fun s H C cl fp => pg_tg (c s H C cl fp).hN ok.nd (c s H C cl fp).hsc (c s H C cl fp).st (ok.calm hh) htg1) (fun s H C cl fp => hts1 _ (c s H C cl fp)) (fun s H C cl fp => hel _ (c s H C cl fp)) (folded_of hset) (fun env x => folded_of hset1 x)
    refine ⟨fun pins s σ H D I h => base.run pins s σ H D I ?_⟩
    have h' := t_set D σ H h
    exact t_comp2 sub (fun j hj => hj) σ H _ h'
end
end SH

set_option Elab.async false
set_option linter.all false
set_option autoImplicit false
set_option maxRecDepth 100000
set_option maxHeartbeats 4000000
/-! list(zip(a, b)), at the library's level -/
namespace PySem
open Sem (wp)
/-- a zip whose first tuple is still held -/
abbrev IsZipB (h : Heap) (z TI TO : Addr) (f0 : Value) (b : Bool) : Prop := h.get? z = some { cls := .type "zip", data := .fields #[f0, .bool b, .bool false, .ref TI, .ref TO] }
section
variable {prog : Program} {w : World} {A : Around} {E : Value → Shared → Prop} {s : Shared} {z TI TO i1 i2 T : Addr} {fp1 fp2 : List Addr} {n1 n2 i : Nat} {P1 P2 : Nat → Value → Prop} {St1 St2 : Nat → Heap → Prop} {b : Bool} {oT : Obj}
theorem zipH_free {Q : Bool → Shared → Prop} (hz : IsZipB s.heap z TI TO (rawInt T) b) (hT : s.heap.get? T = some oT) (hQ : ∀ h', IsZipB h' z TI TO (rawInt T) true → Heap.SameBut z s.heap h' → Q false { s with heap := h' }) (hQ' : b = true → Q false s) :
    wpAny (model prog w) A (Builtin.SmallTypes.ownedTupleIsFree (.ref z)) Q E s := by
  unfold Builtin.SmallTypes.ownedTupleIsFree
  refine wpAny_bind (wpAny_field hz rfl (x := rawInt T) rfl ?_)
  show wpAny _ _ (loadIfAlive ((T : Int)).toNat >>= _) _ _ _
  rw [Int.toNat_natCast]
  refine wpAny_bind (PySem.W.kdx_alive hT ?_)
  simp only [Option.isNone_some, Bool.false_eq_true, if_false]
  refine wpAny_bind (wpAny_field hz rfl (x := .bool b) rfl ?_)
  cases b with
  | true => exact wpAny_pure (hQ' rfl)
  | false =>
    refine wpAny_bind (wpAny_setField_rec hz (by simp) fun h' hz' hs' => wpAny_pure ?_)
    exact hQ h' hz' hs'
/-- both are drawn, the pair is new -/
theorem zipH_draw {body : Value → Option Fin × Array Value → Sem (ForInStep (Option Fin × Array Value))} {fn : Option Fin × Array Value → Sem Fin} {Q : Value → Shared → Prop}
    (hb : ∀ (it : Value) (acc : Array Value) (R : ForInStep (Option Fin × Array Value) → Shared → Prop) (s' : Shared), wpAny (model prog w) A (Builtin.SmallTypes.nextOf it) (fun x s'' => R (.yield (none, acc.push x)) s'') E s' → wpAny (model prog w) A (body it (none, acc)) R E s')
    (hf : ∀ acc, fn (none, acc) = (newTuple acc.toList >>= fun t => ret t))
    (S : ZipSep2 z TI TO i1 i2 fp1 fp2) (D1 : Draws prog w A i1 fp1 n1 P1 St1) (D2 : Draws prog w A i2 fp2 n2 P2 St2) (st1 : St1 i s.heap) (st2 : St2 i s.heap) (hlt1 : i < n1) (hlt2 : i < n2)
    (hQ : ∀ x1 x2 h' tk, P1 i x1 → P2 i x2 → St1 (i + 1) h' → St2 (i + 1) h' → IsTupOf2 h' s.heap.objs.size x1 x2 → h'.objs.size = s.heap.objs.size + 1 →
      (∀ c o, c ≠ i1 → c ≠ i2 → s.heap.get? c = some o → h'.get? c = some o) → Q (.ref s.heap.objs.size) { s with heap := h', toks := tk }) :
    wpAny (model prog w) A (forIn #[Value.ref i1, Value.ref i2] ((none : Option Fin), (#[] : Array Value)) body)
      (fun a s' => wpAny (model prog w) A (fn a) (fun fin s' => ∃ v, fin = Fin.done (Flow.ret v) ∧ Q v s') E s') E s := by
  obtain ⟨hp, g, d, tk0, os⟩ := s
  rw [show (#[Value.ref i1, Value.ref i2] : Array Value) = [Value.ref i1, Value.ref i2].toArray from rfl, List.forIn_toArray, List.forIn_cons]
  refine wpAny_bind (hb _ _ _ _ (D1.item i _ _ _ hlt1 st1 fun x1 p1 tk1 hx1 sn1 hp1 => ?_))
  replace hp1 : Heap.SameBut i1 hp p1 := hp1
  simp only
  rw [List.forIn_cons]
  refine wpAny_bind (hb _ _ _ _ (D2.item i ⟨p1, g, d, tk1, os⟩ _ _ hlt2 (D2.over st2 hp1 S.sep1_2) fun x2 p2 tk2 hx2 sn2 hp2 => ?_))
  replace hp2 : Heap.SameBut i2 p1 p2 := hp2
  simp only
  rw [List.forIn_nil]
  refine wpAny_pure ?_
  rw [hf]
  refine wpAny_bind (wpAny_newTuple (hsz := by show 2 ≤ sizeLine; decide) ?_)
  have hsz : p2.objs.size = hp.objs.size := by rw [hp2.1, hp1.1]
  refine wpAny_pure ⟨_, rfl, ?_⟩
  show Q (.ref p2.objs.size) ⟨p2.push { cls := .type "tuple", data := .seq #[x1, x2] }, g, d, tk2, os⟩
  rw [hsz]
  refine hQ x1 x2 _ tk2 hx1 hx2 (D1.frame _ _ _ (D1.over sn1 hp2 S.sep2_1) fun b hb o e => Heap.get?_push_of_some _ e) (D2.frame _ _ _ sn2 fun b hb o e => Heap.get?_push_of_some _ e) ?_ (by rw [Heap.size_push, hsz]) fun c o c1 c2 e => Heap.get?_push_of_some _ (hp2.extBut _ _ c2 (hp1.extBut _ _ c1 e))
  have : IsTupOf2 (p2.push { cls := .type "tuple", data := .seq #[x1, x2] }) p2.objs.size x1 x2 := Heap.get?_push_size _ rfl
  rw [hsz] at this
  exact this
/-- one of them has come to its end -/
theorem zipH_over {body : Value → Option Fin × Array Value → Sem (ForInStep (Option Fin × Array Value))} {R : Option Fin × Array Value → Shared → Prop}
    (hb : ∀ (it : Value) (acc : Array Value) (R : ForInStep (Option Fin × Array Value) → Shared → Prop) (s' : Shared), wpAny (model prog w) A (Builtin.SmallTypes.nextOf it) (fun x s'' => R (.yield (none, acc.push x)) s'') E s' → wpAny (model prog w) A (body it (none, acc)) R E s')
    (S : ZipSep2 z TI TO i1 i2 fp1 fp2) (D1 : Draws prog w A i1 fp1 n1 P1 St1) (D2 : Draws prog w A i2 fp2 n2 P2 St2) (st1 : St1 i s.heap) (st2 : St2 i s.heap) (hle1 : i ≤ n1) (hle2 : i ≤ n2) (hend : i = n1 ∨ i = n2)
    (hE : ∀ h' tk e, (∀ c o, c ≠ i1 → c ≠ i2 → s.heap.get? c = some o → h'.get? c = some o) → (∃ o, h'.get? e = some o ∧ o.cls = .type "StopIteration") → E (.ref e) { s with heap := h', toks := tk }) :
    wpAny (model prog w) A (forIn #[Value.ref i1, Value.ref i2] ((none : Option Fin), (#[] : Array Value)) body) R E s := by
  obtain ⟨hp, g, d, tk0, os⟩ := s
  rw [show (#[Value.ref i1, Value.ref i2] : Array Value) = [Value.ref i1, Value.ref i2].toArray from rfl, List.forIn_toArray, List.forIn_cons]
  by_cases h1 : i < n1
  · refine wpAny_bind (hb _ _ _ _ (D1.item i _ _ _ h1 st1 fun x1 p1 tk1 hx1 sn1 hp1 => ?_))
    replace hp1 : Heap.SameBut i1 hp p1 := hp1
    have h2 : i = n2 := by omega
    simp only
    rw [List.forIn_cons]
    refine wpAny_bind (hb _ _ _ _ (D2.done ⟨p1, g, d, tk1, os⟩ _ _ (by rw [← h2]; exact D2.over st2 hp1 S.sep1_2) fun q e hq he => ?_))
    exact hE q tk1 e (fun c o c1 c2 x => hq _ _ c2 (hp1.extBut _ _ c1 x)) he
  · have h2 : i = n1 := by omega
    refine wpAny_bind (hb _ _ _ _ (D1.done ⟨hp, g, d, tk0, os⟩ _ _ (by rw [← h2]; exact st1) fun q e hq he => ?_))
    exact hE q tk0 e (fun c o c1 c2 x => hq _ _ c1 x) he
theorem zipH_next_item {Q : Value → Shared → Prop} (S : ZipSep2 z TI TO i1 i2 fp1 fp2) (D1 : Draws prog w A i1 fp1 n1 P1 St1) (D2 : Draws prog w A i2 fp2 n2 P2 St2)
    (hz : IsZipB s.heap z TI TO (rawInt T) b) (hT : s.heap.get? T = some oT) (hTI : IsTupOf2 s.heap TI (.ref i1) (.ref i2)) (st1 : St1 i s.heap) (st2 : St2 i s.heap) (hlt1 : i < n1) (hlt2 : i < n2)
    (hQ : ∀ x1 x2 h' tk, P1 i x1 → P2 i x2 → IsZipB h' z TI TO (rawInt T) true → St1 (i + 1) h' → St2 (i + 1) h' → IsTupOf2 h' s.heap.objs.size x1 x2 → h'.objs.size = s.heap.objs.size + 1 →
      (∀ c o, c ≠ z → c ≠ i1 → c ≠ i2 → s.heap.get? c = some o → h'.get? c = some o) → Q (.ref s.heap.objs.size) { s with heap := h', toks := tk }) :
    wpAny (model prog w) A (Builtin.«zip.__next__» ⟨[.ref z], []⟩) (fun fin s' => ∃ v, fin = .done (.ret v) ∧ Q v s') E s := by
  obtain ⟨hp, g, d, tk0, os⟩ := s
  show wpAny _ _ (field (.ref z) 2 >>= _) _ _ _
  refine wpAny_bind (wpAny_field hz rfl (x := .bool false) rfl ?_)
  show wpAny _ _ (field (.ref z) 3 >>= _) _ _ _
  refine wpAny_bind (wpAny_field hz rfl (x := .ref TI) rfl ?_)
  refine wpAny_bind (wpAny_seqItems hTI rfl ?_)
  show wpAny _ _ (Builtin.SmallTypes.ownedTupleIsFree (.ref z) >>= _) _ _ _
  refine wpAny_bind (zipH_free hz hT (fun g0 hz0 hs0 => ?_) fun hb => ?_)
  · simp only [Bool.false_eq_true, if_false]
    replace hs0 : Heap.SameBut z hp g0 := hs0
    have hsz : g0.objs.size = hp.objs.size := hs0.1
    refine wpAny_bind ?_
    refine zipH_draw (s := ⟨g0, g, d, tk0, os⟩) (Q := Q) (fun it acc R s' h => wpAny_bind (wpAny_holding (wpAny_bind (wpAny_mono h (fun x s'' q => wpAny_pure (wpAny_pure q)) fun _ _ x => x)))) (fun _ => rfl) S D1 D2 (D1.over st1 hs0 S.zf1) (D2.over st2 hs0 S.zf2) hlt1 hlt2 fun x1 x2 h' tk y1 y2 s1 s2 t1 t2 t3 => ?_
    dsimp only at t1 t2 t3 ⊢
    rw [hsz] at t1 t2 ⊢
    exact hQ x1 x2 h' tk y1 y2 (t3 _ _ S.zi1 S.zi2 hz0) s1 s2 t1 t2 fun c o cz c1 c2 e => t3 c o c1 c2 (hs0.extBut _ _ cz e)
  · subst hb
    simp only [Bool.false_eq_true, if_false]
    refine wpAny_bind ?_
    refine zipH_draw (s := ⟨hp, g, d, tk0, os⟩) (Q := Q) (fun it acc R s' h => wpAny_bind (wpAny_holding (wpAny_bind (wpAny_mono h (fun x s'' q => wpAny_pure (wpAny_pure q)) fun _ _ x => x)))) (fun _ => rfl) S D1 D2 st1 st2 hlt1 hlt2 fun x1 x2 h' tk y1 y2 s1 s2 t1 t2 t3 => ?_
    exact hQ x1 x2 h' tk y1 y2 (t3 _ _ S.zi1 S.zi2 hz) s1 s2 t1 t2 fun c o cz c1 c2 e => t3 c o c1 c2 e
theorem zipH_next_end {Q : Fin → Shared → Prop} (S : ZipSep2 z TI TO i1 i2 fp1 fp2) (D1 : Draws prog w A i1 fp1 n1 P1 St1) (D2 : Draws prog w A i2 fp2 n2 P2 St2)
    (hz : IsZipB s.heap z TI TO (rawInt T) b) (hT : s.heap.get? T = some oT) (hTI : IsTupOf2 s.heap TI (.ref i1) (.ref i2)) (st1 : St1 i s.heap) (st2 : St2 i s.heap) (hle1 : i ≤ n1) (hle2 : i ≤ n2) (hend : i = n1 ∨ i = n2)
    (hE : ∀ h' tk e, (∀ c o, c ≠ z → c ≠ i1 → c ≠ i2 → s.heap.get? c = some o → h'.get? c = some o) → (∃ o, h'.get? e = some o ∧ o.cls = .type "StopIteration") → E (.ref e) { s with heap := h', toks := tk }) :
    wpAny (model prog w) A (Builtin.«zip.__next__» ⟨[.ref z], []⟩) Q E s := by
  obtain ⟨hp, g, d, tk0, os⟩ := s
  show wpAny _ _ (field (.ref z) 2 >>= _) _ _ _
  refine wpAny_bind (wpAny_field hz rfl (x := .bool false) rfl ?_)
  show wpAny _ _ (field (.ref z) 3 >>= _) _ _ _
  refine wpAny_bind (wpAny_field hz rfl (x := .ref TI) rfl ?_)
  refine wpAny_bind (wpAny_seqItems hTI rfl ?_)
  show wpAny _ _ (Builtin.SmallTypes.ownedTupleIsFree (.ref z) >>= _) _ _ _
  refine wpAny_bind (zipH_free hz hT (fun g0 hz0 hs0 => ?_) fun hb => ?_)
  · simp only [Bool.false_eq_true, if_false]
    replace hs0 : Heap.SameBut z hp g0 := hs0
    refine wpAny_bind ?_
    exact zipH_over (s := ⟨g0, g, d, tk0, os⟩) (fun it acc R s' h => wpAny_bind (wpAny_holding (wpAny_bind (wpAny_mono h (fun x s'' q => wpAny_pure (wpAny_pure q)) fun _ _ x => x)))) S D1 D2 (D1.over st1 hs0 S.zf1) (D2.over st2 hs0 S.zf2) hle1 hle2 hend fun h' tk e hk he => hE h' tk e (fun c o cz c1 c2 x => hk c o c1 c2 (hs0.extBut _ _ cz x)) he
  · simp only [Bool.false_eq_true, if_false]
    refine wpAny_bind ?_
    exact zipH_over (s := ⟨hp, g, d, tk0, os⟩) (fun it acc R s' h => wpAny_bind (wpAny_holding (wpAny_bind (wpAny_mono h (fun x s'' q => wpAny_pure (wpAny_pure q)) fun _ _ x => x)))) S D1 D2 st1 st2 hle1 hle2 hend fun h' tk e hk he => hE h' tk e (fun c o cz c1 c2 x => hk c o c1 c2 x) he
/-! as next() asks -/
theorem pyNext_zipH_item {Q : Option Value → Shared → Prop} (S : ZipSep2 z TI TO i1 i2 fp1 fp2) (D1 : Draws prog w A.in1 i1 fp1 n1 P1 St1) (D2 : Draws prog w A.in1 i2 fp2 n2 P2 St2)
    (hz : IsZipB s.heap z TI TO (rawInt T) b) (hT : s.heap.get? T = some oT) (hTI : IsTupOf2 s.heap TI (.ref i1) (.ref i2)) (st1 : St1 i s.heap) (st2 : St2 i s.heap) (hlt1 : i < n1) (hlt2 : i < n2)
    (hQ : ∀ x1 x2 h' tk, P1 i x1 → P2 i x2 → IsZipB h' z TI TO (rawInt T) true → St1 (i + 1) h' → St2 (i + 1) h' → IsTupOf2 h' s.heap.objs.size x1 x2 → h'.objs.size = s.heap.objs.size + 1 →
      (∀ c o, c ≠ z → c ≠ i1 → c ≠ i2 → s.heap.get? c = some o → h'.get? c = some o) → Q (some (.ref s.heap.objs.size)) { s with heap := h', toks := tk }) :
    wpAny (model prog w) A (pyNext (.ref z)) Q E s := by
  have hT' : s.TypeIs (.ref z) "zip" := ⟨_, hz, rfl⟩
  unfold pyNext
  exact wpAny_bind (wpAny_attempt (wpAny_callSpecial?_slot (name := Str.ofString "__next__") hT' F.slot_zip_next
    (wpAny_call_entry F.slot_zip_next hT' F.entry_zip_next
      (zipH_next_item S D1 D2 hz hT hTI st1 st2 hlt1 hlt2 fun x1 x2 h' tk y1 y2 b1 d1 d2 b5 b6 b7 => wpAny_pure (hQ x1 x2 h' tk y1 y2 b1 d1 d2 b5 b6 b7)) (F.args_zip_next_1 _))))
theorem pyNext_zipH_end {Q : Option Value → Shared → Prop} (S : ZipSep2 z TI TO i1 i2 fp1 fp2) (D1 : Draws prog w A.in1 i1 fp1 n1 P1 St1) (D2 : Draws prog w A.in1 i2 fp2 n2 P2 St2)
    (hz : IsZipB s.heap z TI TO (rawInt T) b) (hT : s.heap.get? T = some oT) (hTI : IsTupOf2 s.heap TI (.ref i1) (.ref i2)) (st1 : St1 i s.heap) (st2 : St2 i s.heap) (hle1 : i ≤ n1) (hle2 : i ≤ n2) (hend : i = n1 ∨ i = n2)
    (hQ : ∀ h' tk, (∀ c o, c ≠ z → c ≠ i1 → c ≠ i2 → s.heap.get? c = some o → h'.get? c = some o) → Q none { s with heap := h', toks := tk }) : wpAny (model prog w) A (pyNext (.ref z)) Q E s := by
  have hT' : s.TypeIs (.ref z) "zip" := ⟨_, hz, rfl⟩
  unfold pyNext
  refine wpAny_bind (wpAny_attempt (wpAny_callSpecial?_slot (name := Str.ofString "__next__") hT' F.slot_zip_next
    (wpAny_call_entry F.slot_zip_next hT' F.entry_zip_next (zipH_next_end S D1 D2 hz hT hTI st1 st2 hle1 hle2 hend fun h' tk e hk he => ?_) (F.args_zip_next_1 _))))
  obtain ⟨o, ho, hc⟩ := he
  refine wpAny_bind (wpAny_isInstance (T := "StopIteration") (b := true) ⟨o, ho, hc⟩ isSubtype_stop ?_)
  exact wpAny_pure (hQ _ _ hk)
/-! ### the list -/
structure ZipG (P1 P2 : Nat → Value → Prop) (S : Addr) (h : Heap) (as : List Addr) : Prop where
  rise : as.Pairwise (· < ·)
  above : ∀ a ∈ as, S < a ∧ a < h.objs.size
  pairs : ∀ j a, as[j]? = some a → ∃ x1 x2, P1 j x1 ∧ P2 j x2 ∧ IsTupOf2 h a x1 x2
/-- the zip's own cell -/
def ZipC (z TI TO : Addr) (h : Heap) (as : List Addr) : Prop := (as = [] ∧ IsZip h z TI TO .none ∧ ∃ a1 a2, IsTupOf2 h TO a1 a2) ∨ ∃ T rest b, as = T :: rest ∧ IsZipB h z TI TO (rawInt T) b
theorem zl_loop {R : Result → Shared → Prop} {S : Addr} (hh : A.handled = none) (Sp : ZipSep2 z TI TO i1 i2 fp1 fp2) (D1 : Draws prog w A.in1.in1 i1 fp1 n1 P1 St1) (D2 : Draws prog w A.in1.in1 i2 fp2 n2 P2 St2) (hn : min n1 n2 ≤ sizeLine)
    (lz : z < S) (lTI : TI < S) (lTO : TO < S) (l1 : i1 < S) (l2 : i2 < S) (hS1 : S ∉ fp1) (hS2 : S ∉ fp2) (res : Value) {h₁ : Heap}
    (hR : ∀ h' tk acc c as, (∀ b o, b ≠ S → b ≠ z → b ≠ TO → b ≠ i1 → b ≠ i2 → h₁.get? b = some o → h'.get? b = some o) → h'.get? S = some { cls := .type "list", dict := none, data := .seq acc c, slots := #[] } → as.length = min n1 n2 → ZipG P1 P2 S h' as →
      acc.toList = as.map Value.ref → R (.ok (.ret res)) { s with heap := h', toks := tk }) :
    ∀ (k i : Nat) (h : Heap) (tk c : Nat) (acc : Array Value) (as : List Addr), min n1 n2 - i = k → i ≤ min n1 n2 → IsTupOf2 h TI (.ref i1) (.ref i2) → St1 i h → St2 i h → ZipC z TI TO h as →
      (∀ b o, b ≠ S → b ≠ z → b ≠ TO → b ≠ i1 → b ≠ i2 → h₁.get? b = some o → h.get? b = some o) →
      h.get? S = some { cls := .type "list", dict := none, data := .seq acc c, slots := #[] } → acc.toList = as.map Value.ref → as.length = i → ZipG P1 P2 S h as →
      codeAny (model prog w) A (.builtin "list.extend.loop" ⟨[.ref S, .ref z, res], []⟩) R { s with heap := h, toks := tk } := by
  have nz : ∀ {a : Addr}, S < a → a ≠ z ∧ a ≠ TO ∧ a ≠ i1 ∧ a ≠ i2 ∧ a ≠ S := fun {a} q => ⟨Nat.ne_of_gt (Nat.lt_trans lz q), Nat.ne_of_gt (Nat.lt_trans lTO q), Nat.ne_of_gt (Nat.lt_trans l1 q), Nat.ne_of_gt (Nat.lt_trans l2 q), Nat.ne_of_gt q⟩
  intro k
  induction k with
  | zero =>
    intro i h tk c acc as hk hi hTI st1 st2 hC hkeep hS hacc hal hG
    refine codeAny_builtin PySem.F.entry_extend_loop ?_
    rw [Around.under_plainId PySem.F.plain_extend_loop _]
    show wpAny _ A.in1 (pyNext (.ref z) >>= _) _ _ _
    have fin : ∀ h' tk', (∀ c o, c ≠ z → c ≠ TO → c ≠ i1 → c ≠ i2 → h.get? c = some o → h'.get? c = some o) → R (.ok (.ret res)) { s with heap := h', toks := tk' } := fun h' tk' he =>
      hR h' tk' acc c as (fun b o b0 b1 b2 b3 b4 e => he b o b1 b2 b3 b4 (hkeep b o b0 b1 b2 b3 b4 e)) (he S _ (Nat.ne_of_gt lz) (Nat.ne_of_gt lTO) (Nat.ne_of_gt l1) (Nat.ne_of_gt l2) hS) (by omega) ⟨hG.rise, fun a ha => by
        obtain ⟨q1, q2⟩ := hG.above a ha
        obtain ⟨j, hj⟩ := List.getElem?_of_mem ha
        obtain ⟨x1, x2, _, _, e3⟩ := hG.pairs j a hj
        obtain ⟨r1, r2, r3, r4, _⟩ := nz q1
        exact ⟨q1, Heap.lt_size (he a _ r1 r2 r3 r4 e3)⟩, fun j a hj => by
        obtain ⟨x1, x2, e1, e2, e3⟩ := hG.pairs j a hj
        obtain ⟨r1, r2, r3, r4, _⟩ := nz (hG.above a (List.mem_of_getElem? hj)).1
        exact ⟨x1, x2, e1, e2, he a _ r1 r2 r3 r4 e3⟩⟩ hacc
    rcases hC with ⟨_, hz, a1, a2, hTO⟩ | ⟨T, rest, b, e, hz⟩
    · exact wpAny_bind (wpAny_pyNext_zipD2_end (s := { s with heap := h, toks := tk }) Sp D1 D2 hz hTI hTO st1 st2 (by omega) (by omega) (by omega) fun h' tk' he => wpAny_pure (fin h' tk' he))
    · subst e
      obtain ⟨x1, x2, _, _, e3⟩ := hG.pairs 0 T rfl
      exact wpAny_bind (pyNext_zipH_end (s := { s with heap := h, toks := tk }) Sp D1 D2 hz e3 hTI st1 st2 (by omega) (by omega) (by omega) fun h' tk' he => wpAny_pure (fin h' tk' fun c o c1 _ c3 c4 x => he c o c1 c3 c4 x))
  | succ k ih =>
    intro i h tk c acc as hk hi hTI st1 st2 hC hkeep hS hacc hal hG
    have hlt1 : i < n1 := by omega
    have hlt2 : i < n2 := by omega
    have hsz : acc.size = i := by rw [← Array.length_toList, hacc, List.length_map, hal]
    have hSl : S < h.objs.size := Heap.lt_size hS
    refine codeAny_builtin PySem.F.entry_extend_loop ?_
    rw [Around.under_plainId PySem.F.plain_extend_loop _]
    show wpAny _ A.in1 (pyNext (.ref z) >>= _) _ _ _
    have go : ∀ x1 x2 h' tk', P1 i x1 → P2 i x2 → ZipC z TI TO h' (as ++ [h.objs.size]) → St1 (i + 1) h' → St2 (i + 1) h' → IsTupOf2 h' h.objs.size x1 x2 → h'.objs.size = h.objs.size + 1 →
        (∀ c o, c ≠ z → c ≠ TO → c ≠ i1 → c ≠ i2 → h.get? c = some o → h'.get? c = some o) →
        wpAny (model prog w) A.in1 (updateSeq S (·.push (Value.ref h.objs.size)) >>= fun _ => (pure (Fin.again (.builtin "list.extend.loop" ⟨[.ref S, .ref z, res], []⟩)) : Sem Fin))
          (fun fin s' => match fin with | .done f => R (.ok f) s' | .again c' => c'.quiet = true ∧ codeAny (model prog w) A c' R s') (fun e s' => R (.error e) s') { s with heap := h', toks := tk' } := by
      intro x1 x2 h' tk' y1 y2 hC' s1 s2 ht hsz' hkp
      have hS' := hkp S _ (Nat.ne_of_gt lz) (Nat.ne_of_gt lTO) (Nat.ne_of_gt l1) (Nat.ne_of_gt l2) hS
      have up : ∀ b o, b ≠ S → h'.get? b = some o → (h'.update S (Obj.mapSeq (·.push (Value.ref h.objs.size)))).get? b = some o := fun b o hb e => (Heap.get?_update_other _ _ (Ne.symm hb)).trans e
      have usz : (h'.update S (Obj.mapSeq (·.push (Value.ref h.objs.size)))).objs.size = h.objs.size + 1 := by rw [Heap.size_update]; exact hsz'
      refine wpAny_bind ?_
      refine wpAny_updateSeq hS' rfl (wpAny_pure ⟨plainId_quiet PySem.F.plain_extend_loop _, ih (i + 1) _ tk' _ (acc.push (Value.ref h.objs.size)) (as ++ [h.objs.size]) (by omega) (by omega) (up _ _ (Nat.ne_of_lt lTI) (hkp _ _ Sp.TIz Sp.TITO Sp.TIi1 Sp.TIi2 hTI))
        (D1.frame _ _ _ s1 fun b hb o e => up b o (fun q => hS1 (q ▸ hb)) e) (D2.frame _ _ _ s2 fun b hb o e => up b o (fun q => hS2 (q ▸ hb)) e) ?_ (fun b o b0 b1 b2 b3 b4 e => up b o b0 (hkp b o b1 b2 b3 b4 (hkeep b o b0 b1 b2 b3 b4 e)))
        (Heap.get?_update_self _ hS' rfl) (by rw [Array.toList_push, hacc, List.map_append]; rfl) (by rw [List.length_append, hal]; rfl) ⟨?_, ?_, ?_⟩⟩) (by rw [hsz]; omega) (by show (acc.push (Value.ref h.objs.size)).size ≤ sizeLine + 1; rw [Array.size_push, hsz]; omega)
      · rcases hC' with ⟨e, _⟩ | ⟨T, rest, b, e, hz⟩
        · exact absurd e (by simp)
        · exact .inr ⟨T, rest, b, e, up _ _ (Nat.ne_of_lt lz) hz⟩
      · refine List.pairwise_append.mpr ⟨hG.rise, List.pairwise_singleton _ _, fun a ha b hb => ?_⟩
        rw [List.mem_singleton.mp hb]
        exact (hG.above a ha).2
      · intro a ha
        rcases List.mem_append.mp ha with ha | ha
        · exact ⟨(hG.above a ha).1, by rw [usz]; exact Nat.lt_succ_of_lt (hG.above a ha).2⟩
        · rw [List.mem_singleton.mp ha]; exact ⟨hSl, by rw [usz]; exact Nat.lt_succ_self _⟩
      · intro j b hj
        rcases Nat.lt_trichotomy j as.length with h1 | h1 | h1
        · rw [List.getElem?_append_left h1] at hj
          obtain ⟨u1, u2, e1, e2, e3⟩ := hG.pairs j b hj
          obtain ⟨r1, r2, r3, r4, r5⟩ := nz (hG.above b (List.mem_of_getElem? hj)).1
          exact ⟨u1, u2, e1, e2, up b _ r5 (hkp b _ r1 r2 r3 r4 e3)⟩
        · subst h1
          have hb : h.objs.size = b := by simpa using hj
          subst hb
          exact ⟨x1, x2, by rw [hal]; exact y1, by rw [hal]; exact y2, up _ _ (Nat.ne_of_gt hSl) ht⟩
        · have hnone : (as ++ [h.objs.size])[j]? = none := List.getElem?_eq_none (by rw [List.length_append, List.length_singleton]; omega)
          rw [hnone] at hj; cases hj
    rcases hC with ⟨e, hz, a1, a2, hTO⟩ | ⟨T, rest, b, e, hz⟩
    · subst e
      exact wpAny_bind (wpAny_pyNext_zipD2_item (s := { s with heap := h, toks := tk }) Sp D1 D2 hz hTI hTO st1 st2 hlt1 hlt2 fun x1 x2 h' tk' y1 y2 b1 _ d1 d2 b5 b6 b7 => go x1 x2 h' tk' y1 y2 (.inr ⟨_, [], false, rfl, b1⟩) d1 d2 b5 b6 b7)
    · subst e
      obtain ⟨u1, u2, _, _, e3⟩ := hG.pairs 0 T rfl
      exact wpAny_bind (pyNext_zipH_item (s := { s with heap := h, toks := tk }) Sp D1 D2 hz e3 hTI st1 st2 hlt1 hlt2 fun x1 x2 h' tk' y1 y2 b1 d1 d2 b5 b6 b7 => go x1 x2 h' tk' y1 y2 (.inr ⟨T, rest ++ [h.objs.size], true, rfl, b1⟩) d1 d2 b5 b6 fun c o c1 _ c3 c4 x => b7 c o c1 c3 c4 x)
theorem zip_no_len : typeLookup (.type "zip") "__len__" = pure none := by rw [typeLookup_type, builtinLookup_eq_fast]; kernel_rfl
theorem zip_no_hint : typeLookup (.type "zip") "__length_hint__" = pure none := by rw [typeLookup_type, builtinLookup_eq_fast]; kernel_rfl
theorem zl_hint (hT : s.TypeIs (.ref z) "zip") {Q : Bool → Shared → Prop} (h : Q true s) : wpAny (model prog w) A (Builtin.List.listLengthHint (.ref z)) Q E s := by
  unfold Builtin.List.listLengthHint
  refine wpAny_bind (wpAny_specialOf hT zip_no_len ?_)
  show wpAny _ A (specialOf (Value.ref z) (Str.ofString "__length_hint__") >>= _) _ _ _
  refine wpAny_bind (wpAny_specialOf hT zip_no_hint ?_)
  exact wpAny_pure h
/-- what the zip's cells are at its start -/
structure ZipB (z TI TO i1 i2 : Addr) (St1 St2 : Nat → Heap → Prop) (h : Heap) : Prop where
  hz : IsZip h z TI TO .none
  hTI : IsTupOf2 h TI (.ref i1) (.ref i2)
  hTO : IsTupOf2 h TO .none .none
  s1 : St1 0 h
  s2 : St2 0 h
theorem zl_extend {R : Result → Shared → Prop} {S : Addr} (hh : A.handled = none) (Sp : ZipSep2 z TI TO i1 i2 fp1 fp2) (D1 : Draws prog w A.in1.in1 i1 fp1 n1 P1 St1) (D2 : Draws prog w A.in1.in1 i2 fp2 n2 P2 St2) (hn : min n1 n2 ≤ sizeLine)
    (self : ∀ (s : Shared) (Q : Value → Shared → Prop) (E : Value → Shared → Prop), IsZip s.heap z TI TO .none → Q (.ref z) s → wpAny (model prog w) A.in1 (pyIter (.ref z)) Q E s)
    (lz : z < S) (lTI : TI < S) (lTO : TO < S) (l1 : i1 < S) (l2 : i2 < S) (hS1 : S ∉ fp1) (hS2 : S ∉ fp2) (res : Value) (c₀ : Nat) (hB : ZipB z TI TO i1 i2 St1 St2 s.heap) (hS : s.heap.get? S = some { cls := .type "list", data := .seq #[] c₀ })
    (hR : ∀ h' tk acc c as, (∀ b o, b ≠ S → b ≠ z → b ≠ TO → b ≠ i1 → b ≠ i2 → s.heap.get? b = some o → h'.get? b = some o) → h'.get? S = some { cls := .type "list", dict := none, data := .seq acc c, slots := #[] } → as.length = min n1 n2 → ZipG P1 P2 S h' as →
      acc.toList = as.map Value.ref → R (.ok (.ret res)) { s with heap := h', toks := tk }) :
    wpAny (model prog w) A.in1 (Builtin.List.listExtendWith (.ref S) (.ref z) res)
      (fun fin s' => match fin with | .done f => R (.ok f) s' | .again c' => c'.quiet = true ∧ codeAny (model prog w) A c' R s') (fun e s' => R (.error e) s') s := by
  have hT : s.TypeIs (.ref z) "zip" := ⟨_, hB.hz, rfl⟩
  unfold Builtin.List.listExtendWith
  refine wpAny_bind (wpAny_typeOf (T := "zip") hT ?_)
  have h1 : Builtin.List.listSameRef (.ref S) (.ref z) = false := by simp [Builtin.List.listSameRef, Nat.ne_of_gt lz]
  have h2 : (Value.type "zip" == Value.type "list") = false := by decide
  have h3 : (Value.type "zip" == Value.type "tuple") = false := by decide
  simp only [h1, h2, h3, Bool.or_false, Bool.false_eq_true, if_false]
  refine wpAny_bind (self s _ _ hB.hz ?_)
  refine wpAny_bind (wpAny_holding (zl_hint hT ?_))
  show wpAny _ A.in1 (rule "list.extend.makes-room" >>= fun _ => Builtin.List.listTouch (.ref S) >>= fun _ =>
    again (.builtin "list.extend.loop" ⟨[.ref S, .ref z, res], []⟩)) _ _ _
  refine wpAny_bind (wpAny_rule ?_)
  refine wpAny_bind ?_
  show wpAny _ _ (updateSeq S (·.push .none) >>= fun _ => updateSeq S (·.pop)) _ _ _
  refine wpAny_bind (wpAny_updateSeq hS rfl ?_)
  have hS₂ := Heap.get?_update_self (Obj.mapSeq (·.push Value.none)) hS rfl
  refine wpAny_updateSeq (hz := by seq_fits) hS₂ rfl ?_
  have hS₃ := Heap.get?_update_self (Obj.mapSeq (·.pop)) hS₂ rfl
  have oth : ∀ b o, b ≠ S → s.heap.get? b = some o → ((s.heap.update S (Obj.mapSeq (·.push Value.none))).update S (Obj.mapSeq (·.pop))).get? b = some o :=
    fun b o hb e => (Heap.get?_update_other _ _ (Ne.symm hb)).trans ((Heap.get?_update_other _ _ (Ne.symm hb)).trans e)
  refine wpAny_pure ⟨plainId_quiet PySem.F.plain_extend_loop _, ?_⟩
  refine zl_loop (s := s) (h₁ := s.heap) hh Sp D1 D2 hn lz lTI lTO l1 l2 hS1 hS2 res hR (min n1 n2) 0 _ s.toks _ #[] [] (Nat.sub_zero _) (Nat.zero_le _) (oth _ _ (Nat.ne_of_lt lTI) hB.hTI)
    (D1.frame _ _ _ hB.s1 fun b hb o e => oth b o (fun q => hS1 (q ▸ hb)) e) (D2.frame _ _ _ hB.s2 fun b hb o e => oth b o (fun q => hS2 (q ▸ hb)) e) (.inl ⟨rfl, oth _ _ (Nat.ne_of_lt lz) hB.hz, _, _, oth _ _ (Nat.ne_of_lt lTO) hB.hTO⟩)
    (fun b o b0 _ _ _ _ e => oth b o b0 e) hS₃ rfl rfl ⟨List.Pairwise.nil, (fun _ ha => nomatch ha), (fun j a hj => by simp at hj)⟩
/-- list(z), z a new zip -/
theorem zl_call {Q : Value → Shared → Prop} (hh : A.handled = none) (Sp : ZipSep2 z TI TO i1 i2 fp1 fp2) (D1 : ∀ A', A'.handled = none → Draws prog w A' i1 fp1 n1 P1 St1) (D2 : ∀ A', A'.handled = none → Draws prog w A' i2 fp2 n2 P2 St2) (hn : min n1 n2 ≤ sizeLine)
    (self : ∀ (A' : Around) (s : Shared) (Q : Value → Shared → Prop) (E : Value → Shared → Prop), IsZip s.heap z TI TO .none → Q (.ref z) s → wpAny (model prog w) A' (pyIter (.ref z)) Q E s)
    (lz : z < s.heap.objs.size) (lTI : TI < s.heap.objs.size) (lTO : TO < s.heap.objs.size) (l1 : i1 < s.heap.objs.size) (l2 : i2 < s.heap.objs.size) (hS1 : s.heap.objs.size ∉ fp1) (hS2 : s.heap.objs.size ∉ fp2) (hB : ZipB z TI TO i1 i2 St1 St2 s.heap)
    (hQ : ∀ h' tk acc c as, (∀ b o, b ≠ z → b ≠ TO → b ≠ i1 → b ≠ i2 → s.heap.get? b = some o → h'.get? b = some o) → h'.get? s.heap.objs.size = some { cls := .type "list", dict := none, data := .seq acc c, slots := #[] } → as.length = min n1 n2 → ZipG P1 P2 s.heap.objs.size h' as →
      acc.toList = as.map Value.ref → Q (.ref s.heap.objs.size) { s with heap := h', toks := tk }) :
    wpAny (model prog w) A (call (.type "list") [.ref z]) Q E s := by
  refine callType_codes (Q₁ := fun obj s₁ => obj = .ref s.heap.objs.size ∧ s₁ = { s with heap := s.heap.push { cls := .type "list", data := .seq #[] } }) PySem.F.called_list (PySem.F.typeCall_list_1 _) PySem.F.entry_list_init
    (code_list_new _ ⟨rfl, rfl⟩) fun obj s₁ h₁ => ?_
  obtain ⟨rfl, rfl⟩ := h₁
  have hS : (s.heap.push { cls := .type "list", data := .seq #[] }).get? s.heap.objs.size = some { cls := .type "list", data := .seq #[] } := Heap.get?_push_size _ rfl
  refine ⟨⟨_, hS, rfl⟩, PySem.F.args_list_init_2 _ _, ?_⟩
  show wpAny _ _ (do let old ← Builtin.List.listItems (.ref s.heap.objs.size); Builtin.List.listUpdate (.ref s.heap.objs.size) (fun _ => #[]); letGo old.toList.reverse; Builtin.List.listExtendWith (.ref s.heap.objs.size) (.ref z) .none) _ _ _
  refine wpAny_bind ?_
  unfold Builtin.List.listItems
  refine wpAny_bind (wpAny_seqItems hS rfl (wpAny_pure ?_))
  show wpAny _ _ (updateSeq s.heap.objs.size (fun _ => #[]) >>= fun _ => letGo (#[] : Array Value).toList.reverse >>= fun _ => Builtin.List.listExtendWith (.ref s.heap.objs.size) (.ref z) .none) _ _ _
  refine wpAny_bind (wpAny_updateSeq hS rfl ?_)
  have hS₂ := Heap.get?_update_self (Obj.mapSeq (fun _ => (#[] : Array Value))) hS rfl
  have oth : ∀ b o, b ≠ s.heap.objs.size → s.heap.get? b = some o → ((s.heap.push { cls := .type "list", data := .seq #[] }).update s.heap.objs.size (Obj.mapSeq (fun _ => (#[] : Array Value)))).get? b = some o :=
    fun b o hb e => (Heap.get?_update_other _ _ (Ne.symm hb)).trans (Heap.get?_push_of_some _ e)
  refine wpAny_bind (wpAny_letGo ?_)
  have hh' : A.in1.in1.in1.handled = none := hh
  refine zl_extend (A := A.in1) hh Sp (D1 _ hh') (D2 _ hh') hn (self _) lz lTI lTO l1 l2 hS1 hS2 .none _
    ⟨oth _ _ (Nat.ne_of_lt lz) hB.hz, oth _ _ (Nat.ne_of_lt lTI) hB.hTI, oth _ _ (Nat.ne_of_lt lTO) hB.hTO, (D1 _ hh').frame _ _ _ hB.s1 fun b hb o e => oth b o (fun q => hS1 (q ▸ hb)) e, (D2 _ hh').frame _ _ _ hB.s2 fun b hb o e => oth b o (fun q => hS2 (q ▸ hb)) e⟩ hS₂ fun h' tk acc c as hk hS' hl hG hacc => ?_
  exact ⟨rfl, hQ h' tk acc c as (fun b o b1 b2 b3 b4 e => hk b o (Nat.ne_of_lt (Heap.lt_size e)) b1 b2 b3 b4 (oth b o (Nat.ne_of_lt (Heap.lt_size e)) e)) hS' hl hG hacc⟩
end
end PySem

set_option Elab.async false
set_option linter.all false
set_option autoImplicit false
set_option maxRecDepth 100000
set_option maxHeartbeats 4000000
/-! list(zip(a, b)) -/
namespace SH
open PySem PySem.Spec PyProof.Rows L2 LamX
/-- pairs laid at their addresses -/
def putP : Hp → List Addr → List (V × V) → Hp
  | H, a :: as, p :: ps => putP (upd H a (.tup [p.1, p.2])) as ps
  | H, _, _ => H
theorem putP_off {b : Addr} : ∀ (as : List Addr) (ps : List (V × V)) (H : Hp), b ∉ as → putP H as ps b = H b
  | [], _, _, _ => rfl
  | _ :: _, [], _, _ => rfl
  | a :: as, p :: ps, H, h => by
    show putP (upd H a (.tup [p.1, p.2])) as ps b = H b
    rw [putP_off as ps _ (fun z => h (List.mem_cons_of_mem _ z)), upd_ne (fun z => h (by rw [z]; exact List.mem_cons_self))]
theorem putP_at : ∀ (as : List Addr) (ps : List (V × V)) (H : Hp), as.length = ps.length → as.Nodup → Paired (fun (t : Addr) (p : V × V) => putP H as ps t = some (.tup [p.1, p.2])) as ps
  | [], [], _, _, _ => .nil
  | [], _ :: _, _, h, _ => by cases h
  | _ :: _, [], _, h, _ => by cases h
  | a :: as, p :: ps, H, h, hn => by
    have hn' := List.nodup_cons.mp hn
    have ih := putP_at as ps (upd H a (.tup [p.1, p.2])) (Nat.succ.inj h) hn'.2
    refine .cons ?_ ih
    show putP (upd H a (.tup [p.1, p.2])) as ps a = some (.tup [p.1, p.2])
    rw [putP_off as ps _ hn'.1, upd_same]
section
variable {X : Cx} {pins : List (Addr × Obj)} {σ : L2.St} {H : Hp} {s : Shared} {h' : Heap} {tk : Nat}
theorem pairs_laid {p : Addr} {as : List Addr} {ps : List (V × V)} {acc : Array Value} {c : Nat} (I : Inv X pins σ H s) (hz : ps.length ≤ sizeLine) (hk : ∀ b o, s.heap.get? b = some o → h'.get? b = some o) (hp : s.heap.objs.size ≤ p) (ha : ∀ a ∈ as, s.heap.objs.size ≤ a) (hpa : p ∉ as) (nd : as.Nodup)
    (hS : h'.get? p = some { cls := .type "list", dict := none, data := .seq acc c, slots := #[] }) (hl : as.length = ps.length) (hacc : acc.toList = as.map Value.ref)
    (hG : ∀ (j : Nat) (a : Addr) (q : V × V), as[j]? = some a → ps[j]? = some q → ∃ x1 x2, RelV q.1 x1 ∧ RelV q.2 x2 ∧ IsTupOf2 h' a x1 x2) :
    Inv X pins σ (putP (upd H p (.lst (as.map V.ref))) as ps) { s with heap := h', toks := tk } := by
  have new : ∀ t ∈ as, H t = none := fun t ht => I.hok.fresh (ha t ht)
  have newP : H p = none := I.hok.fresh hp
  have atP := putP_at as ps (upd H p (.lst (as.map V.ref))) hl nd
  have off : ∀ b, b ∉ as → b ≠ p → putP (upd H p (.lst (as.map V.ref))) as ps b = H b := fun b h1 h2 => by rw [putP_off as ps _ h1, upd_ne h2]
  have low : ∀ b o, s.heap.get? b = some o → b ∉ as ∧ b ≠ p := fun b o e => ⟨fun z => absurd (Heap.lt_size e) (Nat.not_lt.mpr (ha b z)), fun z => absurd (Heap.lt_size e) (Nat.not_lt.mpr (z ▸ hp))⟩
  have kp : ∀ b u, H b = some u → (putP (upd H p (.lst (as.map V.ref))) as ps) b = some u := fun b u e => by
    rw [off b (fun z => by rw [new b z] at e; cases e) (fun z => by rw [z, newP] at e; cases e)]
    exact e
  have eS : putP (upd H p (.lst (as.map V.ref))) as ps p = some (.lst (as.map V.ref)) := by rw [putP_off as ps _ hpa, upd_same]
  refine I.call' (ch := []) rfl ⟨fun b o q _ _ _ => hk b o q, fun b o q _ _ _ => ⟨o.slots, hk b o q⟩, fun b o q n _ => ?_, fun b o q _ => ⟨o, hk b o q⟩, fun b xs q => kp b _ q, fun b o u q => kp b _ q, fun b ps q => ⟨#[], by rw [kp b _ q]; simp⟩⟩ (fun b u q => ?_) I.bare fun b z => by simp at z
  · obtain ⟨z1, z2⟩ := low b o q
    rw [off b z1 z2]
    exact n
  · by_cases hb : b ∈ as
    · obtain ⟨j, pk, e1, e2, e3⟩ := LiI.paired_ix atP hb
      rw [e3] at q
      cases q
      obtain ⟨x1, x2, f1, f2, f3⟩ := hG j b pk e1 e2
      exact ⟨by show 2 ≤ sizeLine; decide, [x1, x2], .cons f1 (.cons f2 .nil), ⟨_, f3, rfl, _, rfl⟩⟩
    · by_cases hb2 : b = p
      · rw [hb2] at q ⊢
        rw [eS] at q
        cases q
        refine ⟨by rw [List.length_map]; omega, acc.toList, c, by rw [hacc]; exact LiI.vals_refs as, ?_⟩
        rw [Array.toArray_toList]
        exact hS
      · rw [off b hb hb2] at q
        exact (I.hok b u q).stay (fun d v _ y => hk d v y) (fun d y => kp d _ y) fun d xs y => kp d _ y
def tLZ (K : PySem.W.Frag) (ta : TA) : TE := fun σ H Q => ta σ H fun vs H1 => ∃ ka kb a b xs ys, vs = [.ref a, .ref b] ∧ SqK ka K H1 a xs ∧ SqK kb K H1 b ys ∧
  ∀ (p : Addr) (ts : List Addr), H1 p = none → (∀ t ∈ ts, H1 t = none) → ts.Nodup → p ∉ ts → ts.length = (xs.zip ys).length → Q (.ref p) (putP (upd H1 p (.lst (ts.map V.ref))) ts (xs.zip ys))
theorem pe_listZip {e e2 : Expr} {ta : TA} {p q qpos pos : Pos} (hc : X.calm = true) (hg : Gl X "zip") (hm : X.mg "zip" = none) (hgl : Gl X "list") (hml : X.mg "list" = none) (ha : PA X [e, e2] ta)
    (hs : starEach [e, e2] X.env = (false, eval e X.env) :: starEach [e2] X.env) (hpl : (backTo qpos (starEach [e2] X.env)).any (·.1) = false) :
    PE X (.Call (.Name "list" p) [.Call (.Name "zip" q) [e, e2] [] qpos] [] pos) (tLZ X.K ta) := by
  refine ⟨fun pins s σ H Q I h => ?_⟩
  refine wpAny_Call_Name_kw (ld_blt I hgl hml (by decide +kernel : bootBuiltins "list" = some (.type "list")) ?_)
  have hs0 : starEach [.Call (.Name "zip" q) [e, e2] [] qpos] X.env = (false, eval (.Call (.Name "zip" q) [e, e2] [] qpos) X.env) :: starEach [] X.env := rfl
  refine PyProof.Rows.callWith_type1 ?_ hs0 rfl
  rw [hs0]
  show wpAny _ _ (spliced ((false, eval (.Call (.Name "zip" q) [e, e2] [] qpos) X.env) :: backTo pos (starEach [] X.env))) _ _ s
  refine Calls.spliced_cons ?_
  refine wpAny_Call_Name_kw (ld_blt I hg hm PyProof.Rows.boot_zip ?_)
  refine PyProof.Rows.callWith_type1 (thn (ha.run qpos pins s σ H _ I h) fun us s1 hh => ?_) hs hpl
  obtain ⟨vs, H1, I1, r1, ka, kb, a, b, xs, ys, rfl, qx, qy, qQ⟩ := hh
  obtain ⟨its, rv, hd1, hz1⟩ := inv_seqK I1 qx
  obtain ⟨its2, rv2, hd2, hz2⟩ := inv_seqK I1 qy
  have la := holdK_lt hd1
  have lb := holdK_lt hd2
  cases r1 with
  | cons r rr =>
    cases rr with
    | cons r' rr =>
      cases rr
      cases r
      cases r'
      refine zip_begins2 (beginsK ka a its.toArray) (beginsK kb b its2.toArray) hd1 hd2 fun h' hz hti hto o1 o2 hsz kp => ?_
      have ap := zap la lb
      refine Calls.spliced_nil ?_
      have hA : X.A.handled = none := I1.ok.hd hc
      have s1e : its.toArray.size = xs.length := by rw [List.size_toArray, rv.length]
      have s2e : its2.toArray.size = ys.length := by rw [List.size_toArray, rv2.length]
      have nlt : ∀ k, k < 5 → s1.heap.objs.size + k < h'.objs.size := fun k hk => by rw [hsz]; omega
      have hold1 : HoldK ka h' a its.toArray := (beginsK ka a its.toArray).keeps _ _ hd1 kp
      have hold2 : HoldK kb h' b its2.toArray := (beginsK kb b its2.toArray).keeps _ _ hd2 kp
      refine zl_call (s := { s1 with heap := h' }) (z := s1.heap.objs.size + 4) (TI := s1.heap.objs.size + 2) (TO := s1.heap.objs.size + 3) (i1 := s1.heap.objs.size) (i2 := s1.heap.objs.size + 1) hA ap.sep (fun A' h => drawsK ka h _ a ap.a1 its.toArray) (fun A' h => drawsK kb h _ b ap.b2 its2.toArray)
        (by rw [s1e]; exact Nat.le_trans (Nat.min_le_left _ _) hz1) (fun A' s Q E hz h => wpAny_pyIter_zip hz h) (nlt 4 (by omega)) (nlt 2 (by omega)) (nlt 3 (by omega)) (nlt 0 (by omega)) (nlt 1 (by omega)) ?_ ?_ ⟨hz, hti, hto, ⟨iterK_begin o1, hold1⟩, ⟨iterK_begin o2, hold2⟩⟩ fun h2 tk acc c as hk hS hl hG hacc => ?_
      · intro hmem
        rcases List.mem_cons.mp hmem with e | e
        · exact absurd (nlt 0 (by omega)) (by show ¬ s1.heap.objs.size + 0 < h'.objs.size; rw [Nat.add_zero]; exact e ▸ Nat.lt_irrefl _)
        · have e : h'.objs.size = a := List.mem_singleton.mp e
          have := Nat.lt_trans la (nlt 0 (by omega))
          exact absurd this (e ▸ Nat.lt_irrefl _)
      · intro hmem
        rcases List.mem_cons.mp hmem with e | e
        · exact absurd (nlt 1 (by omega)) (e ▸ Nat.lt_irrefl _)
        · have e : h'.objs.size = b := List.mem_singleton.mp e
          have := Nat.lt_trans lb (nlt 0 (by omega))
          exact absurd this (e ▸ Nat.lt_irrefl _)
      · have keep : ∀ b o, s1.heap.get? b = some o → h2.get? b = some o := fun b o e => by
          have hb := Heap.lt_size e
          exact hk b o (Nat.ne_of_lt (Nat.lt_of_lt_of_le hb (Nat.le_add_right _ _))) (Nat.ne_of_lt (Nat.lt_of_lt_of_le hb (Nat.le_add_right _ _))) (Nat.ne_of_lt hb) (Nat.ne_of_lt (Nat.lt_of_lt_of_le hb (Nat.le_add_right _ _))) (kp b o e)
        have sz : s1.heap.objs.size ≤ h'.objs.size := by rw [hsz]; exact Nat.le_add_right _ _
        have above : ∀ t ∈ as, s1.heap.objs.size ≤ t := fun t ht => Nat.le_of_lt (Nat.lt_of_le_of_lt sz (hG.above t ht).1)
        have nd : as.Nodup := List.Pairwise.imp (fun {a b} (h : a < b) => Nat.ne_of_lt h) hG.rise
        have hpa : h'.objs.size ∉ as := fun z => Nat.lt_irrefl _ (hG.above _ z).1
        have hlen : as.length = (xs.zip ys).length := by rw [hl, s1e, s2e, List.length_zip]
        have J : Inv X pins σ (putP (upd H1 h'.objs.size (.lst (as.map V.ref))) as (xs.zip ys)) { s1 with heap := h2, toks := tk } := pairs_laid (acc := acc) (c := c) I1 (by rw [List.length_zip]; exact Nat.le_trans (Nat.min_le_left _ _) hz1) keep sz above hpa nd hS hlen hacc fun j a2 pq e1 e2 => by
          obtain ⟨x1, x2, f1, f2, f3⟩ := hG.pairs j a2 e1
          rw [List.getElem?_zip_eq_some] at e2
          obtain ⟨u1, g1, w1⟩ := rv.get e2.1
          obtain ⟨u2, g2, w2⟩ := rv2.get e2.2
          have t1 : its.toArray[j]? = some u1 := by simpa using g1
          have t2 : its2.toArray[j]? = some u2 := by simpa using g2
          rw [t1] at f1; cases f1
          rw [t2] at f2; cases f2
          exact ⟨_, _, w1, w2, f3⟩
        exact ⟨.ref _, _, J, rfl, qQ _ _ (I1.hok.fresh sz) (fun t ht => I1.hok.fresh (above t ht)) nd hpa hlen⟩
end
section
variable {T : Tg} {Φ : Fns} {L : Lib} {N : List Str} {sc : Scope} {cs : List Str} {k : Nat} {E : L2.St → XK} {X : Cx}
variable {K : PySem.W.Frag} {mg : Str → Option Value} {F F1 F2 : Hp} {μ μ1 μ2 : List Addr} {g g1 g2 : G} {H H1 H2 : Hp}
/-- many tuples are new -/
theorem View.laidP : ∀ (as : List Addr) (ps : List (V × V)) {F H : Hp}, View K mg T F μ g H → (∀ t ∈ as, H t = none) → as.Nodup → Go K mg T F μ H (putP F as ps) μ g (putP H as ps)
  | [], _, F, H, v, _, _ => Go.refl v
  | _ :: _, [], F, H, v, _, _ => Go.refl v
  | a :: as, p :: ps, F, H, v, hn, nd => by
    have nd' := List.nodup_cons.mp nd
    have g0 := v.laid (hn a List.mem_cons_self) (o := .tup [p.1, p.2]) ntT
    exact g0.trans (View.laidP as ps g0.view (fun t ht => by rw [upd_ne (show t ≠ a from fun z => nd'.1 (by rw [← z]; exact ht))]; exact hn t (List.mem_cons_of_mem _ ht)) nd'.2)
theorem reps_zip {F' : Hp} : ∀ {as : List Addr} {xs ys : List V} {l m : List D}, Reps K mg μ F xs l → Reps K mg μ F ys m → Same F F' → Paired (fun (t : Addr) (p : V × V) => F' t = some (.tup [p.1, p.2])) as (xs.zip ys) → Reps K mg μ F' (as.map V.ref) (zipL l m)
  | [], [], _, _, _, .nil, _, _, _ => by simp only [zipL]; exact .nil
  | [], _ :: _, [], _, _, .cons _ _, .nil, _, _ => .nil
  | [], x :: xs, y :: ys, _, _, _, _, _, h => by cases h
  | t :: as, [], _, _, _, _, _, _, h => by cases h
  | t :: as, x :: xs, [], _, _, _, _, _, h => by cases h
  | t :: as, x :: xs, y :: ys, _, _, .cons r rs, .cons q qs, e, .cons h hs => .cons (.tup (SqT.of h) (.cons (r.mono e (Pre.refl _)) (.cons (q.mono e (Pre.refl _)) .nil))) (reps_zip rs qs e hs)
theorem se_lzip {e e' : Expr} {m m' : ME} {p q qpos pos : Pos} (ok : CtxOk T Φ L N sc cs k E X) (hh : L.ev = none) (hg : sc.names.lookup ("zip" : Str) = some .globalImplicit) (hf : ("zip" : Str) ∈ L.free) (hgl : sc.names.lookup ("list" : Str) = some .globalImplicit) (hfl : ("list" : Str) ∈ L.free) (hs : notStar e = true) (hs' : notStar e' = true)
    (he : PE X e (tE X.K X.mg T Φ E m)) (he' : PE X e' (tE X.K X.mg T Φ E m')) : PE X (.Call (.Name "list" p) [.Call (.Name "zip" q) [e, e'] [] qpos] [] pos) (tE X.K X.mg T Φ E (.lzip m m')) := by
  refine PE.mono (pe_listZip (ok.calm hh) (gl_of ok hg) (ok.free _ hf) (gl_of ok hgl) (ok.free _ hfl) (sa_cons he (sa_cons he' sa_nil hs') hs) (star_of hs) (stars_of (by simp [noStars, hs']))) fun σ H Q h => ?_
  obtain ⟨F, μ, g, S, hv, hr, h⟩ := h
  have e2 : ev Φ (.lzip m m') S g = (evs Φ [m, m'] S g).bind fun l g => match l with
      | [x, y] => (lift (zipD x y) g).bind fun l g => .ok (.lst l) g
      | _ => .bad := by
    simp only [ev, evs, Res.bind]
    cases ev Φ m S g with
    | ok x g1 =>
      simp only
      cases ev Φ m' S g1 <;> rfl
    | exc _ _ => rfl
    | bad => rfl
  rw [e2] at h
  refine ⟨F, μ, g, S, hv, hr, Aft.imp (Aft.bindE (RP := RDs X.K X.mg) h) fun vs H1 ⟨x, F1, μ1, g1, ee, y1, r1, h1⟩ => ?_⟩
  have hl := evs_len _ _ _ _ _ _ ee
  match x, hl, r1, h1 with
  | [d, d'], _, r1, h1 =>
    obtain ⟨v, w, rfl, q, q'⟩ := reps2 r1
    simp only at h1
    cases ez : zipD d d' with
    | none => rw [ez] at h1; exact h1.elim
    | some l =>
      rw [ez] at h1
      have h2 : Aft X.K X.mg T (RD X.K X.mg) (.ok (.lst l) g1) F1 μ1 H1 Q (E σ) := h1
      obtain ⟨la, lb, c1, c2, rfl⟩ := zipD_of ez
      obtain ⟨ka, a, xs, rfl, hF, ra⟩ := seqK_of q c1
      obtain ⟨kb, b, ys, rfl, hG, rb⟩ := seqK_of q' c2
      refine ⟨ka, kb, a, b, xs, ys, rfl, hF _ y1.view.le, hG _ y1.view.le, fun p ts hp hts nd hpt hlen => ?_⟩
      have go1 := y1.view.laid hp (o := .lst (ts.map V.ref)) ntL
      have go2 := View.laidP ts (xs.zip ys) go1.view (fun t ht => by rw [upd_ne (show t ≠ p from fun z => hpt (by rw [← z]; exact ht))]; exact hts t ht) nd
      have go := go1.trans go2
      refine h2 (.ref p) _ μ1 _ go (.lst (vs := ts.map V.ref) (by rw [putP_off ts _ _ hpt]; exact upd_same) ?_)
      exact reps_zip ra rb go.ff (putP_at ts (xs.zip ys) _ hlen nd)
end
end SH

set_option Elab.async false
set_option linter.all false
set_option autoImplicit false
set_option maxRecDepth 100000
set_option maxHeartbeats 4000000
/-! sorted(set(e)), e a tuple of ints -/
namespace SH
open PySem PySem.Spec PyProof.Rows L2 LamX
theorem asc_uniq : ∀ {l m : List Int}, l.Pairwise (· < ·) → m.Pairwise (· < ·) → (∀ k, k ∈ l ↔ k ∈ m) → l = m
  | [], [], _, _, _ => rfl
  | [], b :: m, _, _, h => by have := (h b).mpr List.mem_cons_self; cases this
  | a :: l, [], _, _, h => by have := (h a).mp List.mem_cons_self; cases this
  | a :: l, b :: m, hl, hm, h => by
    have hl' := List.pairwise_cons.mp hl
    have hm' := List.pairwise_cons.mp hm
    have e : a = b := by
      rcases List.mem_cons.mp ((h a).mp List.mem_cons_self) with e | e
      · exact e
      · rcases List.mem_cons.mp ((h b).mpr List.mem_cons_self) with e' | e'
        · exact e'.symm
        · have h1 := hl'.1 b e'
          have h2 := hm'.1 a e
          omega
    subst e
    have : l = m := by
      refine asc_uniq hl'.2 hm'.2 fun k => ⟨fun hk => ?_, fun hk => ?_⟩
      · rcases List.mem_cons.mp ((h k).mp (List.mem_cons_of_mem _ hk)) with e | e
        · have := hl'.1 k hk; omega
        · exact e
      · rcases List.mem_cons.mp ((h k).mpr (List.mem_cons_of_mem _ hk)) with e | e
        · have := hm'.1 k hk; omega
        · exact e
    rw [this]
theorem insU_mem (x k : Int) : ∀ l : List Int, k ∈ insU x l ↔ k = x ∨ k ∈ l
  | [] => by simp [insU]
  | y :: l => by
    unfold insU
    split
    · simp
    · split
      · rename_i h; subst h; simp
      · simp only [List.mem_cons, insU_mem x k l]
        constructor
        · rintro (h | h | h); exact .inr (.inl h); exact .inl h; exact .inr (.inr h)
        · rintro (h | h | h); exact .inr (.inl h); exact .inl h; exact .inr (.inr h)
theorem insU_asc (x : Int) : ∀ {l : List Int}, l.Pairwise (· < ·) → (insU x l).Pairwise (· < ·)
  | [], _ => by simp [insU]
  | y :: l, h => by
    have h' := List.pairwise_cons.mp h
    unfold insU
    split
    · rename_i hx
      refine List.pairwise_cons.mpr ⟨fun k hk => ?_, h⟩
      rcases List.mem_cons.mp hk with e | e
      · omega
      · have := h'.1 k e; omega
    · split
      · exact h
      · rename_i h1 h2
        refine List.pairwise_cons.mpr ⟨fun k hk => ?_, insU_asc x h'.2⟩
        rcases (insU_mem x k l).mp hk with e | e
        · omega
        · exact h'.1 k e
theorem sortU_asc : ∀ l : List Int, (sortU l).Pairwise (· < ·)
  | [] => List.Pairwise.nil
  | x :: l => insU_asc x (sortU_asc l)
theorem sortU_mem (k : Int) : ∀ l : List Int, k ∈ sortU l ↔ k ∈ l
  | [] => Iff.rfl
  | x :: l => by
    show k ∈ insU x (sortU l) ↔ _
    rw [insU_mem, sortU_mem k l, List.mem_cons]
section
variable {X : Cx}
def tSS (K : PySem.W.Frag) (ta : TA) : TE := fun σ H Q => ta σ H fun vs H1 => ∃ (l : Addr) (ns : List Int), vs = [.ref l] ∧ SqT K H1 l (ns.map V.int) ∧ ns.length < 64 ∧
  ∀ p : Addr, H1 p = none → Q (.ref p) (upd H1 p (.lst ((sortU ns).map V.int)))
theorem pe_sset {e : Expr} {ta : TA} {p q qpos pos : Pos} (hc : X.calm = true) (hg : Gl X "set") (hm : X.mg "set" = none) (hgs : Gl X "sorted") (hms : X.mg "sorted" = none) (ha : PA X [e] ta)
    (hs : starEach [e] X.env = (false, eval e X.env) :: starEach [] X.env) :
    PE X (.Call (.Name "sorted" p) [.Call (.Name "set" q) [e] [] qpos] [] pos) (tSS X.K ta) := by
  refine ⟨fun pins s σ H Q I h => ?_⟩
  refine wpAny_Call_Name_kw (ld_blt I hgs hms (by decide +kernel : bootBuiltins "sorted" = some (.builtin "sorted")) ?_)
  have hs0 : starEach [.Call (.Name "set" q) [e] [] qpos] X.env = (false, eval (.Call (.Name "set" q) [e] [] qpos) X.env) :: starEach [] X.env := rfl
  refine PyProof.Rows.callWith_builtin1 ?_ hs0 rfl
  rw [hs0]
  show wpAny _ _ (spliced ((false, eval (.Call (.Name "set" q) [e] [] qpos) X.env) :: backTo pos (starEach [] X.env))) _ _ s
  refine Calls.spliced_cons ?_
  refine wpAny_Call_Name_kw (ld_blt I hg hm PyProof.Rows.boot_set ?_)
  refine PyProof.Rows.callWith_type1 (thn (ha.run qpos pins s σ H _ I h) fun us s1 hh => ?_) hs rfl
  obtain ⟨vs, H1, I1, r1, l, ns, rfl, hl, hn, hQ⟩ := hh
  obtain ⟨its, rv, pl, _⟩ := I1.tuple hl
  rw [Vals.ref1 r1]
  refine call_set_tupI ns (I1.ok.hd hc) (items := its.toArray) ?_ (by simpa using RZ.intsAre_vals rv) (by unfold scanBound; omega) fun h' tk c R hcn hk => ?_
  · obtain ⟨o, ho, hcl, n, hd⟩ := pl
    exact ⟨o, ho, hcl, n, hd⟩
  refine Calls.spliced_nil ?_
  have I2 : Inv X pins σ H1 { s1 with heap := h', toks := tk } := I1.kept hk
  refine sorted_set (s := { s1 with heap := h', toks := tk }) R (I1.ok.hd hc) (by omega) fun s' p out c' ms k g o hp hg hout hasc hmem hlen => ?_
  have hlen' : ((sortU ns).map V.int).length ≤ sizeLine := by
    have : ms = sortU ns := asc_uniq hasc (sortU_asc ns) fun j => by rw [hmem, sortU_mem]; simp
    rw [← this, List.length_map, hlen, sizeLine_eq]; omega
  have em : ms = sortU ns := asc_uniq hasc (sortU_asc ns) fun j => by rw [hmem, sortU_mem]; simp
  subst em
  have newp : H1 p = none := I2.hok.fresh hp
  have hv : Vals ((sortU ns).map V.int) out.toList := vals_ints hout
  have J : Inv X pins σ (upd H1 p (.lst ((sortU ns).map V.int))) s' := by
    refine I2.call' (ch := []) o (Un.laid k hp newp) (I2.hok.laid k hp ⟨hlen', out.toList, c', hv, hg⟩) (by rw [g]; exact I2.bare) fun b z => by simp at z
  exact ⟨.ref p, _, J, rfl, hQ p newp⟩
end
section
variable {T : Tg} {Φ : Fns} {L : Lib} {N : List Str} {sc : Scope} {cs : List Str} {k : Nat} {E : L2.St → XK} {X : Cx}
variable {K : PySem.W.Frag} {mg : Str → Option Value} {F F1 F2 : Hp} {μ μ1 μ2 : List Addr} {g g1 g2 : G} {H H1 H2 : Hp}
theorem sset_is {xs : List D} {z : D} (h : bi .sset xs = some z) : ∃ ns : List Int, xs = [.tup (ns.map .int)] ∧ ns.length < 64 ∧ z = .lst ((sortU ns).map .int) := by
  rcases xs with _ | ⟨d, _ | ⟨e, l⟩⟩
  · cases h
  · cases d <;> try (cases h; done)
    rename_i l
    have h : ((ints? l).bind fun ns => if Nat.ble (ns.length + 1) 64 then some (D.lst ((sortU ns).map .int)) else none) = some z := h
    cases q : ints? l with
    | none => rw [q] at h; cases h
    | some ns =>
      rw [q, Option.bind_some] at h
      split at h
      · cases h
        exact ⟨ns, by rw [ints_is q], Nat.lt_of_succ_le (Nat.le_of_ble_eq_true (by assumption)), rfl⟩
      · cases h
  · cases d <;> cases h
theorem se_sset {e : Expr} {m : ME} {p q qpos pos : Pos} (ok : CtxOk T Φ L N sc cs k E X) (hh : L.ev = none) (hg : sc.names.lookup ("set" : Str) = some .globalImplicit) (hf : ("set" : Str) ∈ L.free) (hgl : sc.names.lookup ("sorted" : Str) = some .globalImplicit) (hfl : ("sorted" : Str) ∈ L.free) (hs : notStar e = true)
    (he : PE X e (tE X.K X.mg T Φ E m)) : PE X (.Call (.Name "sorted" p) [.Call (.Name "set" q) [e] [] qpos] [] pos) (tE X.K X.mg T Φ E (.bi .sset [m])) := by
  refine PE.mono (pe_sset (ok.calm hh) (gl_of ok hg) (ok.free _ hf) (gl_of ok hgl) (ok.free _ hfl) (sa_cons he sa_nil hs) (star_of hs)) fun σ H Q h => ?_
  obtain ⟨F, μ, g, S, hv, hr, h⟩ := h
  simp only [ev] at h
  refine ⟨F, μ, g, S, hv, hr, Aft.imp (Aft.bind (RP := RDs X.K X.mg) h) fun vs H1 ⟨x, F1, μ1, g1, y1, r1, h1⟩ => ?_⟩
  obtain ⟨z, ez, h2⟩ := Aft.lift h1
  obtain ⟨ns, rfl, hn, rfl⟩ := sset_is ez
  obtain ⟨v, rfl, q⟩ := reps1 r1
  cases q with
  | tup hq rs =>
    have e1 := Reps.ints rs
    subst e1
    refine ⟨_, ns, rfl, sqT_same y1.view.le hq, hn, fun p hp => ?_⟩
    have go := y1.view.laid hp (o := .lst ((sortU ns).map V.int)) ntL
    exact h2 (.ref p) _ μ1 _ go (.lst upd_same (Reps.ofInts _))
end
end SH

set_option Elab.async false
set_option linter.all false
set_option autoImplicit false
set_option maxRecDepth 100000
set_option maxHeartbeats 4000000
/-! new lists by a choice, by repetition -/
namespace SH
open PySem PySem.Spec PyProof.Rows L2 LamX
section
variable {T : Tg} {Φ : Fns} {L : Lib} {N : List Str} {sc : Scope} {cs : List Str} {k : Nat} {E : L2.St → XK} {X : Cx}
variable {K : PySem.W.Frag} {mg : Str → Option Value} {F F1 F2 : Hp} {μ μ1 μ2 : List Addr} {g g1 g2 : G} {H H1 H2 : Hp}
theorem AftF.from {r : Res D} {Q : VK} {EX : XK} (x : Go K mg T F μ H F1 μ1 g1 H1) (h : AftF K mg T r F μ H Q EX) : AftF K mg T r F1 μ1 H1 Q EX := by
  cases r with
  | ok d g' =>
    cases d with
    | lst l => exact fun p vs F' μ' H' y hp h1 h2 h3 h4 => h p vs F' μ' H' (x.trans y) (x.free hp) h1 h2 h3 h4
    | _ => exact h.elim
  | exc e g' => exact fun c d F' μ' H' y q => h c d F' μ' H' (x.trans y) q
  | bad => exact h
theorem sf_ite {c a b : Expr} {mc ma mb : ME} {pos : Pos} (hc : PT X c (tT X.K X.mg T Φ E mc)) (ha : PE X a (tF X.K X.mg T Φ E ma)) (hb : PE X b (tF X.K X.mg T Φ E mb)) : PE X (.IfExp c a b pos) (tF X.K X.mg T Φ E (.ite mc ma mb)) := by
  refine PE.mono (pe_ifExp hc ha hb) fun σ H Q h => ?_
  obtain ⟨F, μ, g, S, hv, hr, h⟩ := h
  have e : ev Φ (.ite mc ma mb) S g = (evT Φ mc S g).bind fun c g => match c with | true => ev Φ ma S g | false => ev Φ mb S g := by
    rw [ev]
    unfold evT
    cases ev Φ mc S g with
    | ok x g1 =>
      simp only [Res.bind]
      cases e : truth x with
      | none => rfl
      | some c => cases c <;> rfl
    | exc _ _ => rfl
    | bad => rfl
  rw [e] at h
  refine ⟨F, μ, g, S, hv, hr, ?_⟩
  cases e1 : evT Φ mc S g with
  | ok t g1 =>
    rw [e1] at h
    intro v F1 μ1 H1 y1 r1
    cases r1
    cases t with
    | true => exact ⟨F1, μ1, g1, S, y1.view, hr.go y1, AftF.from y1 h⟩
    | false => exact ⟨F1, μ1, g1, S, y1.view, hr.go y1, AftF.from y1 h⟩
  | exc x g1 => rw [e1] at h; exact h
  | bad => rw [e1] at h; exact h
theorem rep_lst {x z : D} {l : List D} (h : bin .mul x z = some (.lst l)) : ∃ l1 n, x = .lst l1 ∧ z = .int n ∧ l = (List.replicate n.toNat l1).flatten ∧ -9223372036854775808 ≤ n ∧ n < 9223372036854775808 ∧ l1.length * n.toNat ≤ sizeLine := by
  unfold bin at h
  cases x <;> cases z <;> simp only at h <;> try (cases h; done)
  all_goals (split at h <;> cases h)
  rename_i hz
  simp only [Bool.and_eq_true, decide_eq_true_eq] at hz
  exact ⟨_, _, rfl, rfl, rfl, hz.1.1, hz.1.2, sizeOk_le hz.2⟩
theorem sf_rep {a b : Expr} {ma mb : ME} {pos : Pos} (ha : PE X a (tE X.K X.mg T Φ E ma)) (hb : PE X b (tE X.K X.mg T Φ E mb)) : PE X (.BinOp a .Mult b pos) (tF X.K X.mg T Φ E (.bin .mul ma mb)) := by
  refine PE.mono (pe_op op_rep ha hb) fun σ H Q h => ?_
  obtain ⟨F, μ, g, S, hv, hr, h⟩ := h
  refine ⟨F, μ, g, S, hv, hr, ?_⟩
  simp only [ev] at h
  cases e1 : ev Φ ma S g with
  | ok x g1 =>
    simp only [e1, Res.bind] at h
    intro v F1 μ1 H1 y1 r1
    refine ⟨F1, μ1, g1, S, y1.view, hr.go y1, ?_⟩
    cases e2 : ev Φ mb S g1 with
    | ok z g2 =>
      simp only [e2] at h
      intro w F2 μ2 H2 y2 r2
      cases e3 : bin .mul x z with
      | none => rw [e3] at h; exact h.elim
      | some d =>
        rw [e3] at h
        cases d with
        | lst l =>
          obtain ⟨l1, n, rfl, rfl, rfl, hn1, hn2, hz⟩ := rep_lst e3
          have r1' := r1.mono y2.ff y2.pre
          cases r1' with
          | lst q1 s1 =>
            cases r2 with
            | int _ =>
              refine ⟨_, _, _, rfl, rfl, y2.view.le _ _ q1, by omega, by omega, by rw [s1.length]; exact hz, fun p hp => ?_⟩
              obtain ⟨gg, fp, mp⟩ := y2.view.lone (o := .lst _) hp ntL
              exact h p _ F2 μ2 _ ((y1.trans y2).trans gg) ((y1.trans y2).free hp) upd_same fp mp (s1.times _)
        | _ => exact h.elim
    | exc x g2 => simp only [e2] at h; exact fun cls dd F2 μ2 H2 y2 q => h cls dd F2 μ2 H2 (y1.trans y2) q
    | bad => simp only [e2] at h; exact h.elim
  | exc x g1 => simp only [e1, Res.bind] at h; exact h
  | bad => simp only [e1, Res.bind] at h; exact h.elim
end
end SH

set_option Elab.async false
set_option linter.all false
set_option autoImplicit false
set_option maxRecDepth 100000
set_option maxHeartbeats 4000000
namespace SH
open PySem PySem.Spec PyProof.Rows L2 LamX
section
variable {T : Tg} {Φ : Fns} {L : Lib} {N : List Str} {sc : Scope} {cs : List Str} {k : Nat} {E : L2.St → XK} {X : Cx}
variable {K : PySem.W.Frag} {mg : Str → Option Value} {F F1 F2 : Hp} {μ μ1 μ2 : List Addr} {g g1 g2 : G} {H H1 H2 : Hp} {S S1 S2 : Sl} {σ σ1 σ2 : L2.St}
/-! ### a module's constant -/
theorem se_glob {x : Str} {d : D} {pos : Pos} (ok : CtxOk T Φ L N sc cs k E X) (hc : (x, d) ∈ L.con) (hg : sc.names.lookup x = some .globalImplicit) (hd : (x == ("__debug__" : Str)) = false) : PE X (.Name x pos) (tE X.K X.mg T Φ E (.lit d)) := by
  obtain ⟨v, u, h1, h2, h3⟩ := ok.con x d hc
  refine PE.mono (pe_glob (gl_of ok hg) h1 h2 hd) fun σ H Q ⟨F, μ, g, S, hv, hr, h⟩ => ?_
  simp only [ev] at h
  exact Aft.val (RP := RD X.K X.mg) h hv (h3 μ F)
/-- a def as a value -/
theorem se_fn {x : Str} {i : Nat} {fi : FnI} {pos : Pos} (ok : CtxOk T Φ L N sc cs k E X) (hi : L.fns[i]? = some fi) (hn : fi.name = x) (hg : sc.names.lookup x = some .globalImplicit) (hd : (x == ("__debug__" : Str)) = false) : PE X (.Name x pos) (tE X.K X.mg T Φ E (.lit (.fn x))) := by
  obtain ⟨f, fd, dvs, its, h1, h2, _⟩ := (ok.fns i fi hi).at_
  rw [hn] at h1
  refine PE.mono (pe_glob (gl_of ok hg) h1 (v := .ref f) rfl hd) fun σ H Q ⟨F, μ, g, S, hv, hr, h⟩ => ?_
  simp only [ev] at h
  exact Aft.val (RP := RD X.K X.mg) h hv (.fn h1 h2)
/-! ### dicts of the store -/
abbrev KVR (K : PySem.W.Frag) (mg : Str → Option Value) (μ : List Addr) (F : Hp) : List (Key × V) → List (Key × D) → Prop := Paired fun (p : Key × V) (q : Key × D) => p.1 = q.1 ∧ Rep K mg μ F p.2 q.2
theorem dGet_rep {k : Key} {d : D} : ∀ {kvs : List (Key × V)} {kds : List (Key × D)}, KVR K mg μ F kvs kds → dGet kds k = some d → ∃ v, valV kvs k = some v ∧ Rep K mg μ F v d
  | _, _, .nil, h => by simp [dGet] at h
  | _, _, .cons (a := p) (b := q) r t, h => by
    by_cases e : q.1 = k
    · have hq : ∀ l, dGet (q :: l) k = some q.2 := fun l => by simp [dGet, List.find?_cons, e]
      rw [hq] at h
      cases h
      exact ⟨p.2, valV_pos (r.1.trans e), r.2⟩
    · have hq : ∀ l, dGet (q :: l) k = dGet l k := fun l => by simp [dGet, List.find?_cons, e]
      rw [hq] at h
      obtain ⟨v, h1, h2⟩ := dGet_rep t h
      exact ⟨v, by rw [valV_neg (by rw [r.1]; exact e)]; exact h1, h2⟩
theorem any_rep {k : Key} : ∀ {kvs : List (Key × V)} {kds : List (Key × D)}, KVR K mg μ F kvs kds → (kvs.any fun kv => decide (kv.1 = k)) = kds.any fun kv => decide (kv.1 = k)
  | _, _, .nil => rfl
  | _, _, .cons r t => by simp only [List.any_cons, r.1, any_rep t]
theorem map_rep {k : Key} {v : V} {d : D} (q : Rep K mg μ F v d) : ∀ {kvs : List (Key × V)} {kds : List (Key × D)}, KVR K mg μ F kvs kds → KVR K mg μ F (kvs.map fun kv => if kv.1 = k then (kv.1, v) else kv) (kds.map fun kv => if kv.1 = k then (kv.1, d) else kv)
  | _, _, .nil => .nil
  | _, _, .cons (a := a) (b := b) r t => by
    refine .cons ?_ (map_rep q t)
    simp only [r.1]
    split
    · exact ⟨rfl, q⟩
    · exact r
theorem kvr_append : ∀ {a b : List (Key × V)} {c d : List (Key × D)}, KVR K mg μ F a c → KVR K mg μ F b d → KVR K mg μ F (a ++ b) (c ++ d)
  | _, _, _, _, .nil, s => s
  | _, _, _, _, .cons r t, s => .cons r (kvr_append t s)
theorem dPut_rep {k : Key} {v : V} {d : D} {kvs : List (Key × V)} {kds : List (Key × D)} (r : KVR K mg μ F kvs kds) (q : Rep K mg μ F v d) : KVR K mg μ F (putK kvs k v) (dPut kds k d) := by
  unfold putK dPut
  rw [any_rep r]
  split
  · exact map_rep q r
  · exact kvr_append r (.cons ⟨rfl, q⟩ .nil)
theorem dMerge_rep : ∀ {more : List (Key × V)} {dmore : List (Key × D)} {kvs : List (Key × V)} {kds : List (Key × D)}, KVR K mg μ F more dmore → KVR K mg μ F kvs kds → KVR K mg μ F (mergeK kvs more) (dMerge kds dmore)
  | _, _, _, _, .nil, r => r
  | _, _, _, _, .cons (a := a) (b := b) p t, r => by
    show KVR K mg μ F (mergeK (putK _ a.1 a.2) _) (dMerge (dPut _ b.1 b.2) _)
    rw [p.1]
    exact dMerge_rep t (dPut_rep r p.2)
theorem paired_get {α β : Type} {R : α → β → Prop} : ∀ {l : List α} {m : List β} {i : Nat} {b : β}, Paired R l m → m[i]? = some b → ∃ a, l[i]? = some a ∧ R a b
  | _, _, _, _, .nil, h => by simp at h
  | _, _, 0, _, .cons r _, h => by simp at h; subst h; exact ⟨_, rfl, r⟩
  | _, _, i + 1, b, .cons _ t, h => by
    obtain ⟨a, h1, h2⟩ := paired_get (i := i) t (by simpa using h)
    exact ⟨a, by simpa using h1, h2⟩
theorem rep_ptr {v : V} {q : Nat} (r : Rep K mg μ F v (.ptr q)) : ∃ a, v = .ref a ∧ μ[q]? = some a := by
  cases r with
  | ptr h => exact ⟨_, rfl, h⟩
theorem se_getK {a : Expr} {ma : ME} {z : Str} {j : Nat} {p pos : Pos} (ok : CtxOk T Φ L N sc cs k E X) (ha : PE X a (tE X.K X.mg T Φ E ma)) : PE X (.Subscript a (.Constant (.str z) j p) pos) (tE X.K X.mg T Φ E (.getK ma (.inr z))) := by
  have hu : X.A.units + 1 < cLine := by have := ok.un; omega
  refine PE.mono (pe_dget hu ha pe_str (fun _ _ => rfl)) fun σ H Q ⟨F, μ, g, S, hv, hr, h⟩ => ?_
  simp only [ev] at h
  refine ⟨F, μ, g, S, hv, hr, Aft.imp (Aft.bind h) fun v H1 ⟨x, F1, μ1, g1, y1, r1, h1⟩ => ?_⟩
  cases x <;> try (exact h1.elim)
  rename_i q
  obtain ⟨aa, rfl, hm⟩ := rep_ptr r1
  simp only at h1
  split at h1
  · rename_i kds hg
    obtain ⟨d, e, h2⟩ := Aft.lift h1
    obtain ⟨b, hb, st⟩ := paired_get y1.view.st hg
    rw [hm] at hb
    cases hb
    obtain ⟨kvs, e1, e2⟩ := st
    obtain ⟨w, e3, e4⟩ := dGet_rep e2 e
    refine ⟨_, w, rfl, ?_, Aft.val (RP := RD X.K X.mg) h2 y1.view e4⟩
    have := DGet.k (k := (.inr z : Key)) e1
    rw [e3] at this
    exact this
  · exact h1.elim
theorem paired_set {α β : Type} {R R' : α → β → Prop} : ∀ {l : List α} {m : List β} (i : Nat) {b : β}, Paired R l m → l.Nodup → (∀ a, l[i]? = some a → R' a b) → (∀ a ∈ l, l[i]? ≠ some a → ∀ c, R a c → R' a c) → Paired R' l (m.set i b)
  | _, _, _, _, .nil, _, _, _ => .nil
  | a :: l, _, 0, b, .cons r t, nd, h1, h2 => by
    refine .cons (h1 a rfl) ?_
    have hn := (List.nodup_cons.mp nd).1
    exact paired_mem t fun c hc d rd => h2 c (List.mem_cons_of_mem _ hc) (fun e => hn (by simp at e; rw [e]; exact hc)) d rd
  | a :: l, _, i + 1, b, .cons r t, nd, h1, h2 => by
    have hn := List.nodup_cons.mp nd
    refine .cons (h2 a List.mem_cons_self (fun e => ?_) _ r) (paired_set i t hn.2 (fun c hc => h1 c (by simpa using hc)) fun c hc he d rd => h2 c (List.mem_cons_of_mem _ hc) (by simpa using he) d rd)
    have : l[i]? = some a := by simpa using e
    exact hn.1 (List.mem_iff_getElem?.mpr ⟨i, this⟩)
/-- a dict of the store is written -/
theorem View.put {q : Nat} {a : Addr} {kvs : List (Key × V)} {kds : List (Key × D)} (hv : View K mg T F μ g H) (hm : μ[q]? = some a) (h1 : H a ≠ none) (hnt : ∀ ps, H a ≠ some (.tbl ps)) (hne : ∀ c z, H a ≠ some (CodeO c z)) (r : KVR K mg μ F kvs kds) : Go K mg T F μ H F μ (g.set q (.dict kds)) (upd H a (.dK kvs)) := by
  have ha : a ∈ μ := List.mem_iff_getElem?.mpr ⟨q, hm⟩
  have fa : F a = none := hv.off a ha
  refine ⟨⟨fun b u e => ?_, hv.nt, hv.nod, hv.off, ?_, ?_, tbs_upd hv.tbs (fun ps z => by cases z), hv.bas⟩, Same.refl _, Pre.refl _, fun b o e => .inl e, fun b e => .inl e, fun b o e hb _ => ?_, fun b o e => ?_⟩
  · rw [upd_ne (ne_of_none e fa)]; exact hv.le b u e
  · refine paired_set q hv.st hv.nod (fun b hb => ?_) fun b hb he m sm => ?_
    · rw [hm] at hb; cases hb
      exact ⟨kvs, upd_same, r⟩
    · exact sm.mono (Same.refl _) (Pre.refl _) (upd_ne fun z => he (by rw [z]; exact hm))
  · intro p hp
    obtain ⟨ps, e1, e2, e3⟩ := hv.tab p hp
    refine ⟨ps, by rw [upd_ne (fun z => hnt ps (by rw [← z]; exact e1))]; exact e1, e2, fun pos cv hc => ?_⟩
    obtain ⟨c, e4, e5⟩ := e3 pos cv hc
    exact ⟨c, e4, by rw [upd_ne (fun z => hne c p.2 (by rw [← z]; exact e5))]; exact e5⟩
  · rw [upd_ne (fun z => hb (by rw [z]; exact ha))]; exact e
  · by_cases z : b = a
    · subst z; exact ⟨_, upd_same⟩
    · exact ⟨o, by rw [upd_ne z]; exact e⟩
theorem ss_setK {a e : Expr} {ma me : ME} {z : Str} {j : Nat} {p p2 pos : Pos} (ok : CtxOk T Φ L N sc cs k E X) (hc : notComp e = true) (ha : PE X a (tE X.K X.mg T Φ E ma)) (he : PE X e (tE X.K X.mg T Φ E me)) :
    PS X (.Assign [.Subscript a (.Constant (.str z) j p) p2] e pos) (tM X.K X.mg T Φ E (.setK ma (.inr z) me)) := by
  have hu : X.A.units + 1 < cLine := by have := ok.un; omega
  refine PS.mono (ps_dput hu ha pe_str he (swaps_no hc)) fun D σ H ⟨F, μ, g, S, hv, hr, h⟩ => ?_
  simp only [exec] at h
  refine ⟨F, μ, g, S, hv, hr, Aft.imp (AftS.bind (RP := RD X.K X.mg) hr h) fun v H1 ⟨x, F1, μ1, g1, y1, r1, h1⟩ => ?_⟩
  have hr1 := hr.go y1
  refine ⟨F1, μ1, g1, S, y1.view, hr1, Aft.imp (AftS.bind (RP := RD X.K X.mg) hr1 h1) fun w H2 ⟨y, F2, μ2, g2, y2, r2, h2⟩ => ?_⟩
  have hr2 := hr1.go y2
  cases y <;> try (exact h2.elim)
  rename_i q
  obtain ⟨aa, rfl, hm⟩ := rep_ptr r2
  simp only at h2
  split at h2
  · rename_i kds hg
    split at h2
    · rename_i hl
      obtain ⟨b, hb, st⟩ := paired_get y2.view.st hg
      rw [hm] at hb
      cases hb
      obtain ⟨kvs, e1, e2⟩ := st
      have hlen : kvs.length = kds.length := Paired.length e2
      refine ⟨_, _, rfl, DPut.k (k := (.inr z : Key)) e1 (by have : 1000 ≤ sizeLine := by decide
                                                             omega), ?_⟩
      have gg := y2.view.put hm (by rw [e1]; intro z; cases z) (fun ps z => by rw [e1] at z; cases z) (fun c n z => by rw [e1] at z; cases z) (dPut_rep (k := .inr z) e2 (r1.mono y2.ff y2.pre))
      exact h2 σ F2 μ2 _ gg.toO (hr2.go gg) fun c q => .inl q
    · exact h2.elim
  · exact h2.elim
/-! ### a dict is made -/
theorem nodup_snoc {l : List Addr} {a : Addr} (h : l.Nodup) (n : a ∉ l) : (l ++ [a]).Nodup := by
  rw [List.nodup_append]
  exact ⟨h, by simp, fun x hx y hy e => by simp at hy; subst hy; exact n (e ▸ hx)⟩
theorem paired_snoc {α β : Type} {R : α → β → Prop} : ∀ {l : List α} {m : List β} {a : α} {b : β}, Paired R l m → R a b → Paired R (l ++ [a]) (m ++ [b])
  | _, _, _, _, .nil, r => .cons r .nil
  | _, _, _, _, .cons q t, r => .cons q (paired_snoc t r)
theorem View.newD {p : Addr} {kvs : List (Key × V)} {kds : List (Key × D)} {o : HO} (hv : View K mg T F μ g H) (hp : H p = some (.dK [])) (fp : F p = none) (mp : p ∉ μ) (r : KVR K mg μ F kvs kds) : View K mg T F (μ ++ [p]) (g ++ [.dict kds]) (upd H p (.dK kvs)) := by
  have pre : Pre μ (μ ++ [p]) := ⟨[p], rfl⟩
  refine ⟨fun b u e => ?_, hv.nt, nodup_snoc hv.nod mp, fun b hb => ?_, ?_, ?_, tbs_upd hv.tbs (fun ps z => by cases z), fun b hb => ⟨(hv.bas b hb).1, (hv.bas b hb).2.trans pre⟩⟩
  · rw [upd_ne (ne_of_none e fp)]; exact hv.le b u e
  · rcases List.mem_append.mp hb with hb | hb
    · exact hv.off b hb
    · have := List.mem_singleton.mp hb
      rw [this]; exact fp
  · refine paired_snoc (paired_mem hv.st fun b hb m sm => sm.mono (Same.refl _) pre (upd_ne fun z => mp (by rw [← z]; exact hb))) ⟨kvs, upd_same, Paired.mapP r fun _ _ q => ⟨q.1, q.2.mono (Same.refl _) pre⟩⟩
  · intro q hq
    obtain ⟨ps, e1, e2, e3⟩ := hv.tab q hq
    refine ⟨ps, by rw [upd_ne (fun z => by rw [z, hp] at e1; cases e1)]; exact e1, e2, fun pos cv hc => ?_⟩
    obtain ⟨c, e4, e5⟩ := e3 pos cv hc
    exact ⟨c, e4, by rw [upd_ne (fun z => by rw [z, hp] at e5; cases e5)]; exact e5⟩
def trsOf (K : PySem.W.Frag) (mg : Str → Option Value) (T : Tg) (Φ : Fns) (E : L2.St → XK) : List Str → List ME → List (TE × TE)
  | z :: zs, m :: ms => (tC (.str z), tE K mg T Φ E m) :: trsOf K mg T Φ E zs ms
  | _, _ => []
theorem t_pairs : ∀ (zs : List Str) (ms : List ME) {σ : L2.St} {H : Hp} {F : Hp} {μ : List Addr} {g : G} {S : Sl} {Q : List (V × V) → Hp → Prop}, zs.length = ms.length → View K mg T F μ g H → RelS K mg T S σ F μ H →
    Aft K mg T (RDs K mg) (evs Φ ms S g) F μ H (fun vs H' => Q ((zs.map V.str).zip vs) H') (E σ) → tPairs (trsOf K mg T Φ E zs ms) σ H Q
  | [], [], σ, H, F, μ, g, S, Q, _, hv, hr, h => by
    simp only [evs] at h
    exact Aft.val (RP := RDs K mg) h hv .nil
  | z :: zs, m :: ms, σ, H, F, μ, g, S, Q, hl, hv, hr, h => by
    simp only [evs] at h
    refine ⟨F, μ, g, S, hv, hr, Aft.imp (Aft.bind h) fun v H1 ⟨x, F1, μ1, g1, y1, r1, h1⟩ => ?_⟩
    refine t_pairs zs ms (by simpa using hl) y1.view (hr.go y1) (Aft.imp (Aft.bind (RP := RDs K mg) h1) fun vs H2 ⟨xs, F2, μ2, g2, y2, r2, h2⟩ => ?_)
    exact Aft.val (RP := RDs K mg) h2 y2.view (.cons (r1.mono y2.ff y2.pre) r2)
theorem zip_kv : ∀ (zs : List Str) (vs : List V), (zs.map V.str).zip vs = ((zs.map (Sum.inr : Str → Key)).zip vs).map fun kv => (kV kv.1, kv.2)
  | [], _ => rfl
  | _ :: _, [] => rfl
  | z :: zs, v :: vs => by
    show (V.str z, v) :: (zs.map V.str).zip vs = (V.str z, v) :: _
    rw [zip_kv zs vs]
    rfl
theorem kvr_zip : ∀ (ks : List Key) {vs : List V} {ds : List D}, Reps K mg μ F vs ds → KVR K mg μ F (ks.zip vs) (ks.zip ds)
  | [], _, _, _ => .nil
  | _ :: _, _, _, .nil => .nil
  | k :: ks, _, _, .cons r t => .cons ⟨rfl, r⟩ (kvr_zip ks t)
theorem se_mkD {keys : List (Option Expr)} {values : List Expr} {pos : Pos} {zs : List Str} {ms : List ME} (hp : PPs X pos keys values (trsOf X.K X.mg T Φ E zs ms)) (hall : keys.all (·.isSome) = true) (hl : keys.length = values.length) (h0 : keys ≠ []) (h15 : keys.length ≤ 15) (hz : zs.length = ms.length) (hz15 : zs.length ≤ 15) :
    PE X (.Dict keys values pos) (tE X.K X.mg T Φ E (.mkD (zs.map Sum.inr) ms)) := by
  refine PE.mono (pe_disp hp hall hl h0 h15) fun σ H Q ⟨F, μ, g, S, hv, hr, h⟩ => ?_
  intro p hp0
  obtain ⟨gg, fp, mp⟩ := hv.lone (o := .dK []) hp0 (fun ps z => by cases z)
  simp only [ev] at h
  have h' := Aft.from gg h
  refine t_pairs zs ms hz gg.view (hr.go gg) (Aft.imp (Aft.bindE (RP := RDs X.K X.mg) h') fun vs H2 ⟨l, F2, μ2, g2, e, y, r, h2⟩ => ?_)
  have p2 : H2 p = some (.dK []) := y.keep p _ upd_same mp (fun ps z => by cases z)
  have fp2 : F2 p = none := by
    cases q : F2 p with
    | none => rfl
    | some u =>
      rcases y.new p u q with z | z
      · rw [fp] at z; cases z
      · rw [upd_same] at z; cases z
  have mp2 : p ∉ μ2 := fun z => by
    rcases y.newμ p z with z | z
    · exact mp z
    · rw [upd_same] at z; cases z
  have hlen : vs.length = ms.length := r.length.trans (evs_len _ _ _ _ _ _ e)
  refine ⟨p2, _, zip_kv zs vs, by rw [List.length_zip, List.length_map]; omega, ?_⟩
  have rk := dMerge_rep (kvr_zip (zs.map Sum.inr) r) (kvs := []) (kds := []) .nil
  have v3 := y.view.newD (o := .dK []) p2 fp2 mp2 rk
  have ga := gg.trans y
  have hmu : (μ2 ++ [p])[g2.length]? = some p := by
    have hl2 : μ2.length = g2.length := Paired.length y.view.st
    rw [← hl2, List.getElem?_append_right (Nat.le_refl _)]
    simp
  have gf : Go X.K X.mg T F μ H F2 (μ2 ++ [p]) (g2 ++ [.dict (dMerge [] ((zs.map Sum.inr).zip l))]) (upd H2 p (.dK (mergeK [] ((zs.map Sum.inr).zip vs)))) := by
    refine ⟨v3, ga.ff, ga.pre.trans ⟨[p], rfl⟩, ga.new, fun a ha => ?_, fun a o q hm ht => ?_, fun a o q => ?_⟩
    · rcases List.mem_append.mp ha with ha | ha
      · exact ga.newμ a ha
      · rw [List.mem_singleton.mp ha]; exact .inr hp0
    · rw [upd_ne (ne_of_none q hp0)]; exact ga.keep a o q hm ht
    · obtain ⟨o', e'⟩ := ga.dom a o q
      exact ⟨o', by rw [upd_ne (ne_of_none q hp0)]; exact e'⟩
  have h3 : Aft X.K X.mg T (RD X.K X.mg) (.ok (.ptr g2.length) (g2 ++ [.dict (dMerge [] ((zs.map Sum.inr).zip l))])) F μ H Q (E σ) := by
    rw [e] at h
    exact h
  exact h3 (.ref p) F2 (μ2 ++ [p]) _ gf (.ptr hmu)
/-! ### a, b = e1, e2 -/
theorem ss_par {x y : Str} {i j : Nat} {px py pt pt2 pos : Pos} {kt k2 : Nat} {a b : Expr} {ma mb : ME} (ok : CtxOk T Φ L N sc cs k E X) (hh : L.ev = none) (hi : N[i]? = some x) (hj : N[j]? = some y) (hij : i ≠ j) (hx : sc.names.lookup x = some .local) (hy : sc.names.lookup y = some .local) (hsa : notStar a = true) (hsb : notStar b = true)
    (hw : swappedStores [.Tuple [.Name x px, .Name y py] kt pt] (.Tuple [a, b] k2 pt2) X.env = pure (some [x, y])) (ha : PE X a (tE X.K X.mg T Φ E ma)) (hb : PE X b (tE X.K X.mg T Φ E mb)) :
    PS X (.Assign [.Tuple [.Name x px, .Name y py] kt pt] (.Tuple [a, b] k2 pt2) pos) (tM X.K X.mg T Φ E (.par i j ma mb)) := by
  refine PS.mono (ps_par (ok.calm hh) (by rw [ok.hN]; exact ok.nd) (by rw [ok.hN]; exact hi) (by rw [ok.hN]; exact hj) hij (by rw [ok.hsc]; exact hx) (by rw [ok.hsc]; exact hy) (pa_cons ha (pa_cons hb pa_nil (star_of hsb)) (star_of hsa)) hw rfl) fun D σ H ⟨F, μ, g, S, hv, hr, h⟩ => ?_
  simp only [exec] at h
  refine ⟨F, μ, g, S, hv, hr, Aft.imp (AftS.bind (RP := RD X.K X.mg) hr h) fun v H1 ⟨d, F1, μ1, g1, y1, r1, h1⟩ => ?_⟩
  have hr1 := hr.go y1
  refine ⟨F1, μ1, g1, S, y1.view, hr1, Aft.imp (AftS.bind (RP := RD X.K X.mg) hr1 h1) fun w H2 ⟨d2, F2, μ2, g2, y2, r2, h2⟩ => ?_⟩
  refine ⟨v, w, rfl, h2 _ F2 μ2 H2 (Go.refl y2.view).toO (((hr1.go y2).set (r1.mono y2.ff y2.pre)).set r2) fun c o => ?_⟩
  obtain ⟨n, xs, o1, o2⟩ := o
  obtain ⟨n1, o3⟩ := set_own o1
  obtain ⟨n2, o4⟩ := set_own o3
  rw [List.getElem?_set_ne (Ne.symm n1), List.getElem?_set_ne (Ne.symm n2)] at o2
  exact .inl ⟨n, xs, o4, o2⟩
/-! ### raise C(e, ..) -/
theorem paired_zip {K : PySem.W.Frag} {mg : Str → Option Value} {μ : List Addr} {F : Hp} : ∀ {fs : List Str} {vs : List V} {ds : List D}, Reps K mg μ F vs ds → Paired (fun (p : Str × V) (q : Str × D) => p.1 = q.1 ∧ Rep K mg μ F p.2 q.2) (fs.zip vs) (fs.zip ds)
  | [], _, _, _ => by rw [List.zip_nil_left, List.zip_nil_left]; exact .nil
  | _ :: _, _, _, .nil => .nil
  | f :: fs, _, _, .cons h r => .cons ⟨rfl, h⟩ (paired_zip r)
theorem ss_raise {cn : Str} {fs : List Str} {e : Expr} {es : List Expr} {ms : List ME} {p pos pos2 : Pos} (ok : CtxOk T Φ L N sc cs k E X) (hh : L.ev = none) (hx : (cn, fs) ∈ L.exs) (hg : sc.names.lookup cn = some .globalImplicit) (hdb : (cn == ("__debug__" : Str)) = false) (hs : noStars (e :: es) = true)
    (ha : PA X (e :: es) (tEs X.K X.mg T Φ E ms)) (hl : ms.length = fs.length) : PS X (.Raise (some (.Call (.Name cn p) (e :: es) [] pos)) none pos2) (tM X.K X.mg T Φ E (.raise_ cn fs ms)) := by
  obtain ⟨C, fI, cc, cda, XC⟩ := ok.exs cn fs hx
  have hgl : Gl X cn := by unfold Gl Env.kindOf; rw [ok.hsc]; exact hg
  have nd : fs.Nodup := by
    obtain ⟨_, _, _, _, _, _, _, _, _, _, _, _, _, _, _, _, _, _, _, _, _, _, _, _, _, _, _, _, _, _, _, _, _, _, _, _, hnd⟩ := XC.fn
    exact (List.nodup_cons.mp hnd).2
  have hs' := hs
  simp only [noStars, Bool.and_eq_true] at hs'
  refine PS.mono (ps_raise (ok.calm hh) (ok.tk hh) (pmk_exc XC (ok.room hh) nd ha hgl hdb (star_of hs'.1) (stars_of hs'.2))) fun D σ H ⟨F, μ, g, S, hv, hr, h⟩ => ?_
  simp only [exec] at h
  refine ⟨F, μ, g, S, hv, hr, ?_⟩
  cases ev : evs Φ ms S g with
  | ok l g1 =>
    rw [ev] at h
    intro vs F1 μ1 H1 y r
    refine ⟨by rw [r.length, evs_len _ _ _ _ _ _ ev]; exact hl, fun d hd => ?_⟩
    have gl := y.view.laid (p := d) (o := .xd (fs.zip vs)) hd (fun ps z => by cases z)
    exact h σ (.ref C) (some d) _ μ1 _ (y.trans gl).toO ((hr.go y).go gl) (fun a o => .inl o) ⟨XC.gC, d, fs.zip vs, rfl, upd_same, paired_zip (r.mono gl.ff gl.pre)⟩
  | exc x g1 =>
    rw [ev] at h
    exact fun cls dd F1 μ1 H1 y q => h σ cls dd F1 μ1 H1 y.toO (hr.go y) (fun a o => .inl o) q
  | bad => rw [ev] at h; exact h.elim
end
end SH

set_option Elab.async false
set_option linter.all false
set_option autoImplicit false
set_option maxRecDepth 100000
set_option maxHeartbeats 4000000
/-! the error that a suite holds: isinstance, its fields; list.count -/
namespace SH
open PySem PySem.Spec PyProof.Rows L2 LamX
section
variable {T : Tg} {Φ : Fns} {L : Lib} {N : List Str} {sc : Scope} {cs : List Str} {k : Nat} {E : L2.St → XK} {X : Cx}
variable {K : PySem.W.Frag} {mg : Str → Option Value} {F F1 F2 : Hp} {μ μ1 μ2 : List Addr} {g g1 g2 : G} {H H1 H2 : Hp} {S S1 S2 : Sl} {σ σ1 σ2 : L2.St}
theorem getErr_is {i : Nat} {x : Exc} (h : getErr S i = some x) : S[i]? = some (some (.err x)) := by
  unfold getErr at h
  split at h
  · cases h; assumption
  · cases h
/-- where the error's object stands -/
theorem err_at {v : Str} {pins : List (Addr × Obj)} {s : Shared} {a : Addr} {cls : Value} {dd : Option Addr} {D : Addr} (ok : CtxOk T Φ L N sc cs k E X) (he : L.ev = some v) (I : Inv X pins σ H s) (ht : T.err = some (a, cls, dd)) (hc : cls = .ref D) (hd : ∀ d, dd = some d → ∃ fs, H d = some (.xd fs)) :
    ∃ oe od, PySem.W.InstAt s.heap a oe D od ∧ ∀ d fs, dd = some d → H d = some (.xd fs) → ∃ (o : Obj) (mA : Str → Option Value), od = some o ∧ (∀ n, RelO (fs.lookup n) (mA n)) ∧ ∀ n, PySem.W.lookIn n o = some (mA n) := by
  obtain ⟨oe, hp, hz, vs, hv⟩ := ok.err v he a cls dd ht
  obtain ⟨hget, _⟩ := I.pin (a, oe) (List.mem_append.mpr (.inl hp))
  cases hdd : dd with
  | none =>
    refine ⟨oe, none, ⟨hget, by rw [hz.1, hc], by unfold PySem.W.notCls; rw [hv] <;> rfl, by rw [hz.2, hdd]; trivial⟩, fun d fs e => by cases e⟩
  | some d =>
    obtain ⟨fs, hf⟩ := hd d hdd
    have hx : ObjOk X.prog X.w H s.heap d (.xd fs) := I.hok d _ hf
    obtain ⟨mA, hns, hr⟩ := hx
    obtain ⟨od, ho, hl⟩ := lookIn_ns hns
    refine ⟨oe, some od, ⟨hget, by rw [hz.1, hc], by unfold PySem.W.notCls; rw [hv] <;> rfl, by rw [hz.2, hdd]; exact ho⟩, fun d' fs' e h => ?_⟩
    cases e
    rw [hf] at h
    cases h
    exact ⟨od, mA, rfl, hr, hl⟩
def rIsT (K : PySem.W.Frag) (T : Tg) : List V → Hp → VK → Prop := fun xs H Q => ∃ (a : Addr) (cls : Value) (dd : Option Addr) (D : Addr) (c : V) (cv : Value) (b : Bool), T.err = some (a, cls, dd) ∧ cls = .ref D ∧ ExcC K D ∧ (∀ d, dd = some d → ∃ fs, H d = some (.xd fs)) ∧ xs = [.ref a, c] ∧ (∀ u, RelV c u → u = cv) ∧ PySem.W.kitOne K (.ref D) cv = some b ∧ Q (.bl b) H
theorem call_isT {v : Str} (ok : CtxOk T Φ L N sc cs k E X) (he : L.ev = some v) : CallR X (.builtin "isinstance") (rIsT X.K T) := by
  intro pins s σ H xs us Q I r h
  obtain ⟨a, cls, dd, D, c, cv, b, ht, hc, C, hd, rfl, hcv, e, q⟩ := h
  cases r with
  | cons rx rr =>
    cases rr with
    | cons rt rr =>
      cases rr
      cases rx
      have ec := hcv _ rt
      subst ec
      obtain ⟨oe, od, J, _⟩ := err_at ok he I ht hc hd
      have hcl : (PySem.W.clsIn X.K D).isSome = true := by
        obtain ⟨cd, h1, _⟩ := PySem.W.any_some C.hd
        rw [h1]; rfl
      exact PySem.W.kia_one (PySem.W.kitx_exc hcl C.hg C.hk C.hs C.ha C.hn C.ht C.hm) I.kIn J e (fun z => nomatch z) fun tk => ⟨.bl b, H, I.kept (t' := tk) fun _ _ z => z, rfl, q⟩
/-- a class's name, as a value -/
theorem pe_cls {c : Str} {v : V} {cv : Value} {p : Pos} (hg : Gl X c) (h : ClsV X.mg c cv) (r : RelV v cv) (hdb : (c == ("__debug__" : Str)) = false) : PE X (.Name c p) (tC v) := by
  rcases h with h | ⟨h1, h2, h3⟩
  · exact pe_glob hg h r hdb
  · exact pe_bltn hg h1 h2 r h3 hdb
theorem err_xd {x : Exc} {cls : Value} {dd : Option Addr} (le : Same F H) (h : ExcAt K mg F μ x cls dd) : ∀ d, dd = some d → ∃ fs, H d = some (.xd fs) := by
  obtain ⟨_, d, fs, rfl, h3, _⟩ := h
  intro d' e
  cases e
  exact ⟨fs, le _ _ h3⟩
theorem se_isErr {v c : Str} {i : Nat} {l : List Str} {p p1 p2 pos : Pos} (ok : CtxOk T Φ L N sc cs k E X) (he : L.ev = some v) (hN : N[i]? = some v) (hvi : Vis sc v) (hdb : (v == ("__debug__" : Str)) = false) (hcd : (v == ("__classdict__" : Str)) = false)
    (hg : sc.names.lookup ("isinstance" : Str) = some .globalImplicit) (hf : ("isinstance" : Str) ∈ L.free) (hgc : sc.names.lookup c = some .globalImplicit) (hdc : (c == ("__debug__" : Str)) = false) (hs : (c, l) ∈ L.subs) :
    PE X (.Call (.Name "isinstance" p) [.Name v p1, .Name c p2] [] pos) (tE X.K X.mg T Φ E (.isErr i (L.exs.map (·.1)) l)) := by
  have hgl : Gl X "isinstance" := by unfold Gl Env.kindOf; rw [ok.hsc]; exact hg
  have hgl2 : Gl X c := by unfold Gl Env.kindOf; rw [ok.hsc]; exact hgc
  obtain ⟨cV, cv, r1, r2, r3, r4⟩ := ok.subs c l hs
  refine PE.mono (pe_callB (call_isT ok he) hgl (ok.free _ hf) (by decide +kernel) (pa_cons (pe_var (i := i) (pos := p1) (by rw [ok.hN]; exact hN) (by rw [ok.hsc]; exact hvi) hdb hcd) (pa_cons (pe_cls (p := p2) hgl2 r3 r1 hdc) pa_nil) rfl) (by decide) (by decide) rfl rfl) fun σ H Q h => ?_
  obtain ⟨F, μ, g, S, hv, hr, h⟩ := h
  simp only [ev] at h
  obtain ⟨z, e3, h2⟩ := Aft.lift h
  obtain ⟨x, e4, e5⟩ := Option.bind_eq_some_iff.mp e3
  obtain ⟨a, cls, dd, q1, q2, q3⟩ := hr.err i x (getErr_is e4)
  unfold isErrD at e5
  split at e5
  · rename_i hin
    cases e5
    have hin' : x.cls ∈ L.exs.map (·.1) := by simpa using hin
    obtain ⟨⟨cn, fs⟩, hm, rfl'⟩ := List.mem_map.mp hin'
    obtain ⟨D, d1, d2, d3, d4⟩ := r4 cn fs hm
    have hcls : cls = .ref D := by
      have := q3.1
      rw [← rfl'] at this
      simp only at this
      rw [d1] at this
      cases this; rfl
    refine ⟨.ref a, q2, a, cls, dd, D, cV, cv, l.contains x.cls, q1, hcls, d2.c, err_xd hv.le q3, rfl, r2, ?_, Aft.val (RP := RD X.K X.mg) h2 hv (.bl _)⟩
    rw [← rfl']
    exact d3
  · cases e5
theorem paired_lookup {f : Str} : ∀ {vs : List (Str × V)} {ds : List (Str × D)} {d : D}, Paired (fun (p : Str × V) (q : Str × D) => p.1 = q.1 ∧ Rep K mg μ F p.2 q.2) vs ds → ds.lookup f = some d → ∃ v, vs.lookup f = some v ∧ Rep K mg μ F v d
  | _, _, d, .nil, h => by cases h
  | (a, v) :: vs, (b, e) :: ds, d, .cons r t, h => by
    obtain ⟨r1, r2⟩ := r
    simp only at r1 r2
    subst r1
    simp only [List.lookup_cons] at h ⊢
    cases q : f == a with
    | true => rw [q] at h; cases h; exact ⟨v, rfl, r2⟩
    | false => rw [q] at h; exact paired_lookup t h
def knownF (exs : List (Str × List Str)) (f : Str) : List Str := (exs.filter fun e => e.2.contains f).map (·.1)
theorem se_errF {v f C : Str} {l : List Str} {i : Nat} {p pos : Pos} (ok : CtxOk T Φ L N sc cs k E X) (he : L.ev = some v) (hN : N[i]? = some v) (hvi : Vis sc v) (hdb : (v == ("__debug__" : Str)) = false) (hcd : (v == ("__classdict__" : Str)) = false)
    (hk : (C, l) ∈ L.subs) : PE X (.Attribute (.Name v p) f pos) (tE X.K X.mg T Φ E (.errF i (knownF L.exs f) f)) := by
  obtain ⟨_, _, _, _, _, r4⟩ := ok.subs C l hk
  refine ⟨fun pins s σ H Q I h => ?_⟩
  obtain ⟨F, μ, g, S, hv, hr, h⟩ := h
  simp only [ev] at h
  obtain ⟨z, e3, h2⟩ := Aft.lift h
  obtain ⟨x, e4, e5⟩ := Option.bind_eq_some_iff.mp e3
  obtain ⟨a, cls, dd, q1, q2, q3⟩ := hr.err i x (getErr_is e4)
  unfold errFD at e5
  split at e5
  · rename_i hin
    have hin' : x.cls ∈ knownF L.exs f := by simpa using hin
    obtain ⟨⟨cn, fs⟩, hm, rfl'⟩ := List.mem_map.mp hin'
    obtain ⟨hm1, hm2⟩ := List.mem_filter.mp hm
    have hm2 : f ∈ fs := by simpa using hm2
    obtain ⟨D, d1, d2, d3, d4⟩ := r4 cn fs hm1
    have hcls : cls = .ref D := by
      have := q3.1
      rw [← rfl'] at this
      simp only at this
      rw [d1] at this
      cases this; rfl
    obtain ⟨oe, od, J, hJ⟩ := err_at ok he I q1 hcls (err_xd hv.le q3)
    obtain ⟨_, d, fv, rfl, h3, h4⟩ := q3
    obtain ⟨o, mA, rfl, m1, m2⟩ := hJ d fv rfl (hv.le _ _ h3)
    obtain ⟨w, w1, w2⟩ := paired_lookup h4 e5
    obtain ⟨u, hu, ru⟩ := RelO.some_of (v := w) (o := mA f) (by rw [← w1]; exact m1 f)
    refine attr_of rfl (thn ((pe_var (i := i) (pos := p) (by rw [ok.hN]; exact hN) (by rw [ok.hsc]; exact hvi) hdb hcd).run pins s σ H (fun y H1 => y = .ref a ∧ H1 = H) I ⟨.ref a, q2, rfl, rfl⟩) fun u' s1 hh => ?_)
    obtain ⟨y, H1, I1, ry, ey, eH⟩ := hh
    subst ey
    rw [eH] at I1
    obtain rfl : u' = Value.ref a := ry
    obtain ⟨oe, od, J, hJ⟩ := err_at ok he I1 q1 hcls (fun d' e => by cases e; exact ⟨fv, hv.le _ _ h3⟩)
    obtain ⟨o, mA, rfl, m1, m2⟩ := hJ d fv rfl (hv.le _ _ h3)
    obtain ⟨u, hu, ru⟩ := RelO.some_of (v := w) (o := mA f) (by rw [← w1]; exact m1 f)
    exact HandSPX.exc_get I1.kIn J d2.c.hg d2.c.hk d2.c.hs (PySem.W.findObj_own d2.c.hd (d2.no f hm2) rfl (by rw [m2, hu])) (handed_of ru) ⟨w, H, I1.tok _, ru, Aft.val (RP := RD X.K X.mg) h2 hv w2⟩
  · cases e5
/-! ### list.count -/
def rCnt (K : PySem.W.Frag) (mg : Str → Option Value) : V → List V → Hp → VK → Prop := fun x xs H Q => ∃ F μ y d e n, Same F H ∧ xs = [y] ∧ Rep K mg μ F x d ∧ Rep K mg μ F y e ∧ countD d e = some n ∧ ∃ i, n = .int i ∧ Q (.int i) H
theorem mt_cnt (hu : X.A.units + 100 < cLine) : MtR X "list.count" (rCnt X.K X.mg) := by
  intro pins s σ H x xs v us Q I rx rxs h
  obtain ⟨F, μ, y, d, e, n, le, rfl, r1, r2, hc, i, rfl, q⟩ := h
  cases d <;> try (cases hc; done)
  rename_i l
  unfold countD at hc
  simp only at hc
  split at hc
  · rename_i hb
    cases hc
    simp only [Bool.and_eq_true] at hb
    obtain ⟨ps, a1, a2, a3⟩ := pys_plain l hb.1.1
    obtain ⟨qe, b1, b2, b3⟩ := py_plain e hb.1.2
    have hd := Nat.le_of_ble_eq_true hb.2
    obtain ⟨u, rfl, ru⟩ := rxs.one
    cases r1 with
    | lst hF rs =>
      cases rx
      obtain ⟨its, hv, ⟨o, m, ho, hcl, _, hdt⟩, _⟩ := I.list (SqL.of (le _ _ hF))
      obtain ⟨as, ra⟩ := Reps.reads I le rs hv a1
      obtain ⟨bs, rb⟩ := Rep.reads I le r2 ru b1
      have hl : s.heap.IsList _ its.toArray := ⟨o, ho, hcl, m, hdt⟩
      refine SeqAt.count_list_data (xs := ps) (d := qe) hl (by simpa using ra) rb a2 b2 (by rw [b3]; omega) ?_
      refine ⟨.int _, H, I.tok _, ⟨s.toks, ?_⟩, q⟩
      have : (ps.countP fun y => PyData.eqv y qe) = l.countP fun d => d.eqv e := by
        clear q hb hd ra hv rs a2 a3 hF
        induction l generalizing ps with
        | nil => simp only [D.pys] at a1; cases a1; rfl
        | cons d l ih =>
          obtain ⟨p, q, rfl, h1, h2⟩ := pys_cons a1
          rw [List.countP_cons, List.countP_cons, ih q h2, eqv_py d e p qe h1 b1]
      rw [this]
  · cases hc
theorem se_count {a e : Expr} {ma me : ME} {apos cpos : Pos} (ok : CtxOk T Φ L N sc cs k E X) (ha : PE X a (tE X.K X.mg T Φ E ma)) (he : PE X e (tE X.K X.mg T Φ E me)) (hs : notStar e = true) (hline : (apos.endLine == cpos.line) = true) (hb : ∀ env : Env, attributeBase a "count" env (eval a env) = eval a env) :
    PE X (.Call (.Attribute a "count" apos) [e] [] cpos) (tE X.K X.mg T Φ E (.count ma me)) := by
  have few : ((backTo cpos (starEach [e] X.env)).all (fun x => !x.1) && (backToKw cpos (keywordEach [] X.env)).all (fun x => x.1.isSome)
      && decide ([e].length + ([] : List Keyword).length + (if ([] : List Keyword).isEmpty then 0 else 1) < 30)) = true := by
    rw [star_of hs]; rfl
  have base := pe_bm (X := X) (o := a) (cpos := cpos) (apos := apos) PySem.F.plainAttrs_list PySem.F.slot_list_count PySem.F.type_list_count (mt_cnt ok.un) ha (pa_cons he pa_nil (star_of hs)) (hb X.env) few hline (star_of hs) rfl
  refine PE.mono base fun σ H Q h => ?_
  obtain ⟨F, μ, g, S, hv, hr, h⟩ := h
  simp only [ev] at h
  refine ⟨F, μ, g, S, hv, hr, Aft.imp (Aft.bind h) fun v H1 ⟨x, F1, μ1, g1, y1, r1, h1⟩ => ?_⟩
  have isl : (∃ l, x = .lst l) := by
    cases x <;> first | exact ⟨_, rfl⟩ | exact h1.elim
  obtain ⟨l, rfl⟩ := isl
  · cases r1 with
    | lst hF rs =>
      refine ⟨Or.inl ⟨rfl, _, Or.inl (Or.inl (y1.view.le _ _ hF))⟩, ?_⟩
      refine ⟨F1, μ1, g1, S, y1.view, hr.go y1, Aft.imp (Aft.bind (RP := RD X.K X.mg) h1) fun w H2 ⟨y, F2, μ2, g2, y2, r2, h2⟩ => ?_⟩
      obtain ⟨n, e3, h3⟩ := Aft.lift h2
      have hi : ∃ i, n = .int i := by
        unfold countD at e3
        simp only at e3
        split at e3
        · cases e3; exact ⟨_, rfl⟩
        · cases e3
      obtain ⟨i, rfl⟩ := hi
      exact ⟨F2, μ2, w, .lst l, y, .int i, y2.view.le, rfl, .lst (y2.ff _ _ hF) (rs.mono y2.ff y2.pre), r2, e3, i, rfl, Aft.val (RP := RD X.K X.mg) h3 y2.view (.int _)⟩
end
end SH

set_option Elab.async false
set_option linter.all false
set_option autoImplicit false
set_option maxRecDepth 100000
set_option maxHeartbeats 4000000
/-! try: .. except C as e: .. -/
namespace SH
open PySem PySem.Spec PyProof.Rows L2 LamX
/-- a def's own frame -/
structure FrOk (X : Cx) : Prop where
  stk : X.stack = X.env :: X.outer
  frm : X.env.frame = some X.env.locals
section
variable {T : Tg} {Φ : Fns} {L : Lib} {N : List Str} {sc : Scope} {cs : List Str} {k : Nat} {E : L2.St → XK} {X : Cx}
variable {K : PySem.W.Frag} {mg : Str → Option Value} {F F1 F2 : Hp} {μ μ1 μ2 : List Addr} {g g1 g2 : G} {H H1 H2 : Hp} {S S1 S2 : Sl} {σ σ1 σ2 : L2.St}
abbrev Tg.hold (T : Tg) (a : Addr) (cls : Value) (dd : Option Addr) : Tg := ⟨T.tabs, some (a, cls, dd), T.thk⟩
abbrev Lib.hot (L : Lib) (v : Str) : Lib := { L with ev := some v, fns := [], lam := false, says := [], thk := false }
theorem View.ghost {T T' : Tg} (e : T'.tabs = T.tabs) (v : View K mg T F μ g H) (hb : ∀ b, T'.thk = some b → Same b.F F ∧ Pre b.μ μ) : View K mg T' F μ g H := ⟨v.le, v.nt, v.nod, v.off, v.st, by rw [e]; exact v.tab, by rw [e]; exact v.tbs, hb⟩
theorem GoO.ghost {T T' : Tg} {O : Addr → Prop} (e : T'.tabs = T.tabs) (hb : ∀ b, T'.thk = some b → Same b.F F ∧ Pre b.μ μ) (x : GoO K mg T O F μ H F1 μ1 g1 H1) : GoO K mg T' O F μ H F1 μ1 g1 H1 := ⟨x.view.ghost e fun b h => ⟨(hb b h).1.trans x.ff, (hb b h).2.trans x.pre⟩, x.ff, x.pre, x.new, x.newμ, x.keep, x.dom⟩
theorem CtxOk.inTry {W : WX} {pn : List (Addr × Obj)} {xe : Value → Shared → Prop} (ok : CtxOk T Φ L N sc cs k E X) (hh : L.ev = none) (tk : Takes (X.tr pn xe) W) (po : PassesOwn (model X.prog X.w) X.A X.env xe) : CtxOk T Φ L N sc cs k (fun σ cls d H => W cls d σ H) (X.tr pn xe) where
  hN := ok.hN
  nd := ok.nd
  calm := ok.calm
  un := ok.un
  hsc := ok.hsc
  room := ok.room
  grd := ok.grd
  pass := fun _ σ => passAt tk σ
  fns := fun i f h => ⟨(ok.fns i f h).at_⟩
  free := ok.free
  con := ok.con
  st := ok.st
  po := fun _ => po
  exs := ok.exs
  tk := fun _ => tk
  err := fun v hv => by rw [hh] at hv; cases hv
  subs := ok.subs
  cold := ok.cold
  lamOk := fun h => ⟨(ok.lamOk h).ex⟩
  low := fun h => ⟨(ok.low h).1, fun i f hf => ⟨((ok.low h).2 i f hf).at_⟩⟩
  says := ok.says
  thk := fun h => ok.thk h
  hots := ok.hots
theorem CtxOk.inSuite {a : Addr} {oe : Obj} {cls : Value} {d : Option Addr} {pn : List (Addr × Obj)} {v : Str} (ok : CtxOk T Φ L N sc cs k E X) (hz : Zc cls d oe) (hf : ∃ vs, oe.data = .fields vs) : CtxOk (T.hold a cls d) Φ (L.hot v) N sc cs k EF (X.suite a ((a, oe) :: pn)) where
  hN := ok.hN
  nd := ok.nd
  calm := fun h => by cases h
  un := ok.un
  hsc := ok.hsc
  room := fun h => by cases h
  grd := ok.grd
  pass := fun h => by cases h
  fns := fun i f h => by cases h
  free := ok.free
  con := ok.con
  st := ok.st
  po := fun h => by cases h
  exs := ok.exs
  tk := fun h => by cases h
  err := fun _ _ a' c' d' e => by
    cases e
    exact ⟨oe, List.mem_cons_self, hz, hf⟩
  subs := ok.subs
  cold := fun h => by cases h
  lamOk := fun h => by cases h
  low := fun h => by cases h
  says := fun x z h => by cases h
  thk := fun h => by cases h
  hots := fun x h hm => ⟨⟨(ok.hots x h hm).1.dp, (ok.hots x h hm).1.un⟩, (ok.hots x h hm).2⟩
/-- the error comes into its slot -/
theorem RelS.hold {a : Addr} {cls : Value} {dd : Option Addr} {x : Exc} {i : Nat} (ht : T.err = none) (r : RelS K mg T S σ F μ H) (hx : ExcAt K mg F μ x cls dd) : RelS K mg (T.hold a cls dd) (S.set i (some (.err x))) (σ.set i (some (.ref a))) F μ H := by
  have at_ : ∀ {j : Nat} {o : SV}, (S.set i (some (.err x)))[j]? = some (some o) → (o = .err x ∧ i = j ∧ i < S.length) ∨ (i ≠ j ∧ S[j]? = some (some o)) := fun {j o} h => by
    by_cases hj : i = j
    · subst hj
      have hl : i < S.length := by
        have := (List.getElem?_eq_some_iff.mp h).1
        rwa [List.length_set] at this
      rw [List.getElem?_set_self hl] at h
      cases h
      exact .inl ⟨rfl, rfl, hl⟩
    · rw [List.getElem?_set_ne hj] at h
      exact .inr ⟨hj, h⟩
  refine ⟨by rw [List.length_set, List.length_set]; exact r.len, fun j d h => ?_, fun j xs h => ?_, fun j1 j2 xs ys b h1 h2 h3 h4 => ?_, fun j y h => ?_, fun j t h => ?_⟩
  rotate_right
  · obtain ⟨hj, h⟩ := set_thk h (fun t z => by cases z)
    rw [List.getElem?_set_ne hj]
    exact r.thk j t h
  · rcases at_ h with ⟨z, _⟩ | ⟨hj, h⟩
    · cases z
    · rw [List.getElem?_set_ne hj]
      exact r.dat j d h
  · rcases at_ h with ⟨z, _⟩ | ⟨hj, h⟩
    · cases z
    · rw [List.getElem?_set_ne hj]
      exact r.own j xs h
  · rcases at_ h1 with ⟨z, _⟩ | ⟨hj1, h1⟩
    · cases z
    · rcases at_ h2 with ⟨z, _⟩ | ⟨hj2, h2⟩
      · cases z
      · rw [List.getElem?_set_ne hj1] at h3
        rw [List.getElem?_set_ne hj2] at h4
        exact r.apart j1 j2 xs ys b h1 h2 h3 h4
  · rcases at_ h with ⟨z, rfl, hl⟩ | ⟨hj, h⟩
    · cases z
      exact ⟨a, cls, dd, rfl, by rw [List.getElem?_set_self (by rw [← r.len]; exact hl)], hx⟩
    · obtain ⟨_, _, _, z, _⟩ := r.err j y h
      rw [ht] at z
      cases z
theorem clr_get {i j : Nat} {o : SV} (h : (clr i S)[j]? = some (some o)) : i ≠ j ∧ S[j]? = some (some o) ∧ (∀ x, o ≠ .err x) ∧ ∀ x, o ≠ .thk x := by
  unfold clr at h
  rw [List.getElem?_map] at h
  by_cases hj : i = j
  · subst hj
    by_cases hl : i < S.length
    · rw [List.getElem?_set_self hl] at h
      cases h
    · rw [List.getElem?_eq_none (by rw [List.length_set]; omega)] at h
      cases h
  · rw [List.getElem?_set_ne hj] at h
    cases q : S[j]? with
    | none => rw [q] at h; cases h
    | some u =>
      rw [q] at h
      cases u with
      | none => cases h
      | some v =>
        cases v with
        | err x => cases h
        | thk x => cases h
        | dat d => cases h; exact ⟨hj, rfl, (fun x z => by cases z), (fun x z => by cases z)⟩
        | own d => cases h; exact ⟨hj, rfl, (fun x z => by cases z), (fun x z => by cases z)⟩
theorem RelS.clr {T T' : Tg} {i : Nat} (r : RelS K mg T' S σ F μ H) : RelS K mg T (clr i S) (σ.set i none) F μ H := by
  refine ⟨by unfold SH.clr; rw [List.length_map, List.length_set, List.length_set]; exact r.len, fun j d h => ?_, fun j xs h => ?_, fun j1 j2 xs ys b h1 h2 h3 h4 => ?_, fun j y h => ?_, fun j t h => absurd rfl ((clr_get h).2.2.2 t)⟩
  · obtain ⟨hj, h, _⟩ := clr_get h
    rw [List.getElem?_set_ne hj]
    exact r.dat j d h
  · obtain ⟨hj, h, _⟩ := clr_get h
    rw [List.getElem?_set_ne hj]
    exact r.own j xs h
  · obtain ⟨hj1, h1, _⟩ := clr_get h1
    obtain ⟨hj2, h2, _⟩ := clr_get h2
    rw [List.getElem?_set_ne hj1] at h3
    rw [List.getElem?_set_ne hj2] at h4
    exact r.apart j1 j2 xs ys b h1 h2 h3 h4
  · exact absurd rfl ((clr_get h).2.2.1 y)
theorem own_clr {i : Nat} {a : Addr} (o : OwnAt (clr i S) (σ.set i none) a) : OwnAt S σ a := by
  obtain ⟨j, xs, h1, h2⟩ := o
  obtain ⟨hj, h1, _⟩ := clr_get h1
  rw [List.getElem?_set_ne hj] at h2
  exact ⟨j, xs, h1, h2⟩
theorem own_hold {i : Nat} {a b : Addr} {x : Exc} (o : OwnAt (S.set i (some (.err x))) (σ.set i (some (.ref b))) a) : OwnAt S σ a := by
  obtain ⟨j, xs, h1, h2⟩ := o
  by_cases hj : i = j
  · subst hj
    have hl : i < S.length := by
      have := (List.getElem?_eq_some_iff.mp h1).1
      rwa [List.length_set] at this
    rw [List.getElem?_set_self hl] at h1
    cases h1
  · rw [List.getElem?_set_ne hj] at h1 h2
    exact ⟨j, xs, h1, h2⟩
/-- behind a suite -/
theorem suite_end {i : Nat} {a : Addr} {cls : Value} {dd : Option Addr} {r : SR} {D : Ends} (hv : View K mg T F μ g H) (h : AftS K mg T S σ (endTry i r) F μ H D E) :
    AftS K mg (T.hold a cls dd) S σ r F μ H { nx := fun σ' H' => D.nx (σ'.set i none) H', rt := D.rt, bk := fun σ' H' => D.bk (σ'.set i none) H', ct := fun σ' H' => D.ct (σ'.set i none) H' } EF := by
  cases r with
  | next S2 g2 => exact fun σ' F' μ' H' y rl hs => h (σ'.set i none) F' μ' H' (GoO.ghost (T := T.hold _ cls dd) (T' := T) rfl hv.bas y) rl.clr fun a o => hs a (own_clr o)
  | brk S2 g2 => exact fun σ' F' μ' H' y rl hs => h (σ'.set i none) F' μ' H' (GoO.ghost (T := T.hold _ cls dd) (T' := T) rfl hv.bas y) rl.clr fun a o => hs a (own_clr o)
  | cont S2 g2 => exact fun σ' F' μ' H' y rl hs => h (σ'.set i none) F' μ' H' (GoO.ghost (T := T.hold _ cls dd) (T' := T) rfl hv.bas y) rl.clr fun a o => hs a (own_clr o)
  | ret d g2 => exact fun v F' μ' H' y rl => h v F' μ' H' (GoO.ghost (T := T.hold _ cls dd) (T' := T) rfl hv.bas y) rl
  | exc e S2 g2 => exact h.elim
  | bad => exact h.elim
theorem ss_try {C v : Str} {l : List Str} {i : Nat} {body suite : List Stmt} {b₀ : Stmt} {mb ms : List MS} {np pos pos' : Pos} (ok : CtxOk T Φ L N sc cs k E X) (fr : FrOk X) (hh : L.ev = none) (hi : N[i]? = some v) (hv : sc.names.lookup v = some .local) (hg : sc.names.lookup C = some .globalImplicit) (hdc : (C == ("__debug__" : Str)) = false) (hs : (C, l) ∈ L.subs)
    (hb : ∀ (E : L2.St → XK) (X : Cx), CtxOk T Φ L N sc cs k E X → FrOk X → PSs X body (tMs X.K X.mg T Φ E mb))
    (hsu : ∀ (T : Tg) (X : Cx), CtxOk T Φ (L.hot v) N sc cs k EF X → FrOk X → PSs X (b₀ :: suite) (tMs X.K X.mg T Φ EF ms)) :
    PS X (.Try body [.ExceptHandler (some (.Name C np)) (some v) (b₀ :: suite) pos'] [] [] pos) (tM X.K X.mg T Φ E (.try_ mb (L.exs.map (·.1)) l i ms)) := by
  have hgl : Gl X C := by unfold Gl Env.kindOf; rw [ok.hsc]; exact hg
  obtain ⟨cV, cv, r1, r2, r3, r4⟩ := ok.subs C l hs
  have hnm : L2.Names X C cv := ⟨hgl, hdc, r3⟩
  refine PS.mono (ps_try_as (i := i) (c := cv) (Wout := fun cls d σ H => E σ cls d H) (tb := fun W => tMs X.K X.mg T Φ (fun σ cls d H => W cls d σ H) mb) (ts := fun a cls d => tMs X.K X.mg (T.hold a cls d) Φ EF ms) fr.stk fr.frm (by rw [ok.hN]; exact ok.nd) (by rw [ok.hN]; exact hi) (by unfold Env.kindOf; rw [ok.hsc]; exact hv) hnm (ok.tk hh)
    (fun W pn xe tk po => hb _ _ (ok.inTry hh tk po) ⟨fr.stk, fr.frm⟩) (fun a oe cls d pn hz hf => hsu _ _ (ok.inSuite hz hf) ⟨fr.stk, fr.frm⟩)) fun D σ H ⟨F, μ, g, S, hvw, hr, h⟩ => ?_
  refine ⟨F, μ, g, S, hvw, hr, ?_⟩
  simp only [exec] at h
  cases e : execs Φ mb S g with
  | next S1 g1 => rw [e] at h; exact h
  | brk S1 g1 => rw [e] at h; exact h
  | cont S1 g1 => rw [e] at h; exact h
  | ret d g1 => rw [e] at h; exact h
  | bad => rw [e] at h; exact h
  | exc x S1 g1 =>
    rw [e] at h
    simp only at h
    intro σ' cls dd F' μ' H' y rl ho hx
    split at h
    · rename_i hin
      have hin' : x.cls ∈ L.exs.map (·.1) := by simpa using hin
      obtain ⟨⟨cn, fs⟩, hm, rfl'⟩ := List.mem_map.mp hin'
      obtain ⟨D', d1, d2, d3, d4⟩ := r4 cn fs hm
      have hcls : cls = .ref D' := by
        have := hx.1
        rw [← rfl'] at this
        simp only at this
        rw [d1] at this
        cases this; rfl
      simp only at rfl'
      refine ⟨l.contains x.cls, by rw [hcls, ← rfl']; exact d4, fun hb' a na => ?_, fun hb' => ?_⟩
      · rw [if_pos hb'] at h
        refine ⟨F', μ', g1, S1.set i (some (.err x)), View.ghost (T := T) (T' := T.hold a cls dd) rfl y.view y.view.bas, rl.hold (ok.cold hh) hx, suite_end (E := E) y.view ?_⟩
        exact AftS.from y (fun a o => ho a (own_hold o)) h
      · rw [if_neg (by rw [hb']; decide)] at h
        exact h σ' cls dd F' μ' H' y rl ho hx
    · exact h.elim
end
end SH

set_option Elab.async false
set_option linter.all false
set_option autoImplicit false
set_option maxRecDepth 100000
set_option maxHeartbeats 4000000
/-! a def that gets the error that is handled -/
namespace SH
open PySem PySem.Spec PyProof.Rows L2 LamX
section
variable {T : Tg} {Φ : Fns} {L : Lib} {N : List Str} {sc : Scope} {cs : List Str} {k : Nat} {E : L2.St → XK} {X : Cx}
theorem se_errCall {x v : Str} {h : Exc → G → Res D} {i : Nat} {q pv pos : Pos} (ok : CtxOk T Φ L N sc cs k E X) (he : L.ev = some v) (hN : N[i]? = some v) (hvi : Vis sc v) (hdb : (v == ("__debug__" : Str)) = false) (hcd : (v == ("__classdict__" : Str)) = false)
    (hx : (x, h) ∈ L.hots) (hg : sc.names.lookup x = some .globalImplicit) (hdx : (x == ("__debug__" : Str)) = false) : PE X (.Call (.Name x q) [.Name v pv] [] pos) (tE X.K X.mg T Φ E (.errCall h i)) := by
  obtain ⟨rm, f, hm, hk, run⟩ := ok.hots x h hx
  refine ⟨fun pins s σ H Q I hq => ?_⟩
  obtain ⟨F, μ, g, S, hv, hr, ha⟩ := hq
  simp only [ev] at ha
  cases e : getErr S i with
  | none => rw [e] at ha; exact ha.elim
  | some ex =>
    rw [e] at ha
    simp only at ha
    obtain ⟨a, cls, dd, t1, t2, t3⟩ := hr.err i ex (getErr_is e)
    obtain ⟨oe, hp, hz, hf⟩ := ok.err v he a cls dd t1
    have aft : Aft X.K X.mg T (RD X.K X.mg) (okOnly (h ex g)) F μ H Q (fun _ _ _ => False) := by
      cases e2 : h ex g with
      | ok d g1 => rw [e2] at ha; exact ha
      | exc y g1 => rw [e2] at ha; exact ha.elim
      | bad => rw [e2] at ha; exact ha.elim
    refine wpAny_Call_Name_kw (ld_glob I (gl_of ok hg) hm ?_ hdx)
    have pv' : PA X [.Name v pv] (tCons _ tNil) := pa_cons (pe_var (i := i) (by rw [ok.hN]; exact hN) (by rw [ok.hsc]; exact hvi) hdb hcd) pa_nil rfl
    refine PySem.W.callWith_K (h₀ := X.base) I.ok.mod.kin hk (thn (pv'.run pos pins s σ H (fun vs H1 => vs = [V.ref a] ∧ H1 = H) I ⟨_, t2, rfl, rfl⟩) fun us s1 ⟨vs, H1, I1, r, q1, q2⟩ => ⟨I1.kIn, ?_⟩) rfl rfl
    subst q1 q2
    have hu : us = [.ref a] := by
      cases r with
      | cons r1 r2 => cases r1; cases r2; rfl
    subst hu
    have P1 := I1.pin (a, oe) (List.mem_append_left _ hp)
    have hpin : L2H.PinOk X.stack H1 s1 (a, oe) := ⟨P1.1, P1.2.1, fun hm => (List.mem_cons.mp (I1.stkSub a hm)).elim P1.2.2.1 P1.2.2.2.1, P1.2.2.2.2⟩
    refine wpAny_call (codeAny_mono (run X.A X.stack s1 H1 Q (a, oe) T F μ g cls dd ex rm ok.grd hpin I1.env0 hz hf t1 hv t3 aft) fun r s' hq => ?_)
    cases r with
    | error e =>
      obtain ⟨_, _, _, _, _, _, _, _, _, _, _, _, hE⟩ := hq
      exact hE.elim
    | ok fl =>
      cases fl with
      | ret u => exact I1.after hq
      | next => exact False.elim hq
      | brk => exact False.elim hq
      | cont => exact False.elim hq
end
end SH

set_option Elab.async false
set_option linter.all false
set_option autoImplicit false
set_option maxRecDepth 100000
set_option maxHeartbeats 4000000
/-! x(lambda: e), x a def that calls what it gets -/
namespace SH
open PySem PySem.Spec PyProof.Rows L2 LamX
def noPar : Arguments → Bool
  | ⟨[], [], none, [], [], none, []⟩ => true
  | _ => false
theorem noPar_is {a : Arguments} (h : noPar a = true) : a = ⟨[], [], none, [], [], none, []⟩ := by
  unfold noPar at h
  split at h
  · rfl
  · cases h
abbrev Lib.inLam (L : Lib) : Lib := { L with lam := false, says := [], thk := false, hots := [] }
theorem among_mono {pos : Pos} {c : Value} {m : List Value} (l : List Value) (h : codeAmong pos l = some c) : codeAmong pos (l ++ m) = some c := by
  fun_induction codeAmong pos l with
  | case1 line t col u c' rest hc =>
    simp only [List.cons_append, codeAmong, hc, if_true]
    exact h
  | case2 line t col u c' rest hc ih =>
    have hc' : (line == ↑pos.line && col == ↑pos.col) = false := by simpa using hc
    simp only [List.cons_append, codeAmong, hc', Bool.false_eq_true, if_false]
    exact ih h
  | case3 => cases h
theorem datS_get {S : Sl} {i : Nat} {o : SV} (h : (datS S)[i]? = some (some o)) : ∃ d, o = .dat d ∧ S[i]? = some (some (.dat d)) := by
  unfold datS at h
  rw [List.getElem?_map] at h
  cases q : S[i]? with
  | none => rw [q] at h; cases h
  | some u =>
    rw [q] at h
    cases u with
    | none => cases h
    | some v =>
      cases v with
      | dat d => cases h; exact ⟨d, rfl, rfl⟩
      | _ => cases h
section
variable {T : Tg} {Φ : Fns} {L : Lib} {N : List Str} {sc : Scope} {cs : List Str} {k : Nat} {E : L2.St → XK} {X : Cx}
variable {K : PySem.W.Frag} {mg : Str → Option Value} {F F1 F2 : Hp} {μ μ1 μ2 : List Addr} {g g1 g2 : G} {H H1 H2 : Hp} {S S1 S2 : Sl} {σ σ1 σ2 : L2.St}
theorem RelS.datS (r : RelS K mg T S σ F μ H) (e : Same F F1) (p : Pre μ μ1) : RelS K mg T (datS S) σ F1 μ1 H1 := by
  refine ⟨by unfold SH.datS; rw [List.length_map]; exact r.len, fun i d h => ?_, fun i d h => ?_, fun i j xs ys a h _ _ _ => ?_, fun i d h => ?_, fun i d h => ?_⟩
  · obtain ⟨d', e1, e2⟩ := datS_get h
    cases e1
    obtain ⟨v, q1, q2⟩ := r.dat i d e2
    exact ⟨v, q1, q2.mono e p⟩
  · obtain ⟨d', e1, e2⟩ := datS_get h; cases e1
  · obtain ⟨d', e1, e2⟩ := datS_get h; cases e1
  · obtain ⟨d', e1, e2⟩ := datS_get h; cases e1
  · obtain ⟨d', e1, e2⟩ := datS_get h; cases e1
/-- a lambda was made: tables alone may have grown -/
theorem View.tabled (v : View K mg T F μ g H) (e : ExtN H H1) (t : Tabs T.tabs H1) (hb : ∀ a ps, H1 a = some (.tbl ps) → H a = none → False) : Go K mg T F μ H F μ g H1 := by
  have st : Paired (fun a m => StoreAt K mg μ F H1 a m) μ g := paired_mem v.st fun a ha m r => by
    cases m with
    | dict kvs =>
      obtain ⟨k, h1, h2⟩ := r
      exact ⟨k, e _ _ h1 (fun ps z => by cases z), h2⟩
  have dom : ∀ a o, H a = some o → ∃ o', H1 a = some o' := fun a o h => by
    by_cases ht : ∃ ps, o = .tbl ps
    · obtain ⟨ps, rfl⟩ := ht
      obtain ⟨q, hq⟩ := v.tbs a ps h
      obtain ⟨ps', h', _⟩ := t _ hq
      exact ⟨_, h'⟩
    · exact ⟨o, e _ _ h (fun ps z => ht ⟨ps, z⟩)⟩
  refine ⟨⟨fun a u q => e _ _ (v.le a u q) (v.nt a u q), v.nt, v.nod, v.off, st, t, fun a ps q => ?_, v.bas⟩, Same.refl _, Pre.refl _, fun a o h => .inl h, fun a h => .inl h, fun a o h _ ht => e _ _ h ht, dom⟩
  cases hA : H a with
  | none => exact (hb a ps q hA).elim
  | some o =>
    by_cases ht : ∃ ps, o = .tbl ps
    · obtain ⟨ps', rfl⟩ := ht
      exact v.tbs a ps' hA
    · rw [e _ _ hA (fun ps z => ht ⟨ps, z⟩)] at q
      cases q
      exact absurd ⟨ps, rfl⟩ ht
/-- the lambda is made; only its maker's table may grow -/
theorem lam_new {pins : List (Addr × Obj)} {s : Shared} {c P : Addr} {params : Arguments} {body : Expr} {scope : Scope} {lp : Pos} {EE : Value → Shared → Prop} {Q : Value → Shared → Prop} (I : Inv X pins σ H s) (TB : TabB X.base X.mg c P) (hcode : X.env.code = .ref c)
    (hm : (P, X.env.qual ++ "<lambda>") ∈ T.tabs) (hu : ∀ p ∈ T.tabs, p.1 = P → p.2 = X.env.qual ++ "<lambda>") (hv : View X.K X.mg T F μ g H) (hdef : defaultsOf params X.env = ([], [])) (hfree : ∀ y ∈ scope.names, y.2 = .free → ∃ c, X.env.cells.lookup y.1 = some c)
    (h : ∀ (f c' : Addr) (pm ctv : Value) (H1 : Hp) (s' : Shared), Inv X pins σ H1 s' → Go X.K X.mg T F μ H F μ g H1 →
      s'.heap.get? f = some (PySem.W.kla_obj "<lambda>" (X.env.qual ++ "<lambda>") params body scope (cloFrom X.env.cells scope.names []) pm c' ctv) → H1 f = none → f ∉ frs X.stack → (∃ ps, H1 P = some (.tbl ps) ∧ codeAmong lp ps.toList = some (.ref c')) → Q (.ref f) s') :
    wpAny (model X.prog X.w) X.A (eval (.Lambda params body scope lp) X.env) Q EE s := by
  obtain ⟨ps, hP, ht, ha⟩ := hv.tab _ hm
  refine PySem.W.kla_eval hdef ?_
  have bP := TB.bm.keeps I.bk
  have oP : s.heap.get? P = some { cls := .none, data := .fields ps } := I.hok P _ hP
  have apart : ∀ a, s.heap.objs.size ≤ a → a ∉ frs X.stack := fun a hge hin => by
    cases List.mem_cons.mp (I.stkSub _ hin) with
    | inl e =>
      have hlt := I.lt
      rw [← e] at hlt
      exact Nat.lt_irrefl _ (Nat.lt_of_lt_of_le hlt hge)
    | inr e => exact I.nofs hge e
  cases hc : codeAmong lp ps.toList with
  | some cv =>
    obtain ⟨c', rfl, hco⟩ := ha lp cv hc
    refine PySem.W.kla_makeFunctionHit (closure_ok hfree) I.ok.glob (I.mod.glob.keeps I.bk) hcode (TB.code.keeps I.bk) oP ht hc bP fun ctv hp tk hx hsz => ?_
    have J : Inv X pins σ H { s with heap := hp.push (PySem.W.kla_obj "<lambda>" (X.env.qual ++ "<lambda>") params body scope (cloFrom X.env.cells scope.names []) ((X.mg "__name__").getD .none) c' ctv), toks := tk } := I.kept fun b o e => Heap.get?_push_of_some _ (hx b o e)
    exact h _ c' _ ctv H _ J (Go.refl hv) (Heap.get?_push_size _ rfl) (I.hok.fresh hsz) (apart _ hsz) ⟨ps, hP, hc⟩
  | none =>
    refine PySem.W.kla_makeFunction (closure_ok hfree) I.ok.glob (I.mod.glob.keeps I.bk) hcode (TB.code.keeps I.bk) oP ht hc TB.gP bP fun c' ctv hp tk hx hge hlt hrec htb => ?_
    obtain ⟨c2, oc, vs, t, e2, hoc, hd, hvs⟩ := hrec
    cases e2
    have big : s.heap.objs.size ≤ hp.objs.size := by omega
    have nC : H c' = none := I.hok.fresh hge
    have nPC : P ≠ c' := ne_of_none hP nC
    generalize eo : PySem.W.kla_obj "<lambda>" (X.env.qual ++ "<lambda>") params body scope (cloFrom X.env.cells scope.names []) ((X.mg "__name__").getD .none) c' ctv = fo at *
    have J := inv_table (t' := tk) (more := #[rawInt lp.line, rawInt lp.col, .ref c']) (h' := hp.push fo) I hP (fun b o hb e => Heap.get?_push_of_some _ (hx b o hb e)) (Heap.get?_push_of_some _ htb) hge ⟨oc, vs, t, Heap.get?_push_of_some _ hoc, hd, hvs⟩
    have at_ : ∀ b, b ≠ P → b ≠ c' → upd (upd H P (.tbl (ps ++ #[rawInt lp.line, rawInt lp.col, .ref c']))) c' (CodeO c' (X.env.qual ++ "<lambda>")) b = H b := fun b h1 h2 => by rw [upd_ne h2, upd_ne h1]
    have eX : ExtN H (upd (upd H P (.tbl (ps ++ #[rawInt lp.line, rawInt lp.col, .ref c']))) c' (CodeO c' (X.env.qual ++ "<lambda>"))) := fun b o e n => by
      rw [at_ b (fun z => ?_) (ne_of_none e nC)]
      · exact e
      · rw [z, hP] at e
        cases e
        exact n ps rfl
    have tT : Tabs T.tabs (upd (upd H P (.tbl (ps ++ #[rawInt lp.line, rawInt lp.col, .ref c']))) c' (CodeO c' (X.env.qual ++ "<lambda>"))) := fun p hp' => by
      have toL : (ps ++ #[rawInt lp.line, rawInt lp.col, .ref c']).toList = ps.toList ++ [rawInt lp.line, rawInt lp.col, .ref c'] := by simp
      by_cases hb : p.1 = P
      · rw [hu p hp' hb, hb]
        refine ⟨_, (upd_ne nPC).trans upd_same, by rw [toL]; exact PySem.TriplesOk_snoc _ _ _ _ ht, fun q cv hcv => ?_⟩
        rw [toL] at hcv
        rcases among_app _ ht hcv with z | z
        · obtain ⟨c0, e1, e2⟩ := ha q cv z
          exact ⟨c0, e1, eX _ _ e2 codeO_ne⟩
        · exact ⟨c', z, upd_same⟩
      · obtain ⟨qs, a1, a2, a3⟩ := hv.tab p hp'
        refine ⟨qs, (at_ _ hb (ne_of_none a1 nC)).trans a1, a2, fun q cv hcv => ?_⟩
        obtain ⟨c0, e1, e2⟩ := a3 q cv hcv
        exact ⟨c0, e1, eX _ _ e2 codeO_ne⟩
    refine h hp.objs.size c' ((X.mg "__name__").getD .none) ctv _ _ J (hv.tabled eX tT fun a qs q1 q2 => ?_) (by rw [eo]; exact Heap.get?_push_size _ (by rw [← eo]; rfl)) ?_ (apart _ big) ⟨_, (upd_ne nPC).trans upd_same, by rw [show (ps ++ #[rawInt lp.line, rawInt lp.col, .ref c']).toList = ps.toList ++ [rawInt lp.line, rawInt lp.col, .ref c'] by simp]; exact PySem.codeAmong_snoc _ ht hc⟩
    · by_cases z1 : a = c'
      · rw [z1, upd_same] at q1
        exact codeO_ne _ (Option.some.inj q1)
      · by_cases z2 : a = P
        · rw [z2, hP] at q2; cases q2
        · rw [at_ a z2 z1, q2] at q1; cases q1
    · rw [at_ _ (fun z => ?_) (Nat.ne_of_gt hlt)]
      · exact I.hok.fresh big
      · have := Heap.lt_size oP
        rw [← z] at this
        exact Nat.lt_irrefl _ (Nat.lt_of_lt_of_le this big)
theorem CtxOk.inLam {scope : Scope} {A' : Around} {outer' : List Env} {s' : Shared} {E' : XK} {f c' : Addr} (ok : CtxOk T Φ L N sc cs k E X) (hh : L.ev = none) (hl : L.lam = true) (hr : Room (k - 2) (A'.deeper (lamEnv X scope s'.heap.objs.size f c'))) (hg : A'.guards = some []) :
    CtxOk T (lowF Φ) L.inLam N scope [] (k - 2) (fun _ => E') (lamCx X A' outer' s' H E' scope f c') where
  hN := ok.hN
  nd := ok.nd
  calm := fun _ => rfl
  un := by
    have := hr.un
    show (A'.deeper (lamEnv X scope s'.heap.objs.size f c')).units + 100 < cLine
    omega
  hsc := rfl
  room := fun _ => hr
  grd := hg
  pass := fun _ σ => passAt (W := fun cls d _ H => E' cls d H) (takes_of rfl rfl rfl rfl) σ
  fns := fun i fi h => ⟨((ok.low hl).2 i fi h).at_⟩
  free := ok.free
  con := ok.con
  st := fun x h => by cases h
  po := fun _ => passes_of rfl
  exs := ok.exs
  tk := fun _ => takes_of rfl rfl rfl rfl
  err := fun v hv => by
    have hv : L.ev = some v := hv
    rw [hh] at hv; cases hv
  subs := ok.subs
  cold := ok.cold
  lamOk := fun h => by cases h
  low := fun h => by cases h
  says := fun x z h => by cases h
  thk := fun h => by cases h
  hots := fun x h hm => by cases hm
theorem lam_thunk {pins : List (Addr × Obj)} {s : Shared} {body : Expr} {scope : Scope} {f c' P : Addr} {lp : Pos} {pm ctv : Value} {m : ME} (ok : CtxOk T Φ L N sc cs k E X) (hh : L.ev = none) (hl : L.lam = true) (I : Inv X pins σ H s) (LS : LamS X.env.scope scope)
    (hf : s.heap.get? f = some (PySem.W.kla_obj "<lambda>" (X.env.qual ++ "<lambda>") ⟨[], [], none, [], [], none, []⟩ body scope (cloFrom X.env.cells scope.names []) pm c' ctv)) (hfn : H f = none) (hfr : f ∉ frs X.stack) (hmT : (P, X.env.qual ++ "<lambda>") ∈ T.tabs) (hco : ∃ ps, H P = some (.tbl ps) ∧ codeAmong lp ps.toList = some (.ref c'))
    (hv : View X.K X.mg T F μ g H) (hr : RelS X.K X.mg T S σ F μ H) (hbody : ∀ (T : Tg) (Φ : Fns) (k : Nat) (E : L2.St → XK) (X : Cx), CtxOk T Φ L.inLam N scope [] k E X → PE X body (tE X.K X.mg T Φ E m)) :
    Thunk X.prog X.w X.K X.mg X.base T (k - 1) f s H X.stack F μ (fun g => ev (lowF Φ) m (datS S) g) := by
  intro A' outer' s1 HZ F' μ' g' Q' E' hr' hg' e0 un hv' hF hμ ha
  have h2 : k - 1 = (k - 2) + 1 := by
    have := (ok.low hl).1
    omega
  rw [h2] at hr'
  have of1 := un.keep f _ hf hfn hfr (by simp)
  refine ⟨⟨_, _, _, _, of1⟩, ?_⟩
  obtain ⟨ps, hp1, hp2⟩ := hco
  obtain ⟨more, hp3⟩ := un.tbls _ _ hp1
  obtain ⟨ps', t1, _, t3⟩ := hv'.tab _ hmT
  have hco : HZ c' = some (CodeO c' (X.env.qual ++ "<lambda>")) := by
    have t1 : HZ P = some (.tbl ps') := t1
    rw [hp3] at t1
    cases t1
    obtain ⟨c0, e1, e2⟩ := t3 lp _ (by rw [Array.toList_append]; exact among_mono _ hp2)
    cases e1
    exact e2
  obtain ⟨⟨oc, vs, t, hoc, hdc, hvc⟩, _, _⟩ := e0.hok c' _ hco
  refine PySem.W.kla_callFunE hr'.depth of1 rfl LS.co LS.gen rfl ⟨c', oc, vs, t, rfl, hoc, hdc, hvc⟩ ?_
  have hbind : bindArgs (PySem.W.kla_fn "<lambda>" (X.env.qual ++ "<lambda>") ⟨[], [], none, [], [], none, []⟩ body scope (cloFrom X.env.cells scope.names []) pm (.ref c') ctv) ⟨[], []⟩ = pure [] := rfl
  rw [hbind]
  refine wpAny_pure (wpAny_newFunctionEnv (fun y hy => (LS.own y hy).2) (fun y hy => absurd hy (by simp)) (fun h₁ hns hsb => ⟨?_, ?_⟩) LS.kind)
  · exact (e0.mod.nolimit.keeps fun b o e => (e0.bs b o e).1).fresh _ hsb
  · have kp : ∀ b o, s1.heap.get? b = some o → h₁.get? b = some o := fun b o e => hsb.extBut b o (Nat.ne_of_lt (Heap.lt_size e)) (Heap.get?_push_of_some _ e)
    have J := lam_start2 (E := E') (f := f) (c' := c') (tk := s1.toks + ([] : List (Str × Value)).length) I LS e0 hr'.hd un hns kp
    refine PySem.W.kla_codeExpr (wpAny_mono ((hbody T (lowF Φ) (k - 2) (fun _ => E') _ (ok.inLam hh hl (hr'.deeper _) hg')).run [] _ σ HZ Q' J ⟨F', μ', g', datS S, hv', hr.datS hF hμ, ha⟩) (fun v s' hq => ?_) fun e s' hq => hq)
    obtain ⟨w', H', J', rv, q⟩ := hq
    exact ⟨w', H', J'.os, J'.bare, J'.base, J'.hok, rv, q⟩
theorem se_said {x : Str} {z : Nat} {params : Arguments} {body : Expr} {scope : Scope} {m : ME} {p lp pos : Pos} (ok : CtxOk T Φ L N sc cs k E X) (hh : L.ev = none) (hl : L.lam = true) (hs : (x, z) ∈ L.says) (hg : sc.names.lookup x = some .globalImplicit) (hdb : (x == ("__debug__" : Str)) = false) (hLS : lamSB sc scope = true) (hp : noPar params = true)
    (hbody : ∀ (T : Tg) (Φ : Fns) (k : Nat) (E : L2.St → XK) (X : Cx), CtxOk T Φ L.inLam N scope [] k E X → PE X body (tE X.K X.mg T Φ E m)) :
    PE X (.Call (.Name x p) [.Lambda params body scope lp] [] pos) (tE X.K X.mg T Φ E (.said z m)) := by
  have LS : LamS X.env.scope scope := by rw [ok.hsc]; exact lamS_by hLS
  obtain rfl := noPar_is hp
  obtain ⟨g, hm, hk, hcall⟩ := (ok.says x z hs).at_
  obtain ⟨c, P, TB, hcode, hmT, hu⟩ := (ok.lamOk hl).ex
  refine ⟨fun pins s σ H Q I h => ?_⟩
  obtain ⟨F, μ, g0, S, hv, hr, h⟩ := h
  simp only [ev] at h
  refine wpAny_Call_Name_kw (ld_glob I (gl_of ok hg) hm ?_ hdb)
  refine PySem.W.callWith_K (h₀ := X.base) I.ok.mod.kin hk ?_ (by rfl) (by rfl)
  change wpAny _ _ (spliced ((false, eval (.Lambda ⟨[], [], none, [], [], none, []⟩ body scope lp) X.env) :: backTo pos (starEach [] X.env))) _ _ s
  refine Calls.spliced_cons (lam_new I TB hcode hmT hu hv (by rfl) (LS.has I.ok) fun f c' pm ctv H1 s' I1 gg hf hfn hfr hco => ?_)
  refine Calls.spliced_nil ⟨I1.kIn, ?_⟩
  have rc := hcall X.A X.stack s' H1 f F μ g0 _ Q (E σ) (ok.room hh) ok.grd I1.env0 gg.view (lam_thunk ok hh hl I1 LS hf hfn hfr hmT hco gg.view (hr.go gg) hbody) (Aft.from gg h)
  refine wpAny_call (codeAny_mono rc fun r s2 hq => ?_)
  match r, hq with
  | .error e, hq => exact ok.pass hh σ pins H1 s' e s2 I1 hq
  | .ok (.ret u), hq => exact I1.after hq
  | .ok .next, hq => exact False.elim hq
  | .ok .brk, hq => exact False.elim hq
  | .ok .cont, hq => exact False.elim hq
/-- x(), x the callable that was handed in -/
theorem se_thk {x : Str} {j : Nat} {p pos : Pos} (ok : CtxOk T Φ L N sc cs k E X) (hh : L.ev = none) (ht : L.thk = true) (hN : N[j]? = some x) (hvi : Vis sc x) (hdb : (x == ("__debug__" : Str)) = false) (hcd : (x == ("__classdict__" : Str)) = false) : PE X (.Call (.Name x p) [] [] pos) (tE X.K X.mg T Φ E (.thk j)) := by
  refine ⟨fun pins s σ H Q I h => ?_⟩
  obtain ⟨F, μ, g, S, hv, hr, h⟩ := h
  simp only [ev, getThk] at h
  split at h
  · rename_i t hS
    obtain ⟨b, hb, rfl, hs⟩ := hr.thk j t hS
    obtain ⟨hex, hrun⟩ := ok.thk ht b hb
    refine wpAny_Call_Name_kw (thn ((pe_var (pos := p) (i := j) (by rw [ok.hN]; exact hN) (by rw [ok.hsc]; exact hvi) hdb hcd).run pins s σ H (fun v H1 => v = .ref b.f ∧ H1 = H) I ⟨.ref b.f, hs, rfl, rfl⟩) fun u s1 ⟨v, H1, I1, r1, q1⟩ => ?_)
    obtain ⟨ev, eH⟩ := q1
    subst ev
    rw [eH] at I1
    obtain rfl : u = Value.ref b.f := r1
    have un := I1.base
    rw [hex] at un
    obtain ⟨c1, c2⟩ := hrun s1 H F μ g Q (E σ) I1.env0 un hv h
    refine PySem.W.callWith_F0 c1 (wpAny_call (codeAny_mono c2 fun r s2 hq => ?_))
    match r, hq with
    | .error e, hq => exact ok.pass hh σ pins H s1 e s2 I1 hq
    | .ok (.ret u), hq => exact I1.after hq
    | .ok .next, hq => exact False.elim hq
    | .ok .brk, hq => exact False.elim hq
    | .ok .cont, hq => exact False.elim hq
  · exact h.elim
end
end SH

set_option Elab.async false
set_option linter.all false
set_option autoImplicit false
set_option maxRecDepth 100000
set_option maxHeartbeats 4000000
namespace SH
open PySem PySem.Spec PyProof.Rows L2 LamX
/-! ### a def's body, run -/
def startS (n : Nat) (ds : List D) : Sl := ds.map (fun d => some (.dat d)) ++ List.replicate (n - ds.length) none
def runBody (Φ : Fns) (n : Nat) (mb : List MS) (ds : List D) (g : G) : Res D := match execs Φ mb (startS n ds) g with
  | .ret d g => .ok d g
  | .next _ g => .ok .non g
  | .exc x _ g => .exc x g
  | _ => .bad
/-- the meaning of a def, by that of those it calls -/
abbrev Mean := Fns → List D → G → Res D
def meanOf (n : Nat) (mb : List MS) : Mean := fun Φ ds g => runBody Φ n mb ds g
/-- a def that gets a callable -/
abbrev HMean := Fns → (G → Res D) → G → Res D
def startT (n : Nat) (t : G → Res D) : Sl := some (.thk t) :: List.replicate (n - 1) none
def runBodyT (Φ : Fns) (n : Nat) (mb : List MS) (t : G → Res D) (g : G) : Res D := match execs Φ mb (startT n t) g with
  | .ret d g => .ok d g
  | .next _ g => .ok .non g
  | .exc x _ g => .exc x g
  | _ => .bad
def hearOf (n : Nat) (mb : List MS) : HMean := fun Φ t g => runBodyT Φ n mb t g
def runM (o : Option Mean) (Φ : Fns) (ds : List D) (g : G) : Res D := match o with
  | some m => m Φ ds g
  | none => .bad
def runH (o : Option HMean) (Φ : Fns) (t : G → Res D) (g : G) : Res D := match o with
  | some m => m Φ t g
  | none => .bad
/-- all defs, to a depth of calls -/
def Fn (B : List Mean) (Z : List HMean) : Nat → Fns
  | 0 => badF
  | 1 => ⟨fun i ds g => if i < 1000000 then runM B[i]? badF ds g else .bad, fun i t g => if i < 1000000 then runH Z[i]? badF t g else .bad, 1⟩
  | n + 2 => ⟨fun i ds g => if i < 1000000 then runM B[i]? (Fn B Z (n + 1)) ds g else (Fn B Z n).call (i - 1000000) ds g, fun i t g => if i < 1000000 then runH Z[i]? (Fn B Z (n + 1)) t g else (Fn B Z n).hear (i - 1000000) t g, n + 2⟩
theorem Fn_lev (B : List Mean) (Z : List HMean) : ∀ k, (Fn B Z k).lev = k
  | 0 => rfl
  | 1 => rfl
  | _ + 2 => rfl
section
variable {T : Tg} {K : PySem.W.Frag} {mg : Str → Option Value} {F F1 F2 : Hp} {μ μ1 μ2 : List Addr} {g g1 g2 : G} {H H1 H2 : Hp} {S S1 S2 : Sl} {σ σ1 σ2 : L2.St}
theorem startS_dat {n : Nat} {ds : List D} {i : Nat} {s : SV} (h : (startS n ds)[i]? = some (some s)) : ∃ d, s = .dat d ∧ ds[i]? = some d := by
  unfold startS at h
  by_cases hi : i < ds.length
  · rw [List.getElem?_append_left (by simpa using hi), List.getElem?_map] at h
    cases e : ds[i]? with
    | none => rw [e] at h; cases h
    | some d => rw [e] at h; cases h; exact ⟨d, rfl, rfl⟩
  · rw [List.getElem?_append_right (by simpa using hi)] at h
    have := List.mem_of_getElem? h
    rw [List.mem_replicate] at this
    cases this.2
theorem startV_get {N : List Str} {vs : List V} {i : Nat} {v : V} (h : vs[i]? = some v) : (L2.start N vs)[i]? = some (some v) := by
  unfold L2.start
  have hi := (List.getElem?_eq_some_iff.mp h).1
  rw [List.getElem?_append_left (by simpa using hi), List.getElem?_map, h]
  rfl
theorem rel_start {N : List Str} {vs : List V} {ds : List D} (r : Reps K mg μ F vs ds) : RelS K mg T (startS N.length ds) (L2.start N vs) F μ H where
  len := by
    unfold startS L2.start
    simp only [List.length_append, List.length_map, List.length_replicate, r.length]
  dat := fun i d h => by
    obtain ⟨d', e, h'⟩ := startS_dat h
    cases e
    obtain ⟨v, e1, e2⟩ := r.get h'
    exact ⟨v, startV_get e1, e2⟩
  own := fun i xs h => by
    obtain ⟨d', e, _⟩ := startS_dat h
    cases e
  apart := fun i j xs ys a h _ _ _ => by
    obtain ⟨d', e, _⟩ := startS_dat h
    cases e
  err := fun i x h => by
    obtain ⟨d', e, _⟩ := startS_dat h
    cases e
  thk := fun i x h => by
    obtain ⟨d', e, _⟩ := startS_dat h
    cases e
theorem no_own {n : Nat} {ds : List D} {a : Addr} : ¬ OwnAt (startS n ds) σ a := fun ⟨i, xs, h, _⟩ => by
  obtain ⟨d', e, _⟩ := startS_dat h
  cases e
theorem GoO.go {O : Addr → Prop} (x : GoO K mg T O F μ H F1 μ1 g1 H1) (h : ∀ a, ¬ O a) : Go K mg T F μ H F1 μ1 g1 H1 :=
  ⟨x.view, x.ff, x.pre, fun a o q => by rcases x.new a o q with q | q | q; exact .inl q; exact .inr q; exact (h a q).elim, x.newμ, fun a o q1 q2 q3 => x.keep a o q1 q2 q3 (h a), x.dom⟩
end
section
variable {P : Program} {w : World} {K : PySem.W.Frag} {mg : Str → Option Value} {base : Heap} {T : Tg} {L : Lib}
/-- what the module's names are, there -/
structure LibOk (P : Program) (w : World) (K : PySem.W.Frag) (mg : Str → Option Value) (base : Heap) (T : Tg) (L : Lib) : Prop where
  free : ∀ x ∈ L.free, mg x = none
  con : ∀ x d, (x, d) ∈ L.con → ∃ v u, mg x = some u ∧ RelV v u ∧ ∀ μ F, Rep K mg μ F v d
  exs : ∀ cn fs, (cn, fs) ∈ L.exs → ∃ C fI cc cda, ExC P K mg cn fs C fI cc cda
  ev : L.ev = none
  te : T.err = none
  subs : ∀ C l, (C, l) ∈ L.subs → SubOk K mg L.exs C l
  nth : L.thk = false
  tt : T.thk = none
  hots : ∀ x h, (x, h) ∈ L.hots → HotP P w K mg base x h
structure FnAtP (P : Program) (w : World) (K : PySem.W.Frag) (mg : Str → Option Value) (base : Heap) (T : Tg) (Φ : Fns) (k i : Nat) (fi : FnI) : Prop where
  at_ : ∃ f fd dvs its, mg fi.name = some (.ref f) ∧ PySem.W.keepIn K (.ref f) = true ∧ FnG P w K mg base k f fd fi.ps (spD K mg T Φ fi.ps.length i) ∧
    Vals dvs its ∧ (∀ μ F, Reps K mg μ F dvs fi.dfl) ∧
    (∀ (s : Shared) (us : List Value) (kw : List (Str × Value)) (vs : List Value), K.In s.heap → bindP fi.ps us kw its = some vs → BindsTo s fd ⟨us, kw⟩ (fi.ps.zip vs))
theorem ctx_def {b : Bool} {Φ : Fns} {N : List Str} {qual : Str} {scope : Scope} {f : Addr} {cdv : Value} {A : Around} {outer : List Env} {s : Shared} {H : Hp} {E : XK} {k : Nat} (hL : LibOk P w K mg base T L) (hF : ∀ i fi, L.fns[i]? = some fi → FnAtP P w K mg base T Φ k i fi) (nd : N.Nodup)
    (hr : Room k (A.deeper (envOfC qual scope s.heap.objs.size f cdv))) (hg : A.guards = some []) (hlam : b = true → LamOk base mg T cdv (qual ++ ".<locals>.")) (hlow : b = true → 2 ≤ k ∧ ∀ i fi, L.fns[i]? = some fi → FnAtP P w K mg base T (lowF Φ) (k - 2) i fi) (hsay : ∀ x z, (x, z) ∈ L.says → SaidAt P w K mg base T Φ k x z) : CtxOk T Φ { L with lam := b } N scope (cellNames scope) k (fun _ => E) (cxOf (CX P w) P w K mg base N qual scope f cdv A outer s H E) where
  hN := rfl
  nd := nd
  calm := fun _ => rfl
  un := by
    have := hr.un
    show (A.deeper (envOfC qual scope s.heap.objs.size f cdv)).units + 100 < cLine
    omega
  hsc := rfl
  room := fun _ => hr
  grd := hg
  pass := fun _ σ => passAt (W := fun cls d _ H => E cls d H) (takes_of rfl rfl rfl rfl) σ
  fns := fun i fi h => ⟨(hF i fi h).at_⟩
  free := hL.free
  con := hL.con
  st := fun x _ => rfl
  po := fun _ => passes_of rfl
  exs := hL.exs
  tk := fun _ => takes_of rfl rfl rfl rfl
  err := fun v hv => by rw [hL.ev] at hv; cases hv
  subs := hL.subs
  cold := fun _ => hL.te
  lamOk := hlam
  low := fun h => ⟨(hlow h).1, fun i fi hf => ⟨((hlow h).2 i fi hf).at_⟩⟩
  says := hsay
  thk := fun h => by rw [hL.nth] at h; cases h
  hots := fun x h hm => ⟨⟨by have := hr.dp; show (A.deeper (envOfC qual scope s.heap.objs.size f cdv)).depth + 3 * 0 + 5 < _; omega, by have := hr.un; show (A.deeper (envOfC qual scope s.heap.objs.size f cdv)).units + 16 * 0 + 200 < _; omega⟩, hL.hots x h hm⟩
/-- a def keeps its meaning -/
theorem fn_body {b : Bool} {Φ : Fns} {N ps : List Str} {x qual : Str} {params : Arguments} {body : List Stmt} {scope : Scope} {dvs : List V} {kws : List (Str × V)} {f : Addr} {fd : FuncData} {k i : Nat} {mb : List MS} (hL : LibOk P w K mg base T L) (hF : ∀ i fi, L.fns[i]? = some fi → FnAtP P w K mg base T Φ k i fi) (hlam : b = true → ∀ c, fd.code = .ref c → LamOk base mg T (.ref c) (qual ++ ".<locals>.")) (hlow : b = true → 2 ≤ k ∧ ∀ i fi, L.fns[i]? = some fi → FnAtP P w K mg base T (lowF Φ) (k - 2) i fi) (hsay : ∀ x z, (x, z) ∈ L.says → SaidAt P w K mg base T Φ k x z)
    (FD : FunD K x qual params body scope dvs kws f fd) (S : FnScope N ps scope) (hb : ∀ (E : L2.St → XK) (X : Cx), CtxOk T Φ { L with lam := b } N scope (cellNames scope) k E X → FrOk X → PSs X body (tMs X.K X.mg T Φ E mb)) {Ψ : Fns} (hΨ : ∀ ds g, Ψ i ds g = .bad ∨ Ψ i ds g = runBody Φ N.length mb ds g) :
    FnG P w K mg base (k + 1) f fd ps (spD K mg T Ψ ps.length i) := by
  obtain ⟨oc, od, dV, kV, doc, pm, an, cdv, ct, osl, rfl, lk, hcd, _, _⟩ := FD.ex
  refine ⟨fun A outer s H args us vs Q E hr hg e0 hbd rv hl hsp => ?_⟩
  refine run_ofS lk hcd S hr e0 hbd rv hl fun hr' => ⟨_, hb _ _ (ctx_def (b := b) hL hF S.nd hr' hg (fun h => by obtain ⟨c, rfl⟩ := He.codeIn_ref hcd; exact hlam h c rfl) hlow hsay) ⟨rfl, rfl⟩, ?_⟩
  obtain ⟨F, μ, g, ds, hv, hrs, hlen, h⟩ := hsp
  refine ⟨F, μ, g, startS N.length ds, hv, rel_start hrs, ?_⟩
  rcases hΨ ds g with hb' | hb'
  · rw [hb'] at h; exact h.elim
  rw [hb'] at h
  unfold runBody at h
  cases e : execs Φ mb (startS N.length ds) g with
  | next S1 g1 =>
    rw [e] at h
    exact fun σ' F' μ' H' y _ _ => h .non F' μ' H' (y.go fun a => no_own) .non
  | ret d g1 =>
    rw [e] at h
    exact fun v F' μ' H' y r => h v F' μ' H' (y.go fun a => no_own) r
  | exc ex S1 g1 =>
    rw [e] at h
    exact fun σ' cls dd F' μ' H' y _ _ q => h cls dd F' μ' H' (y.go fun a => no_own) q
  | brk S1 g1 => rw [e] at h; exact h.elim
  | cont S1 g1 => rw [e] at h; exact h.elim
  | bad => rw [e] at h; exact h
end
end SH

set_option Elab.async false
set_option linter.all false
set_option autoImplicit false
set_option maxRecDepth 100000
set_option maxHeartbeats 4000000
namespace SH
open PySem PySem.Spec PyProof.Rows L2 LamX
/-! ### arguments come to parameters -/
theorem filterMap_pairs {α : Type} (last : List (Str × α)) : ∀ (ps : List Str), (ps.filterMap fun n => last.lookup n).length = ps.length → ps.filterMap (fun n => (last.lookup n).map (n, ·)) = ps.zip (ps.filterMap fun n => last.lookup n)
  | [], _ => rfl
  | p :: ps, h => by
    cases e : last.lookup p with
    | none =>
      simp only [List.filterMap_cons, e] at h
      have := List.length_filterMap_le (fun n => last.lookup n) ps
      simp only [List.length_cons] at h
      omega
    | some v =>
      simp only [List.filterMap_cons, e, List.length_cons, Option.map_some, List.zip_cons_cons] at h ⊢
      rw [filterMap_pairs last ps (by omega)]
theorem forIn_kw {ps : List Str} {ex : List (Str × Value)} (f : Str × Value → (List (Str × Value)) × (List (Str × Value)) → Sem (ForInStep ((List (Str × Value)) × (List (Str × Value)))))
    (hf : ∀ k v slots, ps.contains k = true → (slots.lookup k).isNone = true → f (k, v) (slots, ex) = pure (.yield (slots ++ [(k, v)], ex))) :
    ∀ (kw slots slots' : List (Str × Value)), kwIn ps slots kw = some slots' → forIn kw (slots, ex) f = pure (slots', ex)
  | [], slots, slots', h => by cases h; rw [List.forIn_nil]
  | (k, v) :: r, slots, slots', h => by
    unfold kwIn at h
    split at h
    · rename_i hc
      simp only [Bool.and_eq_true] at hc
      rw [List.forIn_cons, hf k v slots hc.1 hc.2]
      exact forIn_kw f hf r _ _ h
    · cases h
theorem forIn_df (f : Str × Value → List (Str × Value) → Sem (ForInStep (List (Str × Value))))
    (h1 : ∀ k v slots, (slots.lookup k).isNone = true → f (k, v) slots = pure (.yield (slots ++ [(k, v)]))) (h2 : ∀ k v slots, (slots.lookup k).isNone = false → f (k, v) slots = pure (.yield slots)) :
    ∀ (l slots : List (Str × Value)), forIn l slots f = pure (dfIn slots l)
  | [], slots => by rw [List.forIn_nil]; rfl
  | (k, v) :: r, slots => by
    rw [List.forIn_cons]
    unfold dfIn
    cases e : (slots.lookup k).isNone with
    | true =>
      rw [h1 k v slots e]
      exact forIn_df f h1 h2 r _
    | false =>
      rw [h2 k v slots e]
      exact forIn_df f h1 h2 r _
section
variable {K : PySem.W.Frag} {x qual : Str} {params : Arguments} {body : List Stmt} {scope : Scope} {dvs : List V} {kws : List (Str × V)} {f : Addr} {fd : FuncData} {ps : List Str}
theorem binds_gen (FD : FunD K x qual params body scope dvs kws f fd) (hp : simpleP params ps = true) : ∃ its : List Value, Vals dvs its ∧ ∀ (s : Shared) (us : List Value) (kw : List (Str × Value)) (vs : List Value), K.In s.heap → bindP ps us kw its = some vs → BindsTo s fd ⟨us, kw⟩ (ps.zip vs) := by
  obtain ⟨oc, od, dV, kV, doc, pm, an, cdv, ct, osl, rfl, lk, hcd, hD, _⟩ := FD.ex
  unfold simpleP at hp
  simp only [Bool.and_eq_true, List.isEmpty_iff, Option.isNone_iff_eq_none, decide_eq_true_eq] at hp
  obtain ⟨⟨⟨⟨h1, h2⟩, h3⟩, h4⟩, h5⟩ := hp
  have key : ∀ (its : List Value) (s : Shared) (us : List Value) (kw : List (Str × Value)) (vs : List Value), bindP ps us kw its = some vs →
      (∀ {M : Model} {A : Around} {E : Value → Shared → Prop} {Q : Option (Array Value) → Shared → Prop}, (∀ o, (o.getD #[]).toList = its → Q o s) → wpAny M A (seqItems? dV) Q E s) →
      BindsTo s (PySem.W.fnOf x qual params body scope dV kV doc pm an cdv ct) ⟨us, kw⟩ (ps.zip vs) := by
    intro its s us kw vs h hseq M A E Q hQ
    unfold bindP at h
    split at h
    · rename_i hc
      simp only [Bool.and_eq_true, decide_eq_true_eq] at hc
      split at h
      · rename_i slots hk
        split at h
        · rename_i hm
          simp only at h
          split at h
          · rename_i hl
            cases h
            unfold bindArgs
            simp only [PySem.W.fnOf, h1, h2, h3, h4, h5, List.map_nil, List.nil_append]
            rw [forIn_kw (ps := ps) (ex := []) _ (fun k v sl e1 e2 => by
              have e3 : (sl.lookup k).isSome = false := by
                cases q : sl.lookup k with
                | none => rfl
                | some z => rw [q] at e2; cases e2
              simp only [e1, Bool.true_or, if_true, e3, Bool.false_eq_true, if_false]) kw _ _ hk]
            simp only [pure_bind]
            refine wpAny_bind (hseq fun o ho => ?_)
            have hd : its.drop (its.length - ps.length) = its := by
              rw [show its.length - ps.length = 0 by omega]; rfl
            have hgt : decide (us.length > ps.length) = false := decide_eq_false (by omega)
            simp only [ho, hd, hgt, hm, Bool.false_and, Bool.not_true, Bool.false_eq_true, if_false]
            rw [forIn_df _ (fun k v sl e => by simp only [e, if_true]) (fun k v sl e => by simp only [e, Bool.false_eq_true, if_false])]
            simp only [pure_bind, List.forIn_nil, List.isEmpty_nil, Bool.not_true, Bool.false_eq_true, if_false, List.append_nil]
            refine wpAny_pure ?_
            rw [filterMap_pairs _ ps (by simpa using hl)]
            exact hQ
          · cases h
        · cases h
      · cases h
    · cases h
  rcases hD with ⟨rfl, rfl⟩ | ⟨_, t, o, its, n, rfl, lT, oT, rT⟩
  · exact ⟨[], .nil, fun s us kw vs KX h => key [] s us kw vs h fun hq => wpAny_of_eq (a := none) rfl (hq none rfl)⟩
  · exact ⟨its, rT, fun s us kw vs KX h => key its s us kw vs h fun hq => wpAny_seqItems (KX _ _ lT) oT (hq _ rfl)⟩
end
end SH

set_option Elab.async false
set_option linter.all false
set_option autoImplicit false
set_option maxRecDepth 100000
set_option maxHeartbeats 4000000
namespace SH
open PySem PySem.Spec PyProof.Rows L2 LamX
/-! ### which value goes where: by places alone -/
theorem lookup_map {α β : Type} (φ : α → β) (k : Str) : ∀ l : List (Str × α), (l.map fun p => (p.1, φ p.2)).lookup k = (l.lookup k).map φ
  | [] => rfl
  | (a, b) :: l => by
    simp only [List.map_cons, List.lookup_cons]
    cases k == a with
    | true => rfl
    | false => exact lookup_map φ k l
abbrev mp {α β : Type} (φ : α → β) (l : List (Str × α)) : List (Str × β) := l.map fun p => (p.1, φ p.2)
theorem kwIn_map {α β : Type} (φ : α → β) (ps : List Str) : ∀ (kw slots : List (Str × α)), kwIn ps (mp φ slots) (mp φ kw) = (kwIn ps slots kw).map (mp φ)
  | [], slots => rfl
  | (k, v) :: r, slots => by
    show (if (ps.contains k && ((mp φ slots).lookup k).isNone) = true then kwIn ps (mp φ slots ++ [(k, φ v)]) (mp φ r) else none) = ((if (ps.contains k && (slots.lookup k).isNone) = true then kwIn ps (slots ++ [(k, v)]) r else none) : Option (List (Str × α))).map (mp φ)
    rw [lookup_map, Option.isNone_map]
    split
    · have := kwIn_map φ ps r (slots ++ [(k, v)])
      rw [← this]
      simp [mp]
    · rfl
theorem dfIn_map {α β : Type} (φ : α → β) : ∀ (l slots : List (Str × α)), dfIn (mp φ slots) (mp φ l) = mp φ (dfIn slots l)
  | [], slots => rfl
  | (k, v) :: r, slots => by
    show (if ((mp φ slots).lookup k).isNone = true then dfIn (mp φ slots ++ [(k, φ v)]) (mp φ r) else dfIn (mp φ slots) (mp φ r)) = mp φ (if (slots.lookup k).isNone = true then dfIn (slots ++ [(k, v)]) r else dfIn slots r)
    rw [lookup_map, Option.isNone_map]
    split
    · rw [← dfIn_map φ r (slots ++ [(k, v)])]
      simp [mp]
    · exact dfIn_map φ r slots
theorem zip_mp {α β : Type} (φ : α → β) : ∀ (ps : List Str) (us : List α), ps.zip (us.map φ) = mp φ (ps.zip us)
  | [], _ => rfl
  | _ :: _, [] => rfl
  | p :: ps, u :: us => by simp only [List.map_cons, List.zip_cons_cons, mp, List.map_cons]; rw [zip_mp φ ps us]
theorem filterMap_mp {α β : Type} (φ : α → β) (last : List (Str × α)) : ∀ ps : List Str, (ps.filterMap fun n => (mp φ last).lookup n) = (ps.filterMap fun n => last.lookup n).map φ
  | [] => rfl
  | p :: ps => by
    have ih := filterMap_mp φ last ps
    rw [List.filterMap_cons, List.filterMap_cons, lookup_map]
    cases last.lookup p with
    | none => exact ih
    | some v => simp only [Option.map_some, List.map_cons]; rw [← ih]
theorem bindP_map {α β : Type} (φ : α → β) {ps : List Str} {us : List α} {kw : List (Str × α)} {its vs : List α} (h : bindP ps us kw its = some vs) : bindP ps (us.map φ) (mp φ kw) (its.map φ) = some (vs.map φ) := by
  unfold bindP at h ⊢
  simp only [List.length_map]
  split at h
  · rename_i hc
    rw [if_pos hc, zip_mp, kwIn_map]
    split at h
    · rename_i slots hk
      rw [hk]
      simp only [Option.map_some, lookup_map, Option.isNone_map]
      split at h
      · rename_i hm
        rw [if_pos hm]
        simp only at h ⊢
        rw [zip_mp, dfIn_map, filterMap_mp]
        simp only [List.length_map]
        split at h
        · rename_i hl
          rw [if_pos hl]
          cases h
          rfl
        · cases h
      · cases h
    · cases h
  · cases h
/-- the places: i-th written value, j-th default -/
abbrev Ix := Nat ⊕ Nat
def ixPos (n : Nat) : List Ix := (List.range n).map .inl
def ixKw (n : Nat) (ks : List Str) : List (Str × Ix) := ks.zip ((List.range ks.length).map fun i => .inl (n + i))
def ixDf (d : Nat) : List Ix := (List.range d).map .inr
def ixVal {α : Type} (z : α) (l its : List α) : Ix → α
  | .inl i => l.getD i z
  | .inr j => its.getD j z
theorem map_range_getD {α : Type} (z : α) : ∀ (l : List α), (List.range l.length).map (fun i => l.getD i z) = l := by
  intro l
  apply List.ext_getElem
  · simp
  · intro i h1 h2
    simp at h1
    simp [List.getD, h1]
theorem bind_ix {α : Type} (z : α) {ps ks : List Str} {us ws its : List α} {p : List Ix} (hk : ws.length = ks.length) (h : bindP ps (ixPos us.length) (ixKw us.length ks) (ixDf its.length) = some p) :
    bindP ps us (ks.zip ws) its = some (p.map (ixVal z (us ++ ws) its)) := by
  have := bindP_map (ixVal z (us ++ ws) its) h
  have e1 : (ixPos us.length).map (ixVal z (us ++ ws) its) = us := by
    unfold ixPos
    rw [List.map_map]
    conv => rhs; rw [← map_range_getD z us]
    apply List.map_congr_left
    intro i hi
    have hi' : i < us.length := List.mem_range.mp hi
    simp [ixVal, List.getD, List.getElem?_append_left hi']
  have e2 : (ixDf its.length).map (ixVal z (us ++ ws) its) = its := by
    unfold ixDf
    rw [List.map_map]
    conv => rhs; rw [← map_range_getD z its]
    apply List.map_congr_left
    intro i hi
    rfl
  have e3 : mp (ixVal z (us ++ ws) its) (ixKw us.length ks) = ks.zip ws := by
    unfold ixKw
    rw [← zip_mp, List.map_map]
    congr 1
    conv => rhs; rw [← map_range_getD z ws]
    rw [hk]
    apply List.map_congr_left
    intro i hi
    have hi' : i < ws.length := by rw [hk]; exact List.mem_range.mp hi
    simp [ixVal, List.getD, List.getElem?_append_right]
  rw [e1, e2, e3] at this
  exact this
/-- the pattern of a call -/
def patD (dfl : List D) : List Ix → List (Nat ⊕ D)
  | [] => []
  | .inl i :: r => .inl i :: patD dfl r
  | .inr j :: r => .inr (dfl.getD j .non) :: patD dfl r
section
variable {T : Tg} {Φ : Fns} {L : Lib} {N : List Str} {sc : Scope} {cs : List Str} {k : Nat} {E : L2.St → XK} {X : Cx}
variable {K : PySem.W.Frag} {mg : Str → Option Value} {F F1 F2 : Hp} {μ μ1 μ2 : List Addr} {g g1 g2 : G} {H H1 H2 : Hp} {S S1 S2 : Sl} {σ σ1 σ2 : L2.St}
theorem vals_getD {xs : List V} {us : List Value} (r : Vals xs us) (i : Nat) : RelV (xs.getD i .non) (us.getD i .none) := by
  unfold List.getD
  cases e : xs[i]? with
  | none => rw [r.none_of e]; rfl
  | some x => obtain ⟨u, h1, h2⟩ := r.get e; rw [h1]; exact h2
theorem reps_getD {xs : List V} {ds : List D} (r : Reps K mg μ F xs ds) (i : Nat) : Rep K mg μ F (xs.getD i .non) (ds.getD i .non) := by
  unfold List.getD
  cases e : ds[i]? with
  | none =>
    have : xs[i]? = none := by
      rw [List.getElem?_eq_none_iff] at e ⊢
      rw [r.length]; exact e
    rw [this]; exact .non
  | some d => obtain ⟨v, h1, h2⟩ := r.get e; rw [h1]; exact h2
theorem pick_vals {xs dvs : List V} {us its : List Value} (r : Vals xs us) (rd : Vals dvs its) : ∀ p : List Ix, Vals (p.map (ixVal .non xs dvs)) (p.map (ixVal .none us its))
  | [] => .nil
  | .inl i :: p => .cons (vals_getD r i) (pick_vals r rd p)
  | .inr j :: p => .cons (vals_getD rd j) (pick_vals r rd p)
theorem pick_reps {xs dvs : List V} {ds dfl : List D} (r : Reps K mg μ F xs ds) (rd : Reps K mg μ F dvs dfl) : ∀ (p : List Ix) (l : List D), pickAll ds (patD dfl p) = some l → Reps K mg μ F (p.map (ixVal .non xs dvs)) l
  | [], l, h => by simp only [patD, pickAll] at h; cases h; exact .nil
  | .inl i :: p, l, h => by
    simp only [patD, pickAll] at h
    cases e1 : ds[i]? with
    | none => simp only [e1] at h; cases h
    | some d =>
      cases e2 : pickAll ds (patD dfl p) with
      | none => simp only [e1, e2] at h; cases h
      | some l' =>
        simp only [e1, e2] at h
        cases h
        refine .cons ?_ (pick_reps r rd p l' e2)
        have := reps_getD r i
        have e3 : ds.getD i .non = d := by unfold List.getD; rw [e1]; rfl
        rw [e3] at this
        exact this
  | .inr j :: p, l, h => by
    simp only [patD, pickAll] at h
    cases e2 : pickAll ds (patD dfl p) with
    | none => rw [e2] at h; cases h
    | some l' =>
      rw [e2] at h
      cases h
      exact .cons (reps_getD rd j) (pick_reps r rd p l' e2)
theorem pick_len {ds dfl : List D} : ∀ (p : List Ix) (l : List D), pickAll ds (patD dfl p) = some l → l.length = p.length
  | [], l, h => by simp only [patD, pickAll] at h; cases h; rfl
  | .inl i :: p, l, h => by
    simp only [patD, pickAll] at h
    cases e1 : ds[i]? with
    | none => simp only [e1] at h; cases h
    | some d =>
      cases e2 : pickAll ds (patD dfl p) with
      | none => simp only [e1, e2] at h; cases h
      | some l' => simp only [e1, e2] at h; cases h; simp [pick_len p l' e2]
  | .inr j :: p, l, h => by
    simp only [patD, pickAll] at h
    cases e2 : pickAll ds (patD dfl p) with
    | none => rw [e2] at h; cases h
    | some l' => rw [e2] at h; cases h; simp [pick_len p l' e2]
theorem evs_append : ∀ (a b : List ME) (S : Sl) (g : G), evs Φ (a ++ b) S g = (evs Φ a S g).bind fun l g => (evs Φ b S g).bind fun m g => .ok (l ++ m) g
  | [], b, S, g => by
    simp only [List.nil_append, evs, Res.bind]
    cases evs Φ b S g <;> rfl
  | m :: a, b, S, g => by
    simp only [List.cons_append, evs]
    cases ev Φ m S g with
    | ok x g1 =>
      simp only [Res.bind]
      rw [evs_append a b S g1]
      cases evs Φ a S g1 with
      | ok l g2 =>
        simp only [Res.bind]
        cases evs Φ b S g2 <;> rfl
      | exc _ _ => rfl
      | bad => rfl
    | exc _ _ => rfl
    | bad => rfl
theorem PK.mono {X : Cx} {e : List Keyword} {t t' : TA} (h : PK X e t) (k : ∀ σ H Q, t' σ H Q → t σ H Q) : PK X e t' := ⟨fun pos pins s σ H Q I q => h.run pos pins s σ H Q I (k σ H Q q)⟩
theorem sk_nil : PK X [] (tEs X.K X.mg T Φ E []) :=
  PK.mono pk_nil fun σ H Q ⟨F, μ, g, S, hv, hr, h⟩ => Aft.val (RP := RDs X.K X.mg) h hv .nil
theorem sk_cons {e : Expr} {kws : List Keyword} {nm : Option Str} {kpos : Pos} {m : ME} {ms : List ME} (he : PE X e (tE X.K X.mg T Φ E m)) (hes : PK X kws (tEs X.K X.mg T Φ E ms)) : PK X (⟨nm, e, kpos⟩ :: kws) (tEs X.K X.mg T Φ E (m :: ms)) := by
  refine PK.mono (pk_cons he hes) fun σ H Q h => ?_
  obtain ⟨F, μ, g, S, hv, hr, h⟩ := h
  unfold evs at h
  refine ⟨F, μ, g, S, hv, hr, Aft.imp (Aft.bind h) fun v H1 ⟨x, F1, μ1, g1, y, r, h1⟩ => ?_⟩
  refine ⟨F1, μ1, g1, S, y.view, hr.go y, Aft.imp (Aft.bind (RP := RDs X.K X.mg) h1) fun vs H2 ⟨xs, F2, μ2, g2, y2, rs, h2⟩ => ?_⟩
  exact Aft.val (RP := RDs X.K X.mg) h2 y2.view (.cons (r.mono y2.ff y2.pre) rs)
/-- the keywords' names -/
def kwNames : List Keyword → Option (List Str)
  | [] => some []
  | ⟨some n, _, _⟩ :: r => (kwNames r).map (n :: ·)
  | ⟨none, _, _⟩ :: _ => none
theorem kw_names {env : Env} {pos : Pos} : ∀ {kws : List Keyword} {ks : List Str}, kwNames kws = some ks → (backToKw pos (keywordEach kws env)).all (·.1.isSome) = true ∧ (backToKw pos (keywordEach kws env)).filterMap (·.1) = ks ∧ (backToKw pos (keywordEach kws env)).any (·.1.isNone) = false
  | [], ks, h => by cases h; exact ⟨rfl, rfl, rfl⟩
  | ⟨some n, e, p⟩ :: r, ks, h => by
    simp only [kwNames] at h
    cases q : kwNames r with
    | none => rw [q] at h; cases h
    | some ks' =>
      rw [q] at h
      cases h
      obtain ⟨h1, h2, h3⟩ := kw_names (env := env) (pos := pos) q
      have e1 : keywordEach (⟨some n, e, p⟩ :: r) env = (some n, eval e env) :: keywordEach r env := rfl
      rw [e1]
      have e2 : backToKw pos ((some n, eval e env) :: keywordEach r env) = (some n, (do let v ← eval e env; standAt pos; pure v)) :: backToKw pos (keywordEach r env) := rfl
      rw [e2]
      refine ⟨?_, ?_, ?_⟩
      · rw [List.all_cons, h1]; rfl
      · rw [List.filterMap_cons, h2]
      · rw [List.any_cons, h3]; rfl
  | ⟨none, _, _⟩ :: _, ks, h => by cases h
/-- behind all arguments -/
theorem call_end {i : Nat} {fi : FnI} {ks : List Str} {p : List Ix} {pins : List (Addr × Obj)} {s : Shared} {Q : VK} {f : Addr} {fd : FuncData} {dvs : List V} {its us ws : List Value} {vs zs : List V} {xs : List D} (ok : CtxOk T Φ L N sc cs k E X) (hh : L.ev = none)
    (h3 : FnG X.prog X.w X.K X.mg X.base k f fd fi.ps (spD X.K X.mg T Φ fi.ps.length i)) (h4 : Vals dvs its) (h5 : ∀ μ F, Reps X.K X.mg μ F dvs fi.dfl)
    (h6 : ∀ (s : Shared) (us : List Value) (kw : List (Str × Value)) (vs : List Value), X.K.In s.heap → bindP fi.ps us kw its = some vs → BindsTo s fd ⟨us, kw⟩ (fi.ps.zip vs))
    (hp : bindP fi.ps (ixPos us.length) (ixKw us.length ks) (ixDf fi.dfl.length) = some p) (hpl : p.length = fi.ps.length) (hk : ws.length = ks.length) (I : Inv X pins σ H s) (r : Vals vs us) (rz : Vals zs ws) (hv : View X.K X.mg T F μ g H) (rx : Reps X.K X.mg μ F (vs ++ zs) xs)
    (h : Aft X.K X.mg T (RD X.K X.mg) (match pickAll xs (patD fi.dfl p) with | some ds => Φ i ds g | none => .bad) F μ H Q (E σ)) : wpAny (model X.prog X.w) X.A (call (.ref f) us (ks.zip ws)) (EP X pins σ Q) X.xe s := by
  have hd : its.length = fi.dfl.length := by rw [← h4.length]; exact (h5 [] fun _ => none).length
  have hb := bind_ix (Value.none) (us := us) (ws := ws) (its := its) hk (by rw [hd]; exact hp)
  cases e : pickAll xs (patD fi.dfl p) with
  | none => rw [e] at h; exact h.elim
  | some ds =>
    rw [e] at h
    have rp := pick_reps rx (h5 μ F) p ds e
    have rv := pick_vals (r.append rz) h4 p
    exact run_fnG h3 (ok.room hh) ok.grd (h6 s us (ks.zip ws) _ I.kIn hb) (ok.pass hh σ) I rv (by rw [List.length_map]; exact hpl) ⟨F, μ, g, ds, hv, rp, (pick_len p ds e).trans hpl, h⟩
theorem se_call {x : Str} {i : Nat} {fi : FnI} {e : Expr} {es : List Expr} {kws : List Keyword} {ks : List Str} {ms mk : List ME} {pt : List Ix} {p pos : Pos} (ok : CtxOk T Φ L N sc cs k E X) (hh : L.ev = none) (hi : L.fns[i]? = some fi) (hn : fi.name = x) (hg : sc.names.lookup x = some .globalImplicit) (hdb : (x == ("__debug__" : Str)) = false)
    (hs : noStars (e :: es) = true) (hks : kwNames kws = some ks) (hkl : mk.length = ks.length) (hpt : bindP fi.ps (ixPos ms.length) (ixKw ms.length ks) (ixDf fi.dfl.length) = some pt) (hpl : pt.length = fi.ps.length)
    (ha : PA X (e :: es) (tEs X.K X.mg T Φ E ms)) (hk : PK X kws (tEs X.K X.mg T Φ E mk)) : PE X (.Call (.Name x p) (e :: es) kws pos) (tE X.K X.mg T Φ E (.call i (patD fi.dfl pt) (ms ++ mk))) := by
  obtain ⟨f, fd, dvs, its, h1, h2, h3, h4, h5, h6⟩ := (ok.fns i fi hi).at_
  have hs' := hs
  simp only [noStars, Bool.and_eq_true] at hs'
  obtain ⟨n1, n2, n3⟩ := kw_names (env := X.env) (pos := pos) hks
  refine ⟨fun pins s σ H Q I h => ?_⟩
  refine wpAny_Call_Name_kw (ld_glob I (gl_of ok hg) (by rw [← hn]; exact h1) ?_ hdb)
  obtain ⟨F, μ, g, S, hv, hr, h⟩ := h
  simp only [ev] at h
  rw [evs_append] at h
  have hpl1 : ((backTo pos (starEach (e :: es) X.env)).any (·.1) || (backToKw pos (keywordEach kws X.env)).any (·.1.isNone)) = false := by rw [stars_of hs, n3]; rfl
  have h' : Aft X.K X.mg T (RD X.K X.mg) ((evs Φ ms S g).bind fun l g => (evs Φ mk S g).bind fun m g => match pickAll (l ++ m) (patD fi.dfl pt) with | some ds => Φ i ds g | none => .bad) F μ H Q (E σ) := by
    cases q1 : evs Φ ms S g with
    | ok l g1 =>
      simp only [q1, Res.bind] at h ⊢
      cases q2 : evs Φ mk S g1 with
      | ok m g2 => simp only [q2] at h ⊢; exact h
      | exc _ _ => simp only [q2] at h ⊢; exact h
      | bad => simp only [q2] at h ⊢; exact h
    | exc _ _ => simp only [q1, Res.bind] at h ⊢; exact h
    | bad => simp only [q1, Res.bind] at h ⊢; exact h
  refine PySem.W.callWith_KW (h₀ := X.base) I.ok.mod.kin h2 n1 (thn (ha.run pos pins s σ H _ I ⟨F, μ, g, S, hv, hr, Aft.bindE (RP := RDs X.K X.mg) h'⟩) fun us s1 hh => ?_) hpl1 (star_of hs'.1)
  obtain ⟨vs, H1, I1, r, xs, F1, μ1, g1, e1, y, rs, h7⟩ := hh
  refine thn (hk.run pos pins s1 σ H1 _ I1 ⟨F1, μ1, g1, S, y.view, hr.go y, Aft.bindE (RP := RDs X.K X.mg) h7⟩) fun ws s2 hh => ?_
  obtain ⟨zs, H2, I2, rz, ys, F2, μ2, g2, e2, y2, rs2, h8⟩ := hh
  refine ⟨I2.kIn, ?_⟩
  rw [n2]
  have l1 : us.length = ms.length := by rw [← r.length, rs.length, evs_len _ _ _ _ _ _ e1]
  have l2 : ws.length = ks.length := by rw [← rz.length, rs2.length, evs_len _ _ _ _ _ _ e2, hkl]
  show wpAny _ _ (call (.ref f) us (ks.zip ws)) _ _ _
  exact call_end (us := us) ok hh h3 h4 h5 h6 (by rw [l1]; exact hpt) hpl l2 I2 r rz y2.view ((rs.mono y2.ff y2.pre).append rs2) h8
theorem se_call0 {x : Str} {i : Nat} {fi : FnI} {kws : List Keyword} {ks : List Str} {mk : List ME} {pt : List Ix} {p pos : Pos} (ok : CtxOk T Φ L N sc cs k E X) (hh : L.ev = none) (hi : L.fns[i]? = some fi) (hn : fi.name = x) (hg : sc.names.lookup x = some .globalImplicit) (hdb : (x == ("__debug__" : Str)) = false)
    (hks : kwNames kws = some ks) (hkl : mk.length = ks.length) (hpt : bindP fi.ps (ixPos 0) (ixKw 0 ks) (ixDf fi.dfl.length) = some pt) (hpl : pt.length = fi.ps.length)
    (hk : PK X kws (tEs X.K X.mg T Φ E mk)) : PE X (.Call (.Name x p) [] kws pos) (tE X.K X.mg T Φ E (.call i (patD fi.dfl pt) mk)) := by
  obtain ⟨f, fd, dvs, its, h1, h2, h3, h4, h5, h6⟩ := (ok.fns i fi hi).at_
  obtain ⟨n1, n2, n3⟩ := kw_names (env := X.env) (pos := pos) hks
  refine ⟨fun pins s σ H Q I h => ?_⟩
  refine wpAny_Call_Name_kw (ld_glob I (gl_of ok hg) (by rw [← hn]; exact h1) ?_ hdb)
  obtain ⟨F, μ, g, S, hv, hr, h⟩ := h
  simp only [ev] at h
  have hpl1 : ((backTo pos (starEach [] X.env)).any (·.1) || (backToKw pos (keywordEach kws X.env)).any (·.1.isNone)) = false := by rw [n3]; rfl
  refine PySem.W.callWith_KW0 (h₀ := X.base) I.ok.mod.kin h2 n1 (thn (hk.run pos pins s σ H _ I ⟨F, μ, g, S, hv, hr, Aft.bindE (RP := RDs X.K X.mg) h⟩) fun ws s2 hh => ?_) hpl1
  obtain ⟨zs, H2, I2, rz, ys, F2, μ2, g2, e2, y2, rs2, h8⟩ := hh
  refine ⟨I2.kIn, ?_⟩
  rw [n2]
  have l2 : ws.length = ks.length := by rw [← rz.length, rs2.length, evs_len _ _ _ _ _ _ e2, hkl]
  show wpAny _ _ (call (.ref f) [] (ks.zip ws)) _ _ _
  exact call_end (us := []) (vs := []) ok hh h3 h4 h5 h6 hpt hpl l2 I2 .nil rz y2.view rs2 h8
/-! ### x(..), x a local that holds a def -/
structure TabOk (L : Lib) (m : Nat) (tab : List (Str × Nat × List (Nat ⊕ D))) : Prop where
  at_ : ∀ n i pat, tab.lookup n = some (i, pat) → ∃ (fi : FnI) (pt : List Ix), L.fns[i]? = some fi ∧ fi.name = n ∧ bindP fi.ps (ixPos m) (ixKw m []) (ixDf fi.dfl.length) = some pt ∧ pt.length = fi.ps.length ∧ pat = patD fi.dfl pt
theorem se_callV {x : Str} {j : Nat} {e : Expr} {es : List Expr} {ms : List ME} {tab : List (Str × Nat × List (Nat ⊕ D))} {p pos : Pos} (ok : CtxOk T Φ L N sc cs k E X) (hh : L.ev = none) (hN : N[j]? = some x) (hvi : Vis sc x) (hdb : (x == ("__debug__" : Str)) = false) (hcd : (x == ("__classdict__" : Str)) = false) (ht : TabOk L ms.length tab)
    (hs : noStars (e :: es) = true) (ha : PA X (e :: es) (tEs X.K X.mg T Φ E ms)) : PE X (.Call (.Name x p) (e :: es) [] pos) (tE X.K X.mg T Φ E (.callV tab (.slot j) ms)) := by
  have hs' := hs
  simp only [noStars, Bool.and_eq_true] at hs'
  refine ⟨fun pins s σ H Q I h => ?_⟩
  obtain ⟨F, μ, g, S, hv, hr, h⟩ := h
  simp only [ev] at h
  refine wpAny_Call_Name_kw (thn ((se_slot (pos := p) ok hN hvi hdb hcd).run pins s σ H _ I ⟨F, μ, g, S, hv, hr, by simp only [ev]; exact Aft.bind (RP := RD X.K X.mg) h⟩) fun u s1 hh => ?_)
  obtain ⟨v, H1, I1, rv, d, F1, μ1, g1, y1, rd, h1⟩ := hh
  cases ed : valOf tab d with
  | none => simp only [ed] at h1; exact h1.elim
  | some ip =>
    simp only [ed] at h1
    cases rd with
    | fn hm hkp =>
      rename_i n f
      obtain rfl : u = Value.ref f := rv
      refine PySem.W.callWith_K (h₀ := X.base) I1.ok.mod.kin hkp (thn (ha.run pos pins s1 σ H1 _ I1 ⟨F1, μ1, g1, S, y1.view, hr.go y1, Aft.bindE (RP := RDs X.K X.mg) h1⟩) fun us s2 hh => ?_) (star_of hs'.1) (stars_of hs'.2)
      obtain ⟨vs, H2, I2, r2, l, F2, μ2, g2, e2, y2, rs, h2⟩ := hh
      refine ⟨I2.kIn, ?_⟩
      obtain ⟨i, pat⟩ := ip
      obtain ⟨fi, pt, hi, hn, hpt, hpl, rfl⟩ := ht.at_ n i pat ed
      obtain ⟨f', fd, dvs, its, q1, q2, q3, q4, q5, q6⟩ := (ok.fns i fi hi).at_
      rw [hn, hm] at q1
      cases q1
      have l1 : us.length = ms.length := by rw [← r2.length, rs.length, evs_len _ _ _ _ _ _ e2]
      exact call_end (us := us) (ks := []) (ws := []) (zs := []) ok hh q3 q4 q5 q6 (by rw [l1]; exact hpt) hpl rfl I2 r2 .nil y2.view (by rw [List.append_nil]; exact rs) h2
    | _ => cases ed
theorem se_callV0 {x : Str} {j : Nat} {tab : List (Str × Nat × List (Nat ⊕ D))} {p pos : Pos} (ok : CtxOk T Φ L N sc cs k E X) (hh : L.ev = none) (hN : N[j]? = some x) (hvi : Vis sc x) (hdb : (x == ("__debug__" : Str)) = false) (hcd : (x == ("__classdict__" : Str)) = false) (ht : TabOk L 0 tab) : PE X (.Call (.Name x p) [] [] pos) (tE X.K X.mg T Φ E (.callV tab (.slot j) [])) := by
  refine ⟨fun pins s σ H Q I h => ?_⟩
  obtain ⟨F, μ, g, S, hv, hr, h⟩ := h
  simp only [ev] at h
  refine wpAny_Call_Name_kw (thn ((se_slot (pos := p) ok hN hvi hdb hcd).run pins s σ H _ I ⟨F, μ, g, S, hv, hr, by simp only [ev]; exact Aft.bind (RP := RD X.K X.mg) h⟩) fun u s1 hh => ?_)
  obtain ⟨v, H1, I1, rv, d, F1, μ1, g1, y1, rd, h1⟩ := hh
  cases ed : valOf tab d with
  | none => simp only [ed] at h1; exact h1.elim
  | some ip =>
    simp only [ed, evs, Res.bind] at h1
    cases rd with
    | fn hm hkp =>
      rename_i n f
      obtain rfl : u = Value.ref f := rv
      obtain ⟨i, pat⟩ := ip
      obtain ⟨fi, pt, hi, hn, hpt, hpl, rfl⟩ := ht.at_ n i pat ed
      obtain ⟨f', fd, dvs, its, q1, q2, q3, q4, q5, q6⟩ := (ok.fns i fi hi).at_
      rw [hn, hm] at q1
      cases q1
      refine PySem.W.callWith_K0 I1.kIn hkp ?_
      exact call_end (us := []) (vs := []) (ks := []) (ws := []) (zs := []) ok hh q3 q4 q5 q6 hpt hpl rfl I1 .nil .nil y1.view .nil h1
    | _ => cases ed
end
end SH

set_option Elab.async false
set_option linter.all false
set_option autoImplicit false
set_option maxRecDepth 100000
set_option maxHeartbeats 4000000
namespace SH
open PySem PySem.Spec PyProof.Rows L2 LamX
/-! ### the compiler: each result bears its proof -/
abbrev SndE (L : Lib) (N : List Str) (sc : Scope) (cs : List Str) (e : Expr) (m : ME) : Prop := ∀ (T : Tg) (Φ : Fns) (k : Nat) (E : L2.St → XK) (X : Cx), CtxOk T Φ L N sc cs k E X → PE X e (tE X.K X.mg T Φ E m)
abbrev SndT (L : Lib) (N : List Str) (sc : Scope) (cs : List Str) (e : Expr) (m : ME) : Prop := ∀ (T : Tg) (Φ : Fns) (k : Nat) (E : L2.St → XK) (X : Cx), CtxOk T Φ L N sc cs k E X → PT X e (tT X.K X.mg T Φ E m)
abbrev SndW (L : Lib) (N : List Str) (sc : Scope) (cs : List Str) (e : Expr) (m : ME) : Prop := ∀ (T : Tg) (Φ : Fns) (k : Nat) (E : L2.St → XK) (X : Cx), CtxOk T Φ L N sc cs k E X → PW X e (tT X.K X.mg T Φ E m)
abbrev SndA (L : Lib) (N : List Str) (sc : Scope) (cs : List Str) (e : List Expr) (m : List ME) : Prop := noStars e = true ∧ e.length = m.length ∧ ∀ (T : Tg) (Φ : Fns) (k : Nat) (E : L2.St → XK) (X : Cx), CtxOk T Φ L N sc cs k E X → PA X e (tEs X.K X.mg T Φ E m)
abbrev SndK (L : Lib) (N : List Str) (sc : Scope) (cs : List Str) (e : List Keyword) (m : List ME) : Prop := e.length = m.length ∧ ∀ (T : Tg) (Φ : Fns) (k : Nat) (E : L2.St → XK) (X : Cx), CtxOk T Φ L N sc cs k E X → PK X e (tEs X.K X.mg T Φ E m)
abbrev SndO (L : Lib) (N : List Str) (sc : Scope) (cs : List Str) (e : Option Expr) (m : Option ME) : Prop := ∀ (T : Tg) (Φ : Fns) (k : Nat) (E : L2.St → XK) (X : Cx), CtxOk T Φ L N sc cs k E X → PO X e (tO X.K X.mg T Φ E m)
abbrev SndI (L : Lib) (N : List Str) (sc : Scope) (cs : List Str) (tg e : Expr) (m : MI) : Prop := notSet e = true ∧ ∀ (T : Tg) (Φ : Fns) (k : Nat) (E : L2.St → XK) (X : Cx), CtxOk T Φ L N sc cs k E X → PI X tg e (tI X.K X.mg T Φ E m)
abbrev SndTs (L : Lib) (N : List Str) (sc : Scope) (cs : List Str) (e : List Expr) (m : List ME) : Prop := ∀ (T : Tg) (Φ : Fns) (k : Nat) (E : L2.St → XK) (X : Cx), CtxOk T Φ L N sc cs k E X → PTs X e (tTs X.K X.mg T Φ E m)
abbrev SndD (L : Lib) (N : List Str) (sc : Scope) (cs : List Str) (pos : Pos) (ks : List (Option Expr)) (vs : List Expr) (p : List Str × List ME) : Prop := p.1.length = p.2.length ∧ ks.length = vs.length ∧ ks.length = p.1.length ∧ ks.all (·.isSome) = true ∧
  ∀ (T : Tg) (Φ : Fns) (k : Nat) (E : L2.St → XK) (X : Cx), CtxOk T Φ L N sc cs k E X → PPs X pos ks vs (trsOf X.K X.mg T Φ E p.1 p.2)
abbrev SndC (L : Lib) (N : List Str) (sc : Scope) (cs : List Str) (e : List Expr) (p : List Bool × List ME) : Prop := ∀ (T : Tg) (Φ : Fns) (k : Nat) (E : L2.St → XK) (X : Cx), CtxOk T Φ L N sc cs k E X → PA X e (tCat X.K X.mg T Φ E p.2 p.1)
def opOf : Operator → Option BOp
  | .Add => some .add
  | .Sub => some .sub
  | .Mult => some .mul
  | .Mod => some .mod
  | .FloorDiv => some .fdiv
  | .Pow => some .pow
  | _ => none
theorem snd_bin {L : Lib} {N : List Str} {sc : Scope} {cs : List Str} {a b : Expr} {ma mb : ME} {op : Operator} {o : BOp} {pos : Pos} (h : opOf op = some o) (ha : SndE L N sc cs a ma) (hb : SndE L N sc cs b mb) : SndE L N sc cs (.BinOp a op b pos) (.bin o ma mb) := by
  intro T Φ k E X ok
  have pa := ha T Φ k E X ok
  have pb := hb T Φ k E X ok
  cases op <;> simp only [opOf] at h <;> cases h
  · exact se_bin op_addD od_add pa pb
  · exact se_bin op_sub od_sub pa pb
  · exact se_bin op_mulD od_mul pa pb
  · exact se_bin op_mod od_mod pa pb
  · exact se_bin op_pow od_pow pa pb
  · exact se_bin op_fdiv od_fdiv pa pb
def visB (sc : Scope) (x : Str) : Bool := match sc.names.lookup x with
  | some .local => true
  | some .cell => true
  | some .free => true
  | _ => false
theorem visB_is {sc : Scope} {x : Str} (h : visB sc x = true) : Vis sc x := by
  unfold visB at h
  split at h
  · exact .inl (by assumption)
  · exact .inr (.inl (by assumption))
  · exact .inr (.inr (by assumption))
  · cases h
def dbgOk (x : Str) : Bool := !(x == ("__debug__" : Str)) && !(x == ("__classdict__" : Str))
theorem dbg1 {x : Str} (h : dbgOk x = true) : (x == ("__debug__" : Str)) = false := by
  unfold dbgOk at h
  simp only [Bool.and_eq_true, Bool.not_eq_true'] at h
  exact h.1
theorem dbg2 {x : Str} (h : dbgOk x = true) : (x == ("__classdict__" : Str)) = false := by
  unfold dbgOk at h
  simp only [Bool.and_eq_true, Bool.not_eq_true'] at h
  exact h.2
theorem lookup_mem {α : Type} {x : Str} {d : α} : ∀ {l : List (Str × α)}, l.lookup x = some d → (x, d) ∈ l
  | [], h => by cases h
  | (a, b) :: l, h => by
    rw [List.lookup_cons] at h
    cases e : x == a with
    | true =>
      rw [e] at h
      cases h
      have := eq_of_beq e
      subst this
      exact List.mem_cons_self
    | false =>
      rw [e] at h
      exact List.mem_cons_of_mem _ (lookup_mem h)
/-- the defs that take m values, as a table -/
def mkTabL (m : Nat) : Nat → List FnI → List (Str × Nat × List (Nat ⊕ D))
  | _, [] => []
  | i, fi :: l => match bindP fi.ps (ixPos m) (ixKw m []) (ixDf fi.dfl.length) with
    | some pt => if pt.length = fi.ps.length then (fi.name, i, patD fi.dfl pt) :: mkTabL m (i + 1) l else mkTabL m (i + 1) l
    | none => mkTabL m (i + 1) l
theorem mkTabL_ok (L : Lib) (m : Nat) : ∀ (l : List FnI) (j : Nat), (∀ i, l[i]? = L.fns[j + i]?) → TabOk L m (mkTabL m j l)
  | [], j, _ => ⟨fun n i pat h => by cases h⟩
  | fi :: l, j, hl => by
    have ih := mkTabL_ok L m l (j + 1) (fun i => by have := hl (i + 1); rw [List.getElem?_cons_succ] at this; rw [this]; congr 1; omega)
    have h0 : L.fns[j]? = some fi := by have := hl 0; rw [List.getElem?_cons_zero] at this; exact this.symm
    unfold mkTabL
    cases e : bindP fi.ps (ixPos m) (ixKw m []) (ixDf fi.dfl.length) with
    | none => exact ih
    | some pt =>
      simp only
      by_cases hp : pt.length = fi.ps.length
      · rw [if_pos hp]
        refine ⟨fun n i pat h => ?_⟩
        rw [List.lookup_cons] at h
        by_cases q : n == fi.name
        · rw [q] at h
          cases h
          exact ⟨fi, pt, h0, (eq_of_beq q).symm, e, hp, rfl⟩
        · have q' : (n == fi.name) = false := by simpa using q
          rw [q'] at h
          exact ih.at_ n i pat h
      · rw [if_neg hp]; exact ih
def mkTab (L : Lib) (m : Nat) : List (Str × Nat × List (Nat ⊕ D)) := mkTabL m 0 L.fns
theorem mkTab_ok (L : Lib) (m : Nat) : TabOk L m (mkTab L m) := mkTabL_ok L m L.fns 0 fun i => by rw [Nat.zero_add]
def fnIx (L : Lib) (x : Str) : Option Nat := L.fns.findIdx? fun f => f.name == x
/-- a name -/
def compName (L : Lib) (N : List Str) (sc : Scope) (cs : List Str) (x : Str) (pos : Pos) : Option { m : ME // SndE L N sc cs (.Name x pos) m } :=
  if hd : dbgOk x = true then
    if hv : visB sc x = true then
      match hi : N.idxOf? x with
      | some i => if hN : N[i]? = some x then some ⟨.slot i, fun T Φ k E X ok => se_slot ok hN (visB_is hv) (dbg1 hd) (dbg2 hd)⟩ else none
      | none => none
    else if hg : sc.names.lookup x = some .globalImplicit then
      match hc : L.con.lookup x with
      | some d => some ⟨.lit d, fun T Φ k E X ok => se_glob ok (lookup_mem hc) hg (dbg1 hd)⟩
      | none => match fnIx L x with
        | some i => match hf : L.fns[i]? with
          | some fi => if hn : fi.name = x then some ⟨.lit (.fn x), fun T Φ k E X ok => se_fn ok hf hn hg (dbg1 hd)⟩ else none
          | none => none
        | none => none
    else none
  else none
def compConst (L : Lib) (N : List Str) (sc : Scope) (cs : List Str) (c : Const) (j : Nat) (pos : Pos) : Option { m : ME // SndE L N sc cs (.Constant c j pos) m } := match c with
  | .int i => some ⟨.lit (.int i), fun T Φ k E X ok => se_int⟩
  | .bool b => some ⟨.lit (.bl b), fun T Φ k E X ok => se_bl⟩
  | .str s => some ⟨.lit (.str s), fun T Φ k E X ok => se_str⟩
  | .none => some ⟨.lit .non, fun T Φ k E X ok => se_non⟩
  | _ => none
/-- the built-ins that are called by name -/
inductive BK (x : Str) (b : BI) (n : Nat) : Prop
  | bi (id : String) (hv : bootBuiltins x = some (.builtin id)) (hn : x ≠ "__name__") (hc : ∀ (X : Cx) (k : Nat), X.calm = true → Room k X.A → X.A.guards = some [] → ∃ r, CallR X (.builtin id) r ∧ ∀ T, CallD X T (bi b) r)
  | ty (id : String) (hv : bootBuiltins x = some (.type id)) (hn : x ≠ "__name__") (hc : ∀ (X : Cx) (k : Nat), X.calm = true → Room k X.A → X.A.guards = some [] → ∃ r, CallR X (.type id) r ∧ ∀ T, CallD X T (bi b) r)
theorem bk_len : BK "len" .len 1 := .bi "len" (by decide +kernel) (by decide) fun X k hc hr hg => ⟨_, call_len, fun T => cd_len⟩
theorem bk_tuple : BK "tuple" .tuple 1 := .ty "tuple" (by decide +kernel) (by decide) fun X k hc hr hg => ⟨_, call_tuple_of, fun T => cd_tuple⟩
theorem bk_list : BK "list" .list 1 := .ty "list" (by decide +kernel) (by decide) fun X k hc hr hg => ⟨_, call_list_of, fun T => cd_list⟩
theorem bk_int : BK "int" .int 1 := .ty "int" (by decide +kernel) (by decide) fun X k hc hr hg => ⟨_, call_int1, fun T => cd_int⟩
theorem bk_all : BK "all" .all 1 := .bi "all" (by decide +kernel) (by decide) fun X k hc hr hg => ⟨_, cr_all hc, fun T => cd_all⟩
theorem bk_any : BK "any" .any 1 := .bi "any" (by decide +kernel) (by decide) fun X k hc hr hg => ⟨_, cr_any hc, fun T => cd_any⟩
theorem bk_sum : BK "sum" .sum 1 := .bi "sum" (by decide +kernel) (by decide) fun X k hc hr hg => ⟨_, cr_sum hc, fun T => cd_sum⟩
theorem bk_min2 : BK "min" .min2 2 := .bi "min" (by decide +kernel) (by decide) fun X k hc hr hg => ⟨_, call_min2 hc, fun T => cd_min2⟩
theorem bk_max2 : BK "max" .max2 2 := .bi "max" (by decide +kernel) (by decide) fun X k hc hr hg => ⟨_, call_max2 hc, fun T => cd_max2⟩
theorem bk_repr : BK "repr" .repr 1 := .bi "repr" (by decide +kernel) (by decide) fun X k hc hr hg => ⟨_, cr_repr hr hg, fun T => cd_repr⟩
theorem bk_sorted : BK "sorted" .sorted 1 := .bi "sorted" (by decide +kernel) (by decide) fun X k hc hr hg => ⟨_, cr_sortD hr, fun T => cd_sorted⟩
theorem bk_min1 : BK "min" .min1 1 := .bi "min" (by decide +kernel) (by decide) fun X k hc hr hg => ⟨_, cr_min hc, fun T => cd_min1⟩
theorem bk_max1 : BK "max" .max1 1 := .bi "max" (by decide +kernel) (by decide) fun X k hc hr hg => ⟨_, cr_max hc, fun T => cd_max1⟩
def bkOf (x : Str) (n : Nat) : Option { b : BI // BK x b n } :=
  if h : x = "len" ∧ n = 1 then some ⟨.len, by rw [h.1, h.2]; exact bk_len⟩
  else if h : x = "tuple" ∧ n = 1 then some ⟨.tuple, by rw [h.1, h.2]; exact bk_tuple⟩
  else if h : x = "list" ∧ n = 1 then some ⟨.list, by rw [h.1, h.2]; exact bk_list⟩
  else if h : x = "int" ∧ n = 1 then some ⟨.int, by rw [h.1, h.2]; exact bk_int⟩
  else if h : x = "all" ∧ n = 1 then some ⟨.all, by rw [h.1, h.2]; exact bk_all⟩
  else if h : x = "any" ∧ n = 1 then some ⟨.any, by rw [h.1, h.2]; exact bk_any⟩
  else if h : x = "sum" ∧ n = 1 then some ⟨.sum, by rw [h.1, h.2]; exact bk_sum⟩
  else if h : x = "repr" ∧ n = 1 then some ⟨.repr, by rw [h.1, h.2]; exact bk_repr⟩
  else if h : x = "sorted" ∧ n = 1 then some ⟨.sorted, by rw [h.1, h.2]; exact bk_sorted⟩
  else if h : x = "min" ∧ n = 1 then some ⟨.min1, by rw [h.1, h.2]; exact bk_min1⟩
  else if h : x = "max" ∧ n = 1 then some ⟨.max1, by rw [h.1, h.2]; exact bk_max1⟩
  else if h : x = "min" ∧ n = 2 then some ⟨.min2, by rw [h.1, h.2]; exact bk_min2⟩
  else if h : x = "max" ∧ n = 2 then some ⟨.max2, by rw [h.1, h.2]; exact bk_max2⟩
  else none
theorem snd_bi {L : Lib} {N : List Str} {sc : Scope} {cs : List Str} {x : Str} {b : BI} {n : Nat} {e : Expr} {es : List Expr} {ms : List ME} {p pos : Pos} (hh : L.ev = none) (hb : BK x b n) (hg : sc.names.lookup x = some .globalImplicit) (hf : x ∈ L.free) (hd : dbgOk x = true) (ha : SndA L N sc cs (e :: es) ms) :
    SndE L N sc cs (.Call (.Name x p) (e :: es) [] pos) (.bi b ms) := by
  intro T Φ k E X ok
  cases hb with
  | bi id hv hn hc =>
    obtain ⟨r, c1, c2⟩ := hc X k (ok.calm hh) (ok.room hh) ok.grd
    exact se_biB ok c1 (c2 T) hg hf hv hn (dbg1 hd) ha.1 (ha.2.2 T Φ k E X ok)
  | ty id hv hn hc =>
    obtain ⟨r, c1, c2⟩ := hc X k (ok.calm hh) (ok.room hh) ok.grd
    exact se_biT ok c1 (c2 T) hg hf hv hn (dbg1 hd) ha.1 (ha.2.2 T Φ k E X ok)
/-- isinstance's classes -/
structure IsK (c : Str) (b : BI) : Prop where
  ex : ∃ cn, bootBuiltins c = some (.type cn) ∧ c ≠ "__name__" ∧ (c == ("__debug__" : Str)) = false ∧ ∀ d z, bi b [d] = some z → ∃ t r, tyD d = some t ∧ kitB t cn = some r ∧ z = .bl r
def isOf (c : Str) : Option { b : BI // IsK c b } :=
  if h : c = "int" then some ⟨.isInt, by rw [h]; exact ⟨"int", by decide +kernel, by decide, by decide, hb_int⟩⟩
  else if h : c = "bool" then some ⟨.isBool, by rw [h]; exact ⟨"bool", by decide +kernel, by decide, by decide, hb_bool⟩⟩
  else if h : c = "tuple" then some ⟨.isTuple, by rw [h]; exact ⟨"tuple", by decide +kernel, by decide, by decide, hb_tuple⟩⟩
  else if h : c = "list" then some ⟨.isList, by rw [h]; exact ⟨"list", by decide +kernel, by decide, by decide, hb_list⟩⟩
  else if h : c = "str" then some ⟨.isStr, by rw [h]; exact ⟨"str", by decide +kernel, by decide, by decide, hb_str⟩⟩
  else none
/-- the slots of a block's own names -/
def ownOf (N : List Str) (scope : Scope) : List (Str × Nat) := scope.names.filterMap fun y => match y.2 with
  | .local => (N.idxOf? y.1).map (y.1, ·)
  | .cell => (N.idxOf? y.1).map (y.1, ·)
  | _ => none
def slotsOf (N : List Str) : List Expr → Option (List Nat)
  | [] => some []
  | .Name x _ :: r => match N.idxOf? x, slotsOf N r with
    | some i, some l => some (i :: l)
    | _, _ => none
  | _ => none
def tgSlots (N : List Str) : Expr → Option (List Nat)
  | .Name x _ => (N.idxOf? x).map ([·])
  | .Tuple es _ _ => slotsOf N es
  | _ => none
def tupTg : Expr → Bool
  | .Tuple .. => true
  | _ => false
end SH

set_option Elab.async false
set_option linter.all false
set_option autoImplicit false
set_option maxRecDepth 100000
set_option maxHeartbeats 4000000
namespace SH
open PySem PySem.Spec PyProof.Rows L2 LamX
variable (N : List Str)
def isName : Expr → Bool
  | .Name .. => true
  | _ => false
theorem isName_base {a : Expr} {nm : Str} (h : isName a = true) : ∀ env : Env, attributeBase a nm env (eval a env) = eval a env := by
  cases a <;> first | (cases h; done) | (intro env; rfl)
def isNoneE : Expr → Bool
  | .Constant .none _ _ => true
  | _ => false
theorem pe_cmpN {X : Cx} {a : Expr} {ma : ME} {T : Tg} {Φ : Fns} {E : L2.St → XK} {j : Nat} {p pos : Pos} (ha : PE X a (tE X.K X.mg T Φ E ma)) : PT X (.Compare a [.Is] [.Constant .none j p] pos) (tT X.K X.mg T Φ E (.isN ma)) :=
  st_cmp (pt_cmp (pc_isN ha)) (fun σ H Q ⟨F, μ, g, S, hv, hr, h⟩ => by
    simp only [ev] at h
    refine ⟨F, μ, g, S, hv, hr, Aft.imp (Aft.bind h) fun v H1 ⟨x, F1, μ1, g1, y1, r1, h1⟩ => ?_⟩
    rw [rep_non r1]
    exact Aft.val (RP := RD X.K X.mg) h1 y1.view (.bl _)) bl_isN
theorem pe_cmpNN {X : Cx} {a : Expr} {ma : ME} {T : Tg} {Φ : Fns} {E : L2.St → XK} {j : Nat} {p pos : Pos} (ha : PE X a (tE X.K X.mg T Φ E ma)) : PT X (.Compare a [.IsNot] [.Constant .none j p] pos) (tT X.K X.mg T Φ E (.notN ma)) :=
  st_cmp (pt_cmp (pc_notN ha)) (fun σ H Q ⟨F, μ, g, S, hv, hr, h⟩ => by
    simp only [ev] at h
    refine ⟨F, μ, g, S, hv, hr, Aft.imp (Aft.bind h) fun v H1 ⟨x, F1, μ1, g1, y1, r1, h1⟩ => ?_⟩
    rw [rep_non r1]
    exact Aft.val (RP := RD X.K X.mg) h1 y1.view (.bl _)) bl_notN
mutual
def compE (L : Lib) : (n : Nat) → (sc : Scope) → (cs : List Str) → (e : Expr) → Option { m : ME // SndE L N sc cs e m }
  | 0, _, _, _ => none
  | n + 1, sc, cs, .Name x pos => compName L N sc cs x pos
  | n + 1, sc, cs, .Constant c j pos => compConst L N sc cs c j pos
  | n + 1, sc, cs, .Tuple es j pos => if noStars es = false then (match compCt L n sc cs es with
      | some ⟨p, h⟩ => some ⟨.cat true p.1 p.2, fun T Φ k E X ok => se_catT (h T Φ k E X ok)⟩
      | none => none)
    else match compA L n sc cs es with
    | some ⟨ms, h⟩ => if hl : ms.length ≤ sizeLine then some ⟨.tup ms, fun T Φ k E X ok => se_tup (h.2.2 T Φ k E X ok) hl⟩ else none
    | none => none
  | n + 1, sc, cs, .List es pos => if noStars es = false then (match compCt L n sc cs es with
      | some ⟨p, h⟩ => some ⟨.cat false p.1 p.2, fun T Φ k E X ok => se_catL (h T Φ k E X ok)⟩
      | none => none)
    else match compA L n sc cs es with
    | some ⟨ms, h⟩ => if hl : ms.length ≤ sizeLine then some ⟨.lst ms, fun T Φ k E X ok => se_lst (h.2.2 T Φ k E X ok) hl⟩ else none
    | none => none
  | n + 1, sc, cs, .BinOp a op b pos => match compE L n sc cs a, compE L n sc cs b, ho : opOf op with
    | some ⟨ma, ha⟩, some ⟨mb, hb⟩, some o => some ⟨.bin o ma mb, snd_bin ho ha hb⟩
    | _, _, _ => none
  | n + 1, sc, cs, .UnaryOp .USub a pos => match compE L n sc cs a with
    | some ⟨ma, ha⟩ => some ⟨.neg ma, fun T Φ k E X ok => se_neg (ha T Φ k E X ok)⟩
    | none => none
  | n + 1, sc, cs, .UnaryOp .Not a pos => match compE L n sc cs a with
    | some ⟨ma, ha⟩ => some ⟨.not_ ma, fun T Φ k E X ok => se_not (ha T Φ k E X ok)⟩
    | none => none
  | n + 1, sc, cs, .BoolOp op [a] pos => match compE L n sc cs a with
    | some ⟨ma, ha⟩ => some ⟨ma, fun T Φ k E X ok => pe_one (ha T Φ k E X ok)⟩
    | none => none
  | n + 1, sc, cs, .BoolOp .And (a :: b :: rest) pos => match compE L n sc cs a, compE L n sc cs (.BoolOp .And (b :: rest) pos) with
    | some ⟨ma, ha⟩, some ⟨mb, hb⟩ => some ⟨.and_ ma mb, fun T Φ k E X ok => se_and (ha T Φ k E X ok) (hb T Φ k E X ok)⟩
    | _, _ => none
  | n + 1, sc, cs, .BoolOp .Or (a :: b :: rest) pos => match compE L n sc cs a, compE L n sc cs (.BoolOp .Or (b :: rest) pos) with
    | some ⟨ma, ha⟩, some ⟨mb, hb⟩ => some ⟨.or_ ma mb, fun T Φ k E X ok => se_or (ha T Φ k E X ok) (hb T Φ k E X ok)⟩
    | _, _ => none
  | n + 1, sc, cs, .Compare a [.Is] [.Constant .none j p] pos => match compE L n sc cs a with
    | some ⟨ma, ha⟩ => some ⟨.isN ma, fun T Φ k E X ok => se_isN (ha T Φ k E X ok)⟩
    | none => none
  | n + 1, sc, cs, .Compare a [.IsNot] [.Constant .none j p] pos => match compE L n sc cs a with
    | some ⟨ma, ha⟩ => some ⟨.notN ma, fun T Φ k E X ok => se_notN (ha T Φ k E X ok)⟩
    | none => none
  | n + 1, sc, cs, .Compare a [op] [b] pos => match compE L n sc cs a, compE L n sc cs b, ho : cop op with
    | some ⟨ma, ha⟩, some ⟨mb, hb⟩, some o => if hm : behindInMarks op b = false then some ⟨.cmp o ma mb, fun T Φ k E X ok => se_cmp ok ho hm (ha T Φ k E X ok) (hb T Φ k E X ok)⟩ else none
    | _, _, _ => none
  | n + 1, sc, cs, .IfExp c a b pos => match compT L n sc cs c, compE L n sc cs a, compE L n sc cs b with
    | some ⟨mc, hc⟩, some ⟨ma, ha⟩, some ⟨mb, hb⟩ => some ⟨.ite mc ma mb, fun T Φ k E X ok => se_ite (hc T Φ k E X ok) (ha T Φ k E X ok) (hb T Φ k E X ok)⟩
    | _, _, _ => none
  | n + 1, sc, cs, .Subscript a (.Constant (.str z) j p) pos => match compE L n sc cs a with
    | some ⟨ma, ha⟩ => some ⟨.getK ma (.inr z), fun T Φ k E X ok => se_getK ok (ha T Φ k E X ok)⟩
    | none => none
  | n + 1, sc, cs, .Subscript a (.Slice none none (some (.UnaryOp .USub (.Constant (.int 1) kk p1) p2)) p) pos => match compE L n sc cs a with
    | some ⟨ma, ha⟩ => some ⟨.rev ma, fun T Φ k E X ok => se_rev (ha T Φ k E X ok)⟩
    | none => none
  | n + 1, sc, cs, .Subscript a (.Slice lo hi none p) pos => match compE L n sc cs a, compO L n sc cs lo, compO L n sc cs hi with
    | some ⟨ma, ha⟩, some ⟨ml, hl⟩, some ⟨mh, hh⟩ => some ⟨.slice ma ml mh, fun T Φ k E X ok => se_slice (ha T Φ k E X ok) (hl T Φ k E X ok) (hh T Φ k E X ok)⟩
    | _, _, _ => none
  | n + 1, sc, cs, .Subscript a b pos => match compE L n sc cs a, compE L n sc cs b with
    | some ⟨ma, ha⟩, some ⟨mb, hb⟩ => if hp : plainIx b = true then some ⟨.idx ma mb, fun T Φ k E X ok => se_idx (ha T Φ k E X ok) (hb T Φ k E X ok) hp⟩ else none
    | _, _ => none
  | n + 1, sc, cs, .Dict ks vs pos => match compD L n sc cs pos ks vs with
    | some ⟨p, h⟩ => if h0 : ks ≠ [] ∧ ks.length ≤ 15 then some ⟨.mkD (p.1.map Sum.inr) p.2, fun T Φ k E X ok => se_mkD (h.2.2.2.2 T Φ k E X ok) h.2.2.2.1 h.2.1 h0.1 h0.2 h.1 (by rw [← h.2.2.1]; exact h0.2)⟩ else none
    | none => none
  | n + 1, sc, cs, .ListComp elt [⟨tg, iter, ifs, 0⟩] scope pos => match tgSlots N tg, compI L n sc cs tg iter, compTs L n (relS scope sc) (cellNames scope) ifs, compE L n (relS scope sc) (cellNames scope) elt with
    | some tgs, some ⟨mi, hi⟩, some ⟨mts, hts⟩, some ⟨me, hel⟩ =>
      if ht : L.thk = false then if hh : L.ev = none then if hb : blkC N sc scope (ownOf N scope) = true then if htg : tgOk N (relS scope sc) (cellNames scope) tgs tg = true then if hsub : (tgs.all fun j => ((ownOf N scope).map (·.2)).contains j) = true then
        some ⟨.comp mi tgs ((ownOf N scope).map (·.2)) mts me, fun T Φ k E X ok => se_comp ok hh ht (hi.2 T Φ k E X ok) hb htg hsub hi.1 (fun X' ok' => hts T Φ k EF X' ok') (fun X' ok' => hel T Φ k EF X' ok')⟩
      else none else none else none else none else none
    | _, _, _, _ => none
  | n + 1, sc, cs, .ListComp elt [⟨tg, iter, ifs, 0⟩, ⟨tg1, iter1, ifs1, 0⟩] scope pos => match tgSlots N tg, compI L n sc cs tg iter, compTs L n (relS scope sc) (cellNames scope) ifs, tgSlots N tg1, compI L n (relS scope sc) (cellNames scope) tg1 iter1, compTs L n (relS scope sc) (cellNames scope) ifs1, compE L n (relS scope sc) (cellNames scope) elt with
    | some tgs, some ⟨mi, hi⟩, some ⟨mts, hts⟩, some tgs1, some ⟨mi1, hi1⟩, some ⟨mts1, hts1⟩, some ⟨me, hel⟩ =>
      if ht : L.thk = false then if hh : L.ev = none then if hb : blkC N sc scope (ownOf N scope) = true then if htg : tgOk N (relS scope sc) (cellNames scope) tgs tg = true then if hsub : (tgs.all fun j => ((ownOf N scope).map (·.2)).contains j) = true then
      if htg1 : tgOk N (relS scope sc) (cellNames scope) tgs1 tg1 = true then if hsub1 : (tgs1.all fun j => ((ownOf N scope).map (·.2)).contains j) = true then
        some ⟨.comp2 mi tgs ((ownOf N scope).map (·.2)) mts mi1 tgs1 tgs1 mts1 me, fun T Φ k E X ok => se_comp2 ok hh ht (hi.2 T Φ k E X ok) hb htg hsub htg1 hsub1 hi.1 hi1.1 (fun X' ok' => hts T Φ k EF X' ok') (fun X' ok' => hi1.2 T Φ k EF X' ok') (fun X' ok' => hts1 T Φ k EF X' ok') (fun X' ok' => hel T Φ k EF X' ok')⟩
      else none else none else none else none else none else none else none
    | _, _, _, _, _, _, _ => none
  | n + 1, sc, cs, .Attribute (.Name v p) f pos => match he : L.ev with
    | some w => if hw : v = w then match N.idxOf? v, hS : L.subs with
        | some i, (C, l) :: _ => if h : N[i]? = some v ∧ visB sc v = true ∧ dbgOk v = true then some ⟨.errF i (knownF L.exs f) f, fun T Φ k E X ok => se_errF ok (by rw [he, hw]) h.1 (visB_is h.2.1) (dbg1 h.2.2) (dbg2 h.2.2) (C := C) (l := l) (by rw [hS]; exact List.mem_cons_self)⟩ else none
        | _, _ => none
      else none
    | none => none
  | n + 1, sc, cs, .Call (.Attribute a at_ apos) [e] [] cpos => if hx : at_ = "count" then match compE L n sc cs a, compE L n sc cs e with
      | some ⟨ma, ha⟩, some ⟨me, he⟩ => if h : notStar e = true ∧ (apos.endLine == cpos.line) = true ∧ isName a = true then some ⟨.count ma me, fun T Φ k E X ok => by subst hx; exact se_count ok (ha T Φ k E X ok) (he T Φ k E X ok) h.1 h.2.1 (isName_base h.2.2)⟩ else none
      | _, _ => none
    else none
  | n + 1, sc, cs, .Call (.Name x p) [.Name v p1, .Name c p2] [] pos =>
    if hx : x = "isinstance" ∧ L.ev = some v then match N.idxOf? v, L.subs.lookup c with
      | some i, some l => if h : N[i]? = some v ∧ visB sc v = true ∧ dbgOk v = true ∧ sc.names.lookup ("isinstance" : Str) = some .globalImplicit ∧ ("isinstance" : Str) ∈ L.free ∧ sc.names.lookup c = some .globalImplicit ∧ dbgOk c = true ∧ (c, l) ∈ L.subs then
          some ⟨.isErr i (L.exs.map (·.1)) l, fun T Φ k E X ok => by obtain ⟨hx, he⟩ := hx; subst hx; exact se_isErr ok he h.1 (visB_is h.2.1) (dbg1 h.2.2.1) (dbg2 h.2.2.1) h.2.2.2.1 h.2.2.2.2.1 h.2.2.2.2.2.1 (dbg1 h.2.2.2.2.2.2.1) h.2.2.2.2.2.2.2⟩ else none
      | _, _ => none
    else compIsi L n sc cs x p (.Name v p1) c p2 pos
  | n + 1, sc, cs, .Call (.Name x p) [.Call (.Name y q) [e, e'] [] qpos] [] pos =>
    if hx : x = "list" ∧ y = "zip" then (match compE L n sc cs e, compE L n sc cs e' with
      | some ⟨m, he⟩, some ⟨m', he'⟩ => if hh : L.ev = none then if h : sc.names.lookup ("zip" : Str) = some .globalImplicit ∧ ("zip" : Str) ∈ L.free ∧ sc.names.lookup ("list" : Str) = some .globalImplicit ∧ ("list" : Str) ∈ L.free ∧ notStar e = true ∧ notStar e' = true then
          some ⟨.lzip m m', fun T Φ k E X ok => by obtain ⟨hx, hy⟩ := hx; subst hx hy; exact se_lzip ok hh h.1 h.2.1 h.2.2.1 h.2.2.2.1 h.2.2.2.2.1 h.2.2.2.2.2 (he T Φ k E X ok) (he' T Φ k E X ok)⟩ else none else none
      | _, _ => none)
    else compC L n sc cs x p [.Call (.Name y q) [e, e'] [] qpos] [] pos
  | n + 1, sc, cs, .Call (.Name x p) [.Call (.Name y q) [e] [] qpos] [] pos =>
    if hx : x = "sorted" ∧ y = "set" then (match compE L n sc cs e with
      | some ⟨m, he⟩ => if hh : L.ev = none then if h : sc.names.lookup ("set" : Str) = some .globalImplicit ∧ ("set" : Str) ∈ L.free ∧ sc.names.lookup ("sorted" : Str) = some .globalImplicit ∧ ("sorted" : Str) ∈ L.free ∧ notStar e = true then
          some ⟨.bi .sset [m], fun T Φ k E X ok => by obtain ⟨hx, hy⟩ := hx; subst hx hy; exact se_sset ok hh h.1 h.2.1 h.2.2.1 h.2.2.2.1 h.2.2.2.2 (he T Φ k E X ok)⟩ else none else none
      | none => none)
    else compC L n sc cs x p [.Call (.Name y q) [e] [] qpos] [] pos
  | n + 1, sc, cs, .Call (.Name x p) [e, .Name c p2] [] pos => compIsi L n sc cs x p e c p2 pos
  | n + 1, sc, cs, .Call (.Name x p) es kws pos => compC L n sc cs x p es kws pos
  | _, _, _, _ => none
/-- isinstance of data, or a call of two arguments -/
def compIsi (L : Lib) : (n : Nat) → (sc : Scope) → (cs : List Str) → (x : Str) → (p : Pos) → (e : Expr) → (c : Str) → (p2 pos : Pos) → Option { m : ME // SndE L N sc cs (.Call (.Name x p) [e, .Name c p2] [] pos) m }
  | 0, _, _, _, _, _, _, _, _ => none
  | n + 1, sc, cs, x, p, e, c, p2, pos =>
    if hx : x = "isinstance" then
      match compE L n sc cs e, isOf c with
      | some ⟨m, he⟩, some ⟨b, hk⟩ =>
        if h : sc.names.lookup ("isinstance" : Str) = some .globalImplicit ∧ ("isinstance" : Str) ∈ L.free ∧ sc.names.lookup c = some .globalImplicit ∧ c ∈ L.free ∧ notStar e = true then
          some ⟨.bi b [m], fun T Φ k E X ok => by
            obtain ⟨cn, k1, k2, k3, k4⟩ := hk.ex
            subst hx
            exact se_isi (x := "isinstance") ok h.1 h.2.1 h.2.2.1 h.2.2.2.1 k1 k2 k3 k4 h.2.2.2.2 (he T Φ k E X ok)⟩
        else none
      | _, _ => none
    else compC L n sc cs x p [e, .Name c p2] [] pos
/-- a call by name -/
def compC (L : Lib) : (n : Nat) → (sc : Scope) → (cs : List Str) → (x : Str) → (p : Pos) → (es : List Expr) → (kws : List Keyword) → (pos : Pos) → Option { m : ME // SndE L N sc cs (.Call (.Name x p) es kws pos) m }
  | 0, _, _, _, _, _, _, _ => none
  | n + 1, sc, cs, x, p, es, kws, pos =>
    if hh : L.ev = none then if hd : dbgOk x = true then if hg : sc.names.lookup x = some .globalImplicit then
      match hz : L.says.lookup x with
      | some z => (match es, kws with
        | [.Lambda params body scope lp], [] => (match compE L.inLam n scope [] body with
          | some ⟨m, hb⟩ => if h : L.lam = true ∧ lamSB sc scope = true ∧ noPar params = true then some ⟨.said z m, fun T Φ k E X ok => se_said ok hh h.1 (lookup_mem hz) hg (dbg1 hd) h.2.1 h.2.2 (fun T Φ k E X ok => hb T Φ k E X ok)⟩ else none
          | none => none)
        | _, _ => none)
      | none => match fnIx L x with
      | some i => match hf : L.fns[i]? with
        | some fi => if hn : fi.name = x then match compA L n sc cs es, compK L n sc cs kws, hks : kwNames kws with
          | some ⟨ms, ha⟩, some ⟨mk, hk⟩, some ks => if hkl : mk.length = ks.length then
            match es, ha with
            | [], ha => (match hpt : bindP fi.ps (ixPos 0) (ixKw 0 ks) (ixDf fi.dfl.length) with
              | some pt => if hpl : pt.length = fi.ps.length then some ⟨.call i (patD fi.dfl pt) mk, fun T Φ k E X ok => se_call0 ok hh hf hn hg (dbg1 hd) hks hkl hpt hpl (hk.2 T Φ k E X ok)⟩ else none
              | none => none)
            | e :: es, ha => (match hpt : bindP fi.ps (ixPos ms.length) (ixKw ms.length ks) (ixDf fi.dfl.length) with
              | some pt => if hpl : pt.length = fi.ps.length then some ⟨.call i (patD fi.dfl pt) (ms ++ mk), fun T Φ k E X ok => se_call ok hh hf hn hg (dbg1 hd) ha.1 hks hkl hpt hpl (ha.2.2 T Φ k E X ok) (hk.2 T Φ k E X ok)⟩ else none
              | none => none)
            else none
          | _, _, _ => none
          else none
        | none => none
      | none => match es, kws with
        | e :: es, [] => (match bkOf x (es.length + 1), compA L n sc cs (e :: es) with
          | some ⟨b, hb⟩, some ⟨ms, ha⟩ => if hf : x ∈ L.free then some ⟨.bi b ms, snd_bi hh hb hg hf hd ha⟩ else none
          | _, _ => none)
        | _, _ => none
    else (match N.idxOf? x, es, kws with
      | some j, [], [] => if ht : L.thk = true then if h : N[j]? = some x ∧ visB sc x = true then some ⟨.thk j, fun T Φ k E X ok => se_thk ok hh ht h.1 (visB_is h.2) (dbg1 hd) (dbg2 hd)⟩ else none
        else if h : N[j]? = some x ∧ visB sc x = true then some ⟨.callV (mkTab L 0) (.slot j) [], fun T Φ k E X ok => se_callV0 ok hh h.1 (visB_is h.2) (dbg1 hd) (dbg2 hd) (mkTab_ok L 0)⟩ else none
      | some j, e :: es, [] => (match compA L n sc cs (e :: es) with
        | some ⟨ms, ha⟩ => if h : N[j]? = some x ∧ visB sc x = true then some ⟨.callV (mkTab L ms.length) (.slot j) ms, fun T Φ k E X ok => se_callV ok hh h.1 (visB_is h.2) (dbg1 hd) (dbg2 hd) (mkTab_ok L ms.length) ha.1 (ha.2.2 T Φ k E X ok)⟩ else none
        | none => none)
      | _, _, _ => none) else none
    else match es, kws with
      | [.Name v pv], [] => (match he : L.ev, hfd : L.hots.find? (fun z => z.1 == x), N.idxOf? v with
        | some w, some hh, some i => if h : v = w ∧ N[i]? = some v ∧ visB sc v = true ∧ dbgOk v = true ∧ sc.names.lookup x = some .globalImplicit ∧ dbgOk x = true then
            if hm : hh.1 = x then some ⟨.errCall hh.2 i, fun T Φ k E X ok => se_errCall ok (by rw [he, h.1]) h.2.1 (visB_is h.2.2.1) (dbg1 h.2.2.2.1) (dbg2 h.2.2.2.1) (by rw [← hm]; exact List.mem_of_find?_eq_some hfd) h.2.2.2.2.1 (dbg1 h.2.2.2.2.2)⟩ else none
          else none
        | _, _, _ => none)
      | _, _ => none
def compA (L : Lib) : (n : Nat) → (sc : Scope) → (cs : List Str) → (es : List Expr) → Option { m : List ME // SndA L N sc cs es m }
  | 0, _, _, _ => none
  | n + 1, sc, cs, [] => some ⟨[], rfl, rfl, fun T Φ k E X ok => sa_nil⟩
  | n + 1, sc, cs, e :: es => match compE L n sc cs e, compA L n sc cs es with
    | some ⟨m, he⟩, some ⟨ms, hes⟩ => if hs : notStar e = true then some ⟨m :: ms, by simp [noStars, hs, hes.1], by simp [hes.2.1], fun T Φ k E X ok => sa_cons (he T Φ k E X ok) (hes.2.2 T Φ k E X ok) hs⟩ else none
    | _, _ => none
/-- a display with stars -/
def compCt (L : Lib) : (n : Nat) → (sc : Scope) → (cs : List Str) → (es : List Expr) → Option { p : List Bool × List ME // SndC L N sc cs es p }
  | 0, _, _, _ => none
  | n + 1, sc, cs, [] => some ⟨([], []), fun T Φ k E X ok => sc_nil⟩
  | n + 1, sc, cs, .Starred e p :: es => match compE L n sc cs e, compCt L n sc cs es with
    | some ⟨m, he⟩, some ⟨q, hq⟩ => some ⟨(true :: q.1, m :: q.2), fun T Φ k E X ok => sc_star (he T Φ k E X ok) (hq T Φ k E X ok)⟩
    | _, _ => none
  | n + 1, sc, cs, e :: es => match compE L n sc cs e, compCt L n sc cs es with
    | some ⟨m, he⟩, some ⟨q, hq⟩ => if hs : notStar e = true then some ⟨(false :: q.1, m :: q.2), fun T Φ k E X ok => sc_cons (he T Φ k E X ok) (hq T Φ k E X ok) hs⟩ else none
    | _, _ => none
def compK (L : Lib) : (n : Nat) → (sc : Scope) → (cs : List Str) → (es : List Keyword) → Option { m : List ME // SndK L N sc cs es m }
  | 0, _, _, _ => none
  | n + 1, sc, cs, [] => some ⟨[], rfl, fun T Φ k E X ok => sk_nil⟩
  | n + 1, sc, cs, ⟨nm, e, kp⟩ :: es => match compE L n sc cs e, compK L n sc cs es with
    | some ⟨m, he⟩, some ⟨ms, hes⟩ => some ⟨m :: ms, by simp [hes.1], fun T Φ k E X ok => sk_cons (he T Φ k E X ok) (hes.2 T Φ k E X ok)⟩
    | _, _ => none
def compO (L : Lib) : (n : Nat) → (sc : Scope) → (cs : List Str) → (e : Option Expr) → Option { m : Option ME // SndO L N sc cs e m }
  | 0, _, _, _ => none
  | n + 1, sc, cs, none => some ⟨none, fun T Φ k E X ok => so_none⟩
  | n + 1, sc, cs, some e => match compE L n sc cs e with
    | some ⟨m, he⟩ => some ⟨some m, fun T Φ k E X ok => so_some (he T Φ k E X ok)⟩
    | none => none
def compD (L : Lib) : (n : Nat) → (sc : Scope) → (cs : List Str) → (pos : Pos) → (ks : List (Option Expr)) → (vs : List Expr) → Option { p : List Str × List ME // SndD L N sc cs pos ks vs p }
  | 0, _, _, _, _, _ => none
  | n + 1, sc, cs, pos, [], [] => some ⟨([], []), rfl, rfl, rfl, rfl, fun T Φ k E X ok => pps_nil⟩
  | n + 1, sc, cs, pos, some (.Constant (.str z) j p) :: ks, v :: vs => match compE L n sc cs v, compD L n sc cs pos ks vs with
    | some ⟨m, he⟩, some ⟨q, hq⟩ => some ⟨(z :: q.1, m :: q.2), by simp [hq.1], by simp [hq.2.1], by simp [hq.2.2.1], by simp [hq.2.2.2.1], fun T Φ k E X ok => pps_cons pe_str (he T Φ k E X ok) (hq.2.2.2.2 T Φ k E X ok)⟩
    | _, _ => none
  | _, _, _, _, _, _ => none
/-- a test -/
def compT (L : Lib) : (n : Nat) → (sc : Scope) → (cs : List Str) → (e : Expr) → Option { m : ME // SndT L N sc cs e m }
  | 0, _, _, _ => none
  | n + 1, sc, cs, .UnaryOp .Not a pos => match compT L n sc cs a with
    | some ⟨ma, ha⟩ => some ⟨.not_ ma, fun T Φ k E X ok => st_not (ha T Φ k E X ok)⟩
    | none => none
  | n + 1, sc, cs, .BoolOp op vs pos => match compW L n sc cs op vs pos with
    | some ⟨m, h⟩ => some ⟨m, fun T Φ k E X ok => (h T Φ k E X ok).pt⟩
    | none => none
  | n + 1, sc, cs, .Compare a [.Is] [.Constant .none j p] pos => match compE L n sc cs a with
    | some ⟨ma, ha⟩ => some ⟨.isN ma, fun T Φ k E X ok => pe_cmpN (ha T Φ k E X ok)⟩
    | none => none
  | n + 1, sc, cs, .Compare a [.IsNot] [.Constant .none j p] pos => match compE L n sc cs a with
    | some ⟨ma, ha⟩ => some ⟨.notN ma, fun T Φ k E X ok => pe_cmpNN (ha T Φ k E X ok)⟩
    | none => none
  | n + 1, sc, cs, .Compare a [op] [b] pos => match compE L n sc cs a, compE L n sc cs b, ho : cop op with
    | some ⟨ma, ha⟩, some ⟨mb, hb⟩, some o => if hm : behindInMarks op b = false then some ⟨.cmp o ma mb, fun T Φ k E X ok => st_cmpD ok ho hm (ha T Φ k E X ok) (hb T Φ k E X ok)⟩ else none
    | _, _, _ => none
  | n + 1, sc, cs, e => if hp : plainTest e = true then match compE L n sc cs e with
      | some ⟨m, he⟩ => some ⟨m, fun T Φ k E X ok => st_val (he T Φ k E X ok) hp⟩
      | none => none
    else none
def compW (L : Lib) : (n : Nat) → (sc : Scope) → (cs : List Str) → (op : BoolOp) → (vs : List Expr) → (pos : Pos) → Option { m : ME // SndW L N sc cs (.BoolOp op vs pos) m }
  | 0, _, _, _, _, _ => none
  | n + 1, sc, cs, .And, [a], pos => match compT L n sc cs a with
    | some ⟨m, h⟩ => some ⟨m, fun T Φ k E X ok => pw_and1 (h T Φ k E X ok)⟩
    | none => none
  | n + 1, sc, cs, .Or, [a], pos => match compT L n sc cs a with
    | some ⟨m, h⟩ => some ⟨m, fun T Φ k E X ok => pw_or1 (h T Φ k E X ok)⟩
    | none => none
  | n + 1, sc, cs, .And, a :: b :: r, pos => match compT L n sc cs a, compW L n sc cs .And (b :: r) pos with
    | some ⟨ma, ha⟩, some ⟨mb, hb⟩ => some ⟨.and_ ma mb, fun T Φ k E X ok => sw_and (ha T Φ k E X ok) (hb T Φ k E X ok)⟩
    | _, _ => none
  | n + 1, sc, cs, .Or, a :: b :: r, pos => match compT L n sc cs a, compW L n sc cs .Or (b :: r) pos with
    | some ⟨ma, ha⟩, some ⟨mb, hb⟩ => some ⟨.or_ ma mb, fun T Φ k E X ok => sw_or (ha T Φ k E X ok) (hb T Φ k E X ok)⟩
    | _, _ => none
  | _, _, _, _, _, _ => none
def compTs (L : Lib) : (n : Nat) → (sc : Scope) → (cs : List Str) → (es : List Expr) → Option { m : List ME // SndTs L N sc cs es m }
  | 0, _, _, _ => none
  | n + 1, sc, cs, [] => some ⟨[], fun T Φ k E X ok => sts_nil⟩
  | n + 1, sc, cs, [e] => match compT L n sc cs e with
    | some ⟨m, h⟩ => some ⟨[m], fun T Φ k E X ok => sts_one (h T Φ k E X ok)⟩
    | none => none
  | _, _, _, _ => none
/-- what a for goes through -/
def compI (L : Lib) : (n : Nat) → (sc : Scope) → (cs : List Str) → (tg e : Expr) → Option { m : MI // SndI L N sc cs tg e m }
  | 0, _, _, _, _ => none
  | n + 1, sc, cs, tg, .Call (.Name x p) [e] [] pos =>
    if hx : x = "range" then match compE L n sc cs e with
      | some ⟨m, he⟩ => if h : sc.names.lookup ("range" : Str) = some .globalImplicit ∧ ("range" : Str) ∈ L.free ∧ notStar e = true then
          some ⟨.range (.lit (.int 0)) m, rfl, fun T Φ k E X ok => by subst hx; exact si_range1 ok h.1 h.2.1 h.2.2 (he T Φ k E X ok)⟩ else none
      | none => none
    else if hx : x = "enumerate" then match tg, compE L n sc cs e with
      | .Tuple elts kk tpos, some ⟨m, he⟩ => if h : sc.names.lookup ("enumerate" : Str) = some .globalImplicit ∧ ("enumerate" : Str) ∈ L.free ∧ notStar e = true then
          some ⟨.enum m, rfl, fun T Φ k E X ok => by subst hx; exact si_enum ok h.1 h.2.1 h.2.2 (he T Φ k E X ok)⟩ else none
      | _, _ => none
    else match compE L n sc cs (.Call (.Name x p) [e] [] pos) with
      | some ⟨m, he⟩ => some ⟨.seq m, rfl, fun T Φ k E X ok => si_seq (he T Φ k E X ok)⟩
      | none => none
  | n + 1, sc, cs, tg, .Call (.Name x p) [e, e'] [] pos =>
    if hx : x = "range" then match compE L n sc cs e, compE L n sc cs e' with
      | some ⟨m, he⟩, some ⟨m', he'⟩ => if h : sc.names.lookup ("range" : Str) = some .globalImplicit ∧ ("range" : Str) ∈ L.free ∧ notStar e = true ∧ notStar e' = true then
          some ⟨.range m m', rfl, fun T Φ k E X ok => by subst hx; exact si_range2 ok h.1 h.2.1 h.2.2.1 h.2.2.2 (he T Φ k E X ok) (he' T Φ k E X ok)⟩ else none
      | _, _ => none
    else if hx : x = "zip" then match tg, compE L n sc cs e, compE L n sc cs e' with
      | .Tuple elts kk tpos, some ⟨m, he⟩, some ⟨m', he'⟩ => if h : sc.names.lookup ("zip" : Str) = some .globalImplicit ∧ ("zip" : Str) ∈ L.free ∧ notStar e = true ∧ notStar e' = true then
          some ⟨.zip m m', rfl, fun T Φ k E X ok => by subst hx; exact si_zip ok h.1 h.2.1 h.2.2.1 h.2.2.2 (he T Φ k E X ok) (he' T Φ k E X ok)⟩ else none
      | _, _, _ => none
    else match compE L n sc cs (.Call (.Name x p) [e, e'] [] pos) with
      | some ⟨m, he⟩ => some ⟨.seq m, rfl, fun T Φ k E X ok => si_seq (he T Φ k E X ok)⟩
      | none => none
  | n + 1, sc, cs, tg, .Call (.Name x p) [e, e', e''] [] pos =>
    if hx : x = "range" then match compE L n sc cs e, compE L n sc cs e', compE L n sc cs e'' with
      | some ⟨m, he⟩, some ⟨m', he'⟩, some ⟨m'', he''⟩ => if h : sc.names.lookup ("range" : Str) = some .globalImplicit ∧ ("range" : Str) ∈ L.free ∧ notStar e = true ∧ notStar e' = true ∧ notStar e'' = true then
          some ⟨.range3 m m' m'', rfl, fun T Φ k E X ok => by subst hx; exact si_range3 ok h.1 h.2.1 h.2.2.1 h.2.2.2.1 h.2.2.2.2 (he T Φ k E X ok) (he' T Φ k E X ok) (he'' T Φ k E X ok)⟩ else none
      | _, _, _ => none
    else match compE L n sc cs (.Call (.Name x p) [e, e', e''] [] pos) with
      | some ⟨m, he⟩ => some ⟨.seq m, rfl, fun T Φ k E X ok => si_seq (he T Φ k E X ok)⟩
      | none => none
  | n + 1, sc, cs, tg, e => if hs : notSet e = true then match compE L n sc cs e with
      | some ⟨m, he⟩ => some ⟨.seq m, hs, fun T Φ k E X ok => si_seq (he T Φ k E X ok)⟩
      | none => none
    else none
end
end SH

set_option Elab.async false
set_option linter.all false
set_option autoImplicit false
set_option maxRecDepth 100000
set_option maxHeartbeats 4000000
namespace SH
open PySem PySem.Spec PyProof.Rows L2 LamX
variable (N : List Str)
abbrev SndS (L : Lib) (N : List Str) (sc : Scope) (cs : List Str) (e : Stmt) (m : MS) : Prop := ∀ (T : Tg) (Φ : Fns) (k : Nat) (E : L2.St → XK) (X : Cx), CtxOk T Φ L N sc cs k E X → FrOk X → PS X e (tM X.K X.mg T Φ E m)
abbrev SndSs (L : Lib) (N : List Str) (sc : Scope) (cs : List Str) (e : List Stmt) (m : List MS) : Prop := ∀ (T : Tg) (Φ : Fns) (k : Nat) (E : L2.St → XK) (X : Cx), CtxOk T Φ L N sc cs k E X → FrOk X → PSs X e (tMs X.K X.mg T Φ E m)
/-! ### which names hold lists of one's own; which are read -/
mutual
def namesE : (n : Nat) → Expr → List Str
  | 0, _ => []
  | n + 1, e => match e with
    | .Name x _ => [x]
    | .BoolOp _ vs _ => namesL n vs
    | .BinOp a _ b _ => namesE n a ++ namesE n b
    | .UnaryOp _ a _ => namesE n a
    | .IfExp a b c _ => namesE n a ++ namesE n b ++ namesE n c
    | .Dict _ vs _ => namesL n vs
    | .ListComp e gs _ _ => namesE n e ++ gs.flatMap (fun g => namesE n g.iter ++ namesL n g.ifs)
    | .Compare a _ bs _ => namesE n a ++ namesL n bs
    | .Call f es ks _ => namesE n f ++ namesL n es ++ ks.flatMap (fun k => namesE n k.value)
    | .Attribute a _ _ => namesE n a
    | .Subscript a b _ => namesE n a ++ namesE n b
    | .Starred a _ => namesE n a
    | .List es _ => namesL n es
    | .Tuple es _ _ => namesL n es
    | .Slice a b c _ => namesO n a ++ namesO n b ++ namesO n c
    | .Lambda _ b _ _ => namesE n b
    | _ => []
def namesL : (n : Nat) → List Expr → List Str
  | 0, _ => []
  | n + 1, es => es.flatMap (namesE n)
def namesO : (n : Nat) → Option Expr → List Str
  | 0, _ => []
  | n + 1, e => match e with
    | some e => namesE n e
    | none => []
end
/-- the names that are appended to -/
def ownS : (n : Nat) → List Stmt → List Str
  | 0, _ => []
  | n + 1, sts => sts.flatMap fun st => match st with
    | .Expr (.Call (.Attribute (.Name x _) a _) _ _ _) _ => if a == ("append" : Str) then [x] else []
    | .Assign [.Subscript (.Name x _) (.Constant (.str _) _ _) _] _ _ => []
    | .Assign [.Subscript (.Name x _) _ _] _ _ => [x]
    | .If _ a b _ => ownS n a ++ ownS n b
    | .For _ _ a b _ => ownS n a ++ ownS n b
    | .While _ a b _ => ownS n a ++ ownS n b
    | .Try a hs _ _ _ => ownS n a ++ hs.flatMap (fun | .ExceptHandler _ _ b _ => ownS n b)
    | _ => []
/-- what a statement reads by itself (not in its blocks) -/
def readsS (n : Nat) : Stmt → List Str
  | .Return (some e) _ => namesE n e
  | .Assign [.Subscript (.Name _ _) i _] e _ => namesE n e ++ namesE n i
  | .Assign ts e _ => namesE n e ++ (ts.filter fun | .Name .. => false | .Tuple .. => false | _ => true).flatMap (namesE n)
  | .If c _ _ _ => namesE n c
  | .For _ e _ _ _ => namesE n e
  | .While c _ _ _ => namesE n c
  | .Expr (.Call (.Attribute (.Name _ _) a _) es _ _) _ => if a == ("append" : Str) then namesL n es else []
  | .Expr e _ => namesE n e
  | .Raise (some e) _ _ => namesE n e
  | _ => []
def frzOf (N : List Str) (ow : List Str) (st : Stmt) : List Nat := (ow.filter fun x => (readsS 60 st).contains x).filterMap fun x => N.idxOf? x
theorem stores_par {X : Cx} {sc : Scope} {x y : Str} {px py pt pt2 : Pos} {kt k2 : Nat} {a b : Expr} (hs : X.env.scope = sc) (hx : sc.names.lookup x = some .local) (hy : sc.names.lookup y = some .local) (ha : notStar a = true) (hb : notStar b = true) (hk : sc.kind = .function) (hl : px.line = py.line) (hne : x ≠ y)
    (hf : (foldedForSure 8 a && foldedForSure 8 b) = false) (hc : (constantsAlone 8 a && constantsAlone 8 b) = false) : swappedStores [.Tuple [.Name x px, .Name y py] kt pt] (.Tuple [a, b] k2 pt2) X.env = pure (some [x, y]) := by
  have kx : X.env.kindOf x = some .local := by unfold Env.kindOf; rw [hs]; exact hx
  have ky : X.env.kindOf y = some .local := by unfold Env.kindOf; rw [hs]; exact hy
  have bk : X.env.blockKind = .function := by unfold Env.blockKind; rw [hs, hk]; rfl
  have nd : ([x, y] : List Str).eraseDups.length = 2 := by
    have : (y == x) = false := by simpa using (Ne.symm hne)
    simp [List.eraseDups_cons, this]
  have key : ∀ f : Expr → Bool, (∀ e, notStar e = true → f e = false) → [a, b].any f = false := fun f hf => by
    rw [List.any_cons, List.any_cons, List.any_nil, hf a ha, hf b hb]; rfl
  have nms : ∀ f : Expr → Option Str, f (.Name x px) = some x → f (.Name y py) = some y → [Expr.Name x px, Expr.Name y py].filterMap f = [x, y] := fun f h1 h2 => by
    rw [List.filterMap_cons, h1]
    simp only
    rw [List.filterMap_cons, h2]
    rfl
  unfold swappedStores
  dsimp only
  refine (if_neg (by rw [bk]; simp)).trans ?_
  refine (if_neg (by rw [key _ (fun e he => by cases e <;> first | rfl | cases he)]; decide)).trans ?_
  rw [nms _ (by simp only [kx, List.head?_cons, Option.map_some, Option.getD_some, Expr.pos, beq_self_eq_true, Bool.and_self, if_true]) (by simp only [ky, List.head?_cons, Option.map_some, Option.getD_some, Expr.pos, hl, beq_self_eq_true, Bool.and_self, if_true])]
  refine (if_neg (by rw [nd]; simp)).trans ?_
  refine (if_neg (by simp only [List.all_cons, List.all_nil, Bool.and_true, hf]; decide)).trans ?_
  exact (if_neg (by simp only [List.all_cons, List.all_nil, Bool.and_true, hc]; decide)).trans rfl
/-- no stores are exchanged -/
def stNoneB (sc : Scope) (ts vs : List Expr) : Bool :=
  !(ts.length == 2 || ts.length == 3) || vs.length != ts.length || vs.all (foldedForSure 8) ||
  (let line := (ts.head?.map (·.pos.line)).getD 0
   let names := ts.filterMap fun
    | .Name id pos => if sc.names.lookup id == some .local && pos.line == line then some id else none
    | _ => none
   names.length != ts.length || names.eraseDups.length != names.length)
theorem stores_none {X : Cx} {sc : Scope} {ts vs : List Expr} {kk k2 : Nat} {p p2 : Pos} (hs : X.env.scope = sc) (h : stNoneB sc ts vs = true) : swappedStores [.Tuple ts kk p] (.Tuple vs k2 p2) X.env = pure none := by
  have hk : ∀ id, X.env.kindOf id = sc.names.lookup id := fun id => by unfold Env.kindOf; rw [hs]
  unfold swappedStores
  dsimp only
  simp only [hk]
  unfold stNoneB at h
  simp only [Bool.or_eq_true] at h
  split
  · rfl
  · rename_i h1
    split
    · rfl
    · split
      · rfl
      · rename_i h3
        split
        · rfl
        · rename_i h4
          exfalso
          simp only [Bool.or_eq_true, not_or] at h1 h3
          rcases h with ((h | h) | h) | h | h
          · exact h1.1.1 h
          · exact h1.1.2 h
          · exact h4 h
          · exact h3.1 h
          · exact h3.2 h
theorem ss_setTT {T : Tg} {Φ : Fns} {L : Lib} {N : List Str} {sc : Scope} {cs : List Str} {k : Nat} {E : L2.St → XK} {X : Cx} {es vs : List Expr} {kk k2 : Nat} {p p2 pos : Pos} {m : ME} {tg : List Nat} (ok : CtxOk T Φ L N sc cs k E X) (hh : L.ev = none) (htg : tgOk N sc cs tg (.Tuple es kk p) = true) (hb : stNoneB sc es vs = true) (he : PE X (.Tuple vs k2 p2) (tE X.K X.mg T Φ E m)) : PS X (.Assign [.Tuple es kk p] (.Tuple vs k2 p2) pos) (tM X.K X.mg T Φ E (.set tg m)) :=
  PS.mono (ps_asg he (pg_tg ok.hN ok.nd ok.hsc ok.st (ok.calm hh) htg) sole_tup (stores_none ok.hsc hb) rfl) fun D σ H h => t_set D σ H h
def compPar (L : Lib) (n : Nat) (sc : Scope) (cs : List Str) : (es : List Expr) → (kt : Nat) → (pt : Pos) → (vs : List Expr) → (k2 : Nat) → (pt2 : Pos) → (pos : Pos) → Option { m : MS // SndS L N sc cs (.Assign [.Tuple es kt pt] (.Tuple vs k2 pt2) pos) m }
  | [.Name x px, .Name y py], kt, pt, [a, b], k2, pt2, pos => match N.idxOf? x, N.idxOf? y, compE N L n sc cs a, compE N L n sc cs b with
    | some i, some j, some ⟨ma, ha⟩, some ⟨mb, hb⟩ =>
      if hh : L.ev = none then if h : N[i]? = some x ∧ N[j]? = some y ∧ i ≠ j ∧ sc.names.lookup x = some .local ∧ sc.names.lookup y = some .local ∧ notStar a = true ∧ notStar b = true ∧ sc.kind = .function ∧ px.line = py.line ∧ x ≠ y ∧ (foldedForSure 8 a && foldedForSure 8 b) = false ∧ (constantsAlone 8 a && constantsAlone 8 b) = false then
        some ⟨.par i j ma mb, fun T Φ k E X ok fr => ss_par ok hh h.1 h.2.1 h.2.2.1 h.2.2.2.1 h.2.2.2.2.1 h.2.2.2.2.2.1 h.2.2.2.2.2.2.1 (stores_par ok.hsc h.2.2.2.1 h.2.2.2.2.1 h.2.2.2.2.2.1 h.2.2.2.2.2.2.1 h.2.2.2.2.2.2.2.1 h.2.2.2.2.2.2.2.2.1 h.2.2.2.2.2.2.2.2.2.1 h.2.2.2.2.2.2.2.2.2.2.1 h.2.2.2.2.2.2.2.2.2.2.2) (ha T Φ k E X ok) (hb T Φ k E X ok)⟩ else none else none
    | _, _, _, _ => none
  | _, _, _, _, _, _, _ => none
abbrev SndF (L : Lib) (N : List Str) (sc : Scope) (cs : List Str) (e : Expr) (m : ME) : Prop := ∀ (T : Tg) (Φ : Fns) (k : Nat) (E : L2.St → XK) (X : Cx), CtxOk T Φ L N sc cs k E X → PE X e (tF X.K X.mg T Φ E m)
/-- a new list -/
def compF (L : Lib) : (n : Nat) → (sc : Scope) → (cs : List Str) → (e : Expr) → Option { m : ME // SndF L N sc cs e m }
  | 0, _, _, _ => none
  | n + 1, sc, cs, .List es lpos => match compA N L n sc cs es with
    | some ⟨ms, h⟩ => if hl : ms.length ≤ sizeLine then some ⟨.lst ms, fun T Φ k E X ok => sf_lst (h.2.2 T Φ k E X ok) hl⟩ else none
    | none => none
  | n + 1, sc, cs, .BinOp a .Add b bpos => match compE N L n sc cs a, compE N L n sc cs b with
    | some ⟨ma, ha⟩, some ⟨mb, hb⟩ => some ⟨.bin .add ma mb, fun T Φ k E X ok => sf_add (ha T Φ k E X ok) (hb T Φ k E X ok)⟩
    | _, _ => none
  | n + 1, sc, cs, .BinOp a .Mult b bpos => match compE N L n sc cs a, compE N L n sc cs b with
    | some ⟨ma, ha⟩, some ⟨mb, hb⟩ => some ⟨.bin .mul ma mb, fun T Φ k E X ok => sf_rep (ha T Φ k E X ok) (hb T Φ k E X ok)⟩
    | _, _ => none
  | n + 1, sc, cs, .IfExp c a b ipos => match compT N L n sc cs c, compF L n sc cs a, compF L n sc cs b with
    | some ⟨mc, hc⟩, some ⟨ma, ha⟩, some ⟨mb, hb⟩ => some ⟨.ite mc ma mb, fun T Φ k E X ok => sf_ite (hc T Φ k E X ok) (ha T Φ k E X ok) (hb T Φ k E X ok)⟩
    | _, _, _ => none
  | _, _, _, _ => none
def isList : Expr → Bool
  | .List .. => true
  | _ => false
mutual
def compS (L : Lib) : (n : Nat) → (sc : Scope) → (cs ow : List Str) → (st : Stmt) → Option { m : MS // SndS L N sc cs st m }
  | 0, _, _, _, _ => none
  | n + 1, sc, cs, ow, .Pass pos => some ⟨.pass, fun T Φ k E X ok fr => ss_pass⟩
  | n + 1, sc, cs, ow, .Break pos => some ⟨.brk, fun T Φ k E X ok fr => ss_brk⟩
  | n + 1, sc, cs, ow, .Continue pos => some ⟨.cont, fun T Φ k E X ok fr => ss_cont⟩
  | n + 1, sc, cs, ow, .Return none pos => some ⟨.retN, fun T Φ k E X ok fr => ss_retN⟩
  | n + 1, sc, cs, ow, .Return (some e) pos => match compE N L n sc cs e with
    | some ⟨m, he⟩ => some ⟨.ret m, fun T Φ k E X ok fr => ss_ret (he T Φ k E X ok)⟩
    | none => none
  | n + 1, sc, cs, ow, .If c a b pos => match compT N L n sc cs c, compSs L n sc cs ow a, compSs L n sc cs ow b with
    | some ⟨mc, hc⟩, some ⟨ma, ha⟩, some ⟨mb, hb⟩ => some ⟨.if_ mc ma mb, fun T Φ k E X ok fr => ss_if (hc T Φ k E X ok) (ha T Φ k E X ok fr) (hb T Φ k E X ok fr)⟩
    | _, _, _ => none
  | n + 1, sc, cs, ow, .For tg e body [] pos => match tgSlots N tg, compI N L n sc cs tg e, compSs L n sc cs ow body with
    | some tgs, some ⟨mi, hi⟩, some ⟨mb, hb⟩ => if hh : L.ev = none then if htg : tgOk N sc cs tgs tg = true then some ⟨.for_ mi tgs mb, fun T Φ k E X ok fr => ss_for ok hh (hi.2 T Φ k E X ok) htg hi.1 (hb T Φ k E X ok fr)⟩ else none else none
    | _, _, _ => none
  | n + 1, sc, cs, ow, .While c body [] pos => match compT N L n sc cs c, compSs L n sc cs ow body with
    | some ⟨mc, hc⟩, some ⟨mb, hb⟩ => if hh : L.ev = none then if frzOf N ow (.While c body [] pos) = [] then some ⟨.while_ mc mb, fun T Φ k E X ok fr => ss_while ok hh (hc T Φ k E X ok) (hb T Φ k E X ok fr)⟩ else none else none
    | _, _ => none
  | n + 1, sc, cs, ow, .Try body [.ExceptHandler (some (.Name C np)) (some v) (b₀ :: suite) pos'] [] [] pos => match N.idxOf? v, L.subs.lookup C, compSs L n sc cs ow body, compSs (L.hot v) n sc cs ow (b₀ :: suite) with
    | some i, some l, some ⟨mb, hb⟩, some ⟨ms, hs⟩ => if hh : L.ev = none then if h : N[i]? = some v ∧ sc.names.lookup v = some .local ∧ sc.names.lookup C = some .globalImplicit ∧ dbgOk C = true ∧ (C, l) ∈ L.subs then
        some ⟨.try_ mb (L.exs.map (·.1)) l i ms, fun T Φ k E X ok fr => ss_try ok fr hh h.1 h.2.1 h.2.2.1 (dbg1 h.2.2.2.1) h.2.2.2.2 (fun E X ok fr => hb T Φ k E X ok fr) (fun T X ok fr => hs T Φ k EF X ok fr)⟩ else none else none
    | _, _, _, _ => none
  | n + 1, sc, cs, ow, .Raise (some (.Call (.Name cn p) (e :: es) [] cpos)) none pos => match L.exs.lookup cn, compA N L n sc cs (e :: es) with
    | some fs, some ⟨ms, h⟩ => if hh : L.ev = none then if q : (cn, fs) ∈ L.exs ∧ sc.names.lookup cn = some .globalImplicit ∧ dbgOk cn = true ∧ ms.length = fs.length then
        some ⟨.raise_ cn fs ms, fun T Φ k E X ok fr => ss_raise ok hh q.1 q.2.1 (dbg1 q.2.2.1) h.1 (h.2.2 T Φ k E X ok) q.2.2.2⟩ else none else none
    | _, _ => none
  | n + 1, sc, cs, ow, .Expr (.Call (.Attribute (.Name x p) a apos) [e] [] cpos) pos =>
    if ha : a = "append" then match N.idxOf? x, compE N L n sc cs e with
      | some i, some ⟨m, he⟩ => if h : N[i]? = some x ∧ visB sc x = true ∧ dbgOk x = true ∧ notStar e = true ∧ (apos.endLine == cpos.line) = true then
          some ⟨.app i m, fun T Φ k E X ok fr => by subst ha; exact ss_app ok h.1 (visB_is h.2.1) (dbg1 h.2.2.1) (dbg2 h.2.2.1) h.2.2.2.1 h.2.2.2.2 (he T Φ k E X ok)⟩ else none
      | _, _ => none
    else none
  | n + 1, sc, cs, ow, .Expr e pos => if hc : notComp e = true then match compE N L n sc cs e with
      | some ⟨m, he⟩ => some ⟨.expr m, fun T Φ k E X ok fr => ss_expr (he T Φ k E X ok) hc⟩
      | none => none
    else none
  | n + 1, sc, cs, ow, .Assign [.Name y py] (.ListComp elt [⟨tg, iter, ifs, 0⟩] scope cpos) pos => match tgSlots N tg, compI N L n sc cs tg iter, compTs N L n (relS scope sc) (cellNames scope) ifs, compE N L n (relS scope sc) (cellNames scope) elt, N.idxOf? y with
    | some tgs, some ⟨mi, hi⟩, some ⟨mts, hts⟩, some ⟨me, hel⟩, some i =>
      if ht : L.thk = false then if hh : L.ev = none then if hk : sc.kind = .function then if hy : tgOk N sc cs [i] (.Name y py) = true then
      if hb : blkC N sc scope (ownOf N scope) = true then if htg : tgOk N (relS scope sc) (cellNames scope) tgs tg = true then if hsub : (tgs.all fun j => ((ownOf N scope).map (·.2)).contains j) = true then
        if ow.contains y then some ⟨.own i (.comp mi tgs ((ownOf N scope).map (·.2)) mts me), fun T Φ k E X ok fr => ss_ownC ok hh ht hk hy (hi.2 T Φ k E X ok) hb htg hsub hi.1 (fun X' ok' => hts T Φ k EF X' ok') (fun X' ok' => hel T Φ k EF X' ok')⟩ else
        some ⟨.set [i] (.comp mi tgs ((ownOf N scope).map (·.2)) mts me), fun T Φ k E X ok fr => ss_setC ok hh ht hk hy (hi.2 T Φ k E X ok) hb htg hsub hi.1 (fun X' ok' => hts T Φ k EF X' ok') (fun X' ok' => hel T Φ k EF X' ok')⟩
      else none else none else none else none else none else none else none
    | _, _, _, _, _ => none
  | n + 1, sc, cs, ow, .Assign [.Name y py] (.ListComp elt [⟨tg, iter, ifs, 0⟩, ⟨tg1, iter1, ifs1, 0⟩] scope cpos) pos => match tgSlots N tg, compI N L n sc cs tg iter, compTs N L n (relS scope sc) (cellNames scope) ifs, tgSlots N tg1, compI N L n (relS scope sc) (cellNames scope) tg1 iter1, compTs N L n (relS scope sc) (cellNames scope) ifs1, compE N L n (relS scope sc) (cellNames scope) elt, N.idxOf? y with
    | some tgs, some ⟨mi, hi⟩, some ⟨mts, hts⟩, some tgs1, some ⟨mi1, hi1⟩, some ⟨mts1, hts1⟩, some ⟨me, hel⟩, some i =>
      if ow.contains y then none else
      if ht : L.thk = false then if hh : L.ev = none then if hk : sc.kind = .function then if hy : tgOk N sc cs [i] (.Name y py) = true then
      if hb : blkC N sc scope (ownOf N scope) = true then if htg : tgOk N (relS scope sc) (cellNames scope) tgs tg = true then if hsub : (tgs.all fun j => ((ownOf N scope).map (·.2)).contains j) = true then
      if htg1 : tgOk N (relS scope sc) (cellNames scope) tgs1 tg1 = true then if hsub1 : (tgs1.all fun j => ((ownOf N scope).map (·.2)).contains j) = true then
        some ⟨.set [i] (.comp2 mi tgs ((ownOf N scope).map (·.2)) mts mi1 tgs1 tgs1 mts1 me), fun T Φ k E X ok fr => ss_setC2 ok hh ht hk hy (hi.2 T Φ k E X ok) hb htg hsub htg1 hsub1 hi.1 hi1.1 (fun X' ok' => hts T Φ k EF X' ok') (fun X' ok' => hi1.2 T Φ k EF X' ok') (fun X' ok' => hts1 T Φ k EF X' ok') (fun X' ok' => hel T Φ k EF X' ok')⟩
      else none else none else none else none else none else none else none else none else none
    | _, _, _, _, _, _, _, _ => none
  | n + 1, sc, cs, ow, .Assign [.Name y py] (.List es lpos) pos => if noStars es = false then (match N.idxOf? y, compCt N L n sc cs es with
      | some i, some ⟨p, h⟩ => if hy : tgOk N sc cs [i] (.Name y py) = true then
          if ow.contains y then some ⟨.own i (.cat false p.1 p.2), fun T Φ k E X ok fr => ss_own ok hy rfl (sf_catL (h T Φ k E X ok))⟩
          else some ⟨.set [i] (.cat false p.1 p.2), fun T Φ k E X ok fr => ss_setN ok hy rfl (se_catL (h T Φ k E X ok))⟩
        else none
      | _, _ => none)
    else match N.idxOf? y, compA N L n sc cs es with
    | some i, some ⟨ms, h⟩ => if hy : tgOk N sc cs [i] (.Name y py) = true then if hl : ms.length ≤ sizeLine then
        if ow.contains y then some ⟨.own i (.lst ms), fun T Φ k E X ok fr => ss_own ok hy rfl (sf_lst (h.2.2 T Φ k E X ok) hl)⟩
        else some ⟨.set [i] (.lst ms), fun T Φ k E X ok fr => ss_setN ok hy rfl (se_lst (h.2.2 T Φ k E X ok) hl)⟩
      else none else none
    | _, _ => none
  | n + 1, sc, cs, ow, .Assign [.Name y py] (.BinOp a .Add b bpos) pos => if ow.contains y then (match N.idxOf? y, compE N L n sc cs a, compE N L n sc cs b with
      | some i, some ⟨ma, ha⟩, some ⟨mb, hb⟩ => if hy : tgOk N sc cs [i] (.Name y py) = true then some ⟨.own i (.bin .add ma mb), fun T Φ k E X ok fr => ss_own ok hy rfl (sf_add (ha T Φ k E X ok) (hb T Φ k E X ok))⟩ else none
      | _, _, _ => none)
    else (match N.idxOf? y, compE N L n sc cs (.BinOp a .Add b bpos) with
      | some i, some ⟨m, he⟩ => if hy : tgOk N sc cs [i] (.Name y py) = true then some ⟨.set [i] m, fun T Φ k E X ok fr => ss_setN ok hy rfl (he T Φ k E X ok)⟩ else none
      | _, _ => none)
  | n + 1, sc, cs, ow, .Assign [.Name y py] e pos => if hc : notComp e = true then if ow.contains y then (match N.idxOf? y, compF N L n sc cs e with
      | some i, some ⟨m, he⟩ => if hy : tgOk N sc cs [i] (.Name y py) = true then some ⟨.own i m, fun T Φ k E X ok fr => ss_own ok hy hc (he T Φ k E X ok)⟩ else none
      | _, _ => none)
    else match N.idxOf? y, compE N L n sc cs e with
      | some i, some ⟨m, he⟩ => if hy : tgOk N sc cs [i] (.Name y py) = true then some ⟨.set [i] m, fun T Φ k E X ok fr => ss_setN ok hy hc (he T Φ k E X ok)⟩ else none
      | _, _ => none
    else none
  | n + 1, sc, cs, ow, .Assign [.Tuple es kk p] (.Tuple vs k2 pt2) pos =>
    if hb : stNoneB sc es vs = true then (match slotsOf N es, compE N L n sc cs (.Tuple vs k2 pt2) with
      | some tg, some ⟨m, he⟩ => if hh : L.ev = none then if hy : tgOk N sc cs tg (.Tuple es kk p) = true then some ⟨.set tg m, fun T Φ k E X ok fr => ss_setTT ok hh hy hb (he T Φ k E X ok)⟩ else none else none
      | _, _ => none)
    else compPar N L n sc cs es kk p vs k2 pt2 pos
  | n + 1, sc, cs, ow, .Assign [.Tuple es kk p] e pos => if hc : notTuple e = true then match slotsOf N es, compE N L n sc cs e with
      | some tg, some ⟨m, he⟩ => if hh : L.ev = none then if hy : tgOk N sc cs tg (.Tuple es kk p) = true then some ⟨.set tg m, fun T Φ k E X ok fr => ss_setT ok hh hy hc (he T Φ k E X ok)⟩ else none else none
      | _, _ => none
    else none
  | n + 1, sc, cs, ow, .Assign [.Subscript a (.Constant (.str z) j p) p2] e pos => if hc : notComp e = true then match compE N L n sc cs a, compE N L n sc cs e with
      | some ⟨ma, ha⟩, some ⟨me, he⟩ => some ⟨.setK ma (.inr z) me, fun T Φ k E X ok fr => ss_setK ok hc (ha T Φ k E X ok) (he T Φ k E X ok)⟩
      | _, _ => none
    else none
  | n + 1, sc, cs, ow, .Assign [.Subscript (.Name x p) ie p2] e pos => if hc : notComp e = true then match N.idxOf? x, compE N L n sc cs ie, compE N L n sc cs e with
      | some i, some ⟨mi, hi⟩, some ⟨me, he⟩ => if h : N[i]? = some x ∧ visB sc x = true ∧ dbgOk x = true ∧ plainIx ie = true then
          some ⟨.setI i mi me, fun T Φ k E X ok fr => ss_setI ok h.1 (visB_is h.2.1) (dbg1 h.2.2.1) (dbg2 h.2.2.1) hc (he T Φ k E X ok) (hi T Φ k E X ok) h.2.2.2⟩ else none
      | _, _, _ => none
    else none
  | _, _, _, _, _ => none
def compSs (L : Lib) : (n : Nat) → (sc : Scope) → (cs ow : List Str) → (sts : List Stmt) → Option { m : List MS // SndSs L N sc cs sts m }
  | 0, _, _, _, _ => none
  | n + 1, sc, cs, ow, [] => some ⟨[], fun T Φ k E X ok fr => ss_nil⟩
  | n + 1, sc, cs, ow, st :: sts => match compS L n sc cs ow st, compSs L n sc cs ow sts with
    | some ⟨m, h⟩, some ⟨ms, hs⟩ => match frzOf N ow st with
      | [] => some ⟨m :: ms, fun T Φ k E X ok fr => ss_cons (h T Φ k E X ok fr) (hs T Φ k E X ok fr)⟩
      | i :: is => some ⟨.frz (i :: is) :: m :: ms, fun T Φ k E X ok fr => ss_frz (ss_cons (h T Φ k E X ok fr) (hs T Φ k E X ok fr))⟩
    | _, _ => none
end
/-! ### a whole def -/
mutual
def localsE : (n : Nat) → Expr → List Str
  | 0, _ => []
  | n + 1, e => match e with
    | .BoolOp _ vs _ => localsL n vs
    | .BinOp a _ b _ => localsE n a ++ localsE n b
    | .UnaryOp _ a _ => localsE n a
    | .IfExp a b c _ => localsE n a ++ localsE n b ++ localsE n c
    | .Dict _ vs _ => localsL n vs
    | .ListComp e gs sc _ => (sc.names.filter fun y => y.2 == .local || y.2 == .cell).map (·.1) ++ localsE n e ++ gs.flatMap (fun g => localsE n g.iter ++ localsL n g.ifs)
    | .Compare a _ bs _ => localsE n a ++ localsL n bs
    | .Call f es ks _ => localsE n f ++ localsL n es ++ ks.flatMap (fun k => localsE n k.value)
    | .Attribute a _ _ => localsE n a
    | .Subscript a b _ => localsE n a ++ localsE n b
    | .Starred a _ => localsE n a
    | .List es _ => localsL n es
    | .Tuple es _ _ => localsL n es
    | .Lambda _ b _ _ => localsE n b
    | _ => []
def localsL : (n : Nat) → List Expr → List Str
  | 0, _ => []
  | n + 1, es => es.flatMap (localsE n)
end
def localsS : (n : Nat) → List Stmt → List Str
  | 0, _ => []
  | n + 1, sts => sts.flatMap fun st => match st with
    | .Return (some e) _ => localsE n e
    | .Assign ts e _ => localsE n e ++ localsL n ts
    | .If c a b _ => localsE n c ++ localsS n a ++ localsS n b
    | .For _ e a b _ => localsE n e ++ localsS n a ++ localsS n b
    | .While c a b _ => localsE n c ++ localsS n a ++ localsS n b
    | .Expr e _ => localsE n e
    | .Try a hs _ _ _ => localsS n a ++ hs.flatMap (fun | .ExceptHandler _ _ b _ => localsS n b)
    | _ => []
def namesOf (params : Arguments) (body : List Stmt) (scope : Scope) : List Str :=
  let ps := params.args.map (·.arg)
  (ps ++ (scope.names.filter fun y => y.2 == .local || y.2 == .cell).map (·.1) ++ localsS 60 body).eraseDups
/-- a def compiled -/
def compDef (L : Lib) (params : Arguments) (body : List Stmt) (scope : Scope) : Option (Nat × List MS) :=
  let N := namesOf params body scope
  (compSs N L 80 scope (cellNames scope) (ownS 60 body) body).map fun m => (N.length, m.1)
end SH

set_option Elab.async false
set_option linter.all false
set_option autoImplicit false
set_option maxRecDepth 100000
set_option maxHeartbeats 4000000
/-! all defs keep their meanings, by the depth of calls -/
namespace SH
open PySem PySem.Spec PyProof.Rows L2 LamX
section
variable {P : Program} {w : World} {K : PySem.W.Frag} {mg : Str → Option Value} {base : Heap} {T : Tg} {L : Lib} {B : List Mean} {Z : List HMean}
theorem Fn_at {k i : Nat} (hi : i < 1000000) (ds : List D) (g : G) : Fn B Z (k + 1) i ds g = runM B[i]? (Fn B Z k) ds g := by
  cases k with
  | zero => simp only [Fn, if_pos hi]
  | succ n => simp only [Fn, if_pos hi]
theorem Fn_lowF {k : Nat} : lowF (Fn B Z (k + 2)) = Fn B Z k := by
  have h : ∀ i, ¬ i + 1000000 < 1000000 := fun i => by omega
  have e : Fn B Z k = ⟨(Fn B Z k).call, (Fn B Z k).hear, (Fn B Z k).lev⟩ := rfl
  rw [e, Fn_lev]
  simp only [lowF, Fn, if_neg (h _), Nat.add_sub_cancel]
theorem Fn_hear {k z : Nat} (hz : z < 1000000) (t : G → Res D) (g : G) : (Fn B Z (k + 1)).hear z t g = runH Z[z]? (Fn B Z k) t g := by
  cases k with
  | zero => simp only [Fn, if_pos hz]
  | succ n => simp only [Fn, if_pos hz]
structure DefOk (P : Program) (w : World) (K : PySem.W.Frag) (mg : Str → Option Value) (base : Heap) (T : Tg) (L : Lib) (B : List Mean) (Z : List HMean) (i : Nat) (fi : FnI) : Prop where
  ex : ∃ f fd dvs its, mg fi.name = some (.ref f) ∧ PySem.W.keepIn K (.ref f) = true ∧ Vals dvs its ∧ (∀ μ F, Reps K mg μ F dvs fi.dfl) ∧
    (∀ (s : Shared) (us : List Value) (kw : List (Str × Value)) (vs : List Value), K.In s.heap → bindP fi.ps us kw its = some vs → BindsTo s fd ⟨us, kw⟩ (fi.ps.zip vs)) ∧
    ∀ k, (∀ k' j fj, k' ≤ k → L.fns[j]? = some fj → FnAtP P w K mg base T (Fn B Z k') k' j fj) → (∀ x z, (x, z) ∈ L.says → SaidAt P w K mg base T (Fn B Z k) k x z) → FnG P w K mg base (k + 1) f fd fi.ps (spD K mg T (Fn B Z (k + 1)) fi.ps.length i)
theorem fnAt_zero (h : ∀ i fi, L.fns[i]? = some fi → DefOk P w K mg base T L B Z i fi) (i : Nat) (fi : FnI) (hi : L.fns[i]? = some fi) : FnAtP P w K mg base T (Fn B Z 0) 0 i fi := by
  obtain ⟨f, fd, dvs, its, h1, h2, h3, h4, h5, _⟩ := (h i fi hi).ex
  refine ⟨f, fd, dvs, its, h1, h2, ⟨fun A outer s H args us vs Q E hr hg e0 hb r hl hsp => ?_⟩, h3, h4, h5⟩
  obtain ⟨F, μ, g, ds, _, _, _, z⟩ := hsp
  exact z.elim
theorem assemble (h : ∀ i fi, L.fns[i]? = some fi → DefOk P w K mg base T L B Z i fi) (hz : ∀ k x z, (x, z) ∈ L.says → SaidAt P w K mg base T (Fn B Z k) k x z) : ∀ (k k' i : Nat) (fi : FnI), k' ≤ k → L.fns[i]? = some fi → FnAtP P w K mg base T (Fn B Z k') k' i fi
  | 0, k', i, fi, hk, hi => by
    obtain rfl : k' = 0 := by omega
    exact fnAt_zero h i fi hi
  | k + 1, k', i, fi, hk, hi => by
    by_cases hlt : k' ≤ k
    · exact assemble h hz k k' i fi hlt hi
    · obtain rfl : k' = k + 1 := by omega
      obtain ⟨f, fd, dvs, its, h1, h2, h3, h4, h5, h6⟩ := (h i fi hi).ex
      exact ⟨f, fd, dvs, its, h1, h2, h6 k (assemble h hz k) (hz k), h3, h4, h5⟩
/-- a def that the compiler took -/
theorem defOk_comp {b : Bool} {i : Nat} {fi : FnI} {x qual : Str} {params : Arguments} {body : List Stmt} {scope : Scope} {dvs : List V} {its : List Value} {kws : List (Str × V)} {f : Addr} {fd : FuncData} {N : List Str} {mb : List MS} (hL : LibOk P w K mg base T L) (FD : FunD K x qual params body scope dvs kws f fd) (hm : mg fi.name = some (.ref f)) (hk : PySem.W.keepIn K (.ref f) = true)
    (hv : Vals dvs its) (hr : ∀ μ F, Reps K mg μ F dvs fi.dfl) (hb : ∀ (s : Shared) (us : List Value) (kw : List (Str × Value)) (vs : List Value), K.In s.heap → bindP fi.ps us kw its = some vs → BindsTo s fd ⟨us, kw⟩ (fi.ps.zip vs)) (S : FnScope N fi.ps scope)
    (hlam : b = true → ∀ c, fd.code = .ref c → LamOk base mg T (.ref c) (qual ++ ".<locals>."))
    (hc : SndSs { L with lam := b } N scope (cellNames scope) body mb) (hi : i < 1000000) {m' : Mean} (hB : B[i]? = some m') (hw : ∀ Φ ds g, m' Φ ds g = .bad ∨ m' Φ ds g = meanOf N.length mb Φ ds g) (h2 : b = true → ∀ k ds g, k < 2 → m' (Fn B Z k) ds g = .bad) : DefOk P w K mg base T L B Z i fi :=
  ⟨f, fd, dvs, its, hm, hk, hv, hr, hb, fun k hF hS => by
    have e : ∀ ds g, Fn B Z (k + 1) i ds g = m' (Fn B Z k) ds g := fun ds g => by rw [Fn_at hi, hB]; rfl
    by_cases hbk : b = true ∧ k < 2
    · refine ⟨fun A outer s H args us vs Q E hr hg e0 hb r hl hsp => ?_⟩
      obtain ⟨F, μ, g, ds, _, _, _, z⟩ := hsp
      rw [e, h2 hbk.1 k ds g hbk.2] at z
      exact z.elim
    · refine fn_body (b := b) hL (fun j fj hj => hF k j fj (Nat.le_refl _) hj) hlam (fun hb' => ?_) hS FD S (fun E X ok fr => hc T (Fn B Z k) k E X ok fr) fun ds g => ?_
      · have h2k : 2 ≤ k := by
          rcases Nat.lt_or_ge k 2 with z | z
          · exact absurd ⟨hb', z⟩ hbk
          · exact z
        refine ⟨h2k, fun j fj hj => ?_⟩
        have := hF (k - 2) j fj (by omega) hj
        have ek : k = (k - 2) + 2 := by omega
        rw [ek, Fn_lowF]
        simpa using this
      · rw [e]
        exact hw _ _ _⟩
/-! ### from the head's facts, by a check on the text alone -/
def cD : He.Dv → Option D
  | .non => some .non
  | .bl b => some (.bl b)
  | .int i => some (.int i)
  | .str x => some (.str x)
  | _ => none
def cDs : List He.Dv → Option (List D)
  | [] => some []
  | v :: l => match cD v, cDs l with
    | some d, some ds => some (d :: ds)
    | _, _ => none
theorem cDs_reps {μ : List Addr} {F : Hp} : ∀ {l : List He.Dv} {ds : List D}, cDs l = some ds → Reps K mg μ F (l.map (He.Dv.v K)) ds
  | [], ds, h => by cases h; exact .nil
  | v :: l, ds, h => by
    unfold cDs at h
    cases e1 : cD v with
    | none => rw [e1] at h; cases h
    | some d =>
      cases e2 : cDs l with
      | none => rw [e1, e2] at h; cases h
      | some m =>
        rw [e1, e2] at h
        cases h
        refine .cons ?_ (cDs_reps e2)
        cases v <;> cases e1
        · exact .non
        · exact .bl _
        · exact .int _
        · exact .str _
def scopeB (N ps : List Str) (sc : Scope) : Bool :=
  decide (sc.kind = .function) && !sc.isCoroutine && !sc.isGenerator && decide N.Nodup && decide (N.take ps.length = ps) && (ps.all fun x => decide (sc.names.lookup x = some .local) || decide (sc.names.lookup x = some .cell)) && sc.names.all fun y => !decide (y.2 = .free)
theorem scopeB_is {N ps : List Str} {sc : Scope} (h : scopeB N ps sc = true) : FnScope N ps sc := by
  unfold scopeB at h
  simp only [Bool.and_eq_true, Bool.or_eq_true, Bool.not_eq_true', decide_eq_true_eq, decide_eq_false_iff_not, List.all_eq_true] at h
  exact ⟨h.1.1.1.1.1.1, h.1.1.1.1.1.2, h.1.1.1.1.2, h.1.1.1.2, h.1.1.2, fun x hx => h.1.2 x hx, fun y hy => h.2 y hy⟩
/-- the compiler took the def, and its text is m -/
def CompIs (L : Lib) (b : Bool) (d : He.DefD) (n : Nat) (m : List MS) : Prop := ∃ q, compSs (namesOf d.params d.body d.scope) { L with lam := b } 80 d.scope (cellNames d.scope) (ownS 60 d.body) d.body = some q ∧ q.1 = m ∧ n = (namesOf d.params d.body d.scope).length
theorem defOk_says {b : Bool} {i : Nat} {fi : FnI} {d : He.DefD} {fd : FuncData} {n : Nat} {m : List MS} (hL : LibOk P w K mg base T L) (FD : FunD K d.name d.qual d.params d.body d.scope (d.dvs K) (d.kws K) (He.fAd K d.at_) fd) (hm : mg fi.name = some (.ref (He.fAd K d.at_))) (hd : cDs d.dfl = some fi.dfl) (hp : simpleP d.params fi.ps = true)
    (hs : scopeB (namesOf d.params d.body d.scope) fi.ps d.scope = true) (hlam : b = true → ∀ c, fd.code = .ref c → LamOk base mg T (.ref c) (d.qual ++ ".<locals>.")) (hc : CompIs L b d n m) (hi : i < 1000000) {m' : Mean} (hB : B[i]? = some m') (hw : ∀ Φ ds g, m' Φ ds g = .bad ∨ m' Φ ds g = meanOf n m Φ ds g) (h2 : b = true → ∀ k ds g, k < 2 → m' (Fn B Z k) ds g = .bad) : DefOk P w K mg base T L B Z i fi := by
  obtain ⟨its, hv, hb⟩ := binds_gen FD hp
  obtain ⟨⟨m', hq⟩, _, rfl, rfl⟩ := hc
  exact defOk_comp hL FD hm FD.kp hv (fun μ F => cDs_reps hd) hb (scopeB_is hs) hlam hq hi hB hw h2
/-- a def that is never called by data -/
theorem defOk_bad {i : Nat} {fi : FnI} {d : He.DefD} {fd : FuncData} (FD : FunD K d.name d.qual d.params d.body d.scope (d.dvs K) (d.kws K) (He.fAd K d.at_) fd) (hm : mg fi.name = some (.ref (He.fAd K d.at_))) (hd : cDs d.dfl = some fi.dfl) (hp : simpleP d.params fi.ps = true) (hi : i < 1000000) {m' : Mean} (hB : B[i]? = some m') (hw : ∀ Φ ds g, m' Φ ds g = .bad) : DefOk P w K mg base T L B Z i fi := by
  obtain ⟨its, hv, hb⟩ := binds_gen FD hp
  refine ⟨_, fd, _, its, hm, FD.kp, hv, fun μ F => cDs_reps hd, hb, fun k hF hS => ⟨fun A outer s H args us vs Q E hr hg e0 hb r hl hsp => ?_⟩⟩
  obtain ⟨F, μ, g, ds, _, _, _, z⟩ := hsp
  rw [Fn_at hi, hB] at z
  unfold runM at z
  simp only [hw] at z
  exact z.elim
end
end SH

set_option Elab.async false
set_option linter.all false
set_option autoImplicit false
set_option maxRecDepth 100000
set_option maxHeartbeats 4000000
/-! repr(a) == repr(b), read as: the same data, small enough -/
namespace SH
open PySem PySem.Spec PyProof.Rows L2 LamX
mutual
/-- a bound of the shown text -/
def D.wt : D → Nat
  | .non => 4
  | .bl _ => 5
  | .int _ => 1921
  | .str x => 10 * x.length + 2
  | .tup l => D.wts l + 3
  | .lst l => D.wts l + 3
  | _ => 0
def D.wts : List D → Nat
  | [] => 0
  | d :: l => D.wt d + 2 + D.wts l
end
mutual
def D.fits : D → Bool
  | .non => true
  | .bl _ => true
  | .int i => Nat.blt i.natAbs (2 ^ 1900)
  | .str x => x.cps.toList.all fun c => Nat.blt c 4294967296
  | .tup l => D.fitsL l
  | .lst l => D.fitsL l
  | _ => false
def D.fitsL : List D → Bool
  | [] => true
  | d :: l => D.fits d && D.fitsL l
end
def D.small (d : D) : Bool := d.fits && Nat.ble d.wt 16777216 && Nat.ble d.depth 100
theorem blt_lt {a b : Nat} (h : Nat.blt a b = true) : a < b := by
  unfold Nat.blt at h
  exact Nat.le_of_ble_eq_true h
mutual
theorem fits_py : ∀ (d : D), d.fits = true → ∃ p, d.py = some p ∧ p.showable = true ∧ p.shown.length ≤ d.wt ∧ p.depth ≤ d.depth
  | .non, _ => ⟨.none, rfl, rfl, by decide +kernel, Nat.le_refl _⟩
  | .bl true, _ => ⟨.bool true, rfl, rfl, by decide +kernel, Nat.le_refl _⟩
  | .bl false, _ => ⟨.bool false, rfl, rfl, by decide +kernel, Nat.le_refl _⟩
  | .int i, h => by
    have h1 : i.natAbs.log2 < 1920 := by
      have h0 := blt_lt h
      by_cases z : i.natAbs = 0
      · rw [z]; decide
      · exact (Nat.log2_lt z).mpr (Nat.lt_of_lt_of_le h0 (Nat.pow_le_pow_right (by decide) (by decide)))
    exact ⟨.int i, rfl, decide_eq_true h1, int_text_len_1921 h1, Nat.le_refl _⟩
  | .str x, h => by
    refine ⟨.str x, rfl, rfl, StrLaws.reprText_len x fun c hc => ?_, Nat.le_refl _⟩
    exact blt_lt (List.all_eq_true.mp h c hc)
  | .tup l, h => by
    obtain ⟨ps, e, h1, h2, h3, h4⟩ := fitsL_py l h
    refine ⟨.tuple ps, by unfold D.py; rw [e]; rfl, h1, ?_, Nat.succ_le_succ h4⟩
    refine Nat.le_trans (tupleText_len_le _) ?_
    show _ ≤ D.wts l + 3
    omega
  | .lst l, h => by
    obtain ⟨ps, e, h1, h2, h3, h4⟩ := fitsL_py l h
    refine ⟨.list ps, by unfold D.py; rw [e]; rfl, h1, ?_, Nat.succ_le_succ h4⟩
    refine Nat.le_trans (listText_len_le _) ?_
    show _ ≤ D.wts l + 3
    omega
  | .fn _, h => by cases h
  | .ptr _, h => by cases h
  | .scr _, h => by cases h
theorem fitsL_py : ∀ (l : List D), D.fitsL l = true → ∃ ps, D.pys l = some ps ∧ PyData.showableAll ps = true ∧ ((PyData.shownAll ps).map (·.length)).sum + 2 * (PyData.shownAll ps).length ≤ D.wts l ∧ True ∧ PyData.depthAll ps ≤ D.depths l
  | [], _ => ⟨[], rfl, rfl, Nat.le_refl _, trivial, Nat.le_refl _⟩
  | d :: l, h => by
    unfold D.fitsL at h
    rw [Bool.and_eq_true] at h
    obtain ⟨p, e1, a1, a2, a3⟩ := fits_py d h.1
    obtain ⟨ps, e2, b1, b2, _, b4⟩ := fitsL_py l h.2
    refine ⟨p :: ps, by unfold D.pys; rw [e1, e2], by unfold PyData.showableAll; rw [a1, b1]; rfl, ?_, trivial, ?_⟩
    · unfold PyData.shownAll D.wts
      simp only [List.map_cons, List.sum_cons, List.length_cons]
      omega
    · unfold PyData.depthAll D.depths
      omega
end
mutual
theorem same_eq : ∀ (a b : D), D.same a b = true → a = b
  | .non, b, h => by cases b <;> first | rfl | cases h
  | .bl x, b, h => by cases b <;> first | (cases h; done) | (rw [eq_of_beq (show (x == _) = true from h)])
  | .int x, b, h => by cases b <;> first | (cases h; done) | (rw [eq_of_beq (show (x == _) = true from h)])
  | .str x, b, h => by cases b <;> first | (cases h; done) | (rw [eq_of_beq (show (x == _) = true from h)])
  | .tup x, b, h => by cases b <;> first | (cases h; done) | (rw [sames_eq x _ h])
  | .lst x, b, h => by cases b <;> first | (cases h; done) | (rw [sames_eq x _ h])
  | .fn _, b, h => by cases b <;> cases h
  | .ptr _, b, h => by cases b <;> cases h
  | .scr _, b, h => by cases b <;> cases h
theorem sames_eq : ∀ (a b : List D), D.sames a b = true → a = b
  | [], b, h => by cases b <;> first | rfl | cases h
  | x :: xs, b, h => by
    cases b with
    | nil => cases h
    | cons y ys =>
      unfold D.sames at h
      rw [Bool.and_eq_true] at h
      rw [same_eq x y h.1, sames_eq xs ys h.2]
end
theorem small_repr {d : D} (h : d.small = true) : ∃ s, reprD d = some (.str s) := by
  unfold D.small at h
  simp only [Bool.and_eq_true] at h
  obtain ⟨p, e, a1, a2, a3⟩ := fits_py d h.1.1
  have c1 := Nat.le_of_ble_eq_true h.1.2
  have c2 := Nat.le_of_ble_eq_true h.2
  refine ⟨p.shown, ?_⟩
  unfold reprD
  rw [e]
  have z1 : Nat.ble p.depth 100 = true := Nat.ble_eq_true_of_le (Nat.le_trans a3 c2)
  have z2 : sizeOk p.shown.length = true := Nat.ble_eq_true_of_le (by rw [sizeLine_eq]; exact Nat.le_trans a2 c1)
  simp only [a1, z1, z2, Bool.and_self, if_true]
def sameMean : Mean := fun _ ds g => match ds with
  | [a, b] => if D.same a b && D.small a then .ok (.bl true) g else .bad
  | _ => .bad
def sameText : List MS := [.ret (.cmp .eq (.bi .repr [.slot 0]) (.bi .repr [.slot 1]))]
theorem sameMean_ok (Φ : Fns) (ds : List D) (g : G) : sameMean Φ ds g = .bad ∨ sameMean Φ ds g = meanOf 2 sameText Φ ds g := by
  match ds with
  | [] => exact .inl rfl
  | [_] => exact .inl rfl
  | _ :: _ :: _ :: _ => exact .inl rfl
  | [a, b] =>
    by_cases h : (D.same a b && D.small a) = true
    · right
      show (if (D.same a b && D.small a) = true then Res.ok (D.bl true) g else .bad) = _
      rw [if_pos h]
      rw [Bool.and_eq_true] at h
      have e := same_eq a b h.1
      subst e
      obtain ⟨s, hs⟩ := small_repr h.2
      have q : bi .repr [a] = some (.str s) := hs
      unfold meanOf runBody sameText
      simp only [execs, exec, ev, evs, startS, List.map_cons, List.map_nil, List.length_cons, List.length_nil, List.cons_append, List.nil_append, getSl, List.getElem?_cons_zero, List.getElem?_cons_succ, lift, Res.bind, thenS, q]
      have c : cmp .eq (.str s) (.str s) = some true := by
        unfold cmp D.plain D.eqv
        simp [D.depth]
      simp only [c]
    · left
      show (if (D.same a b && D.small a) = true then Res.ok (D.bl true) g else .bad) = _
      rw [if_neg h]
end SH

set_option Elab.async false
set_option linter.all false
set_option autoImplicit false
set_option maxRecDepth 100000
set_option maxHeartbeats 4000000
/-! defs that get a callable -/
namespace SH
open PySem PySem.Spec PyProof.Rows L2 LamX
section
variable {K : PySem.W.Frag} {mg : Str → Option Value} {T T' : Tg} {F F1 F2 : Hp} {μ μ1 μ2 : List Addr} {g g1 g2 : G} {H H1 H2 : Hp} {S : Sl} {σ : L2.St} {EX : XK}
theorem Go.ghost (e : T'.tabs = T.tabs) (hb : ∀ b, T'.thk = some b → Same b.F F ∧ Pre b.μ μ) (x : Go K mg T F μ H F1 μ1 g1 H1) : Go K mg T' F μ H F1 μ1 g1 H1 :=
  ⟨x.view.ghost e fun b h => ⟨(hb b h).1.trans x.ff, (hb b h).2.trans x.pre⟩, x.ff, x.pre, x.new, x.newμ, x.keep, x.dom⟩
theorem Aft.ghost {α β : Type} {RP : List Addr → Hp → β → α → Prop} {r : Res α} {Q : β → Hp → Prop} (e : T'.tabs = T.tabs) (hb : ∀ b, T'.thk = some b → Same b.F F ∧ Pre b.μ μ) (h : Aft K mg T' RP r F μ H Q EX) : Aft K mg T RP r F μ H Q EX := by
  cases r with
  | ok a g' => exact fun v F' μ' H' y q => h v F' μ' H' (y.ghost e hb) q
  | exc x g' => exact fun c d F' μ' H' y q => h c d F' μ' H' (y.ghost e hb) q
  | bad => exact h
theorem FnAtP.ghost {P : Program} {w : World} {base : Heap} {Φ : Fns} {k i : Nat} {fi : FnI} (e : T'.tabs = T.tabs) (ht : T.thk = none) (h : FnAtP P w K mg base T Φ k i fi) : FnAtP P w K mg base T' Φ k i fi := by
  obtain ⟨f, fd, dvs, its, h1, h2, h3, h4, h5, h6⟩ := h.at_
  refine ⟨f, fd, dvs, its, h1, h2, ⟨fun A outer s H args us vs Q E hr hg e0 hb r hl hsp => ?_⟩, h4, h5, h6⟩
  obtain ⟨F, μ, g, ds, hv, hrs, hlen, ha⟩ := hsp
  exact h3.run A outer s H args us vs Q E hr hg e0 hb r hl ⟨F, μ, g, ds, hv.ghost e.symm (fun b hb => by rw [ht] at hb; cases hb), hrs, hlen, ha.ghost e hv.bas⟩
end
section
variable {P : Program} {w : World} {K : PySem.W.Frag} {mg : Str → Option Value} {base : Heap} {T : Tg} {L : Lib}
/-- the lib within such a def -/
abbrev Lib.toSay (L : Lib) : Lib := { L with lam := false, says := [], thk := true }
abbrev Tg.says (T : Tg) (f : Addr) (t : G → Res D) (F : Hp) (μ : List Addr) : Tg := ⟨T.tabs, T.err, some ⟨f, t, F, μ⟩⟩
theorem ctx_say {Φ : Fns} {N : List Str} {qual : Str} {scope : Scope} {f fa : Addr} {cdv : Value} {A : Around} {outer : List Env} {s : Shared} {H F : Hp} {μ : List Addr} {t : G → Res D} {E : XK} {k : Nat} (hL : LibOk P w K mg base T L) (hF : ∀ i fi, L.fns[i]? = some fi → FnAtP P w K mg base T Φ k i fi) (nd : N.Nodup)
    (hr : Room k (A.deeper (envOfC qual scope s.heap.objs.size f cdv))) (hg : A.guards = some []) (hth : Thunk P w K mg base T k fa s H outer F μ t) : CtxOk (T.says fa t F μ) Φ L.toSay N scope (cellNames scope) k (fun _ => E) (cxOf (CX P w) P w K mg base N qual scope f cdv A outer s H E) where
  hN := rfl
  nd := nd
  calm := fun _ => rfl
  un := by
    have := hr.un
    show (A.deeper (envOfC qual scope s.heap.objs.size f cdv)).units + 100 < cLine
    omega
  hsc := rfl
  room := fun _ => hr
  grd := hg
  pass := fun _ σ => passAt (W := fun cls d _ H => E cls d H) (takes_of rfl rfl rfl rfl) σ
  fns := fun i fi h => ⟨(FnAtP.ghost (T := T) (T' := T.says fa t F μ) rfl hL.tt (hF i fi h)).at_⟩
  free := hL.free
  con := hL.con
  st := fun x _ => rfl
  po := fun _ => passes_of rfl
  exs := hL.exs
  tk := fun _ => takes_of rfl rfl rfl rfl
  err := fun v hv => by
    have hv : L.ev = some v := hv
    rw [hL.ev] at hv; cases hv
  subs := hL.subs
  cold := fun _ => hL.te
  lamOk := fun h => by cases h
  low := fun h => by cases h
  says := fun x z h => by cases h
  hots := fun x h hm => ⟨⟨by have := hr.dp; show (A.deeper (envOfC qual scope s.heap.objs.size f cdv)).depth + 3 * 0 + 5 < _; omega, by have := hr.un; show (A.deeper (envOfC qual scope s.heap.objs.size f cdv)).units + 16 * 0 + 200 < _; omega⟩, hL.hots x h hm⟩
  thk := fun _ b hb => by
    cases hb
    refine ⟨rfl, fun s1 H1 F1 μ1 g1 Q E' e0 un hv ha => ?_⟩
    obtain ⟨b1, b2⟩ := hv.bas _ rfl
    exact hth _ _ s1 H1 F1 μ1 g1 Q E' hr hg e0 un (View.ghost (T := T.says fa t F μ) (T' := T) rfl hv fun b hb => by rw [hL.tt] at hb; cases hb) b1 b2 (Aft.ghost (T := T) (T' := T.says fa t F μ) rfl hv.bas ha)
theorem said_body {Φ Ψ : Fns} {N : List Str} {x p qual y : Str} {params : Arguments} {body : List Stmt} {scope : Scope} {dvs : List V} {kws : List (Str × V)} {f : Addr} {fd : FuncData} {k z : Nat} {mb : List MS} (hL : LibOk P w K mg base T L) (hF : ∀ i fi, L.fns[i]? = some fi → FnAtP P w K mg base T Φ k i fi)
    (FD : FunD K x qual params body scope dvs kws f fd) (hm : mg y = some (.ref f)) (hk : PySem.W.keepIn K (.ref f) = true) (hbd : ∀ (s : Shared) (u : Value), K.In s.heap → BindsTo s fd ⟨[u], []⟩ ([p].zip [u])) (S : FnScope N [p] scope)
    (hb : SndSs L.toSay N scope (cellNames scope) body mb) (hΨ : ∀ t g, Ψ.hear z t g = .bad ∨ Ψ.hear z t g = runBodyT Φ N.length mb t g) : SaidAt P w K mg base T Ψ (k + 1) y z := by
  obtain ⟨oc, od, dV, kV, doc, pm, an, cdv, ct, osl, rfl, lk, hcd, _, _⟩ := FD.ex
  refine ⟨f, hm, hk, fun A outer s H fa F μ g0 t Q E hr hg e0 hv ht ha => ?_⟩
  have KX : K.In s.heap := e0.mod.kin.keeps fun b o e => (e0.bs b o e).1
  refine run_ofS lk hcd S hr e0 (hbd s (.ref fa) KX) (vs := [.ref fa]) (us := [.ref fa]) (.cons rfl .nil) rfl fun hr' => ⟨_, hb _ Φ k _ _ (ctx_say hL hF S.nd hr' hg ht) ⟨rfl, rfl⟩, ?_⟩
  have bas : ∀ b, (T.says fa t F μ).thk = some b → Same b.F F ∧ Pre b.μ μ := fun b hb => by cases hb; exact ⟨Same.refl _, Pre.refl _⟩
  have back : ∀ {F' μ' g' H'}, Go K mg (T.says fa t F μ) F μ H F' μ' g' H' → Go K mg T F μ H F' μ' g' H' := fun y => Go.ghost (T := T.says fa t F μ) (T' := T) rfl (fun b hb => by rw [hL.tt] at hb; cases hb) y
  have hlen : 1 ≤ N.length := by
    have := congrArg List.length S.pre
    rw [List.length_take] at this
    simp at this
    omega
  have at_ : ∀ {i : Nat} {o : SV}, (startT N.length t)[i]? = some (some o) → i = 0 ∧ o = .thk t := fun {i o} h => by
    unfold startT at h
    cases i with
    | zero => cases h; exact ⟨rfl, rfl⟩
    | succ i =>
      rw [List.getElem?_cons_succ] at h
      have := List.mem_of_getElem? h
      rw [List.mem_replicate] at this
      cases this.2
  have rel : RelS K mg (T.says fa t F μ) (startT N.length t) (L2.start N [.ref fa]) F μ H := by
    refine ⟨?_, fun i d h => ?_, fun i d h => ?_, fun i j xs ys a h _ _ _ => ?_, fun i d h => ?_, fun i d h => ?_⟩
    · unfold startT L2.start
      simp only [List.length_cons, List.length_replicate, List.length_append, List.length_map, List.length_nil]
      omega
    · cases (at_ h).2
    · cases (at_ h).2
    · cases (at_ h).2
    · cases (at_ h).2
    · obtain ⟨rfl, e⟩ := at_ h
      cases e
      exact ⟨_, rfl, rfl, by unfold L2.start; rfl⟩
  refine ⟨F, μ, g0, startT N.length t, View.ghost (T := T) (T' := T.says fa t F μ) rfl hv bas, rel, ?_⟩
  have noo : ∀ a, ¬ OwnAt (startT N.length t) (L2.start N [V.ref fa]) a := fun a ⟨i, xs, h, _⟩ => by cases (at_ h).2
  rcases hΨ t g0 with hb' | hb'
  · rw [hb'] at ha; exact ha.elim
  rw [hb'] at ha
  unfold runBodyT at ha
  cases e : execs Φ mb (startT N.length t) g0 with
  | next S1 g1 =>
    rw [e] at ha
    exact fun σ' F' μ' H' y _ _ => ha .non F' μ' H' (back (y.go noo)) .non
  | ret d g1 =>
    rw [e] at ha
    exact fun v F' μ' H' y r => ha v F' μ' H' (back (y.go noo)) r
  | exc ex S1 g1 =>
    rw [e] at ha
    exact fun σ' cls dd F' μ' H' y _ _ q => ha cls dd F' μ' H' (back (y.go noo)) q
  | brk S1 g1 => rw [e] at ha; exact ha.elim
  | cont S1 g1 => rw [e] at ha; exact ha.elim
  | bad => rw [e] at ha; exact ha
variable {B : List Mean} {Z : List HMean}
structure SayOk (P : Program) (w : World) (K : PySem.W.Frag) (mg : Str → Option Value) (base : Heap) (T : Tg) (L : Lib) (B : List Mean) (Z : List HMean) (x : Str) (z : Nat) : Prop where
  fn : ∃ f, mg x = some (.ref f) ∧ PySem.W.keepIn K (.ref f) = true
  up : ∀ k, (∀ j fj, L.fns[j]? = some fj → FnAtP P w K mg base T (Fn B Z k) k j fj) → SaidAt P w K mg base T (Fn B Z (k + 1)) (k + 1) x z
/-- the compiler took the def, and its text is m -/
def SayIs (L : Lib) (d : He.DefD) (n : Nat) (m : List MS) : Prop := ∃ q, compSs (namesOf d.params d.body d.scope) L.toSay 80 d.scope (cellNames d.scope) (ownS 60 d.body) d.body = some q ∧ q.1 = m ∧ n = (namesOf d.params d.body d.scope).length
theorem sayOk_says {p : Str} {d : He.DefD} {fd : FuncData} {n z : Nat} {x : Str} {m : List MS} (hL : LibOk P w K mg base T L) (FD : FunD K d.name d.qual d.params d.body d.scope (d.dvs K) (d.kws K) (He.fAd K d.at_) fd) (hm : mg x = some (.ref (He.fAd K d.at_))) (hd : d.dfl = []) (hp : simpleP d.params [p] = true)
    (hs : scopeB (namesOf d.params d.body d.scope) [p] d.scope = true) (hc : SayIs L d n m) (hz : z < 1000000) {h' : HMean} (hZ : Z[z]? = some h') (hw : ∀ Φ t g, h' Φ t g = .bad ∨ h' Φ t g = hearOf n m Φ t g) : SayOk P w K mg base T L B Z x z := by
  obtain ⟨its, hv, hb⟩ := binds_gen FD hp
  obtain ⟨⟨m', hq⟩, _, rfl, rfl⟩ := hc
  have hi : its = [] := by
    have : d.dvs K = [] := by unfold He.DefD.dvs; rw [hd]; rfl
    rw [this] at hv
    cases hv; rfl
  subst hi
  refine ⟨⟨_, hm, FD.kp⟩, fun k hF => said_body hL hF FD hm FD.kp (fun s u KX => hb s [u] [] [u] KX ?_) (scopeB_is hs) hq fun t g => ?_⟩
  · simp [bindP, kwIn, dfIn, List.lookup]
  · rw [Fn_hear hz, hZ]
    exact hw _ _ _
theorem assemble2 (h : ∀ i fi, L.fns[i]? = some fi → DefOk P w K mg base T L B Z i fi) (hz : ∀ x z, (x, z) ∈ L.says → SayOk P w K mg base T L B Z x z) : ∀ (k : Nat), (∀ k', k' ≤ k → ∀ i fi, L.fns[i]? = some fi → FnAtP P w K mg base T (Fn B Z k') k' i fi) ∧ ∀ x z, (x, z) ∈ L.says → SaidAt P w K mg base T (Fn B Z k) k x z
  | 0 => by
    refine ⟨fun k' hk i fi hi => ?_, fun x z hx => ?_⟩
    · obtain rfl : k' = 0 := by omega
      exact fnAt_zero h i fi hi
    · obtain ⟨f, h1, h2⟩ := (hz x z hx).fn
      exact ⟨f, h1, h2, fun A outer s H fa F μ g0 t Q E _ _ _ _ _ ha => ha.elim⟩
  | k + 1 => by
    obtain ⟨ih1, ih2⟩ := assemble2 h hz k
    refine ⟨fun k' hk i fi hi => ?_, fun x z hx => ?_⟩
    · by_cases hlt : k' ≤ k
      · exact ih1 k' hlt i fi hi
      · obtain rfl : k' = k + 1 := by omega
        obtain ⟨f, fd, dvs, its, h1, h2, h3, h4, h5, h6⟩ := (h i fi hi).ex
        exact ⟨f, fd, dvs, its, h1, h2, h6 k (fun k' j fj hk' hj => ih1 k' hk' j fj hj) ih2, h3, h4, h5⟩
    · exact (hz x z hx).up k (ih1 k (Nat.le_refl _))
end
end SH

set_option Elab.async false
set_option linter.all false
set_option autoImplicit false
set_option maxRecDepth 100000
set_option maxHeartbeats 4000000
/-! a def that gets the error that is handled: its body -/
namespace SH
open PySem PySem.Spec PyProof.Rows L2 LamX
def startE (n : Nat) (x : Exc) : Sl := some (.err x) :: List.replicate (n - 1) none
def hotOf (n : Nat) (mb : List MS) : Exc → G → Res D := fun x g => match execs badF mb (startE n x) g with
  | .ret d g => .ok d g
  | .next _ g => .ok .non g
  | _ => .bad
section
variable {P : Program} {w : World} {K : PySem.W.Frag} {mg : Str → Option Value} {base : Heap} {T0 T : Tg} {L : Lib}
theorem ctx_hot {v : Str} {N : List Str} {qual : Str} {scope : Scope} {f : Addr} {cdv : Value} {A : Around} {outer : List Env} {s : Shared} {H : Hp} {p : Addr × Obj} {cls : Value} {dd : Option Addr} (hL : LibOk P w K mg base T0 L) (nd : N.Nodup) (hh : L.hots = [])
    (hr : L2H.RoomH 0 A) (hg : A.guards = some []) (ht : T.err = some (p.1, cls, dd)) (hz : Zc cls dd p.2) (hf : ∃ vs, p.2.data = .fields vs) :
    CtxOk T badF (L.hot v) N scope (cellNames scope) 0 EF (L2H.cxH (CX P w) P w K mg base N qual scope f cdv A outer s H (fun _ _ _ => False) p) where
  hN := rfl
  nd := nd
  calm := fun h => by cases h
  un := by
    have := hr.un
    show A.units + 3 + 100 < cLine
    omega
  hsc := rfl
  room := fun h => by cases h
  grd := hg
  pass := fun h => by cases h
  fns := fun i f h => by cases h
  free := hL.free
  con := hL.con
  st := fun x _ => rfl
  po := fun h => by cases h
  exs := hL.exs
  tk := fun h => by cases h
  err := fun _ _ a' c' d' e => by
    rw [ht] at e
    cases e
    exact ⟨p.2, List.mem_cons_self, hz, hf⟩
  subs := hL.subs
  cold := fun h => by cases h
  lamOk := fun h => by cases h
  low := fun h => by cases h
  says := fun x z h => by cases h
  thk := fun h => by cases h
  hots := fun x h hm => by
    have hm : (x, h) ∈ L.hots := hm
    rw [hh] at hm; cases hm
theorem hot_body {N : List Str} {x y p qual : Str} {params : Arguments} {body : List Stmt} {scope : Scope} {dvs : List V} {kws : List (Str × V)} {f : Addr} {fd : FuncData} {mb : List MS} (hL : LibOk P w K mg base T0 L) (hh : L.hots = [])
    (FD : FunD K x qual params body scope dvs kws f fd) (hm : mg y = some (.ref f)) (hk : PySem.W.keepIn K (.ref f) = true) (hbd : ∀ (s : Shared) (u : Value), K.In s.heap → BindsTo s fd ⟨[u], []⟩ ([p].zip [u])) (S : FnScope N [p] scope)
    (hb : SndSs (L.hot p) N scope (cellNames scope) body mb) : HotP P w K mg base y (hotOf N.length mb) := by
  obtain ⟨oc, od, dV, kV, doc, pm, an, cdv, ct, osl, rfl, lk, hcd, _, _⟩ := FD.ex
  refine ⟨f, hm, hk, fun A outer s H Q pn T F μ g cls dd ex hr hg hpin e0 hz hf ht hv hx ha => ?_⟩
  have KX : K.In s.heap := e0.mod.kin.keeps fun b o e => (e0.bs b o e).1
  have lim : s.heap.NoLimit := e0.mod.nolimit.keeps fun b o e => (e0.bs b o e).1
  have hkind : ∀ y ∈ [p].zip [Value.ref pn.1], scope.names.lookup y.1 = some .local ∨ (scope.names.lookup y.1 = some .cell ∧ ((cellsFrom (s.heap.objs.size + 1) scope.names []).lookup y.1).isSome = true) := fun ⟨n, v⟩ hy => by
    rcases S.par n (List.of_mem_zip hy).1 with q | q
    · exact .inl q
    · exact .inr ⟨q, PySem.W.cellsFrom_some _ _ _ (.inl q)⟩
  have hlen : 1 ≤ N.length := by
    have := congrArg List.length S.pre
    rw [List.length_take] at this
    simp at this
    omega
  have at_ : ∀ {i : Nat} {o : SV}, (startE N.length ex)[i]? = some (some o) → i = 0 ∧ o = .err ex := fun {i o} h => by
    unfold startE at h
    cases i with
    | zero => cases h; exact ⟨rfl, rfl⟩
    | succ i =>
      rw [List.getElem?_cons_succ] at h
      have := List.mem_of_getElem? h
      rw [List.mem_replicate] at this
      cases this.2
  have rel : RelS K mg T (startE N.length ex) (L2.start N [.ref pn.1]) F μ H := by
    refine ⟨?_, fun i d h => ?_, fun i d h => ?_, fun i j xs ys a h _ _ _ => ?_, fun i d h => ?_, fun i d h => ?_⟩
    · unfold startE L2.start
      simp only [List.length_cons, List.length_replicate, List.length_append, List.length_map, List.length_nil]
      omega
    · cases (at_ h).2
    · cases (at_ h).2
    · cases (at_ h).2
    · obtain ⟨rfl, e⟩ := at_ h
      cases e
      exact ⟨_, _, _, ht, by unfold L2.start; rfl, hx⟩
    · cases (at_ h).2
  have noo : ∀ a, ¬ OwnAt (startE N.length ex) (L2.start N [V.ref pn.1]) a := fun a ⟨i, xs, h, _⟩ => by cases (at_ h).2
  refine codeAny_call_function hr.depth (KX _ _ lk) rfl S.co S.gen rfl (PySem.W.codeRec_of KX hcd) (hbd s (.ref pn.1) KX _ _ _ _ ?_)
  refine wpAny_newFunctionEnv_cells S.kind hkind fun env he s1 x1 => ?_
  subst he
  refine ⟨lim.keeps x1.toInCall.keep, codeAny_func ?_⟩
  have I : Inv (L2H.cxH (CX P w) P w K mg base N qual scope f cdv A outer s H (fun _ _ _ => False) pn) [] (L2.start N [.ref pn.1]) H s1 := L2H.inv_startH S hpin e0 rfl (.cons rfl .nil) x1
  have ht' := hb T badF 0 EF _ (ctx_hot (v := p) (qual := qual) (f := f) (cdv := cdv) (A := A) (outer := outer) (s := s) (H := H) hL S.nd hh hr hg ht hz hf) ⟨rfl, rfl⟩
  have hq : tMs K mg T badF EF mb { nx := fun _ H' => Q .non H', rt := Q } (L2.start N [.ref pn.1]) H := by
    refine ⟨F, μ, g, startE N.length ex, hv, rel, ?_⟩
    unfold hotOf at ha
    cases e : execs badF mb (startE N.length ex) g with
    | next S1 g1 =>
      rw [e] at ha
      exact fun σ' F' μ' H' y _ _ => ha .non F' μ' H' (y.go noo) .non
    | ret d g1 =>
      rw [e] at ha
      exact fun v F' μ' H' y r => ha v F' μ' H' (y.go noo) r
    | exc ex S1 g1 => rw [e] at ha; exact ha.elim
    | brk S1 g1 => rw [e] at ha; exact ha.elim
    | cont S1 g1 => rw [e] at ha; exact ha.elim
    | bad => rw [e] at ha; exact ha.elim
  refine wpAny_mono (ht'.run [] s1 (L2.start N [.ref pn.1]) H _ I hq) (fun fl s' hs => ?_) fun e s' hs => hs
  have fin : ∀ {σ' : L2.St} {H' : Hp} {v : V} {u : Value}, Inv (L2H.cxH (CX P w) P w K mg base N qual scope f cdv A outer s H (fun _ _ _ => False) pn) [] σ' H' s' → RelV v u → Q v H' → CE outer P w H s Q u s' :=
    fun {σ' H' v u} J rv q => ⟨v, H', J.os, J.bare, J.base, J.hok, rv, q⟩
  cases fl with
  | ret u =>
    obtain ⟨v, σ', H', J, rv, q⟩ := hs
    exact fin J rv q
  | next =>
    obtain ⟨σ', H', J, q⟩ := hs
    exact fin (v := V.non) (u := Value.none) J rfl q
  | brk =>
    obtain ⟨_, _, _, q⟩ := hs
    exact False.elim q
  | cont =>
    obtain ⟨_, _, _, q⟩ := hs
    exact False.elim q
end
end SH

set_option Elab.async false
set_option linter.all false
set_option autoImplicit false
set_option maxRecDepth 100000
set_option maxHeartbeats 4000000
/-! own error classes, by a check of the written part -/
namespace SH
open PySem PySem.Spec PyProof.Rows L2 LamX
open PySem.W (Frag findIn typeIn keepIn subIn mroIn nsIn alongIn codeIn clsIn ksFn ksEnv)
open PySem.HandSPX (refsVE excO)
def strIs (s : Str) (t : Str) : Bool := decide (s = t)
def namesB : List Str → List Expr → Bool
  | [], [] => true
  | f :: fs, .Name x _ :: l => decide (x = f) && namesB fs l
  | _, _ => false
theorem namesB_is : ∀ {fs : List Str} {l : List Expr}, namesB fs l = true → Names fs l
  | [], [], _ => .nil
  | f :: fs, e :: l, h => by
    cases e <;> first | (cases h; done) | skip
    simp only [namesB, Bool.and_eq_true, decide_eq_true_eq] at h
    obtain ⟨rfl, h⟩ := h
    exact .cons (namesB_is h)
  | [], _ :: _, h => by cases h
  | _ :: _, [], h => by cases h
def setsB : List Str → List Stmt → Bool
  | [], [] => true
  | f :: fs, .Assign [.Attribute (.Name s _) g _] (.Name x _) _ :: l => decide (s = "self") && decide (g = f) && decide (x = f) && setsB fs l
  | _, _ => false
theorem setsB_is : ∀ {fs : List Str} {l : List Stmt}, setsB fs l = true → Sets fs l
  | [], [], _ => .nil
  | f :: fs, st :: l, h => by
    unfold setsB at h
    split at h
    · rename_i e1 e2
      cases e2
    · rename_i e1 e2
      cases e1
      cases e2
      simp only [Bool.and_eq_true, decide_eq_true_eq] at h
      obtain ⟨⟨⟨rfl, rfl⟩, rfl⟩, h⟩ := h
      exact .cons (setsB_is h)
    · cases h
  | [], _ :: _, h => by cases h
  | _ :: _, [], h => by cases h
theorem superEv_of {q : Str} {scope : Scope} {fI cda cc : Addr} {fs : List Str} {args : List Expr} {p0 p1 p2 p3 : Pos} (hn : Names fs args) (hlen : args.length < 30) (hl : (p2.endLine == p3.line) = true) : SuperEv q scope fI cda cc args p0 p1 p2 p3 := by
  intro L
  have hf : methodCallForm args.length (backTo p3 (starEach args (ksEnv q scope L fI (.ref cda) cc))) [] = true := by
    unfold methodCallForm
    have h1 : (backTo p3 (starEach args (ksEnv q scope L fI (.ref cda) cc))).all (!·.1) = true := by
      rw [List.all_eq_true]
      intro x hx
      have := List.any_eq_false.mp (names_plain (env := ksEnv q scope L fI (.ref cda) cc) (pos := p3) hn) x hx
      simpa using this
    rw [h1]
    simpa using hlen
  refine ⟨plainOf (.Call (.Name "super" p0) [] [] p1) (ksEnv q scope L fI (.ref cda) cc), ?_⟩
  show (do
      let ov ← attributeBase (.Call (.Name "super" p0) [] [] p1) "__init__" (ksEnv q scope L fI (.ref cda) cc) (eval (.Call (.Name "super" p0) [] [] p1) (ksEnv q scope L fI (.ref cda) cc))
      standAt p2.atName
      methodCall (.Call (.Name "super" p0) [] [] p1) "__init__" p2 p3 (ksEnv q scope L fI (.ref cda) cc) ov args.length (backTo p3 (starEach args (ksEnv q scope L fI (.ref cda) cc))) []) = _
  simp only [mcall_line hf hl]
theorem binds_ks {name q : Str} {params : Arguments} {body : List Stmt} {scope : Scope} {doc pm : Value} {an : Option Addr} {cdv ct : Value} {cc : Addr} {ps : List Str} (hp : simpleP params ps = true) (hnd : ps.Nodup) (s : Shared) (us : List Value) (hl : us.length = ps.length) :
    BindsTo s (ksFn name q params body scope .none .none doc pm an cdv ct cc) ⟨us, []⟩ (ps.zip us) := by
  unfold simpleP at hp
  simp only [Bool.and_eq_true, List.isEmpty_iff, Option.isNone_iff_eq_none, decide_eq_true_eq] at hp
  obtain ⟨⟨⟨⟨h1, h2⟩, h3⟩, h4⟩, h5⟩ := hp
  have look : ∀ p ∈ ps.zip us, (ps.zip us).lookup p.1 = some p.2 := by
    clear h5
    induction ps generalizing us with
    | nil => intro p hp; simp at hp
    | cons a ps ih =>
      cases us with
      | nil => intro p hp; simp at hp
      | cons u us =>
        intro p hp
        rw [List.zip_cons_cons] at hp ⊢
        rw [List.nodup_cons] at hnd
        rcases List.mem_cons.mp hp with e | hp'
        · subst e; simp [List.lookup]
        · have ne : (p.1 == a) = false := by
            have := (List.of_mem_zip hp').1
            have ne : p.1 ≠ a := fun z => hnd.1 (z ▸ this)
            simpa using ne
          rw [List.lookup_cons, ne]
          exact ih hnd.2 us (by simpa using hl) p hp'
  have pairs : ps.filterMap (fun n => ((ps.zip us).lookup n).map (n, ·)) = ps.zip us := by
    have : ∀ (l : List Str) (vs : List Value), vs.length = l.length → (∀ p ∈ l.zip vs, (ps.zip us).lookup p.1 = some p.2) → l.filterMap (fun n => ((ps.zip us).lookup n).map (n, ·)) = l.zip vs := by
      intro l
      induction l with
      | nil => intro vs _ _; simp
      | cons a l ih =>
        intro vs hv hz
        cases vs with
        | nil => simp at hv
        | cons v vs =>
          rw [List.zip_cons_cons] at hz ⊢
          rw [List.filterMap_cons, hz (a, v) List.mem_cons_self]
          simp only [Option.map_some]
          rw [ih vs (by simpa using hv) (fun p hp => hz p (List.mem_cons_of_mem _ hp))]
    exact this ps us hl look
  have missing : (ps.filter fun n => ((ps.zip us).lookup n).isNone) = [] := by
    rw [List.filter_eq_nil_iff]
    intro n hn
    obtain ⟨i, hi, e⟩ := List.mem_iff_getElem.mp hn
    have hm : (n, us[i]'(by omega)) ∈ ps.zip us := by
      rw [List.mem_iff_getElem]
      exact ⟨i, by simp; omega, by simp [e]⟩
    rw [look _ hm]
    simp
  intro M A E Q hQ
  unfold bindArgs
  simp only [h1, h2, h3, h4, h5, List.map_nil, List.nil_append, List.forIn_nil, pure_bind]
  refine wpAny_bind (wpAny_of_eq (a := none) rfl ?_)
  have hgt : decide (us.length > ps.length) = false := decide_eq_false (by omega)
  simp only [Option.getD_none, hgt, Bool.false_and, Bool.false_eq_true, if_false, List.length_nil, Nat.sub_zero, List.take_length, List.drop_length, Array.toList_empty, List.drop_nil, List.zip_nil_right, List.forIn_nil, pure_bind, missing, List.isEmpty_nil, Bool.not_true]
  simp only [show (#[] : Array Value).toList = [] from rfl, List.length_nil, Nat.zero_sub, Nat.sub_zero, List.take_length, List.drop_length, List.drop_nil, List.zip_nil_right, List.forIn_nil, pure_bind, missing, List.isEmpty_nil, Bool.not_true, Bool.false_eq_true, if_false, List.append_nil]
  refine wpAny_pure ?_
  rw [pairs]
  exact hQ
end SH

set_option Elab.async false
set_option linter.all false
set_option autoImplicit false
set_option maxRecDepth 100000
set_option maxHeartbeats 4000000
/-! own error classes, by a check of the written part -/
namespace SH
open PySem PySem.Spec PyProof.Rows L2 LamX
open PySem.W (Frag findIn typeIn keepIn subIn mroIn nsIn alongIn codeIn clsIn ksFn ksEnv)
open PySem.HandSPX (refsVE excO)
def veInit : Value := .builtin "ValueError.__init__"
def clsB (K : Frag) (C : Addr) : Bool := match K.lookup C with
  | some ⟨.type t, _, .cls cd, sl⟩ => decide (t = "type") && (match cd.mro, sl.toList with
    | .ref C' :: bm, [_, _, _, _, some (.builtin n), _] => decide (C' = C) && decide (n = "ValueError.__new__") && !cd.hasDel && cd.hasDict && refsVE bm && decide (alongIn K "__init__" bm = some (some veInit))
    | _, _ => false)
  | _ => false
theorem clsB_is {K : Frag} {C : Addr} (h : clsB K C = true) : ∃ nm q N bs bm sn sub ab col dd k0 k1 k2 k3 k5, K.lookup C = some (excClassObj nm q C N bs bm true sn sub ab col dd k0 k1 k2 k3 k5 "ValueError.__new__") ∧ refsVE bm = true ∧ alongIn K "__init__" bm = some (some (.builtin "ValueError.__init__")) := by
  unfold clsB at h
  split at h
  · rename_i t dd cd sl ho
    rw [Bool.and_eq_true] at h
    obtain ⟨ht, h⟩ := h
    have ht := of_decide_eq_true ht
    subst ht
    split at h
    · rename_i C' bm k0 k1 k2 k3 n k5 hm hs
      simp only [Bool.and_eq_true, decide_eq_true_eq, Bool.not_eq_true'] at h
      obtain ⟨⟨⟨⟨⟨rfl, rfl⟩, hdel⟩, hdict⟩, hv⟩, hal⟩ := h
      obtain ⟨nm, bs, mro, ns, qn, hd, sn, sub, ab, col, del⟩ := cd
      simp only at hm hdel hdict
      subst hm hdel hdict
      obtain ⟨l⟩ := sl
      simp only at hs
      subst hs
      exact ⟨nm, qn, ns, bs, bm, sn, sub, ab, col, dd, k0, k1, k2, k3, k5, ho, hv, hal⟩
    · cases h
  · cases h
def cellB (K : Frag) (cc C : Addr) : Bool := match K.lookup cc with
  | some ⟨_, _, .cell (some (.ref D)), _⟩ => decide (D = C)
  | _ => false
theorem cellB_is {K : Frag} {cc C : Addr} (h : cellB K cc C = true) : ∃ cl cld csl, K.lookup cc = some ⟨cl, cld, .cell (some (.ref C)), csl⟩ := by
  unfold cellB at h
  split at h
  · rename_i cl cld D csl ho
    have := of_decide_eq_true h
    subst this
    exact ⟨cl, cld, csl, ho⟩
  · cases h
def fileB (K : Frag) (cda : Addr) (fl : Str) : Bool := match K.lookup cda with
  | some ⟨_, _, .fields vs, _⟩ => (match (vs[2]? : Option Value) with
    | some (.str file _) => fl == file
    | _ => false)
  | _ => false
theorem fileB_is {K : Frag} {cda : Addr} {fl : Str} (h : fileB K cda fl = true) : ∃ ccl cdd vs ccs file tf, K.lookup cda = some ⟨ccl, cdd, .fields vs, ccs⟩ ∧ vs[2]? = some (.str file tf) ∧ (fl == file) = true := by
  unfold fileB at h
  split at h
  · rename_i ccl cdd vs ccs ho
    split at h
    · rename_i file tf hv
      exact ⟨ccl, cdd, vs, ccs, file, tf, ho, hv, h⟩
    · cases h
  · cases h
def firstIs (p : Arguments) (x : Str) : Bool := match (p.posonlyargs ++ p.args).head? with
  | some a => decide (a.arg = x)
  | none => false
def scopeI (scope : Scope) (fs : List Str) : Bool := decide (scope.kind = .function) && !scope.isGenerator && !scope.isCoroutine && scope.names.all (fun x => !decide (x.2 = .cell)) && (("self" : Str) :: fs).all (fun f => decide (scope.names.lookup f = some .local)) && decide (scope.names.lookup ("super" : Str) = some .globalImplicit) && decide (scope.names.lookup ("__class__" : Str) = some .free)
def initB (K : Frag) (fl : Str) (C fI : Addr) (fs : List Str) : Bool := match K.lookup fI with
  | some ⟨_, _, .func fd, _⟩ => (match fd.defaults, fd.kwdefaults, fd.closure, fd.code, fd.body with
    | .none, .none, [(c, cc)], .ref cda, .stmts (.Expr (.Call (.Attribute (.Call (.Name s p0) [] [] p1) i p2) args [] p3) p4 :: sets) =>
      decide (fd.name = "__init__") && decide (fd.globals = mainGlobals) && decide (fd.builtins = builtinsNs) && decide (c = "__class__") && decide (s = "super") && decide (i = "__init__") && namesB fs args && setsB fs sets && decide (args.length < 30) && (p2.endLine == p3.line) &&
      codeIn K (.ref cda) fd.qualname && firstIs fd.params "self" && simpleP fd.params (("self" : Str) :: fs) && scopeI fd.scope fs && cellB K cc C && fileB K cda fl
    | _, _, _, _, _ => false)
  | _ => false
theorem initB_is {K : Frag} {fl : Str} {C fI : Addr} {fs : List Str} (hf : fs ≠ []) (hnd : (("self" : Str) :: fs).Nodup) (h : initB K fl C fI fs = true) : ∃ cc cda, (∃ cl cld csl, K.lookup cc = some ⟨cl, cld, .cell (some (.ref C)), csl⟩) ∧ (∃ ccl cdd vs ccs file tf, K.lookup cda = some ⟨ccl, cdd, .fields vs, ccs⟩ ∧ vs[2]? = some (.str file tf) ∧ (fl == file) = true) ∧
    ∃ (oc : Value) (od : Option Addr) (q : Str) (params : Arguments) (body : List Stmt) (scope : Scope) (doc pm : Value) (an : Option Addr) (ct : Value) (osl : Array (Option Value)) (ar : Arg) (args : List Expr) (sets : List Stmt) (p0 p1 p2 p3 p4 : Pos),
    K.lookup fI = some ⟨oc, od, .func (ksFn "__init__" q params body scope .none .none doc pm an (.ref cda) ct cc), osl⟩ ∧ codeIn K (.ref cda) q = true ∧ (params.posonlyargs ++ params.args).head? = some ar ∧ ar.arg = "self" ∧
    (∀ (s : Shared) (x : Value) (vs : List Value), vs.length = fs.length → BindsTo s (ksFn "__init__" q params body scope .none .none doc pm an (.ref cda) ct cc) ⟨x :: vs, []⟩ ((("self" : Str), x) :: fs.zip vs)) ∧
    body = .Expr (.Call (.Attribute (.Call (.Name "super" p0) [] [] p1) "__init__" p2) args [] p3) p4 :: sets ∧ Names fs args ∧ Sets fs sets ∧ fs ≠ [] ∧ SuperEv q scope fI cda cc args p0 p1 p2 p3 ∧
    scope.kind = .function ∧ scope.isGenerator = false ∧ scope.isCoroutine = false ∧ (∀ x ∈ scope.names, x.2 ≠ .cell) ∧ (∀ f ∈ ("self" : Str) :: fs, scope.names.lookup f = some .local) ∧ scope.names.lookup ("super" : Str) = some .globalImplicit ∧ scope.names.lookup ("__class__" : Str) = some .free ∧ (("self" : Str) :: fs).Nodup := by
  unfold initB at h
  split at h
  · rename_i oc od fd osl ho
    split at h
    · rename_i c cc cda s p0 p1 i p2 args p3 p4 sets e1 e2 e3 e4 e5
      obtain ⟨n1, n2, n3, n4, n5, n6, n7, n8, n9, n10, n11, n12, n13, n14, n15⟩ := fd
      simp only at e1 e2 e3 e4 e5
      subst e1 e2 e3 e4 e5
      simp only [Bool.and_eq_true, decide_eq_true_eq] at h
      obtain ⟨⟨⟨⟨⟨⟨⟨⟨⟨⟨⟨⟨⟨⟨⟨h1, h2⟩, h3⟩, h4⟩, h5⟩, h6⟩, h7⟩, h8⟩, h9⟩, h10⟩, h11⟩, h12⟩, h13⟩, h14⟩, h15⟩, h16⟩ := h
      subst h1 h2 h3 h4 h5 h6
      unfold scopeI at h14
      simp only [Bool.and_eq_true, decide_eq_true_eq, Bool.not_eq_true', List.all_eq_true, decide_eq_false_iff_not] at h14
      obtain ⟨⟨⟨⟨⟨⟨s1, s2⟩, s3⟩, s4⟩, s5⟩, s6⟩, s7⟩ := h14
      unfold firstIs at h12
      split at h12
      · rename_i ar har
        refine ⟨cc, cda, cellB_is h15, fileB_is h16, oc, od, _, _, _, _, _, _, _, _, osl, ar, args, sets, p0, p1, p2, p3, p4, ho, h11, har, of_decide_eq_true h12, fun s x vs hv => ?_, rfl, namesB_is h7, setsB_is h8, hf, superEv_of (namesB_is h7) h9 h10, s1, s2, s3, s4, s5, s6, s7, hnd⟩
        exact binds_ks h13 hnd s (x :: vs) (by simp [hv])
      · cases h12
    · cases h
  · cases h
/-- all that is asked of an own error class -/
def exB (fl : Str) (K : Frag) (cn : Str) (fs : List Str) : Bool :=
  He.eqO (nsIn K mainGlobals cn) (some (some (.ref (He.ga K cn)))) && keepIn K (.ref (He.ga K cn)) && clsB K (He.ga K cn) && He.eqO (findIn K (.ref (He.ga K cn)) "__setattr__") (some (some (.builtin "object.__setattr__"))) && fs.all (fun f => He.eqO (findIn K (.ref (He.ga K cn)) f) (some none)) &&
  He.eqO (findIn K (.ref (He.ga K cn)) "__init__") (some (some (.ref (He.ma K (He.ga K cn) "__init__")))) && decide (typeIn K (.ref (He.ma K (He.ga K cn) "__init__")) = some (.type "function")) && decide (subIn K (.ref (He.ga K cn)) (.type "BaseException") = some true) && decide (typeIn K (.ref (He.ga K cn)) = some (.type "type")) &&
  decide (subIn K (.ref (He.ga K cn)) (.type "ValueError") = some true) && decide (mroIn K (He.ga K cn) (.ref (He.ga K cn)) = some true) && He.eqO (nsIn K cStatics "thirdparty.any") (some none) && initB K fl (He.ga K cn) (He.ma K (He.ga K cn) "__init__") fs &&
  He.eqO (nsIn K mainGlobals "super") (some none)
theorem exB_is {P : Program} {K : Frag} {h : Heap} {mg : Str → Option Value} {cn : Str} {fs : List Str} (X : K.In h) (Gn : h.Ns mainGlobals mg) (ht : (P.main.scope.names.lookup ("super" : Str)).isSome = false) (hfs : fs ≠ []) (hnd : (("self" : Str) :: fs).Nodup) (hsh : fs.length ≤ 100) (hns : ∀ f ∈ fs, (f == ("__debug__" : Str)) = false) (q : exB P.main.file K cn fs = true) : ∃ C fI cc cda, ExC P K mg cn fs C fI cc cda := by
  unfold exB at q
  simp only [Bool.and_eq_true, decide_eq_true_eq, List.all_eq_true] at q
  obtain ⟨⟨⟨⟨⟨⟨⟨⟨⟨⟨⟨⟨⟨q1, q2⟩, q3⟩, q4⟩, q5⟩, q6⟩, q7⟩, q8⟩, q9⟩, q10⟩, q11⟩, q12⟩, q13⟩, q14⟩ := q
  obtain ⟨cc, cda, c1, c2, c3⟩ := initB_is hfs hnd q13
  refine ⟨_, _, cc, cda, PySem.W.mg_of X Gn (He.eqO_ok q1), q2, clsB_is q3, He.eqO_ok q4, fun f hf => He.eqO_ok (q5 f hf), He.eqO_ok q6, q7, q8, q9, q10, q11, He.eqO_ok q12, c2, c1, PySem.W.mg_none_of X Gn (He.eqO_ok q14), ht, hsh, hns, c3⟩
end SH

set_option Elab.async false
set_option linter.all false
set_option autoImplicit false
set_option maxRecDepth 100000
set_option maxHeartbeats 4000000
namespace SH
open PySem PySem.Spec PyProof.Rows L2 LamX
open PySem.W (Frag findIn typeIn keepIn subIn mroIn nsIn alongIn codeIn clsIn ksFn ksEnv)
/-! ### which errors a class takes -/
def errB (K : Frag) (D : Addr) (fs : List Str) : Bool :=
  He.eqO (findIn K (.ref D) "__getattribute__") (some (some (.builtin "BaseException.__getattribute__"))) && He.eqO (findIn K (.ref D) "__getattr__") (some none) && decide (subIn K (.ref D) (.type "BaseException") = some true) && PySem.W.hasDictIn K D &&
  He.eqO (findIn K (.ref D) "__class__") (some (some (.builtin "object.__class__"))) && He.eqO (PySem.W.specialIn K (.builtin "object.__class__") "__get__") (some (some (.builtin "getset_descriptor.__get__"))) && decide (PySem.W.takesIn K (.builtin "object.__class__") = some true) && decide (mroIn K D (.type "object") = some true) &&
  fs.all (fun f => He.eqO (findIn K (.ref D) f) (some none))
theorem errB_is {K : Frag} {D : Addr} {fs : List Str} (h : errB K D fs = true) : ErrC K fs D := by
  unfold errB at h
  simp only [Bool.and_eq_true, decide_eq_true_eq, List.all_eq_true] at h
  obtain ⟨⟨⟨⟨⟨⟨⟨⟨h1, h2⟩, h3⟩, h4⟩, h5⟩, h6⟩, h7⟩, h8⟩, h9⟩ := h
  exact ⟨⟨He.eqO_ok h1, He.eqO_ok h2, h3, h4, He.eqO_ok h5, He.eqO_ok h6, h7, h8⟩, fun f hf => He.eqO_ok (h9 f hf)⟩
def clV (K : Frag) (C : Str) : Option V := match nsIn K mainGlobals C with
  | some (some (.ref a)) => some (.ref a)
  | some none => (match bootBuiltins C with
    | some (.type n) => some (.ty n)
    | _ => none)
  | _ => none
def vVal : V → Value
  | .ref a => .ref a
  | .ty n => .type n
  | _ => .none
def subB (K : Frag) (exs : List (Str × List Str)) (C : Str) (l : List Str) : Bool := match clV K C with
  | some c => !decide (C = "__name__") && exs.all fun p => He.eqO (nsIn K mainGlobals p.1) (some (some (.ref (He.ga K p.1)))) && errB K (He.ga K p.1) p.2 && decide (PySem.W.kitOne K (.ref (He.ga K p.1)) (vVal c) = some (l.contains p.1)) && decide (PySem.W.exmOne K (.ref (He.ga K p.1)) (vVal c) = some (l.contains p.1))
  | none => false
theorem subB_is {K : Frag} {h : Heap} {mg : Str → Option Value} {exs : List (Str × List Str)} {C : Str} {l : List Str} (X : K.In h) (Gn : h.Ns mainGlobals mg) (q : subB K exs C l = true) : SubOk K mg exs C l := by
  unfold subB at q
  split at q
  · rename_i c hc
    simp only [Bool.and_eq_true, decide_eq_true_eq, List.all_eq_true, Bool.not_eq_true', decide_eq_false_iff_not] at q
    obtain ⟨hn, q⟩ := q
    have base : RelV c (vVal c) ∧ (∀ u, RelV c u → u = vVal c) ∧ ClsV mg C (vVal c) := by
      unfold clV at hc
      split at hc
      · rename_i a e
        cases hc
        exact ⟨rfl, fun u r => r, .inl (PySem.W.mg_of X Gn e)⟩
      · rename_i e
        split at hc
        · rename_i n e2
          cases hc
          exact ⟨rfl, fun u r => r, .inr ⟨PySem.W.mg_none_of X Gn e, e2, hn⟩⟩
        · cases hc
      · cases hc
    refine ⟨c, vVal c, base.1, base.2.1, base.2.2, fun cn fs hm => ?_⟩
    obtain ⟨⟨⟨q1, q2⟩, q3⟩, q4⟩ := q (cn, fs) hm
    exact ⟨_, PySem.W.mg_of X Gn (He.eqO_ok q1), errB_is q2, q3, q4⟩
  · cases q
/-! ### constants of the module -/
def conB (K : Frag) (x : Str) (d : D) : Bool := match d with
  | .tup l => He.eqO (nsIn K mainGlobals x) (some (some (.ref (He.ga K x)))) && (match ints? l with
    | some ns => He.tupB K x (ns.map He.Dv.int)
    | none => false)
  | .int i => (He.Fa.int x i).ok K
  | .str s => (He.Fa.str x s).ok K
  | _ => false
theorem conB_is {K : Frag} {h : Heap} {mg : Str → Option Value} {x : Str} {d : D} (X : K.In h) (Gn : h.Ns mainGlobals mg) (q : conB K x d = true) : ∃ v u, mg x = some u ∧ RelV v u ∧ ∀ μ F, Rep K mg μ F v d := by
  unfold conB at q
  split at q
  · rename_i l
    rw [Bool.and_eq_true] at q
    obtain ⟨q1, q2⟩ := q
    split at q2
    · rename_i ns hn
      refine ⟨.ref (He.ga K x), _, PySem.W.mg_of X Gn (He.eqO_ok q1), rfl, fun μ F => .tup (He.tupB_ok q2 F) ?_⟩
      rw [ints_of hn]
      have : (ns.map He.Dv.int).map (He.Dv.v K) = ns.map V.int := by
        rw [List.map_map]; rfl
      rw [this]
      exact Reps.ofInts ns
    · cases q2
  · obtain ⟨t, e⟩ := He.int_ok X Gn q
    exact ⟨.int _, _, e, ⟨t, rfl⟩, fun μ F => .int _⟩
  · obtain ⟨t, e⟩ := He.str_ok X Gn q
    exact ⟨.str _, _, e, ⟨t, rfl⟩, fun μ F => .str _⟩
  · cases q
/-! ### the head's hook -/
def freeB (K : Frag) (x : Str) : Bool := He.eqO (nsIn K mainGlobals x) (some none)
def gloB (K : Frag) (x : Str) : Bool := He.eqO (nsIn K mainGlobals x) (some (some (.ref (He.ga K x))))
def libB (fl : Str) (L : Lib) (K : Frag) : Bool := L.free.all (freeB K) && L.con.all (fun p => conB K p.1 p.2) && L.exs.all (fun p => exB fl K p.1 p.2) && L.subs.all (fun p => subB K L.exs p.1 p.2) && L.fns.all (fun f => gloB K f.name)
/-- what the text alone tells of the lib -/
def libT (P : Program) (L : Lib) : Bool := !(P.main.scope.names.lookup ("super" : Str)).isSome && L.exs.all (fun p => !p.2.isEmpty && decide ((("self" : Str) :: p.2).Nodup) && decide (p.2.length ≤ 100) && p.2.all (fun f => !(f == ("__debug__" : Str)))) && L.ev.isNone && !L.thk
theorem libB_is {P : Program} {w : World} {base : Heap} {T : Tg} {L : Lib} {K : Frag} {h : Heap} {mg : Str → Option Value} (X : K.In h) (Gn : h.Ns mainGlobals mg) (ht : libT P L = true) (te : T.err = none) (tt : T.thk = none) (q : libB P.main.file L K = true) (hot : ∀ x f, (x, f) ∈ L.hots → HotP P w K mg base x f) : LibOk P w K mg base T L := by
  unfold libB at q
  unfold libT at ht
  simp only [Bool.and_eq_true, List.all_eq_true, Bool.not_eq_true', decide_eq_true_eq, Option.isNone_iff_eq_none] at q ht
  obtain ⟨⟨⟨⟨q1, q2⟩, q3⟩, q4⟩, _⟩ := q
  obtain ⟨⟨⟨t1, t2⟩, t3⟩, t4⟩ := ht
  refine ⟨fun x hx => PySem.W.mg_none_of X Gn (He.eqO_ok (q1 x hx)), fun x d hx => conB_is X Gn (q2 (x, d) hx), fun cn fs hx => ?_, t3, te, fun C l hx => subB_is X Gn (q4 (C, l) hx), t4, tt, hot⟩
  obtain ⟨⟨⟨a1, a2⟩, a3⟩, a4⟩ := t2 (cn, fs) hx
  exact exB_is X Gn t1 (fun z => by rw [show fs = [] from z] at a1; cases a1) a2 a3 a4 (q3 (cn, fs) hx)
theorem libB_fn {L : Lib} {fl : Str} {K : Frag} {h : Heap} {mg : Str → Option Value} (X : K.In h) (Gn : h.Ns mainGlobals mg) (q : libB fl L K = true) {f : FnI} (hf : f ∈ L.fns) : mg f.name = some (.ref (He.ga K f.name)) := by
  unfold libB at q
  simp only [Bool.and_eq_true, List.all_eq_true] at q
  exact PySem.W.mg_of X Gn (He.eqO_ok (q.2 f hf))
structure SaysS (fn : List He.DefD) (tf : List He.Defn) (ex : Frag → Bool) (h : Heap) (K : Frag) : Prop where
  d : He.SaysD [] fn K
  more : ex K = true
  hd : ∀ p ∈ tf, PySem.W.codeHdIn K (He.cT K p).1 (He.cT K p).2 = true
  out : ∀ p ∈ tf, K.lookup (He.cT K p).2 = none
  empty : ∀ p ∈ tf, h.get? (He.cT K p).2 = some { cls := .none, data := .fields #[] }
/-- what is looked at: what the module's names reach, and the marks of what is loaded -/
def upTo : Nat → Nat → List Nat
  | 0, _ => []
  | m + 1, a => a :: upTo m (a + 1)
def lookK (n : Nat) (g : Addr → Option Obj) : Frag := He.frT g (upTo n 0)
def obsS (n : Nat) (fn : List He.DefD) (tf : List He.Defn) (ex : Frag → Bool) (g : Addr → Option Obj) : He.AlD × Bool := (He.obsD [] fn (lookK n g), ex (lookK n g) && He.tabsB g tf (lookK n g))
theorem saysS_of {n : Nat} {fn : List He.DefD} {tf : List He.Defn} {ex : Frag → Bool} {h : Heap} (e : obsS n fn tf ex h.get? = (He.valD fn, true)) : SaysS fn tf ex h (lookK n h.get?) := by
  obtain ⟨e1, e2⟩ := Prod.mk.inj e
  rw [Bool.and_eq_true] at e2
  have key : ∀ p ∈ tf, PySem.W.codeHdIn (lookK n h.get?) (He.cT (lookK n h.get?) p).1 (He.cT (lookK n h.get?) p).2 = true ∧ ∃ o, h.get? (He.cT (lookK n h.get?) p).2 = some o ∧ He.emptyTab o = true := fun p hp => by
    have := List.all_eq_true.mp e2.2 p hp
    rw [Bool.and_eq_true] at this
    refine ⟨this.1, ?_⟩
    have h4 := this.2
    split at h4
    · rename_i o ho
      exact ⟨o, ho, h4⟩
    · cases h4
  refine ⟨e1, e2.1, fun p hp => (key p hp).1, fun p hp => ?_, fun p hp => ?_⟩
  · obtain ⟨_, o, q, z⟩ := key p hp
    exact He.frT_none q z
  · obtain ⟨_, o, q, z⟩ := key p hp
    rw [q, He.emptyTab_eq z]
def hookS (_n : Nat) (fn : List He.DefD) (tf : List He.Defn) (ex : Frag → Bool) : PySem.W.Hook where
  α := He.AlD × Bool
  obs := fun s => obsS s.heap.objs.size fn tf ex s.heap.get?
  val := fun _ => (He.valD fn, true)
  says := fun _ h => ∃ K : Frag, K.In h ∧ SaysS fn tf ex h K
  of := fun _ _ e => ⟨_, He.frT_in, saysS_of e⟩
  keeps := fun _ _ _ ⟨K, hK, c⟩ k => ⟨K, PySem.W.Frag.In.keeps hK k, ⟨c.d, c.more, c.hd, c.out, fun p hp => k _ _ (c.empty p hp)⟩⟩
theorem obsS_eq {n : Nat} {fn : List He.DefD} {tf : List He.Defn} {ex : Frag → Bool} {s : PySem.W.SharedT} : obsS s.n fn tf ex (HandSHeadRun.getT s) = (hookS n fn tf ex).obs s.abs := by
  have h : HandSHeadRun.getT s = s.abs.heap.get? := funext (HandSHeadRun.getT_eq s)
  show obsS s.n fn tf ex _ = obsS s.abs.heap.objs.size fn tf ex s.abs.heap.get?
  rw [h, show s.abs.heap.objs.size = s.n from PySem.W.absHeap_size _ _ _]
end SH

set_option Elab.async false
set_option linter.all false
set_option autoImplicit false
set_option maxRecDepth 100000
set_option maxHeartbeats 4000000
/-! the law's own call -/
namespace SH
open PySem PySem.Spec PyProof.Rows L2 LamX
abbrev lstO (vs : List Value) : Obj := { cls := .type "list", data := .seq vs.toArray }
abbrev tabO : Obj := { cls := .none, data := .fields #[] }
/-- what is tracked at the law's entry: the script unless it is of the written part; the tables -/
def H0 (K : PySem.W.Frag) (ts : List Addr) (a : Addr) (vs : List Value) (ns : List Int) : Hp := fun b =>
  if b = a then (if (K.lookup a).isSome then none else some (.frz (lstO vs) (.lst (ns.map V.int)))) else if b ∈ ts then some (.tbl #[]) else none
section
variable {P : Program} {w : World} {K : PySem.W.Frag} {mg mb : Str → Option Value} {k : Nat} {fa a : Addr} {cs : List (Addr × Addr)} {x : Str} {sp : Sp} {s1 : Shared} {vs : List Value} {ns : List Int} {ts : List Addr}
theorem H0_cases {b : Addr} {u : HO} (h : H0 K ts a vs ns b = some u) : (b = a ∧ K.lookup a = none ∧ u = .frz (lstO vs) (.lst (ns.map V.int))) ∨ (b ≠ a ∧ b ∈ ts ∧ u = .tbl #[]) := by
  unfold H0 at h
  split at h
  · rename_i e
    split at h
    · cases h
    · rename_i hk
      cases h
      exact .inl ⟨e, by cases q : K.lookup a with | none => rfl | some o => rw [q] at hk; exact absurd rfl hk, rfl⟩
  · rename_i e
    split at h
    · rename_i hb
      cases h
      exact .inr ⟨e, hb, rfl⟩
    · cases h
theorem H0_tab {b : Addr} (h1 : b ≠ a) (h2 : b ∈ ts) : H0 K ts a vs ns b = some (.tbl #[]) := by
  unfold H0
  rw [if_neg h1, if_pos h2]
theorem H0_scr (h : K.lookup a = none) : H0 K ts a vs ns a = some (.frz (lstO vs) (.lst (ns.map V.int))) := by
  unfold H0
  rw [if_pos rfl, h]
  rfl
theorem law_end (KX : K.In s1.heap) (hns : s1.heap.Ns mainGlobals mg) (hb : s1.heap.Ns builtinsNs mb) (hbb : ∀ x : Str, x ≠ "__name__" → mb x = bootBuiltins x) (hlim : s1.heap.NoLimit) (hg : s1.gens = #[])
    (hT : ∀ p ∈ cs, s1.heap.get? p.2 = some tabO) (nT : ∀ p ∈ cs, K.lookup p.2 = none) (C : ∀ p ∈ cs, PySem.W.CodeHd s1.heap p.1 p.2)
    (hbm : ∃ (bm : Addr) (ob : Obj), mg "__builtins__" = some (.ref bm) ∧ bm ≠ builtinsNs ∧ s1.heap.get? bm = some ob ∧ ob.cls = .type "module" ∧ ob.dict = some builtinsNs ∧ ob.data = .plain)
    (ha : s1.heap.get? a = some (lstO vs)) (hi : IntsAre vs ns) (hl : ns.length ≤ sizeLine) (hr : Room k callerA)
    (F : ∀ base : Heap, K.In base → base.Ns mainGlobals mg → (∀ p ∈ cs, TabB base mg p.1 p.2) → ∃ fd, FnG P w K mg base k fa fd [x] sp ∧ BindsTo s1 fd ⟨[.ref a], []⟩ [(x, .ref a)])
    (hsp : sp [.ref a] (H0 K (cs.map (·.2)) a vs ns) (fun v _ => v = .bl true) fun _ _ _ => False) :
    codeAny (model P w) callerA (.call (.ref fa) ⟨[.ref a], []⟩) (fun r s' => r = .ok (.ret (.bool true)) ∧ OldK s1.heap s'.heap ∧ s'.os = s1.os ∧ AllBare s'.gens) s1 := by
  generalize eH : H0 K (cs.map (·.2)) a vs ns = H at hsp
  have rv := vals_ints hi
  have tabAt : ∀ {b : Addr}, b ∈ cs.map (·.2) → s1.heap.get? b = some tabO := fun {b} m => by
    obtain ⟨p, hp, rfl⟩ := List.mem_map.mp m
    exact hT p hp
  have tabNe : ∀ {b : Addr}, b ∈ cs.map (·.2) → b ≠ a := fun {b} m z => by
    have q := tabAt m
    rw [z, ha] at q
    cases q
  have cases_ : ∀ {b : Addr} {u : HO}, H b = some u → (b = a ∧ K.lookup a = none ∧ u = .frz (lstO vs) (.lst (ns.map V.int))) ∨ (b ≠ a ∧ b ∈ cs.map (·.2) ∧ u = .tbl #[]) := fun {b u} h => H0_cases (by rw [eH]; exact h)
  have free_ : ∀ {b : Addr} {o : Obj}, s1.heap.get? b = some o → (∀ us n, o.data ≠ .seq us n) → o.data ≠ .fields #[] → H b = none := fun {b o} e h1 h2 => by
    cases q : H b with
    | none => rfl
    | some u =>
      rcases cases_ q with ⟨z, _, _⟩ | ⟨_, z, _⟩
      · rw [z, ha] at e
        cases e
        exact (h1 _ _ rfl).elim
      · rw [tabAt z] at e
        cases e
        exact (h2 rfl).elim
  have ok : HOk P w H s1.heap := fun b u q => by
    rcases cases_ q with ⟨z, _, e⟩ | ⟨_, z, e⟩
    · subst z; subst e
      exact ⟨ha, by rw [List.length_map]; exact hl, vs, _, rv, ha⟩
    · subst e
      exact tabAt z
  have seen : ∀ {b : Addr} {o : Obj}, s1.heap.get? b = some o → H b = none → (hidT s1.heap H).get? b = some o := fun e n => hidT_get e n
  have nsIn' : ∀ {b : Addr} {m : Str → Option Value}, s1.heap.Ns b m → (hidT s1.heap H).Ns b m := fun {b m} ⟨o, es, ep, e, d, r⟩ =>
    ⟨o, es, ep, seen e (free_ e (fun us n z => by rw [d] at z; cases z) (fun z => by rw [d] at z; cases z)), d, r⟩
  have hK : K.In (hidT s1.heap H) := fun b o e => seen (KX b o e) (by
    cases q : H b with
    | none => rfl
    | some u =>
      rcases cases_ q with ⟨z, n, _⟩ | ⟨_, z, _⟩
      · rw [z, n] at e; cases e
      · obtain ⟨p, hp, rfl⟩ := List.mem_map.mp z
        rw [nT p hp] at e; cases e)
  have hM : L2.Mod K mg (hidT s1.heap H) := ⟨hK, nsIn' hns, ⟨mb, nsIn' hb, hbb⟩, by obtain ⟨mc, h1, h2⟩ := hlim; exact ⟨mc, nsIn' h1, h2⟩⟩
  obtain ⟨bm, ob, b1, b2, b3, b4, b5, b6⟩ := hbm
  have TB : ∀ p ∈ cs, TabB (hidT s1.heap H) mg p.1 p.2 := fun p hp => by
    refine ⟨?_, ⟨bm, ob, b1, b2, fun z => ?_, fun z => ?_, seen b3 (free_ b3 (fun us n z => by rw [b6] at z; cases z) (fun z => by rw [b6] at z; cases z)), b4, b5, b6⟩, fun z => ?_⟩
    · obtain ⟨o, us, fl, t1, fg, t2, iF, tx, t3, e1, r1, r2, r3, rest⟩ := C p hp
      refine ⟨o, us, fl, t1, fg, t2, iF, tx, t3, seen e1 (free_ e1 (fun us n z => by rw [r2] at z; cases z) fun z => ?_), r1, r2, r3, rest⟩
      rw [r2] at z
      cases z
      simp at r3
    · obtain ⟨o, es, ep, e, d, _⟩ := hns
      rw [z, e] at b3
      cases b3
      rw [d] at b6; cases b6
    · rw [z, hT p hp] at b3
      cases b3
      cases b6
    · obtain ⟨o, es, ep, e, d, _⟩ := hns
      rw [z, hT p hp] at e
      cases e
      cases d
  have e0 : Env0 P w K mg (hidT s1.heap H) callerA [] s1 H := ⟨rfl, hM, fun b o e => of_hidT e, Nat.le_of_eq (hidT_size _ _), trivial, fun b hb => (nomatch (show b ∈ ([] : List Addr) from hb)), ok, .of_eq hg⟩
  obtain ⟨fd, hF, hbd⟩ := F _ hK (nsIn' hns) TB
  refine codeAny_mono (hF.run callerA [] s1 H ⟨[.ref a], []⟩ [.ref a] [.ref a] _ _ hr rfl e0 hbd (.cons rfl .nil) rfl hsp) fun r s' q => ?_
  match r, q with
  | .error e, q =>
    obtain ⟨_, _, _, _, _, _, _, _, _, _, _, _, z⟩ := q
    exact z.elim
  | .ok .next, q => exact False.elim q
  | .ok .brk, q => exact False.elim q
  | .ok .cont, q => exact False.elim q
  | .ok (.ret u), q =>
    obtain ⟨v, H', os, bare, un, hok', r', q⟩ := q
    have q : v = .bl true := q
    subst q
    obtain rfl : u = Value.bool true := r'
    have grown : ∀ {b : Addr}, b ∈ cs.map (·.2) → ∃ more : Array Value, s'.heap.get? b = some { cls := .none, data := .fields more } := fun {b} m => by
      obtain ⟨more, z⟩ := un.tbls b #[] (by rw [← eH]; exact H0_tab (tabNe m) m)
      exact ⟨_, hok' b _ z⟩
    have kept : ∀ {b : Addr} {o : Obj}, b ∉ cs.map (·.2) → s1.heap.get? b = some o → s'.heap.get? b = some o := fun {b o} nb e => by
      cases q : H b with
      | none => exact un.keep b o e q (fun z => (nomatch (show b ∈ ([] : List Addr) from z))) (by simp)
      | some u =>
        rcases cases_ q with ⟨z, _, eu⟩ | ⟨_, z, _⟩
        · subst eu
          obtain ⟨y, _⟩ := hok' b _ (un.frzs b _ _ q)
          rw [z, ha] at e
          cases e
          exact y
        · exact absurd z nb
    refine ⟨rfl, ⟨fun b o e => ?_, fun b o e => ?_⟩, os, bare⟩
    · by_cases m : b ∈ cs.map (·.2)
      · obtain ⟨more, hm⟩ := grown m
        obtain ⟨p, hp, rfl⟩ := List.mem_map.mp m
        rw [hT p hp] at e
        cases e
        exact .inr (.inl ⟨((C p hp).tab (hT p hp)).isCodeTable, rfl, #[], more, rfl, by rw [Array.empty_append]; exact hm⟩)
      · exact .inl (kept m e)
    · by_cases m : b ∈ cs.map (·.2)
      · obtain ⟨more, hm⟩ := grown m
        exact ⟨_, hm⟩
      · exact ⟨o, kept m e⟩
end
end SH

set_option Elab.async false
set_option linter.all false
set_option autoImplicit false
set_option maxRecDepth 100000
set_option maxHeartbeats 4000000
/-! a whole law by its rows -/
namespace SH
open PySem PySem.Spec PyProof.Rows L2 LamX
inductive RK where
  | plain | lam | same | off
/-- a def: its text, compiled -/
structure Row where
  d : He.DefD
  k : RK
  n : Nat
  m : List MS
def Row.fi (r : Row) : FnI := ⟨r.d.name, r.d.params.args.map (·.arg), (cDs r.d.dfl).getD []⟩
def lamMean (n : Nat) (m : List MS) : Mean := fun Φ ds g => if Φ.lev < 2 then .bad else meanOf n m Φ ds g
def Row.mean (r : Row) : Mean := match r.k with
  | .plain => meanOf r.n r.m
  | .lam => lamMean r.n r.m
  | .same => sameMean
  | .off => fun _ _ _ => .bad
def isLam : RK → Bool
  | .lam => true
  | _ => false
/-- what the text alone tells of a row -/
def Row.ok (r : Row) : Bool := decide (r.d.at_ = (r.d.name, none)) && (cDs r.d.dfl).isSome && simpleP r.d.params (r.d.params.args.map (·.arg)) && scopeB (namesOf r.d.params r.d.body r.d.scope) (r.d.params.args.map (·.arg)) r.d.scope
/-- its text is what the compiler makes -/
def Row.is (L : Lib) (r : Row) : Prop := match r.k with
  | .plain => CompIs L false r.d r.n r.m
  | .lam => CompIs L true r.d r.n r.m
  | .same => CompIs L false r.d 2 sameText
  | .off => True
/-- a def that gets a callable -/
structure SRow where
  r : Row
  p : Str
def SRow.ok (s : SRow) : Bool := decide (s.r.d.at_ = (s.r.d.name, none)) && s.r.d.dfl.isEmpty && simpleP s.r.d.params [s.p] && scopeB (namesOf s.r.d.params s.r.d.body s.r.d.scope) [s.p] s.r.d.scope
def saysOf : Nat → List SRow → List (Str × Nat)
  | _, [] => []
  | i, s :: l => (s.r.d.name, i) :: saysOf (i + 1) l
theorem saysOf_mem : ∀ {l : List SRow} {i : Nat} {x : Str} {z : Nat}, (x, z) ∈ saysOf i l → ∃ s, l[z - i]? = some s ∧ i ≤ z ∧ z < i + l.length ∧ x = s.r.d.name
  | [], _, _, _, h => by cases h
  | s :: l, i, x, z, h => by
    rcases List.mem_cons.mp h with e | h
    · cases e
      exact ⟨s, by simp, Nat.le_refl _, by simp, rfl⟩
    · obtain ⟨s', h1, h2, h3, h4⟩ := saysOf_mem h
      refine ⟨s', ?_, by omega, by simp only [List.length_cons]; omega, h4⟩
      rw [show z - i = (z - (i + 1)) + 1 by omega, List.getElem?_cons_succ]
      exact h1
/-- a def that gets the error that is handled -/
abbrev Lib.noHot (L : Lib) : Lib := { L with hots := [] }
def HotIs (L : Lib) (d : He.DefD) (p : Str) (n : Nat) (m : List MS) : Prop := ∃ q, compSs (namesOf d.params d.body d.scope) (L.noHot.hot p) 80 d.scope (cellNames d.scope) (ownS 60 d.body) d.body = some q ∧ q.1 = m ∧ n = (namesOf d.params d.body d.scope).length
def hotsOf (hrows : List SRow) : List (Str × (Exc → G → Res D)) := hrows.map fun s => (s.r.d.name, hotOf s.r.n s.r.m)
theorem hotP_is {P : Program} {w : World} {K : PySem.W.Frag} {mg : Str → Option Value} {base : Heap} {T : Tg} {L : Lib} {p : Str} {d : He.DefD} {fd : FuncData} {n : Nat} {x : Str} {m : List MS} (hL : LibOk P w K mg base T L.noHot) (FD : FunD K d.name d.qual d.params d.body d.scope (d.dvs K) (d.kws K) (He.fAd K d.at_) fd) (hm : mg x = some (.ref (He.fAd K d.at_))) (hd : d.dfl = []) (hp : simpleP d.params [p] = true)
    (hs : scopeB (namesOf d.params d.body d.scope) [p] d.scope = true) (hc : HotIs L d p n m) : HotP P w K mg base x (hotOf n m) := by
  obtain ⟨its, hv, hb⟩ := binds_gen FD hp
  obtain ⟨⟨m', hq⟩, _, rfl, rfl⟩ := hc
  have hi : its = [] := by
    have : d.dvs K = [] := by unfold He.DefD.dvs; rw [hd]; rfl
    rw [this] at hv
    cases hv; rfl
  subst hi
  refine hot_body hL rfl FD hm FD.kp (fun s u KX => hb s [u] [] [u] KX ?_) (scopeB_is hs) hq
  simp [bindP, kwIn, dfIn, List.lookup]
abbrev lamQ (d : He.DefD) : Str := d.qual ++ ".<locals>." ++ "<lambda>"
def lamRows (rows : List Row) : List Row := rows.filter fun r => isLam r.k
def tfOf (rows : List Row) : List He.Defn := (lamRows rows).map (·.d.at_)
def tabsOf (K : PySem.W.Frag) (rows : List Row) : List (Addr × Str) := (lamRows rows).map fun r => ((He.cT K r.d.at_).2, lamQ r.d)
def lawB (fl : Str) (L : Lib) (rows : List Row) (K : PySem.W.Frag) : Bool := libB fl L K && decide ((tfOf rows).map fun p => (He.cT K p).2).Nodup
def lawT (P : Program) (L : Lib) (rows : List Row) (srows : List SRow) : Bool := libT P L && rows.all Row.ok && srows.all SRow.ok && decide (rows.length < 1000000) && decide (srows.length < 1000000) && decide ((tfOf rows).Nodup) && (srows.all fun s => (rows.map (·.d.name)).contains s.r.d.name)
theorem pairwise_get {α : Type} {β : Type} {f : α → β} : ∀ {l : List α}, (l.map f).Nodup → ∀ {a b : α}, a ∈ l → b ∈ l → f a = f b → a = b
  | [], _, a, _, ha, _, _ => by cases ha
  | x :: l, h, a, b, ha, hb, e => by
    rw [List.map_cons, List.nodup_cons] at h
    rcases List.mem_cons.mp ha with rfl | ha
    · rcases List.mem_cons.mp hb with rfl | hb
      · rfl
      · exact absurd (List.mem_map.mpr ⟨b, hb, e.symm⟩) h.1
    · rcases List.mem_cons.mp hb with e' | hb
      · rw [e'] at e
        exact absurd (List.mem_map.mpr ⟨a, ha, e⟩) h.1
      · exact pairwise_get h.2 ha hb e
section
variable {P : Program} {w : World} {K : PySem.W.Frag} {mg : Str → Option Value} {base h : Heap} {L : Lib} {rows : List Row} {srows : List SRow} {fn : List He.DefD}
abbrev Bof (rows : List Row) : List Mean := rows.map Row.mean
abbrev Zof (srows : List SRow) : List HMean := srows.map fun s => hearOf s.r.n s.r.m
/-- all defs keep their meanings -/
theorem rows_all {hrows : List SRow} (hh : L.hots = hotsOf hrows) (hho : ∀ s ∈ hrows, s.ok = true ∧ s.r.d ∈ fn ∧ (rows.map (·.d.name)).contains s.r.d.name = true ∧ HotIs L s.r.d s.p s.r.n s.r.m) (X : K.In h) (Gn : h.Ns mainGlobals mg) (c : SaysS fn (tfOf rows) (lawB P.main.file L rows) h K) (ht : lawT P L rows srows = true) (hf : L.fns = rows.map Row.fi) (hs : L.says = saysOf 0 srows) (hl : L.lam = false) (hfn : ∀ r ∈ rows, r.d ∈ fn) (hfs : ∀ s ∈ srows, s.r.d ∈ fn)
    (hrow : ∀ r ∈ rows, r.is L) (hsay : ∀ s ∈ srows, SayIs L s.r.d s.r.n s.r.m) (TB : ∀ p ∈ tfOf rows, TabB base mg (He.cT K p).1 (He.cT K p).2) (k : Nat) (i : Nat) (r : Row) (hi : rows[i]? = some r) : FnAtP P w K mg base ⟨tabsOf K rows, none, none⟩ (Fn (Bof rows) (Zof srows) k) k i r.fi := by
  have hm := c.more
  unfold lawB at hm
  rw [Bool.and_eq_true] at hm
  obtain ⟨hlib, hnd⟩ := hm
  have hnd := of_decide_eq_true hnd
  unfold lawT at ht
  simp only [Bool.and_eq_true, List.all_eq_true, decide_eq_true_eq] at ht
  obtain ⟨⟨⟨⟨⟨⟨t1, t2⟩, t3⟩, t4⟩, t5⟩, t6⟩, t7⟩ := ht
  have hrec : ∀ b : Bool, b = false → ({ L with lam := b } : Lib) = L := fun b hb => by subst hb; rw [← hl]
  have nameAt : ∀ r ∈ rows, mg r.d.name = some (.ref (He.ga K r.d.name)) := fun r hr => libB_fn X Gn hlib (f := r.fi) (by rw [hf]; exact List.mem_map.mpr ⟨r, hr, rfl⟩)
  have LO0 : LibOk P w K mg base ⟨tabsOf K rows, none, none⟩ L.noHot := libB_is X Gn t1 rfl rfl hlib (fun x f hx => by cases hx)
  have LO : LibOk P w K mg base ⟨tabsOf K rows, none, none⟩ L := libB_is X Gn t1 rfl rfl hlib (fun x f hx => by
    rw [hh] at hx
    obtain ⟨s, hm, e⟩ := List.mem_map.mp hx
    cases e
    obtain ⟨ok, h2, h3, h4⟩ := hho s hm
    unfold SRow.ok at ok
    simp only [Bool.and_eq_true, decide_eq_true_eq, List.isEmpty_iff] at ok
    obtain ⟨⟨⟨o1, o2⟩, o3⟩, o4⟩ := ok
    obtain ⟨fd, FD⟩ := c.d.defs h2
    obtain ⟨r, hr, e⟩ := List.mem_map.mp (List.contains_iff_mem.mp h3)
    exact hotP_is LO0 FD (by rw [o1, ← e]; exact nameAt r hr) o2 o3 o4 h4)
  have defs : ∀ i fi, L.fns[i]? = some fi → DefOk P w K mg base ⟨tabsOf K rows, none, none⟩ L (Bof rows) (Zof srows) i fi := fun i fi hi => by
    rw [hf, List.getElem?_map] at hi
    cases e : rows[i]? with
    | none => rw [e] at hi; cases hi
    | some r =>
      rw [e] at hi
      cases hi
      have hr : r ∈ rows := List.mem_of_getElem? e
      have hlt : i < 1000000 := Nat.lt_trans (List.getElem?_eq_some_iff.mp e).1 t4
      have ok := t2 r hr
      unfold Row.ok at ok
      simp only [Bool.and_eq_true, decide_eq_true_eq] at ok
      obtain ⟨⟨⟨o1, o2⟩, o3⟩, o4⟩ := ok
      obtain ⟨ds, o2⟩ := Option.isSome_iff_exists.mp o2
      obtain ⟨fd, FD⟩ := c.d.defs (hfn r hr)
      have hmg : mg r.fi.name = some (.ref (He.fAd K r.d.at_)) := by rw [o1]; exact nameAt r hr
      have hdf : cDs r.d.dfl = some r.fi.dfl := by unfold Row.fi; simp only [o2, Option.getD_some]
      have hB : (Bof rows)[i]? = some r.mean := by rw [List.getElem?_map, e]; rfl
      have hcom := hrow r hr
      unfold Row.is at hcom
      cases hk : r.k with
      | plain =>
        rw [hk] at hcom
        refine defOk_says (b := false) LO FD hmg hdf o3 o4 (fun z => by cases z) hcom hlt hB (fun Φ ds g => .inr ?_) (fun z => by cases z)
        unfold Row.mean; rw [hk]
      | same =>
        rw [hk] at hcom
        refine defOk_says (b := false) LO FD hmg hdf o3 o4 (fun z => by cases z) hcom hlt hB (fun Φ ds g => ?_) (fun z => by cases z)
        have e2 : r.mean = sameMean := by unfold Row.mean; rw [hk]
        rw [e2]
        exact sameMean_ok Φ ds g
      | off => exact defOk_bad FD hmg hdf o3 hlt hB fun Φ ds g => by unfold Row.mean; rw [hk]
      | lam =>
        rw [hk] at hcom
        have e2 : r.mean = lamMean r.n r.m := by unfold Row.mean; rw [hk]
        have hrl : r ∈ lamRows rows := List.mem_filter.mpr ⟨hr, by rw [hk]; rfl⟩
        refine defOk_says (b := true) LO FD hmg hdf o3 o4 (fun _ cc hc => ?_) hcom hlt hB (fun Φ ds g => ?_) (fun _ k ds g hk2 => ?_)
        · have hp : r.d.at_ ∈ tfOf rows := List.mem_map.mpr ⟨r, hrl, rfl⟩
          obtain ⟨oc, od, dV, kV, doc, pm, an, cdv, ct, osl, rfl, lk, _, _, _⟩ := FD.ex
          have ec : He.codeOf K r.d.at_ = cc := He.codeOf_eq lk hc
          refine ⟨cc, (He.cT K r.d.at_).2, ?_, rfl, List.mem_map.mpr ⟨r, hrl, rfl⟩, fun p hp2 e3 => ?_⟩
          · have := TB _ hp
            rw [← ec]
            exact this
          · obtain ⟨r', hr', rfl⟩ := List.mem_map.mp hp2
            have hnd' : ((lamRows rows).map fun r => (He.cT K r.d.at_).2).Nodup := by
              have := hnd
              unfold tfOf at this
              rwa [List.map_map] at this
            rw [pairwise_get hnd' hr' hrl e3]
        · rw [e2]
          unfold lamMean
          split
          · exact .inl rfl
          · exact .inr rfl
        · rw [e2]
          unfold lamMean
          rw [Fn_lev, if_pos hk2]
  have says : ∀ x z, (x, z) ∈ L.says → SayOk P w K mg base ⟨tabsOf K rows, none, none⟩ L (Bof rows) (Zof srows) x z := fun x z hx => by
    rw [hs] at hx
    obtain ⟨s, h1, h2, h3, rfl⟩ := saysOf_mem hx
    have hm : s ∈ srows := List.mem_of_getElem? h1
    have ok := t3 s hm
    unfold SRow.ok at ok
    simp only [Bool.and_eq_true, decide_eq_true_eq, List.isEmpty_iff] at ok
    obtain ⟨⟨⟨o1, o2⟩, o3⟩, o4⟩ := ok
    obtain ⟨fd, FD⟩ := c.d.defs (hfs s hm)
    have hnm : ∃ r ∈ rows, r.d.name = s.r.d.name := by
      have := t7 s hm
      obtain ⟨r, hr, e⟩ := List.mem_map.mp (List.contains_iff_mem.mp this)
      exact ⟨r, hr, e⟩
    obtain ⟨r, hr, e⟩ := hnm
    refine sayOk_says LO FD (by rw [o1, ← e]; exact nameAt r hr) o2 o3 o4 (hsay s hm) (by omega) (h' := hearOf s.r.n s.r.m) ?_ fun Φ t g => .inr rfl
    rw [List.getElem?_map]
    rw [Nat.sub_zero] at h1
    rw [h1]
    rfl
  exact (assemble2 defs says k).1 k (Nat.le_refl _) i r.fi (by rw [hf, List.getElem?_map, hi]; rfl)
end
/-- the law -/
theorem law_finalH {hrows : List SRow} {l : PySem.W.OpenLaw} {n k i : Nat} {q : Program} {loose : List Str} {XP : (Str → Option Value) → Heap → Prop} {d : DefRec} {x : Str} {L : Lib} {rows : List Row} {srows : List SRow} {fn : List He.DefD} {r : Row} {nd : Nat}
    (hh : L.hots = hotsOf hrows) (hho : ∀ s ∈ hrows, s.ok = true ∧ s.r.d ∈ fn ∧ (rows.map (·.d.name)).contains s.r.d.name = true ∧ HotIs L s.r.d s.p s.r.n s.r.m) (hn : l.most = some n) (hn2 : n ≤ sizeLine) (hdf : d.params.defaults = []) (hr : Room k callerA) (ht : lawT l.prog L rows srows = true) (hf : L.fns = rows.map Row.fi) (hs : L.says = saysOf 0 srows) (hl : L.lam = false) (hfn : ∀ r ∈ rows, r.d ∈ fn) (hfs : ∀ s ∈ srows, s.r.d ∈ fn)
    (hrow : ∀ r ∈ rows, r.is L) (hsay : ∀ s ∈ srows, SayIs L s.r.d s.r.n s.r.m) (hi : rows[i]? = some r) (hname : r.d.name = d.name) (hpar : r.d.params.args.map (·.arg) = [x]) (hdfl : r.d.dfl = [])
    (hval : ∀ ns : List Int, ns.length ≤ n → (∀ z ∈ ns, Builtin.Int.intBits z ≤ 1048576) → ∃ g, Fn (Bof rows) (Zof srows) k i [.scr ns] [] = .ok (.bl true) g) :
    PySem.W.WalkO q loose XP (hookS nd fn (tfOf rows) (lawB l.prog.main.file L rows)).says l.row.toRowW d [] (fun f vs => PySem.call f vs) := by
  refine Att.attach_callB hn hdf fun w s₀ s1 mg mb fa o pm cd doc a vs ns Gr Y ho hd hcd hmg hobj hints hlen hbits hg => ?_
  obtain ⟨K, KX, c⟩ := Y
  have Gn := Gr.T.g
  obtain ⟨fd, FD⟩ := c.d.defs (hfn r (List.mem_of_getElem? hi))
  have ht' := ht
  unfold lawT at ht'
  simp only [Bool.and_eq_true, List.all_eq_true, decide_eq_true_eq] at ht'
  have ok := ht'.1.1.1.1.1.2 r (List.mem_of_getElem? hi)
  unfold Row.ok at ok
  simp only [Bool.and_eq_true, decide_eq_true_eq] at ok
  obtain ⟨⟨⟨o1, o2⟩, o3⟩, o4⟩ := ok
  have hm := c.more
  unfold lawB at hm
  rw [Bool.and_eq_true] at hm
  have hga := libB_fn KX Gn hm.1 (f := r.fi) (by rw [hf]; exact List.mem_map.mpr ⟨r, List.mem_of_getElem? hi, rfl⟩)
  obtain rfl : fa = He.ga K r.d.name := by
    have : mg r.d.name = some (.ref fa) := by rw [hname]; exact hmg
    rw [show mg r.d.name = _ from hga] at this
    cases this; rfl
  let cs := (tfOf rows).map (He.cT K)
  -- every base gives the same function
  have at_ : ∀ base : Heap, K.In base → base.Ns mainGlobals mg → (∀ p ∈ cs, TabB base mg p.1 p.2) → FnAtP l.prog w K mg base ⟨tabsOf K rows, none, none⟩ (Fn (Bof rows) (Zof srows) k) k i r.fi := fun base hK hN TB =>
    rows_all hh hho KX Gn c ht hf hs hl hfn hfs hrow hsay (fun p hp => TB _ (List.mem_map.mpr ⟨p, hp, rfl⟩)) k i r hi
  refine law_end (sp := spD K mg ⟨tabsOf K rows, none, none⟩ (Fn (Bof rows) (Zof srows) k) 1 i) (x := x) (cs := cs) KX Gn Gr.T.b Gr.T.builtins Gr.T.nolimit hg (fun p hp => ?_) (fun p hp => ?_) (fun p hp => ?_) Gr.T.bmain hobj hints (Nat.le_trans hlen hn2) hr (fun base hK hN TB => ?_) ?_
  · obtain ⟨p', hp', rfl⟩ := List.mem_map.mp hp
    exact c.empty p' hp'
  · obtain ⟨p', hp', rfl⟩ := List.mem_map.mp hp
    exact c.out p' hp'
  · obtain ⟨p', hp', rfl⟩ := List.mem_map.mp hp
    exact PySem.W.codeHd_of_K KX (c.hd p' hp')
  · obtain ⟨f', fd', dvs, its, h1, h2, h3, h4, h5, h6⟩ := (at_ base hK hN TB).at_
    have ef : f' = He.ga K r.d.name := by
      have h1 : mg r.d.name = some (.ref f') := h1
      rw [show mg r.d.name = _ from hga] at h1
      cases h1; rfl
    subst ef
    have hps : r.fi.ps = [x] := hpar
    rw [hps] at h3 h6
    have hi0 : its = [] := by
      have e1 := h4.length
      have e2 := (h5 [] (fun _ => none)).length
      have e3 : r.fi.dfl = [] := by unfold Row.fi; simp only [hdfl, cDs, Option.getD_some]
      rw [e3] at e2
      rw [e2] at e1
      exact List.length_eq_zero_iff.mp e1.symm
    subst hi0
    exact ⟨fd', h3, h6 s1 [.ref a] [] [.ref a] KX (by simp [bindP, kwIn, dfIn, List.lookup])⟩
  · obtain ⟨g', hg'⟩ := hval ns hlen hbits
    have tne : ∀ b, b ∈ cs.map (·.2) → b ≠ a := fun b m z => by
      obtain ⟨p, hp, rfl⟩ := List.mem_map.mp m
      obtain ⟨p', hp', rfl⟩ := List.mem_map.mp hp
      have := c.empty p' hp'
      rw [z, hobj] at this
      cases this
    refine ⟨fun b => if b = a then H0 K (cs.map (·.2)) a vs ns a else none, [], [], [.scr ns], ⟨fun b u q => ?_, fun b u q ps z => ?_, List.nodup_nil, fun b hb => (nomatch hb), .nil, fun p hp => ?_, fun b ps q => ?_, fun b hb => by cases hb⟩, .cons (.scr ?_) .nil, rfl, ?_⟩
    · split at q
      · rename_i e; rw [e]; exact q
      · cases q
    · split at q
      · rcases H0_cases q with ⟨_, _, e⟩ | ⟨e, _, _⟩
        · rw [e] at z; cases z
        · exact e rfl
      · cases q
    · obtain ⟨r', hr', rfl⟩ := List.mem_map.mp hp
      have hp' : r'.d.at_ ∈ tfOf rows := List.mem_map.mpr ⟨r', hr', rfl⟩
      have hm' : (He.cT K r'.d.at_).2 ∈ cs.map (·.2) := List.mem_map.mpr ⟨_, List.mem_map.mpr ⟨_, hp', rfl⟩, rfl⟩
      exact ⟨#[], H0_tab (tne _ hm') hm', trivial, fun pos cv z => by cases z⟩
    · rcases H0_cases q with ⟨_, _, e⟩ | ⟨_, hb, _⟩
      · cases e
      · obtain ⟨p, hp, rfl⟩ := List.mem_map.mp hb
        obtain ⟨p', hp', rfl⟩ := List.mem_map.mp hp
        obtain ⟨r', hr', rfl⟩ := List.mem_map.mp hp'
        exact ⟨lamQ r'.d, List.mem_map.mpr ⟨r', hr', rfl⟩⟩
    · cases hk : K.lookup a with
      | none => exact .inl (.inr ⟨_, (if_pos rfl).trans (H0_scr hk)⟩)
      | some o =>
        have e := KX a o hk
        rw [hobj] at e
        cases e
        exact .inr ⟨_, vs.toArray, _, hk, rfl, rfl, rfl, by rw [List.size_toArray, hints.length]; exact Nat.le_trans hlen hn2, by simpa using vals_ints hints⟩
    · rw [hg']
      intro v F' μ' H' y r
      cases r
      rfl
theorem law_final {l : PySem.W.OpenLaw} {n k i : Nat} {q : Program} {loose : List Str} {XP : (Str → Option Value) → Heap → Prop} {d : DefRec} {x : Str} {L : Lib} {rows : List Row} {srows : List SRow} {fn : List He.DefD} {r : Row} {nd : Nat}
    (hn : l.most = some n) (hn2 : n ≤ sizeLine) (hdf : d.params.defaults = []) (hr : Room k callerA) (ht : lawT l.prog L rows srows = true) (hf : L.fns = rows.map Row.fi) (hs : L.says = saysOf 0 srows) (hl : L.lam = false) (hfn : ∀ r ∈ rows, r.d ∈ fn) (hfs : ∀ s ∈ srows, s.r.d ∈ fn)
    (hrow : ∀ r ∈ rows, r.is L) (hsay : ∀ s ∈ srows, SayIs L s.r.d s.r.n s.r.m) (hi : rows[i]? = some r) (hname : r.d.name = d.name) (hpar : r.d.params.args.map (·.arg) = [x]) (hdfl : r.d.dfl = [])
    (hval : ∀ ns : List Int, ns.length ≤ n → (∀ z ∈ ns, Builtin.Int.intBits z ≤ 1048576) → ∃ g, Fn (Bof rows) (Zof srows) k i [.scr ns] [] = .ok (.bl true) g) (hh : L.hots = [] := by rfl) :
    PySem.W.WalkO q loose XP (hookS nd fn (tfOf rows) (lawB l.prog.main.file L rows)).says l.row.toRowW d [] (fun f vs => PySem.call f vs) :=
  law_finalH (hrows := []) hh (fun s h => by cases h) hn hn2 hdf hr ht hf hs hl hfn hfs hrow hsay hi hname hpar hdfl hval
end SH

set_option Elab.async false
set_option linter.all false
set_option autoImplicit false
set_option maxRecDepth 100000
set_option maxHeartbeats 4000000
/-! single steps of the evaluator -/
namespace SH
open PySem PySem.Spec PyProof.Rows L2 LamX
section
variable {Φ : Fns} {S : Sl} {g : G}
theorem ok_bind {α β : Type} {a : α} {f : α → G → Res β} : (Res.ok a g).bind f = f a g := rfl
theorem exc_bind' {α β : Type} {x : Exc} {f : α → G → Res β} : (Res.exc x g : Res α).bind f = .exc x g := rfl
theorem lift_some {α : Type} {a : α} : lift (some a) g = .ok a g := rfl
theorem thenS_ok {α : Type} {a : α} {f : α → G → SR} : thenS (.ok a g) S f = f a g := rfl
theorem thenS_exc {α : Type} {x : Exc} {f : α → G → SR} : thenS (.exc x g : Res α) S f = .exc x S g := rfl
theorem ev_slot {i : Nat} : ev Φ (.slot i) S g = lift (getSl S i) g := rfl
theorem ev_lit {d : D} : ev Φ (.lit d) S g = .ok d g := rfl
theorem ev_tup {es : List ME} : ev Φ (.tup es) S g = (evs Φ es S g).bind fun l g => .ok (.tup l) g := rfl
theorem ev_lst {es : List ME} : ev Φ (.lst es) S g = (evs Φ es S g).bind fun l g => .ok (.lst l) g := rfl
theorem ev_bin {o : BOp} {a b : ME} : ev Φ (.bin o a b) S g = (ev Φ a S g).bind fun x g => (ev Φ b S g).bind fun y g => lift (bin o x y) g := rfl
theorem ev_cmp {o : COp} {a b : ME} : ev Φ (.cmp o a b) S g = (ev Φ a S g).bind fun x g => (ev Φ b S g).bind fun y g => (lift (cmp o x y) g).bind fun b g => .ok (.bl b) g := rfl
theorem ev_bi {b : BI} {es : List ME} : ev Φ (.bi b es) S g = (evs Φ es S g).bind fun l g => lift (bi b l) g := rfl
theorem ev_idx {a b : ME} : ev Φ (.idx a b) S g = (ev Φ a S g).bind fun x g => (ev Φ b S g).bind fun y g => lift (idx x y) g := rfl
theorem ev_mkD {ks : List Key} {es : List ME} : ev Φ (.mkD ks es) S g = (evs Φ es S g).bind fun l g => .ok (.ptr g.length) (g ++ [.dict (dMerge [] (ks.zip l))]) := rfl
theorem ev_getK {a : ME} {k : Key} : ev Φ (.getK a k) S g = (ev Φ a S g).bind fun x g => match x with
    | .ptr p => (match g[p]? with
      | some (.dict kvs) => lift (dGet kvs k) g
      | none => .bad)
    | _ => .bad := rfl
theorem ev_ite {c a b : ME} : ev Φ (.ite c a b) S g = (ev Φ c S g).bind fun x g => match truth x with
    | some true => ev Φ a S g
    | some false => ev Φ b S g
    | none => .bad := rfl
theorem ev_and {a b : ME} : ev Φ (.and_ a b) S g = (ev Φ a S g).bind fun x g => match truth x with
    | some true => ev Φ b S g
    | some false => .ok x g
    | none => .bad := rfl
theorem ev_call {f : Nat} {pat : List (Nat ⊕ D)} {es : List ME} : ev Φ (.call f pat es) S g = (evs Φ es S g).bind fun l g => match pickAll l pat with
    | some ds => Φ f ds g
    | none => .bad := rfl
theorem ev_comp {it : MI} {tg vs : List Nat} {ifs : List ME} {elt : ME} : ev Φ (.comp it tg vs ifs elt) S g = (evi Φ it S g).bind fun l g => (turns tg vs S (fun S g => evt Φ ifs S g) (fun S g => ev Φ elt S g) l [] g).bind fun l g => .ok (.lst l) g := rfl
theorem ev_slice {a : ME} {lo hi : Option ME} : ev Φ (.slice a lo hi) S g = (ev Φ a S g).bind fun x g => (evo Φ lo S g).bind fun l g => (evo Φ hi S g).bind fun h g => lift (slice x l h) g := rfl
theorem ev_not {a : ME} : ev Φ (.not_ a) S g = (ev Φ a S g).bind fun x g => (lift (truth x) g).bind fun b g => .ok (.bl (!b)) g := rfl
theorem evs_nil : evs Φ [] S g = .ok [] g := rfl
theorem evs_cons {e : ME} {es : List ME} : evs Φ (e :: es) S g = (ev Φ e S g).bind fun x g => (evs Φ es S g).bind fun l g => .ok (x :: l) g := rfl
theorem evi_seq {e : ME} : evi Φ (.seq e) S g = (ev Φ e S g).bind fun x g => lift (seqL x) g := rfl
theorem execs_nil : execs Φ [] S g = .next S g := rfl
theorem execs_cons {m : MS} {ms : List MS} : execs Φ (m :: ms) S g = match exec Φ m S g with
    | .next S1 g1 => execs Φ ms S1 g1
    | r => r := rfl
theorem exec_set {tg : List Nat} {e : ME} : exec Φ (.set tg e) S g = thenS (ev Φ e S g) S fun x g => ofO ((putTg tg x S).map fun S1 => .next S1 g) := rfl
theorem exec_par {i j : Nat} {a b : ME} : exec Φ (.par i j a b) S g = thenS (ev Φ a S g) S fun x g => thenS (ev Φ b S g) S fun y g => .next ((S.set i (some (.dat x))).set j (some (.dat y))) g := rfl
theorem exec_expr {e : ME} : exec Φ (.expr e) S g = thenS (ev Φ e S g) S fun _ g => .next S g := rfl
theorem exec_ret {e : ME} : exec Φ (.ret e) S g = thenS (ev Φ e S g) S fun x g => .ret x g := rfl
theorem exec_if {c : ME} {a b : List MS} : exec Φ (.if_ c a b) S g = thenS (evT Φ c S g) S fun x g => match x with
    | true => execs Φ a S g
    | false => execs Φ b S g := rfl
theorem exec_for {it : MI} {tg : List Nat} {body : List MS} : exec Φ (.for_ it tg body) S g = thenS (evi Φ it S g) S fun l g => forL tg (fun S g => execs Φ body S g) l S g := rfl
theorem exec_setK {a : ME} {k : Key} {e : ME} : exec Φ (.setK a k e) S g = thenS (ev Φ e S g) S fun x g => thenS (ev Φ a S g) S fun y g => match y with
    | .ptr p => (match g[p]? with
      | some (.dict kvs) => if kvs.length < 1000 then .next S (g.set p (.dict (dPut kvs k x))) else .bad
      | none => .bad)
    | _ => .bad := rfl
theorem evT_eq {m : ME} : evT Φ m S g = (ev Φ m S g).bind fun x g => lift (truth x) g := rfl
theorem runM_some {m : Mean} {ds : List D} : runM (some m) Φ ds g = m Φ ds g := rfl
/-! ### one behind another -/
theorem execs_next {m : MS} {ms : List MS} {S1 : Sl} {g1 : G} (h : exec Φ m S g = .next S1 g1) : execs Φ (m :: ms) S g = execs Φ ms S1 g1 := by rw [execs_cons, h]
theorem execs_ret {m : MS} {ms : List MS} {d : D} {g1 : G} (h : exec Φ m S g = .ret d g1) : execs Φ (m :: ms) S g = .ret d g1 := by rw [execs_cons, h]
theorem execs_exc {m : MS} {ms : List MS} {x : Exc} {S1 : Sl} {g1 : G} (h : exec Φ m S g = .exc x S1 g1) : execs Φ (m :: ms) S g = .exc x S1 g1 := by rw [execs_cons, h]
theorem exec_ifT {c : ME} {a b : List MS} {x : D} {g1 : G} (h : ev Φ c S g = .ok x g1) (ht : truth x = some true) : exec Φ (.if_ c a b) S g = execs Φ a S g1 := by
  rw [exec_if, evT_eq, h, ok_bind, ht, lift_some, thenS_ok]
theorem exec_ifF {c : ME} {a b : List MS} {x : D} {g1 : G} (h : ev Φ c S g = .ok x g1) (ht : truth x = some false) : exec Φ (.if_ c a b) S g = execs Φ b S g1 := by
  rw [exec_if, evT_eq, h, ok_bind, ht, lift_some, thenS_ok]
theorem exec_set1 {i : Nat} {e : ME} {x : D} {g1 : G} (h : ev Φ e S g = .ok x g1) : exec Φ (.set [i] e) S g = .next (S.set i (some (.dat x))) g1 := by
  rw [exec_set, h, thenS_ok]; rfl
theorem exec_retE {e : ME} {x : D} {g1 : G} (h : ev Φ e S g = .ok x g1) : exec Φ (.ret e) S g = .ret x g1 := by
  rw [exec_ret, h, thenS_ok]
theorem exec_exprE {e : ME} {x : D} {g1 : G} (h : ev Φ e S g = .ok x g1) : exec Φ (.expr e) S g = .next S g1 := by
  rw [exec_expr, h, thenS_ok]
theorem exec_parE {i j : Nat} {a b : ME} {x y : D} {g1 g2 : G} (h : ev Φ a S g = .ok x g1) (h2 : ev Φ b S g1 = .ok y g2) : exec Φ (.par i j a b) S g = .next ((S.set i (some (.dat x))).set j (some (.dat y))) g2 := by
  rw [exec_par, h, thenS_ok, h2, thenS_ok]
theorem run_ret {n : Nat} {mb : List MS} {ds : List D} {d : D} {g1 : G} (h : execs Φ mb (startS n ds) g = .ret d g1) : meanOf n mb Φ ds g = .ok d g1 := by
  unfold meanOf runBody; rw [h]
theorem run_next {n : Nat} {mb : List MS} {ds : List D} {S1 : Sl} {g1 : G} (h : execs Φ mb (startS n ds) g = .next S1 g1) : meanOf n mb Φ ds g = .ok .non g1 := by
  unfold meanOf runBody; rw [h]
theorem run_exc {n : Nat} {mb : List MS} {ds : List D} {x : Exc} {S1 : Sl} {g1 : G} (h : execs Φ mb (startS n ds) g = .exc x S1 g1) : meanOf n mb Φ ds g = .exc x g1 := by
  unfold meanOf runBody; rw [h]
theorem e_gt {a b : ME} {g1 g2 : G} {i j : Int} (ha : ev Φ a S g = .ok (.int i) g1) (hb : ev Φ b S g1 = .ok (.int j) g2) : ev Φ (.cmp .gt a b) S g = .ok (.bl (decide (j < i))) g2 := by rw [ev_cmp, ha, ok_bind, hb, ok_bind]; rfl
theorem e_ge {a b : ME} {g1 g2 : G} {i j : Int} (ha : ev Φ a S g = .ok (.int i) g1) (hb : ev Φ b S g1 = .ok (.int j) g2) : ev Φ (.cmp .ge a b) S g = .ok (.bl (decide (j ≤ i))) g2 := by rw [ev_cmp, ha, ok_bind, hb, ok_bind]; rfl
theorem e_lt {a b : ME} {g1 g2 : G} {i j : Int} (ha : ev Φ a S g = .ok (.int i) g1) (hb : ev Φ b S g1 = .ok (.int j) g2) : ev Φ (.cmp .lt a b) S g = .ok (.bl (decide (i < j))) g2 := by rw [ev_cmp, ha, ok_bind, hb, ok_bind]; rfl
end
end SH

set_option Elab.async false
set_option linter.all false
set_option autoImplicit false
set_option maxRecDepth 100000
set_option maxHeartbeats 4000000
/-! the laws' own draws: what is told lies below, whatever the script is -/
namespace SH
open PySem PySem.Spec PyProof.Rows L2 LamX
/-- the feed: cells, spot, left, drawn -/
abbrev feedD (kc ks kl kd : Str) (c : List Int) (s l d : Int) : MObj := .dict [(Sum.inr kc, .lst (c.map .int)), (Sum.inr ks, .int s), (Sum.inr kl, .int l), (Sum.inr kd, .int d)]
def feedT (kc ks kl kd : Str) : List MS := [(.ret (.mkD [(Sum.inr kc), (Sum.inr ks), (Sum.inr kl), (Sum.inr kd)] [(.comp (.seq (.slice (.slot 0) none (some (.lit (.int 63))))) [2] [1, 2] [] (.bi .int [(.slot 2)])), (.lit (.int 0)), (.lit (.int 0)), (.lit (.int 0))]))]
def drawT (kc ks kl kd : Str) (c0 m1 a1 b1 n1 a2 b2 n2 a3 n3 : Int) : List MS := [(.setK (.slot 0) (Sum.inr kd) (.bin .add (.getK (.slot 0) (Sum.inr kd)) (.lit (.int 1)))), (.if_ (.cmp .gt (.getK (.slot 0) (Sum.inr kl)) (.lit (.int 0))) [(.set [2] (.bin .mod (.bi .int [(.getK (.slot 0) (Sum.inr kl))]) (.slot 1))), (.setK (.slot 0) (Sum.inr kl) (.bin .fdiv (.getK (.slot 0) (Sum.inr kl)) (.slot 1))), (.ret (.slot 2))] []), (.par 3 4 (.getK (.slot 0) (Sum.inr ks)) (.getK (.slot 0) (Sum.inr kc))), (.setK (.slot 0) (Sum.inr ks) (.bin .add (.slot 3) (.lit (.int 1)))), (.set [5] (.ite (.cmp .ne (.slot 4) (.lst [])) (.idx (.slot 4) (.bin .mod (.bi .int [(.slot 3)]) (.bi .len [(.slot 4)]))) (.lit (.int c0)))), (.if_ (.and_ (.cmp .ge (.slot 5) (.bin .pow (.lit (.int 10)) (.lit (.int 18)))) (.cmp .lt (.slot 3) (.bi .len [(.slot 4)]))) [(.setK (.slot 0) (Sum.inr kl) (.bin .fdiv (.slot 5) (.slot 1))), (.ret (.bin .mod (.bi .int [(.slot 5)]) (.slot 1)))] []), (.set [6] (.bin .mod (.bi .int [(.bin .add (.bin .add (.bin .mod (.bi .int [(.slot 5)]) (.lit (.int m1))) (.bin .mul (.lit (.int a1)) (.getK (.slot 0) (Sum.inr kd)))) (.lit (.int b1)))]) (.lit (.int n1)))), (.set [6] (.bin .mod (.bi .int [(.bin .add (.bin .add (.bin .mul (.slot 6) (.slot 6)) (.bin .mul (.lit (.int a2)) (.getK (.slot 0) (Sum.inr kd)))) (.lit (.int b2)))]) (.lit (.int n2)))), (.ret (.bin .mod (.bi .int [(.bin .fdiv (.bin .mod (.bi .int [(.bin .add (.bin .mul (.slot 6) (.slot 6)) (.bin .mul (.lit (.int a3)) (.slot 6)))]) (.lit (.int n3))) (.lit (.int 16)))]) (.slot 1)))]
theorem plains_ints : ∀ c : List Int, D.plains (c.map .int) = true
  | [] => rfl
  | i :: c => by
    rw [List.map_cons, D.plains]
    rw [plains_ints c]; rfl
theorem eqvs_nil (c : List Int) : D.eqvs (c.map .int) [] = c.isEmpty := by
  cases c <;> rfl
theorem depths_ints : ∀ c : List Int, D.depths (c.map .int) = 0
  | [] => rfl
  | i :: c => by
    rw [List.map_cons, D.depths, depths_ints c]; rfl
theorem ne_nil_ints (c : List Int) : cmp .ne (.lst (c.map .int)) (.lst []) = some (!c.isEmpty) := by
  unfold cmp
  simp only [D.plain, plains_ints, D.plains, D.depth, depths_ints, D.eqv, eqvs_nil]
  rfl
/-- a comprehension whose parts leave the store alone -/
theorem turns_pure {tg vs : List Nat} {S : Sl} {tests : Sl → G → Res Bool} {elt : Sl → G → Res D} {g : G} (p : D → Bool) (f : D → D) : ∀ (l acc : List D), (∀ d ∈ l, ∃ S1, putTg tg d (wipeS S vs) = some S1 ∧ tests S1 g = .ok (p d) g ∧ (p d = true → elt S1 g = .ok (f d) g)) → turns tg vs S tests elt l acc g = .ok (acc.reverse ++ (l.filter p).map f) g
  | [], acc, _ => by simp only [turns, List.filter_nil, List.map_nil, List.append_nil]
  | d :: l, acc, h => by
    obtain ⟨S1, h1, h2, h3⟩ := h d List.mem_cons_self
    have ih := fun acc => turns_pure p f l acc (fun d hd => h d (List.mem_cons_of_mem _ hd))
    unfold turns
    rw [h1]
    simp only
    rw [h2]
    cases hp : p d with
    | true =>
      simp only
      rw [h3 hp]
      simp only
      rw [ih, List.filter_cons, hp]
      simp
    | false =>
      simp only
      rw [ih, List.filter_cons, hp]
      simp
theorem turns_map {tg vs : List Nat} {S : Sl} {tests : Sl → G → Res Bool} {elt : Sl → G → Res D} {g : G} (f : D → D) (l acc : List D) (h : ∀ d ∈ l, ∃ S1, putTg tg d (wipeS S vs) = some S1 ∧ tests S1 g = .ok true g ∧ elt S1 g = .ok (f d) g) : turns tg vs S tests elt l acc g = .ok (acc.reverse ++ l.map f) g := by
  rw [turns_pure (fun _ => true) f l acc fun d hd => by
    obtain ⟨S1, h1, h2, h3⟩ := h d hd
    exact ⟨S1, h1, h2, fun _ => h3⟩]
  rw [List.filter_eq_self.mpr (fun _ _ => rfl)]
theorem take_of_len {ns : List Int} (h : ns.length ≤ 63) : cutD (ns.map D.int) none (some 63) = ns.map .int := by
  unfold cutD
  have e : HT.sIx (ns.map D.int).length 0 none = 0 := rfl
  rw [e, List.drop_zero, Nat.sub_zero]
  refine List.take_of_length_le ?_
  rw [List.length_map]
  unfold HT.sIx
  simp
  omega
theorem feed_ok (kc ks kl kd : Str) (hk : (kc :: ks :: kl :: [kd]).Nodup) (Φ : Fns) {ns : List Int} (h : ns.length ≤ 63) : meanOf 3 (feedT kc ks kl kd) Φ [.scr ns] [] = .ok (.ptr 0) [feedD kc ks kl kd ns 0 0 0] := by
  have ht : turns [2] [1, 2] (startS 3 [.scr ns]) (fun S g => evt Φ [] S g) (fun S g => ev Φ (.bi .int [.slot 2]) S g) (ns.map .int) [] [] = .ok (ns.map .int) [] := by
    rw [turns_map (fun d => d) (ns.map .int) []]
    · simp
    · intro d hd
      obtain ⟨i, _, rfl⟩ := List.mem_map.mp hd
      exact ⟨_, rfl, rfl, rfl⟩
  have he : ev Φ (.comp (.seq (.slice (.slot 0) none (some (.lit (.int 63))))) [2] [1, 2] [] (.bi .int [.slot 2])) (startS 3 [.scr ns]) [] = .ok (.lst (ns.map .int)) [] := by
    have e1 : evi Φ (.seq (.slice (.slot 0) none (some (.lit (.int 63))))) (startS 3 [.scr ns]) [] = .ok (cutD (ns.map .int) none (some 63)) [] := rfl
    rw [take_of_len h] at e1
    rw [ev_comp, e1, ok_bind, ht, ok_bind]
  have hm : dMerge [] [((Sum.inr kc : Key), D.lst (ns.map .int)), (Sum.inr ks, .int 0), (Sum.inr kl, .int 0), (Sum.inr kd, .int 0)] = [(Sum.inr kc, .lst (ns.map .int)), (Sum.inr ks, .int 0), (Sum.inr kl, .int 0), (Sum.inr kd, .int 0)] := by
    simp only [List.nodup_cons, List.mem_cons, List.not_mem_nil, or_false, not_or, List.nodup_nil, and_true, not_false_eq_true] at hk
    obtain ⟨⟨h1, h2, h3⟩, ⟨h4, h5⟩, h6⟩ := hk
    simp [dMerge, dPut, h1, h2, h3, h4, h5, h6, Ne.symm h1]
  unfold meanOf runBody feedT
  rw [execs_cons, exec_ret, ev_mkD, evs_cons, he]
  show Res.ok (D.ptr 0) [MObj.dict (dMerge [] [((Sum.inr kc : Key), D.lst (ns.map .int)), (Sum.inr ks, .int 0), (Sum.inr kl, .int 0), (Sum.inr kd, .int 0)])] = _
  rw [hm]
end SH

set_option Elab.async false
set_option linter.all false
set_option autoImplicit false
set_option maxRecDepth 100000
set_option maxHeartbeats 4000000
namespace SH
open PySem PySem.Spec PyProof.Rows L2 LamX
section
variable {kc ks kl kd : Str} {Φ : Fns} {S : Sl} {c : List Int} {s l d : Int}
theorem get_kc (hk : [kc, ks, kl, kd].Nodup) (h : getSl S 0 = some (.ptr 0)) : ev Φ (.getK (.slot 0) (Sum.inr kc)) S [feedD kc ks kl kd c s l d] = .ok (.lst (c.map .int)) [feedD kc ks kl kd c s l d] := by
  rw [ev_getK, ev_slot, h]
  show lift (dGet _ _) _ = _
  simp [dGet, lift]
theorem get_ks (hk : [kc, ks, kl, kd].Nodup) (h : getSl S 0 = some (.ptr 0)) : ev Φ (.getK (.slot 0) (Sum.inr ks)) S [feedD kc ks kl kd c s l d] = .ok (.int s) [feedD kc ks kl kd c s l d] := by
  rw [ev_getK, ev_slot, h]
  show lift (dGet _ _) _ = _
  simp only [List.nodup_cons, List.mem_cons, List.not_mem_nil, or_false, not_or, List.nodup_nil, and_true, not_false_eq_true] at hk
  obtain ⟨⟨h1, h2, h3⟩, ⟨h4, h5⟩, h6⟩ := hk
  simp [dGet, lift, h1]
theorem get_kl (hk : [kc, ks, kl, kd].Nodup) (h : getSl S 0 = some (.ptr 0)) : ev Φ (.getK (.slot 0) (Sum.inr kl)) S [feedD kc ks kl kd c s l d] = .ok (.int l) [feedD kc ks kl kd c s l d] := by
  rw [ev_getK, ev_slot, h]
  show lift (dGet _ _) _ = _
  simp only [List.nodup_cons, List.mem_cons, List.not_mem_nil, or_false, not_or, List.nodup_nil, and_true, not_false_eq_true] at hk
  obtain ⟨⟨h1, h2, h3⟩, ⟨h4, h5⟩, h6⟩ := hk
  simp [dGet, lift, h2, h4]
theorem get_kd (hk : [kc, ks, kl, kd].Nodup) (h : getSl S 0 = some (.ptr 0)) : ev Φ (.getK (.slot 0) (Sum.inr kd)) S [feedD kc ks kl kd c s l d] = .ok (.int d) [feedD kc ks kl kd c s l d] := by
  rw [ev_getK, ev_slot, h]
  show lift (dGet _ _) _ = _
  simp only [List.nodup_cons, List.mem_cons, List.not_mem_nil, or_false, not_or, List.nodup_nil, and_true, not_false_eq_true] at hk
  obtain ⟨⟨h1, h2, h3⟩, ⟨h4, h5⟩, h6⟩ := hk
  simp [dGet, lift, h3, h5, h6]
theorem put_ks (hk : [kc, ks, kl, kd].Nodup) (h : getSl S 0 = some (.ptr 0)) {e : ME} {v : Int} (he : ev Φ e S [feedD kc ks kl kd c s l d] = .ok (.int v) [feedD kc ks kl kd c s l d]) : exec Φ (.setK (.slot 0) (Sum.inr ks) e) S [feedD kc ks kl kd c s l d] = .next S [feedD kc ks kl kd c v l d] := by
  rw [exec_setK, he, thenS_ok, ev_slot, h]
  simp only [List.nodup_cons, List.mem_cons, List.not_mem_nil, or_false, not_or, List.nodup_nil, and_true, not_false_eq_true] at hk
  obtain ⟨⟨h1, h2, h3⟩, ⟨h4, h5⟩, h6⟩ := hk
  simp [lift, thenS, dPut, h1, Ne.symm h4, Ne.symm h5]
theorem put_kl (hk : [kc, ks, kl, kd].Nodup) (h : getSl S 0 = some (.ptr 0)) {e : ME} {v : Int} (he : ev Φ e S [feedD kc ks kl kd c s l d] = .ok (.int v) [feedD kc ks kl kd c s l d]) : exec Φ (.setK (.slot 0) (Sum.inr kl) e) S [feedD kc ks kl kd c s l d] = .next S [feedD kc ks kl kd c s v d] := by
  rw [exec_setK, he, thenS_ok, ev_slot, h]
  simp only [List.nodup_cons, List.mem_cons, List.not_mem_nil, or_false, not_or, List.nodup_nil, and_true, not_false_eq_true] at hk
  obtain ⟨⟨h1, h2, h3⟩, ⟨h4, h5⟩, h6⟩ := hk
  simp [lift, thenS, dPut, h2, h4, Ne.symm h6]
theorem put_kd (hk : [kc, ks, kl, kd].Nodup) (h : getSl S 0 = some (.ptr 0)) {e : ME} {v : Int} (he : ev Φ e S [feedD kc ks kl kd c s l d] = .ok (.int v) [feedD kc ks kl kd c s l d]) : exec Φ (.setK (.slot 0) (Sum.inr kd) e) S [feedD kc ks kl kd c s l d] = .next S [feedD kc ks kl kd c s l v] := by
  rw [exec_setK, he, thenS_ok, ev_slot, h]
  simp only [List.nodup_cons, List.mem_cons, List.not_mem_nil, or_false, not_or, List.nodup_nil, and_true, not_false_eq_true] at hk
  obtain ⟨⟨h1, h2, h3⟩, ⟨h4, h5⟩, h6⟩ := hk
  simp [lift, thenS, dPut, h3, h5, h6]
/-! ### arithmetic, step by step -/
theorem e_add {a b : ME} {g : G} {i j : Int} (ha : ev Φ a S g = .ok (.int i) g) (hb : ev Φ b S g = .ok (.int j) g) : ev Φ (.bin .add a b) S g = .ok (.int (i + j)) g := by
  rw [ev_bin, ha, ok_bind, hb, ok_bind]; rfl
theorem e_mul {a b : ME} {g : G} {i j : Int} (ha : ev Φ a S g = .ok (.int i) g) (hb : ev Φ b S g = .ok (.int j) g) (h : i.natAbs < 18446744073709551616) : ev Φ (.bin .mul a b) S g = .ok (.int (i * j)) g := by
  rw [ev_bin, ha, ok_bind, hb, ok_bind]
  show lift (if (decide (i.natAbs < 18446744073709551616) || decide (j.natAbs < 18446744073709551616)) = true then some (D.int (i * j)) else none) g = _
  rw [decide_eq_true h]; rfl
theorem e_mod {a b : ME} {g : G} {i j : Int} (ha : ev Φ a S g = .ok (.int i) g) (hb : ev Φ b S g = .ok (.int j) g) (h : 0 < j) : ev Φ (.bin .mod a b) S g = .ok (.int (i % j)) g := by
  rw [ev_bin, ha, ok_bind, hb, ok_bind]
  show lift (if 0 < j then some (D.int (i % j)) else none) g = _
  rw [if_pos h]; rfl
theorem e_fdiv {a b : ME} {g : G} {i j : Int} (ha : ev Φ a S g = .ok (.int i) g) (hb : ev Φ b S g = .ok (.int j) g) (h : 0 < j) (h2 : j < 1073741824) : ev Φ (.bin .fdiv a b) S g = .ok (.int (i / j)) g := by
  rw [ev_bin, ha, ok_bind, hb, ok_bind]
  show lift (if (decide (0 < j) && decide (j < 1073741824)) = true then some (D.int (i / j)) else none) g = _
  rw [decide_eq_true h, decide_eq_true h2]; rfl
theorem e_int {a : ME} {g : G} {i : Int} (ha : ev Φ a S g = .ok (.int i) g) : ev Φ (.bi .int [a]) S g = .ok (.int i) g := by
  rw [ev_bi, evs_cons, ha]; rfl
theorem e_slot {i : Nat} {g : G} {x : D} (h : getSl S i = some x) : ev Φ (.slot i) S g = .ok x g := by
  rw [ev_slot, h]; rfl
end
theorem draw_ok {kc ks kl kd : Str} {c0 m1 a1 b1 n1 a2 b2 n2 a3 n3 : Int} (hk : [kc, ks, kl, kd].Nodup) (hm1 : 0 < m1) (ha1 : a1.natAbs < 18446744073709551616) (hn1 : 0 < n1) (hn1' : n1 < 18446744073709551616) (ha2 : a2.natAbs < 18446744073709551616) (hn2 : 0 < n2) (hn2' : n2 < 18446744073709551616) (ha3 : a3.natAbs < 18446744073709551616) (hn3 : 0 < n3)
    (Φ : Fns) (c : List Int) (s l d hi : Int) (h0 : 0 < hi) (h1 : hi < 1073741824) : ∃ v s' l' d', 0 ≤ v ∧ v < hi ∧ meanOf 7 (drawT kc ks kl kd c0 m1 a1 b1 n1 a2 b2 n2 a3 n3) Φ [.ptr 0, .int hi] [feedD kc ks kl kd c s l d] = .ok (.int v) [feedD kc ks kl kd c s' l' d'] := by
  have md : ∀ x : Int, 0 ≤ x % hi ∧ x % hi < hi := fun x => ⟨Int.emod_nonneg _ (by omega), Int.emod_lt_of_pos _ h0⟩
  have abs_lt : ∀ x n : Int, 0 < n → n < 18446744073709551616 → (x % n).natAbs < 18446744073709551616 := fun x n hn hn' => by
    have := Int.emod_nonneg x (show n ≠ 0 by omega)
    have := Int.emod_lt_of_pos x hn
    omega
  generalize eS : startS 7 [D.ptr 0, D.int hi] = S0
  have s0 : getSl S0 0 = some (.ptr 0) := by subst eS; rfl
  have s1 : getSl S0 1 = some (.int hi) := by subst eS; rfl
  have st1 : exec Φ (.setK (.slot 0) (Sum.inr kd) (.bin .add (.getK (.slot 0) (Sum.inr kd)) (.lit (.int 1)))) S0 [feedD kc ks kl kd c s l d] = .next S0 [feedD kc ks kl kd c s l (d + 1)] := put_kd hk s0 (e_add (get_kd hk s0) ev_lit)
  have hc1 := e_gt (Φ := Φ) (get_kl (Φ := Φ) (c := c) (s := s) (l := l) (d := d + 1) hk s0) (ev_lit (d := .int 0))
  by_cases hl : 0 < l
  · have e2 : (S0.set 2 (some (SV.dat (D.int (l % hi))))) = startS 7 [D.ptr 0, D.int hi, D.int (l % hi)] := by subst eS; rfl
    have t0 : getSl (startS 7 [D.ptr 0, D.int hi, D.int (l % hi)]) 0 = some (.ptr 0) := rfl
    have t1 : getSl (startS 7 [D.ptr 0, D.int hi, D.int (l % hi)]) 1 = some (.int hi) := rfl
    have t2 : getSl (startS 7 [D.ptr 0, D.int hi, D.int (l % hi)]) 2 = some (.int (l % hi)) := rfl
    refine ⟨l % hi, s, l / hi, d + 1, (md l).1, (md l).2, run_ret ?_⟩
    rw [eS, drawT, execs_next st1]
    refine execs_ret ((exec_ifT hc1 (by rw [decide_eq_true hl]; rfl)).trans ?_)
    rw [execs_next (exec_set1 (e_mod (e_int (get_kl hk s0)) (e_slot s1) h0)), e2, execs_next (put_kl hk t0 (e_fdiv (get_kl hk t0) (e_slot t1) h0 h1))]
    exact execs_ret (exec_retE (e_slot t2))
  · have st2 : ∀ a b, b = [] → exec Φ (.if_ (.cmp .gt (.getK (.slot 0) (Sum.inr kl)) (.lit (.int 0))) a b) S0 [feedD kc ks kl kd c s l (d + 1)] = .next S0 [feedD kc ks kl kd c s l (d + 1)] := fun a b hb => by
      subst hb
      exact (exec_ifF hc1 (by rw [decide_eq_false hl]; rfl)).trans execs_nil
    generalize eS2 : ((S0.set 3 (some (SV.dat (.int s)))).set 4 (some (SV.dat (.lst (c.map .int))))) = S2
    have st3 : exec Φ (.par 3 4 (.getK (.slot 0) (Sum.inr ks)) (.getK (.slot 0) (Sum.inr kc))) S0 [feedD kc ks kl kd c s l (d + 1)] = .next S2 [feedD kc ks kl kd c s l (d + 1)] := by
      rw [← eS2]; exact exec_parE (get_ks hk s0) (get_kc hk s0)
    have u0 : getSl S2 0 = some (.ptr 0) := by subst eS2 eS; rfl
    have u1 : getSl S2 1 = some (.int hi) := by subst eS2 eS; rfl
    have u3 : getSl S2 3 = some (.int s) := by subst eS2 eS; rfl
    have u4 : getSl S2 4 = some (.lst (c.map .int)) := by subst eS2 eS; rfl
    have st4 : exec Φ (.setK (.slot 0) (Sum.inr ks) (.bin .add (.slot 3) (.lit (.int 1)))) S2 [feedD kc ks kl kd c s l (d + 1)] = .next S2 [feedD kc ks kl kd c (s + 1) l (d + 1)] := put_ks hk u0 (e_add (e_slot u3) ev_lit)
    have cellv : ∃ x : Int, ev Φ (.ite (.cmp .ne (.slot 4) (.lst [])) (.idx (.slot 4) (.bin .mod (.bi .int [.slot 3]) (.bi .len [.slot 4]))) (.lit (.int c0))) S2 [feedD kc ks kl kd c (s + 1) l (d + 1)] = .ok (.int x) [feedD kc ks kl kd c (s + 1) l (d + 1)] := by
      have e1 : ev Φ (.cmp .ne (.slot 4) (.lst [])) S2 [feedD kc ks kl kd c (s + 1) l (d + 1)] = .ok (.bl (!c.isEmpty)) [feedD kc ks kl kd c (s + 1) l (d + 1)] := by
        rw [ev_cmp, e_slot u4, ok_bind, ev_lst, evs_nil, ok_bind, ne_nil_ints]; rfl
      rw [ev_ite, e1, ok_bind]
      by_cases hc : c = []
      · subst hc; exact ⟨c0, rfl⟩
      · have hne : c.isEmpty = false := by cases c with | nil => exact absurd rfl hc | cons _ _ => rfl
        have hpos : 0 < c.length := by cases c with | nil => exact absurd rfl hc | cons _ _ => simp
        rw [hne]
        show ∃ x, ev Φ (.idx (.slot 4) (.bin .mod (.bi .int [.slot 3]) (.bi .len [.slot 4]))) S2 _ = _
        have e3 : ev Φ (.bi .len [.slot 4]) S2 [feedD kc ks kl kd c (s + 1) l (d + 1)] = .ok (.int (c.length : Int)) [feedD kc ks kl kd c (s + 1) l (d + 1)] := by
          rw [ev_bi, evs_cons, e_slot u4, ok_bind, evs_nil, ok_bind]
          show lift (some (D.int ((c.map D.int).length : Int))) _ = _
          rw [List.length_map]; rfl
        have e4 := e_mod (e_int (e_slot (Φ := Φ) (g := [feedD kc ks kl kd c (s + 1) l (d + 1)]) u3)) e3 (by omega)
        rw [ev_idx, e_slot u4, ok_bind, e4, ok_bind]
        have b1 := Int.emod_nonneg s (show ((c.length : Nat) : Int) ≠ 0 by omega)
        have b2 := Int.emod_lt_of_pos s (show (0 : Int) < ((c.length : Nat) : Int) by omega)
        obtain ⟨k, hkn⟩ : ∃ k : Nat, s % (c.length : Int) = (k : Int) := ⟨(s % (c.length : Int)).toNat, by omega⟩
        have hkl : k < c.length := by omega
        refine ⟨c[k], ?_⟩
        have : atI (c.map D.int) (s % (c.length : Int)) = some (.int c[k]) := by
          rw [hkn]
          exact atI_nat (by rw [List.getElem?_map, List.getElem?_eq_getElem hkl]; rfl)
        show lift (atI (c.map D.int) (s % (c.length : Int))) _ = _
        rw [this]; rfl
    obtain ⟨x, hx⟩ := cellv
    generalize eS3 : S2.set 5 (some (SV.dat (.int x))) = S3
    have st5 := exec_set1 (i := 5) hx
    rw [eS3] at st5
    have w0 : getSl S3 0 = some (.ptr 0) := by subst eS3 eS2 eS; rfl
    have w1 : getSl S3 1 = some (.int hi) := by subst eS3 eS2 eS; rfl
    have w3 : getSl S3 3 = some (.int s) := by subst eS3 eS2 eS; rfl
    have w4 : getSl S3 4 = some (.lst (c.map .int)) := by subst eS3 eS2 eS; rfl
    have w5 : getSl S3 5 = some (.int x) := by subst eS3 eS2 eS; rfl
    have cnd : ∃ b : Bool, ev Φ (.and_ (.cmp .ge (.slot 5) (.bin .pow (.lit (.int 10)) (.lit (.int 18)))) (.cmp .lt (.slot 3) (.bi .len [.slot 4]))) S3 [feedD kc ks kl kd c (s + 1) l (d + 1)] = .ok (.bl b) [feedD kc ks kl kd c (s + 1) l (d + 1)] := by
      have p1 : ev Φ (.bin .pow (.lit (.int 10)) (.lit (.int 18))) S3 [feedD kc ks kl kd c (s + 1) l (d + 1)] = .ok (.int 1000000000000000000) [feedD kc ks kl kd c (s + 1) l (d + 1)] := rfl
      have p2 : ev Φ (.bi .len [.slot 4]) S3 [feedD kc ks kl kd c (s + 1) l (d + 1)] = .ok (.int ((c.map D.int).length : Int)) [feedD kc ks kl kd c (s + 1) l (d + 1)] := by
        rw [ev_bi, evs_cons, e_slot w4, ok_bind, evs_nil, ok_bind]; rfl
      rw [ev_and, e_ge (e_slot w5) p1, ok_bind]
      cases h : decide ((1000000000000000000 : Int) ≤ x) with
      | true => exact ⟨_, e_lt (e_slot w3) p2⟩
      | false => exact ⟨false, rfl⟩
    obtain ⟨b, hb⟩ := cnd
    cases b with
    | true =>
      refine ⟨x % hi, s + 1, x / hi, d + 1, (md x).1, (md x).2, run_ret ?_⟩
      rw [eS, drawT, execs_next st1, execs_next (st2 _ _ rfl), execs_next st3, execs_next st4, execs_next st5]
      refine execs_ret ((exec_ifT hb rfl).trans ?_)
      rw [execs_next (put_kl hk w0 (e_fdiv (e_slot w5) (e_slot w1) h0 h1))]
      exact execs_ret (exec_retE (e_mod (e_int (e_slot w5)) (e_slot w1) h0))
    | false =>
      have st6 : ∀ a b, b = [] → exec Φ (.if_ (.and_ (.cmp .ge (.slot 5) (.bin .pow (.lit (.int 10)) (.lit (.int 18)))) (.cmp .lt (.slot 3) (.bi .len [.slot 4]))) a b) S3 [feedD kc ks kl kd c (s + 1) l (d + 1)] = .next S3 [feedD kc ks kl kd c (s + 1) l (d + 1)] := fun a b hb2 => by
        subst hb2
        exact (exec_ifF hb rfl).trans execs_nil
      generalize eg : [feedD kc ks kl kd c (s + 1) l (d + 1)] = g3 at *
      have gd : ∀ {S : Sl}, getSl S 0 = some (.ptr 0) → ev Φ (.getK (.slot 0) (Sum.inr kd)) S g3 = .ok (.int (d + 1)) g3 := fun h => by rw [← eg]; exact get_kd hk h
      have v1 := e_mod (e_int (e_add (e_add (e_mod (e_int (e_slot (Φ := Φ) (g := g3) w5)) (ev_lit (d := .int m1)) hm1) (e_mul (ev_lit (d := .int a1)) (gd w0) ha1)) (ev_lit (d := .int b1)))) (ev_lit (d := .int n1)) hn1
      generalize ((x % m1 + a1 * (d + 1) + b1) : Int) = y1 at v1
      have st7 := exec_set1 (i := 6) v1
      generalize eS4 : S3.set 6 (some (SV.dat (.int (y1 % n1)))) = S4 at st7
      have z0 : getSl S4 0 = some (.ptr 0) := by subst eS4 eS3 eS2 eS; rfl
      have z6 : getSl S4 6 = some (.int (y1 % n1)) := by subst eS4 eS3 eS2 eS; rfl
      have v2 := e_mod (e_int (e_add (e_add (e_mul (e_slot (Φ := Φ) (g := g3) z6) (e_slot z6) (abs_lt y1 n1 hn1 hn1')) (e_mul (ev_lit (d := .int a2)) (gd z0) ha2)) (ev_lit (d := .int b2)))) (ev_lit (d := .int n2)) hn2
      generalize ((y1 % n1 * (y1 % n1) + a2 * (d + 1) + b2) : Int) = y2 at v2
      have st8 := exec_set1 (i := 6) v2
      generalize eS5 : S4.set 6 (some (SV.dat (.int (y2 % n2)))) = S5 at st8
      have q1 : getSl S5 1 = some (.int hi) := by subst eS5 eS4 eS3 eS2 eS; rfl
      have q6 : getSl S5 6 = some (.int (y2 % n2)) := by subst eS5 eS4 eS3 eS2 eS; rfl
      have v3 := e_mod (e_int (e_fdiv (e_mod (e_int (e_add (e_mul (e_slot (Φ := Φ) (g := g3) q6) (e_slot q6) (abs_lt y2 n2 hn2 hn2')) (e_mul (ev_lit (d := .int a3)) (e_slot q6) ha3))) (ev_lit (d := .int n3)) hn3) (ev_lit (d := .int 16)) (by decide) (by decide))) (e_slot q1) h0
      refine ⟨(y2 % n2 * (y2 % n2) + a3 * (y2 % n2)) % n3 / 16 % hi, s + 1, l, d + 1, (md _).1, (md _).2, run_ret ?_⟩
      rw [eS, drawT, execs_next st1, execs_next (st2 _ _ rfl), execs_next st3, execs_next st4, execs_next st5, execs_next (st6 _ _ rfl), execs_next st7, execs_next st8, eg]
      exact execs_ret (exec_retE v3)
end SH

set_option Elab.async false
set_option linter.all false
set_option autoImplicit false
set_option maxRecDepth 100000
set_option maxHeartbeats 4000000
/-! a second family of draws: the cells are read anew each time -/
namespace SH
open PySem PySem.Spec PyProof.Rows L2 LamX
def feed2T (kc ks kl kd : Str) : List MS := [(.ret (.mkD [(Sum.inr kc), (Sum.inr ks), (Sum.inr kl), (Sum.inr kd)] [(.bi .list [(.slice (.slot 0) none (some (.lit (.int 63))))]), (.lit (.int 0)), (.lit (.int 0)), (.lit (.int 0))]))]
def draw2T (kc ks kl kd : Str) (c0 m1 a1 b1 n1 a2 b2 n2 a3 n3 q : Int) : List MS := [(.setK (.slot 0) (Sum.inr kd) (.bin .add (.getK (.slot 0) (Sum.inr kd)) (.lit (.int 1)))), (.if_ (.cmp .gt (.getK (.slot 0) (Sum.inr kl)) (.lit (.int 0))) [(.set [2] (.bin .mod (.bi .int [(.getK (.slot 0) (Sum.inr kl))]) (.slot 1))), (.setK (.slot 0) (Sum.inr kl) (.bin .fdiv (.getK (.slot 0) (Sum.inr kl)) (.slot 1))), (.ret (.slot 2))] []), (.set [3] (.getK (.slot 0) (Sum.inr ks))), (.setK (.slot 0) (Sum.inr ks) (.bin .add (.slot 3) (.lit (.int 1)))), (.set [4] (.ite (.cmp .ne (.getK (.slot 0) (Sum.inr kc)) (.lst [])) (.idx (.getK (.slot 0) (Sum.inr kc)) (.bin .mod (.bi .int [(.slot 3)]) (.bi .len [(.getK (.slot 0) (Sum.inr kc))]))) (.lit (.int c0)))), (.if_ (.and_ (.cmp .ge (.slot 4) (.bin .pow (.lit (.int 10)) (.lit (.int 18)))) (.cmp .lt (.slot 3) (.bi .len [(.getK (.slot 0) (Sum.inr kc))]))) [(.setK (.slot 0) (Sum.inr kl) (.bin .fdiv (.slot 4) (.slot 1))), (.ret (.bin .mod (.bi .int [(.slot 4)]) (.slot 1)))] []), (.set [5] (.bin .mod (.bi .int [(.bin .add (.bin .add (.bin .mod (.bi .int [(.slot 4)]) (.lit (.int m1))) (.bin .mul (.lit (.int a1)) (.getK (.slot 0) (Sum.inr kd)))) (.lit (.int b1)))]) (.lit (.int n1)))), (.set [5] (.bin .mod (.bi .int [(.bin .add (.bin .add (.bin .mul (.slot 5) (.slot 5)) (.bin .mul (.lit (.int a2)) (.getK (.slot 0) (Sum.inr kd)))) (.lit (.int b2)))]) (.lit (.int n2)))), (.ret (.bin .mod (.bi .int [(.bin .fdiv (.bin .mod (.bi .int [(.bin .add (.bin .mul (.slot 5) (.slot 5)) (.bin .mul (.lit (.int a3)) (.slot 5)))]) (.lit (.int n3))) (.lit (.int q)))]) (.slot 1)))]
theorem feed2_ok (kc ks kl kd : Str) (hk : (kc :: ks :: kl :: [kd]).Nodup) (Φ : Fns) {ns : List Int} (h : ns.length ≤ 63) : meanOf 1 (feed2T kc ks kl kd) Φ [.scr ns] [] = .ok (.ptr 0) [feedD kc ks kl kd ns 0 0 0] := by
  have he : ev Φ (.bi .list [(.slice (.slot 0) none (some (.lit (.int 63))))]) (startS 1 [.scr ns]) [] = .ok (.lst (ns.map .int)) [] := by
    have e1 : ev Φ (.slice (.slot 0) none (some (.lit (.int 63)))) (startS 1 [.scr ns]) [] = .ok (.lst (cutD (ns.map .int) none (some 63))) [] := rfl
    rw [take_of_len h] at e1
    rw [ev_bi, evs_cons, e1]; rfl
  have hm : dMerge [] [((Sum.inr kc : Key), D.lst (ns.map .int)), (Sum.inr ks, .int 0), (Sum.inr kl, .int 0), (Sum.inr kd, .int 0)] = [(Sum.inr kc, .lst (ns.map .int)), (Sum.inr ks, .int 0), (Sum.inr kl, .int 0), (Sum.inr kd, .int 0)] := by
    simp only [List.nodup_cons, List.mem_cons, List.not_mem_nil, or_false, not_or, List.nodup_nil, and_true, not_false_eq_true] at hk
    obtain ⟨⟨h1, h2, h3⟩, ⟨h4, h5⟩, h6⟩ := hk
    simp [dMerge, dPut, h1, h2, h3, h4, h5, h6, Ne.symm h1]
  unfold meanOf runBody feed2T
  rw [execs_cons, exec_ret, ev_mkD, evs_cons, he]
  show Res.ok (D.ptr 0) [MObj.dict (dMerge [] [((Sum.inr kc : Key), D.lst (ns.map .int)), (Sum.inr ks, .int 0), (Sum.inr kl, .int 0), (Sum.inr kd, .int 0)])] = _
  rw [hm]
theorem draw2_ok {kc ks kl kd : Str} {c0 m1 a1 b1 n1 a2 b2 n2 a3 n3 q : Int} (hk : [kc, ks, kl, kd].Nodup) (hm1 : 0 < m1) (ha1 : a1.natAbs < 18446744073709551616) (hn1 : 0 < n1) (hn1' : n1 < 18446744073709551616) (ha2 : a2.natAbs < 18446744073709551616) (hn2 : 0 < n2) (hn2' : n2 < 18446744073709551616) (ha3 : a3.natAbs < 18446744073709551616) (hn3 : 0 < n3) (hq : 0 < q) (hq' : q < 1073741824)
    (Φ : Fns) (c : List Int) (s l d hi : Int) (h0 : 0 < hi) (h1 : hi < 1073741824) : ∃ v s' l' d', 0 ≤ v ∧ v < hi ∧ meanOf 6 (draw2T kc ks kl kd c0 m1 a1 b1 n1 a2 b2 n2 a3 n3 q) Φ [.ptr 0, .int hi] [feedD kc ks kl kd c s l d] = .ok (.int v) [feedD kc ks kl kd c s' l' d'] := by
  have md : ∀ x : Int, 0 ≤ x % hi ∧ x % hi < hi := fun x => ⟨Int.emod_nonneg _ (by omega), Int.emod_lt_of_pos _ h0⟩
  have abs_lt : ∀ x n : Int, 0 < n → n < 18446744073709551616 → (x % n).natAbs < 18446744073709551616 := fun x n hn hn' => by
    have := Int.emod_nonneg x (show n ≠ 0 by omega)
    have := Int.emod_lt_of_pos x hn
    omega
  generalize eS : startS 6 [D.ptr 0, D.int hi] = S0
  have s0 : getSl S0 0 = some (.ptr 0) := by subst eS; rfl
  have s1 : getSl S0 1 = some (.int hi) := by subst eS; rfl
  have st1 : exec Φ (.setK (.slot 0) (Sum.inr kd) (.bin .add (.getK (.slot 0) (Sum.inr kd)) (.lit (.int 1)))) S0 [feedD kc ks kl kd c s l d] = .next S0 [feedD kc ks kl kd c s l (d + 1)] := put_kd hk s0 (e_add (get_kd hk s0) ev_lit)
  have hc1 := e_gt (Φ := Φ) (get_kl (Φ := Φ) (c := c) (s := s) (l := l) (d := d + 1) hk s0) (ev_lit (d := .int 0))
  by_cases hl : 0 < l
  · have e2 : (S0.set 2 (some (SV.dat (D.int (l % hi))))) = startS 6 [D.ptr 0, D.int hi, D.int (l % hi)] := by subst eS; rfl
    have t0 : getSl (startS 6 [D.ptr 0, D.int hi, D.int (l % hi)]) 0 = some (.ptr 0) := rfl
    have t1 : getSl (startS 6 [D.ptr 0, D.int hi, D.int (l % hi)]) 1 = some (.int hi) := rfl
    have t2 : getSl (startS 6 [D.ptr 0, D.int hi, D.int (l % hi)]) 2 = some (.int (l % hi)) := rfl
    refine ⟨l % hi, s, l / hi, d + 1, (md l).1, (md l).2, run_ret ?_⟩
    rw [eS, draw2T, execs_next st1]
    refine execs_ret ((exec_ifT hc1 (by rw [decide_eq_true hl]; rfl)).trans ?_)
    rw [execs_next (exec_set1 (e_mod (e_int (get_kl hk s0)) (e_slot s1) h0)), e2, execs_next (put_kl hk t0 (e_fdiv (get_kl hk t0) (e_slot t1) h0 h1))]
    exact execs_ret (exec_retE (e_slot t2))
  · have st2 : ∀ a b, b = [] → exec Φ (.if_ (.cmp .gt (.getK (.slot 0) (Sum.inr kl)) (.lit (.int 0))) a b) S0 [feedD kc ks kl kd c s l (d + 1)] = .next S0 [feedD kc ks kl kd c s l (d + 1)] := fun a b hb => by
      subst hb
      exact (exec_ifF hc1 (by rw [decide_eq_false hl]; rfl)).trans execs_nil
    generalize eS2 : (S0.set 3 (some (SV.dat (.int s)))) = S2
    have st3 : exec Φ (.set [3] (.getK (.slot 0) (Sum.inr ks))) S0 [feedD kc ks kl kd c s l (d + 1)] = .next S2 [feedD kc ks kl kd c s l (d + 1)] := by
      rw [← eS2]; exact exec_set1 (get_ks hk s0)
    have u0 : getSl S2 0 = some (.ptr 0) := by subst eS2 eS; rfl
    have u1 : getSl S2 1 = some (.int hi) := by subst eS2 eS; rfl
    have u3 : getSl S2 3 = some (.int s) := by subst eS2 eS; rfl
    have u4 : ∀ s' l' d', ev Φ (.getK (.slot 0) (Sum.inr kc)) S2 [feedD kc ks kl kd c s' l' d'] = .ok (.lst (c.map .int)) [feedD kc ks kl kd c s' l' d'] := fun s' l' d' => get_kc hk u0
    have st4 : exec Φ (.setK (.slot 0) (Sum.inr ks) (.bin .add (.slot 3) (.lit (.int 1)))) S2 [feedD kc ks kl kd c s l (d + 1)] = .next S2 [feedD kc ks kl kd c (s + 1) l (d + 1)] := put_ks hk u0 (e_add (e_slot u3) ev_lit)
    have cellv : ∃ x : Int, ev Φ (.ite (.cmp .ne (.getK (.slot 0) (Sum.inr kc)) (.lst [])) (.idx (.getK (.slot 0) (Sum.inr kc)) (.bin .mod (.bi .int [.slot 3]) (.bi .len [(.getK (.slot 0) (Sum.inr kc))]))) (.lit (.int c0))) S2 [feedD kc ks kl kd c (s + 1) l (d + 1)] = .ok (.int x) [feedD kc ks kl kd c (s + 1) l (d + 1)] := by
      have e1 : ev Φ (.cmp .ne (.getK (.slot 0) (Sum.inr kc)) (.lst [])) S2 [feedD kc ks kl kd c (s + 1) l (d + 1)] = .ok (.bl (!c.isEmpty)) [feedD kc ks kl kd c (s + 1) l (d + 1)] := by
        rw [ev_cmp, u4 _ _ _, ok_bind, ev_lst, evs_nil, ok_bind, ne_nil_ints]; rfl
      rw [ev_ite, e1, ok_bind]
      by_cases hc : c = []
      · subst hc; exact ⟨c0, rfl⟩
      · have hne : c.isEmpty = false := by cases c with | nil => exact absurd rfl hc | cons _ _ => rfl
        have hpos : 0 < c.length := by cases c with | nil => exact absurd rfl hc | cons _ _ => simp
        rw [hne]
        show ∃ x, ev Φ (.idx (.getK (.slot 0) (Sum.inr kc)) (.bin .mod (.bi .int [.slot 3]) (.bi .len [(.getK (.slot 0) (Sum.inr kc))]))) S2 _ = _
        have e3 : ev Φ (.bi .len [(.getK (.slot 0) (Sum.inr kc))]) S2 [feedD kc ks kl kd c (s + 1) l (d + 1)] = .ok (.int (c.length : Int)) [feedD kc ks kl kd c (s + 1) l (d + 1)] := by
          rw [ev_bi, evs_cons, u4 _ _ _, ok_bind, evs_nil, ok_bind]
          show lift (some (D.int ((c.map D.int).length : Int))) _ = _
          rw [List.length_map]; rfl
        have e4 := e_mod (e_int (e_slot (Φ := Φ) (g := [feedD kc ks kl kd c (s + 1) l (d + 1)]) u3)) e3 (by omega)
        rw [ev_idx, u4 _ _ _, ok_bind, e4, ok_bind]
        have b1 := Int.emod_nonneg s (show ((c.length : Nat) : Int) ≠ 0 by omega)
        have b2 := Int.emod_lt_of_pos s (show (0 : Int) < ((c.length : Nat) : Int) by omega)
        obtain ⟨k, hkn⟩ : ∃ k : Nat, s % (c.length : Int) = (k : Int) := ⟨(s % (c.length : Int)).toNat, by omega⟩
        have hkl : k < c.length := by omega
        refine ⟨c[k], ?_⟩
        have : atI (c.map D.int) (s % (c.length : Int)) = some (.int c[k]) := by
          rw [hkn]
          exact atI_nat (by rw [List.getElem?_map, List.getElem?_eq_getElem hkl]; rfl)
        show lift (atI (c.map D.int) (s % (c.length : Int))) _ = _
        rw [this]; rfl
    obtain ⟨x, hx⟩ := cellv
    generalize eS3 : S2.set 4 (some (SV.dat (.int x))) = S3
    have st5 := exec_set1 (i := 4) hx
    rw [eS3] at st5
    have w0 : getSl S3 0 = some (.ptr 0) := by subst eS3 eS2 eS; rfl
    have w1 : getSl S3 1 = some (.int hi) := by subst eS3 eS2 eS; rfl
    have w3 : getSl S3 3 = some (.int s) := by subst eS3 eS2 eS; rfl
    have w4 : ∀ s' l' d', ev Φ (.getK (.slot 0) (Sum.inr kc)) S3 [feedD kc ks kl kd c s' l' d'] = .ok (.lst (c.map .int)) [feedD kc ks kl kd c s' l' d'] := fun s' l' d' => get_kc hk w0
    have w5 : getSl S3 4 = some (.int x) := by subst eS3 eS2 eS; rfl
    have cnd : ∃ b : Bool, ev Φ (.and_ (.cmp .ge (.slot 4) (.bin .pow (.lit (.int 10)) (.lit (.int 18)))) (.cmp .lt (.slot 3) (.bi .len [(.getK (.slot 0) (Sum.inr kc))]))) S3 [feedD kc ks kl kd c (s + 1) l (d + 1)] = .ok (.bl b) [feedD kc ks kl kd c (s + 1) l (d + 1)] := by
      have p1 : ev Φ (.bin .pow (.lit (.int 10)) (.lit (.int 18))) S3 [feedD kc ks kl kd c (s + 1) l (d + 1)] = .ok (.int 1000000000000000000) [feedD kc ks kl kd c (s + 1) l (d + 1)] := rfl
      have p2 : ev Φ (.bi .len [(.getK (.slot 0) (Sum.inr kc))]) S3 [feedD kc ks kl kd c (s + 1) l (d + 1)] = .ok (.int ((c.map D.int).length : Int)) [feedD kc ks kl kd c (s + 1) l (d + 1)] := by
        rw [ev_bi, evs_cons, w4 _ _ _, ok_bind, evs_nil, ok_bind]; rfl
      rw [ev_and, e_ge (e_slot w5) p1, ok_bind]
      cases h : decide ((1000000000000000000 : Int) ≤ x) with
      | true => exact ⟨_, e_lt (e_slot w3) p2⟩
      | false => exact ⟨false, rfl⟩
    obtain ⟨b, hb⟩ := cnd
    cases b with
    | true =>
      refine ⟨x % hi, s + 1, x / hi, d + 1, (md x).1, (md x).2, run_ret ?_⟩
      rw [eS, draw2T, execs_next st1, execs_next (st2 _ _ rfl), execs_next st3, execs_next st4, execs_next st5]
      refine execs_ret ((exec_ifT hb rfl).trans ?_)
      rw [execs_next (put_kl hk w0 (e_fdiv (e_slot w5) (e_slot w1) h0 h1))]
      exact execs_ret (exec_retE (e_mod (e_int (e_slot w5)) (e_slot w1) h0))
    | false =>
      have st6 : ∀ a b, b = [] → exec Φ (.if_ (.and_ (.cmp .ge (.slot 4) (.bin .pow (.lit (.int 10)) (.lit (.int 18)))) (.cmp .lt (.slot 3) (.bi .len [(.getK (.slot 0) (Sum.inr kc))]))) a b) S3 [feedD kc ks kl kd c (s + 1) l (d + 1)] = .next S3 [feedD kc ks kl kd c (s + 1) l (d + 1)] := fun a b hb2 => by
        subst hb2
        exact (exec_ifF hb rfl).trans execs_nil
      generalize eg : [feedD kc ks kl kd c (s + 1) l (d + 1)] = g3 at *
      have gd : ∀ {S : Sl}, getSl S 0 = some (.ptr 0) → ev Φ (.getK (.slot 0) (Sum.inr kd)) S g3 = .ok (.int (d + 1)) g3 := fun h => by rw [← eg]; exact get_kd hk h
      have v1 := e_mod (e_int (e_add (e_add (e_mod (e_int (e_slot (Φ := Φ) (g := g3) w5)) (ev_lit (d := .int m1)) hm1) (e_mul (ev_lit (d := .int a1)) (gd w0) ha1)) (ev_lit (d := .int b1)))) (ev_lit (d := .int n1)) hn1
      generalize ((x % m1 + a1 * (d + 1) + b1) : Int) = y1 at v1
      have st7 := exec_set1 (i := 5) v1
      generalize eS4 : S3.set 5 (some (SV.dat (.int (y1 % n1)))) = S4 at st7
      have z0 : getSl S4 0 = some (.ptr 0) := by subst eS4 eS3 eS2 eS; rfl
      have z6 : getSl S4 5 = some (.int (y1 % n1)) := by subst eS4 eS3 eS2 eS; rfl
      have v2 := e_mod (e_int (e_add (e_add (e_mul (e_slot (Φ := Φ) (g := g3) z6) (e_slot z6) (abs_lt y1 n1 hn1 hn1')) (e_mul (ev_lit (d := .int a2)) (gd z0) ha2)) (ev_lit (d := .int b2)))) (ev_lit (d := .int n2)) hn2
      generalize ((y1 % n1 * (y1 % n1) + a2 * (d + 1) + b2) : Int) = y2 at v2
      have st8 := exec_set1 (i := 5) v2
      generalize eS5 : S4.set 5 (some (SV.dat (.int (y2 % n2)))) = S5 at st8
      have q1 : getSl S5 1 = some (.int hi) := by subst eS5 eS4 eS3 eS2 eS; rfl
      have q6 : getSl S5 5 = some (.int (y2 % n2)) := by subst eS5 eS4 eS3 eS2 eS; rfl
      have v3 := e_mod (e_int (e_fdiv (e_mod (e_int (e_add (e_mul (e_slot (Φ := Φ) (g := g3) q6) (e_slot q6) (abs_lt y2 n2 hn2 hn2')) (e_mul (ev_lit (d := .int a3)) (e_slot q6) ha3))) (ev_lit (d := .int n3)) hn3) (ev_lit (d := .int q)) hq hq')) (e_slot q1) h0
      refine ⟨(y2 % n2 * (y2 % n2) + a3 * (y2 % n2)) % n3 / q % hi, s + 1, l, d + 1, (md _).1, (md _).2, run_ret ?_⟩
      rw [eS, draw2T, execs_next st1, execs_next (st2 _ _ rfl), execs_next st3, execs_next st4, execs_next st5, execs_next (st6 _ _ rfl), execs_next st7, execs_next st8, eg]
      exact execs_ret (exec_retE v3)
end SH

set_option Elab.async false
set_option linter.all false
set_option autoImplicit false
set_option maxRecDepth 100000
set_option maxHeartbeats 4000000
/-! a third family of draws -/
namespace SH
open PySem PySem.Spec PyProof.Rows L2 LamX
def feed3T (kc ks kl kd : Str) (n0 : Int) : List MS := [(.ret (.mkD [(Sum.inr kc), (Sum.inr ks), (Sum.inr kl), (Sum.inr kd)] [(.comp (.seq (.slice (.slot 0) none (some (.lit (.int n0))))) [2] [1, 2] [] (.bi .int [(.slot 2)])), (.lit (.int 0)), (.lit (.int 0)), (.lit (.int 0))]))]
def draw3T (kc ks kl kd : Str) (c0 m1 a1 b1 n1 a2 b2 n2 a3 n3 q : Int) : List MS := [(.setK (.slot 0) (Sum.inr kd) (.bin .add (.getK (.slot 0) (Sum.inr kd)) (.lit (.int 1)))), (.if_ (.cmp .gt (.getK (.slot 0) (Sum.inr kl)) (.lit (.int 0))) [(.set [2] (.bin .mod (.bi .int [(.getK (.slot 0) (Sum.inr kl))]) (.slot 1))), (.setK (.slot 0) (Sum.inr kl) (.bin .fdiv (.getK (.slot 0) (Sum.inr kl)) (.slot 1))), (.ret (.slot 2))] []), (.par 3 4 (.getK (.slot 0) (Sum.inr kc)) (.getK (.slot 0) (Sum.inr ks))), (.setK (.slot 0) (Sum.inr ks) (.bin .add (.slot 4) (.lit (.int 1)))), (.set [5] (.ite (.cmp .ne (.slot 3) (.lst [])) (.idx (.slot 3) (.bin .mod (.bi .int [(.slot 4)]) (.bi .len [(.slot 3)]))) (.lit (.int c0)))), (.if_ (.and_ (.cmp .ge (.slot 5) (.bin .pow (.lit (.int 10)) (.lit (.int 18)))) (.cmp .lt (.slot 4) (.bi .len [(.slot 3)]))) [(.setK (.slot 0) (Sum.inr kl) (.bin .fdiv (.slot 5) (.slot 1))), (.ret (.bin .mod (.bi .int [(.slot 5)]) (.slot 1)))] []), (.set [6] (.bin .mod (.bi .int [(.bin .add (.bin .add (.bin .mod (.bi .int [(.slot 5)]) (.lit (.int m1))) (.bin .mul (.lit (.int a1)) (.getK (.slot 0) (Sum.inr kd)))) (.lit (.int b1)))]) (.lit (.int n1)))), (.set [6] (.bin .mod (.bi .int [(.bin .add (.bin .add (.bin .mul (.slot 6) (.slot 6)) (.bin .mul (.lit (.int a2)) (.getK (.slot 0) (Sum.inr kd)))) (.lit (.int b2)))]) (.lit (.int n2)))), (.ret (.bin .mod (.bi .int [(.bin .fdiv (.bin .mod (.bi .int [(.bin .add (.bin .mul (.slot 6) (.slot 6)) (.bin .mul (.lit (.int a3)) (.slot 6)))]) (.lit (.int n3))) (.lit (.int q)))]) (.slot 1)))]
theorem take_is {ns : List Int} {n0 : Nat} : cutD (ns.map D.int) none (some (n0 : Int)) = (ns.take n0).map .int := by
  unfold cutD
  have e : HT.sIx (ns.map D.int).length 0 none = 0 := rfl
  rw [e, List.drop_zero, Nat.sub_zero, List.map_take]
  have e2 : HT.sIx (ns.map D.int).length (ns.map D.int).length (some (n0 : Int)) = min n0 (ns.map D.int).length := by
    unfold HT.sIx
    simp
    omega
  rw [e2]
  rw [List.take_eq_take_iff]
  omega
theorem feed3_ok (kc ks kl kd : Str) (n0 : Nat) (hk : (kc :: ks :: kl :: [kd]).Nodup) (Φ : Fns) {ns : List Int} : meanOf 3 (feed3T kc ks kl kd n0) Φ [.scr ns] [] = .ok (.ptr 0) [feedD kc ks kl kd (ns.take n0) 0 0 0] := by
  have ht : turns [2] [1, 2] (startS 3 [.scr ns]) (fun S g => evt Φ [] S g) (fun S g => ev Φ (.bi .int [.slot 2]) S g) ((ns.take n0).map .int) [] [] = .ok ((ns.take n0).map .int) [] := by
    rw [turns_map (fun d => d) ((ns.take n0).map .int) []]
    · simp; rfl
    · intro d hd
      obtain ⟨i, _, rfl⟩ := List.mem_map.mp hd
      exact ⟨_, rfl, rfl, rfl⟩
  have he : ev Φ (.comp (.seq (.slice (.slot 0) none (some (.lit (.int n0))))) [2] [1, 2] [] (.bi .int [.slot 2])) (startS 3 [.scr ns]) [] = .ok (.lst ((ns.take n0).map .int)) [] := by
    have e1 : evi Φ (.seq (.slice (.slot 0) none (some (.lit (.int n0))))) (startS 3 [.scr ns]) [] = .ok (cutD (ns.map .int) none (some (n0 : Int))) [] := rfl
    rw [take_is] at e1
    rw [ev_comp, e1, ok_bind, ht, ok_bind]
  have hm : dMerge [] [((Sum.inr kc : Key), D.lst ((ns.take n0).map .int)), (Sum.inr ks, .int 0), (Sum.inr kl, .int 0), (Sum.inr kd, .int 0)] = [(Sum.inr kc, .lst ((ns.take n0).map .int)), (Sum.inr ks, .int 0), (Sum.inr kl, .int 0), (Sum.inr kd, .int 0)] := by
    simp only [List.nodup_cons, List.mem_cons, List.not_mem_nil, or_false, not_or, List.nodup_nil, and_true, not_false_eq_true] at hk
    obtain ⟨⟨h1, h2, h3⟩, ⟨h4, h5⟩, h6⟩ := hk
    simp [dMerge, dPut, h1, h2, h3, h4, h5, h6, Ne.symm h1]
  unfold meanOf runBody feed3T
  rw [execs_cons, exec_ret, ev_mkD, evs_cons, he]
  show Res.ok (D.ptr 0) [MObj.dict (dMerge [] [((Sum.inr kc : Key), D.lst ((ns.take n0).map .int)), (Sum.inr ks, .int 0), (Sum.inr kl, .int 0), (Sum.inr kd, .int 0)])] = _
  rw [hm]
theorem draw3_ok {kc ks kl kd : Str} {c0 m1 a1 b1 n1 a2 b2 n2 a3 n3 q : Int} (hk : [kc, ks, kl, kd].Nodup) (hm1 : 0 < m1) (ha1 : a1.natAbs < 18446744073709551616) (hn1 : 0 < n1) (hn1' : n1 < 18446744073709551616) (ha2 : a2.natAbs < 18446744073709551616) (hn2 : 0 < n2) (hn2' : n2 < 18446744073709551616) (ha3 : a3.natAbs < 18446744073709551616) (hn3 : 0 < n3) (hq : 0 < q) (hq' : q < 1073741824)
    (Φ : Fns) (c : List Int) (s l d hi : Int) (h0 : 0 < hi) (h1 : hi < 1073741824) : ∃ v s' l' d', 0 ≤ v ∧ v < hi ∧ meanOf 7 (draw3T kc ks kl kd c0 m1 a1 b1 n1 a2 b2 n2 a3 n3 q) Φ [.ptr 0, .int hi] [feedD kc ks kl kd c s l d] = .ok (.int v) [feedD kc ks kl kd c s' l' d'] := by
  have md : ∀ x : Int, 0 ≤ x % hi ∧ x % hi < hi := fun x => ⟨Int.emod_nonneg _ (by omega), Int.emod_lt_of_pos _ h0⟩
  have abs_lt : ∀ x n : Int, 0 < n → n < 18446744073709551616 → (x % n).natAbs < 18446744073709551616 := fun x n hn hn' => by
    have := Int.emod_nonneg x (show n ≠ 0 by omega)
    have := Int.emod_lt_of_pos x hn
    omega
  generalize eS : startS 7 [D.ptr 0, D.int hi] = S0
  have s0 : getSl S0 0 = some (.ptr 0) := by subst eS; rfl
  have s1 : getSl S0 1 = some (.int hi) := by subst eS; rfl
  have st1 : exec Φ (.setK (.slot 0) (Sum.inr kd) (.bin .add (.getK (.slot 0) (Sum.inr kd)) (.lit (.int 1)))) S0 [feedD kc ks kl kd c s l d] = .next S0 [feedD kc ks kl kd c s l (d + 1)] := put_kd hk s0 (e_add (get_kd hk s0) ev_lit)
  have hc1 := e_gt (Φ := Φ) (get_kl (Φ := Φ) (c := c) (s := s) (l := l) (d := d + 1) hk s0) (ev_lit (d := .int 0))
  by_cases hl : 0 < l
  · have e2 : (S0.set 2 (some (SV.dat (D.int (l % hi))))) = startS 7 [D.ptr 0, D.int hi, D.int (l % hi)] := by subst eS; rfl
    have t0 : getSl (startS 7 [D.ptr 0, D.int hi, D.int (l % hi)]) 0 = some (.ptr 0) := rfl
    have t1 : getSl (startS 7 [D.ptr 0, D.int hi, D.int (l % hi)]) 1 = some (.int hi) := rfl
    have t2 : getSl (startS 7 [D.ptr 0, D.int hi, D.int (l % hi)]) 2 = some (.int (l % hi)) := rfl
    refine ⟨l % hi, s, l / hi, d + 1, (md l).1, (md l).2, run_ret ?_⟩
    rw [eS, draw3T, execs_next st1]
    refine execs_ret ((exec_ifT hc1 (by rw [decide_eq_true hl]; rfl)).trans ?_)
    rw [execs_next (exec_set1 (e_mod (e_int (get_kl hk s0)) (e_slot s1) h0)), e2, execs_next (put_kl hk t0 (e_fdiv (get_kl hk t0) (e_slot t1) h0 h1))]
    exact execs_ret (exec_retE (e_slot t2))
  · have st2 : ∀ a b, b = [] → exec Φ (.if_ (.cmp .gt (.getK (.slot 0) (Sum.inr kl)) (.lit (.int 0))) a b) S0 [feedD kc ks kl kd c s l (d + 1)] = .next S0 [feedD kc ks kl kd c s l (d + 1)] := fun a b hb => by
      subst hb
      exact (exec_ifF hc1 (by rw [decide_eq_false hl]; rfl)).trans execs_nil
    generalize eS2 : ((S0.set 3 (some (SV.dat (.lst (c.map .int))))).set 4 (some (SV.dat (.int s)))) = S2
    have st3 : exec Φ (.par 3 4 (.getK (.slot 0) (Sum.inr kc)) (.getK (.slot 0) (Sum.inr ks))) S0 [feedD kc ks kl kd c s l (d + 1)] = .next S2 [feedD kc ks kl kd c s l (d + 1)] := by
      rw [← eS2]; exact exec_parE (get_kc hk s0) (get_ks hk s0)
    have u0 : getSl S2 0 = some (.ptr 0) := by subst eS2 eS; rfl
    have u1 : getSl S2 1 = some (.int hi) := by subst eS2 eS; rfl
    have u3 : getSl S2 4 = some (.int s) := by subst eS2 eS; rfl
    have u4 : getSl S2 3 = some (.lst (c.map .int)) := by subst eS2 eS; rfl
    have st4 : exec Φ (.setK (.slot 0) (Sum.inr ks) (.bin .add (.slot 4) (.lit (.int 1)))) S2 [feedD kc ks kl kd c s l (d + 1)] = .next S2 [feedD kc ks kl kd c (s + 1) l (d + 1)] := put_ks hk u0 (e_add (e_slot u3) ev_lit)
    have cellv : ∃ x : Int, ev Φ (.ite (.cmp .ne (.slot 3) (.lst [])) (.idx (.slot 3) (.bin .mod (.bi .int [.slot 4]) (.bi .len [.slot 3]))) (.lit (.int c0))) S2 [feedD kc ks kl kd c (s + 1) l (d + 1)] = .ok (.int x) [feedD kc ks kl kd c (s + 1) l (d + 1)] := by
      have e1 : ev Φ (.cmp .ne (.slot 3) (.lst [])) S2 [feedD kc ks kl kd c (s + 1) l (d + 1)] = .ok (.bl (!c.isEmpty)) [feedD kc ks kl kd c (s + 1) l (d + 1)] := by
        rw [ev_cmp, e_slot u4, ok_bind, ev_lst, evs_nil, ok_bind, ne_nil_ints]; rfl
      rw [ev_ite, e1, ok_bind]
      by_cases hc : c = []
      · subst hc; exact ⟨c0, rfl⟩
      · have hne : c.isEmpty = false := by cases c with | nil => exact absurd rfl hc | cons _ _ => rfl
        have hpos : 0 < c.length := by cases c with | nil => exact absurd rfl hc | cons _ _ => simp
        rw [hne]
        show ∃ x, ev Φ (.idx (.slot 3) (.bin .mod (.bi .int [.slot 4]) (.bi .len [.slot 3]))) S2 _ = _
        have e3 : ev Φ (.bi .len [.slot 3]) S2 [feedD kc ks kl kd c (s + 1) l (d + 1)] = .ok (.int (c.length : Int)) [feedD kc ks kl kd c (s + 1) l (d + 1)] := by
          rw [ev_bi, evs_cons, e_slot u4, ok_bind, evs_nil, ok_bind]
          show lift (some (D.int ((c.map D.int).length : Int))) _ = _
          rw [List.length_map]; rfl
        have e4 := e_mod (e_int (e_slot (Φ := Φ) (g := [feedD kc ks kl kd c (s + 1) l (d + 1)]) u3)) e3 (by omega)
        rw [ev_idx, e_slot u4, ok_bind, e4, ok_bind]
        have b1 := Int.emod_nonneg s (show ((c.length : Nat) : Int) ≠ 0 by omega)
        have b2 := Int.emod_lt_of_pos s (show (0 : Int) < ((c.length : Nat) : Int) by omega)
        obtain ⟨k, hkn⟩ : ∃ k : Nat, s % (c.length : Int) = (k : Int) := ⟨(s % (c.length : Int)).toNat, by omega⟩
        have hkl : k < c.length := by omega
        refine ⟨c[k], ?_⟩
        have : atI (c.map D.int) (s % (c.length : Int)) = some (.int c[k]) := by
          rw [hkn]
          exact atI_nat (by rw [List.getElem?_map, List.getElem?_eq_getElem hkl]; rfl)
        show lift (atI (c.map D.int) (s % (c.length : Int))) _ = _
        rw [this]; rfl
    obtain ⟨x, hx⟩ := cellv
    generalize eS3 : S2.set 5 (some (SV.dat (.int x))) = S3
    have st5 := exec_set1 (i := 5) hx
    rw [eS3] at st5
    have w0 : getSl S3 0 = some (.ptr 0) := by subst eS3 eS2 eS; rfl
    have w1 : getSl S3 1 = some (.int hi) := by subst eS3 eS2 eS; rfl
    have w3 : getSl S3 4 = some (.int s) := by subst eS3 eS2 eS; rfl
    have w4 : getSl S3 3 = some (.lst (c.map .int)) := by subst eS3 eS2 eS; rfl
    have w5 : getSl S3 5 = some (.int x) := by subst eS3 eS2 eS; rfl
    have cnd : ∃ b : Bool, ev Φ (.and_ (.cmp .ge (.slot 5) (.bin .pow (.lit (.int 10)) (.lit (.int 18)))) (.cmp .lt (.slot 4) (.bi .len [.slot 3]))) S3 [feedD kc ks kl kd c (s + 1) l (d + 1)] = .ok (.bl b) [feedD kc ks kl kd c (s + 1) l (d + 1)] := by
      have p1 : ev Φ (.bin .pow (.lit (.int 10)) (.lit (.int 18))) S3 [feedD kc ks kl kd c (s + 1) l (d + 1)] = .ok (.int 1000000000000000000) [feedD kc ks kl kd c (s + 1) l (d + 1)] := rfl
      have p2 : ev Φ (.bi .len [.slot 3]) S3 [feedD kc ks kl kd c (s + 1) l (d + 1)] = .ok (.int ((c.map D.int).length : Int)) [feedD kc ks kl kd c (s + 1) l (d + 1)] := by
        rw [ev_bi, evs_cons, e_slot w4, ok_bind, evs_nil, ok_bind]; rfl
      rw [ev_and, e_ge (e_slot w5) p1, ok_bind]
      cases h : decide ((1000000000000000000 : Int) ≤ x) with
      | true => exact ⟨_, e_lt (e_slot w3) p2⟩
      | false => exact ⟨false, rfl⟩
    obtain ⟨b, hb⟩ := cnd
    cases b with
    | true =>
      refine ⟨x % hi, s + 1, x / hi, d + 1, (md x).1, (md x).2, run_ret ?_⟩
      rw [eS, draw3T, execs_next st1, execs_next (st2 _ _ rfl), execs_next st3, execs_next st4, execs_next st5]
      refine execs_ret ((exec_ifT hb rfl).trans ?_)
      rw [execs_next (put_kl hk w0 (e_fdiv (e_slot w5) (e_slot w1) h0 h1))]
      exact execs_ret (exec_retE (e_mod (e_int (e_slot w5)) (e_slot w1) h0))
    | false =>
      have st6 : ∀ a b, b = [] → exec Φ (.if_ (.and_ (.cmp .ge (.slot 5) (.bin .pow (.lit (.int 10)) (.lit (.int 18)))) (.cmp .lt (.slot 4) (.bi .len [.slot 3]))) a b) S3 [feedD kc ks kl kd c (s + 1) l (d + 1)] = .next S3 [feedD kc ks kl kd c (s + 1) l (d + 1)] := fun a b hb2 => by
        subst hb2
        exact (exec_ifF hb rfl).trans execs_nil
      generalize eg : [feedD kc ks kl kd c (s + 1) l (d + 1)] = g3 at *
      have gd : ∀ {S : Sl}, getSl S 0 = some (.ptr 0) → ev Φ (.getK (.slot 0) (Sum.inr kd)) S g3 = .ok (.int (d + 1)) g3 := fun h => by rw [← eg]; exact get_kd hk h
      have v1 := e_mod (e_int (e_add (e_add (e_mod (e_int (e_slot (Φ := Φ) (g := g3) w5)) (ev_lit (d := .int m1)) hm1) (e_mul (ev_lit (d := .int a1)) (gd w0) ha1)) (ev_lit (d := .int b1)))) (ev_lit (d := .int n1)) hn1
      generalize ((x % m1 + a1 * (d + 1) + b1) : Int) = y1 at v1
      have st7 := exec_set1 (i := 6) v1
      generalize eS4 : S3.set 6 (some (SV.dat (.int (y1 % n1)))) = S4 at st7
      have z0 : getSl S4 0 = some (.ptr 0) := by subst eS4 eS3 eS2 eS; rfl
      have z6 : getSl S4 6 = some (.int (y1 % n1)) := by subst eS4 eS3 eS2 eS; rfl
      have v2 := e_mod (e_int (e_add (e_add (e_mul (e_slot (Φ := Φ) (g := g3) z6) (e_slot z6) (abs_lt y1 n1 hn1 hn1')) (e_mul (ev_lit (d := .int a2)) (gd z0) ha2)) (ev_lit (d := .int b2)))) (ev_lit (d := .int n2)) hn2
      generalize ((y1 % n1 * (y1 % n1) + a2 * (d + 1) + b2) : Int) = y2 at v2
      have st8 := exec_set1 (i := 6) v2
      generalize eS5 : S4.set 6 (some (SV.dat (.int (y2 % n2)))) = S5 at st8
      have q1 : getSl S5 1 = some (.int hi) := by subst eS5 eS4 eS3 eS2 eS; rfl
      have q6 : getSl S5 6 = some (.int (y2 % n2)) := by subst eS5 eS4 eS3 eS2 eS; rfl
      have v3 := e_mod (e_int (e_fdiv (e_mod (e_int (e_add (e_mul (e_slot (Φ := Φ) (g := g3) q6) (e_slot q6) (abs_lt y2 n2 hn2 hn2')) (e_mul (ev_lit (d := .int a3)) (e_slot q6) ha3))) (ev_lit (d := .int n3)) hn3) (ev_lit (d := .int q)) hq hq')) (e_slot q1) h0
      refine ⟨(y2 % n2 * (y2 % n2) + a3 * (y2 % n2)) % n3 / q % hi, s + 1, l, d + 1, (md _).1, (md _).2, run_ret ?_⟩
      rw [eS, draw3T, execs_next st1, execs_next (st2 _ _ rfl), execs_next st3, execs_next st4, execs_next st5, execs_next (st6 _ _ rfl), execs_next st7, execs_next st8, eg]
      exact execs_ret (exec_retE v3)
end SH

set_option Elab.async false
set_option linter.all false
set_option autoImplicit false
set_option maxRecDepth 100000
set_option maxHeartbeats 4000000
/-! what the evaluator tells, by what is wanted behind -/
namespace SH
open PySem PySem.Spec PyProof.Rows L2 LamX
@[irreducible] def Ok {α : Type} (r : Res α) (Q : α → G → Prop) : Prop := match r with
  | .ok a g => Q a g
  | _ => False
theorem Ok.mk {α : Type} {r : Res α} {Q : α → G → Prop} {a : α} {g : G} (h : r = .ok a g) (q : Q a g) : Ok r Q := by
  with_unfolding_all rw [h]; exact q
theorem Ok.eq {α : Type} {r : Res α} {a : α} {g : G} (h : Ok r (fun x g' => x = a ∧ g' = g)) : r = .ok a g := by
  with_unfolding_all
  cases r with
  | ok x g' => unfold Ok at h; obtain ⟨rfl, rfl⟩ := h; rfl
  | exc _ _ => exact h.elim
  | bad => exact h.elim
theorem Ok.get {α : Type} {r : Res α} {Q : α → G → Prop} (h : Ok r Q) : ∃ a g, r = .ok a g ∧ Q a g := by
  with_unfolding_all
  cases r with
  | ok x g' => exact ⟨x, g', rfl, h⟩
  | exc _ _ => exact h.elim
  | bad => exact h.elim
theorem Ok.imp {α : Type} {r : Res α} {Q Q' : α → G → Prop} (h : Ok r Q) (k : ∀ a g, Q a g → Q' a g) : Ok r Q' := by
  with_unfolding_all
  cases r with
  | ok x g' => exact k _ _ h
  | exc _ _ => exact h
  | bad => exact h
theorem Ok.bnd {α β : Type} {r : Res α} {f : α → G → Res β} {Q : β → G → Prop} (h : Ok r (fun a g => Ok (f a g) Q)) : Ok (r.bind f) Q := by
  with_unfolding_all
  cases r with
  | ok x g' => exact h
  | exc _ _ => exact h
  | bad => exact h
@[irreducible] def W (Φ : Fns) (e : ME) (S : Sl) (g : G) (Q : D → G → Prop) : Prop := Ok (ev Φ e S g) Q
@[irreducible] def Ws (Φ : Fns) (es : List ME) (S : Sl) (g : G) (Q : List D → G → Prop) : Prop := Ok (evs Φ es S g) Q
@[irreducible] def Wi (Φ : Fns) (it : MI) (S : Sl) (g : G) (Q : List D → G → Prop) : Prop := Ok (evi Φ it S g) Q
@[irreducible] def Wt (Φ : Fns) (es : List ME) (S : Sl) (g : G) (Q : Bool → G → Prop) : Prop := Ok (evt Φ es S g) Q
@[irreducible] def WT (Φ : Fns) (e : ME) (S : Sl) (g : G) (Q : Bool → G → Prop) : Prop := Ok (evT Φ e S g) Q
@[irreducible] def Wo (Φ : Fns) (e : Option ME) (S : Sl) (g : G) (Q : Option Int → G → Prop) : Prop := Ok (evo Φ e S g) Q
section
variable {Φ : Fns} {S : Sl} {g : G} {Q : D → G → Prop} {Ql : List D → G → Prop} {Qb : Bool → G → Prop} {Qo : Option Int → G → Prop}
theorem W.slot {i : Nat} {d : D} (h : getSl S i = some d) (q : Q d g) : W Φ (.slot i) S g Q := by
  with_unfolding_all
  show Ok (lift (getSl S i) g) Q
  rw [h]; exact q
theorem W.lit {d : D} (q : Q d g) : W Φ (.lit d) S g Q := by
  with_unfolding_all exact q
theorem W.tup {es : List ME} (h : Ws Φ es S g (fun l g => Q (.tup l) g)) : W Φ (.tup es) S g Q := by
  with_unfolding_all exact Ok.bnd h
theorem W.lst {es : List ME} (h : Ws Φ es S g (fun l g => Q (.lst l) g)) : W Φ (.lst es) S g Q := by
  with_unfolding_all exact Ok.bnd h
theorem W.bin {o : BOp} {a b : ME} (h : W Φ a S g (fun x g => W Φ b S g (fun y g => Ok (lift (bin o x y) g) Q))) : W Φ (.bin o a b) S g Q := by
  with_unfolding_all exact Ok.bnd (Ok.imp h fun x g h => Ok.bnd h)
theorem W.neg {a : ME} (h : W Φ a S g (fun x g => ∃ i, x = .int i ∧ Q (.int (-i)) g)) : W Φ (.neg a) S g Q := by
  with_unfolding_all exact Ok.bnd (Ok.imp h fun x g ⟨i, e, q⟩ => by subst e; exact q)
theorem W.cmp {o : COp} {a b : ME} (h : W Φ a S g (fun x g => W Φ b S g (fun y g => Ok (lift (cmp o x y) g) (fun b g => Q (.bl b) g)))) : W Φ (.cmp o a b) S g Q := by
  with_unfolding_all exact Ok.bnd (Ok.imp h fun x g h => Ok.bnd (Ok.imp h fun y g h => Ok.bnd h))
theorem W.isN {a : ME} (h : W Φ a S g (fun x g => Q (.bl x.isNon) g)) : W Φ (.isN a) S g Q := by
  with_unfolding_all exact Ok.bnd h
theorem W.notN {a : ME} (h : W Φ a S g (fun x g => Q (.bl (!x.isNon)) g)) : W Φ (.notN a) S g Q := by
  with_unfolding_all exact Ok.bnd h
theorem W.and_ {a b : ME} (h : W Φ a S g (fun x g => ∃ c, truth x = some c ∧ (c = true → W Φ b S g Q) ∧ (c = false → Q x g))) : W Φ (.and_ a b) S g Q := by
  with_unfolding_all exact Ok.bnd (Ok.imp h fun x g ⟨c, e, h1, h2⟩ => by
  rw [e]
  cases c with
  | true => exact h1 rfl
  | false => exact h2 rfl)
theorem W.or_ {a b : ME} (h : W Φ a S g (fun x g => ∃ c, truth x = some c ∧ (c = true → Q x g) ∧ (c = false → W Φ b S g Q))) : W Φ (.or_ a b) S g Q := by
  with_unfolding_all exact Ok.bnd (Ok.imp h fun x g ⟨c, e, h1, h2⟩ => by
  rw [e]
  cases c with
  | true => exact h1 rfl
  | false => exact h2 rfl)
theorem W.not_ {a : ME} (h : W Φ a S g (fun x g => ∃ c, truth x = some c ∧ Q (.bl (!c)) g)) : W Φ (.not_ a) S g Q := by
  with_unfolding_all exact Ok.bnd (Ok.imp h fun x g ⟨c, e, q⟩ => Ok.bnd (by rw [e]; exact q))
theorem W.ite {c a b : ME} (h : W Φ c S g (fun x g => ∃ t, truth x = some t ∧ (t = true → W Φ a S g Q) ∧ (t = false → W Φ b S g Q))) : W Φ (.ite c a b) S g Q := by
  with_unfolding_all exact Ok.bnd (Ok.imp h fun x g ⟨c, e, h1, h2⟩ => by
  rw [e]
  cases c with
  | true => exact h1 rfl
  | false => exact h2 rfl)
theorem W.call {f : Nat} {pat : List (Nat ⊕ D)} {es : List ME} (h : Ws Φ es S g (fun l g => ∃ ds, pickAll l pat = some ds ∧ Ok (Φ f ds g) Q)) : W Φ (.call f pat es) S g Q := by
  with_unfolding_all exact Ok.bnd (Ok.imp h fun l g ⟨ds, e, h⟩ => by rw [e]; exact h)
theorem W.bi {b : BI} {es : List ME} (h : Ws Φ es S g (fun l g => Ok (lift (bi b l) g) Q)) : W Φ (.bi b es) S g Q := by
  with_unfolding_all exact Ok.bnd h
theorem W.idx {a b : ME} (h : W Φ a S g (fun x g => W Φ b S g (fun y g => Ok (lift (idx x y) g) Q))) : W Φ (.idx a b) S g Q := by
  with_unfolding_all exact Ok.bnd (Ok.imp h fun x g h => Ok.bnd h)
theorem W.slice {a : ME} {lo hi : Option ME} (h : W Φ a S g (fun x g => Wo Φ lo S g (fun l g => Wo Φ hi S g (fun h g => Ok (lift (slice x l h) g) Q)))) : W Φ (.slice a lo hi) S g Q := by
  with_unfolding_all exact Ok.bnd (Ok.imp h fun x g h => Ok.bnd (Ok.imp h fun y g h => Ok.bnd h))
theorem W.rev {a : ME} (h : W Φ a S g (fun x g => Ok (lift (revD x) g) Q)) : W Φ (.rev a) S g Q := by
  with_unfolding_all exact Ok.bnd h
theorem W.comp {it : MI} {tg vs : List Nat} {ifs : List ME} {elt : ME} (h : Wi Φ it S g (fun l g => Ok (turns tg vs S (fun S g => evt Φ ifs S g) (fun S g => ev Φ elt S g) l [] g) (fun l g => Q (.lst l) g))) : W Φ (.comp it tg vs ifs elt) S g Q := by
  with_unfolding_all exact Ok.bnd (Ok.imp h fun l g h => Ok.bnd h)
theorem Wo.none (q : Qo none g) : Wo Φ none S g Qo := by
  with_unfolding_all exact q
theorem Wo.some {e : ME} (h : W Φ e S g (fun x g => ∃ i, x = .int i ∧ Qo (some i) g)) : Wo Φ (some e) S g Qo := by
  with_unfolding_all exact Ok.bnd (Ok.imp h fun x g ⟨i, e, q⟩ => by subst e; exact q)
theorem Ws.nil (q : Ql [] g) : Ws Φ [] S g Ql := by
  with_unfolding_all exact q
theorem Ws.cons {e : ME} {es : List ME} (h : W Φ e S g (fun x g => Ws Φ es S g (fun l g => Ql (x :: l) g))) : Ws Φ (e :: es) S g Ql := by
  with_unfolding_all exact Ok.bnd (Ok.imp h fun x g h => Ok.bnd h)
theorem Wt.nil (q : Qb true g) : Wt Φ [] S g Qb := by
  with_unfolding_all exact q
theorem Wt.cons {e : ME} {es : List ME} (h : W Φ e S g (fun x g => ∃ c, truth x = some c ∧ (c = true → Wt Φ es S g Qb) ∧ (c = false → Qb false g))) : Wt Φ (e :: es) S g Qb := by
  with_unfolding_all exact Ok.bnd (Ok.imp h fun x g ⟨c, e, h1, h2⟩ => by
  rw [e]
  cases c with
  | true => exact h1 rfl
  | false => exact h2 rfl)
theorem WT.mk {e : ME} (h : W Φ e S g (fun x g => ∃ c, truth x = some c ∧ Qb c g)) : WT Φ e S g Qb := by
  with_unfolding_all exact Ok.bnd (Ok.imp h fun x g ⟨c, e, q⟩ => by rw [e]; exact q)
theorem Wi.seq {e : ME} (h : W Φ e S g (fun x g => ∃ l, seqL x = some l ∧ Ql l g)) : Wi Φ (.seq e) S g Ql := by
  with_unfolding_all exact Ok.bnd (Ok.imp h fun x g ⟨l, e, q⟩ => by rw [e]; exact q)
theorem Wi.enum {e : ME} (h : W Φ e S g (fun x g => ∃ l, enumD x = some l ∧ Ql l g)) : Wi Φ (.enum e) S g Ql := by
  with_unfolding_all exact Ok.bnd (Ok.imp h fun x g ⟨l, e, q⟩ => by rw [e]; exact q)
theorem Wi.zip {a b : ME} (h : W Φ a S g (fun x g => W Φ b S g (fun y g => ∃ l, zipD x y = some l ∧ Ql l g))) : Wi Φ (.zip a b) S g Ql := by
  with_unfolding_all exact Ok.bnd (Ok.imp h fun x g h => Ok.bnd (Ok.imp h fun y g ⟨l, e, q⟩ => by rw [e]; exact q))
theorem rangeL_nat (n : Nat) : rangeL 0 (n : Int) = (List.range n).map fun (i : Nat) => .int (i : Int) := by
  with_unfolding_all
  unfold rangeL
  rw [show ((n : Int) - 0).toNat = n by omega]
  refine List.map_congr_left fun i _ => ?_
  rw [Int.zero_add]
theorem rangeL_from (a n : Nat) : rangeL (a : Int) (n : Int) = (List.range (n - a)).map fun (i : Nat) => .int ((a + i : Nat) : Int) := by
  with_unfolding_all
  unfold rangeL
  rw [show ((n : Int) - a).toNat = n - a by omega]
  refine List.map_congr_left fun i _ => ?_
  rw [Int.natCast_add]
theorem Wi.range {lo hi : ME} (h : W Φ lo S g (fun x g => W Φ hi S g (fun y g => ∃ (a n : Nat), x = .int a ∧ y = .int n ∧ a ≤ 16777216 ∧ n ≤ 16777216 ∧ Ql ((List.range (n - a)).map fun (i : Nat) => .int ((a + i : Nat) : Int)) g))) : Wi Φ (.range lo hi) S g Ql := by
  with_unfolding_all exact Ok.bnd (Ok.imp h fun x g h => Ok.bnd (Ok.imp h fun y g ⟨a, n, e1, e2, ha, hn, q⟩ => by
  subst e1 e2
  have c : (-4611686018427387904 ≤ (a : Int) && (a : Int) < 4611686018427387904 && -4611686018427387904 ≤ (n : Int) && (n : Int) < 4611686018427387904 && Nat.ble ((n : Int) - a).toNat sizeLine) = true := by
    simp only [Bool.and_eq_true, decide_eq_true_eq]
    refine ⟨⟨⟨⟨by omega, by omega⟩, by omega⟩, by omega⟩, Nat.ble_eq_true_of_le ?_⟩
    rw [sizeLine_eq]; omega
  simp only [c, if_true]
  rw [rangeL_from]
  exact q))
theorem Wi.range0 {hi : ME} (h : W Φ hi S g (fun y g => ∃ (n : Nat), y = .int n ∧ n ≤ 16777216 ∧ Ql ((List.range n).map fun (i : Nat) => .int (i : Int)) g)) : Wi Φ (.range (.lit (.int 0)) hi) S g Ql := by
  with_unfolding_all
  refine Wi.range (W.lit (Ok.imp h fun y g ⟨n, e, hn, q⟩ => ⟨0, n, rfl, e, by omega, hn, ?_⟩))
  have : ((List.range (n - 0)).map fun (i : Nat) => D.int ((0 + i : Nat) : Int)) = (List.range n).map fun (i : Nat) => .int (i : Int) := by
    rw [Nat.sub_zero]
    refine List.map_congr_left fun i _ => ?_
    rw [Nat.zero_add]
  rw [this]; exact q
/-! ### operations -/
theorem Ok.lift {α : Type} {o : Option α} {a : α} {Q : α → G → Prop} (h : o = some a) (q : Q a g) : Ok (lift o g) Q := by
  with_unfolding_all rw [h]; exact q
theorem o_add {i j : Int} (q : Q (.int (i + j)) g) : Ok (SH.lift (SH.bin .add (.int i) (.int j)) g) Q := by
  with_unfolding_all exact q
theorem o_sub {i j : Int} (q : Q (.int (i - j)) g) : Ok (SH.lift (SH.bin .sub (.int i) (.int j)) g) Q := by
  with_unfolding_all exact q
theorem o_mul {i j : Int} (h : i.natAbs < 18446744073709551616 ∨ j.natAbs < 18446744073709551616) (q : Q (.int (i * j)) g) : Ok (SH.lift (SH.bin .mul (.int i) (.int j)) g) Q := by
  with_unfolding_all
  refine Ok.lift (a := .int (i * j)) ?_ q
  show (if _ then _ else _) = _
  rw [if_pos]
  rcases h with h | h <;> simp [h]
theorem o_mod {i j : Int} (h : 0 < j) (q : Q (.int (i % j)) g) : Ok (SH.lift (SH.bin .mod (.int i) (.int j)) g) Q := by
  with_unfolding_all
  refine Ok.lift (a := .int (i % j)) ?_ q
  show (if _ then _ else _) = _
  rw [if_pos h]
theorem o_fdiv {i j : Int} (h : 0 < j) (h2 : j < 1073741824) (q : Q (.int (i / j)) g) : Ok (SH.lift (SH.bin .fdiv (.int i) (.int j)) g) Q := by
  with_unfolding_all
  refine Ok.lift (a := .int (i / j)) ?_ q
  show (if _ then _ else _) = _
  rw [if_pos (by simp [h, h2])]
theorem o_addT {x y : List D} (h : x.length + y.length ≤ 16777216) (q : Q (.tup (x ++ y)) g) : Ok (SH.lift (SH.bin .add (.tup x) (.tup y)) g) Q := by
  with_unfolding_all
  refine Ok.lift (a := .tup (x ++ y)) ?_ q
  show (if _ then _ else _) = _
  rw [if_pos (show sizeOk _ = true from Nat.ble_eq_true_of_le (by rw [sizeLine_eq]; exact h))]
theorem o_addL {x y : List D} (h : x.length + y.length ≤ 16777216) (q : Q (.lst (x ++ y)) g) : Ok (SH.lift (SH.bin .add (.lst x) (.lst y)) g) Q := by
  with_unfolding_all
  refine Ok.lift (a := .lst (x ++ y)) ?_ q
  show (if _ then _ else _) = _
  rw [if_pos (show sizeOk _ = true from Nat.ble_eq_true_of_le (by rw [sizeLine_eq]; exact h))]
theorem o_mulT {x : List D} {n : Int} (h1 : -1000 ≤ n) (h2 : n ≤ 1000) (h : x.length ≤ 1000) (q : Q (.tup (List.replicate n.toNat x).flatten) g) : Ok (SH.lift (SH.bin .mul (.tup x) (.int n)) g) Q := by
  with_unfolding_all
  refine Ok.lift (a := .tup (List.replicate n.toNat x).flatten) ?_ q
  show (if _ then _ else _) = _
  rw [if_pos (by simp [h1, h2, Nat.ble_eq_true_of_le h])]
theorem o_lt {i j : Int} {Q : Bool → G → Prop} (q : Q (decide (i < j)) g) : Ok (SH.lift (SH.cmp .lt (.int i) (.int j)) g) Q := by
  with_unfolding_all exact q
theorem o_le {i j : Int} {Q : Bool → G → Prop} (q : Q (decide (i ≤ j)) g) : Ok (SH.lift (SH.cmp .le (.int i) (.int j)) g) Q := by
  with_unfolding_all exact q
theorem o_gt {i j : Int} {Q : Bool → G → Prop} (q : Q (decide (j < i)) g) : Ok (SH.lift (SH.cmp .gt (.int i) (.int j)) g) Q := by
  with_unfolding_all exact q
theorem o_ge {i j : Int} {Q : Bool → G → Prop} (q : Q (decide (j ≤ i)) g) : Ok (SH.lift (SH.cmp .ge (.int i) (.int j)) g) Q := by
  with_unfolding_all exact q
theorem o_eqI {i j : Int} {Q : Bool → G → Prop} (q : Q (i == j) g) : Ok (SH.lift (SH.cmp .eq (.int i) (.int j)) g) Q := by
  with_unfolding_all exact q
theorem o_neI {i j : Int} {Q : Bool → G → Prop} (q : Q (!(i == j)) g) : Ok (SH.lift (SH.cmp .ne (.int i) (.int j)) g) Q := by
  with_unfolding_all exact q
theorem o_idxT {l : List D} {i : Nat} {d : D} (h : l[i]? = some d) (q : Q d g) : Ok (SH.lift (SH.idx (.tup l) (.int i)) g) Q := by
  with_unfolding_all
  refine Ok.lift (a := d) ?_ q
  have hi := (List.getElem?_eq_some_iff.mp h).1
  show atI l (i : Int) = some d
  unfold atI ixN
  rw [if_pos (by omega), if_pos (by omega)]
  exact h
theorem o_idxL {l : List D} {i : Nat} {d : D} (h : l[i]? = some d) (q : Q d g) : Ok (SH.lift (SH.idx (.lst l) (.int i)) g) Q := by
  with_unfolding_all
  refine Ok.lift (a := d) ?_ q
  have hi := (List.getElem?_eq_some_iff.mp h).1
  show atI l (i : Int) = some d
  unfold atI ixN
  rw [if_pos (by omega), if_pos (by omega)]
  exact h
theorem cut_nat (l : List D) (i j : Nat) (hi : i ≤ j) : cutD l (some (i : Int)) (some (j : Int)) = (l.drop i).take (j - i) := by
  with_unfolding_all
  unfold cutD
  rw [HT.sIx_nat, HT.sIx_nat]
  by_cases h : i ≤ l.length
  · rw [Nat.min_eq_left h]
    by_cases h2 : j ≤ l.length
    · rw [Nat.min_eq_left h2]
    · rw [Nat.min_eq_right (by omega), List.take_of_length_le (by simp), List.take_of_length_le (by simp; omega)]
  · rw [Nat.min_eq_right (show l.length ≤ i by omega), List.drop_eq_nil_of_le (Nat.le_refl _), List.drop_eq_nil_of_le (show l.length ≤ i by omega)]; simp
theorem cut_to (l : List D) (j : Nat) : cutD l none (some (j : Int)) = l.take j := by
  with_unfolding_all
  unfold cutD
  rw [HT.sIx_nat, HT.sIx_none, List.drop_zero, Nat.sub_zero]
  rw [List.take_eq_take_iff]; omega
theorem cut_from (l : List D) (i : Nat) : cutD l (some (i : Int)) none = l.drop i := by
  with_unfolding_all
  unfold cutD
  rw [HT.sIx_nat, HT.sIx_none]
  by_cases h : i ≤ l.length
  · rw [Nat.min_eq_left h, List.take_of_length_le (by simp)]
  · rw [Nat.min_eq_right (show l.length ≤ i by omega), List.drop_eq_nil_of_le (Nat.le_refl _), List.drop_eq_nil_of_le (show l.length ≤ i by omega)]; simp
theorem cut_all (l : List D) : cutD l none none = l := by
  with_unfolding_all
  unfold cutD
  rw [HT.sIx_none, HT.sIx_none]; simp
/-! ### comprehensions -/
/-- no draws inside -/
theorem c_pure {α : Type} {tg vs : List Nat} {tests : Sl → G → Res Bool} {elt : Sl → G → Res D} (en : α → D) (xs : List α) (p : α → Bool) (f : α → D) {Q : List D → G → Prop}
    (h : ∀ x ∈ xs, ∃ S1, putTg tg (en x) (wipeS S vs) = some S1 ∧ Ok (tests S1 g) (fun b g' => b = p x ∧ g' = g) ∧ (p x = true → Ok (elt S1 g) (fun d g' => d = f x ∧ g' = g)))
    (q : Q ((xs.filter p).map f) g) : Ok (turns tg vs S tests elt (xs.map en) [] g) Q := by
  with_unfolding_all
  have key : ∀ (xs : List α) (acc : List D), (∀ x ∈ xs, ∃ S1, putTg tg (en x) (wipeS S vs) = some S1 ∧ Ok (tests S1 g) (fun b g' => b = p x ∧ g' = g) ∧ (p x = true → Ok (elt S1 g) (fun d g' => d = f x ∧ g' = g))) → turns tg vs S tests elt (xs.map en) acc g = .ok (acc.reverse ++ (xs.filter p).map f) g := by
    intro xs
    induction xs with
    | nil => intro acc _; simp [turns]
    | cons x xs ih =>
      intro acc h
      obtain ⟨S1, h1, h2, h3⟩ := h x List.mem_cons_self
      rw [List.map_cons, turns, h1]
      simp only
      rw [Ok.eq h2]
      cases hp : p x with
      | true =>
        simp only
        rw [Ok.eq (h3 hp)]
        simp only
        rw [ih _ fun y hy => h y (List.mem_cons_of_mem _ hy), List.filter_cons, hp]
        simp
      | false =>
        simp only
        rw [ih _ fun y hy => h y (List.mem_cons_of_mem _ hy), List.filter_cons, hp]
        simp
  rw [key xs [] h]
  exact q
theorem c_map {α : Type} {tg vs : List Nat} {elt : Sl → G → Res D} (en : α → D) (xs : List α) (f : α → D) {Q : List D → G → Prop}
    (h : ∀ x ∈ xs, ∃ S1, putTg tg (en x) (wipeS S vs) = some S1 ∧ Ok (elt S1 g) (fun d g' => d = f x ∧ g' = g))
    (q : Q (xs.map f) g) : Ok (turns tg vs S (fun S g => evt Φ [] S g) elt (xs.map en) [] g) Q := by
  with_unfolding_all
  refine c_pure en xs (fun _ => true) f (fun x hx => ?_) ?_
  · obtain ⟨S1, h1, h2⟩ := h x hx
    exact ⟨S1, h1, ⟨rfl, rfl⟩, fun _ => h2⟩
  · rw [List.filter_eq_self.mpr (fun _ _ => rfl)]; exact q
/-- with draws inside: an invariant of the store, a fact of each value -/
theorem c_inv {α : Type} {tg vs : List Nat} {tests : Sl → G → Res Bool} {elt : Sl → G → Res D} (I : G → Prop) (P : D → Prop) (en : α → D) (xs : List α) {Q : List D → G → Prop} (hI : I g)
    (h : ∀ x ∈ xs, ∀ g, I g → ∃ S1, putTg tg (en x) (wipeS S vs) = some S1 ∧ Ok (tests S1 g) (fun b g1 => (b = true → Ok (elt S1 g1) (fun d g2 => P d ∧ I g2)) ∧ (b = false → I g1)))
    (q : ∀ l g, (∀ d ∈ l, P d) → l.length ≤ xs.length → I g → Q l g) : Ok (turns tg vs S tests elt (xs.map en) [] g) Q := by
  with_unfolding_all
  have key : ∀ (xs : List α) (acc : List D) (g : G), I g → (∀ d ∈ acc, P d) → (∀ x ∈ xs, ∀ g, I g → ∃ S1, putTg tg (en x) (wipeS S vs) = some S1 ∧ Ok (tests S1 g) (fun b g1 => (b = true → Ok (elt S1 g1) (fun d g2 => P d ∧ I g2)) ∧ (b = false → I g1))) →
      Ok (turns tg vs S tests elt (xs.map en) acc g) (fun l g => (∀ d ∈ l, P d) ∧ l.length ≤ acc.length + xs.length ∧ I g) := by
    intro xs
    induction xs with
    | nil => intro acc g hI ha _; exact ⟨fun d hd => ha d (List.mem_reverse.mp hd), by simp, hI⟩
    | cons x xs ih =>
      intro acc g hI ha h
      obtain ⟨S1, h1, h2⟩ := h x List.mem_cons_self g hI
      obtain ⟨b, g1, e, h3, h4⟩ := Ok.get h2
      rw [List.map_cons, turns, h1]
      simp only
      rw [e]
      cases b with
      | true =>
        obtain ⟨d, g2, e2, hd, hg⟩ := Ok.get (h3 rfl)
        simp only
        rw [e2]
        simp only
        refine (ih (d :: acc) g2 hg (fun y hy => ?_) fun y hy => h y (List.mem_cons_of_mem _ hy)).imp fun l g ⟨a, b, c⟩ => ⟨a, by simp at b ⊢; omega, c⟩
        rcases List.mem_cons.mp hy with e | hy
        · rw [e]; exact hd
        · exact ha y hy
      | false =>
        simp only
        refine (ih acc g1 (h4 rfl) ha fun y hy => h y (List.mem_cons_of_mem _ hy)).imp fun l g ⟨a, b, c⟩ => ⟨a, by simp at b ⊢; omega, c⟩
  exact (key xs [] g hI (fun d hd => by cases hd) h).imp fun l g ⟨a, b, c⟩ => q l g a (by simpa using b) c
/-- .. and no test: as many as there are turns -/
theorem c_invN {α : Type} {tg vs : List Nat} {elt : Sl → G → Res D} (I : G → Prop) (P : D → Prop) (en : α → D) (xs : List α) {Q : List D → G → Prop} (hI : I g)
    (h : ∀ x ∈ xs, ∀ g, I g → ∃ S1, putTg tg (en x) (wipeS S vs) = some S1 ∧ Ok (elt S1 g) (fun d g2 => P d ∧ I g2))
    (q : ∀ l g, (∀ d ∈ l, P d) → l.length = xs.length → I g → Q l g) : Ok (turns tg vs S (fun S g => evt Φ [] S g) elt (xs.map en) [] g) Q := by
  with_unfolding_all
  have key : ∀ (xs : List α) (acc : List D) (g : G), I g → (∀ d ∈ acc, P d) → (∀ x ∈ xs, ∀ g, I g → ∃ S1, putTg tg (en x) (wipeS S vs) = some S1 ∧ Ok (elt S1 g) (fun d g2 => P d ∧ I g2)) →
      Ok (turns tg vs S (fun S g => evt Φ [] S g) elt (xs.map en) acc g) (fun l g => (∀ d ∈ l, P d) ∧ l.length = acc.length + xs.length ∧ I g) := by
    intro xs
    induction xs with
    | nil => intro acc g hI ha _; exact ⟨fun d hd => ha d (List.mem_reverse.mp hd), by simp, hI⟩
    | cons x xs ih =>
      intro acc g hI ha h
      obtain ⟨S1, h1, h2⟩ := h x List.mem_cons_self g hI
      obtain ⟨d, g2, e2, hd, hg⟩ := Ok.get h2
      rw [List.map_cons, turns, h1]
      show Ok (match ev Φ (.lit (.bl true)) S1 g with
        | _ => (match elt S1 g with
          | .ok e g2 => turns tg vs S (fun S g => evt Φ [] S g) elt (xs.map en) (e :: acc) g2
          | _ => .bad)) _
      simp only
      rw [e2]
      simp only
      refine (ih (d :: acc) g2 hg (fun y hy => ?_) fun y hy => h y (List.mem_cons_of_mem _ hy)).imp fun l g ⟨a, b, c⟩ => ⟨a, by simp at b ⊢; omega, c⟩
      rcases List.mem_cons.mp hy with e | hy
      · rw [e]; exact hd
      · exact ha y hy
  exact (key xs [] g hI (fun d hd => by cases hd) h).imp fun l g ⟨a, b, c⟩ => q l g a (by simpa using b) c
end
/-! ### statements -/
@[irreducible] def X (Φ : Fns) (ms : List MS) (S : Sl) (g : G) (P : SR → Prop) : Prop := P (execs Φ ms S g)
section
variable {Φ : Fns} {S : Sl} {g : G} {P : SR → Prop} {ms : List MS}
theorem X.nil (h : P (.next S g)) : X Φ [] S g P := by
  with_unfolding_all exact h
theorem X.set {tg : List Nat} {e : ME} (h : W Φ e S g (fun x g => ∃ S1, putTg tg x S = some S1 ∧ X Φ ms S1 g P)) : X Φ (.set tg e :: ms) S g P := by
  with_unfolding_all
  obtain ⟨x, g1, e1, S1, e2, h⟩ := Ok.get h
  show P _
  rw [execs_cons, exec_set, e1, thenS_ok, e2]
  exact h
theorem X.own {i : Nat} {e : ME} (h : W Φ e S g (fun x g => ∃ l, x = .lst l ∧ X Φ ms (S.set i (some (.own l))) g P)) : X Φ (.own i e :: ms) S g P := by
  with_unfolding_all
  obtain ⟨x, g1, e1, l, rfl, h⟩ := Ok.get h
  show P _
  rw [execs_cons, exec, e1, thenS_ok]
  exact h
theorem X.par {i j : Nat} {a b : ME} (h : W Φ a S g (fun x g => W Φ b S g (fun y g => X Φ ms ((S.set i (some (.dat x))).set j (some (.dat y))) g P))) : X Φ (.par i j a b :: ms) S g P := by
  with_unfolding_all
  obtain ⟨x, g1, e1, h⟩ := Ok.get h
  obtain ⟨y, g2, e2, h⟩ := Ok.get h
  show P _
  rw [execs_cons, exec_parE e1 e2]
  exact h
theorem X.expr {e : ME} (h : W Φ e S g (fun x g => X Φ ms S g P)) : X Φ (.expr e :: ms) S g P := by
  with_unfolding_all
  obtain ⟨x, g1, e1, h⟩ := Ok.get h
  show P _
  rw [execs_cons, exec_exprE e1]
  exact h
theorem X.ret {e : ME} (h : W Φ e S g (fun x g => P (.ret x g))) : X Φ (.ret e :: ms) S g P := by
  with_unfolding_all
  obtain ⟨x, g1, e1, h⟩ := Ok.get h
  show P _
  rw [execs_cons, exec_retE e1]
  exact h
theorem X.retX {e : ME} {x : Exc} {g1 : G} (h : ev Φ e S g = .exc x g1) (q : P (.exc x S g1)) : X Φ (.ret e :: ms) S g P := by
  with_unfolding_all
  show P _
  rw [execs_cons, exec_ret, h]
  exact q
theorem X.exprX {e : ME} {x : Exc} {g1 : G} (h : ev Φ e S g = .exc x g1) (q : P (.exc x S g1)) : X Φ (.expr e :: ms) S g P := by
  with_unfolding_all
  show P _
  rw [execs_cons, exec_expr, h]
  exact q
theorem X.raise_ {c : Str} {fs : List Str} {es : List ME} (h : Ws Φ es S g (fun l g => P (.exc ⟨c, fs.zip l⟩ S g))) : X Φ (.raise_ c fs es :: ms) S g P := by
  with_unfolding_all
  obtain ⟨l, g1, e, h⟩ := Ok.get h
  show P _
  rw [execs_cons, exec, e, thenS_ok]
  exact h
theorem X.app {i : Nat} {e : ME} {xs : List D} (hs : S[i]? = some (some (.own xs))) (h : W Φ e S g (fun x g => xs.length < sizeLine ∧ X Φ ms (S.set i (some (.own (xs ++ [x])))) g P)) : X Φ (.app i e :: ms) S g P := by
  with_unfolding_all
  obtain ⟨x, g1, e1, hz, h⟩ := Ok.get h
  show P _
  rw [execs_cons, exec, hs]
  simp only
  rw [e1, thenS_ok, if_pos hz]
  exact h
theorem X.frz {is : List Nat} (h : X Φ ms (is.foldl freezeS S) g P) : X Φ (.frz is :: ms) S g P := by
  with_unfolding_all exact h
/-- what follows -/
@[irreducible] def thenP (Φ : Fns) (ms : List MS) (P : SR → Prop) : SR → Prop
  | .next S g => X Φ ms S g P
  | r => P r
theorem thenP.next (h : X Φ ms S g P) : thenP Φ ms P (.next S g) := by
  with_unfolding_all exact h
theorem thenP.ret {d : D} (h : P (.ret d g)) : thenP Φ ms P (.ret d g) := by
  with_unfolding_all exact h
theorem thenP.exc {x : Exc} (h : P (.exc x S g)) : thenP Φ ms P (.exc x S g) := by
  with_unfolding_all exact h
theorem execs_app (a b : List MS) : ∀ (S : Sl) (g : G), execs Φ (a ++ b) S g = match execs Φ a S g with
    | .next S1 g1 => execs Φ b S1 g1
    | r => r := by
  with_unfolding_all
  induction a with
  | nil => intro S g; rfl
  | cons m a ih =>
    intro S g
    rw [List.cons_append, execs_cons, execs_cons]
    cases exec Φ m S g <;> simp only [ih]
theorem X.app_ {a : List MS} (h : X Φ a S g (thenP Φ ms P)) : X Φ (a ++ ms) S g P := by
  with_unfolding_all
  show P _
  rw [execs_app]
  unfold X at h
  cases e : execs Φ a S g <;> rw [e] at h <;> exact h
theorem X.if_ {c : ME} {a b : List MS} (h : WT Φ c S g (fun t g => (t = true → X Φ a S g (thenP Φ ms P)) ∧ (t = false → X Φ b S g (thenP Φ ms P)))) : X Φ (.if_ c a b :: ms) S g P := by
  with_unfolding_all
  obtain ⟨t, g1, e, h1, h2⟩ := Ok.get h
  show P _
  rw [execs_cons, exec_if, e, thenS_ok]
  cases t with
  | true => have := X.app_ (h1 rfl); rw [X, execs_app] at this; exact this
  | false => have := X.app_ (h2 rfl); rw [X, execs_app] at this; exact this
theorem X.for_ {it : MI} {tg : List Nat} {body : List MS} (h : Wi Φ it S g (fun l g => thenP Φ ms P (forL tg (fun S g => execs Φ body S g) l S g))) : X Φ (.for_ it tg body :: ms) S g P := by
  with_unfolding_all
  obtain ⟨l, g1, e, h⟩ := Ok.get h
  show P _
  rw [execs_cons, exec_for, e, thenS_ok]
  cases hr : forL tg (fun S g => execs Φ body S g) l S g1 <;> rw [hr] at h <;> exact h
/-- what a turn leaves -/
@[irreducible] def turnP (P : SR → Prop) (I : Sl → G → Prop) : SR → Prop
  | .next S g => I S g
  | .cont S g => I S g
  | .brk S g => P (.next S g)
  | r => P r
theorem turnP.next {I : Sl → G → Prop} (h : I S g) : turnP P I (.next S g) := by
  with_unfolding_all exact h
theorem turnP.ret {I : Sl → G → Prop} {d : D} (h : P (.ret d g)) : turnP P I (.ret d g) := by
  with_unfolding_all exact h
theorem turnP.exc {I : Sl → G → Prop} {x : Exc} (h : P (.exc x S g)) : turnP P I (.exc x S g) := by
  with_unfolding_all exact h
theorem for_inv {α : Type} {tg : List Nat} {body : Sl → G → SR} (en : α → D) (xs : List α) (I : Nat → Sl → G → Prop) {P : SR → Prop} (h0 : I 0 S g)
    (h : ∀ i x S g, xs[i]? = some x → I i S g → ∃ S1, putTg tg (en x) S = some S1 ∧ turnP P (I (i + 1)) (body S1 g))
    (q : ∀ S g, I xs.length S g → P (.next S g)) : P (forL tg body (xs.map en) S g) := by
  with_unfolding_all
  have key : ∀ (ys pre : List α), xs = pre ++ ys → ∀ S g, I pre.length S g → P (forL tg body (ys.map en) S g) := by
    intro ys
    induction ys with
    | nil =>
      intro pre hd S g hI
      rw [List.append_nil] at hd
      subst hd
      exact q S g hI
    | cons y ys ih =>
      intro pre hd S g hI
      have hg : xs[pre.length]? = some y := by rw [hd]; simp
      obtain ⟨S1, e1, h1⟩ := h _ y S g hg hI
      rw [List.map_cons, forL, e1]
      simp only
      have next : ∀ S g, I (pre.length + 1) S g → P (forL tg body (ys.map en) S g) := fun S g hI => ih (pre ++ [y]) (by rw [hd]; simp) S g (by simpa using hI)
      cases hr : body S1 g <;> rw [hr] at h1
      · exact next _ _ h1
      · exact h1
      · exact h1
      · exact next _ _ h1
      · exact h1
      · exact h1
  exact key xs [] rfl S g h0
end
end SH

set_option Elab.async false
set_option linter.all false
set_option autoImplicit false
set_option maxRecDepth 100000
set_option maxHeartbeats 4000000
/-! branches, and the step of a symbolic run -/
namespace SH
open PySem PySem.Spec PyProof.Rows L2 LamX
theorem tr_bl {b : Bool} {P : Bool → Prop} (h : P b) : ∃ c, truth (.bl b) = some c ∧ P c := by
  with_unfolding_all exact ⟨b, rfl, h⟩
theorem tr_int {i : Int} {P : Bool → Prop} (h : P (i != 0)) : ∃ c, truth (.int i) = some c ∧ P c := by
  with_unfolding_all exact ⟨_, rfl, h⟩
theorem ex_eq {α : Type} {a : α} {P : α → Prop} (h : P a) : ∃ x, a = x ∧ P x := by
  with_unfolding_all exact ⟨a, rfl, h⟩
theorem ex_eq' {α : Type} {a : α} {P : α → Prop} (h : P a) : ∃ x, x = a ∧ P x := by
  with_unfolding_all exact ⟨a, rfl, h⟩
theorem ex_some {α : Type} {o : Option α} {a : α} {P : α → Prop} (h : o = some a) (q : P a) : ∃ x, o = some x ∧ P x := by
  with_unfolding_all exact ⟨a, h, q⟩
theorem ex_int {i : Int} {P : Int → Prop} (h : P i) : ∃ j, D.int i = .int j ∧ P j := by
  with_unfolding_all exact ⟨i, rfl, h⟩
theorem ex_lst {l : List D} {P : List D → Prop} (h : P l) : ∃ x, D.lst l = .lst x ∧ P x := by
  with_unfolding_all exact ⟨l, rfl, h⟩
theorem sq_tup {l : List D} {P : List D → Prop} (h : P l) : ∃ x, seqL (.tup l) = some x ∧ P x := by
  with_unfolding_all exact ⟨l, rfl, h⟩
theorem sq_lst {l : List D} {P : List D → Prop} (h : P l) : ∃ x, seqL (.lst l) = some x ∧ P x := by
  with_unfolding_all exact ⟨l, rfl, h⟩
theorem en_tup {l : List D} {P : List D → Prop} (h : P (enumL 0 l)) : ∃ x, enumD (.tup l) = some x ∧ P x := by
  with_unfolding_all exact ⟨_, rfl, h⟩
theorem en_lst {l : List D} {P : List D → Prop} (h : P (enumL 0 l)) : ∃ x, enumD (.lst l) = some x ∧ P x := by
  with_unfolding_all exact ⟨_, rfl, h⟩
theorem br_dec {p : Prop} [Decidable p] {A B : Prop} (h1 : p → A) (h2 : ¬p → B) : (decide p = true → A) ∧ (decide p = false → B) := by
  with_unfolding_all exact ⟨fun h => h1 (of_decide_eq_true h), fun h => h2 (of_decide_eq_false h)⟩
theorem br_not {b : Bool} {A B : Prop} (h : (b = true → B) ∧ (b = false → A)) : ((!b) = true → A) ∧ ((!b) = false → B) := by
  with_unfolding_all exact ⟨fun e => h.2 (by simpa using e), fun e => h.1 (by simpa using e)⟩
theorem br_eq {i j : Int} {A B : Prop} (h1 : i = j → A) (h2 : i ≠ j → B) : ((i == j) = true → A) ∧ ((i == j) = false → B) := by
  with_unfolding_all exact ⟨fun e => h1 (by simpa using e), fun e => h2 (by simpa using e)⟩
theorem br_ne0 {i : Int} {A B : Prop} (h1 : i ≠ 0 → A) (h2 : i = 0 → B) : ((i != 0) = true → A) ∧ ((i != 0) = false → B) := by
  with_unfolding_all exact ⟨fun e => h1 (by simpa using e), fun e => h2 (by simpa using e)⟩
theorem br_t {b : Bool} {A B : Prop} (e : b = true) (h : A) : (b = true → A) ∧ (b = false → B) := by
  with_unfolding_all exact ⟨fun _ => h, fun e' => (by rw [e] at e'; cases e')⟩
theorem br_f {b : Bool} {A B : Prop} (e : b = false) (h : B) : (b = true → A) ∧ (b = false → B) := by
  with_unfolding_all exact ⟨fun e' => (by rw [e] at e'; cases e'), fun _ => h⟩
theorem br_tt {A B : Prop} (h : A) : (true = true → A) ∧ (true = false → B) := by
  with_unfolding_all exact ⟨fun _ => h, fun e => (by cases e)⟩
theorem br_ff {A B : Prop} (h : B) : (false = true → A) ∧ (false = false → B) := by
  with_unfolding_all exact ⟨fun e => (by cases e), fun _ => h⟩
theorem WTs {Φ : Fns} {S : Sl} {g : G} {e : ME} {A B : D → G → Prop} (h : W Φ e S g (fun x g => ∃ c, truth x = some c ∧ (c = true → A x g) ∧ (c = false → B x g))) : W Φ e S g (fun x g => ∃ c, truth x = some c ∧ (c = true → A x g) ∧ (c = false → B x g)) := by
  with_unfolding_all exact h
section
variable {Φ : Fns} {S : Sl} {g : G}
theorem c_mapD {tg vs : List Nat} {elt : Sl → G → Res D} (l : List D) (f : D → D) {Q : List D → G → Prop}
    (h : ∀ x ∈ l, ∃ S1, putTg tg x (wipeS S vs) = some S1 ∧ Ok (elt S1 g) (fun d g' => d = f x ∧ g' = g))
    (q : Q (l.map f) g) : Ok (turns tg vs S (fun S g => evt Φ [] S g) elt l [] g) Q := by
  with_unfolding_all
  have := c_map (Φ := Φ) (S := S) (g := g) (tg := tg) (vs := vs) (elt := elt) id l f (Q := Q) h q
  rwa [List.map_id] at this
theorem c_pureD {tg vs : List Nat} {tests : Sl → G → Res Bool} {elt : Sl → G → Res D} (l : List D) (p : D → Bool) (f : D → D) {Q : List D → G → Prop}
    (h : ∀ x ∈ l, ∃ S1, putTg tg x (wipeS S vs) = some S1 ∧ Ok (tests S1 g) (fun b g' => b = p x ∧ g' = g) ∧ (p x = true → Ok (elt S1 g) (fun d g' => d = f x ∧ g' = g)))
    (q : Q ((l.filter p).map f) g) : Ok (turns tg vs S tests elt l [] g) Q := by
  with_unfolding_all
  have := c_pure (S := S) (g := g) (tg := tg) (vs := vs) (tests := tests) (elt := elt) id l p f (Q := Q) h q
  rwa [List.map_id] at this
theorem c_invD {tg vs : List Nat} {tests : Sl → G → Res Bool} {elt : Sl → G → Res D} (I : G → Prop) (P : D → Prop) (l : List D) {Q : List D → G → Prop} (hI : I g)
    (h : ∀ x ∈ l, ∀ g, I g → ∃ S1, putTg tg x (wipeS S vs) = some S1 ∧ Ok (tests S1 g) (fun b g1 => (b = true → Ok (elt S1 g1) (fun d g2 => P d ∧ I g2)) ∧ (b = false → I g1)))
    (q : ∀ l' g, (∀ d ∈ l', P d) → l'.length ≤ l.length → I g → Q l' g) : Ok (turns tg vs S tests elt l [] g) Q := by
  with_unfolding_all
  have := c_inv (S := S) (g := g) (tg := tg) (vs := vs) (tests := tests) (elt := elt) I P id l (Q := Q) hI h q
  rwa [List.map_id] at this
theorem c_invND {tg vs : List Nat} {elt : Sl → G → Res D} (I : G → Prop) (P : D → Prop) (l : List D) {Q : List D → G → Prop} (hI : I g)
    (h : ∀ x ∈ l, ∀ g, I g → ∃ S1, putTg tg x (wipeS S vs) = some S1 ∧ Ok (elt S1 g) (fun d g2 => P d ∧ I g2))
    (q : ∀ l' g, (∀ d ∈ l', P d) → l'.length = l.length → I g → Q l' g) : Ok (turns tg vs S (fun S g => evt Φ [] S g) elt l [] g) Q := by
  with_unfolding_all
  have := c_invN (Φ := Φ) (S := S) (g := g) (tg := tg) (vs := vs) (elt := elt) I P id l (Q := Q) hI h q
  rwa [List.map_id] at this
theorem for_invD {tg : List Nat} {body : Sl → G → SR} (l : List D) (I : Nat → Sl → G → Prop) {P : SR → Prop} (h0 : I 0 S g)
    (h : ∀ i x S g, l[i]? = some x → I i S g → ∃ S1, putTg tg x S = some S1 ∧ turnP P (I (i + 1)) (body S1 g))
    (q : ∀ S g, I l.length S g → P (.next S g)) : P (forL tg body l S g) := by
  with_unfolding_all
  have := for_inv (S := S) (g := g) (tg := tg) (body := body) id l I (P := P) h0 h q
  rwa [List.map_id] at this
end
/-! ### kinds -/
def isI0 : D → Bool
  | .int _ => true
  | .bl _ => true
  | _ => false
def isB0 : D → Bool
  | .bl _ => true
  | _ => false
def isT0 : D → Bool
  | .tup _ => true
  | _ => false
section
variable {g : G} {Q : D → G → Prop}
theorem o_isInt {d : D} (h : d.fits = true) (q : Q (.bl (isI0 d)) g) : Ok (SH.lift (SH.bi .isInt [d]) g) Q := by
  with_unfolding_all
  cases d <;> first | exact q | cases h
theorem o_isBool {d : D} (h : d.fits = true) (q : Q (.bl (isB0 d)) g) : Ok (SH.lift (SH.bi .isBool [d]) g) Q := by
  with_unfolding_all
  cases d <;> first | exact q | cases h
theorem o_isTuple {d : D} (h : d.fits = true) (q : Q (.bl (isT0 d)) g) : Ok (SH.lift (SH.bi .isTuple [d]) g) Q := by
  with_unfolding_all
  cases d <;> first | exact q | cases h
theorem o_lenT {l : List D} (q : Q (.int l.length) g) : Ok (SH.lift (SH.bi .len [.tup l]) g) Q := by
  with_unfolding_all exact q
theorem o_lenL {l : List D} (q : Q (.int l.length) g) : Ok (SH.lift (SH.bi .len [.lst l]) g) Q := by
  with_unfolding_all exact q
theorem o_tupT {l : List D} (q : Q (.tup l) g) : Ok (SH.lift (SH.bi .tuple [.tup l]) g) Q := by
  with_unfolding_all exact q
theorem o_tupL {l : List D} (q : Q (.tup l) g) : Ok (SH.lift (SH.bi .tuple [.lst l]) g) Q := by
  with_unfolding_all exact q
theorem o_lstT {l : List D} (q : Q (.lst l) g) : Ok (SH.lift (SH.bi .list [.tup l]) g) Q := by
  with_unfolding_all exact q
theorem o_lstL {l : List D} (q : Q (.lst l) g) : Ok (SH.lift (SH.bi .list [.lst l]) g) Q := by
  with_unfolding_all exact q
theorem o_intI {i : Int} (q : Q (.int i) g) : Ok (SH.lift (SH.bi .int [.int i]) g) Q := by
  with_unfolding_all exact q
theorem o_intB {b : Bool} (q : Q (.int (if b then 1 else 0)) g) : Ok (SH.lift (SH.bi .int [.bl b]) g) Q := by
  with_unfolding_all exact q
theorem bls_map : ∀ l : List Bool, bls? (l.map .bl) = some l
  | [] => rfl
  | b :: l => by
    rw [List.map_cons]
    show (bls? (l.map .bl)).map (b :: ·) = _
    rw [bls_map l]; rfl
theorem ints_map : ∀ l : List Int, ints? (l.map .int) = some l
  | [] => rfl
  | b :: l => by
    rw [List.map_cons]
    show (ints? (l.map .int)).map (b :: ·) = _
    rw [ints_map l]; rfl
theorem o_all {α : Type} {l : List α} {f : α → Bool} (q : Q (.bl (l.all f)) g) : Ok (SH.lift (SH.bi .all [.lst (l.map fun x => .bl (f x))]) g) Q := by
  with_unfolding_all
  refine Ok.lift (a := .bl (l.all f)) ?_ q
  show (bls? (l.map fun x => .bl (f x))).map _ = _
  have : (l.map fun x => D.bl (f x)) = (l.map f).map .bl := by rw [List.map_map]; rfl
  rw [this, bls_map]
  simp [List.all_map]
theorem o_any {α : Type} {l : List α} {f : α → Bool} (q : Q (.bl (l.any f)) g) : Ok (SH.lift (SH.bi .any [.lst (l.map fun x => .bl (f x))]) g) Q := by
  with_unfolding_all
  refine Ok.lift (a := .bl (l.any f)) ?_ q
  show (bls? (l.map fun x => .bl (f x))).map _ = _
  have : (l.map fun x => D.bl (f x)) = (l.map f).map .bl := by rw [List.map_map]; rfl
  rw [this, bls_map]
  simp [List.any_map]
/-! ### == with a literal none -/
theorem o_eqNil {l : List D} {Q : Bool → G → Prop} (h : D.plains l = true) (hd : Nat.ble (D.depths l) 59 = true) (q : Q l.isEmpty g) : Ok (SH.lift (SH.cmp .eq (.lst l) (.lst [])) g) Q := by
  with_unfolding_all
  refine Ok.lift (a := l.isEmpty) ?_ q
  have h0 : Nat.ble (D.lst l).depth 60 = true := by
    unfold D.depth
    exact Nat.ble_eq_true_of_le (by have := Nat.le_of_ble_eq_true hd; omega)
  unfold SH.cmp
  rw [show (D.lst l).plain = true from h, show (D.lst []).plain = true from rfl, h0]
  cases l <;> rfl
theorem o_neNil {l : List D} {Q : Bool → G → Prop} (h : D.plains l = true) (hd : Nat.ble (D.depths l) 59 = true) (q : Q (!l.isEmpty) g) : Ok (SH.lift (SH.cmp .ne (.lst l) (.lst [])) g) Q := by
  with_unfolding_all
  refine Ok.lift (a := !l.isEmpty) ?_ q
  have h0 : Nat.ble (D.lst l).depth 60 = true := by
    unfold D.depth
    exact Nat.ble_eq_true_of_le (by have := Nat.le_of_ble_eq_true hd; omega)
  unfold SH.cmp
  rw [show (D.lst l).plain = true from h, show (D.lst []).plain = true from rfl, h0]
  cases l <;> rfl
theorem o_eqNilT {l : List D} {Q : Bool → G → Prop} (h : D.plains l = true) (hd : Nat.ble (D.depths l) 59 = true) (q : Q l.isEmpty g) : Ok (SH.lift (SH.cmp .eq (.tup l) (.tup [])) g) Q := by
  with_unfolding_all
  refine Ok.lift (a := l.isEmpty) ?_ q
  have h0 : Nat.ble (D.tup l).depth 60 = true := by
    unfold D.depth
    exact Nat.ble_eq_true_of_le (by have := Nat.le_of_ble_eq_true hd; omega)
  unfold SH.cmp
  rw [show (D.tup l).plain = true from h, show (D.tup []).plain = true from rfl, h0]
  cases l <;> rfl
mutual
theorem fits_plain : ∀ d : D, d.fits = true → d.plain = true
  | .non, _ => rfl
  | .bl _, _ => rfl
  | .int _, _ => rfl
  | .str _, _ => rfl
  | .tup l, h => fitsL_plain l h
  | .lst l, h => fitsL_plain l h
  | .fn _, h => by cases h
  | .ptr _, h => by cases h
  | .scr _, h => by cases h
theorem fitsL_plain : ∀ l : List D, D.fitsL l = true → D.plains l = true
  | [], _ => rfl
  | d :: l, h => by
    unfold D.fitsL at h
    rw [Bool.and_eq_true] at h
    unfold D.plains
    rw [fits_plain d h.1, fitsL_plain l h.2]; rfl
end
theorem fitsL_mem : ∀ {l : List D}, D.fitsL l = true → ∀ d ∈ l, d.fits = true
  | [], _, d, hd => by cases hd
  | a :: l, h, d, hd => by
    unfold D.fitsL at h
    rw [Bool.and_eq_true] at h
    rcases List.mem_cons.mp hd with rfl | hd
    · exact h.1
    · exact fitsL_mem h.2 d hd
theorem fitsL_of : ∀ {l : List D}, (∀ d ∈ l, d.fits = true) → D.fitsL l = true
  | [], _ => rfl
  | a :: l, h => by
    unfold D.fitsL
    rw [h a List.mem_cons_self, fitsL_of fun d hd => h d (List.mem_cons_of_mem _ hd)]; rfl
end
section
variable {g : G} {Q : D → G → Prop}
theorem o_slT_to {l : List D} {j : Nat} (q : Q (.tup (l.take j)) g) : Ok (SH.lift (SH.slice (.tup l) none (some (j : Int))) g) Q := by
  with_unfolding_all
  refine Ok.lift (a := .tup (l.take j)) ?_ q
  show some (D.tup (cutD l none (some (j : Int)))) = _
  rw [cut_to]
theorem o_slL_to {l : List D} {j : Nat} (q : Q (.lst (l.take j)) g) : Ok (SH.lift (SH.slice (.lst l) none (some (j : Int))) g) Q := by
  with_unfolding_all
  refine Ok.lift (a := .lst (l.take j)) ?_ q
  show some (D.lst (cutD l none (some (j : Int)))) = _
  rw [cut_to]
theorem o_slT_from {l : List D} {j : Nat} (q : Q (.tup (l.drop j)) g) : Ok (SH.lift (SH.slice (.tup l) (some (j : Int)) none) g) Q := by
  with_unfolding_all
  refine Ok.lift (a := .tup (l.drop j)) ?_ q
  show some (D.tup (cutD l (some (j : Int)) none)) = _
  rw [cut_from]
theorem o_slL_from {l : List D} {j : Nat} (q : Q (.lst (l.drop j)) g) : Ok (SH.lift (SH.slice (.lst l) (some (j : Int)) none) g) Q := by
  with_unfolding_all
  refine Ok.lift (a := .lst (l.drop j)) ?_ q
  show some (D.lst (cutD l (some (j : Int)) none)) = _
  rw [cut_from]
theorem o_slT_mid {l : List D} {i j : Nat} (h : i ≤ j) (q : Q (.tup ((l.drop i).take (j - i))) g) : Ok (SH.lift (SH.slice (.tup l) (some (i : Int)) (some (j : Int))) g) Q := by
  with_unfolding_all
  refine Ok.lift (a := .tup ((l.drop i).take (j - i))) ?_ q
  show some (D.tup (cutD l (some (i : Int)) (some (j : Int)))) = _
  rw [cut_nat l i j h]
theorem o_revT {l : List D} (q : Q (.tup l.reverse) g) : Ok (SH.lift (SH.revD (.tup l)) g) Q := by
  with_unfolding_all exact q
theorem o_revL {l : List D} (q : Q (.lst l.reverse) g) : Ok (SH.lift (SH.revD (.lst l)) g) Q := by
  with_unfolding_all exact q
end
/-- one test, told as it is -/
theorem t_one {Φ : Fns} {S : Sl} {g : G} {e : ME} {p : Bool} (h : W Φ e S g (fun x g' => x = .bl p ∧ g' = g)) : Ok (evt Φ [e] S g) (fun b g' => b = p ∧ g' = g) := by
  with_unfolding_all
  refine Wt.cons (Ok.imp h fun x g' ⟨e1, e2⟩ => ?_)
  subst e1 e2
  refine tr_bl ⟨fun h => ⟨h.symm, rfl⟩, fun h => ⟨h.symm, rfl⟩⟩
/-- how a body ends -/
def fin : SR → Res D
  | .ret d g => .ok d g
  | .next _ g => .ok .non g
  | .exc x _ g => .exc x g
  | _ => .bad
theorem fin_eq {Φ : Fns} {n : Nat} {mb : List MS} {ds : List D} {g : G} : meanOf n mb Φ ds g = fin (execs Φ mb (startS n ds) g) := by
  with_unfolding_all
  unfold meanOf runBody fin
  cases execs Φ mb (startS n ds) g <;> rfl
/-- a body's end, well -/
def FinOk (Q : D → G → Prop) : SR → Prop
  | .ret d g => Q d g
  | .next _ g => Q .non g
  | _ => False
theorem run_ok {Φ : Fns} {n : Nat} {mb : List MS} {ds : List D} {g : G} {Q : D → G → Prop} (h : X Φ mb (startS n ds) g (FinOk Q)) : Ok (meanOf n mb Φ ds g) Q := by
  with_unfolding_all
  rw [fin_eq]
  unfold X at h
  cases e : execs Φ mb (startS n ds) g <;> rw [e] at h <;> first | exact h | exact h.elim
theorem run_eq {Φ : Fns} {n : Nat} {mb : List MS} {ds : List D} {g g' : G} {d : D} (h : X Φ mb (startS n ds) g (FinOk fun x g1 => x = d ∧ g1 = g')) : meanOf n mb Φ ds g = .ok d g' := by
  with_unfolding_all exact (run_ok h).eq
theorem ok_of {r : Res D} {d : D} {g : G} {Q : D → G → Prop} (h : r = .ok d g) (q : Q d g) : Ok r Q := by
  with_unfolding_all rw [h]; exact q
theorem rr {α β : Type} {a : α} {b : β} : a = a ∧ b = b := by
  with_unfolding_all exact ⟨rfl, rfl⟩
theorem rrF {d : D} {g : G} : FinOk (fun x g1 => x = d ∧ g1 = g) (.ret d g) := by
  with_unfolding_all exact ⟨rfl, rfl⟩
theorem finI {d d' : D} {g : G} (h : d' = d) : FinOk (fun x g1 => x = d ∧ g1 = g) (.ret d' g) := by
  with_unfolding_all exact ⟨h, rfl⟩
section
variable {Φ : Fns} {S : Sl} {g : G} {ms : List MS} {P : SR → Prop}
theorem W.said {z : Nat} {e : ME} {Q : D → G → Prop} (h : Ok (Φ.hear z (fun g => ev (lowF Φ) e (datS S) g) g) Q) : W Φ (.said z e) S g Q := by
  with_unfolding_all exact h
theorem W.repr {e : ME} {Q : D → G → Prop} {d : D} (h : W Φ e S g (fun x g' => x = d ∧ g' = g)) (hs : d.small = true) (q : ∀ s, reprD d = some (.str s) → Q (.str s) g) : W Φ (.bi .repr [e]) S g Q := by
  with_unfolding_all
  refine W.bi (Ws.cons (Ok.imp h fun x g' ⟨e1, e2⟩ => Ws.nil ?_))
  subst e1 e2
  obtain ⟨s, hs⟩ := small_repr hs
  exact Ok.lift hs (q s hs)
theorem o_eqS {x : Str} {Q : Bool → G → Prop} (q : Q true g) : Ok (SH.lift (SH.cmp .eq (.str x) (.str x)) g) Q := by
  with_unfolding_all
  refine Ok.lift (a := true) ?_ q
  unfold SH.cmp D.plain D.eqv
  simp [D.depth]
mutual
theorem same_refl : ∀ d : D, d.fits = true → D.same d d = true
  | .non, _ => rfl
  | .bl b, _ => by show (b == b) = true; simp
  | .int i, _ => by show (i == i) = true; simp
  | .str s, _ => by show (s == s) = true; simp
  | .tup l, h => sames_refl l h
  | .lst l, h => sames_refl l h
  | .fn _, h => by cases h
  | .ptr _, h => by cases h
  | .scr _, h => by cases h
theorem sames_refl : ∀ l : List D, D.fitsL l = true → D.sames l l = true
  | [], _ => rfl
  | d :: l, h => by
    unfold D.fitsL at h
    rw [Bool.and_eq_true] at h
    unfold D.sames
    rw [same_refl d h.1, sames_refl l h.2]; rfl
end
theorem sameMean_refl {d : D} (h : d.small = true) (Φ : Fns) (g : G) : sameMean Φ [d, d] g = .ok (.bl true) g := by
  with_unfolding_all
  show (if (D.same d d && D.small d) = true then Res.ok (D.bl true) g else .bad) = _
  have hf : d.fits = true := by
    unfold D.small at h
    simp only [Bool.and_eq_true] at h
    exact h.1.1
  rw [if_pos (by rw [same_refl d hf, h]; rfl)]
theorem W.imp {e : ME} {Q Q' : D → G → Prop} (h : W Φ e S g Q) (k : ∀ d g, Q d g → Q' d g) : W Φ e S g Q' := by
  with_unfolding_all exact Ok.imp h k
theorem W.orB {a b : ME} {Q : D → G → Prop} (x y : Bool) (h1 : W Φ a S g (fun d g' => d = .bl x ∧ g' = g)) (h2 : x = false → W Φ b S g (fun d g' => d = .bl y ∧ g' = g)) (q : Q (.bl (x || y)) g) : W Φ (.or_ a b) S g Q := by
  with_unfolding_all
  refine W.or_ (Ok.imp h1 fun d g' ⟨e1, e2⟩ => ?_)
  subst e1 e2
  refine tr_bl ⟨fun e => ?_, fun e => ?_⟩
  · subst e; exact q
  · refine Ok.imp (h2 e) fun d g' ⟨e1, e2⟩ => ?_
    subst e1 e2 e
    exact q
theorem W.andB {a b : ME} {Q : D → G → Prop} (x y : Bool) (h1 : W Φ a S g (fun d g' => d = .bl x ∧ g' = g)) (h2 : x = true → W Φ b S g (fun d g' => d = .bl y ∧ g' = g)) (q : Q (.bl (x && y)) g) : W Φ (.and_ a b) S g Q := by
  with_unfolding_all
  refine W.and_ (Ok.imp h1 fun d g' ⟨e1, e2⟩ => ?_)
  subst e1 e2
  refine tr_bl ⟨fun e => ?_, fun e => ?_⟩
  · refine Ok.imp (h2 e) fun d g' ⟨e1, e2⟩ => ?_
    subst e1 e2 e
    exact q
  · subst e; exact q
theorem gW {e : ME} {Q : D → G → Prop} (h : W Φ e S g Q) : W Φ e S g Q := by
  with_unfolding_all exact h
theorem gX (h : X Φ ms S g P) : X Φ ms S g P := by
  with_unfolding_all exact h
theorem gL {o : Option D} {Q : D → G → Prop} (h : Ok (lift o g) Q) : Ok (lift o g) Q := by
  with_unfolding_all exact h
theorem gB {o : Option Bool} {Q : Bool → G → Prop} (h : Ok (lift o g) Q) : Ok (lift o g) Q := by
  with_unfolding_all exact h
theorem gA {A B : Prop} (h : A ∧ B) : A ∧ B := by
  with_unfolding_all exact h
theorem gE {α : Type} {p : α → Prop} (h : ∃ x, p x) : ∃ x, p x := by
  with_unfolding_all exact h
theorem toW {e : ME} {Q : D → G → Prop} (h : W Φ e S g Q) : Ok (ev Φ e S g) Q := by
  with_unfolding_all exact h
theorem toWt {es : List ME} {Q : Bool → G → Prop} (h : Wt Φ es S g Q) : Ok (evt Φ es S g) Q := by
  with_unfolding_all exact h
theorem toXt {I : Sl → G → Prop} (h : X Φ ms S g (turnP P I)) : turnP P I (execs Φ ms S g) := by
  with_unfolding_all exact h
theorem toWi {it : MI} {Q : List D → G → Prop} (h : Wi Φ it S g Q) : Ok (evi Φ it S g) Q := by
  with_unfolding_all exact h
end
end SH

set_option Elab.async false
set_option linter.all false
set_option autoImplicit false
set_option maxRecDepth 100000
set_option maxHeartbeats 4000000
/-! lists of data: places, words -/
namespace SH
open PySem PySem.Spec PyProof.Rows L2 LamX
theorem enumL_map {α : Type} (en : α → D) : ∀ (xs : List α) (n : Nat), enumL n (xs.map en) = (xs.zipIdx n).map fun q => .tup [.int (q.2 : Nat), en q.1]
  | [], n => rfl
  | x :: xs, n => by
    rw [List.map_cons, enumL, enumL_map en xs (n + 1), List.zipIdx_cons]; rfl
theorem zipL_map {α β : Type} (en : α → D) (em : β → D) : ∀ (xs : List α) (ys : List β), zipL (xs.map en) (ys.map em) = (xs.zip ys).map fun q => .tup [en q.1, em q.2]
  | [], ys => by cases ys <;> rfl
  | x :: xs, [] => rfl
  | x :: xs, y :: ys => by
    rw [List.map_cons, List.map_cons, zipL, zipL_map en em xs ys]; rfl
/-- the places of those that are so -/
def posF (P : Int → Bool) : Nat → List Int → List Nat
  | _, [] => []
  | i, x :: l => if P x then i :: posF P (i + 1) l else posF P (i + 1) l
theorem posF_enum (P : Int → Bool) : ∀ (xs : List Int) (n : Nat), ((xs.zipIdx n).filter fun q => P q.1).map (·.2) = posF P n xs
  | [], n => rfl
  | x :: xs, n => by
    rw [List.zipIdx_cons, List.filter_cons, posF]
    cases P x with
    | true => simp [posF_enum P xs (n + 1)]
    | false => simp [posF_enum P xs (n + 1)]
theorem posF_range (P : Int → Bool) : ∀ (xs : List Int) (n : Nat), (List.range' n xs.length).filter (fun i => P (xs[i - n]?.getD 0)) = posF P n xs
  | [], n => rfl
  | x :: xs, n => by
    rw [List.length_cons, List.range'_succ, List.filter_cons, posF]
    have ih := posF_range P xs (n + 1)
    have e : ∀ i ∈ List.range' (n + 1) xs.length, P ((x :: xs)[i - n]?.getD 0) = P (xs[i - (n + 1)]?.getD 0) := by
      intro i hi
      have := (List.mem_range'_1.mp hi).1
      rw [show i - n = (i - (n + 1)) + 1 by omega, List.getElem?_cons_succ]
    rw [List.filter_congr e, ih]
    simp
theorem posF_range0 (P : Int → Bool) (xs : List Int) : (List.range xs.length).filter (fun i => P (xs[i]?.getD 0)) = posF P 0 xs := by
  have := posF_range P xs 0
  rw [← List.range_eq_range'] at this
  simpa using this
theorem posF_congr {P P' : Int → Bool} : ∀ (xs : List Int) (n : Nat), (∀ x ∈ xs, P x = P' x) → posF P n xs = posF P' n xs
  | [], n, _ => rfl
  | x :: xs, n, h => by
    rw [posF, posF, h x List.mem_cons_self, posF_congr xs (n + 1) fun y hy => h y (List.mem_cons_of_mem _ hy)]
theorem posF_lt {P : Int → Bool} : ∀ (xs : List Int) (n i : Nat), i ∈ posF P n xs → n ≤ i ∧ i < n + xs.length ∧ ∃ x, xs[i - n]? = some x ∧ P x = true
  | [], n, i, h => by cases h
  | x :: xs, n, i, h => by
    rw [posF] at h
    cases hp : P x with
    | true =>
      rw [hp] at h
      simp only [if_true] at h
      rcases List.mem_cons.mp h with rfl | h
      · exact ⟨Nat.le_refl _, by simp, x, by simp, hp⟩
      · obtain ⟨h1, h2, y, h3, h4⟩ := posF_lt xs (n + 1) i h
        refine ⟨by omega, by simp; omega, y, ?_, h4⟩
        rw [show i - n = (i - (n + 1)) + 1 by omega, List.getElem?_cons_succ]
        exact h3
    | false =>
      rw [hp] at h
      simp only [Bool.false_eq_true, if_false] at h
      obtain ⟨h1, h2, y, h3, h4⟩ := posF_lt xs (n + 1) i h
      refine ⟨by omega, by simp; omega, y, ?_, h4⟩
      rw [show i - n = (i - (n + 1)) + 1 by omega, List.getElem?_cons_succ]
      exact h3
/-- is one ahead of a place? -/
theorem posF_any {P : Int → Bool} : ∀ (xs : List Int) (n t : Nat) (r : List Nat) (s : Nat), posF P n xs = t :: r → ((xs.take s).any P) = decide (t < n + s)
  | [], n, t, r, s, h => by cases h
  | x :: xs, n, t, r, 0, h => by
    have : t ∈ posF P n (x :: xs) := by rw [h]; exact List.mem_cons_self
    have := (posF_lt _ _ _ this).1
    simp; omega
  | x :: xs, n, t, r, s + 1, h => by
    rw [List.take_succ_cons, List.any_cons]
    rw [posF] at h
    cases hp : P x with
    | true =>
      rw [hp] at h
      simp only [if_true, List.cons.injEq] at h
      have e := h.1
      simp; omega
    | false =>
      rw [hp] at h
      simp only [Bool.false_eq_true, if_false] at h
      rw [posF_any xs (n + 1) t r s h]
      simp
      omega
theorem posF_enumD (P : Int → Bool) (xs : List Int) : ((xs.zipIdx 0).filter fun q => P q.1).map (fun q => D.int (q.2 : Nat)) = (posF P 0 xs).map fun (i : Nat) => D.int (i : Int) := by
  rw [← posF_enum P xs 0, List.map_map]; rfl
theorem posF_rangeD (P : Int → Bool) (xs : List Int) : ((List.range xs.length).filter fun i => P (xs[i]?.getD 0)).map (fun (i : Nat) => D.int (i : Int)) = (posF P 0 xs).map fun (i : Nat) => D.int (i : Int) := by
  rw [posF_range0 P xs]
/-! ### what is a number, an index, a word -/
def isNum : D → Bool
  | .int i => decide (0 ≤ i)
  | _ => false
def isIdx (m : Int) : D → Bool
  | .int i => decide (0 ≤ i) && decide (i < m)
  | _ => false
def isPos : D → Bool
  | .int i => decide (0 < i)
  | _ => false
def isTupN (n : Int) : D → Bool
  | .tup l => (l.length : Int) == n
  | _ => false
def isPrm : D → Bool
  | .int i => [2, 3, 5, 7, 11, 13].contains i
  | _ => false
def isWord (p n : Int) : D → Bool
  | .tup l => ((l.length : Int) == n) && l.all (isIdx p)
  | _ => false
abbrev Dw (xs : List Int) : D := .tup (xs.map .int)
/-- digits below p -/
def Dig (p : Int) (xs : List Int) : Prop := ∀ x ∈ xs, 0 ≤ x ∧ x < p
theorem isIdx_is {m : Int} {d : D} (h : isIdx m d = true) : ∃ i, d = .int i ∧ 0 ≤ i ∧ i < m := by
  cases d <;> simp only [isIdx, Bool.and_eq_true, decide_eq_true_eq] at h <;> first | (cases h; done) | exact ⟨_, rfl, h.1, h.2⟩
theorem isWord_is {p n : Int} {d : D} (h : isWord p n d = true) : ∃ xs : List Int, d = Dw xs ∧ (xs.length : Int) = n ∧ Dig p xs := by
  cases d <;> simp only [isWord] at h <;> try (cases h; done)
  rename_i l
  rw [Bool.and_eq_true, List.all_eq_true] at h
  have key : ∀ l : List D, (∀ d ∈ l, isIdx p d = true) → ∃ xs : List Int, l = xs.map .int ∧ Dig p xs := by
    intro l
    induction l with
    | nil => intro _; exact ⟨[], rfl, fun x hx => by cases hx⟩
    | cons d l ih =>
      intro h
      obtain ⟨i, rfl, h0, h1⟩ := isIdx_is (h d List.mem_cons_self)
      obtain ⟨xs, rfl, hx⟩ := ih fun e he => h e (List.mem_cons_of_mem _ he)
      refine ⟨i :: xs, rfl, fun x hx' => ?_⟩
      rcases List.mem_cons.mp hx' with rfl | hx'
      · exact ⟨h0, h1⟩
      · exact hx x hx'
  obtain ⟨xs, rfl, hx⟩ := key l h.2
  exact ⟨xs, rfl, by have := eq_of_beq h.1; simpa using this, hx⟩
theorem isWord_w {p : Int} {xs : List Int} (h : Dig p xs) : isWord p xs.length (Dw xs) = true := by
  unfold Dw isWord
  simp only [List.length_map, beq_self_eq_true, Bool.true_and, List.all_map, List.all_eq_true]
  intro x hx
  have := h x hx
  simp [isIdx, this.1, this.2]
theorem fits_w (xs : List Int) (h : ∀ x ∈ xs, x.natAbs < 1000) : (Dw xs).fits = true := by
  show D.fitsL _ = true
  refine fitsL_of fun d hd => ?_
  obtain ⟨x, hx, rfl⟩ := List.mem_map.mp hd
  show Nat.blt x.natAbs (2 ^ 1900) = true
  exact Nat.ble_eq_true_of_le (Nat.le_trans (h x hx) (by decide +kernel))
end SH

set_option Elab.async false
set_option linter.all false
set_option autoImplicit false
set_option maxRecDepth 100000
set_option maxHeartbeats 4000000
/-! pure meanings: lots, words -/
namespace SH
open PySem PySem.Spec PyProof.Rows L2 LamX
def intsOf : D → List Int
  | .tup l => (ints? l).getD []
  | _ => []
theorem intsOf_w (xs : List Int) : intsOf (Dw xs) = xs := by
  show (ints? (xs.map .int)).getD [] = xs
  rw [ints_map]; rfl
def ascI (xs : List Int) : Bool := (xs.zip (xs.drop 1)).all fun q => decide (q.1 < q.2)
def isLot (n : Int) : D → Bool
  | .tup l => l.all (isIdx n) && ascI (intsOf (.tup l))
  | _ => false
def isSome (p : Int) : D → Bool
  | .tup l => decide (0 < (l.length : Int)) && isWord p l.length (.tup l)
  | _ => false
theorem allIdx {m : Int} : ∀ {l : List D}, l.all (isIdx m) = true → ∃ xs : List Int, l = xs.map .int ∧ ∀ x ∈ xs, 0 ≤ x ∧ x < m
  | [], _ => ⟨[], rfl, fun x hx => by cases hx⟩
  | d :: l, h => by
    rw [List.all_cons, Bool.and_eq_true] at h
    obtain ⟨i, rfl, h0, h1⟩ := isIdx_is h.1
    obtain ⟨xs, rfl, hx⟩ := allIdx h.2
    refine ⟨i :: xs, rfl, fun x hx' => ?_⟩
    rcases List.mem_cons.mp hx' with rfl | hx'
    · exact ⟨h0, h1⟩
    · exact hx x hx'
theorem allNum : ∀ {l : List D}, l.all isNum = true → ∃ xs : List Int, l = xs.map .int ∧ ∀ x ∈ xs, 0 ≤ x
  | [], _ => ⟨[], rfl, fun x hx => by cases hx⟩
  | d :: l, h => by
    rw [List.all_cons, Bool.and_eq_true] at h
    obtain ⟨xs, rfl, hx⟩ := allNum h.2
    cases d <;> first | (cases h.1; done) | skip
    rename_i i
    refine ⟨i :: xs, rfl, fun x hx' => ?_⟩
    rcases List.mem_cons.mp hx' with rfl | hx'
    · exact of_decide_eq_true h.1
    · exact hx x hx'
theorem isIdx_num {m : Int} {d : D} (h : isIdx m d = true) : isNum d = true := by
  obtain ⟨i, rfl, h0, _⟩ := isIdx_is h
  exact decide_eq_true h0
theorem ascI_pair : ∀ {xs : List Int}, ascI xs = true ↔ xs.Pairwise (· < ·)
  | [] => by simp [ascI]
  | [a] => by simp [ascI]
  | a :: b :: l => by
    have ih := ascI_pair (xs := b :: l)
    have e : ascI (a :: b :: l) = (decide (a < b) && ascI (b :: l)) := rfl
    rw [e, Bool.and_eq_true, ih, decide_eq_true_eq, List.pairwise_cons (a := a)]
    constructor
    · rintro ⟨h1, h2⟩
      refine ⟨fun x hx => ?_, h2⟩
      rcases List.mem_cons.mp hx with rfl | hx
      · exact h1
      · have := (List.pairwise_cons.mp h2).1 x hx; omega
    · rintro ⟨h1, h2⟩
      exact ⟨h1 b List.mem_cons_self, h2⟩
theorem sortU_id {xs : List Int} (h : xs.Pairwise (· < ·)) : sortU xs = xs := asc_uniq (sortU_asc xs) h fun k => sortU_mem k xs
theorem sortU_eq {xs : List Int} : (sortU xs = xs) ↔ ascI xs = true := by
  rw [ascI_pair]
  exact ⟨fun h => by rw [← h]; exact sortU_asc xs, sortU_id⟩
/-- ascending numbers, the last of them below n -/
theorem lot_last {n : Int} {xs : List Int} (h0 : ∀ x ∈ xs, 0 ≤ x) : isLot n (Dw xs) = (ascI xs && (match xs.getLast? with | some z => decide (z < n) | none => true)) := by
  have e : isLot n (Dw xs) = ((xs.map D.int).all (isIdx n) && ascI xs) := by
    show ((xs.map D.int).all (isIdx n) && ascI (intsOf (Dw xs))) = _
    rw [intsOf_w]
  rw [e, Bool.and_comm]
  cases ha : ascI xs with
  | false => rfl
  | true =>
    rw [Bool.true_and, Bool.true_and]
    have hp := ascI_pair.mp ha
    cases hl : xs.getLast? with
    | none =>
      rw [List.getLast?_eq_none_iff] at hl
      subst hl; rfl
    | some z =>
      simp only
      obtain ⟨ys, rfl⟩ := List.getLast?_eq_some_iff.mp hl
      rw [List.pairwise_append] at hp
      by_cases hz : z < n
      · rw [decide_eq_true hz, List.all_map, List.all_eq_true]
        intro x hx
        show isIdx n (.int x) = true
        have hx0 := h0 x hx
        have : x < n := by
          rcases List.mem_append.mp hx with hx | hx
          · have := hp.2.2 x hx z List.mem_cons_self; omega
          · rw [List.mem_singleton.mp hx]; exact hz
        simp [isIdx, hx0, this]
      · rw [decide_eq_false hz]
        simp [List.all_append, isIdx, hz]
end SH

set_option Elab.async false
set_option linter.all false
set_option autoImplicit false
set_option maxRecDepth 100000
set_option maxHeartbeats 4000000
/-! what is refused; words' arithmetic -/
namespace SH
open PySem PySem.Spec PyProof.Rows L2 LamX
/-- the error of an argument -/
def usable (n : Str) : Exc := ⟨"NotUsable", [("word", .str n), ("at", .int (-1))]⟩
/-- the first thing that is not so -/
def firstBad : List (Bool × Str) → Option Str
  | [] => none
  | (b, n) :: l => if b then firstBad l else some n
def seqW (cs : List (Bool × Str)) (d : D) (g : G) : Res D := match firstBad cs with
  | none => .ok d g
  | some n => .exc (usable n) g
theorem seqW_ok {cs : List (Bool × Str)} {d : D} {g : G} (h : firstBad cs = none) : seqW cs d g = .ok d g := by unfold seqW; rw [h]
theorem seqW_bad {cs : List (Bool × Str)} {d : D} {g : G} {n : Str} (h : firstBad cs = some n) : seqW cs d g = .exc (usable n) g := by unfold seqW; rw [h]
theorem firstBad_app : ∀ (a b : List (Bool × Str)), firstBad (a ++ b) = match firstBad a with
    | some n => some n
    | none => firstBad b
  | [], b => rfl
  | (c, n) :: a, b => by
    cases c with
    | true => exact firstBad_app a b
    | false => rfl
section
variable {Φ : Fns} {S : Sl} {g : G} {ms : List MS} {P : SR → Prop}
/-- a call that looks at things in order -/
theorem X.want {f : Nat} {pat : List (Nat ⊕ D)} {es : List ME} (h : Ws Φ es S g (fun l g => ∃ ds cs d, pickAll l pat = some ds ∧ Φ f ds g = seqW cs d g ∧ (firstBad cs = none → X Φ ms S g P) ∧ ∀ n, firstBad cs = some n → P (.exc (usable n) S g))) : X Φ (.expr (.call f pat es) :: ms) S g P := by
  with_unfolding_all
  obtain ⟨l, g1, e, ds, cs, d, e1, e2, h1, h2⟩ := Ok.get h
  have e3 : ev Φ (.call f pat es) S g = seqW cs d g1 := by
    show (evs Φ es S g).bind _ = _
    rw [e]
    show (match pickAll l pat with
      | some ds => Φ f ds g1
      | none => .bad) = _
    rw [e1]; exact e2
  show P _
  cases q : firstBad cs with
  | none =>
    rw [execs_cons, exec_exprE (e3.trans (seqW_ok q))]
    exact h1 q
  | some n =>
    rw [execs_cons, exec_expr, e3, seqW_bad q]
    exact h2 n q
/-- .. told as the body's value -/
theorem X.retWant {f : Nat} {pat : List (Nat ⊕ D)} {es : List ME} (h : Ws Φ es S g (fun l g => ∃ ds cs d, pickAll l pat = some ds ∧ Φ f ds g = seqW cs d g ∧ (firstBad cs = none → P (.ret d g)) ∧ ∀ n, firstBad cs = some n → P (.exc (usable n) S g))) : X Φ (.ret (.call f pat es) :: ms) S g P := by
  with_unfolding_all
  obtain ⟨l, g1, e, ds, cs, d, e1, e2, h1, h2⟩ := Ok.get h
  have e3 : ev Φ (.call f pat es) S g = seqW cs d g1 := by
    show (evs Φ es S g).bind _ = _
    rw [e]
    show (match pickAll l pat with
      | some ds => Φ f ds g1
      | none => .bad) = _
    rw [e1]; exact e2
  show P _
  cases q : firstBad cs with
  | none =>
    rw [execs_cons, exec_retE (e3.trans (seqW_ok q))]
    exact h1 q
  | some n =>
    rw [execs_cons, exec_ret, e3, seqW_bad q]
    exact h2 n q
/-- a body's end, as the checks say -/
def FinW (cs : List (Bool × Str)) (d : D) (g : G) : SR → Prop
  | .ret x g' => firstBad cs = none ∧ x = d ∧ g' = g
  | .next _ g' => firstBad cs = none ∧ D.non = d ∧ g' = g
  | .exc x _ g' => ∃ n, firstBad cs = some n ∧ x = usable n ∧ g' = g
  | _ => False
theorem run_want {n : Nat} {mb : List MS} {ds : List D} {cs : List (Bool × Str)} {d : D} (h : X Φ mb (startS n ds) g (FinW cs d g)) : meanOf n mb Φ ds g = seqW cs d g := by
  with_unfolding_all
  rw [fin_eq]
  unfold X at h
  cases e : execs Φ mb (startS n ds) g <;> rw [e] at h <;> first | exact h.elim | skip
  · obtain ⟨h1, rfl, rfl⟩ := h; exact (seqW_ok h1).symm
  · obtain ⟨h1, rfl, rfl⟩ := h; exact (seqW_ok h1).symm
  · obtain ⟨n, h1, rfl, rfl⟩ := h; exact (seqW_bad h1).symm
theorem finW_ret {cs : List (Bool × Str)} {d d' : D} (h : firstBad cs = none) (e : d' = d) : FinW cs d g (.ret d' g) := by
  with_unfolding_all exact ⟨h, e, rfl⟩
theorem finW_next {cs : List (Bool × Str)} (h : firstBad cs = none) : FinW cs .non g (.next S g) := by
  with_unfolding_all exact ⟨h, rfl, rfl⟩
theorem finW_exc {cs : List (Bool × Str)} {d : D} {n : Str} (h : firstBad cs = some n) : FinW cs d g (.exc (usable n) S g) := by
  with_unfolding_all exact ⟨n, h, rfl, rfl⟩
/-- the thunk of a call -/
theorem call_want {f : Nat} {pat : List (Nat ⊕ D)} {es : List ME} {cs : List (Bool × Str)} {d : D} {ds : List D} (h : Ws Φ es S g (fun l g' => l = ds ∧ g' = g)) {ds' : List D} (hp : pickAll ds pat = some ds') (e : Φ f ds' g = seqW cs d g) : ev Φ (.call f pat es) S g = seqW cs d g := by
  with_unfolding_all
  obtain ⟨l, g1, e1, rfl, rfl⟩ := Ok.get h
  show (evs Φ es S g1).bind _ = _
  rw [e1]
  show (match pickAll l pat with
    | some ds => Φ f ds g1
    | none => .bad) = _
  rw [hp]; exact e
end
theorem o_sum {α : Type} {g : G} {Q : D → G → Prop} {l : List α} {f : α → Int} (q : Q (.int (l.map f).sum) g) : Ok (SH.lift (SH.bi .sum [.lst (l.map fun x => .int (f x))]) g) Q := by
  with_unfolding_all
  refine Ok.lift (a := .int (l.map f).sum) ?_ q
  show (ints? (l.map fun x => D.int (f x))).map _ = _
  have : (l.map fun x => D.int (f x)) = (l.map f).map .int := by rw [List.map_map]; rfl
  rw [this, ints_map]; rfl
/-! ### words' arithmetic -/
def addW (p : Int) (a b : List Int) : List Int := (a.zip b).map fun q => (q.1 + q.2) % p
def subW (p : Int) (a b : List Int) : List Int := (a.zip b).map fun q => (q.1 - q.2) % p
def mulW (p c : Int) (a : List Int) : List Int := a.map fun x => c * x % p
def prodW (p : Int) (a b : List Int) : List Int := (a.zip b).map fun q => q.1 * q.2 % p
def dotW (p : Int) (a b : List Int) : Int := ((a.zip b).map fun q => q.1 * q.2).sum % p
def cutW (xs : List Int) (lot : List Nat) : List Int := lot.map fun i => xs[i]?.getD 0
/-- numbers that can be multiplied -/
def Sm (xs : List Int) : Prop := ∀ x ∈ xs, x.natAbs < 18446744073709551616
theorem Dig.sm {p : Int} {xs : List Int} (h : Dig p xs) (hp : p < 1000000) : Sm xs := fun x hx => by have := h x hx; omega
theorem zip_mem {α β : Type} {a : List α} {b : List β} {q : α × β} (h : q ∈ a.zip b) : q.1 ∈ a ∧ q.2 ∈ b := by
  obtain ⟨x, y⟩ := q; exact List.of_mem_zip h
abbrev Dn (l : List Nat) : D := .tup (l.map fun (i : Nat) => D.int (i : Int))
def natsOf (d : D) : List Nat := (intsOf d).map Int.toNat
theorem lot_is {n : Int} {d : D} (h : isLot n d = true) : d = Dn (natsOf d) ∧ ∀ i ∈ natsOf d, (i : Int) < n := by
  cases d <;> first | (cases h; done) | skip
  rename_i l
  have h : (l.all (isIdx n) && ascI (intsOf (.tup l))) = true := h
  rw [Bool.and_eq_true] at h
  obtain ⟨xs, rfl, hx⟩ := allIdx h.1
  have e : natsOf (Dw xs) = xs.map Int.toNat := by unfold natsOf; rw [intsOf_w]
  rw [e]
  refine ⟨?_, fun i hi => ?_⟩
  · show D.tup _ = D.tup _
    rw [List.map_map]
    congr 1
    refine List.map_congr_left fun x hx' => ?_
    have := (hx x hx').1
    show D.int x = D.int ((x.toNat : Nat) : Int)
    rw [Int.toNat_of_nonneg this]
  · obtain ⟨x, hx', rfl⟩ := List.mem_map.mp hi
    have := hx x hx'
    omega
end SH

set_option Elab.async false
set_option linter.all false
set_option autoImplicit false
set_option maxRecDepth 100000
set_option maxHeartbeats 4000000
/-! bounded data -/
namespace SH
open PySem PySem.Spec PyProof.Rows L2 LamX
/-- how great numbers may be -/
def BIG : Nat := 10 ^ 70
theorem BIG_lt : BIG < 2 ^ 1900 := by decide +kernel
theorem BIG_ge : 1000000 ≤ BIG := by decide +kernel
theorem BIG_59 : 10 ^ 59 + 1000000 ≤ BIG := by decide +kernel
/-- how long a tuple is -/
def tl : D → Nat
  | .tup l => l.length
  | _ => 0
theorem drop_at {α : Type} {l : List α} {i : Nat} {x : α} (h : l[i]? = some x) : l.drop i = x :: l.drop (i + 1) := by
  rw [List.drop_eq_getElem_cons (List.getElem?_eq_some_iff.mp h).1, (List.getElem?_eq_some_iff.mp h).2]
/-- data that the judges can take -/
structure Dm (d : D) : Prop where
  fit : d.fits = true
  dep : d.depth ≤ 20
  wt : d.wt ≤ 4000000
theorem wts_len : ∀ l : List D, l.length * 2 ≤ D.wts l
  | [] => Nat.le_refl _
  | d :: l => by
    have := wts_len l
    rw [List.length_cons]
    unfold D.wts
    omega
theorem wts_mem : ∀ {l : List D} {d : D}, d ∈ l → d.wt ≤ D.wts l
  | a :: l, d, h => by
    unfold D.wts
    rcases List.mem_cons.mp h with rfl | h
    · omega
    · have := wts_mem h; omega
theorem deps_mem : ∀ {l : List D} {d : D}, d ∈ l → d.depth ≤ D.depths l
  | a :: l, d, h => by
    unfold D.depths
    rcases List.mem_cons.mp h with rfl | h
    · exact Nat.le_max_left _ _
    · exact Nat.le_trans (deps_mem h) (Nat.le_max_right _ _)
theorem deps_le {l l' : List D} (h : ∀ d ∈ l', d ∈ l) : D.depths l' ≤ D.depths l := by
  induction l' with
  | nil => exact Nat.zero_le _
  | cons a l' ih =>
    show max a.depth (D.depths l') ≤ D.depths l
    have h1 := deps_mem (h a List.mem_cons_self)
    have h2 := ih fun d hd => h d (List.mem_cons_of_mem _ hd)
    exact Nat.max_le.mpr ⟨h1, h2⟩
theorem Dm.mem {l : List D} {d : D} (h : Dm (.tup l)) (hd : d ∈ l) : Dm d := by
  refine ⟨fitsL_mem h.fit d hd, ?_, ?_⟩
  · have := deps_mem hd
    have := h.dep
    unfold D.depth at this
    omega
  · have := wts_mem hd
    have := h.wt
    unfold D.wt at this
    omega
theorem Dm.len {l : List D} (h : Dm (.tup l)) : l.length ≤ 4000000 := by
  have := wts_len l
  have := h.wt
  unfold D.wt at this
  omega
mutual
/-- ints within a bound, no functions, no pointers -/
def D.il (N : Nat) : D → Bool
  | .non => true
  | .bl _ => true
  | .int i => Nat.ble i.natAbs N
  | .str x => x.cps.toList.all fun c => Nat.blt c 4294967296
  | .tup l => D.ils N l
  | .lst l => D.ils N l
  | _ => false
def D.ils (N : Nat) : List D → Bool
  | [] => true
  | d :: l => D.il N d && D.ils N l
end
theorem ils_mem {N : Nat} : ∀ {l : List D}, D.ils N l = true → ∀ d ∈ l, D.il N d = true
  | [], _, d, hd => by cases hd
  | a :: l, h, d, hd => by
    unfold D.ils at h
    rw [Bool.and_eq_true] at h
    rcases List.mem_cons.mp hd with rfl | hd
    · exact h.1
    · exact ils_mem h.2 d hd
theorem ils_of {N : Nat} : ∀ {l : List D}, (∀ d ∈ l, D.il N d = true) → D.ils N l = true
  | [], _ => rfl
  | a :: l, h => by
    unfold D.ils
    rw [h a List.mem_cons_self, ils_of fun d hd => h d (List.mem_cons_of_mem _ hd)]; rfl
mutual
theorem il_mono {N M : Nat} (hm : N ≤ M) : ∀ d : D, D.il N d = true → D.il M d = true
  | .non, _ => rfl
  | .bl _, _ => rfl
  | .int i, h => Nat.ble_eq_true_of_le (Nat.le_trans (Nat.le_of_ble_eq_true h) hm)
  | .str _, h => h
  | .tup l, h => ils_mono hm l h
  | .lst l, h => ils_mono hm l h
  | .fn _, h => by cases h
  | .ptr _, h => by cases h
  | .scr _, h => by cases h
theorem ils_mono {N M : Nat} (hm : N ≤ M) : ∀ l : List D, D.ils N l = true → D.ils M l = true
  | [], _ => rfl
  | d :: l, h => by
    unfold D.ils at h
    rw [Bool.and_eq_true] at h
    unfold D.ils
    rw [il_mono hm d h.1, ils_mono hm l h.2]; rfl
end
mutual
theorem il_fits {N : Nat} (hN : N ≤ BIG) : ∀ d : D, D.il N d = true → d.fits = true
  | .non, _ => rfl
  | .bl _, _ => rfl
  | .int i, h => Nat.ble_eq_true_of_le (Nat.lt_of_le_of_lt (Nat.le_trans (Nat.le_of_ble_eq_true h) hN) BIG_lt)
  | .str _, h => h
  | .tup l, h => ils_fits hN l h
  | .lst l, h => ils_fits hN l h
  | .fn _, h => by cases h
  | .ptr _, h => by cases h
  | .scr _, h => by cases h
theorem ils_fits {N : Nat} (hN : N ≤ BIG) : ∀ l : List D, D.ils N l = true → D.fitsL l = true
  | [], _ => rfl
  | d :: l, h => by
    unfold D.ils at h
    rw [Bool.and_eq_true] at h
    unfold D.fitsL
    rw [il_fits hN d h.1, ils_fits hN l h.2]; rfl
end
/-- bounded data -/
structure Gb (N c t : Nat) (d : D) : Prop where
  il : D.il N d = true
  wt : d.wt ≤ c
  dep : d.depth ≤ t
theorem Gb.mono {N c t N' c' t' : Nat} {d : D} (h : Gb N c t d) (h1 : N ≤ N') (h2 : c ≤ c') (h3 : t ≤ t') : Gb N' c' t' d := ⟨il_mono h1 d h.il, Nat.le_trans h.wt h2, Nat.le_trans h.dep h3⟩
theorem Gb.dm {N c t : Nat} {d : D} (h : Gb N c t d) (h1 : N ≤ BIG) (h2 : c ≤ 4000000) (h3 : t ≤ 20) : Dm d := ⟨il_fits h1 d h.il, Nat.le_trans h.dep h3, Nat.le_trans h.wt h2⟩
theorem wts_app : ∀ a b : List D, D.wts (a ++ b) = D.wts a + D.wts b
  | [], b => by show D.wts b = 0 + D.wts b; omega
  | d :: a, b => by
    show D.wt d + 2 + D.wts (a ++ b) = D.wt d + 2 + D.wts a + D.wts b
    rw [wts_app a b]; omega
theorem wts_rev (a : List D) : D.wts a.reverse = D.wts a := by
  induction a with
  | nil => rfl
  | cons d a ih =>
    rw [List.reverse_cons, wts_app, ih]
    show D.wts a + (D.wt d + 2 + 0) = D.wt d + 2 + D.wts a
    omega
theorem wts_take (l : List D) (i : Nat) : D.wts (l.take i) + D.wts (l.drop i) = D.wts l := by
  rw [← wts_app, List.take_append_drop]
theorem wts_drop_le (l : List D) (i : Nat) : D.wts (l.drop i) ≤ D.wts l := by have := wts_take l i; omega
theorem wts_take_le (l : List D) (i : Nat) : D.wts (l.take i) ≤ D.wts l := by have := wts_take l i; omega
theorem deps_of {l : List D} {t : Nat} (h : ∀ d ∈ l, d.depth ≤ t) : D.depths l ≤ t := by
  induction l with
  | nil => exact Nat.zero_le _
  | cons a l ih =>
    show max a.depth (D.depths l) ≤ t
    have h1 := h a List.mem_cons_self
    have h2 := ih fun d hd => h d (List.mem_cons_of_mem _ hd)
    omega
/-- a tuple of parts of one -/
theorem Gb.sub {N c t : Nat} {l l' : List D} (h : Gb N c (t + 1) (.tup l)) (hm : ∀ d ∈ l', d ∈ l) (hw : D.wts l' ≤ 2 * D.wts l) : Gb N (2 * c) (t + 1) (.tup l') := by
  refine ⟨ils_of fun d hd => ils_mem h.il d (hm d hd), ?_, ?_⟩
  · have := h.wt
    show D.wts l' + 3 ≤ 2 * c
    have e : D.wt (.tup l) = D.wts l + 3 := rfl
    omega
  · have := h.dep
    have e : D.depth (.tup l) = D.depths l + 1 := rfl
    show D.depths l' + 1 ≤ t + 1
    have := deps_le hm
    omega
theorem Gb.lst {N c t : Nat} {l : List D} (h : Gb N c t (.tup l)) : Gb N c t (.lst l) := ⟨h.il, h.wt, h.dep⟩
theorem Gb.mem {N c t : Nat} {l : List D} (h : Gb N c (t + 1) (.tup l)) {d : D} (hd : d ∈ l) : Gb N c t d := by
  refine ⟨ils_mem h.il d hd, ?_, ?_⟩
  · have := wts_mem hd
    have := h.wt
    have e : D.wt (.tup l) = D.wts l + 3 := rfl
    omega
  · have := deps_mem hd
    have := h.dep
    have e : D.depth (.tup l) = D.depths l + 1 := rfl
    omega
/-- one part exchanged -/
theorem Gb.put {N N' c M t t' : Nat} {l : List D} {i : Nat} {d d' : D} (h : Gb N c (t + 1) (.tup l)) (hi : l[i]? = some d) (h' : Gb N' (2 * d.wt + M) t' d') (hN : N ≤ N') (ht : t ≤ t') : Gb N' (2 * c + M) (t' + 1) (.tup (l.take i ++ [d'] ++ l.drop (i + 1))) := by
  have hd := drop_at hi
  have w1 := wts_take l i
  rw [hd] at w1
  have w2 : D.wts (d :: l.drop (i + 1)) = d.wt + 2 + D.wts (l.drop (i + 1)) := rfl
  refine ⟨ils_of fun e he => ?_, ?_, ?_⟩
  · rcases List.mem_append.mp he with he | he
    · rcases List.mem_append.mp he with he | he
      · exact il_mono hN e (ils_mem h.il e (List.mem_of_mem_take he))
      · rw [List.mem_singleton.mp he]; exact h'.il
    · exact il_mono hN e (ils_mem h.il e (List.mem_of_mem_drop he))
  · show D.wts (l.take i ++ [d'] ++ l.drop (i + 1)) + 3 ≤ 2 * c + M
    rw [wts_app, wts_app]
    have e1 : D.wts [d'] = d'.wt + 2 + 0 := rfl
    have := h'.wt
    have := h.wt
    have e : D.wt (.tup l) = D.wts l + 3 := rfl
    omega
  · show D.depths (l.take i ++ [d'] ++ l.drop (i + 1)) + 1 ≤ t' + 1
    refine Nat.succ_le_succ (deps_of fun e he => ?_)
    have hdep : ∀ e ∈ l, e.depth ≤ t := fun e he => (h.mem he).dep
    rcases List.mem_append.mp he with he | he
    · rcases List.mem_append.mp he with he | he
      · exact Nat.le_trans (hdep e (List.mem_of_mem_take he)) ht
      · rw [List.mem_singleton.mp he]; exact h'.dep
    · exact Nat.le_trans (hdep e (List.mem_of_mem_drop he)) ht
theorem Gb.len {N c t : Nat} {l : List D} (h : Gb N c t (.tup l)) : l.length ≤ c := by
  have := wts_len l
  have := h.wt
  have e : D.wt (.tup l) = D.wts l + 3 := rfl
  omega
theorem o_eqT0 {d : D} {N c t : Nat} {g : G} {Q : Bool → G → Prop} (h : Gb N c t d) (hN : N ≤ BIG) (ht : t ≤ 20) {l : List D} (e : d = .tup l) (q : Q l.isEmpty g) : Ok (lift (cmp .eq d (.tup [])) g) Q := by
  subst e
  refine o_eqNilT (fits_plain _ (il_fits hN _ h.il)) (Nat.ble_eq_true_of_le ?_) q
  have := h.dep
  have e : D.depth (.tup l) = D.depths l + 1 := rfl
  omega
/-- a word of digits of p and so many places -/
def Wd (p : Int) (n : Nat) (d : D) : Prop := ∃ xs : List Int, d = Dw xs ∧ xs.length = n ∧ Dig p xs
def WdL (p : Int) (n : Nat) (d : D) : Prop := ∃ xs : List Int, d = .lst (xs.map .int) ∧ xs.length = n ∧ Dig p xs
theorem allI {P : Int → Prop} : ∀ l : List D, (∀ d ∈ l, ∃ v : Int, d = .int v ∧ P v) → ∃ xs : List Int, l = xs.map .int ∧ xs.length = l.length ∧ ∀ x ∈ xs, P x
  | [], _ => ⟨[], rfl, rfl, fun x hx => by cases hx⟩
  | d :: l, h => by
    obtain ⟨v, rfl, hv⟩ := h d List.mem_cons_self
    obtain ⟨xs, rfl, hl, hx⟩ := allI l fun e he => h e (List.mem_cons_of_mem _ he)
    refine ⟨v :: xs, rfl, by simp, fun x hx' => ?_⟩
    rcases List.mem_cons.mp hx' with rfl | hx'
    · exact hv
    · exact hx x hx'
theorem abs_small {p x : Int} (h0 : 0 ≤ x) (h : x < p) (hp : p < 100) : x.natAbs < 18446744073709551616 := by omega
theorem eqvs_ints : ∀ xs ys : List Int, D.eqvs (xs.map .int) (ys.map .int) = (xs == ys)
  | [], [] => rfl
  | [], _ :: _ => rfl
  | _ :: _, [] => rfl
  | x :: xs, y :: ys => by
    show ((x == y) && D.eqvs (xs.map .int) (ys.map .int)) = _
    rw [eqvs_ints xs ys]; rfl
theorem plns_ints : ∀ xs : List Int, D.plains (xs.map .int) = true
  | [] => rfl
  | x :: xs => by show (true && D.plains (xs.map .int)) = true; rw [plns_ints xs]; rfl
theorem deps_ints : ∀ xs : List Int, D.depths (xs.map .int) = 0
  | [] => rfl
  | x :: xs => by show max 0 (D.depths (xs.map .int)) = 0; rw [deps_ints xs]; rfl
section
variable {g : G} {Q : Bool → G → Prop} {xs ys : List Int}
theorem cmp_eqL : SH.cmp .eq (.lst (xs.map .int)) (.lst (ys.map .int)) = some (xs == ys) := by
  unfold SH.cmp
  have e1 : (D.lst (xs.map .int)).plain = true := plns_ints xs
  have e2 : (D.lst (ys.map .int)).plain = true := plns_ints ys
  have e3 : (D.lst (xs.map .int)).depth = 1 := by show D.depths _ + 1 = 1; rw [deps_ints]
  have e4 : (D.lst (xs.map .int)).eqv (.lst (ys.map .int)) = (xs == ys) := eqvs_ints xs ys
  simp only [e1, e2, e3, e4]; rfl
theorem cmp_eqT : SH.cmp .eq (.tup (xs.map .int)) (.tup (ys.map .int)) = some (xs == ys) := by
  unfold SH.cmp
  have e1 : (D.tup (xs.map .int)).plain = true := plns_ints xs
  have e2 : (D.tup (ys.map .int)).plain = true := plns_ints ys
  have e3 : (D.tup (xs.map .int)).depth = 1 := by show D.depths _ + 1 = 1; rw [deps_ints]
  have e4 : (D.tup (xs.map .int)).eqv (.tup (ys.map .int)) = (xs == ys) := eqvs_ints xs ys
  simp only [e1, e2, e3, e4]; rfl
theorem o_eqLI (q : Q (xs == ys) g) : Ok (SH.lift (SH.cmp .eq (.lst (xs.map .int)) (.lst (ys.map .int))) g) Q := by
  with_unfolding_all exact Ok.lift cmp_eqL q
theorem o_eqTI (q : Q (xs == ys) g) : Ok (SH.lift (SH.cmp .eq (.tup (xs.map .int)) (.tup (ys.map .int))) g) Q := by
  with_unfolding_all exact Ok.lift cmp_eqT q
end
theorem atI_last {α : Type} (l : List α) (z : α) : atI (l ++ [z]) (-1) = some z := by
  unfold atI ixN
  have h : ((l ++ [z]).length : Int) = l.length + 1 := by simp
  rw [if_neg (by decide), if_pos (by rw [h]; omega)]
  have e : (-1 + ((l ++ [z]).length : Int)).toNat = l.length := by rw [h]; omega
  rw [e]
  simp
end SH

set_option Elab.async false
set_option linter.all false
set_option autoImplicit false
set_option maxRecDepth 100000
set_option maxHeartbeats 4000000
/-! what a law reckons place by place -/
namespace SH
open PySem PySem.Spec PyProof.Rows L2 LamX
theorem zip_range {β : Type} (F : Int × Int → β) : ∀ (xs ys : List Int) (n : Nat), xs.length = n → ys.length = n → (List.range n).map (fun i => F (xs[i]?.getD 0, ys[i]?.getD 0)) = (xs.zip ys).map F := by
  intro xs ys n hx hy
  refine List.ext_getElem (by simp [hx, hy]) fun i h1 h2 => ?_
  have hi : i < n := by simpa using h1
  rw [List.getElem_map, List.getElem_map, List.getElem_range, List.getElem_zip, List.getElem?_eq_getElem (by omega), List.getElem?_eq_getElem (by omega)]
  rfl
theorem map_range {β : Type} (F : Int → β) : ∀ (xs : List Int) (n : Nat), xs.length = n → (List.range n).map (fun i => F (xs[i]?.getD 0)) = xs.map F := by
  intro xs n hx
  refine List.ext_getElem (by simp [hx]) fun i h1 h2 => ?_
  have hi : i < n := by simpa using h1
  rw [List.getElem_map, List.getElem_map, List.getElem_range, List.getElem?_eq_getElem (by omega)]
  rfl
theorem addW_len {p : Int} {xs ys : List Int} {n : Nat} (hx : xs.length = n) (hy : ys.length = n) : (addW p xs ys).length = n := by simp [addW, hx, hy]
theorem addW_dig {p : Int} (h0 : 0 < p) {xs ys : List Int} : Dig p (addW p xs ys) := fun z hz => by
  obtain ⟨q, _, rfl⟩ := List.mem_map.mp hz
  exact ⟨Int.emod_nonneg _ (by omega), Int.emod_lt_of_pos _ h0⟩
theorem subW_len {p : Int} {xs ys : List Int} {n : Nat} (hx : xs.length = n) (hy : ys.length = n) : (subW p xs ys).length = n := by simp [subW, hx, hy]
theorem subW_dig {p : Int} (h0 : 0 < p) {xs ys : List Int} : Dig p (subW p xs ys) := fun z hz => by
  obtain ⟨q, _, rfl⟩ := List.mem_map.mp hz
  exact ⟨Int.emod_nonneg _ (by omega), Int.emod_lt_of_pos _ h0⟩
theorem mulW_len {p c : Int} {xs : List Int} : (mulW p c xs).length = xs.length := by simp [mulW]
theorem mulW_dig {p c : Int} (h0 : 0 < p) {xs : List Int} : Dig p (mulW p c xs) := fun z hz => by
  obtain ⟨q, _, rfl⟩ := List.mem_map.mp hz
  exact ⟨Int.emod_nonneg _ (by omega), Int.emod_lt_of_pos _ h0⟩
theorem prodW_len {p : Int} {xs ys : List Int} {n : Nat} (hx : xs.length = n) (hy : ys.length = n) : (prodW p xs ys).length = n := by simp [prodW, hx, hy]
theorem prodW_dig {p : Int} (h0 : 0 < p) {xs ys : List Int} : Dig p (prodW p xs ys) := fun z hz => by
  obtain ⟨q, _, rfl⟩ := List.mem_map.mp hz
  exact ⟨Int.emod_nonneg _ (by omega), Int.emod_lt_of_pos _ h0⟩
theorem dotW_dig {p : Int} (h0 : 0 < p) {xs ys : List Int} : 0 ≤ dotW p xs ys ∧ dotW p xs ys < p := ⟨Int.emod_nonneg _ (by omega), Int.emod_lt_of_pos _ h0⟩
/-- what is added is taken off again -/
theorem sub_add {p : Int} {xs ys : List Int} (h : xs.length = ys.length) (hx : Dig p xs) : subW p (addW p xs ys) ys = xs := by
  refine List.ext_getElem (by simp [subW, addW, h]) fun i h1 h2 => ?_
  simp only [subW, addW, List.getElem_map, List.getElem_zip]
  have := hx xs[i] (List.getElem_mem h2)
  rw [Int.emod_sub_emod, show xs[i] + ys[i]'(by omega) - ys[i]'(by omega) = xs[i] by omega]
  exact Int.emod_eq_of_lt this.1 this.2
/-! ### bounds -/
theorem wts_ints : ∀ xs : List Int, D.wts (xs.map .int) = xs.length * 1923
  | [] => rfl
  | x :: xs => by
    show 1921 + 2 + D.wts (xs.map .int) = _
    rw [wts_ints xs, List.length_cons]; omega
theorem ils_ints {N : Nat} {xs : List Int} (h : ∀ x ∈ xs, x.natAbs ≤ N) : D.ils N (xs.map .int) = true :=
  ils_of fun d hd => by
    obtain ⟨x, hx, rfl⟩ := List.mem_map.mp hd
    exact Nat.ble_eq_true_of_le (h x hx)
theorem Gb.word {N c : Nat} {xs : List Int} (h : ∀ x ∈ xs, x.natAbs ≤ N) (hc : xs.length * 1923 + 3 ≤ c) : Gb N c 1 (Dw xs) := by
  refine ⟨ils_ints h, ?_, ?_⟩
  · show D.wts (xs.map .int) + 3 ≤ c
    rw [wts_ints]; exact hc
  · show D.depths (xs.map .int) + 1 ≤ 1
    rw [deps_ints]; exact Nat.le_refl _
theorem Gb.nats {N c : Nat} {l : List Nat} (h : ∀ x ∈ l, x ≤ N) (hc : l.length * 1923 + 3 ≤ c) : Gb N c 1 (Dn l) := by
  have e : Dn l = Dw (l.map fun (i : Nat) => (i : Int)) := by
    show D.tup _ = D.tup _
    rw [List.map_map]; rfl
  rw [e]
  refine Gb.word (fun x hx => ?_) (by rw [List.length_map]; exact hc)
  obtain ⟨i, hi, rfl⟩ := List.mem_map.mp hx
  exact h i hi
theorem Gb.num {N c t : Nat} {i : Int} (h : i.natAbs ≤ N) (hc : 1921 ≤ c) : Gb N c t (.int i) := ⟨Nat.ble_eq_true_of_le h, hc, Nat.zero_le _⟩
theorem wts_le {c : Nat} : ∀ {l : List D}, (∀ d ∈ l, d.wt ≤ c) → D.wts l ≤ l.length * (c + 2)
  | [], _ => Nat.zero_le _
  | d :: l, h => by
    have h1 := h d List.mem_cons_self
    have h2 := wts_le (l := l) fun e he => h e (List.mem_cons_of_mem _ he)
    show d.wt + 2 + D.wts l ≤ _
    rw [List.length_cons, Nat.add_mul, Nat.one_mul]
    omega
theorem Gb.list {N c t : Nat} {l : List D} (h : ∀ d ∈ l, Gb N c t d) : Gb N (l.length * (c + 2) + 3) (t + 1) (.lst l) := by
  refine ⟨ils_of fun d hd => (h d hd).il, ?_, ?_⟩
  · show D.wts l + 3 ≤ _
    have := wts_le (l := l) fun d hd => (h d hd).wt
    omega
  · show D.depths l + 1 ≤ t + 1
    have := deps_of (l := l) fun d hd => (h d hd).dep
    omega
theorem Gb.tupl {N c t : Nat} {l : List D} (h : ∀ d ∈ l, Gb N c t d) : Gb N (l.length * (c + 2) + 3) (t + 1) (.tup l) := ⟨(Gb.list h).il, (Gb.list h).wt, (Gb.list h).dep⟩
theorem Gb.small {N c t : Nat} {d : D} (h : Gb N c t d) (h1 : N ≤ BIG) (h2 : c ≤ 16777216) (h3 : t ≤ 100) : d.small = true := by
  unfold D.small
  rw [il_fits h1 d h.il, Nat.ble_eq_true_of_le (Nat.le_trans h.wt h2), Nat.ble_eq_true_of_le (Nat.le_trans h.dep h3)]; rfl
theorem all_nilD {P : D → Prop} : ∀ d ∈ ([] : List D), P d := fun d hd => by cases hd
theorem all_consD {P : D → Prop} {a : D} {l : List D} (h : P a) (hl : ∀ d ∈ l, P d) : ∀ d ∈ a :: l, P d := fun d hd => by
  rcases List.mem_cons.mp hd with rfl | hd
  · exact h
  · exact hl d hd
/-! ### tests that draw -/
theorem c_sub {α : Type} {S : Sl} {g : G} {tg vs : List Nat} {tests : Sl → G → Res Bool} {elt : Sl → G → Res D} (I : G → Prop) (en f : α → D) (xs : List α) {Q : List D → G → Prop} (hI : I g)
    (h : ∀ x ∈ xs, ∀ g, I g → ∃ S1, putTg tg (en x) (wipeS S vs) = some S1 ∧ Ok (tests S1 g) (fun b g1 => I g1 ∧ (b = true → Ok (elt S1 g1) (fun d g2 => d = f x ∧ g2 = g1))))
    (q : ∀ (ys : List α) g, ys.Sublist xs → I g → Q (ys.map f) g) : Ok (turns tg vs S tests elt (xs.map en) [] g) Q := by
  with_unfolding_all
  have key : ∀ (xs : List α) (acc : List D) (g : G), I g → (∀ x ∈ xs, ∀ g, I g → ∃ S1, putTg tg (en x) (wipeS S vs) = some S1 ∧ Ok (tests S1 g) (fun b g1 => I g1 ∧ (b = true → Ok (elt S1 g1) (fun d g2 => d = f x ∧ g2 = g1)))) →
      Ok (turns tg vs S tests elt (xs.map en) acc g) (fun l g => ∃ ys : List α, ys.Sublist xs ∧ l = acc.reverse ++ ys.map f ∧ I g) := by
    intro xs
    induction xs with
    | nil => intro acc g hI _; exact ⟨[], List.Sublist.refl _, by simp, hI⟩
    | cons x xs ih =>
      intro acc g hI h
      obtain ⟨S1, h1, h2⟩ := h x List.mem_cons_self g hI
      obtain ⟨b, g1, e, h3, h4⟩ := Ok.get h2
      rw [List.map_cons, turns, h1]
      simp only
      rw [e]
      cases b with
      | true =>
        obtain ⟨d, g2, e2, hd, hg⟩ := Ok.get (h4 rfl)
        simp only
        rw [e2]
        simp only
        subst hd hg
        refine (ih (f x :: acc) g2 h3 fun y hy => h y (List.mem_cons_of_mem _ hy)).imp fun l g ⟨ys, a, b, c⟩ => ⟨x :: ys, a.cons_cons _, by rw [b]; simp, c⟩
      | false =>
        simp only
        refine (ih acc g1 h3 fun y hy => h y (List.mem_cons_of_mem _ hy)).imp fun l g ⟨ys, a, b, c⟩ => ⟨ys, a.cons _, b, c⟩
  refine (key xs [] g hI h).imp fun l g ⟨ys, a, b, c⟩ => ?_
  rw [b]
  exact q ys g a c
theorem sub_lot {ys : List Nat} {n : Nat} (h : ys.Sublist (List.range n)) : isLot n (Dn ys) = true ∧ natsOf (Dn ys) = ys ∧ ∀ i ∈ ys, i < n := by
  have hlt : ∀ i ∈ ys, i < n := fun i hi => List.mem_range.mp (h.subset hi)
  have hp : ys.Pairwise (· < ·) := List.Pairwise.sublist h List.pairwise_lt_range
  have e : Dn ys = Dw (ys.map fun (i : Nat) => (i : Int)) := by
    show D.tup _ = D.tup _
    rw [List.map_map]; rfl
  have hi : intsOf (Dn ys) = ys.map fun (i : Nat) => (i : Int) := by rw [e, intsOf_w]
  refine ⟨?_, ?_, hlt⟩
  · show ((ys.map fun (i : Nat) => D.int (i : Int)).all (isIdx n) && ascI (intsOf (Dn ys))) = true
    rw [hi, Bool.and_eq_true]
    refine ⟨?_, ascI_pair.mpr ?_⟩
    · rw [List.all_map, List.all_eq_true]
      intro i hi
      have := hlt i hi
      show isIdx n (.int (i : Int)) = true
      simp [isIdx, this]
    · rw [List.pairwise_map]
      exact hp.imp fun {a b} h => by omega
  · unfold natsOf
    rw [hi, List.map_map]
    simp [Function.comp_def]
/-- the text that repr tells -/
def reprS (d : D) : Str := match reprD d with
  | some (.str s) => s
  | _ => ""
theorem o_repr {d : D} {g : G} {Q : D → G → Prop} (h : d.small = true) (q : Q (.str (reprS d)) g) : Ok (SH.lift (SH.bi .repr [d]) g) Q := by
  with_unfolding_all
  obtain ⟨s, hs⟩ := small_repr h
  have e : reprS d = s := by unfold reprS; rw [hs]
  rw [e] at q
  exact Ok.lift hs q
/-! ### slots as lists -/
theorem X.nrm {Φ : Fns} {S S' : Sl} {g : G} {ms : List MS} {P : SR → Prop} (h : S = S') (k : X Φ ms S' g P) : X Φ ms S g P := by rw [h]; exact k
theorem ex_put {tg : List Nat} {x : D} {S S' : Sl} {P : Sl → Prop} (h : putTg tg x S = some S') (k : P S') : ∃ S1, putTg tg x S = some S1 ∧ P S1 := ⟨S', h, k⟩
theorem X.own' {Φ : Fns} {S : Sl} {g : G} {ms : List MS} {P : SR → Prop} {i : Nat} {e : ME} (h : W Φ e S g (fun x g => ∃ l, x = .lst l ∧ ∃ S', S.set i (some (.own l)) = S' ∧ X Φ ms S' g P)) : X Φ (.own i e :: ms) S g P :=
  X.own (W.imp h fun d g ⟨l, e, S', e', k⟩ => ⟨l, e, by rw [e']; exact k⟩)
theorem X.par' {Φ : Fns} {S : Sl} {g : G} {ms : List MS} {P : SR → Prop} {i j : Nat} {a b : ME} (h : W Φ a S g (fun x g => W Φ b S g (fun y g => ∃ S', (S.set i (some (.dat x))).set j (some (.dat y)) = S' ∧ X Φ ms S' g P))) : X Φ (.par i j a b :: ms) S g P :=
  X.par (W.imp h fun d g h => W.imp h fun d g ⟨S', e, k⟩ => by rw [e]; exact k)
theorem ex_set {S S' : Sl} {P : Sl → Prop} (h : S = S') (k : P S') : ∃ S1, S = S1 ∧ P S1 := ⟨S', h, k⟩
section
variable {p f : Int} {xs ys : List Int} {n : Nat}
theorem range_add (hx : xs.length = n) (hy : ys.length = n) : (List.range n).map (fun i => D.int ((xs[i]?.getD 0 + ys[i]?.getD 0) % p)) = (addW p xs ys).map .int := by
  rw [zip_range (fun q => D.int ((q.1 + q.2) % p)) xs ys n hx hy]; unfold addW; rw [List.map_map]; rfl
theorem range_sub (hx : xs.length = n) (hy : ys.length = n) : (List.range n).map (fun i => D.int ((xs[i]?.getD 0 - ys[i]?.getD 0) % p)) = (subW p xs ys).map .int := by
  rw [zip_range (fun q => D.int ((q.1 - q.2) % p)) xs ys n hx hy]; unfold subW; rw [List.map_map]; rfl
theorem range_prod (hx : xs.length = n) (hy : ys.length = n) : (List.range n).map (fun i => D.int (xs[i]?.getD 0 * ys[i]?.getD 0 % p)) = (prodW p xs ys).map .int := by
  rw [zip_range (fun q => D.int (q.1 * q.2 % p)) xs ys n hx hy]; unfold prodW; rw [List.map_map]; rfl
theorem range_mul (hx : xs.length = n) : (List.range n).map (fun i => D.int (f * xs[i]?.getD 0 % p)) = (mulW p f xs).map .int := by
  rw [map_range (fun x => D.int (f * x % p)) xs n hx]; unfold mulW; rw [List.map_map]; rfl
theorem lot_cut {l : List Nat} : l.map (fun i => D.int (xs[i]?.getD 0)) = (cutW xs l).map .int := by
  unfold cutW; rw [List.map_map]; rfl
theorem posF_rangeN {P : Int → Bool} (hx : xs.length = n) : ((List.range n).filter fun i => P (xs[i]?.getD 0)).map (fun (i : Nat) => D.int (i : Int)) = (posF P 0 xs).map fun (i : Nat) => D.int (i : Int) := by
  subst hx; exact posF_rangeD P xs
end
theorem posF_len {P : Int → Bool} (xs : List Int) (n : Nat) (h : xs.length = n) : (posF P 0 xs).length ≤ n := by
  rw [← posF_range0 P xs, ← h]
  exact Nat.le_trans (List.length_filter_le _ _) (by simp)
theorem cutW_len {xs : List Int} {l : List Nat} : (cutW xs l).length = l.length := by simp [cutW]
theorem cutW_dig {p : Int} (h0 : 0 < p) {xs : List Int} (h : Dig p xs) {l : List Nat} : Dig p (cutW xs l) := fun z hz => by
  obtain ⟨i, _, rfl⟩ := List.mem_map.mp hz
  cases e : xs[i]? with
  | none => exact ⟨Int.le_refl _, h0⟩
  | some x => exact h x (List.mem_of_getElem? e)
/-- what the try def tells of a call -/
def saidD (cs : List (Bool × Str)) (d : D) : D := match firstBad cs with
  | none => .tup [.str "told", d]
  | some n => .tup [.str "use", .str n, .int (-1)]
theorem saidD_ok {b : Bool} {s : Str} {d : D} (h : b = true) : saidD [(b, s)] d = .tup [.str "told", d] := by subst h; rfl
theorem saidD_bad {b : Bool} {s : Str} {d : D} (h : b = false) : saidD [(b, s)] d = .tup [.str "use", .str s, .int (-1)] := by subst h; rfl
section
variable {Φ : Fns} {S : Sl} {g : G} {ms : List MS} {P : SR → Prop}
theorem X.app' {i : Nat} {e : ME} {xs : List D} (hs : S[i]? = some (some (.own xs))) (h : W Φ e S g (fun x g => xs.length < sizeLine ∧ ∃ S', S.set i (some (.own (xs ++ [x]))) = S' ∧ X Φ ms S' g P)) : X Φ (.app i e :: ms) S g P :=
  X.app hs (W.imp h fun d g ⟨h1, S', e, k⟩ => ⟨h1, by rw [e]; exact k⟩)
theorem W.iteV {c a b : ME} {Q : D → G → Prop} (t : Bool) (v : D) (hc : W Φ c S g (fun d g' => d = .bl t ∧ g' = g)) (ha : t = true → W Φ a S g (fun d g' => d = v ∧ g' = g)) (hb : t = false → W Φ b S g (fun d g' => d = v ∧ g' = g)) (q : Q v g) : W Φ (.ite c a b) S g Q := by
  refine W.ite (W.imp hc fun d g' ⟨e1, e2⟩ => ?_)
  subst e1 e2
  refine tr_bl ⟨fun h => ?_, fun h => ?_⟩
  · exact W.imp (ha h) fun d g' ⟨e1, e2⟩ => by subst e1 e2; exact q
  · exact W.imp (hb h) fun d g' ⟨e1, e2⟩ => by subst e1 e2; exact q
end
theorem reps0 (n : Nat) : (List.replicate n [D.int 0]).flatten = (List.replicate n (0 : Int)).map .int := by
  induction n with
  | zero => rfl
  | succ n ih => rw [List.replicate_succ, List.flatten_cons, ih, List.replicate_succ]; rfl
theorem zeros_dig {p : Int} (h0 : 0 < p) (n : Nat) : Dig p (List.replicate n 0) := fun x hx => by
  rw [List.eq_of_mem_replicate hx]; exact ⟨Int.le_refl _, h0⟩
theorem add_zeros {p : Int} {xs : List Int} (h : Dig p xs) : addW p (List.replicate xs.length 0) xs = xs := by
  refine List.ext_getElem (by simp [addW]) fun i h1 h2 => ?_
  simp only [addW, List.getElem_map, List.getElem_zip, List.getElem_replicate]
  have := h xs[i] (List.getElem_mem h2)
  rw [Int.zero_add]
  exact Int.emod_eq_of_lt this.1 this.2
theorem prod_zeros {p : Int} {xs : List Int} : prodW p (List.replicate xs.length 0) xs = List.replicate xs.length 0 := by
  refine List.ext_getElem (by simp [prodW]) fun i h1 h2 => ?_
  simp [prodW]
theorem mul_zeros {p c : Int} {n : Nat} : mulW p c (List.replicate n 0) = List.replicate n 0 := by simp [mulW]
theorem cut_zeros {n : Nat} {l : List Nat} : cutW (List.replicate n 0) l = List.replicate l.length 0 := by
  refine List.ext_getElem (by simp [cutW]) fun i h1 h2 => ?_
  simp only [cutW, List.getElem_map, List.getElem_replicate]
  rw [List.getElem?_replicate]
  split <;> rfl
theorem wt_word {c : Nat} {d : D} {w : Str} (hw : D.wt (.str w) ≤ 500) (hd : d.wt ≤ c) : D.wt (.tup [.str w, d]) ≤ c + 600 := by
  show D.wt (.str w) + 2 + (d.wt + 2 + 0) + 3 ≤ c + 600
  omega
theorem saidD_gb {b : Bool} {s : Str} {d : D} (hs : D.il 100 (.str s) = true) (hw : D.wt (.str s) ≤ 500) (hd : b = true → Gb 100 200000 2 d) : Gb 100 210000 3 (saidD [(b, s)] d) := by
  cases b with
  | true =>
    have h := hd rfl
    rw [saidD_ok rfl]
    refine ⟨?_, Nat.le_trans (wt_word (by decide +kernel) h.wt) (by decide), ?_⟩
    · show (D.il 100 (.str "told") && (D.il 100 d && true)) = true
      rw [h.il]; decide +kernel
    · show max 0 (max d.depth 0) + 1 ≤ 3
      have := h.dep
      omega
  | false =>
    rw [saidD_bad rfl]
    refine ⟨?_, ?_, ?_⟩
    · show (D.il 100 (.str "use") && (D.il 100 (.str s) && (D.il 100 (.int (-1)) && true))) = true
      rw [hs]; decide +kernel
    · show D.wt (.str "use") + 2 + (D.wt (.str s) + 2 + (1921 + 2 + 0)) + 3 ≤ 210000
      have : D.wt (.str "use") ≤ 500 := by decide +kernel
      omega
    · show max 0 (max 0 (max 0 0)) + 1 ≤ 3
      decide
end SH

set_option Elab.async false
set_option linter.all false
set_option maxRecDepth 1000000
set_option maxHeartbeats 0
namespace SH.K01
open PySem PySem.Spec PyProof.Rows L2 LamX SH
abbrev P : Program := PySem.Challenge.pw_starshelves_k01_whole_words_and_kinds
def ds : List He.DefD := (topDefs P.main.body).filter fun d => d.at_.2.isNone
def exs : List (Str × List Str) := [("InvalidPaper", ["word", "at"]), ("NotUsable", ["word", "at"]), ("InvalidText", ["line", "field"])]
def subs : List (Str × List Str) := [("ShelfError", ["InvalidPaper", "NotUsable", "InvalidText"]), ("ValueError", ["InvalidPaper", "NotUsable", "InvalidText"]), ("PaperError", ["InvalidPaper"]), ("HallError", ["NotUsable"]), ("LiveError", []), ("TextError", ["InvalidText"]), ("InvalidPaper", ["InvalidPaper"]), ("NotUsable", ["NotUsable"]), ("InvalidText", ["InvalidText"])]
def dAt (i : Nat) : He.DefD := (ds[i]?).getD (ds.headD ⟨("", none), "", "", default, [], default, [], []⟩)
def hrows : List SRow := []
def L : Lib := { hots := [], fns := ds.map (fun d => ⟨d.name, d.params.args.map (·.arg), (cDs d.dfl).getD []⟩), free := ["len", "tuple", "list", "int", "all", "any", "sum", "min", "max", "range", "enumerate", "zip", "isinstance", "bool", "str", "repr", "sorted", "set"], con := [("PRIMES", (.tup [(.int 2), (.int 3), (.int 5), (.int 7), (.int 11), (.int 13)]))], exs := exs, subs := subs, says := [("_law_said", 0)] }
def m_is_integer : List MS := [(.ret (.and_ (.bi .isInt [(.slot 0)]) (.not_ (.bi .isBool [(.slot 0)]))))]
def m_is_number : List MS := [(.ret (.and_ (.call 0 [Sum.inl 0] [(.slot 0)]) (.cmp .ge (.slot 0) (.lit (.int 0)))))]
def m_is_prime : List MS := [(.ret (.and_ (.call 0 [Sum.inl 0] [(.slot 0)]) (.cmp .in_ (.slot 0) (.lit (.tup [(.int 2), (.int 3), (.int 5), (.int 7), (.int 11), (.int 13)])))))]
def m_is_index : List MS := [(.ret (.and_ (.call 1 [Sum.inl 0] [(.slot 1)]) (.cmp .lt (.slot 1) (.slot 0))))]
def m_is_digit : List MS := [(.ret (.call 3 [Sum.inl 0, Sum.inl 1] [(.slot 0), (.slot 1)]))]
def m_is_tuple_of : List MS := [(.ret (.and_ (.bi .isTuple [(.slot 0)]) (.cmp .eq (.bi .len [(.slot 0)]) (.slot 1))))]
def m_is_word : List MS := [(.ret (.and_ (.call 5 [Sum.inl 0, Sum.inl 1] [(.slot 2), (.slot 1)]) (.bi .all [(.comp (.seq (.slot 2)) [4] [3, 4] [] (.call 3 [Sum.inl 0, Sum.inl 1] [(.slot 0), (.slot 4)]))])))]
def m_are_ascending : List MS := [(.ret (.bi .all [(.comp (.zip (.slot 0) (.slice (.slot 0) (some (.lit (.int 1))) none)) [2, 3] [1, 2, 3] [] (.cmp .lt (.slot 2) (.slot 3)))]))]
def m_is_lot : List MS := [(.ret (.and_ (.bi .isTuple [(.slot 1)]) (.and_ (.bi .all [(.comp (.seq (.slot 1)) [3] [2, 3] [] (.call 3 [Sum.inl 0, Sum.inl 1] [(.slot 0), (.slot 3)]))]) (.call 7 [Sum.inl 0] [(.slot 1)]))))]
def m_want : List MS := [(.if_ (.not_ (.slot 0)) [(.raise_ "NotUsable" ["word", "at"] [(.slot 1), (.slot 2)])] [])]
def m_want_prime : List MS := [(.expr (.call 9 [Sum.inl 0, Sum.inl 1, Sum.inr (.int (-1))] [(.call 2 [Sum.inl 0] [(.slot 0)]), (.lit (.str "prime"))]))]
def m_want_word : List MS := [(.expr (.call 9 [Sum.inl 0, Sum.inl 1, Sum.inr (.int (-1))] [(.call 6 [Sum.inl 0, Sum.inl 1, Sum.inl 2] [(.slot 0), (.slot 1), (.slot 2)]), (.slot 3)]))]
def m_want_lot : List MS := [(.expr (.call 9 [Sum.inl 0, Sum.inl 1, Sum.inr (.int (-1))] [(.call 8 [Sum.inl 0, Sum.inl 1] [(.slot 0), (.slot 1)]), (.slot 2)]))]
def m_added_by : List MS := [(.ret (.bi .tuple [(.comp (.zip (.slot 1) (.slot 2)) [4, 5] [3, 4, 5] [] (.bin .mod (.bin .add (.slot 4) (.slot 5)) (.slot 0)))]))]
def m_lessened_by : List MS := [(.ret (.bi .tuple [(.comp (.zip (.slot 1) (.slot 2)) [4, 5] [3, 4, 5] [] (.bin .mod (.bin .sub (.slot 4) (.slot 5)) (.slot 0)))]))]
def m_times_by : List MS := [(.ret (.bi .tuple [(.comp (.seq (.slot 2)) [4] [3, 4] [] (.bin .mod (.bin .mul (.slot 1) (.slot 4)) (.slot 0)))]))]
def m_product_by : List MS := [(.ret (.bi .tuple [(.comp (.zip (.slot 1) (.slot 2)) [4, 5] [3, 4, 5] [] (.bin .mod (.bin .mul (.slot 4) (.slot 5)) (.slot 0)))]))]
def m_dot_by : List MS := [(.ret (.bin .mod (.bi .sum [(.comp (.zip (.slot 1) (.slot 2)) [4, 5] [3, 4, 5] [] (.bin .mul (.slot 4) (.slot 5)))]) (.slot 0)))]
def m_lot_by : List MS := [(.ret (.bi .tuple [(.comp (.enum (.slot 0)) [2, 3] [1, 2, 3] [(.cmp .gt (.slot 3) (.lit (.int 0)))] (.slot 2))]))]
def m_cut_by : List MS := [(.ret (.bi .tuple [(.comp (.seq (.slot 1)) [3] [2, 3] [] (.idx (.slot 0) (.slot 3)))]))]
def m_is_some_word : List MS := [(.ret (.and_ (.bi .isTuple [(.slot 1)]) (.and_ (.cmp .gt (.bi .len [(.slot 1)]) (.lit (.int 0))) (.call 6 [Sum.inl 0, Sum.inl 1, Sum.inl 2] [(.slot 0), (.bi .len [(.slot 1)]), (.slot 1)]))))]
def m_want_two : List MS := [(.expr (.call 10 [Sum.inl 0] [(.slot 0)])), (.expr (.call 9 [Sum.inl 0, Sum.inl 1, Sum.inr (.int (-1))] [(.call 20 [Sum.inl 0, Sum.inl 1] [(.slot 0), (.slot 1)]), (.lit (.str "one"))])), (.expr (.call 11 [Sum.inl 0, Sum.inl 1, Sum.inl 2, Sum.inl 3] [(.slot 0), (.bi .len [(.slot 1)]), (.slot 2), (.lit (.str "other"))]))]
def m_added : List MS := [(.expr (.call 21 [Sum.inl 0, Sum.inl 1, Sum.inl 2] [(.slot 0), (.slot 1), (.slot 2)])), (.ret (.call 13 [Sum.inl 0, Sum.inl 1, Sum.inl 2] [(.slot 0), (.slot 1), (.slot 2)]))]
def m_lessened : List MS := [(.expr (.call 21 [Sum.inl 0, Sum.inl 1, Sum.inl 2] [(.slot 0), (.slot 1), (.slot 2)])), (.ret (.call 14 [Sum.inl 0, Sum.inl 1, Sum.inl 2] [(.slot 0), (.slot 1), (.slot 2)]))]
def m_times : List MS := [(.expr (.call 10 [Sum.inl 0] [(.slot 0)])), (.expr (.call 9 [Sum.inl 0, Sum.inl 1, Sum.inr (.int (-1))] [(.call 4 [Sum.inl 0, Sum.inl 1] [(.slot 0), (.slot 1)]), (.lit (.str "digit"))])), (.expr (.call 9 [Sum.inl 0, Sum.inl 1, Sum.inr (.int (-1))] [(.call 20 [Sum.inl 0, Sum.inl 1] [(.slot 0), (.slot 2)]), (.lit (.str "one"))])), (.ret (.call 15 [Sum.inl 0, Sum.inl 1, Sum.inl 2] [(.slot 0), (.slot 1), (.slot 2)]))]
def m_product_of : List MS := [(.expr (.call 21 [Sum.inl 0, Sum.inl 1, Sum.inl 2] [(.slot 0), (.slot 1), (.slot 2)])), (.ret (.call 16 [Sum.inl 0, Sum.inl 1, Sum.inl 2] [(.slot 0), (.slot 1), (.slot 2)]))]
def m_sum_of_products : List MS := [(.expr (.call 21 [Sum.inl 0, Sum.inl 1, Sum.inl 2] [(.slot 0), (.slot 1), (.slot 2)])), (.ret (.call 17 [Sum.inl 0, Sum.inl 1, Sum.inl 2] [(.slot 0), (.slot 1), (.slot 2)]))]
def m_lot_of : List MS := [(.expr (.call 9 [Sum.inl 0, Sum.inl 1, Sum.inr (.int (-1))] [(.call 20 [Sum.inl 0, Sum.inl 1] [(.idx (.lit (.tup [(.int 2), (.int 3), (.int 5), (.int 7), (.int 11), (.int 13)])) (.neg (.lit (.int 1)))), (.slot 0)]), (.lit (.str "one"))])), (.ret (.call 18 [Sum.inl 0] [(.slot 0)]))]
def m_weight_of : List MS := [(.ret (.bi .len [(.call 27 [Sum.inl 0] [(.slot 0)])]))]
def m_cut : List MS := [(.expr (.call 9 [Sum.inl 0, Sum.inl 1, Sum.inr (.int (-1))] [(.call 20 [Sum.inl 0, Sum.inl 1] [(.idx (.lit (.tup [(.int 2), (.int 3), (.int 5), (.int 7), (.int 11), (.int 13)])) (.neg (.lit (.int 1)))), (.slot 0)]), (.lit (.str "one"))])), (.expr (.call 12 [Sum.inl 0, Sum.inl 1, Sum.inr (.str "lot")] [(.bi .len [(.slot 0)]), (.slot 1)])), (.ret (.call 19 [Sum.inl 0, Sum.inl 1] [(.slot 0), (.slot 1)]))]
def m__law_feed : List MS := [(.ret (.mkD [(Sum.inr "cells"), (Sum.inr "spot"), (Sum.inr "left"), (Sum.inr "drawn")] [(.comp (.seq (.slice (.slot 0) none (some (.lit (.int 63))))) [2] [1, 2] [] (.bi .int [(.slot 2)])), (.lit (.int 0)), (.lit (.int 0)), (.lit (.int 0))]))]
def m__law_draw : List MS := [(.setK (.slot 0) (Sum.inr "drawn") (.bin .add (.getK (.slot 0) (Sum.inr "drawn")) (.lit (.int 1)))), (.if_ (.cmp .gt (.getK (.slot 0) (Sum.inr "left")) (.lit (.int 0))) [(.set [2] (.bin .mod (.bi .int [(.getK (.slot 0) (Sum.inr "left"))]) (.slot 1))), (.setK (.slot 0) (Sum.inr "left") (.bin .fdiv (.getK (.slot 0) (Sum.inr "left")) (.slot 1))), (.ret (.slot 2))] []), (.par 3 4 (.getK (.slot 0) (Sum.inr "spot")) (.getK (.slot 0) (Sum.inr "cells"))), (.setK (.slot 0) (Sum.inr "spot") (.bin .add (.slot 3) (.lit (.int 1)))), (.set [5] (.ite (.cmp .ne (.slot 4) (.lst [])) (.idx (.slot 4) (.bin .mod (.bi .int [(.slot 3)]) (.bi .len [(.slot 4)]))) (.lit (.int 620137)))), (.if_ (.and_ (.cmp .ge (.slot 5) (.bin .pow (.lit (.int 10)) (.lit (.int 18)))) (.cmp .lt (.slot 3) (.bi .len [(.slot 4)]))) [(.setK (.slot 0) (Sum.inr "left") (.bin .fdiv (.slot 5) (.slot 1))), (.ret (.bin .mod (.bi .int [(.slot 5)]) (.slot 1)))] []), (.set [6] (.bin .mod (.bi .int [(.bin .add (.bin .add (.bin .mod (.bi .int [(.slot 5)]) (.lit (.int 1000004279))) (.bin .mul (.lit (.int 70213)) (.getK (.slot 0) (Sum.inr "drawn")))) (.lit (.int 1409)))]) (.lit (.int 2147482739)))), (.set [6] (.bin .mod (.bi .int [(.bin .add (.bin .add (.bin .mul (.slot 6) (.slot 6)) (.bin .mul (.lit (.int 4401331)) (.getK (.slot 0) (Sum.inr "drawn")))) (.lit (.int 1307)))]) (.lit (.int 2147482697)))), (.ret (.bin .mod (.bi .int [(.bin .fdiv (.bin .mod (.bi .int [(.bin .add (.bin .mul (.slot 6) (.slot 6)) (.bin .mul (.lit (.int 1409)) (.slot 6)))]) (.lit (.int 2147482693))) (.lit (.int 16)))]) (.slot 1)))]
def m__law_pick : List MS := [(.ret (.idx (.slot 1) (.call 31 [Sum.inl 0, Sum.inl 1] [(.slot 0), (.bi .len [(.slot 1)])])))]
def m__law_said : List MS := [(.try_ [(.ret (.tup [(.lit (.str "told")), (.thk 0)]))] ["InvalidPaper", "NotUsable", "InvalidText"] ["InvalidPaper", "NotUsable", "InvalidText"] 1 [(.own 2 (.lst [(.isErr 1 ["InvalidPaper", "NotUsable", "InvalidText"] ["InvalidPaper"]), (.isErr 1 ["InvalidPaper", "NotUsable", "InvalidText"] ["NotUsable"]), (.isErr 1 ["InvalidPaper", "NotUsable", "InvalidText"] ["InvalidText"])])), (.app 2 (.isErr 1 ["InvalidPaper", "NotUsable", "InvalidText"] [])), (.set [3] (.lst [(.isErr 1 ["InvalidPaper", "NotUsable", "InvalidText"] ["InvalidPaper"]), (.isErr 1 ["InvalidPaper", "NotUsable", "InvalidText"] ["NotUsable"]), (.isErr 1 ["InvalidPaper", "NotUsable", "InvalidText"] ["InvalidText"])])), (.frz [2]), (.if_ (.or_ (.cmp .ne (.count (.slot 2) (.lit (.bl true))) (.lit (.int 1))) (.or_ (.cmp .ne (.slot 3) (.slice (.slot 2) none (some (.lit (.int 3))))) (.not_ (.isErr 1 ["InvalidPaper", "NotUsable", "InvalidText"] ["InvalidPaper", "NotUsable", "InvalidText"])))) [(.ret (.tup [(.lit (.str "odd"))]))] []), (.if_ (.idx (.slot 3) (.lit (.int 2))) [(.ret (.tup [(.lit (.str "text")), (.errF 1 ["InvalidText"] "line"), (.errF 1 ["InvalidText"] "field")]))] []), (.ret (.tup [(.ite (.idx (.slot 3) (.lit (.int 0))) (.lit (.str "paper")) (.lit (.str "use"))), (.errF 1 ["InvalidPaper", "NotUsable"] "word"), (.errF 1 ["InvalidPaper", "NotUsable"] "at")]))])]
def m__law_is_number : List MS := [(.ret (.and_ (.bi .isInt [(.slot 0)]) (.and_ (.not_ (.bi .isBool [(.slot 0)])) (.cmp .ge (.slot 0) (.lit (.int 0))))))]
def m__law_is_word : List MS := [(.if_ (.or_ (.not_ (.bi .isTuple [(.slot 2)])) (.cmp .ne (.bi .len [(.slot 2)]) (.slot 1))) [(.ret (.lit (.bl false)))] []), (.ret (.cmp .eq (.comp (.seq (.slot 2)) [4] [3, 4] [(.or_ (.not_ (.call 35 [Sum.inl 0] [(.slot 4)])) (.cmp .ge (.slot 4) (.slot 0)))] (.slot 4)) (.lst [])))]
def m__law_is_lot : List MS := [(.if_ (.or_ (.not_ (.bi .isTuple [(.slot 1)])) (.cmp .ne (.comp (.seq (.slot 1)) [3] [2, 3] [(.not_ (.call 35 [Sum.inl 0] [(.slot 3)]))] (.slot 3)) (.lst []))) [(.ret (.lit (.bl false)))] []), (.ret (.and_ (.cmp .eq (.bi .list [(.slot 1)]) (.bi .sset [(.slot 1)])) (.or_ (.cmp .eq (.slot 1) (.tup [])) (.cmp .lt (.idx (.slot 1) (.neg (.lit (.int 1)))) (.slot 0)))))]
def m__law_any_word : List MS := [(.set [3] (.cmp .eq (.call 31 [Sum.inl 0, Sum.inl 1] [(.slot 0), (.lit (.int 3))]) (.lit (.int 0)))), (.ret (.bi .tuple [(.comp (.range (.lit (.int 0)) (.slot 2)) [5] [4, 5] [] (.ite (.or_ (.not_ (.slot 3)) (.cmp .eq (.call 31 [Sum.inl 0, Sum.inl 1] [(.slot 0), (.lit (.int 4))]) (.lit (.int 0)))) (.call 31 [Sum.inl 0, Sum.inl 1] [(.slot 0), (.slot 1)]) (.lit (.int 0))))]))]
def m__law_bent : List MS := [(.if_ (.and_ (.bi .isInt [(.slot 1)]) (.and_ (.not_ (.bi .isBool [(.slot 1)])) (.cmp .gt (.call 31 [Sum.inl 0, Sum.inl 1] [(.slot 0), (.lit (.int 3))]) (.lit (.int 0))))) [(.ret (.bin .add (.slot 1) (.call 33 [Sum.inl 0, Sum.inl 1] [(.slot 0), (.lst [(.neg (.lit (.int 1))), (.lit (.int 1)), (.lit (.int 2))])])))] []), (.if_ (.or_ (.not_ (.bi .isTuple [(.slot 1)])) (.or_ (.cmp .eq (.slot 1) (.tup [])) (.cmp .eq (.call 31 [Sum.inl 0, Sum.inl 1] [(.slot 0), (.lit (.int 9))]) (.lit (.int 0))))) [(.ret (.call 33 [Sum.inl 0, Sum.inl 1] [(.slot 0), (.slot 2)]))] []), (.par 3 4 (.call 31 [Sum.inl 0, Sum.inl 1] [(.slot 0), (.bi .len [(.slot 1)])]) (.call 31 [Sum.inl 0, Sum.inl 1] [(.slot 0), (.lit (.int 12))])), (.if_ (.cmp .eq (.slot 4) (.lit (.int 0))) [(.ret (.ite (.cmp .eq (.call 31 [Sum.inl 0, Sum.inl 1] [(.slot 0), (.lit (.int 2))]) (.lit (.int 0))) (.bi .list [(.slot 1)]) (.rev (.slot 1))))] []), (.if_ (.cmp .eq (.slot 4) (.lit (.int 1))) [(.ret (.bin .add (.slice (.slot 1) none (some (.slot 3))) (.slice (.slot 1) (some (.bin .add (.slot 3) (.lit (.int 1)))) none)))] []), (.if_ (.cmp .eq (.slot 4) (.lit (.int 2))) [(.ret (.bin .add (.bin .add (.slice (.slot 1) none (some (.slot 3))) (.slice (.slot 1) (some (.slot 3)) (some (.bin .add (.slot 3) (.lit (.int 1)))))) (.slice (.slot 1) (some (.slot 3)) none)))] []), (.if_ (.cmp .eq (.slot 4) (.lit (.int 3))) [(.ret (.bin .add (.bin .add (.slice (.slot 1) none (some (.slot 3))) (.rev (.slice (.slot 1) (some (.slot 3)) (some (.bin .add (.slot 3) (.lit (.int 2))))))) (.slice (.slot 1) (some (.bin .add (.slot 3) (.lit (.int 2)))) none)))] []), (.ret (.bin .add (.bin .add (.slice (.slot 1) none (some (.slot 3))) (.tup [(.call 39 [Sum.inl 0, Sum.inl 1, Sum.inl 2] [(.slot 0), (.idx (.slot 1) (.slot 3)), (.slot 2)])])) (.slice (.slot 1) (some (.bin .add (.slot 3) (.lit (.int 1)))) none)))]
def m__law_are_sums_right : List MS := [(.set [3, 4] (.tup [(.call 38 [Sum.inl 0, Sum.inl 1, Sum.inl 2] [(.slot 0), (.slot 1), (.slot 2)]), (.call 38 [Sum.inl 0, Sum.inl 1, Sum.inl 2] [(.slot 0), (.slot 1), (.slot 2)])])), (.set [5, 6] (.tup [(.call 31 [Sum.inl 0, Sum.inl 1] [(.slot 0), (.slot 1)]), (.bi .tuple [(.comp (.range (.lit (.int 0)) (.slot 2)) [11] [10, 11] [(.cmp .eq (.call 31 [Sum.inl 0, Sum.inl 1] [(.slot 0), (.lit (.int 2))]) (.lit (.int 0)))] (.slot 11))])])), (.set [7] (.bi .repr [(.lst [(.slot 3), (.slot 4), (.slot 6)])])), (.set [8] (.lst [(.call 22 [Sum.inl 0, Sum.inl 1, Sum.inl 2] [(.slot 1), (.slot 3), (.slot 4)]), (.call 23 [Sum.inl 0, Sum.inl 1, Sum.inl 2] [(.slot 1), (.slot 3), (.slot 4)]), (.call 25 [Sum.inl 0, Sum.inl 1, Sum.inl 2] [(.slot 1), (.slot 3), (.slot 4)])])), (.set [8] (.bin .add (.slot 8) (.lst [(.call 24 [Sum.inl 0, Sum.inl 1, Sum.inl 2] [(.slot 1), (.slot 5), (.slot 3)]), (.call 26 [Sum.inl 0, Sum.inl 1, Sum.inl 2] [(.slot 1), (.slot 3), (.slot 4)])]))), (.set [9] (.lst [(.bi .tuple [(.comp (.range (.lit (.int 0)) (.slot 2)) [11] [10, 11] [] (.bin .mod (.bi .int [(.bin .add (.idx (.slot 3) (.slot 11)) (.idx (.slot 4) (.slot 11)))]) (.slot 1)))])])), (.set [9] (.bin .add (.slot 9) (.lst [(.bi .tuple [(.comp (.range (.lit (.int 0)) (.slot 2)) [11] [10, 11] [] (.bin .mod (.bi .int [(.bin .sub (.idx (.slot 3) (.slot 11)) (.idx (.slot 4) (.slot 11)))]) (.slot 1)))])]))), (.set [9] (.bin .add (.slot 9) (.lst [(.bi .tuple [(.comp (.range (.lit (.int 0)) (.slot 2)) [11] [10, 11] [] (.bin .mod (.bi .int [(.bin .mul (.idx (.slot 3) (.slot 11)) (.idx (.slot 4) (.slot 11)))]) (.slot 1)))])]))), (.set [9] (.bin .add (.slot 9) (.lst [(.bi .tuple [(.comp (.range (.lit (.int 0)) (.slot 2)) [11] [10, 11] [] (.bin .mod (.bi .int [(.bin .mul (.slot 5) (.idx (.slot 3) (.slot 11)))]) (.slot 1)))])]))), (.set [9] (.bin .add (.slot 9) (.lst [(.bin .mod (.bi .int [(.bi .sum [(.comp (.range (.lit (.int 0)) (.slot 2)) [11] [10, 11] [] (.bin .mul (.idx (.slot 3) (.slot 11)) (.idx (.slot 4) (.slot 11))))])]) (.slot 1))]))), (.set [8] (.bin .add (.slot 8) (.lst [(.call 27 [Sum.inl 0] [(.slot 3)]), (.call 28 [Sum.inl 0] [(.slot 3)]), (.call 29 [Sum.inl 0, Sum.inl 1] [(.slot 3), (.slot 6)])]))), (.set [9] (.bin .add (.slot 9) (.lst [(.bi .tuple [(.comp (.range (.lit (.int 0)) (.slot 2)) [11] [10, 11] [(.cmp .ne (.idx (.slot 3) (.slot 11)) (.lit (.int 0)))] (.slot 11))]), (.bi .len [(.comp (.range (.lit (.int 0)) (.slot 2)) [11] [10, 11] [(.cmp .ne (.idx (.slot 3) (.slot 11)) (.lit (.int 0)))] (.slot 11))])]))), (.set [9] (.bin .add (.slot 9) (.lst [(.bi .tuple [(.comp (.seq (.slot 6)) [11] [10, 11] [] (.idx (.slot 3) (.slot 11)))])]))), (.set [8] (.bin .add (.slot 8) (.lst [(.call 23 [Sum.inl 0, Sum.inl 1, Sum.inl 2] [(.slot 1), (.call 22 [Sum.inl 0, Sum.inl 1, Sum.inl 2] [(.slot 1), (.slot 3), (.slot 4)]), (.slot 4)]), (.call 22 [Sum.inl 2, Sum.inl 1, Sum.inl 0] [(.slot 4), (.slot 3), (.slot 1)])]))), (.set [9] (.bin .add (.bin .add (.slot 9) (.lst [(.slot 3)])) (.slice (.slot 9) none (some (.lit (.int 1)))))), (.set [8] (.bin .add (.slot 8) (.lst [(.call 29 [Sum.inl 1, Sum.inl 0] [(.slot 6), (.slot 4)]), (.call 24 [Sum.inl 2, Sum.inl 1, Sum.inl 0] [(.slot 4), (.slot 5), (.slot 1)])]))), (.set [9] (.bin .add (.slot 9) (.lst [(.bi .tuple [(.comp (.seq (.slot 6)) [11] [10, 11] [] (.idx (.slot 4) (.slot 11)))]), (.bi .tuple [(.comp (.range (.lit (.int 0)) (.slot 2)) [11] [10, 11] [] (.bin .mod (.bi .int [(.bin .mul (.slot 5) (.idx (.slot 4) (.slot 11)))]) (.slot 1)))])]))), (.ret (.and_ (.call 32 [Sum.inl 0, Sum.inl 1] [(.slot 8), (.slot 9)]) (.cmp .eq (.bi .repr [(.lst [(.slot 3), (.slot 4), (.slot 6)])]) (.slot 7))))]
def m__law_are_kinds_right : List MS := [(.par 3 4 (.bi .repr [(.slot 2)]) (.call 35 [Sum.inl 0] [(.slot 2)])), (.set [5] (.lst [(.call 0 [Sum.inl 0] [(.slot 2)]), (.call 1 [Sum.inl 0] [(.slot 2)]), (.call 4 [Sum.inl 0, Sum.inl 1] [(.slot 0), (.slot 2)])])), (.set [5] (.bin .add (.slot 5) (.lst [(.call 6 [Sum.inl 0, Sum.inl 1, Sum.inl 2] [(.slot 0), (.slot 1), (.slot 2)]), (.call 8 [Sum.inl 0, Sum.inl 1] [(.slot 1), (.slot 2)])]))), (.set [6] (.lst [(.and_ (.bi .isInt [(.slot 2)]) (.not_ (.bi .isBool [(.slot 2)]))), (.slot 4), (.and_ (.slot 4) (.cmp .lt (.slot 2) (.slot 0)))])), (.set [7] (.call 36 [Sum.inl 0, Sum.inl 1, Sum.inl 2] [(.slot 0), (.slot 1), (.slot 2)])), (.set [6] (.bin .add (.slot 6) (.lst [(.slot 7), (.call 37 [Sum.inl 0, Sum.inl 1] [(.slot 1), (.slot 2)])]))), (.if_ (.not_ (.call 32 [Sum.inl 0, Sum.inl 1] [(.slot 5), (.slot 6)])) [(.ret (.lit (.bl false)))] []), (.set [10] (.bin .mul (.tup [(.lit (.int 0))]) (.slot 1))), (.own 8 (.lst [(.said 0 (.call 22 [Sum.inl 0, Sum.inl 1, Sum.inl 2] [(.slot 0), (.slot 10), (.slot 2)]))])), (.app 8 (.said 0 (.call 25 [Sum.inl 2, Sum.inl 1, Sum.inl 0] [(.slot 2), (.slot 10), (.slot 0)]))), (.own 9 (.ite (.slot 7) (.lst [(.tup [(.lit (.str "told")), (.slot 2)]), (.tup [(.lit (.str "told")), (.slot 10)])]) (.bin .mul (.lst [(.tup [(.lit (.str "use")), (.lit (.str "other")), (.neg (.lit (.int 1)))])]) (.lit (.int 2))))), (.app 8 (.said 0 (.call 29 [Sum.inl 0, Sum.inl 1] [(.slot 10), (.slot 2)]))), (.app 9 (.ite (.idx (.slot 6) (.lit (.int 4))) (.tup [(.lit (.str "told")), (.bin .mul (.tup [(.lit (.int 0))]) (.bi .len [(.slot 2)]))]) (.tup [(.lit (.str "use")), (.lit (.str "lot")), (.neg (.lit (.int 1)))]))), (.app 8 (.said 0 (.call 24 [Sum.inl 0, Sum.inl 1, Sum.inl 2] [(.slot 0), (.slot 2), (.slot 10)]))), (.app 9 (.ite (.idx (.slot 6) (.lit (.int 2))) (.tup [(.lit (.str "told")), (.slot 10)]) (.tup [(.lit (.str "use")), (.lit (.str "digit")), (.neg (.lit (.int 1)))]))), (.frz [8, 8, 9, 8, 9]), (.ret (.and_ (.call 32 [Sum.inl 0, Sum.inl 1] [(.slot 8), (.slot 9)]) (.cmp .eq (.bi .repr [(.slot 2)]) (.slot 3))))]
def m_law : List MS := [(.set [1] (.call 30 [Sum.inl 0] [(.slot 0)])), (.for_ (.range (.lit (.int 0)) (.lit (.int 6))) [2] [(.set [3, 4] (.tup [(.call 33 [Sum.inl 0, Sum.inl 1] [(.slot 1), (.lst [(.lit (.int 2)), (.lit (.int 3)), (.lit (.int 5)), (.lit (.int 7)), (.lit (.int 11)), (.lit (.int 13))])]), (.call 33 [Sum.inl 0, Sum.inl 1] [(.slot 1), (.lst [(.lit (.int 1)), (.lit (.int 2)), (.lit (.int 3)), (.lit (.int 4)), (.lit (.int 5)), (.lit (.int 8)), (.lit (.int 8)), (.lit (.int 12)), (.lit (.int 40))])])])), (.if_ (.not_ (.call 40 [Sum.inl 0, Sum.inl 1, Sum.inl 2] [(.slot 1), (.slot 3), (.slot 4)])) [(.ret (.lit (.bl false)))] []), (.set [5] (.lst [(.lit .non), (.lit (.bl true)), (.lit (.bl false)), (.lit (.int 0)), (.lit (.int 1)), (.slot 3), (.bin .sub (.slot 3) (.lit (.int 1))), (.neg (.lit (.int 1))), (.bin .pow (.lit (.int 10)) (.lit (.int 59))), (.lit (.str "")), (.lit (.str "0")), (.tup []), (.tup [(.lit (.int 0))]), (.lst [(.lit (.int 0))]), (.tup [(.tup [(.lit (.int 0))])]), (.slot 4)])), (.set [6] (.call 38 [Sum.inl 0, Sum.inl 1, Sum.inl 2] [(.slot 1), (.slot 3), (.slot 4)])), (.set [7] (.bi .tuple [(.comp (.range (.lit (.int 0)) (.slot 4)) [10] [9, 10] [(.cmp .gt (.call 31 [Sum.inl 0, Sum.inl 1] [(.slot 1), (.lit (.int 3))]) (.lit (.int 0)))] (.slot 10))])), (.set [8] (.lst [(.slot 6), (.slot 7), (.call 33 [Sum.inl 0, Sum.inl 1] [(.slot 1), (.slot 5)]), (.call 39 [Sum.inl 0, Sum.inl 1, Sum.inl 2] [(.slot 1), (.slot 6), (.slot 5)]), (.call 39 [Sum.inl 0, Sum.inl 1, Sum.inl 2] [(.slot 1), (.slot 7), (.slot 5)])])), (.set [8] (.bin .add (.slot 8) (.lst [(.call 39 [Sum.inl 0, Sum.inl 1, Sum.inl 2] [(.slot 1), (.idx (.slot 8) (.lit (.int 3))), (.slot 5)]), (.call 39 [Sum.inl 0, Sum.inl 1, Sum.inl 2] [(.slot 1), (.idx (.slot 8) (.lit (.int 4))), (.slot 5)]), (.call 31 [Sum.inl 0, Sum.inl 1] [(.slot 1), (.lit (.int 15))])]))), (.if_ (.cmp .ne (.comp (.seq (.slot 8)) [11] [9, 11] [(.not_ (.call 41 [Sum.inl 0, Sum.inl 1, Sum.inl 2] [(.slot 3), (.slot 4), (.slot 11)]))] (.slot 11)) (.lst [])) [(.ret (.lit (.bl false)))] [])]), (.ret (.lit (.bl true)))]
def rows : List Row := [⟨dAt 0, .plain, 1, m_is_integer⟩,
  ⟨dAt 1, .plain, 1, m_is_number⟩,
  ⟨dAt 2, .plain, 1, m_is_prime⟩,
  ⟨dAt 3, .plain, 2, m_is_index⟩,
  ⟨dAt 4, .plain, 2, m_is_digit⟩,
  ⟨dAt 5, .plain, 2, m_is_tuple_of⟩,
  ⟨dAt 6, .plain, 5, m_is_word⟩,
  ⟨dAt 7, .plain, 4, m_are_ascending⟩,
  ⟨dAt 8, .plain, 4, m_is_lot⟩,
  ⟨dAt 9, .plain, 3, m_want⟩,
  ⟨dAt 10, .plain, 1, m_want_prime⟩,
  ⟨dAt 11, .plain, 4, m_want_word⟩,
  ⟨dAt 12, .plain, 3, m_want_lot⟩,
  ⟨dAt 13, .plain, 6, m_added_by⟩,
  ⟨dAt 14, .plain, 6, m_lessened_by⟩,
  ⟨dAt 15, .plain, 5, m_times_by⟩,
  ⟨dAt 16, .plain, 6, m_product_by⟩,
  ⟨dAt 17, .plain, 6, m_dot_by⟩,
  ⟨dAt 18, .plain, 4, m_lot_by⟩,
  ⟨dAt 19, .plain, 4, m_cut_by⟩,
  ⟨dAt 20, .plain, 2, m_is_some_word⟩,
  ⟨dAt 21, .plain, 3, m_want_two⟩,
  ⟨dAt 22, .plain, 3, m_added⟩,
  ⟨dAt 23, .plain, 3, m_lessened⟩,
  ⟨dAt 24, .plain, 3, m_times⟩,
  ⟨dAt 25, .plain, 3, m_product_of⟩,
  ⟨dAt 26, .plain, 3, m_sum_of_products⟩,
  ⟨dAt 27, .plain, 1, m_lot_of⟩,
  ⟨dAt 28, .plain, 1, m_weight_of⟩,
  ⟨dAt 29, .plain, 2, m_cut⟩,
  ⟨dAt 30, .plain, 3, m__law_feed⟩,
  ⟨dAt 31, .plain, 7, m__law_draw⟩,
  ⟨dAt 32, .same, 2, sameText⟩,
  ⟨dAt 33, .plain, 2, m__law_pick⟩,
  ⟨dAt 34, .off, 0, []⟩,
  ⟨dAt 35, .plain, 1, m__law_is_number⟩,
  ⟨dAt 36, .plain, 5, m__law_is_word⟩,
  ⟨dAt 37, .plain, 4, m__law_is_lot⟩,
  ⟨dAt 38, .plain, 6, m__law_any_word⟩,
  ⟨dAt 39, .plain, 5, m__law_bent⟩,
  ⟨dAt 40, .plain, 12, m__law_are_sums_right⟩,
  ⟨dAt 41, .lam, 11, m__law_are_kinds_right⟩,
  ⟨dAt 42, .plain, 12, m_law⟩]
def srows : List SRow := [⟨⟨dAt 34, .off, 4, m__law_said⟩, "_law_call"⟩]
abbrev B : List Mean := Bof rows
abbrev Z : List HMean := Zof srows
abbrev i_is_integer : Nat := 0
abbrev i_is_number : Nat := 1
abbrev i_is_prime : Nat := 2
abbrev i_is_index : Nat := 3
abbrev i_is_digit : Nat := 4
abbrev i_is_tuple_of : Nat := 5
abbrev i_is_word : Nat := 6
abbrev i_are_ascending : Nat := 7
abbrev i_is_lot : Nat := 8
abbrev i_want : Nat := 9
abbrev i_want_prime : Nat := 10
abbrev i_want_word : Nat := 11
abbrev i_want_lot : Nat := 12
abbrev i_added_by : Nat := 13
abbrev i_lessened_by : Nat := 14
abbrev i_times_by : Nat := 15
abbrev i_product_by : Nat := 16
abbrev i_dot_by : Nat := 17
abbrev i_lot_by : Nat := 18
abbrev i_cut_by : Nat := 19
abbrev i_is_some_word : Nat := 20
abbrev i_want_two : Nat := 21
abbrev i_added : Nat := 22
abbrev i_lessened : Nat := 23
abbrev i_times : Nat := 24
abbrev i_product_of : Nat := 25
abbrev i_sum_of_products : Nat := 26
abbrev i_lot_of : Nat := 27
abbrev i_weight_of : Nat := 28
abbrev i_cut : Nat := 29
abbrev i__law_feed : Nat := 30
abbrev i__law_draw : Nat := 31
abbrev i__law_same : Nat := 32
abbrev i__law_pick : Nat := 33
abbrev i__law_said : Nat := 34
abbrev i__law_is_number : Nat := 35
abbrev i__law_is_word : Nat := 36
abbrev i__law_is_lot : Nat := 37
abbrev i__law_any_word : Nat := 38
abbrev i__law_bent : Nat := 39
abbrev i__law_are_sums_right : Nat := 40
abbrev i__law_are_kinds_right : Nat := 41
abbrev i_law : Nat := 42
theorem textOk : lawT P L rows srows = true := by decide +kernel
theorem compIs_of {L : Lib} {b : Bool} {d : He.DefD} {n : Nat} {m : List MS} (h : (compSs (namesOf d.params d.body d.scope) { L with lam := b } 80 d.scope (cellNames d.scope) (ownS 60 d.body) d.body).map (fun q => q.1) = some m) (hn : n = (namesOf d.params d.body d.scope).length) : CompIs L b d n m := by
  cases e : compSs (namesOf d.params d.body d.scope) { L with lam := b } 80 d.scope (cellNames d.scope) (ownS 60 d.body) d.body with
  | none => rw [e] at h; cases h
  | some q => rw [e] at h; exact ⟨q, e, Option.some.inj h, hn⟩
theorem sayIs_of {L : Lib} {d : He.DefD} {n : Nat} {m : List MS} (h : (compSs (namesOf d.params d.body d.scope) L.toSay 80 d.scope (cellNames d.scope) (ownS 60 d.body) d.body).map (fun q => q.1) = some m) (hn : n = (namesOf d.params d.body d.scope).length) : SayIs L d n m := by
  cases e : compSs (namesOf d.params d.body d.scope) L.toSay 80 d.scope (cellNames d.scope) (ownS 60 d.body) d.body with
  | none => rw [e] at h; cases h
  | some q => rw [e] at h; exact ⟨q, e, Option.some.inj h, hn⟩
theorem all_nil {α : Type} {p : α → Prop} : ∀ x ∈ ([] : List α), p x := fun x h => by cases h
theorem all_cons {α : Type} {p : α → Prop} {a : α} {l : List α} (h : p a) (t : ∀ x ∈ l, p x) : ∀ x ∈ a :: l, p x := fun x hx => by
  rcases List.mem_cons.mp hx with e | hx
  · rw [e]; exact h
  · exact t x hx
theorem rowsOk : ∀ r ∈ rows, r.is L := by
  unfold rows
  repeat' (refine all_cons ?_ ?_)
  all_goals first | exact all_nil | exact compIs_of (by kernel_rfl) (by kernel_rfl) | exact trivial
theorem saysOk : ∀ s ∈ srows, SayIs L s.r.d s.r.n s.r.m := by
  unfold srows
  repeat' (refine all_cons ?_ ?_)
  all_goals first | exact all_nil | exact sayIs_of (by kernel_rfl) (by kernel_rfl)
theorem dsLen : ds.length = 43 := by decide +kernel
theorem dAt_mem {i : Nat} (h : i < 43) : dAt i ∈ ds := by
  have hl : i < ds.length := by rw [dsLen]; exact h
  unfold dAt
  rw [List.getElem?_eq_getElem hl]
  exact List.getElem_mem hl
theorem rowsIn : ∀ r ∈ rows, r.d ∈ ds :=
  (all_cons (a := _) (dAt_mem (i := 0) (by decide)) (all_cons (a := _) (dAt_mem (i := 1) (by decide)) (all_cons (a := _) (dAt_mem (i := 2) (by decide)) (all_cons (a := _) (dAt_mem (i := 3) (by decide)) (all_cons (a := _) (dAt_mem (i := 4) (by decide)) (all_cons (a := _) (dAt_mem (i := 5) (by decide)) (all_cons (a := _) (dAt_mem (i := 6) (by decide)) (all_cons (a := _) (dAt_mem (i := 7) (by decide)) (all_cons (a := _) (dAt_mem (i := 8) (by decide)) (all_cons (a := _) (dAt_mem (i := 9) (by decide)) (all_cons (a := _) (dAt_mem (i := 10) (by decide)) (all_cons (a := _) (dAt_mem (i := 11) (by decide)) (all_cons (a := _) (dAt_mem (i := 12) (by decide)) (all_cons (a := _) (dAt_mem (i := 13) (by decide)) (all_cons (a := _) (dAt_mem (i := 14) (by decide)) (all_cons (a := _) (dAt_mem (i := 15) (by decide)) (all_cons (a := _) (dAt_mem (i := 16) (by decide)) (all_cons (a := _) (dAt_mem (i := 17) (by decide)) (all_cons (a := _) (dAt_mem (i := 18) (by decide)) (all_cons (a := _) (dAt_mem (i := 19) (by decide)) (all_cons (a := _) (dAt_mem (i := 20) (by decide)) (all_cons (a := _) (dAt_mem (i := 21) (by decide)) (all_cons (a := _) (dAt_mem (i := 22) (by decide)) (all_cons (a := _) (dAt_mem (i := 23) (by decide)) (all_cons (a := _) (dAt_mem (i := 24) (by decide)) (all_cons (a := _) (dAt_mem (i := 25) (by decide)) (all_cons (a := _) (dAt_mem (i := 26) (by decide)) (all_cons (a := _) (dAt_mem (i := 27) (by decide)) (all_cons (a := _) (dAt_mem (i := 28) (by decide)) (all_cons (a := _) (dAt_mem (i := 29) (by decide)) (all_cons (a := _) (dAt_mem (i := 30) (by decide)) (all_cons (a := _) (dAt_mem (i := 31) (by decide)) (all_cons (a := _) (dAt_mem (i := 32) (by decide)) (all_cons (a := _) (dAt_mem (i := 33) (by decide)) (all_cons (a := _) (dAt_mem (i := 34) (by decide)) (all_cons (a := _) (dAt_mem (i := 35) (by decide)) (all_cons (a := _) (dAt_mem (i := 36) (by decide)) (all_cons (a := _) (dAt_mem (i := 37) (by decide)) (all_cons (a := _) (dAt_mem (i := 38) (by decide)) (all_cons (a := _) (dAt_mem (i := 39) (by decide)) (all_cons (a := _) (dAt_mem (i := 40) (by decide)) (all_cons (a := _) (dAt_mem (i := 41) (by decide)) (all_cons (a := _) (dAt_mem (i := 42) (by decide)) all_nil)))))))))))))))))))))))))))))))))))))))))))
theorem saysIn : ∀ s ∈ srows, s.r.d ∈ ds :=
  (all_cons (a := _) (dAt_mem (i := 34) (by decide)) all_nil)
theorem hotIs_of {L : Lib} {d : He.DefD} {p : Str} {n : Nat} {m : List MS} (h : (compSs (namesOf d.params d.body d.scope) (L.noHot.hot p) 80 d.scope (cellNames d.scope) (ownS 60 d.body) d.body).map (fun q => q.1) = some m) (hn : n = (namesOf d.params d.body d.scope).length) : HotIs L d p n m := by
  cases e : compSs (namesOf d.params d.body d.scope) (L.noHot.hot p) 80 d.scope (cellNames d.scope) (ownS 60 d.body) d.body with
  | none => rw [e] at h; cases h
  | some q => rw [e] at h; exact ⟨q, e, Option.some.inj h, hn⟩
theorem hotsOk : ∀ s ∈ hrows, s.ok = true ∧ s.r.d ∈ ds ∧ (rows.map (·.d.name)).contains s.r.d.name = true ∧ HotIs L s.r.d s.p s.r.n s.r.m := by
  unfold hrows
  exact all_nil
theorem fnB {k i : Nat} {m : Mean} (hi : i < 1000000) (hB : B[i]? = some m) (ds : List D) (g : G) : Fn B Z (k + 1) i ds g = m (Fn B Z k) ds g := by
  rw [Fn_at hi, hB]; rfl
end SH.K01

set_option Elab.async false
set_option linter.all false
set_option maxRecDepth 1000000
set_option maxHeartbeats 4000000
namespace SH.K01
open PySem PySem.Spec PyProof.Rows L2 LamX SH
local macro_rules | `(tactic| fail) => `(tactic| with_reducible first
  | (refine gW ?_; first | refine W.slot (by with_unfolding_all exact rfl) ?_ | refine W.lit ?_ | refine W.cmp ?_ | refine W.bin ?_ | refine W.idx ?_ | refine W.call ?_ | refine W.bi ?_ | refine W.tup ?_ | refine W.lst ?_ | refine W.comp ?_ | refine W.and_ ?_ | refine W.or_ ?_ | refine W.not_ ?_ | refine W.ite ?_ | refine W.neg ?_ | refine W.isN ?_ | refine W.notN ?_ | refine W.slice ?_ | refine W.rev ?_)
  | (refine gL ?_; first | refine o_add ?_ | refine o_sub ?_ | refine o_lenT ?_ | refine o_lenL ?_ | refine o_tupT ?_ | refine o_tupL ?_ | refine o_lstT ?_ | refine o_lstL ?_ | refine o_intI ?_ | refine o_revT ?_ | refine o_revL ?_ | refine o_isInt (by assumption) ?_ | refine o_isBool (by assumption) ?_ | refine o_isTuple (by assumption) ?_)
  | (refine gB ?_; first | refine o_lt ?_ | refine o_le ?_ | refine o_gt ?_ | refine o_ge ?_ | refine o_eqI ?_ | refine o_neI ?_)
  | refine Ws.cons ?_ | refine Ws.nil ?_
  | (refine gX ?_; first | refine X.set ?_ | refine X.ret ?_ | refine X.if_ ?_ | refine X.nil ?_ | refine X.own ?_ | refine X.par ?_ | refine X.expr ?_ | refine X.raise_ ?_ | refine X.frz ?_)
  | (refine gE ?_; first | refine tr_bl ?_ | refine ex_some (by with_unfolding_all exact rfl) ?_ | refine tr_int ?_ | refine ex_int ?_ | refine ex_lst ?_ | refine sq_tup ?_ | refine sq_lst ?_ | refine en_tup ?_ | refine en_lst ?_)
  | (refine gA ?_; first | exact rr | refine br_tt ?_ | refine br_ff ?_ | refine br_dec (fun _ => ?_) (fun _ => ?_) | refine br_t (by with_unfolding_all exact rfl) ?_ | refine br_f (by with_unfolding_all exact rfl) ?_ | refine br_not ?_ | refine br_eq (fun _ => ?_) (fun _ => ?_) | refine br_ne0 (fun _ => ?_) (fun _ => ?_))
  | exact rrF | refine t_one ?_ | refine Wt.nil ?_ | refine Wt.cons ?_ | refine WT.mk ?_ | refine Wi.seq ?_ | refine Wi.enum ?_ | refine Wi.zip ?_ | refine Wi.range0 ?_ | refine Wi.range ?_ | refine Wo.none ?_ | refine Wo.some ?_
  | refine toW ?_ | refine toWt ?_ | refine toWi ?_ | refine toXt ?_
  | refine thenP.next ?_ | refine turnP.next ?_ | refine thenP.ret ?_ | refine thenP.exc ?_ | refine turnP.ret ?_ | refine turnP.exc ?_)
theorem lev {k n : Nat} (h : n + 1 ≤ k) : ∃ m, k = m + 1 ∧ n ≤ m := ⟨k - 1, by omega, by omega⟩
theorem is_integer_ok {k : Nat} (hk : 1 ≤ k) {d : D} (h : d.fits = true) (g : G) : Fn B Z k i_is_integer [d] g = .ok (.bl (isI0 d && !isB0 d)) g := by
  obtain ⟨k, rfl, hk⟩ := lev hk
  rw [fnB (m := meanOf 1 m_is_integer) (by decide) rfl]
  refine run_eq ?_
  unfold m_is_integer
  repeat' fail
  refine ⟨fun h1 => ?_, fun h1 => ?_⟩ <;> repeat' fail
  · exact ⟨by rw [h1]; rfl, rfl⟩
  · exact ⟨by rw [h1]; rfl, rfl⟩
theorem is_number_ok {k : Nat} (hk : 2 ≤ k) {d : D} (h : d.fits = true) (g : G) : Fn B Z k i_is_number [d] g = .ok (.bl (isNum d)) g := by
  obtain ⟨k, rfl, hk⟩ := lev hk
  rw [fnB (m := meanOf 1 m_is_number) (by decide) rfl]
  refine run_eq ?_
  unfold m_is_number
  repeat' fail
  refine ok_of (is_integer_ok (by omega) h _) ?_
  repeat' fail
  refine ⟨fun h1 => ?_, fun h1 => ?_⟩
  · cases d <;> first | (cases h1; done) | skip
    repeat' fail
    exact ⟨rfl, rfl⟩
  · refine ⟨?_, rfl⟩
    cases d <;> first | rfl | cases h1
theorem is_prime_ok {k : Nat} (hk : 2 ≤ k) {d : D} (h : d.fits = true) (g : G) : Fn B Z k i_is_prime [d] g = .ok (.bl (isPrm d)) g := by
  obtain ⟨k, rfl, hk⟩ := lev hk
  rw [fnB (m := meanOf 1 m_is_prime) (by decide) rfl]
  refine run_eq ?_
  unfold m_is_prime
  repeat' fail
  refine ok_of (is_integer_ok (by omega) h _) ?_
  repeat' fail
  refine ⟨fun h1 => ?_, fun h1 => ?_⟩
  · cases d <;> first | (cases h1; done) | skip
    rename_i i
    repeat' fail
    refine Ok.lift (a := [2, 3, 5, 7, 11, 13].contains i) ?_ ⟨rfl, rfl⟩
    show some _ = some _
    simp only [List.any_cons, List.any_nil, D.eqv, List.contains_cons, List.contains_nil, Bool.or_false]
    simp only [BEq.comm (a := i)]
  · refine ⟨?_, rfl⟩
    cases d <;> first | rfl | cases h1
theorem is_index_ok {k : Nat} (hk : 3 ≤ k) {d : D} {m : Int} (h : d.fits = true) (g : G) : Fn B Z k i_is_index [.int m, d] g = .ok (.bl (isIdx m d)) g := by
  obtain ⟨k, rfl, hk⟩ := lev hk
  rw [fnB (m := meanOf 2 m_is_index) (by decide) rfl]
  refine run_eq ?_
  unfold m_is_index
  repeat' fail
  refine ok_of (is_number_ok (by omega) h _) ?_
  repeat' fail
  refine ⟨fun h1 => ?_, fun h1 => ?_⟩
  · cases d <;> first | (cases h1; done) | skip
    repeat' fail
    rename_i i
    refine ⟨?_, rfl⟩
    show D.bl (decide (i < m)) = D.bl (decide (0 ≤ i) && decide (i < m))
    rw [show decide (0 ≤ i) = true from h1]; rfl
  · refine ⟨?_, rfl⟩
    cases d <;> first | rfl | skip
    rename_i i
    show D.bl (decide (0 ≤ i)) = D.bl (decide (0 ≤ i) && decide (i < m))
    rw [show decide (0 ≤ i) = false from h1]; rfl
theorem is_tuple_of_ok {k : Nat} (hk : 1 ≤ k) {d : D} {n : Int} (h : d.fits = true) (g : G) : Fn B Z k i_is_tuple_of [d, .int n] g = .ok (.bl (isTupN n d)) g := by
  obtain ⟨k, rfl, hk⟩ := lev hk
  rw [fnB (m := meanOf 2 m_is_tuple_of) (by decide) rfl]
  refine run_eq ?_
  unfold m_is_tuple_of
  repeat' fail
  refine ⟨fun h1 => ?_, fun h1 => ?_⟩
  · cases d <;> first | (cases h1; done) | skip
    repeat' fail
    exact ⟨rfl, rfl⟩
  · refine ⟨?_, rfl⟩
    cases d <;> first | rfl | cases h1
theorem is_word_ok {k : Nat} (hk : 4 ≤ k) {d : D} {p n : Int} (h : d.fits = true) (g : G) : Fn B Z k i_is_word [.int p, .int n, d] g = .ok (.bl (isWord p n d)) g := by
  obtain ⟨k, rfl, hk⟩ := lev hk
  rw [fnB (m := meanOf 5 m_is_word) (by decide) rfl]
  refine run_eq ?_
  unfold m_is_word
  repeat' fail
  refine ok_of (is_tuple_of_ok (by omega) h _) ?_
  repeat' fail
  refine ⟨fun h1 => ?_, fun h1 => ?_⟩
  · cases d <;> first | (cases h1; done) | skip
    rename_i l
    repeat' fail
    refine c_mapD l (fun d => .bl (isIdx p d)) (fun x hx => ⟨_, rfl, ?_⟩) ?_
    · repeat' fail
      refine ok_of (is_index_ok (by omega) (fitsL_mem h x hx) _) ⟨rfl, rfl⟩
    · repeat' fail
      refine o_all ⟨?_, rfl⟩
      show D.bl (l.all (isIdx p)) = D.bl (((l.length : Int) == n) && l.all (isIdx p))
      rw [show ((l.length : Int) == n) = true from h1]; rfl
  · refine ⟨?_, rfl⟩
    cases d <;> first | rfl | skip
    rename_i l
    show D.bl ((l.length : Int) == n) = D.bl (((l.length : Int) == n) && l.all (isIdx p))
    rw [show ((l.length : Int) == n) = false from h1]; rfl

theorem is_digit_ok {k : Nat} (hk : 4 ≤ k) {d : D} {m : Int} (h : d.fits = true) (g : G) : Fn B Z k i_is_digit [.int m, d] g = .ok (.bl (isIdx m d)) g := by
  obtain ⟨k, rfl, hk⟩ := lev hk
  rw [fnB (m := meanOf 2 m_is_digit) (by decide) rfl]
  refine run_eq ?_
  unfold m_is_digit
  repeat' fail
  refine ok_of (is_index_ok (by omega) h _) ?_
  exact ⟨rfl, rfl⟩
theorem are_ascending_ok {k : Nat} (hk : 1 ≤ k) {xs : List Int} (g : G) : Fn B Z k i_are_ascending [.tup (xs.map .int)] g = .ok (.bl (ascI xs)) g := by
  obtain ⟨k, rfl, hk⟩ := lev hk
  rw [fnB (m := meanOf 4 m_are_ascending) (by decide) rfl]
  refine run_eq ?_
  unfold m_are_ascending
  repeat' fail
  refine o_slT_from (j := 1) ?_
  repeat' fail
  rw [← List.map_drop, zipL_map]
  refine c_map _ (xs.zip (xs.drop 1)) (fun q => .bl (decide (q.1 < q.2))) (fun q hq => ⟨_, rfl, ?_⟩) ?_
  · repeat' fail
  repeat' fail
  refine o_all ⟨rfl, rfl⟩
theorem is_lot_ok {k : Nat} (hk : 4 ≤ k) {d : D} {n : Int} (h : d.fits = true) (g : G) : Fn B Z k i_is_lot [.int n, d] g = .ok (.bl (isLot n d)) g := by
  obtain ⟨k, rfl, hk⟩ := lev hk
  rw [fnB (m := meanOf 4 m_is_lot) (by decide) rfl]
  refine run_eq ?_
  unfold m_is_lot
  repeat' fail
  refine ⟨fun h1 => ?_, fun h1 => ?_⟩
  · cases d <;> first | (cases h1; done) | skip
    rename_i l
    repeat' fail
    refine c_mapD l (fun d => .bl (isIdx n d)) (fun x hx => ⟨_, rfl, ?_⟩) ?_
    · repeat' fail
      refine ok_of (is_index_ok (by omega) (fitsL_mem h x hx) _) ⟨rfl, rfl⟩
    repeat' fail
    refine o_all ?_
    cases ha : l.all (isIdx n) with
    | true =>
      refine tr_bl (br_tt ?_)
      obtain ⟨xs, rfl, _⟩ := allIdx ha
      repeat' fail
      refine ok_of (are_ascending_ok (by omega) _) ⟨?_, rfl⟩
      show _ = D.bl ((xs.map D.int).all (isIdx n) && ascI (intsOf (Dw xs)))
      rw [ha, intsOf_w]; rfl
    | false =>
      refine tr_bl (br_ff ⟨?_, rfl⟩)
      show D.bl false = D.bl (l.all (isIdx n) && ascI (intsOf (.tup l)))
      rw [ha]; rfl
  · refine ⟨?_, rfl⟩
    cases d <;> first | rfl | cases h1
theorem is_some_word_ok {k : Nat} (hk : 5 ≤ k) {d : D} {p : Int} (h : d.fits = true) (g : G) : Fn B Z k i_is_some_word [.int p, d] g = .ok (.bl (isSome p d)) g := by
  obtain ⟨k, rfl, hk⟩ := lev hk
  rw [fnB (m := meanOf 2 m_is_some_word) (by decide) rfl]
  refine run_eq ?_
  unfold m_is_some_word
  repeat' fail
  refine ⟨fun h1 => ?_, fun h1 => ?_⟩
  · cases d <;> first | (cases h1; done) | skip
    rename_i l
    repeat' fail
    · rename_i h2
      refine ok_of (is_word_ok (by omega) h _) ⟨?_, rfl⟩
      show _ = D.bl (decide (0 < (l.length : Int)) && isWord p l.length (.tup l))
      rw [decide_eq_true h2]; rfl
    · rename_i h2
      refine ⟨?_, rfl⟩
      show _ = D.bl (decide (0 < (l.length : Int)) && isWord p l.length (.tup l))
      rw [decide_eq_false h2]; rfl
  · refine ⟨?_, rfl⟩
    cases d <;> first | rfl | cases h1

end SH.K01

set_option Elab.async false
set_option linter.all false
set_option maxRecDepth 1000000
set_option maxHeartbeats 4000000
namespace SH.K01
open PySem PySem.Spec PyProof.Rows L2 LamX SH
local macro_rules | `(tactic| fail) => `(tactic| with_reducible first
  | (refine gW ?_; first | refine W.slot (by with_unfolding_all exact rfl) ?_ | refine W.lit ?_ | refine W.cmp ?_ | refine W.bin ?_ | refine W.idx ?_ | refine W.call ?_ | refine W.bi ?_ | refine W.tup ?_ | refine W.lst ?_ | refine W.comp ?_ | refine W.and_ ?_ | refine W.or_ ?_ | refine W.not_ ?_ | refine W.ite ?_ | refine W.neg ?_ | refine W.isN ?_ | refine W.notN ?_ | refine W.slice ?_ | refine W.rev ?_)
  | (refine gL ?_; first | refine o_add ?_ | refine o_sub ?_ | refine o_lenT ?_ | refine o_lenL ?_ | refine o_tupT ?_ | refine o_tupL ?_ | refine o_lstT ?_ | refine o_lstL ?_ | refine o_intI ?_ | refine o_revT ?_ | refine o_revL ?_ | refine o_isInt (by assumption) ?_ | refine o_isBool (by assumption) ?_ | refine o_isTuple (by assumption) ?_)
  | (refine gB ?_; first | refine o_lt ?_ | refine o_le ?_ | refine o_gt ?_ | refine o_ge ?_ | refine o_eqI ?_ | refine o_neI ?_)
  | refine Ws.cons ?_ | refine Ws.nil ?_
  | (refine gX ?_; first | refine X.set ?_ | refine X.ret ?_ | refine X.if_ ?_ | refine X.nil ?_ | refine X.own ?_ | refine X.par ?_ | refine X.expr ?_ | refine X.raise_ ?_ | refine X.frz ?_)
  | (refine gE ?_; first | refine tr_bl ?_ | refine ex_some (by with_unfolding_all exact rfl) ?_ | refine tr_int ?_ | refine ex_int ?_ | refine ex_lst ?_ | refine sq_tup ?_ | refine sq_lst ?_ | refine en_tup ?_ | refine en_lst ?_)
  | (refine gA ?_; first | exact rr | refine br_tt ?_ | refine br_ff ?_ | refine br_dec (fun _ => ?_) (fun _ => ?_) | refine br_t (by with_unfolding_all exact rfl) ?_ | refine br_f (by with_unfolding_all exact rfl) ?_ | refine br_not ?_ | refine br_eq (fun _ => ?_) (fun _ => ?_) | refine br_ne0 (fun _ => ?_) (fun _ => ?_))
  | exact rrF | refine t_one ?_ | refine Wt.nil ?_ | refine Wt.cons ?_ | refine WT.mk ?_ | refine Wi.seq ?_ | refine Wi.enum ?_ | refine Wi.zip ?_ | refine Wi.range0 ?_ | refine Wi.range ?_ | refine Wo.none ?_ | refine Wo.some ?_
  | refine toW ?_ | refine toWt ?_ | refine toWi ?_ | refine toXt ?_
  | refine thenP.next ?_ | refine turnP.next ?_ | refine thenP.ret ?_ | refine thenP.exc ?_ | refine turnP.ret ?_ | refine turnP.exc ?_)
theorem want_ok {k : Nat} (hk : 1 ≤ k) {b : Bool} {n : Str} (g : G) : Fn B Z k i_want [.bl b, .str n, .int (-1)] g = seqW [(b, n)] .non g := by
  obtain ⟨k, rfl, hk⟩ := lev hk
  rw [fnB (m := meanOf 3 m_want) (by decide) rfl]
  refine run_want ?_
  unfold m_want
  cases b <;> repeat' fail
  · exact finW_exc (n := n) rfl
  · exact finW_next rfl
theorem want_prime_ok {k : Nat} (hk : 3 ≤ k) {d : D} (h : d.fits = true) (g : G) : Fn B Z k i_want_prime [d] g = seqW [(isPrm d, "prime")] .non g := by
  obtain ⟨k, rfl, hk⟩ := lev hk
  rw [fnB (m := meanOf 1 m_want_prime) (by decide) rfl]
  refine run_want ?_
  unfold m_want_prime
  refine X.want ?_
  repeat' fail
  refine ok_of (is_prime_ok (by omega) h _) ?_
  repeat' fail
  exact ⟨_, _, _, rfl, want_ok (by omega) _, fun h => X.nil (finW_next h), fun n h => finW_exc h⟩
theorem want_word_ok {k : Nat} (hk : 5 ≤ k) {d : D} {p m : Int} {n : Str} (h : d.fits = true) (g : G) : Fn B Z k i_want_word [.int p, .int m, d, .str n] g = seqW [(isWord p m d, n)] .non g := by
  obtain ⟨k, rfl, hk⟩ := lev hk
  rw [fnB (m := meanOf 4 m_want_word) (by decide) rfl]
  refine run_want ?_
  unfold m_want_word
  refine X.want ?_
  repeat' fail
  refine ok_of (is_word_ok (by omega) h _) ?_
  repeat' fail
  exact ⟨_, _, _, rfl, want_ok (by omega) _, fun h => X.nil (finW_next h), fun n h => finW_exc h⟩
theorem want_lot_ok {k : Nat} (hk : 5 ≤ k) {d : D} {m : Int} {n : Str} (h : d.fits = true) (g : G) : Fn B Z k i_want_lot [.int m, d, .str n] g = seqW [(isLot m d, n)] .non g := by
  obtain ⟨k, rfl, hk⟩ := lev hk
  rw [fnB (m := meanOf 3 m_want_lot) (by decide) rfl]
  refine run_want ?_
  unfold m_want_lot
  refine X.want ?_
  repeat' fail
  refine ok_of (is_lot_ok (by omega) h _) ?_
  repeat' fail
  exact ⟨_, _, _, rfl, want_ok (by omega) _, fun h => X.nil (finW_next h), fun n h => finW_exc h⟩
theorem added_by_ok {k : Nat} (hk : 1 ≤ k) {p : Int} {a b : List Int} (h0 : 0 < p) (g : G) : Fn B Z k i_added_by [.int p, Dw a, Dw b] g = .ok (Dw (addW p a b)) g := by
  obtain ⟨k, rfl, hk⟩ := lev hk
  rw [fnB (m := meanOf 6 m_added_by) (by decide) rfl]
  refine run_eq ?_
  unfold m_added_by
  repeat' fail
  rw [zipL_map]
  refine c_map _ (a.zip b) (fun q => .int ((q.1 + q.2) % p)) (fun q hq => ⟨_, rfl, ?_⟩) ?_
  · repeat' fail
    exact o_mod h0 ⟨rfl, rfl⟩
  repeat' fail
  exact finI (by unfold Dw addW; rw [List.map_map]; rfl)
theorem lessened_by_ok {k : Nat} (hk : 1 ≤ k) {p : Int} {a b : List Int} (h0 : 0 < p) (g : G) : Fn B Z k i_lessened_by [.int p, Dw a, Dw b] g = .ok (Dw (subW p a b)) g := by
  obtain ⟨k, rfl, hk⟩ := lev hk
  rw [fnB (m := meanOf 6 m_lessened_by) (by decide) rfl]
  refine run_eq ?_
  unfold m_lessened_by
  repeat' fail
  rw [zipL_map]
  refine c_map _ (a.zip b) (fun q => .int ((q.1 - q.2) % p)) (fun q hq => ⟨_, rfl, ?_⟩) ?_
  · repeat' fail
    exact o_mod h0 ⟨rfl, rfl⟩
  repeat' fail
  exact finI (by unfold Dw subW; rw [List.map_map]; rfl)
theorem times_by_ok {k : Nat} (hk : 1 ≤ k) {p c : Int} {a : List Int} (h0 : 0 < p) (hs : Sm a) (g : G) : Fn B Z k i_times_by [.int p, .int c, Dw a] g = .ok (Dw (mulW p c a)) g := by
  obtain ⟨k, rfl, hk⟩ := lev hk
  rw [fnB (m := meanOf 5 m_times_by) (by decide) rfl]
  refine run_eq ?_
  unfold m_times_by
  repeat' fail
  refine c_map _ a (fun x => .int (c * x % p)) (fun x hx => ⟨_, rfl, ?_⟩) ?_
  · repeat' fail
    refine o_mul (.inr (hs x hx)) ?_
    repeat' fail
    exact o_mod h0 ⟨rfl, rfl⟩
  repeat' fail
  exact finI (by unfold Dw mulW; rw [List.map_map]; rfl)
theorem product_by_ok {k : Nat} (hk : 1 ≤ k) {p : Int} {a b : List Int} (h0 : 0 < p) (hs : Sm a) (g : G) : Fn B Z k i_product_by [.int p, Dw a, Dw b] g = .ok (Dw (prodW p a b)) g := by
  obtain ⟨k, rfl, hk⟩ := lev hk
  rw [fnB (m := meanOf 6 m_product_by) (by decide) rfl]
  refine run_eq ?_
  unfold m_product_by
  repeat' fail
  rw [zipL_map]
  refine c_map _ (a.zip b) (fun q => .int (q.1 * q.2 % p)) (fun q hq => ⟨_, rfl, ?_⟩) ?_
  · repeat' fail
    refine o_mul (.inl (hs _ (zip_mem hq).1)) ?_
    repeat' fail
    exact o_mod h0 ⟨rfl, rfl⟩
  repeat' fail
  exact finI (by unfold Dw prodW; rw [List.map_map]; rfl)
theorem dot_by_ok {k : Nat} (hk : 1 ≤ k) {p : Int} {a b : List Int} (h0 : 0 < p) (hs : Sm a) (g : G) : Fn B Z k i_dot_by [.int p, Dw a, Dw b] g = .ok (.int (dotW p a b)) g := by
  obtain ⟨k, rfl, hk⟩ := lev hk
  rw [fnB (m := meanOf 6 m_dot_by) (by decide) rfl]
  refine run_eq ?_
  unfold m_dot_by
  repeat' fail
  rw [zipL_map]
  refine c_map _ (a.zip b) (fun q => .int (q.1 * q.2)) (fun q hq => ⟨_, rfl, ?_⟩) ?_
  · repeat' fail
    exact o_mul (.inl (hs _ (zip_mem hq).1)) ⟨rfl, rfl⟩
  repeat' fail
  refine o_sum ?_
  repeat' fail
  exact o_mod h0 ⟨rfl, rfl⟩
theorem lot_by_ok {k : Nat} (hk : 1 ≤ k) {a : List Int} (g : G) : Fn B Z k i_lot_by [Dw a] g = .ok (Dn (posF (fun x => decide (0 < x)) 0 a)) g := by
  obtain ⟨k, rfl, hk⟩ := lev hk
  rw [fnB (m := meanOf 4 m_lot_by) (by decide) rfl]
  refine run_eq ?_
  unfold m_lot_by
  repeat' fail
  rw [enumL_map]
  refine c_pure _ (a.zipIdx 0) (fun q => decide (0 < q.1)) (fun q => .int (q.2 : Nat)) (fun q hq => ⟨_, rfl, ?_, fun _ => ?_⟩) ?_
  · repeat' fail
  · repeat' fail
  rw [posF_enumD (fun x => decide (0 < x))]
  repeat' fail
theorem cut_by_ok {k : Nat} (hk : 1 ≤ k) {a : List Int} {lot : List Nat} (hl : ∀ i ∈ lot, i < a.length) (g : G) : Fn B Z k i_cut_by [Dw a, Dn lot] g = .ok (Dw (cutW a lot)) g := by
  obtain ⟨k, rfl, hk⟩ := lev hk
  rw [fnB (m := meanOf 4 m_cut_by) (by decide) rfl]
  refine run_eq ?_
  unfold m_cut_by
  repeat' fail
  refine c_map _ lot (fun i => .int (a[i]?.getD 0)) (fun i hi => ⟨_, rfl, ?_⟩) ?_
  · repeat' fail
    refine o_idxT (d := .int (a[i]?.getD 0)) ?_ ⟨rfl, rfl⟩
    rw [List.getElem?_map, List.getElem?_eq_getElem (hl i hi)]; rfl
  repeat' fail
  exact finI (by unfold Dw cutW; rw [List.map_map]; rfl)

end SH.K01

set_option Elab.async false
set_option linter.all false
set_option maxRecDepth 1000000
set_option maxHeartbeats 4000000
namespace SH.K01
open PySem PySem.Spec PyProof.Rows L2 LamX SH
local macro_rules | `(tactic| fail) => `(tactic| with_reducible first
  | (refine gW ?_; first | refine W.slot (by with_unfolding_all exact rfl) ?_ | refine W.lit ?_ | refine W.cmp ?_ | refine W.bin ?_ | refine W.idx ?_ | refine W.call ?_ | refine W.bi ?_ | refine W.tup ?_ | refine W.lst ?_ | refine W.comp ?_ | refine W.and_ ?_ | refine W.or_ ?_ | refine W.not_ ?_ | refine W.ite ?_ | refine W.neg ?_ | refine W.isN ?_ | refine W.notN ?_ | refine W.slice ?_ | refine W.rev ?_)
  | (refine gL ?_; first | refine o_add ?_ | refine o_sub ?_ | refine o_lenT ?_ | refine o_lenL ?_ | refine o_tupT ?_ | refine o_tupL ?_ | refine o_lstT ?_ | refine o_lstL ?_ | refine o_intI ?_ | refine o_revT ?_ | refine o_revL ?_ | refine o_isInt (by assumption) ?_ | refine o_isBool (by assumption) ?_ | refine o_isTuple (by assumption) ?_)
  | (refine gB ?_; first | refine o_lt ?_ | refine o_le ?_ | refine o_gt ?_ | refine o_ge ?_ | refine o_eqI ?_ | refine o_neI ?_)
  | refine Ws.cons ?_ | refine Ws.nil ?_
  | (refine gX ?_; first | refine X.set ?_ | refine X.ret ?_ | refine X.if_ ?_ | refine X.nil ?_ | refine X.own ?_ | refine X.par ?_ | refine X.expr ?_ | refine X.raise_ ?_ | refine X.frz ?_)
  | (refine gE ?_; first | refine tr_bl ?_ | refine ex_some (by with_unfolding_all exact rfl) ?_ | refine tr_int ?_ | refine ex_int ?_ | refine ex_lst ?_ | refine sq_tup ?_ | refine sq_lst ?_ | refine en_tup ?_ | refine en_lst ?_)
  | (refine gA ?_; first | exact rr | refine br_tt ?_ | refine br_ff ?_ | refine br_dec (fun _ => ?_) (fun _ => ?_) | refine br_t (by with_unfolding_all exact rfl) ?_ | refine br_f (by with_unfolding_all exact rfl) ?_ | refine br_not ?_ | refine br_eq (fun _ => ?_) (fun _ => ?_) | refine br_ne0 (fun _ => ?_) (fun _ => ?_))
  | exact rrF | refine t_one ?_ | refine Wt.nil ?_ | refine Wt.cons ?_ | refine WT.mk ?_ | refine Wi.seq ?_ | refine Wi.enum ?_ | refine Wi.zip ?_ | refine Wi.range0 ?_ | refine Wi.range ?_ | refine Wo.none ?_ | refine Wo.some ?_
  | refine toW ?_ | refine toWt ?_ | refine toWi ?_ | refine toXt ?_
  | refine thenP.next ?_ | refine turnP.next ?_ | refine thenP.ret ?_ | refine thenP.exc ?_ | refine turnP.ret ?_ | refine turnP.exc ?_)
theorem some_w {p : Int} {xs : List Int} (h : Dig p xs) (h0 : 0 < xs.length) : isSome p (Dw xs) = true := by
  show (decide (0 < ((xs.map D.int).length : Int)) && isWord p ((xs.map D.int).length : Nat) (Dw xs)) = true
  rw [List.length_map, isWord_w h, decide_eq_true (by omega)]; rfl
theorem fits_Dw {p : Int} {xs : List Int} (h : Dig p xs) (hp : p ≤ 1000) : (Dw xs).fits = true := fits_w xs fun x hx => by have := h x hx; omega
/-- a word of a prime -/
structure Wp (p : Int) (xs : List Int) : Prop where
  pr : isPrm (.int p) = true
  dig : Dig p xs
  len : 0 < xs.length
theorem prm_is {p : Int} (h : isPrm (.int p) = true) : p = 2 ∨ p = 3 ∨ p = 5 ∨ p = 7 ∨ p = 11 ∨ p = 13 := by
  simp only [isPrm, List.contains_cons, List.contains_nil, Bool.or_false, Bool.or_eq_true, beq_iff_eq] at h
  omega
theorem Wp.pos {p : Int} {xs : List Int} (h : Wp p xs) : 0 < p := by rcases prm_is h.pr with h | h | h | h | h | h <;> omega
theorem Wp.le {p : Int} {xs : List Int} (h : Wp p xs) : p ≤ 13 := by rcases prm_is h.pr with h | h | h | h | h | h <;> omega
theorem Wp.fits {p : Int} {xs : List Int} (h : Wp p xs) : (Dw xs).fits = true := fits_Dw h.dig (by have := h.le; omega)
theorem Wp.sm {p : Int} {xs : List Int} (h : Wp p xs) : Sm xs := h.dig.sm (by have := h.le; omega)
theorem Wp.fp {p : Int} {xs : List Int} (h : Wp p xs) : (D.int p).fits = true := by
  show Nat.blt p.natAbs (2 ^ 1900) = true
  exact Nat.ble_eq_true_of_le (Nat.le_trans (by have := h.le; have := h.pos; omega : p.natAbs + 1 ≤ 14) (by decide +kernel))
theorem want_two_ok {k : Nat} (hk : 7 ≤ k) {p : Int} {xs : List Int} {d : D} (h : Wp p xs) (hf : d.fits = true) (g : G) : Fn B Z k i_want_two [.int p, Dw xs, d] g = seqW [(isWord p xs.length d, "other")] .non g := by
  obtain ⟨k, rfl, hk⟩ := lev hk
  rw [fnB (m := meanOf 3 m_want_two) (by decide) rfl]
  refine run_want ?_
  unfold m_want_two
  refine X.want ?_
  repeat' fail
  refine ⟨_, _, _, rfl, want_prime_ok (by omega) h.fp _, fun h1 => ?_, fun n h1 => ?_⟩
  · refine X.want ?_
    repeat' fail
    refine ok_of (is_some_word_ok (by omega) h.fits _) ?_
    repeat' fail
    refine ⟨_, _, _, rfl, want_ok (by omega) _, fun h1 => ?_, fun n h1 => ?_⟩
    · refine X.want ?_
      repeat' fail
      rw [List.length_map]
      exact ⟨_, _, _, rfl, want_word_ok (by omega) hf _, fun h => X.nil (finW_next h), fun n h => finW_exc h⟩
    · rw [some_w h.dig h.len] at h1; cases h1
  · rw [h.pr] at h1; cases h1
theorem added_ok {k : Nat} (hk : 8 ≤ k) {p : Int} {xs : List Int} {d : D} (h : Wp p xs) (hf : d.fits = true) (g : G) : Fn B Z k i_added [.int p, Dw xs, d] g = seqW [(isWord p xs.length d, "other")] (Dw (addW p xs (intsOf d))) g := by
  obtain ⟨k, rfl, hk⟩ := lev hk
  rw [fnB (m := meanOf 3 m_added) (by decide) rfl]
  refine run_want ?_
  unfold m_added
  refine X.want ?_
  repeat' fail
  refine ⟨_, _, _, rfl, want_two_ok (by omega) h hf _, fun h1 => ?_, fun n h1 => finW_exc h1⟩
  repeat' fail
  obtain ⟨ys, rfl, h2, h3⟩ := isWord_is (show isWord p xs.length d = true by revert h1; cases isWord p (xs.length : Int) d <;> simp [firstBad])
  rw [intsOf_w]
  exact ok_of (added_by_ok (by omega) h.pos _) (finW_ret h1 rfl)
theorem lessened_ok {k : Nat} (hk : 8 ≤ k) {p : Int} {xs : List Int} {d : D} (h : Wp p xs) (hf : d.fits = true) (g : G) : Fn B Z k i_lessened [.int p, Dw xs, d] g = seqW [(isWord p xs.length d, "other")] (Dw (subW p xs (intsOf d))) g := by
  obtain ⟨k, rfl, hk⟩ := lev hk
  rw [fnB (m := meanOf 3 m_lessened) (by decide) rfl]
  refine run_want ?_
  unfold m_lessened
  refine X.want ?_
  repeat' fail
  refine ⟨_, _, _, rfl, want_two_ok (by omega) h hf _, fun h1 => ?_, fun n h1 => finW_exc h1⟩
  repeat' fail
  obtain ⟨ys, rfl, h2, h3⟩ := isWord_is (show isWord p xs.length d = true by revert h1; cases isWord p (xs.length : Int) d <;> simp [firstBad])
  rw [intsOf_w]
  exact ok_of (lessened_by_ok (by omega) h.pos _) (finW_ret h1 rfl)
theorem product_of_ok {k : Nat} (hk : 8 ≤ k) {p : Int} {xs : List Int} {d : D} (h : Wp p xs) (hf : d.fits = true) (g : G) : Fn B Z k i_product_of [.int p, Dw xs, d] g = seqW [(isWord p xs.length d, "other")] (Dw (prodW p xs (intsOf d))) g := by
  obtain ⟨k, rfl, hk⟩ := lev hk
  rw [fnB (m := meanOf 3 m_product_of) (by decide) rfl]
  refine run_want ?_
  unfold m_product_of
  refine X.want ?_
  repeat' fail
  refine ⟨_, _, _, rfl, want_two_ok (by omega) h hf _, fun h1 => ?_, fun n h1 => finW_exc h1⟩
  repeat' fail
  obtain ⟨ys, rfl, h2, h3⟩ := isWord_is (show isWord p xs.length d = true by revert h1; cases isWord p (xs.length : Int) d <;> simp [firstBad])
  rw [intsOf_w]
  exact ok_of (product_by_ok (by omega) h.pos h.sm _) (finW_ret h1 rfl)
theorem sum_of_products_ok {k : Nat} (hk : 8 ≤ k) {p : Int} {xs : List Int} {d : D} (h : Wp p xs) (hf : d.fits = true) (g : G) : Fn B Z k i_sum_of_products [.int p, Dw xs, d] g = seqW [(isWord p xs.length d, "other")] (.int (dotW p xs (intsOf d))) g := by
  obtain ⟨k, rfl, hk⟩ := lev hk
  rw [fnB (m := meanOf 3 m_sum_of_products) (by decide) rfl]
  refine run_want ?_
  unfold m_sum_of_products
  refine X.want ?_
  repeat' fail
  refine ⟨_, _, _, rfl, want_two_ok (by omega) h hf _, fun h1 => ?_, fun n h1 => finW_exc h1⟩
  repeat' fail
  obtain ⟨ys, rfl, h2, h3⟩ := isWord_is (show isWord p xs.length d = true by revert h1; cases isWord p (xs.length : Int) d <;> simp [firstBad])
  rw [intsOf_w]
  exact ok_of (dot_by_ok (by omega) h.pos h.sm _) (finW_ret h1 rfl)
def intOf : D → Int
  | .int i => i
  | _ => 0
theorem times_ok {k : Nat} (hk : 7 ≤ k) {p : Int} {xs : List Int} {d : D} (h : Wp p xs) (hf : d.fits = true) (g : G) : Fn B Z k i_times [.int p, d, Dw xs] g = seqW [(isIdx p d, "digit")] (Dw (mulW p (intOf d) xs)) g := by
  obtain ⟨k, rfl, hk⟩ := lev hk
  rw [fnB (m := meanOf 3 m_times) (by decide) rfl]
  refine run_want ?_
  unfold m_times
  refine X.want ?_
  repeat' fail
  refine ⟨_, _, _, rfl, want_prime_ok (by omega) h.fp _, fun h1 => ?_, fun n h1 => ?_⟩
  · refine X.want ?_
    repeat' fail
    refine ok_of (is_digit_ok (by omega) hf _) ?_
    repeat' fail
    refine ⟨_, _, _, rfl, want_ok (by omega) _, fun h1 => ?_, fun n h1 => finW_exc h1⟩
    · refine X.want ?_
      repeat' fail
      refine ok_of (is_some_word_ok (by omega) h.fits _) ?_
      repeat' fail
      refine ⟨_, _, _, rfl, want_ok (by omega) _, fun h2 => ?_, fun n h2 => ?_⟩
      · repeat' fail
        obtain ⟨i, rfl, h3, h4⟩ := isIdx_is (show isIdx p d = true by revert h1; cases isIdx p d <;> simp [firstBad])
        exact ok_of (times_by_ok (by omega) h.pos h.sm _) (finW_ret h1 rfl)
      · rw [some_w h.dig h.len] at h2; cases h2
  · rw [h.pr] at h1; cases h1
theorem top_le {p : Int} {xs : List Int} (h : Wp p xs) : Dig 13 xs := fun x hx => by have := h.dig x hx; have := h.le; omega
theorem lot_of_ok {k : Nat} (hk : 6 ≤ k) {p : Int} {xs : List Int} (h : Wp p xs) (g : G) : Fn B Z k i_lot_of [Dw xs] g = .ok (Dn (posF (fun x => decide (0 < x)) 0 xs)) g := by
  obtain ⟨k, rfl, hk⟩ := lev hk
  rw [fnB (m := meanOf 1 m_lot_of) (by decide) rfl]
  have key : meanOf 1 m_lot_of (Fn B Z k) [Dw xs] g = seqW [] (Dn (posF (fun x => decide (0 < x)) 0 xs)) g := by
    refine run_want ?_
    unfold m_lot_of
    refine X.want ?_
    repeat' fail
    refine Ok.lift (a := .int 13) (by rfl) ?_
    repeat' fail
    refine ok_of (is_some_word_ok (by omega) h.fits _) ?_
    repeat' fail
    refine ⟨_, _, _, rfl, want_ok (by omega) _, fun h1 => ?_, fun n h1 => ?_⟩
    · repeat' fail
      exact ok_of (lot_by_ok (by omega) _) (finW_ret rfl rfl)
    · rw [some_w (top_le h) h.len] at h1; cases h1
  exact key
theorem weight_of_ok {k : Nat} (hk : 7 ≤ k) {p : Int} {xs : List Int} (h : Wp p xs) (g : G) : Fn B Z k i_weight_of [Dw xs] g = .ok (.int ((posF (fun x => decide (0 < x)) 0 xs).length : Nat)) g := by
  obtain ⟨k, rfl, hk⟩ := lev hk
  rw [fnB (m := meanOf 1 m_weight_of) (by decide) rfl]
  refine run_eq ?_
  unfold m_weight_of
  repeat' fail
  refine ok_of (lot_of_ok (by omega) h _) ?_
  repeat' fail
  rw [List.length_map]; exact rrF
theorem cut_ok {k : Nat} (hk : 7 ≤ k) {p : Int} {xs : List Int} {d : D} (h : Wp p xs) (hf : d.fits = true) (g : G) : Fn B Z k i_cut [Dw xs, d] g = seqW [(isLot xs.length d, "lot")] (Dw (cutW xs (natsOf d))) g := by
  obtain ⟨k, rfl, hk⟩ := lev hk
  rw [fnB (m := meanOf 2 m_cut) (by decide) rfl]
  refine run_want ?_
  unfold m_cut
  refine X.want ?_
  repeat' fail
  refine Ok.lift (a := .int 13) (by rfl) ?_
  repeat' fail
  refine ok_of (is_some_word_ok (by omega) h.fits _) ?_
  repeat' fail
  refine ⟨_, _, _, rfl, want_ok (by omega) _, fun h1 => ?_, fun n h1 => ?_⟩
  · refine X.want ?_
    repeat' fail
    rw [List.length_map]
    refine ⟨_, _, _, rfl, want_lot_ok (by omega) hf _, fun h2 => ?_, fun n h => finW_exc h⟩
    repeat' fail
    obtain ⟨e1, e2⟩ := lot_is (show isLot xs.length d = true by revert h2; cases isLot (xs.length : Int) d <;> simp [firstBad])
    have := cut_by_ok (k := k) (a := xs) (lot := natsOf d) (by omega) (fun i hi => by have := e2 i hi; omega) g
    rw [← e1] at this
    exact ok_of this (finW_ret h2 rfl)
  · rw [some_w (top_le h) h.len] at h1; cases h1

end SH.K01

set_option Elab.async false
set_option linter.all false
set_option maxRecDepth 1000000
set_option maxHeartbeats 4000000
namespace SH.K01
open PySem PySem.Spec PyProof.Rows L2 LamX SH
local macro_rules | `(tactic| fail) => `(tactic| with_reducible first
  | (refine gW ?_; first | refine W.slot (by with_unfolding_all exact rfl) ?_ | refine W.lit ?_ | refine W.cmp ?_ | refine W.bin ?_ | refine W.idx ?_ | refine W.call ?_ | refine W.bi ?_ | refine W.tup ?_ | refine W.lst ?_ | refine W.comp ?_ | refine W.and_ ?_ | refine W.or_ ?_ | refine W.not_ ?_ | refine W.ite ?_ | refine W.neg ?_ | refine W.isN ?_ | refine W.notN ?_ | refine W.slice ?_ | refine W.rev ?_)
  | (refine gL ?_; first | refine o_add ?_ | refine o_sub ?_ | refine o_lenT ?_ | refine o_lenL ?_ | refine o_tupT ?_ | refine o_tupL ?_ | refine o_lstT ?_ | refine o_lstL ?_ | refine o_intI ?_ | refine o_revT ?_ | refine o_revL ?_ | refine o_isInt (by assumption) ?_ | refine o_isBool (by assumption) ?_ | refine o_isTuple (by assumption) ?_)
  | (refine gB ?_; first | refine o_lt ?_ | refine o_le ?_ | refine o_gt ?_ | refine o_ge ?_ | refine o_eqI ?_ | refine o_neI ?_)
  | refine Ws.cons ?_ | refine Ws.nil ?_
  | (refine gX ?_; first | refine X.set ?_ | refine X.ret ?_ | refine X.if_ ?_ | refine X.nil ?_ | refine X.own ?_ | refine X.par ?_ | refine X.expr ?_ | refine X.raise_ ?_ | refine X.frz ?_)
  | (refine gE ?_; first | refine tr_bl ?_ | refine ex_some (by with_unfolding_all exact rfl) ?_ | refine tr_int ?_ | refine ex_int ?_ | refine ex_lst ?_ | refine sq_tup ?_ | refine sq_lst ?_ | refine en_tup ?_ | refine en_lst ?_)
  | (refine gA ?_; first | exact rr | refine br_tt ?_ | refine br_ff ?_ | refine br_dec (fun _ => ?_) (fun _ => ?_) | refine br_t (by with_unfolding_all exact rfl) ?_ | refine br_f (by with_unfolding_all exact rfl) ?_ | refine br_not ?_ | refine br_eq (fun _ => ?_) (fun _ => ?_) | refine br_ne0 (fun _ => ?_) (fun _ => ?_))
  | exact rrF | refine t_one ?_ | refine Wt.nil ?_ | refine Wt.cons ?_ | refine WT.mk ?_ | refine Wi.seq ?_ | refine Wi.enum ?_ | refine Wi.zip ?_ | refine Wi.range0 ?_ | refine Wi.range ?_ | refine Wo.none ?_ | refine Wo.some ?_
  | refine toW ?_ | refine toWt ?_ | refine toWi ?_ | refine toXt ?_
  | refine thenP.next ?_ | refine turnP.next ?_ | refine thenP.ret ?_ | refine thenP.exc ?_ | refine turnP.ret ?_ | refine turnP.exc ?_)
theorem fnZ {k i : Nat} {m : HMean} (hi : i < 1000000) (hZ : Z[i]? = some m) (t : G → Res D) (g : G) : (Fn B Z (k + 1)).hear i t g = m (Fn B Z k) t g := by
  cases k with
  | zero =>
    show (if i < 1000000 then runH Z[i]? badF t g else .bad) = _
    rw [if_pos hi, hZ]; rfl
  | succ n =>
    show (if i < 1000000 then runH Z[i]? (Fn B Z (n + 1)) t g else _) = _
    rw [if_pos hi, hZ]; rfl
theorem Fn_call (n j : Nat) (ds : List D) (g : G) : (Fn B Z (n + 2)).call j ds g = if j < 1000000 then runM B[j]? (Fn B Z (n + 1)) ds g else (Fn B Z n).call (j - 1000000) ds g := rfl
theorem lowF_call (Φ : Fns) (i : Nat) (ds : List D) (g : G) : (lowF Φ).call i ds g = Φ.call (i + 1000000) ds g := rfl
theorem low_call {k i : Nat} {ds : List D} {g : G} : (lowF (Fn B Z (k + 2))).call i ds g = (Fn B Z k).call i ds g := by
  rw [lowF_call, Fn_call, if_neg (Nat.not_lt.mpr (Nat.le_add_left _ _)), Nat.add_sub_cancel]
theorem said_ok {k : Nat} {t : G → Res D} {d : D} {g g1 : G} (h : t g = .ok d g1) : (Fn B Z (k + 1)).hear 0 t g = .ok (.tup [.str "told", d]) g1 := by
  rw [fnZ (m := hearOf 4 m__law_said) (by decide) rfl]
  unfold hearOf runBodyT m__law_said
  have e : execs (Fn B Z k) [(.ret (.tup [(.lit (.str "told")), (.thk 0)]))] (startT 4 t) g = .ret (.tup [.str "told", d]) g1 := by
    show (match exec (Fn B Z k) (.ret (.tup [(.lit (.str "told")), (.thk 0)])) (startT 4 t) g with
      | .next S1 g1 => execs (Fn B Z k) [] S1 g1
      | r => r) = _
    rw [exec_ret, ev_tup, evs_cons, ev_lit, ok_bind, evs_cons]
    show (match thenS (((((t g).bind fun x g => (evs (Fn B Z k) [] (startT 4 t) g).bind fun l g => .ok (x :: l) g)).bind fun l g => .ok (.str "told" :: l) g).bind fun l g => .ok (.tup l) g) (startT 4 t) (fun x g => SR.ret x g) with
      | .next S1 g1 => execs (Fn B Z k) [] S1 g1
      | r => r) = _
    rw [h]; rfl
  rw [execs_cons, exec, e]
theorem said_exc {k : Nat} {t : G → Res D} {w x : D} {g g1 : G} (h : t g = .exc ⟨"InvalidPaper", [("word", w), ("at", x)]⟩ g1) : (Fn B Z (k + 1)).hear 0 t g = .ok (.tup [.str "paper", w, x]) g1 := by
  rw [fnZ (m := hearOf 4 m__law_said) (by decide) rfl]
  unfold hearOf runBodyT m__law_said
  have e : execs (Fn B Z k) [(.ret (.tup [(.lit (.str "told")), (.thk 0)]))] (startT 4 t) g = .exc ⟨"InvalidPaper", [("word", w), ("at", x)]⟩ (startT 4 t) g1 := by
    show (match exec (Fn B Z k) (.ret (.tup [(.lit (.str "told")), (.thk 0)])) (startT 4 t) g with
      | .next S1 g1 => execs (Fn B Z k) [] S1 g1
      | r => r) = _
    rw [exec_ret, ev_tup, evs_cons, ev_lit, ok_bind, evs_cons]
    show (match thenS (((((t g).bind fun x g => (evs (Fn B Z k) [] (startT 4 t) g).bind fun l g => .ok (x :: l) g)).bind fun l g => .ok (.str "told" :: l) g).bind fun l g => .ok (.tup l) g) (startT 4 t) (fun x g => SR.ret x g) with
      | .next S1 g1 => execs (Fn B Z k) [] S1 g1
      | r => r) = _
    rw [h]; rfl
  rw [execs_cons, exec, e]
  kernel_rfl
theorem said_use {k : Nat} {t : G → Res D} {w x : D} {g g1 : G} (h : t g = .exc ⟨"NotUsable", [("word", w), ("at", x)]⟩ g1) : (Fn B Z (k + 1)).hear 0 t g = .ok (.tup [.str "use", w, x]) g1 := by
  rw [fnZ (m := hearOf 4 m__law_said) (by decide) rfl]
  unfold hearOf runBodyT m__law_said
  have e : execs (Fn B Z k) [(.ret (.tup [(.lit (.str "told")), (.thk 0)]))] (startT 4 t) g = .exc ⟨"NotUsable", [("word", w), ("at", x)]⟩ (startT 4 t) g1 := by
    show (match exec (Fn B Z k) (.ret (.tup [(.lit (.str "told")), (.thk 0)])) (startT 4 t) g with
      | .next S1 g1 => execs (Fn B Z k) [] S1 g1
      | r => r) = _
    rw [exec_ret, ev_tup, evs_cons, ev_lit, ok_bind, evs_cons]
    show (match thenS (((((t g).bind fun x g => (evs (Fn B Z k) [] (startT 4 t) g).bind fun l g => .ok (x :: l) g)).bind fun l g => .ok (.str "told" :: l) g).bind fun l g => .ok (.tup l) g) (startT 4 t) (fun x g => SR.ret x g) with
      | .next S1 g1 => execs (Fn B Z k) [] S1 g1
      | r => r) = _
    rw [h]; rfl
  rw [execs_cons, exec, e]
  kernel_rfl

/-! ### draws -/
def Fd (g : G) : Prop := ∃ c s l d, g = [feedD "cells" "spot" "left" "drawn" c s l d]
theorem feed_at {k : Nat} {ns : List Int} (h : ns.length ≤ 63) : Fn B Z (k + 1) i__law_feed [.scr ns] [] = .ok (.ptr 0) [feedD "cells" "spot" "left" "drawn" ns 0 0 0] :=
  (fnB (k := k) (by decide) (m := meanOf 3 (feedT "cells" "spot" "left" "drawn")) rfl _ _).trans (feed_ok _ _ _ _ (by decide +kernel) _ h)
theorem draw_wp {k : Nat} {hi : Int} {g : G} {Q : D → G → Prop} (hk : 1 ≤ k) (hg : Fd g) (h0 : 0 < hi) (h1 : hi < 1000000000) (q : ∀ (v : Int) g', 0 ≤ v → v < hi → Fd g' → Q (.int v) g') : Ok (Fn B Z k i__law_draw [.ptr 0, .int hi] g) Q := by
  obtain ⟨k, rfl, _⟩ := lev hk
  obtain ⟨c, s, l, d, rfl⟩ := hg
  obtain ⟨v, s', l', d', a1, a2, a3⟩ := draw_ok (kc := "cells") (ks := "spot") (kl := "left") (kd := "drawn") (c0 := 620137) (m1 := 1000004279) (a1 := 70213) (b1 := 1409) (n1 := 2147482739) (a2 := 4401331) (b2 := 1307) (n2 := 2147482697) (a3 := 1409) (n3 := 2147482693) (by decide +kernel) (by decide) (by decide) (by decide) (by decide) (by decide) (by decide) (by decide) (by decide) (by decide) (Fn B Z k) c s l d hi h0 (by omega)
  have e := (fnB (k := k) (i := i__law_draw) (by decide) (m := meanOf 7 (drawT "cells" "spot" "left" "drawn" 620137 1000004279 70213 1409 2147482739 4401331 1307 2147482697 1409 2147482693)) rfl _ _).trans a3
  exact ok_of e (q v _ a1 a2 ⟨_, _, _, _, rfl⟩)
theorem pick_wp {k : Nat} {l : List D} {g : G} {Q : D → G → Prop} (hk : 2 ≤ k) (hg : Fd g) (h0 : l ≠ []) (h1 : l.length < 1000000) (q : ∀ d g', d ∈ l → Fd g' → Q d g') : Ok (Fn B Z k i__law_pick [.ptr 0, .lst l] g) Q := by
  obtain ⟨k, rfl, hk'⟩ := lev hk
  rw [fnB (m := meanOf 2 m__law_pick) (by decide) rfl]
  refine run_ok ?_
  unfold m__law_pick
  repeat' fail
  refine draw_wp hk' hg (by have := List.length_pos_iff.mpr h0; omega) (by omega) (fun v g' a1 a2 hg' => ?_)
  obtain ⟨n, rfl⟩ : ∃ n : Nat, v = n := ⟨v.toNat, by omega⟩
  have hn : n < l.length := by omega
  refine o_idxL (List.getElem?_eq_getElem hn) ?_
  exact q _ _ (List.getElem_mem hn) hg'

theorem law_bent_wp {M Nm : Nat} (hM : 2000 ≤ M) : ∀ (t : Nat) {k N c : Nat} {d : D} {menu : List D} {g : G} {Q : D → G → Prop}, t + 4 ≤ k → N + 2 ≤ BIG → Nm ≤ N → c ≤ 3000000 → t ≤ 15 → Fd g → Gb N c t d → menu ≠ [] → menu.length ≤ 1000 → (∀ m ∈ menu, Gb Nm M 2 m ∧ tl m ≤ 1) → (∀ d' g', Gb (N + 2) (2 * d.wt + M) (t + 2) d' → tl d' ≤ tl d + 1 → Fd g' → Q d' g') → Ok (Fn B Z k i__law_bent [.ptr 0, d, .lst menu] g) Q := by
  intro t
  induction t using Nat.strongRecOn with
  | _ t ih =>
    intro k N c d menu g Q hk hN hN0 hc ht hg hd hm0 hml hmm q
    obtain ⟨k, rfl, hk'⟩ := lev (n := t + 3) hk
    have hf : d.fits = true := il_fits (by omega) d hd.il
    have hmenu : menu.length < 1000000 := Nat.lt_of_le_of_lt hml (by decide)
    have pm : ∀ g', Fd g' → Ok (Fn B Z k i__law_pick [.ptr 0, .lst menu] g') Q := fun g' hg' => pick_wp (by omega) hg' hm0 hmenu (fun d' g2 h1 h2 => q d' g2 ((hmm d' h1).1.mono (by omega) (by omega) (by omega)) (by have := (hmm d' h1).2; omega) h2)
    rw [fnB (m := meanOf 5 m__law_bent) (by decide) rfl]
    refine run_ok ?_
    unfold m__law_bent
    cases d <;> first | (cases hf; done) | skip
    case tup l =>
      repeat' fail
      refine o_eqT0 hd (by omega) (by omega) rfl ?_
      cases l with
      | nil =>
        refine tr_bl (br_t rfl ?_)
        repeat' fail
        exact Ok.imp (pm g hg) fun d g h => thenP.ret h
      | cons a l =>
        refine tr_bl (br_f rfl ?_)
        repeat' fail
        refine draw_wp (by omega) hg (by decide) (by decide) (fun v g1 a1 a2 hg1 => ?_)
        repeat' fail
        · exact Ok.imp (pm g1 hg1) fun d g h => thenP.ret h
        obtain ⟨t, rfl⟩ : ∃ t', t = t' + 1 := ⟨t - 1, by
          have := hd.dep
          have e : D.depth (.tup (a :: l)) = D.depths (a :: l) + 1 := rfl
          omega⟩
        have hz := hd.len
        generalize hL : a :: l = L at hd hz hf q ih
        have hL1 : 1 ≤ L.length := by rw [← hL]; simp
        refine draw_wp (by omega) hg1 (by omega) (by omega) (fun v2 g2 b1 b2 hg2 => ?_)
        obtain ⟨s, rfl⟩ : ∃ s : Nat, v2 = s := ⟨v2.toNat, by omega⟩
        have hs : s < L.length := by omega
        repeat' fail
        refine draw_wp (by omega) hg2 (by decide) (by decide) (fun way g3 c1 c2 hg3 => ?_)
        have hd' : Gb N (D.wt (.tup L)) (t + 1) (.tup L) := ⟨hd.il, Nat.le_refl _, hd.dep⟩
        have up : ∀ {l' : List D}, Gb N (2 * D.wt (.tup L)) (t + 1) (.tup l') → Gb (N + 2) (2 * D.wt (.tup L) + M) (t + 1 + 2) (.tup l') := fun h => h.mono (by omega) (by omega) (by omega)
        have i1 : ((s : Int) + 1) = ((s + 1 : Nat) : Int) := by omega
        have i2 : ((s : Int) + 2) = ((s + 2 : Nat) : Int) := by omega
        have lz : ∀ {a b : Nat}, a ≤ L.length + 2 → b ≤ 2 * L.length + 2 → a + b ≤ 16777216 := fun ha hb => Nat.le_trans (Nat.add_le_add ha hb) (Nat.le_trans (show L.length + 2 + (2 * L.length + 2) ≤ 9000004 by omega) (Nat.le_of_ble_eq_true rfl))
        repeat' fail
        · refine draw_wp (by omega) hg3 (by decide) (by decide) (fun u g4 u1 u2 hg4 => ?_)
          repeat' fail
          · exact q _ _ ((hd'.lst).mono (by omega) (by omega) (by omega)) (Nat.zero_le _) hg4
          · exact q _ _ (up (hd'.sub (fun e he => List.mem_reverse.mp he) (by rw [wts_rev]; omega))) (by show L.reverse.length ≤ L.length + 1; simp) hg4
        · refine o_slT_to ?_
          repeat' fail
          rw [i1]
          refine o_slT_from ?_
          refine o_addT (lz (by rw [List.length_take]; omega) (by rw [List.length_drop]; omega)) ?_
          repeat' fail
          refine q _ _ (up (hd'.sub (fun e he => ?_) ?_)) (by show List.length (_ ++ _) ≤ L.length + 1; rw [List.length_append, List.length_take, List.length_drop]; omega) hg3
          · rcases List.mem_append.mp he with he | he
            · exact List.mem_of_mem_take he
            · exact List.mem_of_mem_drop he
          · rw [wts_app]
            have := wts_take_le L s
            have := wts_drop_le L (s + 1)
            omega
        · refine o_slT_to ?_
          repeat' fail
          rw [i1]
          refine o_slT_mid (by omega) ?_
          refine o_addT (lz (by rw [List.length_take]; omega) (by rw [List.length_take, List.length_drop]; omega)) ?_
          repeat' fail
          refine o_slT_from ?_
          refine o_addT (by rw [List.length_append, List.length_take, List.length_take, List.length_drop]; rw [Nat.add_comm]; exact lz (by omega) (by omega)) ?_
          repeat' fail
          refine q _ _ (up (hd'.sub (fun e he => ?_) ?_)) (by show List.length (_ ++ _ ++ _) ≤ L.length + 1; rw [List.length_append, List.length_append, List.length_take, List.length_take, List.length_drop]; omega) hg3
          · rcases List.mem_append.mp he with he | he
            · rcases List.mem_append.mp he with he | he
              · exact List.mem_of_mem_take he
              · exact List.mem_of_mem_drop (List.mem_of_mem_take he)
            · exact List.mem_of_mem_drop he
          · rw [wts_app, wts_app]
            have := wts_take L s
            have := wts_take_le (L.drop s) (s + 1 - s)
            omega
        · refine o_slT_to ?_
          repeat' fail
          rw [i2]
          refine o_slT_mid (by omega) ?_
          repeat' fail
          refine o_addT (lz (by rw [List.length_take]; omega) (by rw [List.length_reverse, List.length_take, List.length_drop]; omega)) ?_
          repeat' fail
          rw [i2]
          refine o_slT_from ?_
          refine o_addT (by rw [List.length_append, List.length_reverse, List.length_take, List.length_take, List.length_drop, List.length_drop]; rw [Nat.add_comm]; exact lz (by omega) (by omega)) ?_
          repeat' fail
          refine q _ _ (up (hd'.sub (fun e he => ?_) ?_)) (by show List.length (_ ++ _ ++ _) ≤ L.length + 1; rw [List.length_append, List.length_append, List.length_reverse, List.length_take, List.length_take, List.length_drop, List.length_drop]; omega) hg3
          · rcases List.mem_append.mp he with he | he
            · rcases List.mem_append.mp he with he | he
              · exact List.mem_of_mem_take he
              · exact List.mem_of_mem_drop (List.mem_of_mem_take (List.mem_reverse.mp he))
            · exact List.mem_of_mem_drop he
          · rw [wts_app, wts_app, wts_rev]
            have := wts_take L s
            have := wts_take_le (L.drop s) (s + 2 - s)
            have := wts_drop_le (L.drop s) 2
            rw [List.drop_drop] at this
            omega
        · refine o_slT_to ?_
          repeat' fail
          have hLs : L[s]? = some L[s] := List.getElem?_eq_getElem hs
          refine o_idxT hLs ?_
          repeat' fail
          have hm := hd'.mem (List.mem_of_getElem? hLs)
          refine ih t (by omega) (by omega) hN hN0 (c := D.wt (.tup L)) (by have := hd.wt; omega) (by omega) hg3 hm hm0 hml hmm (fun d' g4 hd4 _ hg4 => ?_)
          repeat' fail
          refine o_addT (lz (by rw [List.length_take]; omega) (by show 1 ≤ _; omega)) ?_
          repeat' fail
          rw [i1]
          refine o_slT_from ?_
          refine o_addT (by rw [List.length_append, List.length_take, List.length_drop]; exact lz (show _ + 1 ≤ _ by omega) (by omega)) ?_
          repeat' fail
          exact q _ _ (Gb.put hd' hLs hd4 (by omega) (by omega)) (by show List.length (_ ++ [d'] ++ _) ≤ L.length + 1; rw [List.length_append, List.length_append, List.length_take, List.length_drop]; simp; omega) hg4
    case int i =>
      repeat' fail
      refine draw_wp (by omega) hg (by decide) (by decide) (fun v g1 a1 a2 hg1 => ?_)
      repeat' fail
      · refine pick_wp (by omega) hg1 (by simp) (by show 3 < 1000000; decide) (fun d' g2 h1 h2 => ?_)
        have hx : ∃ j : Int, d' = .int j ∧ j.natAbs ≤ 2 := by
          simp only [List.mem_cons, List.not_mem_nil, or_false] at h1
          rcases h1 with rfl | rfl | rfl <;> exact ⟨_, rfl, by decide⟩
        obtain ⟨j, rfl, hj⟩ := hx
        repeat' fail
        refine q _ _ ⟨Nat.ble_eq_true_of_le ?_, ?_, Nat.zero_le _⟩ (Nat.zero_le _) h2
        · have := Nat.le_of_ble_eq_true (show Nat.ble i.natAbs N = true from hd.il)
          omega
        · show 1921 ≤ 2 * 1921 + M
          omega
      · exact Ok.imp (pm g1 hg1) fun d g h => thenP.ret h
    all_goals repeat' fail
    all_goals exact Ok.imp (pm g hg) fun d g h => thenP.ret h

end SH.K01

set_option Elab.async false
set_option linter.all false
set_option maxRecDepth 1000000
set_option maxHeartbeats 4000000
namespace SH.K01
open PySem PySem.Spec PyProof.Rows L2 LamX SH
local macro_rules | `(tactic| fail) => `(tactic| with_reducible first
  | (refine gW ?_; first | refine W.slot (by with_unfolding_all exact rfl) ?_ | refine W.lit ?_ | refine W.cmp ?_ | refine W.bin ?_ | refine W.idx ?_ | refine W.call ?_ | refine W.bi ?_ | refine W.tup ?_ | refine W.lst ?_ | refine W.comp ?_ | refine W.and_ ?_ | refine W.or_ ?_ | refine W.not_ ?_ | refine W.ite ?_ | refine W.neg ?_ | refine W.isN ?_ | refine W.notN ?_ | refine W.slice ?_ | refine W.rev ?_)
  | (refine gL ?_; first | refine o_add ?_ | refine o_sub ?_ | refine o_lenT ?_ | refine o_lenL ?_ | refine o_tupT ?_ | refine o_tupL ?_ | refine o_lstT ?_ | refine o_lstL ?_ | refine o_intI ?_ | refine o_revT ?_ | refine o_revL ?_ | refine o_isInt (by assumption) ?_ | refine o_isBool (by assumption) ?_ | refine o_isTuple (by assumption) ?_)
  | (refine gB ?_; first | refine o_lt ?_ | refine o_le ?_ | refine o_gt ?_ | refine o_ge ?_ | refine o_eqI ?_ | refine o_neI ?_)
  | refine Ws.cons ?_ | refine Ws.nil ?_
  | (refine gX ?_; first | refine X.set ?_ | refine X.ret ?_ | refine X.if_ ?_ | refine X.nil ?_ | refine X.own ?_ | refine X.par ?_ | refine X.expr ?_ | refine X.raise_ ?_ | refine X.frz ?_)
  | (refine gE ?_; first | refine tr_bl ?_ | refine ex_some (by with_unfolding_all exact rfl) ?_ | refine tr_int ?_ | refine ex_int ?_ | refine ex_lst ?_ | refine sq_tup ?_ | refine sq_lst ?_ | refine en_tup ?_ | refine en_lst ?_)
  | (refine gA ?_; first | exact rr | refine br_tt ?_ | refine br_ff ?_ | refine br_dec (fun _ => ?_) (fun _ => ?_) | refine br_t (by with_unfolding_all exact rfl) ?_ | refine br_f (by with_unfolding_all exact rfl) ?_ | refine br_not ?_ | refine br_eq (fun _ => ?_) (fun _ => ?_) | refine br_ne0 (fun _ => ?_) (fun _ => ?_))
  | exact rrF | refine t_one ?_ | refine Wt.nil ?_ | refine Wt.cons ?_ | refine WT.mk ?_ | refine Wi.seq ?_ | refine Wi.enum ?_ | refine Wi.zip ?_ | refine Wi.range0 ?_ | refine Wi.range ?_ | refine Wo.none ?_ | refine Wo.some ?_
  | refine toW ?_ | refine toWt ?_ | refine toWi ?_ | refine toXt ?_
  | refine thenP.next ?_ | refine turnP.next ?_ | refine thenP.ret ?_ | refine thenP.exc ?_ | refine turnP.ret ?_ | refine turnP.exc ?_)
theorem law_is_number_ok {k : Nat} (hk : 1 ≤ k) {d : D} (h : d.fits = true) (g : G) : Fn B Z k i__law_is_number [d] g = .ok (.bl (isNum d)) g := by
  obtain ⟨k, rfl, hk⟩ := lev hk
  rw [fnB (m := meanOf 1 m__law_is_number) (by decide) rfl]
  refine run_eq ?_
  unfold m__law_is_number
  repeat' fail
  cases d <;> first | (cases h; done) | skip
  all_goals repeat' fail
  all_goals exact finI rfl
theorem isWord_dep {p n : Int} {l : List D} (hl : (l.length : Int) = n) : isWord p n (.tup l) = (l.filter fun d => !isIdx p d).isEmpty := by
  show (((l.length : Int) == n) && l.all (isIdx p)) = _
  rw [hl, beq_self_eq_true, Bool.true_and, Bool.eq_iff_iff]
  rw [List.all_eq_true, List.isEmpty_iff, List.filter_eq_nil_iff]
  constructor
  · intro h a ha; rw [h a ha]; decide
  · intro h a ha; have := h a ha; simpa using this
theorem law_is_word_ok {k : Nat} (hk : 2 ≤ k) {d : D} {p n : Int} (h : Dm d) (g : G) : Fn B Z k i__law_is_word [.int p, .int n, d] g = .ok (.bl (isWord p n d)) g := by
  have hf := h.fit
  obtain ⟨k, rfl, hk⟩ := lev hk
  rw [fnB (m := meanOf 5 m__law_is_word) (by decide) rfl]
  refine run_eq ?_
  unfold m__law_is_word
  repeat' fail
  by_cases ht : ∃ l, d = .tup l
  · obtain ⟨l, rfl⟩ := ht
    repeat' fail
    · rename_i h2
      refine c_pureD l (fun d => !isIdx p d) (fun d => d) (fun x hx => ⟨_, rfl, ?_, fun _ => ?_⟩) ?_
      · refine t_one ?_
        repeat' fail
        refine ok_of (law_is_number_ok (by omega) (fitsL_mem hf x hx) _) ?_
        repeat' fail
        refine ⟨fun h3 => ?_, fun h3 => ?_⟩
        · cases x <;> first | (cases h3; done) | skip
          rename_i i
          repeat' fail
          refine ⟨?_, rfl⟩
          show D.bl (decide (p ≤ i)) = D.bl (!(decide (0 ≤ i) && decide (i < p)))
          rw [show decide (0 ≤ i) = true from h3, Bool.true_and, ← decide_not]
          simp only [Int.not_lt]
        · refine ⟨?_, rfl⟩
          cases x <;> first | rfl | skip
          rename_i i
          show D.bl (!decide (0 ≤ i)) = D.bl (!(decide (0 ≤ i) && decide (i < p)))
          rw [show decide (0 ≤ i) = false from h3]; rfl
      · repeat' fail
      · repeat' fail
        rw [List.map_id']
        refine o_eqNil (fitsL_plain _ (fitsL_of fun d hd => fitsL_mem hf d (List.mem_filter.mp hd).1)) (Nat.ble_eq_true_of_le ?_) ?_
        · have h3 := deps_le (l := l) (l' := l.filter fun d => !isIdx p d) fun d hd => (List.mem_filter.mp hd).1
          have h4 := h.dep
          unfold D.depth at h4
          omega
        · refine finI ?_
          rw [isWord_dep h2]
    · rename_i h2
      refine finI ?_
      show D.bl false = D.bl (((l.length : Int) == n) && l.all (isIdx p))
      rw [show ((l.length : Int) == n) = false by simpa using h2]; rfl
  · have hn : isT0 d = false := by
      cases d <;> first | rfl | exact absurd ⟨_, rfl⟩ ht
    refine ⟨fun h1 => (by rw [hn] at h1; cases h1), fun _ => ?_⟩
    repeat' fail
    refine ⟨fun h1 => (by rw [hn] at h1; cases h1), fun _ => ?_⟩
    repeat' fail
    refine finI ?_
    cases d <;> first | rfl | exact absurd ⟨_, rfl⟩ ht

theorem law_is_lot_ok {k : Nat} (hk : 2 ≤ k) {d : D} {n : Int} (h : Dm d) (ht : tl d < 64) (g : G) : Fn B Z k i__law_is_lot [.int n, d] g = .ok (.bl (isLot n d)) g := by
  have hf := h.fit
  obtain ⟨k, rfl, hk⟩ := lev hk
  rw [fnB (m := meanOf 4 m__law_is_lot) (by decide) rfl]
  refine run_eq ?_
  unfold m__law_is_lot
  repeat' fail
  by_cases ht : ∃ l, d = .tup l
  · obtain ⟨l, rfl⟩ := ht
    repeat' fail
    refine c_pureD l (fun d => !isNum d) (fun d => d) (fun x hx => ⟨_, rfl, ?_, fun _ => ?_⟩) ?_
    · refine t_one ?_
      repeat' fail
      refine ok_of (law_is_number_ok (by omega) (fitsL_mem hf x hx) _) ?_
      repeat' fail
    · repeat' fail
    repeat' fail
    rw [List.map_id']
    refine o_neNil (fitsL_plain _ (fitsL_of fun d hd => fitsL_mem hf d (List.mem_filter.mp hd).1)) (Nat.ble_eq_true_of_le ?_) ?_
    · have h3 := deps_le (l := l) (l' := l.filter fun d => !isNum d) fun d hd => (List.mem_filter.mp hd).1
      have h4 := h.dep
      unfold D.depth at h4
      omega
    · cases hn : (l.filter fun d => !isNum d).isEmpty with
      | false =>
        repeat' fail
        refine finI ?_
        have : ¬ l.all (isIdx n) = true := fun q => by
          rw [List.all_eq_true] at q
          rw [List.isEmpty_eq_false_iff] at hn
          obtain ⟨x, hx⟩ := List.exists_mem_of_ne_nil _ hn
          have hx := List.mem_filter.mp hx
          have := isIdx_num (q x hx.1)
          rw [this] at hx
          exact absurd hx.2 (by decide)
        show D.bl false = D.bl (l.all (isIdx n) && ascI (intsOf (.tup l)))
        rw [show l.all (isIdx n) = false by simpa using this]; rfl
      | true =>
        rw [List.isEmpty_iff, List.filter_eq_nil_iff] at hn
        obtain ⟨xs, rfl, hx⟩ := allNum (l := l) (List.all_eq_true.mpr fun x hx => by have := hn x hx; simpa using this)
        have hlen : xs.length < 64 := by have : ((xs.map D.int).length) < 64 := by assumption
                                         simpa using this
        repeat' fail
        refine Ok.lift (a := .lst ((sortU xs).map .int)) ?_ ?_
        · show (ints? (xs.map D.int)).bind _ = _
          rw [ints_map, Option.bind_some, if_pos (Nat.ble_eq_true_of_le (by omega))]
        repeat' fail
        refine o_eqLI ?_
        have hlot := lot_last (n := n) hx
        cases hs : (xs == sortU xs) with
        | false =>
          refine tr_bl (br_ff ?_)
          refine finI ?_
          have : ascI xs = false := by
            cases ha : ascI xs with
            | false => rfl
            | true =>
              have := sortU_eq.mpr ha
              rw [this, beq_self_eq_true] at hs; cases hs
          rw [hlot, this]; rfl
        | true =>
          have ha : ascI xs = true := sortU_eq.mp (eq_of_beq hs).symm
          rw [ha, Bool.true_and] at hlot
          refine tr_bl (br_tt ?_)
          repeat' fail
          refine o_eqTI (ys := []) ?_
          rcases List.eq_nil_or_concat xs with rfl | ⟨ys, z, rfl⟩
          · refine tr_bl (br_tt ?_)
            refine finI ?_
            rw [hlot]; rfl
          · refine tr_bl (br_f (by cases ys <;> rfl) ?_)
            rw [List.concat_eq_append] at *
            repeat' fail
            refine Ok.lift (a := .int z) ?_ ?_
            · show atI ((ys ++ [z]).map D.int) (-1) = _
              rw [List.map_append]
              exact atI_last _ _
            repeat' fail
            refine finI ?_
            rw [hlot, List.getLast?_append]
            rfl
  · have hn : isT0 d = false := by
      cases d <;> first | rfl | exact absurd ⟨_, rfl⟩ ht
    refine ⟨fun h1 => (by rw [hn] at h1; cases h1), fun _ => ?_⟩
    repeat' fail
    refine ⟨fun h1 => (by rw [hn] at h1; cases h1), fun _ => ?_⟩
    repeat' fail
    refine finI ?_
    cases d <;> first | rfl | exact absurd ⟨_, rfl⟩ ht

end SH.K01

set_option Elab.async false
set_option linter.all false
set_option maxRecDepth 1000000
set_option maxHeartbeats 4000000
namespace SH.K01
open PySem PySem.Spec PyProof.Rows L2 LamX SH
local macro_rules | `(tactic| fail) => `(tactic| with_reducible first
  | (refine gW ?_; first | refine W.slot (by with_unfolding_all exact rfl) ?_ | refine W.lit ?_ | refine W.cmp ?_ | refine W.bin ?_ | refine W.idx ?_ | refine W.call ?_ | refine W.bi ?_ | refine W.tup ?_ | refine W.lst ?_ | refine W.comp ?_ | refine W.and_ ?_ | refine W.or_ ?_ | refine W.not_ ?_ | refine W.ite ?_ | refine W.neg ?_ | refine W.isN ?_ | refine W.notN ?_ | refine W.slice ?_ | refine W.rev ?_)
  | (refine gL ?_; first | refine o_add ?_ | refine o_sub ?_ | refine o_lenT ?_ | refine o_lenL ?_ | refine o_tupT ?_ | refine o_tupL ?_ | refine o_lstT ?_ | refine o_lstL ?_ | refine o_intI ?_ | refine o_revT ?_ | refine o_revL ?_ | refine o_isInt (by assumption) ?_ | refine o_isBool (by assumption) ?_ | refine o_isTuple (by assumption) ?_)
  | (refine gB ?_; first | refine o_lt ?_ | refine o_le ?_ | refine o_gt ?_ | refine o_ge ?_ | refine o_eqI ?_ | refine o_neI ?_)
  | refine Ws.cons ?_ | refine Ws.nil ?_
  | (refine gX ?_; first | refine X.set ?_ | refine X.ret ?_ | refine X.if_ ?_ | refine X.nil ?_ | refine X.own ?_ | refine X.par ?_ | refine X.expr ?_ | refine X.raise_ ?_ | refine X.frz ?_)
  | (refine gE ?_; first | refine tr_bl ?_ | refine ex_some (by with_unfolding_all exact rfl) ?_ | refine tr_int ?_ | refine ex_int ?_ | refine ex_lst ?_ | refine sq_tup ?_ | refine sq_lst ?_ | refine en_tup ?_ | refine en_lst ?_)
  | (refine gA ?_; first | exact rr | refine br_tt ?_ | refine br_ff ?_ | refine br_dec (fun _ => ?_) (fun _ => ?_) | refine br_t (by with_unfolding_all exact rfl) ?_ | refine br_f (by with_unfolding_all exact rfl) ?_ | refine br_not ?_ | refine br_eq (fun _ => ?_) (fun _ => ?_) | refine br_ne0 (fun _ => ?_) (fun _ => ?_))
  | exact rrF | refine t_one ?_ | refine Wt.nil ?_ | refine Wt.cons ?_ | refine WT.mk ?_ | refine Wi.seq ?_ | refine Wi.enum ?_ | refine Wi.zip ?_ | refine Wi.range0 ?_ | refine Wi.range ?_ | refine Wo.none ?_ | refine Wo.some ?_
  | refine toW ?_ | refine toWt ?_ | refine toWi ?_ | refine toXt ?_
  | refine thenP.next ?_ | refine turnP.next ?_ | refine thenP.ret ?_ | refine thenP.exc ?_ | refine turnP.ret ?_ | refine turnP.exc ?_)
theorem any_word_wp {k : Nat} {p : Int} {n : Nat} {g : G} {Q : D → G → Prop} (hk : 2 ≤ k) (hg : Fd g) (h0 : 0 < p) (h1 : p < 100) (hn : n ≤ 1000) (q : ∀ (xs : List Int) g', xs.length = n → Dig p xs → Fd g' → Q (Dw xs) g') : Ok (Fn B Z k i__law_any_word [.ptr 0, .int p, .int n] g) Q := by
  obtain ⟨k, rfl, hk'⟩ := lev hk
  have hbig : n ≤ 16777216 := Nat.le_trans hn (Nat.le_of_ble_eq_true rfl)
  rw [fnB (m := meanOf 6 m__law_any_word) (by decide) rfl]
  refine run_ok ?_
  unfold m__law_any_word
  repeat' fail
  refine draw_wp hk' hg (by decide) (by decide) (fun v g' a1 a2 hg' => ?_)
  repeat' fail
  refine ⟨n, rfl, hbig, ?_⟩
  refine c_invN Fd (fun d => ∃ v : Int, d = .int v ∧ 0 ≤ v ∧ v < p) _ (List.range n) hg' (fun x hx g2 hg2 => ⟨_, rfl, ?_⟩) (fun l g2 hl hlen hg2 => ?_)
  · repeat' fail
    · refine draw_wp hk' hg2 (by decide) (by decide) (fun w g3 b1 b2 hg3 => ?_)
      repeat' fail
      · exact draw_wp hk' hg3 h0 (by omega) (fun v g4 b1 b2 hg4 => ⟨⟨v, rfl, b1, b2⟩, hg4⟩)
      · exact ⟨⟨0, rfl, by omega, h0⟩, hg3⟩
    · exfalso; omega
    · exact draw_wp hk' hg2 h0 (by omega) (fun v g3 b1 b2 hg3 => ⟨⟨v, rfl, b1, b2⟩, hg3⟩)
  · repeat' fail
    obtain ⟨xs, rfl, h2, h3⟩ := allI l hl
    rw [List.length_range, List.length_map] at hlen
    exact q xs g2 hlen h3 hg2
theorem okW {n : Nat} {p : Int} {xs ys : List Int} (hl : ys.length = xs.length) (hy : Dig p ys) (s : Str) : firstBad [(isWord p xs.length (Dw ys), s)] = none := by
  rw [← hl, isWord_w hy]; rfl
theorem added_w {k : Nat} (hk : 8 ≤ k) {p : Int} {xs ys : List Int} (h : Wp p xs) (hl : ys.length = xs.length) (hy : Dig p ys) (g : G) : Fn B Z k i_added [.int p, Dw xs, Dw ys] g = .ok (Dw (addW p xs ys)) g := by
  rw [added_ok hk h (fits_Dw hy (by have := h.le; omega)), seqW_ok (okW (n := 0) hl hy _), intsOf_w]
theorem lessened_w {k : Nat} (hk : 8 ≤ k) {p : Int} {xs ys : List Int} (h : Wp p xs) (hl : ys.length = xs.length) (hy : Dig p ys) (g : G) : Fn B Z k i_lessened [.int p, Dw xs, Dw ys] g = .ok (Dw (subW p xs ys)) g := by
  rw [lessened_ok hk h (fits_Dw hy (by have := h.le; omega)), seqW_ok (okW (n := 0) hl hy _), intsOf_w]
theorem product_of_w {k : Nat} (hk : 8 ≤ k) {p : Int} {xs ys : List Int} (h : Wp p xs) (hl : ys.length = xs.length) (hy : Dig p ys) (g : G) : Fn B Z k i_product_of [.int p, Dw xs, Dw ys] g = .ok (Dw (prodW p xs ys)) g := by
  rw [product_of_ok hk h (fits_Dw hy (by have := h.le; omega)), seqW_ok (okW (n := 0) hl hy _), intsOf_w]
theorem sum_of_products_w {k : Nat} (hk : 8 ≤ k) {p : Int} {xs ys : List Int} (h : Wp p xs) (hl : ys.length = xs.length) (hy : Dig p ys) (g : G) : Fn B Z k i_sum_of_products [.int p, Dw xs, Dw ys] g = .ok (.int (dotW p xs ys)) g := by
  rw [sum_of_products_ok hk h (fits_Dw hy (by have := h.le; omega)), seqW_ok (okW (n := 0) hl hy _), intsOf_w]
theorem times_w {k : Nat} (hk : 7 ≤ k) {p c : Int} {xs : List Int} (h : Wp p xs) (h0 : 0 ≤ c) (h1 : c < p) (g : G) : Fn B Z k i_times [.int p, .int c, Dw xs] g = .ok (Dw (mulW p c xs)) g := by
  have hf : (D.int c).fits = true := by
    show Nat.blt c.natAbs (2 ^ 1900) = true
    exact Nat.ble_eq_true_of_le (Nat.le_trans (by have := h.le; omega : c.natAbs + 1 ≤ 14) (by decide +kernel))
  rw [times_ok hk h hf, seqW_ok (by simp [firstBad, isIdx, h0, h1])]; rfl
theorem cut_w {k : Nat} (hk : 7 ≤ k) {p : Int} {xs : List Int} {lot : List Nat} (h : Wp p xs) (hl : lot.Sublist (List.range xs.length)) (hn : xs.length ≤ 1000) (g : G) : Fn B Z k i_cut [Dw xs, Dn lot] g = .ok (Dw (cutW xs lot)) g := by
  obtain ⟨h1, h2, h3⟩ := sub_lot hl
  have hf : (Dn lot).fits = true := by
    have e : Dn lot = Dw (lot.map fun (i : Nat) => (i : Int)) := by
      show D.tup _ = D.tup _
      rw [List.map_map]; rfl
    rw [e]
    refine fits_w _ fun x hx => ?_
    obtain ⟨i, hi, rfl⟩ := List.mem_map.mp hx
    have := h3 i hi
    omega
  rw [cut_ok hk h hf, seqW_ok (by rw [h1]; rfl), h2]
theorem same_yes {k : Nat} (hk : 1 ≤ k) {d e : D} (he : e = d) (hs : d.small = true) (g : G) : Fn B Z k i__law_same [d, e] g = .ok (.bl true) g := by
  subst he
  obtain ⟨k, rfl, _⟩ := lev hk
  rw [fnB (m := sameMean) (by decide) rfl]
  exact sameMean_refl hs _ g

end SH.K01

set_option Elab.async false
set_option linter.all false
set_option maxRecDepth 1000000
set_option maxHeartbeats 4000000
namespace SH.K01
open PySem PySem.Spec PyProof.Rows L2 LamX SH
local macro_rules | `(tactic| fail) => `(tactic| with_reducible first
  | (refine gW ?_; first | refine W.slot (by with_unfolding_all exact rfl) ?_ | refine W.lit ?_ | refine W.cmp ?_ | refine W.bin ?_ | refine W.idx ?_ | refine W.call ?_ | refine W.bi ?_ | refine W.tup ?_ | refine W.lst ?_ | refine W.comp ?_ | refine W.and_ ?_ | refine W.or_ ?_ | refine W.not_ ?_ | refine W.ite ?_ | refine W.neg ?_ | refine W.isN ?_ | refine W.notN ?_ | refine W.slice ?_ | refine W.rev ?_)
  | (refine gL ?_; first | refine o_add ?_ | refine o_sub ?_ | refine o_lenT ?_ | refine o_lenL ?_ | refine o_tupT ?_ | refine o_tupL ?_ | refine o_lstT ?_ | refine o_lstL ?_ | refine o_intI ?_ | refine o_revT ?_ | refine o_revL ?_ | refine o_isInt (by assumption) ?_ | refine o_isBool (by assumption) ?_ | refine o_isTuple (by assumption) ?_)
  | (refine gB ?_; first | refine o_lt ?_ | refine o_le ?_ | refine o_gt ?_ | refine o_ge ?_ | refine o_eqI ?_ | refine o_neI ?_)
  | refine Ws.cons ?_ | refine Ws.nil ?_
  | (refine gX ?_; first | refine X.set ?_ | refine X.ret ?_ | refine X.if_ ?_ | refine X.nil ?_ | refine X.own' ?_ | refine X.par' ?_ | refine X.expr ?_ | refine X.raise_ ?_ | refine X.frz ?_)
  | (refine gE ?_; first | refine tr_bl ?_ | refine ex_put (by first | (simp only [putTg, putTup, putAll, List.length_cons, List.length_nil, Nat.reduceAdd, Nat.reduceBEq, BEq.rfl, if_true, ite_true, List.set_cons_zero, List.set_cons_succ]; exact rfl) | with_unfolding_all exact rfl) ?_ | refine ex_set (by first | (simp only [List.set_cons_zero, List.set_cons_succ]; exact rfl) | with_unfolding_all exact rfl) ?_ | refine ex_some (by with_unfolding_all exact rfl) ?_ | refine tr_int ?_ | refine ex_int ?_ | refine ex_lst ?_ | refine sq_tup ?_ | refine sq_lst ?_ | refine en_tup ?_ | refine en_lst ?_)
  | (refine gA ?_; first | exact rr | refine br_tt ?_ | refine br_ff ?_ | refine br_dec (fun _ => ?_) (fun _ => ?_) | refine br_t (by with_unfolding_all exact rfl) ?_ | refine br_f (by with_unfolding_all exact rfl) ?_ | refine br_not ?_ | refine br_eq (fun _ => ?_) (fun _ => ?_) | refine br_ne0 (fun _ => ?_) (fun _ => ?_))
  | exact rrF | refine t_one ?_ | refine Wt.nil ?_ | refine Wt.cons ?_ | refine WT.mk ?_ | refine Wi.seq ?_ | refine Wi.enum ?_ | refine Wi.zip ?_ | refine Wi.range0 ?_ | refine Wi.range ?_ | refine Wo.none ?_ | refine Wo.some ?_
  | refine toW ?_ | refine toWt ?_ | refine toWi ?_ | refine toXt ?_
  | refine thenP.next ?_ | refine turnP.next ?_ | refine thenP.ret ?_ | refine thenP.exc ?_ | refine turnP.ret ?_ | refine turnP.exc ?_)
theorem nzF {p : Int} {xs : List Int} (h : Dig p xs) (n : Nat) : posF (fun x => decide (0 < x)) n xs = posF (fun x => !(x == 0)) n xs :=
  posF_congr xs n fun x hx => by
    have := (h x hx).1
    by_cases e : x = 0
    · subst e; rfl
    · have : 0 < x := by omega
      simp [this, e]
theorem sums_right_wp {k : Nat} (hk : 12 ≤ k) {p : Int} {n : Nat} {g : G} (hg : Fd g) (hp : isPrm (.int p) = true) (hn0 : 1 ≤ n) (hn : n ≤ 40) : Ok (Fn B Z k i__law_are_sums_right [.ptr 0, .int p, .int n] g) (fun d g' => d = .bl true ∧ Fd g') := by
  obtain ⟨k, rfl, hk'⟩ := lev hk
  have p0 : 0 < p := by rcases prm_is hp with h | h | h | h | h | h <;> omega
  have p1 : p ≤ 13 := by rcases prm_is hp with h | h | h | h | h | h <;> omega
  have hbig : n ≤ 16777216 := Nat.le_trans hn (Nat.le_of_ble_eq_true rfl)
  rw [fnB (m := meanOf 12 m__law_are_sums_right) (by decide) rfl]
  refine run_ok ?_
  unfold m__law_are_sums_right
  refine X.nrm (by simp only [startS, List.map_cons, List.map_nil, List.length_cons, List.length_nil, Nat.reduceAdd, Nat.reduceSub, List.replicate_succ, List.replicate_zero, List.cons_append, List.nil_append]; exact rfl) ?_
  repeat' fail
  refine any_word_wp (by omega) hg p0 (by omega) (by omega) (fun xs g1 hx dx hg1 => ?_)
  repeat' fail
  refine any_word_wp (by omega) hg1 p0 (by omega) (by omega) (fun ys g2 hy dy hg2 => ?_)
  repeat' fail
  refine draw_wp (by omega) hg2 p0 (by omega) (fun f g3 f0 f1 hg3 => ?_)
  repeat' fail
  have wx : Wp p xs := ⟨hp, dx, by omega⟩
  have wy : Wp p ys := ⟨hp, dy, by omega⟩
  refine ⟨n, rfl, hbig, ?_⟩
  refine c_sub Fd _ (fun i => .int (i : Nat)) (List.range n) hg3 (fun x hx g2 hg2 => ⟨_, rfl, ?_⟩) (fun spots g4 hsp hg4 => ?_)
  · repeat' fail
    refine draw_wp (by omega) hg2 (by decide) (by decide) (fun v g3 b1 b2 hg3 => ?_)
    repeat' fail
    · refine ⟨hg3, fun _ => ?_⟩
      repeat' fail
    · exact ⟨hg3, fun h => by cases h⟩
  have nl : spots.length ≤ n := by have := hsp.length_le; simpa using this
  have spl := (sub_lot hsp).2.2
  have gw : ∀ zs : List Int, zs.length ≤ n → Dig p zs → Gb 100 80000 2 (Dw zs) := fun zs h1 h2 => (Gb.word (N := 100) (c := 80000) (fun z hz => by have := h2 z hz; omega) (by omega)).mono (Nat.le_refl _) (Nat.le_refl _) (by decide)
  have gn : ∀ l : List Nat, l.length ≤ n → (∀ i ∈ l, i < n) → Gb 100 80000 2 (Dn l) := fun l h1 h2 => (Gb.nats (N := 100) (c := 80000) (fun i hi => by have := h2 i hi; omega) (by omega)).mono (Nat.le_refl _) (Nat.le_refl _) (by decide)
  have gi : ∀ i : Int, i.natAbs ≤ 100 → Gb 100 80000 2 (.int i) := fun i h => Gb.num h (by decide)
  have ksm : (D.lst [Dw xs, Dw ys, Dn spots]).small = true := (Gb.list (all_consD (gw xs (by omega) dx) (all_consD (gw ys (by omega) dy) (all_consD (gn spots nl spl) all_nilD)))).small (Nat.le_trans (by decide) BIG_ge) (by show 3 * (80000 + 2) + 3 ≤ 16777216; decide) (by decide)
  repeat' fail
  refine o_repr ksm ?_
  repeat' fail
  refine ok_of (added_w (by omega) wx (by omega) dy _) ?_
  repeat' fail
  refine ok_of (lessened_w (by omega) wx (by omega) dy _) ?_
  repeat' fail
  refine ok_of (product_of_w (by omega) wx (by omega) dy _) ?_
  repeat' fail
  refine ok_of (times_w (by omega) wx f0 f1 _) ?_
  repeat' fail
  refine ok_of (sum_of_products_w (by omega) wx (by omega) dy _) ?_
  have xg : ∀ i, i < n → (xs.map D.int)[i]? = some (.int (xs[i]?.getD 0)) := fun i hi => by rw [List.getElem?_map, List.getElem?_eq_getElem (by omega : i < xs.length)]; rfl
  have yg : ∀ i, i < n → (ys.map D.int)[i]? = some (.int (ys[i]?.getD 0)) := fun i hi => by rw [List.getElem?_map, List.getElem?_eq_getElem (by omega : i < ys.length)]; rfl
  have xm : ∀ i, i < n → (xs[i]?.getD 0).natAbs < 18446744073709551616 := fun i hi => by
    rw [List.getElem?_eq_getElem (by omega : i < xs.length)]
    exact wx.sm _ (List.getElem_mem _)
  have ym : ∀ i, i < n → (ys[i]?.getD 0).natAbs < 18446744073709551616 := fun i hi => by
    rw [List.getElem?_eq_getElem (by omega : i < ys.length)]
    exact wy.sm _ (List.getElem_mem _)
  repeat' fail
  refine o_addL (Nat.le_of_ble_eq_true rfl) ?_
  repeat' fail
  refine ⟨n, rfl, hbig, ?_⟩
  refine c_map _ (List.range n) (fun i => .int ((xs[i]?.getD 0 + ys[i]?.getD 0) % p)) (fun i hi => ⟨_, rfl, ?_⟩) ?_
  · have hi := List.mem_range.mp hi
    repeat' fail
    refine o_idxT (xg i hi) ?_
    repeat' fail
    refine o_idxT (yg i hi) ?_
    repeat' fail
    exact o_mod p0 ⟨rfl, rfl⟩
  rw [range_add hx hy]
  repeat' fail
  refine ⟨n, rfl, hbig, ?_⟩
  refine c_map _ (List.range n) (fun i => .int ((xs[i]?.getD 0 - ys[i]?.getD 0) % p)) (fun i hi => ⟨_, rfl, ?_⟩) ?_
  · have hi := List.mem_range.mp hi
    repeat' fail
    refine o_idxT (xg i hi) ?_
    repeat' fail
    refine o_idxT (yg i hi) ?_
    repeat' fail
    exact o_mod p0 ⟨rfl, rfl⟩
  rw [range_sub hx hy]
  repeat' fail
  refine o_addL (Nat.le_of_ble_eq_true rfl) ?_
  repeat' fail
  refine ⟨n, rfl, hbig, ?_⟩
  refine c_map _ (List.range n) (fun i => .int ((xs[i]?.getD 0 * ys[i]?.getD 0) % p)) (fun i hi => ⟨_, rfl, ?_⟩) ?_
  · have hi := List.mem_range.mp hi
    repeat' fail
    refine o_idxT (xg i hi) ?_
    repeat' fail
    refine o_idxT (yg i hi) ?_
    refine o_mul (.inl (xm i hi)) ?_
    repeat' fail
    exact o_mod p0 ⟨rfl, rfl⟩
  rw [range_prod hx hy]
  repeat' fail
  refine o_addL (Nat.le_of_ble_eq_true rfl) ?_
  repeat' fail
  refine ⟨n, rfl, hbig, ?_⟩
  refine c_map _ (List.range n) (fun i => .int ((f * xs[i]?.getD 0) % p)) (fun i hi => ⟨_, rfl, ?_⟩) ?_
  · have hi := List.mem_range.mp hi
    repeat' fail
    refine o_idxT (xg i hi) ?_
    refine o_mul (.inr (xm i hi)) ?_
    repeat' fail
    exact o_mod p0 ⟨rfl, rfl⟩
  rw [range_mul hx]
  repeat' fail
  refine o_addL (Nat.le_of_ble_eq_true rfl) ?_
  repeat' fail
  refine ⟨n, rfl, hbig, ?_⟩
  refine c_map _ (List.range n) (fun i => .int (xs[i]?.getD 0 * ys[i]?.getD 0)) (fun i hi => ⟨_, rfl, ?_⟩) ?_
  · have hi := List.mem_range.mp hi
    repeat' fail
    refine o_idxT (xg i hi) ?_
    repeat' fail
    refine o_idxT (yg i hi) ?_
    exact o_mul (.inl (xm i hi)) ⟨rfl, rfl⟩
  rw [zip_range (fun q => D.int (q.1 * q.2)) xs ys n hx hy]
  repeat' fail
  refine o_sum ?_
  repeat' fail
  refine o_mod p0 ?_
  repeat' fail
  refine o_addL (Nat.le_of_ble_eq_true rfl) ?_
  repeat' fail
  refine ok_of (lot_of_ok (by omega) wx _) ?_
  repeat' fail
  refine ok_of (weight_of_ok (by omega) wx _) ?_
  repeat' fail
  refine ok_of (cut_w (by omega) wx (by rw [hx]; exact hsp) (by omega) _) ?_
  repeat' fail
  refine o_addL (Nat.le_of_ble_eq_true rfl) ?_
  repeat' fail
  refine ⟨n, rfl, hbig, ?_⟩
  refine c_pure _ (List.range n) (fun i => !(xs[i]?.getD 0 == 0)) (fun i => .int (i : Nat)) (fun i hi => ⟨_, rfl, ?_, fun _ => ?_⟩) ?_
  · have hi := List.mem_range.mp hi
    repeat' fail
    refine o_idxT (xg i hi) ?_
    repeat' fail
  · repeat' fail
  rw [posF_rangeN (P := fun x => !(x == 0)) hx, ← nzF dx]
  repeat' fail
  refine ⟨n, rfl, hbig, ?_⟩
  refine c_pure _ (List.range n) (fun i => !(xs[i]?.getD 0 == 0)) (fun i => .int (i : Nat)) (fun i hi => ⟨_, rfl, ?_, fun _ => ?_⟩) ?_
  · have hi := List.mem_range.mp hi
    repeat' fail
    refine o_idxT (xg i hi) ?_
    repeat' fail
  · repeat' fail
  rw [posF_rangeN (P := fun x => !(x == 0)) hx, ← nzF dx]
  repeat' fail
  rw [List.length_map]
  repeat' fail
  refine o_addL (Nat.le_of_ble_eq_true rfl) ?_
  repeat' fail
  refine c_map _ spots (fun i => .int (xs[i]?.getD 0)) (fun i hi => ⟨_, rfl, ?_⟩) ?_
  · have hi := spl i hi
    repeat' fail
    exact o_idxT (xg i hi) ⟨rfl, rfl⟩
  rw [lot_cut]
  repeat' fail
  refine o_addL (Nat.le_of_ble_eq_true rfl) ?_
  repeat' fail
  refine ok_of (added_w (by omega) wx (by omega) dy _) ?_
  repeat' fail
  have wa : Wp p (addW p xs ys) := ⟨hp, addW_dig p0, by rw [addW_len hx hy]; omega⟩
  have back := lessened_w (k := k) (by omega) wa (ys := ys) (by rw [addW_len hx hy, hy]) dy g4
  rw [sub_add (by rw [hx, hy]) dx] at back
  refine ok_of back ?_
  repeat' fail
  refine ok_of (added_w (by omega) wx (by omega) dy _) ?_
  repeat' fail
  refine o_addL (Nat.le_of_ble_eq_true rfl) ?_
  repeat' fail
  refine o_addL (Nat.le_of_ble_eq_true rfl) ?_
  repeat' fail
  refine o_slL_to (j := 1) ?_
  refine o_addL (Nat.le_of_ble_eq_true rfl) ?_
  repeat' fail
  refine ok_of (cut_w (by omega) wy (by rw [hy]; exact hsp) (by omega) _) ?_
  repeat' fail
  refine ok_of (times_w (by omega) wy f0 f1 _) ?_
  repeat' fail
  refine o_addL (Nat.le_of_ble_eq_true rfl) ?_
  repeat' fail
  refine c_map _ spots (fun i => .int (ys[i]?.getD 0)) (fun i hi => ⟨_, rfl, ?_⟩) ?_
  · have hi := spl i hi
    repeat' fail
    exact o_idxT (yg i hi) ⟨rfl, rfl⟩
  rw [lot_cut]
  repeat' fail
  refine ⟨n, rfl, hbig, ?_⟩
  refine c_map _ (List.range n) (fun i => .int ((f * ys[i]?.getD 0) % p)) (fun i hi => ⟨_, rfl, ?_⟩) ?_
  · have hi := List.mem_range.mp hi
    repeat' fail
    refine o_idxT (yg i hi) ?_
    refine o_mul (.inr (ym i hi)) ?_
    repeat' fail
    exact o_mod p0 ⟨rfl, rfl⟩
  rw [range_mul hy]
  repeat' fail
  refine o_addL (Nat.le_of_ble_eq_true rfl) ?_
  repeat' fail
  have hpx : ∀ i ∈ posF (fun x => decide (0 < x)) 0 xs, i < n := fun i hi => by have := (posF_lt xs 0 i hi).2.1; omega
  have hpl : (posF (fun x => decide (0 < x)) 0 xs).length ≤ n := posF_len xs n hx
  have dd := dotW_dig (xs := xs) (ys := ys) p0
  refine ok_of (same_yes (by omega) rfl (Gb.small (Gb.list (N := 100) (c := 80000) (t := 2) ?_) (Nat.le_trans (by decide) BIG_ge) (by show 12 * (80000 + 2) + 3 ≤ 16777216; decide) (by decide)) _) ?_
  · refine all_consD (gw _ (Nat.le_of_eq (addW_len hx hy)) (addW_dig p0)) (all_consD (gw _ (Nat.le_of_eq (subW_len hx hy)) (subW_dig p0)) (all_consD (gw _ (Nat.le_of_eq (prodW_len hx hy)) (prodW_dig p0)) (all_consD (gw _ (by rw [mulW_len]; omega) (mulW_dig p0)) (all_consD (gi _ (by omega)) (all_consD (gn _ hpl hpx) (all_consD (gi _ (by omega)) (all_consD (gw _ (by rw [cutW_len]; exact nl) (cutW_dig p0 dx)) (all_consD (gw xs (by omega) dx) (all_consD (gw _ (Nat.le_of_eq (addW_len hx hy)) (addW_dig p0)) (all_consD (gw _ (by rw [cutW_len]; exact nl) (cutW_dig p0 dy)) (all_consD (gw _ (by rw [mulW_len]; omega) (mulW_dig p0)) all_nilD)))))))))))
  refine tr_bl (br_tt ?_)
  repeat' fail
  refine o_repr ksm ?_
  repeat' fail
  exact o_eqS ⟨rfl, hg4⟩

end SH.K01

set_option Elab.async false
set_option linter.all false
set_option maxRecDepth 1000000
set_option maxHeartbeats 4000000
namespace SH.K01
open PySem PySem.Spec PyProof.Rows L2 LamX SH
local macro_rules | `(tactic| fail) => `(tactic| with_reducible first
  | (refine gW ?_; first | refine W.slot (by with_unfolding_all exact rfl) ?_ | refine W.lit ?_ | refine W.cmp ?_ | refine W.bin ?_ | refine W.idx ?_ | refine W.call ?_ | refine W.bi ?_ | refine W.tup ?_ | refine W.lst ?_ | refine W.comp ?_ | refine W.and_ ?_ | refine W.or_ ?_ | refine W.not_ ?_ | refine W.ite ?_ | refine W.neg ?_ | refine W.isN ?_ | refine W.notN ?_ | refine W.slice ?_ | refine W.rev ?_)
  | (refine gL ?_; first | refine o_add ?_ | refine o_sub ?_ | refine o_lenT ?_ | refine o_lenL ?_ | refine o_tupT ?_ | refine o_tupL ?_ | refine o_lstT ?_ | refine o_lstL ?_ | refine o_intI ?_ | refine o_revT ?_ | refine o_revL ?_ | refine o_isInt (by assumption) ?_ | refine o_isBool (by assumption) ?_ | refine o_isTuple (by assumption) ?_)
  | (refine gB ?_; first | refine o_lt ?_ | refine o_le ?_ | refine o_gt ?_ | refine o_ge ?_ | refine o_eqI ?_ | refine o_neI ?_)
  | refine Ws.cons ?_ | refine Ws.nil ?_
  | (refine gX ?_; first | refine X.set ?_ | refine X.ret ?_ | refine X.if_ ?_ | refine X.nil ?_ | refine X.own' ?_ | refine X.par' ?_ | refine X.expr ?_ | refine X.raise_ ?_ | refine X.frz ?_)
  | (refine gE ?_; first | refine tr_bl ?_ | refine ex_put (by first | (simp only [putTg, putTup, putAll, List.length_cons, List.length_nil, Nat.reduceAdd, Nat.reduceBEq, BEq.rfl, if_true, ite_true, List.set_cons_zero, List.set_cons_succ]; exact rfl) | with_unfolding_all exact rfl) ?_ | refine ex_set (by first | (simp only [List.set_cons_zero, List.set_cons_succ]; exact rfl) | with_unfolding_all exact rfl) ?_ | refine ex_some (by with_unfolding_all exact rfl) ?_ | refine tr_int ?_ | refine ex_int ?_ | refine ex_lst ?_ | refine sq_tup ?_ | refine sq_lst ?_ | refine en_tup ?_ | refine en_lst ?_)
  | (refine gA ?_; first | exact rr | refine br_tt ?_ | refine br_ff ?_ | refine br_dec (fun _ => ?_) (fun _ => ?_) | refine br_t (by with_unfolding_all exact rfl) ?_ | refine br_f (by with_unfolding_all exact rfl) ?_ | refine br_not ?_ | refine br_eq (fun _ => ?_) (fun _ => ?_) | refine br_ne0 (fun _ => ?_) (fun _ => ?_))
  | exact rrF | refine t_one ?_ | refine Wt.nil ?_ | refine Wt.cons ?_ | refine WT.mk ?_ | refine Wi.seq ?_ | refine Wi.enum ?_ | refine Wi.zip ?_ | refine Wi.range0 ?_ | refine Wi.range ?_ | refine Wo.none ?_ | refine Wo.some ?_
  | refine toW ?_ | refine toWt ?_ | refine toWi ?_ | refine toXt ?_
  | refine thenP.next ?_ | refine turnP.next ?_ | refine thenP.ret ?_ | refine thenP.exc ?_ | refine turnP.ret ?_ | refine turnP.exc ?_)
theorem said_seq {k : Nat} (hk : 1 ≤ k) {t : G → Res D} {cs : List (Bool × Str)} {d : D} {g : G} (h : t g = seqW cs d g) : (Fn B Z k).hear 0 t g = .ok (saidD cs d) g := by
  obtain ⟨k, rfl, _⟩ := lev hk
  unfold saidD
  cases e : firstBad cs with
  | none => exact said_ok (h.trans (seqW_ok e))
  | some n => exact said_use (h.trans (seqW_bad e))
theorem W.saidC {k : Nat} {f : Nat} {pat : List (Nat ⊕ D)} {es : List ME} {S : Sl} {g : G} {Q : D → G → Prop} {cs : List (Bool × Str)} {d : D} {ds ds' : List D} (h : Ws (lowF (Fn B Z (k + 2))) es (datS S) g (fun l g' => l = ds ∧ g' = g)) (hp : pickAll ds pat = some ds') (e : Fn B Z k f ds' g = seqW cs d g) (q : Q (saidD cs d) g) : W (Fn B Z (k + 2)) (.said 0 (.call f pat es)) S g Q := by
  refine W.said (ok_of (said_seq (by omega) (call_want h hp ?_)) q)
  rw [low_call]; exact e
theorem kinds_right_wp {k : Nat} (hk : 14 ≤ k) {p : Int} {n : Nat} {d : D} {g : G} {c : Nat} (hp : isPrm (.int p) = true) (hn0 : 1 ≤ n) (hn : n ≤ 40) (hd : Gb BIG c 12 d) (hc : c ≤ 1000000) (ht : tl d < 64) : Ok (Fn B Z k i__law_are_kinds_right [.int p, .int n, d] g) (fun x g' => x = .bl true ∧ g' = g) := by
  have dm : Dm d := hd.dm (Nat.le_refl _) (by omega) (by decide)
  have hf := dm.fit
  obtain ⟨k, rfl⟩ : ∃ m, k = m + 2 + 1 := ⟨k - 3, by omega⟩
  have p0 : 0 < p := by rcases prm_is hp with h | h | h | h | h | h <;> omega
  have p1 : p ≤ 13 := by rcases prm_is hp with h | h | h | h | h | h <;> omega
  have ksm : d.small = true := hd.small (Nat.le_refl _) (by omega) (by decide)
  have wz : Wp p (List.replicate n 0) := ⟨hp, zeros_dig p0 n, by simp; omega⟩
  have zl : (List.replicate n (0 : Int)).length = n := by simp
  rw [fnB (k := k + 2) (m := lamMean 11 m__law_are_kinds_right) (by decide) rfl]
  unfold lamMean
  rw [if_neg (by rw [Fn_lev]; omega)]
  refine run_ok ?_
  unfold m__law_are_kinds_right
  refine X.nrm (by simp only [startS, List.map_cons, List.map_nil, List.length_cons, List.length_nil, Nat.reduceAdd, Nat.reduceSub, List.replicate_succ, List.replicate_zero, List.cons_append, List.nil_append]; exact rfl) ?_
  repeat' fail
  refine o_repr ksm ?_
  repeat' fail
  refine ok_of (law_is_number_ok (by omega) hf _) ?_
  repeat' fail
  refine ok_of (is_integer_ok (by omega) hf _) ?_
  repeat' fail
  refine ok_of (is_number_ok (by omega) hf _) ?_
  repeat' fail
  refine ok_of (is_digit_ok (by omega) hf _) ?_
  repeat' fail
  refine ok_of (is_word_ok (by omega) hf _) ?_
  repeat' fail
  refine ok_of (is_lot_ok (by omega) hf _) ?_
  repeat' fail
  refine o_addL (Nat.le_of_ble_eq_true rfl) ?_
  refine ex_put (by first | (simp only [putTg, List.set_cons_zero, List.set_cons_succ]; exact rfl)) ?_
  refine X.set (W.lst (Ws.cons (W.andB (isI0 d) (!isB0 d) ?_ ?_ (Ws.cons (W.slot (by with_unfolding_all exact rfl) (Ws.cons (W.andB (isNum d) (isIdx p d) ?_ ?_ (Ws.nil ?_))))))))
  · repeat' fail
  · intro _; repeat' fail
  · repeat' fail
  · intro h
    cases d <;> first | (cases h; done) | skip
    repeat' fail
    rename_i i
    refine ⟨?_, rfl⟩
    show D.bl (decide (i < p)) = D.bl (decide (0 ≤ i) && decide (i < p))
    rw [show decide (0 ≤ i) = true from h]; rfl
  have e1 : (isNum d && isIdx p d) = isIdx p d := by
    cases h : isIdx p d with
    | false => simp
    | true => rw [isIdx_num h]; rfl
  rw [e1]
  repeat' fail
  refine ok_of (law_is_word_ok (by omega) dm _) ?_
  repeat' fail
  refine ok_of (law_is_lot_ok (by omega) dm ht _) ?_
  repeat' fail
  refine o_addL (Nat.le_of_ble_eq_true rfl) ?_
  repeat' fail
  have gb : ∀ b : Bool, Gb 100 80000 2 (.bl b) := fun b => ⟨rfl, by cases b <;> decide +kernel, Nat.zero_le _⟩
  refine ok_of (same_yes (by omega) rfl (Gb.small (Gb.list (N := 100) (c := 80000) (t := 2) (all_consD (gb _) (all_consD (gb _) (all_consD (gb _) (all_consD (gb _) (all_consD (gb _) all_nilD)))))) (Nat.le_trans (by decide) BIG_ge) (by show 5 * (80000 + 2) + 3 ≤ 16777216; decide) (by decide)) _) ?_
  repeat' fail
  refine o_mulT (by omega) (by omega) (by decide) ?_
  rw [show ((n : Int)).toNat = n by omega, reps0]
  have f12 : (n : Int) = ((List.replicate n (0 : Int)).length : Nat) := by rw [zl]
  generalize hA1 : saidD [(isWord p n d, "other")] (Dw (addW p (List.replicate n 0) (intsOf d))) = A1
  generalize hA2 : saidD [(isWord p n d, "other")] (Dw (prodW p (List.replicate n 0) (intsOf d))) = A2
  generalize hA3 : saidD [(isLot n d, "lot")] (Dw (cutW (List.replicate n 0) (natsOf d))) = A3
  generalize hA4 : saidD [(isIdx p d, "digit")] (Dw (mulW p (intOf d) (List.replicate n 0))) = A4
  have t1 := added_ok (k := k) (by omega) wz hf g
  have t2 := product_of_ok (k := k) (by omega) wz hf g
  have t3 := cut_ok (k := k) (by omega) wz hf g
  have t4 := times_ok (k := k) (by omega) wz hf g
  rw [zl] at t1 t2 t3
  repeat' fail
  refine W.saidC (k := k) (ds := [.int p, Dw (List.replicate n 0), d]) ?_ rfl t1 ?_
  · repeat' fail
  rw [hA1]
  repeat' fail
  refine X.app' (by with_unfolding_all exact rfl) ?_
  refine W.saidC (k := k) (ds := [d, Dw (List.replicate n 0), .int p]) ?_ rfl t2 ?_
  · repeat' fail
  rw [hA2]
  refine ⟨show 1 < sizeLine by rw [sizeLine_eq]; decide, ex_set (by simp only [List.set_cons_zero, List.set_cons_succ]; exact rfl) ?_⟩
  refine X.own' (W.iteV (isWord p n d) (.lst [A1, A2]) ?_ (fun h => ?_) (fun h => ?_) ⟨_, rfl, ?_⟩)
  · repeat' fail
  · obtain ⟨xs, rfl, h1, h2⟩ := isWord_is h
    have hl : xs.length = n := by omega
    rw [h, saidD_ok rfl, intsOf_w] at hA1 hA2
    rw [← hl, add_zeros h2] at hA1
    rw [← hl, prod_zeros, hl] at hA2
    subst hA1 hA2
    repeat' fail
  · rw [h, saidD_bad rfl] at hA1 hA2
    subst hA1 hA2
    repeat' fail
    refine Ok.lift (a := .lst [.tup [.str "use", .str "other", .int (-1)], .tup [.str "use", .str "other", .int (-1)]]) (by rfl) ⟨rfl, rfl⟩
  repeat' fail
  refine X.app' (by with_unfolding_all exact rfl) ?_
  refine W.saidC (k := k) (ds := [Dw (List.replicate n 0), d]) ?_ rfl t3 ?_
  · repeat' fail
  rw [hA3]
  refine ⟨show 2 < sizeLine by rw [sizeLine_eq]; decide, ex_set (by simp only [List.set_cons_zero, List.set_cons_succ]; exact rfl) ?_⟩
  refine X.app' (by with_unfolding_all exact rfl) ?_
  refine W.iteV (isLot n d) A3 ?_ (fun h => ?_) (fun h => ?_) ?_
  · repeat' fail
    exact o_idxL (i := 4) (d := .bl (isLot n d)) rfl ⟨rfl, rfl⟩
  · obtain ⟨e2, e3⟩ := lot_is h
    rw [h, saidD_ok rfl, cut_zeros] at hA3
    have hlen : tl d = (natsOf d).length := (congrArg tl e2).trans (by show (List.map _ _).length = _; rw [List.length_map])
    rw [← hlen] at hA3
    subst hA3
    obtain ⟨l, rfl⟩ : ∃ l, d = .tup l := ⟨_, e2⟩
    have ht : l.length < 64 := ht
    repeat' fail
    refine o_mulT (by omega) (by omega) (by decide) ?_
    rw [show ((l.length : Nat) : Int).toNat = l.length by omega, reps0]
    repeat' fail
    exact ⟨rfl, rfl⟩
  · rw [h, saidD_bad rfl] at hA3
    subst hA3
    repeat' fail
  refine ⟨show 2 < sizeLine by rw [sizeLine_eq]; decide, ex_set (by simp only [List.set_cons_zero, List.set_cons_succ]; exact rfl) ?_⟩
  refine X.app' (by with_unfolding_all exact rfl) ?_
  refine W.saidC (k := k) (ds := [.int p, d, Dw (List.replicate n 0)]) ?_ rfl t4 ?_
  · repeat' fail
  rw [hA4]
  refine ⟨show 3 < sizeLine by rw [sizeLine_eq]; decide, ex_set (by simp only [List.set_cons_zero, List.set_cons_succ]; exact rfl) ?_⟩
  refine X.app' (by with_unfolding_all exact rfl) ?_
  refine W.iteV (isIdx p d) A4 ?_ (fun h => ?_) (fun h => ?_) ?_
  · repeat' fail
    exact o_idxL (i := 2) (d := .bl (isIdx p d)) rfl ⟨rfl, rfl⟩
  · rw [h, saidD_ok rfl, mul_zeros] at hA4
    subst hA4
    repeat' fail
  · rw [h, saidD_bad rfl] at hA4
    subst hA4
    repeat' fail
  refine ⟨show 3 < sizeLine by rw [sizeLine_eq]; decide, ex_set (by simp only [List.set_cons_zero, List.set_cons_succ]; exact rfl) ?_⟩
  repeat' fail
  have zw : ∀ m, m ≤ 64 → Gb 100 200000 2 (Dw (List.replicate m 0)) := fun m hm => (Gb.word (N := 100) (c := 200000) (fun z hz => by rw [List.eq_of_mem_replicate hz]; decide) (by rw [List.length_replicate]; omega)).mono (Nat.le_refl _) (Nat.le_refl _) (by decide)
  have g1 : Gb 100 210000 3 A1 := by
    rw [← hA1]
    refine saidD_gb (by decide +kernel) (by decide +kernel) fun h => ?_
    obtain ⟨xs, rfl, h1, h2⟩ := isWord_is h
    have hl : xs.length = n := by omega
    rw [intsOf_w, ← hl, add_zeros h2]
    exact (Gb.word (N := 100) (c := 200000) (fun z hz => by have := h2 z hz; omega) (by omega)).mono (Nat.le_refl _) (Nat.le_refl _) (by decide)
  have g2 : Gb 100 210000 3 A2 := by
    rw [← hA2]
    refine saidD_gb (by decide +kernel) (by decide +kernel) fun h => ?_
    obtain ⟨xs, rfl, h1, h2⟩ := isWord_is h
    have hl : xs.length = n := by omega
    rw [intsOf_w, ← hl, prod_zeros]
    exact zw _ (by omega)
  have g3 : Gb 100 210000 3 A3 := by
    rw [← hA3]
    refine saidD_gb (by decide +kernel) (by decide +kernel) fun h => ?_
    have e2 := (lot_is h).1
    have hlen : tl d = (natsOf d).length := (congrArg tl e2).trans (by show (List.map _ _).length = _; rw [List.length_map])
    rw [cut_zeros]
    exact zw _ (by omega)
  have g4 : Gb 100 210000 3 A4 := by
    rw [← hA4]
    refine saidD_gb (by decide +kernel) (by decide +kernel) fun h => ?_
    rw [mul_zeros]
    exact zw _ (by omega)
  refine ok_of (same_yes (by omega) rfl (Gb.small (Gb.list (l := [A1, A2, A3, A4]) (N := 100) (c := 210000) (t := 3) (all_consD g1 (all_consD g2 (all_consD g3 (all_consD g4 all_nilD))))) (Nat.le_trans (by decide) BIG_ge) (by show 4 * (210000 + 2) + 3 ≤ 16777216; decide) (by decide)) _) ?_
  refine tr_bl (br_tt ?_)
  repeat' fail
  refine o_repr ksm ?_
  repeat' fail
  exact o_eqS ⟨rfl, rfl⟩

end SH.K01

set_option Elab.async false
set_option linter.all false
set_option maxRecDepth 1000000
set_option maxHeartbeats 4000000
namespace SH.K01
open PySem PySem.Spec PyProof.Rows L2 LamX SH
local macro_rules | `(tactic| fail) => `(tactic| with_reducible first
  | (refine gW ?_; first | refine W.slot (by with_unfolding_all exact rfl) ?_ | refine W.lit ?_ | refine W.cmp ?_ | refine W.bin ?_ | refine W.idx ?_ | refine W.call ?_ | refine W.bi ?_ | refine W.tup ?_ | refine W.lst ?_ | refine W.comp ?_ | refine W.and_ ?_ | refine W.or_ ?_ | refine W.not_ ?_ | refine W.ite ?_ | refine W.neg ?_ | refine W.isN ?_ | refine W.notN ?_ | refine W.slice ?_ | refine W.rev ?_)
  | (refine gL ?_; first | refine o_add ?_ | refine o_sub ?_ | refine o_lenT ?_ | refine o_lenL ?_ | refine o_tupT ?_ | refine o_tupL ?_ | refine o_lstT ?_ | refine o_lstL ?_ | refine o_intI ?_ | refine o_revT ?_ | refine o_revL ?_ | refine o_isInt (by assumption) ?_ | refine o_isBool (by assumption) ?_ | refine o_isTuple (by assumption) ?_)
  | (refine gB ?_; first | refine o_lt ?_ | refine o_le ?_ | refine o_gt ?_ | refine o_ge ?_ | refine o_eqI ?_ | refine o_neI ?_)
  | refine Ws.cons ?_ | refine Ws.nil ?_
  | (refine gX ?_; first | refine X.set ?_ | refine X.ret ?_ | refine X.if_ ?_ | refine X.nil ?_ | refine X.own' ?_ | refine X.par' ?_ | refine X.expr ?_ | refine X.raise_ ?_ | refine X.frz ?_)
  | (refine gE ?_; first | refine tr_bl ?_ | refine ex_put (by first | (simp only [putTg, putTup, putAll, List.length_cons, List.length_nil, Nat.reduceAdd, Nat.reduceBEq, BEq.rfl, if_true, ite_true, List.set_cons_zero, List.set_cons_succ]; exact rfl) | with_unfolding_all exact rfl) ?_ | refine ex_set (by first | (simp only [List.set_cons_zero, List.set_cons_succ]; exact rfl) | with_unfolding_all exact rfl) ?_ | refine ex_some (by with_unfolding_all exact rfl) ?_ | refine tr_int ?_ | refine ex_int ?_ | refine ex_lst ?_ | refine sq_tup ?_ | refine sq_lst ?_ | refine en_tup ?_ | refine en_lst ?_)
  | (refine gA ?_; first | exact rr | refine br_tt ?_ | refine br_ff ?_ | refine br_dec (fun _ => ?_) (fun _ => ?_) | refine br_t (by with_unfolding_all exact rfl) ?_ | refine br_f (by with_unfolding_all exact rfl) ?_ | refine br_not ?_ | refine br_eq (fun _ => ?_) (fun _ => ?_) | refine br_ne0 (fun _ => ?_) (fun _ => ?_))
  | exact rrF | refine t_one ?_ | refine Wt.nil ?_ | refine Wt.cons ?_ | refine WT.mk ?_ | refine Wi.seq ?_ | refine Wi.enum ?_ | refine Wi.zip ?_ | refine Wi.range0 ?_ | refine Wi.range ?_ | refine Wo.none ?_ | refine Wo.some ?_
  | refine toW ?_ | refine toWt ?_ | refine toWi ?_ | refine toXt ?_
  | refine thenP.next ?_ | refine turnP.next ?_ | refine thenP.ret ?_ | refine thenP.exc ?_ | refine turnP.ret ?_ | refine turnP.exc ?_)
def NM : Nat := 10 ^ 59 + 100
theorem NM_le : NM + 1000 ≤ BIG := by decide +kernel
theorem NM_ge : 100 ≤ NM := by decide +kernel
theorem pow59 : ((10 : Int) ^ 59).natAbs ≤ NM := by decide +kernel
theorem law_wp {ns : List Int} (h : ns.length ≤ 63) : Ok (Fn B Z 20 i_law [.scr ns] []) (fun d g => d = .bl true) := by
  rw [fnB (k := 19) (m := meanOf 12 m_law) (by decide) rfl]
  refine run_ok ?_
  unfold m_law
  refine X.nrm (by simp only [startS, List.map_cons, List.map_nil, List.length_cons, List.length_nil, Nat.reduceAdd, Nat.reduceSub, List.replicate_succ, List.replicate_zero, List.cons_append, List.nil_append]; exact rfl) ?_
  repeat' fail
  refine ok_of (feed_at (k := 18) h) ?_
  repeat' fail
  have hf : Fd [feedD "cells" "spot" "left" "drawn" ns 0 0 0] := ⟨_, _, _, _, rfl⟩
  generalize [feedD "cells" "spot" "left" "drawn" ns 0 0 0] = g0 at hf
  refine X.for_ ?_
  repeat' fail
  refine ⟨6, rfl, by decide, ?_⟩
  refine for_inv _ (List.range 6) (fun i S g => Fd g ∧ ∃ a2 a3 a4 a5 a6 a7 a8 a9 a10 a11, S = [some (.dat (.scr ns)), some (.dat (.ptr 0)), a2, a3, a4, a5, a6, a7, a8, a9, a10, a11]) ⟨hf, _, _, _, _, _, _, _, _, _, _, rfl⟩ ?_ ?_
  · rintro i x S g hi ⟨hg, a2, a3, a4, a5, a6, a7, a8, a9, a10, a11, rfl⟩
    refine ⟨_, rfl, ?_⟩
    refine toXt ?_
    refine X.nrm (by simp only [List.set_cons_zero, List.set_cons_succ]; exact rfl) ?_
    repeat' fail
    refine pick_wp (by decide) hg (by simp) (by show 6 < 1000000; decide) (fun dp g1 hdp hg1 => ?_)
    obtain ⟨p, rfl, hp⟩ : ∃ p : Int, dp = .int p ∧ isPrm (.int p) = true := by
      simp only [List.mem_cons, List.not_mem_nil, or_false] at hdp
      rcases hdp with rfl | rfl | rfl | rfl | rfl | rfl <;> exact ⟨_, rfl, rfl⟩
    repeat' fail
    refine pick_wp (by decide) hg1 (by simp) (by show 9 < 1000000; decide) (fun dn g2 hdn hg2 => ?_)
    obtain ⟨n, rfl, hn1, hn2⟩ : ∃ n : Nat, dn = .int n ∧ 1 ≤ n ∧ n ≤ 40 := by
      simp only [List.mem_cons, List.not_mem_nil, or_false] at hdn
      rcases hdn with rfl | rfl | rfl | rfl | rfl | rfl | rfl | rfl | rfl
      · exact ⟨1, rfl, by decide, by decide⟩
      · exact ⟨2, rfl, by decide, by decide⟩
      · exact ⟨3, rfl, by decide, by decide⟩
      · exact ⟨4, rfl, by decide, by decide⟩
      · exact ⟨5, rfl, by decide, by decide⟩
      · exact ⟨8, rfl, by decide, by decide⟩
      · exact ⟨8, rfl, by decide, by decide⟩
      · exact ⟨12, rfl, by decide, by decide⟩
      · exact ⟨40, rfl, by decide, by decide⟩
    have p0 : 0 < p := by rcases prm_is hp with h | h | h | h | h | h <;> omega
    have p1 : p ≤ 13 := by rcases prm_is hp with h | h | h | h | h | h <;> omega
    repeat' fail
    refine Ok.imp (sums_right_wp (by decide) hg2 hp hn1 hn2) fun d g3 ⟨e, hg3⟩ => ?_
    subst e
    refine ⟨_, rfl, ?_⟩
    repeat' fail
    refine Ok.lift (a := .int (10 ^ 59)) (by rfl) ?_
    repeat' fail
    generalize hM : [D.non, .bl true, .bl false, .int 0, .int 1, .int p, .int (p - 1), .int (-1), .int (10 ^ 59), .str "", .str "0", .tup [], .tup [.int 0], .lst [.int 0], .tup [.tup [.int 0]], .int n] = menu
    have hm0 : menu ≠ [] := by rw [← hM]; simp
    have hml : menu.length ≤ 1000 := by rw [← hM]; show 16 ≤ 1000; decide
    have mi : ∀ j : Int, j.natAbs ≤ NM → Gb NM 2000 2 (.int j) ∧ tl (.int j) ≤ 1 := fun j hj => ⟨Gb.num hj (by decide), Nat.zero_le _⟩
    have ms : ∀ j : Int, j.natAbs ≤ 100 → Gb NM 2000 2 (.int j) ∧ tl (.int j) ≤ 1 := fun j hj => mi j (Nat.le_trans hj NM_ge)
    have sm : ∀ d : D, Gb 100 2000 2 d → tl d ≤ 1 → Gb NM 2000 2 d ∧ tl d ≤ 1 := fun d h1 h2 => ⟨h1.mono NM_ge (Nat.le_refl _) (Nat.le_refl _), h2⟩
    have hmm : ∀ m ∈ menu, Gb NM 2000 2 m ∧ tl m ≤ 1 := by
      rw [← hM]
      refine all_consD (sm _ ⟨rfl, by decide +kernel, by decide⟩ (by decide)) (all_consD (sm _ ⟨rfl, by decide +kernel, by decide⟩ (by decide)) (all_consD (sm _ ⟨rfl, by decide +kernel, by decide⟩ (by decide)) (all_consD (ms _ (by decide)) (all_consD (ms _ (by decide)) (all_consD (ms _ (by omega)) (all_consD (ms _ (by omega)) (all_consD (ms _ (by decide)) (all_consD (mi _ pow59) (all_consD (sm _ ⟨by decide +kernel, by decide +kernel, by decide⟩ (by decide)) (all_consD (sm _ ⟨by decide +kernel, by decide +kernel, by decide⟩ (by decide)) (all_consD (sm _ ⟨by decide +kernel, by decide +kernel, by decide⟩ (by decide)) (all_consD (sm _ ⟨by decide +kernel, by decide +kernel, by decide⟩ (by decide)) (all_consD (sm _ ⟨by decide +kernel, by decide +kernel, by decide⟩ (by decide)) (all_consD (sm _ ⟨by decide +kernel, by decide +kernel, by decide⟩ (by decide)) (all_consD (ms _ (by omega)) all_nilD)))))))))))))))
    have hNM := NM_le
    have hNM2 := NM_ge
    refine any_word_wp (by decide) hg3 p0 (by omega) (by omega) (fun xs g4 hx dx hg4 => ?_)
    have wb : Gb NM 80000 1 (Dw xs) := Gb.word (fun z hz => by have := dx z hz; omega) (by omega)
    have wt1 : tl (Dw xs) ≤ 40 := by show (xs.map D.int).length ≤ 40; rw [List.length_map]; omega
    repeat' fail
    refine ⟨n, rfl, Nat.le_trans hn2 (Nat.le_of_ble_eq_true rfl), ?_⟩
    refine c_sub Fd _ (fun i => .int (i : Nat)) (List.range n) hg4 (fun x hx g2 hg2 => ⟨_, rfl, ?_⟩) (fun spots g5 hsp hg5 => ?_)
    · repeat' fail
      refine draw_wp (by decide) hg2 (by decide) (by decide) (fun v g3 b1 b2 hg3 => ?_)
      repeat' fail
      · refine ⟨hg3, fun _ => ?_⟩
        repeat' fail
      · exact ⟨hg3, fun h => by cases h⟩
    have nl : spots.length ≤ n := by have := hsp.length_le; simpa using this
    have spl := (sub_lot hsp).2.2
    have sb : Gb NM 80000 1 (Dn spots) := Gb.nats (fun i hi => by have := spl i hi; omega) (by omega)
    have wt2 : tl (Dn spots) ≤ 40 := by show (spots.map _).length ≤ 40; rw [List.length_map]; omega
    repeat' fail
    refine pick_wp (by decide) hg5 hm0 (Nat.lt_of_le_of_lt hml (by decide)) (fun d1 g6 hd1 hg6 => ?_)
    obtain ⟨b1, l1⟩ := hmm d1 hd1
    repeat' fail
    refine law_bent_wp (M := 2000) (Nm := NM) (by decide) 1 (by decide) (by omega) (Nat.le_refl _) (by decide) (by decide) hg6 wb hm0 hml hmm (fun d2 g7 b2 l2 hg7 => ?_)
    repeat' fail
    refine law_bent_wp (M := 2000) (Nm := NM) (by decide) 1 (by decide) (by omega) (Nat.le_refl _) (by decide) (by decide) hg7 sb hm0 hml hmm (fun d3 g8 b3 l3 hg8 => ?_)
    have b2 : Gb (NM + 2) 200000 3 d2 := b2.mono (Nat.le_refl _) (by have := wb.wt; omega) (by decide)
    have b3 : Gb (NM + 2) 200000 3 d3 := b3.mono (Nat.le_refl _) (by have := sb.wt; show 2 * D.wt (Dn spots) + 2000 ≤ 200000; omega) (by decide)
    have l3 : tl d3 ≤ 41 := Nat.le_trans l3 (Nat.succ_le_succ wt2)
    repeat' fail
    refine o_idxL (i := 3) (d := d2) rfl ?_
    repeat' fail
    refine law_bent_wp (M := 2000) (Nm := NM) (by decide) 3 (by decide) (by omega) (by omega) (by decide) (by decide) hg8 b2 hm0 hml hmm (fun d4 g9 b4 l4 hg9 => ?_)
    repeat' fail
    refine o_idxL (i := 4) (d := d3) rfl ?_
    repeat' fail
    refine law_bent_wp (M := 2000) (Nm := NM) (by decide) 3 (by decide) (by omega) (by omega) (by decide) (by decide) hg9 b3 hm0 hml hmm (fun d5 g10 b5 l5 hg10 => ?_)
    have b4 : Gb BIG 900000 12 d4 := b4.mono (by omega) (by have := b2.wt; omega) (by decide)
    have b5 : Gb BIG 900000 12 d5 := b5.mono (by omega) (by have := b3.wt; omega) (by decide)
    repeat' fail
    refine draw_wp (by decide) hg10 (by decide) (by decide) (fun v g11 v0 v1 hg11 => ?_)
    repeat' fail
    refine o_addL (Nat.le_of_ble_eq_true rfl) ?_
    have hall : ∀ d ∈ [Dw xs, Dn spots, d1, d2, d3] ++ [d4, d5, .int v], Gb BIG 900000 12 d ∧ tl d < 64 := by
      refine all_consD ⟨wb.mono (by omega) (by decide) (by decide), by omega⟩ (all_consD ⟨sb.mono (by omega) (by decide) (by decide), by omega⟩ (all_consD ⟨b1.mono (by omega) (by decide) (by decide), by omega⟩ (all_consD ⟨b2.mono (by omega) (by decide) (by decide), by omega⟩ (all_consD ⟨b3.mono (by omega) (by decide) (by decide), by omega⟩ (all_consD ⟨b4, by omega⟩ (all_consD ⟨b5, by omega⟩ (all_consD ⟨Gb.num (by omega) (by decide), show 0 < 64 by decide⟩ all_nilD)))))))
    generalize [Dw xs, Dn spots, d1, d2, d3] ++ [d4, d5, .int v] = L at hall
    repeat' fail
    refine c_pureD L (fun _ => false) (fun d => d) (fun d hd => ⟨_, rfl, ?_, fun h => by cases h⟩) ?_
    · repeat' fail
      obtain ⟨c1, c2⟩ := hall d hd
      refine Ok.imp (kinds_right_wp (by decide) hp hn1 hn2 c1 (by decide) c2) fun d g' ⟨e1, e2⟩ => ?_
      subst e1 e2
      refine ⟨_, rfl, ?_⟩
      repeat' fail
      exact ⟨rfl, rfl⟩
    have e0 : (L.filter fun _ => false).map (fun d => d) = [] := by simp
    rw [e0]
    repeat' fail
    refine o_neNil rfl rfl ?_
    refine tr_bl (br_ff ?_)
    repeat' fail
    exact ⟨hg11, _, _, _, _, _, _, _, _, _, _, rfl⟩
  · rintro S g ⟨hg, a2, a3, a4, a5, a6, a7, a8, a9, a10, a11, rfl⟩
    repeat' fail
    exact rfl
theorem law_true {ns : List Int} (h : ns.length ≤ 63) : ∃ g, Fn B Z 20 i_law [.scr ns] [] = .ok (.bl true) g := by
  obtain ⟨d, g, e, rfl⟩ := Ok.get (law_wp h)
  exact ⟨g, e⟩

end SH.K01

set_option Elab.async false
set_option linter.all false
set_option maxRecDepth 1000000
set_option maxHeartbeats 0
namespace SH.K01
open PySem PySem.Spec PyProof.Rows L2 LamX SH
/-- the names that a top binds, but the law's -/
def looseOf : List Stmt → List Str
  | [] => []
  | .FunctionDef n .. :: l => if n = "law" then looseOf l else n :: looseOf l
  | .ClassDef n .. :: l => n :: looseOf l
  | .Assign [.Name x _] _ _ :: l => if x = "__name__" then looseOf l else x :: looseOf l
  | _ :: l => looseOf l
abbrev l0 : PySem.W.OpenLaw := PySem.Challenge.rw_starshelves_k01_whole_words_and_kinds
abbrev R : PySem.W.OpenRow := PySem.W.OpenLaw.row l0
def loose : List Str := looseOf P.main.body
abbrev hk : PySem.W.Hook := hookS 4 ds (tfOf rows) (lawB l0.prog.main.file L rows)
def ob (s : PySem.W.SharedT) : He.AlD × Bool := obsS s.n ds (tfOf rows) (lawB l0.prog.main.file L rows) (HandSHeadRun.getT s)
theorem ob_eq (s : PySem.W.SharedT) : ob s = hk.obs s.abs := obsS_eq
theorem run (w : World) : HandSHeadRun.RunEq R (PySem.W.view R.prog [57]) hk ob 12000 loose w := by
  intro os
  kernel_rfl
end SH.K01

set_option Elab.async false
set_option linter.all false
set_option maxRecDepth 1000000
set_option maxHeartbeats 0
open PySem PySem.W PySem.Calls PyProof.Rows
theorem PySem.Challenge.cw_starshelves_k01_whole_words_and_kinds_holds : PySem.Challenge.rw_starshelves_k01_whole_words_and_kinds.Holds := by
  w_on; o_law
  refine HandSHeadRun.head_any (r := SH.K01.R) (q := view SH.K01.R.prog [57]) (H := SH.K01.hk) (ob := SH.K01.ob) (M := 12000) (loose := SH.K01.loose) (d := HandSHeadRun.topDef SH.K01.R.prog 57) (kwd := []) SH.K01.ob_eq
    (by kernel_rfl) (fun s => by kernel_rfl) SH.K01.run (by kernel_rfl) (by kernel_rfl) (by kernel_rfl) (by rfl) (by first | assumption | decide +kernel) (by decide +kernel) ⟨rfl, rfl, rfl, rfl, rfl, by decide +kernel⟩ ?hw ?hc
  case hw => w_witness2
  case hc =>
    refine SH.law_finalH (hrows := SH.K01.hrows) (l := SH.K01.l0) (n := 63) (k := 20) (i := SH.K01.i_law) (x := "_law_script") (nd := 4) (r := ⟨SH.K01.dAt 42, .plain, 12, SH.K01.m_law⟩) rfl SH.K01.hotsOk rfl (by decide) (by kernel_rfl) ⟨rfl, by decide, by decide⟩ SH.K01.textOk (by kernel_rfl) (by kernel_rfl) rfl SH.K01.rowsIn SH.K01.saysIn SH.K01.rowsOk SH.K01.saysOk (by kernel_rfl) (by kernel_rfl) (by kernel_rfl) (by kernel_rfl) (fun ns hl _ => SH.K01.law_true hl)


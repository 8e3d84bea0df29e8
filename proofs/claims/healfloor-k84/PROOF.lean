import PyProof.Rows.All
import Wide.All
import OpenK.AllK
import Wide.FinOn
import HandS.ForMost
import HandS.Deep
import HandS.SortRule
import HandS.TupAny
import HandS.TupMul
import HandS.TupSets
import HandS.Style
import HandS.Zip
import HandS.Conv
import HandS.More
import KE.SortData
import KE.KDictKeyed
import PySem.Challenge.RW_healfloor_k84_whole_never_whole_again
import HandS.Walk
import HandS.Rev
import KE.KDictSum
import KE.GoesEnum
import KE.KeyNested
set_option Elab.async false
set_option linter.all false
set_option maxRecDepth 100000
namespace K84
open L2 PySem PySem.Spec PyProof.Rows
def topS (i : Nat) : Stmt := PySem.Challenge.pw_healfloor_k84_whole_never_whole_again.main.body.getD i (.Pass ⟨0, 0, 0, 0⟩)
abbrev rAddI : R2 := rI0 fun i j => .int (i + j)
abbrev rSubI : R2 := rI0 fun i j => .int (i - j)
abbrev rMulI : R2 := rI CMul fun i j => .int (i * j)
abbrev rDivI : R2 := rI CDivN fun i j => .int (i.fdiv j)
abbrev rModI : R2 := rI (fun _ j => 0 < j) fun i j => .int (i % j)
abbrev rModN : R2 := rI (fun _ j => j ≠ 0) fun i j => .int (i.fmod j)
abbrev rPowI : R2 := rI CPow fun i j => .int (i ^ j.toNat)
abbrev rNegI : V → Hp → VK → Prop := rU fun i => .int (-i)
abbrev rLtI : R2 := rI0 fun i j => .bl (decide (i < j))
abbrev rLeI : R2 := rI0 fun i j => .bl (decide (i ≤ j))
abbrev rGtI : R2 := rI0 fun i j => .bl (decide (j < i))
abbrev rGeI : R2 := rI0 fun i j => .bl (decide (j ≤ i))
abbrev RC := List V → Hp → VK → Prop
abbrev rAbsI : RC := fun xs H Q => ∃ i, xs = [.int i] ∧ Q (.int (if i < 0 then -i else i)) H
abbrev rMax2I : RC := fun xs H Q => ∃ i j, xs = [.int i, .int j] ∧ Q (.int (if j > i then j else i)) H
abbrev rLenSeq (K : PySem.W.Frag) : RC := fun xs H Q => ∃ p ys, xs = [.ref p] ∧ (SqL K H p ys ∨ SqT K H p ys) ∧ Q (.int ys.length) H
abbrev rInt1 : RC := fun xs H Q => (∃ i, xs = [.int i] ∧ Q (.int i) H) ∨ ∃ k, xs = [.bl k] ∧ Q (.int (if k then 1 else 0)) H
abbrev rTupleOf (K : PySem.W.Frag) : RC := fun xs H Q => ∃ p ys, xs = [.ref p] ∧ ((SqL K H p ys ∧ ∀ l, H l = none → Q (.ref l) (upd H l (.tup ys))) ∨ (SqT K H p ys ∧ Q (.ref p) H))
abbrev rListOf (K : PySem.W.Frag) : RC := fun xs H Q => ∃ p ys, xs = [.ref p] ∧ (SqL K H p ys ∨ SqT K H p ys) ∧ ∀ l, H l = none → Q (.ref l) (upd H l (.lst ys))
abbrev rListDT : RC := fun xs H Q => ∃ d kvs, xs = [V.ref d] ∧ Rd H d (.dT kvs) ∧ ∀ p bs, H p = none → IsKeys H kvs bs → Q (.ref p) (upd H p (.lst (bs.map V.ref)))
abbrev rInsertI : V → List V → Hp → VK → Prop := fun x vs H Q => ∃ (l : Addr) (xs : List V) (i : Int) (y : V), x = .ref l ∧ vs = [.int i, y] ∧ H l = some (.lst xs) ∧ xs.length < sizeLine ∧ 0 ≤ i ∧ i < 2 ^ 63 ∧
    Q .non (upd H l (.lst (xs.take i.toNat ++ [y] ++ xs.drop i.toNat)))
theorem hu64 {A : Around} {k : Nat} (hr : Room k A) : A.units + 64 < cLine := hr.units
theorem hu65 {A : Around} {k : Nat} (hr : Room k A) : A.units + 65 < cLine := by have := hr.un; omega

/-- no built-in's name that the text calls is bound by it -/
structure Blt (mg : Str → Option Value) : Prop where
  abs_ : mg "abs" = none
  len_ : mg "len" = none
  range_ : mg "range" = none
  min_ : mg "min" = none
  max_ : mg "max" = none
  tuple_ : mg "tuple" = none
  sorted_ : mg "sorted" = none
  all_ : mg "all" = none
  any_ : mg "any" = none
  enumerate_ : mg "enumerate" = none
  zip_ : mg "zip" = none
  dict_ : mg "dict" = none
  list_ : mg "list" = none
  reversed_ : mg "reversed" = none
  set_ : mg "set" = none
  int_ : mg "int" = none
  sum_ : mg "sum" = none
/-- the def x keeps its promise sp -/
structure Cal (P : Program) (w : World) (K : PySem.W.Frag) (mg : Str → Option Value) (base : Heap) (k : Nat) (x : Str) (ps : List Str) (sp : Sp) : Prop where
  ex : ∃ f fd, FnOk P w K mg base CX0 k f fd ps sp ∧ mg x = some (.ref f) ∧ PySem.W.keepIn K (.ref f) = true ∧ Binds K fd ps []
theorem pe_cal {X : Cx} {k : Nat} {x : Str} {ps : List Str} {sp : Sp} {e : Expr} {es : List Expr} {ta : TA} {p pos : Pos} (C : Cal X.prog X.w X.K X.mg X.base k x ps sp) (hr : Room k X.A) (hg : Gl X x) (ha : PA X (e :: es) ta)
    (hdb : (x == ("__debug__" : Str)) = false := by decide) (he : starEach (e :: es) X.env = (false, eval e X.env) :: starEach es X.env := by rfl) (hpl : (backTo pos (starEach es X.env)).any (·.1) = false := by rfl) :
    PE X (.Call (.Name x p) (e :: es) [] pos) (tCall sp [] E0 ta) := by
  obtain ⟨f, fd, F, m, kp, b⟩ := C.ex
  exact pe_call F hr hg m kp b .nil pass0 ha hdb he hpl
/-- where a def stands -/
def DefAt (K : PySem.W.Frag) (mg : Str → Option Value) (x : Str) (st : Stmt) : Prop := ∃ f fd, Fun K x x st f fd ∧ mg x = some (.ref f)
end K84
namespace K84
open L2 PySem PySem.Spec PyProof.Rows
abbrev C2 := Int × Int
/-- v is the cell c -/
def Cell (H : Hp) (v : V) (c : C2) : Prop := ∃ a, v = .ref a ∧ H a = some (.tup [.int c.1, .int c.2])
/-- v is a tuple of things xs -/
def Tup {α : Type} (H : Hp) (R : V → α → Prop) (v : V) (xs : List α) : Prop := ∃ a vs, v = .ref a ∧ H a = some (.tup vs) ∧ Paired R vs xs
/-- v is a tuple of the cells cs -/
abbrev Row (H : Hp) : V → List C2 → Prop := Tup H (Cell H)
def keyC (c : C2) : List Key := [.inl c.1, .inl c.2]
/-- in a tuple -/
def rInT (K : PySem.W.Frag) : R2 := fun x y H Q => ∃ d ds, Dp K H x d ∧ Dp K H y (.tuple ds) ∧ SeqAt.shaped d = true ∧ SeqAt.shaped (.tuple ds) = true ∧ Q (.bl (ds.any fun z => PyData.eqv z d)) H
def rNotInT (K : PySem.W.Frag) : R2 := fun x y H Q => ∃ d ds, Dp K H x d ∧ Dp K H y (.tuple ds) ∧ SeqAt.shaped d = true ∧ SeqAt.shaped (.tuple ds) = true ∧ Q (.bl (!ds.any fun z => PyData.eqv z d)) H
/-- t[::-1] of a tuple that isn't empty -/
def tRevT (te : TE) : TE := fun σ H Q => te σ H fun x H1 => ∃ a xs, x = .ref a ∧ H1 a = some (.tup xs) ∧ xs ≠ [] ∧ ∀ p, H1 p = none → Q (.ref p) (upd H1 p (.tup xs.reverse))
/-- list(reversed(xs)) -/
def tListRev (K : PySem.W.Frag) (te : TE) : TE := fun σ H Q => te σ H fun x H1 => ∃ a xs, x = .ref a ∧ SqL K H1 a xs ∧ ∀ p, H1 p = none → Q (.ref p) (upd H1 p (.lst xs.reverse))
/-- sorted of a list or tuple of cells, none twice -/
def rSortedR : RC := fun vs H Q => ∃ (a : Addr) (xs : List V) (cs : List C2), vs = [V.ref a] ∧ (H a = some (.lst xs) ∨ H a = some (.tup xs)) ∧ Paired (Cell H) xs cs ∧ cs.length ≤ 1000 ∧
  ∀ (ys : List V) (ds : List C2) (p : Addr), ds.Perm cs → ds.Pairwise (fun p q => p.1 < q.1 ∨ (p.1 = q.1 ∧ p.2 ≤ q.2)) → Paired (Cell H) ys ds → H p = none → Q (.ref p) (upd H p (.lst ys))
/-- sorted of a dict whose keys are cells -/
def rSortedDT : RC := fun vs H Q => ∃ (a : Addr) (kvs : List (List Key × V)) (cs : List C2), vs = [V.ref a] ∧ H a = some (.dT kvs) ∧ kvs.map (·.1) = cs.map keyC ∧ cs.length ≤ 1000 ∧
  ∀ (ys : List V) (ds : List C2) (p : Addr), ds.Perm cs → Paired (Cell H) ys ds → H p = none → Q (.ref p) (upd H p (.lst ys))
/-- dict of a list of (cell, True) -/
def rDictT : RC := fun vs H Q => ∃ (a : Addr) (xs : List V) (cs : List C2), vs = [V.ref a] ∧ H a = some (.lst xs) ∧ Paired (fun x c => ∃ t u, x = V.ref t ∧ H t = some (.tup [u, .bl true]) ∧ Cell H u c) xs cs ∧ cs.length ≤ 1000000 ∧
  ∀ (kvs : List (List Key × V)) (p : Addr), (∀ k, (valV kvs k).isSome = true ↔ ∃ c ∈ cs, k = keyC c) → H p = none → Q (.ref p) (upd H p (.dT kvs))
/-- a cell, a row of cells as a key -/
def cellKey (c : C2) : NestedKey := .tup [.num c.1, .num c.2]
def rowKey (cs : List C2) : NestedKey := .tup (cs.map cellKey)
abbrev KeysIn := List (Addr × NestedKey)
/-- the set at a has the keys L (what stands behind them apart) -/
structure SetN0 (w : World) (h : Heap) (a : Addr) (L : KeysIn) : Prop where
  ex : ∃ (es : Array (Int × Value)) (ep : Nat) (t : SetTable), (∃ o, h.get? a = some o ∧ o.ExactSet ∧ o.data = .set es ep t) ∧ es.toList = L.map (fun p => (p.2.hash w, Value.ref p.1)) ∧
    TabOk t (L.map fun p => p.2.hash w) ∧ (L.map (·.2)).Nodup ∧ t.plain = true ∧ (w.params.followText "set-order" = true ∨ t.led = true) ∧ L.length * 5 < t.mask * 3 ∧ L.length < 64
def SetNO (w : World) (a : Addr) (L : KeysIn) : HO := .ext fun h => SetN0 w h a L
def rkey (L : List (Addr × List C2)) : KeysIn := L.map fun p => (p.1, rowKey p.2)
/-- set of a list of rows -/
def rSetOfN (w : World) : RC := fun xs H Q => ∃ (l : Addr) (ks : List (Addr × List C2)), xs = [V.ref l] ∧ H l = some (.lst (ks.map fun p => V.ref p.1)) ∧ (∀ p ∈ ks, Row H (.ref p.1) p.2) ∧ ks.length < 64 ∧
  ∀ a L, H a = none → (∀ p ∈ L, p ∈ ks) → (∀ p ∈ ks, p.2 ∈ L.map (·.2)) → (L.map (·.2)).Nodup → Q (.ref a) (upd H a (SetNO w a (rkey L)))
/-- sorted of a set of rows: in some order -/
def rSortedN (w : World) : RC := fun vs H Q => ∃ (a : Addr) (L : List (Addr × List C2)), vs = [V.ref a] ∧ H a = some (SetNO w a (rkey L)) ∧ (∀ p ∈ L, Row H (.ref p.1) p.2 ∧ p.2 ≠ []) ∧
  ∀ (L' : List (Addr × List C2)) (p : Addr), L'.Perm L → H p = none → Q (.ref p) (upd H p (.lst (L'.map fun q => V.ref q.1)))
/-- set of a list of cells -/
def tkey (L : List (Addr × C2)) : List (Addr × List Int) := L.map fun p => (p.1, [p.2.1, p.2.2])
def rSetOfC (w : World) : RC := fun xs H Q => ∃ (l : Addr) (ks : List (Addr × C2)), xs = [V.ref l] ∧ H l = some (.lst (ks.map fun p => V.ref p.1)) ∧ (∀ p ∈ ks, Cell H (.ref p.1) p.2) ∧ ks.length < 64 ∧
  ∀ P a L, H a = none → (∀ p ∈ L, p ∈ ks) → (∀ p ∈ ks, p.2 ∈ L.map (·.2)) → Q (.ref a) (upd H a (SetTO P w a (tkey L)))
/-- sorted of a set of cells -/
def rSortedC (w : World) : RC := fun vs H Q => ∃ (P : Program) (a : Addr) (L : List (Addr × C2)), vs = [V.ref a] ∧ H a = some (SetTO P w a (tkey L)) ∧ (∀ p ∈ L, Cell H (.ref p.1) p.2) ∧
  ∀ (L' : List (Addr × C2)) (p : Addr), L'.Perm L → (L'.map (·.2)).Nodup → L'.Pairwise (fun p q => p.2.1 < q.2.1 ∨ (p.2.1 = q.2.1 ∧ p.2.2 ≤ q.2.2)) → H p = none → Q (.ref p) (upd H p (.lst (L'.map fun q => V.ref q.1)))
/-- enumerate of a tuple, each item in a new pair -/
def IteT (a : Addr) : It :=
  ⟨fun i H => ∃ (xs : List V) (x : V), H a = some (.tup xs) ∧ xs[i]? = some x,
   fun i H v H' => ∃ T x, v = .ref T ∧ H T = none ∧ H' = upd H T (.tup [.int (i : Nat), x]) ∧ ∀ xs, H a = some (.tup xs) → xs[i]? = some x,
   fun i H => ∃ xs : List V, H a = some (.tup xs) ∧ xs.length ≤ i⟩
def iEnumT (ta : TA) : TI := fun σ H R => ta σ H fun vs H1 => ∃ a xs, vs = [.ref a] ∧ H1 a = some (.tup xs) ∧ R (IteT a) H1
end K84
namespace K84
open L2 PySem PySem.Spec PyProof.Rows
section
variable {X : Cx}
theorem op_inT (hu : X.A.units + 65 < cLine) : OpR X (compareOp .In) (rInT X.K) := by
  rintro pins s σ H x y v u Q I rx ry ⟨d, ds, hd, he, sd, se, q⟩
  obtain ⟨as, k1⟩ := Dp.reads I d x v hd rx
  obtain ⟨bs, k2⟩ := Dp.reads I (.tuple ds) y u he ry
  exact SeqAt.in_tuple_reads k2 k1 (SeqAt.canLay_of_shaped se) (SeqAt.canLay_of_shaped sd) (room_in_shaped sd hu) ⟨V.bl _, H, I, rfl, q⟩
theorem op_notInT (hu : X.A.units + 65 < cLine) : OpR X (compareOp .NotIn) (rNotInT X.K) := by
  rintro pins s σ H x y v u Q I rx ry ⟨d, ds, hd, he, sd, se, q⟩
  obtain ⟨as, k1⟩ := Dp.reads I d x v hd rx
  obtain ⟨bs, k2⟩ := Dp.reads I (.tuple ds) y u he ry
  exact SeqAt.notIn_tuple_reads k2 k1 (SeqAt.canLay_of_shaped se) (SeqAt.canLay_of_shaped sd) (room_in_shaped sd hu) ⟨V.bl _, H, I, rfl, q⟩
end
section
variable {prog : Program} {w : World} {A : Around} {E : Value → Shared → Prop} {s : Shared}
theorem back_adjust (n : Nat) : Builtin.Slice.sliceAdjust none none (-1) (n : Int) = ((n : Int) - 1, -1) := rfl
theorem back_places (n : Nat) : Builtin.Slice.slicePlaces ((n : Int) - 1) (-1) (-1) = n := by
  unfold Builtin.Slice.slicePlaces
  rw [if_neg (by decide)]
  by_cases h : (n : Int) - 1 > -1
  · rw [if_pos h, show (-(-1) : Int) = 1 by decide, Int.ediv_one]; omega
  · rw [if_neg h]; omega
theorem back_applied {sl : Addr} {vs : Value} {n : Nat} {Q : Int × Int × Nat → Shared → Prop} (hs : s.heap.IsSliceOf sl .none .none vs) (ps : IsPart vs (some (-1))) (h : Q ((n : Int) - 1, -1, n) s) :
    wpAny (model prog w) A (Builtin.Slice.sliceApplied (.ref sl) (pure (n : Int))) Q E s := by
  obtain ⟨ob, hob, _, hdt⟩ := id hs
  unfold Builtin.Slice.sliceApplied Builtin.Slice.sliceFields
  refine wpAny_bind (wpAny_bind (wpAny_field hob hdt (x := Value.none) rfl (wpAny_bind (wpAny_field hob hdt (x := Value.none) rfl (wpAny_bind (wpAny_field hob hdt (x := vs) rfl (wpAny_pure ?_)))))))
  refine wpAny_bind (HT.slicePart_ ps ?_)
  show wpAny _ _ (if ((-1 : Int) == 0) = true then _ else _) _ _ s
  rw [if_neg (by decide)]
  refine wpAny_bind (HT.slicePart_ .none (wpAny_bind (HT.slicePart_ .none (wpAny_bind (wpAny_pure ?_)))))
  show wpAny _ _ (match Builtin.Slice.sliceAdjust none none (-1) (n : Int) with | (lo, hi) => pure (lo, (-1 : Int), Builtin.Slice.slicePlaces lo hi (-1))) _ _ s
  rw [back_adjust n]
  show wpAny _ _ (pure ((n : Int) - 1, (-1 : Int), Builtin.Slice.slicePlaces ((n : Int) - 1) (-1) (-1))) _ _ s
  rw [back_places]
  exact wpAny_pure h
theorem back_pick (xs : Array Value) : ((List.range xs.size).filterMap fun (m : Nat) => xs[(((xs.size : Int) - 1) + (m : Int) * (-1)).toNat]?).toArray = xs.toList.reverse.toArray := by
  congr 1
  have h1 := PySem.W.krv_range xs.size
  have h2 := PySem.W.krv_all xs
  rw [← h2, ← List.filterMap_reverse, ← h1, List.filterMap_map]
  congr 1
  funext m
  simp only [Function.comp]
  congr 1; omega
theorem back_item {t sl : Addr} {items : Array Value} {vs : Value} {Q : Value → Shared → Prop} (ht : IsTup s.heap t items) (hs : s.heap.IsSliceOf sl .none .none vs) (ps : IsPart vs (some (-1)))
    (h : Q (.ref s.heap.objs.size) { s with heap := s.heap.push { cls := .type "tuple", data := .seq items.toList.reverse.toArray } }) (hsz : items.size ≤ sizeLine) : wpAny (model prog w) A (getItem (.ref t) (.ref sl)) Q E s := by
  have hfit : sizeOk (.seq items.toList.reverse.toArray) := by
    show items.toList.reverse.toArray.size ≤ sizeLine
    rw [List.size_toArray, List.length_reverse, Array.length_toList]; exact hsz
  obtain ⟨ob, hob, hcl, _⟩ := id hs
  have hTy : s.TypeIs (.ref sl) "slice" := ⟨ob, hob, hcl⟩
  unfold getItem
  try with_reducible refine wpAny_holding ?_
  first | refine wpAny_bind (wpAny_pure ?_) | skip
  refine wpAny_bind (wpAny_sequenceKey (hT := ht.typeIs) (by decide) ?_)
  refine wpAny_bind (wpAny_callSpecial?_slot (name := Str.ofString "__getitem__") ht.typeIs PyProof.Rows.slot_tuple_getitem (wpAny_call_entry PyProof.Rows.slot_tuple_getitem ht.typeIs entry_tuple_getitem ?_ (args_tuple_getitem _ _)))
  show wpAny _ _ (Builtin.Tuple.tupleItemsOf (Value.ref t) >>= _) _ _ s
  refine wpAny_bind (m := Builtin.Tuple.tupleItemsOf _) (tupleItemsOf_ ht ?_)
  refine wpAny_bind (m := typeOf _) (wpAny_typeOf hTy ?_)
  rw [if_pos (by decide)]
  refine wpAny_bind (m := Builtin.Slice.sliceApplied _ _) (back_applied hs ps ?_)
  show wpAny _ _ (if (((items.size : Int) - 1) == 0 && (-1 : Int) == 1 && items.size == items.size) = true then _ else _) _ _ s
  rw [if_neg (by simp), back_pick]
  first
    | exact wpAny_bind (m := Builtin.Tuple.tupleExact _) (wpAny_newObj_type (wpAny_pure ⟨Value.ref _, rfl, wpAny_pure h⟩) hfit)
    | exact wpAny_bind (m := Builtin.Tuple.tupleExact _) (wpAny_newObj_type (wpAny_bind (wpAny_pure (wpAny_pure ⟨Value.ref _, rfl, wpAny_pure h⟩))) hfit)
    | exact wpAny_bind (wpAny_bind (m := Builtin.Tuple.tupleExact _) (wpAny_newObj_type (wpAny_pure (wpAny_pure ⟨Value.ref _, rfl, wpAny_pure h⟩)) hfit))
    | exact wpAny_bind (wpAny_bind (m := Builtin.Tuple.tupleExact _) (wpAny_newObj_type (wpAny_pure ⟨Value.ref _, rfl, wpAny_pure h⟩) hfit))
end
section
variable {X : Cx}
theorem pe_revT {e : Expr} {te : TE} {k : Nat} {p1 p2 p3 pos : Pos} (he : PE X e te) : PE X (.Subscript e (.Slice none none (some (.UnaryOp .USub (.Constant (.int 1) k p1) p2)) p3) pos) (tRevT te) := by
  refine ⟨fun pins s σ H Q I hg => ?_⟩
  refine Subscript_ (thn (he.run pins s σ H _ I hg) fun v s1 ⟨x, H1, I1, r1, a, xs, ex, hx, hne, q⟩ => ?_)
  subst ex
  cases r1
  have hst : PO X (some (.UnaryOp .USub (.Constant (.int 1) k p1) p2)) (tPart (tUn (rU fun i => .int (-i)) (tC (.int 1)))) := po_some (pe_un un_neg (pe_int (X := X)))
  refine wpAny_Slice (thn (po_none.run pins s1 σ H1 (fun o H2 => o = none ∧ H2 = H1) I1 ⟨rfl, rfl⟩) fun vl s2 ⟨l, H2, I2, pl, f1, f2⟩ => ?_)
  subst f1 f2
  refine thn (po_none.run pins s2 σ H2 (fun o H3 => o = none ∧ H3 = H2) I2 ⟨rfl, rfl⟩) fun vu s3 ⟨u, H3, I3, pu, f3, f4⟩ => ?_
  subst f3 f4
  refine thn (hst.run pins s3 σ H3 (fun o H4 => o = some (-1) ∧ H4 = H3) I3 ⟨1, rfl, -1, rfl, rfl, rfl⟩) fun vs s4 ⟨o, H4, I4, ps, f5, f6⟩ => ?_
  subst f5 f6
  cases pl
  cases pu
  have I5 : Inv X pins σ H4 { s4 with heap := s4.heap.push { cls := .type "slice", data := .fields #[.none, .none, vs] } } := I4.kept (t' := s4.toks) fun b ob q => Heap.get?_push_of_some _ q
  obtain ⟨its, r, ht, hz⟩ := I5.tuple (SqT.of hx)
  have hlen := r.length
  show wpAny (model X.prog X.w) X.A (subscriptTail e (.Slice none none (some (.UnaryOp .USub (.Constant (.int 1) k p1) p2)) p3) (.ref a) (.ref s4.heap.objs.size)) (EP X pins σ Q) X.xe { s4 with heap := s4.heap.push { cls := .type "slice", data := .fields #[.none, .none, vs] } }
  refine tail_any (ops := [Value.ref a, .ref s4.heap.objs.size]) ht.typeIs PyProof.Rows.slot_tuple_getitem.lookup ?_ (by with_unfolding_all rfl)
  refine back_item ht (Heap.IsSliceOf.new _ .none .none vs) ps ?_ (by rw [List.size_toArray, ← hlen]; exact hz)
  refine ⟨V.ref _, _, I5.laid (t' := s4.toks) (o := .tup xs.reverse) (fun b ob q => Heap.get?_push_of_some _ q) (Nat.le_refl _) ?_, rfl, q _ (I5.hok.fresh (Nat.le_refl _))⟩
  exact ⟨by rw [List.length_reverse]; exact hz, its.reverse, r.reverse, IsTup.new _ _⟩
end
end K84
namespace K84
open L2 PySem PySem.Spec PyProof.Rows

theorem same_new {H : Hp} {p : Addr} {o : HO} (h : H p = none) : Same H (upd H p o) := fun b x e => by
  rw [upd_ne (ne_of_none e h)]; exact e
/-- what H does not know may change -/
theorem _root_.L2.Same.mut {H H' : Hp} {p : Addr} {o : HO} (e : Same H H') (h : H p = none) : Same H (upd H' p o) := fun b x hb => by
  rw [upd_ne (ne_of_none hb h)]; exact e b x hb
/-- all tuples are kept -/
def TExt (H H' : Hp) : Prop := ∀ a xs, H a = some (.tup xs) → H' a = some (.tup xs)
theorem TExt.refl (H : Hp) : TExt H H := fun _ _ h => h
theorem TExt.trans {H H1 H2 : Hp} (a : TExt H H1) (b : TExt H1 H2) : TExt H H2 := fun c o h => b c o (a c o h)
theorem _root_.L2.Same.text {H H' : Hp} (e : Same H H') : TExt H H' := fun a xs h => e a _ h
theorem text_upd {H : Hp} {p : Addr} {o : HO} (h : ∀ xs, H p ≠ some (.tup xs)) : TExt H (upd H p o) := fun a xs e => by
  have hne : a ≠ p := fun z => h xs (z ▸ e)
  rw [upd_ne hne]; exact e
theorem text_lst {H : Hp} {p : Addr} {o : HO} {ys : List V} (h : H p = some (.lst ys)) : TExt H (upd H p o) := text_upd fun xs e => by rw [h] at e; cases e
theorem text_dT {H : Hp} {p : Addr} {o : HO} {ys} (h : H p = some (.dT ys)) : TExt H (upd H p o) := text_upd fun xs e => by rw [h] at e; cases e
theorem text_dK {H : Hp} {p : Addr} {o : HO} {ys} (h : H p = some (.dK ys)) : TExt H (upd H p o) := text_upd fun xs e => by rw [h] at e; cases e
theorem text_new {H : Hp} {p : Addr} {o : HO} (h : H p = none) : TExt H (upd H p o) := (same_new h).text

end K84
namespace PySem
section
variable {α β γ : Type} {R : α → β → Prop}
theorem Paired.kLen {l : List α} {m : List β} (h : Paired R l m) : l.length = m.length := h.length
theorem Paired.kGetL : ∀ {l : List α} {m : List β}, Paired R l m → ∀ {i : Nat} {x : α}, l[i]? = some x → ∃ y, m[i]? = some y ∧ R x y
  | _, _, .nil, _, _, e => by simp at e
  | _, _, .cons r _, 0, _, e => by
    simp at e; subst e; exact ⟨_, rfl, r⟩
  | _, _, .cons _ t, i + 1, x, e => by
    obtain ⟨y, h1, h2⟩ := Paired.kGetL t (i := i) (x := x) (by simpa using e)
    exact ⟨y, by simpa using h1, h2⟩
theorem Paired.kGetR : ∀ {l : List α} {m : List β}, Paired R l m → ∀ {i : Nat} {y : β}, m[i]? = some y → ∃ x, l[i]? = some x ∧ R x y
  | _, _, .nil, _, _, e => by simp at e
  | _, _, .cons r _, 0, _, e => by
    simp at e; subst e; exact ⟨_, rfl, r⟩
  | _, _, .cons _ t, i + 1, x, e => by
    obtain ⟨y, h1, h2⟩ := Paired.kGetR t (i := i) (y := x) (by simpa using e)
    exact ⟨y, by simpa using h1, h2⟩
theorem Paired.kApp : ∀ {l l' : List α} {m m' : List β}, Paired R l m → Paired R l' m' → Paired R (l ++ l') (m ++ m')
  | _, _, _, _, .nil, s => s
  | _, _, _, _, .cons r t, s => .cons r (Paired.kApp t s)
theorem Paired.kSnoc {l : List α} {m : List β} {x : α} {y : β} (h : Paired R l m) (r : R x y) : Paired R (l ++ [x]) (m ++ [y]) := h.kApp (.cons r .nil)
theorem Paired.kTake : ∀ (n : Nat) {l : List α} {m : List β}, Paired R l m → Paired R (l.take n) (m.take n)
  | 0, _, _, _ => .nil
  | _ + 1, _, _, .nil => .nil
  | n + 1, _, _, .cons r t => .cons r (Paired.kTake n t)
theorem Paired.kDrop : ∀ (n : Nat) {l : List α} {m : List β}, Paired R l m → Paired R (l.drop n) (m.drop n)
  | 0, _, _, r => r
  | _ + 1, _, _, .nil => .nil
  | n + 1, _, _, .cons _ t => Paired.kDrop n t
theorem Paired.kRev {l : List α} {m : List β} (h : Paired R l m) : Paired R l.reverse m.reverse := by
  induction h with
  | nil => exact .nil
  | cons r t ih => rw [List.reverse_cons, List.reverse_cons]; exact ih.kSnoc r
theorem Paired.kImp {S : α → β → Prop} {l : List α} {m : List β} (h : Paired R l m) (f : ∀ x y, R x y → S x y) : Paired S l m := L2.Paired.mapP h f
theorem Paired.kEqF {f : β → α} : ∀ {l : List α} {m : List β}, Paired R l m → (∀ x y, R x y → x = f y) → l = m.map f
  | _, _, .nil, _ => rfl
  | _, _, .cons r t, h => by rw [List.map_cons, h _ _ r, Paired.kEqF t h]
theorem Paired.kOfMap {f : β → α} : ∀ (m : List β), (∀ y ∈ m, R (f y) y) → Paired R (m.map f) m
  | [], _ => .nil
  | y :: m, h => .cons (h y List.mem_cons_self) (Paired.kOfMap m fun z hz => h z (List.mem_cons_of_mem _ hz))
theorem Paired.kMapL {g : α → β} : ∀ {l : List α} {m : List β}, Paired R l m → (∀ x y, R x y → g x = y) → l.map g = m
  | _, _, .nil, _ => rfl
  | _, _, .cons r t, h => by rw [List.map_cons, h _ _ r, Paired.kMapL t h]
theorem Paired.kOfMapL {g : α → β} : ∀ (l : List α), (∀ x ∈ l, R x (g x)) → Paired R l (l.map g)
  | [], _ => .nil
  | x :: l, h => .cons (h x List.mem_cons_self) (Paired.kOfMapL l fun z hz => h z (List.mem_cons_of_mem _ hz))
theorem Paired.kMemR {l : List α} {m : List β} (h : Paired R l m) {y : β} (hy : y ∈ m) : ∃ x ∈ l, R x y := by
  obtain ⟨i, hi, e⟩ := List.getElem_of_mem hy
  obtain ⟨x, h1, h2⟩ := h.kGetR (i := i) (y := y) (by rw [List.getElem?_eq_getElem hi, e])
  exact ⟨x, List.mem_of_getElem? h1, h2⟩
theorem Paired.kMemL {l : List α} {m : List β} (h : Paired R l m) {x : α} (hx : x ∈ l) : ∃ y ∈ m, R x y := by
  obtain ⟨i, hi, e⟩ := List.getElem_of_mem hx
  obtain ⟨y, h1, h2⟩ := h.kGetL (i := i) (x := x) (by rw [List.getElem?_eq_getElem hi, e])
  exact ⟨y, List.mem_of_getElem? h1, h2⟩
end
end PySem
namespace K84
open L2 PySem PySem.Spec PyProof.Rows
theorem Cell.text {H H' : Hp} (e : TExt H H') {v : V} {c : C2} (h : Cell H v c) : Cell H' v c := by
  obtain ⟨a, h1, h2⟩ := h; exact ⟨a, h1, e _ _ h2⟩
theorem Cell.inj {H : Hp} {v : V} {c d : C2} (h : Cell H v c) (h' : Cell H v d) : c = d := by
  obtain ⟨a, rfl, ha⟩ := h
  obtain ⟨b, hb, hb2⟩ := h'
  cases hb
  rw [ha] at hb2
  injection hb2 with hb2
  injection hb2 with hb2
  injection hb2 with h3 h4
  injection h3 with h3
  injection h4 with h4 _
  injection h4 with h4
  exact Prod.ext h3 h4
theorem Tup.text {α : Type} {H H' : Hp} (e : TExt H H') {R R' : V → α → Prop} (hr : ∀ v x, R v x → R' v x) {v : V} {xs : List α} (h : Tup H R v xs) : Tup H' R' v xs := by
  obtain ⟨a, vs, h1, h2, h3⟩ := h; exact ⟨a, vs, h1, e _ _ h2, h3.kImp hr⟩
theorem Row.text {H H' : Hp} (e : TExt H H') {v : V} {cs : List C2} (h : Row H v cs) : Row H' v cs := Tup.text e (fun _ _ => Cell.text e) h
/-- a plain rule -/
abbrev Plain (H : Hp) : V → List (List C2) → Prop := Tup H (Row H)
theorem Plain.text {H H' : Hp} (e : TExt H H') {v : V} {P : List (List C2)} (h : Plain H v P) : Plain H' v P := Tup.text e (fun _ _ => Row.text e) h
/-- a pair of cells -/
def Pair (H : Hp) (v : V) (p : C2 × C2) : Prop := ∃ a u w, v = .ref a ∧ H a = some (.tup [u, w]) ∧ Cell H u p.1 ∧ Cell H w p.2
theorem Pair.text {H H' : Hp} (e : TExt H H') {v : V} {p : C2 × C2} (h : Pair H v p) : Pair H' v p := by
  obtain ⟨a, u, w, h1, h2, h3, h4⟩ := h; exact ⟨a, u, w, h1, e _ _ h2, h3.text e, h4.text e⟩
/-- three whole numbers -/
def T3 (H : Hp) (v : V) (p : Int × Int × Int) : Prop := ∃ a, v = .ref a ∧ H a = some (.tup [.int p.1, .int p.2.1, .int p.2.2])
theorem T3.text {H H' : Hp} (e : TExt H H') {v : V} {p : Int × Int × Int} (h : T3 H v p) : T3 H' v p := by
  obtain ⟨a, h1, h2⟩ := h; exact ⟨a, h1, e _ _ h2⟩
/-- a list of things, as it stands -/
def Lst {α : Type} (H : Hp) (R : V → α → Prop) (v : V) (xs : List α) : Prop := ∃ a vs, v = .ref a ∧ H a = some (.lst vs) ∧ Paired R vs xs
abbrev LCells (H : Hp) : V → List C2 → Prop := Lst H (Cell H)
theorem Lst.same {α : Type} {H H' : Hp} (e : Same H H') {R R' : V → α → Prop} (hr : ∀ v x, R v x → R' v x) {v : V} {xs : List α} (h : Lst H R v xs) : Lst H' R' v xs := by
  obtain ⟨a, vs, h1, h2, h3⟩ := h; exact ⟨a, vs, h1, e _ _ h2, h3.kImp hr⟩
theorem LCells.same {H H' : Hp} (e : Same H H') {v : V} {cs : List C2} (h : LCells H v cs) : LCells H' v cs := Lst.same e (fun _ _ => Cell.text e.text) h
/-- an int -/
def IsI (v : V) (n : Int) : Prop := v = .int n
def IsB (v : V) (b : Bool) : Prop := v = .bl b

theorem ints_of : ∀ {l : List V} {m : List Int}, Paired IsI l m → l = m.map V.int := fun h => h.kEqF (f := V.int) fun _ _ e => e
theorem bools_of : ∀ {l : List V} {m : List Bool}, Paired IsB l m → l = m.map V.bl := fun h => h.kEqF (f := V.bl) fun _ _ e => e

/-- stays while all that is tracked stays -/
def Mono (R : Hp → V → Prop) : Prop := ∀ H H' v, Same H H' → R H v → R H' v
def Ev (te : TE) (σ : L2.St) (H : Hp) (R : Hp → V → Prop) : Prop := ∀ H1, Same H H1 → ∀ Q : VK, (∀ v H2, Same H1 H2 → R H2 v → Q v H2) → te σ H1 Q
def EvT (tt : TT) (σ : L2.St) (H : Hp) (b : Bool) : Prop := ∀ H1, Same H H1 → ∀ Q : Bool → Hp → Prop, (∀ H2, Same H1 H2 → Q b H2) → tt σ H1 Q
def EvA (ta : TA) (σ : L2.St) (H : Hp) (R : Hp → List V → Prop) : Prop := ∀ H1, Same H H1 → ∀ Q : List V → Hp → Prop, (∀ vs H2, Same H1 H2 → R H2 vs → Q vs H2) → ta σ H1 Q
abbrev EvI (te : TE) (σ : L2.St) (H : Hp) (n : Int) : Prop := Ev te σ H (fun _ v => v = .int n)
abbrev EvB (te : TE) (σ : L2.St) (H : Hp) (b : Bool) : Prop := Ev te σ H (fun _ v => v = .bl b)
abbrev EvC (te : TE) (σ : L2.St) (H : Hp) (c : C2) : Prop := Ev te σ H (fun H v => Cell H v c)
section
variable {K : PySem.W.Frag} {σ : L2.St} {H H' : Hp} {ta tb te : TE} {t u : TT} {R Ra Rb : Hp → V → Prop} {i j n m : Int} {c d : C2} {b b' : Bool}
theorem Ev.mono (e : Same H H') (h : Ev te σ H R) : Ev te σ H' R := fun H1 a Q q => h H1 (e.trans a) Q q
theorem EvT.mono (e : Same H H') (h : EvT t σ H b) : EvT t σ H' b := fun H1 a Q q => h H1 (e.trans a) Q q
theorem EvA.mono {tr : TA} {R : Hp → List V → Prop} (e : Same H H') (h : EvA tr σ H R) : EvA tr σ H' R := fun H1 a Q q => h H1 (e.trans a) Q q
theorem Ev.imp {R' : Hp → V → Prop} (h : Ev te σ H R) (f : ∀ H' v, Same H H' → R H' v → R' H' v) : Ev te σ H R' := fun H1 e Q q => h H1 e Q fun v H2 e2 r => q v H2 e2 (f H2 v (e.trans e2) r)
theorem EvI.to (h : EvI te σ H n) (e : n = m) : EvI te σ H m := e ▸ h
theorem EvC.to (h : EvC te σ H c) (e : c = d) : EvC te σ H d := e ▸ h
theorem EvT.to (h : EvT t σ H b) (e : b = b') : EvT t σ H b' := e ▸ h
theorem EvB.to (h : EvB te σ H b) (e : b = b') : EvB te σ H b' := e ▸ h
theorem mono_cell : Mono (fun H v => Cell H v c) := fun _ _ _ e h => h.text e.text
theorem mono_eq {v : V} : Mono (fun _ u => u = v) := fun _ _ _ _ h => h
theorem ev_var {k : Nat} {v : V} (h : σ[k]? = some (some v)) (r : ∀ H', Same H H' → R H' v) : Ev (tVar k) σ H R := fun H1 e _ q => ⟨v, h, q v H1 (Same.refl H1) (r H1 e)⟩
theorem ev_varM {k : Nat} {v : V} (h : σ[k]? = some (some v)) (hm : Mono R) (r : R H v) : Ev (tVar k) σ H R := ev_var h fun H' e => hm _ _ _ e r
theorem evI_var {k : Nat} (h : σ[k]? = some (some (.int n))) : EvI (tVar k) σ H n := ev_var h fun _ _ => rfl
theorem evV_var {k : Nat} {v : V} (h : σ[k]? = some (some v)) : Ev (tVar k) σ H (fun _ u => u = v) := ev_var h fun _ _ => rfl
theorem evC_var {k : Nat} {v : V} (h : σ[k]? = some (some v)) (r : Cell H v c) : EvC (tVar k) σ H c := ev_varM h mono_cell r
theorem evI_c : EvI (tC (.int n)) σ H n := fun H1 _ _ q => q _ H1 (Same.refl H1) rfl
theorem evB_c : EvB (tC (.bl b)) σ H b := fun H1 _ _ q => q _ H1 (Same.refl H1) rfl
/-- an operator: the first operand's word must stay -/
theorem ev_op {r : R2} (ha : Ev ta σ H Ra) (hb : Ev tb σ H Rb) (hm : Mono Ra) (hr : ∀ H1 x y, Same H H1 → Ra H1 x → Rb H1 y → ∀ Q : VK, (∀ v H2, Same H1 H2 → R H2 v → Q v H2) → r x y H1 Q) : Ev (tOp r ta tb) σ H R := fun H1 e Q q =>
  ha H1 e _ fun x H2 e2 hx => hb H2 (e.trans e2) _ fun y H3 e3 hy => hr H3 x y ((e.trans e2).trans e3) (hm _ _ _ e3 hx) hy Q fun v H4 e4 hv => q v H4 ((e2.trans e3).trans e4) hv
theorem evI_I0 {g : Int → Int → Int} (ha : EvI ta σ H i) (hb : EvI tb σ H j) : EvI (tOp (rI0 fun i j => .int (g i j)) ta tb) σ H (g i j) :=
  ev_op ha hb mono_eq fun H1 x y _ hx hy Q q => ⟨i, j, hx, hy, q _ H1 (Same.refl H1) rfl⟩
theorem evI_IC {C : Int → Int → Prop} {g : Int → Int → Int} (ha : EvI ta σ H i) (hb : EvI tb σ H j) (hc : C i j) : EvI (tOp (rI C fun i j => .int (g i j)) ta tb) σ H (g i j) :=
  ev_op ha hb mono_eq fun H1 x y _ hx hy Q q => ⟨i, j, hx, hy, hc, q _ H1 (Same.refl H1) rfl⟩
theorem evI_add (ha : EvI ta σ H i) (hb : EvI tb σ H j) : EvI (tOp rAddI ta tb) σ H (i + j) := evI_I0 ha hb
theorem evI_sub (ha : EvI ta σ H i) (hb : EvI tb σ H j) : EvI (tOp rSubI ta tb) σ H (i - j) := evI_I0 ha hb
theorem evI_mul (ha : EvI ta σ H i) (hb : EvI tb σ H j) (hc : CMul i j) : EvI (tOp rMulI ta tb) σ H (i * j) := evI_IC ha hb hc
theorem evI_div (ha : EvI ta σ H i) (hb : EvI tb σ H j) (hc : CDivN i j) : EvI (tOp rDivI ta tb) σ H (i.fdiv j) := evI_IC ha hb hc
theorem evI_mod (ha : EvI ta σ H i) (hb : EvI tb σ H j) (hc : 0 < j) : EvI (tOp rModI ta tb) σ H (i % j) := evI_IC (C := fun _ j => 0 < j) ha hb hc
theorem evI_modN (ha : EvI ta σ H i) (hb : EvI tb σ H j) (hc : j ≠ 0) : EvI (tOp rModN ta tb) σ H (i.fmod j) := evI_IC (C := fun _ j => j ≠ 0) ha hb hc
theorem evI_neg (ha : EvI ta σ H i) : EvI (tUn rNegI ta) σ H (-i) := fun H1 e Q q => ha H1 e _ fun x H2 e2 hx => ⟨i, hx, q _ H2 e2 rfl⟩
theorem evB_cmp {g : Int → Int → Bool} (ha : EvI ta σ H i) (hb : EvI tb σ H j) : EvB (tOp (rI0 fun i j => .bl (g i j)) ta tb) σ H (g i j) :=
  ev_op ha hb mono_eq fun H1 x y _ hx hy Q q => ⟨i, j, hx, hy, q _ H1 (Same.refl H1) rfl⟩
theorem evB_lt (ha : EvI ta σ H i) (hb : EvI tb σ H j) : EvB (tOp rLtI ta tb) σ H (decide (i < j)) := evB_cmp ha hb
theorem evB_le (ha : EvI ta σ H i) (hb : EvI tb σ H j) : EvB (tOp rLeI ta tb) σ H (decide (i ≤ j)) := evB_cmp ha hb
theorem evB_gt (ha : EvI ta σ H i) (hb : EvI tb σ H j) : EvB (tOp rGtI ta tb) σ H (decide (j < i)) := evB_cmp ha hb
theorem evB_ge (ha : EvI ta σ H i) (hb : EvI tb σ H j) : EvB (tOp rGeI ta tb) σ H (decide (j ≤ i)) := evB_cmp ha hb
theorem int_eq_dec (i j : Int) : decide (V.int i = V.int j) = decide (i = j) := by
  by_cases h : i = j
  · subst h; simp
  · have : ¬ V.int i = V.int j := fun e => h (V.int.inj e)
    rw [decide_eq_false h, decide_eq_false this]
theorem evB_eq (ha : EvI ta σ H i) (hb : EvI tb σ H j) : EvB (tOp rEq ta tb) σ H (decide (i = j)) :=
  ev_op ha hb mono_eq fun H1 x y _ hx hy Q q => by subst hx; subst hy; exact ⟨rfl, q _ H1 (Same.refl H1) (by rw [int_eq_dec])⟩
theorem evB_ne (ha : EvI ta σ H i) (hb : EvI tb σ H j) : EvB (tOp rNe ta tb) σ H (!decide (i = j)) :=
  ev_op ha hb mono_eq fun H1 x y _ hx hy Q q => by subst hx; subst hy; exact ⟨rfl, q _ H1 (Same.refl H1) (by rw [int_eq_dec])⟩
theorem evT_test (h : EvB te σ H b) : EvT (tTest te) σ H b := fun H1 e _ q => h H1 e _ fun _ H2 e2 r => ⟨b, r, q H2 e2⟩
theorem evT_B (h : EvB te σ H b) : EvT (tB te) σ H b := fun H1 e _ q => h H1 e _ fun _ H2 e2 r => ⟨b, r, q H2 e2⟩
theorem evT_not (h : EvT t σ H b) : EvT (tNot t) σ H (!b) := fun H1 e _ q => h H1 e _ fun H2 e2 => q H2 e2
theorem evT_yes : EvT tYes σ H true := fun H1 _ _ q => q H1 (Same.refl H1)
theorem evT_and (h1 : EvT t σ H b) (h2 : b = true → EvT u σ H b') : EvT (tAnd t u) σ H (b && b') := fun H1 e Q q => h1 H1 e _ fun H2 e2 => by
  cases b with
  | true => exact h2 rfl H2 (e.trans e2) Q fun H3 e3 => q H3 (e2.trans e3)
  | false => exact q H2 e2
theorem evT_or (h1 : EvT t σ H b) (h2 : b = false → EvT u σ H b') : EvT (tOr t u) σ H (b || b') := fun H1 e Q q => h1 H1 e _ fun H2 e2 => by
  cases b with
  | true => exact q H2 e2
  | false => exact h2 rfl H2 (e.trans e2) Q fun H3 e3 => q H3 (e2.trans e3)
theorem evB_andV (h1 : EvB ta σ H b) (h2 : b = true → EvB tb σ H b') : EvB (tAndV ta tb) σ H (b && b') := fun H1 e Q q => h1 H1 e _ fun _ H2 e2 r => ⟨b, r, by
  cases b with
  | true => exact h2 rfl H2 (e.trans e2) Q fun v H3 e3 r3 => q v H3 (e2.trans e3) r3
  | false => exact q _ H2 e2 rfl⟩
/-- a < b < c -/
theorem evT_chain {r r' : R2} {tc : TE} (ha : EvI ta σ H i) (hb : EvI tb σ H j) (hc : b = true → EvI tc σ H n) (h1 : ∀ H1 (Q : VK), Q (.bl b) H1 → r (.int i) (.int j) H1 Q) (h2 : b = true → ∀ H1 (Q : VK), Q (.bl b') H1 → r' (.int j) (.int n) H1 Q) :
    EvT (tTest (tChain r r' ta tb tc)) σ H (b && b') := fun H1 e Q q => ha H1 e _ fun x H2 e2 hx => hb H2 (e.trans e2) _ fun y H3 e3 hy => by
  subst hx; subst hy
  refine h1 H3 _ ⟨b, rfl, ?_⟩
  cases b with
  | true =>
    rw [if_pos rfl]
    refine hc rfl H3 ((e.trans e2).trans e3) _ fun z H4 e4 hz => ?_
    subst hz
    exact h2 rfl H4 _ ⟨b', rfl, q H4 ((e2.trans e3).trans e4)⟩
  | false =>
    rw [if_neg (by decide)]
    exact ⟨false, rfl, q H3 (e2.trans e3)⟩
theorem evA_nil : EvA tNil σ H (fun _ vs => vs = []) := fun H1 _ _ q => q _ H1 (Same.refl H1) rfl
theorem evA_cons {tr : TA} {Rr : Hp → List V → Prop} (h : Ev te σ H R) (hm : Mono R) (hr : EvA tr σ H Rr) : EvA (tCons te tr) σ H (fun H vs => ∃ v r, vs = v :: r ∧ R H v ∧ Rr H r) := fun H1 e _ q =>
  h H1 e _ fun v H2 e2 hv => hr H2 (e.trans e2) _ fun vs H3 e3 hvs => q _ H3 (e2.trans e3) ⟨v, vs, rfl, hm _ _ _ e3 hv, hvs⟩
theorem evA_1 (h : Ev te σ H R) : EvA (tCons te tNil) σ H (fun H vs => ∃ v, vs = [v] ∧ R H v) := fun H1 e _ q => h H1 e _ fun v H2 e2 hv => q _ H2 e2 ⟨v, rfl, hv⟩
theorem evA_2 (ha : Ev ta σ H Ra) (hm : Mono Ra) (hb : Ev tb σ H Rb) : EvA (tCons ta (tCons tb tNil)) σ H (fun H vs => ∃ v u, vs = [v, u] ∧ Ra H v ∧ Rb H u) := fun H1 e _ q =>
  ha H1 e _ fun v H2 e2 hv => hb H2 (e.trans e2) _ fun u H3 e3 hu => q _ H3 (e2.trans e3) ⟨v, u, rfl, hm _ _ _ e3 hv, hu⟩
/-- a new tuple -/
theorem ev_tup {tr : TA} {Rr : Hp → List V → Prop} (h : EvA tr σ H Rr) (hl : ∀ H' vs, Rr H' vs → vs.length ≤ 1000) (hr : ∀ H' vs p, Rr H' vs → H' p = none → H p = none → R (upd H' p (.tup vs)) (.ref p)) : Ev (tTup tr) σ H R := fun H1 e Q q =>
  h H1 e _ fun vs H2 e2 hv => ⟨Nat.le_of_lt (small1000 (hl H2 vs hv)), fun p hp => q _ _ (e2.trans (same_new hp)) (hr H2 vs p hv hp ((e.trans e2).free hp))⟩
theorem evC_tup (ha : EvI ta σ H i) (hb : EvI tb σ H j) : EvC (tTup (tCons ta (tCons tb tNil))) σ H (i, j) :=
  ev_tup (evA_2 ha mono_eq hb) (fun _ vs h => by obtain ⟨v, u, rfl, _⟩ := h; show 2 ≤ 1000; decide) fun H' vs p h hp _ => by
    obtain ⟨v, u, rfl, rfl, rfl⟩ := h
    exact ⟨p, rfl, upd_same⟩
theorem evP_tup (ha : EvC ta σ H c) (hb : EvC tb σ H d) : Ev (tTup (tCons ta (tCons tb tNil))) σ H (fun H v => Pair H v (c, d)) :=
  ev_tup (evA_2 ha mono_cell hb) (fun _ vs h => by obtain ⟨v, u, rfl, _⟩ := h; show 2 ≤ 1000; decide) fun H' vs p h hp _ => by
    obtain ⟨v, u, rfl, h1, h2⟩ := h
    exact ⟨p, v, u, rfl, upd_same, h1.text (text_new hp), h2.text (text_new hp)⟩
theorem atI_0 {α : Type} {xs : List α} {x : α} (h : xs[0]? = some x) : atI xs 0 = some x := atI_nat (j := 0) h
/-- a tuple's item -/
theorem ev_ixT {p : Addr} {xs : List V} {k : Nat} {v : V} (ha : Ev ta σ H (fun _ u => u = .ref p)) (hx : H p = some (.tup xs)) (hk : xs[k]? = some v) (hb : EvI tb σ H (k : Int)) : Ev (tOp (rIxT K) ta tb) σ H (fun _ u => u = v) :=
  ev_op ha hb mono_eq fun H1 x y e h1 h2 Q q => ⟨p, xs, k, v, h1, h2, SqT.of (e _ _ hx), atI_nat hk, q _ H1 (Same.refl H1) rfl⟩
theorem evI_fst (ha : EvC ta σ H c) : EvI (tOp (rIxT K) ta (tC (.int 0))) σ H c.1 :=
  ev_op ha evI_c mono_cell fun H1 x y _ h1 h2 Q q => by
    obtain ⟨a, rfl, ho⟩ := h1
    exact ⟨a, _, 0, _, rfl, h2, SqT.of ho, atI_nat (j := 0) rfl, q _ H1 (Same.refl H1) rfl⟩
theorem evI_snd (ha : EvC ta σ H c) : EvI (tOp (rIxT K) ta (tC (.int 1))) σ H c.2 :=
  ev_op ha evI_c mono_cell fun H1 x y _ h1 h2 Q q => by
    obtain ⟨a, rfl, ho⟩ := h1
    exact ⟨a, _, 1, _, rfl, h2, SqT.of ho, atI_nat (j := 1) rfl, q _ H1 (Same.refl H1) rfl⟩
end
end K84
namespace K84
open L2 PySem PySem.Spec PyProof.Rows

theorem wipe1 (σ : L2.St) (j : Nat) : wipe σ [j] = σ.set j none := rfl
theorem wipe1_set (σ : L2.St) (j : Nat) (x : Option V) : (wipe σ [j]).set j x = σ.set j x := by rw [wipe1, List.set_set]
theorem wipe2 (σ : L2.St) (i j : Nat) : wipe σ [i, j] = (σ.set j none).set i none := rfl
theorem wipe2_set (σ : L2.St) {i j : Nat} (h : i ≠ j) (x y : Option V) : ((wipe σ [i, j]).set i x).set j y = (σ.set i x).set j y := by
  rw [wipe2, List.set_set, List.set_comm _ _ (Ne.symm h), List.set_set, List.set_comm _ _ h]
theorem wipe2_again (σ : L2.St) {i j : Nat} (h : i ≠ j) (x y : Option V) : wipe ((σ.set i x).set j y) [i, j] = wipe σ [i, j] := by
  rw [wipe2, wipe2, List.set_set, List.set_comm _ _ h, List.set_set]

/-- stays while all tuples stay -/
def TMono {β : Type} (R : Hp → V → β → Prop) : Prop := ∀ H H' v b, TExt H H' → R H v b → R H' v b
theorem TMono.mono {β : Type} {R : Hp → V → β → Prop} (h : TMono R) (b : β) : Mono (fun H v => R H v b) := fun H H' v e r => h H H' v b e.text r
theorem tm_cell : TMono Cell := fun _ _ _ _ e h => h.text e
theorem tm_row : TMono (fun H v (cs : List C2) => Row H v cs) := fun _ _ _ _ e h => h.text e
theorem tm_plain : TMono (fun H v (P : List (List C2)) => Plain H v P) := fun _ _ _ _ e h => h.text e
theorem tm_pair : TMono Pair := fun _ _ _ _ e h => h.text e
theorem tm_int : TMono (fun _ => IsI) := fun _ _ _ _ _ h => h
theorem tm_bool : TMono (fun _ => IsB) := fun _ _ _ _ _ h => h
/-- a list that is new as against H0 -/
def NewL {β : Type} (H0 : Hp) (Ry : Hp → V → β → Prop) (bs : List β) : Hp → V → Prop := fun H' v => ∃ q ys, v = .ref q ∧ H0 q = none ∧ H' q = some (.lst ys) ∧ Paired (Ry H') ys bs
theorem NewL.mono {β : Type} {H0 : Hp} {Ry : Hp → V → β → Prop} (h : TMono Ry) (bs : List β) : Mono (NewL H0 Ry bs) := fun H H' v e ⟨q, ys, h1, h2, h3, h4⟩ => ⟨q, ys, h1, h2, e _ _ h3, h4.kImp fun x y r => h _ _ _ _ e.text r⟩
theorem NewL.lst {β : Type} {H0 H' : Hp} {Ry : Hp → V → β → Prop} {bs : List β} {v : V} (h : NewL H0 Ry bs H' v) : Lst H' (Ry H') v bs := by
  obtain ⟨q, ys, h1, _, h3, h4⟩ := h; exact ⟨q, ys, h1, h3, h4⟩

section
variable {K : PySem.W.Frag} {σ : L2.St} {H : Hp}
/-- the turns of a comprehension whose parts change nothing that stood -/
theorem lc_pure {J : It} {n : Nat} {G : Hp → Prop} {Y : Nat → Hp → V → Hp → Prop} (w : Walk J n G Y) {g : TG} {tt : TT} {te : TE} {vs : List Nat} {H1 : Hp} {D : Addr} {Qd : Hp → Prop} (Acc : Nat → Hp → List V → Prop)
    (hA : ∀ i H H' ys, TExt H H' → Acc i H ys → Acc i H' ys) (h0 : ∀ H', Same H1 H' → Acc 0 H' []) (hG : ∀ H', Same H1 H' → G H') (hlen : ∀ i H' ys, Acc i H' ys → ys.length ≤ i) (hn : n < 16000000)
    (hs : ∀ i x H2 H3, i < n → Same H1 H2 → Y i H2 x H3 → Same H2 H3 ∧ g x (wipe σ vs) H3 fun σ2 H4 => wipe σ2 vs = wipe σ vs ∧ Same H3 H4 ∧ ∃ b, EvT tt σ2 H4 b ∧
      (b = false → ∀ H5 ys, Same H4 H5 → Acc i H5 ys → Acc (i + 1) H5 ys) ∧ (b = true → Ev te σ2 H4 (fun H5 y => ∀ ys, Acc i H5 ys → Acc (i + 1) H5 (ys ++ [y]))))
    (gm : ∀ x σ0 H0 Q Q', (∀ σ2 H2, Q σ2 H2 → Q' σ2 H2) → g x σ0 H0 Q → g x σ0 H0 Q')
    (hD : H1 D = none) (hd : ∀ H' ys, Same H1 H' → H' D = some (.lst ys) → Acc n H' ys → Qd H') :
    ∃ W : Nat → Nat → Hp → Prop, (∃ m, W 0 m (upd H1 D (.lst []))) ∧ ∀ i m H, W i m H →
      (J.stop i H ∧ Qd H) ∨ (J.go i H ∧ ∃ Nx : Hp → Prop, (∀ H', Nx H' → ∃ m', m' < m ∧ W (i + 1) m' H') ∧ ∀ x H', J.yld i H x H' → g x (wipe σ vs) H' fun σ2 H2 => wipe σ2 vs = wipe σ vs ∧ tt σ2 H2 fun b H3 =>
        if b = true then te σ2 H3 fun y H4 => ∃ acc, H4 D = some (.lst acc) ∧ acc.length < sizeLine ∧ Nx (upd H4 D (.lst (acc ++ [y]))) else Nx H3) := by
  refine lc_it w (fun i H => Same H1 H ∧ ∃ ys, H D = some (.lst ys) ∧ Acc i H ys) ⟨same_new hD, [], upd_same, h0 _ (same_new hD)⟩ (fun i H _ h => hG H h.1) ?_ ?_
  · rintro i x H2 H3 hi ⟨e2, ys, hy, hacc⟩ hY
    obtain ⟨e3, hg⟩ := hs i x H2 H3 hi e2 hY
    refine gm _ _ _ _ _ ?_ hg
    rintro σ2 H4 ⟨hw, e4, b, ht, hf, he⟩
    refine ⟨hw, ht H4 (Same.refl H4) _ fun H5 e5 => ?_⟩
    have e25 : Same H2 H5 := (e3.trans e4).trans e5
    have l5 := e25 _ _ hy
    have a5 := hA i H2 H5 ys e25.text hacc
    cases b with
    | false => exact ⟨e2.trans e25, ys, l5, hf rfl H5 ys e5 a5⟩
    | true =>
      refine he rfl H5 e5 _ fun y H6 e6 hy6 => ⟨ys, e6 _ _ l5, ?_, ?_, ys ++ [y], upd_same, ?_⟩
      · have := hlen i H5 ys a5
        rw [sizeLine_eq]; omega
      · exact ((e2.trans e25).trans e6).mut hD
      · exact hA _ H6 _ _ (text_lst (e6 _ _ l5)) (hy6 ys (hA i H5 H6 ys e6.text a5))
  · rintro H2 ⟨e2, ys, hy, hacc⟩
    exact hd H2 ys e2 hy hacc

/-- what a filtering, mapping comprehension has made -/
theorem filt_yes {α β : Type} {p : α → Bool} {f : α → β} {ds : List α} {i : Nat} {d : α} (h : ds[i]? = some d) (hp : p d = true) : ((ds.take (i + 1)).filter p).map f = ((ds.take i).filter p).map f ++ [f d] := by
  rw [List.take_add_one, h]
  simp [List.filter_append, hp]
theorem filt_no {α β : Type} {p : α → Bool} {f : α → β} {ds : List α} {i : Nat} {d : α} (h : ds[i]? = some d) (hp : p d = false) : ((ds.take (i + 1)).filter p).map f = ((ds.take i).filter p).map f := by
  rw [List.take_add_one, h]
  simp [List.filter_append, hp]
theorem filt_all {α : Type} (ds : List α) : (ds.filter fun _ => true) = ds := List.filter_eq_self.mpr fun _ _ => rfl
theorem gName_mono {j : Nat} : ∀ (x : V) (σ0 : L2.St) (H0 : Hp) (Q Q' : L2.St → Hp → Prop), (∀ σ2 H2, Q σ2 H2 → Q' σ2 H2) → gName j x σ0 H0 Q → gName j x σ0 H0 Q' := fun _ _ _ _ _ h q => h _ _ q
theorem gTup2_mono {i j : Nat} : ∀ (x : V) (σ0 : L2.St) (H0 : Hp) (Q Q' : L2.St → Hp → Prop), (∀ σ2 H2, Q σ2 H2 → Q' σ2 H2) → gTup K 2 (gCons (gName i) (gCons (gName j) gNil)) x σ0 H0 Q → gTup K 2 (gCons (gName i) (gCons (gName j) gNil)) x σ0 H0 Q' := by
  rintro x σ0 H0 Q Q' h ⟨a, xs, h1, h2, h3, v, r, rfl, w, r', rfl, rfl, q⟩
  exact ⟨a, _, h1, h2, h3, v, _, rfl, w, _, rfl, rfl, h _ _ q⟩
/-- a, b = a tuple of two -/
theorem g_two {i j : Nat} {x : V} {σ0 : L2.St} {H0 : Hp} {Q : L2.St → Hp → Prop} {a : Addr} {u w : V} (hx : x = .ref a) (ho : H0 a = some (.tup [u, w])) (q : Q ((σ0.set i (some u)).set j (some w)) H0) : gTup K 2 (gCons (gName i) (gCons (gName j) gNil)) x σ0 H0 Q :=
  ⟨a, _, hx, SqT.of ho, rfl, u, _, rfl, w, _, rfl, rfl, q⟩
theorem g_cell {i j : Nat} {x : V} {σ0 : L2.St} {H0 : Hp} {Q : L2.St → Hp → Prop} {c : C2} (h : Cell H0 x c) (q : Q ((σ0.set i (some (.int c.1))).set j (some (.int c.2))) H0) : gTup K 2 (gCons (gName i) (gCons (gName j) gNil)) x σ0 H0 Q := by
  obtain ⟨a, h1, h2⟩ := h; exact g_two h1 h2 q
theorem g_three {i j k : Nat} {x : V} {σ0 : L2.St} {H0 : Hp} {Q : L2.St → Hp → Prop} {p : Int × Int × Int} (h : T3 H0 x p) (q : Q (((σ0.set i (some (.int p.1))).set j (some (.int p.2.1))).set k (some (.int p.2.2))) H0) :
    gTup K 3 (gCons (gName i) (gCons (gName j) (gCons (gName k) gNil))) x σ0 H0 Q := by
  obtain ⟨a, h1, h2⟩ := h
  exact ⟨a, _, h1, SqT.of h2, rfl, _, _, rfl, _, _, rfl, _, _, rfl, rfl, q⟩

variable {α β : Type} {Rx : Hp → V → α → Prop} {Ry : Hp → V → β → Prop} {ds : List α} {xs : List V} {p : α → Bool} {f : α → β} {tl te : TE} {tt : TT}
/-- [elt for x in xs if t], over a walk whose i-th item is told by ds -/
theorem ev_lcW {J : It} {G : Hp → Prop} {Y : Nat → Hp → V → Hp → Prop} {wi : TI} {g : TG} {vs : List Nat} (hwi : ∀ H1, Same H H1 → ∀ R : It → Hp → Prop, (∀ H2, Same H1 H2 → R J H2) → wi σ H1 R) (w : Walk J ds.length G Y) (hG : ∀ H', Same H H' → G H') (tmy : TMono Ry) (hz : ds.length < 16000000)
    (gm : ∀ x σ0 H0 Q Q', (∀ σ2 H2, Q σ2 H2 → Q' σ2 H2) → g x σ0 H0 Q → g x σ0 H0 Q')
    (hs : ∀ i d x H2 H3, ds[i]? = some d → Same H H2 → Y i H2 x H3 → Same H2 H3 ∧ g x (wipe σ vs) H3 fun σ2 H4 => wipe σ2 vs = wipe σ vs ∧ Same H3 H4 ∧ EvT tt σ2 H4 (p d) ∧ (p d = true → Ev te σ2 H4 (fun H5 y => Ry H5 y (f d)))) :
    Ev (tLc wi g tt te vs) σ H (NewL H Ry ((ds.filter p).map f)) := fun H1 e1 Q q => by
  refine hwi H1 e1 _ fun H2 e2 D hD => ?_
  refine lc_pure w (fun i H' ys => Paired (Ry H') ys (((ds.take i).filter p).map f)) (fun i H H' ys e h => h.kImp fun x y r => tmy _ _ _ _ e r) (fun _ _ => .nil) (fun H' e => hG H' ((e1.trans e2).trans e)) (fun i H' ys h => ?_) hz ?_ gm hD fun H' ys e hy h => ?_
  · rw [h.kLen, List.length_map]
    exact Nat.le_trans (List.length_filter_le _ _) (by rw [List.length_take]; omega)
  · intro i x H3 H4 hi e3 hY
    have hd : ds[i]? = some ds[i] := List.getElem?_eq_getElem hi
    obtain ⟨e4, hg⟩ := hs i _ x H3 H4 hd ((e1.trans e2).trans e3) hY
    refine ⟨e4, gm _ _ _ _ _ ?_ hg⟩
    rintro σ2 H5 ⟨hw, e5, ht, he⟩
    refine ⟨hw, e5, p ds[i], ht, fun hb H6 ys e6 h => ?_, fun hb => (he hb).imp fun H6 y e6 hy ys h => ?_⟩
    · rw [filt_no hd hb]; exact h
    · rw [filt_yes hd hb]; exact h.kSnoc hy
  · refine q _ H' (e2.trans e) ⟨D, ys, rfl, (e1.trans e2).free hD, hy, ?_⟩
    rw [List.take_length] at h
    exact h
theorem wi_list {a : Addr} (hl : Ev tl σ H (fun _ v => v = .ref a)) (hx : H a = some (.lst xs)) : ∀ H1, Same H H1 → ∀ R : It → Hp → Prop, (∀ H2, Same H1 H2 → R (Itl K a) H2) → iList K tl σ H1 R := fun H1 e R q =>
  hl H1 e _ fun v H2 e2 hv => ⟨a, hv, ⟨xs, SqL.of ((e.trans e2) _ _ hx)⟩, q H2 e2⟩
theorem wi_tup {a : Addr} (hl : Ev tl σ H (fun _ v => v = .ref a)) (hx : H a = some (.tup xs)) : ∀ H1, Same H H1 → ∀ R : It → Hp → Prop, (∀ H2, Same H1 H2 → R (Itt K a) H2) → iTup K tl σ H1 R := fun H1 e R q =>
  hl H1 e _ fun v H2 e2 hv => ⟨a, hv, ⟨xs, SqT.of ((e.trans e2) _ _ hx)⟩, q H2 e2⟩
theorem walkL' {a : Addr} (hp : xs.length = ds.length) : Walk (Itl K a) ds.length (fun H => SqL K H a xs) (YAt xs) := hp ▸ walk_list
theorem walkT' {a : Addr} (hp : xs.length = ds.length) : Walk (Itt K a) ds.length (fun H => SqT K H a xs) (YAt xs) := hp ▸ walk_tup
/-- over a list, the target a name -/
theorem ev_lcL {a : Addr} {j : Nat} (hl : Ev tl σ H (fun _ v => v = .ref a)) (hx : H a = some (.lst xs)) (hp : Paired (Rx H) xs ds) (tmx : TMono Rx) (tmy : TMono Ry) (hz : ds.length < 16000000)
    (ht : ∀ x d H', Same H H' → d ∈ ds → Rx H' x d → EvT tt (σ.set j (some x)) H' (p d)) (he : ∀ x d H', Same H H' → d ∈ ds → Rx H' x d → p d = true → Ev te (σ.set j (some x)) H' (fun H v => Ry H v (f d))) :
    Ev (tLc (iList K tl) (gName j) tt te [j]) σ H (NewL H Ry ((ds.filter p).map f)) := by
  refine ev_lcW (G := fun H => SqL K H a xs) (wi_list hl hx) (walkL' hp.kLen) (fun H' e => SqL.of (e _ _ hx)) tmy hz gName_mono ?_
  rintro i d x H2 H3 hd e2 ⟨rfl, hY⟩
  obtain ⟨d', h1, h2⟩ := hp.kGetL hY
  rw [hd] at h1; cases h1
  have r := tmx _ _ _ _ e2.text h2
  refine ⟨Same.refl _, ?_⟩
  show wipe ((wipe σ [j]).set j (some x)) [j] = wipe σ [j] ∧ _
  rw [wipe1_set]
  exact ⟨by rw [wipe1, wipe1, List.set_set], Same.refl _, ht x d H3 e2 (List.mem_of_getElem? hd) r, he x d H3 e2 (List.mem_of_getElem? hd) r⟩
/-- over a tuple, the target a name -/
theorem ev_lcT {a : Addr} {j : Nat} (hl : Ev tl σ H (fun _ v => v = .ref a)) (hx : H a = some (.tup xs)) (hp : Paired (Rx H) xs ds) (tmx : TMono Rx) (tmy : TMono Ry) (hz : ds.length < 16000000)
    (ht : ∀ x d H', Same H H' → d ∈ ds → Rx H' x d → EvT tt (σ.set j (some x)) H' (p d)) (he : ∀ x d H', Same H H' → d ∈ ds → Rx H' x d → p d = true → Ev te (σ.set j (some x)) H' (fun H v => Ry H v (f d))) :
    Ev (tLc (iTup K tl) (gName j) tt te [j]) σ H (NewL H Ry ((ds.filter p).map f)) := by
  refine ev_lcW (G := fun H => SqT K H a xs) (wi_tup hl hx) (walkT' hp.kLen) (fun H' e => SqT.of (e _ _ hx)) tmy hz gName_mono ?_
  rintro i d x H2 H3 hd e2 ⟨rfl, hY⟩
  obtain ⟨d', h1, h2⟩ := hp.kGetL hY
  rw [hd] at h1; cases h1
  have r := tmx _ _ _ _ e2.text h2
  refine ⟨Same.refl _, ?_⟩
  show wipe ((wipe σ [j]).set j (some x)) [j] = wipe σ [j] ∧ _
  rw [wipe1_set]
  exact ⟨by rw [wipe1, wipe1, List.set_set], Same.refl _, ht x d H3 e2 (List.mem_of_getElem? hd) r, he x d H3 e2 (List.mem_of_getElem? hd) r⟩
end
section
variable {K : PySem.W.Frag} {σ : L2.St} {H : Hp} {β : Type} {Ry : Hp → V → β → Prop} {ds : List C2} {xs : List V} {p : C2 → Bool} {f : C2 → β} {tl te : TE} {tt : TT}
theorem cell_turn {i j : Nat} (hij : i ≠ j) {x : V} {c : C2} {H3 : Hp} (r : Cell H3 x c) (q : EvT tt ((σ.set i (some (.int c.1))).set j (some (.int c.2))) H3 (p c) ∧ (p c = true → Ev te ((σ.set i (some (.int c.1))).set j (some (.int c.2))) H3 (fun H5 y => Ry H5 y (f c)))) :
    gTup K 2 (gCons (gName i) (gCons (gName j) gNil)) x (wipe σ [i, j]) H3 fun σ2 H4 => wipe σ2 [i, j] = wipe σ [i, j] ∧ Same H3 H4 ∧ EvT tt σ2 H4 (p c) ∧ (p c = true → Ev te σ2 H4 (fun H5 y => Ry H5 y (f c))) := by
  refine g_cell r ?_
  rw [wipe2_set σ hij]
  exact ⟨wipe2_again σ hij _ _, Same.refl _, q⟩
/-- over a list of cells, the target a pair of names -/
theorem ev_lcLC {a : Addr} {i j : Nat} (hij : i ≠ j) (hl : Ev tl σ H (fun _ v => v = .ref a)) (hx : H a = some (.lst xs)) (hp : Paired (Cell H) xs ds) (tmy : TMono Ry) (hz : ds.length < 16000000)
    (h : ∀ c H', Same H H' → c ∈ ds → EvT tt ((σ.set i (some (.int c.1))).set j (some (.int c.2))) H' (p c) ∧ (p c = true → Ev te ((σ.set i (some (.int c.1))).set j (some (.int c.2))) H' (fun H v => Ry H v (f c)))) :
    Ev (tLc (iList K tl) (gTup K 2 (gCons (gName i) (gCons (gName j) gNil))) tt te [i, j]) σ H (NewL H Ry ((ds.filter p).map f)) := by
  refine ev_lcW (G := fun H => SqL K H a xs) (wi_list hl hx) (walkL' hp.kLen) (fun H' e => SqL.of (e _ _ hx)) tmy hz gTup2_mono ?_
  rintro k d x H2 H3 hd e2 ⟨rfl, hY⟩
  obtain ⟨d', h1, h2⟩ := hp.kGetL hY
  rw [hd] at h1; cases h1
  exact ⟨Same.refl _, cell_turn hij (h2.text e2.text) (h d H3 e2 (List.mem_of_getElem? hd))⟩
/-- over a tuple of cells, the target a pair of names -/
theorem ev_lcTC {a : Addr} {i j : Nat} (hij : i ≠ j) (hl : Ev tl σ H (fun _ v => v = .ref a)) (hx : H a = some (.tup xs)) (hp : Paired (Cell H) xs ds) (tmy : TMono Ry) (hz : ds.length < 16000000)
    (h : ∀ c H', Same H H' → c ∈ ds → EvT tt ((σ.set i (some (.int c.1))).set j (some (.int c.2))) H' (p c) ∧ (p c = true → Ev te ((σ.set i (some (.int c.1))).set j (some (.int c.2))) H' (fun H v => Ry H v (f c)))) :
    Ev (tLc (iTup K tl) (gTup K 2 (gCons (gName i) (gCons (gName j) gNil))) tt te [i, j]) σ H (NewL H Ry ((ds.filter p).map f)) := by
  refine ev_lcW (G := fun H => SqT K H a xs) (wi_tup hl hx) (walkT' hp.kLen) (fun H' e => SqT.of (e _ _ hx)) tmy hz gTup2_mono ?_
  rintro k d x H2 H3 hd e2 ⟨rfl, hY⟩
  obtain ⟨d', h1, h2⟩ := hp.kGetL hY
  rw [hd] at h1; cases h1
  exact ⟨Same.refl _, cell_turn hij (h2.text e2.text) (h d H3 e2 (List.mem_of_getElem? hd))⟩
end
section
variable {K : PySem.W.Frag} {σ : L2.St} {H : Hp} {β : Type} {Ry : Hp → V → β → Prop} {te ta : TE}
/-- [elt for k in range(n)] -/
theorem ev_lcR {j n : Nat} {f : Nat → β} (hr : EvI ta σ H (n : Int)) (tmy : TMono Ry) (hz : n < 16000000) (he : ∀ i H', Same H H' → i < n → Ev te (σ.set j (some (.int (i : Nat)))) H' (fun H v => Ry H v (f i))) :
    Ev (tLc (iRng1 (tCons ta tNil)) (gName j) tYes te [j]) σ H (NewL H Ry ((List.range n).map f)) := by
  have h := ev_lcW (σ := σ) (H := H) (ds := List.range n) (p := fun _ => true) (f := f) (Ry := Ry) (tt := tYes) (te := te) (J := Itr 0 n) (G := fun _ => True) (Y := YFn fun i => .int (0 + i)) (wi := iRng1 (tCons ta tNil)) (g := gName j) (vs := [j])
    (fun H1 e R q => hr H1 e _ fun v H2 e2 hv => ⟨n, by rw [hv], by omega, by omega, by simpa using q H2 e2⟩) (by rw [List.length_range]; exact walk_range) (fun _ _ => trivial) tmy (by rw [List.length_range]; exact hz) gName_mono ?_
  · rw [filt_all] at h
    exact h
  · rintro i d x H2 H3 hd e2 ⟨rfl, rfl⟩
    obtain ⟨hi, rfl⟩ : ∃ _ : i < n, i = d := by
      rw [List.getElem?_eq_some_iff] at hd
      obtain ⟨h1, h2⟩ := hd
      rw [List.length_range] at h1
      exact ⟨h1, by simpa using h2⟩
    refine ⟨Same.refl _, ?_⟩
    show wipe ((wipe σ [j]).set j (some (.int (0 + (i : Nat))))) [j] = wipe σ [j] ∧ _
    rw [wipe1_set, Int.zero_add]
    exact ⟨by rw [wipe1, wipe1, List.set_set], Same.refl _, evT_yes, fun _ => he i H3 e2 hi⟩
end
end K84
namespace K84
open L2 PySem PySem.Spec PyProof.Rows
section
variable {K : PySem.W.Frag} {σ : L2.St} {H H0 : Hp} {β : Type} {Ry : Hp → V → β → Prop} {bs : List β} {tl te : TE} {ta : TA} {a : Addr} {xs : List V} {R : Hp → V → Prop}
theorem ev_any {b : List Bool} (h : Ev tl σ H (NewL H0 (fun _ => IsB) b)) : EvB (tCB (rAny K) (tCons tl tNil)) σ H (b.any id) := fun H1 e Q q =>
  h H1 e _ fun v H2 e2 hv => by
    obtain ⟨p, ys, rfl, _, h3, h4⟩ := hv
    exact ⟨p, b, rfl, SqL.of (by rw [h3, bools_of h4]), q _ H2 e2 rfl⟩
theorem ev_all {b : List Bool} (h : Ev tl σ H (NewL H0 (fun _ => IsB) b)) : EvB (tCB (rAll K) (tCons tl tNil)) σ H (b.all id) := fun H1 e Q q =>
  h H1 e _ fun v H2 e2 hv => by
    obtain ⟨p, ys, rfl, _, h3, h4⟩ := hv
    exact ⟨p, b, rfl, SqL.of (by rw [h3, bools_of h4]), q _ H2 e2 rfl⟩
theorem ev_sum {b : List Int} (h : Ev tl σ H (NewL H0 (fun _ => IsI) b)) : EvI (tCB (rSum K) (tCons tl tNil)) σ H b.sum := fun H1 e Q q =>
  h H1 e _ fun v H2 e2 hv => by
    obtain ⟨p, ys, rfl, _, h3, h4⟩ := hv
    exact ⟨p, b, rfl, SqL.of (by rw [h3, ints_of h4]), q _ H2 e2 rfl⟩
/-- max of a list of ints: m is it -/
theorem ev_max {b : List Int} {m : Int} (h : Ev tl σ H (NewL H0 (fun _ => IsI) b)) (hm : m ∈ b) (hx : ∀ y ∈ b, y ≤ m) : EvI (tCB (rMax K) (tCons tl tNil)) σ H m := fun H1 e Q q =>
  h H1 e _ fun v H2 e2 hv => by
    obtain ⟨p, ys, rfl, _, h3, h4⟩ := hv
    refine ⟨p, b, rfl, SqL.of (by rw [h3, ints_of h4]), List.length_pos_of_mem hm, fun m' h1 h2 => ?_⟩
    have e1 := h2 m hm
    have e2' := hx m' h1
    have e3 : m' = m := by omega
    subst e3
    exact q _ H2 e2 rfl
theorem ev_min {b : List Int} {m : Int} (h : Ev tl σ H (NewL H0 (fun _ => IsI) b)) (hm : m ∈ b) (hx : ∀ y ∈ b, m ≤ y) : EvI (tCB (rMin K) (tCons tl tNil)) σ H m := fun H1 e Q q =>
  h H1 e _ fun v H2 e2 hv => by
    obtain ⟨p, ys, rfl, _, h3, h4⟩ := hv
    refine ⟨p, b, rfl, SqL.of (by rw [h3, ints_of h4]), List.length_pos_of_mem hm, fun m' h1 h2 => ?_⟩
    have e1 := h2 m hm
    have e2' := hx m' h1
    have e3 : m' = m := by omega
    subst e3
    exact q _ H2 e2 rfl
theorem ev_lenL (h : Ev tl σ H (fun _ v => v = .ref a)) (hx : H a = some (.lst xs)) : EvI (tCB (rLenSeq K) (tCons tl tNil)) σ H (xs.length : Int) := fun H1 e Q q =>
  h H1 e _ fun v H2 e2 hv => ⟨a, xs, by rw [hv], .inl (SqL.of ((e.trans e2) _ _ hx)), q _ H2 e2 rfl⟩
theorem ev_lenT (h : Ev tl σ H (fun _ v => v = .ref a)) (hx : H a = some (.tup xs)) : EvI (tCB (rLenSeq K) (tCons tl tNil)) σ H (xs.length : Int) := fun H1 e Q q =>
  h H1 e _ fun v H2 e2 hv => ⟨a, xs, by rw [hv], .inr (SqT.of ((e.trans e2) _ _ hx)), q _ H2 e2 rfl⟩
/-- len of a list that is told by its data -/
theorem ev_lenN {α : Type} {Rx : Hp → V → α → Prop} {ds : List α} (h : Ev tl σ H (fun H v => Lst H (Rx H) v ds)) : EvI (tCB (rLenSeq K) (tCons tl tNil)) σ H (ds.length : Int) := fun H1 e Q q =>
  h H1 e _ fun v H2 e2 hv => by
    obtain ⟨a, vs, rfl, h1, h2⟩ := hv
    exact ⟨a, vs, rfl, .inl (SqL.of h1), q _ H2 e2 (by rw [h2.kLen])⟩
/-- tuple of a list -/
theorem ev_tupleOf {α : Type} {Rx : Hp → V → α → Prop} {ds : List α} (tm : TMono Rx) (h : Ev tl σ H (fun H v => Lst H (Rx H) v ds)) : Ev (tCB (rTupleOf K) (tCons tl tNil)) σ H (fun H v => Tup H (Rx H) v ds) := fun H1 e Q q =>
  h H1 e _ fun v H2 e2 hv => by
    obtain ⟨a, vs, rfl, h1, h2⟩ := hv
    exact ⟨a, vs, rfl, .inl ⟨SqL.of h1, fun p hp => q _ _ (e2.trans (same_new hp)) ⟨p, vs, rfl, upd_same, h2.kImp fun x y r => tm _ _ _ _ (text_new hp) r⟩⟩⟩
theorem ev_new {α : Type} {Rx : Hp → V → α → Prop} {ds : List α} (h : Ev tl σ H (NewL H0 Rx ds)) : Ev tl σ H (fun H v => Lst H (Rx H) v ds) := h.imp fun _ _ _ r => r.lst
theorem ev_max2 {i j : Int} {tb : TE} (ha : EvI tl σ H i) (hb : EvI tb σ H j) : EvI (tCB rMax2I (tCons tl (tCons tb tNil))) σ H (if j > i then j else i) := fun H1 e Q q =>
  ha H1 e _ fun v H2 e2 hv => hb H2 (e.trans e2) _ fun u H3 e3 hu => ⟨i, j, by rw [hv, hu], q _ H3 (e2.trans e3) rfl⟩
theorem ev_abs {i : Int} (ha : EvI tl σ H i) : EvI (tCB rAbsI (tCons tl tNil)) σ H (if i < 0 then -i else i) := fun H1 e Q q =>
  ha H1 e _ fun v H2 e2 hv => ⟨i, by rw [hv], q _ H2 e2 rfl⟩
theorem ev_intB {b : Bool} (ha : EvB tl σ H b) : EvI (tCB rInt1 (tCons tl tNil)) σ H (if b then 1 else 0) := fun H1 e Q q =>
  ha H1 e _ fun v H2 e2 hv => .inr ⟨b, by rw [hv], q _ H2 e2 rfl⟩
/-- an own def, called -/
theorem ev_call {sp : Sp} {Ra : Hp → List V → Prop} (h : EvA ta σ H Ra) (hs : ∀ H1 vs, Same H H1 → Ra H1 vs → ∀ Q : VK, (∀ v H2, Same H1 H2 → R H2 v → Q v H2) → sp vs H1 Q E0) : Ev (tCall sp [] E0 ta) σ H R := fun H1 e Q q =>
  h H1 e _ fun vs H2 e2 hv => by
    rw [List.append_nil]
    exact hs H2 vs (e.trans e2) hv Q fun v H3 e3 r => q v H3 (e2.trans e3) r

/-- a tuple's item, over data -/
theorem ev_ixTD {α : Type} {Rx : Hp → V → α → Prop} {ds : List α} {d : α} {k : Nat} {tb : TE} (tm : TMono Rx) (ha : Ev tl σ H (fun _ u => u = .ref a)) (hx : H a = some (.tup xs)) (hp : Paired (Rx H) xs ds) (hd : ds[k]? = some d) (hb : EvI tb σ H (k : Int)) :
    Ev (tOp (rIxT K) tl tb) σ H (fun H v => Rx H v d) := by
  obtain ⟨v, h1, h2⟩ := hp.kGetR hd
  exact (ev_ixT ha hx h1 hb).imp fun H' u e hu => by rw [hu]; exact tm _ _ _ _ e.text h2
theorem ixN_nat {n j : Nat} (hj : j < n) : ixN n (j : Int) = some j := by
  unfold ixN
  rw [if_pos (by omega), if_pos (by omega)]
  simp
/-- a list's item, over data -/
theorem ev_ixLD {α : Type} {Rx : Hp → V → α → Prop} {ds : List α} {d : α} {i : Int} {k : Nat} {tb : TE} (tm : TMono Rx) (ha : Ev tl σ H (fun _ u => u = .ref a)) (hx : H a = some (.lst xs)) (hp : Paired (Rx H) xs ds) (hi : ixN ds.length i = some k) (hd : ds[k]? = some d) (hb : EvI tb σ H i) :
    Ev (tOp (rIxL K) tl tb) σ H (fun H v => Rx H v d) := by
  obtain ⟨v, h1, h2⟩ := hp.kGetR hd
  have hat : atI xs i = some v := by
    unfold atI
    rw [hp.kLen, hi]
    exact h1
  refine ev_op ha hb mono_eq fun H1 x y e hx' hy Q q => ⟨a, xs, i, v, hx', hy, SqL.of (e _ _ hx), hat, q _ H1 (Same.refl H1) ?_⟩
  exact tm _ _ _ _ e.text h2
/-- the first item of a new list -/
theorem ev_ixN0 {α : Type} {Rx : Hp → V → α → Prop} {ds : List α} {d : α} (tm : TMono Rx) (ha : Ev tl σ H (NewL H0 Rx ds)) (hd : ds[0]? = some d) : Ev (tOp (rIxL K) tl (tC (.int 0))) σ H (fun H v => Rx H v d) :=
  ev_op ha evI_c (NewL.mono tm ds) fun H1 x y e h1 h2 Q q => by
    obtain ⟨p, ys, rfl, _, h3, h4⟩ := h1
    obtain ⟨v, g1, g2⟩ := h4.kGetR hd
    exact ⟨p, ys, 0, v, rfl, h2, SqL.of h3, atI_nat (j := 0) g1, q _ H1 (Same.refl H1) g2⟩
variable {D : Ends} {t u : TS} {g : TG} {tt : TT} {b : Bool}
theorem sq (h : t { D with nx := u D } σ H) : tSeq t u D σ H := h
theorem s_next (h : D.nx σ H) : tNext D σ H := h
theorem s_set {i : Nat} (h : Ev te σ H R) (k : ∀ v H1, Same H H1 → R H1 v → D.nx (σ.set i (some v)) H1) : tAsg te (gName i) D σ H := h H (Same.refl H) _ fun v H1 e r => k v H1 e r
theorem s_asg (h : Ev te σ H R) (k : ∀ v H1, Same H H1 → R H1 v → g v σ H1 D.nx) : tAsg te g D σ H := h H (Same.refl H) _ fun v H1 e r => k v H1 e r
theorem s_setI {i : Nat} {n : Int} (h : EvI te σ H n) (k : ∀ H1, Same H H1 → D.nx (σ.set i (some (.int n))) H1) : tAsg te (gName i) D σ H := s_set h fun v H1 e r => by rw [r]; exact k H1 e
theorem s_ret (h : Ev te σ H R) (k : ∀ v H1, Same H H1 → R H1 v → D.rt v H1) : tRet te D σ H := h H (Same.refl H) _ k
theorem s_drop (h : Ev te σ H R) (k : ∀ v H1, Same H H1 → R H1 v → D.nx σ H1) : tDrop te D σ H := h H (Same.refl H) _ k
theorem s_par {i j : Nat} (h : EvA ta σ H (fun H vs => ∃ v w, vs = [v, w] ∧ (R H v ∧ (fun _ => True) w) )) (k : ∀ v w H1, Same H H1 → R H1 v → D.nx ((σ.set i (some v)).set j (some w)) H1) : tPar i j ta D σ H :=
  h H (Same.refl H) _ fun vs H1 e r => by
    obtain ⟨v, w, rfl, r, _⟩ := r
    exact ⟨v, w, rfl, k v w H1 e r⟩
theorem s_parI {i j : Nat} {m n : Int} {tb : TE} (h1 : EvI te σ H m) (h2 : EvI tb σ H n) (k : ∀ H1, Same H H1 → D.nx ((σ.set i (some (.int m))).set j (some (.int n))) H1) : tPar i j (tCons te (tCons tb tNil)) D σ H :=
  evA_2 h1 mono_eq h2 H (Same.refl H) _ fun vs H1 e r => by
    obtain ⟨v, w, rfl, rfl, rfl⟩ := r
    exact ⟨_, _, rfl, k H1 e⟩
theorem s_if (h : EvT tt σ H b) (h1 : b = true → ∀ H1, Same H H1 → t D σ H1) (h2 : b = false → ∀ H1, Same H H1 → u D σ H1) : tIfS tt t u D σ H := h H (Same.refl H) _ fun H1 e => by
  cases b with
  | true => exact h1 rfl H1 e
  | false => exact h2 rfl H1 e
/-- xs.append(e) -/
theorem s_app {l : Addr} (hl : H l = some (.lst xs)) (ha : Ev tl σ H (fun _ v => v = .ref l)) (h : Ev te σ H R) (hz : xs.length < 16000000) (k : ∀ v H1, Same H H1 → R H1 v → D.nx σ (upd H1 l (.lst (xs ++ [v])))) :
    tDrop (tBM K "list" rAppend tl (tCons te tNil)) D σ H := ha H (Same.refl H) _ fun v H1 e1 hv => by
  subst hv
  refine ⟨Or.inl ⟨rfl, xs, SqL.of (e1 l _ hl)⟩, h H1 e1 _ fun v H2 e2 r => ⟨l, xs, v, rfl, rfl, e2 l _ (e1 l _ hl), ?_, k v H2 (e1.trans e2) r⟩⟩
  rw [sizeLine_eq]; omega
/-- d[c] = e, the key a cell -/
theorem s_dputC {d : Addr} {kvs : List (List Key × V)} {c : C2} {td ty : TE} (hd : H d = some (.dT kvs)) (hv : Ev te σ H R) (ho : Ev td σ H (fun _ v => v = .ref d)) (hk : EvC ty σ H c) (hz : kvs.length < 16000000) (k : ∀ v H1, Same H H1 → D.nx σ (upd H1 d (.dT (putK kvs (keyC c) v)))) :
    sDPut td ty te D σ H := hv H (Same.refl H) _ fun v H1 e1 r => ho H1 e1 _ fun x H2 e2 hx => hk H2 (e1.trans e2) _ fun y H3 e3 hy => by
  obtain ⟨q, rfl, hq⟩ := hy
  refine ⟨d, _, hx, DPut.t (k := keyC c) (((e1.trans e2).trans e3) _ _ hd) hq (by rw [sizeLine_eq]; omega), k v H3 ((e1.trans e2).trans e3)⟩
/-- c in d, c not in d -/
theorem evB_din {d : Addr} {kvs : List (List Key × V)} {c : C2} {td ty : TE} (hd : H d = some (.dT kvs)) (ho : Ev td σ H (fun _ v => v = .ref d)) (hk : EvC ty σ H c) : EvB (tDIn ty td) σ H (valV kvs (keyC c)).isSome := fun H1 e1 Q q =>
  hk H1 e1 _ fun y H2 e2 hy => ho H2 (e1.trans e2) _ fun x H3 e3 hx => by
    obtain ⟨p, rfl, hp⟩ := hy
    exact ⟨d, _, hx, DGet.t (k := keyC c) (((e1.trans e2).trans e3) _ _ hd) (e3 _ _ hp), q _ H3 (e2.trans e3) rfl⟩
theorem evB_dnotin {d : Addr} {kvs : List (List Key × V)} {c : C2} {td ty : TE} (hd : H d = some (.dT kvs)) (ho : Ev td σ H (fun _ v => v = .ref d)) (hk : EvC ty σ H c) : EvB (tDNotIn ty td) σ H (!(valV kvs (keyC c)).isSome) := fun H1 e1 Q q =>
  hk H1 e1 _ fun y H2 e2 hy => ho H2 (e1.trans e2) _ fun x H3 e3 hx => by
    obtain ⟨p, rfl, hp⟩ := hy
    exact ⟨d, _, hx, DGet.t (k := keyC c) (((e1.trans e2).trans e3) _ _ hd) (e3 _ _ hp), q _ H3 (e2.trans e3) rfl⟩

theorem s_aug {i : Nat} {m n : Int} (h0 : σ[i]? = some (some (.int m))) (h : EvI te σ H n) (k : ∀ H1, Same H H1 → D.nx (σ.set i (some (.int (m + n)))) H1) : tAug i te (ipI fun i j => i + j) D σ H :=
  ⟨_, h0, h H (Same.refl H) _ fun v H1 e r => ⟨m, n, rfl, r, k H1 e⟩⟩
/-- xs.insert(i, e) -/
theorem s_insert {l : Addr} {ti : TE} {i : Nat} (hl : H l = some (.lst xs)) (ha : Ev tl σ H (fun _ v => v = .ref l)) (hi : EvI ti σ H (i : Int)) (h : Ev te σ H R) (hz : xs.length < 16000000) (hb : i < 2 ^ 60) (k : ∀ v H1, Same H H1 → R H1 v → D.nx σ (upd H1 l (.lst (xs.take i ++ [v] ++ xs.drop i)))) :
    tDrop (tBM K "list" rInsertI tl (tCons ti (tCons te tNil))) D σ H := ha H (Same.refl H) _ fun v H1 e1 hv => by
  subst hv
  refine ⟨Or.inl ⟨rfl, xs, SqL.of (e1 l _ hl)⟩, hi H1 e1 _ fun u H2 e2 hu => h H2 (e1.trans e2) _ fun v H3 e3 r => ⟨l, xs, i, v, rfl, by rw [hu], e3 l _ (e2 l _ (e1 l _ hl)), ?_, by omega, by omega, ?_⟩⟩
  · rw [sizeLine_eq]; omega
  · show D.nx σ (upd H3 l (.lst (xs.take ((i : Int)).toNat ++ [v] ++ xs.drop ((i : Int)).toNat)))
    rw [Int.toNat_natCast]
    exact k v H3 ((e1.trans e2).trans e3) r
theorem q_set {i : Nat} (h : Ev te σ H R) (k : ∀ v H1, Same H H1 → R H1 v → u D (σ.set i (some v)) H1) : tSeq (tAsg te (gName i)) u D σ H := s_set (D := { D with nx := u D }) h k
theorem q_asg (h : Ev te σ H R) (k : ∀ v H1, Same H H1 → R H1 v → g v σ H1 (u D)) : tSeq (tAsg te g) u D σ H := s_asg (D := { D with nx := u D }) h k
theorem q_setI {i : Nat} {n : Int} (h : EvI te σ H n) (k : ∀ H1, Same H H1 → u D (σ.set i (some (.int n))) H1) : tSeq (tAsg te (gName i)) u D σ H := s_setI (D := { D with nx := u D }) h k
theorem q_drop (h : Ev te σ H R) (k : ∀ v H1, Same H H1 → R H1 v → u D σ H1) : tSeq (tDrop te) u D σ H := s_drop (D := { D with nx := u D }) h k
theorem q_parI {i j : Nat} {m n : Int} {tb : TE} (h1 : EvI te σ H m) (h2 : EvI tb σ H n) (k : ∀ H1, Same H H1 → u D ((σ.set i (some (.int m))).set j (some (.int n))) H1) : tSeq (tPar i j (tCons te (tCons tb tNil))) u D σ H := s_parI (D := { D with nx := u D }) h1 h2 k
theorem q_if {t' : TS} (h : EvT tt σ H b) (h1 : b = true → ∀ H1, Same H H1 → t { D with nx := u D } σ H1) (h2 : b = false → ∀ H1, Same H H1 → t' { D with nx := u D } σ H1) : tSeq (tIfS tt t t') u D σ H := s_if (D := { D with nx := u D }) h h1 h2
/-- an if without else, not taken -/
theorem q_skip {t' : TS} (h : EvT tt σ H false) (k : ∀ H1, Same H H1 → u D σ H1) : tSeq (tIfS tt t' tNext) u D σ H := s_if (D := { D with nx := u D }) h (fun z => by cases z) fun _ H1 e => k H1 e
theorem q_when {t' : TS} (h : EvT tt σ H b) (h1 : b = true → ∀ H1, Same H H1 → t' { D with nx := u D } σ H1) (h2 : b = false → ∀ H1, Same H H1 → u D σ H1) : tSeq (tIfS tt t' tNext) u D σ H := s_if (D := { D with nx := u D }) h h1 fun z H1 e => h2 z H1 e
theorem s_when {t' : TS} (h : EvT tt σ H b) (h1 : b = true → ∀ H1, Same H H1 → t' D σ H1) (h2 : b = false → ∀ H1, Same H H1 → D.nx σ H1) : tIfS tt t' tNext D σ H := s_if h h1 fun z H1 e => h2 z H1 e
theorem q_app {l : Addr} (hl : H l = some (.lst xs)) (ha : Ev tl σ H (fun _ v => v = .ref l)) (h : Ev te σ H R) (hz : xs.length < 16000000) (k : ∀ v H1, Same H H1 → R H1 v → u D σ (upd H1 l (.lst (xs ++ [v])))) :
    tSeq (tDrop (tBM K "list" rAppend tl (tCons te tNil))) u D σ H := s_app (D := { D with nx := u D }) hl ha h hz k
theorem q_dputC {d : Addr} {kvs : List (List Key × V)} {c : C2} {td ty : TE} (hd : H d = some (.dT kvs)) (hv : Ev te σ H R) (ho : Ev td σ H (fun _ v => v = .ref d)) (hk : EvC ty σ H c) (hz : kvs.length < 16000000) (k : ∀ v H1, Same H H1 → u D σ (upd H1 d (.dT (putK kvs (keyC c) v)))) :
    tSeq (sDPut td ty te) u D σ H := s_dputC (D := { D with nx := u D }) hd hv ho hk hz k
theorem s_forW {J : It} {n : Nat} {G : Hp → Prop} {Y : Nat → Hp → V → Hp → Prop} {wi : TI} (hwi : ∀ H1, Same H H1 → ∀ R : It → Hp → Prop, (∀ H2, Same H1 H2 → R J H2) → wi σ H1 R) (w : Walk J n G Y) (Pv : Nat → L2.St → Hp → Prop)
    (h0 : ∀ H1, Same H H1 → Pv 0 σ H1) (hG : ∀ i σ' H', i ≤ n → Pv i σ' H' → G H') (hs : ∀ i x σ' H2 H3, i < n → Pv i σ' H2 → Y i H2 x H3 → g x σ' H3 fun σ2 H4 => t { D with nx := Pv (i + 1), ct := Pv (i + 1), bk := D.nx } σ2 H4) (hd : ∀ σ' H', Pv n σ' H' → D.nx σ' H') :
    tFor wi g t D σ H := hwi H (Same.refl H) _ fun H1 e => for_it w Pv (h0 H1 e) hG (fun i x σ' H2 H3 hi p y => hs i x σ' H2 H3 hi p y) hd
theorem s_forL {a : Addr} (hl : Ev tl σ H (fun _ v => v = .ref a)) (hx : H a = some (.lst xs)) (Pv : Nat → L2.St → Hp → Prop) (h0 : ∀ H1, Same H H1 → Pv 0 σ H1) (hG : ∀ i σ' H', i ≤ xs.length → Pv i σ' H' → H' a = some (.lst xs))
    (hs : ∀ i x σ' H', xs[i]? = some x → Pv i σ' H' → g x σ' H' fun σ2 H2 => t { D with nx := Pv (i + 1), ct := Pv (i + 1), bk := D.nx } σ2 H2) (hd : ∀ σ' H', Pv xs.length σ' H' → D.nx σ' H') : tFor (iList K tl) g t D σ H :=
  s_forW (wi_list hl hx) walk_list Pv h0 (fun i σ' H' hi p => SqL.of (hG i σ' H' hi p)) (fun i x σ' H2 H3 _ p y => by obtain ⟨rfl, y⟩ := y; exact hs i x σ' H3 y p) hd
theorem s_forT {a : Addr} (hl : Ev tl σ H (fun _ v => v = .ref a)) (hx : H a = some (.tup xs)) (Pv : Nat → L2.St → Hp → Prop) (h0 : ∀ H1, Same H H1 → Pv 0 σ H1) (hG : ∀ i σ' H', i ≤ xs.length → Pv i σ' H' → H' a = some (.tup xs))
    (hs : ∀ i x σ' H', xs[i]? = some x → Pv i σ' H' → g x σ' H' fun σ2 H2 => t { D with nx := Pv (i + 1), ct := Pv (i + 1), bk := D.nx } σ2 H2) (hd : ∀ σ' H', Pv xs.length σ' H' → D.nx σ' H') : tFor (iTup K tl) g t D σ H :=
  s_forW (wi_tup hl hx) walk_tup Pv h0 (fun i σ' H' hi p => SqT.of (hG i σ' H' hi p)) (fun i x σ' H2 H3 _ p y => by obtain ⟨rfl, y⟩ := y; exact hs i x σ' H3 y p) hd
theorem s_forR2 {tb : TE} {lo hi : Int} {j : Nat} (h1 : EvI tl σ H lo) (h2 : EvI tb σ H hi) (hb : -(2 ^ 62) ≤ lo ∧ lo < 2 ^ 62 ∧ -(2 ^ 62) ≤ hi ∧ hi < 2 ^ 62) (Pv : Nat → L2.St → Hp → Prop) (h0 : ∀ H1, Same H H1 → Pv 0 σ H1)
    (hs : ∀ (i : Nat) σ' H', i < (hi - lo).toNat → Pv i σ' H' → t { D with nx := Pv (i + 1), ct := Pv (i + 1), bk := D.nx } (σ'.set j (some (.int (lo + i)))) H') (hd : ∀ σ' H', Pv (hi - lo).toNat σ' H' → D.nx σ' H') : tFor (iRng2 (tCons tl (tCons tb tNil))) (gName j) t D σ H :=
  s_forW (J := Itr lo (hi - lo).toNat) (n := (hi - lo).toNat) (fun H1 e R q => evA_2 h1 mono_eq h2 H1 e _ fun vs H2 e2 hv => by
      obtain ⟨v, w, rfl, rfl, rfl⟩ := hv
      exact ⟨lo, hi, rfl, hb, q H2 e2⟩) walk_range Pv h0 (fun _ _ _ _ _ => trivial) (fun i x σ' H2 H3 hi p y => by obtain ⟨rfl, rfl⟩ := y; exact hs i σ' H3 hi p) hd
theorem s_forR1 {n : Nat} {j : Nat} (h1 : EvI tl σ H (n : Int)) (hb : n < 2 ^ 62) (Pv : Nat → L2.St → Hp → Prop) (h0 : ∀ H1, Same H H1 → Pv 0 σ H1)
    (hs : ∀ (i : Nat) σ' H', i < n → Pv i σ' H' → t { D with nx := Pv (i + 1), ct := Pv (i + 1), bk := D.nx } (σ'.set j (some (.int (i : Nat)))) H') (hd : ∀ σ' H', Pv n σ' H' → D.nx σ' H') : tFor (iRng1 (tCons tl tNil)) (gName j) t D σ H :=
  s_forW (J := Itr 0 n) (n := n) (fun H1 e R q => h1 H1 e _ fun v H2 e2 hv => ⟨n, by rw [hv], by omega, by omega, by simpa using q H2 e2⟩) walk_range Pv h0 (fun _ _ _ _ _ => trivial)
    (fun i x σ' H2 H3 hi p y => by
      obtain ⟨rfl, rfl⟩ := y
      have h := hs i σ' H3 hi p
      show t _ (σ'.set j (some (.int (0 + (i : Nat))))) H3
      rw [Int.zero_add]; exact h) hd
theorem s_while (W : Nat → L2.St → Hp → Prop) (m0 : Nat) (h0 : W m0 σ H)
    (hs : ∀ m σ' H', W m σ' H' → ∃ b, EvT tt σ' H' b ∧ (b = true → ∀ H1, Same H' H1 → ∃ N : L2.St → Hp → Prop, (∀ σ2 H2, N σ2 H2 → ∃ m', m' < m ∧ W m' σ2 H2) ∧ t { D with nx := N, ct := N, bk := D.nx } σ' H1) ∧ (b = false → ∀ H1, Same H' H1 → D.nx σ' H1)) : tWhile tt t D σ H :=
  ⟨W, ⟨m0, h0⟩, fun m σ' H' hw => by
    obtain ⟨b, hb, h1, h2⟩ := hs m σ' H' hw
    refine hb H' (Same.refl H') _ fun H1 e => ?_
    cases b with
    | true => exact h1 rfl H1 e
    | false => exact h2 rfl H1 e⟩
theorem q_forW {J : It} {n : Nat} {G : Hp → Prop} {Y : Nat → Hp → V → Hp → Prop} {wi : TI} (hwi : ∀ H1, Same H H1 → ∀ R : It → Hp → Prop, (∀ H2, Same H1 H2 → R J H2) → wi σ H1 R) (w : Walk J n G Y) (Pv : Nat → L2.St → Hp → Prop)
    (h0 : ∀ H1, Same H H1 → Pv 0 σ H1) (hG : ∀ i σ' H', i ≤ n → Pv i σ' H' → G H') (hs : ∀ i x σ' H2 H3, i < n → Pv i σ' H2 → Y i H2 x H3 → g x σ' H3 fun σ2 H4 => t { D with nx := Pv (i + 1), ct := Pv (i + 1), bk := u D } σ2 H4) (hd : ∀ σ' H', Pv n σ' H' → u D σ' H') :
    tSeq (tFor wi g t) u D σ H := s_forW (D := { D with nx := u D }) hwi w Pv h0 hG hs hd
theorem q_forL {a : Addr} (hl : Ev tl σ H (fun _ v => v = .ref a)) (hx : H a = some (.lst xs)) (Pv : Nat → L2.St → Hp → Prop) (h0 : ∀ H1, Same H H1 → Pv 0 σ H1) (hG : ∀ i σ' H', i ≤ xs.length → Pv i σ' H' → H' a = some (.lst xs))
    (hs : ∀ i x σ' H', xs[i]? = some x → Pv i σ' H' → g x σ' H' fun σ2 H2 => t { D with nx := Pv (i + 1), ct := Pv (i + 1), bk := u D } σ2 H2) (hd : ∀ σ' H', Pv xs.length σ' H' → u D σ' H') : tSeq (tFor (iList K tl) g t) u D σ H :=
  s_forL (D := { D with nx := u D }) hl hx Pv h0 hG hs hd
theorem q_forT {a : Addr} (hl : Ev tl σ H (fun _ v => v = .ref a)) (hx : H a = some (.tup xs)) (Pv : Nat → L2.St → Hp → Prop) (h0 : ∀ H1, Same H H1 → Pv 0 σ H1) (hG : ∀ i σ' H', i ≤ xs.length → Pv i σ' H' → H' a = some (.tup xs))
    (hs : ∀ i x σ' H', xs[i]? = some x → Pv i σ' H' → g x σ' H' fun σ2 H2 => t { D with nx := Pv (i + 1), ct := Pv (i + 1), bk := u D } σ2 H2) (hd : ∀ σ' H', Pv xs.length σ' H' → u D σ' H') : tSeq (tFor (iTup K tl) g t) u D σ H :=
  s_forT (D := { D with nx := u D }) hl hx Pv h0 hG hs hd
theorem q_forR2 {tb : TE} {lo hi : Int} {j : Nat} (h1 : EvI tl σ H lo) (h2 : EvI tb σ H hi) (hb : -(2 ^ 62) ≤ lo ∧ lo < 2 ^ 62 ∧ -(2 ^ 62) ≤ hi ∧ hi < 2 ^ 62) (Pv : Nat → L2.St → Hp → Prop) (h0 : ∀ H1, Same H H1 → Pv 0 σ H1)
    (hs : ∀ (i : Nat) σ' H', i < (hi - lo).toNat → Pv i σ' H' → t { D with nx := Pv (i + 1), ct := Pv (i + 1), bk := u D } (σ'.set j (some (.int (lo + i)))) H') (hd : ∀ σ' H', Pv (hi - lo).toNat σ' H' → u D σ' H') : tSeq (tFor (iRng2 (tCons tl (tCons tb tNil))) (gName j) t) u D σ H :=
  s_forR2 (D := { D with nx := u D }) h1 h2 hb Pv h0 hs hd
theorem q_forR1 {n : Nat} {j : Nat} (h1 : EvI tl σ H (n : Int)) (hb : n < 2 ^ 62) (Pv : Nat → L2.St → Hp → Prop) (h0 : ∀ H1, Same H H1 → Pv 0 σ H1)
    (hs : ∀ (i : Nat) σ' H', i < n → Pv i σ' H' → t { D with nx := Pv (i + 1), ct := Pv (i + 1), bk := u D } (σ'.set j (some (.int (i : Nat)))) H') (hd : ∀ σ' H', Pv n σ' H' → u D σ' H') : tSeq (tFor (iRng1 (tCons tl tNil)) (gName j) t) u D σ H :=
  s_forR1 (D := { D with nx := u D }) h1 hb Pv h0 hs hd
theorem q_while (W : Nat → L2.St → Hp → Prop) (m0 : Nat) (h0 : W m0 σ H)
    (hs : ∀ m σ' H', W m σ' H' → ∃ b, EvT tt σ' H' b ∧ (b = true → ∀ H1, Same H' H1 → ∃ N : L2.St → Hp → Prop, (∀ σ2 H2, N σ2 H2 → ∃ m', m' < m ∧ W m' σ2 H2) ∧ t { D with nx := N, ct := N, bk := u D } σ' H1) ∧ (b = false → ∀ H1, Same H' H1 → u D σ' H1)) : tSeq (tWhile tt t) u D σ H :=
  s_while (D := { D with nx := u D }) W m0 h0 hs
end
end K84
namespace K84
open L2 PySem PySem.Spec PyProof.Rows
def cD (c : C2) : PyData := .tuple [.int c.1, .int c.2]
def rD (cs : List C2) : PyData := .tuple (cs.map cD)
section
variable {K : PySem.W.Frag} {H : Hp}
theorem Cell.dp {v : V} {c : C2} (h : Cell H v c) : Dp K H v (cD c) := by
  obtain ⟨a, rfl, ho⟩ := h
  exact .tup (SqT.of ho) (.cons (.int _) (.cons (.int _) .nil))
theorem dpAll_of {α : Type} {Rx : V → α → Prop} {f : α → PyData} (hf : ∀ v x, Rx v x → Dp K H v (f x)) : ∀ {vs : List V} {ds : List α}, Paired Rx vs ds → DpAll K H vs (ds.map f)
  | _, _, .nil => .nil
  | _, _, .cons r t => .cons (hf _ _ r) (dpAll_of hf t)
theorem Row.dp {v : V} {cs : List C2} (h : Row H v cs) : Dp K H v (rD cs) := by
  obtain ⟨a, vs, rfl, ho, hp⟩ := h
  exact .tup (SqT.of ho) (dpAll_of (fun _ _ r => Cell.dp r) hp)
end
theorem canAll {α : Type} {f : α → PyData} (h : ∀ x, (f x).canLay0 = true) : ∀ ds : List α, PyData.canLayAll0 (ds.map f) = true
  | [] => rfl
  | x :: r => by
    show ((f x).canLay0 && PyData.canLayAll0 (r.map f)) = true
    rw [h x, canAll h r]; rfl
theorem depAll {α : Type} {f : α → PyData} {n : Nat} (h : ∀ x, (f x).depth ≤ n) : ∀ ds : List α, PyData.depthAll (ds.map f) ≤ n
  | [] => Nat.zero_le _
  | x :: r => by
    show max (f x).depth (PyData.depthAll (r.map f)) ≤ n
    exact Nat.max_le.mpr ⟨h x, depAll h r⟩
theorem can_cD (c : C2) : (cD c).canLay0 = true := rfl
theorem dep_cD (c : C2) : (cD c).depth ≤ 1 := Nat.le_refl 1
theorem can_rD (cs : List C2) : (rD cs).canLay0 = true := canAll can_cD cs
theorem dep_rD (cs : List C2) : (rD cs).depth ≤ 2 := by
  show PyData.depthAll (cs.map cD) + 1 ≤ 2
  have := depAll dep_cD cs
  omega
theorem sh_cD (c : C2) : SeqAt.shaped (cD c) = true := rfl
theorem sh_rD (cs : List C2) : SeqAt.shaped (rD cs) = true := by
  unfold SeqAt.shaped
  rw [can_rD, Bool.true_and]
  exact decide_eq_true (by have := dep_rD cs; omega)
theorem sh_tup {α : Type} {f : α → PyData} (h1 : ∀ x, (f x).canLay0 = true) (h2 : ∀ x, (f x).depth ≤ 2) (ds : List α) : SeqAt.shaped (.tuple (ds.map f)) = true := by
  unfold SeqAt.shaped
  rw [Bool.and_eq_true]
  refine ⟨canAll h1 ds, decide_eq_true ?_⟩
  show PyData.depthAll (ds.map f) + 1 ≤ 64
  have := depAll h2 ds
  omega
theorem sh_lst {α : Type} {f : α → PyData} (h1 : ∀ x, (f x).canLay0 = true) (h2 : ∀ x, (f x).depth ≤ 2) (ds : List α) : SeqAt.shaped (.list (ds.map f)) = true := by
  unfold SeqAt.shaped
  rw [Bool.and_eq_true]
  refine ⟨canAll h1 ds, decide_eq_true ?_⟩
  show PyData.depthAll (ds.map f) + 1 ≤ 64
  have := depAll h2 ds
  omega
theorem eqv_cD (c d : C2) : PyData.eqv (cD c) (cD d) = decide (c = d) := by
  obtain ⟨x, y⟩ := c
  obtain ⟨z, w⟩ := d
  show ((x == z) && ((y == w) && true)) = _
  rw [Bool.eq_iff_iff]
  simp
theorem eqv_rows : ∀ (cs ds : List C2), PyData.eqvAll (cs.map cD) (ds.map cD) = decide (cs = ds)
  | [], [] => rfl
  | [], _ :: _ => rfl
  | _ :: _, [] => rfl
  | c :: cs, d :: ds => by
    show (PyData.eqv (cD c) (cD d) && PyData.eqvAll (cs.map cD) (ds.map cD)) = _
    rw [eqv_cD, eqv_rows cs ds, Bool.eq_iff_iff]
    simp
theorem eqv_rD (cs ds : List C2) : PyData.eqv (rD cs) (rD ds) = decide (cs = ds) := eqv_rows cs ds
theorem any_cD (cs : List C2) (c : C2) : ((cs.map cD).any fun z => PyData.eqv z (cD c)) = decide (c ∈ cs) := by
  rw [Bool.eq_iff_iff]
  simp only [List.any_map, List.any_eq_true, Function.comp, eqv_cD, decide_eq_true_eq]
  constructor
  · rintro ⟨x, h, rfl⟩; exact h
  · intro h; exact ⟨c, h, rfl⟩
section
variable {K : PySem.W.Frag} {σ : L2.St} {H : Hp} {ta tb : TE} {c d : C2} {cs ds : List C2}
theorem mono_row : Mono (fun H v => Row H v cs) := fun _ _ _ e h => h.text e.text
theorem evB_inL (ha : EvC ta σ H c) (hb : Ev tb σ H (fun H v => LCells H v cs)) : EvB (tOp (rInD K) ta tb) σ H (decide (c ∈ cs)) :=
  ev_op ha hb mono_cell fun H1 x y _ h1 h2 Q q => by
    obtain ⟨a, vs, rfl, ho, hp⟩ := h2
    exact ⟨_, _, h1.dp, .lst (SqL.of ho) (dpAll_of (fun _ _ r => Cell.dp r) hp), sh_cD c, sh_lst can_cD (fun x => by have := dep_cD x; omega) cs, q _ H1 (Same.refl H1) (by rw [any_cD])⟩
theorem evB_notinL (ha : EvC ta σ H c) (hb : Ev tb σ H (fun H v => LCells H v cs)) : EvB (tOp (rNotInD K) ta tb) σ H (!decide (c ∈ cs)) :=
  ev_op ha hb mono_cell fun H1 x y _ h1 h2 Q q => by
    obtain ⟨a, vs, rfl, ho, hp⟩ := h2
    exact ⟨_, _, h1.dp, .lst (SqL.of ho) (dpAll_of (fun _ _ r => Cell.dp r) hp), sh_cD c, sh_lst can_cD (fun x => by have := dep_cD x; omega) cs, q _ H1 (Same.refl H1) (by rw [any_cD])⟩
theorem evB_inT (ha : EvC ta σ H c) (hb : Ev tb σ H (fun H v => Row H v cs)) : EvB (tOp (rInT K) ta tb) σ H (decide (c ∈ cs)) :=
  ev_op ha hb mono_cell fun H1 x y _ h1 h2 Q q =>
    ⟨_, _, h1.dp, h2.dp, sh_cD c, sh_rD cs, q _ H1 (Same.refl H1) (by rw [any_cD])⟩
theorem evB_notinT (ha : EvC ta σ H c) (hb : Ev tb σ H (fun H v => Row H v cs)) : EvB (tOp (rNotInT K) ta tb) σ H (!decide (c ∈ cs)) :=
  ev_op ha hb mono_cell fun H1 x y _ h1 h2 Q q =>
    ⟨_, _, h1.dp, h2.dp, sh_cD c, sh_rD cs, q _ H1 (Same.refl H1) (by rw [any_cD])⟩
theorem evB_neC (ha : EvC ta σ H c) (hb : EvC tb σ H d) : EvB (tOp (rNeD K) ta tb) σ H (!decide (c = d)) :=
  ev_op ha hb mono_cell fun H1 x y _ h1 h2 Q q => ⟨_, _, h1.dp, h2.dp, sh_cD c, sh_cD d, q _ H1 (Same.refl H1) (by rw [eqv_cD])⟩
theorem evB_neR (ha : Ev ta σ H (fun H v => Row H v cs)) (hb : Ev tb σ H (fun H v => Row H v ds)) : EvB (tOp (rNeD K) ta tb) σ H (!decide (cs = ds)) :=
  ev_op ha hb mono_row fun H1 x y _ h1 h2 Q q => ⟨_, _, h1.dp, h2.dp, sh_rD cs, sh_rD ds, q _ H1 (Same.refl H1) (by rw [eqv_rD])⟩
end
section
variable {K : PySem.W.Frag} {σ : L2.St} {H : Hp} {α β : Type} {Rx : Hp → V → α → Prop} {Ry : Hp → V → β → Prop} {ds : List α} {xs : List V} {f : α → β} {tl te : TE} {a : Addr} {j : Nat}
theorem ev_mapL (hl : Ev tl σ H (fun _ v => v = .ref a)) (hx : H a = some (.lst xs)) (hp : Paired (Rx H) xs ds) (tmx : TMono Rx) (tmy : TMono Ry) (hz : ds.length < 16000000)
    (he : ∀ x d H', Same H H' → d ∈ ds → Rx H' x d → Ev te (σ.set j (some x)) H' (fun H v => Ry H v (f d))) : Ev (tLc (iList K tl) (gName j) tYes te [j]) σ H (NewL H Ry (ds.map f)) := by
  have h := ev_lcL (K := K) (p := fun _ => true) (tt := tYes) hl hx hp tmx tmy hz (fun _ _ _ _ _ _ => evT_yes) (fun x d H' e m r _ => he x d H' e m r)
  rwa [filt_all] at h
theorem ev_mapT (hl : Ev tl σ H (fun _ v => v = .ref a)) (hx : H a = some (.tup xs)) (hp : Paired (Rx H) xs ds) (tmx : TMono Rx) (tmy : TMono Ry) (hz : ds.length < 16000000)
    (he : ∀ x d H', Same H H' → d ∈ ds → Rx H' x d → Ev te (σ.set j (some x)) H' (fun H v => Ry H v (f d))) : Ev (tLc (iTup K tl) (gName j) tYes te [j]) σ H (NewL H Ry (ds.map f)) := by
  have h := ev_lcT (K := K) (p := fun _ => true) (tt := tYes) hl hx hp tmx tmy hz (fun _ _ _ _ _ _ => evT_yes) (fun x d H' e m r _ => he x d H' e m r)
  rwa [filt_all] at h
end
section
variable {K : PySem.W.Frag} {σ : L2.St} {H : Hp} {β : Type} {Ry : Hp → V → β → Prop} {ds : List C2} {xs : List V} {f : C2 → β} {tl te : TE} {a : Addr} {i j : Nat}
theorem ev_mapLC (hij : i ≠ j) (hl : Ev tl σ H (fun _ v => v = .ref a)) (hx : H a = some (.lst xs)) (hp : Paired (Cell H) xs ds) (tmy : TMono Ry) (hz : ds.length < 16000000)
    (he : ∀ c H', Same H H' → c ∈ ds → Ev te ((σ.set i (some (.int c.1))).set j (some (.int c.2))) H' (fun H v => Ry H v (f c))) : Ev (tLc (iList K tl) (gTup K 2 (gCons (gName i) (gCons (gName j) gNil))) tYes te [i, j]) σ H (NewL H Ry (ds.map f)) := by
  have h := ev_lcLC (K := K) (p := fun _ => true) (tt := tYes) hij hl hx hp tmy hz (fun c H' e m => ⟨evT_yes, fun _ => he c H' e m⟩)
  rwa [filt_all] at h
theorem ev_mapTC (hij : i ≠ j) (hl : Ev tl σ H (fun _ v => v = .ref a)) (hx : H a = some (.tup xs)) (hp : Paired (Cell H) xs ds) (tmy : TMono Ry) (hz : ds.length < 16000000)
    (he : ∀ c H', Same H H' → c ∈ ds → Ev te ((σ.set i (some (.int c.1))).set j (some (.int c.2))) H' (fun H v => Ry H v (f c))) : Ev (tLc (iTup K tl) (gTup K 2 (gCons (gName i) (gCons (gName j) gNil))) tYes te [i, j]) σ H (NewL H Ry (ds.map f)) := by
  have h := ev_lcTC (K := K) (p := fun _ => true) (tt := tYes) hij hl hx hp tmy hz (fun c H' e m => ⟨evT_yes, fun _ => he c H' e m⟩)
  rwa [filt_all] at h
end
theorem keyC_inj {c d : C2} (h : keyC c = keyC d) : c = d := by
  unfold keyC at h
  injection h with h1 h2
  injection h2 with h2 _
  exact Prod.ext (Sum.inl.inj h1) (Sum.inl.inj h2)
/-- the dict's keys are just the cells cs, none twice -/
def Keys (kvs : List (List Key × V)) (cs : List C2) : Prop := kvs.map (·.1) = cs.map keyC ∧ cs.Nodup
theorem Keys.nil : Keys [] [] := ⟨rfl, .nil⟩
theorem Keys.len {kvs : List (List Key × V)} {cs : List C2} (h : Keys kvs cs) : kvs.length = cs.length := by
  have := congrArg List.length h.1
  simpa using this
theorem valV_some {kvs : List (List Key × V)} {k : List Key} : (valV kvs k).isSome = true ↔ k ∈ kvs.map (·.1) := by
  unfold valV
  rw [Option.isSome_map, List.find?_isSome]
  simp only [decide_eq_true_eq, List.mem_map]
theorem Keys.has {kvs : List (List Key × V)} {cs : List C2} (h : Keys kvs cs) (c : C2) : (valV kvs (keyC c)).isSome = decide (c ∈ cs) := by
  rw [Bool.eq_iff_iff, valV_some, h.1, decide_eq_true_eq]
  constructor
  · intro hm
    obtain ⟨d, hd, e⟩ := List.mem_map.mp hm
    rw [keyC_inj e] at hd; exact hd
  · exact fun hm => List.mem_map_of_mem hm
theorem Keys.put {kvs : List (List Key × V)} {cs : List C2} (h : Keys kvs cs) (c : C2) (v : V) : Keys (putK kvs (keyC c) v) (if c ∈ cs then cs else cs ++ [c]) := by
  unfold putK
  have hh : (kvs.any fun kv => decide (kv.1 = keyC c)) = decide (c ∈ cs) := by
    rw [← h.has c, Bool.eq_iff_iff, valV_some]
    simp only [List.any_eq_true, decide_eq_true_eq, List.mem_map]
  rw [hh]
  by_cases hc : c ∈ cs
  · rw [if_pos (decide_eq_true hc), if_pos hc]
    refine ⟨?_, h.2⟩
    rw [← h.1, List.map_map]
    refine List.map_congr_left fun kv _ => ?_
    show (if kv.1 = keyC c then (kv.1, v) else kv).1 = kv.1
    split <;> rfl
  · rw [if_neg (by simpa using hc), if_neg hc]
    refine ⟨by rw [List.map_append, List.map_append, h.1]; rfl, ?_⟩
    exact List.nodup_append.mpr ⟨h.2, List.nodup_cons.mpr ⟨List.not_mem_nil, .nil⟩, fun a ha b hb => by
      have : b = c := by simpa using hb
      subst this
      exact fun e => hc (e ▸ ha)⟩
end K84
namespace K84
open L2 PySem PySem.Spec PyProof.Rows
section
variable {prog : Program} {w : World} {A : Around} {E : Value → Shared → Prop} {s : Shared}
abbrev BackAt (items : Array Value) : Nat → Value → Prop := fun i v => items[items.size - 1 - i]? = some v
theorem back_extend {R : Result → Shared → Prop} {it l S : Addr} {items : Array Value} {c : Nat} (hh : A.handled = none) (hit : s.heap.IsRevIter it l ((items.size : Int) - 1)) (hl : s.heap.IsList l items) (hne : l ≠ it) (hn : items.size ≤ sizeLine)
    (hS : s.heap.get? S = some { cls := .type "list", data := .seq #[] c }) (hSi : S ≠ it) (hSl : S ≠ l)
    (hR : ∀ h' tk acc' c', (∀ b o, b ≠ S → b ≠ it → s.heap.get? b = some o → h'.get? b = some o) → h'.get? S = some { cls := .type "list", dict := none, data := .seq acc' c', slots := #[] } → ItemsOf (BackAt items) acc' items.size → R (.ok (.ret .none)) { s with heap := h', toks := tk }) :
    wpAny (model prog w) A.in1 (Builtin.List.listExtendWith (.ref S) (.ref it) .none) (fun fin s' => match fin with | .done f => R (.ok f) s' | .again c' => c'.quiet = true ∧ codeAny (model prog w) A c' R s') (fun e s' => R (.error e) s') s := by
  have Wk := (Walks.listRev (prog := prog) (w := w) (A := A.in1) hh it l hne items).toS
  have hSf : S ∉ [it, l] := by simp only [List.mem_cons, List.not_mem_nil, or_false, not_or]; exact And.intro hSi hSl
  have hT : s.TypeIs (.ref it) "list_reverseiterator" := hit.typeIs
  have hd1 : Builtin.List.listSameRef (.ref S) (.ref it) = false := by simp only [Builtin.List.listSameRef]; exact beq_false_of_ne hSi
  unfold Builtin.List.listExtendWith
  refine wpAny_bind (m := typeOf _) (wpAny_typeOf hT ?_)
  rw [if_neg (by rw [hd1]; exact Bool.false_ne_true)]
  refine wpAny_bind (wpAny_pyIter_revIter hit (wpAny_bind (wpAny_holding ?_)))
  unfold Builtin.List.listLengthHint
  refine wpAny_bind (m := specialOf _ _) (wpAny_specialOf hT RT.nolen_lri ?_)
  show wpAny _ _ (specialOf (Value.ref it) (Str.ofString "__length_hint__") >>= _) _ _ _
  refine wpAny_bind (m := specialOf _ _) (wpAny_specialOf hT RT.hint_lri ?_)
  generalize hid : ("list_reverseiterator.__length_hint__" : String) = nm
  wp_delta
  rw [show splitId nm = some ("list_reverseiterator", "__length_hint__") from by subst hid; decide +kernel]
  subst hid
  refine wpAny_bind (m := isInstance _ _) (wpAny_isInstance (b := true) hT (by rw [isSubtype_type]; kernel_rfl) ?_)
  refine wpAny_pure ?_
  rw [if_neg (by decide)]
  have e0 : ((items.size : Nat) : Int) - 1 - ((0 : Nat) : Int) = (items.size : Int) - 1 := by omega
  refine wpAny_pure ⟨plainId_quiet F.plain_extend_loop _, codeAny_extend_loopS Wk hn _ hSf _ items.size 0 _ _ _ rfl (Nat.zero_le _) ⟨Nat.zero_le _, by rw [e0]; exact hit, hl⟩ hS (ItemsOf.nil _) fun s' acc' c' hm hS' hacc => ?_⟩
  rw [Moved.eq_with hm]
  exact hR s'.heap s'.toks acc' c' (fun b o hb hb2 e => hm.heap b o (fun hmem => by
    rcases List.mem_cons.mp hmem with z | z
    · exact hb z
    · exact hb2 (List.mem_singleton.mp z)) e) hS' hacc
theorem back_init {R : Result → Shared → Prop} {it l S : Addr} {items : Array Value} (hh : A.handled = none) (hit : s.heap.IsRevIter it l ((items.size : Int) - 1)) (hl : s.heap.IsList l items) (hne : l ≠ it) (hn : items.size ≤ sizeLine)
    (hS : s.heap.get? S = some { cls := .type "list", data := .seq #[] }) (hSi : S ≠ it) (hSl : S ≠ l)
    (hR : ∀ h' tk acc' c', (∀ b o, b ≠ S → b ≠ it → s.heap.get? b = some o → h'.get? b = some o) → h'.get? S = some { cls := .type "list", dict := none, data := .seq acc' c', slots := #[] } → ItemsOf (BackAt items) acc' items.size → R (.ok (.ret .none)) { s with heap := h', toks := tk }) :
    wpAny (model prog w) A.in1 (Builtin.«list.__init__» ⟨[.ref S, .ref it], []⟩) (fun fin s' => match fin with | .done f => R (.ok f) s' | .again c' => c'.quiet = true ∧ codeAny (model prog w) A c' R s') (fun e s' => R (.error e) s') s := by
  show wpAny _ _ (do let old ← Builtin.List.listItems (.ref S); Builtin.List.listUpdate (.ref S) (fun _ => #[]); letGo old.toList.reverse; Builtin.List.listExtendWith (.ref S) (.ref it) Value.none) _ _ s
  refine wpAny_bind ?_
  unfold Builtin.List.listItems
  refine wpAny_bind (wpAny_seqItems (hS) rfl (wpAny_pure ?_))
  show wpAny _ _ (updateSeq S (fun _ => #[]) >>= fun _ => letGo (#[] : Array Value).toList.reverse >>= fun _ => Builtin.List.listExtendWith (.ref S) (.ref it) Value.none) _ _ s
  refine wpAny_bind (m := updateSeq _ _) (wpAny_updateSeq hS rfl ?_)
  have hS2 := Heap.get?_update_self (Obj.mapSeq (fun _ => (Array.empty : Array Value))) hS rfl
  have kp : ∀ b o, b ≠ S → s.heap.get? b = some o → (s.heap.update S (Obj.mapSeq (fun _ => (#[] : Array Value)))).get? b = some o := fun b o hb e => (Heap.get?_update_other _ _ (Ne.symm hb)).trans e
  refine wpAny_bind (m := letGo _) (wpAny_letGo ?_)
  have hl' : (s.heap.update S (Obj.mapSeq (fun _ => (#[] : Array Value)))).IsList l items := by
    obtain ⟨o, ho, r⟩ := hl
    exact ⟨o, kp l o (Ne.symm hSl) ho, r⟩
  refine back_extend (s := { s with heap := s.heap.update S (Obj.mapSeq (fun _ => (#[] : Array Value))) }) hh (hit.at fun o e => kp it o (Ne.symm hSi) e) hl' hne hn hS2 hSi hSl fun h' tk acc' c' hk hS' hacc => ?_
  exact hR h' tk acc' c' (fun b o hb hb2 e => hk b o hb hb2 (kp b o hb e)) hS' hacc
theorem back_call {Q : Value → Shared → Prop} {it l : Addr} {items : Array Value} (hh : A.handled = none) (hit : s.heap.IsRevIter it l ((items.size : Int) - 1)) (hl : s.heap.IsList l items) (hne : l ≠ it) (hn : items.size ≤ sizeLine)
    (hQ : ∀ h' tk acc' c', (∀ b o, b ≠ it → s.heap.get? b = some o → h'.get? b = some o) → h'.get? s.heap.objs.size = some { cls := .type "list", dict := none, data := .seq acc' c', slots := #[] } → ItemsOf (BackAt items) acc' items.size → Q (.ref s.heap.objs.size) { s with heap := h', toks := tk }) :
    wpAny (model prog w) A (call (.type "list") [.ref it]) Q E s := by
  obtain ⟨oi, hoi, _⟩ := id hit
  obtain ⟨ol, hol, _⟩ := id hl
  refine callType_codes (Q₁ := fun obj s₁ => obj = Value.ref s.heap.objs.size ∧ s₁ = { s with heap := s.heap.push { cls := .type "list", data := .seq #[] } }) F.called_list (F.typeCall_list_1 _) F.entry_list_init
    (code_list_new _ ⟨rfl, rfl⟩) fun obj s₁ hq => ?_
  obtain ⟨rfl, rfl⟩ := hq
  have hS : (s.heap.push { cls := .type "list", data := .seq #[] }).get? s.heap.objs.size = some { cls := .type "list", data := .seq (#[] : Array Value) } := Heap.get?_push_size _ rfl
  refine ⟨⟨_, hS, rfl⟩, F.args_list_init_2 _ _, back_init (A := A.in1) hh (hit.at fun o e => Heap.get?_push_of_some _ e) (hl.push _) hne hn hS (Nat.ne_of_gt (Heap.lt_size hoi)) (Nat.ne_of_gt (Heap.lt_size hol)) fun h' tk acc' c' hk hS' hacc => ?_⟩
  exact ⟨rfl, hQ h' tk acc' c' (fun b o hb e => hk b o (Nat.ne_of_lt (Heap.lt_size e)) hb (Heap.get?_push_of_some _ e)) hS' hacc⟩
end
section
variable {X : Cx}
theorem pe_listRev {e : Expr} {te : TE} {p p2 pos pos2 : Pos} (hc : X.calm = true) (hg : Gl X "list") (hm : X.mg "list" = none) (hg2 : Gl X "reversed") (hm2 : X.mg "reversed" = none) (he : PE X e te)
    (hs : starEach [e] X.env = (false, eval e X.env) :: starEach [] X.env := by rfl) (hs2 : starEach [.Call (.Name "reversed" p2) [e] [] pos2] X.env = (false, eval (.Call (.Name "reversed" p2) [e] [] pos2) X.env) :: starEach [] X.env := by rfl) :
    PE X (.Call (.Name "list" p) [.Call (.Name "reversed" p2) [e] [] pos2] [] pos) (tListRev X.K te) := by
  refine ⟨fun pins s σ H Q I hg0 => ?_⟩
  refine Call_ (ld_blt I hg hm boot_list (PyProof.Rows.callWith_type1 (args_cons (Call_ (ld_blt I hg2 hm2 PyProof.Rows.boot_reversed (PyProof.Rows.callWith_type1 (args_cons (thn (he.run pins s σ H _ I hg0) fun u s1 ⟨v, H1, I1, r1, a, xs, ev, hq, q⟩ => args_nil ?_) hs) hs rfl))) hs2) hs2 rfl))
  subst ev
  obtain rfl : u = Value.ref a := r1
  obtain ⟨its, rv, pl, hz⟩ := I1.list hq
  refine call_reversed_list pl.isList (args_nil ?_)
  have hl := pl.isList
  obtain ⟨ol, hol, _⟩ := id hl
  have hn : its.toArray.size ≤ sizeLine := by rw [List.size_toArray, ← rv.length]; exact hz
  refine back_call (s := { s1 with heap := s1.heap.push (revObj a ((its.toArray.size : Int) - 1)) }) (I1.ok.hd hc) ⟨_, Heap.get?_push_size _ rfl, rfl, rfl⟩ (hl.push _) (Nat.ne_of_lt (Heap.lt_size hol)) hn fun h' tk acc c' hk hS hi => ?_
  have hge : s1.heap.objs.size ≤ (s1.heap.push (revObj a ((its.toArray.size : Int) - 1))).objs.size := by rw [size_push']; exact Nat.le_succ _
  refine ⟨V.ref _, _, I1.laid (t' := tk) (o := .lst xs.reverse) (fun b o e => hk b o (Nat.ne_of_lt (Heap.lt_size e)) (Heap.get?_push_of_some _ e)) hge ?_, rfl, q _ (I1.hok.fresh hge)⟩
  exact ⟨by rw [List.length_reverse]; exact hz, acc.toList, c', RT.vals_rev rv hi, by rw [Array.toArray_toList]; exact hS⟩
end
end K84
namespace K84
open L2 PySem PySem.Spec PyProof.Rows
section
variable {prog : Program} {w : World} {A : Around} {E : Value → Shared → Prop} {s : Shared} {β : Type} {enc : β → PyData} {R : Value → β → Prop} {PB : List β → Prop} {x : Value} {Q : Value → Shared → Prop}
theorem sorted_via (hc : ∀ (Q' : List Value → Shared → Prop) (E' : Value → Shared → Prop), (∀ s1 vs bs, (∀ b o, s.heap.get? b = some o → s1.heap.get? b = some o) → s1.gens = s.gens → s1.os = s.os →
      PySem.W.EachIs R vs bs → PySem.W.EachIs (fun v b => Reads s1.heap v (enc b) []) vs bs → PB bs → Q' vs s1) → wpAny (model prog w) A.in1 (collect x) Q' E' s)
    (hp : ∀ bs, PB bs → PySem.W.AllAlike (bs.map enc) ∧ PySem.W.Sortable (bs.map enc) ∧ bs.length ≤ sizeLine ∧ ∀ b ∈ bs, A.units + 2 + (enc b).depth < cLine)
    (hQ : ∀ (s' s1 : Shared) (p : Addr) (out : List Value) (bs : List β), (∀ b o, s.heap.get? b = some o → s1.heap.get? b = some o) → (∀ b o, s1.heap.get? b = some o → s'.heap.get? b = some o) → s'.gens = s.gens → s'.os = s.os → s1.heap.objs.size ≤ p → (∃ c, s'.heap.get? p = some (seqObj "list" (List.toArray out) c)) → PB bs → PySem.W.EachIs R out (bs.mergeSort (PySem.W.dataLe false enc)) → Q (.ref p) s') :
    wpAny (model prog w) A (call (.builtin "sorted") [x]) Q E s := by
  refine Calls.call_function_entry (id := "sorted") PyProof.Rows.kind_sorted PyProof.Rows.plain_sorted PyProof.Rows.entry_sorted (PyProof.Rows.args_sorted1 _) ?_
  unfold Builtin.«sorted»
  refine wpAny_bind (m := checkCount "sorted" 1 1 _) (wpAny_pure ?_)
  refine wpAny_bind (m := collect _) (hc _ _ fun s1 vs bs k1 g1 o1 e er pb => ?_)
  obtain ⟨hal, hk, hl, hu⟩ := hp bs pb
  have hvl : vs.length = bs.length := e.length
  refine wpAny_bind (m := newList _) (wpAny_newList ?_ (by omega))
  have hoL : (s1.heap.push (seqObj "list" vs.toArray 0)).get? s1.heap.objs.size = some (seqObj "list" (List.toArray vs) 0) := Heap.get?_push_size _ rfl
  have er2 : PySem.W.EachIs (fun v b => ∃ as, Reads (s1.heap.push (seqObj "list" vs.toArray 0)) v (enc b) as ∧ s1.heap.objs.size ∉ as) vs bs := er.mono fun v b r => ⟨[], PyProof.Rows.Reads.keeps (fun _ _ q => Heap.get?_push_of_some _ q) r, List.not_mem_nil⟩
  refine wpAny_bind (wpAny_holding (PySem.W.list_sort_data (s := { s1 with heap := s1.heap.push (seqObj "list" vs.toArray 0) }) hoL e er2 hal hk hl hu fun out hlen eo => ?_))
  obtain ⟨c, hcc⟩ := sortedHeap_at (vs := vs) (out := List.toArray out) hoL
  refine wpAny_pure ⟨Value.ref _, rfl, hQ _ s1 s1.heap.objs.size out bs k1 (fun b u q1 => ?_) g1 o1 (Nat.le_refl _) ⟨c, hcc⟩ pb eo⟩
  have hlt := Heap.lt_size q1
  show (sortedHeap (s1.heap.push (seqObj "list" vs.toArray 0)) s1.heap.objs.size vs (List.toArray out)).get? b = some u
  rw [sortedHeap_old (Nat.ne_of_lt hlt) (by rw [size_push']; exact Nat.lt_succ_of_lt hlt)]
  exact Heap.get?_push_of_some _ q1
end
theorem ints2_reads {h : Heap} {us : List Value} {i j : Int} (r : Vals [V.int i, V.int j] us) : ReadsAll h us [.int i, .int j] [] := by
  cases r with
  | cons a t =>
    cases t with
    | cons b t =>
      cases t
      obtain ⟨t1, rfl⟩ := a
      obtain ⟨t2, rfl⟩ := b
      exact .cons (as := []) (bs := []) (.int _ _) (.cons (as := []) (bs := []) (.int _ _) .nil)
section
variable {X : Cx} {pins : List (Addr × Obj)} {σ : L2.St} {H : Hp} {s : Shared}
theorem cell_reads (I : Inv X pins σ H s) {v : V} {c : C2} {u : Value} (h : Cell H v c) (r : RelV v u) : Reads s.heap u (cD c) [] := by
  obtain ⟨a, rfl, ha⟩ := h
  obtain rfl : u = Value.ref a := r
  obtain ⟨its, rv, ⟨o, ho, hc, n, hd⟩, _⟩ := I.tuple (SqT.of ha)
  exact Reads.tuple ho hc hd (ints2_reads rv)
theorem row_reads (I : Inv X pins σ H s) {v : V} {cs : List C2} {u : Value} (h : Row H v cs) (r : RelV v u) : Reads s.heap u (rD cs) [] := by
  obtain ⟨a, vs, rfl, ha, hp⟩ := h
  obtain rfl : u = Value.ref a := r
  obtain ⟨its, rv, ⟨o, ho, hc, n, hd⟩, _⟩ := I.tuple (SqT.of ha)
  refine Reads.tuple ho hc hd ?_
  have key : ∀ {vs : List V} {cs : List C2} {us : List Value}, Paired (Cell H) vs cs → Vals vs us → ReadsAll s.heap us (cs.map cD) [] := by
    intro vs cs us hp
    induction hp generalizing us with
    | nil => intro r; cases r; exact .nil
    | cons a t ih =>
      intro r
      cases r with
      | cons b r => exact .cons (as := []) (bs := []) (cell_reads I a b) (ih r)
  exact key hp rv
end
theorem cells_alike : ∀ cs ds : List C2, PySem.W.alikeAll (cs.map cD) (ds.map cD) = true
  | [], _ => by simp [PySem.W.alikeAll]
  | _ :: _, [] => by simp [PySem.W.alikeAll]
  | c :: cs, d :: ds => by
    show (PySem.W.alike (cD c) (cD d) && PySem.W.alikeAll (cs.map cD) (ds.map cD)) = true
    rw [cells_alike cs ds, Bool.and_true]; rfl
/-- a list out of sorted, laid -/
theorem Inv.sortedOut {X : Cx} {pins : List (Addr × Obj)} {σ : L2.St} {H : Hp} {s s1 s' : Shared} {p : Addr} {ys : List V} {out : List Value} (I : Inv X pins σ H s) (k1 : ∀ b o, s.heap.get? b = some o → s1.heap.get? b = some o) (k : ∀ b o, s1.heap.get? b = some o → s'.heap.get? b = some o) (g : s'.gens = s.gens) (o : s'.os = s.os) (hp : s1.heap.objs.size ≤ p)
    (hg : ∃ c, s'.heap.get? p = some (seqObj "list" (List.toArray out) c)) (hv : Vals ys out) (hz : ys.length ≤ sizeLine) : Inv X pins σ (upd H p (.lst ys)) s' ∧ H p = none := by
  have I1 : Inv X pins σ H { s with heap := s1.heap, toks := s.toks } := I.kept (t' := s.toks) k1
  have hn : H p = none := I1.hok.fresh hp
  obtain ⟨c, hg⟩ := hg
  have J : Inv X pins σ (upd H p (.lst ys)) { s with heap := s'.heap, gens := s'.gens, drawn := s'.drawn, toks := s'.toks } := L2.Inv.call (s := { s with heap := s1.heap, toks := s.toks }) (ch := []) I1 (Un.laid k hp hn) (I1.hok.laid k hp ⟨hz, out, c, hv, hg⟩) (by rw [g]; exact I.bare) (fun _ z => nomatch z)
  have e : s' = { s with heap := s'.heap, gens := s'.gens, drawn := s'.drawn, toks := s'.toks } := by
    obtain ⟨a1, a2, a3, a4, a5⟩ := s'
    have : a5 = s.os := o
    subst this; rfl
  rw [e]
  exact ⟨J, hn⟩
theorem each_zip {H : Hp} : ∀ {xs : List V} {cs : List C2} {us : List Value}, Paired (Cell H) xs cs → Vals xs us → PySem.W.EachIs (fun u (b : V × C2) => RelV b.1 u ∧ Cell H b.1 b.2) us (xs.zip cs)
  | _, _, _, .nil, r => by cases r; exact .nil
  | _, _, _, .cons a t, r => by
    cases r with
    | cons b r => exact .cons ⟨b, a⟩ (each_zip t r)
theorem each_out {H : Hp} : ∀ {us : List Value} {bs : List (V × C2)}, PySem.W.EachIs (fun u (b : V × C2) => RelV b.1 u ∧ Cell H b.1 b.2) us bs → Vals (bs.map (·.1)) us ∧ Paired (Cell H) (bs.map (·.1)) (bs.map (·.2))
  | _, _, .nil => ⟨.nil, .nil⟩
  | _, _, .cons a t => ⟨.cons a.1 (each_out t).1, .cons a.2 (each_out t).2⟩
theorem zip_fst : ∀ {xs : List V} {cs : List C2}, xs.length = cs.length → (xs.zip cs).map (·.1) = xs ∧ (xs.zip cs).map (·.2) = cs
  | [], [], _ => ⟨rfl, rfl⟩
  | _ :: xs, _ :: cs, h => by
    obtain ⟨h1, h2⟩ := zip_fst (xs := xs) (cs := cs) (by simpa using h)
    exact ⟨by rw [List.zip_cons_cons, List.map_cons, h1], by rw [List.zip_cons_cons, List.map_cons, h2]⟩
  | [], _ :: _, h => by simp at h
  | _ :: _, [], h => by simp at h
/-- cells, sorted -/
theorem cells_sorted {γ : Type} (bs : List γ) (f : γ → C2) : (bs.mergeSort (PySem.W.dataLe false fun b => cD (f b))).Pairwise (fun p q => (f p).1 < (f q).1 ∨ ((f p).1 = (f q).1 ∧ (f p).2 ≤ (f q).2)) := by
  have e := PySem.W.dataLe_ii (β := γ) (fun b => (f b).1) (fun b => (f b).2)
  have e' : PySem.W.dataLe false (fun b => cD (f b)) = fun p q => decide ((f p).1 < (f q).1 ∨ ((f p).1 = (f q).1 ∧ (f p).2 ≤ (f q).2)) := e
  rw [e']
  have h := List.pairwise_mergeSort (le := fun p q => decide ((f p).1 < (f q).1 ∨ ((f p).1 = (f q).1 ∧ (f p).2 ≤ (f q).2))) (fun a b c h1 h2 => by
    simp only [decide_eq_true_eq] at *; omega) (fun a b => by
    simp only [Bool.or_eq_true, decide_eq_true_eq]; omega) bs
  exact h.imp fun h => by simpa using h
section
variable {X : Cx}
theorem cr_sortedR (hu : X.A.units + 65 < cLine) : CallR X (.builtin "sorted") rSortedR := by
  intro pins s σ H vs us Q I r h
  obtain ⟨a, xs, cs, rfl, hx, hp, hz, q⟩ := h
  rw [Vals.ref1 r]
  obtain ⟨T, o, n, its, hT, ho, hcl, hd, rv, hl⟩ : ∃ (T : String) (o : Obj) (n : Nat) (its : List Value), (T = "list" ∨ T = "tuple") ∧ s.heap.get? a = some o ∧ o.cls = .type T ∧ o.data = .seq its.toArray n ∧ Vals xs its ∧ xs.length ≤ sizeLine := by
    rcases hx with hx | hx
    · obtain ⟨its, rv, pl, hl⟩ := I.list (SqL.of hx)
      obtain ⟨o, ho, hc, n, hd⟩ := pl.isList
      exact ⟨"list", o, n, its, .inl rfl, ho, hc, by first | exact hd | exact hd.2, rv, hl⟩
    · obtain ⟨its, rv, ⟨o, ho, hc, n, hd⟩, hl⟩ := I.tuple (SqT.of hx)
      exact ⟨"tuple", o, n, its, .inr rfl, ho, hc, hd, rv, hl⟩
  have hk := hp.kLen
  refine sorted_via (β := V × C2) (enc := fun b => cD b.2) (R := fun u b => RelV b.1 u ∧ Cell H b.1 b.2) (PB := fun bs => bs = xs.zip cs) (fun Q' E' hq => ?_) (fun bs e => ?_) fun s' s1 p out bs k1 k g o hpz hg e eo => ?_
  · refine wpAny_collect_seq a hT ho hcl hd (fun h' kk => ?_) (by rw [List.size_toArray, ← rv.length]; exact hl)
    have I2 : Inv X pins σ H { s with heap := h' } := I.kept (t' := s.toks) kk
    refine hq _ _ (xs.zip cs) kk rfl rfl (each_zip hp rv) ?_ rfl
    exact (each_zip hp rv).mono fun u b ⟨h1, h2⟩ => cell_reads I2 h2 h1
  · subst e
    refine ⟨.of fun b b' => rfl, .tuples fun b => ⟨_, _, rfl⟩, ?_, fun b hb => ?_⟩
    · rw [List.length_zip, sizeLine_eq]; omega
    · have := dep_cD b.2; omega
  · subst e
    obtain ⟨v1, v2⟩ := each_out eo
    have pm := List.mergeSort_perm (xs.zip cs) (PySem.W.dataLe false fun b => cD b.2)
    obtain ⟨z1, z2⟩ := zip_fst hk
    obtain ⟨J, hn⟩ := Inv.sortedOut I k1 k g o hpz hg v1 (by rw [List.length_map, pm.length_eq, List.length_zip, sizeLine_eq]; omega)
    refine ⟨.ref p, _, J, rfl, q _ _ p ?_ (List.pairwise_map.mpr (cells_sorted _ _)) v2 hn⟩
    have := pm.map (·.2)
    rwa [z2] at this
end
end K84
namespace K84
open L2 PySem PySem.Spec PyProof.Rows
theorem keys_cells {H : Hp} : ∀ {kvs : List (List Key × V)} {bs : List Addr} {cs : List C2}, IsKeys H kvs bs → kvs.map (·.1) = cs.map keyC → Paired (Cell H) (bs.map V.ref) cs
  | [], _, cs, hb, hk => by
    cases hb
    cases cs with
    | nil => exact .nil
    | cons c r => cases hk
  | kv :: r, _, cs, hb, hk => by
    cases hb with
    | cons h1 h2 =>
      cases cs with
      | nil => cases hk
      | cons c cr =>
        rw [List.map_cons, List.map_cons] at hk
        injection hk with k1 k2
        exact .cons ⟨_, rfl, by rw [h1, k1]; rfl⟩ (keys_cells h2 k2)
section
variable {X : Cx}
theorem cr_sortedDT (hc : X.calm = true) (hu : X.A.units + 64 < cLine) : CallR X (.builtin "sorted") rSortedDT := by
  intro pins s σ H vs us Q I r h
  obtain ⟨d, kvs, cs, rfl, hd, hkc, hz, q⟩ := h
  rw [Vals.ref1 r]
  obtain ⟨z, hs, ks, pr, o, es, ep, ho, hx, hdt, he, hn⟩ := (show ObjOk X.prog X.w H s.heap d (.dT kvs) from I.hok d _ hd)
  have l1 : es.size = ks.length := size_of_entries he
  have l2 : kvs.length = ks.length := Paired.length pr
  have hp : Paired (Cell H) ((ks.map fun x => x.2.1).map V.ref) cs := keys_cells (isKeys_of pr) hkc
  generalize hxs : (ks.map fun x => x.2.1).map V.ref = xs at hp
  have hxl : xs.length = ks.length := by rw [← hxs, List.length_map, List.length_map]
  have hk := hp.kLen
  refine sorted_via (β := V × C2) (enc := fun b => cD b.2) (R := fun u b => RelV b.1 u ∧ Cell H b.1 b.2) (PB := fun bs => bs = xs.zip cs) (fun Q' E' hq => ?_) (fun bs e => ?_) fun s' s1 p out bs k1 k g o hpz hg e eo => ?_
  · refine PySem.W.kdu_collect (kdl_raw hs hx hdt) (I.ok.hd hc) ho (by omega) fun h' tk acc kp it => ?_
    have ea : acc.toList = ks.map fun x => Value.ref x.2.1 := by
      have hl : acc.toList.length = ks.length := by rw [Array.length_toList, it.1]; exact l1
      refine List.ext_getElem? fun j => ?_
      rw [List.getElem?_map]
      cases hj : acc.toList[j]? with
      | none =>
        have h1 := List.getElem?_eq_none_iff.mp hj
        rw [List.getElem?_eq_none (by omega)]; rfl
      | some v =>
        obtain ⟨en, hen, hv⟩ := it.2 j v (by rw [← Array.getElem?_toList]; exact hj)
        have qe := entry_at he j
        rw [hen] at qe
        cases hb : ks[j]? with
        | none => rw [hb] at qe; exact nomatch (show some en = Option.none from qe)
        | some b =>
          rw [hb] at qe
          have e2 : en = entryOfKey (tupleKind (mixKind X.prog X.w)) b := Option.some.inj qe
          rw [hv, e2]; rfl
    have rv : Vals xs acc.toList := by
      rw [← hxs, ea, show (ks.map fun x => Value.ref x.2.1) = (ks.map fun x => x.2.1).map Value.ref by rw [List.map_map]; rfl]
      exact vals_refs _
    have I2 : Inv X pins σ H { s with heap := h', toks := tk } := I.kept (t' := tk) kp
    exact hq _ _ (xs.zip cs) kp rfl rfl (each_zip hp rv) ((each_zip hp rv).mono fun u b ⟨h1, h2⟩ => cell_reads I2 h2 h1) rfl
  · subst e
    refine ⟨.of fun b b' => rfl, .tuples fun b => ⟨_, _, rfl⟩, ?_, fun b hb => ?_⟩
    · rw [List.length_zip, sizeLine_eq]; omega
    · have := dep_cD b.2; omega
  · subst e
    obtain ⟨v1, v2⟩ := each_out eo
    have pm := List.mergeSort_perm (xs.zip cs) (PySem.W.dataLe false fun b => cD b.2)
    obtain ⟨z1, z2⟩ := zip_fst hk
    obtain ⟨J, hn⟩ := Inv.sortedOut I k1 k g o hpz hg v1 (by rw [List.length_map, pm.length_eq, List.length_zip, sizeLine_eq]; omega)
    refine ⟨.ref p, _, J, rfl, q _ _ p ?_ v2 hn⟩
    have := pm.map (·.2)
    rwa [z2] at this
end
end K84
namespace K84
open L2 PySem PySem.Spec PyProof.Rows
def putAll (cs : List C2) : List (List Key × V) := cs.foldl (fun kvs c => putK kvs (keyC c) (.bl true)) []
theorem putAll_keys (cs : List C2) : ∃ ds, Keys (putAll cs) ds ∧ ∀ c, c ∈ ds ↔ c ∈ cs := by
  have key : ∀ (cs : List C2) (kvs : List (List Key × V)) (ds : List C2), Keys kvs ds → ∃ es, Keys (cs.foldl (fun kvs c => putK kvs (keyC c) (.bl true)) kvs) es ∧ ∀ c, c ∈ es ↔ c ∈ ds ∨ c ∈ cs := by
    intro cs
    induction cs with
    | nil => exact fun kvs ds h => ⟨ds, h, fun c => by simp⟩
    | cons c r ih =>
      intro kvs ds h
      obtain ⟨es, h1, h2⟩ := ih _ _ (h.put c (.bl true))
      refine ⟨es, h1, fun d => ?_⟩
      rw [h2, List.mem_cons]
      by_cases hc : c ∈ ds
      · rw [if_pos hc]
        constructor
        · rintro (h | h)
          · exact .inl h
          · exact .inr (.inr h)
        · rintro (h | rfl | h)
          · exact .inl h
          · exact .inl hc
          · exact .inr h
      · rw [if_neg hc, List.mem_append, List.mem_singleton, or_assoc]
  obtain ⟨es, h1, h2⟩ := key cs [] [] Keys.nil
  exact ⟨es, h1, fun c => by rw [h2]; simp⟩
theorem putAll_kt {H : Hp} (tr : List (Addr × Addr × C2)) (hb : ∀ x ∈ tr, H x.2.1 = some (.tup [.int x.2.2.1, .int x.2.2.2])) : KT H (putAll (tr.map (·.2.2))) (storedAllH [] (tr.map fun x => (keyC x.2.2, x.2.1, Value.bool true))) := by
  have key : ∀ (tr : List (Addr × Addr × C2)) (kvs : List (List Key × V)) (ys : List (List Key × Addr × Value)), (∀ x ∈ tr, H x.2.1 = some (.tup [.int x.2.2.1, .int x.2.2.2])) → KT H kvs ys →
      KT H ((tr.map (·.2.2)).foldl (fun kvs c => putK kvs (keyC c) (.bl true)) kvs) (storedAllH ys (tr.map fun x => (keyC x.2.2, x.2.1, Value.bool true))) := by
    intro tr
    induction tr with
    | nil => exact fun _ _ _ h => h
    | cons x r ih =>
      intro kvs ys h hk
      exact ih _ _ (fun y hy => h y (List.mem_cons_of_mem _ hy)) (KT.put hk (keyC x.2.2) (y := .bl true) (u := Value.bool true) (h x List.mem_cons_self) rfl)
  exact key tr [] [] hb .nil
theorem pairs_triples {H : Hp} : ∀ {xs : List V} {cs : List C2}, Paired (fun x c => ∃ t u, x = V.ref t ∧ H t = some (.tup [u, .bl true]) ∧ Cell H u c) xs cs →
    ∃ tr : List (Addr × Addr × C2), xs = tr.map (fun x => V.ref x.1) ∧ tr.map (·.2.2) = cs ∧ ∀ x ∈ tr, H x.1 = some (.tup [.ref x.2.1, .bl true]) ∧ H x.2.1 = some (.tup [.int x.2.2.1, .int x.2.2.2])
  | _, _, .nil => ⟨[], rfl, rfl, fun x hx => nomatch hx⟩
  | _, _, .cons r t => by
    obtain ⟨tr, h1, h2, h3⟩ := pairs_triples t
    obtain ⟨a, u, rfl, ha, b, rfl, hb⟩ := r
    refine ⟨(a, b, _) :: tr, by rw [h1]; rfl, by rw [List.map_cons, h2], fun x hx => ?_⟩
    rcases List.mem_cons.mp hx with rfl | hx
    · exact ⟨ha, hb⟩
    · exact h3 x hx
theorem vals_of_map {α : Type} {f : α → Addr} : ∀ {l : List α} {us : List Value}, Vals (l.map fun x => V.ref (f x)) us → us = l.map fun x => Value.ref (f x)
  | [], _, r => by cases r; rfl
  | x :: l, _, r => by
    cases r with
    | cons h t =>
      cases h
      rw [List.map_cons, ← vals_of_map t]
section
variable {X : Cx}
theorem cr_dictT (hc : X.calm = true) (hu : X.A.units + 64 < cLine) : CallR X (.type "dict") rDictT := by
  intro pins s σ H vs us Q I r h
  obtain ⟨a, xs, cs, rfl, hx, hp, hz, q⟩ := h
  rw [Vals.ref1 r]
  obtain ⟨its, rv, pl, hl⟩ := I.list (SqL.of hx)
  obtain ⟨tr, rfl, rfl, ht⟩ := pairs_triples hp
  rw [List.length_map] at hl hz
  have ei : its = tr.map fun x => Value.ref x.1 := by
    have e := vals_of_map (f := fun x : Addr × Addr × C2 => x.1) rv
    exact e
  subst ei
  have hps : PairItems s.heap (tr.map fun x => Value.ref x.1).toArray (fun j => (tr[j]?.map (·.1)).getD 0) (tr.map fun x => (Value.ref x.2.1, Value.bool true)) := by
    refine ⟨by simp, fun j k v e => ?_⟩
    rw [List.getElem?_map] at e
    cases hj : tr[j]? with
    | none => rw [hj] at e; cases e
    | some x =>
      rw [hj] at e
      cases e
      refine ⟨by simp [hj], .inl ?_⟩
      obtain ⟨its', rv', tp, _⟩ := I.tuple (SqT.of (ht x (List.mem_of_getElem? hj)).1)
      cases rv' with
      | cons h1 t1 =>
        cases t1 with
        | cons h2 t2 =>
          cases t2
          obtain rfl := (show _ = Value.ref x.2.1 from h1)
          obtain rfl := (show _ = Value.bool true from h2)
          show s.heap.IsTuple ((tr[j]?.map (·.1)).getD 0) _
          rw [hj]
          exact tp
  refine call_dict_pairsH (knd := tupleKind (mixKind X.prog X.w)) (ps := tr.map fun x => (keyC x.2.2, x.2.1, Value.bool true)) (PairArg.list a _ _ (tr.map fun x => (Value.ref x.2.1, Value.bool true))) (I.ok.hd hc) (by show X.A.units + 1 + 1 < cLine; omega) ⟨pl, hps⟩ ⟨by simp, fun i key v e => ?_⟩ (fun h' hk x hxm => ?_) (by rw [List.length_map]; exact hl) fun h' tk hd' k => ?_
  · have e : (tr.map fun x => (Value.ref x.2.1, Value.bool true))[i]? = some (key, v) := e
    rw [List.getElem?_map] at e
    cases hj : tr[i]? with
    | none => rw [hj] at e; cases e
    | some x =>
      rw [hj] at e
      cases e
      exact ⟨keyC x.2.2, x.2.1, by simp [hj], rfl⟩
  · obtain ⟨y, hy, rfl⟩ := List.mem_map.mp hxm
    have h0 := key_of (ks := keyC y.2.2) I.hok (ht y hy).2
    refine (tupleKind_stays (knd := mixKind X.prog X.w)).stays (fun b o vs n e _ => hk b o (Nat.ne_of_lt (Heap.lt_size e)) List.not_mem_nil e) h0
  · obtain ⟨ob, es, ep, d1, d2, d3, d4, _, d5⟩ := hd'
    have hm : (s.heap.objs.size == sysModules) = false := beq_eq_false_iff_ne.mpr (Nat.ne_of_gt I.big)
    have hn : H s.heap.objs.size = none := I.hok.fresh (Nat.le_refl _)
    have kt := putAll_kt tr fun x hx => (ht x hx).2
    have hlen : (putAll (tr.map (·.2.2))).length ≤ sizeLine := by
      rw [Paired.length kt]
      exact Nat.le_trans (storedAllH_length _ _) (by simp; exact hl)
    refine ⟨.ref s.heap.objs.size, upd H s.heap.objs.size (.dT (putAll (tr.map (·.2.2)))), I.laid (t' := tk) (fun b o e => k b o List.not_mem_nil e) (Nat.le_refl _) (show ObjOk X.prog X.w _ _ _ (.dT _) from ⟨hlen, hm, _, KT.keeps kt fun b ys e => by rw [upd_ne (ne_of_none e hn)]; exact e, ob, es, ep, d1, d2, d3, d4, d5⟩), rfl, q _ _ (fun k => ?_) hn⟩
    obtain ⟨ds, k1, k2⟩ := putAll_keys (tr.map (·.2.2))
    rw [valV_some, k1.1, List.mem_map]
    constructor
    · rintro ⟨c, hc, rfl⟩; exact ⟨c, (k2 c).mp hc, rfl⟩
    · rintro ⟨c, hc, rfl⟩; exact ⟨c, (k2 c).mpr hc, rfl⟩
end
end K84
namespace K84
open L2 PySem PySem.Spec PyProof.Rows
set_option maxHeartbeats 1000000 in
theorem meets_enumT (l : Addr) (items : Array Value) : Meets (Builtin.«enumerate.__new__» ⟨[.type "enumerate", .ref l], []⟩) (fun _ R s => s.heap.IsTuple l items ∧
      R (.ok (.ret (.ref (s.heap.push { cls := .type "tuple_iterator", data := .fields #[.ref l, .int 0 0] }).objs.size))) { s with heap := (s.heap.push { cls := .type "tuple_iterator", data := .fields #[.ref l, .int 0 0] }).push { cls := .type "enumerate", data := .fields #[.none, .bool false, .ref s.heap.objs.size, rawInt 0, .none, .none] } }) :=
  .of_wp fun prog w A R s h => by
    obtain ⟨hp, g, d, tk, os⟩ := s; obtain ⟨hl, hr⟩ := h
    have hsub := sub_enumerate
    have q1 : ∀ {A' : Around} {E : Value → Shared → Prop} {Q : Value → Shared → Prop}, Q (.ref hp.objs.size) ⟨hp.push { cls := .type "tuple_iterator", data := .fields #[.ref l, .int 0 0] }, g, d, tk, os⟩ → wpAny (model prog w) A' (pyIter (.ref l)) Q E ⟨hp, g, d, tk, os⟩ :=
      fun q => wpAny_pyIter_tuple (s := ⟨hp, g, d, tk, os⟩) hl q
    wp_walk using q1
    refine wpAny_stack_any fun st => wpAny_pure ?_
    split
    · rename_i c _ _ _ _ _
      cases (c == Value.type "enumerate") <;> (wp_walk using q1; exact ⟨_, rfl, hr⟩)
    · wp_walk using q1
      exact ⟨_, rfl, hr⟩
section
variable {prog : Program} {w : World} {A : Around} {E : Value → Shared → Prop} {s : Shared}
theorem call_enumT {l : Addr} {items : Array Value} {Q : Value → Shared → Prop} (hL : s.heap.IsTuple l items)
    (h : ∀ h', IsEnum h' (s.heap.objs.size + 1) s.heap.objs.size 0 .none → h'.IsTupleIter s.heap.objs.size l 0 → (∀ b o, s.heap.get? b = some o → h'.get? b = some o) → Q (.ref (s.heap.objs.size + 1)) { s with heap := h' }) :
    wpAny (model prog w) A (call (.type "enumerate") [.ref l]) Q E s := by
  refine callType_new F.called_enumerate (by decide) (F.typeCall_enumerate_1 _) (F.newCall_enumerate_1 _) (fun ob => F.args_object_init_2 ob _) F.entry_enumerate_new (meets_enumT l items) ⟨hL, ?_⟩
  have hz : (s.heap.push { cls := .type "tuple_iterator", data := .fields #[.ref l, .int 0 0] }).objs.size = s.heap.objs.size + 1 := size_push' _ _
  show _ ∧ _
  rw [hz]
  have he : IsEnum ((s.heap.push { cls := .type "tuple_iterator", data := .fields #[.ref l, .int 0 0] }).push { cls := .type "enumerate", data := .fields #[.none, .bool false, .ref s.heap.objs.size, rawInt 0, .none, .none] }) (s.heap.objs.size + 1) s.heap.objs.size 0 .none := by
    have e := Heap.get?_push_size (s.heap.push { cls := .type "tuple_iterator", data := .fields #[.ref l, .int 0 0] }) (o := { cls := .type "enumerate", data := .fields #[.none, .bool false, .ref s.heap.objs.size, rawInt 0, .none, .none] }) rfl
    rw [hz] at e; exact e
  exact ⟨⟨_, he, rfl⟩, h _ he ⟨_, Heap.get?_push_of_some _ (Heap.get?_push_size _ rfl), rfl, rfl⟩ fun b o x => Heap.get?_push_of_some _ (Heap.get?_push_of_some _ x)⟩
end
theorem turn_enumT {P : Program} {w : World} {K : PySem.W.Frag} {elts : List Expr} {kk : Nat} {tpos : Pos} (a e it : Addr) (hai : a ≠ it) (hae : a ≠ e) :
    Turn P w K (.Tuple elts kk tpos) (IteT a) [e, it] e (fun i h => (∃ old, IsEnum h e it ((i : Nat) : Int) old) ∧ h.IsTupleIter it a i ∧ e ≠ it) where
  mem := List.mem_cons_self
  obj := fun i h st b hb => by
    obtain ⟨⟨old, he⟩, ⟨o, ho, hc, hd⟩, _⟩ := st
    rcases List.mem_cons.mp hb with z | z
    · rw [z]; exact ⟨_, he, fun v q => nomatch q⟩
    · rw [List.mem_singleton.mp z]; exact ⟨o, ho, fun v q => by rw [hd] at q; cases q⟩
  keep := fun i h h' st k => by
    obtain ⟨⟨old, he⟩, ⟨o, ho, r⟩, hne⟩ := st
    exact ⟨⟨old, k e List.mem_cons_self _ he⟩, ⟨o, k it (List.mem_cons_of_mem _ List.mem_cons_self) o ho, r⟩, hne⟩
  item := by
    intro X hP hw hK hc i pins s σ H E I hf st hg
    subst hP hw hK
    obtain ⟨⟨old, he⟩, hit, hne⟩ := st
    obtain ⟨xs, x, hq, hx⟩ := hg
    obtain ⟨its, rv, p, hz⟩ := I.tuple (SqT.of hq)
    obtain ⟨u, hu, ru⟩ := rv.get hx
    have hel : e < s.heap.objs.size := Heap.lt_size he
    have hil : it < s.heap.objs.size := by obtain ⟨_, q, _⟩ := hit; exact Heap.lt_size q
    have D := Draws.tuple (prog := X.prog) (w := X.w) (A := X.A.in1) (I.ok.hd hc) it a hai its.toArray
    have hlt : i < its.toArray.size := by
      rw [List.size_toArray, ← rv.length]; exact (List.getElem?_eq_some_iff.mp hx).1
    refine wpAny_pyNext_enum_itemC D he ⟨hit, p⟩ hlt hne (by simp only [List.mem_cons, List.not_mem_nil, or_false, not_or]; exact ⟨hne, Ne.symm hae⟩) fun y h' tk hy ho hst' hT hsz hk => ?_
    have hyu : y = u := by
      have hy' : its.toArray[i]? = some y := hy
      have hu' : its.toArray[i]? = some u := by simpa using hu
      rw [hy'] at hu'; exact Option.some.inj hu'
    subst hyu
    refine ⟨_, rfl, wpAny_letOwnedTupleGo_enum (s := { s with heap := h', toks := tk + 1 }) ho fun h'' he' sb => ?_⟩
    have hT2 : h''.get? s.heap.objs.size = some { cls := .type "tuple", data := .seq #[.int (i : Nat) tk, y] } := (sb.2 _ (Nat.ne_of_gt hel)).trans hT
    have new : ObjOk X.prog X.w (upd H s.heap.objs.size (.tup [.int (i : Nat), x])) h'' s.heap.objs.size (.tup [.int (i : Nat), x]) :=
      ⟨by show 2 ≤ sizeLine; decide, [.int (i : Nat) tk, y], .cons ⟨_, rfl⟩ (.cons ru .nil), ⟨_, hT2, rfl, _, rfl⟩⟩
    have I1 : Inv X pins σ (upd H s.heap.objs.size (.tup [.int (i : Nat), x])) { s with heap := h'', toks := tk + 1 } :=
      I.turnedNew (ch := [e, it]) (fun b ob hb q => (sb.2 b (fun z => hb (by simp [z]))).trans (hk b ob (fun z => hb (by simp [z])) (fun z => hb (by simp [z])) q)) hf (Nat.le_refl _) new
    obtain ⟨⟨oi, hoi, ri⟩, _⟩ := hst'
    refine ⟨.ref s.heap.objs.size, _, I1, rfl, ⟨_, x, rfl, I.hok.fresh (Nat.le_refl _), rfl, fun ys hy => by rw [hq] at hy; cases hy; exact hx⟩, ⟨⟨y, ?_⟩, ⟨oi, (sb.2 it (Ne.symm hne)).trans hoi, ri⟩, hne⟩, fun b hb => ?_⟩
    · have e1 : ((i + 1 : Nat) : Int) = (i : Int) + 1 := by omega
      rw [e1]; exact he'
    · have hb' : b < s.heap.objs.size := by
        rcases List.mem_cons.mp hb with z | z
        · rw [z]; exact hel
        · rw [List.mem_singleton.mp z]; exact hil
      rw [upd_ne (Nat.ne_of_lt hb')]
      exact (hf b hb).1
  done := by
    intro X hP hw hK hc i pins s σ H E I hf st hg
    subst hP hw hK
    obtain ⟨⟨old, he⟩, hit, hne⟩ := st
    obtain ⟨xs, hq, hx⟩ := hg
    obtain ⟨its, rv, p, hz⟩ := I.tuple (SqT.of hq)
    obtain ⟨f0, f1, f2, f3, f4, f5⟩ := hf it (List.mem_cons_of_mem _ List.mem_cons_self)
    have hl := rv.length
    have D : Draws X.prog X.w X.A.in1 it [it, a] i (fun _ _ => True) (fun j h => j = i ∧ h.IsTupleIter it a j ∧ h.IsTuple a its.toArray) := {
      live := fun _ _ st => let ⟨o, ho, _⟩ := st.2.1; ⟨o, ho⟩
      frame := fun _ _ _ st hk => ⟨st.1, st.2.1.at fun o q => hk it List.mem_cons_self o q, st.2.2.at fun o q => hk a (List.mem_cons_of_mem _ List.mem_cons_self) o q⟩
      item := fun j s Q E hj st _ => absurd st.1 (Nat.ne_of_lt hj)
      done := fun s Q E st hE => wpAny_nextOf_tuple_end (I.ok.hd hc) st.2.1 st.2.2 (by rw [← Array.getElem?_toList]; exact List.getElem?_eq_none (by show its.length ≤ i; omega)) hE }
    exact wpAny_pyNext_enum_endD D he ⟨rfl, hit, p⟩ fun h' eb => ⟨rfl, I.turned (t' := s.toks) (fun b o hb q => eb b o hb q) f0 f1 f3 f4 f5⟩
  self := fun A i s Q E st h => by
    obtain ⟨⟨_, he⟩, _⟩ := st
    exact wpAny_pyIter_enum he h
section
variable {X : Cx}
theorem pi_enumT {e : Expr} {ta : TA} {p pos tpos : Pos} {elts : List Expr} {kk : Nat} (hg : Gl X "enumerate") (hm : X.mg "enumerate" = none) (ha : PA X [e] ta) (hs : starEach [e] X.env = [(false, eval e X.env)] := by rfl) :
    PI X (.Tuple elts kk tpos) (.Call (.Name "enumerate" p) [e] [] pos) (iEnumT ta) := by
  refine ⟨fun pins s σ H R I h0 => ?_⟩
  refine Call_ (ld_blt I hg hm boot_enumerate (PyProof.Rows.callWith_type1 (thn (ha.run pos pins s σ H _ I h0) fun us s1 ⟨vs, H1, I1, r1, a, xs, ex, hq, q⟩ => ?_) hs rfl))
  subst ex
  cases r1 with
  | cons r rr =>
    cases rr
    cases r
    obtain ⟨its, rv, p', hz⟩ := I1.tuple (SqT.of hq)
    obtain ⟨oa, hoa, _⟩ := id p'
    have hal := Heap.lt_size hoa
    refine call_enumT p' fun h' he hit hk => wpAny_pyIter_enum he ?_
    have I2 : Inv X pins σ H1 { s1 with heap := h' } := I1.kept (t' := s1.toks) hk
    refine ⟨s1.heap.objs.size + 1, [s1.heap.objs.size + 1, s1.heap.objs.size], _, _, H1, rfl, I2, turn_enumT a (s1.heap.objs.size + 1) s1.heap.objs.size (Nat.ne_of_lt hal) (Nat.ne_of_lt (Nat.lt_succ_of_lt hal)), ⟨⟨.none, he⟩, hit, Nat.succ_ne_self _⟩, fun b hb => ?_, q⟩
    have hle : s1.heap.objs.size ≤ b := by
      rcases List.mem_cons.mp hb with z | z
      · rw [z]; exact Nat.le_add_right _ _
      · rw [List.mem_singleton.mp z]; exact Nat.le_refl _
    exact I1.fpOk hle (I1.hok.fresh hle)
end
end K84
namespace K84
open L2 PySem PySem.Spec PyProof.Rows
theorem tkey_back : ∀ {L : List (Addr × List Int)} {ks : List (Addr × C2)}, (∀ p ∈ L, p ∈ tkey ks) → ∃ L0 : List (Addr × C2), L = tkey L0 ∧ ∀ p ∈ L0, p ∈ ks
  | [], _, _ => ⟨[], rfl, fun p hp => nomatch hp⟩
  | q :: L, ks, h => by
    obtain ⟨L0, e, h0⟩ := tkey_back (L := L) (ks := ks) fun p hp => h p (List.mem_cons_of_mem _ hp)
    obtain ⟨p, hp, e1⟩ := List.mem_map.mp (h q List.mem_cons_self)
    refine ⟨p :: L0, by rw [e, ← e1]; rfl, fun r hr => ?_⟩
    rcases List.mem_cons.mp hr with z | z
    · rw [z]; exact hp
    · exact h0 r z
theorem two_inj {c d : C2} (h : ([c.1, c.2] : List Int) = [d.1, d.2]) : c = d := by
  injection h with h1 h2
  injection h2 with h2 _
  exact Prod.ext h1 h2
theorem perm_map_inv {α β : Type} {f : α → β} {l k : List β} (h : l.Perm k) : ∀ m : List α, k = m.map f → ∃ m' : List α, m'.Perm m ∧ l = m'.map f := by
  induction h with
  | nil => intro m e; exact ⟨m, .refl m, e⟩
  | cons x _ ih =>
    intro m e
    cases m with
    | nil => cases e
    | cons a m =>
      rw [List.map_cons] at e
      injection e with e1 e2
      obtain ⟨m', p, q⟩ := ih m e2
      exact ⟨a :: m', p.cons a, by rw [e1, q]; rfl⟩
  | swap x y l =>
    intro m e
    match m, e with
    | a :: b :: m, e =>
      rw [List.map_cons, List.map_cons] at e
      injection e with e1 e2
      injection e2 with e2 e3
      exact ⟨b :: a :: m, List.Perm.swap a b m, by rw [List.map_cons, List.map_cons, e1, e2, e3]⟩
  | trans _ _ i1 i2 =>
    intro m e
    obtain ⟨m2, p2, e2⟩ := i2 m e
    obtain ⟨m1, p1, e1⟩ := i1 m2 e2
    exact ⟨m1, p1.trans p2, e1⟩
section
variable {X : Cx}
theorem cr_setOfC (hc : X.calm = true) (hu : X.A.units + 64 < cLine) : CallR X (.type "set") (rSetOfC X.w) := by
  intro pins s σ H vs us Q I r h
  obtain ⟨l, ks, rfl, hl, hk, hf, q⟩ := h
  have e : (tkey ks).map (fun p => V.ref p.1) = ks.map fun p => V.ref p.1 := by unfold tkey; rw [List.map_map]; rfl
  refine cr_setOfT hc hu pins s σ H _ us Q I r ⟨l, tkey ks, rfl, by rw [e]; exact SqL.of hl, fun p hp => ?_, by unfold tkey; rw [List.length_map]; exact hf, fun a L hn h1 h2 => ?_⟩
  · obtain ⟨p0, hp0, rfl⟩ := List.mem_map.mp hp
    obtain ⟨b, eb, hb⟩ := hk p0 hp0
    cases eb
    exact SqT.of hb
  · obtain ⟨L0, rfl, h0⟩ := tkey_back h1
    refine q X.prog a L0 hn h0 fun p hp => ?_
    obtain ⟨r, hr, e⟩ := List.mem_map.mp (h2 _ (List.mem_map.mpr ⟨p, hp, rfl⟩))
    obtain ⟨r0, hr0, rfl⟩ := List.mem_map.mp hr
    exact List.mem_map.mpr ⟨r0, hr0, two_inj e⟩
theorem cr_sortedC (hc : X.calm = true) (hu : X.A.units + 64 < cLine) : CallR X (.builtin "sorted") (rSortedC X.w) := by
  intro pins s σ H vs us Q I r h
  obtain ⟨P, a, L, rfl, ha, hk, q⟩ := h
  rw [Vals.ref1 r]
  have R0 : SetT0 P X.w s.heap a (tkey L) := (I.hok a _ ha).1
  obtain ⟨es, ep, t, R⟩ := R0.full fun p hp => by
    obtain ⟨p0, hp0, rfl⟩ := List.mem_map.mp hp
    obtain ⟨b, eb, hb⟩ := hk p0 hp0
    cases eb
    obtain ⟨its, rv, ⟨o, ho, hcl, n, hd⟩, _⟩ := I.tuple (SqT.of hb)
    exact ⟨o, its.toArray, n, ho, hcl, hd, by simpa using items_of_vals (k := [p0.2.1, p0.2.2]) rv⟩
  obtain ⟨o, ho, hex, hd⟩ := R.ob
  have hfew : L.length < 64 := by have := R.few; unfold tkey at this; rwa [List.length_map] at this
  have hes : es.toList.map (·.2) = L.map fun q => Value.ref q.1 := by
    rw [R.rows]
    unfold rowsOf tkey
    rw [List.map_map, List.map_map]; rfl
  have hsz := R.size
  refine sorted_via (β := Addr × C2) (enc := fun b => cD b.2) (R := fun u b => u = Value.ref b.1) (PB := fun bs => bs.Perm L) (fun Q' E' hq => ?_) (fun bs e => ?_) fun s' s1 p out bs k1 k g og hpz hg e eo => ?_
  · refine collect_set (A := X.A.in1) (I.ok.hd hc) ⟨o, ho, hex.1, hd⟩ R.fits (by unfold scanBound; rw [hsz]; unfold tkey; rw [List.length_map]; omega) R.tab.ris R.led fun s1 out k1 hz g1 o1 pm => ?_
    rw [hes] at pm
    obtain ⟨bs, pb, rfl⟩ := perm_map_inv pm L rfl
    have I1 : Inv X pins σ H { s with heap := s1.heap, toks := s.toks } := I.kept (t' := s.toks) k1
    have ebs : ∀ bs : List (Addr × C2), (∀ b ∈ bs, b ∈ L) → PySem.W.EachIs (fun u (b : Addr × C2) => u = Value.ref b.1) (bs.map fun q => Value.ref q.1) bs ∧ PySem.W.EachIs (fun v (b : Addr × C2) => Reads s1.heap v (cD b.2) []) (bs.map fun q => Value.ref q.1) bs := by
      intro bs
      induction bs with
      | nil => exact fun _ => ⟨.nil, .nil⟩
      | cons b r ih =>
        intro hb
        obtain ⟨i1, i2⟩ := ih fun c hc => hb c (List.mem_cons_of_mem _ hc)
        exact ⟨.cons rfl i1, .cons (cell_reads I1 (hk b (hb b List.mem_cons_self)) rfl) i2⟩
    obtain ⟨e1, e2⟩ := ebs bs fun b hb => pb.mem_iff.mp hb
    exact hq s1 _ bs k1 g1 o1 e1 e2 pb
  · refine ⟨.of fun b b' => rfl, .tuples fun b => ⟨_, _, rfl⟩, ?_, fun b hb => ?_⟩
    · rw [e.length_eq, sizeLine_eq]; omega
    · have := dep_cD b.2; omega
  · have pm := (List.mergeSort_perm bs (PySem.W.dataLe false fun b => cD b.2)).trans e
    have hout : ∀ {us : List Value} {bs : List (Addr × C2)}, PySem.W.EachIs (fun u (b : Addr × C2) => u = Value.ref b.1) us bs → Vals (bs.map fun q => V.ref q.1) us := by
      intro us bs h
      induction h with
      | nil => exact .nil
      | cons a _ ih => exact .cons a ih
    obtain ⟨J, hn⟩ := Inv.sortedOut I k1 k g og hpz hg (hout eo) (by rw [List.length_map, pm.length_eq, sizeLine_eq]; omega)
    refine ⟨.ref p, _, J, rfl, q _ p pm ((pm.map (·.2)).nodup_iff.mpr ?_) (cells_sorted bs fun b => b.2) hn⟩
    have hnd := R.nd
    unfold tkey at hnd
    rw [List.map_map] at hnd
    have hnd' : (L.map fun p => ([p.2.1, p.2.2] : List Int)).Nodup := hnd
    exact List.pairwise_map.mpr ((List.pairwise_map.mp hnd').imp fun hne e => hne (by rw [e]))
end
end K84
namespace K84
open L2 PySem PySem.Spec PyProof.Rows
/-- v is of no class statement, and its hash is by value -/
structure Mild (P : Program) (w : World) (n : Nat) (s : Shared) (v : Value) : Prop where
  cl : ∀ (A : Around) (E : Value → Shared → Prop) (Q : Bool → Shared → Prop), Q false s → wpAny (model P w) A (ofAClassStatement n v) Q E s
  hv : ∀ (A : Around) (E : Value → Shared → Prop) (Q : Bool → Shared → Prop), Q true s → wpAny (model P w) A (hashByValue n v) Q E s
/-- numbers and tuples of such, nested -/
inductive NumK : NestedKey → Prop
  | num (i : Int) : NumK (.num i)
  | tup {ks : List NestedKey} : (∀ k ∈ ks, NumK k) → NumK (.tup ks)
theorem num_row (cs : List C2) : NumK (rowKey cs) := by
  refine .tup fun k hk => ?_
  obtain ⟨c, _, rfl⟩ := List.mem_map.mp hk
  refine .tup fun k hk => ?_
  rcases List.mem_cons.mp hk with e | hk
  · exact e ▸ .num _
  · exact List.mem_singleton.mp hk ▸ .num _
section
variable {P : Program} {w : World} {A : Around} {E : Value → Shared → Prop} {s : Shared}
theorem Mild.int (n : Nat) (s : Shared) (i : Int) (t : Tok) : Mild P w n s (.int i t) :=
  ⟨fun _ _ _ h => by rw [ofAClass_int]; exact wpAny_pure h, fun _ _ _ h => by rw [hashBy_int]; exact wpAny_pure h⟩
theorem Mild.bool (n : Nat) (s : Shared) (b : Bool) : Mild P w n s (.bool b) :=
  ⟨fun _ _ _ h => by
    have e : ofAClassStatement n (.bool b) = pure false := by cases n <;> rfl
    rw [e]; exact wpAny_pure h, fun _ _ _ h => by
    have e : hashByValue n (.bool b) = pure true := by cases n <;> rfl
    rw [e]; exact wpAny_pure h⟩
theorem Mild.tuple {n m : Nat} {b : Addr} {o : Obj} {vs : Array Value} (ho : s.heap.get? b = some o) (hc : o.cls = .type "tuple") (hd : o.data = .seq vs m) (hall : ∀ v ∈ vs.toList, Mild P w n s v) : Mild P w (n + 1) s (.ref b) := by
  have hT : s.TypeIs (.ref b) "tuple" := ⟨o, ho, hc⟩
  constructor
  · intro A E Q h
    unfold ofAClassStatement
    refine wpAny_bind (wpAny_typeOf hT ?_)
    dsimp only
    have e : (("tuple" : String) == "tuple") = true := by decide
    simp only [e, if_true, Bool.not_true, Bool.false_eq_true, if_false]
    try refine wpAny_bind (wpAny_pure ?_)
    try simp only [Bool.not_true, Bool.false_eq_true, if_false]
    show wpAny _ A (seqItems? (.ref b) >>= _) Q E s
    refine wpAny_bind (wpAny_seqItems ho hd ?_)
    dsimp only
    refine wpAny_bind ?_
    show wpAny _ A (forIn vs _ _) _ E s
    rw [← Array.forIn_toList]
    refine wpAny_forIn_list _ (fun rest r z => r.1 = none ∧ z = s ∧ ∀ v ∈ rest, Mild P w n s v) _ ?_ ?_ _ _ ⟨rfl, rfl, hall⟩
    · rintro v rest r z ⟨hr, rfl, ha⟩
      refine wpAny_bind ((ha v List.mem_cons_self).cl _ _ _ ?_)
      rw [if_neg Bool.false_ne_true]
      exact wpAny_pure ⟨rfl, rfl, fun u m => ha u (.tail _ m)⟩
    · rintro ⟨r1, r2⟩ z ⟨hr, rfl, _⟩
      cases (show r1 = none from hr)
      exact wpAny_pure h
  · intro A E Q h
    unfold hashByValue
    refine wpAny_bind (wpAny_specialOf hT F.slot_tuple_hash.lookup ?_)
    show wpAny _ A (seqItems? (.ref b) >>= _) Q E s
    refine wpAny_bind (wpAny_seqItems ho hd ?_)
    refine wpAny_bind ?_
    show wpAny _ A (forIn vs _ _) _ E s
    rw [← Array.forIn_toList]
    refine wpAny_forIn_list _ (fun rest r z => r.1 = none ∧ z = s ∧ ∀ v ∈ rest, Mild P w n s v) _ ?_ ?_ _ _ ⟨rfl, rfl, hall⟩
    · rintro v rest r z ⟨hr, rfl, ha⟩
      refine wpAny_bind ((ha v List.mem_cons_self).hv _ _ _ ?_)
      simp only [Bool.not_true, Bool.false_eq_true, if_false]
      exact wpAny_pure ⟨rfl, rfl, fun u m => ha u (.tail _ m)⟩
    · rintro ⟨r1, r2⟩ z ⟨hr, rfl, _⟩
      cases (show r1 = none from hr)
      exact wpAny_pure h
mutual
theorem mild_key : ∀ (k : NestedKey) (v : Value) (n : Nat) (s : Shared), NumK k → NestedIs s.heap k v → k.depth ≤ n → Mild P w n s v
  | .none, _, _, _, z, _, _ => nomatch z
  | .text _, _, _, _, z, _, _ => nomatch z
  | .num i, _, n, s, _, x, _ => by
    cases x with
    | bool e => exact .bool n s _
    | int _ t => exact .int n s i t
  | .tup ks, _, n, s, z, x, hn => by
    cases x with
    | tup g1 g2 g3 g4 =>
      cases z with
      | tup z =>
        simp only [NestedKey.depth] at hn
        cases n with
        | zero => omega
        | succ n => exact .tuple g1 g2 g3 (mild_keys ks _ n s z g4 (by omega))
theorem mild_keys : ∀ (ks : List NestedKey) (vs : List Value) (n : Nat) (s : Shared), (∀ k ∈ ks, NumK k) → NestedAll s.heap ks vs → NestedKey.depthAll ks ≤ n → ∀ v ∈ vs, Mild P w n s v
  | [], _, _, _, _, x, _, v, hv => by cases x; cases hv
  | k :: ks, _, n, s, z, x, hn, v, hv => by
    cases x with
    | cons x1 x2 =>
      simp only [NestedKey.depthAll] at hn
      rcases List.mem_cons.mp hv with e | hv
      · exact e ▸ mild_key k _ n s (z k List.mem_cons_self) x1 (by omega)
      · exact mild_keys ks _ n s (fun q m => z q (.tail _ m)) x2 (by omega) v hv
end
/-- the row at b has the key k -/
structure NIs (h : Heap) (k : NestedKey) (b : Addr) : Prop where
  is : NestedIs h k (.ref b)
  dp : k.depth ≤ 8
  nu : NumK k
theorem NIs.mild {k : NestedKey} {b : Addr} (x : NIs s.heap k b) : Mild P w 8 s (.ref b) := mild_key k _ 8 s x.nu x.is x.dp
theorem NIs.quiet {k : NestedKey} {b : Addr} (x : NIs s.heap k b) : QuietAt P w 8 s (.ref b) := quiet_key k _ 8 s x.is x.dp
/-- a search among rows shows nothing -/
theorem seen_rows {k : NestedKey} {b : Addr} {Q : Bool → Shared → Prop} (x : NIs s.heap k b) {ys : List Value} (hy : ∀ y ∈ ys, ∃ k' c, y = Value.ref c ∧ NIs s.heap k' c) (h : Q false s) : wpAny (model P w) A (searchCouldBeSeen (.ref b) ys) Q E s := by
  unfold searchCouldBeSeen
  refine wpAny_bind ?_
  refine wpAny_forIn_list _ (fun rest r z => r.1 = none ∧ z = s ∧ ∀ y ∈ rest, ∃ k' c, y = Value.ref c ∧ NIs s.heap k' c) _ ?_ ?_ _ _ ⟨rfl, rfl, hy⟩
  · rintro v rest r z ⟨hr, rfl, ha⟩
    obtain ⟨k', c, rfl, xc⟩ := ha v List.mem_cons_self
    have more : ∀ y ∈ rest, ∃ k' c, y = Value.ref c ∧ NIs z.heap k' c := fun u m => ha u (.tail _ m)
    dsimp only
    rcases Bool.eq_false_or_eq_true (b == c || (carriedByValue (.ref b) && carriedByValue (.ref c))) with hv | hv
    · exact wp_if_pos hv (wpAny_pure ⟨rfl, rfl, more⟩)
    · refine wp_if_neg (by rw [hv]; decide) ?_
      refine wpAny_bind (x.quiet _ _ _ ?_)
      simp only [Bool.not_true, Bool.false_eq_true, if_false]
      refine wpAny_bind (xc.quiet _ _ _ ?_)
      simp only [Bool.not_true, Bool.false_eq_true, if_false]
      refine wpAny_bind (x.mild.cl _ _ _ ?_)
      rw [if_neg Bool.false_ne_true]
      refine wpAny_bind (xc.mild.cl _ _ _ ?_)
      rw [if_neg Bool.false_ne_true]
      exact wpAny_pure ⟨rfl, rfl, more⟩
  · rintro ⟨r1, r2⟩ z ⟨hr, rfl, _⟩
    cases (show r1 = none from hr)
    exact wpAny_pure h

abbrev hN (w : World) (k : NestedKey) : Int := k.hash w
def rowsN (w : World) (L : KeysIn) : List (Int × Value) := L.map fun p => (hN w p.2, Value.ref p.1)
structure SetNR (w : World) (h : Heap) (a : Addr) (L : KeysIn) (es : Array (Int × Value)) (ep : Nat) (t : SetTable) : Prop where
  ob : ∃ o, h.get? a = some o ∧ o.ExactSet ∧ o.data = .set es ep t
  rows : es.toList = rowsN w L
  tab : TabOk t (L.map fun p => hN w p.2)
  nd : (L.map (·.2)).Nodup
  tup : ∀ p ∈ L, NIs h p.2 p.1
  plain : t.plain = true
  led : w.params.followText "set-order" = true ∨ t.led = true
  room : L.length * 5 < t.mask * 3
  few : L.length < 64
theorem rowsN_size {L : KeysIn} {es : Array (Int × Value)} (e : es.toList = rowsN w L) : es.size = L.length := by
  rw [← Array.length_toList, e]; exact List.length_map _
theorem rowsN_at {L : KeysIn} {es : Array (Int × Value)} (e : es.toList = rowsN w L) {i : Nat} {p : Addr × NestedKey} (h : L[i]? = some p) : es[i]? = some (hN w p.2, Value.ref p.1) := by
  rw [← Array.getElem?_toList, e, rowsN, List.getElem?_map, h]; rfl
theorem fits_of {t : SetTable} {n : Nat} (h1 : t.place.size = n) (h2 : t.dummies = #[]) (h3 : n ≤ t.mask) : t.fits n = true := by
  unfold SetTable.fits SetTable.fill
  rw [h2, Bool.and_eq_true, beq_iff_eq, decide_eq_true_eq]
  exact ⟨h1, by rw [h1]; exact h3⟩
variable {a : Addr} {L : KeysIn} {es : Array (Int × Value)} {ep : Nat} {t : SetTable}
theorem SetNR.fits (R : SetNR w s.heap a L es ep t) : t.fits es.size = true := by
  have h1 := R.tab.sz
  have h3 := R.room
  rw [List.length_map] at h1
  rw [rowsN_size R.rows]
  exact fits_of h1 R.tab.dm (by omega)
/-- the c-th step of the way -/
abbrev prb (m : Nat) (h : Int) (c : Nat) : SetTable.Probe := nth m (runAt m (SetTable.bits h % (m + 1)) (SetTable.bits h)) c
theorem prb_add (m : Nat) (h : Int) (c q : Nat) : nth m (prb m h c) q = prb m h (c + q) := (nth_add m c _ q).symm
theorem prb_dm (m : Nat) (h : Int) (c : Nat) : (prb m h c).dummy = none := by
  have key : ∀ (n : Nat) (p : SetTable.Probe), p.dummy = none → (nth m p n).dummy = none := by
    intro n
    induction n with
    | zero => exact fun p h => h
    | succ n ih =>
      exact fun p h => ih (adv m p) (by unfold adv; split <;> exact h)
  exact key c _ rfl
theorem searchN_from (R : SetNR w s.heap a L es ep t) {x : Addr} {k : NestedKey} (hx : NIs s.heap k x) (hu : A.units + 8 < cLine) {K : Nat} (hKf : K < 10 * SetTable.turns t.mask)
    (hK : way t.mask (hN w k) K ∉ t.place.toList) (hKb : ∀ c, c < K → way t.mask (hN w k) c ∈ t.place.toList) {Q : SetFound → Shared → Prop}
    (hin : k ∈ L.map (·.2) → Q (.there none) s) (hout : k ∉ L.map (·.2) → Q (.free (way t.mask (hN w k) K) false) s) :
    ∀ (f c : Nat) (stand : Option SetTable.Probe), stand.getD (t.probeStart (hN w k)) = prb t.mask (hN w k) c → c ≤ K → K - c < f →
      (∀ (i : Nat) p, L[i]? = some p → p.2 = k → ∃ c', c ≤ c' ∧ c' < K ∧ t.place.toList[i]? = some (way t.mask (hN w k) c')) →
      wpAny (model P w) A (setSearchFrom a (.ref x) (hN w k) true f stand) Q E s
  | 0, _, _, _, _, z, _ => absurd z (Nat.not_lt_zero _)
  | f + 1, c, stand, hst, hc, hf, hre => by
    obtain ⟨o, ho, hex, hd⟩ := R.ob
    have gw : ¬ t.gaveWay = true := by
      unfold SetTable.gaveWay
      rw [mask_odd R.tab.mok]; decide
    rw [setSearchFrom_succ]
    refine wpAny_bind (wpAny_setState_of ho hd R.fits ?_)
    dsimp only
    refine wp_if_neg gw ?_
    try refine wpAny_bind (wpAny_pure ?_)
    have ej : ∀ q, (nth t.mask (prb t.mask (hN w k) c) q).j = way t.mask (hN w k) (c + q) := fun q => congrArg SetTable.Probe.j (prb_add _ _ c q)
    have eK : c + (K - c) = K := by omega
    have spec := go_spec t R.tab.ris R.tab.dm (fun i => (es[i]?.map (·.1)).getD 0) (hN w k) (10 * SetTable.turns t.mask) (K - c) (prb t.mask (hN w k) c) (prb_dm _ _ _) (by omega)
      (fun q hq => by rw [ej]; exact hKb _ (by omega)) (by rw [ej, eK]; exact hK)
    have hashAt : ∀ (i : Nat) p, L[i]? = some p → (es[i]?.map (·.1)).getD 0 = hN w p.2 := fun i p hp => by rw [rowsN_at R.rows hp]; rfl
    -- whatever has the key isn't passed
    have pass : ∀ (i0 : Nat) (p0 : Addr × NestedKey) (q' : Nat), L[i0]? = some p0 → p0.2 = k → t.place.toList[i0]? = some (way t.mask (hN w k) (c + q')) →
        (∀ k' (i' : Nat), k' = q' → t.place.toList[i']? = some (nth t.mask (prb t.mask (hN w k) c) k').j → (es[i']?.map (·.1)).getD 0 ≠ hN w k) → False := fun i0 p0 q' h0 hk0 hp hno =>
      hno q' i0 rfl (by rw [ej]; exact hp) ((hashAt i0 p0 h0).trans (congrArg (hN w) hk0))
    rcases spec with ⟨q, i, hq, hi, hh, hno, hpr⟩ | ⟨hno, hpr⟩
    · have hpr' : t.probe (fun i => (es[i]?.map (·.1)).getD 0) (hN w k) (stand.getD (t.probeStart (hN w k))) = some (.candidate (way t.mask (hN w k) (c + q)) i (prb t.mask (hN w k) (c + (q + 1)))) := by
        rw [hst, ← ej, ← prb_add]
        exact hpr
      rw [hpr']
      dsimp only
      rw [ej] at hi
      have hil : i < L.length := by
        have h1 := (List.getElem?_eq_some_iff.mp hi).1
        have h2 := R.tab.sz
        rw [List.length_map] at h2
        rw [Array.length_toList, h2] at h1
        exact h1
      obtain ⟨p, hp⟩ : ∃ p, L[i]? = some p := ⟨_, List.getElem?_eq_getElem hil⟩
      have hmem : p ∈ L := List.mem_of_getElem? hp
      have hpt := R.tup p hmem
      have rest : wpAny (model P w) A (searchRest a (.ref x) (hN w k) true f es t (way t.mask (hN w k) (c + q)) i (prb t.mask (hN w k) (c + (q + 1)))) Q E s := by
        unfold searchRest
        rw [rowsN_at R.rows hp]
        dsimp only
        refine wpAny_bind (wpAny_holding ((nestedKind P w).eqBool (x := p.2) (y := k) hu ⟨hpt.is, hpt.dp⟩ ⟨hx.is, hx.dp⟩ ?_))
        refine wpAny_bind (wpAny_setState_of ho hd R.fits ?_)
        dsimp only
        by_cases hkk : p.2 = k
        · exact wp_if_pos (by simp [hkk]) (wpAny_pure (hin (List.mem_map.mpr ⟨p, hmem, hkk⟩)))
        · refine wp_if_neg (by simp [hkk]) ?_
          try refine wpAny_bind (wpAny_pure ?_)
          rw [sameMem]
          dsimp only
          have hsl : t.slot (way t.mask (hN w k) (c + q)) = .live i := slot_live R.tab.ris hi
          simp only [if_true, hsl, rowsN_at R.rows hp]
          refine wpAny_bind (wpAny_isSame_ref_self (wpAny_bind (wpAny_pure ?_)))
          simp only [if_true]
          refine wp_if_neg (by simp [hkk]) ?_
          refine searchN_from R hx hu hKf hK hKb hin hout f (c + (q + 1)) _ rfl (by omega) (by omega) fun i0 p0 h0 hk0 => ?_
          obtain ⟨c', a1, a2, a3⟩ := hre i0 p0 h0 hk0
          refine ⟨c', ?_, a2, a3⟩
          rcases Nat.lt_trichotomy c' (c + q) with z | z | z
          · exfalso
            obtain ⟨q', rfl⟩ : ∃ q', c' = c + q' := ⟨c' - c, by omega⟩
            exact pass i0 p0 q' h0 hk0 a3 fun k' i' e => hno k' i' (by omega)
          · exfalso
            rw [z] at a3
            have s0 := slot_live R.tab.ris a3
            rw [hsl] at s0
            injection s0 with s0
            rw [← s0, hp] at h0
            cases h0
            exact hkk hk0
          · omega
      by_cases hl : t.led = true
      · refine wp_if_neg (by simp [hl]) ?_
        try refine wpAny_bind (wpAny_pure ?_)
        exact rest
      · refine wp_if_pos (by simp [hl]) ?_
        refine wpAny_bind (seen_rows hx (fun y hy => ?_) ?_)
        · obtain ⟨e, he, ee⟩ := List.mem_map.mp hy
          have he1 : e ∈ es := by
            have z : e ∈ es ∧ e.1 = hN w k := by simpa using he
            exact z.1
          have he2 : e ∈ rowsN w L := by rw [← R.rows]; simpa using he1
          obtain ⟨p2, hp2, e2⟩ := List.mem_map.mp he2
          exact ⟨p2.2, p2.1, by rw [← ee, ← e2], R.tup p2 hp2⟩
        · refine wp_if_neg (by decide) ?_
          try refine wpAny_bind (wpAny_pure ?_)
          exact rest
    · have hpr' : t.probe (fun i => (es[i]?.map (·.1)).getD 0) (hN w k) (stand.getD (t.probeStart (hN w k))) = some (.empty (way t.mask (hN w k) K) none) := by
        have e2 := ej (K - c)
        rw [eK] at e2
        rw [hst, ← e2]
        exact hpr
      rw [hpr']
      refine wpAny_pure (hout fun hm => ?_)
      obtain ⟨p0, h0, hk0⟩ := List.mem_map.mp hm
      obtain ⟨i0, hi0, e0⟩ := List.getElem_of_mem h0
      have h00 : L[i0]? = some p0 := by rw [List.getElem?_eq_getElem hi0, e0]
      obtain ⟨c', a1, a2, a3⟩ := hre i0 p0 h00 hk0
      obtain ⟨q', rfl⟩ : ∃ q', c' = c + q' := ⟨c' - c, by omega⟩
      exact pass i0 p0 q' h00 hk0 a3 fun k' i' e => hno k' i' (by omega)
theorem searchN_at (R : SetNR w s.heap a L es ep t) {x : Addr} {k : NestedKey} (hx : NIs s.heap k x) (hu : A.units + 8 < cLine) {Q : SetFound → Shared → Prop} (hin : k ∈ L.map (·.2) → Q (.there none) s)
    (hout : ∀ K, k ∉ L.map (·.2) → way t.mask (hN w k) K ∉ t.place.toList → (∀ c, c < K → way t.mask (hN w k) c ∈ t.place.toList) → Q (.free (way t.mask (hN w k) K) false) s) :
    wpAny (model P w) A (setSearch a (.ref x) (hN w k) true) Q E s := by
  have hroom := R.room
  have hsz := R.tab.sz
  rw [List.length_map] at hsz
  obtain ⟨K, hKf, hK, hKb⟩ := R.tab.first (by rw [List.length_map]; omega) (hN w k)
  have hbig : K < 100000 := by
    have : 10 * SetTable.turns t.mask ≤ 1420 := by
      unfold SetTable.turns
      rcases R.tab.mok with e | e | e <;> rw [e] <;> decide
    omega
  unfold setSearch
  refine searchN_from R hx hu hKf hK hKb hin (fun hn => hout K hn hK hKb) 100000 0 none rfl (Nat.zero_le _) (by omega) fun i p hp hk => ?_
  have hil : i < t.place.toList.length := by
    rw [Array.length_toList, hsz]
    exact (List.getElem?_eq_some_iff.mp hp).1
  have hj := List.getElem?_eq_getElem hil
  obtain ⟨c, hc, e⟩ := R.tab.before hK (i := i) (h := hN w k) (by rw [List.getElem?_map, hp, ← hk]; rfl) hj
  exact ⟨c, Nat.zero_le _, hc, by rw [hj, e]⟩
end
end K84
namespace K84
open L2 PySem PySem.Spec PyProof.Rows
section
variable {P : Program} {w : World} {A : Around} {E : Value → Shared → Prop} {s : Shared}
/-- a row isn't the set -/
theorem NIs.same {h h' : Heap} {k : NestedKey} {a b : Addr} {o : Obj} {es : Array (Int × Value)} {ep : Nat} {t : SetTable} (x : NIs h k b) (ho : h.get? a = some o) (hd : o.data = .set es ep t) (hs : Heap.SameBut a h h') : NIs h' k b := by
  refine ⟨NestedIs.at (fun c u vs n h1 h2 => (hs.2 c fun e => ?_).trans h1) k _ x.is, x.dp, x.nu⟩
  rw [e, ho] at h1
  cases h1
  rw [hd] at h2
  exact nomatch h2
theorem NIs.keep {h h' : Heap} {k : NestedKey} {b : Addr} (x : NIs h k b) (hk : ∀ c o, h.get? c = some o → h'.get? c = some o) : NIs h' k b :=
  ⟨NestedIs.at (fun c u _ _ h1 _ => hk c u h1) k _ x.is, x.dp, x.nu⟩
theorem filterMap_all {α β : Type} {f : α → Option β} {g : α → β} : ∀ {l : List α}, (∀ x ∈ l, f x = some (g x)) → l.filterMap f = l.map g
  | [], _ => rfl
  | x :: l, h => by
    rw [List.filterMap_cons_some (h x List.mem_cons_self), filterMap_all fun y hy => h y (.tail _ hy)]; rfl
theorem range_self {α : Type} (L : List α) (d : α) : (List.range L.length).map (fun i => L.getD i d) = L := by
  refine List.ext_getElem (by simp) fun i h1 h2 => ?_
  simp [List.getD_eq_getElem?_getD, List.getElem?_eq_getElem h2]
/-- the rows in another order -/
theorem rowsN_order {L : KeysIn} {es : Array (Int × Value)} {order : Array Nat} (hr : es.toList = rowsN w L) (hp : order.toList.Perm (List.range L.length)) :
    ∃ L2 : KeysIn, (order.filterMap (es[·]?)).toList = rowsN w L2 ∧ L2.Perm L ∧ (L2.map fun p => hN w p.2) = order.toList.map fun i => (es.map (·.1)).getD i 0 := by
  cases hL : L with
  | nil =>
    subst hL
    have e : order.toList = [] := List.perm_nil.mp hp
    have e' : order = #[] := by obtain ⟨l⟩ := order; exact congrArg Array.mk e
    subst e'
    exact ⟨[], rfl, .refl _, rfl⟩
  | cons d0 _ =>
  rw [← hL]
  have at0 : ∀ i, i ∈ order.toList → es[i]? = some (hN w (L.getD i d0).2, Value.ref (L.getD i d0).1) := fun i hi => by
    have hlt := List.mem_range.mp (hp.mem_iff.mp hi)
    rw [rowsN_at hr (p := L.getD i d0) (by rw [List.getD_eq_getElem?_getD, List.getElem?_eq_getElem hlt]; rfl)]
  refine ⟨order.toList.map fun i => L.getD i d0, ?_, ?_, ?_⟩
  · rw [Array.toList_filterMap, filterMap_all at0, rowsN, List.map_map]; rfl
  · have h := hp.map fun i => L.getD i d0
    rwa [range_self] at h
  · rw [List.map_map]
    refine List.map_congr_left fun i hi => ?_
    have e5 : (es.map (·.1))[i]? = some (hN w (L.getD i d0).2) := by rw [Array.getElem?_map, at0 i hi]; rfl
    rw [Array.getD_eq_getD_getElem?, e5]; rfl
variable {a : Addr} {L : KeysIn} {es : Array (Int × Value)} {ep : Nat} {t : SetTable}
/-- laid anew, larger -/
theorem relayN {o : Obj} (ho : s.heap.get? a = some o) (hex : o.ExactSet) (hd : o.data = .set es ep t) (hrows : es.toList = rowsN w L) (hsz : t.place.size = es.size) (hdm : t.dummies = #[]) (hfl : es.size ≤ t.mask)
    (nd : (L.map (·.2)).Nodup) (tup : ∀ p ∈ L, NIs s.heap p.2 p.1) (pl : t.plain = true) (ld : w.params.followText "set-order" = true ∨ t.led = true) (few : L.length < 64) {wanted M : Nat}
    (hw : SetTable.sizeAbove wanted - 1 = M) (hM : MaskOk M) (hw2 : SetTable.sizeAbove wanted ≤ 128) (hn : L.length * 5 < M * 3) {Q : Unit → Shared → Prop}
    (hQ : ∀ h' L' es' ep' t', Heap.SameBut a s.heap h' → SetNR w h' a L' es' ep' t' → L'.Perm L → Q () { s with heap := h' }) : wpAny (model P w) A (setRelay a wanted) Q E s := by
  have hsl := rowsN_size hrows
  have hm : (es.map (·.1)).size = L.length := by rw [Array.size_map, hsl]
  obtain ⟨t', order, e, hp, T, em, el, epl, _⟩ := relaid_ok t (hs := es.map (·.1)) (wanted := wanted) hw hM (by omega)
  rw [hm] at hp
  obtain ⟨L2, r1, r2, r3⟩ := rowsN_order hrows hp
  rw [← r3] at T
  have hs2 : (order.filterMap (es[·]?)).size = es.size := by rw [rowsN_size r1, r2.length_eq, hsl]
  rw [setRelay_eq]
  refine wpAny_bind (wpAny_setState_of ho hd (fits_of hsz hdm hfl) ?_)
  dsimp only
  refine wp_if_neg (by rw [sizeLine_eq]; omega) ?_
  try refine wpAny_bind (wpAny_pure ?_)
  rw [e]
  dsimp only
  refine wpAny_bind (wp_if_neg (by rw [hs2]; simp) ?_)
  try refine wpAny_bind (wpAny_pure ?_)
  refine wpAny_pure ?_
  dsimp only
  refine wpAny_storeSet_of ho hd ?_ (by rw [hs2, hsl, sizeLine_eq]; omega)
  have sb : Heap.SameBut a s.heap (s.heap.update a (Obj.putSet (order.filterMap (es[·]?)) t')) := Heap.SameBut.update ..
  exact hQ _ L2 _ _ t' sb ⟨⟨_, store_at ho hd, ⟨hex.1, hex.2.1, hex.2.2⟩, rfl⟩, r1, T, (r2.map (·.2)).nodup_iff.mpr nd, fun p hpm => (tup p (r2.mem_iff.mp hpm)).same ho hd sb,
    epl.trans pl, by rw [el]; exact ld, by rw [r2.length_eq, em]; exact hn, by rw [r2.length_eq]; exact few⟩ r2
theorem addN (R : SetNR w s.heap a L es ep t) {x : Addr} {k : NestedKey} (hx : NIs s.heap k x) (hu : A.units + 8 < cLine) (hfew : L.length + 1 < 64) {Q : Bool → Shared → Prop}
    (hQ : ∀ b h' L' es' ep' t', Heap.SameBut a s.heap h' → SetNR w h' a L' es' ep' t' → (k ∈ L.map (·.2) → L' = L) → (k ∉ L.map (·.2) → L'.Perm ((x, k) :: L)) → Q b { s with heap := h' }) :
    wpAny (model P w) A (setAddHashed a (.ref x) (hN w k)) Q E s := by
  obtain ⟨o, ho, hex, hd⟩ := R.ob
  have hsl := rowsN_size R.rows
  have hroom := R.room
  unfold setAddHashed
  refine wpAny_holding ?_
  rw [show (100000 : Nat) = 99999 + 1 from rfl, setAddHashedIn_succ]
  refine wpAny_bind (wpAny_setState_of ho hd R.fits ?_)
  dsimp only
  refine wp_if_neg (by simp [byScan, Value.scannable]) ?_
  try refine wpAny_bind (wpAny_pure ?_)
  refine wpAny_bind (searchN_at R hx hu (fun hm => ?_) fun K hm hK hb => ?_)
  · exact wpAny_pure (hQ false s.heap L es ep t (Heap.SameBut.refl a s.heap) R (fun _ => rfl) (absurd hm))
  dsimp only
  refine wpAny_bind (wpAny_setState_of ho hd R.fits ?_)
  dsimp only
  obtain ⟨q1, q2, q3, q4, q5, q6, q7, q8, q9⟩ := R.tab.put hK hb
  have hp1 : (t.put (way t.mask (hN w k) K)).1.plain = true := q6.trans R.plain
  generalize t.put (way t.mask (hN w k) K) = pt at q1 q3 q4 q5 q6 q7 q8 q9 hp1 ⊢
  generalize SetTable.below t.place (way t.mask (hN w k) K) = p at q1 q2 q3 ⊢
  obtain ⟨t1, p'⟩ := pt
  dsimp only at q1 q3 q4 q5 q6 q7 q8 q9 hp1 ⊢
  subst q1
  first
    | (refine wpAny_bind ?_; refine wp_if_pos hp1 ?_; refine hx.mild.hv _ _ _ ?_)
    | refine wp_if_pos hp1 (wpAny_bind (hx.mild.hv _ _ _ ?_))
  rw [if_pos rfl]
  have pm := put_perm L p' (x, k)
  have hin : (SetTable.insertAt es p' (hN w k, Value.ref x)).toList = rowsN w (L.take p' ++ (x, k) :: L.drop p') := by
    rw [SetTable.toList_insertAt, R.rows, rowsN, rowsN, List.map_append, List.map_cons, List.map_take, List.map_drop]
  have hhs : (L.take p' ++ (x, k) :: L.drop p').map (fun p => hN w p.2) = (L.map fun p => hN w p.2).take p' ++ hN w k :: (L.map fun p => hN w p.2).drop p' := by
    rw [List.map_append, List.map_cons, List.map_take, List.map_drop]
  rw [← hhs] at q3
  generalize SetTable.insertAt es p' (hN w k, Value.ref x) = es1 at hin ⊢
  generalize L.take p' ++ (x, k) :: L.drop p' = L1 at pm q3 hin
  have hlen : L1.length = L.length + 1 := pm.length_eq
  have hes := (rowsN_size hin).trans hlen
  have nd1 : (L1.map (·.2)).Nodup := (pm.map (·.2)).nodup_iff.mpr (List.nodup_cons.mpr ⟨hm, R.nd⟩)
  refine wpAny_bind (wpAny_storeSet_of ho hd ?_ (by rw [hes, sizeLine_eq]; omega))
  have sb : Heap.SameBut a s.heap (s.heap.update a (Obj.putSet es1 t1)) := Heap.SameBut.update ..
  have ho1 := store_at (es' := es1) (t' := t1) ho hd
  generalize s.heap.update a (Obj.putSet es1 t1) = h1 at sb ho1 ⊢
  have tup1 : ∀ p ∈ L1, NIs h1 p.2 p.1 := fun p hp => by
    rcases List.mem_cons.mp (pm.mem_iff.mp hp) with e | hp
    · rw [e]; exact hx.same ho hd sb
    · exact (R.tup p hp).same ho hd sb
  have ld1 : w.params.followText "set-order" = true ∨ t1.led = true := by rw [q5]; exact R.led
  rw [List.length_map] at q9
  have full : t1.tooFull = true ↔ (L.length + 1) * 5 ≥ t.mask * 3 := by
    unfold SetTable.tooFull
    rw [decide_eq_true_eq, q9, q4]
  by_cases hf : t1.tooFull = true
  · first
      | (refine wpAny_bind ?_; refine wp_if_pos (by simp [hf]) ?_)
      | (refine wp_if_pos (by simp [hf]) ?_; refine wpAny_bind ?_)
    have hfull := full.mp hf
    rw [hsl]
    have hsz1 : t1.place.size = es1.size := by rw [q3.sz, List.length_map, hlen, hes]
    have two : (t.mask = 7 ∧ L.length = 4) ∨ (t.mask = 31 ∧ L.length = 18) := by
      rcases R.tab.mok with e | e | e <;> rw [e] at hfull hroom <;> omega
    have go : ∀ M, SetTable.sizeAbove (SetTable.grown (L.length + 1)) - 1 = M → MaskOk M → SetTable.sizeAbove (SetTable.grown (L.length + 1)) ≤ 128 → (L.length + 1) * 5 < M * 3 →
        wpAny (model P w) A (setRelay a (SetTable.grown (L.length + 1))) (fun _ z => wpAny (model P w) A (pure true) Q E z) E { s with heap := h1 } := fun M m1 m2 m3 m4 => by
      refine relayN (s := { s with heap := h1 }) ho1 ⟨hex.1, hex.2.1, hex.2.2⟩ rfl hin hsz1 q3.dm (by rw [hes, q4]; omega) nd1 tup1 hp1 ld1 (by rw [hlen]; exact hfew) m1 m2 m3 (by rw [hlen]; exact m4) fun h2 L2 es2 ep2 t2 sb2 R2 pm2 => ?_
      exact wpAny_pure (hQ true h2 L2 es2 ep2 t2 (sb.trans sb2) R2 (fun z => absurd z hm) fun _ => pm2.trans pm)
    rcases two with ⟨_, e2⟩ | ⟨_, e2⟩
    · exact go 31 (by rw [e2, size_20]) (.inr (.inl rfl)) (by rw [e2, size_20]; decide) (by omega)
    · exact go 127 (by rw [e2, size_76]) (.inr (.inr rfl)) (by rw [e2, size_76]; decide) (by omega)
  · first
      | refine wp_if_neg (by simp [hf]) ?_
      | (refine wpAny_bind ?_; refine wp_if_neg (by simp [hf]) ?_; refine wpAny_pure ?_)
    have hno := mt full.mpr hf
    exact wpAny_pure (hQ true h1 L1 es1 (ep + 1) t1 sb ⟨⟨_, ho1, ⟨hex.1, hex.2.1, hex.2.2⟩, rfl⟩, hin, q3, nd1, tup1, hp1, ld1, by rw [hlen, q4]; omega, by rw [hlen]; exact hfew⟩ (fun z => absurd z hm) fun _ => pm)
end
end K84
namespace K84
open L2 PySem PySem.Spec PyProof.Rows
/-- what the set has of the first i rows -/
structure GotN (ks : KeysIn) (i : Nat) (L : KeysIn) : Prop where
  sub : ∀ p ∈ L, p ∈ ks.take i
  all : ∀ p ∈ ks.take i, p.2 ∈ L.map (·.2)
  len : L.length ≤ i
theorem GotN.step {ks L L' : KeysIn} {i : Nat} {x : Addr × NestedKey} (g : GotN ks i L) (h : ks[i]? = some x) (c1 : x.2 ∈ L.map (·.2) → L' = L) (c2 : x.2 ∉ L.map (·.2) → L'.Perm (x :: L)) : GotN ks (i + 1) L' := by
  have e := take_next h
  by_cases c : x.2 ∈ L.map (·.2)
  · rw [c1 c]
    refine ⟨fun p hp => by rw [e]; exact List.mem_append_left _ (g.sub p hp), fun p hp => ?_, by have := g.len; omega⟩
    rw [e, List.mem_append, List.mem_singleton] at hp
    rcases hp with z | z
    · exact g.all p z
    · exact z ▸ c
  · have pm := c2 c
    refine ⟨fun p hp => ?_, fun p hp => ?_, by have := g.len; have := pm.length_eq; rw [List.length_cons] at this; omega⟩
    · rw [e, List.mem_append, List.mem_singleton]
      rcases List.mem_cons.mp (pm.mem_iff.mp hp) with z | z
      · exact .inr z
      · exact .inl (g.sub p z)
    · rw [e, List.mem_append, List.mem_singleton] at hp
      rw [(pm.map (·.2)).mem_iff, List.map_cons, List.mem_cons]
      rcases hp with z | z
      · exact .inr (g.all p z)
      · exact .inl (congrArg _ z)
section
variable {P : Program} {w : World} {A : Around} {E : Value → Shared → Prop} {s : Shared}
theorem SetNR.keep {h h' : Heap} {a : Addr} {L : KeysIn} {es : Array (Int × Value)} {ep : Nat} {t : SetTable} (R : SetNR w h a L es ep t) (ha : ∀ o, h.get? a = some o → h'.get? a = some o) (ht : ∀ p ∈ L, NIs h' p.2 p.1) : SetNR w h' a L es ep t :=
  let ⟨o, ho, r⟩ := R.ob
  ⟨⟨o, ha o ho, r⟩, R.rows, R.tab, R.nd, ht, R.plain, R.led, R.room, R.few⟩
abbrev noTab (w : World) : SetTable := .fresh 0 0 (!w.params.followText "set-order")
abbrev noSet (w : World) : Obj := { cls := .type "set", dict := none, data := .set #[] 0 (noTab w) }
theorem setNR_new {h : Heap} {a : Addr} (ho : h.get? a = some (noSet w)) : SetNR w h a [] #[] 0 (noTab w) where
  ob := ⟨_, ho, ⟨rfl, rfl, rfl⟩, rfl⟩
  rows := rfl
  tab := ⟨.nil, rfl, rfl, .inl rfl, fun x z => (by cases z), fun i h j z => (by simp at z)⟩
  nd := .nil
  tup := fun p z => nomatch z
  plain := rfl
  led := by
    cases e : w.params.followText "set-order"
    · exact .inr (by show (!w.params.followText "set-order") = true; rw [e]; rfl)
    · exact .inl rfl
  room := show 0 * 5 < 7 * 3 by decide
  few := show 0 < 64 by decide
/-- the loop of set.update -/
theorem set_update_rows {I : Addr} {fp wr : List Addr} {G : Array GenState → Array GenState → Prop} {n : Nat} {Pv : Nat → Value → Prop} {St : Nat → Shared → Prop} {R : Result → Shared → Prop}
    (W : WalksS P w A.in1 I fp wr G n Pv St) (S : Addr) (hSf : S ∉ fp) (ks : KeysIn) (hn : n = ks.length) (hfew : ks.length < 64) (hval : ∀ i v, Pv i v → ∃ p, ks[i]? = some p ∧ v = .ref p.1)
    (h0 : Heap) (hk : ∀ p ∈ ks, NIs h0 p.2 p.1) (hS0 : h0.get? S = none) (hw0 : ∀ b ∈ wr, h0.get? b = none) (hu : A.in1.units + 8 < cLine) :
    ∀ (k i : Nat) (s : Shared), n - i = k → i ≤ n → St i s → (∀ b o, h0.get? b = some o → s.heap.get? b = some o) → (∃ L es ep t, SetNR w s.heap S L es ep t ∧ GotN ks i L) →
      (∀ s' L es ep t, Moved (S :: wr) G s s' → SetNR w s'.heap S L es ep t → GotN ks n L → (∀ b o, h0.get? b = some o → s'.heap.get? b = some o) → R (.ok (.ret .none)) s') →
      codeAny (model P w) A (.builtin "set.update.loop" ⟨[.ref S, .ref I], []⟩) R s := by
  have hSw : S ∉ wr := fun h => hSf (W.sub _ h)
  have up : ∀ b ∈ wr, b ∈ S :: wr := fun b hb => .tail _ hb
  have keepM : ∀ {s s' : Shared}, Moved wr G s s' → (∀ b o, h0.get? b = some o → s.heap.get? b = some o) → ∀ b o, h0.get? b = some o → s'.heap.get? b = some o := fun hm hkp b o e =>
    hm.heap b o (fun hb => nomatch (hw0 b hb).symm.trans e) (hkp b o e)
  intro k
  induction k with
  | zero =>
    intro i s hk' hi hst hkp ⟨L, es, ep, t, hS, g⟩ hR
    obtain rfl : i = n := by omega
    refine codeAny_builtin F.entry_set_update_loop ?_
    rw [Around.under_plainId F.plain_set_update_loop _]
    show wpAny _ A.in1 (pyNext (.ref I) >>= _) _ _ s
    refine wpAny_bind (W.done s _ _ hst fun z hm => ?_)
    have hkp' := keepM hm hkp
    show wpAny _ A.in1 (ret Value.none) _ _ z
    exact wpAny_pure (hR z L es ep t (hm.mono up) (hS.keep (fun o e => hm.heap S o hSw e) fun p hp => (hk p (List.mem_of_mem_take (g.sub p hp))).keep hkp') g hkp')
  | succ k ih =>
    intro i s hk' hi hst hkp ⟨L, es, ep, t, hS, g⟩ hR
    refine codeAny_builtin F.entry_set_update_loop ?_
    rw [Around.under_plainId F.plain_set_update_loop _]
    show wpAny _ A.in1 (pyNext (.ref I) >>= _) _ _ s
    refine wpAny_bind (W.item i s _ _ (by omega) hst fun v z hP hst' hm => ?_)
    obtain ⟨p, hp, rfl⟩ := hval i v hP
    have hkp' := keepM hm hkp
    have hS' : SetNR w z.heap S L es ep t := hS.keep (fun o e => hm.heap S o hSw e) fun q hq => (hk q (List.mem_of_mem_take (g.sub q hq))).keep hkp'
    have hx : NIs z.heap p.2 p.1 := (hk p (List.mem_of_getElem? hp)).keep hkp'
    show wpAny _ A.in1 (holding [Value.ref p.1] (setAdd S (.ref p.1)) >>= _) _ _ z
    refine wpAny_bind (wpAny_holding ?_)
    unfold setAdd
    refine wpAny_holding (wpAny_bind (pyHash_key p.2 _ A.in1 z _ hx.is (by have := hx.dp; omega) ?_))
    refine addN (s := { z with toks := z.toks + p.2.draws }) hS' hx hu (by have := g.len; omega) fun b h' L' es' ep' t' hsb hS2 c1 c2 => ?_
    have hkp2 : ∀ b o, h0.get? b = some o → h'.get? b = some o := fun b o e => (hsb.2 b fun z => nomatch (z ▸ hS0).symm.trans e).trans (hkp' b o e)
    refine wpAny_pure ⟨plainId_quiet F.plain_set_update_loop _, ih (i + 1) _ (by omega) (by omega) (W.frame _ z _ _ hst' (Nat.le_add_right _ _) fun b hb o e => ?_) hkp2 ⟨L', es', ep', t', hS2, g.step hp c1 c2⟩ fun s2 L2 es2 ep2 t2 hm2 hS3 g3 hkp3 => ?_⟩
    · exact (hsb.2 b fun (q : b = S) => hSf (q ▸ hb)).trans e
    · refine hR s2 L2 es2 ep2 t2 (Moved.trans W.gtrans ((hm.mono up).then_heap (Nat.le_add_right _ _) fun b o hb e => ?_) hm2) hS3 g3 hkp3
      exact (hsb.2 b fun (q : b = S) => hb (q ▸ List.mem_cons_self)).trans e
end
end K84
namespace K84
open L2 PySem PySem.Spec PyProof.Rows
section
variable {P : Program} {w : World} {A : Around} {E : Value → Shared → Prop} {s : Shared}
set_option maxHeartbeats 3200000 in
theorem call_set_rows {l : Addr} {items : Array Value} (ks : KeysIn) {Q : Value → Shared → Prop} (hh : A.handled = none) (hl : s.heap.IsList l items) (hit : items.toList = ks.map fun p => Value.ref p.1)
    (hk : ∀ p ∈ ks, NIs s.heap p.2 p.1) (hfew : ks.length < 64) (hu : A.units + 16 < cLine)
    (h : ∀ (h' : Heap) (tk : Nat) L es ep t, SetNR w h' s.heap.objs.size L es ep t → GotN ks ks.length L → (∀ b o, s.heap.get? b = some o → h'.get? b = some o) → Q (.ref s.heap.objs.size) { s with heap := h', toks := tk }) :
    wpAny (model P w) A (call (.type "set") [.ref l]) Q E s := by
  have hisz : items.size = ks.length := by
    rw [← Array.length_toList, hit]; exact List.length_map _
  obtain ⟨c, tl, hmro⟩ := F.called_set.mro
  have hmade := F.called_set.made
  have hsub := F.called_set.sub
  have nS : s.heap.get? s.heap.objs.size = none := by
    cases q : s.heap.get? s.heap.objs.size with
    | none => rfl
    | some o => exact absurd (Heap.lt_size q) (Nat.lt_irrefl _)
  have nI : s.heap.get? (s.heap.objs.size + 1) = none := by
    cases q : s.heap.get? (s.heap.objs.size + 1) with
    | none => rfl
    | some o => exact absurd (Heap.lt_size q) (Nat.not_lt.mpr (Nat.le_succ _))
  refine wpAny_call (codeAny_of_tree ?_)
  show wpAny _ _ (callAny (.type "set") _) _ E s
  refine wpAny_pure ⟨Code.quiet_builtin _ (by decide +kernel), codeAny_builtin F.entry_type_call ?_⟩
  rw [Around.under_plain (weight_type_call_type "set" [.ref l] []) rfl]
  have h1 := F.called_set.notType
  have h2 := F.called_set.canCreate
  have hct := F.typeCall_set_1 (.ref l)
  repeat (any_goals (first | assumption | wp_step))

  refine codeAny_mono (code_set_led1 (.ref l) (E := E) (Q₁ := fun obj z => obj = .ref s.heap.objs.size ∧ z = { s with heap := s.heap.push (noSet w) }) ⟨rfl, rfl⟩) fun r z hr => ?_
  cases r with
  | error e => exact hr
  | ok fl =>
    cases fl with
    | ret obj =>
      obtain ⟨rfl, rfl⟩ := hr
      have hS : (s.heap.push (noSet w)).get? s.heap.objs.size = some (noSet w) := Heap.get?_push_size _ rfl
      have hT : Shared.TypeIs { s with heap := s.heap.push (noSet w) } (.ref s.heap.objs.size) "set" := ⟨_, hS, rfl⟩
      have hli := F.called_set.init.lookup
      have hbi := F.called_set.init.bind (.ref s.heap.objs.size)
      repeat (any_goals (first | assumption | wp_step))

      refine codeAny_mono (codeAny_call_builtin (R := wants (fun r z => r = .none ∧ ∃ h' tk L es ep t, z = { s with heap := h', toks := tk } ∧ SetNR w h' s.heap.objs.size L es ep t ∧ GotN ks ks.length L ∧
          (∀ b o, s.heap.get? b = some o → h'.get? b = some o)) E) F.called_set.init.plain F.entry_set_init (check_set_init_1 hT ?_)) fun r₂ s₂ hr₂ => ?_
      · obtain ⟨⟨ocls, odict, odata, oslots⟩, hol, hcl, nl, hdl⟩ := hl
        cases (show ocls = .type "list" from hcl)
        cases (show odata = .seq items nl from hdl)
        have hol' : (s.heap.push (noSet w)).get? l = some { cls := .type "list", dict := odict, data := .seq items nl, slots := oslots } := Heap.get?_push_of_some _ hol
        have hsls := F.sub_list_set
        have hslf := F.sub_list_frozenset
        have hne : (Value.type "list" == Value.type "dict") = false := by decide
        have hl1 : (s.heap.push (noSet w)).IsList l items := ⟨_, hol', rfl, nl, rfl⟩
        unfold Builtin.«set.__init__» noKeywords Builtin.Frozenset.updateFrom
        generalize hPI : pyIter = PI
        wp_walk
        subst hPI

        refine wpAny_pyIter_list hl1 ?_
        refine wpAny_bind (wpAny_runValue ?_)
        have hlS : l < s.heap.objs.size := Heap.lt_size hol
        have hz1 : (s.heap.push (noSet w)).objs.size = s.heap.objs.size + 1 := Heap.size_push ..
        have hval : ∀ (i : Nat) (v : Value), items[i]? = some v → ∃ p, ks[i]? = some p ∧ v = .ref p.1 := fun i v hv => by
          rw [← Array.getElem?_toList, hit, List.getElem?_map] at hv
          obtain ⟨p, hq, e⟩ := Option.map_eq_some_iff.mp hv
          exact ⟨p, hq, e.symm⟩
        refine set_update_rows ((Walks.list (A := A.in1.in1.in1) (by simp [hh]) _ l (by rw [hz1]; exact Nat.ne_of_lt (Nat.lt_succ_of_lt hlS)) items).toS) s.heap.objs.size
          (fun hb => by
            rcases List.mem_cons.mp hb with e | hb
            · rw [hz1] at e; exact absurd e (Nat.ne_of_lt (Nat.lt_succ_self _))
            · exact absurd (List.mem_singleton.mp hb) (Nat.ne_of_gt hlS)) ks hisz hfew hval s.heap hk nS (fun b hb => by
            rw [List.mem_singleton.mp hb, hz1]
            exact nI) (by simp only [Around.in1_units]; omega) (items.size - 0) 0 _ (by omega) (Nat.zero_le _)
          ⟨⟨_, Heap.get?_push_size _ rfl, rfl, rfl⟩, (hl1.push _)⟩ (fun b o e => Heap.get?_push_of_some _ (Heap.get?_push_of_some _ e)) ⟨[], #[], 0, _, setNR_new (Heap.get?_push_of_some _ hS), ⟨fun p z => (by cases z), fun p z => (by cases z), Nat.le_refl _⟩⟩ ?_
        intro z L es ep t hm hS' g' hkp
        obtain ⟨h', g2, d', tk', os'⟩ := z
        obtain rfl : g2 = s.gens := hm.gens
        obtain rfl : d' = s.drawn := hm.drawn
        obtain rfl : os' = s.os := hm.os
        rw [hisz] at g'
        show wpAny _ _ _ _ _ _
        refine wpAny_pure ?_
        show wpAny _ _ (ret Value.none) _ _ _
        exact wpAny_pure ⟨rfl, h', tk', L, es, ep, t, rfl, hS', g', hkp⟩

      · cases r₂ with
        | error e => exact hr₂
        | ok fl₂ =>
          cases fl₂ with
          | ret r =>
            obtain ⟨rfl, h', tk, L, es, ep, t, rfl, hS', g', hk'⟩ := hr₂
            repeat (any_goals (first | assumption | wp_step))
            exact h _ _ _ _ _ _ hS' g' hk'
          | _ => exact hr₂.elim
    | _ => exact hr.elim
theorem SetNR.zero {h : Heap} {a : Addr} {L : KeysIn} {es : Array (Int × Value)} {ep : Nat} {t : SetTable} (R : SetNR w h a L es ep t) : SetN0 w h a L := ⟨es, ep, t, R.ob, R.rows, R.tab, R.nd, R.plain, R.led, R.room, R.few⟩
theorem setNO_new {H : Hp} {h : Heap} {a : Addr} {L : KeysIn} (R : SetN0 w h a L) : ObjOk P w H h a (SetNO w a L) := by
  obtain ⟨es, ep, t, ⟨o, ho, _⟩, _⟩ := R.ex
  refine ⟨R, ⟨o, ho⟩, fun h1 h2 p k => ?_⟩
  obtain ⟨es', ep', t', ⟨o', ho', r'⟩, q'⟩ := SetN0.ex p
  exact ⟨es', ep', t', ⟨o', k o' ho', r'⟩, q'⟩
theorem refs_vals : ∀ {ks : List (Addr × List C2)} {us : List Value}, Vals (ks.map fun p => V.ref p.1) us → us = (rkey ks).map fun p => Value.ref p.1
  | [], _, .nil => rfl
  | _ :: _, _, .cons r t => by cases r; rw [refs_vals t]; rfl
theorem rkey_back : ∀ {L : KeysIn} {ks : List (Addr × List C2)}, (∀ p ∈ L, p ∈ rkey ks) → ∃ L0 : List (Addr × List C2), L = rkey L0 ∧ ∀ p ∈ L0, p ∈ ks
  | [], _, _ => ⟨[], rfl, fun p hp => nomatch hp⟩
  | q :: L, ks, h => by
    obtain ⟨L0, e, h0⟩ := rkey_back (L := L) (ks := ks) fun p hp => h p (.tail _ hp)
    obtain ⟨p, hp, e1⟩ := List.mem_map.mp (h q List.mem_cons_self)
    refine ⟨p :: L0, by rw [e, ← e1]; rfl, fun r hr => ?_⟩
    rcases List.mem_cons.mp hr with z | z
    · exact z ▸ hp
    · exact h0 r z
theorem rowKey_inj : ∀ {cs ds : List C2}, rowKey cs = rowKey ds → cs = ds := by
  have key : ∀ cs ds : List C2, cs.map cellKey = ds.map cellKey → cs = ds := by
    intro cs
    induction cs with
    | nil =>
      intro ds h
      cases ds with
      | nil => rfl
      | cons _ _ => cases h
    | cons c cs ih =>
      intro ds h
      cases ds with
      | nil => cases h
      | cons d ds =>
        rw [List.map_cons, List.map_cons] at h
        injection h with h1 h2
        injection h1 with h1
        injection h1 with a1 h1
        injection h1 with a2 _
        injection a1 with a1
        injection a2 with a2
        rw [ih ds h2, show c = d from Prod.ext a1 a2]
  intro cs ds h
  unfold rowKey at h
  injection h with h
  exact key cs ds h
end
section
variable {X : Cx} {pins : List (Addr × Obj)} {σ : L2.St} {H : Hp} {s : Shared}
theorem cell_key (I : Inv X pins σ H s) {v : V} {c : C2} {u : Value} (h : Cell H v c) (r : RelV v u) : NestedIs s.heap (cellKey c) u := by
  obtain ⟨a, rfl, ha⟩ := h
  obtain rfl : u = Value.ref a := r
  obtain ⟨its, rv, ⟨o, ho, hc, n, hd⟩, _⟩ := I.tuple (SqT.of ha)
  refine .tup ho hc hd ?_
  cases rv with
  | cons r1 rv =>
    cases rv with
    | cons r2 rv =>
      cases rv
      obtain ⟨t1, rfl⟩ := r1
      obtain ⟨t2, rfl⟩ := r2
      exact .cons (.int _ _) (.cons (.int _ _) .nil)
theorem row_key (I : Inv X pins σ H s) {b : Addr} {cs : List C2} (h : Row H (.ref b) cs) : NIs s.heap (rowKey cs) b := by
  obtain ⟨a, vs, e, ha, hp⟩ := h
  cases e
  obtain ⟨its, rv, ⟨o, ho, hc, n, hd⟩, _⟩ := I.tuple (SqT.of ha)
  have dep : ∀ cs : List C2, NestedKey.depthAll (cs.map cellKey) ≤ 1 := by
    intro cs
    induction cs with
    | nil => exact Nat.zero_le _
    | cons c cs ih =>
      simp only [List.map_cons, NestedKey.depthAll, cellKey, NestedKey.depth]
      omega
  refine ⟨.tup ho hc hd ?_, ?_, num_row cs⟩
  · have key : ∀ {vs : List V} {cs : List C2} {us : List Value}, Paired (Cell H) vs cs → Vals vs us → NestedAll s.heap (cs.map cellKey) us := by
      intro vs cs us hp
      induction hp generalizing us with
      | nil => intro r; cases r; exact .nil
      | cons a _ ih =>
        intro r
        cases r with
        | cons b r => exact .cons (cell_key I a b) (ih r)
    exact key hp rv
  · have := dep cs
    simp only [rowKey, NestedKey.depth]
    omega
end
section
variable {X : Cx}
theorem cr_setOfN (hc : X.calm = true) (hu : X.A.units + 64 < cLine) : CallR X (.type "set") (rSetOfN X.w) := by
  intro pins s σ H vs us Q I r h
  obtain ⟨l, ks, rfl, hl, hk, hf, q⟩ := h
  rw [Vals.ref1 r]
  obtain ⟨its, rv, pl, hz⟩ := I.list (SqL.of hl)
  have hn : H s.heap.objs.size = none := I.hok.fresh (Nat.le_refl _)
  have hlen : (rkey ks).length = ks.length := List.length_map _
  refine call_set_rows (P := X.prog) (w := X.w) (rkey ks) (I.ok.hd hc) pl.isList (by simpa using refs_vals rv) (fun p hp => ?_) (by rw [hlen]; exact hf) (by omega) fun h' tk L es ep t R g k => ?_
  · obtain ⟨p0, hp0, rfl⟩ := List.mem_map.mp hp
    exact row_key I (hk p0 hp0)
  obtain ⟨L0, rfl, h0⟩ := rkey_back (L := L) (ks := ks) fun p hp => List.mem_of_mem_take (g.sub p hp)
  refine ⟨.ref s.heap.objs.size, upd H s.heap.objs.size (SetNO X.w s.heap.objs.size (rkey L0)), I.laid (t' := tk) k (Nat.le_refl _) (setNO_new R.zero), rfl, q _ L0 hn h0 (fun p hp => ?_) ?_⟩
  · obtain ⟨r, hr, e⟩ := List.mem_map.mp (g.all (p.1, rowKey p.2) (by rw [List.take_length]; exact List.mem_map.mpr ⟨p, hp, rfl⟩))
    obtain ⟨r0, hr0, rfl⟩ := List.mem_map.mp hr
    exact List.mem_map.mpr ⟨r0, hr0, rowKey_inj e⟩
  · have hnd := R.nd
    unfold rkey at hnd
    rw [List.map_map] at hnd
    exact List.pairwise_map.mpr ((List.pairwise_map.mp hnd).imp fun hne e => hne (congrArg rowKey e))
theorem cr_sortedN (hc : X.calm = true) (hu : X.A.units + 64 < cLine) : CallR X (.builtin "sorted") (rSortedN X.w) := by
  intro pins s σ H vs us Q I r h
  obtain ⟨a, L, rfl, ha, hk, q⟩ := h
  rw [Vals.ref1 r]
  have R0 : SetN0 X.w s.heap a (rkey L) := (I.hok a _ ha).1
  obtain ⟨es, ep, t, ⟨o, ho, hex, hd⟩, hrows, T, _, _, led, room, few⟩ := R0.ex
  have hrl : (rkey L).length = L.length := List.length_map _
  have hesz : es.size = L.length := (rowsN_size hrows).trans hrl
  have hes : es.toList.map (·.2) = L.map fun q => Value.ref q.1 := by
    rw [hrows, rkey, List.map_map, List.map_map]; rfl
  have htz := T.sz
  rw [List.length_map, hrl, ← hesz] at htz
  refine sorted_via (β := Addr × List C2) (enc := fun b => rD b.2) (R := fun u b => u = Value.ref b.1) (PB := fun bs => bs.Perm L) (fun Q' E' hq => ?_) (fun bs e => ?_) fun s' s1 p out bs k1 k g og hpz hg e eo => ?_
  · refine collect_set (A := X.A.in1) (I.ok.hd hc) ⟨o, ho, hex.1, hd⟩ (fits_of htz T.dm (by omega)) (by unfold scanBound; omega) T.ris led fun s1 out k1 hz g1 o1 pm => ?_
    rw [hes] at pm
    obtain ⟨bs, pb, rfl⟩ := perm_map_inv pm L rfl
    have I1 : Inv X pins σ H { s with heap := s1.heap, toks := s.toks } := I.kept (t' := s.toks) k1
    have ebs : ∀ bs : List (Addr × List C2), (∀ b ∈ bs, b ∈ L) → PySem.W.EachIs (fun u (b : Addr × List C2) => u = Value.ref b.1) (bs.map fun q => Value.ref q.1) bs ∧ PySem.W.EachIs (fun v (b : Addr × List C2) => Reads s1.heap v (rD b.2) []) (bs.map fun q => Value.ref q.1) bs := by
      intro bs
      induction bs with
      | nil => exact fun _ => ⟨.nil, .nil⟩
      | cons b r ih =>
        intro hb
        obtain ⟨i1, i2⟩ := ih fun c hc => hb c (.tail _ hc)
        exact ⟨.cons rfl i1, .cons (row_reads I1 (hk b (hb b List.mem_cons_self)).1 rfl) i2⟩
    obtain ⟨e1, e2⟩ := ebs bs fun b hb => pb.mem_iff.mp hb
    exact hq s1 _ bs k1 g1 o1 e1 e2 pb
  · refine ⟨.of fun b b' => cells_alike b.2 b'.2, (.inl fun d hd => by
      obtain ⟨b, hb, rfl⟩ := List.mem_map.mp hd
      have z := (hk b (e.mem_iff.mp hb)).2
      cases eb : b.2 with
      | nil => exact absurd eb z
      | cons c cs => exact ⟨_, _, rfl⟩), ?_, fun b hb => ?_⟩
    · rw [e.length_eq, sizeLine_eq]; omega
    · have := dep_rD b.2; omega
  · have pm := (List.mergeSort_perm bs (PySem.W.dataLe false fun b => rD b.2)).trans e
    have hout : ∀ {us : List Value} {bs : List (Addr × List C2)}, PySem.W.EachIs (fun u (b : Addr × List C2) => u = Value.ref b.1) us bs → Vals (bs.map fun q => V.ref q.1) us := by
      intro us bs h
      induction h with
      | nil => exact .nil
      | cons a _ ih => exact .cons a ih
    obtain ⟨J, hn⟩ := Inv.sortedOut I k1 k g og hpz hg (hout eo) (by rw [List.length_map, pm.length_eq, sizeLine_eq]; omega)
    exact ⟨.ref p, _, J, rfl, q _ p pm hn⟩
end
end K84
namespace K84
open L2 PySem PySem.Spec PyProof.Rows
section
variable {P : Program} {w : World} {K : PySem.W.Frag} {mg : Str → Option Value} {base : Heap} {f : Addr} {cdv : Value} {A : Around} {outer : List Env} {s : Shared} {H : Hp} {E : XK}
abbrev s_common : Stmt := topS 1
abbrev N_common : List Str := ["one", "other"]
theorem sc_common : FnScope N_common ["one", "other"] (defScope s_common) := ⟨rfl, rfl, rfl, by decide +kernel, rfl, by decide +kernel, by decide +kernel⟩
def t_common (K : PySem.W.Frag) : TS :=
    (tSeq (tWhile (tTest (tOp rNe (tVar 1) (tC (.int 0)))) (tPar 0 1 (tCons (tVar 1) (tCons (tOp rModN (tVar 0) (tVar 1)) tNil))))
    (tRet (tCB rAbsI (tCons (tVar 0) tNil))))
set_option maxHeartbeats 4000000 in
theorem d_common (Z : Blt mg) (hr : Room 0 (A.deeper (envOfC "common" (defScope s_common) s.heap.objs.size f cdv))) : PSs (cxOf CX0 P w K mg base N_common "common" (defScope s_common) f cdv A outer s H E).nox (defBody s_common) (t_common K) :=
    (pss_cons (ps_while PassesOwn.never (pt_cmpR op_ne (pv 1) pe_int (nomark _)) (pss_one (ps_par (i := 0) (j := 1) rfl sc_common.nd rfl rfl (by decide) rfl rfl (pa_cons (pv 1) (pa_cons (pe_op op_modN (pv 0) (pv 1)) pa_nil)) (by rfl))))
      (pss_one (ps_ret (pe_callB call_abs (by rfl) Z.abs_ (by decide +kernel) (pa_cons (pv 0) pa_nil)))))
abbrev s_fraction : Stmt := topS 2
abbrev N_fraction : List Str := ["upper", "lower", "part"]
theorem sc_fraction : FnScope N_fraction ["upper", "lower"] (defScope s_fraction) := ⟨rfl, rfl, rfl, by decide +kernel, rfl, by decide +kernel, by decide +kernel⟩
def t_fraction (K : PySem.W.Frag) (sp_common : Sp) : TS :=
    (tSeq (tAsg (tCall sp_common [] E0 (tCons (tVar 0) (tCons (tVar 1) tNil))) (gName 2))
    (tSeq (tIfS (tTest (tOp rLtI (tVar 1) (tC (.int 0)))) (tAsg (tOp rSubI (tC (.int 0)) (tVar 2)) (gName 2)) tNext)
    (tRet (tTup (tCons (tOp rDivI (tVar 0) (tVar 2)) (tCons (tOp rDivI (tVar 1) (tVar 2)) tNil))))))
set_option maxHeartbeats 4000000 in
theorem d_fraction {sp_common : Sp} (Z : Blt mg) (C_common : Cal P w K mg base 1 "common" ["one", "other"] sp_common) (hr : Room 1 (A.deeper (envOfC "fraction" (defScope s_fraction) s.heap.objs.size f cdv))) : PSs (cxOf CX0 P w K mg base N_fraction "fraction" (defScope s_fraction) f cdv A outer s H E).nox (defBody s_fraction) (t_fraction K sp_common) :=
    (pss_cons (ps_set (i := 2) sc_fraction.nd rfl (by first | exact Or.inl rfl | exact Or.inr rfl) (pe_cal C_common (hr.mono (by decide)) (by rfl) (pa_cons (pv 0) (pa_cons (pv 1) pa_nil))))
      (pss_cons (ps_if (pt_cmpR op_lt (pv 1) pe_int (nomark _)) (pss_one (ps_set (i := 2) sc_fraction.nd rfl (by first | exact Or.inl rfl | exact Or.inr rfl) (pe_op op_sub pe_int (pv 2)))) pss_nil)
      (pss_one (ps_ret (pe_tup (pa_cons (pe_op op_fdivN (pv 0) (pv 2)) (pa_cons (pe_op op_fdivN (pv 1) (pv 2)) pa_nil)))))))
abbrev s_less : Stmt := topS 3
abbrev N_less : List Str := ["one", "other"]
theorem sc_less : FnScope N_less ["one", "other"] (defScope s_less) := ⟨rfl, rfl, rfl, by decide +kernel, rfl, by decide +kernel, by decide +kernel⟩
def t_less (K : PySem.W.Frag) (sp_fraction : Sp) : TS :=
    (tRet (tCall sp_fraction [] E0 (tCons (tOp rSubI (tOp rMulI (tOp (rIxT K) (tVar 0) (tC (.int 0))) (tOp (rIxT K) (tVar 1) (tC (.int 1)))) (tOp rMulI (tOp (rIxT K) (tVar 1) (tC (.int 0))) (tOp (rIxT K) (tVar 0) (tC (.int 1))))) (tCons (tOp rMulI (tOp (rIxT K) (tVar 0) (tC (.int 1))) (tOp (rIxT K) (tVar 1) (tC (.int 1)))) tNil))))
set_option maxHeartbeats 4000000 in
theorem d_less {sp_fraction : Sp} (Z : Blt mg) (C_fraction : Cal P w K mg base 2 "fraction" ["upper", "lower"] sp_fraction) (hr : Room 2 (A.deeper (envOfC "less" (defScope s_less) s.heap.objs.size f cdv))) : PSs (cxOf CX0 P w K mg base N_less "less" (defScope s_less) f cdv A outer s H E).nox (defBody s_less) (t_less K sp_fraction) :=
    (pss_one (ps_ret (pe_cal C_fraction (hr.mono (by decide)) (by rfl) (pa_cons (pe_op op_sub (pe_op op_mul (pe_ix ix_tup (pv 0) pe_int (fun _ _ => rfl)) (pe_ix ix_tup (pv 1) pe_int (fun _ _ => rfl))) (pe_op op_mul (pe_ix ix_tup (pv 1) pe_int (fun _ _ => rfl)) (pe_ix ix_tup (pv 0) pe_int (fun _ _ => rfl)))) (pa_cons (pe_op op_mul (pe_ix ix_tup (pv 0) pe_int (fun _ _ => rfl)) (pe_ix ix_tup (pv 1) pe_int (fun _ _ => rfl))) pa_nil)))))
abbrev s_times : Stmt := topS 4
abbrev N_times : List Str := ["one", "other"]
theorem sc_times : FnScope N_times ["one", "other"] (defScope s_times) := ⟨rfl, rfl, rfl, by decide +kernel, rfl, by decide +kernel, by decide +kernel⟩
def t_times (K : PySem.W.Frag) (sp_fraction : Sp) : TS :=
    (tRet (tCall sp_fraction [] E0 (tCons (tOp rMulI (tOp (rIxT K) (tVar 0) (tC (.int 0))) (tOp (rIxT K) (tVar 1) (tC (.int 0)))) (tCons (tOp rMulI (tOp (rIxT K) (tVar 0) (tC (.int 1))) (tOp (rIxT K) (tVar 1) (tC (.int 1)))) tNil))))
set_option maxHeartbeats 4000000 in
theorem d_times {sp_fraction : Sp} (Z : Blt mg) (C_fraction : Cal P w K mg base 2 "fraction" ["upper", "lower"] sp_fraction) (hr : Room 2 (A.deeper (envOfC "times" (defScope s_times) s.heap.objs.size f cdv))) : PSs (cxOf CX0 P w K mg base N_times "times" (defScope s_times) f cdv A outer s H E).nox (defBody s_times) (t_times K sp_fraction) :=
    (pss_one (ps_ret (pe_cal C_fraction (hr.mono (by decide)) (by rfl) (pa_cons (pe_op op_mul (pe_ix ix_tup (pv 0) pe_int (fun _ _ => rfl)) (pe_ix ix_tup (pv 1) pe_int (fun _ _ => rfl))) (pa_cons (pe_op op_mul (pe_ix ix_tup (pv 0) pe_int (fun _ _ => rfl)) (pe_ix ix_tup (pv 1) pe_int (fun _ _ => rfl))) pa_nil)))))
abbrev s_ceiling_of : Stmt := topS 5
abbrev N_ceiling_of : List Str := ["one"]
theorem sc_ceiling_of : FnScope N_ceiling_of ["one"] (defScope s_ceiling_of) := ⟨rfl, rfl, rfl, by decide +kernel, rfl, by decide +kernel, by decide +kernel⟩
def t_ceiling_of (K : PySem.W.Frag) : TS :=
    (tRet (tOp rSubI (tC (.int 0)) (tOp rDivI (tOp rSubI (tC (.int 0)) (tOp (rIxT K) (tVar 0) (tC (.int 0)))) (tOp (rIxT K) (tVar 0) (tC (.int 1))))))
set_option maxHeartbeats 4000000 in
theorem d_ceiling_of (Z : Blt mg) (hr : Room 0 (A.deeper (envOfC "ceiling_of" (defScope s_ceiling_of) s.heap.objs.size f cdv))) : PSs (cxOf CX0 P w K mg base N_ceiling_of "ceiling_of" (defScope s_ceiling_of) f cdv A outer s H E).nox (defBody s_ceiling_of) (t_ceiling_of K) :=
    (pss_one (ps_ret (pe_op op_sub pe_int (pe_op op_fdivN (pe_op op_sub pe_int (pe_ix ix_tup (pv 0) pe_int (fun _ _ => rfl))) (pe_ix ix_tup (pv 0) pe_int (fun _ _ => rfl))))))
abbrev s_carried : Stmt := topS 7
abbrev N_carried : List Str := ["cell", "by"]
theorem sc_carried : FnScope N_carried ["cell", "by"] (defScope s_carried) := ⟨rfl, rfl, rfl, by decide +kernel, rfl, by decide +kernel, by decide +kernel⟩
def t_carried (K : PySem.W.Frag) : TS :=
    (tRet (tTup (tCons (tOp rAddI (tOp (rIxT K) (tVar 0) (tC (.int 0))) (tOp (rIxT K) (tVar 1) (tC (.int 0)))) (tCons (tOp rAddI (tOp (rIxT K) (tVar 0) (tC (.int 1))) (tOp (rIxT K) (tVar 1) (tC (.int 1)))) tNil))))
set_option maxHeartbeats 4000000 in
theorem d_carried (Z : Blt mg) (hr : Room 0 (A.deeper (envOfC "carried" (defScope s_carried) s.heap.objs.size f cdv))) : PSs (cxOf CX0 P w K mg base N_carried "carried" (defScope s_carried) f cdv A outer s H E).nox (defBody s_carried) (t_carried K) :=
    (pss_one (ps_ret (pe_tup (pa_cons (pe_op op_add (pe_ix ix_tup (pv 0) pe_int (fun _ _ => rfl)) (pe_ix ix_tup (pv 1) pe_int (fun _ _ => rfl))) (pa_cons (pe_op op_add (pe_ix ix_tup (pv 0) pe_int (fun _ _ => rfl)) (pe_ix ix_tup (pv 1) pe_int (fun _ _ => rfl))) pa_nil)))))
abbrev s_sides_round : Stmt := topS 9
abbrev N_sides_round : List Str := ["ring", "k"]
theorem sc_sides_round : FnScope N_sides_round ["ring"] (defScope s_sides_round) := ⟨rfl, rfl, rfl, by decide +kernel, rfl, by decide +kernel, by decide +kernel⟩
def t_sides_round (K : PySem.W.Frag) : TS :=
    (tRet (tLc (iRng1 (tCons (tCB (rLenSeq K) (tCons (tVar 0) tNil)) tNil)) (gName 1) tYes (tTup (tCons (tOp (rIxT K) (tVar 0) (tVar 1)) (tCons (tOp (rIxT K) (tVar 0) (tOp rModI (tOp rAddI (tVar 1) (tC (.int 1))) (tCB (rLenSeq K) (tCons (tVar 0) tNil)))) tNil))) [1]))
set_option maxHeartbeats 4000000 in
theorem d_sides_round (Z : Blt mg) (hr : Room 0 (A.deeper (envOfC "sides_round" (defScope s_sides_round) s.heap.objs.size f cdv))) : PSs (cxOf CX0 P w K mg base N_sides_round "sides_round" (defScope s_sides_round) f cdv A outer s H E).nox (defBody s_sides_round) (t_sides_round K) :=
    (pss_one (ps_ret (pe_lc (own := [("k", 1)]) (g := (gName 1)) (tt := tYes) rfl sc_sides_round.nd (pi_range1 (by rfl) Z.range_ (pa_cons (pe_callB call_len_seq (by rfl) Z.len_ (by decide +kernel) (pa_cons (pv 0) pa_nil)) pa_nil)) (blkOk_by (N := N_sides_round) (sc := defScope s_sides_round) (by decide +kernel)) (fun _ _ _ _ _ => (pg_name (i := 1) sc_sides_round.nd rfl (by first | exact Or.inl rfl | exact Or.inr rfl))) (fun _ _ _ _ _ => pts_nil) (fun _ _ _ _ _ => (pe_tup (pa_cons (pe_ix ix_tup (pv 0) (pv 1) (fun _ _ => rfl)) (pa_cons (pe_ix ix_tup (pv 0) (pe_op op_mod (pe_op op_add (pv 1) pe_int) (pe_callB call_len_seq (by rfl) Z.len_ (by decide +kernel) (pa_cons (pv 0) pa_nil))) (fun _ _ => rfl)) pa_nil)))))))
abbrev s_is_within : Stmt := topS 10
abbrev N_is_within : List Str := ["sides", "x", "y", "lower", "one", "other", "across"]
theorem sc_is_within : FnScope N_is_within ["sides", "x", "y", "lower"] (defScope s_is_within) := ⟨rfl, rfl, rfl, by decide +kernel, rfl, by decide +kernel, by decide +kernel⟩
def t_is_within (K : PySem.W.Frag) : TS :=
    (tSeq (tFor (iList K (tVar 0)) (gTup K 2 (gCons (gName 4) (gCons (gName 5) gNil))) (tSeq (tAsg (tOp rSubI (tOp rMulI (tOp rSubI (tOp (rIxT K) (tVar 5) (tC (.int 0))) (tOp (rIxT K) (tVar 4) (tC (.int 0)))) (tOp rSubI (tVar 2) (tOp rMulI (tOp (rIxT K) (tVar 4) (tC (.int 1))) (tVar 3)))) (tOp rMulI (tOp rSubI (tOp (rIxT K) (tVar 5) (tC (.int 1))) (tOp (rIxT K) (tVar 4) (tC (.int 1)))) (tOp rSubI (tVar 1) (tOp rMulI (tOp (rIxT K) (tVar 4) (tC (.int 0))) (tVar 3))))) (gName 6))
    (tIfS (tTest (tOp rLtI (tVar 6) (tC (.int 0)))) (tRet (tC (.bl false))) tNext)))
    (tRet (tC (.bl true))))
set_option maxHeartbeats 4000000 in
theorem d_is_within (Z : Blt mg) (hr : Room 0 (A.deeper (envOfC "is_within" (defScope s_is_within) s.heap.objs.size f cdv))) : PSs (cxOf CX0 P w K mg base N_is_within "is_within" (defScope s_is_within) f cdv A outer s H E).nox (defBody s_is_within) (t_is_within K) :=
    (pss_cons (ps_for PassesOwn.never rfl (pi_list (pv 0)) (pg_tup rfl (pgs_cons (pg_name (i := 4) sc_is_within.nd rfl (by first | exact Or.inl rfl | exact Or.inr rfl)) (pgs_cons (pg_name (i := 5) sc_is_within.nd rfl (by first | exact Or.inl rfl | exact Or.inr rfl)) pgs_nil))) (pss_cons (ps_set (i := 6) sc_is_within.nd rfl (by first | exact Or.inl rfl | exact Or.inr rfl) (pe_op op_sub (pe_op op_mul (pe_op op_sub (pe_ix ix_tup (pv 5) pe_int (fun _ _ => rfl)) (pe_ix ix_tup (pv 4) pe_int (fun _ _ => rfl))) (pe_op op_sub (pv 2) (pe_op op_mul (pe_ix ix_tup (pv 4) pe_int (fun _ _ => rfl)) (pv 3)))) (pe_op op_mul (pe_op op_sub (pe_ix ix_tup (pv 5) pe_int (fun _ _ => rfl)) (pe_ix ix_tup (pv 4) pe_int (fun _ _ => rfl))) (pe_op op_sub (pv 1) (pe_op op_mul (pe_ix ix_tup (pv 4) pe_int (fun _ _ => rfl)) (pv 3))))))
      (pss_one (ps_if (pt_cmpR op_lt (pv 6) pe_int (nomark _)) (pss_one (ps_ret pe_bl)) pss_nil))))
      (pss_one (ps_ret pe_bl)))
end
end K84
namespace K84
open L2 PySem PySem.Spec PyProof.Rows
section
variable {P : Program} {w : World} {K : PySem.W.Frag} {mg : Str → Option Value} {base : Heap} {f : Addr} {cdv : Value} {A : Around} {outer : List Env} {s : Shared} {H : Hp} {E : XK}
abbrev s_over_common : Stmt := topS 11
abbrev N_over_common : List Str := ["point", "x", "low", "y", "lower"]
theorem sc_over_common : FnScope N_over_common ["point"] (defScope s_over_common) := ⟨rfl, rfl, rfl, by decide +kernel, rfl, by decide +kernel, by decide +kernel⟩
def t_over_common (K : PySem.W.Frag) : TS :=
    (tSeq (tAsg (tVar 0) (gTup K 2 (gCons (gTup K 2 (gCons (gName 1) (gCons (gName 2) gNil))) (gCons (gTup K 2 (gCons (gName 3) (gCons (gName 4) gNil))) gNil))))
    (tRet (tTup (tCons (tOp rMulI (tVar 1) (tVar 4)) (tCons (tOp rMulI (tVar 3) (tVar 2)) (tCons (tOp rMulI (tVar 2) (tVar 4)) tNil))))))
set_option maxHeartbeats 4000000 in
theorem d_over_common (Z : Blt mg) (hr : Room 0 (A.deeper (envOfC "over_common" (defScope s_over_common) s.heap.objs.size f cdv))) : PSs (cxOf CX0 P w K mg base N_over_common "over_common" (defScope s_over_common) f cdv A outer s H E).nox (defBody s_over_common) (t_over_common K) :=
    (pss_cons (ps_asg (pv 0) (pg_tup rfl (pgs_cons (pg_tup rfl (pgs_cons (pg_name (i := 1) sc_over_common.nd rfl (by first | exact Or.inl rfl | exact Or.inr rfl)) (pgs_cons (pg_name (i := 2) sc_over_common.nd rfl (by first | exact Or.inl rfl | exact Or.inr rfl)) pgs_nil))) (pgs_cons (pg_tup rfl (pgs_cons (pg_name (i := 3) sc_over_common.nd rfl (by first | exact Or.inl rfl | exact Or.inr rfl)) (pgs_cons (pg_name (i := 4) sc_over_common.nd rfl (by first | exact Or.inl rfl | exact Or.inr rfl)) pgs_nil))) pgs_nil))))
      (pss_one (ps_ret (pe_tup (pa_cons (pe_op op_mul (pv 1) (pv 4)) (pa_cons (pe_op op_mul (pv 3) (pv 2)) (pa_cons (pe_op op_mul (pv 2) (pv 4)) pa_nil)))))))
abbrev s_land_cells : Stmt := topS 12
abbrev N_land_cells : List Str := ["ring", "sides", "found", "x", "cell", "y"]
theorem sc_land_cells : FnScope N_land_cells ["ring"] (defScope s_land_cells) := ⟨rfl, rfl, rfl, by decide +kernel, rfl, by decide +kernel, by decide +kernel⟩
def t_land_cells (K : PySem.W.Frag) (sp_sides_round sp_is_within : Sp) : TS :=
    (tSeq (tAsg (tCall sp_sides_round [] E0 (tCons (tVar 0) tNil)) (gName 1))
    (tSeq (tAsg (tLst tNil) (gName 2))
    (tSeq (tFor (iRng2 (tCons (tCB (rMin K) (tCons (tLc (iTup K (tVar 0)) (gName 4) tYes (tOp (rIxT K) (tVar 4) (tC (.int 0))) [4]) tNil)) (tCons (tOp rAddI (tCB (rMax K) (tCons (tLc (iTup K (tVar 0)) (gName 4) tYes (tOp (rIxT K) (tVar 4) (tC (.int 0))) [4]) tNil)) (tC (.int 1))) tNil))) (gName 3) (tFor (iRng2 (tCons (tCB (rMin K) (tCons (tLc (iTup K (tVar 0)) (gName 4) tYes (tOp (rIxT K) (tVar 4) (tC (.int 1))) [4]) tNil)) (tCons (tOp rAddI (tCB (rMax K) (tCons (tLc (iTup K (tVar 0)) (gName 4) tYes (tOp (rIxT K) (tVar 4) (tC (.int 1))) [4]) tNil)) (tC (.int 1))) tNil))) (gName 5) (tIfS (tB (tCall sp_is_within [] E0 (tCons (tVar 1) (tCons (tVar 3) (tCons (tVar 5) (tCons (tC (.int 1)) tNil)))))) (tDrop (tBM K "list" rAppend (tVar 2) (tCons (tTup (tCons (tVar 3) (tCons (tVar 5) tNil))) tNil))) tNext)))
    (tRet (tCB (rTupleOf K) (tCons (tVar 2) tNil))))))
set_option maxHeartbeats 4000000 in
theorem d_land_cells {sp_sides_round sp_is_within : Sp} (Z : Blt mg) (C_sides_round : Cal P w K mg base 1 "sides_round" ["ring"] sp_sides_round) (C_is_within : Cal P w K mg base 1 "is_within" ["sides", "x", "y", "lower"] sp_is_within) (hr : Room 1 (A.deeper (envOfC "land_cells" (defScope s_land_cells) s.heap.objs.size f cdv))) : PSs (cxOf CX0 P w K mg base N_land_cells "land_cells" (defScope s_land_cells) f cdv A outer s H E).nox (defBody s_land_cells) (t_land_cells K sp_sides_round sp_is_within) :=
    (pss_cons (ps_set (i := 1) sc_land_cells.nd rfl (by first | exact Or.inl rfl | exact Or.inr rfl) (pe_cal C_sides_round (hr.mono (by decide)) (by rfl) (pa_cons (pv 0) pa_nil)))
      (pss_cons (ps_set (i := 2) sc_land_cells.nd rfl (by first | exact Or.inl rfl | exact Or.inr rfl) (pe_lst pa_nil))
      (pss_cons (ps_for PassesOwn.never rfl (pi_range2 (by rfl) Z.range_ (pa_cons (pe_callB (cr_min rfl) (by rfl) Z.min_ (by decide +kernel) (pa_cons (pe_lc (own := [("cell", 4)]) (g := (gName 4)) (tt := tYes) rfl sc_land_cells.nd (pi_tup (pv 0)) (blkOk_by (N := N_land_cells) (sc := defScope s_land_cells) (by decide +kernel)) (fun _ _ _ _ _ => (pg_name (i := 4) sc_land_cells.nd rfl (by first | exact Or.inl rfl | exact Or.inr rfl))) (fun _ _ _ _ _ => pts_nil) (fun _ _ _ _ _ => (pe_ix ix_tup (pv 4) pe_int (fun _ _ => rfl)))) pa_nil)) (pa_cons (pe_op op_add (pe_callB (cr_max rfl) (by rfl) Z.max_ (by decide +kernel) (pa_cons (pe_lc (own := [("cell", 4)]) (g := (gName 4)) (tt := tYes) rfl sc_land_cells.nd (pi_tup (pv 0)) (blkOk_by (N := N_land_cells) (sc := defScope s_land_cells) (by decide +kernel)) (fun _ _ _ _ _ => (pg_name (i := 4) sc_land_cells.nd rfl (by first | exact Or.inl rfl | exact Or.inr rfl))) (fun _ _ _ _ _ => pts_nil) (fun _ _ _ _ _ => (pe_ix ix_tup (pv 4) pe_int (fun _ _ => rfl)))) pa_nil)) pe_int) pa_nil))) (pg_name (i := 3) sc_land_cells.nd rfl (by first | exact Or.inl rfl | exact Or.inr rfl)) (pss_one (ps_for PassesOwn.never rfl (pi_range2 (by rfl) Z.range_ (pa_cons (pe_callB (cr_min rfl) (by rfl) Z.min_ (by decide +kernel) (pa_cons (pe_lc (own := [("cell", 4)]) (g := (gName 4)) (tt := tYes) rfl sc_land_cells.nd (pi_tup (pv 0)) (blkOk_by (N := N_land_cells) (sc := defScope s_land_cells) (by decide +kernel)) (fun _ _ _ _ _ => (pg_name (i := 4) sc_land_cells.nd rfl (by first | exact Or.inl rfl | exact Or.inr rfl))) (fun _ _ _ _ _ => pts_nil) (fun _ _ _ _ _ => (pe_ix ix_tup (pv 4) pe_int (fun _ _ => rfl)))) pa_nil)) (pa_cons (pe_op op_add (pe_callB (cr_max rfl) (by rfl) Z.max_ (by decide +kernel) (pa_cons (pe_lc (own := [("cell", 4)]) (g := (gName 4)) (tt := tYes) rfl sc_land_cells.nd (pi_tup (pv 0)) (blkOk_by (N := N_land_cells) (sc := defScope s_land_cells) (by decide +kernel)) (fun _ _ _ _ _ => (pg_name (i := 4) sc_land_cells.nd rfl (by first | exact Or.inl rfl | exact Or.inr rfl))) (fun _ _ _ _ _ => pts_nil) (fun _ _ _ _ _ => (pe_ix ix_tup (pv 4) pe_int (fun _ _ => rfl)))) pa_nil)) pe_int) pa_nil))) (pg_name (i := 5) sc_land_cells.nd rfl (by first | exact Or.inl rfl | exact Or.inr rfl)) (pss_one (ps_if (pt_val (pe_cal C_is_within (hr.mono (by decide)) (by rfl) (pa_cons (pv 1) (pa_cons (pv 3) (pa_cons (pv 5) (pa_cons pe_int pa_nil)))))) (pss_one (ps_expr (pe_bm PySem.F.plainAttrs_list PySem.F.slot_list_append PySem.F.type_list_append mt_append (pv 2) (pa_cons (pe_tup (pa_cons (pv 3) (pa_cons (pv 5) pa_nil))) pa_nil)))) pss_nil)))))
      (pss_one (ps_ret (pe_callTy call_tuple_of (by rfl) Z.tuple_ (by decide +kernel) (pa_cons (pv 2) pa_nil)))))))
abbrev s_cells_of : Stmt := topS 14
abbrev N_cells_of : List Str := ["rows", "found", "row", "cell"]
theorem sc_cells_of : FnScope N_cells_of ["rows"] (defScope s_cells_of) := ⟨rfl, rfl, rfl, by decide +kernel, rfl, by decide +kernel, by decide +kernel⟩
def t_cells_of (K : PySem.W.Frag) : TS :=
    (tSeq (tAsg tDNewT (gName 1))
    (tSeq (tFor (iTup K (tVar 0)) (gName 2) (tFor (iTup K (tVar 2)) (gName 3) (sDPut (tVar 1) (tVar 3) (tC (.bl true)))))
    (tRet (tCB rSortedDT (tCons (tVar 1) tNil)))))
set_option maxHeartbeats 4000000 in
theorem d_cells_of (Z : Blt mg) (hr : Room 0 (A.deeper (envOfC "cells_of" (defScope s_cells_of) s.heap.objs.size f cdv))) : PSs (cxOf CX0 P w K mg base N_cells_of "cells_of" (defScope s_cells_of) f cdv A outer s H E).nox (defBody s_cells_of) (t_cells_of K) :=
    (pss_cons (ps_set (i := 1) sc_cells_of.nd rfl (by first | exact Or.inl rfl | exact Or.inr rfl) pe_dnewT)
      (pss_cons (ps_for PassesOwn.never rfl (pi_tup (pv 0)) (pg_name (i := 2) sc_cells_of.nd rfl (by first | exact Or.inl rfl | exact Or.inr rfl)) (pss_one (ps_for PassesOwn.never rfl (pi_tup (pv 2)) (pg_name (i := 3) sc_cells_of.nd rfl (by first | exact Or.inl rfl | exact Or.inr rfl)) (pss_one (ps_dput (hu_of hr) (pv 1) (pv 3) pe_bl rfl)))))
      (pss_one (ps_ret (pe_callB (cr_sortedDT rfl (hu64 hr)) (by rfl) Z.sorted_ (by decide +kernel) (pa_cons (pv 1) pa_nil))))))
abbrev s_way_of : Stmt := topS 16
abbrev N_way_of : List Str := ["x", "y", "by"]
theorem sc_way_of : FnScope N_way_of ["x", "y"] (defScope s_way_of) := ⟨rfl, rfl, rfl, by decide +kernel, rfl, by decide +kernel, by decide +kernel⟩
def t_way_of (K : PySem.W.Frag) (sp_common : Sp) : TS :=
    (tSeq (tAsg (tCall sp_common [] E0 (tCons (tVar 0) (tCons (tVar 1) tNil))) (gName 2))
    (tSeq (tIfS (tOr (tTest (tOp rLtI (tVar 1) (tC (.int 0)))) (tAnd (tTest (tOp rEq (tVar 1) (tC (.int 0)))) (tTest (tOp rLtI (tVar 0) (tC (.int 0)))))) (tAsg (tUn rNegI (tVar 2)) (gName 2)) tNext)
    (tRet (tTup (tCons (tOp rDivI (tVar 0) (tVar 2)) (tCons (tOp rDivI (tVar 1) (tVar 2)) tNil))))))
set_option maxHeartbeats 4000000 in
theorem d_way_of {sp_common : Sp} (Z : Blt mg) (C_common : Cal P w K mg base 1 "common" ["one", "other"] sp_common) (hr : Room 1 (A.deeper (envOfC "way_of" (defScope s_way_of) s.heap.objs.size f cdv))) : PSs (cxOf CX0 P w K mg base N_way_of "way_of" (defScope s_way_of) f cdv A outer s H E).nox (defBody s_way_of) (t_way_of K sp_common) :=
    (pss_cons (ps_set (i := 2) sc_way_of.nd rfl (by first | exact Or.inl rfl | exact Or.inr rfl) (pe_cal C_common (hr.mono (by decide)) (by rfl) (pa_cons (pv 0) (pa_cons (pv 1) pa_nil))))
      (pss_cons (ps_if (PW.pt (pw_or (pt_cmpR op_lt (pv 1) pe_int (nomark _)) (pw_or1 (PW.pt (pw_and (pt_cmpR op_eq (pv 1) pe_int (nomark _)) (pw_and1 (pt_cmpR op_lt (pv 0) pe_int (nomark _)))))))) (pss_one (ps_set (i := 2) sc_way_of.nd rfl (by first | exact Or.inl rfl | exact Or.inr rfl) (pe_un un_neg (pv 2)))) pss_nil)
      (pss_one (ps_ret (pe_tup (pa_cons (pe_op op_fdivN (pv 0) (pv 2)) (pa_cons (pe_op op_fdivN (pv 1) (pv 2)) pa_nil)))))))
abbrev s_in_turn : Stmt := topS 17
abbrev N_in_turn : List Str := ["ways", "found", "way", "at"]
theorem sc_in_turn : FnScope N_in_turn ["ways"] (defScope s_in_turn) := ⟨rfl, rfl, rfl, by decide +kernel, rfl, by decide +kernel, by decide +kernel⟩
def t_in_turn (K : PySem.W.Frag) : TS :=
    (tSeq (tAsg (tLst tNil) (gName 1))
    (tSeq (tFor (iList K (tVar 0)) (gName 2) (tIfS (tTest (tOp (rNotInD K) (tVar 2) (tVar 1))) (tSeq (tAsg (tC (.int 0)) (gName 3))
    (tSeq (tWhile (tAnd (tTest (tOp rLtI (tVar 3) (tCB (rLenSeq K) (tCons (tVar 1) tNil)))) (tTest (tOp rGtI (tOp rSubI (tOp rMulI (tOp (rIxT K) (tOp (rIxL K) (tVar 1) (tVar 3)) (tC (.int 0))) (tOp (rIxT K) (tVar 2) (tC (.int 1)))) (tOp rMulI (tOp (rIxT K) (tOp (rIxL K) (tVar 1) (tVar 3)) (tC (.int 1))) (tOp (rIxT K) (tVar 2) (tC (.int 0))))) (tC (.int 0))))) (tAug 3 (tC (.int 1)) (ipI fun i j => i + j)))
    (tDrop (tBM K "list" rInsertI (tVar 1) (tCons (tVar 3) (tCons (tVar 2) tNil)))))) tNext))
    (tRet (tVar 1))))
set_option maxHeartbeats 4000000 in
theorem d_in_turn (Z : Blt mg) (hr : Room 0 (A.deeper (envOfC "in_turn" (defScope s_in_turn) s.heap.objs.size f cdv))) : PSs (cxOf CX0 P w K mg base N_in_turn "in_turn" (defScope s_in_turn) f cdv A outer s H E).nox (defBody s_in_turn) (t_in_turn K) :=
    (pss_cons (ps_set (i := 1) sc_in_turn.nd rfl (by first | exact Or.inl rfl | exact Or.inr rfl) (pe_lst pa_nil))
      (pss_cons (ps_for PassesOwn.never rfl (pi_list (pv 0)) (pg_name (i := 2) sc_in_turn.nd rfl (by first | exact Or.inl rfl | exact Or.inr rfl)) (pss_one (ps_if (pt_cmpR (op_notInD (hu65 hr)) (pv 2) (pv 1) rfl) (pss_cons (ps_set (i := 3) sc_in_turn.nd rfl (by first | exact Or.inl rfl | exact Or.inr rfl) pe_int)
      (pss_cons (ps_while PassesOwn.never (PW.pt (pw_and (pt_cmpR op_lt (pv 3) (pe_callB call_len_seq (by rfl) Z.len_ (by decide +kernel) (pa_cons (pv 1) pa_nil)) (nomark _)) (pw_and1 (pt_cmpR op_gt (pe_op op_sub (pe_op op_mul (pe_ix ix_tup (pe_ix ix_list (pv 1) (pv 3) (fun _ _ => rfl)) pe_int (fun _ _ => rfl)) (pe_ix ix_tup (pv 2) pe_int (fun _ _ => rfl))) (pe_op op_mul (pe_ix ix_tup (pe_ix ix_list (pv 1) (pv 3) (fun _ _ => rfl)) pe_int (fun _ _ => rfl)) (pe_ix ix_tup (pv 2) pe_int (fun _ _ => rfl)))) pe_int (nomark _))))) (pss_one (ps_aug (i := 3) sc_in_turn.nd rfl (by first | exact Or.inl rfl | exact Or.inr rfl) pe_int ip_add)))
      (pss_one (ps_expr (pe_bm PySem.F.plainAttrs_list PySem.F.slot_list_insert PySem.F.type_list_insert mt_insert (pv 1) (pa_cons (pv 3) (pa_cons (pv 2) pa_nil))))))) pss_nil)))
      (pss_one (ps_ret (pv 1)))))
abbrev s_ways_from : Stmt := topS 18
abbrev N_ways_from : List Str := ["cells", "point", "x", "y", "lower", "ways", "across", "up", "found"]
theorem sc_ways_from : FnScope N_ways_from ["cells", "point"] (defScope s_ways_from) := ⟨rfl, rfl, rfl, by decide +kernel, rfl, by decide +kernel, by decide +kernel⟩
def t_ways_from (K : PySem.W.Frag) (sp_way_of sp_in_turn : Sp) : TS :=
    (tSeq (tAsg (tVar 1) (gTup K 3 (gCons (gName 2) (gCons (gName 3) (gCons (gName 4) gNil)))))
    (tSeq (tAsg (tLst (tCons (tTup (tCons (tC (.int 1)) (tCons (tC (.int 0)) tNil))) (tCons (tTup (tCons (tC (.int 0)) (tCons (tC (.int 1)) tNil))) tNil))) (gName 5))
    (tSeq (tFor (iList K (tVar 0)) (gTup K 2 (gCons (gName 6) (gCons (gName 7) gNil))) (tIfS (tTest (tOp (rNeD K) (tTup (tCons (tOp rSubI (tOp rMulI (tVar 6) (tVar 4)) (tVar 2)) (tCons (tOp rSubI (tOp rMulI (tVar 7) (tVar 4)) (tVar 3)) tNil))) (tTup (tCons (tC (.int 0)) (tCons (tC (.int 0)) tNil))))) (tDrop (tBM K "list" rAppend (tVar 5) (tCons (tCall sp_way_of [] E0 (tCons (tOp rSubI (tOp rMulI (tVar 6) (tVar 4)) (tVar 2)) (tCons (tOp rSubI (tOp rMulI (tVar 7) (tVar 4)) (tVar 3)) tNil))) tNil))) tNext))
    (tSeq (tAsg (tCall sp_in_turn [] E0 (tCons (tVar 5) tNil)) (gName 8))
    (tRet (tOp rCat (tVar 8) (tLc (iList K (tVar 8)) (gTup K 2 (gCons (gName 6) (gCons (gName 7) gNil))) tYes (tTup (tCons (tUn rNegI (tVar 6)) (tCons (tUn rNegI (tVar 7)) tNil))) [6, 7])))))))
set_option maxHeartbeats 4000000 in
theorem d_ways_from {sp_way_of sp_in_turn : Sp} (Z : Blt mg) (C_way_of : Cal P w K mg base 2 "way_of" ["x", "y"] sp_way_of) (C_in_turn : Cal P w K mg base 1 "in_turn" ["ways"] sp_in_turn) (hr : Room 2 (A.deeper (envOfC "ways_from" (defScope s_ways_from) s.heap.objs.size f cdv))) : PSs (cxOf CX0 P w K mg base N_ways_from "ways_from" (defScope s_ways_from) f cdv A outer s H E).nox (defBody s_ways_from) (t_ways_from K sp_way_of sp_in_turn) :=
    (pss_cons (ps_asg (pv 1) (pg_tup rfl (pgs_cons (pg_name (i := 2) sc_ways_from.nd rfl (by first | exact Or.inl rfl | exact Or.inr rfl)) (pgs_cons (pg_name (i := 3) sc_ways_from.nd rfl (by first | exact Or.inl rfl | exact Or.inr rfl)) (pgs_cons (pg_name (i := 4) sc_ways_from.nd rfl (by first | exact Or.inl rfl | exact Or.inr rfl)) pgs_nil)))))
      (pss_cons (ps_set (i := 5) sc_ways_from.nd rfl (by first | exact Or.inl rfl | exact Or.inr rfl) (pe_lst (pa_cons (pe_tup (pa_cons pe_int (pa_cons pe_int pa_nil))) (pa_cons (pe_tup (pa_cons pe_int (pa_cons pe_int pa_nil))) pa_nil))))
      (pss_cons (ps_for PassesOwn.never rfl (pi_list (pv 0)) (pg_tup rfl (pgs_cons (pg_name (i := 6) sc_ways_from.nd rfl (by first | exact Or.inl rfl | exact Or.inr rfl)) (pgs_cons (pg_name (i := 7) sc_ways_from.nd rfl (by first | exact Or.inl rfl | exact Or.inr rfl)) pgs_nil))) (pss_one (ps_if (pt_cmpR (op_neD (hu64 hr)) (pe_tup (pa_cons (pe_op op_sub (pe_op op_mul (pv 6) (pv 4)) (pv 2)) (pa_cons (pe_op op_sub (pe_op op_mul (pv 7) (pv 4)) (pv 3)) pa_nil))) (pe_tup (pa_cons pe_int (pa_cons pe_int pa_nil))) (nomark _)) (pss_one (ps_expr (pe_bm PySem.F.plainAttrs_list PySem.F.slot_list_append PySem.F.type_list_append mt_append (pv 5) (pa_cons (pe_cal C_way_of (hr.mono (by decide)) (by rfl) (pa_cons (pe_op op_sub (pe_op op_mul (pv 6) (pv 4)) (pv 2)) (pa_cons (pe_op op_sub (pe_op op_mul (pv 7) (pv 4)) (pv 3)) pa_nil))) pa_nil)))) pss_nil)))
      (pss_cons (ps_set (i := 8) sc_ways_from.nd rfl (by first | exact Or.inl rfl | exact Or.inr rfl) (pe_cal C_in_turn (hr.mono (by decide)) (by rfl) (pa_cons (pv 5) pa_nil)))
      (pss_one (ps_ret (pe_op op_cat (pv 8) (pe_lc (own := [("across", 6), ("up", 7)]) (g := (gTup K 2 (gCons (gName 6) (gCons (gName 7) gNil)))) (tt := tYes) rfl sc_ways_from.nd (pi_list (pv 8)) (blkOk_by (N := N_ways_from) (sc := defScope s_ways_from) (by decide +kernel)) (fun _ _ _ _ _ => (pg_tup rfl (pgs_cons (pg_name (i := 6) sc_ways_from.nd rfl (by first | exact Or.inl rfl | exact Or.inr rfl)) (pgs_cons (pg_name (i := 7) sc_ways_from.nd rfl (by first | exact Or.inl rfl | exact Or.inr rfl)) pgs_nil)))) (fun _ _ _ _ _ => pts_nil) (fun _ _ _ _ _ => (pe_tup (pa_cons (pe_un un_neg (pv 6)) (pa_cons (pe_un un_neg (pv 7)) pa_nil))))))))))))
abbrev s_beyond : Stmt := topS 19
abbrev N_beyond : List Str := ["way", "cell", "point", "x", "y", "lower"]
theorem sc_beyond : FnScope N_beyond ["way", "cell", "point"] (defScope s_beyond) := ⟨rfl, rfl, rfl, by decide +kernel, rfl, by decide +kernel, by decide +kernel⟩
def t_beyond (K : PySem.W.Frag) : TS :=
    (tSeq (tAsg (tVar 2) (gTup K 3 (gCons (gName 3) (gCons (gName 4) (gCons (gName 5) gNil)))))
    (tRet (tOp rSubI (tOp rMulI (tOp (rIxT K) (tVar 0) (tC (.int 1))) (tOp rSubI (tOp rMulI (tOp (rIxT K) (tVar 1) (tC (.int 0))) (tVar 5)) (tVar 3))) (tOp rMulI (tOp (rIxT K) (tVar 0) (tC (.int 0))) (tOp rSubI (tOp rMulI (tOp (rIxT K) (tVar 1) (tC (.int 1))) (tVar 5)) (tVar 4))))))
set_option maxHeartbeats 4000000 in
theorem d_beyond (Z : Blt mg) (hr : Room 0 (A.deeper (envOfC "beyond" (defScope s_beyond) s.heap.objs.size f cdv))) : PSs (cxOf CX0 P w K mg base N_beyond "beyond" (defScope s_beyond) f cdv A outer s H E).nox (defBody s_beyond) (t_beyond K) :=
    (pss_cons (ps_asg (pv 2) (pg_tup rfl (pgs_cons (pg_name (i := 3) sc_beyond.nd rfl (by first | exact Or.inl rfl | exact Or.inr rfl)) (pgs_cons (pg_name (i := 4) sc_beyond.nd rfl (by first | exact Or.inl rfl | exact Or.inr rfl)) (pgs_cons (pg_name (i := 5) sc_beyond.nd rfl (by first | exact Or.inl rfl | exact Or.inr rfl)) pgs_nil)))))
      (pss_one (ps_ret (pe_op op_sub (pe_op op_mul (pe_ix ix_tup (pv 0) pe_int (fun _ _ => rfl)) (pe_op op_sub (pe_op op_mul (pe_ix ix_tup (pv 1) pe_int (fun _ _ => rfl)) (pv 5)) (pv 3))) (pe_op op_mul (pe_ix ix_tup (pv 0) pe_int (fun _ _ => rfl)) (pe_op op_sub (pe_op op_mul (pe_ix ix_tup (pv 1) pe_int (fun _ _ => rfl)) (pv 5)) (pv 4)))))))
abbrev s_size_for : Stmt := topS 20
abbrev N_size_for : List Str := ["ways", "cells", "point", "most", "way", "cell"]
theorem sc_size_for : FnScope N_size_for ["ways", "cells", "point"] (defScope s_size_for) := ⟨rfl, rfl, rfl, by decide +kernel, rfl, by decide +kernel, by decide +kernel⟩
def t_size_for (K : PySem.W.Frag) (sp_beyond : Sp) : TS :=
    (tSeq (tAsg (tC (.int 1)) (gName 3))
    (tSeq (tFor (iList K (tVar 0)) (gName 4) (tFor (iList K (tVar 1)) (gName 5) (tAsg (tCB rMax2I (tCons (tVar 3) (tCons (tUn rNegI (tOp rDivI (tUn rNegI (tCall sp_beyond [] E0 (tCons (tVar 4) (tCons (tVar 5) (tCons (tVar 2) tNil))))) (tOp (rIxT K) (tVar 2) (tC (.int 2))))) tNil))) (gName 3))))
    (tRet (tVar 3))))
set_option maxHeartbeats 4000000 in
theorem d_size_for {sp_beyond : Sp} (Z : Blt mg) (C_beyond : Cal P w K mg base 1 "beyond" ["way", "cell", "point"] sp_beyond) (hr : Room 1 (A.deeper (envOfC "size_for" (defScope s_size_for) s.heap.objs.size f cdv))) : PSs (cxOf CX0 P w K mg base N_size_for "size_for" (defScope s_size_for) f cdv A outer s H E).nox (defBody s_size_for) (t_size_for K sp_beyond) :=
    (pss_cons (ps_set (i := 3) sc_size_for.nd rfl (by first | exact Or.inl rfl | exact Or.inr rfl) pe_int)
      (pss_cons (ps_for PassesOwn.never rfl (pi_list (pv 0)) (pg_name (i := 4) sc_size_for.nd rfl (by first | exact Or.inl rfl | exact Or.inr rfl)) (pss_one (ps_for PassesOwn.never rfl (pi_list (pv 1)) (pg_name (i := 5) sc_size_for.nd rfl (by first | exact Or.inl rfl | exact Or.inr rfl)) (pss_one (ps_set (i := 3) sc_size_for.nd rfl (by first | exact Or.inl rfl | exact Or.inr rfl) (pe_callB (call_max2 rfl) (by rfl) Z.max_ (by decide +kernel) (pa_cons (pv 3) (pa_cons (pe_un un_neg (pe_op op_fdivN (pe_un un_neg (pe_cal C_beyond (hr.mono (by decide)) (by rfl) (pa_cons (pv 4) (pa_cons (pv 5) (pa_cons (pv 2) pa_nil))))) (pe_ix ix_tup (pv 2) pe_int (fun _ _ => rfl)))) pa_nil))))))))
      (pss_one (ps_ret (pv 3)))))
end
end K84
namespace K84
open L2 PySem PySem.Spec PyProof.Rows
section
variable {P : Program} {w : World} {K : PySem.W.Frag} {mg : Str → Option Value} {base : Heap} {f : Addr} {cdv : Value} {A : Around} {outer : List Env} {s : Shared} {H : Hp} {E : XK}
abbrev s_row_at : Stmt := topS 21
abbrev N_row_at : List Str := ["plain", "cells", "point", "one", "other", "inward", "cell", "row"]
theorem sc_row_at : FnScope N_row_at ["plain", "cells", "point", "one", "other"] (defScope s_row_at) := ⟨rfl, rfl, rfl, by decide +kernel, rfl, by decide +kernel, by decide +kernel⟩
def t_row_at (K : PySem.W.Frag) (sp_beyond : Sp) : TS :=
    (tSeq (tAsg (tLst tNil) (gName 5))
    (tSeq (tFor (iList K (tVar 1)) (gName 6) (tIfS (tAnd (tTest (tOp rLeI (tCall sp_beyond [] E0 (tCons (tVar 3) (tCons (tVar 6) (tCons (tVar 2) tNil)))) (tC (.int 0)))) (tTest (tOp rLeI (tCall sp_beyond [] E0 (tCons (tVar 4) (tCons (tVar 6) (tCons (tVar 2) tNil)))) (tC (.int 0))))) (tDrop (tBM K "list" rAppend (tVar 5) (tCons (tVar 6) tNil))) tNext))
    (tRet (tOp (rIxL K) (tLc (iTup K (tVar 0)) (gName 7) (tB (tCB (rAll K) (tCons (tLc (iTup K (tVar 7)) (gName 6) tYes (tOp (rInD K) (tVar 6) (tVar 5)) [6]) tNil))) (tVar 7) [7]) (tC (.int 0))))))
set_option maxHeartbeats 4000000 in
theorem d_row_at {sp_beyond : Sp} (Z : Blt mg) (C_beyond : Cal P w K mg base 1 "beyond" ["way", "cell", "point"] sp_beyond) (hr : Room 1 (A.deeper (envOfC "row_at" (defScope s_row_at) s.heap.objs.size f cdv))) : PSs (cxOf CX0 P w K mg base N_row_at "row_at" (defScope s_row_at) f cdv A outer s H E).nox (defBody s_row_at) (t_row_at K sp_beyond) :=
    (pss_cons (ps_set (i := 5) sc_row_at.nd rfl (by first | exact Or.inl rfl | exact Or.inr rfl) (pe_lst pa_nil))
      (pss_cons (ps_for PassesOwn.never rfl (pi_list (pv 1)) (pg_name (i := 6) sc_row_at.nd rfl (by first | exact Or.inl rfl | exact Or.inr rfl)) (pss_one (ps_if (PW.pt (pw_and (pt_cmpR op_le (pe_cal C_beyond (hr.mono (by decide)) (by rfl) (pa_cons (pv 3) (pa_cons (pv 6) (pa_cons (pv 2) pa_nil)))) pe_int (nomark _)) (pw_and1 (pt_cmpR op_le (pe_cal C_beyond (hr.mono (by decide)) (by rfl) (pa_cons (pv 4) (pa_cons (pv 6) (pa_cons (pv 2) pa_nil)))) pe_int (nomark _))))) (pss_one (ps_expr (pe_bm PySem.F.plainAttrs_list PySem.F.slot_list_append PySem.F.type_list_append mt_append (pv 5) (pa_cons (pv 6) pa_nil)))) pss_nil)))
      (pss_one (ps_ret (pe_ix ix_list (pe_lc (own := [("row", 7)]) (g := (gName 7)) (tt := (tB (tCB (rAll K) (tCons (tLc (iTup K (tVar 7)) (gName 6) tYes (tOp (rInD K) (tVar 6) (tVar 5)) [6]) tNil)))) rfl sc_row_at.nd (pi_tup (pv 0)) (blkOk_by (N := N_row_at) (sc := defScope s_row_at) (by decide +kernel)) (fun _ _ _ _ _ => (pg_name (i := 7) sc_row_at.nd rfl (by first | exact Or.inl rfl | exact Or.inr rfl))) (fun _ _ _ _ _ => (pts_one (pt_val (pe_callB (cr_all rfl) (by rfl) Z.all_ (by decide +kernel) (pa_cons (pe_lc (own := [("cell", 6)]) (g := (gName 6)) (tt := tYes) rfl sc_row_at.nd (pi_tup (pv 7)) (blkOk_by (by show blkC N_row_at (relS _ (defScope s_row_at)) _ _ = true; decide +kernel)) (fun _ _ _ _ _ => (pg_name (i := 6) sc_row_at.nd rfl (by first | exact Or.inl rfl | exact Or.inr rfl))) (fun _ _ _ _ _ => pts_nil) (fun _ _ _ _ _ => (pe_cmpR (op_inD (hu65 hr)) (pv 6) (pv 5) rfl))) pa_nil))))) (fun _ _ _ _ _ => (pv 7))) pe_int (fun _ _ => rfl))))))
abbrev s_land_of : Stmt := topS 22
abbrev N_land_of : List Str := ["plain", "v", "point", "cells", "ways", "size", "here", "way", "ring", "rows", "k", "middle"]
theorem sc_land_of : FnScope N_land_of ["plain", "v"] (defScope s_land_of) := ⟨rfl, rfl, rfl, by decide +kernel, rfl, by decide +kernel, by decide +kernel⟩
def t_land_of (K : PySem.W.Frag) (sp_over_common sp_cells_of sp_ways_from sp_size_for sp_row_at : Sp) : TS :=
    (tSeq (tAsg (tCall sp_over_common [] E0 (tCons (tVar 1) tNil)) (gName 2))
    (tSeq (tAsg (tCall sp_cells_of [] E0 (tCons (tVar 0) tNil)) (gName 3))
    (tSeq (tAsg (tCall sp_ways_from [] E0 (tCons (tVar 3) (tCons (tVar 2) tNil))) (gName 4))
    (tSeq (tAsg (tCall sp_size_for [] E0 (tCons (tVar 4) (tCons (tVar 3) (tCons (tVar 2) tNil)))) (gName 5))
    (tSeq (tAsg (tTup (tCons (tC (.int 0)) (tCons (tC (.int 0)) tNil))) (gName 6))
    (tSeq (tFor (iList K (tSl (rSlL K) (tVar 4) tNoPart (tPart (tOp rDivI (tCB (rLenSeq K) (tCons (tVar 4) tNil)) (tC (.int 2)))))) (gName 7) (tAsg (tTup (tCons (tOp rSubI (tOp (rIxT K) (tVar 6) (tC (.int 0))) (tOp rMulI (tVar 5) (tOp (rIxT K) (tVar 7) (tC (.int 0))))) (tCons (tOp rSubI (tOp (rIxT K) (tVar 6) (tC (.int 1))) (tOp rMulI (tVar 5) (tOp (rIxT K) (tVar 7) (tC (.int 1))))) tNil))) (gName 6)))
    (tSeq (tPar 8 9 (tCons (tLst tNil) (tCons (tLst tNil) tNil)))
    (tSeq (tFor (iEnum K (tCons (tVar 4) tNil)) (gTup K 2 (gCons (gName 10) (gCons (gName 7) gNil))) (tSeq (tAsg (tTup (tCons (tOp rAddI (tOp (rIxT K) (tVar 6) (tC (.int 0))) (tOp rMulI (tVar 5) (tOp (rIxT K) (tVar 7) (tC (.int 0))))) (tCons (tOp rAddI (tOp (rIxT K) (tVar 6) (tC (.int 1))) (tOp rMulI (tVar 5) (tOp (rIxT K) (tVar 7) (tC (.int 1))))) tNil))) (gName 11))
    (tSeq (tDrop (tBM K "list" rExtend (tVar 8) (tCons (tLst (tCons (tVar 6) (tCons (tVar 11) tNil))) tNil)))
    (tSeq (tDrop (tBM K "list" rAppend (tVar 9) (tCons (tCall sp_row_at [] E0 (tCons (tVar 0) (tCons (tVar 3) (tCons (tVar 2) (tCons (tOp (rIxL K) (tVar 4) (tOp rSubI (tVar 10) (tC (.int 1)))) (tCons (tVar 7) tNil)))))) tNil)))
    (tSeq (tDrop (tBM K "list" rAppend (tVar 9) (tCons (tCall sp_row_at [] E0 (tCons (tVar 0) (tCons (tVar 3) (tCons (tVar 2) (tCons (tVar 7) (tCons (tOp (rIxL K) (tVar 4) (tOp rModI (tOp rAddI (tVar 10) (tC (.int 1))) (tCB (rLenSeq K) (tCons (tVar 4) tNil)))) tNil)))))) tNil)))
    (tAsg (tTup (tCons (tOp rAddI (tOp (rIxT K) (tVar 11) (tC (.int 0))) (tOp rMulI (tVar 5) (tOp (rIxT K) (tVar 7) (tC (.int 0))))) (tCons (tOp rAddI (tOp (rIxT K) (tVar 11) (tC (.int 1))) (tOp rMulI (tVar 5) (tOp (rIxT K) (tVar 7) (tC (.int 1))))) tNil))) (gName 6)))))))
    (tRet (tTup (tCons (tC (.str (PySem.Str.ofString "lives"))) (tCons (tVar 1) (tCons (tCB (rTupleOf K) (tCons (tVar 8) tNil)) (tCons (tTup (tCons (tC (.int 0)) (tCons (tC (.int 0)) tNil))) (tCons (tTup (tCons (tC (.int 0)) (tCons (tC (.int 0)) tNil))) (tCons (tCB (rTupleOf K) (tCons (tVar 9) tNil)) tNil))))))))))))))))
set_option maxHeartbeats 4000000 in
theorem d_land_of {sp_over_common sp_cells_of sp_ways_from sp_size_for sp_row_at : Sp} (Z : Blt mg) (C_over_common : Cal P w K mg base 1 "over_common" ["point"] sp_over_common) (C_cells_of : Cal P w K mg base 1 "cells_of" ["rows"] sp_cells_of) (C_ways_from : Cal P w K mg base 3 "ways_from" ["cells", "point"] sp_ways_from) (C_size_for : Cal P w K mg base 2 "size_for" ["ways", "cells", "point"] sp_size_for) (C_row_at : Cal P w K mg base 2 "row_at" ["plain", "cells", "point", "one", "other"] sp_row_at) (hr : Room 3 (A.deeper (envOfC "land_of" (defScope s_land_of) s.heap.objs.size f cdv))) : PSs (cxOf CX0 P w K mg base N_land_of "land_of" (defScope s_land_of) f cdv A outer s H E).nox (defBody s_land_of) (t_land_of K sp_over_common sp_cells_of sp_ways_from sp_size_for sp_row_at) :=
    (pss_cons (ps_set (i := 2) sc_land_of.nd rfl (by first | exact Or.inl rfl | exact Or.inr rfl) (pe_cal C_over_common (hr.mono (by decide)) (by rfl) (pa_cons (pv 1) pa_nil)))
      (pss_cons (ps_set (i := 3) sc_land_of.nd rfl (by first | exact Or.inl rfl | exact Or.inr rfl) (pe_cal C_cells_of (hr.mono (by decide)) (by rfl) (pa_cons (pv 0) pa_nil)))
      (pss_cons (ps_set (i := 4) sc_land_of.nd rfl (by first | exact Or.inl rfl | exact Or.inr rfl) (pe_cal C_ways_from (hr.mono (by decide)) (by rfl) (pa_cons (pv 3) (pa_cons (pv 2) pa_nil))))
      (pss_cons (ps_set (i := 5) sc_land_of.nd rfl (by first | exact Or.inl rfl | exact Or.inr rfl) (pe_cal C_size_for (hr.mono (by decide)) (by rfl) (pa_cons (pv 4) (pa_cons (pv 3) (pa_cons (pv 2) pa_nil)))))
      (pss_cons (ps_set (i := 6) sc_land_of.nd rfl (by first | exact Or.inl rfl | exact Or.inr rfl) (pe_tup (pa_cons pe_int (pa_cons pe_int pa_nil))))
      (pss_cons (ps_for PassesOwn.never rfl (pi_list (pe_slice sl_list (pv 4) po_none (po_some (pe_op op_fdivN (pe_callB call_len_seq (by rfl) Z.len_ (by decide +kernel) (pa_cons (pv 4) pa_nil)) pe_int)))) (pg_name (i := 7) sc_land_of.nd rfl (by first | exact Or.inl rfl | exact Or.inr rfl)) (pss_one (ps_set (i := 6) sc_land_of.nd rfl (by first | exact Or.inl rfl | exact Or.inr rfl) (pe_tup (pa_cons (pe_op op_sub (pe_ix ix_tup (pv 6) pe_int (fun _ _ => rfl)) (pe_op op_mul (pv 5) (pe_ix ix_tup (pv 7) pe_int (fun _ _ => rfl)))) (pa_cons (pe_op op_sub (pe_ix ix_tup (pv 6) pe_int (fun _ _ => rfl)) (pe_op op_mul (pv 5) (pe_ix ix_tup (pv 7) pe_int (fun _ _ => rfl)))) pa_nil))))))
      (pss_cons (ps_par (i := 8) (j := 9) rfl sc_land_of.nd rfl rfl (by decide) rfl rfl (pa_cons (pe_lst pa_nil) (pa_cons (pe_lst pa_nil) pa_nil)) (by rfl))
      (pss_cons (ps_for PassesOwn.never rfl (pi_enum (by rfl) Z.enumerate_ (pa_cons (pv 4) pa_nil)) (pg_tup rfl (pgs_cons (pg_name (i := 10) sc_land_of.nd rfl (by first | exact Or.inl rfl | exact Or.inr rfl)) (pgs_cons (pg_name (i := 7) sc_land_of.nd rfl (by first | exact Or.inl rfl | exact Or.inr rfl)) pgs_nil))) (pss_cons (ps_set (i := 11) sc_land_of.nd rfl (by first | exact Or.inl rfl | exact Or.inr rfl) (pe_tup (pa_cons (pe_op op_add (pe_ix ix_tup (pv 6) pe_int (fun _ _ => rfl)) (pe_op op_mul (pv 5) (pe_ix ix_tup (pv 7) pe_int (fun _ _ => rfl)))) (pa_cons (pe_op op_add (pe_ix ix_tup (pv 6) pe_int (fun _ _ => rfl)) (pe_op op_mul (pv 5) (pe_ix ix_tup (pv 7) pe_int (fun _ _ => rfl)))) pa_nil))))
      (pss_cons (ps_expr (pe_bm PySem.F.plainAttrs_list PySem.F.slot_list_extend PySem.F.type_list_extend mt_extend (pv 8) (pa_cons (pe_lst (pa_cons (pv 6) (pa_cons (pv 11) pa_nil))) pa_nil)))
      (pss_cons (ps_expr (pe_bm PySem.F.plainAttrs_list PySem.F.slot_list_append PySem.F.type_list_append mt_append (pv 9) (pa_cons (pe_cal C_row_at (hr.mono (by decide)) (by rfl) (pa_cons (pv 0) (pa_cons (pv 3) (pa_cons (pv 2) (pa_cons (pe_ix ix_list (pv 4) (pe_op op_sub (pv 10) pe_int) (fun _ _ => rfl)) (pa_cons (pv 7) pa_nil)))))) pa_nil)))
      (pss_cons (ps_expr (pe_bm PySem.F.plainAttrs_list PySem.F.slot_list_append PySem.F.type_list_append mt_append (pv 9) (pa_cons (pe_cal C_row_at (hr.mono (by decide)) (by rfl) (pa_cons (pv 0) (pa_cons (pv 3) (pa_cons (pv 2) (pa_cons (pv 7) (pa_cons (pe_ix ix_list (pv 4) (pe_op op_mod (pe_op op_add (pv 10) pe_int) (pe_callB call_len_seq (by rfl) Z.len_ (by decide +kernel) (pa_cons (pv 4) pa_nil))) (fun _ _ => rfl)) pa_nil)))))) pa_nil)))
      (pss_one (ps_set (i := 6) sc_land_of.nd rfl (by first | exact Or.inl rfl | exact Or.inr rfl) (pe_tup (pa_cons (pe_op op_add (pe_ix ix_tup (pv 11) pe_int (fun _ _ => rfl)) (pe_op op_mul (pv 5) (pe_ix ix_tup (pv 7) pe_int (fun _ _ => rfl)))) (pa_cons (pe_op op_add (pe_ix ix_tup (pv 11) pe_int (fun _ _ => rfl)) (pe_op op_mul (pv 5) (pe_ix ix_tup (pv 7) pe_int (fun _ _ => rfl)))) pa_nil))))))))))
      (pss_one (ps_ret (pe_tup (pa_cons pe_str (pa_cons (pv 1) (pa_cons (pe_callTy call_tuple_of (by rfl) Z.tuple_ (by decide +kernel) (pa_cons (pv 8) pa_nil)) (pa_cons (pe_tup (pa_cons pe_int (pa_cons pe_int pa_nil))) (pa_cons (pe_tup (pa_cons pe_int (pa_cons pe_int pa_nil))) (pa_cons (pe_callTy call_tuple_of (by rfl) Z.tuple_ (by decide +kernel) (pa_cons (pv 9) pa_nil)) pa_nil)))))))))))))))))
abbrev s_cell_at : Stmt := topS 23
abbrev N_cell_at : List Str := ["paper", "many", "found", "number", "part"]
theorem sc_cell_at : FnScope N_cell_at ["paper", "many"] (defScope s_cell_at) := ⟨rfl, rfl, rfl, by decide +kernel, rfl, by decide +kernel, by decide +kernel⟩
def t_cell_at (K : PySem.W.Frag) (sp_times sp_less sp_ceiling_of : Sp) : TS :=
    (tSeq (tAsg (tLst tNil) (gName 2))
    (tSeq (tFor (RZ.iZipA K (tCons (tOp (rIxT K) (tVar 0) (tC (.int 4))) (tCons (tOp (rIxT K) (tVar 0) (tC (.int 1))) tNil))) (gTup K 2 (gCons (gName 3) (gCons (gName 4) gNil))) (tDrop (tBM K "list" rAppend (tVar 2) (tCons (tCall sp_ceiling_of [] E0 (tCons (tCall sp_less [] E0 (tCons (tTup (tCons (tVar 3) (tCons (tC (.int 1)) tNil))) (tCons (tCall sp_times [] E0 (tCons (tTup (tCons (tVar 1) (tCons (tC (.int 1)) tNil))) (tCons (tVar 4) tNil))) tNil))) tNil)) tNil))))
    (tRet (tCB (rTupleOf K) (tCons (tVar 2) tNil)))))
set_option maxHeartbeats 4000000 in
theorem d_cell_at {sp_times sp_less sp_ceiling_of : Sp} (Z : Blt mg) (C_times : Cal P w K mg base 3 "times" ["one", "other"] sp_times) (C_less : Cal P w K mg base 3 "less" ["one", "other"] sp_less) (C_ceiling_of : Cal P w K mg base 1 "ceiling_of" ["one"] sp_ceiling_of) (hr : Room 3 (A.deeper (envOfC "cell_at" (defScope s_cell_at) s.heap.objs.size f cdv))) : PSs (cxOf CX0 P w K mg base N_cell_at "cell_at" (defScope s_cell_at) f cdv A outer s H E).nox (defBody s_cell_at) (t_cell_at K sp_times sp_less sp_ceiling_of) :=
    (pss_cons (ps_set (i := 2) sc_cell_at.nd rfl (by first | exact Or.inl rfl | exact Or.inr rfl) (pe_lst pa_nil))
      (pss_cons (ps_for PassesOwn.never rfl (RZ.pi_zipA (by rfl) Z.zip_ (pa_cons (pe_ix ix_tup (pv 0) pe_int (fun _ _ => rfl)) (pa_cons (pe_ix ix_tup (pv 0) pe_int (fun _ _ => rfl)) pa_nil))) (pg_tup rfl (pgs_cons (pg_name (i := 3) sc_cell_at.nd rfl (by first | exact Or.inl rfl | exact Or.inr rfl)) (pgs_cons (pg_name (i := 4) sc_cell_at.nd rfl (by first | exact Or.inl rfl | exact Or.inr rfl)) pgs_nil))) (pss_one (ps_expr (pe_bm PySem.F.plainAttrs_list PySem.F.slot_list_append PySem.F.type_list_append mt_append (pv 2) (pa_cons (pe_cal C_ceiling_of (hr.mono (by decide)) (by rfl) (pa_cons (pe_cal C_less (hr.mono (by decide)) (by rfl) (pa_cons (pe_tup (pa_cons (pv 3) (pa_cons pe_int pa_nil))) (pa_cons (pe_cal C_times (hr.mono (by decide)) (by rfl) (pa_cons (pe_tup (pa_cons (pv 1) (pa_cons pe_int pa_nil))) (pa_cons (pv 4) pa_nil))) pa_nil))) pa_nil)) pa_nil)))))
      (pss_one (ps_ret (pe_callTy call_tuple_of (by rfl) Z.tuple_ (by decide +kernel) (pa_cons (pv 2) pa_nil))))))
abbrev s_kept_of : Stmt := topS 25
abbrev N_kept_of : List Str := ["island", "cell"]
theorem sc_kept_of : FnScope N_kept_of ["island"] (defScope s_kept_of) := ⟨rfl, rfl, rfl, by decide +kernel, rfl, by decide +kernel, by decide +kernel⟩
def t_kept_of (K : PySem.W.Frag) : TS :=
    (tRet (tCB rDictT (tCons (tLc (iTup K (tVar 0)) (gName 1) tYes (tTup (tCons (tVar 1) (tCons (tC (.bl true)) tNil))) [1]) tNil)))
set_option maxHeartbeats 4000000 in
theorem d_kept_of (Z : Blt mg) (hr : Room 0 (A.deeper (envOfC "kept_of" (defScope s_kept_of) s.heap.objs.size f cdv))) : PSs (cxOf CX0 P w K mg base N_kept_of "kept_of" (defScope s_kept_of) f cdv A outer s H E).nox (defBody s_kept_of) (t_kept_of K) :=
    (pss_one (ps_ret (pe_callTy (cr_dictT rfl (hu64 hr)) (by rfl) Z.dict_ (by decide +kernel) (pa_cons (pe_lc (own := [("cell", 1)]) (g := (gName 1)) (tt := tYes) rfl sc_kept_of.nd (pi_tup (pv 0)) (blkOk_by (N := N_kept_of) (sc := defScope s_kept_of) (by decide +kernel)) (fun _ _ _ _ _ => (pg_name (i := 1) sc_kept_of.nd rfl (by first | exact Or.inl rfl | exact Or.inr rfl))) (fun _ _ _ _ _ => pts_nil) (fun _ _ _ _ _ => (pe_tup (pa_cons (pv 1) (pa_cons pe_bl pa_nil))))) pa_nil))))
abbrev s_is_broken_by : Stmt := topS 27
abbrev N_is_broken_by : List Str := ["row", "kept", "cell", "one"]
theorem sc_is_broken_by : FnScope N_is_broken_by ["row", "kept", "cell"] (defScope s_is_broken_by) := ⟨rfl, rfl, rfl, by decide +kernel, rfl, by decide +kernel, by decide +kernel⟩
def t_is_broken_by (K : PySem.W.Frag) (sp_carried : Sp) : TS :=
    (tRet (tCB (rAll K) (tCons (tLc (iTup K (tVar 0)) (gName 3) tYes (tDIn (tCall sp_carried [] E0 (tCons (tVar 3) (tCons (tVar 2) tNil))) (tVar 1)) [3]) tNil)))
set_option maxHeartbeats 4000000 in
theorem d_is_broken_by {sp_carried : Sp} (Z : Blt mg) (C_carried : Cal P w K mg base 1 "carried" ["cell", "by"] sp_carried) (hr : Room 1 (A.deeper (envOfC "is_broken_by" (defScope s_is_broken_by) s.heap.objs.size f cdv))) : PSs (cxOf CX0 P w K mg base N_is_broken_by "is_broken_by" (defScope s_is_broken_by) f cdv A outer s H E).nox (defBody s_is_broken_by) (t_is_broken_by K sp_carried) :=
    (pss_one (ps_ret (pe_callB (cr_all rfl) (by rfl) Z.all_ (by decide +kernel) (pa_cons (pe_lc (own := [("one", 3)]) (g := (gName 3)) (tt := tYes) rfl sc_is_broken_by.nd (pi_tup (pv 0)) (blkOk_by (N := N_is_broken_by) (sc := defScope s_is_broken_by) (by decide +kernel)) (fun _ _ _ _ _ => (pg_name (i := 3) sc_is_broken_by.nd rfl (by first | exact Or.inl rfl | exact Or.inr rfl))) (fun _ _ _ _ _ => pts_nil) (fun _ _ _ _ _ => (pe_cmp (pc_din (hu_of hr) (pe_cal C_carried (hr.mono (by decide)) (by rfl) (pa_cons (pv 3) (pa_cons (pv 2) pa_nil))) (pv 1)) (by rfl)))) pa_nil))))
abbrev s_beat : Stmt := topS 28
abbrev N_beat : List Str := ["plain", "island", "kept", "found", "row", "back", "cell", "place"]
theorem sc_beat : FnScope N_beat ["plain", "island"] (defScope s_beat) := ⟨rfl, rfl, rfl, by decide +kernel, rfl, by decide +kernel, by decide +kernel⟩
def t_beat (K : PySem.W.Frag) (sp_kept_of sp_carried sp_is_broken_by : Sp) : TS :=
    (tSeq (tAsg (tCall sp_kept_of [] E0 (tCons (tVar 1) tNil)) (gName 2))
    (tSeq (tAsg tDNewT (gName 3))
    (tSeq (tFor (iTup K (tVar 0)) (gName 4) (tSeq (tAsg (tTup (tCons (tOp rSubI (tC (.int 0)) (tOp (rIxT K) (tOp (rIxT K) (tVar 4) (tC (.int 0))) (tC (.int 0)))) (tCons (tOp rSubI (tC (.int 0)) (tOp (rIxT K) (tOp (rIxT K) (tVar 4) (tC (.int 0))) (tC (.int 1)))) tNil))) (gName 5))
    (tFor (iTup K (tVar 1)) (gName 6) (tSeq (tAsg (tCall sp_carried [] E0 (tCons (tVar 6) (tCons (tVar 5) tNil))) (gName 7))
    (tIfS (tAnd (tB (tDNotIn (tVar 7) (tVar 3))) (tB (tCall sp_is_broken_by [] E0 (tCons (tVar 4) (tCons (tVar 2) (tCons (tVar 7) tNil)))))) (sDPut (tVar 3) (tVar 7) (tC (.bl true))) tNext)))))
    (tRet (tCB (rTupleOf K) (tCons (tCB (rSortedPO K) (tCons (tCB rListDT (tCons (tVar 3) tNil)) tNil)) tNil))))))
set_option maxHeartbeats 4000000 in
theorem d_beat {sp_kept_of sp_carried sp_is_broken_by : Sp} (Z : Blt mg) (C_kept_of : Cal P w K mg base 1 "kept_of" ["island"] sp_kept_of) (C_carried : Cal P w K mg base 1 "carried" ["cell", "by"] sp_carried) (C_is_broken_by : Cal P w K mg base 2 "is_broken_by" ["row", "kept", "cell"] sp_is_broken_by) (hr : Room 2 (A.deeper (envOfC "beat" (defScope s_beat) s.heap.objs.size f cdv))) : PSs (cxOf CX0 P w K mg base N_beat "beat" (defScope s_beat) f cdv A outer s H E).nox (defBody s_beat) (t_beat K sp_kept_of sp_carried sp_is_broken_by) :=
    (pss_cons (ps_set (i := 2) sc_beat.nd rfl (by first | exact Or.inl rfl | exact Or.inr rfl) (pe_cal C_kept_of (hr.mono (by decide)) (by rfl) (pa_cons (pv 1) pa_nil)))
      (pss_cons (ps_set (i := 3) sc_beat.nd rfl (by first | exact Or.inl rfl | exact Or.inr rfl) pe_dnewT)
      (pss_cons (ps_for PassesOwn.never rfl (pi_tup (pv 0)) (pg_name (i := 4) sc_beat.nd rfl (by first | exact Or.inl rfl | exact Or.inr rfl)) (pss_cons (ps_set (i := 5) sc_beat.nd rfl (by first | exact Or.inl rfl | exact Or.inr rfl) (pe_tup (pa_cons (pe_op op_sub pe_int (pe_ix ix_tup (pe_ix ix_tup (pv 4) pe_int (fun _ _ => rfl)) pe_int (fun _ _ => rfl))) (pa_cons (pe_op op_sub pe_int (pe_ix ix_tup (pe_ix ix_tup (pv 4) pe_int (fun _ _ => rfl)) pe_int (fun _ _ => rfl))) pa_nil))))
      (pss_one (ps_for PassesOwn.never rfl (pi_tup (pv 1)) (pg_name (i := 6) sc_beat.nd rfl (by first | exact Or.inl rfl | exact Or.inr rfl)) (pss_cons (ps_set (i := 7) sc_beat.nd rfl (by first | exact Or.inl rfl | exact Or.inr rfl) (pe_cal C_carried (hr.mono (by decide)) (by rfl) (pa_cons (pv 6) (pa_cons (pv 5) pa_nil))))
      (pss_one (ps_if (PW.pt (pw_and (pt_cmp (pc_dnotin (hu_of hr) (pv 7) (pv 3)) (by rfl)) (pw_and1 (pt_val (pe_cal C_is_broken_by (hr.mono (by decide)) (by rfl) (pa_cons (pv 4) (pa_cons (pv 2) (pa_cons (pv 7) pa_nil)))))))) (pss_one (ps_dput (hu_of hr) (pv 3) (pv 7) pe_bl rfl)) pss_nil)))))))
      (pss_one (ps_ret (pe_callTy call_tuple_of (by rfl) Z.tuple_ (by decide +kernel) (pa_cons (pe_callB cr_sortedPO (by rfl) Z.sorted_ (by decide +kernel) (pa_cons (pe_callTy (call_list_dT rfl) (by rfl) Z.list_ (by decide +kernel) (pa_cons (pv 3) pa_nil)) pa_nil)) pa_nil)))))))
abbrev s_beats : Stmt := topS 29
abbrev N_beats : List Str := ["plain", "island", "many", "turn"]
theorem sc_beats : FnScope N_beats ["plain", "island", "many"] (defScope s_beats) := ⟨rfl, rfl, rfl, by decide +kernel, rfl, by decide +kernel, by decide +kernel⟩
def t_beats (K : PySem.W.Frag) (sp_beat : Sp) : TS :=
    (tSeq (tFor (iRng1 (tCons (tVar 2) tNil)) (gName 3) (tAsg (tCall sp_beat [] E0 (tCons (tVar 0) (tCons (tVar 1) tNil))) (gName 1)))
    (tRet (tVar 1)))
set_option maxHeartbeats 4000000 in
theorem d_beats {sp_beat : Sp} (Z : Blt mg) (C_beat : Cal P w K mg base 3 "beat" ["plain", "island"] sp_beat) (hr : Room 3 (A.deeper (envOfC "beats" (defScope s_beats) s.heap.objs.size f cdv))) : PSs (cxOf CX0 P w K mg base N_beats "beats" (defScope s_beats) f cdv A outer s H E).nox (defBody s_beats) (t_beats K sp_beat) :=
    (pss_cons (ps_for PassesOwn.never rfl (pi_range1 (by rfl) Z.range_ (pa_cons (pv 2) pa_nil)) (pg_name (i := 3) sc_beats.nd rfl (by first | exact Or.inl rfl | exact Or.inr rfl)) (pss_one (ps_set (i := 1) sc_beats.nd rfl (by first | exact Or.inl rfl | exact Or.inr rfl) (pe_cal C_beat (hr.mono (by decide)) (by rfl) (pa_cons (pv 0) (pa_cons (pv 1) pa_nil))))))
      (pss_one (ps_ret (pv 1))))
abbrev s__law_deal : Stmt := topS 31
abbrev N__law_deal : List Str := ["_law_script", "_law_one", "_law_some", "_law_number"]
theorem sc__law_deal : FnScope N__law_deal ["_law_script"] (defScope s__law_deal) := ⟨rfl, rfl, rfl, by decide +kernel, rfl, by decide +kernel, by decide +kernel⟩
def t__law_deal (K : PySem.W.Frag) : TS :=
    (tSeq (tAsg (tLc (iList K (tSl (rSlL K) (tVar 0) tNoPart (tPart (tC (.int 63))))) (gName 1) tYes (tCB rMax2I (tCons (tVar 1) (tCons (tOp rSubI (tC (.int 0)) (tVar 1)) tNil))) [1]) (gName 2))
    (tSeq (tAsg (tC (.int 7919)) (gName 3))
    (tSeq (tFor (iList K (tVar 2)) (gName 1) (tAsg (tOp rModI (tOp rAddI (tOp rMulI (tVar 3) (tC (.int 48271))) (tOp rModI (tVar 1) (tC (.int 2147483629)))) (tC (.int 2147483647))) (gName 3)))
    (tRet (tDisp [((tC (.str (PySem.Str.ofString "seed"))), (tVar 3)), ((tC (.str (PySem.Str.ofString "number"))), (tC (.int 0))), ((tC (.str (PySem.Str.ofString "left"))), (tListRev K (tLc (iList K (tVar 2)) (gName 1) (tTest (tOp rGeI (tVar 1) (tOp rPowI (tC (.int 10)) (tC (.int 18))))) (tVar 1) [1])))])))))
set_option maxHeartbeats 4000000 in
theorem d__law_deal (Z : Blt mg) (hr : Room 0 (A.deeper (envOfC "_law_deal" (defScope s__law_deal) s.heap.objs.size f cdv))) : PSs (cxOf CX0 P w K mg base N__law_deal "_law_deal" (defScope s__law_deal) f cdv A outer s H E).nox (defBody s__law_deal) (t__law_deal K) :=
    (pss_cons (by first | exact ps_setLc (i := 2) (own := [("_law_one", 1)]) (g := (gName 1)) (tt := tYes) rfl sc__law_deal.nd rfl rfl (sw_true rfl rfl rfl (by decide +kernel)) (pi_list (pe_slice sl_list (pv 0) po_none (po_some pe_int))) (blkOk_by (N := N__law_deal) (sc := defScope s__law_deal) (by decide +kernel)) (fun _ _ _ _ _ => (pg_name (i := 1) sc__law_deal.nd rfl (by first | exact Or.inl rfl | exact Or.inr rfl))) (fun _ _ _ _ _ => pts_nil) (fun _ _ _ _ _ => (pe_callB (call_max2 rfl) (by rfl) Z.max_ (by decide +kernel) (pa_cons (pv 1) (pa_cons (pe_op op_sub pe_int (pv 1)) pa_nil)))) | exact ps_set (i := 2) sc__law_deal.nd rfl (by first | exact Or.inl rfl | exact Or.inr rfl) (pe_lc (own := [("_law_one", 1)]) (g := (gName 1)) (tt := tYes) rfl sc__law_deal.nd (pi_list (pe_slice sl_list (pv 0) po_none (po_some pe_int))) (blkOk_by (N := N__law_deal) (sc := defScope s__law_deal) (by decide +kernel)) (fun _ _ _ _ _ => (pg_name (i := 1) sc__law_deal.nd rfl (by first | exact Or.inl rfl | exact Or.inr rfl))) (fun _ _ _ _ _ => pts_nil) (fun _ _ _ _ _ => (pe_callB (call_max2 rfl) (by rfl) Z.max_ (by decide +kernel) (pa_cons (pv 1) (pa_cons (pe_op op_sub pe_int (pv 1)) pa_nil))))))
      (pss_cons (ps_set (i := 3) sc__law_deal.nd rfl (by first | exact Or.inl rfl | exact Or.inr rfl) pe_int)
      (pss_cons (ps_for PassesOwn.never rfl (pi_list (pv 2)) (pg_name (i := 1) sc__law_deal.nd rfl (by first | exact Or.inl rfl | exact Or.inr rfl)) (pss_one (ps_set (i := 3) sc__law_deal.nd rfl (by first | exact Or.inl rfl | exact Or.inr rfl) (pe_op op_mod (pe_op op_add (pe_op op_mul (pv 3) pe_int) (pe_op op_mod (pv 1) pe_int)) pe_int))))
      (pss_one (ps_ret (pe_disp (pps_cons pe_str (pv 3) (pps_cons pe_str pe_int (pps_cons pe_str (pe_listRev rfl (by rfl) Z.list_ (by rfl) Z.reversed_ (pe_lc (own := [("_law_one", 1)]) (g := (gName 1)) (tt := (tTest (tOp rGeI (tVar 1) (tOp rPowI (tC (.int 10)) (tC (.int 18)))))) rfl sc__law_deal.nd (pi_list (pv 2)) (blkOk_by (N := N__law_deal) (sc := defScope s__law_deal) (by decide +kernel)) (fun _ _ _ _ _ => (pg_name (i := 1) sc__law_deal.nd rfl (by first | exact Or.inl rfl | exact Or.inr rfl))) (fun _ _ _ _ _ => (pts_one (pt_cmpR op_ge (pv 1) (pe_op op_pow pe_int pe_int) (nomark _)))) (fun _ _ _ _ _ => (pv 1)))) pps_nil))) rfl rfl (fun z => by cases z) (by decide)))))))
end
end K84
namespace K84
open L2 PySem PySem.Spec PyProof.Rows
section
variable {P : Program} {w : World} {K : PySem.W.Frag} {mg : Str → Option Value} {base : Heap} {f : Addr} {cdv : Value} {A : Around} {outer : List Env} {s : Shared} {H : Hp} {E : XK}
abbrev s__law_draw : Stmt := topS 32
abbrev N__law_draw : List Str := ["_law_deal_here", "_law_many", "_law_number", "_law_one", "_law_other"]
theorem sc__law_draw : FnScope N__law_draw ["_law_deal_here", "_law_many"] (defScope s__law_draw) := ⟨rfl, rfl, rfl, by decide +kernel, rfl, by decide +kernel, by decide +kernel⟩
def t__law_draw (K : PySem.W.Frag) : TS :=
    (tSeq (tWhile (tAnd (tTest (tOp rEq (tDGet (tVar 0) (tC (.str (PySem.Str.ofString "number")))) (tC (.int 0)))) (tTest (tOp rGtI (tCB (rLenSeq K) (tCons (tDGet (tVar 0) (tC (.str (PySem.Str.ofString "left")))) tNil)) (tC (.int 0))))) (sDPut (tVar 0) (tC (.str (PySem.Str.ofString "number"))) (tBM0 K "list" rPop (tDGet (tVar 0) (tC (.str (PySem.Str.ofString "left")))))))
    (tSeq (tAsg (tDGet (tVar 0) (tC (.str (PySem.Str.ofString "number")))) (gName 2))
    (tSeq (tIfS (tTest (tOp rGtI (tVar 2) (tC (.int 0)))) (tSeq (sDPut (tVar 0) (tC (.str (PySem.Str.ofString "number"))) (tOp rDivI (tVar 2) (tVar 1)))
    (tRet (tOp rModI (tVar 2) (tVar 1)))) tNext)
    (tSeq (tAsg (tOp rModI (tOp rAddI (tOp rMulI (tDGet (tVar 0) (tC (.str (PySem.Str.ofString "seed")))) (tC (.int 48271))) (tC (.int 7919))) (tC (.int 2147483647))) (gName 3))
    (tSeq (sDPut (tVar 0) (tC (.str (PySem.Str.ofString "seed"))) (tOp rModI (tOp rAddI (tOp rMulI (tVar 3) (tC (.int 40692))) (tC (.int 104729))) (tC (.int 2147483399))))
    (tSeq (tAsg (tOp rModI (tOp rMulI (tDGet (tVar 0) (tC (.str (PySem.Str.ofString "seed")))) (tDGet (tVar 0) (tC (.str (PySem.Str.ofString "seed"))))) (tC (.int 2147483563))) (gName 4))
    (tRet (tOp rModI (tOp rAddI (tOp rMulI (tOp rModI (tOp rMulI (tVar 3) (tVar 3)) (tC (.int 2147483629))) (tC (.int 2147483563))) (tVar 4)) (tVar 1)))))))))
set_option maxHeartbeats 4000000 in
theorem d__law_draw (Z : Blt mg) (hr : Room 0 (A.deeper (envOfC "_law_draw" (defScope s__law_draw) s.heap.objs.size f cdv))) : PSs (cxOf CX0 P w K mg base N__law_draw "_law_draw" (defScope s__law_draw) f cdv A outer s H E).nox (defBody s__law_draw) (t__law_draw K) :=
    (pss_cons (ps_while PassesOwn.never (PW.pt (pw_and (pt_cmpR op_eq (pe_dget (hu_of hr) (pv 0) pe_str (fun _ _ => rfl)) pe_int (nomark _)) (pw_and1 (pt_cmpR op_gt (pe_callB call_len_seq (by rfl) Z.len_ (by decide +kernel) (pa_cons (pe_dget (hu_of hr) (pv 0) pe_str (fun _ _ => rfl)) pa_nil)) pe_int (nomark _))))) (pss_one (ps_dput (hu_of hr) (pv 0) pe_str (pe_bm0 PySem.F.plainAttrs_list PySem.F.slot_list_pop PySem.F.type_list_pop mt_pop (pe_dget (hu_of hr) (pv 0) pe_str (fun _ _ => rfl))) rfl)))
      (pss_cons (ps_set (i := 2) sc__law_draw.nd rfl (by first | exact Or.inl rfl | exact Or.inr rfl) (pe_dget (hu_of hr) (pv 0) pe_str (fun _ _ => rfl)))
      (pss_cons (ps_if (pt_cmpR op_gt (pv 2) pe_int (nomark _)) (pss_cons (ps_dput (hu_of hr) (pv 0) pe_str (pe_op op_fdivN (pv 2) (pv 1)) rfl)
      (pss_one (ps_ret (pe_op op_mod (pv 2) (pv 1))))) pss_nil)
      (pss_cons (ps_set (i := 3) sc__law_draw.nd rfl (by first | exact Or.inl rfl | exact Or.inr rfl) (pe_op op_mod (pe_op op_add (pe_op op_mul (pe_dget (hu_of hr) (pv 0) pe_str (fun _ _ => rfl)) pe_int) pe_int) pe_int))
      (pss_cons (ps_dput (hu_of hr) (pv 0) pe_str (pe_op op_mod (pe_op op_add (pe_op op_mul (pv 3) pe_int) pe_int) pe_int) rfl)
      (pss_cons (ps_set (i := 4) sc__law_draw.nd rfl (by first | exact Or.inl rfl | exact Or.inr rfl) (pe_op op_mod (pe_op op_mul (pe_dget (hu_of hr) (pv 0) pe_str (fun _ _ => rfl)) (pe_dget (hu_of hr) (pv 0) pe_str (fun _ _ => rfl))) pe_int))
      (pss_one (ps_ret (pe_op op_mod (pe_op op_add (pe_op op_mul (pe_op op_mod (pe_op op_mul (pv 3) (pv 3)) pe_int) pe_int) (pv 4)) (pv 1))))))))))
abbrev s__law_cells : Stmt := topS 33
abbrev N__law_cells : List Str := ["_law_deal_here", "_law_many", "_law_wide", "_law_side", "_law_taken", "_law_turn", "_law_number"]
theorem sc__law_cells : FnScope N__law_cells ["_law_deal_here", "_law_many"] (defScope s__law_cells) := ⟨rfl, rfl, rfl, by decide +kernel, rfl, by decide +kernel, by decide +kernel⟩
def t__law_cells (K : PySem.W.Frag) (sp__law_draw : Sp) : TS :=
    (tSeq (tAsg (tOp (rIxL K) (tLst (tCons (tC (.int 1)) (tCons (tC (.int 2)) (tCons (tC (.int 2)) (tCons (tC (.int 3)) (tCons (tC (.int 5)) (tCons (tC (.int 900)) tNil))))))) (tCall sp__law_draw [] E0 (tCons (tVar 0) (tCons (tC (.int 6)) tNil)))) (gName 2))
    (tSeq (tAsg (tTup (tCons (tOp rAddI (tOp rMulI (tC (.int 2)) (tVar 2)) (tC (.int 1))) (tCons (tLst tNil) tNil))) (gTup K 2 (gCons (gName 3) (gCons (gName 4) gNil))))
    (tSeq (tFor (iRng1 (tCons (tVar 1) tNil)) (gName 5) (tSeq (tAsg (tCall sp__law_draw [] E0 (tCons (tVar 0) (tCons (tOp rMulI (tVar 3) (tVar 3)) tNil))) (gName 6))
    (tSeq (tWhile (tTest (tOp (rIn K false) (tVar 6) (tVar 4))) (tAsg (tOp rModI (tOp rAddI (tVar 6) (tC (.int 1))) (tOp rMulI (tVar 3) (tVar 3))) (gName 6)))
    (tDrop (tBM K "list" rAppend (tVar 4) (tCons (tVar 6) tNil))))))
    (tRet (tLc (iList K (tVar 4)) (gName 6) tYes (tTup (tCons (tOp rSubI (tOp rModI (tVar 6) (tVar 3)) (tVar 2)) (tCons (tOp rSubI (tOp rDivI (tVar 6) (tVar 3)) (tVar 2)) tNil))) [6])))))
set_option maxHeartbeats 4000000 in
theorem d__law_cells {sp__law_draw : Sp} (Z : Blt mg) (C__law_draw : Cal P w K mg base 1 "_law_draw" ["_law_deal_here", "_law_many"] sp__law_draw) (hr : Room 1 (A.deeper (envOfC "_law_cells" (defScope s__law_cells) s.heap.objs.size f cdv))) : PSs (cxOf CX0 P w K mg base N__law_cells "_law_cells" (defScope s__law_cells) f cdv A outer s H E).nox (defBody s__law_cells) (t__law_cells K sp__law_draw) :=
    (pss_cons (ps_set (i := 2) sc__law_cells.nd rfl (by first | exact Or.inl rfl | exact Or.inr rfl) (pe_ix ix_list (pe_lst (pa_cons pe_int (pa_cons pe_int (pa_cons pe_int (pa_cons pe_int (pa_cons pe_int (pa_cons pe_int pa_nil))))))) (pe_cal C__law_draw (hr.mono (by decide)) (by rfl) (pa_cons (pv 0) (pa_cons pe_int pa_nil))) (fun _ _ => rfl)))
      (pss_cons (ps_asg (pe_tup (pa_cons (pe_op op_add (pe_op op_mul pe_int (pv 2)) pe_int) (pa_cons (pe_lst pa_nil) pa_nil))) (pg_tup rfl (pgs_cons (pg_name (i := 3) sc__law_cells.nd rfl (by first | exact Or.inl rfl | exact Or.inr rfl)) (pgs_cons (pg_name (i := 4) sc__law_cells.nd rfl (by first | exact Or.inl rfl | exact Or.inr rfl)) pgs_nil))))
      (pss_cons (ps_for PassesOwn.never rfl (pi_range1 (by rfl) Z.range_ (pa_cons (pv 1) pa_nil)) (pg_name (i := 5) sc__law_cells.nd rfl (by first | exact Or.inl rfl | exact Or.inr rfl)) (pss_cons (ps_set (i := 6) sc__law_cells.nd rfl (by first | exact Or.inl rfl | exact Or.inr rfl) (pe_cal C__law_draw (hr.mono (by decide)) (by rfl) (pa_cons (pv 0) (pa_cons (pe_op op_mul (pv 3) (pv 3)) pa_nil))))
      (pss_cons (ps_while PassesOwn.never (pt_cmpR op_in_seq (pv 6) (pv 4) rfl) (pss_one (ps_set (i := 6) sc__law_cells.nd rfl (by first | exact Or.inl rfl | exact Or.inr rfl) (pe_op op_mod (pe_op op_add (pv 6) pe_int) (pe_op op_mul (pv 3) (pv 3))))))
      (pss_one (ps_expr (pe_bm PySem.F.plainAttrs_list PySem.F.slot_list_append PySem.F.type_list_append mt_append (pv 4) (pa_cons (pv 6) pa_nil)))))))
      (pss_one (ps_ret (pe_lc (own := [("_law_number", 6)]) (g := (gName 6)) (tt := tYes) rfl sc__law_cells.nd (pi_list (pv 4)) (blkOk_by (N := N__law_cells) (sc := defScope s__law_cells) (by decide +kernel)) (fun _ _ _ _ _ => (pg_name (i := 6) sc__law_cells.nd rfl (by first | exact Or.inl rfl | exact Or.inr rfl))) (fun _ _ _ _ _ => pts_nil) (fun _ _ _ _ _ => (pe_tup (pa_cons (pe_op op_sub (pe_op op_mod (pv 6) (pv 3)) (pv 2)) (pa_cons (pe_op op_sub (pe_op op_fdivN (pv 6) (pv 3)) (pv 2)) pa_nil))))))))))
abbrev s__law_least : Stmt := topS 34
abbrev N__law_least : List Str := ["_law_rows", "_law_row", "_law_unlike", "_law_found", "_law_other", "_law_cell"]
theorem sc__law_least : FnScope N__law_least ["_law_rows"] (defScope s__law_least) := ⟨rfl, rfl, rfl, by decide +kernel, rfl, by decide +kernel, by decide +kernel⟩
def t__law_least (K : PySem.W.Frag) (w : World) : TS :=
    (tSeq (tAsg (tCB (rSortedN w) (tCons (tCB (rSetOfN w) (tCons (tLc (iList K (tVar 0)) (gName 1) tYes (tCB (rTupleOf K) (tCons (tCB rSortedR (tCons (tVar 1) tNil)) tNil)) [1]) tNil)) tNil)) (gName 2))
    (tSeq (tAsg (tLst tNil) (gName 3))
    (tSeq (tFor (iList K (tVar 2)) (gName 1) (tIfS (tNot (tB (tCB (rAny K) (tCons (tLc (iList K (tVar 2)) (gName 4) tYes (tAndV (tOp (rNeD K) (tVar 4) (tVar 1)) (tCB (rAll K) (tCons (tLc (iTup K (tVar 4)) (gName 5) tYes (tOp (rInT K) (tVar 5) (tVar 1)) [5]) tNil))) [4]) tNil)))) (tDrop (tBM K "list" rAppend (tVar 3) (tCons (tVar 1) tNil))) tNext))
    (tRet (tCB (rTupleOf K) (tCons (tVar 3) tNil))))))
set_option maxHeartbeats 4000000 in
theorem d__law_least (Z : Blt mg) (hr : Room 0 (A.deeper (envOfC "_law_least" (defScope s__law_least) s.heap.objs.size f cdv))) : PSs (cxOf CX0 P w K mg base N__law_least "_law_least" (defScope s__law_least) f cdv A outer s H E).nox (defBody s__law_least) (t__law_least K w) :=
    (pss_cons (ps_set (i := 2) sc__law_least.nd rfl (by first | exact Or.inl rfl | exact Or.inr rfl) (pe_callB (cr_sortedN rfl (hu64 hr)) (by rfl) Z.sorted_ (by decide +kernel) (pa_cons (pe_callTy (cr_setOfN rfl (hu64 hr)) (by rfl) Z.set_ (by decide +kernel) (pa_cons (pe_lc (own := [("_law_row", 1)]) (g := (gName 1)) (tt := tYes) rfl sc__law_least.nd (pi_list (pv 0)) (blkOk_by (N := N__law_least) (sc := defScope s__law_least) (by decide +kernel)) (fun _ _ _ _ _ => (pg_name (i := 1) sc__law_least.nd rfl (by first | exact Or.inl rfl | exact Or.inr rfl))) (fun _ _ _ _ _ => pts_nil) (fun _ _ _ _ _ => (pe_callTy call_tuple_of (by rfl) Z.tuple_ (by decide +kernel) (pa_cons (pe_callB (cr_sortedR (hu65 hr)) (by rfl) Z.sorted_ (by decide +kernel) (pa_cons (pv 1) pa_nil)) pa_nil)))) pa_nil)) pa_nil)))
      (pss_cons (ps_set (i := 3) sc__law_least.nd rfl (by first | exact Or.inl rfl | exact Or.inr rfl) (pe_lst pa_nil))
      (pss_cons (ps_for PassesOwn.never rfl (pi_list (pv 2)) (pg_name (i := 1) sc__law_least.nd rfl (by first | exact Or.inl rfl | exact Or.inr rfl)) (pss_one (ps_if (pt_not (pt_val (pe_callB (cr_any rfl) (by rfl) Z.any_ (by decide +kernel) (pa_cons (pe_lc (own := [("_law_other", 4)]) (g := (gName 4)) (tt := tYes) rfl sc__law_least.nd (pi_list (pv 2)) (blkOk_by (N := N__law_least) (sc := defScope s__law_least) (by decide +kernel)) (fun _ _ _ _ _ => (pg_name (i := 4) sc__law_least.nd rfl (by first | exact Or.inl rfl | exact Or.inr rfl))) (fun _ _ _ _ _ => pts_nil) (fun _ _ _ _ _ => (pe_and (pe_cmpR (op_neD (hu64 hr)) (pv 4) (pv 1) (nomark _)) (pe_one (pe_callB (cr_all rfl) (by rfl) Z.all_ (by decide +kernel) (pa_cons (pe_lc (own := [("_law_cell", 5)]) (g := (gName 5)) (tt := tYes) rfl sc__law_least.nd (pi_tup (pv 4)) (blkOk_by (by show blkC N__law_least (relS _ (defScope s__law_least)) _ _ = true; decide +kernel)) (fun _ _ _ _ _ => (pg_name (i := 5) sc__law_least.nd rfl (by first | exact Or.inl rfl | exact Or.inr rfl))) (fun _ _ _ _ _ => pts_nil) (fun _ _ _ _ _ => (pe_cmpR (op_inT (hu65 hr)) (pv 5) (pv 1) rfl))) pa_nil)))))) pa_nil)))) (pss_one (ps_expr (pe_bm PySem.F.plainAttrs_list PySem.F.slot_list_append PySem.F.type_list_append mt_append (pv 3) (pa_cons (pv 1) pa_nil)))) pss_nil)))
      (pss_one (ps_ret (pe_callTy call_tuple_of (by rfl) Z.tuple_ (by decide +kernel) (pa_cons (pv 3) pa_nil)))))))
abbrev s__law_healing : Stmt := topS 37
abbrev N__law_healing : List Str := ["_law_plain_here", "_law_cells_here", "_law_row", "_law_cell", "_law_found", "_law_one", "_law_met"]
theorem sc__law_healing : FnScope N__law_healing ["_law_plain_here"] (defScope s__law_healing) := ⟨rfl, rfl, rfl, by decide +kernel, rfl, by decide +kernel, by decide +kernel⟩
def t__law_healing (K : PySem.W.Frag) (sp__law_least : Sp) : TS :=
    (tSeq (tAsg (tLst tNil) (gName 1))
    (tSeq (tFor (iTup K (tVar 0)) (gName 2) (tDrop (tBM K "list" rExtend (tVar 1) (tCons (tLc (iTup K (tVar 2)) (gName 3) (tTest (tOp (rNotInD K) (tVar 3) (tVar 1))) (tVar 3) [3]) tNil))))
    (tSeq (tAsg (tLst (tCons (tTup tNil) tNil)) (gName 4))
    (tSeq (tFor (iList K (tVar 1)) (gName 3) (tAsg (tOp rCat (tVar 4) (tLc (iList K (tVar 4)) (gName 2) tYes (tOp (rCatA K) (tVar 2) (tTup (tCons (tVar 3) tNil))) [2])) (gName 4)))
    (tSeq (tAsg (tLc (iList K (tVar 4)) (gName 5) (tB (tCB (rAll K) (tCons (tLc (iTup K (tVar 0)) (gName 2) tYes (tCB (rAny K) (tCons (tLc (iTup K (tVar 5)) (gName 3) tYes (tOp (rInT K) (tVar 3) (tVar 2)) [3]) tNil)) [2]) tNil))) (tVar 5) [5]) (gName 6))
    (tRet (tCall sp__law_least [] E0 (tCons (tVar 6) tNil))))))))
set_option maxHeartbeats 4000000 in
theorem d__law_healing {sp__law_least : Sp} (Z : Blt mg) (C__law_least : Cal P w K mg base 1 "_law_least" ["_law_rows"] sp__law_least) (hr : Room 1 (A.deeper (envOfC "_law_healing" (defScope s__law_healing) s.heap.objs.size f cdv))) : PSs (cxOf CX0 P w K mg base N__law_healing "_law_healing" (defScope s__law_healing) f cdv A outer s H E).nox (defBody s__law_healing) (t__law_healing K sp__law_least) :=
    (pss_cons (ps_set (i := 1) sc__law_healing.nd rfl (by first | exact Or.inl rfl | exact Or.inr rfl) (pe_lst pa_nil))
      (pss_cons (ps_for PassesOwn.never rfl (pi_tup (pv 0)) (pg_name (i := 2) sc__law_healing.nd rfl (by first | exact Or.inl rfl | exact Or.inr rfl)) (pss_one (ps_expr (pe_bm PySem.F.plainAttrs_list PySem.F.slot_list_extend PySem.F.type_list_extend mt_extend (pv 1) (pa_cons (pe_lc (own := [("_law_cell", 3)]) (g := (gName 3)) (tt := (tTest (tOp (rNotInD K) (tVar 3) (tVar 1)))) rfl sc__law_healing.nd (pi_tup (pv 2)) (blkOk_by (N := N__law_healing) (sc := defScope s__law_healing) (by decide +kernel)) (fun _ _ _ _ _ => (pg_name (i := 3) sc__law_healing.nd rfl (by first | exact Or.inl rfl | exact Or.inr rfl))) (fun _ _ _ _ _ => (pts_one (pt_cmpR (op_notInD (hu65 hr)) (pv 3) (pv 1) rfl))) (fun _ _ _ _ _ => (pv 3))) pa_nil)))))
      (pss_cons (ps_set (i := 4) sc__law_healing.nd rfl (by first | exact Or.inl rfl | exact Or.inr rfl) (pe_lst (pa_cons (pe_tup pa_nil) pa_nil)))
      (pss_cons (ps_for PassesOwn.never rfl (pi_list (pv 1)) (pg_name (i := 3) sc__law_healing.nd rfl (by first | exact Or.inl rfl | exact Or.inr rfl)) (pss_one (ps_set (i := 4) sc__law_healing.nd rfl (by first | exact Or.inl rfl | exact Or.inr rfl) (pe_op op_cat (pv 4) (pe_lc (own := [("_law_row", 2)]) (g := (gName 2)) (tt := tYes) rfl sc__law_healing.nd (pi_list (pv 4)) (blkOk_by (N := N__law_healing) (sc := defScope s__law_healing) (by decide +kernel)) (fun _ _ _ _ _ => (pg_name (i := 2) sc__law_healing.nd rfl (by first | exact Or.inl rfl | exact Or.inr rfl))) (fun _ _ _ _ _ => pts_nil) (fun _ _ _ _ _ => (pe_op op_catA (pv 2) (pe_tup (pa_cons (pv 3) pa_nil)))))))))
      (pss_cons (by first | exact ps_setLc (i := 6) (own := [("_law_one", 5)]) (g := (gName 5)) (tt := (tB (tCB (rAll K) (tCons (tLc (iTup K (tVar 0)) (gName 2) tYes (tCB (rAny K) (tCons (tLc (iTup K (tVar 5)) (gName 3) tYes (tOp (rInT K) (tVar 3) (tVar 2)) [3]) tNil)) [2]) tNil)))) rfl sc__law_healing.nd rfl rfl (sw_true rfl rfl rfl (by decide +kernel)) (pi_list (pv 4)) (blkOk_by (N := N__law_healing) (sc := defScope s__law_healing) (by decide +kernel)) (fun _ _ _ _ _ => (pg_name (i := 5) sc__law_healing.nd rfl (by first | exact Or.inl rfl | exact Or.inr rfl))) (fun _ _ _ _ _ => (pts_one (pt_val (pe_callB (cr_all rfl) (by rfl) Z.all_ (by decide +kernel) (pa_cons (pe_lc (own := [("_law_row", 2)]) (g := (gName 2)) (tt := tYes) rfl sc__law_healing.nd (pi_tup (pv 0)) (blkOk_by (by show blkC N__law_healing (relS _ (defScope s__law_healing)) _ _ = true; decide +kernel)) (fun _ _ _ _ _ => (pg_name (i := 2) sc__law_healing.nd rfl (by first | exact Or.inl rfl | exact Or.inr rfl))) (fun _ _ _ _ _ => pts_nil) (fun _ _ _ _ _ => (pe_callB (cr_any rfl) (by rfl) Z.any_ (by decide +kernel) (pa_cons (pe_lc (own := [("_law_cell", 3)]) (g := (gName 3)) (tt := tYes) rfl sc__law_healing.nd (pi_tup (pv 5)) (blkOk_by (by show blkC N__law_healing (relS _ (relS _ (defScope s__law_healing))) _ _ = true; decide +kernel)) (fun _ _ _ _ _ => (pg_name (i := 3) sc__law_healing.nd rfl (by first | exact Or.inl rfl | exact Or.inr rfl))) (fun _ _ _ _ _ => pts_nil) (fun _ _ _ _ _ => (pe_cmpR (op_inT (hu65 hr)) (pv 3) (pv 2) rfl))) pa_nil)))) pa_nil))))) (fun _ _ _ _ _ => (pv 5)) | exact ps_set (i := 6) sc__law_healing.nd rfl (by first | exact Or.inl rfl | exact Or.inr rfl) (pe_lc (own := [("_law_one", 5)]) (g := (gName 5)) (tt := (tB (tCB (rAll K) (tCons (tLc (iTup K (tVar 0)) (gName 2) tYes (tCB (rAny K) (tCons (tLc (iTup K (tVar 5)) (gName 3) tYes (tOp (rInT K) (tVar 3) (tVar 2)) [3]) tNil)) [2]) tNil)))) rfl sc__law_healing.nd (pi_list (pv 4)) (blkOk_by (N := N__law_healing) (sc := defScope s__law_healing) (by decide +kernel)) (fun _ _ _ _ _ => (pg_name (i := 5) sc__law_healing.nd rfl (by first | exact Or.inl rfl | exact Or.inr rfl))) (fun _ _ _ _ _ => (pts_one (pt_val (pe_callB (cr_all rfl) (by rfl) Z.all_ (by decide +kernel) (pa_cons (pe_lc (own := [("_law_row", 2)]) (g := (gName 2)) (tt := tYes) rfl sc__law_healing.nd (pi_tup (pv 0)) (blkOk_by (by show blkC N__law_healing (relS _ (defScope s__law_healing)) _ _ = true; decide +kernel)) (fun _ _ _ _ _ => (pg_name (i := 2) sc__law_healing.nd rfl (by first | exact Or.inl rfl | exact Or.inr rfl))) (fun _ _ _ _ _ => pts_nil) (fun _ _ _ _ _ => (pe_callB (cr_any rfl) (by rfl) Z.any_ (by decide +kernel) (pa_cons (pe_lc (own := [("_law_cell", 3)]) (g := (gName 3)) (tt := tYes) rfl sc__law_healing.nd (pi_tup (pv 5)) (blkOk_by (by show blkC N__law_healing (relS _ (relS _ (defScope s__law_healing))) _ _ = true; decide +kernel)) (fun _ _ _ _ _ => (pg_name (i := 3) sc__law_healing.nd rfl (by first | exact Or.inl rfl | exact Or.inr rfl))) (fun _ _ _ _ _ => pts_nil) (fun _ _ _ _ _ => (pe_cmpR (op_inT (hu65 hr)) (pv 3) (pv 2) rfl))) pa_nil)))) pa_nil))))) (fun _ _ _ _ _ => (pv 5))))
      (pss_one (ps_ret (pe_cal C__law_least (hr.mono (by decide)) (by rfl) (pa_cons (pv 6) pa_nil)))))))))
abbrev s__law_fraction : Stmt := topS 38
abbrev N__law_fraction : List Str := ["_law_upper", "_law_lower", "_law_one", "_law_other"]
theorem sc__law_fraction : FnScope N__law_fraction ["_law_upper", "_law_lower"] (defScope s__law_fraction) := ⟨rfl, rfl, rfl, by decide +kernel, rfl, by decide +kernel, by decide +kernel⟩
def t__law_fraction (K : PySem.W.Frag) : TS :=
    (tSeq (tPar 2 3 (tCons (tCB rAbsI (tCons (tVar 0) tNil)) (tCons (tVar 1) tNil)))
    (tSeq (tWhile (tTest (tOp rGtI (tVar 3) (tC (.int 0)))) (tPar 2 3 (tCons (tVar 3) (tCons (tOp rModI (tVar 2) (tVar 3)) tNil))))
    (tRet (tTup (tCons (tOp rDivI (tVar 0) (tVar 2)) (tCons (tOp rDivI (tVar 1) (tVar 2)) tNil))))))
set_option maxHeartbeats 4000000 in
theorem d__law_fraction (Z : Blt mg) (hr : Room 0 (A.deeper (envOfC "_law_fraction" (defScope s__law_fraction) s.heap.objs.size f cdv))) : PSs (cxOf CX0 P w K mg base N__law_fraction "_law_fraction" (defScope s__law_fraction) f cdv A outer s H E).nox (defBody s__law_fraction) (t__law_fraction K) :=
    (pss_cons (ps_par (i := 2) (j := 3) rfl sc__law_fraction.nd rfl rfl (by decide) rfl rfl (pa_cons (pe_callB call_abs (by rfl) Z.abs_ (by decide +kernel) (pa_cons (pv 0) pa_nil)) (pa_cons (pv 1) pa_nil)) (by rfl))
      (pss_cons (ps_while PassesOwn.never (pt_cmpR op_gt (pv 3) pe_int (nomark _)) (pss_one (ps_par (i := 2) (j := 3) rfl sc__law_fraction.nd rfl rfl (by decide) rfl rfl (pa_cons (pv 3) (pa_cons (pe_op op_mod (pv 2) (pv 3)) pa_nil)) (by rfl))))
      (pss_one (ps_ret (pe_tup (pa_cons (pe_op op_fdivN (pv 0) (pv 2)) (pa_cons (pe_op op_fdivN (pv 1) (pv 2)) pa_nil)))))))
abbrev s__law_lowest : Stmt := topS 39
abbrev N__law_lowest : List Str := ["_law_x", "_law_y", "_law_lower", "_law_one", "_law_other"]
theorem sc__law_lowest : FnScope N__law_lowest ["_law_x", "_law_y", "_law_lower"] (defScope s__law_lowest) := ⟨rfl, rfl, rfl, by decide +kernel, rfl, by decide +kernel, by decide +kernel⟩
def t__law_lowest (K : PySem.W.Frag) : TS :=
    (tSeq (tAsg (tVar 2) (gName 3))
    (tSeq (tFor (iTup K (tTup (tCons (tVar 0) (tCons (tVar 1) tNil)))) (gName 4) (tWhile (tTest (tOp rNe (tVar 4) (tC (.int 0)))) (tPar 3 4 (tCons (tVar 4) (tCons (tOp rModN (tVar 3) (tVar 4)) tNil)))))
    (tSeq (tIfS (tTest (tOp rLtI (tOp rMulI (tVar 3) (tVar 2)) (tC (.int 0)))) (tAsg (tOp rSubI (tC (.int 0)) (tVar 3)) (gName 3)) tNext)
    (tRet (tTup (tCons (tOp rDivI (tVar 0) (tVar 3)) (tCons (tOp rDivI (tVar 1) (tVar 3)) (tCons (tOp rDivI (tVar 2) (tVar 3)) tNil))))))))
set_option maxHeartbeats 4000000 in
theorem d__law_lowest (Z : Blt mg) (hr : Room 0 (A.deeper (envOfC "_law_lowest" (defScope s__law_lowest) s.heap.objs.size f cdv))) : PSs (cxOf CX0 P w K mg base N__law_lowest "_law_lowest" (defScope s__law_lowest) f cdv A outer s H E).nox (defBody s__law_lowest) (t__law_lowest K) :=
    (pss_cons (ps_set (i := 3) sc__law_lowest.nd rfl (by first | exact Or.inl rfl | exact Or.inr rfl) (pv 2))
      (pss_cons (ps_for PassesOwn.never rfl (pi_tup (pe_tup (pa_cons (pv 0) (pa_cons (pv 1) pa_nil)))) (pg_name (i := 4) sc__law_lowest.nd rfl (by first | exact Or.inl rfl | exact Or.inr rfl)) (pss_one (ps_while PassesOwn.never (pt_cmpR op_ne (pv 4) pe_int (nomark _)) (pss_one (ps_par (i := 3) (j := 4) rfl sc__law_lowest.nd rfl rfl (by decide) rfl rfl (pa_cons (pv 4) (pa_cons (pe_op op_modN (pv 3) (pv 4)) pa_nil)) (by rfl))))))
      (pss_cons (ps_if (pt_cmpR op_lt (pe_op op_mul (pv 3) (pv 2)) pe_int (nomark _)) (pss_one (ps_set (i := 3) sc__law_lowest.nd rfl (by first | exact Or.inl rfl | exact Or.inr rfl) (pe_op op_sub pe_int (pv 3)))) pss_nil)
      (pss_one (ps_ret (pe_tup (pa_cons (pe_op op_fdivN (pv 0) (pv 3)) (pa_cons (pe_op op_fdivN (pv 1) (pv 3)) (pa_cons (pe_op op_fdivN (pv 2) (pv 3)) pa_nil)))))))))
abbrev s__law_about : Stmt := topS 40
abbrev N__law_about : List Str := ["_law_deal_here", "_law_cells_here", "_law_cell", "_law_often", "_law_lower", "_law_many", "_law_x", "_law_y", "_law_rows", "_law_left", "_law_low", "_law_one", "_law_other"]
theorem sc__law_about : FnScope N__law_about ["_law_deal_here"] (defScope s__law_about) := ⟨rfl, rfl, rfl, by decide +kernel, rfl, by decide +kernel, by decide +kernel⟩
def t__law_about (K : PySem.W.Frag) (sp__law_draw sp__law_cells sp__law_least sp__law_healing sp__law_lowest : Sp) : TS :=
    (tSeq (tAsg (tCall sp__law_cells [] E0 (tCons (tVar 0) (tCons (tOp rAddI (tC (.int 1)) (tCall sp__law_draw [] E0 (tCons (tVar 0) (tCons (tC (.int 3)) tNil)))) tNil))) (gName 1))
    (tSeq (tAsg (tLc (iList K (tVar 1)) (gName 2) tYes (tCall sp__law_draw [] E0 (tCons (tVar 0) (tCons (tC (.int 4)) tNil))) [2]) (gName 3))
    (tSeq (tAsg (tOp rAddI (tOp (rIxL K) (tVar 3) (tC (.int 0))) (tCB rInt1 (tCons (tOp rEq (tCB (rSum K) (tCons (tVar 3) tNil)) (tC (.int 0))) tNil))) (gSub (tVar 3) (tC (.int 0)) rSetL))
    (tSeq (tAsg (tCB (rSum K) (tCons (tVar 3) tNil)) (gName 4))
    (tSeq (tAsg (tCB (rSum K) (tCons (tLc (RZ.iZipA K (tCons (tVar 3) (tCons (tVar 1) tNil))) (gTup K 2 (gCons (gName 5) (gCons (gName 2) gNil))) tYes (tOp rMulI (tVar 5) (tOp (rIxT K) (tVar 2) (tC (.int 0)))) [5, 2]) tNil)) (gName 6))
    (tSeq (tAsg (tCB (rSum K) (tCons (tLc (RZ.iZipA K (tCons (tVar 3) (tCons (tVar 1) tNil))) (gTup K 2 (gCons (gName 5) (gCons (gName 2) gNil))) tYes (tOp rMulI (tVar 5) (tOp (rIxT K) (tVar 2) (tC (.int 1)))) [5, 2]) tNil)) (gName 7))
    (tSeq (tAsg (tLst (tCons (tCB (rTupleOf K) (tCons (tCB (rSortedPO K) (tCons (tVar 1) tNil)) tNil)) tNil)) (gName 8))
    (tSeq (tIfS (tTest (tOp rEq (tCall sp__law_draw [] E0 (tCons (tVar 0) (tCons (tC (.int 4)) tNil))) (tC (.int 0)))) (tSeq (tPar 9 10 (tCons (tOp rDivI (tVar 6) (tVar 4)) (tCons (tOp rDivI (tVar 7) (tVar 4)) tNil)))
    (tSeq (tAsg (tTup (tCons (tOp rSubI (tOp rSubI (tVar 9) (tC (.int 2))) (tCall sp__law_draw [] E0 (tCons (tVar 0) (tCons (tC (.int 3)) tNil)))) (tCons (tOp rSubI (tVar 10) (tC (.int 1))) tNil))) (gName 11))
    (tSeq (tAsg (tTup (tCons (tOp rAddI (tOp rAddI (tVar 9) (tC (.int 3))) (tCall sp__law_draw [] E0 (tCons (tVar 0) (tCons (tC (.int 3)) tNil)))) (tCons (tOp rSubI (tOp rSubI (tVar 10) (tC (.int 1))) (tCall sp__law_draw [] E0 (tCons (tVar 0) (tCons (tC (.int 2)) tNil)))) tNil))) (gName 12))
    (tDrop (tBM K "list" rAppend (tVar 8) (tCons (tCB (rTupleOf K) (tCons (tCB (rSortedPO K) (tCons (tLst (tCons (tVar 11) (tCons (tVar 12) (tCons (tTup (tCons (tOp rAddI (tVar 9) (tCall sp__law_draw [] E0 (tCons (tVar 0) (tCons (tC (.int 2)) tNil)))) (tCons (tOp rAddI (tOp rAddI (tVar 10) (tC (.int 4))) (tCall sp__law_draw [] E0 (tCons (tVar 0) (tCons (tC (.int 3)) tNil)))) tNil))) tNil)))) tNil)) tNil)) tNil)))))) tNext)
    (tRet (tTup (tCons (tCall sp__law_lowest [] E0 (tCons (tVar 6) (tCons (tVar 7) (tCons (tVar 4) tNil)))) (tCons (tCall sp__law_healing [] E0 (tCons (tCall sp__law_least [] E0 (tCons (tVar 8) tNil)) tNil)) tNil))))))))))))
set_option maxHeartbeats 4000000 in
theorem d__law_about {sp__law_draw sp__law_cells sp__law_least sp__law_healing sp__law_lowest : Sp} (Z : Blt mg) (C__law_draw : Cal P w K mg base 1 "_law_draw" ["_law_deal_here", "_law_many"] sp__law_draw) (C__law_cells : Cal P w K mg base 2 "_law_cells" ["_law_deal_here", "_law_many"] sp__law_cells) (C__law_least : Cal P w K mg base 1 "_law_least" ["_law_rows"] sp__law_least) (C__law_healing : Cal P w K mg base 2 "_law_healing" ["_law_plain_here"] sp__law_healing) (C__law_lowest : Cal P w K mg base 1 "_law_lowest" ["_law_x", "_law_y", "_law_lower"] sp__law_lowest) (hr : Room 2 (A.deeper (envOfC "_law_about" (defScope s__law_about) s.heap.objs.size f cdv))) : PSs (cxOf CX0 P w K mg base N__law_about "_law_about" (defScope s__law_about) f cdv A outer s H E).nox (defBody s__law_about) (t__law_about K sp__law_draw sp__law_cells sp__law_least sp__law_healing sp__law_lowest) :=
    (pss_cons (ps_set (i := 1) sc__law_about.nd rfl (by first | exact Or.inl rfl | exact Or.inr rfl) (pe_cal C__law_cells (hr.mono (by decide)) (by rfl) (pa_cons (pv 0) (pa_cons (pe_op op_add pe_int (pe_cal C__law_draw (hr.mono (by decide)) (by rfl) (pa_cons (pv 0) (pa_cons pe_int pa_nil)))) pa_nil))))
      (pss_cons (by first | exact ps_setLc (i := 3) (own := [("_law_cell", 2)]) (g := (gName 2)) (tt := tYes) rfl sc__law_about.nd rfl rfl (sw_true rfl rfl rfl (by decide +kernel)) (pi_list (pv 1)) (blkOk_by (N := N__law_about) (sc := defScope s__law_about) (by decide +kernel)) (fun _ _ _ _ _ => (pg_name (i := 2) sc__law_about.nd rfl (by first | exact Or.inl rfl | exact Or.inr rfl))) (fun _ _ _ _ _ => pts_nil) (fun _ _ _ _ _ => (pe_cal C__law_draw (hr.mono (by decide)) (by rfl) (pa_cons (pv 0) (pa_cons pe_int pa_nil)))) | exact ps_set (i := 3) sc__law_about.nd rfl (by first | exact Or.inl rfl | exact Or.inr rfl) (pe_lc (own := [("_law_cell", 2)]) (g := (gName 2)) (tt := tYes) rfl sc__law_about.nd (pi_list (pv 1)) (blkOk_by (N := N__law_about) (sc := defScope s__law_about) (by decide +kernel)) (fun _ _ _ _ _ => (pg_name (i := 2) sc__law_about.nd rfl (by first | exact Or.inl rfl | exact Or.inr rfl))) (fun _ _ _ _ _ => pts_nil) (fun _ _ _ _ _ => (pe_cal C__law_draw (hr.mono (by decide)) (by rfl) (pa_cons (pv 0) (pa_cons pe_int pa_nil))))))
      (pss_cons (ps_asg (pe_op op_add (pe_ix ix_list (pv 3) pe_int (fun _ _ => rfl)) (pe_callTy call_int1 (by rfl) Z.int_ (by decide +kernel) (pa_cons (pe_cmpR op_eq (pe_callB (cr_sum rfl) (by rfl) Z.sum_ (by decide +kernel) (pa_cons (pv 3) pa_nil)) pe_int (nomark _)) pa_nil))) (pg_sub (pv 3) pe_int set_list))
      (pss_cons (ps_set (i := 4) sc__law_about.nd rfl (by first | exact Or.inl rfl | exact Or.inr rfl) (pe_callB (cr_sum rfl) (by rfl) Z.sum_ (by decide +kernel) (pa_cons (pv 3) pa_nil)))
      (pss_cons (ps_set (i := 6) sc__law_about.nd rfl (by first | exact Or.inl rfl | exact Or.inr rfl) (pe_callB (cr_sum rfl) (by rfl) Z.sum_ (by decide +kernel) (pa_cons (pe_lc (own := [("_law_many", 5), ("_law_cell", 2)]) (g := (gTup K 2 (gCons (gName 5) (gCons (gName 2) gNil)))) (tt := tYes) rfl sc__law_about.nd (RZ.pi_zipA (by rfl) Z.zip_ (pa_cons (pv 3) (pa_cons (pv 1) pa_nil))) (blkOk_by (N := N__law_about) (sc := defScope s__law_about) (by decide +kernel)) (fun _ _ _ _ _ => (pg_tup rfl (pgs_cons (pg_name (i := 5) sc__law_about.nd rfl (by first | exact Or.inl rfl | exact Or.inr rfl)) (pgs_cons (pg_name (i := 2) sc__law_about.nd rfl (by first | exact Or.inl rfl | exact Or.inr rfl)) pgs_nil)))) (fun _ _ _ _ _ => pts_nil) (fun _ _ _ _ _ => (pe_op op_mul (pv 5) (pe_ix ix_tup (pv 2) pe_int (fun _ _ => rfl))))) pa_nil)))
      (pss_cons (ps_set (i := 7) sc__law_about.nd rfl (by first | exact Or.inl rfl | exact Or.inr rfl) (pe_callB (cr_sum rfl) (by rfl) Z.sum_ (by decide +kernel) (pa_cons (pe_lc (own := [("_law_many", 5), ("_law_cell", 2)]) (g := (gTup K 2 (gCons (gName 5) (gCons (gName 2) gNil)))) (tt := tYes) rfl sc__law_about.nd (RZ.pi_zipA (by rfl) Z.zip_ (pa_cons (pv 3) (pa_cons (pv 1) pa_nil))) (blkOk_by (N := N__law_about) (sc := defScope s__law_about) (by decide +kernel)) (fun _ _ _ _ _ => (pg_tup rfl (pgs_cons (pg_name (i := 5) sc__law_about.nd rfl (by first | exact Or.inl rfl | exact Or.inr rfl)) (pgs_cons (pg_name (i := 2) sc__law_about.nd rfl (by first | exact Or.inl rfl | exact Or.inr rfl)) pgs_nil)))) (fun _ _ _ _ _ => pts_nil) (fun _ _ _ _ _ => (pe_op op_mul (pv 5) (pe_ix ix_tup (pv 2) pe_int (fun _ _ => rfl))))) pa_nil)))
      (pss_cons (ps_set (i := 8) sc__law_about.nd rfl (by first | exact Or.inl rfl | exact Or.inr rfl) (pe_lst (pa_cons (pe_callTy call_tuple_of (by rfl) Z.tuple_ (by decide +kernel) (pa_cons (pe_callB cr_sortedPO (by rfl) Z.sorted_ (by decide +kernel) (pa_cons (pv 1) pa_nil)) pa_nil)) pa_nil)))
      (pss_cons (ps_if (pt_cmpR op_eq (pe_cal C__law_draw (hr.mono (by decide)) (by rfl) (pa_cons (pv 0) (pa_cons pe_int pa_nil))) pe_int (nomark _)) (pss_cons (ps_par (i := 9) (j := 10) rfl sc__law_about.nd rfl rfl (by decide) rfl rfl (pa_cons (pe_op op_fdivN (pv 6) (pv 4)) (pa_cons (pe_op op_fdivN (pv 7) (pv 4)) pa_nil)) (by rfl))
      (pss_cons (ps_set (i := 11) sc__law_about.nd rfl (by first | exact Or.inl rfl | exact Or.inr rfl) (pe_tup (pa_cons (pe_op op_sub (pe_op op_sub (pv 9) pe_int) (pe_cal C__law_draw (hr.mono (by decide)) (by rfl) (pa_cons (pv 0) (pa_cons pe_int pa_nil)))) (pa_cons (pe_op op_sub (pv 10) pe_int) pa_nil))))
      (pss_cons (ps_set (i := 12) sc__law_about.nd rfl (by first | exact Or.inl rfl | exact Or.inr rfl) (pe_tup (pa_cons (pe_op op_add (pe_op op_add (pv 9) pe_int) (pe_cal C__law_draw (hr.mono (by decide)) (by rfl) (pa_cons (pv 0) (pa_cons pe_int pa_nil)))) (pa_cons (pe_op op_sub (pe_op op_sub (pv 10) pe_int) (pe_cal C__law_draw (hr.mono (by decide)) (by rfl) (pa_cons (pv 0) (pa_cons pe_int pa_nil)))) pa_nil))))
      (pss_one (ps_expr (pe_bm PySem.F.plainAttrs_list PySem.F.slot_list_append PySem.F.type_list_append mt_append (pv 8) (pa_cons (pe_callTy call_tuple_of (by rfl) Z.tuple_ (by decide +kernel) (pa_cons (pe_callB cr_sortedPO (by rfl) Z.sorted_ (by decide +kernel) (pa_cons (pe_lst (pa_cons (pv 11) (pa_cons (pv 12) (pa_cons (pe_tup (pa_cons (pe_op op_add (pv 9) (pe_cal C__law_draw (hr.mono (by decide)) (by rfl) (pa_cons (pv 0) (pa_cons pe_int pa_nil)))) (pa_cons (pe_op op_add (pe_op op_add (pv 10) pe_int) (pe_cal C__law_draw (hr.mono (by decide)) (by rfl) (pa_cons (pv 0) (pa_cons pe_int pa_nil)))) pa_nil))) pa_nil)))) pa_nil)) pa_nil)) pa_nil))))))) pss_nil)
      (pss_one (ps_ret (pe_tup (pa_cons (pe_cal C__law_lowest (hr.mono (by decide)) (by rfl) (pa_cons (pv 6) (pa_cons (pv 7) (pa_cons (pv 4) pa_nil)))) (pa_cons (pe_cal C__law_healing (hr.mono (by decide)) (by rfl) (pa_cons (pe_cal C__law_least (hr.mono (by decide)) (by rfl) (pa_cons (pv 8) pa_nil)) pa_nil)) pa_nil)))))))))))))
abbrev s__law_in_land : Stmt := topS 41
abbrev N__law_in_land : List Str := ["_law_ring", "_law_x", "_law_y", "_law_lower", "_law_k", "_law_ax", "_law_ay", "_law_bx", "_law_by", "_law_across"]
theorem sc__law_in_land : FnScope N__law_in_land ["_law_ring", "_law_x", "_law_y", "_law_lower"] (defScope s__law_in_land) := ⟨rfl, rfl, rfl, by decide +kernel, rfl, by decide +kernel, by decide +kernel⟩
def t__law_in_land (K : PySem.W.Frag) : TS :=
    (tSeq (tFor (iEnumT (tCons (tVar 0) tNil)) (gTup K 2 (gCons (gName 4) (gCons (gTup K 2 (gCons (gName 5) (gCons (gName 6) gNil))) gNil))) (tSeq (tAsg (tOp (rIxT K) (tVar 0) (tOp rModI (tOp rAddI (tVar 4) (tC (.int 1))) (tCB (rLenSeq K) (tCons (tVar 0) tNil)))) (gTup K 2 (gCons (gName 7) (gCons (gName 8) gNil))))
    (tSeq (tAsg (tOp rMulI (tOp rSubI (tVar 7) (tVar 5)) (tOp rSubI (tVar 2) (tOp rMulI (tVar 6) (tVar 3)))) (gName 9))
    (tIfS (tTest (tOp rLtI (tVar 9) (tOp rMulI (tOp rSubI (tVar 8) (tVar 6)) (tOp rSubI (tVar 1) (tOp rMulI (tVar 5) (tVar 3)))))) (tRet (tC (.bl false))) tNext))))
    (tRet (tC (.bl true))))
set_option maxHeartbeats 4000000 in
theorem d__law_in_land (Z : Blt mg) (hr : Room 0 (A.deeper (envOfC "_law_in_land" (defScope s__law_in_land) s.heap.objs.size f cdv))) : PSs (cxOf CX0 P w K mg base N__law_in_land "_law_in_land" (defScope s__law_in_land) f cdv A outer s H E).nox (defBody s__law_in_land) (t__law_in_land K) :=
    (pss_cons (ps_for PassesOwn.never rfl (pi_enumT (by rfl) Z.enumerate_ (pa_cons (pv 0) pa_nil)) (pg_tup rfl (pgs_cons (pg_name (i := 4) sc__law_in_land.nd rfl (by first | exact Or.inl rfl | exact Or.inr rfl)) (pgs_cons (pg_tup rfl (pgs_cons (pg_name (i := 5) sc__law_in_land.nd rfl (by first | exact Or.inl rfl | exact Or.inr rfl)) (pgs_cons (pg_name (i := 6) sc__law_in_land.nd rfl (by first | exact Or.inl rfl | exact Or.inr rfl)) pgs_nil))) pgs_nil))) (pss_cons (ps_asg (pe_ix ix_tup (pv 0) (pe_op op_mod (pe_op op_add (pv 4) pe_int) (pe_callB call_len_seq (by rfl) Z.len_ (by decide +kernel) (pa_cons (pv 0) pa_nil))) (fun _ _ => rfl)) (pg_tup rfl (pgs_cons (pg_name (i := 7) sc__law_in_land.nd rfl (by first | exact Or.inl rfl | exact Or.inr rfl)) (pgs_cons (pg_name (i := 8) sc__law_in_land.nd rfl (by first | exact Or.inl rfl | exact Or.inr rfl)) pgs_nil))))
      (pss_cons (ps_set (i := 9) sc__law_in_land.nd rfl (by first | exact Or.inl rfl | exact Or.inr rfl) (pe_op op_mul (pe_op op_sub (pv 7) (pv 5)) (pe_op op_sub (pv 2) (pe_op op_mul (pv 6) (pv 3)))))
      (pss_one (ps_if (pt_cmpR op_lt (pv 9) (pe_op op_mul (pe_op op_sub (pv 8) (pv 6)) (pe_op op_sub (pv 1) (pe_op op_mul (pv 5) (pv 3)))) (nomark _)) (pss_one (ps_ret pe_bl)) pss_nil)))))
      (pss_one (ps_ret pe_bl)))
end
end K84
namespace K84
open L2 PySem PySem.Spec PyProof.Rows
section
variable {P : Program} {w : World} {K : PySem.W.Frag} {mg : Str → Option Value} {base : Heap} {f : Addr} {cdv : Value} {A : Around} {outer : List Env} {s : Shared} {H : Hp} {E : XK}
abbrev s__law_beat : Stmt := topS 42
abbrev N__law_beat : List Str := ["_law_plain_here", "_law_island", "_law_held", "_law_cell", "_law_found", "_law_row", "_law_x", "_law_y", "_law_place", "_law_across", "_law_up"]
theorem sc__law_beat : FnScope N__law_beat ["_law_plain_here", "_law_island"] (defScope s__law_beat) := ⟨rfl, rfl, rfl, by decide +kernel, rfl, by decide +kernel, by decide +kernel⟩
def t__law_beat (K : PySem.W.Frag) : TS :=
    (tSeq (tAsg tDNewT (gName 2))
    (tSeq (tFor (iTup K (tVar 1)) (gName 3) (sDPut (tVar 2) (tVar 3) (tC (.bl true))))
    (tSeq (tAsg tDNewT (gName 4))
    (tSeq (tFor (iTup K (tVar 0)) (gName 5) (tFor (iTup K (tVar 1)) (gTup K 2 (gCons (gName 6) (gCons (gName 7) gNil))) (tSeq (tAsg (tTup (tCons (tOp rSubI (tVar 6) (tOp (rIxT K) (tOp (rIxT K) (tVar 5) (tC (.int 0))) (tC (.int 0)))) (tCons (tOp rSubI (tVar 7) (tOp (rIxT K) (tOp (rIxT K) (tVar 5) (tC (.int 0))) (tC (.int 1)))) tNil))) (gName 8))
    (tIfS (tB (tCB (rAll K) (tCons (tLc (iTup K (tVar 5)) (gTup K 2 (gCons (gName 9) (gCons (gName 10) gNil))) tYes (tDIn (tTup (tCons (tOp rAddI (tOp (rIxT K) (tVar 8) (tC (.int 0))) (tVar 9)) (tCons (tOp rAddI (tOp (rIxT K) (tVar 8) (tC (.int 1))) (tVar 10)) tNil))) (tVar 2)) [9, 10]) tNil))) (sDPut (tVar 4) (tVar 8) (tC (.bl true))) tNext))))
    (tRet (tCB (rTupleOf K) (tCons (tCB (rSortedPO K) (tCons (tCB rListDT (tCons (tVar 4) tNil)) tNil)) tNil)))))))
set_option maxHeartbeats 4000000 in
theorem d__law_beat (Z : Blt mg) (hr : Room 0 (A.deeper (envOfC "_law_beat" (defScope s__law_beat) s.heap.objs.size f cdv))) : PSs (cxOf CX0 P w K mg base N__law_beat "_law_beat" (defScope s__law_beat) f cdv A outer s H E).nox (defBody s__law_beat) (t__law_beat K) :=
    (pss_cons (ps_set (i := 2) sc__law_beat.nd rfl (by first | exact Or.inl rfl | exact Or.inr rfl) pe_dnewT)
      (pss_cons (ps_for PassesOwn.never rfl (pi_tup (pv 1)) (pg_name (i := 3) sc__law_beat.nd rfl (by first | exact Or.inl rfl | exact Or.inr rfl)) (pss_one (ps_dput (hu_of hr) (pv 2) (pv 3) pe_bl rfl)))
      (pss_cons (ps_set (i := 4) sc__law_beat.nd rfl (by first | exact Or.inl rfl | exact Or.inr rfl) pe_dnewT)
      (pss_cons (ps_for PassesOwn.never rfl (pi_tup (pv 0)) (pg_name (i := 5) sc__law_beat.nd rfl (by first | exact Or.inl rfl | exact Or.inr rfl)) (pss_one (ps_for PassesOwn.never rfl (pi_tup (pv 1)) (pg_tup rfl (pgs_cons (pg_name (i := 6) sc__law_beat.nd rfl (by first | exact Or.inl rfl | exact Or.inr rfl)) (pgs_cons (pg_name (i := 7) sc__law_beat.nd rfl (by first | exact Or.inl rfl | exact Or.inr rfl)) pgs_nil))) (pss_cons (ps_set (i := 8) sc__law_beat.nd rfl (by first | exact Or.inl rfl | exact Or.inr rfl) (pe_tup (pa_cons (pe_op op_sub (pv 6) (pe_ix ix_tup (pe_ix ix_tup (pv 5) pe_int (fun _ _ => rfl)) pe_int (fun _ _ => rfl))) (pa_cons (pe_op op_sub (pv 7) (pe_ix ix_tup (pe_ix ix_tup (pv 5) pe_int (fun _ _ => rfl)) pe_int (fun _ _ => rfl))) pa_nil))))
      (pss_one (ps_if (pt_val (pe_callB (cr_all rfl) (by rfl) Z.all_ (by decide +kernel) (pa_cons (pe_lc (own := [("_law_across", 9), ("_law_up", 10)]) (g := (gTup K 2 (gCons (gName 9) (gCons (gName 10) gNil)))) (tt := tYes) rfl sc__law_beat.nd (pi_tup (pv 5)) (blkOk_by (N := N__law_beat) (sc := defScope s__law_beat) (by decide +kernel)) (fun _ _ _ _ _ => (pg_tup rfl (pgs_cons (pg_name (i := 9) sc__law_beat.nd rfl (by first | exact Or.inl rfl | exact Or.inr rfl)) (pgs_cons (pg_name (i := 10) sc__law_beat.nd rfl (by first | exact Or.inl rfl | exact Or.inr rfl)) pgs_nil)))) (fun _ _ _ _ _ => pts_nil) (fun _ _ _ _ _ => (pe_cmp (pc_din (hu_of hr) (pe_tup (pa_cons (pe_op op_add (pe_ix ix_tup (pv 8) pe_int (fun _ _ => rfl)) (pv 9)) (pa_cons (pe_op op_add (pe_ix ix_tup (pv 8) pe_int (fun _ _ => rfl)) (pv 10)) pa_nil))) (pv 2)) (by rfl)))) pa_nil))) (pss_one (ps_dput (hu_of hr) (pv 4) (pv 8) pe_bl rfl)) pss_nil))))))
      (pss_one (ps_ret (pe_callTy call_tuple_of (by rfl) Z.tuple_ (by decide +kernel) (pa_cons (pe_callB cr_sortedPO (by rfl) Z.sorted_ (by decide +kernel) (pa_cons (pe_callTy (call_list_dT rfl) (by rfl) Z.list_ (by decide +kernel) (pa_cons (pv 4) pa_nil)) pa_nil)) pa_nil))))))))
abbrev s__law_told_right : Stmt := topS 43
abbrev N__law_told_right : List Str := ["_law_paper", "_law_many", "_law_across", "_law_low", "_law_up", "_law_under", "_law_x", "_law_y", "_law_due_x", "_law_due_y", "_law_lower"]
theorem sc__law_told_right : FnScope N__law_told_right ["_law_paper", "_law_many"] (defScope s__law_told_right) := ⟨rfl, rfl, rfl, by decide +kernel, rfl, by decide +kernel, by decide +kernel⟩
def t__law_told_right (K : PySem.W.Frag) (sp_cell_at sp__law_in_land : Sp) : TS :=
    (tSeq (tAsg (tOp (rIxT K) (tVar 0) (tC (.int 1))) (gTup K 2 (gCons (gTup K 2 (gCons (gName 2) (gCons (gName 3) gNil))) (gCons (gTup K 2 (gCons (gName 4) (gCons (gName 5) gNil))) gNil))))
    (tSeq (tAsg (tCall sp_cell_at [] E0 (tCons (tVar 0) (tCons (tVar 1) tNil))) (gTup K 2 (gCons (gName 6) (gCons (gName 7) gNil))))
    (tSeq (tAsg (tOp rSubI (tOp rMulI (tOp (rIxT K) (tOp (rIxT K) (tVar 0) (tC (.int 4))) (tC (.int 0))) (tVar 3)) (tOp rMulI (tVar 1) (tVar 2))) (gName 8))
    (tSeq (tAsg (tOp rSubI (tOp rMulI (tOp (rIxT K) (tOp (rIxT K) (tVar 0) (tC (.int 4))) (tC (.int 1))) (tVar 5)) (tOp rMulI (tVar 1) (tVar 4))) (gName 9))
    (tSeq (tIfS (tOr (tNot (tTest (tChain rLeI rLtI (tC (.int 0)) (tOp rSubI (tOp rMulI (tVar 6) (tVar 3)) (tVar 8)) (tVar 3)))) (tNot (tTest (tChain rLeI rLtI (tC (.int 0)) (tOp rSubI (tOp rMulI (tVar 7) (tVar 5)) (tVar 9)) (tVar 5))))) (tRet (tC (.bl false))) tNext)
    (tSeq (tAsg (tOp rMulI (tVar 3) (tVar 5)) (gName 10))
    (tRet (tCall sp__law_in_land [] E0 (tCons (tOp (rIxT K) (tVar 0) (tC (.int 2))) (tCons (tOp rAddI (tOp rMulI (tVar 6) (tVar 10)) (tOp rMulI (tOp rMulI (tVar 1) (tVar 2)) (tVar 5))) (tCons (tOp rAddI (tOp rMulI (tVar 7) (tVar 10)) (tOp rMulI (tOp rMulI (tVar 1) (tVar 4)) (tVar 3))) (tCons (tVar 10) tNil))))))))))))
set_option maxHeartbeats 4000000 in
theorem d__law_told_right {sp_cell_at sp__law_in_land : Sp} (Z : Blt mg) (C_cell_at : Cal P w K mg base 4 "cell_at" ["paper", "many"] sp_cell_at) (C__law_in_land : Cal P w K mg base 1 "_law_in_land" ["_law_ring", "_law_x", "_law_y", "_law_lower"] sp__law_in_land) (hr : Room 4 (A.deeper (envOfC "_law_told_right" (defScope s__law_told_right) s.heap.objs.size f cdv))) : PSs (cxOf CX0 P w K mg base N__law_told_right "_law_told_right" (defScope s__law_told_right) f cdv A outer s H E).nox (defBody s__law_told_right) (t__law_told_right K sp_cell_at sp__law_in_land) :=
    (pss_cons (ps_asg (pe_ix ix_tup (pv 0) pe_int (fun _ _ => rfl)) (pg_tup rfl (pgs_cons (pg_tup rfl (pgs_cons (pg_name (i := 2) sc__law_told_right.nd rfl (by first | exact Or.inl rfl | exact Or.inr rfl)) (pgs_cons (pg_name (i := 3) sc__law_told_right.nd rfl (by first | exact Or.inl rfl | exact Or.inr rfl)) pgs_nil))) (pgs_cons (pg_tup rfl (pgs_cons (pg_name (i := 4) sc__law_told_right.nd rfl (by first | exact Or.inl rfl | exact Or.inr rfl)) (pgs_cons (pg_name (i := 5) sc__law_told_right.nd rfl (by first | exact Or.inl rfl | exact Or.inr rfl)) pgs_nil))) pgs_nil))))
      (pss_cons (ps_asg (pe_cal C_cell_at (hr.mono (by decide)) (by rfl) (pa_cons (pv 0) (pa_cons (pv 1) pa_nil))) (pg_tup rfl (pgs_cons (pg_name (i := 6) sc__law_told_right.nd rfl (by first | exact Or.inl rfl | exact Or.inr rfl)) (pgs_cons (pg_name (i := 7) sc__law_told_right.nd rfl (by first | exact Or.inl rfl | exact Or.inr rfl)) pgs_nil))))
      (pss_cons (ps_set (i := 8) sc__law_told_right.nd rfl (by first | exact Or.inl rfl | exact Or.inr rfl) (pe_op op_sub (pe_op op_mul (pe_ix ix_tup (pe_ix ix_tup (pv 0) pe_int (fun _ _ => rfl)) pe_int (fun _ _ => rfl)) (pv 3)) (pe_op op_mul (pv 1) (pv 2))))
      (pss_cons (ps_set (i := 9) sc__law_told_right.nd rfl (by first | exact Or.inl rfl | exact Or.inr rfl) (pe_op op_sub (pe_op op_mul (pe_ix ix_tup (pe_ix ix_tup (pv 0) pe_int (fun _ _ => rfl)) pe_int (fun _ _ => rfl)) (pv 5)) (pe_op op_mul (pv 1) (pv 4))))
      (pss_cons (ps_if (PW.pt (pw_or (pt_not (pt_chain op_le op_lt pe_int (pe_op op_sub (pe_op op_mul (pv 6) (pv 3)) (pv 8)) (pv 3))) (pw_or1 (pt_not (pt_chain op_le op_lt pe_int (pe_op op_sub (pe_op op_mul (pv 7) (pv 5)) (pv 9)) (pv 5)))))) (pss_one (ps_ret pe_bl)) pss_nil)
      (pss_cons (ps_set (i := 10) sc__law_told_right.nd rfl (by first | exact Or.inl rfl | exact Or.inr rfl) (pe_op op_mul (pv 3) (pv 5)))
      (pss_one (ps_ret (pe_cal C__law_in_land (hr.mono (by decide)) (by rfl) (pa_cons (pe_ix ix_tup (pv 0) pe_int (fun _ _ => rfl)) (pa_cons (pe_op op_add (pe_op op_mul (pv 6) (pv 10)) (pe_op op_mul (pe_op op_mul (pv 1) (pv 2)) (pv 5))) (pa_cons (pe_op op_add (pe_op op_mul (pv 7) (pv 10)) (pe_op op_mul (pe_op op_mul (pv 1) (pv 4)) (pv 3))) (pa_cons (pv 10) pa_nil)))))))))))))
abbrev s__law_stands : Stmt := topS 44
abbrev N__law_stands : List Str := ["_law_paper", "_law_island", "_law_here", "_law_many", "_law_across", "_law_low", "_law_up", "_law_under", "_law_lower", "_law_x", "_law_y", "_law_place", "_law_right", "_law_high"]
theorem sc__law_stands : FnScope N__law_stands ["_law_paper", "_law_island", "_law_here", "_law_many"] (defScope s__law_stands) := ⟨rfl, rfl, rfl, by decide +kernel, rfl, by decide +kernel, by decide +kernel⟩
def t__law_stands (K : PySem.W.Frag) (sp__law_in_land sp_cell_at : Sp) : TS :=
    (tSeq (tAsg (tOp (rIxT K) (tVar 0) (tC (.int 1))) (gTup K 2 (gCons (gTup K 2 (gCons (gName 4) (gCons (gName 5) gNil))) (gCons (gTup K 2 (gCons (gName 6) (gCons (gName 7) gNil))) gNil))))
    (tSeq (tAsg (tOp rMulI (tVar 5) (tVar 7)) (gName 8))
    (tSeq (tFor (iTup K (tVar 1)) (gTup K 2 (gCons (gName 9) (gCons (gName 10) gNil))) (tSeq (tAsg (tTup (tCons (tOp rSubI (tVar 9) (tOp rDivI (tOp rMulI (tVar 3) (tVar 4)) (tVar 5))) (tCons (tOp rSubI (tVar 10) (tOp rDivI (tOp rMulI (tVar 3) (tVar 6)) (tVar 7))) tNil))) (gName 11))
    (tSeq (tAsg (tOp rAddI (tOp rMulI (tOp (rIxT K) (tVar 11) (tC (.int 0))) (tVar 8)) (tOp rMulI (tOp rMulI (tVar 3) (tVar 4)) (tVar 7))) (gName 12))
    (tSeq (tAsg (tOp rAddI (tOp rMulI (tOp (rIxT K) (tVar 11) (tC (.int 1))) (tVar 8)) (tOp rMulI (tOp rMulI (tVar 3) (tVar 6)) (tVar 5))) (gName 13))
    (tIfS (tAnd (tB (tCall sp__law_in_land [] E0 (tCons (tOp (rIxT K) (tVar 0) (tC (.int 2))) (tCons (tVar 12) (tCons (tVar 13) (tCons (tVar 8) tNil)))))) (tTest (tOp (rNotInT K) (tVar 11) (tVar 2)))) (tRet (tC (.bl false))) tNext)))))
    (tRet (tOp (rInT K) (tCall sp_cell_at [] E0 (tCons (tVar 0) (tCons (tVar 3) tNil))) (tVar 2))))))
set_option maxHeartbeats 4000000 in
theorem d__law_stands {sp__law_in_land sp_cell_at : Sp} (Z : Blt mg) (C__law_in_land : Cal P w K mg base 1 "_law_in_land" ["_law_ring", "_law_x", "_law_y", "_law_lower"] sp__law_in_land) (C_cell_at : Cal P w K mg base 4 "cell_at" ["paper", "many"] sp_cell_at) (hr : Room 4 (A.deeper (envOfC "_law_stands" (defScope s__law_stands) s.heap.objs.size f cdv))) : PSs (cxOf CX0 P w K mg base N__law_stands "_law_stands" (defScope s__law_stands) f cdv A outer s H E).nox (defBody s__law_stands) (t__law_stands K sp__law_in_land sp_cell_at) :=
    (pss_cons (ps_asg (pe_ix ix_tup (pv 0) pe_int (fun _ _ => rfl)) (pg_tup rfl (pgs_cons (pg_tup rfl (pgs_cons (pg_name (i := 4) sc__law_stands.nd rfl (by first | exact Or.inl rfl | exact Or.inr rfl)) (pgs_cons (pg_name (i := 5) sc__law_stands.nd rfl (by first | exact Or.inl rfl | exact Or.inr rfl)) pgs_nil))) (pgs_cons (pg_tup rfl (pgs_cons (pg_name (i := 6) sc__law_stands.nd rfl (by first | exact Or.inl rfl | exact Or.inr rfl)) (pgs_cons (pg_name (i := 7) sc__law_stands.nd rfl (by first | exact Or.inl rfl | exact Or.inr rfl)) pgs_nil))) pgs_nil))))
      (pss_cons (ps_set (i := 8) sc__law_stands.nd rfl (by first | exact Or.inl rfl | exact Or.inr rfl) (pe_op op_mul (pv 5) (pv 7)))
      (pss_cons (ps_for PassesOwn.never rfl (pi_tup (pv 1)) (pg_tup rfl (pgs_cons (pg_name (i := 9) sc__law_stands.nd rfl (by first | exact Or.inl rfl | exact Or.inr rfl)) (pgs_cons (pg_name (i := 10) sc__law_stands.nd rfl (by first | exact Or.inl rfl | exact Or.inr rfl)) pgs_nil))) (pss_cons (ps_set (i := 11) sc__law_stands.nd rfl (by first | exact Or.inl rfl | exact Or.inr rfl) (pe_tup (pa_cons (pe_op op_sub (pv 9) (pe_op op_fdivN (pe_op op_mul (pv 3) (pv 4)) (pv 5))) (pa_cons (pe_op op_sub (pv 10) (pe_op op_fdivN (pe_op op_mul (pv 3) (pv 6)) (pv 7))) pa_nil))))
      (pss_cons (ps_set (i := 12) sc__law_stands.nd rfl (by first | exact Or.inl rfl | exact Or.inr rfl) (pe_op op_add (pe_op op_mul (pe_ix ix_tup (pv 11) pe_int (fun _ _ => rfl)) (pv 8)) (pe_op op_mul (pe_op op_mul (pv 3) (pv 4)) (pv 7))))
      (pss_cons (ps_set (i := 13) sc__law_stands.nd rfl (by first | exact Or.inl rfl | exact Or.inr rfl) (pe_op op_add (pe_op op_mul (pe_ix ix_tup (pv 11) pe_int (fun _ _ => rfl)) (pv 8)) (pe_op op_mul (pe_op op_mul (pv 3) (pv 6)) (pv 5))))
      (pss_one (ps_if (PW.pt (pw_and (pt_val (pe_cal C__law_in_land (hr.mono (by decide)) (by rfl) (pa_cons (pe_ix ix_tup (pv 0) pe_int (fun _ _ => rfl)) (pa_cons (pv 12) (pa_cons (pv 13) (pa_cons (pv 8) pa_nil)))))) (pw_and1 (pt_cmpR (op_notInT (hu65 hr)) (pv 11) (pv 2) rfl)))) (pss_one (ps_ret pe_bl)) pss_nil))))))
      (pss_one (ps_ret (pe_cmpR (op_inT (hu65 hr)) (pe_cal C_cell_at (hr.mono (by decide)) (by rfl) (pa_cons (pv 0) (pa_cons (pv 3) pa_nil))) (pv 2) rfl))))))
abbrev s__law_turned : Stmt := topS 45
abbrev N__law_turned : List Str := ["_law_one", "_law_other", "_law_third", "_law_ahead"]
theorem sc__law_turned : FnScope N__law_turned ["_law_one", "_law_other", "_law_third"] (defScope s__law_turned) := ⟨rfl, rfl, rfl, by decide +kernel, rfl, by decide +kernel, by decide +kernel⟩
def t__law_turned (K : PySem.W.Frag) : TS :=
    (tSeq (tAsg (tOp rMulI (tOp rSubI (tOp (rIxT K) (tVar 1) (tC (.int 0))) (tOp (rIxT K) (tVar 0) (tC (.int 0)))) (tOp rSubI (tOp (rIxT K) (tVar 2) (tC (.int 1))) (tOp (rIxT K) (tVar 0) (tC (.int 1))))) (gName 3))
    (tRet (tOp rSubI (tVar 3) (tOp rMulI (tOp rSubI (tOp (rIxT K) (tVar 1) (tC (.int 1))) (tOp (rIxT K) (tVar 0) (tC (.int 1)))) (tOp rSubI (tOp (rIxT K) (tVar 2) (tC (.int 0))) (tOp (rIxT K) (tVar 0) (tC (.int 0))))))))
set_option maxHeartbeats 4000000 in
theorem d__law_turned (Z : Blt mg) (hr : Room 0 (A.deeper (envOfC "_law_turned" (defScope s__law_turned) s.heap.objs.size f cdv))) : PSs (cxOf CX0 P w K mg base N__law_turned "_law_turned" (defScope s__law_turned) f cdv A outer s H E).nox (defBody s__law_turned) (t__law_turned K) :=
    (pss_cons (ps_set (i := 3) sc__law_turned.nd rfl (by first | exact Or.inl rfl | exact Or.inr rfl) (pe_op op_mul (pe_op op_sub (pe_ix ix_tup (pv 1) pe_int (fun _ _ => rfl)) (pe_ix ix_tup (pv 0) pe_int (fun _ _ => rfl))) (pe_op op_sub (pe_ix ix_tup (pv 2) pe_int (fun _ _ => rfl)) (pe_ix ix_tup (pv 0) pe_int (fun _ _ => rfl)))))
      (pss_one (ps_ret (pe_op op_sub (pv 3) (pe_op op_mul (pe_op op_sub (pe_ix ix_tup (pv 1) pe_int (fun _ _ => rfl)) (pe_ix ix_tup (pv 0) pe_int (fun _ _ => rfl))) (pe_op op_sub (pe_ix ix_tup (pv 2) pe_int (fun _ _ => rfl)) (pe_ix ix_tup (pv 0) pe_int (fun _ _ => rfl))))))))
abbrev s__law_half : Stmt := topS 46
abbrev N__law_half : List Str := ["_law_cells_here", "_law_found", "_law_cell"]
theorem sc__law_half : FnScope N__law_half ["_law_cells_here"] (defScope s__law_half) := ⟨rfl, rfl, rfl, by decide +kernel, rfl, by decide +kernel, by decide +kernel⟩
def t__law_half (K : PySem.W.Frag) (sp__law_turned : Sp) : TS :=
    (tSeq (tAsg (tLst tNil) (gName 1))
    (tSeq (tFor (iList K (tVar 0)) (gName 2) (tSeq (tWhile (tAnd (tTest (tOp rGtI (tCB (rLenSeq K) (tCons (tVar 1) tNil)) (tC (.int 1)))) (tTest (tOp rLeI (tCall sp__law_turned [] E0 (tCons (tOp (rIxL K) (tVar 1) (tUn rNegI (tC (.int 2)))) (tCons (tOp (rIxL K) (tVar 1) (tUn rNegI (tC (.int 1)))) (tCons (tVar 2) tNil)))) (tC (.int 0))))) (tDrop (tBM0 K "list" rPop (tVar 1))))
    (tDrop (tBM K "list" rAppend (tVar 1) (tCons (tVar 2) tNil)))))
    (tRet (tSl (rSlL K) (tVar 1) tNoPart (tPart (tUn rNegI (tC (.int 1))))))))
set_option maxHeartbeats 4000000 in
theorem d__law_half {sp__law_turned : Sp} (Z : Blt mg) (C__law_turned : Cal P w K mg base 1 "_law_turned" ["_law_one", "_law_other", "_law_third"] sp__law_turned) (hr : Room 1 (A.deeper (envOfC "_law_half" (defScope s__law_half) s.heap.objs.size f cdv))) : PSs (cxOf CX0 P w K mg base N__law_half "_law_half" (defScope s__law_half) f cdv A outer s H E).nox (defBody s__law_half) (t__law_half K sp__law_turned) :=
    (pss_cons (ps_set (i := 1) sc__law_half.nd rfl (by first | exact Or.inl rfl | exact Or.inr rfl) (pe_lst pa_nil))
      (pss_cons (ps_for PassesOwn.never rfl (pi_list (pv 0)) (pg_name (i := 2) sc__law_half.nd rfl (by first | exact Or.inl rfl | exact Or.inr rfl)) (pss_cons (ps_while PassesOwn.never (PW.pt (pw_and (pt_cmpR op_gt (pe_callB call_len_seq (by rfl) Z.len_ (by decide +kernel) (pa_cons (pv 1) pa_nil)) pe_int (nomark _)) (pw_and1 (pt_cmpR op_le (pe_cal C__law_turned (hr.mono (by decide)) (by rfl) (pa_cons (pe_ix ix_list (pv 1) (pe_un un_neg pe_int) (fun _ _ => rfl)) (pa_cons (pe_ix ix_list (pv 1) (pe_un un_neg pe_int) (fun _ _ => rfl)) (pa_cons (pv 2) pa_nil)))) pe_int (nomark _))))) (pss_one (ps_expr (pe_bm0 PySem.F.plainAttrs_list PySem.F.slot_list_pop PySem.F.type_list_pop mt_pop (pv 1)))))
      (pss_one (ps_expr (pe_bm PySem.F.plainAttrs_list PySem.F.slot_list_append PySem.F.type_list_append mt_append (pv 1) (pa_cons (pv 2) pa_nil))))))
      (pss_one (ps_ret (pe_slice sl_list (pv 1) po_none (po_some (pe_un un_neg pe_int)))))))
abbrev s__law_boxed : Stmt := topS 47
abbrev N__law_boxed : List Str := ["_law_deal_here", "_law_cells_here", "_law_turn", "_law_plain_here", "_law_x", "_law_y", "_law_some", "_law_middle", "_law_order", "_law_ring", "_law_at", "_law_across", "_law_up", "_law_v"]
theorem sc__law_boxed : FnScope N__law_boxed ["_law_deal_here"] (defScope s__law_boxed) := ⟨rfl, rfl, rfl, by decide +kernel, rfl, by decide +kernel, by decide +kernel⟩
def t__law_boxed (K : PySem.W.Frag) (w : World) (sp__law_draw sp__law_cells sp__law_least sp__law_half : Sp) : TS :=
    (tSeq (tAsg (tCall sp__law_cells [] E0 (tCons (tVar 0) (tCons (tOp (rIxL K) (tLst (tCons (tC (.int 1)) (tCons (tC (.int 2)) (tCons (tC (.int 3)) (tCons (tC (.int 8)) tNil))))) (tCall sp__law_draw [] E0 (tCons (tVar 0) (tCons (tC (.int 4)) tNil)))) tNil))) (gName 1))
    (tSeq (tAsg (tCall sp__law_least [] E0 (tCons (tOp rCat (tLst (tCons (tSl (rSlL K) (tVar 1) tNoPart (tPart (tC (.int 1)))) tNil)) (tLc (iRng1 (tCons (tCB rInt1 (tCons (tOp rGtI (tCB (rLenSeq K) (tCons (tVar 1) tNil)) (tC (.int 1))) tNil)) tNil)) (gName 2) tYes (tSl (rSlL K) (tVar 1) (tPart (tC (.int 1))) tNoPart) [2])) tNil)) (gName 3))
    (tSeq (tAsg (tTup (tCons (tOp rSubI (tCall sp__law_draw [] E0 (tCons (tVar 0) (tCons (tC (.int 9)) tNil))) (tC (.int 4))) (tCons (tOp rSubI (tCall sp__law_draw [] E0 (tCons (tVar 0) (tCons (tC (.int 9)) tNil))) (tC (.int 4))) tNil))) (gTup K 2 (gCons (gName 4) (gCons (gName 5) gNil))))
    (tSeq (tAsg (tLst (tCons (tTup (tCons (tVar 4) (tCons (tVar 5) tNil))) (tCons (tTup (tCons (tOp rAddI (tVar 4) (tC (.int 1))) (tCons (tVar 5) tNil))) (tCons (tTup (tCons (tVar 4) (tCons (tOp rAddI (tVar 5) (tC (.int 1))) tNil))) (tCons (tTup (tCons (tOp rAddI (tVar 4) (tC (.int 1))) (tCons (tOp rAddI (tVar 5) (tC (.int 1))) tNil))) tNil))))) (gName 6))
    (tSeq (tIfS (tTest (tOp rEq (tCall sp__law_draw [] E0 (tCons (tVar 0) (tCons (tC (.int 3)) tNil))) (tC (.int 0)))) (tAsg (tOp rCat (tVar 6) (tLst (tCons (tTup (tCons (tOp rAddI (tOp rAddI (tVar 4) (tC (.int 2))) (tCall sp__law_draw [] E0 (tCons (tVar 0) (tCons (tC (.int 3)) tNil)))) (tCons (tVar 5) tNil))) (tCons (tTup (tCons (tVar 4) (tCons (tOp rAddI (tOp rAddI (tVar 5) (tC (.int 2))) (tCall sp__law_draw [] E0 (tCons (tVar 0) (tCons (tC (.int 3)) tNil)))) tNil))) tNil)))) (gName 6)) (tDrop (tBM K "list" rExtend (tVar 6) (tCons (tLc (iRng1 (tCons (tCall sp__law_draw [] E0 (tCons (tVar 0) (tCons (tC (.int 5)) tNil))) tNil)) (gName 2) tYes (tTup (tCons (tOp rSubI (tOp rAddI (tVar 4) (tCall sp__law_draw [] E0 (tCons (tVar 0) (tCons (tC (.int 7)) tNil)))) (tC (.int 3))) (tCons (tOp rSubI (tOp rAddI (tVar 5) (tCall sp__law_draw [] E0 (tCons (tVar 0) (tCons (tC (.int 7)) tNil)))) (tC (.int 3))) tNil))) [2]) tNil))))
    (tSeq (tAsg (tOp (rIxL K) (tVar 6) (tCall sp__law_draw [] E0 (tCons (tVar 0) (tCons (tCB (rLenSeq K) (tCons (tVar 6) tNil)) tNil)))) (gName 7))
    (tSeq (tAsg (tCB (rSortedC w) (tCons (tCB (rSetOfC w) (tCons (tVar 6) tNil)) tNil)) (gName 8))
    (tSeq (tAsg (tOp rCat (tCall sp__law_half [] E0 (tCons (tVar 8) tNil)) (tCall sp__law_half [] E0 (tCons (tRevL K (tVar 8)) tNil))) (gName 9))
    (tSeq (tAsg (tCall sp__law_draw [] E0 (tCons (tVar 0) (tCons (tCB (rLenSeq K) (tCons (tVar 9) tNil)) tNil))) (gName 10))
    (tSeq (tAsg (tOp rRep (tOp rCat (tSl (rSlL K) (tVar 9) (tPart (tVar 10)) tNoPart) (tSl (rSlL K) (tVar 9) tNoPart (tPart (tVar 10)))) (tOp rAddI (tC (.int 1)) (tCB rInt1 (tCons (tOp rEq (tCall sp__law_draw [] E0 (tCons (tVar 0) (tCons (tC (.int 5)) tNil))) (tC (.int 0))) tNil)))) (gName 9))
    (tSeq (tAsg (tOp (rIxL K) (tVar 1) (tC (.int 0))) (gTup K 2 (gCons (gName 11) (gCons (gName 12) gNil))))
    (tSeq (tAsg (tTup (tCons (tTup (tCons (tVar 11) (tCons (tC (.int 1)) tNil))) (tCons (tTup (tCons (tVar 12) (tCons (tC (.int 1)) tNil))) tNil))) (gName 13))
    (tRet (tTup (tCons (tVar 3) (tCons (tTup (tCons (tC (.str (PySem.Str.ofString "lives"))) (tCons (tVar 13) (tCons (tCB (rTupleOf K) (tCons (tVar 9) tNil)) (tCons (tVar 7) (tCons (tTup (tCons (tVar 4) (tCons (tVar 5) tNil))) (tCons (tOp (rRepT K) (tTup (tCons (tCB (rTupleOf K) (tCons (tSl (rSlL K) (tVar 1) tNoPart (tPart (tC (.int 1)))) tNil)) tNil)) (tCB (rLenSeq K) (tCons (tVar 9) tNil))) tNil))))))) tNil))))))))))))))))
set_option maxHeartbeats 4000000 in
theorem d__law_boxed {sp__law_draw sp__law_cells sp__law_least sp__law_half : Sp} (Z : Blt mg) (C__law_draw : Cal P w K mg base 1 "_law_draw" ["_law_deal_here", "_law_many"] sp__law_draw) (C__law_cells : Cal P w K mg base 2 "_law_cells" ["_law_deal_here", "_law_many"] sp__law_cells) (C__law_least : Cal P w K mg base 1 "_law_least" ["_law_rows"] sp__law_least) (C__law_half : Cal P w K mg base 2 "_law_half" ["_law_cells_here"] sp__law_half) (hr : Room 2 (A.deeper (envOfC "_law_boxed" (defScope s__law_boxed) s.heap.objs.size f cdv))) : PSs (cxOf CX0 P w K mg base N__law_boxed "_law_boxed" (defScope s__law_boxed) f cdv A outer s H E).nox (defBody s__law_boxed) (t__law_boxed K w sp__law_draw sp__law_cells sp__law_least sp__law_half) :=
    (pss_cons (ps_set (i := 1) sc__law_boxed.nd rfl (by first | exact Or.inl rfl | exact Or.inr rfl) (pe_cal C__law_cells (hr.mono (by decide)) (by rfl) (pa_cons (pv 0) (pa_cons (pe_ix ix_list (pe_lst (pa_cons pe_int (pa_cons pe_int (pa_cons pe_int (pa_cons pe_int pa_nil))))) (pe_cal C__law_draw (hr.mono (by decide)) (by rfl) (pa_cons (pv 0) (pa_cons pe_int pa_nil))) (fun _ _ => rfl)) pa_nil))))
      (pss_cons (ps_set (i := 3) sc__law_boxed.nd rfl (by first | exact Or.inl rfl | exact Or.inr rfl) (pe_cal C__law_least (hr.mono (by decide)) (by rfl) (pa_cons (pe_op op_cat (pe_lst (pa_cons (pe_slice sl_list (pv 1) po_none (po_some pe_int)) pa_nil)) (pe_lc (own := [("_law_turn", 2)]) (g := (gName 2)) (tt := tYes) rfl sc__law_boxed.nd (pi_range1 (by rfl) Z.range_ (pa_cons (pe_callTy call_int1 (by rfl) Z.int_ (by decide +kernel) (pa_cons (pe_cmpR op_gt (pe_callB call_len_seq (by rfl) Z.len_ (by decide +kernel) (pa_cons (pv 1) pa_nil)) pe_int (nomark _)) pa_nil)) pa_nil)) (blkOk_by (N := N__law_boxed) (sc := defScope s__law_boxed) (by decide +kernel)) (fun _ _ _ _ _ => (pg_name (i := 2) sc__law_boxed.nd rfl (by first | exact Or.inl rfl | exact Or.inr rfl))) (fun _ _ _ _ _ => pts_nil) (fun _ _ _ _ _ => (pe_slice sl_list (pv 1) (po_some pe_int) po_none)))) pa_nil)))
      (pss_cons (ps_asg (pe_tup (pa_cons (pe_op op_sub (pe_cal C__law_draw (hr.mono (by decide)) (by rfl) (pa_cons (pv 0) (pa_cons pe_int pa_nil))) pe_int) (pa_cons (pe_op op_sub (pe_cal C__law_draw (hr.mono (by decide)) (by rfl) (pa_cons (pv 0) (pa_cons pe_int pa_nil))) pe_int) pa_nil))) (pg_tup rfl (pgs_cons (pg_name (i := 4) sc__law_boxed.nd rfl (by first | exact Or.inl rfl | exact Or.inr rfl)) (pgs_cons (pg_name (i := 5) sc__law_boxed.nd rfl (by first | exact Or.inl rfl | exact Or.inr rfl)) pgs_nil))))
      (pss_cons (ps_set (i := 6) sc__law_boxed.nd rfl (by first | exact Or.inl rfl | exact Or.inr rfl) (pe_lst (pa_cons (pe_tup (pa_cons (pv 4) (pa_cons (pv 5) pa_nil))) (pa_cons (pe_tup (pa_cons (pe_op op_add (pv 4) pe_int) (pa_cons (pv 5) pa_nil))) (pa_cons (pe_tup (pa_cons (pv 4) (pa_cons (pe_op op_add (pv 5) pe_int) pa_nil))) (pa_cons (pe_tup (pa_cons (pe_op op_add (pv 4) pe_int) (pa_cons (pe_op op_add (pv 5) pe_int) pa_nil))) pa_nil))))))
      (pss_cons (ps_if (pt_cmpR op_eq (pe_cal C__law_draw (hr.mono (by decide)) (by rfl) (pa_cons (pv 0) (pa_cons pe_int pa_nil))) pe_int (nomark _)) (pss_one (ps_set (i := 6) sc__law_boxed.nd rfl (by first | exact Or.inl rfl | exact Or.inr rfl) (pe_op op_cat (pv 6) (pe_lst (pa_cons (pe_tup (pa_cons (pe_op op_add (pe_op op_add (pv 4) pe_int) (pe_cal C__law_draw (hr.mono (by decide)) (by rfl) (pa_cons (pv 0) (pa_cons pe_int pa_nil)))) (pa_cons (pv 5) pa_nil))) (pa_cons (pe_tup (pa_cons (pv 4) (pa_cons (pe_op op_add (pe_op op_add (pv 5) pe_int) (pe_cal C__law_draw (hr.mono (by decide)) (by rfl) (pa_cons (pv 0) (pa_cons pe_int pa_nil)))) pa_nil))) pa_nil)))))) (pss_one (ps_expr (pe_bm PySem.F.plainAttrs_list PySem.F.slot_list_extend PySem.F.type_list_extend mt_extend (pv 6) (pa_cons (pe_lc (own := [("_law_turn", 2)]) (g := (gName 2)) (tt := tYes) rfl sc__law_boxed.nd (pi_range1 (by rfl) Z.range_ (pa_cons (pe_cal C__law_draw (hr.mono (by decide)) (by rfl) (pa_cons (pv 0) (pa_cons pe_int pa_nil))) pa_nil)) (blkOk_by (N := N__law_boxed) (sc := defScope s__law_boxed) (by decide +kernel)) (fun _ _ _ _ _ => (pg_name (i := 2) sc__law_boxed.nd rfl (by first | exact Or.inl rfl | exact Or.inr rfl))) (fun _ _ _ _ _ => pts_nil) (fun _ _ _ _ _ => (pe_tup (pa_cons (pe_op op_sub (pe_op op_add (pv 4) (pe_cal C__law_draw (hr.mono (by decide)) (by rfl) (pa_cons (pv 0) (pa_cons pe_int pa_nil)))) pe_int) (pa_cons (pe_op op_sub (pe_op op_add (pv 5) (pe_cal C__law_draw (hr.mono (by decide)) (by rfl) (pa_cons (pv 0) (pa_cons pe_int pa_nil)))) pe_int) pa_nil))))) pa_nil)))))
      (pss_cons (ps_set (i := 7) sc__law_boxed.nd rfl (by first | exact Or.inl rfl | exact Or.inr rfl) (pe_ix ix_list (pv 6) (pe_cal C__law_draw (hr.mono (by decide)) (by rfl) (pa_cons (pv 0) (pa_cons (pe_callB call_len_seq (by rfl) Z.len_ (by decide +kernel) (pa_cons (pv 6) pa_nil)) pa_nil))) (fun _ _ => rfl)))
      (pss_cons (ps_set (i := 8) sc__law_boxed.nd rfl (by first | exact Or.inl rfl | exact Or.inr rfl) (pe_callB (cr_sortedC rfl (hu64 hr)) (by rfl) Z.sorted_ (by decide +kernel) (pa_cons (pe_callTy (cr_setOfC rfl (hu64 hr)) (by rfl) Z.set_ (by decide +kernel) (pa_cons (pv 6) pa_nil)) pa_nil)))
      (pss_cons (ps_set (i := 9) sc__law_boxed.nd rfl (by first | exact Or.inl rfl | exact Or.inr rfl) (pe_op op_cat (pe_cal C__law_half (hr.mono (by decide)) (by rfl) (pa_cons (pv 8) pa_nil)) (pe_cal C__law_half (hr.mono (by decide)) (by rfl) (pa_cons (pe_revL (pv 8)) pa_nil))))
      (pss_cons (ps_set (i := 10) sc__law_boxed.nd rfl (by first | exact Or.inl rfl | exact Or.inr rfl) (pe_cal C__law_draw (hr.mono (by decide)) (by rfl) (pa_cons (pv 0) (pa_cons (pe_callB call_len_seq (by rfl) Z.len_ (by decide +kernel) (pa_cons (pv 9) pa_nil)) pa_nil))))
      (pss_cons (ps_set (i := 9) sc__law_boxed.nd rfl (by first | exact Or.inl rfl | exact Or.inr rfl) (pe_op op_rep (pe_op op_cat (pe_slice sl_list (pv 9) (po_some (pv 10)) po_none) (pe_slice sl_list (pv 9) po_none (po_some (pv 10)))) (pe_op op_add pe_int (pe_callTy call_int1 (by rfl) Z.int_ (by decide +kernel) (pa_cons (pe_cmpR op_eq (pe_cal C__law_draw (hr.mono (by decide)) (by rfl) (pa_cons (pv 0) (pa_cons pe_int pa_nil))) pe_int (nomark _)) pa_nil)))))
      (pss_cons (ps_asg (pe_ix ix_list (pv 1) pe_int (fun _ _ => rfl)) (pg_tup rfl (pgs_cons (pg_name (i := 11) sc__law_boxed.nd rfl (by first | exact Or.inl rfl | exact Or.inr rfl)) (pgs_cons (pg_name (i := 12) sc__law_boxed.nd rfl (by first | exact Or.inl rfl | exact Or.inr rfl)) pgs_nil))))
      (pss_cons (ps_set (i := 13) sc__law_boxed.nd rfl (by first | exact Or.inl rfl | exact Or.inr rfl) (pe_tup (pa_cons (pe_tup (pa_cons (pv 11) (pa_cons pe_int pa_nil))) (pa_cons (pe_tup (pa_cons (pv 12) (pa_cons pe_int pa_nil))) pa_nil))))
      (pss_one (ps_ret (pe_tup (pa_cons (pv 3) (pa_cons (pe_tup (pa_cons pe_str (pa_cons (pv 13) (pa_cons (pe_callTy call_tuple_of (by rfl) Z.tuple_ (by decide +kernel) (pa_cons (pv 9) pa_nil)) (pa_cons (pv 7) (pa_cons (pe_tup (pa_cons (pv 4) (pa_cons (pv 5) pa_nil))) (pa_cons (pe_op op_repT (pe_tup (pa_cons (pe_callTy call_tuple_of (by rfl) Z.tuple_ (by decide +kernel) (pa_cons (pe_slice sl_list (pv 1) po_none (po_some pe_int)) pa_nil)) pa_nil)) (pe_callB call_len_seq (by rfl) Z.len_ (by decide +kernel) (pa_cons (pv 9) pa_nil))) pa_nil))))))) pa_nil)))))))))))))))))
abbrev s__law_put_off : Stmt := topS 48
abbrev N__law_put_off : List Str := ["_law_deal_here", "_law_paper", "_law_word", "_law_v", "_law_ring", "_law_middle", "_law_corner", "_law_rows", "_law_wide", "_law_x", "_law_y", "_law_cell", "_law_moved", "_law_row", "_law_at"]
theorem sc__law_put_off : FnScope N__law_put_off ["_law_deal_here", "_law_paper"] (defScope s__law_put_off) := ⟨rfl, rfl, rfl, by decide +kernel, rfl, by decide +kernel, by decide +kernel⟩
def t__law_put_off (K : PySem.W.Frag) (sp__law_draw : Sp) : TS :=
    (tSeq (tAsg (tVar 1) (gTup K 6 (gCons (gName 2) (gCons (gName 3) (gCons (gName 4) (gCons (gName 5) (gCons (gName 6) (gCons (gName 7) gNil))))))))
    (tSeq (tAsg (tOp (rIxL K) (tLst (tCons (tC (.int 3)) (tCons (tC (.int 900)) tNil))) (tCall sp__law_draw [] E0 (tCons (tVar 0) (tCons (tC (.int 2)) tNil)))) (gName 8))
    (tSeq (tAsg (tTup (tCons (tOp rSubI (tCall sp__law_draw [] E0 (tCons (tVar 0) (tCons (tOp rAddI (tOp rMulI (tC (.int 2)) (tVar 8)) (tC (.int 1))) tNil))) (tVar 8)) (tCons (tOp rSubI (tCall sp__law_draw [] E0 (tCons (tVar 0) (tCons (tOp rAddI (tOp rMulI (tC (.int 2)) (tVar 8)) (tC (.int 1))) tNil))) (tVar 8)) tNil))) (gTup K 2 (gCons (gName 9) (gCons (gName 10) gNil))))
    (tSeq (tAsg (tLc (iList K (tOp rCat (tCB (rListOf K) (tCons (tVar 4) tNil)) (tLst (tCons (tVar 5) (tCons (tVar 6) tNil))))) (gName 11) tYes (tTup (tCons (tOp rAddI (tOp (rIxT K) (tVar 11) (tC (.int 0))) (tVar 9)) (tCons (tOp rAddI (tOp (rIxT K) (tVar 11) (tC (.int 1))) (tVar 10)) tNil))) [11]) (gName 12))
    (tSeq (tIfS (tTest (tOp rEq (tCall sp__law_draw [] E0 (tCons (tVar 0) (tCons (tC (.int 2)) tNil))) (tC (.int 0)))) (tAsg (tCB (rTupleOf K) (tCons (tLc (iTup K (tVar 7)) (gName 13) tYes (tRevT (tVar 13)) [13]) tNil)) (gName 7)) tNext)
    (tSeq (tAsg (tCall sp__law_draw [] E0 (tCons (tVar 0) (tCons (tCB (rLenSeq K) (tCons (tVar 4) tNil)) tNil))) (gName 14))
    (tSeq (tAsg (tCB (rTupleOf K) (tCons (tOp rCat (tSl (rSlL K) (tVar 12) (tPart (tVar 14)) (tPart (tUn rNegI (tC (.int 2))))) (tSl (rSlL K) (tVar 12) tNoPart (tPart (tVar 14)))) tNil)) (gName 4))
    (tRet (tTup (tCons (tVar 2) (tCons (tVar 3) (tCons (tVar 4) (tCons (tOp (rIxL K) (tVar 12) (tUn rNegI (tC (.int 2)))) (tCons (tOp (rIxL K) (tVar 12) (tUn rNegI (tC (.int 1)))) (tCons (tOp (rCatA K) (tSl (rSlA K) (tVar 7) (tPart (tVar 14)) tNoPart) (tSl (rSlA K) (tVar 7) tNoPart (tPart (tVar 14)))) tNil)))))))))))))))
set_option maxHeartbeats 4000000 in
theorem d__law_put_off {sp__law_draw : Sp} (Z : Blt mg) (C__law_draw : Cal P w K mg base 1 "_law_draw" ["_law_deal_here", "_law_many"] sp__law_draw) (hr : Room 1 (A.deeper (envOfC "_law_put_off" (defScope s__law_put_off) s.heap.objs.size f cdv))) : PSs (cxOf CX0 P w K mg base N__law_put_off "_law_put_off" (defScope s__law_put_off) f cdv A outer s H E).nox (defBody s__law_put_off) (t__law_put_off K sp__law_draw) :=
    (pss_cons (ps_asg (pv 1) (pg_tup rfl (pgs_cons (pg_name (i := 2) sc__law_put_off.nd rfl (by first | exact Or.inl rfl | exact Or.inr rfl)) (pgs_cons (pg_name (i := 3) sc__law_put_off.nd rfl (by first | exact Or.inl rfl | exact Or.inr rfl)) (pgs_cons (pg_name (i := 4) sc__law_put_off.nd rfl (by first | exact Or.inl rfl | exact Or.inr rfl)) (pgs_cons (pg_name (i := 5) sc__law_put_off.nd rfl (by first | exact Or.inl rfl | exact Or.inr rfl)) (pgs_cons (pg_name (i := 6) sc__law_put_off.nd rfl (by first | exact Or.inl rfl | exact Or.inr rfl)) (pgs_cons (pg_name (i := 7) sc__law_put_off.nd rfl (by first | exact Or.inl rfl | exact Or.inr rfl)) pgs_nil))))))))
      (pss_cons (ps_set (i := 8) sc__law_put_off.nd rfl (by first | exact Or.inl rfl | exact Or.inr rfl) (pe_ix ix_list (pe_lst (pa_cons pe_int (pa_cons pe_int pa_nil))) (pe_cal C__law_draw (hr.mono (by decide)) (by rfl) (pa_cons (pv 0) (pa_cons pe_int pa_nil))) (fun _ _ => rfl)))
      (pss_cons (ps_asg (pe_tup (pa_cons (pe_op op_sub (pe_cal C__law_draw (hr.mono (by decide)) (by rfl) (pa_cons (pv 0) (pa_cons (pe_op op_add (pe_op op_mul pe_int (pv 8)) pe_int) pa_nil))) (pv 8)) (pa_cons (pe_op op_sub (pe_cal C__law_draw (hr.mono (by decide)) (by rfl) (pa_cons (pv 0) (pa_cons (pe_op op_add (pe_op op_mul pe_int (pv 8)) pe_int) pa_nil))) (pv 8)) pa_nil))) (pg_tup rfl (pgs_cons (pg_name (i := 9) sc__law_put_off.nd rfl (by first | exact Or.inl rfl | exact Or.inr rfl)) (pgs_cons (pg_name (i := 10) sc__law_put_off.nd rfl (by first | exact Or.inl rfl | exact Or.inr rfl)) pgs_nil))))
      (pss_cons (by first | exact ps_setLc (i := 12) (own := [("_law_cell", 11)]) (g := (gName 11)) (tt := tYes) rfl sc__law_put_off.nd rfl rfl (sw_true rfl rfl rfl (by decide +kernel)) (pi_list (pe_op op_cat (pe_callTy call_list_of (by rfl) Z.list_ (by decide +kernel) (pa_cons (pv 4) pa_nil)) (pe_lst (pa_cons (pv 5) (pa_cons (pv 6) pa_nil))))) (blkOk_by (N := N__law_put_off) (sc := defScope s__law_put_off) (by decide +kernel)) (fun _ _ _ _ _ => (pg_name (i := 11) sc__law_put_off.nd rfl (by first | exact Or.inl rfl | exact Or.inr rfl))) (fun _ _ _ _ _ => pts_nil) (fun _ _ _ _ _ => (pe_tup (pa_cons (pe_op op_add (pe_ix ix_tup (pv 11) pe_int (fun _ _ => rfl)) (pv 9)) (pa_cons (pe_op op_add (pe_ix ix_tup (pv 11) pe_int (fun _ _ => rfl)) (pv 10)) pa_nil)))) | exact ps_set (i := 12) sc__law_put_off.nd rfl (by first | exact Or.inl rfl | exact Or.inr rfl) (pe_lc (own := [("_law_cell", 11)]) (g := (gName 11)) (tt := tYes) rfl sc__law_put_off.nd (pi_list (pe_op op_cat (pe_callTy call_list_of (by rfl) Z.list_ (by decide +kernel) (pa_cons (pv 4) pa_nil)) (pe_lst (pa_cons (pv 5) (pa_cons (pv 6) pa_nil))))) (blkOk_by (N := N__law_put_off) (sc := defScope s__law_put_off) (by decide +kernel)) (fun _ _ _ _ _ => (pg_name (i := 11) sc__law_put_off.nd rfl (by first | exact Or.inl rfl | exact Or.inr rfl))) (fun _ _ _ _ _ => pts_nil) (fun _ _ _ _ _ => (pe_tup (pa_cons (pe_op op_add (pe_ix ix_tup (pv 11) pe_int (fun _ _ => rfl)) (pv 9)) (pa_cons (pe_op op_add (pe_ix ix_tup (pv 11) pe_int (fun _ _ => rfl)) (pv 10)) pa_nil))))))
      (pss_cons (ps_if (pt_cmpR op_eq (pe_cal C__law_draw (hr.mono (by decide)) (by rfl) (pa_cons (pv 0) (pa_cons pe_int pa_nil))) pe_int (nomark _)) (pss_one (ps_set (i := 7) sc__law_put_off.nd rfl (by first | exact Or.inl rfl | exact Or.inr rfl) (pe_callTy call_tuple_of (by rfl) Z.tuple_ (by decide +kernel) (pa_cons (pe_lc (own := [("_law_row", 13)]) (g := (gName 13)) (tt := tYes) rfl sc__law_put_off.nd (pi_tup (pv 7)) (blkOk_by (N := N__law_put_off) (sc := defScope s__law_put_off) (by decide +kernel)) (fun _ _ _ _ _ => (pg_name (i := 13) sc__law_put_off.nd rfl (by first | exact Or.inl rfl | exact Or.inr rfl))) (fun _ _ _ _ _ => pts_nil) (fun _ _ _ _ _ => (pe_revT (pv 13)))) pa_nil)))) pss_nil)
      (pss_cons (ps_set (i := 14) sc__law_put_off.nd rfl (by first | exact Or.inl rfl | exact Or.inr rfl) (pe_cal C__law_draw (hr.mono (by decide)) (by rfl) (pa_cons (pv 0) (pa_cons (pe_callB call_len_seq (by rfl) Z.len_ (by decide +kernel) (pa_cons (pv 4) pa_nil)) pa_nil))))
      (pss_cons (ps_set (i := 4) sc__law_put_off.nd rfl (by first | exact Or.inl rfl | exact Or.inr rfl) (pe_callTy call_tuple_of (by rfl) Z.tuple_ (by decide +kernel) (pa_cons (pe_op op_cat (pe_slice sl_list (pv 12) (po_some (pv 14)) (po_some (pe_un un_neg pe_int))) (pe_slice sl_list (pv 12) po_none (po_some (pv 14)))) pa_nil)))
      (pss_one (ps_ret (pe_tup (pa_cons (pv 2) (pa_cons (pv 3) (pa_cons (pv 4) (pa_cons (pe_ix ix_list (pv 12) (pe_un un_neg pe_int) (fun _ _ => rfl)) (pa_cons (pe_ix ix_list (pv 12) (pe_un un_neg pe_int) (fun _ _ => rfl)) (pa_cons (pe_op op_catA (pe_slice sl_tupA (pv 7) (po_some (pv 14)) po_none) (pe_slice sl_tupA (pv 7) po_none (po_some (pv 14)))) pa_nil))))))))))))))))
abbrev s_law : Stmt := topS 49
abbrev N_law : List Str := ["_law_script", "_law_deal_here", "_law_x", "_law_y", "_law_lower", "_law_plain_here", "_law_paper", "_law_many", "_law_k", "_law_cell", "_law_island", "_law_here"]
theorem sc_law : FnScope N_law ["_law_script"] (defScope s_law) := ⟨rfl, rfl, rfl, by decide +kernel, rfl, by decide +kernel, by decide +kernel⟩
def t_law (K : PySem.W.Frag) (sp__law_deal sp__law_about sp__law_fraction sp_land_of sp__law_put_off sp__law_draw sp__law_boxed sp__law_told_right sp_land_cells sp__law_beat sp__law_stands sp_cell_at sp_beats : Sp) : TS :=
    (tSeq (tAsg (tCall sp__law_deal [] E0 (tCons (tVar 0) tNil)) (gName 1))
    (tSeq (tAsg (tCall sp__law_about [] E0 (tCons (tVar 1) tNil)) (gTup K 2 (gCons (gTup K 3 (gCons (gName 2) (gCons (gName 3) (gCons (gName 4) gNil)))) (gCons (gName 5) gNil))))
    (tSeq (tAsg (tCall sp__law_put_off [] E0 (tCons (tVar 1) (tCons (tCall sp_land_of [] E0 (tCons (tVar 5) (tCons (tTup (tCons (tCall sp__law_fraction [] E0 (tCons (tVar 2) (tCons (tVar 4) tNil))) (tCons (tCall sp__law_fraction [] E0 (tCons (tVar 3) (tCons (tVar 4) tNil))) tNil))) tNil))) tNil))) (gName 6))
    (tSeq (tIfS (tTest (tOp rEq (tCall sp__law_draw [] E0 (tCons (tVar 1) (tCons (tC (.int 3)) tNil))) (tC (.int 0)))) (tAsg (tCall sp__law_boxed [] E0 (tCons (tVar 1) tNil)) (gTup K 2 (gCons (gName 5) (gCons (gName 6) gNil)))) tNext)
    (tSeq (tFor (iTup K (tTup (tCons (tC (.int 0)) (tCons (tC (.int 1)) (tCons (tC (.int 2)) (tCons (tC (.int 3)) (tCons (tCall sp__law_draw [] E0 (tCons (tVar 1) (tCons (tOp rPowI (tC (.int 10)) (tC (.int 6))) tNil))) (tCons (tOp rSubI (tOp rPowI (tC (.int 10)) (tC (.int 18))) (tCall sp__law_draw [] E0 (tCons (tVar 1) (tCons (tC (.int 1000)) tNil)))) tNil)))))))) (gName 7) (tIfS (tNot (tB (tCall sp__law_told_right [] E0 (tCons (tVar 6) (tCons (tVar 7) tNil))))) (tRet (tC (.bl false))) tNext))
    (tSeq (tFor (iTup K (tTup (tCons (tC (.int 0)) (tCons (tC (.int 1)) tNil)))) (gName 8) (tIfS (tTest (tOp rGtI (tOp rSubI (tCB (rMax K) (tCons (tLc (iTup K (tOp (rIxT K) (tVar 6) (tC (.int 2)))) (gName 9) tYes (tOp (rIxT K) (tVar 9) (tVar 8)) [9]) tNil)) (tCB (rMin K) (tCons (tLc (iTup K (tOp (rIxT K) (tVar 6) (tC (.int 2)))) (gName 9) tYes (tOp (rIxT K) (tVar 9) (tVar 8)) [9]) tNil))) (tC (.int 10)))) (tRet (tC (.bl true))) tNext))
    (tSeq (tAsg (tCall sp_land_cells [] E0 (tCons (tOp (rIxT K) (tVar 6) (tC (.int 2))) tNil)) (gName 10))
    (tSeq (tIfS (tTest (tOp rGtI (tCB (rLenSeq K) (tCons (tVar 10) tNil)) (tC (.int 80)))) (tRet (tC (.bl true))) tNext)
    (tSeq (tAsg (tVar 10) (gName 11))
    (tSeq (tFor (iRng2 (tCons (tC (.int 1)) (tCons (tC (.int 4)) tNil))) (gName 7) (tSeq (tAsg (tCall sp__law_beat [] E0 (tCons (tVar 5) (tCons (tVar 11) tNil))) (gName 11))
    (tIfS (tNot (tB (tCall sp__law_stands [] E0 (tCons (tVar 6) (tCons (tVar 10) (tCons (tVar 11) (tCons (tVar 7) tNil))))))) (tRet (tC (.bl false))) tNext)))
    (tRet (tOp (rInT K) (tCall sp_cell_at [] E0 (tCons (tVar 6) (tCons (tC (.int 2)) tNil))) (tCall sp_beats [] E0 (tCons (tVar 5) (tCons (tVar 10) (tCons (tC (.int 2)) tNil))))))))))))))))
set_option maxHeartbeats 4000000 in
theorem d_law {sp__law_deal sp__law_about sp__law_fraction sp_land_of sp__law_put_off sp__law_draw sp__law_boxed sp__law_told_right sp_land_cells sp__law_beat sp__law_stands sp_cell_at sp_beats : Sp} (Z : Blt mg) (C__law_deal : Cal P w K mg base 1 "_law_deal" ["_law_script"] sp__law_deal) (C__law_about : Cal P w K mg base 3 "_law_about" ["_law_deal_here"] sp__law_about) (C__law_fraction : Cal P w K mg base 1 "_law_fraction" ["_law_upper", "_law_lower"] sp__law_fraction) (C_land_of : Cal P w K mg base 4 "land_of" ["plain", "v"] sp_land_of) (C__law_put_off : Cal P w K mg base 2 "_law_put_off" ["_law_deal_here", "_law_paper"] sp__law_put_off) (C__law_draw : Cal P w K mg base 1 "_law_draw" ["_law_deal_here", "_law_many"] sp__law_draw) (C__law_boxed : Cal P w K mg base 3 "_law_boxed" ["_law_deal_here"] sp__law_boxed) (C__law_told_right : Cal P w K mg base 5 "_law_told_right" ["_law_paper", "_law_many"] sp__law_told_right) (C_land_cells : Cal P w K mg base 2 "land_cells" ["ring"] sp_land_cells) (C__law_beat : Cal P w K mg base 1 "_law_beat" ["_law_plain_here", "_law_island"] sp__law_beat) (C__law_stands : Cal P w K mg base 5 "_law_stands" ["_law_paper", "_law_island", "_law_here", "_law_many"] sp__law_stands) (C_cell_at : Cal P w K mg base 4 "cell_at" ["paper", "many"] sp_cell_at) (C_beats : Cal P w K mg base 4 "beats" ["plain", "island", "many"] sp_beats) (hr : Room 5 (A.deeper (envOfC "law" (defScope s_law) s.heap.objs.size f cdv))) : PSs (cxOf CX0 P w K mg base N_law "law" (defScope s_law) f cdv A outer s H E).nox (defBody s_law) (t_law K sp__law_deal sp__law_about sp__law_fraction sp_land_of sp__law_put_off sp__law_draw sp__law_boxed sp__law_told_right sp_land_cells sp__law_beat sp__law_stands sp_cell_at sp_beats) :=
    (pss_cons (ps_set (i := 1) sc_law.nd rfl (by first | exact Or.inl rfl | exact Or.inr rfl) (pe_cal C__law_deal (hr.mono (by decide)) (by rfl) (pa_cons (pv 0) pa_nil)))
      (pss_cons (ps_asg (pe_cal C__law_about (hr.mono (by decide)) (by rfl) (pa_cons (pv 1) pa_nil)) (pg_tup rfl (pgs_cons (pg_tup rfl (pgs_cons (pg_name (i := 2) sc_law.nd rfl (by first | exact Or.inl rfl | exact Or.inr rfl)) (pgs_cons (pg_name (i := 3) sc_law.nd rfl (by first | exact Or.inl rfl | exact Or.inr rfl)) (pgs_cons (pg_name (i := 4) sc_law.nd rfl (by first | exact Or.inl rfl | exact Or.inr rfl)) pgs_nil)))) (pgs_cons (pg_name (i := 5) sc_law.nd rfl (by first | exact Or.inl rfl | exact Or.inr rfl)) pgs_nil))))
      (pss_cons (ps_set (i := 6) sc_law.nd rfl (by first | exact Or.inl rfl | exact Or.inr rfl) (pe_cal C__law_put_off (hr.mono (by decide)) (by rfl) (pa_cons (pv 1) (pa_cons (pe_cal C_land_of (hr.mono (by decide)) (by rfl) (pa_cons (pv 5) (pa_cons (pe_tup (pa_cons (pe_cal C__law_fraction (hr.mono (by decide)) (by rfl) (pa_cons (pv 2) (pa_cons (pv 4) pa_nil))) (pa_cons (pe_cal C__law_fraction (hr.mono (by decide)) (by rfl) (pa_cons (pv 3) (pa_cons (pv 4) pa_nil))) pa_nil))) pa_nil))) pa_nil))))
      (pss_cons (ps_if (pt_cmpR op_eq (pe_cal C__law_draw (hr.mono (by decide)) (by rfl) (pa_cons (pv 1) (pa_cons pe_int pa_nil))) pe_int (nomark _)) (pss_one (ps_asg (pe_cal C__law_boxed (hr.mono (by decide)) (by rfl) (pa_cons (pv 1) pa_nil)) (pg_tup rfl (pgs_cons (pg_name (i := 5) sc_law.nd rfl (by first | exact Or.inl rfl | exact Or.inr rfl)) (pgs_cons (pg_name (i := 6) sc_law.nd rfl (by first | exact Or.inl rfl | exact Or.inr rfl)) pgs_nil))))) pss_nil)
      (pss_cons (ps_for PassesOwn.never rfl (pi_tup (pe_tup (pa_cons pe_int (pa_cons pe_int (pa_cons pe_int (pa_cons pe_int (pa_cons (pe_cal C__law_draw (hr.mono (by decide)) (by rfl) (pa_cons (pv 1) (pa_cons (pe_op op_pow pe_int pe_int) pa_nil))) (pa_cons (pe_op op_sub (pe_op op_pow pe_int pe_int) (pe_cal C__law_draw (hr.mono (by decide)) (by rfl) (pa_cons (pv 1) (pa_cons pe_int pa_nil)))) pa_nil)))))))) (pg_name (i := 7) sc_law.nd rfl (by first | exact Or.inl rfl | exact Or.inr rfl)) (pss_one (ps_if (pt_not (pt_val (pe_cal C__law_told_right (hr.mono (by decide)) (by rfl) (pa_cons (pv 6) (pa_cons (pv 7) pa_nil))))) (pss_one (ps_ret pe_bl)) pss_nil)))
      (pss_cons (ps_for PassesOwn.never rfl (pi_tup (pe_tup (pa_cons pe_int (pa_cons pe_int pa_nil)))) (pg_name (i := 8) sc_law.nd rfl (by first | exact Or.inl rfl | exact Or.inr rfl)) (pss_one (ps_if (pt_cmpR op_gt (pe_op op_sub (pe_callB (cr_max rfl) (by rfl) Z.max_ (by decide +kernel) (pa_cons (pe_lc (own := [("_law_cell", 9)]) (g := (gName 9)) (tt := tYes) rfl sc_law.nd (pi_tup (pe_ix ix_tup (pv 6) pe_int (fun _ _ => rfl))) (blkOk_by (N := N_law) (sc := defScope s_law) (by decide +kernel)) (fun _ _ _ _ _ => (pg_name (i := 9) sc_law.nd rfl (by first | exact Or.inl rfl | exact Or.inr rfl))) (fun _ _ _ _ _ => pts_nil) (fun _ _ _ _ _ => (pe_ix ix_tup (pv 9) (pv 8) (fun _ _ => rfl)))) pa_nil)) (pe_callB (cr_min rfl) (by rfl) Z.min_ (by decide +kernel) (pa_cons (pe_lc (own := [("_law_cell", 9)]) (g := (gName 9)) (tt := tYes) rfl sc_law.nd (pi_tup (pe_ix ix_tup (pv 6) pe_int (fun _ _ => rfl))) (blkOk_by (N := N_law) (sc := defScope s_law) (by decide +kernel)) (fun _ _ _ _ _ => (pg_name (i := 9) sc_law.nd rfl (by first | exact Or.inl rfl | exact Or.inr rfl))) (fun _ _ _ _ _ => pts_nil) (fun _ _ _ _ _ => (pe_ix ix_tup (pv 9) (pv 8) (fun _ _ => rfl)))) pa_nil))) pe_int (nomark _)) (pss_one (ps_ret pe_bl)) pss_nil)))
      (pss_cons (ps_set (i := 10) sc_law.nd rfl (by first | exact Or.inl rfl | exact Or.inr rfl) (pe_cal C_land_cells (hr.mono (by decide)) (by rfl) (pa_cons (pe_ix ix_tup (pv 6) pe_int (fun _ _ => rfl)) pa_nil)))
      (pss_cons (ps_if (pt_cmpR op_gt (pe_callB call_len_seq (by rfl) Z.len_ (by decide +kernel) (pa_cons (pv 10) pa_nil)) pe_int (nomark _)) (pss_one (ps_ret pe_bl)) pss_nil)
      (pss_cons (ps_set (i := 11) sc_law.nd rfl (by first | exact Or.inl rfl | exact Or.inr rfl) (pv 10))
      (pss_cons (ps_for PassesOwn.never rfl (pi_range2 (by rfl) Z.range_ (pa_cons pe_int (pa_cons pe_int pa_nil))) (pg_name (i := 7) sc_law.nd rfl (by first | exact Or.inl rfl | exact Or.inr rfl)) (pss_cons (ps_set (i := 11) sc_law.nd rfl (by first | exact Or.inl rfl | exact Or.inr rfl) (pe_cal C__law_beat (hr.mono (by decide)) (by rfl) (pa_cons (pv 5) (pa_cons (pv 11) pa_nil))))
      (pss_one (ps_if (pt_not (pt_val (pe_cal C__law_stands (hr.mono (by decide)) (by rfl) (pa_cons (pv 6) (pa_cons (pv 10) (pa_cons (pv 11) (pa_cons (pv 7) pa_nil))))))) (pss_one (ps_ret pe_bl)) pss_nil))))
      (pss_one (ps_ret (pe_cmpR (op_inT (hu65 hr)) (pe_cal C_cell_at (hr.mono (by decide)) (by rfl) (pa_cons (pv 6) (pa_cons pe_int pa_nil))) (pe_cal C_beats (hr.mono (by decide)) (by rfl) (pa_cons (pv 5) (pa_cons (pv 10) (pa_cons pe_int pa_nil)))) rfl)))))))))))))
end
end K84
namespace K84
open L2 PySem PySem.Spec PyProof.Rows
section
variable {K : PySem.W.Frag} {σ : L2.St} {H H0 : Hp} {α : Type} {Rx : Hp → V → α → Prop} {ds es : List α} {d e : α} {tl tb te : TE} {a : Addr} {xs : List V}
theorem NewL.of {H0 H' : Hp} {q : Addr} {ys : List V} (h1 : H0 q = none) (h2 : H' q = some (.lst ys)) (h3 : Paired (Rx H') ys ds) : NewL H0 Rx ds H' (.ref q) := ⟨q, ys, rfl, h1, h2, h3⟩
/-- a display of two things of a kind -/
theorem ev_lst2 (tm : TMono Rx) (ha : Ev tl σ H (fun H v => Rx H v d)) (hb : Ev tb σ H (fun H v => Rx H v e)) : Ev (tLst (tCons tl (tCons tb tNil))) σ H (NewL H Rx [d, e]) := fun H1 h1 Q q =>
  evA_2 ha (tm.mono d) hb H1 h1 _ fun vs H2 e2 hv => by
    obtain ⟨v, u, rfl, r1, r2⟩ := hv
    refine ⟨by show 2 ≤ sizeLine; decide, fun p hp => q _ _ (e2.trans (same_new hp)) ⟨p, [v, u], rfl, (h1.trans e2).free hp, upd_same, .cons (tm _ _ _ _ (text_new hp) r1) (.cons (tm _ _ _ _ (text_new hp) r2) .nil)⟩⟩
theorem ev_lst1 (tm : TMono Rx) (ha : Ev tl σ H (fun H v => Rx H v d)) : Ev (tLst (tCons tl tNil)) σ H (NewL H Rx [d]) := fun H1 h1 Q q =>
  evA_1 ha H1 h1 _ fun vs H2 e2 hv => by
    obtain ⟨v, rfl, r1⟩ := hv
    refine ⟨by show 1 ≤ sizeLine; decide, fun p hp => q _ _ (e2.trans (same_new hp)) ⟨p, [v], rfl, (h1.trans e2).free hp, upd_same, .cons (tm _ _ _ _ (text_new hp) r1) .nil⟩⟩
/-- xs + ys of lists -/
theorem ev_cat (tm : TMono Rx) (ha : Ev tl σ H (fun H v => Lst H (Rx H) v ds)) (hb : Ev tb σ H (fun H v => Lst H (Rx H) v es)) (hz : ds.length + es.length < 16000000) : Ev (tOp rCat tl tb) σ H (NewL H Rx (ds ++ es)) := fun H1 h1 Q q =>
  ha H1 h1 _ fun x H2 e2 hx => hb H2 (h1.trans e2) _ fun y H3 e3 hy => by
    obtain ⟨p, xs, rfl, hp, px⟩ := hx
    obtain ⟨r, ys, rfl, hr, py⟩ := hy
    refine ⟨p, r, xs, ys, rfl, rfl, e3 _ _ hp, hr, by rw [sizeLine_eq, px.kLen, py.kLen]; omega, fun f hf => q _ _ ((e2.trans e3).trans (same_new hf)) ⟨f, _, rfl, ((h1.trans e2).trans e3).free hf, upd_same, ?_⟩⟩
    exact (px.kImp fun _ _ r => tm _ _ _ _ (e3.text.trans (text_new hf)) r).kApp (py.kImp fun _ _ r => tm _ _ _ _ (text_new hf) r)
theorem cutV_to (xs : List V) (k : Nat) : cutV xs none (some (k : Int)) = xs.take k := by
  unfold cutV
  rw [HT.sIx_none, HT.sIx_nat, List.drop_zero, Nat.sub_zero]
  rcases Nat.le_total k xs.length with h | h
  · rw [Nat.min_eq_left h]
  · rw [Nat.min_eq_right h, List.take_of_length_le h, List.take_length]
theorem cutV_from (xs : List V) (k : Nat) : cutV xs (some (k : Int)) none = xs.drop k := by
  unfold cutV
  rw [HT.sIx_none, HT.sIx_nat]
  rcases Nat.le_total k xs.length with h | h
  · rw [Nat.min_eq_left h, ← List.length_drop, List.take_length]
  · rw [Nat.min_eq_right h, List.drop_of_length_le h, List.drop_of_length_le (Nat.le_refl _)]; simp
/-- xs[:k], xs[k:] of lists -/
theorem ev_slTo {k : Nat} (tm : TMono Rx) (ha : Ev tl σ H (fun H v => Lst H (Rx H) v ds)) (hb : EvI tb σ H (k : Int)) : Ev (tSl (rSlL K) tl tNoPart (tPart tb)) σ H (NewL H Rx (ds.take k)) := fun H1 h1 Q q =>
  ha H1 h1 _ fun x H2 e2 hx => hb H2 (h1.trans e2) _ fun y H3 e3 hy => by
    obtain ⟨p, xs, rfl, hp, px⟩ := hx
    refine ⟨k, hy, p, xs, rfl, SqL.of (e3 _ _ hp), fun f hf => q _ _ ((e2.trans e3).trans (same_new hf)) ⟨f, _, rfl, ((h1.trans e2).trans e3).free hf, upd_same, ?_⟩⟩
    rw [cutV_to]
    exact (px.kImp fun _ _ r => tm _ _ _ _ (e3.text.trans (text_new hf)) r).kTake k
theorem ev_slFrom {k : Nat} (tm : TMono Rx) (ha : Ev tl σ H (fun H v => Lst H (Rx H) v ds)) (hb : EvI tb σ H (k : Int)) : Ev (tSl (rSlL K) tl (tPart tb) tNoPart) σ H (NewL H Rx (ds.drop k)) := fun H1 h1 Q q =>
  ha H1 h1 _ fun x H2 e2 hx => hb H2 (h1.trans e2) _ fun y H3 e3 hy => by
    obtain ⟨p, xs, rfl, hp, px⟩ := hx
    refine ⟨k, hy, p, xs, rfl, SqL.of (e3 _ _ hp), fun f hf => q _ _ ((e2.trans e3).trans (same_new hf)) ⟨f, _, rfl, ((h1.trans e2).trans e3).free hf, upd_same, ?_⟩⟩
    rw [cutV_from]
    exact (px.kImp fun _ _ r => tm _ _ _ _ (e3.text.trans (text_new hf)) r).kDrop k
theorem ev_varL {k : Nat} (h : σ[k]? = some (some (.ref a))) (tm : TMono Rx) (hx : H a = some (.lst xs)) (hp : Paired (Rx H) xs ds) : Ev (tVar k) σ H (fun H v => Lst H (Rx H) v ds) :=
  ev_var h fun H' e => ⟨a, xs, rfl, e _ _ hx, hp.kImp fun _ _ r => tm _ _ _ _ e.text r⟩

variable {D : Ends} {t u : TS} {g : TG} {R : Hp → V → Prop}
theorem s_forN (h : Ev tl σ H (NewL H0 Rx ds)) (k : ∀ p xs H1, Same H H1 → H0 p = none → H1 p = some (.lst xs) → Paired (Rx H1) xs ds → tFor (iList K (tC (.ref p))) g t D σ H1) : tFor (iList K tl) g t D σ H :=
  h H (Same.refl H) _ fun v H1 e hv => by
    obtain ⟨p, xs, rfl, h1, h2, h3⟩ := hv
    exact k p xs H1 e h1 h2 h3
theorem q_forN (h : Ev tl σ H (NewL H0 Rx ds)) (k : ∀ p xs H1, Same H H1 → H0 p = none → H1 p = some (.lst xs) → Paired (Rx H1) xs ds → tSeq (tFor (iList K (tC (.ref p))) g t) u D σ H1) : tSeq (tFor (iList K tl) g t) u D σ H := s_forN (D := { D with nx := u D }) h k
theorem evV_c {v : V} : Ev (tC v) σ H (fun _ u => u = v) := fun H1 _ _ q => q _ H1 (Same.refl H1) rfl
theorem wi_enum (hl : Ev tl σ H (fun _ v => v = .ref a)) (hx : H a = some (.lst xs)) : ∀ H1, Same H H1 → ∀ R : It → Hp → Prop, (∀ H2, Same H1 H2 → R (Ite K a) H2) → iEnum K (tCons tl tNil) σ H1 R := fun H1 e R q =>
  hl H1 e _ fun v H2 e2 hv => ⟨a, xs, by rw [hv], SqL.of ((e.trans e2) _ _ hx), q H2 e2⟩
/-- for i, x in enumerate(a list) -/
theorem q_forE (hl : Ev tl σ H (fun _ v => v = .ref a)) (hx : H a = some (.lst xs)) (Pv : Nat → L2.St → Hp → Prop) (h0 : ∀ H1, Same H H1 → Pv 0 σ H1) (hG : ∀ i σ' H', i ≤ xs.length → Pv i σ' H' → H' a = some (.lst xs)) {i j : Nat}
    (hs : ∀ k x σ' H' H2, xs[k]? = some x → Pv k σ' H' → Same H' H2 → t { D with nx := Pv (k + 1), ct := Pv (k + 1), bk := u D } ((σ'.set i (some (.int (k : Nat)))).set j (some x)) H2) (hd : ∀ σ' H', Pv xs.length σ' H' → u D σ' H') :
    tSeq (tFor (iEnum K (tCons tl tNil)) (gTup K 2 (gCons (gName i) (gCons (gName j) gNil))) t) u D σ H :=
  s_forW (D := { D with nx := u D }) (wi_enum hl hx) walk_enum Pv h0 (fun i σ' H' hi p => SqL.of (hG i σ' H' hi p)) (fun k x σ' H2 H3 hk p y => by
    obtain ⟨T, x1, x2, rfl, h1, rfl, h3, h4⟩ := y
    cases h3
    exact g_two rfl upd_same (hs k x2 σ' H2 _ h4 p (same_new h1))) hd
/-- xs.extend(ys) -/
theorem q_extend {l : Addr} (hl : H l = some (.lst xs)) (ha : Ev tl σ H (fun _ v => v = .ref l)) (h : Ev te σ H (NewL H Rx ds)) (hz : xs.length + ds.length < 16000000) (k : ∀ ys H1, Same H H1 → Paired (Rx H1) ys ds → u D σ (upd H1 l (.lst (xs ++ ys)))) :
    tSeq (tDrop (tBM K "list" rExtend tl (tCons te tNil))) u D σ H := ha H (Same.refl H) _ fun v H1 e1 hv => by
  subst hv
  refine ⟨Or.inl ⟨rfl, xs, SqL.of (e1 l _ hl)⟩, h H1 e1 _ fun v H2 e2 r => ?_⟩
  obtain ⟨p, ys, rfl, r1, r2, r3⟩ := r
  refine ⟨l, p, xs, ys, rfl, rfl, (e1.trans e2) l _ hl, r2, ?_, k ys H2 (e1.trans e2) r3⟩
  rw [sizeLine_eq, r3.kLen]; omega
/-- a, b = [], [] -/
theorem q_par00 {i j : Nat} (k : ∀ p r H1, Same H H1 → H p = none → H r = none → p ≠ r → H1 p = some (.lst []) → H1 r = some (.lst []) → u D ((σ.set i (some (.ref p))).set j (some (.ref r))) H1) : tSeq (tPar i j (tCons (tLst tNil) (tCons (tLst tNil) tNil))) u D σ H :=
  ⟨Nat.zero_le _, fun p hp => ⟨Nat.zero_le _, fun r hr => by
    have hpr : p ≠ r := fun z => by rw [z, upd_same] at hr; cases hr
    exact ⟨_, _, rfl, k p r _ ((same_new hp).trans (same_new hr)) hp ((same_new hp).free hr) hpr (by rw [upd_ne hpr, upd_same]) upd_same⟩⟩⟩
theorem q_par2 {i j : Nat} {Ra Rb : Hp → V → Prop} (ha : Ev tl σ H Ra) (hm : Mono Ra) (hb : Ev tb σ H Rb) (k : ∀ v w H1, Same H H1 → Ra H1 v → Rb H1 w → u D ((σ.set i (some v)).set j (some w)) H1) : tSeq (tPar i j (tCons tl (tCons tb tNil))) u D σ H :=
  evA_2 ha hm hb H (Same.refl H) (fun vs H1 => ∃ v w, vs = [v, w] ∧ u D ((σ.set i (some v)).set j (some w)) H1) fun vs H1 e r => by
    obtain ⟨v, w, rfl, r1, r2⟩ := r
    exact ⟨v, w, rfl, k v w H1 e r1 r2⟩
end
end K84
namespace K84
open L2 PySem PySem.Spec PyProof.Rows
local macro_rules | `(tactic| walk_at "cm") => `(tactic| first | assumption | exact Or.inl ⟨by omega, by omega⟩ | exact Or.inr ⟨by omega, by omega⟩)
local macro_rules | `(tactic| walk_at "ev") => `(tactic| first
  | assumption | exact evI_c | exact evI_var rfl | exact evV_var rfl | exact evC_var rfl (by assumption)
  | (refine evI_add ?_ ?_ <;> walk_at "ev") | (refine evI_sub ?_ ?_ <;> walk_at "ev")
  | (refine evI_mul ?_ ?_ ?_; (· walk_at "ev"); (· walk_at "ev"); (· walk_at "cm"))
  | (refine evI_fst ?_; walk_at "ev") | (refine evI_snd ?_; walk_at "ev") | (refine evI_neg ?_; walk_at "ev")
  | (refine evC_tup ?_ ?_ <;> walk_at "ev") | (refine evP_tup ?_ ?_ <;> walk_at "ev")
  | (refine evB_eq ?_ ?_ <;> walk_at "ev") | (refine evB_ne ?_ ?_ <;> walk_at "ev")
  | (refine evB_lt ?_ ?_ <;> walk_at "ev") | (refine evB_le ?_ ?_ <;> walk_at "ev") | (refine evB_gt ?_ ?_ <;> walk_at "ev") | (refine evB_ge ?_ ?_ <;> walk_at "ev")
  | (refine evT_test ?_; walk_at "ev") | (refine evT_B ?_; walk_at "ev") | (refine evT_not ?_; walk_at "ev") | exact evT_yes)
theorem natAbs_fmod (a b : Int) (h : b ≠ 0) : (a.fmod b).natAbs < b.natAbs := by
  rw [Int.fmod_eq_emod]
  have h1 := Int.emod_nonneg a h
  have h2 := Int.emod_lt a h
  split
  · omega
  · rename_i hc
    have h3 : a % b ≠ 0 := fun e => hc (.inr (Int.dvd_of_emod_eq_zero e))
    omega
theorem gcd_fmod (a b : Int) : Int.gcd b (a.fmod b) = Int.gcd a b := by
  rw [Int.fmod_def, Int.gcd_sub_mul_left_right, Int.gcd_comm]
/-- CMul by bounds -/
theorem cm_l {i j : Int} (h : i.natAbs ≤ 2 ^ 62) : CMul i j := Or.inl ⟨by omega, by omega⟩
theorem cm_r {i j : Int} (h : j.natAbs ≤ 2 ^ 62) : CMul i j := Or.inr ⟨by omega, by omega⟩

def sp_common : Sp := fun vs H Q _ => ∃ a b : Int, vs = [.int a, .int b] ∧ ∀ H', Same H H' → Q (.int (Int.gcd a b)) H'
theorem pure_common {K : PySem.W.Frag} (vs : List V) (H : Hp) (Q : VK) (E : XK) (h : sp_common vs H Q E) : t_common K { nx := fun _ H' => Q .non H', rt := Q } (start N_common vs) H := by
  obtain ⟨a, b, rfl, q⟩ := h
  show t_common K _ [some (.int a), some (.int b)] H
  refine q_while (fun m σ' H' => ∃ x y : Int, σ' = [some (.int x), some (.int y)] ∧ Same H H' ∧ Int.gcd x y = Int.gcd a b ∧ m = y.natAbs) b.natAbs ⟨a, b, rfl, Same.refl _, rfl, rfl⟩ ?_
  rintro m σ' H' ⟨x, y, rfl, e, hg, rfl⟩
  refine ⟨_, (by walk_at "ev" : EvT _ _ _ (!decide (y = 0))), fun hb H1 e1 => ?_, fun hb H1 e1 => ?_⟩
  · have hy : y ≠ 0 := by simpa using hb
    refine ⟨fun σ2 H2 => ∃ x' y' : Int, σ2 = [some (.int x'), some (.int y')] ∧ Same H H2 ∧ Int.gcd x' y' = Int.gcd a b ∧ y'.natAbs < y.natAbs, ?_, ?_⟩
    · rintro σ2 H2 ⟨x', y', rfl, e2, hg', hl⟩
      exact ⟨_, hl, x', y', rfl, e2, hg', rfl⟩
    · refine s_parI (evI_var rfl) (evI_modN (evI_var rfl) (evI_var rfl) hy) fun H2 e2 => ?_
      exact ⟨y, x.fmod y, rfl, (e.trans e1).trans e2, (gcd_fmod x y).trans hg, natAbs_fmod x y hy⟩
  · have hy : y = 0 := by simpa using hb
    subst hy
    refine s_ret (ev_abs (evI_var rfl)) fun v H2 e2 hv => ?_
    subst hv
    have hx : (if x < 0 then -x else x) = (Int.gcd a b : Int) := by
      rw [← hg, Int.gcd_zero_right]
      split <;> omega
    rw [hx]
    exact q H2 ((e.trans e1).trans e2)
/-- a new cell -/
def RetC (H : Hp) (Q : VK) (c : C2) : Prop := ∀ v H', Same H H' → Cell H' v c → Q v H'
def sp_fraction : Sp := fun vs H Q _ => ∃ u l : Int, vs = [.int u, .int l] ∧ 0 < l ∧ l < 1073741824 ∧ RetC H Q (u / (Int.gcd u l : Int), l / (Int.gcd u l : Int))
theorem gcd_pos_of {u l : Int} (h : 0 < l) : 0 < (Int.gcd u l : Int) ∧ (Int.gcd u l : Int) ≤ l := by
  have h1 : 0 < Int.gcd u l := Int.gcd_pos_of_ne_zero_right _ (by omega)
  have h2 : (Int.gcd u l : Int) ∣ l := Int.gcd_dvd_right ..
  exact ⟨by omega, Int.le_of_dvd h h2⟩
theorem pure_fraction {K : PySem.W.Frag} (vs : List V) (H : Hp) (Q : VK) (E : XK) (h : sp_fraction vs H Q E) : t_fraction K sp_common { nx := fun _ H' => Q .non H', rt := Q } (start N_fraction vs) H := by
  obtain ⟨u, l, rfl, h0, h1, q⟩ := h
  obtain ⟨g1, g2⟩ := gcd_pos_of (u := u) h0
  show t_fraction K _ _ [some (.int u), some (.int l), none] H
  refine q_setI (n := (Int.gcd u l : Int)) (ev_call (evA_2 (evI_var rfl) mono_eq (evI_var rfl)) fun H1 vs e hv Q q => ?_) fun H1 e1 => ?_
  · obtain ⟨v, w, rfl, rfl, rfl⟩ := hv
    exact ⟨u, l, rfl, fun H' e' => q _ H' e' rfl⟩
  · refine q_skip ((by walk_at "ev" : EvT _ _ _ (decide (l < 0))).to (by simp; omega)) fun H2 e2 => ?_
    refine s_ret (evC_tup (evI_div (evI_var rfl) (evI_var rfl) ⟨by omega, by omega⟩) (evI_div (evI_var rfl) (evI_var rfl) ⟨by omega, by omega⟩)) fun v H3 e3 hv => ?_
    rw [Int.fdiv_eq_ediv_of_nonneg _ (by omega), Int.fdiv_eq_ediv_of_nonneg _ (by omega)] at hv
    exact q v H3 ((e1.trans e2).trans e3) hv

/-- u / l in lowest terms -/
def fr (u l : Int) : C2 := (u / (Int.gcd u l : Int), l / (Int.gcd u l : Int))
theorem ev_fraction {σ : L2.St} {H : Hp} {ta tb : TE} {u l : Int} (ha : EvI ta σ H u) (hb : EvI tb σ H l) (h0 : 0 < l) (h1 : l < 1073741824) : EvC (tCall sp_fraction [] E0 (tCons ta (tCons tb tNil))) σ H (fr u l) :=
  ev_call (evA_2 ha mono_eq hb) fun H1 vs e hv Q q => by
    obtain ⟨v, w, rfl, rfl, rfl⟩ := hv
    exact ⟨u, l, rfl, h0, h1, q⟩
def sp_less : Sp := fun vs H Q _ => ∃ (v w : V) (a b : C2), vs = [v, w] ∧ Cell H v a ∧ Cell H w b ∧ 0 < a.2 ∧ 0 < b.2 ∧ a.2 * b.2 < 1073741824 ∧ RetC H Q (fr (a.1 * b.2 - b.1 * a.2) (a.2 * b.2))
theorem pos_small {a b n : Int} (ha : 0 < a) (hb : 0 < b) (h : a * b < n) : a < n ∧ b < n ∧ 0 < a * b := by
  have h1 : a * 1 ≤ a * b := Int.mul_le_mul_of_nonneg_left (by omega) (by omega)
  have h2 : 1 * b ≤ a * b := Int.mul_le_mul_of_nonneg_right (by omega) (by omega)
  omega
theorem pure_less {K : PySem.W.Frag} (vs : List V) (H : Hp) (Q : VK) (E : XK) (h : sp_less vs H Q E) : t_less K sp_fraction { nx := fun _ H' => Q .non H', rt := Q } (start N_less vs) H := by
  obtain ⟨v, w, a, b, rfl, ha, hb, h0, h1, h2, q⟩ := h
  obtain ⟨s1, s2, s3⟩ := pos_small h0 h1 h2
  show t_less K _ _ [some v, some w] H
  have c1 : CMul a.1 b.2 := cm_r (by omega)
  have c2 : CMul b.1 a.2 := cm_r (by omega)
  have c3 : CMul a.2 b.2 := cm_r (by omega)
  exact s_ret (ev_fraction (by walk_at "ev") (by walk_at "ev") s3 h2) fun v H' e hv => q v H' e hv
def sp_times : Sp := fun vs H Q _ => ∃ (v w : V) (a b : C2), vs = [v, w] ∧ Cell H v a ∧ Cell H w b ∧ a.1.natAbs ≤ 2 ^ 62 ∧ 0 < a.2 ∧ 0 < b.2 ∧ a.2 * b.2 < 1073741824 ∧ RetC H Q (fr (a.1 * b.1) (a.2 * b.2))
theorem pure_times {K : PySem.W.Frag} (vs : List V) (H : Hp) (Q : VK) (E : XK) (h : sp_times vs H Q E) : t_times K sp_fraction { nx := fun _ H' => Q .non H', rt := Q } (start N_times vs) H := by
  obtain ⟨v, w, a, b, rfl, ha, hb, hs, h0, h1, h2, q⟩ := h
  obtain ⟨s1, s2, s3⟩ := pos_small h0 h1 h2
  show t_times K _ _ [some v, some w] H
  have c1 : CMul a.1 b.1 := cm_l hs
  have c3 : CMul a.2 b.2 := cm_r (by omega)
  exact s_ret (ev_fraction (by walk_at "ev") (by walk_at "ev") s3 h2) fun v H' e hv => q v H' e hv
def sp_ceiling_of : Sp := fun vs H Q _ => ∃ (v : V) (c : C2), vs = [v] ∧ Cell H v c ∧ 0 < c.2 ∧ c.2 < 1073741824 ∧ ∀ H', Same H H' → Q (.int (0 - (0 - c.1) / c.2)) H'
theorem pure_ceiling_of {K : PySem.W.Frag} (vs : List V) (H : Hp) (Q : VK) (E : XK) (h : sp_ceiling_of vs H Q E) : t_ceiling_of K { nx := fun _ H' => Q .non H', rt := Q } (start N_ceiling_of vs) H := by
  obtain ⟨v, c, rfl, hc, h0, h1, q⟩ := h
  show t_ceiling_of K _ [some v] H
  refine s_ret (evI_sub evI_c (evI_div (by walk_at "ev" : EvI _ _ _ (0 - c.1)) (by walk_at "ev" : EvI _ _ _ c.2) ⟨by omega, by omega⟩)) fun v H' e hv => ?_
  subst hv
  rw [Int.fdiv_eq_ediv_of_nonneg _ (by omega)]
  exact q H' e
def sp_carried : Sp := fun vs H Q _ => ∃ (v w : V) (a b : C2), vs = [v, w] ∧ Cell H v a ∧ Cell H w b ∧ RetC H Q (a.1 + b.1, a.2 + b.2)
theorem pure_carried {K : PySem.W.Frag} (vs : List V) (H : Hp) (Q : VK) (E : XK) (h : sp_carried vs H Q E) : t_carried K { nx := fun _ H' => Q .non H', rt := Q } (start N_carried vs) H := by
  obtain ⟨v, w, a, b, rfl, ha, hb, q⟩ := h
  show t_carried K _ [some v, some w] H
  exact s_ret (by walk_at "ev" : EvC _ _ _ (a.1 + b.1, a.2 + b.2)) fun v H' e hv => q v H' e hv
theorem ev_carried {σ : L2.St} {H : Hp} {ta tb : TE} {a b : C2} (ha : EvC ta σ H a) (hb : EvC tb σ H b) : EvC (tCall sp_carried [] E0 (tCons ta (tCons tb tNil))) σ H (a.1 + b.1, a.2 + b.2) :=
  ev_call (evA_2 ha mono_cell hb) fun H1 vs e hv Q q => by
    obtain ⟨v, w, rfl, h1, h2⟩ := hv
    exact ⟨v, w, a, b, rfl, h1, h2, q⟩
def sidesR (ring : List C2) : List (C2 × C2) := (List.range ring.length).map fun k => (ring.getD k (0, 0), ring.getD ((k + 1) % ring.length) (0, 0))
theorem getD_get {α : Type} {l : List α} {k : Nat} (d : α) (h : k < l.length) : l[k]? = some (l.getD k d) := by
  rw [List.getD_eq_getElem?_getD, List.getElem?_eq_getElem h]; rfl
def sp_sides_round : Sp := fun vs H Q _ => ∃ (v : V) (ring : List C2), vs = [v] ∧ Row H v ring ∧ 0 < ring.length ∧ ring.length < 1000000 ∧ ∀ v' H', Same H H' → NewL H Pair (sidesR ring) H' v' → Q v' H'
theorem pure_sides_round {K : PySem.W.Frag} (vs : List V) (H : Hp) (Q : VK) (E : XK) (h : sp_sides_round vs H Q E) : t_sides_round K { nx := fun _ H' => Q .non H', rt := Q } (start N_sides_round vs) H := by
  obtain ⟨v, ring, rfl, ⟨a, xs, rfl, hx, hp⟩, h0, h1, q⟩ := h
  show t_sides_round K _ [some (.ref a), none] H
  have hl : EvI (tCB (rLenSeq K) (tCons (tVar 0) tNil)) [some (.ref a), none] H (ring.length : Int) := (ev_lenT (evV_var rfl) hx).to (by rw [hp.kLen])
  refine s_ret (ev_lcR hl tm_pair (by omega) fun i H' e hi => ?_) fun v' H' e hv => q v' H' e hv
  have hx' := e _ _ hx
  have hp' := hp.kImp fun x y (r : Cell H x y) => r.text e.text
  refine evP_tup (ev_ixTD tm_cell (evV_var rfl) hx' hp' (getD_get _ hi) (evI_var rfl)) (ev_ixTD tm_cell (evV_var rfl) hx' hp' (getD_get _ (Nat.mod_lt _ h0)) ?_)
  have hl' : EvI (tCB (rLenSeq K) (tCons (tVar 0) tNil)) [some (.ref a), some (.int (i : Int))] H' (ring.length : Int) := (ev_lenT (evV_var rfl) hx').to (by rw [hp.kLen])
  exact (evI_mod (evI_add (evI_var rfl) evI_c) hl' (by omega)).to (by rw [Int.natCast_emod]; rfl)
/-- how far left of a side -/
def sideV (p : C2 × C2) (x y l : Int) : Int := (p.2.1 - p.1.1) * (y - p.1.2 * l) - (p.2.2 - p.1.2) * (x - p.1.1 * l)
def inside (ps : List (C2 × C2)) (x y l : Int) : Bool := ps.all fun p => decide (0 ≤ sideV p x y l)
/-- of no great numbers -/
def Sm (c : C2) : Prop := c.1.natAbs ≤ 2 ^ 60 ∧ c.2.natAbs ≤ 2 ^ 60
def sp_is_within : Sp := fun vs H Q _ => ∃ (a : Addr) (xs : List V) (ps : List (C2 × C2)) (x y l : Int), vs = [.ref a, .int x, .int y, .int l] ∧ H a = some (.lst xs) ∧ Paired (Pair H) xs ps ∧ (∀ p ∈ ps, Sm p.1 ∧ Sm p.2) ∧ ∀ H', Same H H' → Q (.bl (inside ps x y l)) H'
theorem pure_is_within {K : PySem.W.Frag} (vs : List V) (H : Hp) (Q : VK) (E : XK) (h : sp_is_within vs H Q E) : t_is_within K { nx := fun _ H' => Q .non H', rt := Q } (start N_is_within vs) H := by
  obtain ⟨a, xs, ps, x, y, l, rfl, hx, hp, hs, q⟩ := h
  show t_is_within K _ [some (.ref a), some (.int x), some (.int y), some (.int l), none, none, none] H
  refine q_forL (evV_var rfl) hx (fun i σ' H' => (∃ y4 y5 y6, σ' = [some (.ref a), some (.int x), some (.int y), some (.int l), y4, y5, y6]) ∧ Same H H' ∧ ∀ p ∈ ps.take i, 0 ≤ sideV p x y l) (fun H1 e => ⟨⟨_, _, _, rfl⟩, e, fun p hp => by cases hp⟩) (fun i σ' H' _ h => h.2.1 _ _ hx) ?_ ?_
  · rintro i v σ' H' hv ⟨⟨y4, y5, y6, rfl⟩, e, hall⟩
    obtain ⟨p, hpp, b, u, w, rfl, hb, hu, hw⟩ := hp.kGetL hv
    refine g_two rfl (e _ _ hb) ?_
    have hu' := hu.text e.text
    have hw' := hw.text e.text
    obtain ⟨⟨b1, b2⟩, b3, b4⟩ := hs p (List.mem_of_getElem? hpp)
    have c1 : CMul (p.2.1 - p.1.1) (y - p.1.2 * l) := cm_l (by omega)
    have c2 : CMul (p.2.2 - p.1.2) (x - p.1.1 * l) := cm_l (by omega)
    have c3 : CMul p.1.2 l := cm_l (by omega)
    have c4 : CMul p.1.1 l := cm_l (by omega)
    refine q_setI (n := sideV p x y l) (by unfold sideV; walk_at "ev") fun H2 e2 => ?_
    refine s_when (by walk_at "ev" : EvT _ _ _ (decide (sideV p x y l < 0))) (fun hb H3 e3 => ?_) (fun hb H3 e3 => ?_)
    · have hneg : sideV p x y l < 0 := of_decide_eq_true hb
      refine s_ret evB_c fun v H4 e4 hv => ?_
      subst hv
      have : inside ps x y l = false := by
        unfold inside
        rw [List.all_eq_false]
        exact ⟨p, List.mem_of_getElem? hpp, by simp; omega⟩
      have := q H4 (((e.trans e2).trans e3).trans e4)
      simp_all
    · have hneg : ¬ sideV p x y l < 0 := of_decide_eq_false hb
      refine ⟨⟨_, _, _, rfl⟩, (e.trans e2).trans e3, fun p' hp' => ?_⟩
      rw [List.take_add_one, hpp] at hp'
      rcases List.mem_append.mp hp' with z | z
      · exact hall p' z
      · have : p' = p := by simpa using z
        subst this; omega
  · rintro σ' H' ⟨⟨y4, y5, y6, rfl⟩, e, hall⟩
    refine s_ret evB_c fun v H4 e4 hv => ?_
    subst hv
    have ht : inside ps x y l = true := by
      unfold inside
      rw [List.all_eq_true]
      intro p hp'
      rw [hp.kLen, List.take_length] at hall
      exact decide_eq_true (hall p hp')
    rw [← ht]
    exact q H4 (e.trans e4)
theorem ev_is_within {σ : L2.St} {H : Hp} {tl tx ty tz : TE} {a : Addr} {xs : List V} {ps : List (C2 × C2)} {x y l : Int} (hl : Ev tl σ H (fun _ v => v = .ref a)) (hx : H a = some (.lst xs)) (hp : Paired (Pair H) xs ps) (hs : ∀ p ∈ ps, Sm p.1 ∧ Sm p.2)
    (h1 : EvI tx σ H x) (h2 : EvI ty σ H y) (h3 : EvI tz σ H l) : EvB (tCall sp_is_within [] E0 (tCons tl (tCons tx (tCons ty (tCons tz tNil))))) σ H (inside ps x y l) :=
  ev_call (evA_cons hl mono_eq (evA_cons h1 mono_eq (evA_2 h2 mono_eq h3))) fun H1 vs e hv Q q => by
    obtain ⟨_, _, rfl, rfl, _, _, rfl, rfl, _, _, rfl, rfl, rfl⟩ := hv
    exact ⟨a, xs, ps, x, y, l, rfl, e _ _ hx, hp.kImp fun _ _ r => r.text e.text, hs, fun H' e' => q _ H' e' rfl⟩
def sp_over_common : Sp := fun vs H Q _ => ∃ (v : V) (p : C2 × C2), vs = [v] ∧ Pair H v p ∧ Sm p.1 ∧ Sm p.2 ∧ ∀ v' H', Same H H' → T3 H' v' (p.1.1 * p.2.2, p.2.1 * p.1.2, p.1.2 * p.2.2) → Q v' H'
theorem evT3_tup {σ : L2.St} {H : Hp} {ta tb tc : TE} {i j k : Int} (ha : EvI ta σ H i) (hb : EvI tb σ H j) (hc : EvI tc σ H k) : Ev (tTup (tCons ta (tCons tb (tCons tc tNil)))) σ H (fun H v => T3 H v (i, j, k)) :=
  ev_tup (evA_cons ha mono_eq (evA_2 hb mono_eq hc)) (fun _ vs h => by obtain ⟨_, _, rfl, _, _, _, rfl, _⟩ := h; show 3 ≤ 1000; decide) fun H' vs p h hp _ => by
    obtain ⟨_, _, rfl, rfl, _, _, rfl, rfl, rfl⟩ := h
    exact ⟨p, rfl, upd_same⟩
theorem pure_over_common {K : PySem.W.Frag} (vs : List V) (H : Hp) (Q : VK) (E : XK) (h : sp_over_common vs H Q E) : t_over_common K { nx := fun _ H' => Q .non H', rt := Q } (start N_over_common vs) H := by
  obtain ⟨v, p, rfl, ⟨a, u, w, rfl, ha, hu, hw⟩, ⟨b1, b2⟩, ⟨b3, b4⟩, q⟩ := h
  show t_over_common K _ [some (.ref a), none, none, none, none] H
  refine q_asg (evV_var rfl) fun v H1 e hv => ?_
  subst hv
  refine ⟨a, [u, w], rfl, SqT.of (e _ _ ha), rfl, u, [w], rfl, g_cell (hu.text e.text) ⟨w, [], rfl, g_cell (hw.text e.text) ⟨rfl, ?_⟩⟩⟩
  have c1 : CMul p.1.1 p.2.2 := cm_l (by omega)
  have c2 : CMul p.2.1 p.1.2 := cm_l (by omega)
  have c3 : CMul p.1.2 p.2.2 := cm_l (by omega)
  exact s_ret (evT3_tup (by walk_at "ev") (by walk_at "ev") (by walk_at "ev")) fun v H2 e2 hv => q v H2 (e.trans e2) hv
/-- how far outside of a side along a way a cell carries -/
def beyV (w c : C2) (p : Int × Int × Int) : Int := w.2 * (c.1 * p.2.2 - p.1) - w.1 * (c.2 * p.2.2 - p.2.1)
def sp_beyond : Sp := fun vs H Q _ => ∃ (v1 v2 v3 : V) (w c : C2) (p : Int × Int × Int), vs = [v1, v2, v3] ∧ Cell H v1 w ∧ Cell H v2 c ∧ T3 H v3 p ∧ Sm w ∧ Sm c ∧ ∀ H', Same H H' → Q (.int (beyV w c p)) H'
theorem pure_beyond {K : PySem.W.Frag} (vs : List V) (H : Hp) (Q : VK) (E : XK) (h : sp_beyond vs H Q E) : t_beyond K { nx := fun _ H' => Q .non H', rt := Q } (start N_beyond vs) H := by
  obtain ⟨v1, v2, v3, w, c, p, rfl, hw, hc, hp, ⟨b1, b2⟩, ⟨b3, b4⟩, q⟩ := h
  show t_beyond K _ [some v1, some v2, some v3, none, none, none] H
  refine q_asg (ev_varM rfl (R := fun H v => T3 H v p) (fun _ _ _ e h => h.text e.text) hp) fun v H1 e hv => g_three hv ?_
  have hw' := hw.text e.text
  have hc' := hc.text e.text
  have c1 : CMul w.2 (c.1 * p.2.2 - p.1) := cm_l (by omega)
  have c2 : CMul w.1 (c.2 * p.2.2 - p.2.1) := cm_l (by omega)
  have c3 : CMul c.1 p.2.2 := cm_l (by omega)
  have c4 : CMul c.2 p.2.2 := cm_l (by omega)
  refine s_ret (by unfold beyV; walk_at "ev" : EvI _ _ _ (beyV w c p)) fun v H2 e2 hv => ?_
  subst hv
  exact q H2 (e.trans e2)
theorem ev_beyond {σ : L2.St} {H : Hp} {ta tb tc : TE} {w c : C2} {p : Int × Int × Int} (ha : EvC ta σ H w) (hb : EvC tb σ H c) (hc : Ev tc σ H (fun H v => T3 H v p)) (h1 : Sm w) (h2 : Sm c) : EvI (tCall sp_beyond [] E0 (tCons ta (tCons tb (tCons tc tNil)))) σ H (beyV w c p) :=
  ev_call (evA_cons ha mono_cell (evA_2 hb mono_cell hc)) fun H1 vs e hv Q q => by
    obtain ⟨v1, _, rfl, r1, v2, v3, rfl, r2, r3⟩ := hv
    exact ⟨v1, v2, v3, w, c, p, rfl, r1, r2, r3, h1, h2, fun H' e' => q _ H' e' rfl⟩
end K84
namespace K84
open L2 PySem PySem.Spec PyProof.Rows
local macro_rules | `(tactic| walk_at "cm") => `(tactic| first | assumption | exact Or.inl ⟨by omega, by omega⟩ | exact Or.inr ⟨by omega, by omega⟩)
local macro_rules | `(tactic| walk_at "ev") => `(tactic| first
  | assumption | exact evI_c | exact evI_var rfl | exact evV_var rfl | exact evC_var rfl (by assumption)
  | (refine evI_add ?_ ?_ <;> walk_at "ev") | (refine evI_sub ?_ ?_ <;> walk_at "ev")
  | (refine evI_mul ?_ ?_ ?_; (· walk_at "ev"); (· walk_at "ev"); (· walk_at "cm"))
  | (refine evI_fst ?_; walk_at "ev") | (refine evI_snd ?_; walk_at "ev") | (refine evI_neg ?_; walk_at "ev")
  | (refine evC_tup ?_ ?_ <;> walk_at "ev") | (refine evP_tup ?_ ?_ <;> walk_at "ev")
  | (refine evB_eq ?_ ?_ <;> walk_at "ev") | (refine evB_ne ?_ ?_ <;> walk_at "ev")
  | (refine evB_lt ?_ ?_ <;> walk_at "ev") | (refine evB_le ?_ ?_ <;> walk_at "ev") | (refine evB_gt ?_ ?_ <;> walk_at "ev") | (refine evB_ge ?_ ?_ <;> walk_at "ev")
  | (refine evT_test ?_; walk_at "ev") | (refine evT_B ?_; walk_at "ev") | (refine evT_not ?_; walk_at "ev") | exact evT_yes)
/-- the ring's cells lie from x0 to x1, from y0 to y1, none of which is too far out -/
structure Bnd (ring : List C2) (x0 x1 y0 y1 : Int) : Prop where
  a0 : x0 ∈ ring.map (·.1)
  b0 : ∀ y ∈ ring.map (·.1), x0 ≤ y
  a1 : x1 ∈ ring.map (·.1)
  b1 : ∀ y ∈ ring.map (·.1), y ≤ x1
  c0 : y0 ∈ ring.map (·.2)
  d0 : ∀ y ∈ ring.map (·.2), y0 ≤ y
  c1 : y1 ∈ ring.map (·.2)
  d1 : ∀ y ∈ ring.map (·.2), y ≤ y1
def inR (ring : List C2) (x0 x1 y0 y1 : Int) (c : C2) : Prop := x0 ≤ c.1 ∧ c.1 ≤ x1 ∧ y0 ≤ c.2 ∧ c.2 ≤ y1 ∧ inside (sidesR ring) c.1 c.2 1 = true
def sp_land_cells : Sp := fun vs H Q _ => ∃ (v : V) (ring : List C2) (x0 x1 y0 y1 : Int), vs = [v] ∧ Row H v ring ∧ ring.length < 1000000 ∧ (∀ c ∈ ring, Sm c) ∧ Bnd ring x0 x1 y0 y1 ∧ x1 - x0 ≤ 1000 ∧ y1 - y0 ≤ 1000 ∧
  ∀ v' H' cs, Same H H' → Row H' v' cs → (∀ c, c ∈ cs ↔ inR ring x0 x1 y0 y1 c) → Q v' H'
theorem sides_sm {ring : List C2} (h : ∀ c ∈ ring, Sm c) : ∀ p ∈ sidesR ring, Sm p.1 ∧ Sm p.2 := by
  intro p hp
  obtain ⟨k, hk, rfl⟩ := List.mem_map.mp hp
  have hk' : k < ring.length := List.mem_range.mp hk
  have h0 : 0 < ring.length := by omega
  have g : ∀ i, i < ring.length → Sm (ring.getD i (0, 0)) := fun i hi => h _ (List.mem_of_getElem? (getD_get (0, 0) hi))
  exact ⟨g k hk', g _ (Nat.mod_lt _ h0)⟩
section
variable {K : PySem.W.Frag} {σ : L2.St} {H : Hp} {a : Addr} {xs : List V} {ring : List C2}
theorem ev_fsts {k j : Nat} (hσ : σ[k]? = some (some (.ref a))) (hj : j < σ.length) (hx : H a = some (.tup xs)) (hp : Paired (Cell H) xs ring) (hz : ring.length < 16000000) :
    Ev (tLc (iTup K (tVar k)) (gName j) tYes (tOp (rIxT K) (tVar j) (tC (.int 0))) [j]) σ H (NewL H (fun _ => IsI) (ring.map (·.1))) :=
  ev_mapT (Rx := Cell) (evV_var hσ) hx hp tm_cell tm_int hz fun x d H' e m r => evI_fst (evC_var (by rw [List.getElem?_set_self hj]) r)
theorem ev_snds {k j : Nat} (hσ : σ[k]? = some (some (.ref a))) (hj : j < σ.length) (hx : H a = some (.tup xs)) (hp : Paired (Cell H) xs ring) (hz : ring.length < 16000000) :
    Ev (tLc (iTup K (tVar k)) (gName j) tYes (tOp (rIxT K) (tVar j) (tC (.int 1))) [j]) σ H (NewL H (fun _ => IsI) (ring.map (·.2))) :=
  ev_mapT (Rx := Cell) (evV_var hσ) hx hp tm_cell tm_int hz fun x d H' e m r => evI_snd (evC_var (by rw [List.getElem?_set_self hj]) r)
end
theorem ev_lst0 {σ : L2.St} {H : Hp} : Ev (tLst tNil) σ H (fun H' v => ∃ p, v = .ref p ∧ H p = none ∧ H' p = some (.lst [])) := fun H1 e Q q =>
  ⟨Nat.zero_le _, fun p hp => q _ _ (same_new hp) ⟨p, rfl, e.free hp, upd_same⟩⟩
theorem pure_land_cells {K : PySem.W.Frag} (vs : List V) (H : Hp) (Q : VK) (E : XK) (h : sp_land_cells vs H Q E) : t_land_cells K sp_sides_round sp_is_within { nx := fun _ H' => Q .non H', rt := Q } (start N_land_cells vs) H := by
  obtain ⟨v, ring, x0, x1, y0, y1, rfl, ⟨a, xs, rfl, hx, hp⟩, hz, hs, B, w1, w2, q⟩ := h
  have h0 : 0 < ring.length := by
    have := List.length_pos_of_mem B.a0
    simpa using this
  have sm : ∀ n ∈ ring.map (·.1), n.natAbs ≤ 2 ^ 60 := fun n hn => by
    obtain ⟨c, hc, rfl⟩ := List.mem_map.mp hn
    exact (hs c hc).1
  have sm2 : ∀ n ∈ ring.map (·.2), n.natAbs ≤ 2 ^ 60 := fun n hn => by
    obtain ⟨c, hc, rfl⟩ := List.mem_map.mp hn
    exact (hs c hc).2
  have k0 := sm _ B.a0
  have k1 := sm _ B.a1
  have k2 := sm2 _ B.c0
  have k3 := sm2 _ B.c1
  show t_land_cells K _ _ _ [some (.ref a), none, none, none, none, none] H
  refine q_set (R := NewL H Pair (sidesR ring)) (ev_call (evA_1 (evV_var rfl)) fun H1 vs e hv Q q => ?_) fun v1 H1 e1 hv1 => ?_
  · obtain ⟨v, rfl, rfl⟩ := hv
    exact ⟨_, ring, rfl, ⟨a, xs, rfl, e _ _ hx, hp.kImp fun _ _ r => r.text e.text⟩, h0, hz, fun v' H' e' hn => q v' H' e' (by
      obtain ⟨p, ys, h1, h2, h3, h4⟩ := hn
      exact ⟨p, ys, h1, e.free h2, h3, h4⟩)⟩
  obtain ⟨s, ps, rfl, hs0, hs1, hps⟩ := hv1
  refine q_set ev_lst0 fun v2 H2 e2 hv2 => ?_
  obtain ⟨f, rfl, hf1, hf2⟩ := hv2
  have e12 : Same H H2 := e1.trans e2
  have hx2 := e12 _ _ hx
  have hp2 := hp.kImp fun x y (r : Cell H x y) => r.text e12.text
  have hs2 := e2 _ _ hs1
  have hps2 := hps.kImp fun x y (r : Pair H1 x y) => r.text e2.text
  have hfs : f ≠ s := fun z => by rw [z, hs1] at hf1; cases hf1
  have hfa : f ≠ a := fun z => by rw [z, e1 _ _ hx] at hf1; cases hf1
  -- the lists that the loops fill
  let Inv := fun (H' : Hp) (m : Nat) (T : C2 → Prop) => TExt H2 H' ∧ H' s = some (.lst ps) ∧ Same H H' ∧ ∃ ws cs, H' f = some (.lst ws) ∧ Paired (Cell H') ws cs ∧ cs.length ≤ m ∧ ∀ c, c ∈ cs ↔ T c
  have inv_same : ∀ {H' H'' m T}, Inv H' m T → Same H' H'' → Inv H'' m T := fun {H' H'' m T} h e => by
    obtain ⟨i1, i2, i3, ws, cs, i4, i5, i6, i7⟩ := h
    exact ⟨i1.trans e.text, e _ _ i2, i3.trans e, ws, cs, e _ _ i4, i5.kImp fun _ _ r => r.text e.text, i6, i7⟩
  refine q_forR2 (lo := x0) (hi := x1 + 1) (ev_min (ev_fsts rfl (by simp) hx2 hp2 (by omega)) B.a0 B.b0) (evI_add (ev_max (ev_fsts rfl (by simp) hx2 hp2 (by omega)) B.a1 B.b1) evI_c) (by omega)
    (fun i σ' H' => (∃ y3 y5, σ' = [some (.ref a), some (.ref s), some (.ref f), y3, none, y5]) ∧ Inv H' (i * 1001) (fun c => inR ring x0 x1 y0 y1 c ∧ c.1 < x0 + i)) (fun H3 e3 => ⟨⟨_, _, rfl⟩, inv_same ⟨TExt.refl _, hs2, e12, [], [], hf2, .nil, Nat.zero_le _, fun c => ?_⟩ e3⟩) ?_ ?_
  · unfold inR
    constructor
    · intro h; cases h
    · rintro ⟨⟨h1, _⟩, h2⟩
      simp at h2
      omega
  · rintro i σ' H3 hi ⟨⟨y3, y5, rfl⟩, hI⟩
    have hx3 := hI.1 _ _ hx2
    have hp3 := hp2.kImp fun x y (r : Cell H2 x y) => r.text hI.1
    refine s_forR2 (lo := y0) (hi := y1 + 1) (ev_min (ev_snds rfl (by simp) hx3 hp3 (by omega)) B.c0 B.d0) (evI_add (ev_max (ev_snds rfl (by simp) hx3 hp3 (by omega)) B.c1 B.d1) evI_c) (by omega)
      (fun j σ' H' => (∃ y5, σ' = [some (.ref a), some (.ref s), some (.ref f), some (.int (x0 + i)), none, y5]) ∧ Inv H' (i * 1001 + j) (fun c => inR ring x0 x1 y0 y1 c ∧ (c.1 < x0 + i ∨ (c.1 = x0 + i ∧ c.2 < y0 + j)))) (fun H4 e4 => ⟨⟨_, rfl⟩, inv_same ?_ e4⟩) ?_ ?_
    · obtain ⟨i1, i2, i3, ws, cs, i4, i5, i6, i7⟩ := hI
      refine ⟨i1, i2, i3, ws, cs, i4, i5, i6, fun c => ?_⟩
      rw [i7 c]
      unfold inR
      constructor
      · rintro ⟨h1, h2⟩; exact ⟨h1, .inl h2⟩
      · rintro ⟨h1, h2⟩; refine ⟨h1, ?_⟩; simp at h2; omega
    · rintro j σ' H4 hj ⟨⟨y5, rfl⟩, hJ⟩
      obtain ⟨i1, i2, i3, ws, cs, i4, i5, i6, i7⟩ := id hJ
      refine s_when (evT_B (ev_is_within (evV_var rfl) i2 (hps2.kImp fun x y (r : Pair H2 x y) => r.text i1) (sides_sm hs) (evI_var rfl) (evI_var rfl) evI_c)) (fun hb H5 e5 => ?_) (fun hb H5 e5 => ?_)
      · obtain ⟨i1, i2, i3, ws, cs, i4, i5, i6, i7⟩ := inv_same hJ e5
        refine s_app i4 (evV_var rfl) (by walk_at "ev" : EvC _ _ _ (x0 + i, y0 + j)) (by rw [i5.kLen]; have : i * 1001 ≤ 1001 * 1001 := Nat.mul_le_mul_right _ (by omega); omega) fun v H6 e6 hv => ⟨⟨_, rfl⟩, ?_⟩
        have te : TExt H6 (upd H6 f (.lst (ws ++ [v]))) := text_lst (e6 _ _ i4)
        refine ⟨(i1.trans e6.text).trans te, by rw [upd_ne (Ne.symm hfs)]; exact e6 _ _ i2, (i3.trans e6).mut (e1.free hf1), _, cs ++ [(x0 + i, y0 + j)], upd_same, (i5.kImp fun _ _ r => r.text (e6.text.trans te)).kSnoc (hv.text te), by rw [List.length_append]; simp; omega, fun c => ?_⟩
        rw [List.mem_append, i7 c]
        unfold inR
        constructor
        · rintro (⟨h1, h2⟩ | h1)
          · refine ⟨h1, ?_⟩; omega
          · have : c = (x0 + i, y0 + j) := by simpa using h1
            subst this
            exact ⟨⟨by simp; omega, by simp; omega, by simp; omega, by simp; omega, hb⟩, .inr ⟨rfl, by simp; omega⟩⟩
        · rintro ⟨h1, h2⟩
          by_cases hc : c.1 = x0 + i ∧ c.2 = y0 + j
          · right
            have : c = (x0 + i, y0 + j) := Prod.ext hc.1 hc.2
            simp [this]
          · left; refine ⟨h1, ?_⟩; omega
      · obtain ⟨i1, i2, i3, ws, cs, i4, i5, i6, i7⟩ := inv_same hJ e5
        refine ⟨⟨_, rfl⟩, i1, i2, i3, ws, cs, i4, i5, by omega, fun c => ?_⟩
        rw [i7 c]
        unfold inR
        constructor
        · rintro ⟨h1, h2⟩; refine ⟨h1, ?_⟩; omega
        · rintro ⟨h1, h2⟩
          refine ⟨h1, ?_⟩
          rcases h2 with h2 | ⟨h2, h3⟩
          · exact .inl h2
          · by_cases hc : c.2 = y0 + j
            · have h5 := h1.2.2.2.2
              rw [h2, hc, hb] at h5
              cases h5
            · right; omega
    · rintro σ' H4 ⟨⟨y5, rfl⟩, hJ⟩
      obtain ⟨i1, i2, i3, ws, cs, i4, i5, i6, i7⟩ := hJ
      refine ⟨⟨_, _, rfl⟩, i1, i2, i3, ws, cs, i4, i5, by omega, fun c => ?_⟩
      rw [i7 c]
      unfold inR
      constructor
      · rintro ⟨h1, h2⟩; refine ⟨h1, ?_⟩; omega
      · rintro ⟨h1, h2⟩; refine ⟨h1, ?_⟩; omega
  · rintro σ' H3 ⟨⟨y3, y5, rfl⟩, i1, i2, i3, ws, cs, i4, i5, i6, i7⟩
    refine s_ret (ev_tupleOf tm_cell (ev_varM (R := fun H v => LCells H v cs) rfl (fun _ _ _ e h => h.same e) ⟨f, ws, rfl, i4, i5⟩)) fun v H4 e4 hv => ?_
    refine q v H4 cs (i3.trans e4) hv fun c => ?_
    rw [i7 c]
    unfold inR
    constructor
    · rintro ⟨h1, _⟩; exact h1
    · intro h1; exact ⟨h1, by omega⟩
end K84
namespace K84
open L2 PySem PySem.Spec PyProof.Rows
local macro_rules | `(tactic| walk_at "cm") => `(tactic| first | assumption | exact Or.inl ⟨by omega, by omega⟩ | exact Or.inr ⟨by omega, by omega⟩)
local macro_rules | `(tactic| walk_at "ev") => `(tactic| first
  | assumption | exact evI_c | exact evI_var rfl | exact evV_var rfl | exact evC_var rfl (by assumption)
  | (refine evI_add ?_ ?_ <;> walk_at "ev") | (refine evI_sub ?_ ?_ <;> walk_at "ev")
  | (refine evI_mul ?_ ?_ ?_; (· walk_at "ev"); (· walk_at "ev"); (· walk_at "cm"))
  | (refine evI_fst ?_; walk_at "ev") | (refine evI_snd ?_; walk_at "ev") | (refine evI_neg ?_; walk_at "ev")
  | (refine evC_tup ?_ ?_ <;> walk_at "ev") | (refine evP_tup ?_ ?_ <;> walk_at "ev")
  | (refine evB_eq ?_ ?_ <;> walk_at "ev") | (refine evB_ne ?_ ?_ <;> walk_at "ev")
  | (refine evB_lt ?_ ?_ <;> walk_at "ev") | (refine evB_le ?_ ?_ <;> walk_at "ev") | (refine evB_gt ?_ ?_ <;> walk_at "ev") | (refine evB_ge ?_ ?_ <;> walk_at "ev")
  | (refine evT_test ?_; walk_at "ev") | (refine evT_B ?_; walk_at "ev") | (refine evT_not ?_; walk_at "ev") | exact evT_yes)
theorem tm_lcells {cs : List C2} : Mono (fun H v => LCells H v cs) := fun _ _ _ e h => h.same e
def CellsOf (P : List (List C2)) (cs : List C2) : Prop := ∀ c, c ∈ cs ↔ ∃ R ∈ P, c ∈ R
def sp_cells_of : Sp := fun vs H Q _ => ∃ (v : V) (P : List (List C2)), vs = [v] ∧ Plain H v P ∧ P.length ≤ 64 ∧ (∀ R ∈ P, R.length ≤ 8) ∧ ∀ v' H' cs, Same H H' → CellsOf P cs → cs.length ≤ 512 → NewL H Cell cs H' v' → Q v' H'
theorem ev_dnewT {σ : L2.St} {H : Hp} : Ev tDNewT σ H (fun H' v => ∃ p, v = .ref p ∧ H p = none ∧ H' p = some (.dT [])) := fun H1 e Q q =>
  fun p hp => q _ _ (same_new hp) ⟨p, rfl, e.free hp, upd_same⟩
theorem pure_cells_of {K : PySem.W.Frag} (vs : List V) (H : Hp) (Q : VK) (E : XK) (h : sp_cells_of vs H Q E) : t_cells_of K { nx := fun _ H' => Q .non H', rt := Q } (start N_cells_of vs) H := by
  obtain ⟨v, P, rfl, ⟨a, xs, rfl, hx, hp⟩, hz1, hz2, q⟩ := h
  show t_cells_of K _ [some (.ref a), none, none, none] H
  refine q_set ev_dnewT fun v1 H1 e1 hv1 => ?_
  obtain ⟨f, rfl, hf0, hf1⟩ := hv1
  have hfa : f ≠ a := fun z => by rw [z, hx] at hf0; cases hf0
  let Inv := fun (H' : Hp) (m : Nat) (T : C2 → Prop) => TExt H H' ∧ Same H H' ∧ ∃ kvs cs, H' f = some (.dT kvs) ∧ Keys kvs cs ∧ cs.length ≤ m ∧ ∀ c, c ∈ cs ↔ T c
  have inv_same : ∀ {H' H'' m T}, Inv H' m T → Same H' H'' → Inv H'' m T := fun {H' H'' m T} h e => by
    obtain ⟨i1, i2, ws, cs, i4, i5, i6, i7⟩ := h
    exact ⟨i1.trans e.text, i2.trans e, ws, cs, e _ _ i4, i5, i6, i7⟩
  refine q_forT (evV_var rfl) (e1 _ _ hx) (fun i σ' H' => (∃ y2 y3, σ' = [some (.ref a), some (.ref f), y2, y3]) ∧ Inv H' (i * 8) (fun c => ∃ R ∈ P.take i, c ∈ R)) (fun H2 e2 => ⟨⟨_, _, rfl⟩, inv_same ⟨e1.text, e1, [], [], hf1, Keys.nil, Nat.zero_le _, fun c => by simp⟩ e2⟩) (fun i σ' H' _ h => h.2.1 _ _ hx) ?_ ?_
  · rintro i v σ' H2 hv ⟨⟨y2, y3, rfl⟩, hI⟩
    obtain ⟨R, hR, b, ws, rfl, hb, hrow⟩ := hp.kGetL hv
    have hRl := hz2 R (List.mem_of_getElem? hR)
    refine s_forT (xs := ws) (a := b) (evV_var rfl) (hI.1 _ _ hb) (fun j σ' H' => (∃ y3, σ' = [some (.ref a), some (.ref f), some (.ref b), y3]) ∧ Inv H' (i * 8 + j) (fun c => (∃ R ∈ P.take i, c ∈ R) ∨ c ∈ R.take j)) (fun H3 e3 => ⟨⟨_, rfl⟩, inv_same ?_ e3⟩) (fun j σ' H' _ h => h.2.1 _ _ hb) ?_ ?_
    · obtain ⟨i1, i2, ws, cs, i4, i5, i6, i7⟩ := hI
      exact ⟨i1, i2, ws, cs, i4, i5, i6, fun c => by rw [i7 c]; simp⟩
    · rintro j u σ' H3 hu ⟨⟨y3, rfl⟩, i1, i2, kvs, cs, i4, i5, i6, i7⟩
      obtain ⟨c, hc, hcell⟩ := hrow.kGetL hu
      have hP : i < P.length := (List.getElem?_eq_some_iff.mp hR).1
      refine s_dputC i4 evB_c (evV_var rfl) (evC_var rfl (hcell.text i1)) (by rw [i5.len]; have : i * 8 ≤ 64 * 8 := Nat.mul_le_mul_right _ (by omega); have : j < ws.length := (List.getElem?_eq_some_iff.mp hu).1; have := hrow.kLen; omega) fun v H4 e4 => ⟨⟨_, rfl⟩, ?_⟩
      have te : TExt H4 (upd H4 f (.dT (putK kvs (keyC c) v))) := text_dT (e4 _ _ i4)
      refine ⟨(i1.trans e4.text).trans te, (i2.trans e4).mut hf0, _, _, upd_same, i5.put c v, ?_, fun d => ?_⟩
      · split
        · omega
        · rw [List.length_append]; simp; omega
      · rw [List.take_add_one, hc]
        by_cases hm : c ∈ cs
        · rw [if_pos hm, i7 d]
          simp only [List.mem_append, Option.toList_some, List.mem_singleton]
          constructor
          · rintro (h | h); exact .inl h; exact .inr (.inl h)
          · rintro (h | h | rfl)
            · exact .inl h
            · exact .inr h
            · exact (i7 _).mp hm
        · rw [if_neg hm, List.mem_append, i7 d]
          simp only [List.mem_append, Option.toList_some, List.mem_singleton]
          constructor
          · rintro ((h | h) | h); exact .inl h; exact .inr (.inl h); exact .inr (.inr h)
          · rintro (h | h | h); exact .inl (.inl h); exact .inl (.inr h); exact .inr h
    · rintro σ' H3 ⟨⟨y3, rfl⟩, i1, i2, kvs, cs, i4, i5, i6, i7⟩
      refine ⟨⟨_, _, rfl⟩, i1, i2, kvs, cs, i4, i5, by rw [hrow.kLen] at i6; omega, fun c => ?_⟩
      rw [i7 c, hrow.kLen, List.take_length, List.take_add_one, hR]
      simp only [List.mem_append, Option.toList_some, List.mem_singleton]
      constructor
      · rintro (⟨R', h1, h2⟩ | h)
        · exact ⟨R', .inl h1, h2⟩
        · exact ⟨R, .inr rfl, h⟩
      · rintro ⟨R', h1 | rfl, h2⟩
        · exact .inl ⟨R', h1, h2⟩
        · exact .inr h2
  · rintro σ' H2 ⟨⟨y2, y3, rfl⟩, i1, i2, kvs, cs, i4, i5, i6, i7⟩
    rw [hp.kLen] at i6 i7
    rw [List.take_length] at i7
    refine s_ret (R := fun H' v => ∃ ds, ds.Perm cs ∧ NewL H Cell ds H' v) (fun H3 e3 Q q => ?_) fun v H3 e3 hv => ?_
    · refine ⟨.ref f, rfl, f, kvs, cs, rfl, e3 _ _ i4, i5.1, by omega, fun ys ds p hd hy hp' => q _ _ (same_new hp') ⟨ds, hd, p, ys, rfl, (i2.trans e3).free hp', upd_same, hy.kImp fun _ _ r => r.text (text_new hp')⟩⟩
    · obtain ⟨ds, hd, hn⟩ := hv
      exact q v H3 ds (i2.trans e3) (fun c => by rw [hd.mem_iff]; exact i7 c) (by rw [hd.length_eq]; omega) hn
def wayB (x y : Int) : Int := if y < 0 ∨ (y = 0 ∧ x < 0) then -(Int.gcd x y : Int) else (Int.gcd x y : Int)
def wayOf (x y : Int) : C2 := (x.fdiv (wayB x y), y.fdiv (wayB x y))
def sp_way_of : Sp := fun vs H Q _ => ∃ x y : Int, vs = [.int x, .int y] ∧ ¬ (x = 0 ∧ y = 0) ∧ x.natAbs < 2 ^ 29 ∧ y.natAbs < 2 ^ 29 ∧ RetC H Q (wayOf x y)
theorem gcd_small {x y : Int} (h : ¬ (x = 0 ∧ y = 0)) : 0 < Int.gcd x y ∧ Int.gcd x y ≤ max x.natAbs y.natAbs := by
  have h1 : 0 < Int.gcd x y := Nat.pos_of_ne_zero fun e => h (Int.gcd_eq_zero_iff.mp e)
  refine ⟨h1, ?_⟩
  by_cases hx : x = 0
  · have hy : y ≠ 0 := fun e => h ⟨hx, e⟩
    have := Nat.le_of_dvd (by omega) (Int.gcd_dvd_natAbs_right x y)
    omega
  · have := Nat.le_of_dvd (by omega) (Int.gcd_dvd_natAbs_left x y)
    omega
theorem pure_way_of {K : PySem.W.Frag} (vs : List V) (H : Hp) (Q : VK) (E : XK) (h : sp_way_of vs H Q E) : t_way_of K sp_common { nx := fun _ H' => Q .non H', rt := Q } (start N_way_of vs) H := by
  obtain ⟨x, y, rfl, h0, b1, b2, q⟩ := h
  obtain ⟨g1, g2⟩ := gcd_small h0
  show t_way_of K _ _ [some (.int x), some (.int y), none] H
  refine q_setI (n := (Int.gcd x y : Int)) (ev_call (evA_2 (evI_var rfl) mono_eq (evI_var rfl)) fun H1 vs e hv Q q => ?_) fun H1 e1 => ?_
  · obtain ⟨v, w, rfl, rfl, rfl⟩ := hv
    exact ⟨x, y, rfl, fun H' e' => q _ H' e' rfl⟩
  have fin : ∀ (b : Int) (H2 : Hp), Same H H2 → b = wayB x y → b ≠ 0 → b.natAbs < 1073741824 → (tRet (tTup (tCons (tOp rDivI (tVar 0) (tVar 2)) (tCons (tOp rDivI (tVar 1) (tVar 2)) tNil)))) { nx := fun _ H' => Q .non H', rt := Q } [some (.int x), some (.int y), some (.int b)] H2 := fun b H2 e2 hb hb0 hb1 => by
    refine s_ret (evC_tup (evI_div (evI_var rfl) (evI_var rfl) ⟨hb0, hb1⟩) (evI_div (evI_var rfl) (evI_var rfl) ⟨hb0, hb1⟩)) fun v H3 e3 hv => ?_
    rw [hb] at hv
    exact q v H3 (e2.trans e3) hv
  refine q_when (b := decide (y < 0) || (decide (y = 0) && decide (x < 0))) (evT_or (by walk_at "ev" : EvT _ _ _ (decide (y < 0))) fun _ => evT_and (by walk_at "ev" : EvT _ _ _ (decide (y = 0))) fun _ => (by walk_at "ev" : EvT _ _ _ (decide (x < 0)))) (fun hb H2 e2 => ?_) (fun hb H2 e2 => ?_)
  · refine s_setI (evI_neg (evI_var rfl)) fun H3 e3 => ?_
    refine fin _ H3 ((e1.trans e2).trans e3) ?_ (by omega) (by omega)
    unfold wayB
    rw [if_pos]
    simpa using hb
  · refine fin _ H2 (e1.trans e2) ?_ (by omega) (by omega)
    unfold wayB
    rw [if_neg]
    simpa using hb
end K84
namespace K84
open L2 PySem PySem.Spec PyProof.Rows
local macro_rules | `(tactic| walk_at "cm") => `(tactic| first | assumption | exact Or.inl ⟨by omega, by omega⟩ | exact Or.inr ⟨by omega, by omega⟩)
local macro_rules | `(tactic| walk_at "ev") => `(tactic| first
  | assumption | exact evI_c | exact evI_var rfl | exact evV_var rfl | exact evC_var rfl (by assumption)
  | (refine evI_add ?_ ?_ <;> walk_at "ev") | (refine evI_sub ?_ ?_ <;> walk_at "ev")
  | (refine evI_mul ?_ ?_ ?_; (· walk_at "ev"); (· walk_at "ev"); (· walk_at "cm"))
  | (refine evI_fst ?_; walk_at "ev") | (refine evI_snd ?_; walk_at "ev") | (refine evI_neg ?_; walk_at "ev")
  | (refine evC_tup ?_ ?_ <;> walk_at "ev") | (refine evP_tup ?_ ?_ <;> walk_at "ev")
  | (refine evB_eq ?_ ?_ <;> walk_at "ev") | (refine evB_ne ?_ ?_ <;> walk_at "ev")
  | (refine evB_lt ?_ ?_ <;> walk_at "ev") | (refine evB_le ?_ ?_ <;> walk_at "ev") | (refine evB_gt ?_ ?_ <;> walk_at "ev") | (refine evB_ge ?_ ?_ <;> walk_at "ev")
  | (refine evT_test ?_; walk_at "ev") | (refine evT_B ?_; walk_at "ev") | (refine evT_not ?_; walk_at "ev") | exact evT_yes)
def crs (a b : C2) : Int := a.1 * b.2 - a.2 * b.1
def atW (found : List C2) (w : C2) : Nat := (found.takeWhile fun f => decide (0 < crs f w)).length
def insW (found : List C2) (w : C2) : List C2 := if w ∈ found then found else found.take (atW found w) ++ [w] ++ found.drop (atW found w)
def inTurn (ws : List C2) : List C2 := ws.foldl insW []
theorem tw_step {α : Type} (p : α → Bool) : ∀ (l : List α) (k : Nat), k ≤ (l.takeWhile p).length → (k < (l.takeWhile p).length ↔ ∃ x, l[k]? = some x ∧ p x = true)
  | [], k, h => by
    have : k = 0 := by simpa using h
    subst this; simp
  | x :: r, k, h => by
    by_cases hx : p x = true
    · rw [List.takeWhile_cons_of_pos hx] at h ⊢
      cases k with
      | zero => simp [hx]
      | succ k =>
        have ih := tw_step p r k (by simpa using h)
        simp only [List.length_cons, List.getElem?_cons_succ]
        rw [← ih]
        omega
    · rw [List.takeWhile_cons_of_neg (by simpa using hx)] at h ⊢
      have : k = 0 := by simpa using h
      subst this
      simp [hx]
theorem tw_le {α : Type} (p : α → Bool) (l : List α) : (l.takeWhile p).length ≤ l.length := (List.takeWhile_sublist p).length_le
theorem insW_len (f : List C2) (w : C2) : (insW f w).length ≤ f.length + 1 := by
  unfold insW
  split
  · omega
  · simp only [List.length_append, List.length_take, List.length_drop, List.length_singleton]
    omega
def sp_in_turn : Sp := fun vs H Q _ => ∃ (l : Addr) (xs : List V) (ws : List C2), vs = [.ref l] ∧ H l = some (.lst xs) ∧ Paired (Cell H) xs ws ∧ (∀ w ∈ ws, Sm w) ∧ ws.length ≤ 100000 ∧ ∀ v' H', Same H H' → NewL H Cell (inTurn ws) H' v' → Q v' H'
theorem insW_mem (f : List C2) (w c : C2) : c ∈ insW f w ↔ c ∈ f ∨ c = w := by
  unfold insW
  split
  · rename_i h
    constructor
    · exact .inl
    · rintro (h1 | rfl); exact h1; exact h
  · constructor
    · intro h
      rcases List.mem_append.mp h with h | h
      · rcases List.mem_append.mp h with h | h
        · exact .inl (List.mem_of_mem_take h)
        · exact .inr (by simpa using h)
      · exact .inl (List.mem_of_mem_drop h)
    · rintro (h | rfl)
      · rw [← List.take_append_drop (atW f w) f] at h
        rcases List.mem_append.mp h with h | h
        · exact List.mem_append_left _ (List.mem_append_left _ h)
        · exact List.mem_append_right _ h
      · simp
theorem pure_in_turn {K : PySem.W.Frag} (vs : List V) (H : Hp) (Q : VK) (E : XK) (h : sp_in_turn vs H Q E) : t_in_turn K { nx := fun _ H' => Q .non H', rt := Q } (start N_in_turn vs) H := by
  obtain ⟨l, xs, ws, rfl, hx, hp, hs, hz, q⟩ := h
  show t_in_turn K _ [some (.ref l), none, none, none] H
  refine q_set ev_lst0 fun v1 H1 e1 hv1 => ?_
  obtain ⟨f, rfl, hf0, hf1⟩ := hv1
  have hfl : f ≠ l := fun z => by rw [z, hx] at hf0; cases hf0
  refine q_forL (evV_var rfl) (e1 _ _ hx) (fun i σ' H' => (∃ y2 y3, σ' = [some (.ref l), some (.ref f), y2, y3]) ∧ TExt H H' ∧ Same H H' ∧ ∃ vs fs, H' f = some (.lst vs) ∧ Paired (Cell H') vs fs ∧ fs = (ws.take i).foldl insW [] ∧ fs.length ≤ i ∧ ∀ c ∈ fs, Sm c)
    (fun H2 e2 => ⟨⟨_, _, rfl⟩, (e1.trans e2).text, e1.trans e2, [], [], e2 _ _ hf1, .nil, rfl, Nat.zero_le _, fun c hc => by cases hc⟩) (fun i σ' H' _ h => h.2.2.1 _ _ hx) ?_ ?_
  · rintro i v σ' H2 hv ⟨⟨y2, y3, rfl⟩, i1, i2, us, fs, i4, i5, i6, i7, i8⟩
    obtain ⟨w, hw, hcell⟩ := hp.kGetL hv
    have hcw := hcell.text i1
    have hsw := hs w (List.mem_of_getElem? hw)
    have hws : i < ws.length := (List.getElem?_eq_some_iff.mp hw).1
    have fold : (ws.take (i + 1)).foldl insW [] = insW fs w := by
      rw [List.take_add_one, hw, List.foldl_append, ← i6]; rfl
    show (tIfS _ _ _) _ [some (.ref l), some (.ref f), some v, y3] H2
    refine s_when (evT_test (evB_notinL (cs := fs) (evC_var rfl hcw) (ev_varM (R := fun H v => LCells H v fs) rfl tm_lcells ⟨f, us, rfl, i4, i5⟩))) (fun hb H3 e3 => ?_) (fun hb H3 e3 => ?_)
    · have hnw : w ∉ fs := by simpa using hb
      have i4' := e3 _ _ i4
      have i5' := i5.kImp fun x y (r : Cell H2 x y) => r.text e3.text
      have hcw' := hcw.text e3.text
      refine q_setI evI_c fun H4 e4 => ?_
      have i4'' := e4 _ _ i4'
      have i5'' := i5'.kImp fun x y (r : Cell H3 x y) => r.text e4.text
      have hcw'' := hcw'.text e4.text
      refine q_while (fun m σ' H' => ∃ k : Nat, σ' = [some (.ref l), some (.ref f), some v, some (.int k)] ∧ Same H4 H' ∧ k ≤ atW fs w ∧ m = atW fs w - k) (atW fs w) ⟨0, rfl, Same.refl _, Nat.zero_le _, rfl⟩ ?_
      rintro m σ' H5 ⟨k, rfl, e5, hk, rfl⟩
      have i45 := e5 _ _ i4''
      have i55 := i5''.kImp fun x y (r : Cell H4 x y) => r.text e5.text
      have hcw5 := hcw''.text e5.text
      have hle : atW fs w ≤ fs.length := tw_le _ _
      have hll : EvI (tCB (rLenSeq K) (tCons (tVar 1) tNil)) [some (.ref l), some (.ref f), some v, some (.int k)] H5 (fs.length : Int) := (ev_lenL (evV_var rfl) i45).to (by rw [i55.kLen])
      have test : EvT (tAnd (tTest (tOp rLtI (tVar 3) (tCB (rLenSeq K) (tCons (tVar 1) tNil)))) (tTest (tOp rGtI (tOp rSubI (tOp rMulI (tOp (rIxT K) (tOp (rIxL K) (tVar 1) (tVar 3)) (tC (.int 0))) (tOp (rIxT K) (tVar 2) (tC (.int 1)))) (tOp rMulI (tOp (rIxT K) (tOp (rIxL K) (tVar 1) (tVar 3)) (tC (.int 1))) (tOp (rIxT K) (tVar 2) (tC (.int 0))))) (tC (.int 0)))))
          [some (.ref l), some (.ref f), some v, some (.int k)] H5 (decide (k < atW fs w)) := by
        by_cases hkl : k < fs.length
        · have hfk := getD_get (0, 0) hkl
          have hsk := i8 _ (List.mem_of_getElem? hfk)
          generalize fs.getD k (0, 0) = fk at hfk hsk
          have hix : EvC (tOp (rIxL K) (tVar 1) (tVar 3)) [some (.ref l), some (.ref f), some v, some (.int k)] H5 fk := ev_ixLD tm_cell (evV_var rfl) i45 i55 (ixN_nat hkl) hfk (evI_var rfl)
          have c1 : CMul fk.1 w.2 := cm_l (by have := hsk.1; omega)
          have c2 : CMul fk.2 w.1 := cm_l (by have := hsk.2; omega)
          have hlt : EvT (tTest (tOp rLtI (tVar 3) (tCB (rLenSeq K) (tCons (tVar 1) tNil)))) [some (.ref l), some (.ref f), some v, some (.int k)] H5 true := (evT_test (evB_lt (evI_var rfl) hll)).to (decide_eq_true (by omega))
          refine (evT_and hlt fun _ => (by walk_at "ev" : EvT _ _ _ (decide (0 < fk.1 * w.2 - fk.2 * w.1)))).to ?_
          rw [Bool.true_and]
          have := tw_step (fun f => decide (0 < crs f w)) fs k hk
          rw [Bool.eq_iff_iff, decide_eq_true_eq, decide_eq_true_eq]
          show _ ↔ k < (fs.takeWhile _).length
          rw [this, hfk]
          simp [crs]
        · have hlt : EvT (tTest (tOp rLtI (tVar 3) (tCB (rLenSeq K) (tCons (tVar 1) tNil)))) [some (.ref l), some (.ref f), some v, some (.int k)] H5 false := (evT_test (evB_lt (evI_var rfl) hll)).to (decide_eq_false (by omega))
          exact (evT_and (b' := false) hlt fun z => by cases z).to (by rw [Bool.false_and, decide_eq_false]; omega)
      refine ⟨_, test, fun hb H6 e6 => ?_, fun hb H6 e6 => ?_⟩
      · have hlt : k < atW fs w := of_decide_eq_true hb
        refine ⟨fun σ2 H2 => ∃ k' : Nat, σ2 = [some (.ref l), some (.ref f), some v, some (.int k')] ∧ Same H4 H2 ∧ k' = k + 1, ?_, ?_⟩
        · rintro σ2 H7 ⟨k', rfl, e7, rfl⟩
          exact ⟨atW fs w - (k + 1), by omega, k + 1, rfl, e7, by omega, rfl⟩
        · refine s_aug rfl evI_c fun H7 e7 => ⟨k + 1, ?_, (e5.trans e6).trans e7, rfl⟩
          simp
      · have hk2 : k = atW fs w := by
          have : ¬ k < atW fs w := of_decide_eq_false hb
          omega
        subst hk2
        refine s_insert (e6 _ _ i45) (evV_var rfl) (evI_var rfl) (evC_var rfl (hcw5.text e6.text)) (by rw [i55.kLen]; omega) (by omega) fun v' H7 e7 hv' => ⟨⟨_, _, rfl⟩, ?_⟩
        have te : TExt H7 (upd H7 f (.lst (us.take (atW fs w) ++ [v'] ++ us.drop (atW fs w)))) := text_lst (e7 _ _ (e6 _ _ i45))
        have tall : TExt H5 (upd H7 f (.lst (us.take (atW fs w) ++ [v'] ++ us.drop (atW fs w)))) := (e6.text.trans e7.text).trans te
        refine ⟨((((i1.trans e3.text).trans e4.text).trans e5.text).trans tall), ((((((i2.trans e3).trans e4).trans e5).trans e6).trans e7)).mut hf0, _, fs.take (atW fs w) ++ [w] ++ fs.drop (atW fs w), upd_same, ?_, ?_, ?_, ?_⟩
        · have i5f := i55.kImp fun x y (r : Cell H5 x y) => r.text tall
          exact ((i5f.kTake _).kSnoc (hv'.text te)).kApp (i5f.kDrop _)
        · rw [fold]; unfold insW; rw [if_neg hnw]
        · simp only [List.length_append, List.length_take, List.length_drop, List.length_singleton]; omega
        · intro c hc
          have : c ∈ insW fs w := by unfold insW; rw [if_neg hnw]; exact hc
          rcases (insW_mem fs w c).mp this with h | rfl
          · exact i8 c h
          · exact hsw
    · have hnw : w ∈ fs := by simpa using hb
      refine ⟨⟨_, _, rfl⟩, i1.trans e3.text, i2.trans e3, us, fs, e3 _ _ i4, i5.kImp fun _ _ r => r.text e3.text, ?_, by omega, i8⟩
      rw [fold]; unfold insW; rw [if_pos hnw]
  · rintro σ' H2 ⟨⟨y2, y3, rfl⟩, i1, i2, us, fs, i4, i5, i6, i7, i8⟩
    rw [hp.kLen, List.take_length] at i6
    refine s_ret (evV_var rfl) fun v H3 e3 hv => ?_
    subst hv
    refine q _ H3 (i2.trans e3) ⟨f, us, rfl, hf0, e3 _ _ i4, ?_⟩
    have : fs = inTurn ws := i6
    rw [← this]
    exact i5.kImp fun _ _ r => r.text e3.text
theorem evI_third {K : PySem.W.Frag} {σ : L2.St} {H : Hp} {ta : TE} {p : Int × Int × Int} (ha : Ev ta σ H (fun H v => T3 H v p)) : EvI (tOp (rIxT K) ta (tC (.int 2))) σ H p.2.2 :=
  ev_op ha evI_c (fun _ _ _ e h => h.text e.text) fun H1 x y _ h1 h2 Q q => by
    obtain ⟨a, rfl, ho⟩ := h1
    exact ⟨a, _, 2, _, rfl, h2, SqT.of ho, atI_nat (j := 2) rfl, q _ H1 (Same.refl H1) rfl⟩
theorem mono_t3 {p : Int × Int × Int} : Mono (fun H v => T3 H v p) := fun _ _ _ e h => h.text e.text
theorem ceil_le {x l b : Int} (hl : 0 < l) (h : x ≤ b * l) : -((-x).fdiv l) ≤ b := by
  rw [Int.fdiv_eq_ediv_of_nonneg _ (by omega)]
  have h1 : -b ≤ (-x) / l := by
    rw [Int.le_ediv_iff_mul_le hl]
    rw [Int.neg_mul]; omega
  omega
theorem le_ceil {x l : Int} (hl : 0 < l) : x ≤ -((-x).fdiv l) * l := by
  rw [Int.fdiv_eq_ediv_of_nonneg _ (by omega)]
  have := Int.ediv_mul_le (-x) (b := l) (by omega)
  rw [Int.neg_mul]; omega
def sp_size_for : Sp := fun vs H Q _ => ∃ (lw lc : Addr) (v : V) (xw xc : List V) (ws cs : List C2) (p : Int × Int × Int) (B : Int), vs = [.ref lw, .ref lc, v] ∧ H lw = some (.lst xw) ∧ Paired (Cell H) xw ws ∧ H lc = some (.lst xc) ∧ Paired (Cell H) xc cs ∧ T3 H v p ∧ 0 < p.2.2 ∧ p.2.2 < 1073741824 ∧
  (∀ w ∈ ws, Sm w) ∧ (∀ c ∈ cs, Sm c) ∧ 1 ≤ B ∧ (∀ w ∈ ws, ∀ c ∈ cs, beyV w c p ≤ B * p.2.2) ∧ ∀ H' s, Same H H' → 1 ≤ s → s ≤ B → (∀ w ∈ ws, ∀ c ∈ cs, beyV w c p ≤ s * p.2.2) → Q (.int s) H'
theorem pure_size_for {K : PySem.W.Frag} (vs : List V) (H : Hp) (Q : VK) (E : XK) (h : sp_size_for vs H Q E) : t_size_for K sp_beyond { nx := fun _ H' => Q .non H', rt := Q } (start N_size_for vs) H := by
  obtain ⟨lw, lc, v, xw, xc, ws, cs, p, B, rfl, hw, hpw, hc, hpc, hp, hl0, hl1, sw, sc, hB1, hB, q⟩ := h
  show t_size_for K _ _ [some (.ref lw), some (.ref lc), some v, none, none, none] H
  refine q_setI evI_c fun H1 e1 => ?_
  refine q_forL (evV_var rfl) (e1 _ _ hw) (fun i σ' H' => ∃ s y4 y5, σ' = [some (.ref lw), some (.ref lc), some v, some (.int s), y4, y5] ∧ Same H H' ∧ 1 ≤ s ∧ s ≤ B ∧ ∀ w ∈ ws.take i, ∀ c ∈ cs, beyV w c p ≤ s * p.2.2)
    (fun H2 e2 => ⟨1, _, _, rfl, e1.trans e2, by omega, hB1, fun w hw => by cases hw⟩) (fun i σ' H' _ h => by obtain ⟨_, _, _, _, e, _⟩ := h; exact e _ _ hw) ?_ ?_
  · rintro i vw σ' H2 hvw ⟨s, y4, y5, rfl, e2, s1, s2, s3⟩
    obtain ⟨w, hww, hcw⟩ := hpw.kGetL hvw
    have hwm := List.mem_of_getElem? hww
    refine s_forL (a := lc) (xs := xc) (evV_var rfl) (e2 _ _ hc) (fun j σ' H' => ∃ s y5, σ' = [some (.ref lw), some (.ref lc), some v, some (.int s), some vw, y5] ∧ Same H H' ∧ 1 ≤ s ∧ s ≤ B ∧ (∀ w ∈ ws.take i, ∀ c ∈ cs, beyV w c p ≤ s * p.2.2) ∧ ∀ c ∈ cs.take j, beyV w c p ≤ s * p.2.2)
      (fun H3 e3 => ⟨s, _, rfl, e2.trans e3, s1, s2, s3, fun c hc => by cases hc⟩) (fun i σ' H' _ h => by obtain ⟨_, _, _, e, _⟩ := h; exact e _ _ hc) ?_ ?_
    · rintro j vc σ' H3 hvc ⟨s, y5, rfl, e3, s1, s2, s3, s4⟩
      obtain ⟨c, hcc, hcl⟩ := hpc.kGetL hvc
      have hcm := List.mem_of_getElem? hcc
      have hb := hB w hwm c hcm
      generalize hm : -((-beyV w c p).fdiv p.2.2) = m
      have hm1 : m ≤ B := by rw [← hm]; exact ceil_le hl0 hb
      have hm2 : beyV w c p ≤ m * p.2.2 := by rw [← hm]; exact le_ceil hl0
      have ev : EvI (tUn rNegI (tOp rDivI (tUn rNegI (tCall sp_beyond [] E0 (tCons (tVar 4) (tCons (tVar 5) (tCons (tVar 2) tNil))))) (tOp (rIxT K) (tVar 2) (tC (.int 2))))) [some (.ref lw), some (.ref lc), some v, some (.int s), some vw, some vc] H3 m := by
        refine (evI_neg (evI_div (evI_neg (ev_beyond (evC_var rfl (hcw.text e3.text)) (evC_var rfl (hcl.text e3.text)) (ev_varM rfl mono_t3 (hp.text e3.text)) (sw w hwm) (sc c hcm))) (evI_third (ev_varM rfl mono_t3 (hp.text e3.text))) ⟨by omega, by omega⟩)).to hm
      refine s_setI (ev_max2 (evI_var rfl) ev) fun H4 e4 => ⟨_, _, rfl, e3.trans e4, ?_, ?_, ?_, ?_⟩
      · split <;> omega
      · split <;> omega
      · intro w' hw' c' hc'
        have h1 := s3 w' hw' c' hc'
        split
        · rename_i hlt
          have := Int.mul_le_mul_of_nonneg_right (show s ≤ m by omega) (Int.le_of_lt hl0)
          omega
        · exact h1
      · intro c' hc'
        rw [List.take_add_one, hcc] at hc'
        rcases List.mem_append.mp hc' with h | h
        · have h1 := s4 c' h
          split
          · rename_i hlt
            have := Int.mul_le_mul_of_nonneg_right (show s ≤ m by omega) (Int.le_of_lt hl0)
            omega
          · exact h1
        · have : c' = c := by simpa using h
          subst this
          split
          · exact hm2
          · rename_i hlt
            have := Int.mul_le_mul_of_nonneg_right (show m ≤ s by omega) (Int.le_of_lt hl0)
            omega
    · rintro σ' H3 ⟨s, y5, rfl, e3, s1, s2, s3, s4⟩
      refine ⟨s, _, _, rfl, e3, s1, s2, fun w' hw' c' hc' => ?_⟩
      rw [List.take_add_one, hww] at hw'
      rw [hpc.kLen, List.take_length] at s4
      rcases List.mem_append.mp hw' with h | h
      · exact s3 w' h c' hc'
      · have : w' = w := by simpa using h
        subst this
        exact s4 c' hc'
  · rintro σ' H2 ⟨s, y4, y5, rfl, e2, s1, s2, s3⟩
    rw [hpw.kLen, List.take_length] at s3
    refine s_ret (evI_var rfl) fun u H3 e3 hu => ?_
    subst hu
    exact q H3 s (e2.trans e3) s1 s2 s3
def sp_row_at : Sp := fun vs H Q _ => ∃ (v1 v3 v4 v5 : V) (lc : Addr) (xc : List V) (P : List (List C2)) (cs : List C2) (p : Int × Int × Int) (one other : C2), vs = [v1, .ref lc, v3, v4, v5] ∧ Plain H v1 P ∧ H lc = some (.lst xc) ∧ Paired (Cell H) xc cs ∧ T3 H v3 p ∧ Cell H v4 one ∧ Cell H v5 other ∧
  P.length ≤ 64 ∧ (∀ R ∈ P, R.length ≤ 64) ∧ cs.length ≤ 1000 ∧ (∀ c ∈ cs, Sm c) ∧ Sm one ∧ Sm other ∧ (∃ R ∈ P, ∀ z ∈ R, z ∈ cs ∧ beyV one z p ≤ 0 ∧ beyV other z p ≤ 0) ∧ ∀ v' H' R, Same H H' → R ∈ P → Row H' v' R → Q v' H'
theorem pure_row_at {K : PySem.W.Frag} (vs : List V) (H : Hp) (Q : VK) (E : XK) (h : sp_row_at vs H Q E) : t_row_at K sp_beyond { nx := fun _ H' => Q .non H', rt := Q } (start N_row_at vs) H := by
  obtain ⟨v1, v3, v4, v5, lc, xc, P, cs, p, one, other, rfl, ⟨a, xs, rfl, hx, hP⟩, hc, hpc, hp, h4, h5, z1, z2, z3, sc, s4, s5, ⟨R0, hR0, hin0⟩, q⟩ := h
  show t_row_at K _ _ [some (.ref a), some (.ref lc), some v3, some v4, some v5, none, none, none] H
  refine q_set ev_lst0 fun v1 H1 e1 hv1 => ?_
  obtain ⟨f, rfl, hf0, hf1⟩ := hv1
  have hfl : f ≠ lc := fun z => by rw [z, hc] at hf0; cases hf0
  let pr : C2 → Bool := fun z => decide (beyV one z p ≤ 0) && decide (beyV other z p ≤ 0)
  refine q_forL (evV_var rfl) (e1 _ _ hc) (fun i σ' H' => (∃ y6, σ' = [some (.ref a), some (.ref lc), some v3, some v4, some v5, some (.ref f), y6, none]) ∧ TExt H H' ∧ Same H H' ∧ ∃ us, H' f = some (.lst us) ∧ Paired (Cell H') us ((cs.take i).filter pr))
    (fun H2 e2 => ⟨⟨_, rfl⟩, (e1.trans e2).text, e1.trans e2, [], e2 _ _ hf1, .nil⟩) (fun i σ' H' _ h => h.2.2.1 _ _ hc) ?_ ?_
  · rintro i vc σ' H2 hvc ⟨⟨y6, rfl⟩, i1, i2, us, i4, i5⟩
    obtain ⟨c, hcc, hcl⟩ := hpc.kGetL hvc
    have hcm := List.mem_of_getElem? hcc
    have hic : i < cs.length := (List.getElem?_eq_some_iff.mp hcc).1
    have hcl' := hcl.text i1
    have h4' := h4.text i1
    have h5' := h5.text i1
    have hp' := hp.text i1
    show (tIfS _ _ _) _ [some (.ref a), some (.ref lc), some v3, some v4, some v5, some (.ref f), some vc, none] H2
    refine s_when (b := pr c) (evT_and (evT_test (evB_le (ev_beyond (evC_var rfl h4') (evC_var rfl hcl') (ev_varM rfl mono_t3 hp') s4 (sc c hcm)) evI_c)) fun _ => evT_test (evB_le (ev_beyond (evC_var rfl h5') (evC_var rfl hcl') (ev_varM rfl mono_t3 hp') s5 (sc c hcm)) evI_c)) (fun hb H3 e3 => ?_) (fun hb H3 e3 => ?_)
    · refine s_app (e3 _ _ i4) (evV_var rfl) (evC_var rfl (hcl'.text e3.text)) (by rw [i5.kLen]; have := List.length_filter_le pr (cs.take i); rw [List.length_take] at this; omega) fun v H4 e4 hv => ⟨⟨_, rfl⟩, ?_⟩
      have te : TExt H4 (upd H4 f (.lst (us ++ [v]))) := text_lst (e4 _ _ (e3 _ _ i4))
      have tall := (e3.text.trans e4.text).trans te
      refine ⟨i1.trans tall, ((i2.trans e3).trans e4).mut hf0, _, upd_same, ?_⟩
      have := filt_yes (f := id) hcc hb
      simp only [List.map_id, id] at this
      rw [this]
      exact (i5.kImp fun _ _ r => r.text tall).kSnoc (hv.text te)
    · refine ⟨⟨_, rfl⟩, i1.trans e3.text, i2.trans e3, us, e3 _ _ i4, ?_⟩
      have := filt_no (f := id) hcc hb
      simp only [List.map_id, id] at this
      rw [this]
      exact i5.kImp fun _ _ r => r.text e3.text
  · rintro σ' H2 ⟨⟨y6, rfl⟩, i1, i2, us, i4, i5⟩
    rw [hpc.kLen, List.take_length] at i5
    let pR : List C2 → Bool := fun R => (R.map fun z => decide (z ∈ cs.filter pr)).all id
    have hR0p : pR R0 = true := by
      show (R0.map fun z => decide (z ∈ cs.filter pr)).all id = true
      rw [List.all_map, List.all_eq_true]
      intro z hz
      obtain ⟨k1, k2, k3⟩ := hin0 z hz
      simp only [Function.comp, id, decide_eq_true_eq, List.mem_filter, pr, Bool.and_eq_true]
      exact ⟨k1, k2, k3⟩
    have hmem : R0 ∈ P.filter pR := List.mem_filter.mpr ⟨hR0, hR0p⟩
    obtain ⟨R, hR⟩ : ∃ R, (P.filter pR)[0]? = some R := by
      cases e : P.filter pR with
      | nil => rw [e] at hmem; cases hmem
      | cons r t => exact ⟨r, rfl⟩
    have hRP : R ∈ P := (List.mem_filter.mp (List.mem_of_getElem? hR)).1
    have hP2 := hP.kImp fun x y (r : Row H x y) => r.text i1
    have lc := ev_lcT (K := K) (σ := [some (.ref a), some (.ref lc), some v3, some v4, some v5, some (.ref f), y6, none]) (H := H2) (Rx := fun H v cs => Row H v cs) (Ry := fun H v cs => Row H v cs) (ds := P) (xs := xs) (p := pR) (f := id) (tl := tVar 0) (te := tVar 7)
      (tt := tB (tCB (rAll K) (tCons (tLc (iTup K (tVar 7)) (gName 6) tYes (tOp (rInD K) (tVar 6) (tVar 5)) [6]) tNil))) (a := a) (j := 7) (evV_var rfl) (i1 _ _ hx) hP2 tm_row tm_row (by omega) (fun x d H' e m r => ?_) (fun x d H' e m r _ => ev_varM rfl (fun _ _ _ e h => h.text e.text) r)
    · rw [List.map_id] at lc
      exact s_ret (ev_ixN0 tm_row lc hR) fun v H3 e3 hv => q v H3 R (i2.trans e3) hRP hv
    · obtain ⟨b, ws, rfl, hb, hrow⟩ := r
      refine evT_B (ev_all (H0 := H') (b := d.map fun z => decide (z ∈ cs.filter pr)) (ev_mapT (Rx := Cell) (evV_var rfl) hb hrow tm_cell tm_bool (by have := z2 d m; omega) fun x c H'' e'' m'' r'' => ?_))
      refine evB_inL (evC_var rfl r'') (ev_varM (R := fun H v => LCells H v (cs.filter pr)) rfl tm_lcells ⟨f, us, rfl, e'' _ _ (e _ _ i4), i5.kImp fun _ _ r => (r.text e.text).text e''.text⟩)
end K84
namespace K84
open L2 PySem PySem.Spec PyProof.Rows
local macro_rules | `(tactic| walk_at "cm") => `(tactic| first | assumption | exact Or.inl ⟨by omega, by omega⟩ | exact Or.inr ⟨by omega, by omega⟩)
local macro_rules | `(tactic| walk_at "ev") => `(tactic| first
  | assumption | exact evI_c | exact evI_var rfl | exact evV_var rfl | exact evC_var rfl (by assumption)
  | (refine evI_add ?_ ?_ <;> walk_at "ev") | (refine evI_sub ?_ ?_ <;> walk_at "ev")
  | (refine evI_mul ?_ ?_ ?_; (· walk_at "ev"); (· walk_at "ev"); (· walk_at "cm"))
  | (refine evI_fst ?_; walk_at "ev") | (refine evI_snd ?_; walk_at "ev") | (refine evI_neg ?_; walk_at "ev")
  | (refine evC_tup ?_ ?_ <;> walk_at "ev") | (refine evP_tup ?_ ?_ <;> walk_at "ev")
  | (refine evB_eq ?_ ?_ <;> walk_at "ev") | (refine evB_ne ?_ ?_ <;> walk_at "ev")
  | (refine evB_lt ?_ ?_ <;> walk_at "ev") | (refine evB_le ?_ ?_ <;> walk_at "ev") | (refine evB_gt ?_ ?_ <;> walk_at "ev") | (refine evB_ge ?_ ?_ <;> walk_at "ev")
  | (refine evT_test ?_; walk_at "ev") | (refine evT_B ?_; walk_at "ev") | (refine evT_not ?_; walk_at "ev") | exact evT_yes)
def offs (c : C2) (p : Int × Int × Int) : C2 := (c.1 * p.2.2 - p.1, c.2 * p.2.2 - p.2.1)
def negC (c : C2) : C2 := (-c.1, -c.2)
/-- the ways upward that cells give -/
def waysUp (cs : List C2) (p : Int × Int × Int) : List C2 := [(1, 0), (0, 1)] ++ (cs.filter fun c => !decide (offs c p = (0, 0))).map fun c => wayOf (offs c p).1 (offs c p).2
def waysF (cs : List C2) (p : Int × Int × Int) : List C2 := inTurn (waysUp cs p) ++ (inTurn (waysUp cs p)).map negC
theorem inTurn_mem (ws : List C2) (c : C2) : c ∈ inTurn ws ↔ c ∈ ws := by
  have key : ∀ (ws f : List C2), c ∈ ws.foldl insW f ↔ c ∈ f ∨ c ∈ ws := by
    intro ws
    induction ws with
    | nil => intro f; simp
    | cons w r ih =>
      intro f
      rw [List.foldl_cons, ih, insW_mem, List.mem_cons, or_assoc]
  rw [inTurn, key]
  simp
theorem inTurn_len (ws : List C2) : (inTurn ws).length ≤ ws.length := by
  have key : ∀ (ws f : List C2), (ws.foldl insW f).length ≤ f.length + ws.length := by
    intro ws
    induction ws with
    | nil => intro f; simp
    | cons w r ih =>
      intro f
      rw [List.foldl_cons]
      have h1 := ih (insW f w)
      have h2 := insW_len f w
      rw [List.length_cons]; omega
  simpa [inTurn] using key ws []
theorem fdiv_le (x b : Int) (h : b ≠ 0) : (x.fdiv b).natAbs ≤ x.natAbs := by
  have h1 := Int.natAbs_fdiv_le_natAbs x b
  exact h1
theorem wayOf_sm {x y : Int} (h : ¬ (x = 0 ∧ y = 0)) (h1 : x.natAbs < 2 ^ 29) (h2 : y.natAbs < 2 ^ 29) : (wayOf x y).1.natAbs < 2 ^ 29 ∧ (wayOf x y).2.natAbs < 2 ^ 29 := by
  obtain ⟨g1, g2⟩ := gcd_small h
  have hb : wayB x y ≠ 0 := by unfold wayB; split <;> omega
  have a1 := fdiv_le x _ hb
  have a2 := fdiv_le y _ hb
  unfold wayOf
  constructor <;> simp only <;> omega
/-- the offsets are small -/
def OffSm (cs : List C2) (p : Int × Int × Int) : Prop := ∀ c ∈ cs, Sm c ∧ (offs c p).1.natAbs < 2 ^ 29 ∧ (offs c p).2.natAbs < 2 ^ 29
theorem waysUp_sm {cs : List C2} {p : Int × Int × Int} (h : OffSm cs p) : ∀ w ∈ waysUp cs p, w.1.natAbs < 2 ^ 29 ∧ w.2.natAbs < 2 ^ 29 := by
  intro w hw
  rcases List.mem_append.mp hw with hw | hw
  · have : w = (1, 0) ∨ w = (0, 1) := by simpa using hw
    rcases this with rfl | rfl <;> decide
  · obtain ⟨c, hc, rfl⟩ := List.mem_map.mp hw
    obtain ⟨hc1, hc2⟩ := List.mem_filter.mp hc
    have hne : offs c p ≠ (0, 0) := by simpa using hc2
    obtain ⟨_, b1, b2⟩ := h c hc1
    exact wayOf_sm (fun z => hne (Prod.ext z.1 z.2)) b1 b2
theorem waysF_sm {cs : List C2} {p : Int × Int × Int} (h : OffSm cs p) : ∀ w ∈ waysF cs p, w.1.natAbs < 2 ^ 29 ∧ w.2.natAbs < 2 ^ 29 := by
  intro w hw
  rcases List.mem_append.mp hw with hw | hw
  · exact waysUp_sm h w ((inTurn_mem _ _).mp hw)
  · obtain ⟨c, hc, rfl⟩ := List.mem_map.mp hw
    have := waysUp_sm h c ((inTurn_mem _ _).mp hc)
    unfold negC
    simp only [Int.natAbs_neg]
    exact this
theorem waysF_len (cs : List C2) (p : Int × Int × Int) : (waysF cs p).length ≤ 2 * cs.length + 4 := by
  unfold waysF
  rw [List.length_append, List.length_map]
  have h1 := inTurn_len (waysUp cs p)
  have h2 : (waysUp cs p).length ≤ cs.length + 2 := by
    unfold waysUp
    rw [List.length_append, List.length_map]
    have := List.length_filter_le (fun c => !decide (offs c p = (0, 0))) cs
    simp; omega
  omega
def sp_ways_from : Sp := fun vs H Q _ => ∃ (l : Addr) (v : V) (xs : List V) (cs : List C2) (p : Int × Int × Int), vs = [.ref l, v] ∧ H l = some (.lst xs) ∧ Paired (Cell H) xs cs ∧ T3 H v p ∧ OffSm cs p ∧ cs.length ≤ 1000 ∧ ∀ v' H', Same H H' → NewL H Cell (waysF cs p) H' v' → Q v' H'
theorem pure_ways_from {K : PySem.W.Frag} (vs : List V) (H : Hp) (Q : VK) (E : XK) (h : sp_ways_from vs H Q E) : t_ways_from K sp_way_of sp_in_turn { nx := fun _ H' => Q .non H', rt := Q } (start N_ways_from vs) H := by
  obtain ⟨l, v, xs, cs, p, rfl, hx, hp, hv, ho, hz, q⟩ := h
  show t_ways_from K _ _ _ [some (.ref l), some v, none, none, none, none, none, none, none] H
  refine q_asg (ev_varM rfl mono_t3 hv) fun v1 H1 e1 hv1 => g_three hv1 ?_
  refine q_set (ev_lst2 (Rx := Cell) (d := (1, 0)) (e := (0, 1)) tm_cell (by walk_at "ev") (by walk_at "ev")) fun v2 H2 e2 hv2 => ?_
  obtain ⟨f, us, rfl, hf0, hf1, hf2⟩ := hv2
  have e12 := e1.trans e2
  have hfl : f ≠ l := fun z => by rw [z, e1 _ _ hx] at hf0; cases hf0
  let pr : C2 → Bool := fun c => !decide (offs c p = (0, 0))
  let fw : C2 → C2 := fun c => wayOf (offs c p).1 (offs c p).2
  refine q_forL (evV_var rfl) (e12 _ _ hx) (fun i σ' H' => (∃ y6 y7, σ' = [some (.ref l), some v, some (.int p.1), some (.int p.2.1), some (.int p.2.2), some (.ref f), y6, y7, none]) ∧ TExt H H' ∧ Same H H' ∧ ∃ us, H' f = some (.lst us) ∧ Paired (Cell H') us ([(1, 0), (0, 1)] ++ ((cs.take i).filter pr).map fw))
    (fun H3 e3 => ⟨⟨_, _, rfl⟩, (e12.trans e3).text, e12.trans e3, us, e3 _ _ hf1, hf2.kImp fun _ _ r => r.text e3.text⟩) (fun i σ' H' _ h => h.2.2.1 _ _ hx) ?_ ?_
  · rintro i vc σ' H3 hvc ⟨⟨y6, y7, rfl⟩, i1, i2, us, i4, i5⟩
    obtain ⟨c, hc, hcl⟩ := hp.kGetL hvc
    have hcm := List.mem_of_getElem? hc
    have hic : i < cs.length := (List.getElem?_eq_some_iff.mp hc).1
    obtain ⟨⟨s1, s2⟩, o1, o2⟩ := ho c hcm
    have c1 : CMul c.1 p.2.2 := cm_l (by omega)
    have c2 : CMul c.2 p.2.2 := cm_l (by omega)
    refine g_cell (hcl.text i1) ?_
    refine s_when (b := pr c) (evT_test (evB_neC (c := offs c p) (d := (0, 0)) (by unfold offs; walk_at "ev") (by walk_at "ev"))) (fun hb H4 e4 => ?_) (fun hb H4 e4 => ?_)
    · have hne : offs c p ≠ (0, 0) := by simpa [pr] using hb
      refine s_app (e4 _ _ i4) (evV_var rfl) (R := fun H v => Cell H v (fw c)) (ev_call (evA_2 (Ra := fun _ v => v = .int (offs c p).1) (Rb := fun _ v => v = .int (offs c p).2) (by unfold offs; walk_at "ev") mono_eq (by unfold offs; walk_at "ev")) fun H5 vs e5 hv5 Q q => ?_) (by
          rw [i5.kLen, List.length_append, List.length_map]; have := List.length_filter_le pr (cs.take i); rw [List.length_take] at this; simp; omega) fun v5 H5 e5 hv5 => ⟨⟨_, _, rfl⟩, ?_⟩
      · obtain ⟨_, _, rfl, rfl, rfl⟩ := hv5
        exact ⟨_, _, rfl, fun z => hne (Prod.ext z.1 z.2), o1, o2, q⟩
      · have te : TExt H5 (upd H5 f (.lst (us ++ [v5]))) := text_lst (e5 _ _ (e4 _ _ i4))
        have tall := (e4.text.trans e5.text).trans te
        refine ⟨i1.trans tall, ((i2.trans e4).trans e5).mut (e1.free hf0), _, upd_same, ?_⟩
        rw [filt_yes hc hb, ← List.append_assoc]
        exact (i5.kImp fun _ _ r => r.text tall).kSnoc (hv5.text te)
    · refine ⟨⟨_, _, rfl⟩, i1.trans e4.text, i2.trans e4, us, e4 _ _ i4, ?_⟩
      rw [filt_no hc hb]
      exact i5.kImp fun _ _ r => r.text e4.text
  · rintro σ' H3 ⟨⟨y6, y7, rfl⟩, i1, i2, us, i4, i5⟩
    rw [hp.kLen, List.take_length] at i5
    have i5 : Paired (Cell H3) us (waysUp cs p) := i5
    have hsm := waysUp_sm ho
    have hlen : (waysUp cs p).length ≤ 1002 := by
      unfold waysUp
      rw [List.length_append, List.length_map]
      have := List.length_filter_le (fun c => !decide (offs c p = (0, 0))) cs
      simp; omega
    refine q_set (R := NewL H3 Cell (inTurn (waysUp cs p))) (ev_call (evA_1 (evV_var rfl)) fun H4 vs e4 hv4 Q q => ?_) fun v4 H4 e4 hv4 => ?_
    · obtain ⟨_, rfl, rfl⟩ := hv4
      refine ⟨f, us, _, rfl, e4 _ _ i4, i5.kImp fun _ _ r => r.text e4.text, fun w hw => ?_, by omega, fun v' H' e' hn => q v' H' e' ?_⟩
      · have := hsm w hw
        exact ⟨by omega, by omega⟩
      · obtain ⟨r, ys, r1, r2, r3, r4⟩ := hn
        exact ⟨r, ys, r1, e4.free r2, r3, r4⟩
    · obtain ⟨r, ys, rfl, r2, r3, r4⟩ := hv4
      have hlen2 := inTurn_len (waysUp cs p)
      refine s_ret (R := NewL H4 Cell (waysF cs p)) (ev_cat tm_cell (ev_varL rfl tm_cell r3 r4) (ev_new (ev_mapLC (f := negC) (by decide) (evV_var rfl) r3 r4 tm_cell (by omega) fun c H' e' m => ?_)) (by rw [List.length_map]; omega)) fun v5 H5 e5 hv5 => ?_
      · unfold negC; walk_at "ev"
      · obtain ⟨s, zs, h1, h2, h3, h4⟩ := hv5
        exact q v5 H5 ((i2.trans e4).trans e5) ⟨s, zs, h1, (i2.trans e4).free h2, h3, h4⟩
end K84
namespace K84
open L2 PySem PySem.Spec PyProof.Rows
local macro_rules | `(tactic| walk_at "cm") => `(tactic| first | assumption | exact Or.inl ⟨by omega, by omega⟩ | exact Or.inr ⟨by omega, by omega⟩)
local macro_rules | `(tactic| walk_at "ev") => `(tactic| first
  | assumption | exact evI_c | exact evI_var rfl | exact evV_var rfl | exact evC_var rfl (by assumption)
  | (refine evI_add ?_ ?_ <;> walk_at "ev") | (refine evI_sub ?_ ?_ <;> walk_at "ev")
  | (refine evI_mul ?_ ?_ ?_; (· walk_at "ev"); (· walk_at "ev"); (· walk_at "cm"))
  | (refine evI_fst ?_; walk_at "ev") | (refine evI_snd ?_; walk_at "ev") | (refine evI_neg ?_; walk_at "ev")
  | (refine evC_tup ?_ ?_ <;> walk_at "ev") | (refine evP_tup ?_ ?_ <;> walk_at "ev")
  | (refine evB_eq ?_ ?_ <;> walk_at "ev") | (refine evB_ne ?_ ?_ <;> walk_at "ev")
  | (refine evB_lt ?_ ?_ <;> walk_at "ev") | (refine evB_le ?_ ?_ <;> walk_at "ev") | (refine evB_gt ?_ ?_ <;> walk_at "ev") | (refine evB_ge ?_ ?_ <;> walk_at "ev")
  | (refine evT_test ?_; walk_at "ev") | (refine evT_B ?_; walk_at "ev") | (refine evT_not ?_; walk_at "ev") | exact evT_yes)
def stp (s : Int) (h w : C2) : C2 := (h.1 + s * w.1, h.2 + s * w.2)
def stm (s : Int) (h w : C2) : C2 := (h.1 - s * w.1, h.2 - s * w.2)
/-- where the k-th side begins -/
def hereF (s : Int) (h : C2) (ws : List C2) : C2 := ws.foldl (fun h w => stp s (stp s h w) w) h
def ringF (s : Int) : C2 → List C2 → List C2
  | _, [] => []
  | h, w :: r => h :: stp s h w :: ringF s (stp s (stp s h w) w) r
theorem ringF_snoc (s : Int) : ∀ (ws : List C2) (h w : C2), ringF s h (ws ++ [w]) = ringF s h ws ++ [hereF s h ws, stp s (hereF s h ws) w]
  | [], _, _ => rfl
  | v :: r, h, w => by
    show h :: stp s h v :: ringF s _ (r ++ [w]) = h :: stp s h v :: (ringF s _ r ++ _)
    rw [ringF_snoc s r]
    rfl
theorem ringF_len (s : Int) : ∀ (ws : List C2) (h : C2), (ringF s h ws).length = 2 * ws.length
  | [], _ => rfl
  | v :: r, h => by
    show (ringF s _ r).length + 1 + 1 = 2 * (r.length + 1)
    rw [ringF_len s r]; omega
def startF (s : Int) (ws : List C2) : C2 := ws.foldl (stm s) (0, 0)
/-- a living paper, whatever its word -/
def PaperV (H : Hp) (v : V) (pt : C2 × C2) (ring : List C2) (mid corner : C2) (rows : List (List C2)) : Prop :=
  ∃ (a : Addr) (x : Str) (vp vr vm vc vR : V), v = .ref a ∧ H a = some (.tup [.str x, vp, vr, vm, vc, vR]) ∧ Pair H vp pt ∧ Row H vr ring ∧ Cell H vm mid ∧ Cell H vc corner ∧ Plain H vR rows
theorem PaperV.text {H H' : Hp} (e : TExt H H') {v : V} {pt : C2 × C2} {ring : List C2} {mid corner : C2} {rows : List (List C2)} (h : PaperV H v pt ring mid corner rows) : PaperV H' v pt ring mid corner rows := by
  obtain ⟨a, x, vp, vr, vm, vc, vR, h1, h2, h3, h4, h5, h6, h7⟩ := h
  exact ⟨a, x, vp, vr, vm, vc, vR, h1, e _ _ h2, h3.text e, h4.text e, h5.text e, h6.text e, h7.text e⟩
/-- a point's three numbers -/
def triple (pt : C2 × C2) : Int × Int × Int := (pt.1.1 * pt.2.2, pt.2.1 * pt.1.2, pt.1.2 * pt.2.2)
/-- what land_of wants of a rule and a point, told of each list of the rule's cells -/
structure LandPre (P : List (List C2)) (pt : C2 × C2) (B : Int) : Prop where
  len : P.length ≤ 64
  rows : ∀ R ∈ P, R.length ≤ 8
  sm1 : Sm pt.1
  sm2 : Sm pt.2
  l0 : 0 < (triple pt).2.2
  l1 : (triple pt).2.2 < 1073741824
  off : ∀ cs, CellsOf P cs → OffSm cs (triple pt)
  b0 : 1 ≤ B
  b1 : B ≤ 2 ^ 60
  bey : ∀ cs, CellsOf P cs → ∀ w ∈ waysF cs (triple pt), ∀ c ∈ cs, beyV w c (triple pt) ≤ B * (triple pt).2.2
  hit : ∀ cs, CellsOf P cs → ∀ k w u, (waysF cs (triple pt))[k]? = some w → (waysF cs (triple pt))[(k + 1) % (waysF cs (triple pt)).length]? = some u → ∃ R ∈ P, ∀ z ∈ R, beyV w z (triple pt) ≤ 0 ∧ beyV u z (triple pt) ≤ 0
def ringOf (s : Int) (ws : List C2) : List C2 := ringF s (startF s (ws.take (ws.length / 2))) ws
def sp_land_of : Sp := fun vs H Q _ => ∃ (v1 v2 : V) (P : List (List C2)) (pt : C2 × C2) (B : Int), vs = [v1, v2] ∧ Plain H v1 P ∧ Pair H v2 pt ∧ LandPre P pt B ∧
  ∀ v' H' cs s rows, Same H H' → CellsOf P cs → cs.length ≤ 512 → 1 ≤ s → s ≤ B → (∀ w ∈ waysF cs (triple pt), ∀ c ∈ cs, beyV w c (triple pt) ≤ s * (triple pt).2.2) →
    rows.length = (ringOf s (waysF cs (triple pt))).length → (∀ R ∈ rows, R ∈ P) → PaperV H' v' pt (ringOf s (waysF cs (triple pt))) (0, 0) (0, 0) rows → Q v' H'
theorem mono_pair {p : C2 × C2} : Mono (fun H v => Pair H v p) := fun _ _ _ e h => h.text e.text
theorem mono_plain {P : List (List C2)} : Mono (fun H v => Plain H v P) := fun _ _ _ e h => h.text e.text
theorem evA_3 {σ : L2.St} {H : Hp} {ta tb tc : TE} {Ra Rb Rc : Hp → V → Prop} (ha : Ev ta σ H Ra) (ma : Mono Ra) (hb : Ev tb σ H Rb) (mb : Mono Rb) (hc : Ev tc σ H Rc) :
    EvA (tCons ta (tCons tb (tCons tc tNil))) σ H (fun H vs => ∃ v u w, vs = [v, u, w] ∧ Ra H v ∧ Rb H u ∧ Rc H w) := fun H1 e Q q =>
  evA_cons ha ma (evA_2 hb mb hc) H1 e Q fun vs H2 e2 hv => q vs H2 e2 (by
    obtain ⟨v, _, rfl, r1, u, w, rfl, r2, r3⟩ := hv
    exact ⟨v, u, w, rfl, r1, r2, r3⟩)
theorem evA_5 {σ : L2.St} {H : Hp} {ta tb tc td te : TE} {Ra Rb Rc Rd Re : Hp → V → Prop} (ha : Ev ta σ H Ra) (ma : Mono Ra) (hb : Ev tb σ H Rb) (mb : Mono Rb) (hc : Ev tc σ H Rc) (mc : Mono Rc) (hd : Ev td σ H Rd) (md : Mono Rd) (he : Ev te σ H Re) :
    EvA (tCons ta (tCons tb (tCons tc (tCons td (tCons te tNil))))) σ H (fun H vs => ∃ v u w x y, vs = [v, u, w, x, y] ∧ Ra H v ∧ Rb H u ∧ Rc H w ∧ Rd H x ∧ Re H y) := fun H1 e Q q =>
  evA_cons ha ma (evA_cons hb mb (evA_3 hc mc hd md he)) H1 e Q fun vs H2 e2 hv => q vs H2 e2 (by
    obtain ⟨v, _, rfl, r1, u, _, rfl, r2, w, x, y, rfl, r3, r4, r5⟩ := hv
    exact ⟨v, u, w, x, y, rfl, r1, r2, r3, r4, r5⟩)
theorem ixN_last {n : Nat} (h : 0 < n) : ixN n (-1) = some (n - 1) := by
  unfold ixN
  rw [if_neg (by omega), if_pos (by omega)]
  congr 1
  omega
theorem pure_land_of {K : PySem.W.Frag} (vs : List V) (H : Hp) (Q : VK) (E : XK) (h : sp_land_of vs H Q E) : t_land_of K sp_over_common sp_cells_of sp_ways_from sp_size_for sp_row_at { nx := fun _ H' => Q .non H', rt := Q } (start N_land_of vs) H := by
  obtain ⟨v1, v2, P, pt, B, rfl, hP, hpt, L, q⟩ := h
  show t_land_of K _ _ _ _ _ _ [some v1, some v2, none, none, none, none, none, none, none, none, none, none] H
  have hl0 := L.l0
  have hl1 := L.l1
  generalize hp : triple pt = p at *
  -- point
  refine q_set (R := fun H v => T3 H v p) (ev_call (evA_1 (ev_varM rfl mono_pair hpt)) fun H1 vs e hv Q q => ?_) fun v3 H1 e1 hv3 => ?_
  · obtain ⟨v, rfl, hv⟩ := hv
    exact ⟨v, pt, rfl, hv, L.sm1, L.sm2, fun v' H' e' h => q v' H' e' (hp ▸ h)⟩
  -- cells
  have hP1 := hP.text e1.text
  refine q_set (R := fun H' v => ∃ cs, CellsOf P cs ∧ cs.length ≤ 512 ∧ NewL H1 Cell cs H' v) (ev_call (evA_1 (ev_varM rfl mono_plain hP1)) fun H2 vs e hv Q q => ?_) fun v4 H2 e2 hv4 => ?_
  · obtain ⟨v, rfl, hv⟩ := hv
    exact ⟨v, P, rfl, hv, L.len, L.rows, fun v' H' cs e' h1 h2 h3 => q v' H' e' ⟨cs, h1, h2, by
      obtain ⟨r, ys, r1, r2, r3, r4⟩ := h3
      exact ⟨r, ys, r1, e.free r2, r3, r4⟩⟩⟩
  obtain ⟨cs, hcs, hcl, lc, xc, rfl, lc0, lc1, hxc⟩ := hv4
  have hoff : OffSm cs p := hp ▸ L.off cs hcs
  have hbey : ∀ w ∈ waysF cs p, ∀ c ∈ cs, beyV w c p ≤ B * p.2.2 := hp ▸ L.bey cs hcs
  have hhit : ∀ k w u, (waysF cs p)[k]? = some w → (waysF cs p)[(k + 1) % (waysF cs p).length]? = some u → ∃ R ∈ P, ∀ z ∈ R, beyV w z p ≤ 0 ∧ beyV u z p ≤ 0 := hp ▸ L.hit cs hcs
  have hwl := waysF_len cs p
  have hwsm := waysF_sm hoff
  generalize hws : waysF cs p = ws at *
  have wSm : ∀ w ∈ ws, Sm w := fun w hw => by have := hwsm w hw; exact ⟨by omega, by omega⟩
  -- ways
  have hv3_2 := hv3.text e2.text
  refine q_set (R := NewL H2 Cell ws) (ev_call (evA_2 (evV_var rfl) mono_eq (ev_varM rfl mono_t3 hv3_2)) fun H3 vs e hv Q q => ?_) fun v5 H3 e3 hv5 => ?_
  · obtain ⟨_, v, rfl, rfl, hv⟩ := hv
    exact ⟨lc, v, xc, cs, p, rfl, e _ _ lc1, hxc.kImp fun _ _ r => r.text e.text, hv, hoff, by omega, fun v' H' e' h => q v' H' e' (by
      rw [hws] at h
      obtain ⟨r, ys, r1, r2, r3, r4⟩ := h
      exact ⟨r, ys, r1, e.free r2, r3, r4⟩)⟩
  obtain ⟨lw, xw, rfl, lw0, lw1, hxw⟩ := hv5
  have lc3 := e3 _ _ lc1
  have hxc3 := hxc.kImp fun x y (r : Cell H2 x y) => r.text e3.text
  have hv3_3 := hv3_2.text e3.text
  -- size
  refine q_set (R := fun _ v => ∃ s, v = .int s ∧ 1 ≤ s ∧ s ≤ B ∧ ∀ w ∈ ws, ∀ c ∈ cs, beyV w c p ≤ s * p.2.2) (ev_call (evA_3 (evV_var rfl) mono_eq (evV_var rfl) mono_eq (ev_varM rfl mono_t3 hv3_3)) fun H4 vs e hv Q q => ?_) fun v6 H4 e4 hv6 => ?_
  · obtain ⟨_, _, v, rfl, rfl, rfl, hv⟩ := hv
    exact ⟨lw, lc, v, xw, xc, ws, cs, p, B, rfl, e _ _ lw1, hxw.kImp fun _ _ r => r.text e.text, e _ _ lc3, hxc3.kImp fun _ _ r => r.text e.text, hv, hl0, hl1, wSm, fun c hc => (hoff c hc).1, L.b0, hbey, fun H' s e' s1 s2 s3 => q _ H' e' ⟨s, rfl, s1, s2, s3⟩⟩
  obtain ⟨s, rfl, s1, s2, s3⟩ := hv6
  have lw4 := e4 _ _ lw1
  have hxw4 := hxw.kImp fun x y (r : Cell H3 x y) => r.text e4.text
  have sB := L.b1
  -- here
  refine q_set (R := fun H v => Cell H v (0, 0)) (by walk_at "ev") fun v7 H5 e5 hv7 => ?_
  have lw5 := e5 _ _ lw4
  have hxw5 := hxw4.kImp fun x y (r : Cell H4 x y) => r.text e5.text
  have hlen5 : EvI (tCB (rLenSeq K) (tCons (tVar 4) tNil)) [some v1, some v2, some v3, some (.ref lc), some (.ref lw), some (.int s), some v7, none, none, none, none, none] H5 (ws.length : Int) := (ev_lenL (evV_var rfl) lw5).to (by rw [hxw5.kLen])
  refine q_forN (ev_slTo (k := ws.length / 2) tm_cell (ev_varL rfl tm_cell lw5 hxw5) ((evI_div hlen5 evI_c ⟨by omega, by decide⟩).to (by rw [Int.fdiv_eq_ediv_of_nonneg _ (by omega)]; omega))) fun ph xh H6 e6 ph0 ph1 hxh => ?_
  have hv7_6 := hv7.text e6.text
  refine q_forL evV_c ph1 (fun i σ' H' => (∃ u y7, σ' = [some v1, some v2, some v3, some (.ref lc), some (.ref lw), some (.int s), some u, y7, none, none, none, none] ∧ Cell H' u (startF s ((ws.take (ws.length / 2)).take i))) ∧ Same H6 H')
    (fun H7 e7 => ⟨⟨v7, _, rfl, hv7_6.text e7.text⟩, e7⟩) (fun i σ' H' _ h => h.2 _ _ ph1) ?_ ?_
  · rintro i vw σ' H7 hvw ⟨⟨u, y7, rfl, hu⟩, e7⟩
    obtain ⟨w, hw, hcw⟩ := hxh.kGetL hvw
    have hcw7 := hcw.text e7.text
    have c1 : CMul s w.1 := cm_l (by omega)
    have c2 : CMul s w.2 := cm_l (by omega)
    show (tAsg _ _) _ [some v1, some v2, some v3, some (.ref lc), some (.ref lw), some (.int s), some u, some vw, none, none, none, none] H7
    generalize hst : startF s ((ws.take (ws.length / 2)).take i) = st at hu
    refine s_set (R := fun H v => Cell H v (stm s st w)) (by unfold stm; walk_at "ev") fun v8 H8 e8 hv8 => ⟨⟨v8, _, rfl, ?_⟩, e7.trans e8⟩
    rw [List.take_add_one, hw]
    unfold startF at hst ⊢
    rw [List.foldl_append, hst]
    exact hv8
  rintro σ' H7 ⟨⟨u, y7, rfl, hu⟩, e7⟩
  rw [hxh.kLen, List.take_length] at hu
  have e17 : Same H H7 := ((((((e1.trans e2).trans e3).trans e4).trans e5).trans e6).trans e7)
  have lw7 := (e6.trans e7) _ _ lw5
  have hxw7 := hxw5.kImp fun x y (r : Cell H5 x y) => r.text (e6.trans e7).text
  have lc7 := (((e4.trans e5).trans e6).trans e7) _ _ lc3
  have hxc7 := hxc3.kImp fun x y (r : Cell H3 x y) => r.text (((e4.trans e5).trans e6).trans e7).text
  have hv3_7 := hv3_3.text (((e4.trans e5).trans e6).trans e7).text
  have hP7 := hP.text e17.text
  have hpt7 := hpt.text e17.text
  generalize hst : startF s (ws.take (ws.length / 2)) = st at hu
  -- ring, rows = [], []
  refine q_par00 fun lr lo H8 e8 lr0 lo0 hro lr1 lo1 => ?_
  have e18 := e17.trans e8
  have lw8 := e8 _ _ lw7
  have hlrw : lr ≠ lw := fun z => by rw [z, lw7] at lr0; cases lr0
  have hlow : lo ≠ lw := fun z => by rw [z, lw7] at lo0; cases lo0
  have hlrc : lr ≠ lc := fun z => by rw [z, lc7] at lr0; cases lr0
  have hloc : lo ≠ lc := fun z => by rw [z, lc7] at lo0; cases lo0
  refine q_forE (i := 10) (j := 7) (evV_var rfl) lw8 (fun i σ' H' => (∃ u y7 y10 y11, σ' = [some v1, some v2, some v3, some (.ref lc), some (.ref lw), some (.int s), some u, y7, some (.ref lr), some (.ref lo), y10, y11] ∧ Cell H' u (hereF s st (ws.take i))) ∧ TExt H7 H' ∧ Same H7 H' ∧
      (∃ us, H' lr = some (.lst us) ∧ Paired (Cell H') us (ringF s st (ws.take i))) ∧ ∃ os Rs, H' lo = some (.lst os) ∧ Paired (fun v R => Row H' v R) os Rs ∧ Rs.length = 2 * i ∧ ∀ R ∈ Rs, R ∈ P)
    (fun H9 e9 => ⟨⟨u, _, _, _, rfl, hu.text (e8.trans e9).text⟩, (e8.trans e9).text, e8.trans e9, ⟨[], e9 _ _ lr1, .nil⟩, [], [], e9 _ _ lo1, .nil, rfl, fun R hR => by cases hR⟩) (fun i σ' H' _ h => h.2.2.1 _ _ lw7) ?_ ?_
  · rintro k vw σ' H9 H10 hvw ⟨⟨u, y7, y10, y11, rfl, hu⟩, i1, i2, ⟨us, r1, r2⟩, os, Rs, o1, o2, o3, o4⟩ e10
    obtain ⟨w, hw, hcw⟩ := hxw7.kGetL hvw
    have hk : k < ws.length := (List.getElem?_eq_some_iff.mp hw).1
    have hwm := List.mem_of_getElem? hw
    have t10 := i1.trans e10.text
    have hcw10 := hcw.text t10
    have hu10 := hu.text e10.text
    have c1 : CMul s w.1 := cm_l (by omega)
    have c2 : CMul s w.2 := cm_l (by omega)
    have fold : hereF s st (ws.take (k + 1)) = stp s (stp s (hereF s st (ws.take k)) w) w := by
      rw [List.take_add_one, hw]
      unfold hereF
      rw [List.foldl_append]; rfl
    have rsn : ringF s st (ws.take (k + 1)) = ringF s st (ws.take k) ++ [hereF s st (ws.take k), stp s (hereF s st (ws.take k)) w] := by
      rw [List.take_add_one, hw]
      exact ringF_snoc s _ _ _
    have rlen : (ringF s st (ws.take k)).length = 2 * k := by
      rw [ringF_len, List.length_take]; omega
    generalize hereF s st (ws.take k) = hk0 at *
    show (tSeq _ _) _ [some v1, some v2, some v3, some (.ref lc), some (.ref lw), some (.int s), some u, some vw, some (.ref lr), some (.ref lo), some (.int (k : Nat)), y11] H10
    refine q_set (R := fun H v => Cell H v (stp s hk0 w)) (by unfold stp; walk_at "ev") fun vm H11 e11 hvm => ?_
    have hu11 := hu10.text e11.text
    refine q_extend (ds := [hk0, stp s hk0 w]) (Rx := Cell) ((e10.trans e11) _ _ r1) (evV_var rfl) (ev_lst2 tm_cell (evC_var rfl hu11) (evC_var rfl hvm)) (by rw [r2.kLen, rlen]; simp; omega) fun ys H12 e12 hys => ?_
    have e912 := (e10.trans e11).trans e12
    have te : TExt H12 (upd H12 lr (.lst (us ++ ys))) := text_lst (e912 _ _ r1)
    generalize hH13 : upd H12 lr (.lst (us ++ ys)) = H13 at te
    have t13 : TExt H7 H13 := (i1.trans e912.text).trans te
    have s13 : Same H7 H13 := by rw [← hH13]; exact (i2.trans e912).mut lr0
    have r13 : H13 lr = some (.lst (us ++ ys)) := by rw [← hH13]; exact upd_same
    have o13 : H13 lo = some (.lst os) := by rw [← hH13, upd_ne (Ne.symm hro)]; exact e912 _ _ o1
    have rp13 : Paired (Cell H13) (us ++ ys) (ringF s st (ws.take (k + 1))) := by
      rw [rsn]
      exact (r2.kImp fun _ _ r => r.text (e912.text.trans te)).kApp (hys.kImp fun _ _ r => r.text te)
    have op13 : Paired (fun v R => Row H13 v R) os Rs := o2.kImp fun _ _ r => r.text (e912.text.trans te)
    -- the two rows
    have idx : ∀ (H' : Hp), Same H7 H' → ∀ (i : Int) (m : Nat) (w' : C2) (te : TE) (σ : L2.St), σ[4]? = some (some (.ref lw)) → ixN ws.length i = some m → ws[m]? = some w' → EvI te σ H' i → EvC (tOp (rIxL K) (tVar 4) te) σ H' w' := fun H' e' i m w' te σ hσ hi hm hte =>
      ev_ixLD tm_cell (evV_var hσ) (e' _ _ lw7) (hxw7.kImp fun _ _ r => r.text e'.text) hi hm hte
    have rowAt : ∀ (H' : Hp), Same H7 H' → ∀ (σ : L2.St) (t4 t5 : TE) (a b : C2), σ[0]? = some (some v1) → σ[3]? = some (some (.ref lc)) → σ[2]? = some (some v3) → a ∈ ws → b ∈ ws → EvC t4 σ H' a → EvC t5 σ H' b → (∃ R ∈ P, ∀ z ∈ R, beyV a z p ≤ 0 ∧ beyV b z p ≤ 0) →
        Ev (tCall sp_row_at [] E0 (tCons (tVar 0) (tCons (tVar 3) (tCons (tVar 2) (tCons t4 (tCons t5 tNil)))))) σ H' (fun H v => ∃ R ∈ P, Row H v R) := fun H' e' σ t4 t5 a b h0 h3 h2 ha hb h4 h5 ⟨R, hR, hin⟩ =>
      ev_call (evA_5 (ev_varM h0 mono_plain (hP7.text e'.text)) mono_plain (evV_var h3) mono_eq (ev_varM h2 mono_t3 (hv3_7.text e'.text)) mono_t3 h4 mono_cell h5) fun H'' vs e'' hv Q q => by
        obtain ⟨x1, _, x3, x4, x5, rfl, y1, rfl, y3, y4, y5⟩ := hv
        exact ⟨x1, x3, x4, x5, lc, xc, P, cs, p, a, b, rfl, y1, e'' _ _ (e' _ _ lc7), hxc7.kImp fun _ _ r => (r.text e'.text).text e''.text, y3, y4, y5, L.len, fun R hR => by have := L.rows R hR; omega, by omega, fun c hc => (hoff c hc).1, wSm a ha, wSm b hb,
          ⟨R, hR, fun z hz => ⟨(hcs z).mpr ⟨R, hR, hz⟩, hin z hz⟩⟩, fun v' H3 R' e3 hR' hrow => q v' H3 e3 ⟨R', hR', hrow⟩⟩
    have hn0 : 0 < ws.length := by omega
    -- ways[k - 1]
    obtain ⟨m, w', hm1, hm2, hm3⟩ : ∃ m w', ixN ws.length ((k : Int) - 1) = some m ∧ ws[m]? = some w' ∧ (m + 1) % ws.length = k := by
      by_cases hk0 : k = 0
      · subst hk0
        refine ⟨ws.length - 1, _, by rw [show ((0 : Nat) : Int) - 1 = -1 by omega]; exact ixN_last hn0, getD_get (0, 0) (by omega), ?_⟩
        rw [show ws.length - 1 + 1 = ws.length by omega, Nat.mod_self]
      · refine ⟨k - 1, _, by rw [show (k : Int) - 1 = ((k - 1 : Nat) : Int) by omega]; exact ixN_nat (by omega), getD_get (0, 0) (by omega), ?_⟩
        rw [show k - 1 + 1 = k by omega, Nat.mod_eq_of_lt hk]
    have hw'm := List.mem_of_getElem? hm2
    have hit1 := hhit m w' w hm2 (by rw [hm3]; exact hw)
    refine q_app o13 (evV_var rfl) (rowAt H13 s13 _ _ _ w' w rfl rfl rfl hw'm hwm (idx H13 s13 _ m w' _ _ rfl hm1 hm2 (by walk_at "ev")) (evC_var rfl (hcw.text t13)) hit1) (by rw [op13.kLen, o3]; omega) fun va H14 e14 hva => ?_
    obtain ⟨Ra, hRa, hva⟩ := hva
    have te15 : TExt H14 (upd H14 lo (.lst (os ++ [va]))) := text_lst (e14 _ _ o13)
    generalize hH15 : upd H14 lo (.lst (os ++ [va])) = H15 at te15
    have t1315 : TExt H13 H15 := e14.text.trans te15
    have s15 : Same H7 H15 := by rw [← hH15]; exact (s13.trans e14).mut lo0
    have o15 : H15 lo = some (.lst (os ++ [va])) := by rw [← hH15]; exact upd_same
    have r15 : H15 lr = some (.lst (us ++ ys)) := by rw [← hH15, upd_ne hro]; exact e14 _ _ r13
    have op15 : Paired (fun v R => Row H15 v R) (os ++ [va]) (Rs ++ [Ra]) := (op13.kImp fun _ _ r => r.text t1315).kSnoc (hva.text te15)
    -- ways[(k + 1) % len(ways)]
    obtain ⟨w2, hw2⟩ : ∃ w2, ws[(k + 1) % ws.length]? = some w2 := ⟨_, getD_get (0, 0) (Nat.mod_lt _ hn0)⟩
    have hw2m := List.mem_of_getElem? hw2
    have hit2 := hhit k w w2 hw hw2
    have hlen15 : EvI (tCB (rLenSeq K) (tCons (tVar 4) tNil)) [some v1, some v2, some v3, some (.ref lc), some (.ref lw), some (.int s), some u, some vw, some (.ref lr), some (.ref lo), some (.int (k : Nat)), some vm] H15 (ws.length : Int) := (ev_lenL (evV_var rfl) (s15 _ _ lw7)).to (by rw [hxw7.kLen])
    refine q_app o15 (evV_var rfl) (rowAt H15 s15 _ _ _ w w2 rfl rfl rfl hwm hw2m (evC_var rfl (hcw.text (t13.trans t1315))) (idx H15 s15 _ _ w2 _ _ rfl (ixN_nat (Nat.mod_lt _ hn0)) hw2 ((evI_mod (evI_add (evI_var rfl) evI_c) hlen15 (by omega)).to (by rw [Int.natCast_emod]; rfl))) hit2)
      (by rw [op15.kLen, List.length_append, o3]; simp; omega) fun vb H16 e16 hvb => ?_
    obtain ⟨Rb, hRb, hvb⟩ := hvb
    have te17 : TExt H16 (upd H16 lo (.lst (os ++ [va] ++ [vb]))) := text_lst (e16 _ _ o15)
    generalize hH17 : upd H16 lo (.lst (os ++ [va] ++ [vb])) = H17 at te17
    have t1517 : TExt H15 H17 := e16.text.trans te17
    have s17 : Same H7 H17 := by rw [← hH17]; exact (s15.trans e16).mut lo0
    have o17 : H17 lo = some (.lst (os ++ [va] ++ [vb])) := by rw [← hH17]; exact upd_same
    have r17 : H17 lr = some (.lst (us ++ ys)) := by rw [← hH17, upd_ne hro]; exact e16 _ _ r15
    have op17 : Paired (fun v R => Row H17 v R) (os ++ [va] ++ [vb]) (Rs ++ [Ra] ++ [Rb]) := (op15.kImp fun _ _ r => r.text t1517).kSnoc (hvb.text te17)
    have t1117 : TExt H11 H17 := ((e12.text.trans te).trans t1315).trans t1517
    have hvm17 := hvm.text t1117
    have hcw17 := hcw.text ((t13.trans t1315).trans t1517)
    refine s_set (R := fun H v => Cell H v (stp s (stp s hk0 w) w)) (by unfold stp at hvm17 ⊢; walk_at "ev") fun vn H18 e18' hvn => ⟨⟨vn, _, _, _, rfl, by rw [fold]; exact hvn⟩, ((t13.trans t1315).trans t1517).trans e18'.text, s17.trans e18',
      ⟨_, e18' _ _ r17, rp13.kImp fun _ _ r => ((r.text t1315).text t1517).text e18'.text⟩, _, Rs ++ [Ra] ++ [Rb], e18' _ _ o17, op17.kImp fun _ _ r => r.text e18'.text, by simp only [List.length_append, List.length_singleton, o3]; omega, fun R hR => ?_⟩
    rcases List.mem_append.mp hR with h | h
    · rcases List.mem_append.mp h with h | h
      · exact o4 R h
      · have : R = Ra := by simpa using h
        rw [this]; exact hRa
    · have : R = Rb := by simpa using h
      rw [this]; exact hRb
  · rintro σ' H9 ⟨⟨u, y7, y10, y11, rfl, hu⟩, i1, i2, ⟨us, r1, r2⟩, os, Rs, o1, o2, o3, o4⟩
    rw [hxw7.kLen] at o3
    rw [hxw7.kLen, List.take_length] at r2
    have hring : ringF s st ws = ringOf s ws := by unfold ringOf; rw [hst]
    rw [hring] at r2
    refine s_ret (R := fun H v => PaperV H v pt (ringOf s ws) (0, 0) (0, 0) Rs) (ev_tup (evA_cons (R := fun _ v => ∃ x, v = .str x) (fun H1 e Q q => q _ H1 (Same.refl H1) ⟨_, rfl⟩) (fun _ _ _ _ h => h) (evA_5 (ev_varM rfl mono_pair (hpt7.text i1)) mono_pair (ev_tupleOf tm_cell (ev_varL rfl tm_cell r1 r2)) mono_row (evC_tup evI_c evI_c) mono_cell (evC_tup evI_c evI_c) mono_cell (ev_tupleOf tm_row (ev_varL rfl tm_row o1 o2))))
        (fun _ vs h => by obtain ⟨_, _, rfl, _, _, _, _, _, _, rfl, _⟩ := h; show 6 ≤ 1000; decide) fun H' vs p h hp0 _ => ?_) fun v H10 e10 hv => ?_
    · obtain ⟨_, _, rfl, ⟨x, rfl⟩, a1, a2, a3, a4, a5, rfl, b1, b2, b3, b4, b5⟩ := h
      have tn := text_new (o := .tup [.str x, a1, a2, a3, a4, a5]) hp0
      exact ⟨p, x, a1, a2, a3, a4, a5, rfl, upd_same, b1.text tn, Row.text tn b2, b3.text tn, b4.text tn, Plain.text tn b5⟩
    · refine q v H10 cs s Rs ((e17.trans i2).trans e10) hcs hcl s1 s2 ?_ ?_ o4 ?_
      · rw [hws]; exact s3
      · rw [hws, o3, ringOf, ringF_len]
      · rw [hws]; exact hv
end K84
namespace K84
open L2 PySem PySem.Spec PyProof.Rows
local macro_rules | `(tactic| walk_at "cm") => `(tactic| first | assumption | exact Or.inl ⟨by omega, by omega⟩ | exact Or.inr ⟨by omega, by omega⟩)
local macro_rules | `(tactic| walk_at "ev") => `(tactic| first
  | assumption | exact evI_c | exact evI_var rfl | exact evV_var rfl | exact evC_var rfl (by assumption)
  | (refine evI_add ?_ ?_ <;> walk_at "ev") | (refine evI_sub ?_ ?_ <;> walk_at "ev")
  | (refine evI_mul ?_ ?_ ?_; (· walk_at "ev"); (· walk_at "ev"); (· walk_at "cm"))
  | (refine evI_fst ?_; walk_at "ev") | (refine evI_snd ?_; walk_at "ev") | (refine evI_neg ?_; walk_at "ev")
  | (refine evC_tup ?_ ?_ <;> walk_at "ev") | (refine evP_tup ?_ ?_ <;> walk_at "ev")
  | (refine evB_eq ?_ ?_ <;> walk_at "ev") | (refine evB_ne ?_ ?_ <;> walk_at "ev")
  | (refine evB_lt ?_ ?_ <;> walk_at "ev") | (refine evB_le ?_ ?_ <;> walk_at "ev") | (refine evB_gt ?_ ?_ <;> walk_at "ev") | (refine evB_ge ?_ ?_ <;> walk_at "ev")
  | (refine evT_test ?_; walk_at "ev") | (refine evT_B ?_; walk_at "ev") | (refine evT_not ?_; walk_at "ev") | exact evT_yes)
theorem walk_zipT {K : PySem.W.Frag} {a b : Addr} {xs ys : List V} {n : Nat} (hx : xs.length = n) (hy : ys.length = n) : Walk (RZ.ItzT K a b) n (fun H => SqT K H a xs ∧ SqT K H b ys) (YPair (fun i => xs[i]?) (fun i => ys[i]?)) := by
  refine ⟨fun i H hi q => ?_, fun H q => ⟨xs, ys, q.1, q.2, by omega⟩, fun i H v H' _ q y => ?_⟩
  · have h1 : i < xs.length := by omega
    have h2 : i < ys.length := by omega
    exact ⟨xs, ys, xs[i], ys[i], q.1, q.2, by simp [h1], by simp [h2]⟩
  · obtain ⟨T, x, z, h1, h2, h3, h4, h5⟩ := y
    exact ⟨T, x, z, h1, h2, h3, h4 xs q.1, h5 ys q.2⟩
def tmF (n : Int) (f : C2) : C2 := fr (n * f.1) (1 * f.2)
def lsF (n k : Int) (f : C2) : C2 := fr (k * (tmF n f).2 - (tmF n f).1 * 1) (1 * (tmF n f).2)
def ceilF (n k : Int) (f : C2) : Int := 0 - (0 - (lsF n k f).1) / (lsF n k f).2
theorem fr_low {u l : Int} (h : 0 < l) : 0 < (fr u l).2 ∧ (fr u l).2 ≤ l := by
  obtain ⟨g1, g2⟩ := gcd_pos_of (u := u) h
  have hd : (Int.gcd u l : Int) ∣ l := Int.gcd_dvd_right ..
  unfold fr
  simp only
  refine ⟨Int.ediv_pos_of_pos_of_dvd h (by omega) hd, Int.ediv_le_self _ (by omega)⟩
def sp_cell_at : Sp := fun vs H Q _ => ∃ (v : V) (n : Int) (pt : C2 × C2) (ring : List C2) (mid corner : C2) (rows : List (List C2)), vs = [v, .int n] ∧ PaperV H v pt ring mid corner rows ∧ n.natAbs ≤ 2 ^ 62 ∧ 0 < pt.1.2 ∧ pt.1.2 < 1073741824 ∧ 0 < pt.2.2 ∧ pt.2.2 < 1073741824 ∧
  RetC H Q (ceilF n corner.1 pt.1, ceilF n corner.2 pt.2)
theorem evC_one {σ : L2.St} {H : Hp} {ta tb : TE} {i j : Int} (ha : EvI ta σ H i) (hb : EvI tb σ H j) : EvC (tTup (tCons ta (tCons tb tNil))) σ H (i, j) := evC_tup ha hb
theorem ev_cellTurn {σ : L2.St} {H : Hp} {n k : Int} {f : C2} {u : V} (h1 : σ[1]? = some (some (.int n))) (h3 : σ[3]? = some (some (.int k))) (h4 : σ[4]? = some (some u)) (hu : Cell H u f) (hn : n.natAbs ≤ 2 ^ 62) (l0 : 0 < f.2) (l1 : f.2 < 1073741824) :
    EvI (tCall sp_ceiling_of [] E0 (tCons (tCall sp_less [] E0 (tCons (tTup (tCons (tVar 3) (tCons (tC (.int 1)) tNil))) (tCons (tCall sp_times [] E0 (tCons (tTup (tCons (tVar 1) (tCons (tC (.int 1)) tNil))) (tCons (tVar 4) tNil))) tNil))) tNil)) σ H (ceilF n k f) := by
  obtain ⟨t1, t2⟩ := fr_low (u := n * f.1) (show 0 < 1 * f.2 by omega)
  have l2 : 0 < 1 * (tmF n f).2 := by unfold tmF; omega
  obtain ⟨s1, s2⟩ := fr_low (u := k * (tmF n f).2 - (tmF n f).1 * 1) l2
  have et : EvC (tCall sp_times [] E0 (tCons (tTup (tCons (tVar 1) (tCons (tC (.int 1)) tNil))) (tCons (tVar 4) tNil))) σ H (tmF n f) :=
    ev_call (evA_2 (evC_tup (evI_var h1) evI_c) mono_cell (evC_var h4 hu)) fun H1 vs e hv Q q => by
      obtain ⟨v, w, rfl, r1, r2⟩ := hv
      exact ⟨v, w, _, f, rfl, r1, r2, hn, by simp, l0, by simp only; omega, q⟩
  have el : EvC (tCall sp_less [] E0 (tCons (tTup (tCons (tVar 3) (tCons (tC (.int 1)) tNil))) (tCons (tCall sp_times [] E0 (tCons (tTup (tCons (tVar 1) (tCons (tC (.int 1)) tNil))) (tCons (tVar 4) tNil))) tNil))) σ H (lsF n k f) :=
    ev_call (evA_2 (evC_tup (evI_var h3) evI_c) mono_cell et) fun H1 vs e hv Q q => by
      obtain ⟨v, w, rfl, r1, r2⟩ := hv
      refine ⟨v, w, _, _, rfl, r1, r2, by simp, by unfold tmF; omega, ?_, q⟩
      simp only; unfold tmF; omega
  exact ev_call (evA_1 el) fun H1 vs e hv Q q => by
    obtain ⟨v, rfl, r1⟩ := hv
    exact ⟨v, _, rfl, r1, s1, by unfold lsF; unfold tmF at s2 ⊢; omega, fun H' e' => q _ H' e' rfl⟩
theorem pure_cell_at {K : PySem.W.Frag} (vs : List V) (H : Hp) (Q : VK) (E : XK) (h : sp_cell_at vs H Q E) : t_cell_at K sp_times sp_less sp_ceiling_of { nx := fun _ H' => Q .non H', rt := Q } (start N_cell_at vs) H := by
  obtain ⟨v, n, pt, ring, mid, corner, rows, rfl, ⟨a, x, vp, vr, vm, vc, vR, rfl, ha, ⟨ap, u, w, rfl, hap, hu, hw⟩, hr, hm, ⟨ac, rfl, hac⟩, hR⟩, hn, l0, l1, l2, l3, q⟩ := h
  show t_cell_at K _ _ _ _ [some (.ref a), some (.int n), none, none, none] H
  refine q_set ev_lst0 fun v1 H1 e1 hv1 => ?_
  obtain ⟨f, rfl, hf0, hf1⟩ := hv1
  let out : List Int := [ceilF n corner.1 pt.1, ceilF n corner.2 pt.2]
  have wi : ∀ H', Same H1 H' → ∀ R : It → Hp → Prop, (∀ H2, Same H' H2 → R (RZ.ItzT K ac ap) H2) → RZ.iZipA K (tCons (tOp (rIxT K) (tVar 0) (tC (.int 4))) (tCons (tOp (rIxT K) (tVar 0) (tC (.int 1))) tNil)) [some (.ref a), some (.int n), some (.ref f), none, none] H' R := fun H' e R q =>
    evA_2 (ev_ixT (k := 4) (evV_var rfl) (e1 _ _ ha) rfl evI_c) mono_eq (ev_ixT (k := 1) (evV_var rfl) (e1 _ _ ha) rfl evI_c) H' e _ fun vs H2 e2 hv => by
      obtain ⟨_, _, rfl, rfl, rfl⟩ := hv
      exact ⟨ac, ap, _, _, rfl, .inr ⟨SqT.of (((e1.trans e).trans e2) _ _ hac), SqT.of (((e1.trans e).trans e2) _ _ hap), q H2 e2⟩⟩
  refine q_forW wi (walk_zipT (n := 2) (xs := [.int corner.1, .int corner.2]) (ys := [u, w]) rfl rfl) (fun i σ' H' => (∃ y3 y4, σ' = [some (.ref a), some (.int n), some (.ref f), y3, y4]) ∧ Same H H' ∧ H' f = some (.lst ((out.take i).map V.int)))
    (fun H2 e2 => ⟨⟨_, _, rfl⟩, e1.trans e2, e2 _ _ hf1⟩) (fun i σ' H' _ h => ⟨SqT.of (h.2.1 _ _ hac), SqT.of (h.2.1 _ _ hap)⟩) ?_ ?_
  · rintro i x σ' H2 H3 hi ⟨⟨y3, y4, rfl⟩, i1, i2⟩ ⟨T, x1, x2, rfl, hT, rfl, g1, g2⟩
    refine g_two rfl upd_same ?_
    have e3 : Same H2 (upd H2 T (.tup [x1, x2])) := same_new hT
    generalize upd H2 T (.tup [x1, x2]) = H3 at e3
    have go : ∀ (D : Ends) (k : Int) (fr : C2) (u : V), (∀ σ' H', ((∃ y3 y4, σ' = [some (.ref a), some (.int n), some (.ref f), y3, y4]) ∧ Same H H' ∧ H' f = some (.lst ((out.take (i + 1)).map V.int))) → D.nx σ' H') → x1 = .int k → x2 = u → Cell H u fr → 0 < fr.2 → fr.2 < 1073741824 → out[i]? = some (ceilF n k fr) →
        (tDrop (tBM K "list" rAppend (tVar 2) (tCons (tCall sp_ceiling_of [] E0 (tCons (tCall sp_less [] E0 (tCons (tTup (tCons (tVar 3) (tCons (tC (.int 1)) tNil))) (tCons (tCall sp_times [] E0 (tCons (tTup (tCons (tVar 1) (tCons (tC (.int 1)) tNil))) (tCons (tVar 4) tNil))) tNil))) tNil)) tNil)))
        D [some (.ref a), some (.int n), some (.ref f), some x1, some x2] H3 := fun D k fr u hD hx1 hx2 hu m0 m1 ho => by
      subst hx1; subst hx2
      refine s_app (e3 _ _ i2) (evV_var rfl) (ev_cellTurn (n := n) (k := k) (f := fr) rfl rfl rfl (hu.text (i1.trans e3).text) hn m0 m1) (by simp; omega) fun v H4 e4 hv => hD _ _ ⟨⟨_, _, rfl⟩, ((i1.trans e3).trans e4).mut hf0, ?_⟩
      rw [upd_same, List.take_add_one, ho, hv]
      simp
    have hi2 : i = 0 ∨ i = 1 := by omega
    rcases hi2 with rfl | rfl
    · cases g1; cases g2
      exact go _ corner.1 pt.1 _ (fun _ _ h => h) rfl rfl hu l0 l1 rfl
    · cases g1; cases g2
      exact go _ corner.2 pt.2 _ (fun _ _ h => h) rfl rfl hw l2 l3 rfl
  · rintro σ' H2 ⟨⟨y3, y4, rfl⟩, i1, i2⟩
    refine s_ret (R := fun H v => Cell H v (ceilF n corner.1 pt.1, ceilF n corner.2 pt.2)) (fun H3 e3 Q q => ?_) fun v H3 e3 hv => q v H3 (i1.trans e3) hv
    exact ⟨_, rfl, f, _, rfl, .inl ⟨SqL.of (e3 _ _ i2), fun p hp => q _ _ (same_new hp) ⟨p, rfl, upd_same⟩⟩⟩
def Kept (H : Hp) (v : V) (cs : List C2) : Prop := ∃ d kvs, v = .ref d ∧ H d = some (.dT kvs) ∧ ∀ c, (valV kvs (keyC c)).isSome = decide (c ∈ cs)
def sp_kept_of : Sp := fun vs H Q _ => ∃ (v : V) (cs : List C2), vs = [v] ∧ Row H v cs ∧ cs.length ≤ 1000000 ∧ ∀ v' H', Same H H' → Kept H' v' cs → Q v' H'
def PairT (H : Hp) (v : V) (c : C2) : Prop := ∃ t u, v = .ref t ∧ H t = some (.tup [u, .bl true]) ∧ Cell H u c
theorem tm_pairT : TMono PairT := fun _ _ _ _ e ⟨t, u, h1, h2, h3⟩ => ⟨t, u, h1, e _ _ h2, h3.text e⟩
theorem ev_dictT {σ : L2.St} {H H0 : Hp} {tl : TE} {cs : List C2} (h : Ev tl σ H (NewL H0 PairT cs)) (hz : cs.length ≤ 1000000) : Ev (tCB rDictT (tCons tl tNil)) σ H (fun H v => Kept H v cs) := fun H1 e1 Q q => h H1 e1 _ fun v H2 e2 hv => by
  obtain ⟨l, ys, rfl, h1, h2, h3⟩ := hv
  refine ⟨l, ys, cs, rfl, h2, h3, hz, fun kvs p hk hp0 => q _ _ (e2.trans (same_new hp0)) ⟨p, kvs, rfl, upd_same, fun c => ?_⟩⟩
  rw [Bool.eq_iff_iff, hk, decide_eq_true_eq]
  constructor
  · rintro ⟨d, hd, e⟩; rw [keyC_inj e]; exact hd
  · intro hc; exact ⟨c, hc, rfl⟩
theorem pure_kept_of {K : PySem.W.Frag} (vs : List V) (H : Hp) (Q : VK) (E : XK) (h : sp_kept_of vs H Q E) : t_kept_of K { nx := fun _ H' => Q .non H', rt := Q } (start N_kept_of vs) H := by
  obtain ⟨v, cs, rfl, ⟨a, xs, rfl, hx, hp⟩, hz, q⟩ := h
  show t_kept_of K _ [some (.ref a), none] H
  have lc := ev_mapT (K := K) (σ := [some (.ref a), none]) (H := H) (Rx := Cell) (Ry := PairT) (f := id) (tl := tVar 0) (te := tTup (tCons (tVar 1) (tCons (tC (.bl true)) tNil))) (j := 1) (evV_var rfl) hx hp tm_cell tm_pairT (by omega) fun x c H' e m r =>
    ev_tup (evA_2 (evC_var rfl r) mono_cell evB_c) (fun _ vs h => by obtain ⟨_, _, rfl, _⟩ := h; show 2 ≤ 1000; decide) fun H'' vs p h hp _ => by
      obtain ⟨_, _, rfl, h1, rfl⟩ := h
      exact ⟨p, _, rfl, upd_same, h1.text (text_new hp)⟩
  rw [List.map_id] at lc
  exact s_ret (ev_dictT lc hz) fun v H1 e1 hv => q v H1 e1 hv
def brk (R : List C2) (cs : List C2) (c : C2) : Bool := (R.map fun z => decide ((z.1 + c.1, z.2 + c.2) ∈ cs)).all id
theorem brk_iff {R cs : List C2} {c : C2} : brk R cs c = true ↔ ∀ z ∈ R, (z.1 + c.1, z.2 + c.2) ∈ cs := by
  unfold brk
  rw [List.all_map, List.all_eq_true]
  simp only [Function.comp, id, decide_eq_true_eq]
theorem Kept.din {σ : L2.St} {H : Hp} {td ty : TE} {d : Addr} {kvs : List (List Key × V)} {cs : List C2} {c : C2} (hd : H d = some (.dT kvs)) (hk : ∀ c, (valV kvs (keyC c)).isSome = decide (c ∈ cs)) (h : Ev td σ H (fun _ v => v = .ref d)) (hc : EvC ty σ H c) : EvB (tDIn ty td) σ H (decide (c ∈ cs)) :=
  (evB_din hd h hc).to (hk c)
theorem Kept.same {H H' : Hp} (e : Same H H') {v : V} {cs : List C2} (h : Kept H v cs) : Kept H' v cs := by
  obtain ⟨d, kvs, h1, h2, h3⟩ := h; exact ⟨d, kvs, h1, e _ _ h2, h3⟩
def sp_is_broken_by : Sp := fun vs H Q _ => ∃ (v1 v2 v3 : V) (R cs : List C2) (c : C2), vs = [v1, v2, v3] ∧ Row H v1 R ∧ Kept H v2 cs ∧ Cell H v3 c ∧ R.length ≤ 1000 ∧ ∀ H', Same H H' → Q (.bl (brk R cs c)) H'
theorem pure_is_broken_by {K : PySem.W.Frag} (vs : List V) (H : Hp) (Q : VK) (E : XK) (h : sp_is_broken_by vs H Q E) : t_is_broken_by K sp_carried { nx := fun _ H' => Q .non H', rt := Q } (start N_is_broken_by vs) H := by
  obtain ⟨v1, v2, v3, R, cs, c, rfl, ⟨a, xs, rfl, hx, hp⟩, ⟨d, kvs, rfl, hd, hk⟩, hc, hz, q⟩ := h
  show t_is_broken_by K _ _ [some (.ref a), some (.ref d), some v3, none] H
  refine s_ret (ev_all (H0 := H) (b := R.map fun z => decide ((z.1 + c.1, z.2 + c.2) ∈ cs)) (ev_mapT (Rx := Cell) (evV_var rfl) hx hp tm_cell tm_bool (by omega) fun x z H' e m r => ?_)) fun v H1 e1 hv => ?_
  · exact Kept.din (e _ _ hd) hk (evV_var rfl) (ev_carried (evC_var rfl r) (evC_var rfl (hc.text e.text)))
  · subst hv; exact q H1 e1
/-- what a beat breaks -/
def BeatR (P : List (List C2)) (cs ds : List C2) : Prop := (∀ c, c ∈ ds ↔ ∃ R ∈ P, ∀ z ∈ R, (z.1 + c.1, z.2 + c.2) ∈ cs) ∧ ds.Nodup
def SortedC (ds : List C2) : Prop := ds.Pairwise (fun p q => p.1 < q.1 ∨ (p.1 = q.1 ∧ p.2 ≤ q.2))
/-- sorted of a list of cells -/
theorem ev_sortedL {K : PySem.W.Frag} {σ : L2.St} {H : Hp} {tl : TE} {cs : List C2} (h : Ev tl σ H (fun H v => LCells H v cs)) : Ev (tCB (rSortedPO K) (tCons tl tNil)) σ H (fun H' v => ∃ ds, ds.Perm cs ∧ SortedC ds ∧ NewL H Cell ds H' v) := fun H1 e Q q =>
  h H1 e _ fun v H2 e2 hv => by
    obtain ⟨a, xs, rfl, hx, hp⟩ := hv
    let k : V → Int × Int := fun x => Classical.epsilon fun c => Cell H2 x c
    have hk : ∀ x c, Cell H2 x c → k x = c := fun x c hc => (Classical.epsilon_spec (p := fun c => Cell H2 x c) ⟨c, hc⟩).inj hc
    have hcs : xs.map k = cs := hp.kMapL hk
    refine ⟨a, xs, k, rfl, SqL.of hx, fun x hx => ?_, fun ys p hs hb hp0 => q _ _ (e2.trans (same_new hp0)) ⟨ys.map k, ?_, ?_, p, ys, rfl, (e.trans e2).free hp0, upd_same, ?_⟩⟩
    · obtain ⟨c, _, hc⟩ := hp.kMemL hx
      rw [hk x c hc]
      exact hc
    · rw [← hcs]; exact hb.perm.map k
    · refine List.pairwise_map.mpr (hs.imp fun {x y} h => ?_)
      have := SrtO.lexB_no.mp h
      omega
    · refine PySem.Paired.kOfMapL ys fun y hy => ?_
      obtain ⟨c, _, hc⟩ := hp.kMemL (hb.perm.mem_iff.mp hy)
      rw [hk y c hc]
      exact hc.text (text_new hp0)
/-- list of a dict's keys -/
theorem ev_listDT {σ : L2.St} {H : Hp} {tl : TE} {d : Addr} {kvs : List (List Key × V)} {cs : List C2} (h : Ev tl σ H (fun _ v => v = .ref d)) (hd : H d = some (.dT kvs)) (hk : Keys kvs cs) : Ev (tCB rListDT (tCons tl tNil)) σ H (NewL H Cell cs) := fun H1 e Q q =>
  h H1 e _ fun v H2 e2 hv => by
    subst hv
    refine ⟨d, kvs, rfl, .inl ((e.trans e2) _ _ hd), fun p bs hp hb => q _ _ (e2.trans (same_new hp)) ⟨p, _, rfl, (e.trans e2).free hp, upd_same, ?_⟩⟩
    have key : ∀ {kvs : List (List Key × V)} {bs : List Addr} {cs : List C2}, IsKeys H2 kvs bs → kvs.map (·.1) = cs.map keyC → Paired (Cell H2) (bs.map V.ref) cs := by
      intro kvs bs
      induction kvs generalizing bs with
      | nil =>
        intro cs hb hk
        cases hb
        cases cs with
        | nil => exact .nil
        | cons c r => cases hk
      | cons kv r ih =>
        intro cs hb hk
        cases hb with
        | cons h1 h2 =>
          cases cs with
          | nil => cases hk
          | cons c cr =>
            rw [List.map_cons, List.map_cons] at hk
            injection hk with k1 k2
            refine .cons ⟨_, rfl, ?_⟩ (ih h2 k2)
            rw [h1, k1]; rfl
    exact (key hb hk.1).kImp fun _ _ r => r.text (text_new hp)
def sp_beat : Sp := fun vs H Q _ => ∃ (v1 v2 : V) (P : List (List C2)) (cs : List C2), vs = [v1, v2] ∧ Plain H v1 P ∧ Row H v2 cs ∧ P.length ≤ 64 ∧ (∀ R ∈ P, R ≠ [] ∧ R.length ≤ 8) ∧ cs.length ≤ 100000 ∧ ∀ v' H' ds, Same H H' → BeatR P cs ds → Row H' v' ds → Q v' H'
theorem pure_beat {K : PySem.W.Frag} (vs : List V) (H : Hp) (Q : VK) (E : XK) (h : sp_beat vs H Q E) : t_beat K sp_kept_of sp_carried sp_is_broken_by { nx := fun _ H' => Q .non H', rt := Q } (start N_beat vs) H := by
  obtain ⟨v1, v2, P, cs, rfl, ⟨a, xs, rfl, hx, hP⟩, hcs, z1, z2, z3, q⟩ := h
  show t_beat K _ _ _ _ [some (.ref a), some v2, none, none, none, none, none, none] H
  refine q_set (R := fun H v => Kept H v cs) (ev_call (evA_1 (ev_varM (R := fun H v => Row H v cs) rfl mono_row hcs)) fun H1 vs e hv Q q => ?_) fun vk H1 e1 hk => ?_
  · obtain ⟨v, rfl, hv⟩ := hv
    exact ⟨v, cs, rfl, hv, by omega, q⟩
  refine q_set ev_dnewT fun v1 H2 e2 hv1 => ?_
  obtain ⟨f, rfl, hf0, hf1⟩ := hv1
  obtain ⟨ac, xc, rfl, hac, hxc⟩ := hcs
  have e12 := e1.trans e2
  have hk2 := hk.same e2
  let T : Nat → Nat → C2 → Prop := fun i j c => (∃ R ∈ P.take i, ∀ z ∈ R, (z.1 + c.1, z.2 + c.2) ∈ cs) ∨ ∃ R, P[i]? = some R ∧ (∀ z ∈ R, (z.1 + c.1, z.2 + c.2) ∈ cs) ∧ ∃ d ∈ cs.take j, ∃ z, R.head? = some z ∧ c = (d.1 + (0 - z.1), d.2 + (0 - z.2))
  let Inv := fun (H' : Hp) (m i j : Nat) => TExt H2 H' ∧ Same H1 H' ∧ ∃ kvs ds, H' f = some (.dT kvs) ∧ Keys kvs ds ∧ ds.length ≤ m ∧ ∀ c, c ∈ ds ↔ T i j c
  have inv_same : ∀ {H' H'' m i j}, Inv H' m i j → Same H' H'' → Inv H'' m i j := fun {H' H'' m i j} h e => by
    obtain ⟨i1, i2, ws, ds, i4, i5, i6, i7⟩ := h
    exact ⟨i1.trans e.text, i2.trans e, ws, ds, e _ _ i4, i5, i6, i7⟩
  have zlen : xc.length = cs.length := hxc.kLen
  refine q_forT (evV_var rfl) (e12 _ _ hx) (fun i σ' H' => (∃ y4 y5 y6 y7, σ' = [some (.ref a), some (.ref ac), some vk, some (.ref f), y4, y5, y6, y7]) ∧ Inv H' (i * cs.length) i 0) (fun H3 e3 => ⟨⟨_, _, _, _, rfl⟩, inv_same ⟨TExt.refl _, e2, [], [], hf1, Keys.nil, Nat.zero_le _, fun c => ?_⟩ e3⟩) (fun i σ' H' _ h => h.2.2.1 _ _ (e1 _ _ hx)) ?_ ?_
  · constructor
    · intro h; cases h
    · rintro (⟨R, hR, _⟩ | ⟨R, _, _, d, hd, _⟩)
      · cases hR
      · cases hd
  · rintro i vr σ' H3 hvr ⟨⟨y4, y5, y6, y7, rfl⟩, hI⟩
    obtain ⟨R, hR, hrow⟩ := hP.kGetL hvr
    have hRm := List.mem_of_getElem? hR
    have hiP : i < P.length := (List.getElem?_eq_some_iff.mp hR).1
    obtain ⟨hRne, hRl⟩ := z2 R hRm
    obtain ⟨z0, hz0⟩ : ∃ z, R.head? = some z := by
      cases R with
      | nil => exact absurd rfl hRne
      | cons z r => exact ⟨z, rfl⟩
    have hz00 : R[0]? = some z0 := by rw [← hz0]; cases R <;> rfl
    obtain ⟨ar, xr, rfl, har, hxr⟩ := hrow
    have t3 : TExt H H3 := e12.text.trans hI.1
    have har3 := t3 _ _ har
    have hxr3 := hxr.kImp fun x y (r : Cell H x y) => r.text t3
    show (tSeq _ _) _ [some (.ref a), some (.ref ac), some vk, some (.ref f), some (.ref ar), y5, y6, y7] H3
    have e0 : EvC (tOp (rIxT K) (tVar 4) (tC (.int 0))) [some (.ref a), some (.ref ac), some vk, some (.ref f), some (.ref ar), y5, y6, y7] H3 z0 := ev_ixTD (k := 0) tm_cell (evV_var rfl) har3 hxr3 hz00 evI_c
    refine q_set (R := fun H v => Cell H v (0 - z0.1, 0 - z0.2)) (evC_tup (evI_sub evI_c (evI_fst e0)) (evI_sub evI_c (evI_snd e0))) fun vb H4 e4 hvb => ?_
    have hI4 := inv_same hI e4
    refine s_forT (a := ac) (xs := xc) (evV_var rfl) (hI4.1 _ _ (e12 _ _ hac)) (fun j σ' H' => (∃ y6 y7, σ' = [some (.ref a), some (.ref ac), some vk, some (.ref f), some (.ref ar), some vb, y6, y7]) ∧ TExt H4 H' ∧ Inv H' (i * cs.length + j) i j) (fun H5 e5 => ⟨⟨_, _, rfl⟩, e5.text, inv_same hI4 e5⟩) (fun j σ' H' _ h => h.2.2.1 _ _ (e12 _ _ hac)) ?_ ?_
    · rintro j vc σ' H5 hvc ⟨⟨y6, y7, rfl⟩, t45, hJ⟩
      obtain ⟨c, hc, hcl⟩ := hxc.kGetL hvc
      have hjc : j < cs.length := (List.getElem?_eq_some_iff.mp hc).1
      have t5 : TExt H H5 := e12.text.trans hJ.1
      show (tSeq _ _) _ [some (.ref a), some (.ref ac), some vk, some (.ref f), some (.ref ar), some vb, some vc, y7] H5
      refine q_set (ev_carried (evC_var rfl (hcl.text t5)) (evC_var rfl (hvb.text t45))) fun vp H6 e6 hvp => ?_
      generalize hpl : ((c.1 + (0 - z0.1), c.2 + (0 - z0.2)) : C2) = pl at hvp
      have hJ6 := inv_same hJ e6
      obtain ⟨i1, i2, kvs, ds, i4, i5, i6, i7⟩ := id hJ6
      have hk6 : Kept H6 vk cs := hk.same i2
      have stepT : ∀ d, T i (j + 1) d ↔ T i j d ∨ (d = pl ∧ ∀ z ∈ R, (z.1 + d.1, z.2 + d.2) ∈ cs) := fun d => by
        show (_ ∨ _) ↔ (_ ∨ _) ∨ _
        constructor
        · rintro (h | ⟨R', h1, h2, e, h3, z, h4, h5⟩)
          · exact .inl (.inl h)
          · rw [hR] at h1; cases h1
            rw [hz0] at h4; cases h4
            rw [List.take_add_one, hc] at h3
            rcases List.mem_append.mp h3 with h | h
            · exact .inl (.inr ⟨R, hR, h2, e, h, z0, hz0, h5⟩)
            · have : e = c := by simpa using h
              subst this
              exact .inr ⟨by rw [h5, hpl], h2⟩
        · rintro ((h | ⟨R', h1, h2, e, h3, z, h4, h5⟩) | ⟨h1, h2⟩)
          · exact .inl h
          · exact .inr ⟨R', h1, h2, e, by rw [List.take_add_one]; exact List.mem_append_left _ h3, z, h4, h5⟩
          · exact .inr ⟨R, hR, h2, c, by rw [List.take_add_one, hc]; simp, z0, hz0, by rw [h1, ← hpl]⟩
      have brkE : EvB (tCall sp_is_broken_by [] E0 (tCons (tVar 4) (tCons (tVar 2) (tCons (tVar 7) tNil)))) [some (.ref a), some (.ref ac), some vk, some (.ref f), some (.ref ar), some vb, some vc, some vp] H6 (brk R cs pl) :=
        ev_call (evA_3 (ev_varM (R := fun H v => Row H v R) rfl mono_row ⟨ar, xr, rfl, (t5.trans e6.text) _ _ har, hxr.kImp fun _ _ r => r.text (t5.trans e6.text)⟩) mono_row (ev_varM (R := fun H v => Kept H v cs) rfl (fun _ _ _ e h => h.same e) hk6) (fun _ _ _ e h => h.same e) (evC_var rfl hvp)) fun H7 vs e7 hv Q q => by
          obtain ⟨x1, x2, x3, rfl, r1, r2, r3⟩ := hv
          exact ⟨x1, x2, x3, R, cs, pl, rfl, r1, r2, r3, by omega, fun H' e' => q _ H' e' rfl⟩
      refine s_when (b := !decide (pl ∈ ds) && brk R cs pl) (evT_and (evT_B ((evB_dnotin i4 (evV_var rfl) (evC_var rfl hvp)).to (by rw [i5.has]))) fun _ => evT_B brkE) (fun hb H7 e7 => ?_) (fun hb H7 e7 => ?_)
      · rw [Bool.and_eq_true, Bool.not_eq_true', decide_eq_false_iff_not, brk_iff] at hb
        refine s_dputC (e7 _ _ i4) evB_c (evV_var rfl) (evC_var rfl (hvp.text e7.text)) (by rw [i5.len]; have : i * cs.length ≤ 64 * cs.length := Nat.mul_le_mul_right _ (by omega); omega) fun v H8 e8 => ⟨⟨_, _, rfl⟩, ?_⟩
        have te : TExt H8 (upd H8 f (.dT (putK kvs (keyC pl) v))) := text_dT (e8 _ _ (e7 _ _ i4))
        have e68 := e7.trans e8
        refine ⟨((t45.trans e6.text).trans e68.text).trans te, (i1.trans e68.text).trans te, (i2.trans e68).mut hf0, _, _, upd_same, i5.put pl v, ?_, fun d => ?_⟩
        · rw [if_neg hb.1, List.length_append]; simp; omega
        · rw [if_neg hb.1, List.mem_append, i7 d, stepT d]
          constructor
          · rintro (h | h)
            · exact .inl h
            · have : d = pl := by simpa using h
              exact .inr ⟨this, by rw [this]; exact hb.2⟩
          · rintro (h | ⟨h, _⟩)
            · exact .inl h
            · exact .inr (by simp [h])
      · refine ⟨⟨_, _, rfl⟩, (t45.trans e6.text).trans e7.text, i1.trans e7.text, i2.trans e7, kvs, ds, e7 _ _ i4, i5, by omega, fun d => ?_⟩
        rw [stepT d, i7 d]
        constructor
        · exact .inl
        · rintro (h | ⟨h1, h2⟩)
          · exact h
          · rw [h1] at h2 ⊢
            have hbrk : brk R cs pl = true := brk_iff.mpr h2
            rw [hbrk, Bool.and_true] at hb
            have : pl ∈ ds := by simpa using hb
            exact (i7 pl).mp this
    · rintro σ' H5 ⟨⟨y6, y7, rfl⟩, t45, i1, i2, kvs, ds, i4, i5, i6, i7⟩
      refine ⟨⟨_, _, _, _, rfl⟩, i1, i2, kvs, ds, i4, i5, by rw [zlen] at i6; rw [Nat.add_mul]; omega, fun d => ?_⟩
      rw [i7 d, zlen]
      show (_ ∨ _) ↔ (_ ∨ _)
      have tk : P.take (i + 1) = P.take i ++ [R] := by rw [List.take_add_one, hR]; rfl
      rw [List.take_length, tk]
      constructor
      · rintro (⟨R', h1, h2⟩ | ⟨R', h1, h2, _⟩)
        · exact .inl ⟨R', List.mem_append_left _ h1, h2⟩
        · rw [hR] at h1; cases h1
          exact .inl ⟨R, by simp, h2⟩
      · rintro (⟨R', h1, h2⟩ | ⟨R', h1, h2, e, h3, _⟩)
        · rcases List.mem_append.mp h1 with h | h
          · exact .inl ⟨R', h, h2⟩
          · have : R' = R := by simpa using h
            subst this
            refine .inr ⟨R', hR, h2, (z0.1 + d.1, z0.2 + d.2), h2 z0 (List.mem_of_getElem? hz00), z0, hz0, ?_⟩
            refine Prod.ext ?_ ?_ <;> simp only <;> omega
        · cases h3
  · rintro σ' H3 ⟨⟨y4, y5, y6, y7, rfl⟩, i1, i2, kvs, ds, i4, i5, i6, i7⟩
    rw [hP.kLen] at i7
    refine s_ret (R := fun H v => ∃ ds', BeatR P cs ds' ∧ Row H v ds') (fun H4 e4 Q q => ?_) fun v H4 e4 hv => ?_
    · refine ev_sortedL (ev_new (ev_listDT (evV_var rfl) i4 i5)) H4 e4 _ fun v H5 e5 hv => ?_
      obtain ⟨ds', hd', _, p, ys, rfl, h1, h2, h3⟩ := hv
      refine ⟨p, ys, rfl, .inl ⟨SqL.of h2, fun r hr => q _ _ (e5.trans (same_new hr)) ⟨ds', ⟨fun c => ?_, hd'.nodup_iff.mpr i5.2⟩, r, ys, rfl, upd_same, h3.kImp fun _ _ r => r.text (text_new hr)⟩⟩⟩
      rw [hd'.mem_iff, i7 c]
      show (_ ∨ _) ↔ _
      rw [List.take_length]
      constructor
      · rintro (h | ⟨R, _, _, d, hd, _⟩)
        · exact h
        · cases hd
      · exact .inl
    · obtain ⟨ds', h1, h2⟩ := hv
      exact q v H4 ds' ((e1.trans i2).trans e4) h1 h2
def Bt (P : List (List C2)) : Nat → List C2 → List C2 → Prop
  | 0, a, b => a = b
  | n + 1, a, b => ∃ m, Bt P n a m ∧ BeatR P m b
def sp_beats : Sp := fun vs H Q _ => ∃ (v1 v2 : V) (P : List (List C2)) (cs : List C2) (n : Nat), vs = [v1, v2, .int n] ∧ Plain H v1 P ∧ Row H v2 cs ∧ P.length ≤ 64 ∧ (∀ R ∈ P, R ≠ [] ∧ R.length ≤ 8) ∧ n ≤ 100 ∧ (∀ k ≤ n, ∀ m, Bt P k cs m → m.length ≤ 100000) ∧ ∀ v' H' ds, Same H H' → Bt P n cs ds → Row H' v' ds → Q v' H'
theorem pure_beats {K : PySem.W.Frag} (vs : List V) (H : Hp) (Q : VK) (E : XK) (h : sp_beats vs H Q E) : t_beats K sp_beat { nx := fun _ H' => Q .non H', rt := Q } (start N_beats vs) H := by
  obtain ⟨v1, v2, P, cs, n, rfl, hP, hcs, z1, z2, z3, z4, q⟩ := h
  show t_beats K _ _ [some v1, some v2, some (.int n), none] H
  refine q_forR1 (n := n) (evI_var rfl) (by omega) (fun i σ' H' => ∃ v y3 m, σ' = [some v1, some v, some (.int n), y3] ∧ Same H H' ∧ Bt P i cs m ∧ Row H' v m) (fun H1 e => ⟨v2, _, cs, rfl, e, rfl, Row.text e.text hcs⟩) ?_ ?_
  · rintro i σ' H1 hi ⟨v, y3, m, rfl, e, hb, hm⟩
    refine s_set (R := fun H v => ∃ ds, BeatR P m ds ∧ Row H v ds) (ev_call (evA_2 (ev_varM rfl mono_plain (hP.text e.text)) mono_plain (ev_varM (R := fun H v => Row H v m) rfl mono_row hm)) fun H2 vs e2 hv Q q => ?_) fun v' H2 e2 hv => ?_
    · obtain ⟨x1, x2, rfl, r1, r2⟩ := hv
      exact ⟨x1, x2, P, m, rfl, r1, r2, z1, z2, z4 i (by omega) m hb, fun v' H' ds e' h1 h2 => q v' H' e' ⟨ds, h1, h2⟩⟩
    · obtain ⟨ds, h1, h2⟩ := hv
      exact ⟨v', _, ds, rfl, e.trans e2, ⟨m, hb, h1⟩, h2⟩
  · rintro σ' H1 ⟨v, y3, m, rfl, e, hb, hm⟩
    refine s_ret (ev_varM (R := fun H v => Row H v m) rfl mono_row hm) fun v' H2 e2 hv => q v' H2 m (e.trans e2) hb hv
end K84
namespace K84
open L2 PySem PySem.Spec PyProof.Rows
local macro_rules | `(tactic| walk_at "cm") => `(tactic| first | assumption | exact Or.inl ⟨by omega, by omega⟩ | exact Or.inr ⟨by omega, by omega⟩)
local macro_rules | `(tactic| walk_at "ev") => `(tactic| first
  | assumption | exact evI_c | exact evI_var rfl | exact evV_var rfl | exact evC_var rfl (by assumption)
  | (refine evI_add ?_ ?_ <;> walk_at "ev") | (refine evI_sub ?_ ?_ <;> walk_at "ev")
  | (refine evI_mul ?_ ?_ ?_; (· walk_at "ev"); (· walk_at "ev"); (· walk_at "cm"))
  | (refine evI_fst ?_; walk_at "ev") | (refine evI_snd ?_; walk_at "ev") | (refine evI_neg ?_; walk_at "ev")
  | (refine evC_tup ?_ ?_ <;> walk_at "ev") | (refine evP_tup ?_ ?_ <;> walk_at "ev")
  | (refine evB_eq ?_ ?_ <;> walk_at "ev") | (refine evB_ne ?_ ?_ <;> walk_at "ev")
  | (refine evB_lt ?_ ?_ <;> walk_at "ev") | (refine evB_le ?_ ?_ <;> walk_at "ev") | (refine evB_gt ?_ ?_ <;> walk_at "ev") | (refine evB_ge ?_ ?_ <;> walk_at "ev")
  | (refine evT_test ?_; walk_at "ev") | (refine evT_B ?_; walk_at "ev") | (refine evT_not ?_; walk_at "ev") | exact evT_yes)
abbrev kSeed : Key := .inr (PySem.Str.ofString "seed")
abbrev kNum : Key := .inr (PySem.Str.ofString "number")
abbrev kLeft : Key := .inr (PySem.Str.ofString "left")
theorem seed_num : kSeed ≠ kNum := by decide +kernel
theorem seed_left : kSeed ≠ kLeft := by decide +kernel
theorem num_left : kNum ≠ kLeft := by decide +kernel
def dealK (s n : Int) (l : Addr) : List (Key × V) := [(kSeed, .int s), (kNum, .int n), (kLeft, .ref l)]
section
variable {s n x : Int} {l : Addr}
theorem dk_seed : valV (dealK s n l) kSeed = some (.int s) := valV_pos rfl
theorem dk_num : valV (dealK s n l) kNum = some (.int n) := by
  unfold dealK; rw [valV_neg (p := (kSeed, V.int s)) seed_num]; exact valV_pos rfl
theorem dk_left : valV (dealK s n l) kLeft = some (.ref l) := by
  unfold dealK; rw [valV_neg (p := (kSeed, V.int s)) seed_left, valV_neg (p := (kNum, V.int n)) num_left]; exact valV_pos rfl
theorem dk_putSeed : putK (dealK s n l) kSeed (.int x) = dealK x n l := by
  unfold putK dealK
  rw [if_pos (by simp)]
  simp only [List.map_cons, List.map_nil, if_true, if_neg (Ne.symm seed_num), if_neg (Ne.symm seed_left)]
theorem dk_putNum : putK (dealK s n l) kNum (.int x) = dealK s x l := by
  unfold putK dealK
  rw [if_pos (by simp)]
  simp only [List.map_cons, List.map_nil, if_true, if_neg seed_num, if_neg (Ne.symm num_left)]
end
/-- the deal stands at d, what is left of it at l -/
def Deal (d l : Addr) (H : Hp) : Prop := ∃ (s n : Int) (bs : List Int), H d = some (.dK (dealK s n l)) ∧ H l = some (.lst (bs.map V.int)) ∧ 0 ≤ s ∧ s < 2147483647 ∧ 0 ≤ n ∧ ∀ b ∈ bs, 0 ≤ b
theorem Deal.ne {d l : Addr} {H : Hp} (h : Deal d l H) : d ≠ l := fun e => by
  obtain ⟨s, n, bs, h1, h2, _⟩ := h
  rw [e, h2] at h1; cases h1
theorem Deal.same {d l : Addr} {H H' : Hp} (e : Same H H') (h : Deal d l H) : Deal d l H' := by
  obtain ⟨s, n, bs, h1, h2, r⟩ := h
  exact ⟨s, n, bs, e _ _ h1, e _ _ h2, r⟩
/-- the deal goes on; what else stands, stands -/
structure But (d l : Addr) (H H' : Hp) : Prop where
  deal : Deal d l H'
  old : ∀ b o, b ≠ d → b ≠ l → H b = some o → H' b = some o
  was : Deal d l H
section
variable {d l : Addr} {H H1 H2 H' : Hp}
theorem But.refl (h : Deal d l H) : But d l H H := ⟨h, fun _ _ _ _ e => e, h⟩
theorem But.trans (a : But d l H H1) (b : But d l H1 H2) : But d l H H2 := ⟨b.deal, fun c o n1 n2 e => b.old c o n1 n2 (a.old c o n1 n2 e), a.was⟩
theorem But.of (h : Deal d l H) (e : Same H H') : But d l H H' := ⟨h.same e, fun b o _ _ q => e b o q, h⟩
theorem But.text (a : But d l H H') : TExt H H' := fun b xs e => by
  obtain ⟨s, n, bs, h1, h2, _⟩ := a.was
  refine a.old b _ (fun z => ?_) (fun z => ?_) e
  · rw [z, h1] at e; cases e
  · rw [z, h2] at e; cases e
theorem But.free (a : But d l H H') {p : Addr} (h : H' p = none) : H p = none := by
  cases e : H p with
  | none => rfl
  | some o =>
    by_cases h1 : p = d
    · obtain ⟨s, n, bs, g1, g2, _⟩ := a.deal
      rw [h1, g1] at h; cases h
    · by_cases h2 : p = l
      · obtain ⟨s, n, bs, g1, g2, _⟩ := a.deal
        rw [h2, g2] at h; cases h
      · rw [a.old p o h1 h2 e] at h; cases h
theorem Deal.free_d (h : Deal d l H) {p : Addr} (hp : H p = none) : p ≠ d := fun z => by
  obtain ⟨s, n, bs, h1, h2, _⟩ := h
  rw [z, h1] at hp; cases hp
theorem Deal.free_l (h : Deal d l H) {p : Addr} (hp : H p = none) : p ≠ l := fun z => by
  obtain ⟨s, n, bs, h1, h2, _⟩ := h
  rw [z, h2] at hp; cases hp
/-- a list that was made since stays -/
theorem But.new (a : But d l H H') {p : Addr} {o : HO} (hd : p ≠ d) (hl : p ≠ l) (h : H p = some o) : H' p = some o := a.old p o hd hl h
theorem But.mut (a : But d l H H') {p : Addr} {o : HO} (h : H p = none) : But d l H (upd H' p o) := by
  obtain ⟨⟨s, n, bs, g1, g2, r⟩, h2, h3⟩ := id a
  refine ⟨⟨s, n, bs, ?_, ?_, r⟩, fun b x n1 n2 e => ?_, h3⟩
  · rw [upd_ne (Ne.symm (h3.free_d h))]; exact g1
  · rw [upd_ne (Ne.symm (h3.free_l h))]; exact g2
  · rw [upd_ne (ne_of_none e h)]; exact h2 b x n1 n2 e
end
section
variable {σ : L2.St} {H : Hp} {td ty te : TE} {a : Addr} {kvs : List (Key × V)} {k : Key} {v : V} {D : Ends} {u : TS} {R : Hp → V → Prop}
theorem ev_dget (hd : H a = some (.dK kvs)) (hv : valV kvs k = some v) (ho : Ev td σ H (fun _ u => u = .ref a)) (hk : Ev ty σ H (fun _ u => u = kV k)) : Ev (tDGet td ty) σ H (fun _ u => u = v) := fun H1 e1 Q q =>
  ho H1 e1 _ fun x H2 e2 hx => hk H2 (e1.trans e2) _ fun y H3 e3 hy => by
    subst hx; subst hy
    exact ⟨a, v, rfl, hv ▸ DGet.k (((e1.trans e2).trans e3) _ _ hd), q _ H3 (e2.trans e3) rfl⟩
theorem q_dputK (hd : H a = some (.dK kvs)) (hv : Ev te σ H (fun _ u => u = v)) (ho : Ev td σ H (fun _ u => u = .ref a)) (hk : Ev ty σ H (fun _ u => u = kV k)) (hz : kvs.length < 16000000) (q : ∀ H1, Same H H1 → u D σ (upd H1 a (.dK (putK kvs k v)))) : tSeq (sDPut td ty te) u D σ H :=
  hv H (Same.refl H) _ fun v H1 e1 r => ho H1 e1 _ fun x H2 e2 hx => hk H2 (e1.trans e2) _ fun y H3 e3 hy => by
    subst hx; subst hy; subst r
    exact ⟨a, _, rfl, DPut.k (((e1.trans e2).trans e3) _ _ hd) (by rw [sizeLine_eq]; omega), q H3 ((e1.trans e2).trans e3)⟩
end
def sp__law_draw : Sp := fun vs H Q _ => ∃ (d l : Addr) (m : Int), vs = [.ref d, .int m] ∧ Deal d l H ∧ 0 < m ∧ m < 1073741824 ∧ ∀ n H', 0 ≤ n → n < m → But d l H H' → Q (.int n) H'
theorem pure__law_draw {K : PySem.W.Frag} (vs : List V) (H : Hp) (Q : VK) (E : XK) (h : sp__law_draw vs H Q E) : t__law_draw K { nx := fun _ H' => Q .non H', rt := Q } (start N__law_draw vs) H := by
  obtain ⟨d, l, m, rfl, hD, m0, m1, q⟩ := h
  show t__law_draw K _ [some (.ref d), some (.int m), none, none, none] H
  have hdl := hD.ne
  have hDw := hD
  let σ0 : L2.St := [some (.ref d), some (.int m), none, none, none]
  have lenI : ∀ {σ : L2.St} {H : Hp} {s n : Int} {bs : List Int}, σ[0]? = some (some (.ref d)) → H d = some (.dK (dealK s n l)) → H l = some (.lst (bs.map V.int)) → EvI (tCB (rLenSeq K) (tCons (tDGet (tVar 0) (tC (.str (PySem.Str.ofString "left")))) tNil)) σ H (bs.length : Int) := fun h0 h1 h2 =>
    (ev_lenL (ev_dget h1 dk_left (evV_var h0) evV_c) h2).to (by rw [List.length_map])
  have numI : ∀ {σ : L2.St} {H : Hp} {s n : Int}, σ[0]? = some (some (.ref d)) → H d = some (.dK (dealK s n l)) → EvI (tDGet (tVar 0) (tC (.str (PySem.Str.ofString "number")))) σ H n := fun h0 h1 => ev_dget h1 dk_num (evV_var h0) evV_c
  have seedI : ∀ {σ : L2.St} {H : Hp} {s n : Int}, σ[0]? = some (some (.ref d)) → H d = some (.dK (dealK s n l)) → EvI (tDGet (tVar 0) (tC (.str (PySem.Str.ofString "seed")))) σ H s := fun h0 h1 => ev_dget h1 dk_seed (evV_var h0) evV_c
  obtain ⟨s, n, bs, h1, h2, r1, r2, r3, r4⟩ := hD
  refine q_while (fun m' σ' H' => σ' = σ0 ∧ But d l H H' ∧ ∃ s n bs, m' = bs.length ∧ H' d = some (.dK (dealK s n l)) ∧ H' l = some (.lst (bs.map V.int)) ∧ 0 ≤ s ∧ s < 2147483647 ∧ 0 ≤ n ∧ ∀ b ∈ bs, 0 ≤ b) bs.length ⟨rfl, But.refl hDw, s, n, bs, rfl, h1, h2, r1, r2, r3, r4⟩ ?_
  clear h1 h2 r1 r2 r3 r4 s n bs
  rintro _ σ' H1 ⟨rfl, hB, s, n, bs, rfl, h1, h2, r1, r2, r3, r4⟩
  refine ⟨decide (n = 0) && decide (0 < (bs.length : Int)), evT_and (evT_test (evB_eq (numI rfl h1) evI_c)) fun _ => evT_test (evB_gt (lenI rfl h1 h2) evI_c), fun hb H2 e2 => ?_, fun hb H2 e2 => ?_⟩
  · rw [Bool.and_eq_true, decide_eq_true_eq, decide_eq_true_eq] at hb
    obtain ⟨bs', b, rfl⟩ : ∃ bs' b, bs = bs' ++ [b] := ⟨bs.dropLast, bs.getLast (fun e => by rw [e] at hb; simp at hb), (List.dropLast_concat_getLast _).symm⟩
    refine ⟨fun σ' H' => σ' = σ0 ∧ But d l H H' ∧ ∃ s n, H' d = some (.dK (dealK s n l)) ∧ H' l = some (.lst (bs'.map V.int)) ∧ 0 ≤ s ∧ s < 2147483647 ∧ 0 ≤ n ∧ ∀ b ∈ bs', 0 ≤ b, ?_, ?_⟩
    · rintro σ2 H3 ⟨rfl, g1, s, n, g2, g3, g4⟩
      exact ⟨bs'.length, by simp, rfl, g1, s, n, bs', rfl, g2, g3, g4⟩
    · refine ev_dget (e2 _ _ h1) dk_left (evV_var rfl) evV_c H2 (Same.refl H2) _ fun v H3 e3 hv => ?_
      subst hv
      have hl3 := (e2.trans e3) _ _ h2
      have hd3 := (e2.trans e3) _ _ h1
      refine ⟨.inl ⟨rfl, _, SqL.of hl3⟩, l, _, .int b, rfl, rfl, hl3, ?_, ?_⟩
      · simp
      · rw [List.map_append, List.map_cons, List.map_nil, List.dropLast_concat]
        have hd4 : upd H3 l (.lst (bs'.map V.int)) d = some (.dK (dealK s n l)) := by rw [upd_ne hdl]; exact hd3
        have bz : 0 ≤ b := r4 b (by simp)
        refine ⟨_, rfl, d, _, rfl, DPut.k (k := kNum) hd4 (by rw [sizeLine_eq]; show 3 < 16777216; omega), rfl, ?_, s, b, by rw [dk_putNum]; exact upd_same, by rw [upd_ne hdl.symm]; exact upd_same, r1, r2, bz, fun c hc => r4 c (by simp [hc])⟩
        rw [dk_putNum]
        refine ⟨⟨s, b, bs', upd_same, by rw [upd_ne hdl.symm]; exact upd_same, r1, r2, bz, fun c hc => r4 c (by simp [hc])⟩, fun c o n1 n2 e => ?_, hDw⟩
        rw [upd_ne n1, upd_ne n2]
        exact (e2.trans e3) _ _ (hB.old c o n1 n2 e)
  · have hd2 := e2 _ _ h1
    have hl2 := e2 _ _ h2
    refine q_setI (numI rfl hd2) fun H3 e3 => ?_
    have hd3 := e3 _ _ hd2
    have hl3 := e3 _ _ hl2
    show (tSeq _ _) _ [some (.ref d), some (.int m), some (.int n), none, none] H3
    have hB3 : ∀ {H' : Hp} {s n : Int} {bs : List Int}, Same H3 H' → 0 ≤ s → s < 2147483647 → 0 ≤ n → (∀ b ∈ bs, 0 ≤ b) → ∀ {H'' : Hp}, H'' d = some (.dK (dealK s n l)) → H'' l = some (.lst (bs.map V.int)) → (∀ b o, b ≠ d → b ≠ l → H' b = some o → H'' b = some o) → But d l H H'' :=
      fun e g1 g2 g3 g4 _ g5 g6 g7 => ⟨⟨_, _, _, g5, g6, g1, g2, g3, g4⟩, fun b o n1 n2 q => g7 b o n1 n2 ((e2.trans (e3.trans e)) _ _ (hB.old b o n1 n2 q)), hDw⟩
    refine q_when (evT_test (evB_gt (evI_var rfl) evI_c)) (fun hb H4 e4 => ?_) fun hb H4 e4 => ?_
    · refine q_dputK (v := .int (n.fdiv m)) (k := kNum) (e4 _ _ hd3) (evI_div (evI_var rfl) (evI_var rfl) ⟨by omega, by omega⟩) (evV_var rfl) evV_c (by show 3 < 16000000; omega) fun H5 e5 => ?_
      rw [dk_putNum]
      refine s_ret (evI_mod (evI_var rfl) (evI_var rfl) m0) fun v H6 e6 hv => ?_
      subst hv
      refine q _ H6 (Int.emod_nonneg _ (by omega)) (Int.emod_lt_of_pos _ m0) (hB3 (e4.trans e5) r1 r2 (n := n.fdiv m) ?_ r4 (e6 _ _ upd_same) (e6 _ _ (by rw [upd_ne hdl.symm]; exact (e4.trans e5) _ _ hl3)) fun b o n1 n2 q => e6 _ _ (by rw [upd_ne n1]; exact q))
      rw [Int.fdiv_eq_ediv_of_nonneg _ (by omega)]
      exact Int.ediv_nonneg r3 (by omega)
    · have hd4 := e4 _ _ hd3
      have hl4 := e4 _ _ hl3
      refine q_setI (evI_mod (evI_add (evI_mul (seedI rfl hd4) evI_c (Or.inl ⟨by omega, by omega⟩)) evI_c) evI_c (by decide)) fun H5 e5 => ?_
      generalize hx : (s * 48271 + 7919) % 2147483647 = x
      have x0 : 0 ≤ x := by omega
      have x1 : x < 2147483647 := by omega
      show (tSeq _ _) _ [some (.ref d), some (.int m), some (.int n), some (.int x), none] H5
      refine q_dputK (v := .int ((x * 40692 + 104729) % 2147483399)) (k := kSeed) (e5 _ _ hd4) (evI_mod (evI_add (evI_mul (evI_var rfl) evI_c (Or.inl ⟨by omega, by omega⟩)) evI_c) evI_c (by decide)) (evV_var rfl) evV_c (by show 3 < 16000000; omega) fun H6 e6 => ?_
      rw [dk_putSeed]
      generalize hy : (x * 40692 + 104729) % 2147483399 = y
      have y0 : 0 ≤ y := by omega
      have y1 : y < 2147483399 := by omega
      have hl6 := (e5.trans e6) _ _ hl4
      refine q_setI (evI_mod (evI_mul (seedI rfl upd_same) (seedI rfl upd_same) (Or.inl ⟨by omega, by omega⟩)) evI_c (by decide)) fun H7 e7 => ?_
      generalize y * y % 2147483563 = z
      refine s_ret (evI_mod (evI_add (evI_mul (evI_mod (evI_mul (evI_var rfl) (evI_var rfl) (Or.inl ⟨by omega, by omega⟩)) evI_c (by decide)) evI_c (Or.inr ⟨by omega, by omega⟩)) (evI_var rfl)) (evI_var rfl) m0) fun v H8 e8 hv => ?_
      subst hv
      exact q _ H8 (Int.emod_nonneg _ (by omega)) (Int.emod_lt_of_pos _ m0) (hB3 ((e4.trans e5).trans e6) y0 (by omega) (n := n) r3 r4 ((e7.trans e8) _ _ upd_same) ((e7.trans e8) _ _ (by rw [upd_ne hdl.symm]; exact hl6)) fun b o n1 n2 q => (e7.trans e8) _ _ (by rw [upd_ne n1]; exact q))
section
variable {K : PySem.W.Frag} {σ : L2.St} {H H0 : Hp} {α : Type} {Rx : Hp → V → α → Prop} {ds : List α} {tl te : TE} {g : TG} {tt : TT} {vs : List Nat} {R : Hp → V → Prop}
/-- a comprehension over a list that is made on the way -/
theorem ev_lcN (h : Ev tl σ H (NewL H0 Rx ds)) (k : ∀ p xs H1, Same H H1 → H0 p = none → H1 p = some (.lst xs) → Paired (Rx H1) xs ds → Ev (tLc (iList K (tC (.ref p))) g tt te vs) σ H1 R) : Ev (tLc (iList K tl) g tt te vs) σ H R := fun H1 e Q q =>
  h H1 e _ fun v H2 e2 hv => by
    obtain ⟨p, xs, rfl, h1, h2, h3⟩ := hv
    exact k p xs H2 (e.trans e2) h1 h2 h3 H2 (Same.refl H2) Q fun v H3 e3 r => q v H3 (e2.trans e3) r
theorem ints_paired (ns : List Int) : Paired IsI (ns.map V.int) ns := PySem.Paired.kOfMap ns fun _ _ => rfl
end
def sp__law_deal (K : PySem.W.Frag) : Sp := fun vs H Q _ => ∃ (a : Addr) (ns : List Int), vs = [.ref a] ∧ SqL K H a (ns.map V.int) ∧ ∀ d l H', Same H H' → H d = none → H l = none → Deal d l H' → Q (.ref d) H'
theorem dk_merge {s n : Int} {l : Addr} : mergeK [] (dealK s n l) = dealK s n l := by
  have h1 : (kNum = kSeed) = False := eq_false (Ne.symm seed_num)
  have h2 : (kSeed = kLeft) = False := eq_false seed_left
  have h3 : (kNum = kLeft) = False := eq_false num_left
  have h4 : (kSeed = kNum) = False := eq_false seed_num
  show putK (putK (putK [] kSeed (.int s)) kNum (.int n)) kLeft (.ref l) = _
  simp [putK, dealK, h2, h3, h4]
theorem pure__law_deal {K : PySem.W.Frag} (vs : List V) (H : Hp) (Q : VK) (E : XK) (h : sp__law_deal K vs H Q E) : t__law_deal K { nx := fun _ H' => Q .non H', rt := Q } (start N__law_deal vs) H := by
  obtain ⟨a, ns, rfl, ha, q⟩ := h
  show t__law_deal K _ [some (.ref a), none, none, none] H
  have hs : Ev (tSl (rSlL K) (tVar 0) tNoPart (tPart (tC (.int 63)))) [some (.ref a), none, none, none] H (NewL H (fun _ => IsI) (ns.take 63)) := fun H1 e Q q =>
    ⟨_, rfl, 63, rfl, a, _, rfl, e.seq ha, fun p hp => q _ _ (same_new hp) ⟨p, _, rfl, e.free hp, upd_same, by
      have h63 : cutV (ns.map V.int) none (some 63) = (ns.take 63).map V.int := by rw [List.map_take]; exact cutV_to _ 63
      rw [h63]; exact ints_paired _⟩⟩
  let f : Int → Int := fun x => if 0 - x > x then 0 - x else x
  refine q_set (R := NewL H (fun _ => IsI) ((ns.take 63).map f)) (ev_lcN hs fun p xs H1 e h0 h1 h2 => ?_) fun v H1 e1 hv => ?_
  · refine (ev_mapL (K := K) (f := f) (evV_c (v := .ref p)) h1 h2 tm_int tm_int (by rw [List.length_take]; omega) fun x d H' e' _ hx => ?_).imp fun H' v e' ⟨r, ys, g1, g2, g3, g4⟩ => ⟨r, ys, g1, e.free g2, g3, g4⟩
    cases hx
    exact ev_max2 (evI_var rfl) (evI_sub evI_c (evI_var rfl))
  obtain ⟨p, xs, rfl, hp0, hp1, hpx⟩ := hv
  generalize hms : (ns.take 63).map f = ms at hpx
  have ml : ms.length ≤ 63 := by rw [← hms, List.length_map, List.length_take]; omega
  show (tSeq _ _) _ [some (.ref a), none, some (.ref p), none] H1
  refine q_setI evI_c fun H2 e2 => ?_
  refine q_forL (evV_var rfl) (e2 _ _ hp1) (fun i σ' H' => (∃ y1 x, σ' = [some (.ref a), y1, some (.ref p), some (.int x)] ∧ 0 ≤ x ∧ x < 2147483647) ∧ Same H2 H') (fun H3 e3 => ⟨⟨_, _, rfl, by decide, by decide⟩, e3⟩) (fun i σ' H' _ h => h.2 _ _ (e2 _ _ hp1)) ?_ ?_
  · rintro i vx σ' H3 hvx ⟨⟨y1, x, rfl, x0, x1⟩, e3⟩
    obtain ⟨m, hm, rfl⟩ := hpx.kGetL hvx
    refine s_setI (evI_mod (evI_add (evI_mul (evI_var rfl) evI_c (Or.inl ⟨by omega, by omega⟩)) (evI_mod (evI_var rfl) evI_c (by decide))) evI_c (by decide)) fun H4 e4 => ⟨⟨_, _, rfl, by omega, by omega⟩, e3.trans e4⟩
  · rintro σ' H3 ⟨⟨y1, x, rfl, x0, x1⟩, e3⟩
    have e03 := (e1.trans e2).trans e3
    intro d hd
    have e4 : Same H3 (upd H3 d (.dK [])) := same_new hd
    have hd4 : (upd H3 d (.dK [])) d = some (.dK []) := upd_same
    generalize upd H3 d (.dK []) = H4 at e4 hd4
    have hp4 := (e2.trans (e3.trans e4)) _ _ hp1
    refine ⟨_, rfl, ?_⟩
    simp only [tPairs, tC]
    have lc := ev_lcL (K := K) (σ := [some (.ref a), y1, some (.ref p), some (.int x)]) (H := H4) (tl := tVar 2) (tt := tTest (tOp rGeI (tVar 1) (tOp rPowI (tC (.int 10)) (tC (.int 18))))) (te := tVar 1) (j := 1) (f := id) (Rx := fun _ => IsI) (Ry := fun _ => IsI) (p := fun m => decide ((10 : Int) ^ 18 ≤ m)) (evV_var rfl) hp4 hpx tm_int tm_int (by omega)
      (fun x m H' e _ hx => by
        cases hx
        exact evT_test (evB_ge (evI_var rfl) (evI_IC (C := CPow) evI_c evI_c ⟨by decide, by decide, by decide⟩)))
      (fun x m H' e _ hx _ => by cases hx; exact evI_var rfl)
    refine lc H4 (Same.refl H4) (fun x H1 => ∃ a xs, x = .ref a ∧ SqL K H1 a xs ∧ ∀ p, H1 p = none → _) fun v H5 e5 hv => ?_
    obtain ⟨r, ys, rfl, hr0, hr1, hr2⟩ := hv
    refine ⟨r, ys, rfl, SqL.of hr1, fun l hl => ?_⟩
    have hy := hr2.kEqF (f := V.int) fun _ _ e => e
    have hd5 : (upd H5 l (.lst ys.reverse)) d = some (.dK []) := (same_new hl) _ _ (e5 _ _ hd4)
    refine ⟨hd5, dealK x 0 l, rfl, by show 3 ≤ 15; decide, ?_⟩
    rw [dk_merge]
    have dl : d ≠ l := fun z => by rw [z] at hd4; rw [e5 _ _ hd4] at hl; cases hl
    refine q d l _ ((e03.trans ((e4.trans e5).trans (same_new hl))).mut (e03.free hd)) (e03.free hd) ((e03.trans (e4.trans e5)).free hl) ⟨x, 0, ((ms.filter fun m => decide ((10 : Int) ^ 18 ≤ m)).map id).reverse, upd_same, ?_, x0, x1, by decide, fun b hb => ?_⟩
    · rw [upd_ne dl.symm, upd_same, hy, List.map_reverse]
    · rw [List.mem_reverse, List.map_id, List.mem_filter] at hb
      have := hb.2
      rw [decide_eq_true_eq] at this
      have h18 : (0 : Int) ≤ 10 ^ 18 := by decide
      omega
end K84
namespace K84
open L2 PySem PySem.Spec PyProof.Rows
local macro_rules | `(tactic| walk_at "cm") => `(tactic| first | assumption | exact Or.inl ⟨by omega, by omega⟩ | exact Or.inr ⟨by omega, by omega⟩)
local macro_rules | `(tactic| walk_at "ev") => `(tactic| first
  | assumption | exact evI_c | exact evI_var rfl | exact evV_var rfl | exact evC_var rfl (by assumption)
  | (refine evI_add ?_ ?_ <;> walk_at "ev") | (refine evI_sub ?_ ?_ <;> walk_at "ev")
  | (refine evI_mul ?_ ?_ ?_; (· walk_at "ev"); (· walk_at "ev"); (· walk_at "cm"))
  | (refine evI_fst ?_; walk_at "ev") | (refine evI_snd ?_; walk_at "ev") | (refine evI_neg ?_; walk_at "ev")
  | (refine evC_tup ?_ ?_ <;> walk_at "ev") | (refine evP_tup ?_ ?_ <;> walk_at "ev")
  | (refine evB_eq ?_ ?_ <;> walk_at "ev") | (refine evB_ne ?_ ?_ <;> walk_at "ev")
  | (refine evB_lt ?_ ?_ <;> walk_at "ev") | (refine evB_le ?_ ?_ <;> walk_at "ev") | (refine evB_gt ?_ ?_ <;> walk_at "ev") | (refine evB_ge ?_ ?_ <;> walk_at "ev")
  | (refine evT_test ?_; walk_at "ev") | (refine evT_B ?_; walk_at "ev") | (refine evT_not ?_; walk_at "ev") | exact evT_yes)
theorem nodup_le {α : Type} [DecidableEq α] : ∀ {l m : List α}, l.Nodup → (∀ x ∈ l, x ∈ m) → l.length ≤ m.length
  | [], _, _, _ => Nat.zero_le _
  | x :: r, m, hn, hs => by
    have hx := hs x List.mem_cons_self
    have h1 := nodup_le (l := r) (m := m.erase x) (List.nodup_cons.mp hn).2 fun y hy => by
      have hne : y ≠ x := fun e => (List.nodup_cons.mp hn).1 (e ▸ hy)
      exact (List.mem_erase_of_ne hne).mpr (hs y (List.mem_cons_of_mem _ hy))
    have h2 := List.length_erase_of_mem hx
    have h3 := List.length_pos_of_mem hx
    rw [List.length_cons]; omega
theorem nodup_map {α β : Type} {f : α → β} {l : List α} (hn : l.Nodup) (h : ∀ x ∈ l, ∀ y ∈ l, f x = f y → x = y) : (l.map f).Nodup :=
  List.pairwise_map.mpr (List.Pairwise.imp_of_mem (fun {x y} hx hy hne e => hne (h x hx y hy e)) hn)
/-- what an expression that draws evaluates to -/
def EvD (d l : Addr) (te : TE) (σ : L2.St) (H : Hp) (R : Hp → V → Prop) : Prop := ∀ H1, But d l H H1 → ∀ Q : VK, (∀ v H2, But d l H1 H2 → R H2 v → Q v H2) → te σ H1 Q
abbrev EvDI (d l : Addr) (te : TE) (σ : L2.St) (H : Hp) (P : Int → Prop) : Prop := EvD d l te σ H (fun _ v => ∃ n, v = .int n ∧ P n)
def MonoD (d l : Addr) (R : Hp → V → Prop) : Prop := ∀ H H' v, But d l H H' → R H v → R H' v
section
variable {d l : Addr} {te ta tb tl : TE} {σ : L2.St} {H H0 : Hp} {R Ra Rb : Hp → V → Prop} {P P' : Int → Prop} {u t t' : TS} {D : Ends} {α : Type} {Rx : Hp → V → α → Prop} {ds : List α}
theorem TMono.monoD (tm : TMono Rx) (x : α) : MonoD d l (fun H v => Rx H v x) := fun H H' v e r => tm H H' v x e.text r
theorem monoD_c {p : V → Prop} : MonoD d l (fun _ v => p v) := fun _ _ _ _ h => h
theorem evD_pure (h : ∀ H1, But d l H H1 → Ev te σ H1 R) : EvD d l te σ H R := fun H1 e Q q => h H1 e H1 (Same.refl H1) Q fun v H2 e2 r => q v H2 (But.of e.deal e2) r
theorem evDI_pure {n : Int} (h : ∀ H1, But d l H H1 → EvI te σ H1 n) (p : P n) : EvDI d l te σ H P := fun H1 e Q q => h H1 e H1 (Same.refl H1) Q fun v H2 e2 r => q v H2 (But.of e.deal e2) ⟨n, r, p⟩
theorem EvD.imp {R' : Hp → V → Prop} (h : EvD d l te σ H R) (f : ∀ H' v, But d l H H' → R H' v → R' H' v) : EvD d l te σ H R' := fun H1 e Q q => h H1 e Q fun v H2 e2 r => q v H2 e2 (f H2 v (e.trans e2) r)
theorem evD_draw {k : Nat} {m : Int} (hk : σ[k]? = some (some (.ref d))) (hm : ∀ H1, But d l H H1 → EvI te σ H1 m) (m0 : 0 < m) (m1 : m < 1073741824) : EvDI d l (tCall sp__law_draw [] E0 (tCons (tVar k) (tCons te tNil))) σ H (fun n => 0 ≤ n ∧ n < m) := fun H1 e Q q =>
  ⟨_, hk, hm H1 e H1 (Same.refl H1) _ fun v H2 e2 hv => by
    subst hv
    exact ⟨d, l, m, rfl, e.deal.same e2, m0, m1, fun n H' h1 h2 e3 => q _ H' ((But.of e.deal e2).trans e3) ⟨n, rfl, h1, h2⟩⟩⟩
theorem evD_op {r : R2} (ha : EvD d l ta σ H Ra) (hb : EvD d l tb σ H Rb) (hm : MonoD d l Ra) (hr : ∀ H1 x y, But d l H H1 → Ra H1 x → Rb H1 y → ∀ Q : VK, (∀ v H2, But d l H1 H2 → R H2 v → Q v H2) → r x y H1 Q) : EvD d l (tOp r ta tb) σ H R := fun H1 e Q q =>
  ha H1 e _ fun x H2 e2 hx => hb H2 (e.trans e2) _ fun y H3 e3 hy => hr H3 x y ((e.trans e2).trans e3) (hm _ _ _ e3 hx) hy Q fun v H4 e4 hv => q v H4 ((e2.trans e3).trans e4) hv
theorem evD_I0 {g : Int → Int → Int} {P'' : Int → Prop} (ha : EvDI d l ta σ H P) (hb : EvDI d l tb σ H P') (h : ∀ i j, P i → P' j → P'' (g i j)) : EvDI d l (tOp (rI0 fun i j => .int (g i j)) ta tb) σ H P'' :=
  evD_op ha hb monoD_c fun H1 x y e ⟨i, hi, pi⟩ ⟨j, hj, pj⟩ Q q => ⟨i, j, hi, hj, q _ H1 (But.refl e.deal) ⟨_, rfl, h i j pi pj⟩⟩
theorem evDI_imp {P' : Int → Prop} (h : EvDI d l te σ H P) (f : ∀ n, P n → P' n) : EvDI d l te σ H P' := h.imp fun _ _ _ ⟨n, h1, h2⟩ => ⟨n, h1, f n h2⟩
theorem EvD.go {Q : VK} (h : EvD d l te σ H R) (hD : Deal d l H) (q : ∀ v H2, But d l H H2 → R H2 v → Q v H2) : te σ H Q := h H (But.refl hD) Q q
/-- a tuple of two ints -/
theorem evD_cell (ha : EvDI d l ta σ H P) (hb : EvDI d l tb σ H P') : EvD d l (tTup (tCons ta (tCons tb tNil))) σ H (fun H v => ∃ c, Cell H v c ∧ P c.1 ∧ P' c.2) := fun H1 e Q q =>
  ha H1 e _ fun v H2 e2 ⟨i, hv, pi⟩ => hb H2 (e.trans e2) _ fun w H3 e3 ⟨j, hw, pj⟩ => ⟨by show 2 ≤ sizeLine; decide, fun p hp => by
    subst hv; subst hw
    exact q _ _ ((e2.trans e3).mut ((e2.trans e3).free hp)) ⟨(i, j), ⟨p, rfl, upd_same⟩, pi, pj⟩⟩
/-- a list of things, neither the deal nor what is left of it -/
def LD (d l : Addr) (Rx : Hp → V → α → Prop) (ds : List α) : Hp → V → Prop := fun H v => ∃ p xs, v = .ref p ∧ p ≠ d ∧ p ≠ l ∧ H p = some (.lst xs) ∧ Paired (Rx H) xs ds
theorem LD.mono (tm : TMono Rx) : MonoD d l (LD d l Rx ds) := fun H H' v e ⟨p, xs, h1, h2, h3, h4, h5⟩ => ⟨p, xs, h1, h2, h3, e.old _ _ h2 h3 h4, h5.kImp fun _ _ r => tm _ _ _ _ e.text r⟩
theorem LD.same (tm : TMono Rx) {H' : Hp} {v : V} (e : Same H H') (h : LD d l Rx ds H v) : LD d l Rx ds H' v := by
  obtain ⟨p, xs, h1, h2, h3, h4, h5⟩ := h
  exact ⟨p, xs, h1, h2, h3, e _ _ h4, h5.kImp fun _ _ r => tm _ _ _ _ e.text r⟩
theorem LD.lst {v : V} (h : LD d l Rx ds H v) : Lst H (Rx H) v ds := by
  obtain ⟨p, xs, h1, h2, h3, h4, h5⟩ := h; exact ⟨p, xs, h1, h4, h5⟩
theorem NewL.ld {H' : Hp} {v : V} (h : NewL H Rx ds H' v) (hD : Deal d l H) : LD d l Rx ds H' v := by
  obtain ⟨p, xs, h1, h2, h3, h4⟩ := h
  exact ⟨p, xs, h1, hD.free_d h2, hD.free_l h2, h3, h4⟩
theorem evD_new (h : ∀ H1, But d l H H1 → Ev te σ H1 (NewL H1 Rx ds)) : EvD d l te σ H (LD d l Rx ds) := fun H1 e Q q => h H1 e H1 (Same.refl H1) Q fun v H2 e2 r => q v H2 (But.of e.deal e2) (r.ld e.deal)
theorem evD_varM {k : Nat} {v : V} (h : σ[k]? = some (some v)) (hm : MonoD d l R) (r : R H v) : EvD d l (tVar k) σ H R := fun H1 e Q q => ⟨v, h, q v H1 (But.refl e.deal) (hm _ _ _ e r)⟩
/-- one of a list, as the draw falls -/
theorem evD_pick {K : PySem.W.Frag} (tm : TMono Rx) (ha : EvD d l tl σ H (LD d l Rx ds)) (hb : EvDI d l te σ H (fun n => 0 ≤ n ∧ n < ds.length)) : EvD d l (tOp (rIxL K) tl te) σ H (fun H v => ∃ x ∈ ds, Rx H v x) :=
  evD_op ha hb (LD.mono tm) fun H1 x y e ⟨p, xs, h1, h2, h3, h4, h5⟩ ⟨n, hn, n0, n1⟩ Q q => by
    obtain ⟨k, rfl⟩ := Int.eq_ofNat_of_zero_le n0
    have hk : k < ds.length := by omega
    obtain ⟨v, g1, g2⟩ := h5.kGetR (List.getElem?_eq_getElem hk)
    exact ⟨p, xs, _, v, h1, hn, SqL.of h4, atI_nat g1, q _ H1 (But.refl e.deal) ⟨_, List.getElem_mem hk, g2⟩⟩
theorem evA_pnil : EvA tNil σ H (fun H vs => Paired (Rx H) vs []) := fun H1 _ _ q => q _ H1 (Same.refl H1) .nil
theorem evA_pcons {tr : TA} {x : α} (tm : TMono Rx) (h : Ev te σ H (fun H v => Rx H v x)) (hr : EvA tr σ H (fun H vs => Paired (Rx H) vs ds)) : EvA (tCons te tr) σ H (fun H vs => Paired (Rx H) vs (x :: ds)) := fun H1 e _ q =>
  h H1 e _ fun v H2 e2 hv => hr H2 (e.trans e2) _ fun vs H3 e3 hvs => q _ H3 (e2.trans e3) (.cons (tm _ _ _ _ e3.text hv) hvs)
theorem ev_lstA {tr : TA} (tm : TMono Rx) (h : EvA tr σ H (fun H vs => Paired (Rx H) vs ds)) (hz : ds.length ≤ 1000) : Ev (tLst tr) σ H (NewL H Rx ds) := fun H1 h1 Q q =>
  h H1 h1 _ fun vs H2 e2 hv => ⟨Nat.le_of_lt (small1000 (by rw [hv.kLen]; exact hz)), fun p hp => q _ _ (e2.trans (same_new hp)) ⟨p, vs, rfl, (h1.trans e2).free hp, upd_same, hv.kImp fun _ _ r => tm _ _ _ _ (text_new hp) r⟩⟩
theorem sD_set {i : Nat} (hD : Deal d l H) (h : EvD d l te σ H R) (k : ∀ v H1, But d l H H1 → R H1 v → D.nx (σ.set i (some v)) H1) : tAsg te (gName i) D σ H := h H (But.refl hD) _ fun v H1 e r => k v H1 e r
theorem qD_set {i : Nat} (hD : Deal d l H) (h : EvD d l te σ H R) (k : ∀ v H1, But d l H H1 → R H1 v → u D (σ.set i (some v)) H1) : tSeq (tAsg te (gName i)) u D σ H := h H (But.refl hD) _ fun v H1 e r => k v H1 e r
theorem qD_asg {g : TG} (hD : Deal d l H) (h : EvD d l te σ H R) (k : ∀ v H1, But d l H H1 → R H1 v → g v σ H1 (u D)) : tSeq (tAsg te g) u D σ H := h H (But.refl hD) _ fun v H1 e r => k v H1 e r
theorem sD_ret (hD : Deal d l H) (h : EvD d l te σ H R) (k : ∀ v H1, But d l H H1 → R H1 v → D.rt v H1) : tRet te D σ H := h H (But.refl hD) _ k
/-- a test that draws: either way -/
theorem qD_if (hD : Deal d l H) (ha : EvDI d l ta σ H P) {m : Int} (h1 : ∀ H1, But d l H H1 → t { D with nx := u D } σ H1) (h2 : ∀ H1, But d l H H1 → t' { D with nx := u D } σ H1) : tSeq (tIfS (tTest (tOp rEq ta (tC (.int m)))) t t') u D σ H :=
  ha H (But.refl hD) _ fun v H1 e ⟨n, hv, _⟩ => by
    subst hv
    refine ⟨rfl, _, rfl, ?_⟩
    by_cases hn : V.int n = V.int m
    · rw [decide_eq_true hn]; exact h1 H1 e
    · rw [decide_eq_false hn]; exact h2 H1 e
end
theorem inV_ints (n : Int) (ts : List Int) : inV (.int n) (ts.map V.int) = decide (n ∈ ts) := by
  rw [Bool.eq_iff_iff, decide_eq_true_eq]
  unfold inV
  rw [List.any_map, List.any_eq_true]
  constructor
  · rintro ⟨x, hx, h⟩
    have : x = n := by simpa [eqV] using h
    exact this ▸ hx
  · intro h; exact ⟨n, h, by simp [eqV]⟩
theorem flat_ints (ts : List Int) : (ts.map V.int).all flatV = true := by
  rw [List.all_map, List.all_eq_true]; intro x _; rfl
def sp__law_cells : Sp := fun vs H Q _ => ∃ (d l : Addr) (m : Nat), vs = [.ref d, .int m] ∧ Deal d l H ∧ 1 ≤ m ∧ m ≤ 8 ∧ ∀ v H' cs, But d l H H' → LD d l Cell cs H' v → cs.length = m → cs.Nodup → (∀ c ∈ cs, -900 ≤ c.1 ∧ c.1 ≤ 900 ∧ -900 ≤ c.2 ∧ c.2 ≤ 900) → Q v H'
theorem wheel {N : Nat} {ts : List Int} {n0 : Int} (hN : ts.length < N) {j : Nat} (hj : j ≤ ts.length) (h : ∀ j' ≤ j, (n0 + (j' : Nat)) % (N : Int) ∈ ts) : j + 1 ≤ ts.length := by
  have hn : ((List.range (j + 1)).map fun i : Nat => (n0 + (i : Nat)) % (N : Int)).Nodup := by
    refine nodup_map List.nodup_range fun x hx y hy e => ?_
    rw [List.mem_range] at hx hy
    have h1 : ((n0 + (x : Int)) - (n0 + (y : Int))) % (N : Int) = 0 := by
      rw [Int.sub_emod, e, Int.sub_self, Int.zero_emod]
    have h2 : (N : Int) ∣ (x : Int) - y := by
      refine Int.dvd_of_emod_eq_zero ?_
      have : (x : Int) - y = (n0 + (x : Int)) - (n0 + (y : Int)) := by omega
      rw [this]; exact h1
    obtain ⟨k, hk⟩ := h2
    have hk0 : k = 0 := by
      rcases Int.lt_trichotomy k 0 with h | h | h
      · have : (N : Int) * k ≤ (N : Int) * (-1) := Int.mul_le_mul_of_nonneg_left (by omega) (by omega)
        omega
      · exact h
      · have : (N : Int) * 1 ≤ (N : Int) * k := Int.mul_le_mul_of_nonneg_left (by omega) (by omega)
        omega
    rw [hk0, Int.mul_zero] at hk
    omega
  have := nodup_le hn (m := ts) fun x hx => by
    obtain ⟨i, hi, rfl⟩ := List.mem_map.mp hx
    rw [List.mem_range] at hi
    exact h i (by omega)
  rwa [List.length_map, List.length_range] at this
theorem divmod_inj {s x y : Int} (h1 : x % s = y % s) (h2 : x / s = y / s) : x = y := by
  rw [← Int.mul_ediv_add_emod x s, ← Int.mul_ediv_add_emod y s, h1, h2]
theorem pure__law_cells {K : PySem.W.Frag} (vs : List V) (H : Hp) (Q : VK) (E : XK) (h : sp__law_cells vs H Q E) : t__law_cells K sp__law_draw { nx := fun _ H' => Q .non H', rt := Q } (start N__law_cells vs) H := by
  obtain ⟨d, l, m, rfl, hD, m0, m1, q⟩ := h
  show t__law_cells K _ _ [some (.ref d), some (.int m), none, none, none, none, none] H
  refine qD_set hD (R := fun _ v => ∃ w : Nat, v = .int w ∧ 1 ≤ w ∧ w ≤ 900) ((evD_pick (Rx := fun _ => IsI) (ds := [1, 2, 2, 3, 5, 900]) tm_int (evD_new fun H1 e => ev_lstA tm_int (evA_pcons tm_int evI_c (evA_pcons tm_int evI_c (evA_pcons tm_int evI_c (evA_pcons tm_int evI_c (evA_pcons tm_int evI_c (evA_pcons tm_int evI_c evA_pnil)))))) (by decide)) (evD_draw rfl (fun H1 e => evI_c) (by decide) (by decide))).imp fun H' v _ ⟨x, hx, hv⟩ => ?_) fun vw H1 e1 hv => ?_
  · have hx' : x = 1 ∨ x = 2 ∨ x = 3 ∨ x = 5 ∨ x = 900 := by simpa using hx
    exact ⟨x.toNat, by rw [hv]; congr 1; omega, by omega, by omega⟩
  obtain ⟨w, rfl, w0, w1⟩ := hv
  generalize hs : 2 * (w : Int) + 1 = sd
  have sd0 : 3 ≤ sd := by omega
  have sd1 : sd ≤ 1801 := by omega
  have cms : CMul sd sd := Or.inl ⟨by omega, by omega⟩
  have sq1 : sd * sd < 1073741824 := by
    have h := Int.mul_le_mul sd1 sd1 (by omega : 0 ≤ sd) (by omega : (0 : Int) ≤ 1801)
    omega
  have sq0 : 9 ≤ sd * sd := by
    have h := Int.mul_le_mul sd0 sd0 (by omega : (0 : Int) ≤ 3) (by omega : 0 ≤ sd)
    omega
  obtain ⟨N, hN⟩ := Int.eq_ofNat_of_zero_le (show 0 ≤ sd * sd by omega)
  refine q_asg (R := fun H v => ∃ a t, v = .ref a ∧ H a = some (.tup [.int sd, .ref t]) ∧ H t = some (.lst []) ∧ H1 t = none) (fun H2 e2 Q q => ?_) fun v H2 e2 hv => ?_
  · refine evA_2 (Ra := fun H v => v = .int sd) ?_ mono_eq ev_lst0 H2 e2 _ fun vs H3 e3 hv => ?_
    · exact (evI_add (evI_mul evI_c (evI_var rfl) (Or.inl ⟨by omega, by omega⟩)) evI_c).to hs
    · obtain ⟨_, _, rfl, rfl, t, rfl, ht0, ht1⟩ := hv
      exact ⟨by show 2 ≤ sizeLine; decide, fun p hp => q _ _ (e3.trans (same_new hp)) ⟨p, t, rfl, upd_same, by rw [upd_ne (ne_of_none ht1 hp)]; exact ht1, ht0⟩⟩
  obtain ⟨a, t, rfl, ha, ht, ht0⟩ := hv
  refine g_two rfl ha ?_
  show (tSeq _ _) _ [some (.ref d), some (.int m), some (.int w), some (.int sd), some (.ref t), none, none] H2
  have B2 : But d l H H2 := e1.trans (But.of e1.deal e2)
  have htd : t ≠ d := e1.deal.free_d ht0
  have htl : t ≠ l := e1.deal.free_l ht0
  have tH : H t = none := e1.free ht0
  refine q_forR1 (n := m) (evI_var rfl) (by omega) (fun i σ' H' => (∃ y5 y6, σ' = [some (.ref d), some (.int m), some (.int w), some (.int sd), some (.ref t), y5, y6]) ∧ But d l H H' ∧ ∃ ts : List Int, H' t = some (.lst (ts.map V.int)) ∧ ts.length = i ∧ ts.Nodup ∧ ∀ x ∈ ts, 0 ≤ x ∧ x < sd * sd)
    (fun H3 e3 => ⟨⟨_, _, rfl⟩, B2.trans (But.of B2.deal e3), [], e3 _ _ ht, rfl, .nil, fun x hx => by cases hx⟩) ?_ ?_
  · rintro i σ' H3 hi ⟨⟨y5, y6, rfl⟩, B3, ts, i1, i2, i3, i4⟩
    show (tSeq _ _) _ [some (.ref d), some (.int m), some (.int w), some (.int sd), some (.ref t), some (.int i), y6] H3
    refine qD_set B3.deal (evD_draw rfl (fun H1 e => evI_mul (evI_var rfl) (evI_var rfl) cms) (by omega) sq1) fun v H4 B4 hv => ?_
    obtain ⟨n0, rfl, n00, n01⟩ := hv
    have i1' : H4 t = some (.lst (ts.map V.int)) := B4.old _ _ htd htl i1
    show (tSeq _ _) _ [some (.ref d), some (.int m), some (.int w), some (.int sd), some (.ref t), some (.int i), some (.int n0)] H4
    have hts : ts.length < N := by
      have : (N : Int) ≥ 9 := by rw [← hN]; exact sq0
      omega
    refine q_while (fun m' σ' H' => ∃ (j : Nat) (x : Int), m' = ts.length + 1 - j ∧ j ≤ ts.length ∧ x = (n0 + (j : Nat)) % (N : Int) ∧ (∀ j' < j, (n0 + (j' : Nat)) % (N : Int) ∈ ts) ∧ σ' = [some (.ref d), some (.int m), some (.int w), some (.int sd), some (.ref t), some (.int i), some (.int x)] ∧ Same H4 H') (ts.length + 1)
      ⟨0, n0, rfl, Nat.zero_le _, ?_, fun j' h => by omega, rfl, Same.refl _⟩ ?_
    · rw [hN] at n01
      show n0 = (n0 + 0) % (N : Int)
      rw [Int.add_zero, Int.emod_eq_of_lt n00 n01]
    · rintro m' σ' H5 ⟨j, x, rfl, hj, hx, hall, rfl, e5⟩
      have x0 : 0 ≤ x := by rw [hx]; exact Int.emod_nonneg _ (by omega)
      have x1 : x < sd * sd := by rw [hx, hN]; exact Int.emod_lt_of_pos _ (by omega)
      refine ⟨decide (x ∈ ts), evT_test (ev_op (Ra := fun _ u => u = .int x) (Rb := fun _ u => u = .ref t) (evV_var rfl) (evV_var rfl) mono_eq fun H6 u y e6 h1 h2 Q q => ⟨t, ts.map V.int, h2, .inl (SqL.of ((e5.trans e6) _ _ i1')), by rw [h1]; rfl, flat_ints ts, q _ H6 (Same.refl _) (by subst h1; rw [if_neg (by decide), inV_ints])⟩), fun hb H6 e6 => ?_, fun hb H6 e6 => ?_⟩
      · rw [decide_eq_true_eq] at hb
        have hj1 : j + 1 ≤ ts.length := wheel hts hj fun j' h => by
          rcases Nat.lt_or_ge j' j with h | h
          · exact hall j' h
          · have : j' = j := by omega
            rw [this, ← hx]; exact hb
        refine ⟨fun σ2 H2 => σ2 = [some (.ref d), some (.int m), some (.int w), some (.int sd), some (.ref t), some (.int i), some (.int ((x + 1) % (sd * sd)))] ∧ Same H4 H2, ?_, ?_⟩
        · rintro σ2 H7 ⟨rfl, e7⟩
          refine ⟨_, ?_, j + 1, _, rfl, hj1, ?_, fun j' h => ?_, rfl, e7⟩
          · omega
          · rw [hx, hN, Int.emod_add_emod]; congr 1; omega
          · rcases Nat.lt_or_ge j' j with h | h
            · exact hall j' h
            · have : j' = j := by omega
              rw [this, ← hx]; exact hb
        · refine s_setI (evI_mod (evI_add (evI_var rfl) evI_c) (evI_mul (evI_var rfl) (evI_var rfl) cms) (by omega)) fun H7 e7 => ⟨rfl, (e5.trans e6).trans e7⟩
      · rw [decide_eq_false_iff_not] at hb
        have e46 := e5.trans e6
        refine s_app (e46 _ _ i1') (evV_var rfl) (evI_var rfl) (by rw [List.length_map]; omega) fun v H7 e7 hv => ⟨⟨_, _, rfl⟩, ?_, ts ++ [x], ?_, ?_, ?_, ?_⟩
        · exact (B3.trans (B4.trans (But.of B4.deal (e46.trans e7)))).mut tH
        · rw [upd_same, hv]; simp
        · simp [i2]
        · refine List.nodup_append.mpr ⟨i3, by simp, fun a ha b hb' => ?_⟩
          have : b = x := by simpa using hb'
          rw [this]; exact fun e => hb (e ▸ ha)
        · intro y hy
          rcases List.mem_append.mp hy with h | h
          · exact i4 y h
          · have : y = x := by simpa using h
            rw [this]; exact ⟨x0, x1⟩
  · rintro σ' H3 ⟨⟨y5, y6, rfl⟩, B3, ts, i1, i2, i3, i4⟩
    let f : Int → C2 := fun x => (x % sd - w, x / sd - w)
    refine s_ret (R := NewL H3 Cell (ts.map f)) (ev_mapL (K := K) (Rx := fun _ => IsI) (evV_var rfl) i1 (ints_paired ts) tm_int tm_cell (by omega) fun u x H4 e4 hx hu => ?_) fun v H4 e4 hv => ?_
    · cases hu
      refine (evC_tup (evI_sub (evI_mod (evI_var rfl) (evI_var rfl) (by omega)) (evI_var rfl)) (evI_sub (evI_div (evI_var rfl) (evI_var rfl) ⟨by omega, by omega⟩) (evI_var rfl))).to ?_
      show (_, _) = (x % sd - w, x / sd - w)
      rw [Int.fdiv_eq_ediv_of_nonneg _ (by omega)]
    · refine q v H4 _ (B3.trans (But.of B3.deal e4)) (hv.ld B3.deal) (by rw [List.length_map, i2]) (nodup_map i3 fun x hx y hy e => ?_) fun c hc => ?_
      · have e1 := congrArg Prod.fst e
        have e2 := congrArg Prod.snd e
        simp only [f] at e1 e2
        exact divmod_inj (s := sd) (by omega) (by omega)
      · obtain ⟨x, hx, rfl⟩ := List.mem_map.mp hc
        obtain ⟨x0, x1⟩ := i4 x hx
        have g1 := Int.emod_nonneg x (show sd ≠ 0 by omega)
        have g2 := Int.emod_lt_of_pos x (show 0 < sd by omega)
        have g3 : 0 ≤ x / sd := Int.ediv_nonneg x0 (by omega)
        have g4 : x / sd < sd := Int.ediv_lt_of_lt_mul (by omega) x1
        simp only [f]
        omega
end K84
namespace K84
open L2 PySem PySem.Spec PyProof.Rows
local macro_rules | `(tactic| walk_at "cm") => `(tactic| first | assumption | exact Or.inl ⟨by omega, by omega⟩ | exact Or.inr ⟨by omega, by omega⟩)
local macro_rules | `(tactic| walk_at "ev") => `(tactic| first
  | assumption | exact evI_c | exact evI_var rfl | exact evV_var rfl | exact evC_var rfl (by assumption)
  | (refine evI_add ?_ ?_ <;> walk_at "ev") | (refine evI_sub ?_ ?_ <;> walk_at "ev")
  | (refine evI_mul ?_ ?_ ?_; (· walk_at "ev"); (· walk_at "ev"); (· walk_at "cm"))
  | (refine evI_fst ?_; walk_at "ev") | (refine evI_snd ?_; walk_at "ev") | (refine evI_neg ?_; walk_at "ev")
  | (refine evC_tup ?_ ?_ <;> walk_at "ev") | (refine evP_tup ?_ ?_ <;> walk_at "ev")
  | (refine evB_eq ?_ ?_ <;> walk_at "ev") | (refine evB_ne ?_ ?_ <;> walk_at "ev")
  | (refine evB_lt ?_ ?_ <;> walk_at "ev") | (refine evB_le ?_ ?_ <;> walk_at "ev") | (refine evB_gt ?_ ?_ <;> walk_at "ev") | (refine evB_ge ?_ ?_ <;> walk_at "ev")
  | (refine evT_test ?_; walk_at "ev") | (refine evT_B ?_; walk_at "ev") | (refine evT_not ?_; walk_at "ev") | exact evT_yes)
theorem evRow_var {σ : L2.St} {H : Hp} {k : Nat} {v : V} {cs : List C2} (h : σ[k]? = some (some v)) (r : Row H v cs) : Ev (tVar k) σ H (fun H v => Row H v cs) := ev_varM h mono_row r
theorem ev_cb1 {σ : L2.St} {H : Hp} {tl : TE} {r : RC} {R R' : Hp → V → Prop} (h : Ev tl σ H R') (k : ∀ v H1, Same H H1 → R' H1 v → ∀ Q : VK, (∀ v H2, Same H1 H2 → R H2 v → Q v H2) → r [v] H1 Q) : Ev (tCB r (tCons tl tNil)) σ H R := fun H1 e Q q =>
  h H1 e _ fun v H2 e2 hv => k v H2 (e.trans e2) hv Q fun u H3 e3 hu => q u H3 (e2.trans e3) hu
def lsR (Us : List (List C2)) (U : List C2) : Bool := !((Us.map fun O => !decide (O = U) && (O.map fun z => decide (z ∈ U)).all id).any id)
/-- P are the least of the rows Rs, each sorted -/
structure Least (Rs P : List (List C2)) : Prop where
  row : ∀ R ∈ P, ∃ S ∈ Rs, R.Perm S
  low : ∀ S ∈ Rs, ∃ R ∈ P, ∀ z ∈ R, z ∈ S
  anti : ∀ R ∈ P, ∀ R' ∈ P, R ≠ R' → ∃ z ∈ R, z ∉ R'
  len : P.length ≤ Rs.length
  nd : P.Nodup
theorem lsR_iff {Us : List (List C2)} {U : List C2} : lsR Us U = true ↔ ∀ O ∈ Us, O ≠ U → ∃ z ∈ O, z ∉ U := by
  unfold lsR
  rw [Bool.not_eq_true', Bool.eq_false_iff, ne_eq, List.any_map, List.any_eq_true]
  simp only [Function.comp, id, Bool.and_eq_true, Bool.not_eq_true', decide_eq_false_iff_not, List.all_map, List.all_eq_true, decide_eq_true_eq]
  constructor
  · intro h O hO hne
    refine Classical.byContradiction fun hc => h ⟨O, hO, hne, fun z hz => Classical.byContradiction fun hz' => hc ⟨z, hz, hz'⟩⟩
  · rintro h ⟨O, hO, hne, hall⟩
    obtain ⟨z, hz, hz'⟩ := h O hO hne
    exact hz' (hall z hz)
theorem sortedC_eq {a b : List C2} (ha : SortedC a) (hb : SortedC b) (h : a.Perm b) : a = b :=
  List.Perm.eq_of_pairwise (le := fun p q : C2 => p.1 < q.1 ∨ (p.1 = q.1 ∧ p.2 ≤ q.2)) (fun p q _ _ h1 h2 => Prod.ext (by omega) (by omega)) ha hb h
theorem nodup_perm {α : Type} [DecidableEq α] {a b : List α} (ha : a.Nodup) (hb : b.Nodup) (hs : ∀ x ∈ a, x ∈ b) (hl : b.length ≤ a.length) : a.Perm b :=
  (List.perm_ext_iff_of_nodup ha hb).mpr fun x => ⟨hs x, fun hx => Classical.byContradiction fun hn => by
    have h1 := nodup_le (m := b.erase x) ha fun y hy => (List.mem_erase_of_ne (fun e => hn (by rw [← e]; exact hy))).mpr (hs y hy)
    have h2 := List.length_erase_of_mem hx
    have h3 := List.length_pos_of_mem hx
    omega⟩
theorem least_ok {Rs Us : List (List C2)} (hn : ∀ S ∈ Rs, S.Nodup) (h1 : ∀ U ∈ Us, SortedC U ∧ ∃ S ∈ Rs, U.Perm S) (h2 : ∀ S ∈ Rs, ∃ U ∈ Us, U.Perm S) (hl : Us.length ≤ Rs.length) (hd : Us.Nodup) : Least Rs (Us.filter (lsR Us)) := by
  have und : ∀ U ∈ Us, U.Nodup := fun U hU => by
    obtain ⟨_, S, hS, p⟩ := h1 U hU
    exact p.nodup_iff.mpr (hn S hS)
  have low : ∀ (n : Nat) (U : List C2), U.length ≤ n → U ∈ Us → ∃ R ∈ Us.filter (lsR Us), ∀ z ∈ R, z ∈ U := by
    intro n
    induction n with
    | zero =>
      intro U hU hm
      refine ⟨U, List.mem_filter.mpr ⟨hm, lsR_iff.mpr fun O hO hne => Classical.byContradiction fun hc => hne ?_⟩, fun z hz => hz⟩
      have hs : ∀ z ∈ O, z ∈ U := fun z hz => Classical.byContradiction fun h => hc ⟨z, hz, h⟩
      exact sortedC_eq (h1 O hO).1 (h1 U hm).1 (nodup_perm (und O hO) (und U hm) hs (by omega))
    | succ n ih =>
      intro U hU hm
      by_cases hls : lsR Us U = true
      · exact ⟨U, List.mem_filter.mpr ⟨hm, hls⟩, fun z hz => hz⟩
      · rw [lsR_iff] at hls
        obtain ⟨O, hO⟩ := Classical.not_forall.mp hls
        obtain ⟨hOm, hO⟩ := Classical.not_forall.mp hO
        obtain ⟨hne, hO⟩ := Classical.not_forall.mp hO
        have hs : ∀ z ∈ O, z ∈ U := fun z hz => Classical.byContradiction fun h => hO ⟨z, hz, h⟩
        have hlt : O.length < U.length := Classical.byContradiction fun h => hne (sortedC_eq (h1 O hOm).1 (h1 U hm).1 (nodup_perm (und O hOm) (und U hm) hs (by omega)))
        obtain ⟨R, hR, hRO⟩ := ih O (by omega) hOm
        exact ⟨R, hR, fun z hz => hs z (hRO z hz)⟩
  refine ⟨fun R hR => (h1 R (List.mem_filter.mp hR).1).2, fun S hS => ?_, fun R hR R' hR' hne => lsR_iff.mp (List.mem_filter.mp hR').2 R (List.mem_filter.mp hR).1 hne, Nat.le_trans (List.length_filter_le _ _) hl, List.filter_sublist.nodup hd⟩
  obtain ⟨U, hU, p⟩ := h2 S hS
  obtain ⟨R, hR, hs⟩ := low _ U (Nat.le_refl _) hU
  exact ⟨R, hR, fun z hz => p.mem_iff.mp (hs z hz)⟩
/-- a row as a tuple or a list -/
def RowL (H : Hp) (v : V) (cs : List C2) : Prop := ∃ a xs, v = .ref a ∧ (H a = some (.lst xs) ∨ H a = some (.tup xs)) ∧ Paired (Cell H) xs cs
theorem RowL.same {H H' : Hp} (e : Same H H') {v : V} {cs : List C2} (h : RowL H v cs) : RowL H' v cs := by
  obtain ⟨a, xs, h1, h2, h3⟩ := h
  exact ⟨a, xs, h1, h2.imp (e _ _) (e _ _), h3.kImp fun _ _ r => r.text e.text⟩
theorem Row.rl {H : Hp} {v : V} {cs : List C2} (h : Row H v cs) : RowL H v cs := by
  obtain ⟨a, xs, h1, h2, h3⟩ := h; exact ⟨a, xs, h1, .inr h2, h3⟩
theorem Lst.rl {H : Hp} {v : V} {cs : List C2} (h : LCells H v cs) : RowL H v cs := by
  obtain ⟨a, xs, h1, h2, h3⟩ := h; exact ⟨a, xs, h1, .inl h2, h3⟩
/-- a row, sorted -/
def SRow (H : Hp) (v : V) (cs : List C2) : Prop := ∃ ds, ds.Perm cs ∧ SortedC ds ∧ Row H v ds
theorem tm_srow : TMono SRow := fun _ _ _ _ e ⟨ds, h1, h2, h3⟩ => ⟨ds, h1, h2, Row.text e h3⟩
theorem srows_keys {H : Hp} : ∀ {xs : List V} {Rs : List (List C2)}, Paired (SRow H) xs Rs → ∃ ks : List (Addr × List C2), xs = ks.map (fun p => V.ref p.1) ∧ (∀ p ∈ ks, Row H (.ref p.1) p.2 ∧ SortedC p.2) ∧ Paired (fun p cs => p.2.Perm cs) ks Rs
  | _, _, .nil => ⟨[], rfl, (fun p hp => nomatch hp), .nil⟩
  | _, _, .cons r t => by
    obtain ⟨ks, h1, h2, h3⟩ := srows_keys t
    obtain ⟨ds, p1, p2, a, vs, rfl, g1, g2⟩ := r
    exact ⟨(a, ds) :: ks, by rw [h1]; rfl, fun p hp => by
      rcases List.mem_cons.mp hp with rfl | hp
      · exact ⟨⟨a, vs, rfl, g1, g2⟩, p2⟩
      · exact h2 p hp, .cons p1 h3⟩
theorem rows_paired {H : Hp} : ∀ {L : List (Addr × List C2)}, (∀ p ∈ L, Row H (.ref p.1) p.2) → Paired (Row H) (L.map fun p => V.ref p.1) (L.map (·.2))
  | [], _ => .nil
  | p :: r, h => .cons (h p List.mem_cons_self) (rows_paired fun q hq => h q (List.mem_cons_of_mem _ hq))
def sp__law_least : Sp := fun vs H Q _ => ∃ (v : V) (Rs : List (List C2)), vs = [v] ∧ Lst H (RowL H) v Rs ∧ Rs.length < 64 ∧ (∀ S ∈ Rs, S.Nodup ∧ S ≠ [] ∧ S.length ≤ 1000) ∧ ∀ v' H' P, Same H H' → Plain H' v' P → Least Rs P → Q v' H'
theorem pure__law_least {K : PySem.W.Frag} {w : World} (vs : List V) (H : Hp) (Q : VK) (E : XK) (h : sp__law_least vs H Q E) : t__law_least K w { nx := fun _ H' => Q .non H', rt := Q } (start N__law_least vs) H := by
  obtain ⟨v, Rs, rfl, ⟨a, xs, rfl, hx, hp⟩, hz, hR, q⟩ := h
  show t__law_least K w _ [some (.ref a), none, none, none, none, none] H
  have lc : Ev (tLc (iList K (tVar 0)) (gName 1) tYes (tCB (rTupleOf K) (tCons (tCB rSortedR (tCons (tVar 1) tNil)) tNil)) [1]) [some (.ref a), none, none, none, none, none] H (NewL H SRow Rs) := by
    have h := ev_lcW (σ := [some (.ref a), none, none, none, none, none]) (H := H) (ds := Rs) (p := fun _ => true) (f := id) (Ry := SRow) (tt := tYes) (te := tCB (rTupleOf K) (tCons (tCB rSortedR (tCons (tVar 1) tNil)) tNil)) (vs := [1]) (g := gName 1)
      (wi_list (K := K) (tl := tVar 0) (evV_var rfl) hx) (walkL' hp.kLen) (fun H' e => SqL.of (e _ _ hx)) tm_srow (by omega) gName_mono ?_
    · rw [filt_all, List.map_id] at h; exact h
    · rintro i S x H2 H3 hd e2 ⟨rfl, hY⟩
      obtain ⟨S', g1, g2⟩ := hp.kGetL hY
      rw [hd] at g1; cases g1
      have r := g2.same e2
      refine ⟨Same.refl _, rfl, Same.refl _, evT_yes, fun _ H4 e4 Q q => ?_⟩
      obtain ⟨b, ys, rfl, hb, hq⟩ := r.same e4
      have hS := hR S (List.mem_of_getElem? hd)
      refine ⟨_, rfl, b, ys, S, rfl, hb, hq, by omega, fun zs ds p g1 g2 g3 hp0 => ⟨p, zs, rfl, .inl ⟨SqL.of upd_same, fun r hr => q _ _ ((same_new hp0).trans (same_new hr)) ⟨ds, g1, g2, r, zs, rfl, upd_same, g3.kImp fun _ _ r => r.text ((text_new hp0).trans (text_new hr))⟩⟩⟩⟩
  have es : Ev (tCB (rSetOfN w) (tCons (tLc (iList K (tVar 0)) (gName 1) tYes (tCB (rTupleOf K) (tCons (tCB rSortedR (tCons (tVar 1) tNil)) tNil)) [1]) tNil)) [some (.ref a), none, none, none, none, none] H
      (fun H' v => ∃ b L, v = .ref b ∧ H' b = some (SetNO w b (rkey L)) ∧ (∀ r ∈ L, Row H' (.ref r.1) r.2 ∧ SortedC r.2 ∧ ∃ S ∈ Rs, r.2.Perm S) ∧ (∀ S ∈ Rs, ∃ r ∈ L, r.2.Perm S) ∧ (L.map (·.2)).Nodup ∧ L.length ≤ Rs.length) := by
    refine ev_cb1 lc fun v H2 e2 hv Q q => ?_
    obtain ⟨p, ys, rfl, _, g1, g2⟩ := hv
    obtain ⟨ks, rfl, k1, k2⟩ := srows_keys g2
    have kl := k2.kLen
    refine ⟨p, ks, rfl, g1, fun r hr => (k1 r hr).1, by omega, fun b L hb l1 l2 l3 => ?_⟩
    have e3 : Same H2 (upd H2 b (SetNO w b (rkey L))) := same_new hb
    refine q _ _ e3 ⟨b, L, rfl, upd_same, fun r hr => ?_, fun S hS => ?_, l3, ?_⟩
    · obtain ⟨S, hS, ps⟩ := k2.kMemL (l1 r hr)
      exact ⟨Row.text e3.text (k1 r (l1 r hr)).1, (k1 r (l1 r hr)).2, S, hS, ps⟩
    · obtain ⟨s, hs, ps⟩ := k2.kMemR hS
      obtain ⟨r, hr, e⟩ := List.mem_map.mp (l2 s hs)
      exact ⟨r, hr, by rw [e]; exact ps⟩
    · have hsub : ∀ U ∈ L.map (·.2), U ∈ ks.map (·.2) := fun U hU => by
        obtain ⟨s, hs, rfl⟩ := List.mem_map.mp hU
        exact List.mem_map.mpr ⟨s, l1 s hs, rfl⟩
      have := nodup_le l3 hsub
      rw [List.length_map, List.length_map] at this
      omega
  refine q_set (R := fun H' v => ∃ Us p xs, v = .ref p ∧ H' p = some (.lst xs) ∧ Paired (Row H') xs Us ∧ Us.Nodup ∧ (∀ U ∈ Us, SortedC U ∧ ∃ S ∈ Rs, U.Perm S) ∧ (∀ S ∈ Rs, ∃ U ∈ Us, U.Perm S) ∧ Us.length ≤ Rs.length) (ev_cb1 es fun v H2 e2 hv Q q => ?_) fun v H1 e1 hv => ?_
  · obtain ⟨b, L, rfl, hb, l1, l2, l3, l4⟩ := hv
    refine ⟨b, L, rfl, hb, fun r hr => ⟨(l1 r hr).1, ?_⟩, fun L' r pm hr => q _ _ (same_new hr) ⟨L'.map (·.2), r, _, rfl, upd_same, ?_, ?_, ?_, ?_, ?_⟩⟩
    · obtain ⟨_, _, S, hS, ps⟩ := l1 r hr
      intro hne
      rw [hne] at ps
      exact (hR S hS).2.1 ps.nil_eq.symm
    · exact rows_paired fun s hs => Row.text (text_new hr) (l1 s (pm.mem_iff.mp hs)).1
    · exact (pm.map (·.2)).nodup_iff.mpr l3
    · intro U hU
      obtain ⟨s, hs, rfl⟩ := List.mem_map.mp hU
      exact (l1 s (pm.mem_iff.mp hs)).2
    · intro S hS
      obtain ⟨s, hs, ps⟩ := l2 S hS
      exact ⟨s.2, List.mem_map.mpr ⟨s, pm.mem_iff.mpr hs, rfl⟩, ps⟩
    · rw [List.length_map, pm.length_eq]; exact l4
  obtain ⟨Us, p, us, rfl, hp1, hpu, u1, u2, u3, u4⟩ := hv
  show (tSeq _ _) _ [some (.ref a), none, some (.ref p), none, none, none] H1
  refine q_set ev_lst0 fun vf H2 e2 hvf => ?_
  obtain ⟨f, rfl, hf0, hf1⟩ := hvf
  have tb : ∀ U ∈ Us, U.length ≤ 1000 := fun U hU => by
    obtain ⟨_, S, hS, ps⟩ := u2 U hU
    rw [ps.length_eq]; exact (hR S hS).2.2
  refine q_forL (evV_var rfl) (e2 _ _ hp1) (fun i σ' H' => (∃ y1 y4 y5, σ' = [some (.ref a), y1, some (.ref p), some (.ref f), y4, y5]) ∧ Same H1 H' ∧ ∃ fs, H' f = some (.lst fs) ∧ Paired (Row H') fs ((Us.take i).filter (lsR Us))) (fun H3 e3 => ⟨⟨_, _, _, rfl⟩, e2.trans e3, [], e3 _ _ hf1, .nil⟩) (fun i σ' H' _ h => h.2.1 _ _ hp1) ?_ ?_
  · rintro i x σ' H3 hx ⟨⟨y1, y4, y5, rfl⟩, i1, fs, i2, i3⟩
    obtain ⟨U, hU, hUr⟩ := hpu.kGetL hx
    have hUr3 : Row H3 x U := Row.text i1.text hUr
    show (tIfS _ _ _) _ [some (.ref a), some x, some (.ref p), some (.ref f), y4, y5] H3
    have hflen : fs.length ≤ Us.length := by
      rw [i3.kLen]
      exact Nat.le_trans (List.length_filter_le _ _) (by rw [List.length_take]; omega)
    refine s_when (b := lsR Us U) (evT_not (evT_B (ev_any (H0 := H3) (b := Us.map fun O => !decide (O = U) && (O.map fun z => decide (z ∈ U)).all id) (ev_mapL (K := K) (Rx := fun H v cs => Row H v cs) (evV_var rfl) (i1 _ _ hp1) (hpu.kImp fun _ _ r => Row.text i1.text r) tm_row tm_bool (by omega) fun y O H4 e4 hO r => ?_)))) (fun hb H4 e4 => ?_) fun hb H4 e4 => ?_
    · refine evB_andV (evB_neR (evRow_var rfl r) (evRow_var rfl (Row.text e4.text hUr3))) fun _ => ?_
      obtain ⟨b, zs, rfl, hb1, hb2⟩ := r
      exact ev_all (H0 := H4) (b := O.map fun z => decide (z ∈ U)) (ev_mapT (K := K) (Rx := Cell) (evV_var rfl) hb1 hb2 tm_cell tm_bool (by have := tb O hO; omega) fun z c H5 e5 _ rc => evB_inT (evC_var rfl rc) (evRow_var rfl (Row.text (e4.trans e5).text hUr3)))
    · refine s_app (e4 _ _ i2) (evV_var rfl) (evRow_var rfl (Row.text e4.text hUr3)) (by omega) fun v H5 e5 hv => ⟨⟨_, _, _, rfl⟩, (i1.trans (e4.trans e5)).mut hf0, _, upd_same, ?_⟩
      have te : TExt H5 (upd H5 f (.lst (fs ++ [v]))) := text_lst ((e4.trans e5) _ _ i2)
      rw [List.take_add_one, hU, List.filter_append]
      refine (i3.kImp fun _ _ r => Row.text ((e4.trans e5).text.trans te) r).kApp ?_
      simp only [Option.toList_some, List.filter_cons, List.filter_nil, hb, if_true]
      exact .cons (Row.text te hv) .nil
    · refine ⟨⟨_, _, _, rfl⟩, i1.trans e4, fs, e4 _ _ i2, ?_⟩
      rw [List.take_add_one, hU, List.filter_append]
      simp only [Option.toList_some, List.filter_cons, List.filter_nil, hb, Bool.false_eq_true, if_false, List.append_nil]
      exact i3.kImp fun _ _ r => Row.text e4.text r
  · rintro σ' H3 ⟨⟨y1, y4, y5, rfl⟩, i1, fs, i2, i3⟩
    rw [hpu.kLen, List.take_length] at i3
    exact s_ret (ev_tupleOf tm_row (ev_varL rfl tm_row i2 i3)) fun v H4 e4 hv => q v H4 _ ((e1.trans i1).trans e4) hv (least_ok (fun S hS => (hR S hS).1) u2 u3 u4 u1)
/-- every part of a list, as the law makes them -/
def subsF (cs : List C2) : List (List C2) := cs.foldl (fun F c => F ++ F.map fun r => r ++ [c]) [[]]
theorem subs_go : ∀ (cs : List C2) (F : List (List C2)) (done : List C2), (∀ r ∈ F, r.Sublist done) → (∀ T : C2 → Bool, done.filter T ∈ F) →
    (∀ r ∈ cs.foldl (fun F c => F ++ F.map fun r => r ++ [c]) F, r.Sublist (done ++ cs)) ∧ (∀ T : C2 → Bool, (done ++ cs).filter T ∈ cs.foldl (fun F c => F ++ F.map fun r => r ++ [c]) F) ∧ (cs.foldl (fun F c => F ++ F.map fun r => r ++ [c]) F).length = F.length * 2 ^ cs.length
  | [], F, done, h1, h2 => ⟨by simpa using h1, by simpa using h2, by simp⟩
  | c :: r, F, done, h1, h2 => by
    have := subs_go r (F ++ F.map fun r => r ++ [c]) (done ++ [c]) (fun s hs => by
      rcases List.mem_append.mp hs with h | h
      · exact (h1 s h).trans (List.sublist_append_left _ _)
      · obtain ⟨s', hs', rfl⟩ := List.mem_map.mp h
        exact (h1 s' hs').append (List.Sublist.refl _)) (fun T => by
      rw [List.filter_append]
      by_cases hT : T c = true
      · refine List.mem_append_right _ (List.mem_map.mpr ⟨_, h2 T, ?_⟩)
        simp [hT]
      · refine List.mem_append_left _ ?_
        simp only [List.filter_cons, hT, List.filter_nil]
        simpa using h2 T)
    rw [List.append_assoc, List.singleton_append] at this
    refine ⟨this.1, this.2.1, ?_⟩
    rw [List.foldl_cons, this.2.2, List.length_append, List.length_map, List.length_cons, Nat.pow_succ]
    rw [Nat.mul_comm (2 ^ r.length) 2, ← Nat.mul_assoc]
    congr 1; omega
theorem subs_sub {cs r : List C2} (h : r ∈ subsF cs) : r.Sublist cs := (subs_go cs [[]] [] (fun r h => by simp at h; rw [h]; exact List.Sublist.refl _) fun T => by simp).1 r h
theorem subs_all (cs : List C2) (T : C2 → Bool) : cs.filter T ∈ subsF cs := (subs_go cs [[]] [] (fun r h => by simp at h; rw [h]; exact List.Sublist.refl _) fun T => by simp).2.1 T
theorem subs_nil (cs : List C2) : [] ∈ subsF cs := by
  have h := subs_all cs (fun _ => false)
  have e : cs.filter (fun _ => false) = [] := List.filter_eq_nil_iff.mpr (by simp)
  rwa [e] at h
theorem subs_len (cs : List C2) : (subsF cs).length = 2 ^ cs.length := by
  have := (subs_go cs [[]] [] (fun r h => by simp at h; rw [h]; exact List.Sublist.refl _) fun T => by simp).2.2
  unfold subsF
  rw [this, List.length_singleton, Nat.one_mul]
/-- the set hits every row -/
def hits (P : List (List C2)) (r : List C2) : Bool := (P.map fun S => (r.map fun z => decide (z ∈ S)).any id).all id
theorem hits_iff {P : List (List C2)} {r : List C2} : hits P r = true ↔ ∀ S ∈ P, ∃ z ∈ r, z ∈ S := by
  unfold hits
  rw [List.all_map, List.all_eq_true]
  simp only [Function.comp, id, List.any_map, List.any_eq_true, decide_eq_true_eq]
/-- P hits P0, and what hits P0 holds a row of P -/
structure Heal (P0 P : List (List C2)) : Prop where
  hit : ∀ R ∈ P, ∀ S ∈ P0, ∃ z ∈ R, z ∈ S
  low : ∀ T : C2 → Prop, (∀ S ∈ P0, ∃ z ∈ S, T z) → ∃ R ∈ P, ∀ z ∈ R, T z
  cell : ∀ R ∈ P, ∀ z ∈ R, ∃ S ∈ P0, z ∈ S
  nd : ∀ R ∈ P, R.Nodup ∧ R ≠ [] ∧ R.length ≤ 6
  anti : ∀ R ∈ P, ∀ R' ∈ P, R ≠ R' → ∃ z ∈ R, z ∉ R'
  len : P.length ≤ 63
theorem heal_ok {P0 P : List (List C2)} {cs : List C2} (hne : P0 ≠ []) (hc : ∀ c, c ∈ cs ↔ ∃ S ∈ P0, c ∈ S) (hn : cs.Nodup) (hl : cs.length ≤ 6) (h : Least ((subsF cs).filter (hits P0)) P) : Heal P0 P := by
  have key : ∀ R ∈ P, ∃ S, S.Sublist cs ∧ hits P0 S = true ∧ R.Perm S := fun R hR => by
    obtain ⟨S, hS, p⟩ := h.row R hR
    obtain ⟨h1, h2⟩ := List.mem_filter.mp hS
    exact ⟨S, subs_sub h1, h2, p⟩
  have hhit : ∀ R ∈ P, ∀ S ∈ P0, ∃ z ∈ R, z ∈ S := fun R hR S hS => by
    obtain ⟨S', _, h2, p⟩ := key R hR
    obtain ⟨z, hz, hzS⟩ := hits_iff.mp h2 S hS
    exact ⟨z, p.mem_iff.mpr hz, hzS⟩
  refine ⟨hhit, fun T hT => ?_, fun R hR z hz => ?_, fun R hR => ?_, h.anti, ?_⟩
  · have hm : cs.filter (fun c => @decide (T c) (Classical.propDecidable _)) ∈ (subsF cs).filter (hits P0) := List.mem_filter.mpr ⟨subs_all cs _, hits_iff.mpr fun S hS => by
      obtain ⟨z, hz, hTz⟩ := hT S hS
      exact ⟨z, List.mem_filter.mpr ⟨(hc z).mpr ⟨S, hS, hz⟩, by simpa using hTz⟩, hz⟩⟩
    obtain ⟨R, hR, hs⟩ := h.low _ hm
    refine ⟨R, hR, fun z hz => ?_⟩
    have := (List.mem_filter.mp (hs z hz)).2
    simpa using this
  · obtain ⟨S', h1, _, p⟩ := key R hR
    exact (hc z).mp (h1.subset (p.mem_iff.mp hz))
  · obtain ⟨S', h1, _, p⟩ := key R hR
    refine ⟨p.nodup_iff.mpr (h1.nodup hn), fun e => ?_, by rw [p.length_eq]; exact Nat.le_trans h1.length_le hl⟩
    obtain ⟨S, hS⟩ := List.exists_mem_of_ne_nil P0 hne
    obtain ⟨z, hz, _⟩ := hhit R hR S hS
    rw [e] at hz; cases hz
  · have h1 := h.len
    have h2 : ((subsF cs).filter (hits P0)).length < (subsF cs).length := List.length_filter_lt_length_iff_exists.mpr ⟨[], subs_nil cs, fun e => by
      obtain ⟨S, hS⟩ := List.exists_mem_of_ne_nil P0 hne
      obtain ⟨z, hz, _⟩ := hits_iff.mp e S hS
      cases hz⟩
    rw [subs_len] at h2
    have h3 : 2 ^ cs.length ≤ 2 ^ 6 := Nat.pow_le_pow_right (by decide) hl
    have h4 : 2 ^ 6 = 64 := rfl
    omega
theorem ev_extRow {K : PySem.W.Frag} {σ : L2.St} {H : Hp} {ta tb : TE} {r : List C2} {c : C2} (hz : r.length ≤ 1000) (ha : Ev ta σ H (fun H v => Row H v r)) (hb : EvC tb σ H c) : Ev (tOp (rCatA K) ta (tTup (tCons tb tNil))) σ H (fun H v => Row H v (r ++ [c])) :=
  ev_op (Rb := fun H v => Row H v [c]) ha (ev_tup (evA_1 hb) (fun _ vs h => by obtain ⟨v, rfl, _⟩ := h; show 1 ≤ 1000; decide) fun H' vs p h hp _ => by
    obtain ⟨v, rfl, h1⟩ := h
    exact ⟨p, [v], rfl, upd_same, .cons (h1.text (text_new hp)) .nil⟩) mono_row fun H1 x y e h1 h2 Q q => by
    obtain ⟨a, xs, rfl, ha, hp⟩ := h1
    obtain ⟨b, ys, rfl, hb, hq⟩ := h2
    have hpl := hp.kLen
    have hql := hq.kLen
    refine ⟨a, b, xs, ys, rfl, rfl, SqT.of ha, SqT.of hb, by rw [sizeLine_eq]; simp at hql; omega, fun h0 => q _ H1 (Same.refl _) ?_, fun _ h0 => ?_, fun _ _ p hp0 => q _ _ (same_new hp0) ⟨p, _, rfl, upd_same, (hp.kImp fun _ _ r => r.text (text_new hp0)).kApp (hq.kImp fun _ _ r => r.text (text_new hp0))⟩⟩
    · subst h0
      cases r with
      | nil => exact ⟨b, ys, rfl, hb, hq⟩
      | cons c r => simp at hpl
    · rw [h0] at hql; simp at hql
def sp__law_healing : Sp := fun vs H Q _ => ∃ (v : V) (P0 : List (List C2)), vs = [v] ∧ Plain H v P0 ∧ P0 ≠ [] ∧ P0.length ≤ 2 ∧ (∀ S ∈ P0, S.Nodup ∧ S.length ≤ 3) ∧ ∀ v' H' P, Same H H' → Plain H' v' P → Heal P0 P → Q v' H'
theorem pure__law_healing {K : PySem.W.Frag} (vs : List V) (H : Hp) (Q : VK) (E : XK) (h : sp__law_healing vs H Q E) : t__law_healing K sp__law_least { nx := fun _ H' => Q .non H', rt := Q } (start N__law_healing vs) H := by
  obtain ⟨v, P0, rfl, ⟨a, xs, rfl, hx, hp⟩, hne, hz, hS, q⟩ := h
  show t__law_healing K _ _ [some (.ref a), none, none, none, none, none, none] H
  refine q_set ev_lst0 fun v1 H1 e1 hv1 => ?_
  obtain ⟨f, rfl, hf0, hf1⟩ := hv1
  refine q_forT (evV_var rfl) (e1 _ _ hx) (fun i σ' H' => (∃ y2 y3, σ' = [some (.ref a), some (.ref f), y2, y3, none, none, none]) ∧ Same H H' ∧ ∃ fs cs, H' f = some (.lst fs) ∧ Paired (Cell H') fs cs ∧ cs.Nodup ∧ (∀ c, c ∈ cs ↔ ∃ S ∈ P0.take i, c ∈ S) ∧ cs.length ≤ 3 * i) (fun H3 e3 => ⟨⟨_, _, rfl⟩, e1.trans e3, [], [], e3 _ _ hf1, .nil, .nil, fun c => by simp, Nat.zero_le _⟩) (fun i σ' H' _ h => h.2.1 _ _ hx) ?_ ?_
  · rintro i x σ' H3 hxi ⟨⟨y2, y3, rfl⟩, i1, fs, cs, i2, i3, i4, i5, i6⟩
    obtain ⟨S, hSi, b, ys, rfl, hb, hq⟩ := hp.kGetL hxi
    have hSm := List.mem_of_getElem? hSi
    obtain ⟨n1, n2⟩ := hS S hSm
    have hi : i < P0.length := (List.getElem?_eq_some_iff.mp hSi).1
    show tDrop _ _ [some (.ref a), some (.ref f), some (.ref b), y3, none, none, none] H3
    have lc := ev_lcT (K := K) (σ := [some (.ref a), some (.ref f), some (.ref b), y3, none, none, none]) (H := H3) (tl := tVar 2) (tt := tTest (tOp (rNotInD K) (tVar 3) (tVar 1))) (te := tVar 3) (j := 3) (p := fun c => !decide (c ∈ cs)) (f := id) (Rx := Cell) (Ry := Cell) (evV_var rfl) (i1 _ _ hb) (hq.kImp fun _ _ r => r.text i1.text) tm_cell tm_cell (by omega)
      (fun x c H' e m r => evT_test (evB_notinL (evC_var rfl r) (ev_varL rfl tm_cell (e _ _ i2) (i3.kImp fun _ _ r => r.text e.text)))) (fun x c H' e m r _ => evC_var rfl r)
    rw [List.map_id] at lc
    have nl : ((S.filter fun c => !decide (c ∈ cs))).length ≤ 3 := Nat.le_trans (List.length_filter_le _ _) n2
    refine q_extend (D := Ends.mk _ _ _ _) (u := tNext) i2 (evV_var rfl) lc (by rw [i3.kLen]; omega) fun zs H4 e4 hzs => ?_
    refine ⟨⟨_, _, rfl⟩, (i1.trans e4).mut hf0, _, cs ++ S.filter fun c => !decide (c ∈ cs), upd_same, ?_, ?_, fun c => ?_, ?_⟩
    · have te : TExt H4 (upd H4 f (.lst (fs ++ zs))) := text_lst (e4 _ _ i2)
      exact (i3.kImp fun _ _ r => r.text (e4.text.trans te)).kApp (hzs.kImp fun _ _ r => r.text te)
    · refine List.nodup_append.mpr ⟨i4, List.filter_sublist.nodup n1, fun c hc d hd e => ?_⟩
      have := (List.mem_filter.mp hd).2
      rw [e] at hc
      simp [hc] at this
    · rw [List.mem_append, i5, List.take_add_one, hSi]
      constructor
      · rintro (⟨S', h1, h2⟩ | h)
        · exact ⟨S', List.mem_append_left _ h1, h2⟩
        · exact ⟨S, by simp, (List.mem_filter.mp h).1⟩
      · rintro ⟨S', h1, h2⟩
        rcases List.mem_append.mp h1 with h | h
        · exact .inl ⟨S', h, h2⟩
        · have : S' = S := by simpa using h
          subst this
          by_cases hc : c ∈ cs
          · exact .inl ((i5 c).mp hc)
          · exact .inr (List.mem_filter.mpr ⟨h2, by simpa using hc⟩)
    · rw [List.length_append]; omega
  · rintro σ' H3 ⟨⟨y2, y3, rfl⟩, i1, fs, cs, i2, i3, i4, i5, i6⟩
    rw [hp.kLen, List.take_length] at i5
    rw [hp.kLen] at i6
    have hcl : cs.length ≤ 6 := by omega
    refine q_set (R := NewL H3 (fun H v cs => Row H v cs) [[]]) (ev_lst1 tm_row (ev_tup (Rr := fun _ vs => vs = []) evA_nil (fun _ vs h => by rw [h]; show 0 ≤ 1000; decide) fun H' vs p h hp0 _ => by rw [h]; exact ⟨p, [], rfl, upd_same, .nil⟩)) fun vF H4 e4 hF => ?_
    show (tSeq _ _) _ [some (.ref a), some (.ref f), y2, y3, some vF, none, none] H4
    let F : Nat → List (List C2) := fun i => (cs.take i).foldl (fun F c => F ++ F.map fun r => r ++ [c]) [[]]
    have Fl : ∀ i, (F i).length ≤ 64 ∧ ∀ r ∈ F i, r.length ≤ 6 := fun i => by
      have h1 := subs_len (cs.take i)
      have h2 : 2 ^ (cs.take i).length ≤ 2 ^ 6 := Nat.pow_le_pow_right (by decide) (by rw [List.length_take]; omega)
      have h3 : 2 ^ 6 = 64 := rfl
      refine ⟨?_, fun r hr => Nat.le_trans (subs_sub hr).length_le (by rw [List.length_take]; omega)⟩
      show (subsF (cs.take i)).length ≤ 64
      omega
    refine q_forL (evV_var rfl) (e4 _ _ i2) (fun i σ' H' => (∃ y2 y3 vF, σ' = [some (.ref a), some (.ref f), y2, y3, some vF, none, none] ∧ Lst H' (fun v cs => Row H' v cs) vF (F i)) ∧ Same H3 H') (fun H5 e5 => ⟨⟨_, _, vF, rfl, Lst.same e5 (fun _ _ r => Row.text e5.text r) hF.lst⟩, e4.trans e5⟩) (fun i σ' H' _ h => h.2 _ _ i2) ?_ ?_
    · rintro i vc σ' H5 hvc ⟨⟨y2, y3, vF, rfl, hF⟩, e5⟩
      obtain ⟨c, hc, hcl⟩ := i3.kGetL hvc
      have hc5 := hcl.text e5.text
      obtain ⟨b, us, rfl, hb, hu⟩ := hF
      show tAsg _ _ _ [some (.ref a), some (.ref f), y2, some vc, some (.ref b), none, none] H5
      have hc1 : EvC (tVar 3) [some (.ref a), some (.ref f), y2, some vc, some (.ref b), none, none] H5 c := evC_var rfl hc5
      have lc := ev_mapL (K := K) (σ := [some (.ref a), some (.ref f), y2, some vc, some (.ref b), none, none]) (H := H5) (tl := tVar 4) (te := tOp (rCatA K) (tVar 2) (tTup (tCons (tVar 3) tNil))) (j := 2) (f := fun r => r ++ [c]) (Rx := fun H v cs => Row H v cs) (Ry := fun H v cs => Row H v cs) (evV_var rfl) hb hu tm_row tm_row (by have := (Fl i).1; omega)
        fun x r H' e m hr => ev_extRow (by have := (Fl i).2 r m; omega) (evRow_var rfl hr) (evC_var rfl (hc5.text e.text))
      refine s_set (ev_cat tm_row (ev_varL rfl tm_row hb hu) (ev_new lc) (by rw [List.length_map]; have := (Fl i).1; omega)) fun v H6 e6 hv => ⟨⟨_, _, v, rfl, ?_⟩, e5.trans e6⟩
      have hF1 : F (i + 1) = F i ++ (F i).map fun r => r ++ [c] := by
        show List.foldl _ _ _ = _
        rw [List.take_add_one, hc, Option.toList_some, List.foldl_append]; rfl
      rw [hF1]
      exact hv.lst
    · rintro σ' H5 ⟨⟨y2, y3, vF, rfl, hF⟩, e5⟩
      have hFe : F fs.length = subsF cs := by
        show List.foldl _ _ _ = _
        rw [i3.kLen, List.take_length]; rfl
      rw [hFe] at hF
      obtain ⟨b, us, rfl, hb, hu⟩ := hF
      have sl : (subsF cs).length ≤ 64 := by have := (Fl fs.length).1; rwa [hFe] at this
      have rl : ∀ r ∈ subsF cs, r.length ≤ 6 := by have := (Fl fs.length).2; rwa [hFe] at this
      have ha5 := (i1.trans e5) _ _ hx
      have hp5 := hp.kImp fun x y (r : Row H x y) => Row.text (i1.trans e5).text r
      have lc := ev_lcL (K := K) (σ := [some (.ref a), some (.ref f), y2, y3, some (.ref b), none, none]) (H := H5) (tl := tVar 4) (tt := tB (tCB (rAll K) (tCons (tLc (iTup K (tVar 0)) (gName 2) tYes (tCB (rAny K) (tCons (tLc (iTup K (tVar 5)) (gName 3) tYes (tOp (rInT K) (tVar 3) (tVar 2)) [3]) tNil)) [2]) tNil))) (te := tVar 5) (j := 5) (p := hits P0) (f := id) (Rx := fun H v cs => Row H v cs) (Ry := fun H v cs => Row H v cs) (evV_var rfl) hb hu tm_row tm_row (by omega)
        (fun x r H' e m hr => evT_B (ev_all (H0 := H') (b := P0.map fun S => (r.map fun z => decide (z ∈ S)).any id) (ev_mapT (Rx := fun H v cs => Row H v cs) (evV_var rfl) (e _ _ ha5) (hp5.kImp fun _ _ r => Row.text e.text r) tm_row tm_bool (by omega) fun y S H6 e6 mS hSr => by
          obtain ⟨br, zr, rfl, hbr, hzr⟩ := hr
          exact ev_any (H0 := H6) (b := r.map fun z => decide (z ∈ S)) (ev_mapT (Rx := Cell) (evV_var rfl) (e6 _ _ hbr) (hzr.kImp fun _ _ r => r.text e6.text) tm_cell tm_bool (by have := rl r m; omega) fun z c H7 e7 _ rc => evB_inT (evC_var rfl rc) (evRow_var rfl (Row.text e7.text hSr))))))
        (fun x r H' e m hr _ => evRow_var rfl hr)
      rw [List.map_id] at lc
      refine q_set lc fun vM H6 e6 hM => ?_
      have ml : ((subsF cs).filter (hits P0)).length < 64 := by
        have h2 : ((subsF cs).filter (hits P0)).length < (subsF cs).length := List.length_filter_lt_length_iff_exists.mpr ⟨[], subs_nil cs, fun e => by
          obtain ⟨S, hS⟩ := List.exists_mem_of_ne_nil P0 hne
          obtain ⟨z, hz, _⟩ := hits_iff.mp e S hS
          cases hz⟩
        omega
      refine s_ret (R := fun H v => ∃ P, Plain H v P ∧ Heal P0 P) (ev_call (evA_1 (ev_varM (R := fun H v => Lst H (RowL H) v ((subsF cs).filter (hits P0))) rfl (fun _ _ _ e h => Lst.same e (fun _ _ r => RowL.same e r) h) ?_)) fun H7 vs e7 hv Q q => ?_) fun v H7 e7 hv => ?_
      · obtain ⟨r, ys, rfl, g1, g2⟩ := hM.lst
        exact ⟨r, ys, rfl, g1, g2.kImp fun _ _ r => Row.rl r⟩
      · obtain ⟨v, rfl, hv⟩ := hv
        refine ⟨v, _, rfl, hv, ml, fun S hS => ?_, fun v' H' P e h1 h2 => q v' H' e ⟨P, h1, heal_ok hne i5 i4 hcl h2⟩⟩
        obtain ⟨g1, g2⟩ := List.mem_filter.mp hS
        refine ⟨(subs_sub g1).nodup i4, fun e => ?_, by have := rl S g1; omega⟩
        obtain ⟨S', hS'⟩ := List.exists_mem_of_ne_nil P0 hne
        obtain ⟨z, hz, _⟩ := hits_iff.mp g2 S' hS'
        rw [e] at hz; cases hz
      · obtain ⟨P, h1, h2⟩ := hv
        exact q v H7 P ((i1.trans e5).trans (e6.trans e7)) h1 h2
end K84
namespace K84
/-- whichever way one looks from p, the row has a cell not behind -/
def HullD (S : List C2) (p : Int × Int × Int) : Prop := ∀ m : C2, ∃ z ∈ S, 0 ≤ crs m (offs z p)
theorem HullD.perm {S S' : List C2} {p : Int × Int × Int} (h : HullD S p) (e : S'.Perm S) : HullD S' p := fun m => by
  obtain ⟨z, hz, h1⟩ := h m
  exact ⟨z, e.mem_iff.mpr hz, h1⟩
def sX (qs : List (Int × C2)) : Int := (qs.map fun q => q.1 * q.2.1).sum
def sY (qs : List (Int × C2)) : Int := (qs.map fun q => q.1 * q.2.2).sum
def sN (qs : List (Int × C2)) : Int := (qs.map fun q => q.1).sum
theorem comb_sum (m : C2) (p : Int × Int × Int) : ∀ qs : List (Int × C2), (∀ q ∈ qs, 0 ≤ q.1 ∧ crs m (offs q.2 p) < 0) → m.1 * (p.2.2 * sY qs - p.2.1 * sN qs) - m.2 * (p.2.2 * sX qs - p.1 * sN qs) ≤ -sN qs
  | [], _ => by show m.1 * (p.2.2 * 0 - p.2.1 * 0) - m.2 * (p.2.2 * 0 - p.1 * 0) ≤ -0; simp
  | q :: r, h => by
    have ih := comb_sum m p r fun q hq => h q (List.mem_cons_of_mem _ hq)
    obtain ⟨h1, h2⟩ := h q List.mem_cons_self
    have e1 : sX (q :: r) = q.1 * q.2.1 + sX r := List.sum_cons ..
    have e2 : sY (q :: r) = q.1 * q.2.2 + sY r := List.sum_cons ..
    have e3 : sN (q :: r) = q.1 + sN r := List.sum_cons ..
    have h3 : q.1 * crs m (offs q.2 p) ≤ q.1 * (-1) := Int.mul_le_mul_of_nonneg_left (by omega) h1
    have e4 : q.1 * crs m (offs q.2 p) = m.1 * (p.2.2 * (q.1 * q.2.2) - p.2.1 * q.1) - m.2 * (p.2.2 * (q.1 * q.2.1) - p.1 * q.1) := by
      unfold crs offs; simp only; grind
    rw [e1, e2, e3]
    have e5 : m.1 * (p.2.2 * (q.1 * q.2.2 + sY r) - p.2.1 * (q.1 + sN r)) - m.2 * (p.2.2 * (q.1 * q.2.1 + sX r) - p.1 * (q.1 + sN r)) = (m.1 * (p.2.2 * sY r - p.2.1 * sN r) - m.2 * (p.2.2 * sX r - p.1 * sN r)) + (m.1 * (p.2.2 * (q.1 * q.2.2) - p.2.1 * q.1) - m.2 * (p.2.2 * (q.1 * q.2.1) - p.1 * q.1)) := by grind
    rw [e5, ← e4]
    omega
theorem hull_comb {qs : List (Int × C2)} {S : List C2} {p : Int × Int × Int} {g : Int} (hq : ∀ q ∈ qs, 0 ≤ q.1 ∧ q.2 ∈ S) (hN : 0 < sN qs) (h1 : sX qs = g * p.1) (h2 : sY qs = g * p.2.1) (h3 : sN qs = g * p.2.2) : HullD S p := fun m => Classical.byContradiction fun hc => by
  have h := comb_sum m p qs fun q hm => ⟨(hq q hm).1, Int.not_le.mp fun h => hc ⟨q.2, (hq q hm).2, h⟩⟩
  have e : m.1 * (p.2.2 * sY qs - p.2.1 * sN qs) - m.2 * (p.2.2 * sX qs - p.1 * sN qs) = 0 := by rw [h1, h2, h3]; grind
  omega
theorem hull_three {A B C : C2} {p : Int × Int × Int} {a b c : Int} (a0 : 0 ≤ a) (b0 : 0 ≤ b) (c0 : 0 ≤ c) (s0 : 0 < a + b + c)
    (h1 : a * (offs A p).1 + b * (offs B p).1 + c * (offs C p).1 = 0) (h2 : a * (offs A p).2 + b * (offs B p).2 + c * (offs C p).2 = 0) : HullD [A, B, C] p := fun m => Classical.byContradiction fun hc => by
  have ha : crs m (offs A p) < 0 := Int.not_le.mp fun h => hc ⟨A, by simp, h⟩
  have hb : crs m (offs B p) < 0 := Int.not_le.mp fun h => hc ⟨B, by simp, h⟩
  have hcc : crs m (offs C p) < 0 := Int.not_le.mp fun h => hc ⟨C, by simp, h⟩
  have e : a * crs m (offs A p) + b * crs m (offs B p) + c * crs m (offs C p) = 0 := by
    have : a * crs m (offs A p) + b * crs m (offs B p) + c * crs m (offs C p) = m.1 * (a * (offs A p).2 + b * (offs B p).2 + c * (offs C p).2) - m.2 * (a * (offs A p).1 + b * (offs B p).1 + c * (offs C p).1) := by
      unfold crs; grind
    rw [this, h1, h2]; simp
  have ga : a * crs m (offs A p) ≤ a * (-1) := Int.mul_le_mul_of_nonneg_left (by omega) a0
  have gb : b * crs m (offs B p) ≤ b * (-1) := Int.mul_le_mul_of_nonneg_left (by omega) b0
  have gc : c * crs m (offs C p) ≤ c * (-1) := Int.mul_le_mul_of_nonneg_left (by omega) c0
  omega
/-- a point of the triangle: it is left of each side -/
theorem hull_tri {A B C : C2} {p : Int × Int × Int} (a0 : 0 ≤ crs (offs B p) (offs C p)) (b0 : 0 ≤ crs (offs C p) (offs A p)) (c0 : 0 ≤ crs (offs A p) (offs B p)) (s0 : 0 < crs (offs B p) (offs C p) + crs (offs C p) (offs A p) + crs (offs A p) (offs B p)) : HullD [A, B, C] p :=
  hull_three a0 b0 c0 s0 (by unfold crs; grind) (by unfold crs; grind)
/-- the second row: the point (X, Y) / N, with (X, Y, N) = g (x, y, L) -/
theorem hull_second {X Y N g left low : Int} {p : Int × Int × Int} {a b c e f : Int} (hp : 0 < p.2.2) (hN : 0 < N) (h1 : X = g * p.1) (h2 : Y = g * p.2.1) (h3 : N = g * p.2.2) (hl : left = X / N) (hw : low = Y / N)
    (ha : 0 ≤ a ∧ a < 3) (hb : 0 ≤ b ∧ b < 3) (hc : 0 ≤ c ∧ c < 2) (he : 0 ≤ e ∧ e < 2) (hf : 0 ≤ f ∧ f < 3) : HullD [(left - 2 - a, low - 1), (left + 3 + b, low - 1 - c), (left + e, low + 4 + f)] p := by
  have g0 : 0 < g := by
    rcases Int.lt_or_le 0 g with h | h
    · exact h
    · have : g * p.2.2 ≤ 0 * p.2.2 := Int.mul_le_mul_of_nonneg_right h (by omega)
      omega
  obtain ⟨x, y, L⟩ := p
  simp only at *
  -- r = x - L left, s = y - L low lie in [0, L)
  have hx : left = x / L := by
    rw [hl, h1, h3, Int.mul_ediv_mul_of_pos _ _ g0]
  have hy : low = y / L := by
    rw [hw, h2, h3, Int.mul_ediv_mul_of_pos _ _ g0]
  obtain ⟨r, hr⟩ : ∃ r, r = x - L * left := ⟨_, rfl⟩
  obtain ⟨s, hs⟩ : ∃ s, s = y - L * low := ⟨_, rfl⟩
  have r0 : 0 ≤ r ∧ r < L := by
    have h := Int.mul_ediv_add_emod x L
    have h4 := Int.emod_nonneg x (show L ≠ 0 by omega)
    have h5 := Int.emod_lt_of_pos x hp
    rw [← hx] at h
    omega
  have s0 : 0 ≤ s ∧ s < L := by
    have h := Int.mul_ediv_add_emod y L
    have h4 := Int.emod_nonneg y (show L ≠ 0 by omega)
    have h5 := Int.emod_lt_of_pos y hp
    rw [← hy] at h
    omega
  have oA : offs (left - 2 - a, low - 1) (x, y, L) = (-(2 + a) * L - r, -L - s) := by unfold offs; simp only; exact Prod.ext (by simp only; grind) (by simp only; grind)
  have oB : offs (left + 3 + b, low - 1 - c) (x, y, L) = ((3 + b) * L - r, -(1 + c) * L - s) := by unfold offs; simp only; exact Prod.ext (by simp only; grind) (by simp only; grind)
  have oC : offs (left + e, low + 4 + f) (x, y, L) = (e * L - r, (4 + f) * L - s) := by unfold offs; simp only; exact Prod.ext (by simp only; grind) (by simp only; grind)
  -- each side's across is L times something linear
  have e1 : crs (offs (left + 3 + b, low - 1 - c) (x, y, L)) (offs (left + e, low + 4 + f) (x, y, L)) = L * (((3 + b) * (4 + f) + e * (1 + c)) * L - (3 + b - e) * s - (5 + c + f) * r) := by
    rw [oB, oC]; unfold crs; simp only; grind
  have e2 : crs (offs (left + e, low + 4 + f) (x, y, L)) (offs (left - 2 - a, low - 1) (x, y, L)) = L * (((2 + a) * (4 + f) - e) * L + (5 + f) * r - (2 + a + e) * s) := by
    rw [oA, oC]; unfold crs; simp only; grind
  have e3 : crs (offs (left - 2 - a, low - 1) (x, y, L)) (offs (left + 3 + b, low - 1 - c) (x, y, L)) = L * (((2 + a) * (1 + c) + (3 + b)) * L + (5 + a + b) * s + c * r) := by
    rw [oA, oB]; unfold crs; simp only; grind
  have ha' : a = 0 ∨ a = 1 ∨ a = 2 := by omega
  have hb' : b = 0 ∨ b = 1 ∨ b = 2 := by omega
  have hc' : c = 0 ∨ c = 1 := by omega
  have he' : e = 0 ∨ e = 1 := by omega
  have hf' : f = 0 ∨ f = 1 ∨ f = 2 := by omega
  have g1 : 0 < ((3 + b) * (4 + f) + e * (1 + c)) * L - (3 + b - e) * s - (5 + c + f) * r := by
    clear e1 e2 e3 oA oB oC
    rcases hb' with rfl | rfl | rfl <;> rcases hc' with rfl | rfl <;> rcases he' with rfl | rfl <;> rcases hf' with rfl | rfl | rfl <;> omega
  have g2 : 0 < ((2 + a) * (4 + f) - e) * L + (5 + f) * r - (2 + a + e) * s := by
    clear e1 e2 e3 oA oB oC
    rcases ha' with rfl | rfl | rfl <;> rcases he' with rfl | rfl <;> rcases hf' with rfl | rfl | rfl <;> omega
  have g3 : 0 < ((2 + a) * (1 + c) + (3 + b)) * L + (5 + a + b) * s + c * r := by
    clear e1 e2 e3 oA oB oC
    rcases ha' with rfl | rfl | rfl <;> rcases hb' with rfl | rfl | rfl <;> rcases hc' with rfl | rfl <;> omega
  have k1 := Int.mul_pos hp g1
  have k2 := Int.mul_pos hp g2
  have k3 := Int.mul_pos hp g3
  rw [← e1] at k1
  rw [← e2] at k2
  rw [← e3] at k3
  exact hull_tri (by omega) (by omega) (by omega) (by omega)
end K84
namespace K84
open L2 PySem PySem.Spec PyProof.Rows
local macro_rules | `(tactic| walk_at "cm") => `(tactic| first | assumption | exact Or.inl ⟨by omega, by omega⟩ | exact Or.inr ⟨by omega, by omega⟩)
local macro_rules | `(tactic| walk_at "ev") => `(tactic| first
  | assumption | exact evI_c | exact evI_var rfl | exact evV_var rfl | exact evC_var rfl (by assumption)
  | (refine evI_add ?_ ?_ <;> walk_at "ev") | (refine evI_sub ?_ ?_ <;> walk_at "ev")
  | (refine evI_mul ?_ ?_ ?_; (· walk_at "ev"); (· walk_at "ev"); (· walk_at "cm"))
  | (refine evI_fst ?_; walk_at "ev") | (refine evI_snd ?_; walk_at "ev") | (refine evI_neg ?_; walk_at "ev")
  | (refine evC_tup ?_ ?_ <;> walk_at "ev") | (refine evP_tup ?_ ?_ <;> walk_at "ev")
  | (refine evB_eq ?_ ?_ <;> walk_at "ev") | (refine evB_ne ?_ ?_ <;> walk_at "ev")
  | (refine evB_lt ?_ ?_ <;> walk_at "ev") | (refine evB_le ?_ ?_ <;> walk_at "ev") | (refine evB_gt ?_ ?_ <;> walk_at "ev") | (refine evB_ge ?_ ?_ <;> walk_at "ev")
  | (refine evT_test ?_; walk_at "ev") | (refine evT_B ?_; walk_at "ev") | (refine evT_not ?_; walk_at "ev") | exact evT_yes)
theorem q_forTN {K : PySem.W.Frag} {σ : L2.St} {H : Hp} {tl : TE} {g : TG} {t u : TS} {D : Ends} {R : Hp → V → Prop} (h : Ev tl σ H R) (k : ∀ v H1, Same H H1 → R H1 v → tSeq (tFor (iTup K (tC v)) g t) u D σ H1) : tSeq (tFor (iTup K tl) g t) u D σ H :=
  h H (Same.refl H) _ fun v H1 e hv => k v H1 e hv
def sp__law_fraction : Sp := fun vs H Q _ => ∃ u l : Int, vs = [.int u, .int l] ∧ 0 < l ∧ l < 1073741824 ∧ RetC H Q (fr u l)
theorem pure__law_fraction {K : PySem.W.Frag} (vs : List V) (H : Hp) (Q : VK) (E : XK) (h : sp__law_fraction vs H Q E) : t__law_fraction K { nx := fun _ H' => Q .non H', rt := Q } (start N__law_fraction vs) H := by
  obtain ⟨u, l, rfl, h0, h1, q⟩ := h
  obtain ⟨g1, g2⟩ := gcd_pos_of (u := u) h0
  show t__law_fraction K _ [some (.int u), some (.int l), none, none] H
  refine q_parI (n := l) (ev_abs (evI_var rfl)) (evI_var rfl) fun H1 e1 => ?_
  have hu : (if u < 0 then -u else u) = (u.natAbs : Int) := by split <;> omega
  rw [hu]
  refine q_while (fun m σ' H' => ∃ x y : Nat, σ' = [some (.int u), some (.int l), some (.int x), some (.int y)] ∧ Same H H' ∧ Nat.gcd x y = Int.gcd u l ∧ m = y) l.toNat ⟨u.natAbs, l.toNat, ?_, e1, ?_, rfl⟩ ?_
  · show [_, _, _, _] = _
    rw [Int.toNat_of_nonneg (by omega)]
  · show Nat.gcd _ _ = Nat.gcd u.natAbs l.natAbs
    congr 1; omega
  rintro m σ' H' ⟨x, y, rfl, e, hg, rfl⟩
  refine ⟨_, (by walk_at "ev" : EvT _ _ _ (decide (0 < (m : Int)))), fun hb H2 e2 => ?_, fun hb H2 e2 => ?_⟩
  · have hy : 0 < (m : Int) := of_decide_eq_true hb
    refine ⟨fun σ2 H2 => ∃ x' y' : Nat, σ2 = [some (.int u), some (.int l), some (.int x'), some (.int y')] ∧ Same H H2 ∧ Nat.gcd x' y' = Int.gcd u l ∧ y' < m, ?_, ?_⟩
    · rintro σ2 H2 ⟨x', y', rfl, e2, hg', hl⟩
      exact ⟨_, hl, x', y', rfl, e2, hg', rfl⟩
    · refine s_parI (evI_var rfl) (evI_mod (evI_var rfl) (evI_var rfl) hy) fun H3 e3 => ?_
      refine ⟨m, x % m, by show [_, _, _, _] = _; rw [Int.natCast_emod], (e.trans e2).trans e3, ?_, Nat.mod_lt _ (by omega)⟩
      rw [← hg, Nat.gcd_comm x m, Nat.gcd_rec m x, Nat.gcd_comm]
  · have hy : m = 0 := by have := of_decide_eq_false hb; omega
    subst hy
    rw [Nat.gcd_zero_right] at hg
    rw [hg]
    refine s_ret (evC_tup (evI_div (evI_var rfl) (evI_var rfl) ⟨by omega, by omega⟩) (evI_div (evI_var rfl) (evI_var rfl) ⟨by omega, by omega⟩)) fun v H3 e3 hv => ?_
    rw [Int.fdiv_eq_ediv_of_nonneg _ (by omega), Int.fdiv_eq_ediv_of_nonneg _ (by omega)] at hv
    exact q v H3 ((e.trans e2).trans e3) hv
def sp__law_lowest : Sp := fun vs H Q _ => ∃ X Y N : Int, vs = [.int X, .int Y, .int N] ∧ 0 < N ∧ N < 1073741824 ∧ ∀ v H' g x y l, Same H H' → 0 < g → X = g * x → Y = g * y → N = g * l → T3 H' v (x, y, l) → Q v H'
theorem pure__law_lowest {K : PySem.W.Frag} (vs : List V) (H : Hp) (Q : VK) (E : XK) (h : sp__law_lowest vs H Q E) : t__law_lowest K { nx := fun _ H' => Q .non H', rt := Q } (start N__law_lowest vs) H := by
  obtain ⟨X, Y, N, rfl, n0, n1, q⟩ := h
  show t__law_lowest K _ [some (.int X), some (.int Y), some (.int N), none, none] H
  refine q_setI (evI_var rfl) fun H1 e1 => ?_
  refine q_forTN (R := fun H v => ∃ t, v = .ref t ∧ H t = some (.tup [.int X, .int Y])) (evC_tup (i := X) (j := Y) (evI_var rfl) (evI_var rfl)) fun v H2 e2 hv => ?_
  obtain ⟨t, rfl, ht⟩ := hv
  have e12 := e1.trans e2
  let G : Nat → Nat := fun i => if i = 0 then N.natAbs else if i = 1 then Nat.gcd N.natAbs X.natAbs else Nat.gcd (Nat.gcd N.natAbs X.natAbs) Y.natAbs
  refine q_forT (xs := [.int X, .int Y]) evV_c ht (fun i σ' H' => (∃ (o : Int) (y4 : Option V), σ' = [some (.int X), some (.int Y), some (.int N), some (.int o), y4] ∧ o.natAbs = G i) ∧ Same H2 H') (fun H3 e3 => ⟨⟨N, _, rfl, rfl⟩, e3⟩) (fun i σ' H' _ h => h.2 _ _ ht) ?_ ?_
  · rintro i x σ' H3 hx ⟨⟨o, y4, rfl, ho⟩, e3⟩
    obtain ⟨z, rfl, hz⟩ : ∃ z : Int, x = .int z ∧ Nat.gcd (G i) z.natAbs = G (i + 1) := by
      have hi : i < 2 := (List.getElem?_eq_some_iff.mp hx).1
      have hi2 : i = 0 ∨ i = 1 := by omega
      rcases hi2 with rfl | rfl
      · cases hx; exact ⟨X, rfl, rfl⟩
      · cases hx; exact ⟨Y, rfl, rfl⟩
    refine s_while (fun m σ' H' => ∃ a b : Int, σ' = [some (.int X), some (.int Y), some (.int N), some (.int a), some (.int b)] ∧ Same H2 H' ∧ Int.gcd a b = G (i + 1) ∧ m = b.natAbs) z.natAbs ⟨o, z, rfl, e3, ?_, rfl⟩ ?_
    · show Nat.gcd o.natAbs z.natAbs = _
      rw [ho]; exact hz
    · rintro m σ' H' ⟨a, b, rfl, e, hg, rfl⟩
      refine ⟨_, (by walk_at "ev" : EvT _ _ _ (!decide (b = 0))), fun hb H5 e5 => ?_, fun hb H5 e5 => ?_⟩
      · have hy : b ≠ 0 := by simpa using hb
        refine ⟨fun σ2 H2' => ∃ x' y' : Int, σ2 = [some (.int X), some (.int Y), some (.int N), some (.int x'), some (.int y')] ∧ Same H2 H2' ∧ Int.gcd x' y' = G (i + 1) ∧ y'.natAbs < b.natAbs, ?_, ?_⟩
        · rintro σ2 H2' ⟨x', y', rfl, e2', hg', hl⟩
          exact ⟨_, hl, x', y', rfl, e2', hg', rfl⟩
        · refine s_parI (evI_var rfl) (evI_modN (evI_var rfl) (evI_var rfl) hy) fun H6 e6 => ?_
          exact ⟨b, a.fmod b, rfl, (e.trans e5).trans e6, (gcd_fmod a b).trans hg, natAbs_fmod a b hy⟩
      · have hy : b = 0 := by simpa using hb
        subst hy
        rw [Int.gcd_zero_right] at hg
        exact ⟨⟨a, _, rfl, hg⟩, e.trans e5⟩
  · rintro σ' H3 ⟨⟨o, y4, rfl, ho⟩, e3⟩
    have hG : G ([V.int X, V.int Y] : List V).length = Nat.gcd (Nat.gcd N.natAbs X.natAbs) Y.natAbs := rfl
    rw [hG] at ho
    generalize hg : Nat.gcd (Nat.gcd N.natAbs X.natAbs) Y.natAbs = g at ho
    have d1 : (g : Int) ∣ N := by
      rw [← hg]; exact Int.ofNat_dvd_left.mpr (Nat.dvd_trans (Nat.gcd_dvd_left _ _) (Nat.gcd_dvd_left _ _))
    have d2 : (g : Int) ∣ X := by
      rw [← hg]; exact Int.ofNat_dvd_left.mpr (Nat.dvd_trans (Nat.gcd_dvd_left _ _) (Nat.gcd_dvd_right _ _))
    have d3 : (g : Int) ∣ Y := by
      rw [← hg]; exact Int.ofNat_dvd_left.mpr (Nat.gcd_dvd_right _ _)
    have g0 : 0 < g := by
      rw [← hg]; exact Nat.gcd_pos_of_pos_left _ (Nat.gcd_pos_of_pos_left _ (by omega))
    have gl : (g : Int) ≤ N := Int.le_of_dvd n0 d1
    show (tSeq _ _) _ [some (.int X), some (.int Y), some (.int N), some (.int o), y4] H3
    have fin : ∀ (D : Ends) H4, Same H3 H4 → D.rt = Q → tRet (tTup (tCons (tOp rDivI (tVar 0) (tVar 3)) (tCons (tOp rDivI (tVar 1) (tVar 3)) (tCons (tOp rDivI (tVar 2) (tVar 3)) tNil)))) D [some (.int X), some (.int Y), some (.int N), some (.int g), y4] H4 := fun D H4 e4 hD => by
      have g1 : CDivN X g := ⟨by omega, by omega⟩
      have g2 : CDivN Y g := ⟨by omega, by omega⟩
      have g3 : CDivN N g := ⟨by omega, by omega⟩
      refine s_ret (R := fun H v => T3 H v (X / g, Y / g, N / g)) (ev_tup (evA_3 (evI_div (evI_var rfl) (evI_var rfl) g1) mono_eq (evI_div (evI_var rfl) (evI_var rfl) g2) mono_eq (evI_div (evI_var rfl) (evI_var rfl) g3)) (fun _ vs h => by obtain ⟨_, _, _, rfl, _⟩ := h; show 3 ≤ 1000; decide) fun H' vs p h hp _ => ?_) fun v H5 e5 hv => ?_
      · obtain ⟨_, _, _, rfl, rfl, rfl, rfl⟩ := h
        rw [Int.fdiv_eq_ediv_of_nonneg _ (by omega), Int.fdiv_eq_ediv_of_nonneg _ (by omega), Int.fdiv_eq_ediv_of_nonneg _ (by omega)]
        exact ⟨p, rfl, upd_same⟩
      · rw [hD]
        exact q v H5 g _ _ _ ((e12.trans e3).trans (e4.trans e5)) (by omega) (Int.mul_ediv_cancel' d2).symm (Int.mul_ediv_cancel' d3).symm (Int.mul_ediv_cancel' d1).symm hv
    refine q_when (evT_test (evB_lt (evI_mul (evI_var rfl) (evI_var rfl) (cm_r (by omega))) evI_c)) (fun hb H4 e4 => ?_) fun hb H4 e4 => ?_
    · rw [decide_eq_true_eq] at hb
      have ho0 : o < 0 := Classical.byContradiction fun h => by
        have := Int.mul_nonneg (show 0 ≤ o by omega) (show 0 ≤ N by omega)
        omega
      refine s_setI (evI_sub evI_c (evI_var rfl)) fun H5 e5 => ?_
      have : 0 - o = (g : Int) := by omega
      rw [this]
      exact fin _ H5 (e4.trans e5) rfl
    · rw [decide_eq_false_iff_not] at hb
      have ho0 : 0 ≤ o := Classical.byContradiction fun h => by
        have := Int.mul_neg_of_neg_of_pos (show o < 0 by omega) n0
        omega
      have : o = (g : Int) := by omega
      rw [this]
      exact fin _ H4 e4 rfl
end K84
namespace K84
open L2 PySem PySem.Spec PyProof.Rows
local macro_rules | `(tactic| walk_at "cm") => `(tactic| first | assumption | exact Or.inl ⟨by omega, by omega⟩ | exact Or.inr ⟨by omega, by omega⟩)
local macro_rules | `(tactic| walk_at "ev") => `(tactic| first
  | assumption | exact evI_c | exact evI_var rfl | exact evV_var rfl | exact evC_var rfl (by assumption)
  | (refine evI_add ?_ ?_ <;> walk_at "ev") | (refine evI_sub ?_ ?_ <;> walk_at "ev")
  | (refine evI_mul ?_ ?_ ?_; (· walk_at "ev"); (· walk_at "ev"); (· walk_at "cm"))
  | (refine evI_fst ?_; walk_at "ev") | (refine evI_snd ?_; walk_at "ev") | (refine evI_neg ?_; walk_at "ev")
  | (refine evC_tup ?_ ?_ <;> walk_at "ev") | (refine evP_tup ?_ ?_ <;> walk_at "ev")
  | (refine evB_eq ?_ ?_ <;> walk_at "ev") | (refine evB_ne ?_ ?_ <;> walk_at "ev")
  | (refine evB_lt ?_ ?_ <;> walk_at "ev") | (refine evB_le ?_ ?_ <;> walk_at "ev") | (refine evB_gt ?_ ?_ <;> walk_at "ev") | (refine evB_ge ?_ ?_ <;> walk_at "ev")
  | (refine evT_test ?_; walk_at "ev") | (refine evT_B ?_; walk_at "ev") | (refine evT_not ?_; walk_at "ev") | exact evT_yes)
section
variable {K : PySem.W.Frag} {d l : Addr} {te ta tb tc tl : TE} {σ : L2.St} {H H0 : Hp} {R R' Ra Rb : Hp → V → Prop} {P P' : Int → Prop} {u t t' : TS} {D : Ends} {α : Type} {Rx : Hp → V → α → Prop} {ds : List α} {r : RC}
theorem evD_cb (h : EvD d l tl σ H R') (k : ∀ v H1, But d l H H1 → R' H1 v → Ev (tCB r (tCons (tC v) tNil)) σ H1 R) : EvD d l (tCB r (tCons tl tNil)) σ H R := fun H1 e Q q =>
  h H1 e _ fun v H2 e2 hv => k v H2 (e.trans e2) hv H2 (Same.refl H2) Q fun u H3 e3 hu => q u H3 (e2.trans (But.of e2.deal e3)) hu
theorem evD_cells {k : Nat} (hk : σ[k]? = some (some (.ref d))) (h : EvDI d l te σ H P) (hP : ∀ n, P n → 1 ≤ n ∧ n ≤ 8) : EvD d l (tCall sp__law_cells [] E0 (tCons (tVar k) (tCons te tNil))) σ H
    (fun H v => ∃ cs : List C2, P (cs.length : Int) ∧ cs.Nodup ∧ (∀ c ∈ cs, -900 ≤ c.1 ∧ c.1 ≤ 900 ∧ -900 ≤ c.2 ∧ c.2 ≤ 900) ∧ LD d l Cell cs H v) := fun H1 e Q q =>
  ⟨_, hk, h H1 e _ fun v H2 e2 ⟨n, hv, hn⟩ => by
    subst hv
    obtain ⟨n0, n1⟩ := hP n hn
    obtain ⟨m, rfl⟩ := Int.eq_ofNat_of_zero_le (show 0 ≤ n by omega)
    exact ⟨d, l, m, rfl, e2.deal, by omega, by omega, fun v H' cs e3 h1 h2 h3 h4 => q v H' (e2.trans e3) ⟨cs, by rw [h2]; exact hn, h3, h4, h1⟩⟩⟩
/-- a comprehension whose turns draw -/
theorem evD_lc {β : Type} {Ry : Hp → V → β → Prop} {Pb : β → Prop} {J : It} {n : Nat} {G : Hp → Prop} {Y : Nat → Hp → V → Hp → Prop} {wi : TI} {g : TG} {vs : List Nat} (hwi : ∀ H1, But d l H H1 → ∀ R : It → Hp → Prop, (∀ H2, But d l H1 H2 → R J H2) → wi σ H1 R) (w : Walk J n G Y) (hG : ∀ H', But d l H H' → G H') (tmy : TMono Ry) (hz : n < 16000000)
    (gm : ∀ x σ0 H0 Q Q', (∀ σ2 H2, Q σ2 H2 → Q' σ2 H2) → g x σ0 H0 Q → g x σ0 H0 Q')
    (hs : ∀ i x H2 H3, i < n → But d l H H2 → Y i H2 x H3 → But d l H2 H3 ∧ g x (wipe σ vs) H3 fun σ2 H4 => wipe σ2 vs = wipe σ vs ∧ But d l H3 H4 ∧ EvD d l te σ2 H4 (fun H v => ∃ b, Ry H v b ∧ Pb b)) :
    EvD d l (tLc wi g tYes te vs) σ H (fun H' v => ∃ bs, bs.length = n ∧ (∀ b ∈ bs, Pb b) ∧ NewL H Ry bs H' v) := fun H1 e1 Q q => by
  refine hwi H1 e1 _ fun H2 e2 D hD => ?_
  refine lc_it w (fun i H' => But d l H2 H' ∧ ∃ ys bs, H' D = some (.lst ys) ∧ bs.length = i ∧ (∀ b ∈ bs, Pb b) ∧ Paired (Ry H') ys bs) ⟨(But.refl e2.deal).mut hD, [], [], upd_same, rfl, (fun _ h => nomatch h), .nil⟩ (fun i H' _ h => hG H' ((e1.trans e2).trans h.1)) ?_ ?_
  · rintro i x H3 H4 hi ⟨e3, ys, bs, h1, h2, h3, h4⟩ hY
    obtain ⟨e4, hg⟩ := hs i x H3 H4 hi ((e1.trans e2).trans e3) hY
    refine gm _ _ _ _ _ ?_ hg
    rintro σ2 H5 ⟨hw, e5, he⟩
    refine ⟨hw, ?_⟩
    show te σ2 H5 _
    refine he H5 (But.refl e5.deal) _ fun y H6 e6 hy => ?_
    obtain ⟨b, hb, pb⟩ := hy
    have e36 := e4.trans (e5.trans e6)
    have hD6 : H6 D = some (.lst ys) := e36.old _ _ (e2.deal.free_d hD) (e2.deal.free_l hD) h1
    have te6 : TExt H6 (upd H6 D (.lst (ys ++ [y]))) := text_lst hD6
    refine ⟨ys, hD6, by rw [h4.kLen, h2, sizeLine_eq]; omega, (e3.trans e36).mut hD, ys ++ [y], bs ++ [b], upd_same, by simp [h2], fun c hc => ?_, ?_⟩
    · rcases List.mem_append.mp hc with h | h
      · exact h3 c h
      · have : c = b := by simpa using h
        exact this ▸ pb
    · exact (h4.kImp fun _ _ r => tmy _ _ _ _ (e36.text.trans te6) r).kSnoc (tmy _ _ _ _ te6 hb)
  · rintro H3 ⟨e3, ys, bs, h1, h2, h3, h4⟩
    exact q _ H3 (e2.trans e3) ⟨bs, h2, h3, D, ys, rfl, (e1.trans e2).free hD, h1, h4⟩
theorem sD_app {k : Nat} {p : Addr} {xs : List V} (hD : Deal d l H) (hp : p ≠ d) (hl : p ≠ l) (hx : H p = some (.lst xs)) (ha : σ[k]? = some (some (.ref p))) (h : EvD d l te σ H R) (hz : xs.length < 16000000) (q : ∀ v H1, But d l H H1 → R H1 v → D.nx σ (upd H1 p (.lst (xs ++ [v])))) :
    tDrop (tBM K "list" rAppend (tVar k) (tCons te tNil)) D σ H :=
  ⟨_, ha, .inl ⟨rfl, xs, SqL.of hx⟩, h H (But.refl hD) _ fun v H1 e r => ⟨p, xs, v, rfl, rfl, e.old _ _ hp hl hx, by rw [sizeLine_eq]; omega, q v H1 e r⟩⟩
/-- displays of cells -/
theorem evD_lst3 {pa pb pc : C2 → Prop} (ha : EvD d l ta σ H (fun H v => ∃ c, Cell H v c ∧ pa c)) (hb : EvD d l tb σ H (fun H v => ∃ c, Cell H v c ∧ pb c)) (hc : EvD d l tc σ H (fun H v => ∃ c, Cell H v c ∧ pc c)) :
    EvD d l (tLst (tCons ta (tCons tb (tCons tc tNil)))) σ H (fun H' v => ∃ a b c, pa a ∧ pb b ∧ pc c ∧ NewL H Cell [a, b, c] H' v) := fun H1 e Q q =>
  ha H1 e _ fun x H2 e2 ⟨a, hx, qa⟩ => hb H2 (e.trans e2) _ fun y H3 e3 ⟨b, hy, qb⟩ => hc H3 ((e.trans e2).trans e3) _ fun z H4 e4 ⟨c, hz, qc⟩ => ⟨by show 3 ≤ sizeLine; decide, fun p hp => by
    have e24 := e2.trans (e3.trans e4)
    exact q _ _ (e24.mut (e24.free hp)) ⟨a, b, c, qa, qb, qc, p, _, rfl, (e.trans e24).free hp, upd_same, .cons ((hx.text (e3.trans e4).text).text (text_new hp)) (.cons ((hy.text e4.text).text (text_new hp)) (.cons (hz.text (text_new hp)) .nil))⟩⟩
theorem evD_lst2 {pa pb : C2 → Prop} (ha : EvD d l ta σ H (fun H v => ∃ c, Cell H v c ∧ pa c)) (hb : EvD d l tb σ H (fun H v => ∃ c, Cell H v c ∧ pb c)) :
    EvD d l (tLst (tCons ta (tCons tb tNil))) σ H (fun H' v => ∃ a b, pa a ∧ pb b ∧ NewL H Cell [a, b] H' v) := fun H1 e Q q =>
  ha H1 e _ fun x H2 e2 ⟨a, hx, qa⟩ => hb H2 (e.trans e2) _ fun y H3 e3 ⟨b, hy, qb⟩ => ⟨by show 2 ≤ sizeLine; decide, fun p hp => by
    have e24 := e2.trans e3
    exact q _ _ (e24.mut (e24.free hp)) ⟨a, b, qa, qb, p, _, rfl, (e.trans e24).free hp, upd_same, .cons ((hx.text e3.text).text (text_new hp)) (.cons (hy.text (text_new hp)) .nil)⟩⟩
theorem evDC_pure {c : C2} {p : C2 → Prop} (h : ∀ H1, But d l H H1 → EvC te σ H1 c) (hp : p c) : EvD d l te σ H (fun H v => ∃ c, Cell H v c ∧ p c) := (evD_pure h).imp fun _ _ _ r => ⟨c, r, hp⟩
/-- tuple(sorted(cells)) -/
theorem ev_tupSorted {cs : List C2} (h : Ev tl σ H (fun H v => LCells H v cs)) : Ev (tCB (rTupleOf K) (tCons (tCB (rSortedPO K) (tCons tl tNil)) tNil)) σ H (fun H v => ∃ S, S.Perm cs ∧ Row H v S) :=
  ev_cb1 (ev_sortedL h) fun v H1 e hv Q q => by
    obtain ⟨S, h1, _, p, ys, rfl, _, h2, h3⟩ := hv
    exact ⟨p, ys, rfl, .inl ⟨SqL.of h2, fun r hr => q _ _ (same_new hr) ⟨S, h1, r, ys, rfl, upd_same, h3.kImp fun _ _ r => r.text (text_new hr)⟩⟩⟩
theorem ev_sumL {b : List Int} (h : Ev tl σ H (fun H v => Lst H (fun v n => IsI v n) v b)) : EvI (tCB (rSum K) (tCons tl tNil)) σ H b.sum := fun H1 e Q q =>
  h H1 e _ fun v H2 e2 hv => by
    obtain ⟨p, ys, rfl, h3, h4⟩ := hv
    exact ⟨p, b, rfl, SqL.of (by rw [h3, ints_of h4]), q _ H2 e2 rfl⟩
end
theorem ev_varC {σ : L2.St} {H : Hp} {v : V} {cs : List C2} (h : LCells H v cs) : Ev (tC v) σ H (fun H v => LCells H v cs) := fun H1 e Q q => q v H1 (Same.refl _) (LCells.same e h)
theorem sum_nonneg : ∀ {os : List Int}, (∀ o ∈ os, 0 ≤ o) → 0 ≤ os.sum ∧ ∀ o ∈ os, o ≤ os.sum
  | [], _ => ⟨by simp, fun _ h => nomatch h⟩
  | o :: r, h => by
    obtain ⟨h1, h2⟩ := sum_nonneg (os := r) fun o ho => h o (List.mem_cons_of_mem _ ho)
    have h3 := h o List.mem_cons_self
    rw [List.sum_cons]
    refine ⟨by omega, fun x hx => ?_⟩
    rcases List.mem_cons.mp hx with rfl | hx
    · omega
    · have := h2 x hx; omega
theorem sum_len : ∀ {os : List Int}, (∀ o ∈ os, o ≤ 3) → os.sum ≤ 3 * os.length
  | [], _ => by simp
  | o :: r, h => by
    have h1 := sum_len (os := r) fun o ho => h o (List.mem_cons_of_mem _ ho)
    have h3 := h o List.mem_cons_self
    rw [List.sum_cons, List.length_cons]; omega
theorem comb_bound : ∀ {qs : List (Int × C2)}, (∀ q ∈ qs, 0 ≤ q.1 ∧ -900 ≤ q.2.1 ∧ q.2.1 ≤ 900 ∧ -900 ≤ q.2.2 ∧ q.2.2 ≤ 900) → -(900 * sN qs) ≤ sX qs ∧ sX qs ≤ 900 * sN qs ∧ -(900 * sN qs) ≤ sY qs ∧ sY qs ≤ 900 * sN qs
  | [], _ => by unfold sX sY sN; simp
  | q :: r, h => by
    have ih := comb_bound (qs := r) fun q hq => h q (List.mem_cons_of_mem _ hq)
    obtain ⟨h0, h1, h2, h3, h4⟩ := h q List.mem_cons_self
    have e1 : sX (q :: r) = q.1 * q.2.1 + sX r := List.sum_cons ..
    have e2 : sY (q :: r) = q.1 * q.2.2 + sY r := List.sum_cons ..
    have e3 : sN (q :: r) = q.1 + sN r := List.sum_cons ..
    have a1 := Int.mul_le_mul_of_nonneg_left h1 h0
    have a2 := Int.mul_le_mul_of_nonneg_left h2 h0
    have a3 := Int.mul_le_mul_of_nonneg_left h3 h0
    have a4 := Int.mul_le_mul_of_nonneg_left h4 h0
    rw [e1, e2, e3]; omega
theorem div_bound {X N : Int} (hN : 0 < N) (h1 : -(900 * N) ≤ X) (h2 : X ≤ 900 * N) : -900 ≤ X / N ∧ X / N ≤ 900 :=
  ⟨(Int.le_ediv_iff_mul_le hN).mpr (by omega), Int.ediv_le_of_le_mul hN (by omega)⟩
/-- the rule P is the healing one of rows about p -/
structure AboutR (P : List (List C2)) (p : Int × Int × Int) : Prop where
  ex : ∃ P0, Heal P0 P ∧ (∀ S ∈ P0, HullD S p) ∧ (∀ S ∈ P0, ∀ z ∈ S, -1000 ≤ z.1 ∧ z.1 ≤ 1000 ∧ -1000 ≤ z.2 ∧ z.2 ≤ 1000) ∧ ∃ S0 ∈ P0, S0.length ≤ 3
  l0 : 1 ≤ p.2.2
  l1 : p.2.2 ≤ 9
  x : -(900 * p.2.2) ≤ p.1 ∧ p.1 ≤ 900 * p.2.2
  y : -(900 * p.2.2) ≤ p.2.1 ∧ p.2.1 ≤ 900 * p.2.2
def sp__law_about : Sp := fun vs H Q _ => ∃ (d l : Addr), vs = [.ref d] ∧ Deal d l H ∧ ∀ (a : Addr) (u w : V) H' P p, But d l H H' → H' a = some (.tup [u, w]) → T3 H' u p → Plain H' w P → AboutR P p → Q (.ref a) H'
theorem pure__law_about {K : PySem.W.Frag} (vs : List V) (H : Hp) (Q : VK) (E : XK) (h : sp__law_about vs H Q E) : t__law_about K sp__law_draw sp__law_cells sp__law_least sp__law_healing sp__law_lowest { nx := fun _ H' => Q .non H', rt := Q } (start N__law_about vs) H := by
  obtain ⟨d, l, rfl, hD, q⟩ := h
  show t__law_about K _ _ _ _ _ _ [some (.ref d), none, none, none, none, none, none, none, none, none, none, none, none] H
  -- the cells
  refine qD_set hD (evD_cells (P := fun n => 1 ≤ n ∧ n ≤ 3) rfl (evD_I0 (P := fun n => n = 1) (evDI_pure (fun H1 e => evI_c) rfl) (evD_draw rfl (fun H1 e => evI_c) (by decide) (by decide)) (fun i j h1 h2 => by omega)) (fun n h => by omega)) fun v1 H1 e1 hv1 => ?_
  obtain ⟨cs, ⟨k0, k1⟩, csn, csb, ac, xc, rfl, acd, acl, hac, hxc⟩ := hv1
  have hk := hxc.kLen
  -- how often
  refine qD_set e1.deal (R := fun H' v => ∃ os, os.length = xc.length ∧ (∀ o ∈ os, 0 ≤ o ∧ o < 4) ∧ NewL H1 (fun _ => IsI) os H' v) (evD_lc (J := Itl K ac) (n := xc.length) (G := fun H => SqL K H ac xc) (fun H' e R q => ⟨_, rfl, ac, rfl, ⟨xc, SqL.of (e.old _ _ acd acl hac)⟩, q H' (But.refl e.deal)⟩) walk_list (fun H' e => SqL.of (e.old _ _ acd acl hac)) tm_int (by omega) gName_mono ?_) fun v3 H2 e2 hv3 => ?_
  · rintro i x H2 H3 hi e2 ⟨rfl, hx⟩
    refine ⟨But.refl e2.deal, rfl, But.refl e2.deal, (evD_draw rfl (fun H1 e => evI_c) (by decide) (by decide)).imp fun H' v _ h => ?_⟩
    obtain ⟨n, h1, h2⟩ := h
    exact ⟨n, h1, h2⟩
  obtain ⟨os, ol, ob, ao, xo, rfl, ao0, hao, hxo⟩ := hv3
  have aod := e1.deal.free_d ao0
  have aol := e1.deal.free_l ao0
  have hoi := ints_of hxo
  subst hoi
  -- often[0]
  have os0 : 0 < os.length := by omega
  obtain ⟨o0, ho0⟩ : ∃ o, os[0]? = some o := ⟨os[0], List.getElem?_eq_getElem os0⟩
  have hac2 := e2.old _ _ acd acl hac
  let σ2 : L2.St := [some (.ref d), some (.ref ac), none, some (.ref ao), none, none, none, none, none, none, none, none, none]
  have hlo : ∀ {σ : L2.St} {H : Hp} {os : List Int}, σ[3]? = some (some (.ref ao)) → H ao = some (.lst (os.map V.int)) → Ev (tVar 3) σ H (fun H v => Lst H (fun v n => IsI v n) v os) := fun h1 h2 => ev_varL (Rx := fun _ => IsI) h1 tm_int h2 (ints_paired _)
  have eo : EvI (tOp rAddI (tOp (rIxL K) (tVar 3) (tC (.int 0))) (tCB rInt1 (tCons (tOp rEq (tCB (rSum K) (tCons (tVar 3) tNil)) (tC (.int 0))) tNil))) σ2 H2 (o0 + if decide (os.sum = 0) = true then 1 else 0) :=
    evI_add (ev_ixLD (Rx := fun _ => IsI) (k := 0) tm_int (evV_var rfl) hao (ints_paired os) (ixN_nat os0) ho0 evI_c) (ev_intB (evB_eq (ev_sumL (hlo rfl hao)) evI_c))
  refine eo H2 (Same.refl _) _ fun v H3 e3 hv => ?_
  subst hv
  refine ⟨_, rfl, ao, os.map V.int, 0, 0, rfl, rfl, e3 _ _ hao, by rw [List.length_map]; exact ixN_nat os0, ?_⟩
  generalize hon : o0 + (if decide (os.sum = 0) = true then 1 else 0) = on
  have hset : (os.map V.int).set 0 (.int on) = (os.set 0 on).map V.int := by rw [List.map_set]
  rw [hset]
  obtain ⟨sn0, sn1⟩ := sum_nonneg fun o ho => (ob o ho).1
  have o0b := ob o0 (List.mem_of_getElem? ho0)
  have o0s := sn1 o0 (List.mem_of_getElem? ho0)
  obtain ⟨or, hor⟩ : ∃ r, os = o0 :: r := by
    cases os with
    | nil => cases ho0
    | cons a r => cases ho0; exact ⟨r, rfl⟩
  generalize hos' : os.set 0 on = os'
  have osl : os'.length = cs.length := by rw [← hos', List.length_set, ol, hk]
  have osb : ∀ o ∈ os', 0 ≤ o ∧ o ≤ 3 := fun o ho => by
    rw [← hos', hor, List.set_cons_zero] at ho
    rcases List.mem_cons.mp ho with rfl | ho
    · rw [← hon]
      by_cases hs : os.sum = 0
      · rw [if_pos (decide_eq_true hs)]; omega
      · rw [if_neg (by simpa using hs)]; omega
    · have := ob o (by rw [hor]; exact List.mem_cons_of_mem _ ho); omega
  have oss : 0 < os'.sum := by
    rw [← hos', hor, List.set_cons_zero, List.sum_cons]
    rw [hor, List.sum_cons] at sn0 hon
    have hr := (sum_nonneg (os := or) fun o ho => (ob o (by rw [hor]; exact List.mem_cons_of_mem _ ho)).1).1
    rw [← hon]
    by_cases hs : o0 + or.sum = 0
    · rw [if_pos (decide_eq_true hs)]; omega
    · rw [if_neg (by simpa using hs)]; omega
  have osm : os'.sum ≤ 9 := by
    have := sum_len fun o ho => (osb o ho).2
    omega
  have e13 : But d l H1 (upd H3 ao (.lst (os'.map V.int))) := (e2.trans (But.of e2.deal e3)).mut ao0
  have hao4 : (upd H3 ao (.lst (os'.map V.int))) ao = some (.lst (os'.map V.int)) := upd_same
  generalize upd H3 ao (.lst (os'.map V.int)) = H4 at e13 hao4
  clear eo hao hlo e3 e2 hon hos' hor ob o0b o0s sn0 sn1 ho0 os0 hset hac2
  have hac4 := e13.old _ _ acd acl hac
  have hxc4 := hxc.kImp fun x y (r : Cell H1 x y) => r.text e13.text
  show (tSeq _ _) _ [some (.ref d), some (.ref ac), none, some (.ref ao), none, none, none, none, none, none, none, none, none] H4
  refine q_setI (ev_sumL (b := os') (ev_varL (Rx := fun _ => IsI) rfl tm_int hao4 (ints_paired _))) fun H5 e5 => ?_
  generalize hN : os'.sum = N at oss osm
  -- the point
  let qs : List (Int × C2) := os'.zip cs
  have ql : qs.length = cs.length := by rw [List.length_zip, osl]; omega
  have qN : sN qs = N := by
    show ((os'.zip cs).map Prod.fst).sum = N
    rw [List.map_fst_zip (by omega)]; exact hN
  have qm : ∀ q ∈ qs, 0 ≤ q.1 ∧ q.1 ≤ 3 ∧ q.2 ∈ cs := fun q hq => by
    obtain ⟨h1, h2⟩ := List.of_mem_zip (a := q.1) (b := q.2) hq
    exact ⟨(osb _ h1).1, (osb _ h1).2, h2⟩
  have sumE : ∀ (σ : L2.St) (H' : Hp) (ix : TE) (f : C2 → Int), But d l H4 H' ∨ Same H4 H' → σ[3]? = some (some (.ref ao)) → σ[1]? = some (some (.ref ac)) → σ.length = 13 →
      (∀ σ H c, EvC (tVar 2) σ H c → EvI (tOp (rIxT K) (tVar 2) ix) σ H (f c)) → EvI (tCB (rSum K) (tCons (tLc (RZ.iZipA K (tCons (tVar 3) (tCons (tVar 1) tNil))) (gTup K 2 (gCons (gName 5) (gCons (gName 2) gNil))) tYes (tOp rMulI (tVar 5) (tOp (rIxT K) (tVar 2) ix)) [5, 2]) tNil)) σ H' ((qs.map fun q => q.1 * f q.2).sum) := fun σ H' ix f hB h3 h1 hl hf => by
    have go : ∀ {b : Addr} {o : HO}, b ≠ d → b ≠ l → H4 b = some o → H' b = some o := fun h1 h2 h => hB.elim (fun e => e.old _ _ h1 h2 h) (fun e => e _ _ h)
    have tx : TExt H4 H' := hB.elim But.text Same.text
    have ho' := go aod aol hao4
    have hc' := go acd acl hac4
    have hl : min (os'.map V.int).length xc.length = qs.length := by rw [List.length_map]; omega
    have lc := ev_lcW (σ := σ) (H := H') (ds := qs) (p := fun _ => true) (f := fun q => q.1 * f q.2) (Ry := fun _ => IsI) (tt := tYes) (te := tOp rMulI (tVar 5) (tOp (rIxT K) (tVar 2) ix)) (vs := [5, 2]) (J := Itz K ao ac) (wi := RZ.iZipA K (tCons (tVar 3) (tCons (tVar 1) tNil))) (g := gTup K 2 (gCons (gName 5) (gCons (gName 2) gNil)))
      (G := fun H => SqL K H ao (os'.map V.int) ∧ SqL K H ac xc) (Y := YPair (fun i => (os'.map V.int)[i]?) (fun i => xc[i]?))
      (fun H1 e R q => evA_2 (evV_var h3) mono_eq (evV_var h1) H1 e _ fun vs H2 e2 hv => by
        obtain ⟨_, _, rfl, rfl, rfl⟩ := hv
        exact ⟨ao, ac, _, _, rfl, .inl ⟨SqL.of ((e.trans e2) _ _ ho'), SqL.of ((e.trans e2) _ _ hc'), q H2 e2⟩⟩)
      (walk_zip hl.symm) (fun H1 e => ⟨SqL.of (e _ _ ho'), SqL.of (e _ _ hc')⟩) tm_int (by omega) gTup2_mono ?_
    · rw [filt_all] at lc
      exact ev_sumL (ev_new lc)
    · rintro i qd x H2 H3 hd e2 ⟨T, x1, x2, rfl, hT, rfl, g1, g2⟩
      obtain ⟨z1, z2⟩ := List.getElem?_zip_eq_some.mp hd
      obtain ⟨c, hc, r⟩ := hxc4.kGetL g2
      rw [z2] at hc; cases hc
      have g1 : (os'.map V.int)[i]? = some x1 := g1
      rw [List.getElem?_map, z1] at g1
      cases g1
      have e3 : Same H2 (upd H2 T (.tup [.int qd.1, x2])) := same_new hT
      refine ⟨e3, g_two rfl upd_same ?_⟩
      generalize upd H2 T (.tup [.int qd.1, x2]) = H3 at e3
      rw [wipe2_set σ (by decide : (5 : Nat) ≠ 2)]
      have hq := qm qd (List.mem_of_getElem? hd)
      refine ⟨wipe2_again σ (by decide) _ _, Same.refl _, evT_yes, fun _ => evI_mul (evI_var ?_) (hf _ _ _ (evC_var ?_ (r.text (tx.trans (e2.trans e3).text)))) (cm_l (by omega))⟩
      · rw [List.getElem?_set_ne (by decide), List.getElem?_set_self (by rw [‹σ.length = 13›]; decide)]
      · rw [List.getElem?_set_self (by rw [List.length_set, ‹σ.length = 13›]; decide)]
  refine q_setI (sumE _ H5 (tC (.int 0)) (·.1) (.inr e5) rfl rfl rfl fun σ H c h => evI_fst h) fun H6 e6 => ?_
  have qX : (qs.map fun q => q.1 * (fun c : C2 => c.1) q.2).sum = sX qs := rfl
  rw [qX]
  refine q_setI (sumE _ H6 (tC (.int 1)) (·.2) (.inr (e5.trans e6)) rfl rfl rfl fun σ H c h => evI_snd h) fun H7 e7 => ?_
  have qY : (qs.map fun q => q.1 * (fun c : C2 => c.2) q.2).sum = sY qs := rfl
  rw [qY]
  have qb := comb_bound (qs := qs) fun q hq => ⟨(qm q hq).1, csb q.2 (qm q hq).2.2⟩
  rw [qN] at qb
  have e47 := e5.trans (e6.trans e7)
  generalize hX : sX qs = X at qb
  generalize hY : sY qs = Y at qb
  show (tSeq _ _) _ [some (.ref d), some (.ref ac), none, some (.ref ao), some (.int N), none, some (.int X), some (.int Y), none, none, none, none, none] H7
  have e17 : But d l H1 H7 := e13.trans (But.of e13.deal e47)
  have D7 := e17.deal
  -- the rows
  refine q_set (R := fun H' v => ∃ (r : Addr) (x : V) (S : List C2), v = .ref r ∧ H7 r = none ∧ H' r = some (.lst [x]) ∧ Row H' x S ∧ S.Perm cs) (fun H8 e8 Q q => ?_) fun v8 H8 e8 hv8 => ?_
  · refine ev_tupSorted (K := K) (σ := [some (.ref d), some (.ref ac), none, some (.ref ao), some (.int N), none, some (.int X), some (.int Y), none, none, none, none, none]) (ev_varL (k := 1) rfl tm_cell (e47 _ _ hac4) (hxc4.kImp fun _ _ r => r.text e47.text)) H8 e8 _ fun v H9 e9 hv => ?_
    obtain ⟨S, hS, hr⟩ := hv
    exact ⟨by show 1 ≤ sizeLine; decide, fun p hp => q _ _ (e9.trans (same_new hp)) ⟨p, v, S, rfl, (e8.trans e9).free hp, upd_same, Row.text (text_new hp) hr, hS⟩⟩
  obtain ⟨r, x, S1, rfl, hr0, hr1, hrx, hS1⟩ := hv8
  have e18 := e17.trans (But.of D7 e8)
  have rd := D7.free_d hr0
  have rl := D7.free_l hr0
  have Lpos : 0 < N := oss
  -- how it ends
  obtain ⟨left, hlf⟩ : ∃ z, z = X / N := ⟨_, rfl⟩
  obtain ⟨low, hlw⟩ : ∃ z, z = Y / N := ⟨_, rfl⟩
  let okS : List C2 → Prop := fun S => S.Perm cs ∨ ∃ a b c e f : Int, (0 ≤ a ∧ a < 3) ∧ (0 ≤ b ∧ b < 3) ∧ (0 ≤ c ∧ c < 2) ∧ (0 ≤ e ∧ e < 2) ∧ (0 ≤ f ∧ f < 3) ∧ S.Perm [(left - 2 - a, low - 1), (left + 3 + b, low - 1 - c), (left + e, low + 4 + f)]
  have dX := div_bound Lpos qb.1 qb.2.1
  have dY := div_bound Lpos qb.2.2.1 qb.2.2.2
  rw [← hlf] at dX
  rw [← hlw] at dY
  have okN : ∀ S, okS S → S.Nodup ∧ S ≠ [] ∧ S.length ≤ 3 ∧ ∀ z ∈ S, -1000 ≤ z.1 ∧ z.1 ≤ 1000 ∧ -1000 ≤ z.2 ∧ z.2 ≤ 1000 := fun S hS => by
    rcases hS with hp | ⟨a, b, c, e, f, ha, hb, hc, he, hf, hp⟩
    · refine ⟨hp.nodup_iff.mpr csn, fun e => ?_, by rw [hp.length_eq]; omega, fun z hz => ?_⟩
      · rw [e] at hp
        have := hp.length_eq
        simp at this; omega
      · have := csb z (hp.mem_iff.mp hz); omega
    · refine ⟨hp.nodup_iff.mpr ?_, fun e => ?_, by rw [hp.length_eq]; show 3 ≤ 3; omega, fun z hz => ?_⟩
      · refine List.nodup_cons.mpr ⟨fun h => ?_, List.nodup_cons.mpr ⟨fun h => ?_, List.nodup_cons.mpr ⟨List.not_mem_nil, .nil⟩⟩⟩
        · rcases List.mem_cons.mp h with h | h
          · have := congrArg Prod.fst h; simp only at this; omega
          · have h := List.mem_singleton.mp h
            have := congrArg Prod.fst h; simp only at this; omega
        · have h := List.mem_singleton.mp h
          have := congrArg Prod.fst h; simp only at this; omega
      · rw [e] at hp
        have := hp.length_eq
        simp at this
      · have h := hp.mem_iff.mp hz
        rcases List.mem_cons.mp h with rfl | h
        · simp only; omega
        · rcases List.mem_cons.mp h with rfl | h
          · simp only; omega
          · rw [List.mem_singleton.mp h]; simp only; omega
  have fin : ∀ (D : Ends) (y2 y5 y9 y10 y11 y12 : Option V) (H' : Hp) (us : List V) (Rs : List (List C2)), D.rt = Q → But d l H1 H' → H' r = some (.lst us) → Paired (Row H') us Rs → (∀ S ∈ Rs, okS S) → Rs ≠ [] → Rs.length ≤ 2 →
      tRet (tTup (tCons (tCall sp__law_lowest [] E0 (tCons (tVar 6) (tCons (tVar 7) (tCons (tVar 4) tNil)))) (tCons (tCall sp__law_healing [] E0 (tCons (tCall sp__law_least [] E0 (tCons (tVar 8) tNil)) tNil)) tNil))) D
        [some (.ref d), some (.ref ac), y2, some (.ref ao), some (.int N), y5, some (.int X), some (.int Y), some (.ref r), y9, y10, y11, y12] H' := fun D y2 y5 y9 y10 y11 y12 H' us Rs hDq hB hr' hus hok hne hlen => by
    refine s_ret (R := fun H v => ∃ (a : Addr) (u w : V) (P : List (List C2)) (p : Int × Int × Int), v = .ref a ∧ H a = some (.tup [u, w]) ∧ T3 H u p ∧ Plain H w P ∧ AboutR P p)
      (ev_tup (evA_2 (Ra := fun H v => ∃ g x y L, 0 < g ∧ X = g * x ∧ Y = g * y ∧ N = g * L ∧ T3 H v (x, y, L)) (Rb := fun H v => ∃ P0 P, Plain H v P ∧ Least Rs P0 ∧ Heal P0 P) (ev_call (evA_3 (evI_var rfl) mono_eq (evI_var rfl) mono_eq (evI_var rfl)) fun H1 vs e hv Q q => ?_) (fun _ _ _ e ⟨g, x, y, L, h1, h2, h3, h4, h5⟩ => ⟨g, x, y, L, h1, h2, h3, h4, h5.text e.text⟩)
        (ev_call (R := fun H v => ∃ P0 P, Plain H v P ∧ Least Rs P0 ∧ Heal P0 P) (evA_1 (R := fun H v => ∃ P0, Plain H v P0 ∧ Least Rs P0) (ev_call (evA_1 (ev_varM (R := fun H v => Lst H (RowL H) v Rs) rfl (fun _ _ _ e h => Lst.same e (fun _ _ r => RowL.same e r) h) ⟨r, us, rfl, hr', hus.kImp fun _ _ r => Row.rl r⟩)) fun H1 vs e hv Q q => ?_)) fun H1 vs e hv Q q => ?_))
        (fun _ vs h => by obtain ⟨_, _, rfl, _⟩ := h; show 2 ≤ 1000; decide) fun H'' vs p h hp _ => ?_) fun v H'' e hv => ?_
    · obtain ⟨_, _, _, rfl, rfl, rfl, rfl⟩ := hv
      exact ⟨X, Y, N, rfl, Lpos, by omega, fun v H' g x y L e h1 h2 h3 h4 h5 => q v H' e ⟨g, x, y, L, h1, h2, h3, h4, h5⟩⟩
    · obtain ⟨v, rfl, hv⟩ := hv
      exact ⟨v, Rs, rfl, hv, by omega, fun S hS => ⟨(okN S (hok S hS)).1, (okN S (hok S hS)).2.1, by have := (okN S (hok S hS)).2.2.1; omega⟩, fun v' H' P e h1 h2 => q v' H' e ⟨P, h1, h2⟩⟩
    · obtain ⟨v, rfl, P0, hv, hl⟩ := hv
      refine ⟨v, P0, rfl, hv, fun e => ?_, Nat.le_trans hl.len hlen, fun S hS => ?_, fun v' H' P e h1 h2 => q v' H' e ⟨P0, P, h1, hl, h2⟩⟩
      · obtain ⟨S, hS⟩ := List.exists_mem_of_ne_nil Rs hne
        obtain ⟨R, hR, _⟩ := hl.low S hS
        rw [e] at hR; cases hR
      · obtain ⟨R, hR, pm⟩ := hl.row S hS
        obtain ⟨h1, _, h2, _⟩ := okN R (hok R hR)
        exact ⟨pm.nodup_iff.mpr h1, by rw [pm.length_eq]; exact h2⟩
    · obtain ⟨u, w, rfl, ⟨g, x, y, L, g0, g1, g2, g3, hu⟩, P0, P, hw, hl, hh⟩ := h
      have gL : 0 < L := by
        rcases Int.lt_or_le 0 L with h | h
        · exact h
        · have := Int.mul_le_mul_of_nonneg_left h (show 0 ≤ g by omega); omega
      have gLN : L ≤ N := by
        have := Int.mul_le_mul_of_nonneg_right (show 1 ≤ g by omega) (show 0 ≤ L by omega); omega
      have bd : ∀ {a A : Int}, A = g * a → -(900 * N) ≤ A → A ≤ 900 * N → -(900 * L) ≤ a ∧ a ≤ 900 * L := fun {a A} h h1 h2 => by
        have u1 : g * a ≤ g * (900 * L) := by rw [← h, show g * (900 * L) = 900 * (g * L) by grind, ← g3]; exact h2
        have u2 : g * (-(900 * L)) ≤ g * a := by rw [← h, show g * (-(900 * L)) = -(900 * (g * L)) by grind, ← g3]; exact h1
        have u3 := Int.le_of_mul_le_mul_left u1 g0
        have u4 := Int.le_of_mul_le_mul_left u2 g0
        omega
      refine ⟨p, u, w, P, (x, y, L), rfl, upd_same, hu.text (text_new hp), hw.text (text_new hp), ⟨P0, hh, fun S hS => ?_, fun S hS z hz => ?_, ?_⟩, gL, by show L ≤ 9; omega, bd g1 qb.1 qb.2.1, bd g2 qb.2.2.1 qb.2.2.2⟩
      · obtain ⟨R, hR, pm⟩ := hl.row S hS
        refine HullD.perm ?_ pm
        rcases hok R hR with hp | ⟨a, b, c, e, f, ha, hb, hc, he, hf, hp⟩
        · exact HullD.perm (hull_comb (qs := qs) (g := g) (fun q hq => ⟨(qm q hq).1, (qm q hq).2.2⟩) (by omega) (by rw [hX]; exact g1) (by rw [hY]; exact g2) (by rw [qN]; exact g3)) hp
        · exact HullD.perm (hull_second (p := (x, y, L)) gL Lpos g1 g2 g3 hlf hlw ha hb hc he hf) hp
      · obtain ⟨R, hR, pm⟩ := hl.row S hS
        exact (okN R (hok R hR)).2.2.2 z (pm.mem_iff.mp hz)
      · obtain ⟨S, hS⟩ := List.exists_mem_of_ne_nil Rs hne
        obtain ⟨R, hR, _⟩ := hl.low S hS
        obtain ⟨S', hS', pm⟩ := hl.row R hR
        exact ⟨R, hR, by rw [pm.length_eq]; exact (okN S' (hok S' hS')).2.2.1⟩
    · obtain ⟨a, u, w, P, p, rfl, h1, h2, h3, h4⟩ := hv
      rw [hDq]
      exact q a u w H'' P p (e1.trans (hB.trans (But.of hB.deal e))) h1 h2 h3 h4
  show (tSeq _ _) _ [some (.ref d), some (.ref ac), none, some (.ref ao), some (.int N), none, some (.int X), some (.int Y), some (.ref r), none, none, none, none] H8
  refine qD_if e18.deal (evD_draw rfl (fun H1 e => evI_c) (by decide) (by decide)) (fun H9 e9 => ?_) fun H9 e9 => ?_
  · have fd : ∀ {i j : Int}, 0 < j → i.fdiv j = i / j := fun h => Int.fdiv_eq_ediv_of_nonneg _ (by omega)
    refine q_parI (evI_div (evI_var rfl) (evI_var rfl) ⟨by omega, by omega⟩) (evI_div (evI_var rfl) (evI_var rfl) ⟨by omega, by omega⟩) fun H10 e10 => ?_
    rw [fd Lpos, fd Lpos, ← hlf, ← hlw]
    show (tSeq _ _) _ [some (.ref d), some (.ref ac), none, some (.ref ao), some (.int N), none, some (.int X), some (.int Y), some (.ref r), some (.int left), some (.int low), none, none] H10
    have B10 : But d l H8 H10 := e9.trans (But.of e9.deal e10)
    have dr : ∀ {σ : L2.St} {H : Hp} {m : Int}, σ[0]? = some (some (.ref d)) → 0 < m → m < 100 → EvDI d l (tCall sp__law_draw [] E0 (tCons (tVar 0) (tCons (tC (.int m)) tNil))) σ H (fun n => 0 ≤ n ∧ n < m) := fun h h1 h2 => evD_draw h (fun H1 e => evI_c) h1 (by omega)
    refine qD_set B10.deal (evD_cell (P := fun i => ∃ a : Int, 0 ≤ a ∧ a < 3 ∧ i = left - 2 - a) (P' := fun j => j = low - 1) (evD_I0 (evDI_pure (P := fun i => i = left - 2) (fun H1 e => evI_sub (evI_var rfl) evI_c) rfl) (dr rfl (by decide) (by decide)) fun i j h1 h2 => ⟨j, h2.1, h2.2, by rw [h1]⟩) (evDI_pure (fun H1 e => evI_sub (evI_var rfl) evI_c) rfl)) fun v11 H11 e11 hv11 => ?_
    obtain ⟨A, hA, ⟨a, a0, a1, ha⟩, hA2⟩ := hv11
    show (tSeq _ _) _ [some (.ref d), some (.ref ac), none, some (.ref ao), some (.int N), none, some (.int X), some (.int Y), some (.ref r), some (.int left), some (.int low), some v11, none] H11
    refine qD_set e11.deal (evD_cell (P := fun i => ∃ b : Int, 0 ≤ b ∧ b < 3 ∧ i = left + 3 + b) (P' := fun j => ∃ c : Int, 0 ≤ c ∧ c < 2 ∧ j = low - 1 - c) (evD_I0 (evDI_pure (P := fun i => i = left + 3) (fun H1 e => evI_add (evI_var rfl) evI_c) rfl) (dr rfl (by decide) (by decide)) fun i j h1 h2 => ⟨j, h2.1, h2.2, by rw [h1]⟩) (evD_I0 (evDI_pure (P := fun i => i = low - 1) (fun H1 e => evI_sub (evI_var rfl) evI_c) rfl) (dr rfl (by decide) (by decide)) fun i j h1 h2 => ⟨j, h2.1, h2.2, by rw [h1]⟩)) fun v12 H12 e12 hv12 => ?_
    obtain ⟨Bc, hBc, ⟨b, b0, b1, hb⟩, c, c0, c1, hc⟩ := hv12
    show tDrop _ _ [some (.ref d), some (.ref ac), none, some (.ref ao), some (.int N), none, some (.int X), some (.int Y), some (.ref r), some (.int left), some (.int low), some v11, some v12] H12
    have B812 := B10.trans (e11.trans e12)
    have hr12 := B812.old _ _ rd rl hr1
    refine sD_app (R := fun H v => ∃ S, okS S ∧ Row H v S) B812.deal rd rl hr12 rfl (evD_cb (evD_cb (evD_lst3 (pa := fun z => z = A) (pb := fun z => z = Bc) (pc := fun z => ∃ e f : Int, 0 ≤ e ∧ e < 2 ∧ 0 ≤ f ∧ f < 3 ∧ z = (left + e, low + 4 + f)) (evDC_pure (fun H1 e => evC_var rfl (hA.text (e12.trans e).text)) rfl) (evDC_pure (fun H1 e => evC_var rfl (hBc.text e.text)) rfl) ((evD_cell (P := fun i => ∃ e : Int, 0 ≤ e ∧ e < 2 ∧ i = left + e) (P' := fun j => ∃ f : Int, 0 ≤ f ∧ f < 3 ∧ j = low + 4 + f) (evD_I0 (evDI_pure (P := fun i => i = left) (fun H1 e => evI_var rfl) rfl) (dr rfl (by decide) (by decide)) fun i j h1 h2 => ⟨j, h2.1, h2.2, by rw [h1]⟩) (evD_I0 (evDI_pure (P := fun i => i = low + 4) (fun H1 e => evI_add (evI_var rfl) evI_c) rfl) (dr rfl (by decide) (by decide)) fun i j h1 h2 => ⟨j, h2.1, h2.2, by rw [h1]⟩)).imp fun H' v _ ⟨z, hz, ⟨e, e0, e1, he⟩, f, f0, f1, hf⟩ => ⟨z, hz, e, f, e0, e1, f0, f1, Prod.ext he hf⟩))
        (R := fun H v => ∃ S, okS S ∧ LCells H v S) fun v H1 e hv => ?_) fun v H1 e hv => ?_) (by show 1 < 16000000; decide) fun v H13 e13' hv => ?_
    · obtain ⟨A', B', C', rfl, rfl, ⟨e', f', e0, e1', f0, f1, rfl⟩, hL⟩ := hv
      refine (ev_sortedL (ev_varC hL.lst)).imp fun H' v _ hv => ?_
      obtain ⟨S, pm, _, hn⟩ := hv
      refine ⟨S, .inr ⟨a, b, c, e', f', ⟨a0, a1⟩, ⟨b0, b1⟩, ⟨c0, c1⟩, ⟨e0, e1'⟩, ⟨f0, f1⟩, pm.trans ?_⟩, hn.lst⟩
      rw [show A' = (left - 2 - a, low - 1) from Prod.ext ha hA2, show B' = (left + 3 + b, low - 1 - c) from Prod.ext hb hc]
    · obtain ⟨S, hS, hL⟩ := hv
      exact (ev_tupleOf tm_cell (ev_varC hL)).imp fun H' v _ hv => ⟨S, hS, hv⟩
    · obtain ⟨S2, hS2, hrow⟩ := hv
      have B813 := B812.trans e13'
      have hr13 := B813.old _ _ rd rl hr1
      have te : TExt H13 (upd H13 r (.lst ([x] ++ [v]))) := text_lst hr13
      have hrH1 : H1 r = none := e17.free hr0
      refine fin _ _ _ _ _ _ _ _ ([x] ++ [v]) [S1, S2] rfl ((e18.trans B813).mut hrH1) upd_same (.cons (Row.text (B813.text.trans te) hrx) (.cons (Row.text te hrow) .nil)) (fun S hS => ?_) (by simp) (by show 2 ≤ 2; omega)
      rcases List.mem_cons.mp hS with rfl | hS
      · exact .inl hS1
      · rw [List.mem_singleton.mp hS]; exact hS2
  · refine fin _ _ _ _ _ _ _ _ [x] [S1] rfl (e18.trans e9) (e9.old _ _ rd rl hr1) (.cons (Row.text e9.text hrx) .nil) (fun S hS => ?_) (by simp) (by show 1 ≤ 2; omega)
    rw [List.mem_singleton.mp hS]; exact .inl hS1
end K84
namespace K84
open L2 PySem PySem.Spec PyProof.Rows
def turnV (a b c : C2) : Int := (b.1 - a.1) * (c.2 - a.2) - (b.2 - a.2) * (c.1 - a.1)
/-- what stays of the stack before c -/
def popS : List C2 → C2 → List C2
  | b :: a :: r, c => if turnV a b c ≤ 0 then popS (a :: r) c else b :: a :: r
  | s, _ => s
def chainS (cs : List C2) : List C2 := cs.foldl (fun s c => c :: popS s c) []
def halfL (cs : List C2) : List C2 := (chainS cs).tail.reverse
/-- forth (e = 1) or back (e = -1) in the order of the cells -/
def LexP (e : Int) (v : C2) : Prop := 0 < e * v.1 ∨ (v.1 = 0 ∧ 0 < e * v.2)
def LexN (e : Int) (v : C2) : Prop := LexP e v ∨ v = (0, 0)
def sb (a b : C2) : C2 := (a.1 - b.1, a.2 - b.2)
theorem turn_crs (a b c : C2) : turnV a b c = crs (sb b a) (sb c a) := rfl
section
variable {e : Int} (he : e = 1 ∨ e = -1)
include he
theorem lexP_cases {v : C2} (h : LexP e v) : 0 < e * v.1 ∨ (v.1 = 0 ∧ 0 < e * v.2) := h
/-- in a half plane, turning left goes on -/
theorem crs_trans {u v w : C2} (hu : LexN e u) (hv : LexP e v) (hw : LexN e w) (h1 : 0 ≤ crs u v) (h2 : 0 ≤ crs v w) : 0 ≤ crs u w := by
  obtain ⟨u1, u2⟩ := u
  obtain ⟨v1, v2⟩ := v
  obtain ⟨w1, w2⟩ := w
  unfold crs at *
  unfold LexN LexP at *
  simp only [Prod.mk.injEq] at *
  -- v1 (u x w) = u1 (v x w) + w1 (u x v)
  have k1 : v1 * (u1 * w2 - u2 * w1) = u1 * (v1 * w2 - v2 * w1) + w1 * (u1 * v2 - u2 * v1) := by grind
  have k2 : v2 * (u1 * w2 - u2 * w1) = u2 * (v1 * w2 - v2 * w1) + w2 * (u1 * v2 - u2 * v1) := by grind
  rcases he with rfl | rfl
  · have u0 : 0 ≤ u1 := by omega
    have w0 : 0 ≤ w1 := by omega
    rcases hv with hv | ⟨hv1, hv2⟩
    · have a1 := Int.mul_nonneg u0 h2
      have a2 := Int.mul_nonneg w0 h1
      exact Classical.byContradiction fun hn => by
        have := Int.mul_neg_of_pos_of_neg (show 0 < v1 by omega) (Int.not_le.mp hn)
        omega
    · subst hv1
      simp only [Int.zero_mul, Int.mul_zero, Int.zero_sub, Int.sub_zero] at *
      have w1z : w1 = 0 := by
        rcases Int.lt_or_le 0 w1 with h | h
        · have := Int.mul_pos (show 0 < v2 by omega) h; omega
        · omega
      subst w1z
      rcases hw with (hw | ⟨_, hw⟩) | ⟨_, hw⟩
      · omega
      · simp only [Int.mul_zero, Int.sub_zero]
        exact Int.mul_nonneg u0 (by omega)
      · simp [hw]
  · have u0 : u1 ≤ 0 := by omega
    have w0 : w1 ≤ 0 := by omega
    rcases hv with hv | ⟨hv1, hv2⟩
    · have a1 := Int.mul_nonneg (show 0 ≤ -u1 by omega) h2
      have a2 := Int.mul_nonneg (show 0 ≤ -w1 by omega) h1
      rw [Int.neg_mul] at a1 a2
      exact Classical.byContradiction fun hn => by
        have := Int.mul_pos_of_neg_of_neg (show v1 < 0 by omega) (Int.not_le.mp hn)
        omega
    · subst hv1
      simp only [Int.zero_mul, Int.mul_zero, Int.zero_sub, Int.sub_zero] at *
      have w1z : w1 = 0 := by
        rcases Int.lt_or_le w1 0 with h | h
        · have := Int.mul_pos_of_neg_of_neg (show v2 < 0 by omega) h; omega
        · omega
      subst w1z
      rcases hw with (hw | ⟨_, hw⟩) | ⟨_, hw⟩
      · omega
      · simp only [Int.mul_zero, Int.sub_zero]
        exact Int.mul_nonneg_of_nonpos_of_nonpos u0 (by omega)
      · simp [hw]
theorem lexP_add {u v : C2} (hu : LexP e u) (hv : LexN e v) : LexP e (u.1 + v.1, u.2 + v.2) := by
  obtain ⟨u1, u2⟩ := u
  obtain ⟨v1, v2⟩ := v
  unfold LexN LexP at *
  simp only [Prod.mk.injEq] at *
  rcases he with rfl | rfl <;> omega
theorem lex_tri (v : C2) : LexN e v ∨ LexP e (-v.1, -v.2) := by
  obtain ⟨v1, v2⟩ := v
  unfold LexN LexP
  simp only [Prod.mk.injEq]
  rcases he with rfl | rfl <;> omega
/-- the stack of a prefix S: its sides have all of S on their left; it goes down from the last of S to the first -/
structure Stk (e : Int) (S st : List C2) : Prop where
  sub : ∀ p ∈ st, p ∈ S
  left : ∀ i a b, st[i + 1]? = some a → st[i]? = some b → LexP e (sb b a) ∧ ∀ p ∈ S, 0 ≤ turnV a b p
  bot : ∀ a, st.getLast? = some a → ∀ p ∈ S, LexN e (sb p a)
theorem stk_pop {S : List C2} {c : C2} (hc : ∀ p ∈ S, LexP e (sb c p)) : ∀ {st : List C2}, st ≠ [] → Stk e S st → (∀ l, st.head? = some l → ∀ p ∈ S, LexN e (sb p l) → 0 ≤ turnV l c p) → Stk e (S ++ [c]) (c :: popS st c)
  | [], h, _, _ => absurd rfl h
  | [l], _, I, hj => by
    have hl : l ∈ S := I.sub l (by simp)
    refine ⟨fun p hp => ?_, fun i a b ha hb => ?_, fun a ha p hp => ?_⟩
    · rcases List.mem_cons.mp hp with rfl | hp
      · simp
      · exact List.mem_append_left _ (I.sub p hp)
    · have ha' : [c, l][i + 1]? = some a := ha
      have hb' : [c, l][i]? = some b := hb
      cases i with
      | zero =>
        simp at ha' hb'
        subst ha'; subst hb'
        refine ⟨hc _ hl, fun p hp => ?_⟩
        rcases List.mem_append.mp hp with h | h
        · exact hj l rfl p h (I.bot l rfl p h)
        · have : p = c := by simpa using h
          subst this
          unfold turnV; grind
      | succ i => simp at ha'
    · have ha' : [c, l].getLast? = some a := ha
      simp at ha'
      subst ha'
      rcases List.mem_append.mp hp with h | h
      · exact I.bot l rfl p h
      · have : p = c := by simpa using h
        subst this; exact .inl (hc _ hl)
  | l :: k :: r, _, I, hj => by
    have hl : l ∈ S := I.sub l (by simp)
    have hk : k ∈ S := I.sub k (by simp)
    obtain ⟨lk, hleft⟩ := I.left 0 k l rfl rfl
    have I' : Stk e S (k :: r) := ⟨fun p hp => I.sub p (List.mem_cons_of_mem _ hp), fun i a b ha hb => I.left (i + 1) a b ha hb, fun a ha => I.bot a (by rw [List.getLast?_cons_cons]; exact ha)⟩
    unfold popS
    by_cases ht : turnV k l c ≤ 0
    · rw [if_pos ht]
      refine stk_pop hc (by simp) I' fun k' hk' p hp hpk => ?_
      have : k' = k := by simpa using hk'.symm
      subst this
      have h1 := hleft p hp
      rw [turn_crs] at h1 ht ⊢
      refine crs_trans he (v := sb l k') (.inl (hc k' hk)) lk hpk ?_ h1
      have : crs (sb c k') (sb l k') = -crs (sb l k') (sb c k') := by unfold crs; grind
      omega
    · rw [if_neg ht]
      refine ⟨fun p hp => ?_, fun i a b ha hb => ?_, fun a ha p hp => ?_⟩
      · rcases List.mem_cons.mp hp with rfl | hp
        · simp
        · exact List.mem_append_left _ (I.sub p hp)
      · cases i with
        | zero =>
          have ha' : a = l := by simpa using ha.symm
          have hb' : b = c := by simpa using hb.symm
          subst ha'; subst hb'
          refine ⟨hc _ hl, fun p hp => ?_⟩
          rcases List.mem_append.mp hp with h | h
          · rcases lex_tri he (sb p a) with hx | hx
            · exact hj a rfl p h hx
            · have h1 := hleft p h
              rw [turn_crs] at h1 ht ⊢
              have q1 : 0 ≤ crs (-(sb p a).1, -(sb p a).2) (sb a k) := by
                have : crs (-(sb p a).1, -(sb p a).2) (sb a k) = crs (sb a k) (sb p k) := by unfold crs sb; grind
                omega
              have q2 : 0 ≤ crs (sb a k) (sb b a) := by
                have : crs (sb a k) (sb b a) = crs (sb a k) (sb b k) := by unfold crs sb; grind
                omega
              have q3 := crs_trans he (.inl hx) lk (.inl (hc a hl)) q1 q2
              have : crs (-(sb p a).1, -(sb p a).2) (sb b a) = crs (sb b a) (sb p a) := by unfold crs; grind
              omega
          · have : p = b := by simpa using h
            subst this
            unfold turnV; grind
        | succ i =>
          obtain ⟨g1, g2⟩ := I.left i a b (by simpa using ha) (by simpa using hb)
          refine ⟨g1, fun p hp => ?_⟩
          rcases List.mem_append.mp hp with h | h
          · exact g2 p h
          · have : p = c := by simpa using h
            subst this
            -- the sides below turn left to c, too
            have key : ∀ (i : Nat) (a b : C2), (l :: k :: r)[i + 1]? = some a → (l :: k :: r)[i]? = some b → 0 ≤ crs (sb b a) (sb p b) := by
              intro i
              induction i with
              | zero =>
                intro a b ha hb
                have ha' : a = k := by simpa using ha.symm
                have hb' : b = l := by simpa using hb.symm
                subst ha'; subst hb'
                rw [turn_crs] at ht
                have : crs (sb b a) (sb p b) = crs (sb b a) (sb p a) := by unfold crs sb; grind
                omega
              | succ i ih =>
                intro a b ha hb
                have hbm : b ∈ S := I.sub b (List.mem_of_getElem? hb)
                obtain ⟨d, hd⟩ : ∃ d, (l :: k :: r)[i]? = some d := by
                  have : i < (l :: k :: r).length := by
                    have := (List.getElem?_eq_some_iff.mp hb).1; omega
                  exact ⟨_, List.getElem?_eq_getElem this⟩
                have hdm : d ∈ S := I.sub d (List.mem_of_getElem? hd)
                have i1 := ih b d hb hd
                obtain ⟨l1, l2⟩ := I.left (i + 1) a b ha hb
                obtain ⟨l3, _⟩ := I.left i b d hb hd
                have l2' := l2 d hdm
                rw [turn_crs] at l2'
                have q1 : 0 ≤ crs (sb b a) (sb d b) := by
                  have : crs (sb b a) (sb d b) = crs (sb b a) (sb d a) := by unfold crs sb; grind
                  omega
                have q2 : 0 ≤ crs (sb d b) (sb p b) := by
                  have : crs (sb d b) (sb p b) = crs (sb d b) (sb p d) := by unfold crs sb; grind
                  omega
                exact crs_trans he (.inl l1) l3 (.inl (hc b hbm)) q1 q2
            have := key i a b (by simpa using ha) (by simpa using hb)
            rw [turn_crs]
            have e2 : crs (sb b a) (sb p b) = crs (sb b a) (sb p a) := by unfold crs sb; grind
            omega
      · rw [List.getLast?_cons_cons] at ha
        rcases List.mem_append.mp hp with h | h
        · exact I.bot a ha p h
        · have : p = c := by simpa using h
          subst this
          exact .inl (hc a (I.sub a (List.mem_of_mem_getLast? (by rw [ha]; rfl))))
theorem stk_all : ∀ (cs S st : List C2), (S ++ cs).Pairwise (fun p q => LexP e (sb q p)) → (S = [] ∧ st = [] ∨ st ≠ [] ∧ Stk e S st ∧ st.head? = S.getLast?) →
    S ++ cs ≠ [] → Stk e (S ++ cs) (cs.foldl (fun s c => c :: popS s c) st) ∧ (cs.foldl (fun s c => c :: popS s c) st).head? = (S ++ cs).getLast? ∧ cs.foldl (fun s c => c :: popS s c) st ≠ []
  | [], S, st, hp, h, hne => by
    rw [List.append_nil] at hne ⊢
    rcases h with ⟨h, _⟩ | ⟨h1, h2, h3⟩
    · exact absurd h hne
    · exact ⟨h2, h3, h1⟩
  | c :: cs, S, st, hp, h, hne => by
    have hc : ∀ p ∈ S, LexP e (sb c p) := fun p hpS => (List.pairwise_append.mp hp).2.2 p hpS c List.mem_cons_self
    have hp' : ((S ++ [c]) ++ cs).Pairwise (fun p q => LexP e (sb q p)) := by rw [List.append_assoc]; exact hp
    have key : Stk e (S ++ [c]) (c :: popS st c) := by
      rcases h with ⟨h1, h2⟩ | ⟨h1, h2, h3⟩
      · subst h1; subst h2
        refine ⟨fun p hp => by simpa [popS] using hp, fun i a b ha hb => by simp [popS] at ha, fun a ha p hp => ?_⟩
        have h1 : a = c := by simpa [popS] using ha.symm
        have h2 : p = c := by simpa using hp
        subst h1; subst h2
        exact .inr (by unfold sb; simp)
      · refine stk_pop he hc h1 h2 fun l hl p hpS hx => ?_
        have hlast : p = l := by
          rw [h3] at hl
          obtain ⟨S', rfl⟩ := List.getLast?_eq_some_iff.mp hl
          rcases List.mem_append.mp hpS with h | h
          · have h4 := (List.pairwise_append.mp (List.pairwise_append.mp hp).1).2.2 p h l (by simp)
            exfalso
            revert h4 hx
            obtain ⟨p1, p2⟩ := p
            obtain ⟨l1, l2⟩ := l
            unfold LexN LexP sb
            simp only [Prod.mk.injEq]
            rcases he with rfl | rfl <;> omega
          · simpa using h
        subst hlast
        unfold turnV; grind
    have := stk_all cs (S ++ [c]) (c :: popS st c) hp' (.inr ⟨by simp, key, by simp⟩) (by simp)
    rw [List.append_assoc] at this
    exact this
end
end K84
namespace K84
open L2 PySem PySem.Spec PyProof.Rows
theorem rot_getD {α : Type} (d : α) (l : List α) {at' : Nat} (h : at' < l.length) {i : Nat} (hi : i < l.length) : (l.drop at' ++ l.take at').getD i d = l.getD ((i + at') % l.length) d := by
  rw [List.getD_eq_getElem?_getD, List.getD_eq_getElem?_getD]
  congr 1
  rw [List.getElem?_append, List.length_drop]
  by_cases hlt : i < l.length - at'
  · rw [if_pos hlt, List.getElem?_drop, Nat.mod_eq_of_lt (by omega), Nat.add_comm]
  · have e : (i + at') % l.length = i - (l.length - at') := by
      rw [Nat.mod_eq_sub_mod (by omega), Nat.mod_eq_of_lt (by omega)]; omega
    rw [if_neg hlt, e, List.getElem?_take]
    rw [if_pos (by omega)]
theorem rep_getD {α : Type} (d : α) (l : List α) : ∀ (m i : Nat), i < m * l.length → (List.replicate m l).flatten.getD i d = l.getD (i % l.length) d
  | 0, i, h => by omega
  | m + 1, i, h => by
    rw [List.replicate_succ, List.flatten_cons, List.getD_eq_getElem?_getD, List.getElem?_append]
    by_cases hlt : i < l.length
    · rw [if_pos hlt, Nat.mod_eq_of_lt hlt, List.getD_eq_getElem?_getD]
    · rw [if_neg hlt, ← List.getD_eq_getElem?_getD, rep_getD d l m (i - l.length) (by rw [Nat.add_mul] at h; omega), Nat.mod_eq_sub_mod (a := i) (by omega)]
theorem rep_len {α : Type} (l : List α) (m : Nat) : (List.replicate m l).flatten.length = m * l.length := by
  rw [List.length_flatten, List.map_replicate, List.sum_replicate_nat]
/-- the sides of a ring that goes round another -/
theorem sides_cyc {r0 ring : List C2} {m at' : Nat} (h0 : 0 < r0.length) (hl : ring.length = m * r0.length) (h : ∀ i < ring.length, ring.getD i (0, 0) = r0.getD ((i + at') % r0.length) (0, 0)) {p : C2 × C2} (hp : p ∈ sidesR ring) : p ∈ sidesR r0 := by
  obtain ⟨i, hi, rfl⟩ := List.mem_map.mp hp
  have hi' : i < ring.length := List.mem_range.mp hi
  refine List.mem_map.mpr ⟨(i + at') % r0.length, List.mem_range.mpr (Nat.mod_lt _ h0), ?_⟩
  rw [h i hi', h _ (Nat.mod_lt _ (by omega))]
  congr 2
  have : (i + 1) % ring.length % r0.length = (i + 1) % r0.length := by rw [hl]; exact Nat.mod_mul_left_mod ..
  rw [Nat.add_mod ((i + 1) % ring.length), this, ← Nat.add_mod, Nat.mod_add_mod]
  congr 1; omega
theorem sides_rot {r0 : List C2} {at' : Nat} (h : at' < r0.length) (p : C2 × C2) : p ∈ sidesR (r0.drop at' ++ r0.take at') ↔ p ∈ sidesR r0 := by
  have hl : (r0.drop at' ++ r0.take at').length = r0.length := by rw [List.length_append, List.length_drop, List.length_take]; omega
  refine ⟨fun hp => sides_cyc (m := 1) (at' := at') (by omega) (by rw [hl]; omega) (fun i hi => rot_getD _ r0 h (by omega)) hp, fun hp => ?_⟩
  refine sides_cyc (m := 1) (at' := r0.length - at') (by omega) (by rw [hl]; omega) (fun i hi => ?_) hp
  rw [hl, rot_getD _ r0 h (Nat.mod_lt _ (by omega)), Nat.mod_add_mod]
  congr 1
  rw [show i + (r0.length - at') + at' = i + r0.length by omega, Nat.add_mod_right, Nat.mod_eq_of_lt hi]
theorem mem_rot {r0 : List C2} {at' : Nat} (c : C2) : c ∈ r0.drop at' ++ r0.take at' ↔ c ∈ r0 := by
  rw [List.mem_append, Or.comm, ← List.mem_append, List.take_append_drop]
def Foll (l : List C2) (a b : C2) : Prop := ∃ i, l[i]? = some a ∧ l[i + 1]? = some b
theorem foll_app : ∀ {A B : List C2} {x a b : C2}, Foll (A ++ x :: B) a b → Foll (A ++ [x]) a b ∨ Foll (x :: B) a b
  | [], B, x, a, b, h => .inr h
  | y :: A, B, x, a, b, ⟨0, h1, h2⟩ => by
    left
    refine ⟨0, h1, ?_⟩
    cases A with
    | nil => exact h2
    | cons z A => exact h2
  | y :: A, B, x, a, b, ⟨i + 1, h1, h2⟩ => by
    rcases foll_app (A := A) (B := B) (x := x) ⟨i, by simpa using h1, by simpa using h2⟩ with ⟨j, g1, g2⟩ | h
    · exact .inl ⟨j + 1, by simpa using g1, by simpa using g2⟩
    · exact .inr h
theorem foll_rev {st : List C2} {a b : C2} (h : Foll st.reverse a b) : ∃ k, st[k + 1]? = some a ∧ st[k]? = some b := by
  obtain ⟨i, h1, h2⟩ := h
  have hi : i + 1 < st.length := by
    have := (List.getElem?_eq_some_iff.mp h2).1; simpa using this
  rw [List.getElem?_reverse (by omega)] at h1
  rw [List.getElem?_reverse hi] at h2
  refine ⟨st.length - 1 - (i + 1), ?_, h2⟩
  rw [← h1]; congr 1; omega
/-- a ring's sides are what follows what in the ring closed -/
theorem sides_foll {c : C2} {r : List C2} {p : C2 × C2} (h : p ∈ sidesR (c :: r)) : Foll (c :: r ++ [c]) p.1 p.2 := by
  obtain ⟨i, hi, rfl⟩ := List.mem_map.mp h
  have hi' : i < (c :: r).length := List.mem_range.mp hi
  refine ⟨i, ?_, ?_⟩
  · rw [List.getElem?_append_left hi']; exact getD_get _ hi'
  · by_cases hlt : i + 1 < (c :: r).length
    · rw [List.getElem?_append_left hlt, Nat.mod_eq_of_lt hlt]; exact getD_get _ hlt
    · have e : i + 1 = (c :: r).length := by omega
      rw [e, Nat.mod_self, List.getElem?_append_right (Nat.le_refl _), Nat.sub_self]; rfl
theorem cross_list (f : C2 → Prop) [DecidablePred f] : ∀ {st : List C2} {a b : C2}, st.head? = some b → st.getLast? = some a → f b → ¬ f a → ∃ k u v, st[k + 1]? = some u ∧ st[k]? = some v ∧ f v ∧ ¬ f u
  | [], _, _, h, _, _, _ => by cases h
  | [c], a, b, h1, h2, hb, ha => by
    have e1 : c = b := by simpa using h1
    have e2 : c = a := by simpa using h2
    exact absurd (e1 ▸ hb) (e2 ▸ ha)
  | c :: d :: r, a, b, h1, h2, hb, ha => by
    have e1 : c = b := by simpa using h1
    subst e1
    by_cases hd : f d
    · obtain ⟨k, u, v, g1, g2, g3⟩ := cross_list f (st := d :: r) (a := a) (b := d) rfl (by rw [List.getLast?_cons_cons] at h2; exact h2) hd ha
      exact ⟨k + 1, u, v, by simpa using g1, by simpa using g2, g3⟩
    · exact ⟨0, d, c, rfl, rfl, hb, hd⟩
theorem turn_split (a b : C2) (x y : Int) : turnV a b (x, y) = -((a.2 - y) * (b.1 - x)) - (b.2 - y) * (x - a.1) := by unfold turnV; simp only; grind
/-- what the law's box ring has -/
structure BoxRing (ring : List C2) (x y : Int) : Prop where
  ins : inside (sidesR ring) x y 1 = true
  x0 : ∃ c ∈ ring, c.1 ≤ x
  x1 : ∃ c ∈ ring, x ≤ c.1
  y0 : ∃ c ∈ ring, c.2 ≤ y
  y1 : ∃ c ∈ ring, y ≤ c.2
theorem box_half {order : List C2} {x y : Int} (hs : SortedC order) (hn : order.Nodup) (h00 : (x, y) ∈ order) (h10 : (x + 1, y) ∈ order) :
    BoxRing (halfL order ++ halfL order.reverse) x y ∧ (∀ c ∈ halfL order ++ halfL order.reverse, c ∈ order) ∧ 2 ≤ (halfL order ++ halfL order.reverse).length := by
  have hp : order.Pairwise (fun p q => LexP 1 (sb q p)) := by
    refine List.Pairwise.imp ?_ (List.pairwise_and_iff.mpr ⟨hs, hn⟩)
    rintro ⟨p1, p2⟩ ⟨q1, q2⟩ ⟨h1, h2⟩
    unfold LexP sb
    simp only at *
    have : ¬ (p1 = q1 ∧ p2 = q2) := fun h => h2 (Prod.ext h.1 h.2)
    omega
  have hp' : order.reverse.Pairwise (fun p q => LexP (-1) (sb q p)) := by
    refine List.pairwise_reverse.mpr (hp.imp ?_)
    rintro ⟨p1, p2⟩ ⟨q1, q2⟩ h
    unfold LexP sb at *
    simp only at *
    omega
  have hne : order ≠ [] := List.ne_nil_of_mem h00
  have hne' : order.reverse ≠ [] := by simpa using hne
  obtain ⟨S1, t1, n1⟩ := stk_all (.inl rfl) order [] [] (by simpa using hp) (.inl ⟨rfl, rfl⟩) (by simpa using hne)
  obtain ⟨S2, t2, n2⟩ := stk_all (.inr rfl) order.reverse [] [] (by simpa using hp') (.inl ⟨rfl, rfl⟩) (by simpa using hne)
  rw [List.nil_append] at S1 t1 S2 t2
  have e1 : order.foldl (fun s c => c :: popS s c) [] = chainS order := rfl
  have e2 : order.reverse.foldl (fun s c => c :: popS s c) [] = chainS order.reverse := rfl
  rw [e1] at S1 t1 n1
  rw [e2] at S2 t2 n2
  unfold halfL
  generalize chainS order = st1 at *
  generalize chainS order.reverse = st2 at *
  obtain ⟨b1, hb1⟩ : ∃ a, st1.getLast? = some a := ⟨_, List.getLast?_eq_some_getLast n1⟩
  obtain ⟨b2, hb2⟩ : ∃ a, st2.getLast? = some a := ⟨_, List.getLast?_eq_some_getLast n2⟩
  obtain ⟨u1, hu1⟩ : ∃ a, st1.head? = some a := ⟨_, List.head?_eq_some_head n1⟩
  obtain ⟨u2, hu2⟩ : ∃ a, st2.head? = some a := ⟨_, List.head?_eq_some_head n2⟩
  have m1 : ∀ p ∈ order, LexN 1 (sb p b1) := S1.bot b1 hb1
  have m2 : ∀ p ∈ order, LexN (-1) (sb p b2) := fun p hp => S2.bot b2 hb2 p (List.mem_reverse.mpr hp)
  have mem1 : ∀ c ∈ st1, c ∈ order := S1.sub
  have mem2 : ∀ c ∈ st2, c ∈ order := fun c hc => List.mem_reverse.mp (S2.sub c hc)
  have b1m : b1 ∈ st1 := List.mem_of_mem_getLast? (by rw [hb1]; rfl)
  have b2m : b2 ∈ st2 := List.mem_of_mem_getLast? (by rw [hb2]; rfl)
  have u1m : u1 ∈ st1 := List.mem_of_mem_head? (by rw [hu1]; rfl)
  have u2m : u2 ∈ st2 := List.mem_of_mem_head? (by rw [hu2]; rfl)
  -- the tops are the bottoms of the other
  have eqL : ∀ {e : Int} {a b : C2}, (e = 1 ∨ e = -1) → LexN e (sb a b) → LexN e (sb b a) → a = b := by
    rintro e ⟨a1, a2⟩ ⟨b1, b2⟩ he h1 h2
    unfold LexN LexP sb at *
    simp only [Prod.mk.injEq] at *
    rcases he with rfl | rfl <;> omega
  have neg : ∀ {a b : C2}, LexN 1 (sb a b) → LexN (-1) (sb b a) := by
    rintro ⟨a1, a2⟩ ⟨b1, b2⟩ h1
    unfold LexN LexP sb at *
    simp only [Prod.mk.injEq] at *
    omega
  have last : ∀ p ∈ order, LexN 1 (sb u1 p) := fun p hpm => by
    rw [hu1] at t1
    obtain ⟨ys, hys⟩ := List.getLast?_eq_some_iff.mp t1.symm
    rw [hys] at hpm hp
    rcases List.mem_append.mp hpm with h | h
    · exact .inl ((List.pairwise_append.mp hp).2.2 p h u1 (by simp))
    · have : p = u1 := by simpa using h
      subst this; exact .inr (by unfold sb; simp)
  have first : ∀ p ∈ order, LexN (-1) (sb u2 p) := fun p hpm => by
    rw [hu2] at t2
    obtain ⟨ys, hys⟩ := List.getLast?_eq_some_iff.mp t2.symm
    have hpm' : p ∈ order.reverse := List.mem_reverse.mpr hpm
    rw [hys] at hpm' hp'
    rcases List.mem_append.mp hpm' with h | h
    · exact .inl ((List.pairwise_append.mp hp').2.2 p h u2 (by simp))
    · have : p = u2 := by simpa using h
      subst this; exact .inr (by unfold sb; simp)
  have e12 : u2 = b1 := eqL (.inr rfl) (first b1 (mem1 b1 b1m)) (neg (m1 u2 (mem2 u2 u2m)) |> fun h => h) |> fun h => h
  have e21 : u1 = b2 := (eqL (.inr rfl) (m2 u1 (mem1 u1 u1m)) (neg (last b2 (mem2 b2 b2m))))
  subst e12; subst e21
  obtain ⟨r1, rfl⟩ : ∃ r, st1 = u1 :: r := by
    cases st1 with
    | nil => cases hu1
    | cons a r => cases hu1; exact ⟨r, rfl⟩
  obtain ⟨r2, rfl⟩ : ∃ r, st2 = u2 :: r := by
    cases st2 with
    | nil => cases hu2
    | cons a r => cases hu2; exact ⟨r, rfl⟩
  rw [List.tail_cons, List.tail_cons]
  have lx0 : u2.1 ≤ x := by
    have h := m1 _ h00
    unfold LexN LexP sb at h; simp only [Prod.mk.injEq] at h; omega
  have lx1 : x + 1 ≤ u1.1 := by
    have h := last _ h10
    unfold LexN LexP sb at h; simp only [Prod.mk.injEq] at h; omega
  have une : u1 ≠ u2 := fun e => by rw [e] at lx1; omega
  -- r1 ends with u2, r2 with u1
  have hr1 : ∃ s, r1 = s ++ [u2] := by
    cases r1 with
    | nil => exact absurd (by simpa using hb1) une
    | cons a r => rw [List.getLast?_cons_cons] at hb1; obtain ⟨ys, h⟩ := List.getLast?_eq_some_iff.mp hb1; exact ⟨ys, h⟩
  have hr2 : ∃ s, r2 = s ++ [u1] := by
    cases r2 with
    | nil => exact absurd (by simpa using hb2) (Ne.symm une)
    | cons a r => rw [List.getLast?_cons_cons] at hb2; obtain ⟨ys, h⟩ := List.getLast?_eq_some_iff.mp hb2; exact ⟨ys, h⟩
  obtain ⟨s1, rfl⟩ := hr1
  obtain ⟨s2, rfl⟩ := hr2
  rw [List.reverse_append, List.reverse_append, List.reverse_singleton, List.reverse_singleton, List.singleton_append, List.singleton_append]
  -- sides
  have side : ∀ p ∈ sidesR (u2 :: s1.reverse ++ u1 :: s2.reverse), 0 ≤ turnV p.1 p.2 (x, y) := fun p hpm => by
    have h := sides_foll hpm
    have e : u2 :: (s1.reverse.append (u1 :: s2.reverse)) ++ [u2] = (u2 :: s1.reverse) ++ u1 :: (s2.reverse ++ [u2]) := by simp
    rw [e] at h
    rcases foll_app h with h | h
    · have e : u2 :: s1.reverse ++ [u1] = (u1 :: (s1 ++ [u2])).reverse := by simp
      rw [e] at h
      obtain ⟨k, g1, g2⟩ := foll_rev h
      exact (S1.left k p.1 p.2 g1 g2).2 _ h00
    · have e : u1 :: (s2.reverse ++ [u2]) = (u2 :: (s2 ++ [u1])).reverse := by simp
      rw [e] at h
      obtain ⟨k, g1, g2⟩ := foll_rev h
      exact (S2.left k p.1 p.2 g1 g2).2 _ (List.mem_reverse.mpr h00)
  have in1 : ∀ c ∈ u1 :: (s1 ++ [u2]), c ∈ u2 :: s1.reverse ++ u1 :: s2.reverse := fun c hc => by
    simp at hc ⊢; rcases hc with h | h | h <;> simp [h]
  have in2 : ∀ c ∈ u2 :: (s2 ++ [u1]), c ∈ u2 :: s1.reverse ++ u1 :: s2.reverse := fun c hc => by
    simp at hc ⊢; rcases hc with h | h | h <;> simp [h]
  refine ⟨⟨?_, ⟨u2, by simp, lx0⟩, ⟨u1, by simp, by omega⟩, ?_, ?_⟩, fun c hc => ?_, by simp; omega⟩
  · unfold inside
    rw [List.all_eq_true]
    intro p hpm
    have := side p hpm
    refine decide_eq_true ?_
    unfold sideV
    unfold turnV at this
    simp only [Int.mul_one]
    exact this
  · obtain ⟨k, a, b, g1, g2, g3, g4⟩ := cross_list (fun c => x < c.1) (st := u1 :: (s1 ++ [u2])) (a := u2) (b := u1) rfl hb1 (by omega) (by omega)
    have ht := (S1.left k a b g1 g2).2 _ h00
    rw [turn_split] at ht
    by_cases ha : a.2 ≤ y
    · exact ⟨a, in1 a (List.mem_of_getElem? g1), ha⟩
    · refine ⟨b, in1 b (List.mem_of_getElem? g2), Classical.byContradiction fun hb => ?_⟩
      have q1 := Int.mul_pos (show 0 < a.2 - y by omega) (show 0 < b.1 - x by omega)
      have q2 := Int.mul_nonneg (show 0 ≤ b.2 - y by omega) (show 0 ≤ x - a.1 by omega)
      omega
  · obtain ⟨k, a, b, g1, g2, g3, g4⟩ := cross_list (fun c => c.1 ≤ x) (st := u2 :: (s2 ++ [u1])) (a := u1) (b := u2) rfl hb2 (by omega) (by omega)
    have ht := (S2.left k a b g1 g2).2 _ (List.mem_reverse.mpr h00)
    rw [turn_split] at ht
    by_cases ha : y ≤ b.2
    · exact ⟨b, in2 b (List.mem_of_getElem? g2), ha⟩
    · refine ⟨a, in2 a (List.mem_of_getElem? g1), Classical.byContradiction fun hb => ?_⟩
      have q1 := Int.mul_nonneg_of_nonpos_of_nonpos (show a.2 - y ≤ 0 by omega) (show b.1 - x ≤ 0 by omega)
      have q2 := Int.mul_pos_of_neg_of_neg (show b.2 - y < 0 by omega) (show x - a.1 < 0 by omega)
      omega
  · simp at hc
    rcases hc with h | h | h | h
    · exact mem2 c (by simp [h])
    · exact mem1 c (by simp [h])
    · exact mem1 c (by simp [h])
    · exact mem2 c (by simp [h])
theorem box_ring {order ring : List C2} {x y : Int} {at' m : Nat} (hs : SortedC order) (hn : order.Nodup) (h00 : (x, y) ∈ order) (h10 : (x + 1, y) ∈ order) (hat : at' < (halfL order ++ halfL order.reverse).length) (hm : 1 ≤ m)
    (hr : ring = (List.replicate m ((halfL order ++ halfL order.reverse).drop at' ++ (halfL order ++ halfL order.reverse).take at')).flatten) : BoxRing ring x y ∧ (∀ c ∈ ring, c ∈ order) ∧ 2 ≤ ring.length := by
  obtain ⟨B, hsub, hl⟩ := box_half hs hn h00 h10
  generalize halfL order ++ halfL order.reverse = r0 at *
  have rl : (r0.drop at' ++ r0.take at').length = r0.length := by rw [List.length_append, List.length_drop, List.length_take]; omega
  have ml : ring.length = m * r0.length := by rw [hr, rep_len, rl]
  have mem : ∀ c, c ∈ ring ↔ c ∈ r0 := fun c => by
    rw [hr, List.mem_flatten, ← mem_rot (r0 := r0) (at' := at') c]
    constructor
    · rintro ⟨l, h1, h2⟩; rw [List.eq_of_mem_replicate h1] at h2; exact h2
    · intro h; exact ⟨_, List.mem_replicate.mpr ⟨by omega, rfl⟩, h⟩
  refine ⟨⟨?_, ?_, ?_, ?_, ?_⟩, fun c hc => hsub c ((mem c).mp hc), ?_⟩
  · have h := B.ins
    unfold inside at *
    rw [List.all_eq_true] at *
    intro p hp
    refine h p (sides_cyc (m := m) (at' := at') (by omega) ml (fun i hi => ?_) hp)
    rw [hr, rep_getD _ _ _ _ (by rw [rl]; omega), rot_getD _ _ hat (by rw [rl]; exact Nat.mod_lt _ (by omega)), rl, Nat.mod_add_mod]
  · obtain ⟨c, h1, h2⟩ := B.x0; exact ⟨c, (mem c).mpr h1, h2⟩
  · obtain ⟨c, h1, h2⟩ := B.x1; exact ⟨c, (mem c).mpr h1, h2⟩
  · obtain ⟨c, h1, h2⟩ := B.y0; exact ⟨c, (mem c).mpr h1, h2⟩
  · obtain ⟨c, h1, h2⟩ := B.y1; exact ⟨c, (mem c).mpr h1, h2⟩
  · rw [ml]
    have : 1 * r0.length ≤ m * r0.length := Nat.mul_le_mul_right _ hm
    omega
end K84
namespace K84
open L2 PySem PySem.Spec PyProof.Rows
local macro_rules | `(tactic| walk_at "cm") => `(tactic| first | assumption | exact Or.inl ⟨by omega, by omega⟩ | exact Or.inr ⟨by omega, by omega⟩)
local macro_rules | `(tactic| walk_at "ev") => `(tactic| first
  | assumption | exact evI_c | exact evI_var rfl | exact evV_var rfl | exact evC_var rfl (by assumption)
  | (refine evI_add ?_ ?_ <;> walk_at "ev") | (refine evI_sub ?_ ?_ <;> walk_at "ev")
  | (refine evI_mul ?_ ?_ ?_; (· walk_at "ev"); (· walk_at "ev"); (· walk_at "cm"))
  | (refine evI_fst ?_; walk_at "ev") | (refine evI_snd ?_; walk_at "ev") | (refine evI_neg ?_; walk_at "ev")
  | (refine evC_tup ?_ ?_ <;> walk_at "ev") | (refine evP_tup ?_ ?_ <;> walk_at "ev")
  | (refine evB_eq ?_ ?_ <;> walk_at "ev") | (refine evB_ne ?_ ?_ <;> walk_at "ev")
  | (refine evB_lt ?_ ?_ <;> walk_at "ev") | (refine evB_le ?_ ?_ <;> walk_at "ev") | (refine evB_gt ?_ ?_ <;> walk_at "ev") | (refine evB_ge ?_ ?_ <;> walk_at "ev")
  | (refine evT_test ?_; walk_at "ev") | (refine evT_B ?_; walk_at "ev") | (refine evT_not ?_; walk_at "ev") | exact evT_yes)
section
variable {K : PySem.W.Frag} {σ : L2.St} {H : Hp} {tl : TE} {xs : List V} {a : Addr} {D : Ends} {t u : TS}
theorem walk_enumT : Walk (IteT a) xs.length (fun H => H a = some (.tup xs)) (fun i H v H' => ∃ T x, v = .ref T ∧ H T = none ∧ H' = upd H T (.tup [.int (i : Nat), x]) ∧ xs[i]? = some x) :=
  ⟨fun i H hi h => ⟨xs, xs[i], h, List.getElem?_eq_getElem hi⟩, fun H h => ⟨xs, h, Nat.le_refl _⟩, fun i H v H' _ h ⟨T, x, h1, h2, h3, h4⟩ => ⟨T, x, h1, h2, h3, h4 xs h⟩⟩
theorem wi_enumT (hl : Ev tl σ H (fun _ v => v = .ref a)) (hx : H a = some (.tup xs)) : ∀ H1, Same H H1 → ∀ R : It → Hp → Prop, (∀ H2, Same H1 H2 → R (IteT a) H2) → iEnumT (tCons tl tNil) σ H1 R := fun H1 e R q =>
  hl H1 e _ fun v H2 e2 hv => ⟨a, xs, by rw [hv], (e.trans e2) _ _ hx, q H2 e2⟩
theorem g_pairs {i j k m : Nat} {x : V} {σ0 : L2.St} {H0 : Hp} {Q : L2.St → Hp → Prop} {p : C2 × C2} (h : Pair H0 x p) (q : Q ((((σ0.set i (some (.int p.1.1))).set j (some (.int p.1.2))).set k (some (.int p.2.1))).set m (some (.int p.2.2))) H0) :
    gTup K 2 (gCons (gTup K 2 (gCons (gName i) (gCons (gName j) gNil))) (gCons (gTup K 2 (gCons (gName k) (gCons (gName m) gNil))) gNil)) x σ0 H0 Q := by
  obtain ⟨a, u, w, rfl, ha, hu, hw⟩ := h
  refine ⟨a, _, rfl, SqT.of ha, rfl, u, _, rfl, g_cell hu ⟨w, _, rfl, g_cell hw ⟨rfl, q⟩⟩⟩
end
def sp__law_in_land : Sp := fun vs H Q _ => ∃ (v : V) (ring : List C2) (x y l : Int), vs = [v, .int x, .int y, .int l] ∧ Row H v ring ∧ 0 < ring.length ∧ ring.length < 1000000 ∧ (∀ c ∈ ring, Sm c) ∧ ∀ H', Same H H' → Q (.bl (inside (sidesR ring) x y l)) H'
theorem sides_get {ring : List C2} {i : Nat} (hi : i < ring.length) : (sidesR ring)[i]? = some (ring.getD i (0, 0), ring.getD ((i + 1) % ring.length) (0, 0)) := by
  unfold sidesR
  rw [List.getElem?_map, List.getElem?_range hi]; rfl
theorem pure__law_in_land {K : PySem.W.Frag} (vs : List V) (H : Hp) (Q : VK) (E : XK) (h : sp__law_in_land vs H Q E) : t__law_in_land K { nx := fun _ H' => Q .non H', rt := Q } (start N__law_in_land vs) H := by
  obtain ⟨v, ring, x, y, l, rfl, ⟨a, xs, rfl, hx, hp⟩, h0, h1, hs, q⟩ := h
  show t__law_in_land K _ [some (.ref a), some (.int x), some (.int y), some (.int l), none, none, none, none, none, none] H
  have hk := hp.kLen
  refine q_forW (wi_enumT (evV_var rfl) hx) walk_enumT (fun i σ' H' => (∃ y4 y5 y6 y7 y8 y9, σ' = [some (.ref a), some (.int x), some (.int y), some (.int l), y4, y5, y6, y7, y8, y9]) ∧ Same H H' ∧ ∀ p ∈ (sidesR ring).take i, 0 ≤ sideV p x y l) (fun H1 e => ⟨⟨_, _, _, _, _, _, rfl⟩, e, fun p hp => by cases hp⟩) (fun i σ' H' _ h => h.2.1 _ _ hx) ?_ ?_
  · rintro i v σ' H2 H3 hi ⟨⟨y4, y5, y6, y7, y8, y9, rfl⟩, e, hall⟩ ⟨T, w, rfl, hT, rfl, hw⟩
    obtain ⟨A, hA, hcA⟩ := hp.kGetL hw
    have e3 : Same H2 (upd H2 T (.tup [.int (i : Nat), w])) := same_new hT
    have hT3 : (upd H2 T (.tup [.int (i : Nat), w])) T = some (.tup [.int (i : Nat), w]) := upd_same
    generalize upd H2 T (.tup [.int (i : Nat), w]) = H3 at e3 hT3
    have eh := e.trans e3
    refine ⟨T, _, rfl, SqT.of hT3, rfl, _, _, rfl, w, _, rfl, g_cell (hcA.text eh.text) ⟨rfl, ?_⟩⟩
    show (tSeq _ _) _ [some (.ref a), some (.int x), some (.int y), some (.int l), some (.int i), some (.int A.1), some (.int A.2), y7, y8, y9] H3
    have hi' : i < ring.length := by omega
    have hAd : A = ring.getD i (0, 0) := by
      have := getD_get (0, 0) hi'
      rw [hA] at this; exact Option.some.inj this
    have hx3 := eh _ _ hx
    have hp3 := hp.kImp fun x y (r : Cell H x y) => r.text eh.text
    have hl' : EvI (tCB (rLenSeq K) (tCons (tVar 0) tNil)) [some (.ref a), some (.int x), some (.int y), some (.int l), some (.int i), some (.int A.1), some (.int A.2), y7, y8, y9] H3 (ring.length : Int) := (ev_lenT (evV_var rfl) hx3).to (by rw [hp.kLen])
    have hB := getD_get (l := ring) (0, 0) (Nat.mod_lt (i + 1) h0)
    generalize hBd : ring.getD ((i + 1) % ring.length) (0, 0) = B at hB
    refine q_asg (R := fun H v => Cell H v B) (ev_ixTD (k := (i + 1) % ring.length) tm_cell (evV_var rfl) hx3 hp3 hB ((evI_mod (evI_add (evI_var rfl) evI_c) hl' (by omega)).to (by rw [Int.natCast_emod]; rfl))) fun v H4 e4 hv => g_cell hv ?_
    show (tSeq _ _) _ [some (.ref a), some (.int x), some (.int y), some (.int l), some (.int i), some (.int A.1), some (.int A.2), some (.int B.1), some (.int B.2), y9] H4
    obtain ⟨b1, b2⟩ := hs A (List.mem_of_getElem? hA)
    obtain ⟨b3, b4⟩ := hs B (List.mem_of_getElem? hB)
    have c1 : CMul (B.1 - A.1) (y - A.2 * l) := cm_l (by omega)
    have c2 : CMul (B.2 - A.2) (x - A.1 * l) := cm_l (by omega)
    have c3 : CMul A.2 l := cm_l (by omega)
    have c4 : CMul A.1 l := cm_l (by omega)
    refine q_setI (n := (B.1 - A.1) * (y - A.2 * l)) (by walk_at "ev") fun H5 e5 => ?_
    have hsd : (sidesR ring)[i]? = some (A, B) := by rw [sides_get hi', ← hAd, hBd]
    refine s_when (b := decide ((B.1 - A.1) * (y - A.2 * l) < (B.2 - A.2) * (x - A.1 * l))) (by walk_at "ev") (fun hb H6 e6 => ?_) (fun hb H6 e6 => ?_)
    · refine s_ret evB_c fun v H7 e7 hv => ?_
      subst hv
      have : inside (sidesR ring) x y l = false := by
        unfold inside
        rw [List.all_eq_false]
        refine ⟨(A, B), List.mem_of_getElem? hsd, ?_⟩
        have := of_decide_eq_true hb
        show ¬ (decide (0 ≤ (B.1 - A.1) * (y - A.2 * l) - (B.2 - A.2) * (x - A.1 * l)) = true)
        rw [decide_eq_true_eq]; omega
      have q' := q H7 (eh.trans (e4.trans (e5.trans (e6.trans e7))))
      rw [this] at q'; exact q'
    · have hneg := of_decide_eq_false hb
      refine ⟨⟨_, _, _, _, _, _, rfl⟩, eh.trans (e4.trans (e5.trans e6)), fun p' hp' => ?_⟩
      rw [List.take_add_one, hsd] at hp'
      rcases List.mem_append.mp hp' with z | z
      · exact hall p' z
      · have : p' = (A, B) := by simpa using z
        subst this
        simp only [sideV]; omega
  · rintro σ' H' ⟨⟨y4, y5, y6, y7, y8, y9, rfl⟩, e, hall⟩
    refine s_ret evB_c fun v H4 e4 hv => ?_
    subst hv
    have hl : (sidesR ring).length = xs.length := by unfold sidesR; rw [List.length_map, List.length_range, hk]
    have ht : inside (sidesR ring) x y l = true := by
      unfold inside
      rw [List.all_eq_true]
      intro p hp'
      rw [← hl, List.take_length] at hall
      exact decide_eq_true (hall p hp')
    have q' := q H4 (e.trans e4)
    rw [ht] at q'; exact q'
theorem ev_in_land {σ : L2.St} {H : Hp} {t0 t1 t2 t3 : TE} {ring : List C2} {x y l : Int} (h0 : Ev t0 σ H (fun H v => Row H v ring)) (h1 : EvI t1 σ H x) (h2 : EvI t2 σ H y) (h3 : EvI t3 σ H l) (n0 : 0 < ring.length) (n1 : ring.length < 1000000) (hs : ∀ c ∈ ring, Sm c) :
    EvB (tCall sp__law_in_land [] E0 (tCons t0 (tCons t1 (tCons t2 (tCons t3 tNil))))) σ H (inside (sidesR ring) x y l) :=
  ev_call (evA_cons h0 mono_row (evA_3 h1 mono_eq h2 mono_eq h3)) fun H1 vs e hv Q q => by
    obtain ⟨v, _, rfl, hr, _, _, _, rfl, rfl, rfl, rfl⟩ := hv
    exact ⟨v, ring, x, y, l, rfl, hr, n0, n1, hs, fun H' e' => q _ H' e' rfl⟩
/-- what the paper tells at n is the least number not below -/
def TellsAt (n : Int) (f : C2) (k x : Int) : Prop := 0 ≤ x * f.2 - (k * f.2 - n * f.1) ∧ x * f.2 - (k * f.2 - n * f.1) < f.2
def sp__law_told_right : Sp := fun vs H Q _ => ∃ (v : V) (n : Int) (pt : C2 × C2) (ring : List C2) (mid corner : C2) (rows : List (List C2)), vs = [v, .int n] ∧ PaperV H v pt ring mid corner rows ∧ n.natAbs ≤ 2 ^ 62 ∧ 0 < pt.1.2 ∧ pt.1.2 < 32768 ∧ 0 < pt.2.2 ∧ pt.2.2 < 32768 ∧
  0 < ring.length ∧ ring.length < 1000000 ∧ (∀ c ∈ ring, Sm c) ∧ TellsAt n pt.1 corner.1 (ceilF n corner.1 pt.1) ∧ TellsAt n pt.2 corner.2 (ceilF n corner.2 pt.2) ∧
  inside (sidesR ring) (ceilF n corner.1 pt.1 * (pt.1.2 * pt.2.2) + n * pt.1.1 * pt.2.2) (ceilF n corner.2 pt.2 * (pt.1.2 * pt.2.2) + n * pt.2.1 * pt.1.2) (pt.1.2 * pt.2.2) = true ∧ ∀ H', Same H H' → Q (.bl true) H'
theorem small_mul {a b : Int} (a0 : 0 < a) (a1 : a < 32768) (b0 : 0 < b) (b1 : b < 32768) : 0 < a * b ∧ a * b < 1073741824 := by
  have h1 := Int.mul_pos a0 b0
  have h2 : a * b ≤ 32767 * b := Int.mul_le_mul_of_nonneg_right (by omega) (by omega)
  omega
section
variable {σ : L2.St} {H : Hp} {v : V} {pt : C2 × C2} {ring : List C2} {mid corner : C2} {rows : List (List C2)} {K : PySem.W.Frag} {k : Nat}
theorem PaperV.ev_pt (h : PaperV H v pt ring mid corner rows) (hk : σ[k]? = some (some v)) : Ev (tOp (rIxT K) (tVar k) (tC (.int 1))) σ H (fun H v => Pair H v pt) := by
  obtain ⟨a, x, vp, vr, vm, vc, vR, rfl, ha, hp, hr, hm, hc, hR⟩ := h
  exact (ev_ixT (k := 1) (evV_var hk) ha rfl evI_c).imp fun H' v e h => by subst h; exact hp.text e.text
theorem PaperV.ev_ring (h : PaperV H v pt ring mid corner rows) (hk : σ[k]? = some (some v)) : Ev (tOp (rIxT K) (tVar k) (tC (.int 2))) σ H (fun H v => Row H v ring) := by
  obtain ⟨a, x, vp, vr, vm, vc, vR, rfl, ha, hp, hr, hm, hc, hR⟩ := h
  exact (ev_ixT (k := 2) (evV_var hk) ha rfl evI_c).imp fun H' v e h => by subst h; exact hr.text e.text
theorem PaperV.ev_corner (h : PaperV H v pt ring mid corner rows) (hk : σ[k]? = some (some v)) : EvC (tOp (rIxT K) (tVar k) (tC (.int 4))) σ H corner := by
  obtain ⟨a, x, vp, vr, vm, vc, vR, rfl, ha, hp, hr, hm, hc, hR⟩ := h
  exact (ev_ixT (k := 4) (evV_var hk) ha rfl evI_c).imp fun H' v e h => by subst h; exact hc.text e.text
theorem ev_cell_at {te : TE} {n : Int} (h : PaperV H v pt ring mid corner rows) (hk : σ[k]? = some (some v)) (hn : EvI te σ H n) (n1 : n.natAbs ≤ 2 ^ 62) (l0 : 0 < pt.1.2) (l1 : pt.1.2 < 32768) (l2 : 0 < pt.2.2) (l3 : pt.2.2 < 32768) :
    EvC (tCall sp_cell_at [] E0 (tCons (tVar k) (tCons te tNil))) σ H (ceilF n corner.1 pt.1, ceilF n corner.2 pt.2) :=
  ev_call (evA_2 (ev_varM (R := fun H v => PaperV H v pt ring mid corner rows) hk (fun _ _ _ e h => h.text e.text) h) (fun _ _ _ e h => h.text e.text) hn) fun H1 vs e hv Q q => by
    obtain ⟨x, _, rfl, hx, rfl⟩ := hv
    exact ⟨x, n, pt, ring, mid, corner, rows, rfl, hx, n1, l0, by omega, l2, by omega, q⟩
end
theorem pure__law_told_right {K : PySem.W.Frag} (vs : List V) (H : Hp) (Q : VK) (E : XK) (h : sp__law_told_right vs H Q E) : t__law_told_right K sp_cell_at sp__law_in_land { nx := fun _ H' => Q .non H', rt := Q } (start N__law_told_right vs) H := by
  obtain ⟨v, n, pt, ring, mid, corner, rows, rfl, hP, hn, l0, l1, l2, l3, r0, r1, hs, t1, t2, hin, q⟩ := h
  obtain ⟨m0, m1⟩ := small_mul l0 l1 l2 l3
  show t__law_told_right K _ _ _ [some v, some (.int n), none, none, none, none, none, none, none, none, none] H
  refine q_asg (hP.ev_pt rfl) fun v1 H1 e1 h1 => g_pairs h1 ?_
  have hP1 := hP.text e1.text
  show (tSeq _ _) _ [some v, some (.int n), some (.int pt.1.1), some (.int pt.1.2), some (.int pt.2.1), some (.int pt.2.2), none, none, none, none, none] H1
  refine q_asg (ev_cell_at hP1 rfl (evI_var rfl) hn l0 l1 l2 l3) fun v2 H2 e2 h2 => g_cell h2 ?_
  have hP2 := hP1.text e2.text
  generalize ceilF n corner.1 pt.1 = x at *
  generalize ceilF n corner.2 pt.2 = y at *
  show (tSeq _ _) _ [some v, some (.int n), some (.int pt.1.1), some (.int pt.1.2), some (.int pt.2.1), some (.int pt.2.2), some (.int x), some (.int y), none, none, none] H2
  have c1 : CMul corner.1 pt.1.2 := cm_r (by omega)
  have c2 : CMul n pt.1.1 := cm_l hn
  have c3 : CMul corner.2 pt.2.2 := cm_r (by omega)
  have c4 : CMul n pt.2.1 := cm_l hn
  have c5 : CMul x pt.1.2 := cm_r (by omega)
  have c6 : CMul y pt.2.2 := cm_r (by omega)
  have c7 : CMul pt.1.2 pt.2.2 := cm_r (by omega)
  have c8 : CMul x (pt.1.2 * pt.2.2) := cm_r (by omega)
  have c9 : CMul y (pt.1.2 * pt.2.2) := cm_r (by omega)
  have c10 : CMul (n * pt.1.1) pt.2.2 := cm_r (by omega)
  have c11 : CMul (n * pt.2.1) pt.1.2 := cm_r (by omega)
  refine q_setI (n := corner.1 * pt.1.2 - n * pt.1.1) (evI_sub (evI_mul (evI_fst (hP2.ev_corner rfl)) (evI_var rfl) c1) (evI_mul (evI_var rfl) (evI_var rfl) c2)) fun H3 e3 => ?_
  have hP3 := hP2.text e3.text
  refine q_setI (n := corner.2 * pt.2.2 - n * pt.2.1) (evI_sub (evI_mul (evI_snd (hP3.ev_corner rfl)) (evI_var rfl) c3) (evI_mul (evI_var rfl) (evI_var rfl) c4)) fun H4 e4 => ?_
  have hP4 := hP3.text e4.text
  have ch : ∀ {σ : L2.St} {H : Hp} {ta tb tc : TE} {i j m : Int}, EvI ta σ H i → EvI tb σ H j → EvI tc σ H m → i ≤ j → j < m → EvT (tTest (tChain rLeI rLtI ta tb tc)) σ H true := fun {σ H ta tb tc i j m} ha hb hc h1 h2 =>
    evT_chain (b := true) (b' := true) ha hb (fun _ => hc) (fun H1 Q q => ⟨i, j, rfl, rfl, by show Q (.bl (decide (i ≤ j))) H1; rw [decide_eq_true h1]; exact q⟩) (fun _ H1 Q q => ⟨j, m, rfl, rfl, by show Q (.bl (decide (j < m))) H1; rw [decide_eq_true h2]; exact q⟩)
  refine q_skip (evT_or (b := false) (b' := false) (evT_not (ch evI_c (by walk_at "ev") (evI_var rfl) t1.1 t1.2)) fun _ => evT_not (ch evI_c (by walk_at "ev") (evI_var rfl) t2.1 t2.2)) fun H5 e5 => ?_
  refine q_setI (n := pt.1.2 * pt.2.2) (by walk_at "ev") fun H6 e6 => ?_
  refine s_ret (ev_in_land ((hP4.text (e5.trans e6).text).ev_ring rfl) (by walk_at "ev" : EvI _ _ _ (x * (pt.1.2 * pt.2.2) + n * pt.1.1 * pt.2.2)) (by walk_at "ev" : EvI _ _ _ (y * (pt.1.2 * pt.2.2) + n * pt.2.1 * pt.1.2)) (evI_var rfl) r0 r1 hs) fun v H7 e7 hv => ?_
  rw [hv, hin]
  exact q H7 (e1.trans (e2.trans (e3.trans (e4.trans (e5.trans (e6.trans e7))))))
def placeV (n : Int) (pt : C2 × C2) (c : C2) : C2 := (c.1 - n * pt.1.1 / pt.1.2, c.2 - n * pt.2.1 / pt.2.2)
def sp__law_stands : Sp := fun vs H Q _ => ∃ (v vi vh : V) (n : Int) (pt : C2 × C2) (ring : List C2) (mid corner : C2) (rows : List (List C2)) (is hs : List C2), vs = [v, vi, vh, .int n] ∧ PaperV H v pt ring mid corner rows ∧ Row H vi is ∧ Row H vh hs ∧ n.natAbs ≤ 2 ^ 62 ∧ 0 < pt.1.2 ∧ pt.1.2 < 32768 ∧ 0 < pt.2.2 ∧ pt.2.2 < 32768 ∧
  0 < ring.length ∧ ring.length < 1000000 ∧ (∀ c ∈ ring, Sm c) ∧
  (∀ c ∈ is, inside (sidesR ring) ((placeV n pt c).1 * (pt.1.2 * pt.2.2) + n * pt.1.1 * pt.2.2) ((placeV n pt c).2 * (pt.1.2 * pt.2.2) + n * pt.2.1 * pt.1.2) (pt.1.2 * pt.2.2) = true → placeV n pt c ∈ hs) ∧
  (ceilF n corner.1 pt.1, ceilF n corner.2 pt.2) ∈ hs ∧ ∀ H', Same H H' → Q (.bl true) H'
theorem pure__law_stands {K : PySem.W.Frag} (vs : List V) (H : Hp) (Q : VK) (E : XK) (h : sp__law_stands vs H Q E) : t__law_stands K sp__law_in_land sp_cell_at { nx := fun _ H' => Q .non H', rt := Q } (start N__law_stands vs) H := by
  obtain ⟨v, vi, vh, n, pt, ring, mid, corner, rows, is, hs, rfl, hP, ⟨ai, xi, rfl, hai, hpi⟩, hH, hn, l0, l1, l2, l3, r0, r1, hsm, hst, hce, q⟩ := h
  obtain ⟨m0, m1⟩ := small_mul l0 l1 l2 l3
  show t__law_stands K _ _ _ [some v, some (.ref ai), some vh, some (.int n), none, none, none, none, none, none, none, none, none, none] H
  refine q_asg (hP.ev_pt rfl) fun v1 H1 e1 h1 => g_pairs h1 ?_
  show (tSeq _ _) _ [some v, some (.ref ai), some vh, some (.int n), some (.int pt.1.1), some (.int pt.1.2), some (.int pt.2.1), some (.int pt.2.2), none, none, none, none, none, none] H1
  have c2 : CMul n pt.1.1 := cm_l hn
  have c4 : CMul n pt.2.1 := cm_l hn
  have c7 : CMul pt.1.2 pt.2.2 := cm_r (by omega)
  have c10 : CMul (n * pt.1.1) pt.2.2 := cm_r (by omega)
  have c11 : CMul (n * pt.2.1) pt.1.2 := cm_r (by omega)
  refine q_setI (n := pt.1.2 * pt.2.2) (by walk_at "ev") fun H2 e2 => ?_
  have e12 := e1.trans e2
  refine q_forT (evV_var rfl) (e12 _ _ hai) (fun i σ' H' => (∃ y9 y10 y11 y12 y13, σ' = [some v, some (.ref ai), some vh, some (.int n), some (.int pt.1.1), some (.int pt.1.2), some (.int pt.2.1), some (.int pt.2.2), some (.int (pt.1.2 * pt.2.2)), y9, y10, y11, y12, y13]) ∧ Same H H') (fun H3 e3 => ⟨⟨_, _, _, _, _, rfl⟩, e12.trans e3⟩) (fun i σ' H' _ h => h.2 _ _ hai) ?_ ?_
  · rintro i x σ' H3 hx ⟨⟨y9, y10, y11, y12, y13, rfl⟩, e3⟩
    obtain ⟨c, hc, hcl⟩ := hpi.kGetL hx
    refine g_cell (hcl.text e3.text) ?_
    show (tSeq _ _) _ [some v, some (.ref ai), some vh, some (.int n), some (.int pt.1.1), some (.int pt.1.2), some (.int pt.2.1), some (.int pt.2.2), some (.int (pt.1.2 * pt.2.2)), some (.int c.1), some (.int c.2), y11, y12, y13] H3
    have fd : ∀ {i j : Int}, 0 < j → i.fdiv j = i / j := fun h => Int.fdiv_eq_ediv_of_nonneg _ (by omega)
    refine q_set (R := fun H v => Cell H v (placeV n pt c)) (((evC_tup (evI_sub (evI_var rfl) (evI_div (evI_mul (evI_var rfl) (evI_var rfl) c2) (evI_var rfl) ⟨by omega, by omega⟩)) (evI_sub (evI_var rfl) (evI_div (evI_mul (evI_var rfl) (evI_var rfl) c4) (evI_var rfl) ⟨by omega, by omega⟩)))).to (by rw [fd l0, fd l2]; rfl)) fun v4 H4 e4 h4 => ?_
    have hcm := hst c (List.mem_of_getElem? hc)
    generalize placeV n pt c = pl at h4 hcm
    have c8 : CMul pl.1 (pt.1.2 * pt.2.2) := cm_r (by omega)
    have c9 : CMul pl.2 (pt.1.2 * pt.2.2) := cm_r (by omega)
    show (tSeq _ _) _ [some v, some (.ref ai), some vh, some (.int n), some (.int pt.1.1), some (.int pt.1.2), some (.int pt.2.1), some (.int pt.2.2), some (.int (pt.1.2 * pt.2.2)), some (.int c.1), some (.int c.2), some v4, y12, y13] H4
    refine q_setI (n := pl.1 * (pt.1.2 * pt.2.2) + n * pt.1.1 * pt.2.2) (evI_add (evI_mul (evI_fst (evC_var rfl h4)) (evI_var rfl) c8) (evI_mul (evI_mul (evI_var rfl) (evI_var rfl) c2) (evI_var rfl) c10)) fun H5 e5 => ?_
    refine q_setI (n := pl.2 * (pt.1.2 * pt.2.2) + n * pt.2.1 * pt.1.2) (evI_add (evI_mul (evI_snd (evC_var rfl (h4.text e5.text))) (evI_var rfl) c9) (evI_mul (evI_mul (evI_var rfl) (evI_var rfl) c4) (evI_var rfl) c11)) fun H6 e6 => ?_
    have e36 := e4.trans (e5.trans e6)
    refine s_when (b := false) ((evT_and (evT_B (ev_in_land ((hP.text (e3.trans e36).text).ev_ring rfl) (evI_var rfl) (evI_var rfl) (evI_var rfl) r0 r1 hsm)) (b' := !decide (pl ∈ hs)) fun hb => evT_test (evB_notinT (evC_var rfl (h4.text (e5.trans e6).text)) (evRow_var rfl (Row.text (e3.trans e36).text hH)))).to ?_) (fun hb => by cases hb) fun _ H7 e7 => ⟨⟨_, _, _, _, _, rfl⟩, e3.trans (e36.trans e7)⟩
    cases hb : inside (sidesR ring) (pl.1 * (pt.1.2 * pt.2.2) + n * pt.1.1 * pt.2.2) (pl.2 * (pt.1.2 * pt.2.2) + n * pt.2.1 * pt.1.2) (pt.1.2 * pt.2.2) with
    | false => rfl
    | true => rw [decide_eq_true (hcm hb)]; rfl
  · rintro σ' H3 ⟨⟨y9, y10, y11, y12, y13, rfl⟩, e3⟩
    refine s_ret (evB_inT (ev_cell_at (hP.text e3.text) rfl (evI_var rfl) hn l0 l1 l2 l3) (evRow_var rfl (Row.text e3.text hH))) fun v H4 e4 hv => ?_
    rw [hv, decide_eq_true hce]
    exact q H4 (e3.trans e4)
def sp__law_beat : Sp := sp_beat
theorem pure__law_beat {K : PySem.W.Frag} (vs : List V) (H : Hp) (Q : VK) (E : XK) (h : sp__law_beat vs H Q E) : t__law_beat K { nx := fun _ H' => Q .non H', rt := Q } (start N__law_beat vs) H := by
  obtain ⟨v1, v2, P, cs, rfl, ⟨a, xs, rfl, hx, hP⟩, ⟨ac, xc, rfl, hac, hxc⟩, z1, z2, z3, q⟩ := h
  show t__law_beat K _ [some (.ref a), some (.ref ac), none, none, none, none, none, none, none, none, none] H
  have zlen : xc.length = cs.length := hxc.kLen
  refine q_set ev_dnewT fun v2 H1 e1 hv2 => ?_
  obtain ⟨d, rfl, hd0, hd1⟩ := hv2
  refine q_forT (evV_var rfl) (e1 _ _ hac) (fun i σ' H' => (∃ y3, σ' = [some (.ref a), some (.ref ac), some (.ref d), y3, none, none, none, none, none, none, none]) ∧ Same H H' ∧ ∃ kvs ds, H' d = some (.dT kvs) ∧ Keys kvs ds ∧ ds.length ≤ i ∧ ∀ c, c ∈ ds ↔ c ∈ cs.take i) (fun H2 e2 => ⟨⟨_, rfl⟩, e1.trans e2, [], [], e2 _ _ hd1, Keys.nil, Nat.zero_le _, fun c => by simp⟩) (fun i σ' H' _ h => h.2.1 _ _ hac) ?_ ?_
  · rintro i x σ' H2 hxi ⟨⟨y3, rfl⟩, i1, kvs, ds, i2, i3, i4, i5⟩
    obtain ⟨c, hc, hcl⟩ := hxc.kGetL hxi
    have hi : i < cs.length := (List.getElem?_eq_some_iff.mp hc).1
    refine s_dputC i2 evB_c (evV_var rfl) (evC_var rfl (hcl.text i1.text)) (by rw [i3.len]; omega) fun v H3 e3 => ⟨⟨_, rfl⟩, (i1.trans e3).mut hd0, _, _, upd_same, i3.put c v, ?_, fun c' => ?_⟩
    · split
      · omega
      · rw [List.length_append]; simp; omega
    · rw [List.take_add_one, hc, List.mem_append, ← i5 c']
      split
      · rename_i h
        constructor
        · exact .inl
        · rintro (h' | h')
          · exact h'
          · have : c' = c := by simpa using h'
            exact this ▸ h
      · rw [List.mem_append]; simp
  rintro σ' H2 ⟨⟨y3, rfl⟩, i1, kvs0, ds0, hd2, k1, k2, k3⟩
  rw [zlen, List.take_length] at k3
  have hk : ∀ c, (valV kvs0 (keyC c)).isSome = decide (c ∈ cs) := fun c => by rw [k1.has, Bool.eq_iff_iff, decide_eq_true_eq, decide_eq_true_eq, k3]
  refine q_set ev_dnewT fun v1 H3 e3 hv1 => ?_
  obtain ⟨f, rfl, hf0, hf1⟩ := hv1
  have e13 := i1.trans e3
  have hd3 := e3 _ _ hd2
  show (tSeq _ _) _ [some (.ref a), some (.ref ac), some (.ref d), y3, some (.ref f), none, none, none, none, none, none] H3
  let T : Nat → Nat → C2 → Prop := fun i j c => (∃ R ∈ P.take i, ∀ z ∈ R, (z.1 + c.1, z.2 + c.2) ∈ cs) ∨ ∃ R, P[i]? = some R ∧ (∀ z ∈ R, (z.1 + c.1, z.2 + c.2) ∈ cs) ∧ ∃ d ∈ cs.take j, ∃ z, R.head? = some z ∧ c = (d.1 - z.1, d.2 - z.2)
  let Inv := fun (H' : Hp) (m i j : Nat) => TExt H3 H' ∧ Same H2 H' ∧ ∃ kvs ds, H' f = some (.dT kvs) ∧ Keys kvs ds ∧ ds.length ≤ m ∧ ∀ c, c ∈ ds ↔ T i j c
  have inv_same : ∀ {H' H'' m i j}, Inv H' m i j → Same H' H'' → Inv H'' m i j := fun {H' H'' m i j} h e => by
    obtain ⟨i1, i2, ws, ds, i4, i5, i6, i7⟩ := h
    exact ⟨i1.trans e.text, i2.trans e, ws, ds, e _ _ i4, i5, i6, i7⟩
  refine q_forT (evV_var rfl) (e13 _ _ hx) (fun i σ' H' => (∃ y5 y6 y7 y8 y9 y10, σ' = [some (.ref a), some (.ref ac), some (.ref d), y3, some (.ref f), y5, y6, y7, y8, y9, y10]) ∧ Inv H' (i * cs.length) i 0) (fun H4 e4 => ⟨⟨_, _, _, _, _, _, rfl⟩, inv_same ⟨TExt.refl _, e3, [], [], hf1, Keys.nil, Nat.zero_le _, fun c => ?_⟩ e4⟩) (fun i σ' H' _ h => h.2.2.1 _ _ (i1 _ _ hx)) ?_ ?_
  · constructor
    · intro h; cases h
    · rintro (⟨R, hR, _⟩ | ⟨R, _, _, d, hd, _⟩)
      · cases hR
      · cases hd
  · rintro i vr σ' H4 hvr ⟨⟨y5, y6, y7, y8, y9, y10, rfl⟩, hI⟩
    obtain ⟨R, hR, hrow⟩ := hP.kGetL hvr
    have hRm := List.mem_of_getElem? hR
    have hiP : i < P.length := (List.getElem?_eq_some_iff.mp hR).1
    obtain ⟨hRne, hRl⟩ := z2 R hRm
    obtain ⟨z0, hz0⟩ : ∃ z, R.head? = some z := by
      cases R with
      | nil => exact absurd rfl hRne
      | cons z r => exact ⟨z, rfl⟩
    have hz00 : R[0]? = some z0 := by rw [← hz0]; cases R <;> rfl
    obtain ⟨ar, xr, rfl, har, hxr⟩ := hrow
    have t3 : TExt H H4 := e13.text.trans hI.1
    have har4 := t3 _ _ har
    show tFor _ _ _ _ [some (.ref a), some (.ref ac), some (.ref d), y3, some (.ref f), some (.ref ar), y6, y7, y8, y9, y10] H4
    refine s_forT (a := ac) (xs := xc) (evV_var rfl) (hI.1 _ _ (e13 _ _ hac)) (fun j σ' H' => (∃ y6 y7 y8 y9 y10, σ' = [some (.ref a), some (.ref ac), some (.ref d), y3, some (.ref f), some (.ref ar), y6, y7, y8, y9, y10]) ∧ TExt H4 H' ∧ Inv H' (i * cs.length + j) i j) (fun H5 e5 => ⟨⟨_, _, _, _, _, rfl⟩, e5.text, inv_same hI e5⟩) (fun j σ' H' _ h => h.2.2.1 _ _ (e13 _ _ hac)) ?_ ?_
    · rintro j vc σ' H5 hvc ⟨⟨y6, y7, y8, y9, y10, rfl⟩, t45, hJ⟩
      obtain ⟨c, hc, hcl⟩ := hxc.kGetL hvc
      have hjc : j < cs.length := (List.getElem?_eq_some_iff.mp hc).1
      have t5 : TExt H H5 := e13.text.trans hJ.1
      refine g_cell (hcl.text t5) ?_
      show (tSeq _ _) _ [some (.ref a), some (.ref ac), some (.ref d), y3, some (.ref f), some (.ref ar), some (.int c.1), some (.int c.2), y8, y9, y10] H5
      have e0 : EvC (tOp (rIxT K) (tVar 5) (tC (.int 0))) [some (.ref a), some (.ref ac), some (.ref d), y3, some (.ref f), some (.ref ar), some (.int c.1), some (.int c.2), y8, y9, y10] H5 z0 := ev_ixTD (k := 0) tm_cell (evV_var rfl) (t5 _ _ har) (hxr.kImp fun x y (r : Cell H x y) => r.text t5) hz00 evI_c
      refine q_set (R := fun H v => Cell H v (c.1 - z0.1, c.2 - z0.2)) (evC_tup (evI_sub (evI_var rfl) (evI_fst e0)) (evI_sub (evI_var rfl) (evI_snd e0))) fun vp H6 e6 hvp => ?_
      generalize hpl : ((c.1 - z0.1, c.2 - z0.2) : C2) = pl at hvp
      have hJ6 := inv_same hJ e6
      obtain ⟨i1', i2', kvs, ds, i4, i5, i6, i7⟩ := id hJ6
      have stepT : ∀ d, T i (j + 1) d ↔ T i j d ∨ (d = pl ∧ ∀ z ∈ R, (z.1 + d.1, z.2 + d.2) ∈ cs) := fun d => by
        show (_ ∨ _) ↔ (_ ∨ _) ∨ _
        constructor
        · rintro (h | ⟨R', h1, h2, e, h3, z, h4, h5⟩)
          · exact .inl (.inl h)
          · rw [hR] at h1; cases h1
            rw [hz0] at h4; cases h4
            rw [List.take_add_one, hc] at h3
            rcases List.mem_append.mp h3 with h | h
            · exact .inl (.inr ⟨R, hR, h2, e, h, z0, hz0, h5⟩)
            · have : e = c := by simpa using h
              subst this
              exact .inr ⟨by rw [h5, hpl], h2⟩
        · rintro ((h | ⟨R', h1, h2, e, h3, z, h4, h5⟩) | ⟨h1, h2⟩)
          · exact .inl h
          · exact .inr ⟨R', h1, h2, e, by rw [List.take_add_one]; exact List.mem_append_left _ h3, z, h4, h5⟩
          · exact .inr ⟨R, hR, h2, c, by rw [List.take_add_one, hc]; simp, z0, hz0, by rw [h1, ← hpl]⟩
      show (tIfS _ _ _) _ [some (.ref a), some (.ref ac), some (.ref d), y3, some (.ref f), some (.ref ar), some (.int c.1), some (.int c.2), some vp, y9, y10] H6
      have hd6 := i2' _ _ hd2
      have brkE : EvB (tCB (rAll K) (tCons (tLc (iTup K (tVar 5)) (gTup K 2 (gCons (gName 9) (gCons (gName 10) gNil))) tYes (tDIn (tTup (tCons (tOp rAddI (tOp (rIxT K) (tVar 8) (tC (.int 0))) (tVar 9)) (tCons (tOp rAddI (tOp (rIxT K) (tVar 8) (tC (.int 1))) (tVar 10)) tNil))) (tVar 2)) [9, 10]) tNil)) [some (.ref a), some (.ref ac), some (.ref d), y3, some (.ref f), some (.ref ar), some (.int c.1), some (.int c.2), some vp, y9, y10] H6 (brk R cs pl) :=
        ev_all (H0 := H6) (b := R.map fun z => decide ((z.1 + pl.1, z.2 + pl.2) ∈ cs)) (ev_mapTC (by decide) (evV_var rfl) ((t5.trans e6.text) _ _ har) (hxr.kImp fun _ _ r => r.text (t5.trans e6.text)) tm_bool (by omega) fun z H7 e7 _ =>
          (Kept.din (cs := cs) (e7 _ _ hd6) hk (evV_var rfl) (c := (pl.1 + z.1, pl.2 + z.2)) (evC_tup (evI_add (evI_fst (evC_var rfl (hvp.text e7.text))) (evI_var rfl)) (evI_add (evI_snd (evC_var rfl (hvp.text e7.text))) (evI_var rfl)))).to (by rw [Int.add_comm pl.1, Int.add_comm pl.2]))
      refine s_when (b := brk R cs pl) (evT_B brkE) (fun hb H7 e7 => ?_) (fun hb H7 e7 => ?_)
      · rw [brk_iff] at hb
        refine s_dputC (e7 _ _ i4) evB_c (evV_var rfl) (evC_var rfl (hvp.text e7.text)) (by rw [i5.len]; have : i * cs.length ≤ 64 * cs.length := Nat.mul_le_mul_right _ (by omega); omega) fun v H8 e8 => ⟨⟨_, _, _, _, _, rfl⟩, ?_⟩
        have te : TExt H8 (upd H8 f (.dT (putK kvs (keyC pl) v))) := text_dT (e8 _ _ (e7 _ _ i4))
        have e68 := e7.trans e8
        refine ⟨((t45.trans e6.text).trans e68.text).trans te, (i1'.trans e68.text).trans te, (i2'.trans e68).mut hf0, _, _, upd_same, i5.put pl v, ?_, fun d => ?_⟩
        · split
          · omega
          · rw [List.length_append]; simp; omega
        · rw [stepT d, ← i7 d]
          split
          · rename_i hm
            constructor
            · exact .inl
            · rintro (h | ⟨h, _⟩)
              · exact h
              · rw [h]; exact hm
          · rw [List.mem_append]
            constructor
            · rintro (h | h)
              · exact .inl h
              · have : d = pl := by simpa using h
                exact .inr ⟨this, by rw [this]; exact hb⟩
            · rintro (h | ⟨h, _⟩)
              · exact .inl h
              · exact .inr (by simp [h])
      · refine ⟨⟨_, _, _, _, _, rfl⟩, (t45.trans e6.text).trans e7.text, i1'.trans e7.text, i2'.trans e7, kvs, ds, e7 _ _ i4, i5, by omega, fun d => ?_⟩
        rw [stepT d, i7 d]
        constructor
        · exact .inl
        · rintro (h | ⟨h1, h2⟩)
          · exact h
          · rw [h1] at h2
            rw [brk_iff.mpr h2] at hb; cases hb
    · rintro σ' H5 ⟨⟨y6, y7, y8, y9, y10, rfl⟩, t45, i1', i2', kvs, ds, i4, i5, i6, i7⟩
      refine ⟨⟨_, _, _, _, _, _, rfl⟩, i1', i2', kvs, ds, i4, i5, by rw [zlen] at i6; rw [Nat.add_mul]; omega, fun d => ?_⟩
      rw [i7 d, zlen]
      show (_ ∨ _) ↔ (_ ∨ _)
      have tk : P.take (i + 1) = P.take i ++ [R] := by rw [List.take_add_one, hR]; rfl
      rw [List.take_length, tk]
      constructor
      · rintro (⟨R', h1, h2⟩ | ⟨R', h1, h2, _⟩)
        · exact .inl ⟨R', List.mem_append_left _ h1, h2⟩
        · rw [hR] at h1; cases h1
          exact .inl ⟨R, by simp, h2⟩
      · rintro (⟨R', h1, h2⟩ | ⟨R', h1, h2, e, h3, _⟩)
        · rcases List.mem_append.mp h1 with h | h
          · exact .inl ⟨R', h, h2⟩
          · have : R' = R := by simpa using h
            subst this
            refine .inr ⟨R', hR, h2, (z0.1 + d.1, z0.2 + d.2), h2 z0 (List.mem_of_getElem? hz00), z0, hz0, ?_⟩
            refine Prod.ext ?_ ?_ <;> simp only <;> omega
        · cases h3
  · rintro σ' H4 ⟨⟨y5, y6, y7, y8, y9, y10, rfl⟩, i1', i2', kvs, ds, i4, i5, i6, i7⟩
    rw [hP.kLen] at i7
    refine s_ret (R := fun H v => ∃ ds', BeatR P cs ds' ∧ Row H v ds') (fun H5 e5 Q q => ?_) fun v H5 e5 hv => ?_
    · refine ev_sortedL (ev_new (ev_listDT (evV_var rfl) i4 i5)) H5 e5 _ fun v H6 e6 hv => ?_
      obtain ⟨ds', hd', _, p, ys, rfl, h1, h2, h3⟩ := hv
      refine ⟨p, ys, rfl, .inl ⟨SqL.of h2, fun r hr => q _ _ (e6.trans (same_new hr)) ⟨ds', ⟨fun c => ?_, hd'.nodup_iff.mpr i5.2⟩, r, ys, rfl, upd_same, h3.kImp fun _ _ r => r.text (text_new hr)⟩⟩⟩
      rw [hd'.mem_iff, i7 c]
      show (_ ∨ _) ↔ _
      rw [List.take_length]
      constructor
      · rintro (h | ⟨R, _, _, d, hd, _⟩)
        · exact h
        · cases hd
      · exact .inl
    · obtain ⟨ds', h1, h2⟩ := hv
      exact q v H5 ds' ((i1.trans i2').trans e5) h1 h2
end K84
namespace K84
open L2 PySem PySem.Spec PyProof.Rows
local macro_rules | `(tactic| walk_at "cm") => `(tactic| first | assumption | exact Or.inl ⟨by omega, by omega⟩ | exact Or.inr ⟨by omega, by omega⟩)
local macro_rules | `(tactic| walk_at "ev") => `(tactic| first
  | assumption | exact evI_c | exact evI_var rfl | exact evV_var rfl | exact evC_var rfl (by assumption)
  | (refine evI_add ?_ ?_ <;> walk_at "ev") | (refine evI_sub ?_ ?_ <;> walk_at "ev")
  | (refine evI_mul ?_ ?_ ?_; (· walk_at "ev"); (· walk_at "ev"); (· walk_at "cm"))
  | (refine evI_fst ?_; walk_at "ev") | (refine evI_snd ?_; walk_at "ev") | (refine evI_neg ?_; walk_at "ev")
  | (refine evC_tup ?_ ?_ <;> walk_at "ev") | (refine evP_tup ?_ ?_ <;> walk_at "ev")
  | (refine evB_eq ?_ ?_ <;> walk_at "ev") | (refine evB_ne ?_ ?_ <;> walk_at "ev")
  | (refine evB_lt ?_ ?_ <;> walk_at "ev") | (refine evB_le ?_ ?_ <;> walk_at "ev") | (refine evB_gt ?_ ?_ <;> walk_at "ev") | (refine evB_ge ?_ ?_ <;> walk_at "ev")
  | (refine evT_test ?_; walk_at "ev") | (refine evT_B ?_; walk_at "ev") | (refine evT_not ?_; walk_at "ev") | exact evT_yes)
def Tiny (c : C2) : Prop := c.1.natAbs ≤ 1000 ∧ c.2.natAbs ≤ 1000
def sp__law_turned : Sp := fun vs H Q _ => ∃ (u v w : V) (a b c : C2), vs = [u, v, w] ∧ Cell H u a ∧ Cell H v b ∧ Cell H w c ∧ Tiny a ∧ Tiny b ∧ Tiny c ∧ ∀ H', Same H H' → Q (.int (turnV a b c)) H'
theorem pure__law_turned {K : PySem.W.Frag} (vs : List V) (H : Hp) (Q : VK) (E : XK) (h : sp__law_turned vs H Q E) : t__law_turned K { nx := fun _ H' => Q .non H', rt := Q } (start N__law_turned vs) H := by
  obtain ⟨u, v, w, a, b, c, rfl, ha, hb, hc, ⟨a1, a2⟩, ⟨b1, b2⟩, ⟨c1, c2⟩, q⟩ := h
  show t__law_turned K _ [some u, some v, some w, none] H
  have m1 : CMul (b.1 - a.1) (c.2 - a.2) := cm_l (by omega)
  have m2 : CMul (b.2 - a.2) (c.1 - a.1) := cm_l (by omega)
  refine q_setI (n := (b.1 - a.1) * (c.2 - a.2)) (by walk_at "ev") fun H1 e1 => ?_
  have ha := ha.text e1.text
  have hb := hb.text e1.text
  have hc := hc.text e1.text
  refine s_ret (by walk_at "ev" : EvI _ _ _ ((b.1 - a.1) * (c.2 - a.2) - (b.2 - a.2) * (c.1 - a.1))) fun v H2 e2 hv => ?_
  subst hv
  exact q H2 (e1.trans e2)
def sp__law_half : Sp := fun vs H Q _ => ∃ (v : V) (cs : List C2), vs = [v] ∧ LCells H v cs ∧ (∀ c ∈ cs, Tiny c) ∧ cs.length ≤ 1000 ∧ ∀ v' H', Same H H' → NewL H Cell (halfL cs) H' v' → Q v' H'
theorem pop_mem : ∀ (st : List C2) (c p : C2), p ∈ popS st c → p ∈ st
  | [], _, _, h => h
  | [_], _, _, h => h
  | l :: k :: r, c, p, h => by
    unfold popS at h
    split at h
    · exact List.mem_cons_of_mem _ (pop_mem (k :: r) c p h)
    · exact h
theorem pop_len : ∀ (st : List C2) (c : C2), (popS st c).length ≤ st.length
  | [], _ => Nat.le_refl _
  | [_], _ => Nat.le_refl _
  | l :: k :: r, c => by
    unfold popS
    split
    · exact Nat.le_succ_of_le (pop_len (k :: r) c)
    · exact Nat.le_refl _
theorem chain_go : ∀ (cs st : List C2), (∀ p ∈ cs.foldl (fun s c => c :: popS s c) st, p ∈ st ∨ p ∈ cs) ∧ (cs.foldl (fun s c => c :: popS s c) st).length ≤ st.length + cs.length
  | [], st => ⟨fun p h => .inl h, Nat.le_refl _⟩
  | c :: cs, st => by
    obtain ⟨h1, h2⟩ := chain_go cs (c :: popS st c)
    have h3 := pop_len st c
    refine ⟨fun p hp => ?_, ?_⟩
    · rcases h1 p hp with h | h
      · rcases List.mem_cons.mp h with h | h
        · exact .inr (by simp [h])
        · exact .inl (pop_mem _ _ _ h)
      · exact .inr (List.mem_cons_of_mem _ h)
    · rw [List.foldl_cons]; simp only [List.length_cons] at *; omega
theorem ixN_neg {n k : Nat} (h1 : 0 < k) (h : k ≤ n) : ixN n (-(k : Int)) = some (n - k) := by
  unfold ixN
  rw [if_neg (by omega), if_pos (by omega)]
  congr 1
  omega
theorem cutV_init (xs : List V) : cutV xs none (some (-1)) = xs.dropLast := by
  unfold cutV
  rw [HT.sIx_none]
  have h : HT.sIx xs.length xs.length (some (-1)) = xs.length - 1 := by
    show (if (-1 : Int) < 0 then ((-1 : Int) + (xs.length : Int)).toNat else min (-1 : Int).toNat xs.length) = _
    rw [if_pos (by decide)]; omega
  rw [h, List.drop_zero, Nat.sub_zero, List.dropLast_eq_take]
theorem pure__law_half {K : PySem.W.Frag} (vs : List V) (H : Hp) (Q : VK) (E : XK) (h : sp__law_half vs H Q E) : t__law_half K sp__law_turned { nx := fun _ H' => Q .non H', rt := Q } (start N__law_half vs) H := by
  obtain ⟨v, cs, rfl, ⟨a, xs, rfl, hx, hp⟩, ht, hz, q⟩ := h
  show t__law_half K _ _ [some (.ref a), none, none] H
  refine q_set ev_lst0 fun v1 H1 e1 hv1 => ?_
  obtain ⟨f, rfl, hf0, hf1⟩ := hv1
  have hl := hp.kLen
  refine q_forL (evV_var rfl) (e1 _ _ hx) (fun i σ' H' => (∃ y2, σ' = [some (.ref a), some (.ref f), y2]) ∧ Same H H' ∧ ∃ us, H' f = some (.lst us) ∧ Paired (Cell H') us (chainS (cs.take i)).reverse) (fun H2 e2 => ⟨⟨_, rfl⟩, e1.trans e2, [], e2 _ _ hf1, .nil⟩) (fun i σ' H' _ h => h.2.1 _ _ hx) ?_ ?_
  · rintro i vc σ' H2 hvc ⟨⟨y2, rfl⟩, i1, us, i2, i3⟩
    obtain ⟨c, hc, hcl⟩ := hp.kGetL hvc
    have hcm := List.mem_of_getElem? hc
    have hct := ht c hcm
    have hcl2 := hcl.text i1.text
    have st_mem : ∀ p ∈ chainS (cs.take i), p ∈ cs := fun p hp => by
      rcases (chain_go (cs.take i) []).1 p hp with h | h
      · cases h
      · exact List.mem_of_mem_take h
    have st_len : (chainS (cs.take i)).length ≤ 1000 := by
      have := (chain_go (cs.take i) []).2
      rw [List.length_nil, Nat.zero_add, List.length_take] at this
      show (chainS _).length ≤ _
      exact Nat.le_trans this (by omega)
    have goal : chainS (cs.take (i + 1)) = c :: popS (chainS (cs.take i)) c := by
      show List.foldl _ _ _ = _
      rw [List.take_add_one, hc, Option.toList_some, List.foldl_append]; rfl
    rw [goal]
    generalize chainS (cs.take i) = st0 at *
    show (tSeq _ _) _ [some (.ref a), some (.ref f), some vc] H2
    refine q_while (fun m σ' H' => ∃ st us, m = st.length ∧ σ' = [some (.ref a), some (.ref f), some vc] ∧ Same H H' ∧ TExt H2 H' ∧ H' f = some (.lst us) ∧ Paired (Cell H') us st.reverse ∧ popS st c = popS st0 c ∧ (∀ p ∈ st, p ∈ cs) ∧ st.length ≤ 1000) st0.length ⟨st0, us, rfl, rfl, i1, TExt.refl _, i2, i3, rfl, st_mem, st_len⟩ ?_
    rintro m σ' H3 ⟨st, us, rfl, rfl, j1, j2, j3, j4, j5, j6, j7⟩
    have ul := j4.kLen
    rw [List.length_reverse] at ul
    have lenI : EvI (tCB (rLenSeq K) (tCons (tVar 1) tNil)) [some (.ref a), some (.ref f), some vc] H3 (us.length : Int) := ev_lenL (evV_var rfl) j3
    have fin : ∀ (D : Ends) H4, Same H3 H4 → popS st c = st → (∀ σ' H', ((∃ y2, σ' = [some (.ref a), some (.ref f), y2]) ∧ Same H H' ∧ ∃ us, H' f = some (.lst us) ∧ Paired (Cell H') us (c :: popS st0 c).reverse) → D.nx σ' H') → tDrop (tBM K "list" rAppend (tVar 1) (tCons (tVar 2) tNil)) D [some (.ref a), some (.ref f), some vc] H4 := fun D H4 e4 hpop hD => by
      refine s_app (e4 _ _ j3) (evV_var rfl) (evC_var rfl ((hcl2.text j2).text e4.text)) (by omega) fun v H5 e5 hv => hD _ _ ⟨⟨_, rfl⟩, (j1.trans (e4.trans e5)).mut hf0, _, upd_same, ?_⟩
      have te : TExt H5 (upd H5 f (.lst (us ++ [v]))) := text_lst ((e4.trans e5) _ _ j3)
      rw [← j5, hpop, List.reverse_cons]
      exact (j4.kImp fun _ _ r => r.text ((e4.trans e5).text.trans te)).kSnoc (hv.text te)
    match st, j4, j5, j6, j7, ul, fin with
    | [], j4, j5, j6, j7, ul, fin =>
      refine ⟨false, (evT_and (b := false) (b' := false) ((evT_test (evB_gt lenI evI_c)).to (by simp at ul; simp [ul])) fun h => by cases h), (fun hb => by cases hb), fun _ H4 e4 => fin _ H4 e4 rfl fun _ _ h => h⟩
    | [l], j4, j5, j6, j7, ul, fin =>
      refine ⟨false, (evT_and (b := false) (b' := false) ((evT_test (evB_gt lenI evI_c)).to (by simp at ul; simp [ul])) fun h => by cases h), (fun hb => by cases hb), fun _ H4 e4 => fin _ H4 e4 rfl fun _ _ h => h⟩
    | l :: k :: r, j4, j5, j6, j7, ul, fin =>
      have hlt := ht l (j6 l (by simp))
      have hkt := ht k (j6 k (by simp))
      simp only [List.length_cons] at ul j7
      have rl : (l :: k :: r).reverse.length = r.length + 2 := by simp
      have g1 : (l :: k :: r).reverse[r.length]? = some k := by simp
      have g2 : (l :: k :: r).reverse[r.length + 1]? = some l := by simp
      have en2 : EvI (tUn rNegI (tC (.int 2))) [some (.ref a), some (.ref f), some vc] H3 (-2) := evI_neg evI_c
      have en1 : EvI (tUn rNegI (tC (.int 1))) [some (.ref a), some (.ref f), some vc] H3 (-1) := evI_neg evI_c
      have ek := ev_ixLD (K := K) (Rx := Cell) tm_cell (evV_var (σ := [some (.ref a), some (.ref f), some vc]) (k := 1) rfl) j3 j4 (show ixN (l :: k :: r).reverse.length (-2) = some r.length from by rw [rl]; exact ixN_neg (k := 2) (by omega) (by omega)) g1 en2
      have el := ev_ixLD (K := K) (Rx := Cell) tm_cell (evV_var (σ := [some (.ref a), some (.ref f), some vc]) (k := 1) rfl) j3 j4 (show ixN (l :: k :: r).reverse.length (-1) = some (r.length + 1) from by rw [rl]; exact ixN_neg (k := 1) (by omega) (by omega)) g2 en1
      have et : EvI (tCall sp__law_turned [] E0 (tCons (tOp (rIxL K) (tVar 1) (tUn rNegI (tC (.int 2)))) (tCons (tOp (rIxL K) (tVar 1) (tUn rNegI (tC (.int 1)))) (tCons (tVar 2) tNil)))) [some (.ref a), some (.ref f), some vc] H3 (turnV k l c) :=
        ev_call (evA_3 ek mono_cell el mono_cell (evC_var rfl (hcl2.text j2))) fun H4 vs e hv Q q => by
          obtain ⟨x1, x2, x3, rfl, r1, r2, r3⟩ := hv
          exact ⟨x1, x2, x3, k, l, c, rfl, r1, r2, r3, hkt, hlt, hct, fun H' e' => q _ H' e' rfl⟩
      refine ⟨decide (turnV k l c ≤ 0), ((evT_and (evT_test (evB_gt lenI evI_c)) fun _ => evT_test (evB_le et evI_c)).to (by rw [decide_eq_true (by omega : (1 : Int) < (us.length : Int)), Bool.true_and])), fun hb H4 e4 => ?_, fun hb H4 e4 => fin _ H4 e4 ?_ fun _ _ h => h⟩
      · rw [decide_eq_true_eq] at hb
        refine ⟨fun σ2 H2' => ∃ us, σ2 = [some (.ref a), some (.ref f), some vc] ∧ Same H H2' ∧ TExt H2 H2' ∧ H2' f = some (.lst us) ∧ Paired (Cell H2') us (k :: r).reverse, ?_, ?_⟩
        · rintro σ2 H2' ⟨us', rfl, w1, w2, w3, w4⟩
          refine ⟨(k :: r).length, by simp, k :: r, us', rfl, rfl, w1, w2, w3, w4, ?_, fun p hp => j6 p (List.mem_cons_of_mem _ hp), by simp only [List.length_cons]; omega⟩
          rw [← j5, popS, if_pos hb]
        · have j3' := e4 _ _ j3
          obtain ⟨us', y, rfl⟩ : ∃ us' y, us = us' ++ [y] := ⟨us.dropLast, us.getLast (fun e => by rw [e] at ul; simp at ul), (List.dropLast_concat_getLast _).symm⟩
          refine ⟨_, rfl, .inl ⟨rfl, _, SqL.of j3'⟩, f, us' ++ [y], y, rfl, rfl, j3', by simp, ?_⟩
          rw [List.dropLast_concat]
          have te : TExt H4 (upd H4 f (.lst us')) := text_lst j3'
          refine ⟨us', rfl, (j1.trans e4).mut hf0, (j2.trans e4.text).trans te, upd_same, ?_⟩
          have h := j4.kTake us'.length
          have hul : us'.length = r.length + 1 := by rw [List.length_append] at ul; simp at ul; omega
          rw [List.take_left' rfl] at h
          have e : (l :: k :: r).reverse.take us'.length = (k :: r).reverse := by
            rw [List.reverse_cons, List.take_left' (by rw [hul]; simp)]
          rw [e] at h
          exact h.kImp fun _ _ r => r.text (e4.text.trans te)
      · rw [decide_eq_false_iff_not] at hb
        rw [popS, if_neg hb]
  · rintro σ' H2 ⟨⟨y2, rfl⟩, i1, us, i2, i3⟩
    rw [hl, List.take_length] at i3
    refine s_ret (R := NewL H2 Cell (halfL cs)) (fun H3 e3 Q q => ?_) fun v H3 e3 hv => q v H3 (i1.trans e3) ?_
    · refine ⟨_, rfl, 1, rfl, -1, rfl, f, us, rfl, SqL.of (e3 _ _ i2), fun p hp => q _ _ (same_new hp) ⟨p, _, rfl, e3.free hp, upd_same, ?_⟩⟩
      rw [cutV_init]
      have h := i3.kTake (us.length - 1)
      rw [← List.dropLast_eq_take] at h
      have e : (chainS cs).reverse.take (us.length - 1) = halfL cs := by
        rw [i3.kLen, List.length_reverse]
        unfold halfL
        cases chainS cs with
        | nil => rfl
        | cons c r => rw [List.tail_cons, List.reverse_cons]; exact List.take_left' (by simp)
      rw [e] at h
      exact h.kImp fun _ _ r => (r.text e3.text).text (text_new hp)
    · obtain ⟨p, ys, h1, h2, h3, h4⟩ := hv
      exact ⟨p, ys, h1, i1.free h2, h3, h4⟩
end K84
namespace K84
open L2 PySem PySem.Spec PyProof.Rows
local macro_rules | `(tactic| walk_at "cm") => `(tactic| first | assumption | exact Or.inl ⟨by omega, by omega⟩ | exact Or.inr ⟨by omega, by omega⟩)
local macro_rules | `(tactic| walk_at "ev") => `(tactic| first
  | assumption | exact evI_c | exact evI_var rfl | exact evV_var rfl | exact evC_var rfl (by assumption)
  | (refine evI_add ?_ ?_ <;> walk_at "ev") | (refine evI_sub ?_ ?_ <;> walk_at "ev")
  | (refine evI_mul ?_ ?_ ?_; (· walk_at "ev"); (· walk_at "ev"); (· walk_at "cm"))
  | (refine evI_fst ?_; walk_at "ev") | (refine evI_snd ?_; walk_at "ev") | (refine evI_neg ?_; walk_at "ev")
  | (refine evC_tup ?_ ?_ <;> walk_at "ev") | (refine evP_tup ?_ ?_ <;> walk_at "ev")
  | (refine evB_eq ?_ ?_ <;> walk_at "ev") | (refine evB_ne ?_ ?_ <;> walk_at "ev")
  | (refine evB_lt ?_ ?_ <;> walk_at "ev") | (refine evB_le ?_ ?_ <;> walk_at "ev") | (refine evB_gt ?_ ?_ <;> walk_at "ev") | (refine evB_ge ?_ ?_ <;> walk_at "ev")
  | (refine evT_test ?_; walk_at "ev") | (refine evT_B ?_; walk_at "ev") | (refine evT_not ?_; walk_at "ev") | exact evT_yes)
structure BoxR (P : List (List C2)) (pt : C2 × C2) (ring : List C2) (corner : C2) : Prop where
  c : ∃ c0 : C2, pt = ((c0.1, 1), (c0.2, 1)) ∧ (∃ R ∈ P, ∀ z ∈ R, z = c0) ∧ -900 ≤ c0.1 ∧ c0.1 ≤ 900 ∧ -900 ≤ c0.2 ∧ c0.2 ≤ 900
  len : P.length ≤ 2
  rows : ∀ R ∈ P, R ≠ [] ∧ R.length ≤ 8
  box : BoxRing ring corner.1 corner.2
  tiny : ∀ c ∈ ring, Tiny c
  r0 : 2 ≤ ring.length
  r1 : ring.length ≤ 1000
def sp__law_boxed : Sp := fun vs H Q _ => ∃ (d l : Addr), vs = [.ref d] ∧ Deal d l H ∧ ∀ (a : Addr) (u w : V) H' P pt ring mid corner rows, But d l H H' → H' a = some (.tup [u, w]) → Plain H' u P → PaperV H' w pt ring mid corner rows → BoxR P pt ring corner → Q (.ref a) H'
section
variable {K : PySem.W.Frag} {d l : Addr} {te ta tb tc tl : TE} {σ : L2.St} {H H0 : Hp} {R R' Ra Rb : Hp → V → Prop} {u t t' : TS} {D : Ends} {α : Type} {Rx : Hp → V → α → Prop} {ds es : List α}
theorem EvD.bindD {f : TE → TE} (h : EvD d l te σ H R') (hf : ∀ H1 Q, te σ H1 (fun v H2 => f (tC v) σ H2 Q) → f te σ H1 Q) (k : ∀ v H1, But d l H H1 → R' H1 v → EvD d l (f (tC v)) σ H1 R) : EvD d l (f te) σ H R := fun H1 e Q q =>
  hf H1 Q (h H1 e _ fun v H2 e2 hv => k v H2 (e.trans e2) hv H2 (But.refl e2.deal) Q fun u H3 e3 hu => q u H3 (e2.trans e3) hu)
theorem ev_varLC {k : Nat} {a : Addr} {xs : List V} {cs : List C2} (h : σ[k]? = some (some (.ref a))) (hx : H a = some (.lst xs)) (hp : Paired (Cell H) xs cs) : Ev (tVar k) σ H (fun H v => LCells H v cs) := ev_varL h tm_cell hx hp
/-- [cells[:1]] + [cells[1:] for turn in range(n)], n at most one -/
theorem ev_cutRows {cs : List C2} {n : Nat} {k j : Nat} {a : Addr} {xs : List V} {tn : TE} (hk : σ[k]? = some (some (.ref a))) (hkj : k ≠ j) (hx : H a = some (.lst xs)) (hp : Paired (Cell H) xs cs) (hn : EvI tn σ H (n : Int)) (n1 : n ≤ 1) :
    Ev (tOp rCat (tLst (tCons (tSl (rSlL K) (tVar k) tNoPart (tPart (tC (.int 1)))) tNil)) (tLc (iRng1 (tCons tn tNil)) (gName j) tYes (tSl (rSlL K) (tVar k) (tPart (tC (.int 1))) tNoPart) [j])) σ H (fun H v => Lst H (RowL H) v ([cs.take 1] ++ List.replicate n (cs.drop 1))) := fun H1 e1 Q q => by
  refine ev_slTo (K := K) (k := 1) tm_cell (ev_varLC hk hx hp) evI_c H1 e1 _ fun v H2 e2 hv => ?_
  obtain ⟨p1, ys, rfl, _, hp1, hys⟩ := hv
  refine ⟨by show 1 ≤ sizeLine; decide, fun r hr => ?_⟩
  have e3 : Same H2 (upd H2 r (.lst [.ref p1])) := same_new hr
  have hr3 : (upd H2 r (.lst [.ref p1])) r = some (.lst [.ref p1]) := upd_same
  generalize upd H2 r (.lst [.ref p1]) = H3 at e3 hr3
  have e13 := e1.trans (e2.trans e3)
  refine hn H3 e13 _ fun v H4 e4 hv => ?_
  subst hv
  refine ⟨n, rfl, by omega, by omega, fun D hD => ?_⟩
  rw [Int.toNat_natCast]
  have e14 := e13.trans e4
  refine lc_it (J := Itr 0 n) (n := n) (G := fun _ => True) (Y := YFn fun i => .int (0 + i)) walk_range (fun i H' => Same H4 H' ∧ ∃ zs, H' D = some (.lst zs) ∧ Paired (RowL H') zs (List.replicate i (cs.drop 1))) ⟨same_new hD, [], upd_same, .nil⟩ (fun _ _ _ _ => trivial) ?_ ?_
  · rintro i x H5 H6 hi ⟨e5, zs, hz, hzs⟩ ⟨rfl, rfl⟩
    have hi0 : i = 0 := by omega
    subst hi0
    cases hzs
    have e15 := e14.trans e5
    show wipe ((wipe σ [j]).set j (some (.int (0 + (0 : Nat))))) [j] = wipe σ [j] ∧ _
    rw [wipe1_set]
    refine ⟨by rw [wipe1, wipe1, List.set_set], ?_⟩
    have hk' : (σ.set j (some (.int (0 + (0 : Nat)))))[k]? = some (some (.ref a)) := by rw [List.getElem?_set_ne (Ne.symm hkj)]; exact hk
    refine (ev_slFrom (K := K) (k := 1) tm_cell (ev_varLC hk' (e15 _ _ hx) (hp.kImp fun _ _ r => r.text e15.text)) evI_c : Ev _ _ H6 _) H6 (Same.refl _) _ fun v H7 e7 hv => ?_
    obtain ⟨p2, ws, rfl, hp20, hp2, hws⟩ := hv
    have hD7 := e7 _ _ hz
    have ne : p2 ≠ D := fun z => by rw [z, hz] at hp20; cases hp20
    refine ⟨[], hD7, by rw [sizeLine_eq]; simp, (e5.trans e7).mut hD, [.ref p2], upd_same, .cons ⟨p2, ws, rfl, .inl (by rw [upd_ne ne]; exact hp2), hws.kImp fun _ _ r => r.text (text_lst hD7)⟩ .nil⟩
  · rintro H5 ⟨e5, zs, hz, hzs⟩
    have e35 := e4.trans e5
    refine ⟨r, D, [.ref p1], zs, rfl, rfl, e35 _ _ hr3, hz, by rw [sizeLine_eq, hzs.kLen, List.length_replicate]; simp; omega, fun f hf => ?_⟩
    have e6 : Same H5 (upd H5 f (.lst ([.ref p1] ++ zs))) := same_new hf
    refine q _ _ (e2.trans (e3.trans (e35.trans e6))) ⟨f, _, rfl, upd_same, ?_⟩
    exact (Paired.cons (RowL.same (e3.trans (e35.trans e6)) ⟨p1, ys, rfl, .inl hp1, hys⟩) .nil).kApp (hzs.kImp fun _ _ r => RowL.same e6 r)
/-- xs.extend(ys), ys drawn -/
theorem sD_extend {k : Nat} {p : Addr} {xs : List V} (hD : Deal d l H) (hp : p ≠ d) (hl : p ≠ l) (hx : H p = some (.lst xs)) (ha : σ[k]? = some (some (.ref p))) (h : EvD d l te σ H (fun H' v => ∃ ds : List C2, R H' v ∧ ds.length ≤ 1000 ∧ LD d l Cell ds H' v)) (hz : xs.length ≤ 1000)
    (q : ∀ v ys ds H1, But d l H H1 → R H1 v → Paired (Cell H1) ys ds → v ≠ .ref p ∨ True → LD d l Cell ds H1 v → D.nx σ (upd H1 p (.lst (xs ++ ys)))) :
    tDrop (tBM K "list" rExtend (tVar k) (tCons te tNil)) D σ H :=
  ⟨_, ha, .inl ⟨rfl, xs, SqL.of hx⟩, h H (But.refl hD) _ fun v H1 e ⟨ds, r, dl, hds⟩ => by
    obtain ⟨b, ys, rfl, hb1, hb2, hb, hys⟩ := id hds
    exact ⟨p, b, xs, ys, rfl, rfl, e.old _ _ hp hl hx, hb, by rw [sizeLine_eq, hys.kLen]; omega, q _ ys ds H1 e r hys (.inr trivial) hds⟩⟩
end
theorem cells_keys {H : Hp} : ∀ {xs : List V} {cs : List C2}, Paired (Cell H) xs cs → ∃ ks : List (Addr × C2), xs = ks.map (fun p => V.ref p.1) ∧ (∀ p ∈ ks, Cell H (.ref p.1) p.2) ∧ ks.map (·.2) = cs
  | _, _, .nil => ⟨[], rfl, (fun p hp => nomatch hp), rfl⟩
  | _, _, .cons r t => by
    obtain ⟨ks, h1, h2, h3⟩ := cells_keys t
    obtain ⟨a, rfl, g1⟩ := r
    exact ⟨(a, _) :: ks, by rw [h1]; rfl, fun p hp => by
      rcases List.mem_cons.mp hp with rfl | hp
      · exact ⟨a, rfl, g1⟩
      · exact h2 p hp, by rw [List.map_cons, h3]⟩
theorem cells_paired {H : Hp} : ∀ {L : List (Addr × C2)}, (∀ p ∈ L, Cell H (.ref p.1) p.2) → Paired (Cell H) (L.map fun p => V.ref p.1) (L.map (·.2))
  | [], _ => .nil
  | p :: r, h => .cons (h p List.mem_cons_self) (cells_paired fun q hq => h q (List.mem_cons_of_mem _ hq))
theorem evP_var {σ : L2.St} {H : Hp} {k : Nat} {v : V} {p : C2 × C2} (h : σ[k]? = some (some v)) (r : Pair H v p) : Ev (tVar k) σ H (fun H v => Pair H v p) := ev_varM h mono_pair r
/-- a paper, laid out anew -/
theorem ev_paper6 {σ : L2.St} {H : Hp} {x : Str} {t1 t2 t3 t4 t5 : TE} {pt : C2 × C2} {ring : List C2} {mid corner : C2} {rows : List (List C2)} (h1 : Ev t1 σ H (fun H v => Pair H v pt)) (h2 : Ev t2 σ H (fun H v => Row H v ring)) (h3 : EvC t3 σ H mid) (h4 : EvC t4 σ H corner) (h5 : Ev t5 σ H (fun H v => Plain H v rows)) :
    Ev (tTup (tCons (tC (.str x)) (tCons t1 (tCons t2 (tCons t3 (tCons t4 (tCons t5 tNil))))))) σ H (fun H w => ∃ rows, PaperV H w pt ring mid corner rows) :=
  ev_tup (evA_cons (R := fun _ v => v = .str x) evV_c mono_eq (evA_5 h1 mono_pair h2 mono_row h3 mono_cell h4 mono_cell h5)) (fun _ vs h => by obtain ⟨_, _, rfl, _, _, _, _, _, _, rfl, _⟩ := h; show 6 ≤ 1000; decide) fun H' vs p h hp _ => by
    obtain ⟨_, _, rfl, rfl, v1, v2, v3, v4, v5, rfl, r1, r2, r3, r4, r5⟩ := h
    have te := text_new (o := .tup [.str x, v1, v2, v3, v4, v5]) hp
    exact ⟨rows, p, x, v1, v2, v3, v4, v5, rfl, upd_same, r1.text te, Row.text te r2, r3.text te, r4.text te, r5.text te⟩
/-- (row,) * n -/
theorem ev_repRows {K : PySem.W.Frag} {σ : L2.St} {H : Hp} {te tn : TE} {c : C2} {n : Nat} (h : Ev te σ H (fun H v => Row H v [c])) (hn : EvI tn σ H (n : Int)) (h2 : 2 ≤ n) (h3 : n ≤ 1000) : Ev (tOp (rRepT K) (tTup (tCons te tNil)) tn) σ H (fun H v => Plain H v (List.replicate n [c])) :=
  ev_op (Ra := fun H v => Plain H v [[c]]) (ev_tup (evA_1 h) (fun _ vs h => by obtain ⟨_, rfl, _⟩ := h; show 1 ≤ 1000; decide) fun H' vs p h hp _ => by
    obtain ⟨v, rfl, r⟩ := h
    exact ⟨p, [v], rfl, upd_same, .cons (Row.text (text_new hp) r) .nil⟩) hn mono_plain fun H1 x y e hx hy Q q => by
    obtain ⟨a, xs, rfl, ha, hp⟩ := hx
    have xl := hp.kLen
    refine ⟨a, n, xs, rfl, hy, SqT.of ha, fun z => by rw [z] at xl; simp at xl, by omega, by omega, by simp at xl; omega, fun p hp0 => q _ _ (same_new hp0) ⟨p, _, rfl, upd_same, ?_⟩⟩
    rw [Int.toNat_natCast]
    have h5 := hp.kImp fun _ _ r => Row.text (text_new (o := .tup (List.replicate n xs).flatten) hp0) r
    have rep : ∀ m : Nat, Paired (fun v cs => Row (upd H1 p (.tup (List.replicate n xs).flatten)) v cs) (List.replicate m xs).flatten (List.replicate m [c]) := fun m => by
      induction m with
      | zero => exact .nil
      | succ m ih => rw [List.replicate_succ, List.replicate_succ, List.flatten_cons]; exact h5.kApp ih
    exact rep n
theorem pure__law_boxed {K : PySem.W.Frag} {w : World} (vs : List V) (H : Hp) (Q : VK) (E : XK) (h : sp__law_boxed vs H Q E) : t__law_boxed K w sp__law_draw sp__law_cells sp__law_least sp__law_half { nx := fun _ H' => Q .non H', rt := Q } (start N__law_boxed vs) H := by
  obtain ⟨d, l, rfl, hD, q⟩ := h
  show t__law_boxed K w _ _ _ _ _ [some (.ref d), none, none, none, none, none, none, none, none, none, none, none, none, none] H
  have dr : ∀ {σ : L2.St} {H : Hp} {m : Int}, σ[0]? = some (some (.ref d)) → 0 < m → m < 100 → EvDI d l (tCall sp__law_draw [] E0 (tCons (tVar 0) (tCons (tC (.int m)) tNil))) σ H (fun n => 0 ≤ n ∧ n < m) := fun h h1 h2 => evD_draw h (fun H1 e => evI_c) h1 (by omega)
  -- the cells
  refine qD_set hD (evD_cells (P := fun n => n = 1 ∨ n = 2 ∨ n = 3 ∨ n = 8) rfl ((evD_pick (Rx := fun _ => IsI) (ds := [1, 2, 3, 8]) tm_int (evD_new fun H1 e => ev_lstA tm_int (evA_pcons tm_int evI_c (evA_pcons tm_int evI_c (evA_pcons tm_int evI_c (evA_pcons tm_int evI_c evA_pnil)))) (by decide)) (dr rfl (by decide) (by decide))).imp fun H' v _ ⟨x, hx, hv⟩ => ⟨x, hv, by simpa using hx⟩) (fun n h => by omega)) fun v1 H1 e1 hv1 => ?_
  obtain ⟨cs, hcl, csn, csb, ac, xc, rfl, acd, acl, hac, hxc⟩ := hv1
  have c8 : 1 ≤ cs.length ∧ cs.length ≤ 8 := by omega
  have hk := hxc.kLen
  obtain ⟨c0, hc0⟩ : ∃ c, cs[0]? = some c := ⟨cs[0], List.getElem?_eq_getElem (by omega)⟩
  have c0m := List.mem_of_getElem? hc0
  have ct1 : cs.take 1 = [c0] := by
    cases cs with
    | nil => cases hc0
    | cons c r => cases hc0; rfl
  -- the rule
  show (tSeq _ _) _ [some (.ref d), some (.ref ac), none, none, none, none, none, none, none, none, none, none, none, none] H1
  let n1 : Nat := if decide (1 < cs.length) = true then 1 else 0
  have n1l : n1 ≤ 1 := by show (if _ then _ else _) ≤ 1; split <;> omega
  let Rs : List (List C2) := [cs.take 1] ++ List.replicate n1 (cs.drop 1)
  have RsN : ∀ S ∈ Rs, S.Nodup ∧ S ≠ [] ∧ S.length ≤ 8 := fun S hS => by
    rcases List.mem_append.mp hS with h | h
    · rw [List.mem_singleton.mp h]
      refine ⟨(List.take_sublist _ _).nodup csn, by rw [ct1]; simp, by rw [ct1]; show 1 ≤ 8; omega⟩
    · obtain ⟨hn, rfl⟩ := List.mem_replicate.mp h
      have hgt : 1 < cs.length := by
        by_cases hc : 1 < cs.length
        · exact hc
        · exact absurd (show n1 = 0 by show (if _ then _ else _) = 0; rw [if_neg (by simpa using hc)]) hn
      refine ⟨(List.drop_sublist _ _).nodup csn, fun e => ?_, by rw [List.length_drop]; omega⟩
      have := congrArg List.length e
      rw [List.length_drop] at this; simp at this; omega
  have RsL : Rs.length ≤ 2 := by show (_ ++ _ : List _).length ≤ 2; rw [List.length_append, List.length_replicate]; simp; omega
  refine q_set (R := fun H v => ∃ P, Plain H v P ∧ Least Rs P) (ev_call (evA_1 (ev_cutRows (n := n1) (k := 1) (j := 2) rfl (by decide) hac hxc ?_ n1l)) fun H2 vs e hv Q q => ?_) fun v3 H2 e2 hv3 => ?_
  · refine (ev_intB (evB_gt (ev_lenL (evV_var rfl) hac) evI_c)).to ?_
    show (if decide ((1 : Int) < (xc.length : Int)) = true then (1 : Int) else 0) = ((if decide (1 < cs.length) = true then 1 else 0 : Nat) : Int)
    rw [hk]
    by_cases hc : 1 < cs.length
    · rw [if_pos (decide_eq_true (by omega)), if_pos (decide_eq_true hc)]; rfl
    · rw [if_neg (by rw [decide_eq_true_eq]; omega), if_neg (by rw [decide_eq_true_eq]; exact hc)]; rfl
  · obtain ⟨v, rfl, hv⟩ := hv
    exact ⟨v, Rs, rfl, hv, by omega, fun S hS => ⟨(RsN S hS).1, (RsN S hS).2.1, by have := (RsN S hS).2.2; omega⟩, fun v' H' P e h1 h2 => q v' H' e ⟨P, h1, h2⟩⟩
  obtain ⟨P, hP, hL⟩ := hv3
  have PN : ∀ R ∈ P, R ≠ [] ∧ R.length ≤ 8 := fun R hR => by
    obtain ⟨S, hS, pm⟩ := hL.row R hR
    obtain ⟨_, h2, h3⟩ := RsN S hS
    exact ⟨fun e => by rw [e] at pm; exact h2 pm.nil_eq.symm, by rw [pm.length_eq]; exact h3⟩
  have PR : ∃ R ∈ P, ∀ z ∈ R, z = c0 := by
    obtain ⟨R, hR, hs⟩ := hL.low (cs.take 1) (List.mem_append_left _ (by simp))
    exact ⟨R, hR, fun z hz => by have := hs z hz; rw [ct1] at this; simpa using this⟩
  have B12 := But.of e1.deal e2
  have e2' := e1.trans B12
  -- the corner
  show (tSeq _ _) _ [some (.ref d), some (.ref ac), none, some v3, none, none, none, none, none, none, none, none, none, none] H2
  have sub4 : ∀ {σ : L2.St} {H : Hp}, σ[0]? = some (some (.ref d)) → EvDI d l (tOp rSubI (tCall sp__law_draw [] E0 (tCons (tVar 0) (tCons (tC (.int 9)) tNil))) (tC (.int 4))) σ H (fun i => -4 ≤ i ∧ i ≤ 4) := fun h =>
    evD_I0 (dr h (by decide) (by decide)) (evDI_pure (P := fun i => i = 4) (fun H1 e => evI_c) rfl) (fun i j h1 h2 => by omega)
  refine qD_asg e2'.deal (evD_cell (sub4 rfl) (sub4 rfl)) fun vp H3 e3 hvp => ?_
  obtain ⟨⟨x, y⟩, hxy, ⟨x0, x1⟩, y0, y1⟩ := hvp
  simp only at x0 x1 y0 y1
  refine g_cell hxy ?_
  show (tSeq _ _) _ [some (.ref d), some (.ref ac), none, some v3, some (.int x), some (.int y), none, none, none, none, none, none, none, none] H3
  -- some
  refine q_set (R := NewL H3 Cell [(x, y), (x + 1, y), (x, y + 1), (x + 1, y + 1)]) (ev_lstA tm_cell (evA_pcons tm_cell (evC_tup (evI_var rfl) (evI_var rfl)) (evA_pcons tm_cell (evC_tup (evI_add (evI_var rfl) evI_c) (evI_var rfl)) (evA_pcons tm_cell (evC_tup (evI_var rfl) (evI_add (evI_var rfl) evI_c)) (evA_pcons tm_cell (evC_tup (evI_add (evI_var rfl) evI_c) (evI_add (evI_var rfl) evI_c)) evA_pnil)))) (by show 4 ≤ 1000; omega)) fun v6 H4 e4 hv6 => ?_
  have B34 := But.of e3.deal e4
  have e24 := e3.trans B34
  have e4' := e2'.trans e24
  have hv6d := hv6.ld e3.deal
  obtain ⟨s6, us, rfl, s60, hs6, hus⟩ := hv6
  have s6d := e3.deal.free_d s60
  have s6l := e3.deal.free_l s60
  show (tSeq _ _) _ [some (.ref d), some (.ref ac), none, some v3, some (.int x), some (.int y), some (.ref s6), none, none, none, none, none, none, none] H4
  let four : List C2 := [(x, y), (x + 1, y), (x, y + 1), (x + 1, y + 1)]
  have okc : ∀ c : C2, (-20 ≤ c.1 ∧ c.1 ≤ 20 ∧ -20 ≤ c.2 ∧ c.2 ≤ 20) → Tiny c := fun c h => ⟨by omega, by omega⟩
  -- the rest, from any list some
  have rest : ∀ (D : Ends) (y2 : Option V) (v6 : V) (H5 : Hp) (som : List C2), D.rt = Q → But d l H3 H5 → LD d l Cell som H5 v6 → (x, y) ∈ som → (x + 1, y) ∈ som → som.length ≤ 60 → (∀ c ∈ som, -20 ≤ c.1 ∧ c.1 ≤ 20 ∧ -20 ≤ c.2 ∧ c.2 ≤ 20) →
      (tSeq (tAsg (tOp (rIxL K) (tVar 6) (tCall sp__law_draw [] E0 (tCons (tVar 0) (tCons (tCB (rLenSeq K) (tCons (tVar 6) tNil)) tNil)))) (gName 7))
    (tSeq (tAsg (tCB (rSortedC w) (tCons (tCB (rSetOfC w) (tCons (tVar 6) tNil)) tNil)) (gName 8))
    (tSeq (tAsg (tOp rCat (tCall sp__law_half [] E0 (tCons (tVar 8) tNil)) (tCall sp__law_half [] E0 (tCons (tRevL K (tVar 8)) tNil))) (gName 9))
    (tSeq (tAsg (tCall sp__law_draw [] E0 (tCons (tVar 0) (tCons (tCB (rLenSeq K) (tCons (tVar 9) tNil)) tNil))) (gName 10))
    (tSeq (tAsg (tOp rRep (tOp rCat (tSl (rSlL K) (tVar 9) (tPart (tVar 10)) tNoPart) (tSl (rSlL K) (tVar 9) tNoPart (tPart (tVar 10)))) (tOp rAddI (tC (.int 1)) (tCB rInt1 (tCons (tOp rEq (tCall sp__law_draw [] E0 (tCons (tVar 0) (tCons (tC (.int 5)) tNil))) (tC (.int 0))) tNil)))) (gName 9))
    (tSeq (tAsg (tOp (rIxL K) (tVar 1) (tC (.int 0))) (gTup K 2 (gCons (gName 11) (gCons (gName 12) gNil))))
    (tSeq (tAsg (tTup (tCons (tTup (tCons (tVar 11) (tCons (tC (.int 1)) tNil))) (tCons (tTup (tCons (tVar 12) (tCons (tC (.int 1)) tNil))) tNil))) (gName 13))
    (tRet (tTup (tCons (tVar 3) (tCons (tTup (tCons (tC (.str (PySem.Str.ofString "lives"))) (tCons (tVar 13) (tCons (tCB (rTupleOf K) (tCons (tVar 9) tNil)) (tCons (tVar 7) (tCons (tTup (tCons (tVar 4) (tCons (tVar 5) tNil))) (tCons (tOp (rRepT K) (tTup (tCons (tCB (rTupleOf K) (tCons (tSl (rSlL K) (tVar 1) tNoPart (tPart (tC (.int 1)))) tNil)) tNil)) (tCB (rLenSeq K) (tCons (tVar 9) tNil))) tNil))))))) tNil)))))))))))
        D [some (.ref d), some (.ref ac), y2, some v3, some (.int x), some (.int y), some v6, none, none, none, none, none, none, none] H5 := fun D y2 v6 H5 som hDq e35 hsom h00 h10 hsl hsb => by
    have hsp : 0 < som.length := List.length_pos_of_mem h00
    -- middle
    refine qD_set e35.deal (evD_pick (K := K) (Rx := Cell) tm_cell (evD_varM rfl (LD.mono tm_cell) hsom) (evD_draw rfl (fun H1 e => ev_lenN (ev_var (v := v6) rfl fun H' e' => (LD.same tm_cell e' (LD.mono tm_cell _ _ _ e hsom)).lst)) (by omega) (by omega))) fun v7 H6 e6 hv7 => ?_
    obtain ⟨mid, hmid, hv7⟩ := hv7
    have hsom6 := LD.mono tm_cell _ _ _ e6 hsom
    -- order
    show (tSeq _ _) _ [some (.ref d), some (.ref ac), y2, some v3, some (.int x), some (.int y), some v6, some v7, none, none, none, none, none, none] H6
    refine q_set (R := fun H' v => ∃ order : List C2, SortedC order ∧ order.Nodup ∧ (∀ c, c ∈ order ↔ c ∈ som) ∧ order.length ≤ 60 ∧ LCells H' v order) (ev_cb1 (R' := fun H' v => ∃ (P' : Program) (b : Addr) (L : List (Addr × C2)), v = .ref b ∧ H' b = some (SetTO P' w b (tkey L)) ∧ (∀ p ∈ L, Cell H' (.ref p.1) p.2) ∧ ∀ c, c ∈ L.map (·.2) ↔ c ∈ som) (ev_cb1 (ev_var (R := fun H v => LCells H v som) (v := v6) rfl fun H' e' => (LD.same tm_cell e' hsom6).lst) fun v H7 e7 hv Q q => ?_) fun v H7 e7 hv Q q => ?_) fun v8 H7 e7 hv8 => ?_
    · obtain ⟨p, ys, rfl, hp1, hys⟩ := hv
      obtain ⟨ks, rfl, k1, k2⟩ := cells_keys hys
      refine ⟨p, ks, rfl, hp1, k1, by rw [← List.length_map (f := fun p : Addr × C2 => p.2), k2]; omega, fun P' b L hb l1 l2 => q _ _ (same_new hb) ⟨P', b, L, rfl, upd_same, fun r hr => (k1 r (l1 r hr)).text (text_new hb), fun c => ?_⟩⟩
      constructor
      · intro hc
        obtain ⟨r, hr, rfl⟩ := List.mem_map.mp hc
        rw [← k2]; exact List.mem_map.mpr ⟨r, l1 r hr, rfl⟩
      · intro hc
        rw [← k2] at hc
        obtain ⟨r, hr, rfl⟩ := List.mem_map.mp hc
        exact l2 r hr
    · obtain ⟨P', b, L, rfl, hb, l1, l3⟩ := hv
      refine ⟨P', b, L, rfl, hb, l1, fun L' p pm l2 hs hp => q _ _ (same_new hp) ⟨L'.map (·.2), List.pairwise_map.mpr hs, l2, fun c => by rw [(pm.map (·.2)).mem_iff]; exact l3 c, ?_, p, _, rfl, upd_same, cells_paired fun r hr => (l1 r (pm.mem_iff.mp hr)).text (text_new hp)⟩⟩
      refine Nat.le_trans (nodup_le (m := som) l2 fun c hc => (l3 c).mp ((pm.map (·.2)).mem_iff.mp hc)) hsl
    obtain ⟨order, hos, hon, hom, hol, o8, xo, rfl, ho8, hxo⟩ := hv8
    have e67 := But.of e6.deal e7
    have hot : ∀ c ∈ order, Tiny c := fun c hc => okc c (hsb c ((hom c).mp hc))
    show (tSeq _ _) _ [some (.ref d), some (.ref ac), y2, some v3, some (.int x), some (.int y), some v6, some v7, some (.ref o8), none, none, none, none, none] H7
    have hh : ∀ {tl : TE} {σ : L2.St} {cs : List C2}, Ev tl σ H7 (fun H v => LCells H v cs) → (∀ c ∈ cs, Tiny c) → cs.length ≤ 60 → Ev (tCall sp__law_half [] E0 (tCons tl tNil)) σ H7 (fun H v => LCells H v (halfL cs)) := fun h1 h2 h3 =>
      ev_call (evA_1 h1) fun H8 vs e hv Q q => by
        obtain ⟨v, rfl, hv⟩ := hv
        exact ⟨v, _, rfl, hv, h2, by omega, fun v' H' e h => q v' H' e h.lst⟩
    have half_len : ∀ cs : List C2, (halfL cs).length ≤ cs.length := fun cs => by
      unfold halfL
      rw [List.length_reverse, List.length_tail]
      have := (chain_go cs []).2
      rw [List.length_nil, Nat.zero_add] at this
      show (chainS cs).length - 1 ≤ _
      have h : (chainS cs).length ≤ cs.length := this
      omega
    have hl1 := half_len order
    have hl2 := half_len order.reverse
    rw [List.length_reverse] at hl2
    refine q_set (R := NewL H7 Cell (halfL order ++ halfL order.reverse)) (ev_cat tm_cell (hh (ev_varLC rfl ho8 hxo) hot hol) (hh (cs := order.reverse) (fun H8 e8 Q q => ⟨_, rfl, o8, xo, rfl, SqL.of (e8 _ _ ho8), fun p hp => q _ _ (same_new hp) ⟨p, _, rfl, upd_same, (hxo.kRev).kImp fun _ _ r => (r.text e8.text).text (text_new hp)⟩⟩) (fun c hc => hot c (List.mem_reverse.mp hc)) (by rw [List.length_reverse]; exact hol)) (by omega)) fun v9 H8 e8 hv9 => ?_
    obtain ⟨B0, hsub0, hr2⟩ := box_half hos hon ((hom _).mpr h00) ((hom _).mpr h10)
    have hv9d := hv9.ld e67.deal
    have e78 := But.of e67.deal e8
    show (tSeq _ _) _ [some (.ref d), some (.ref ac), y2, some v3, some (.int x), some (.int y), some v6, some v7, some (.ref o8), some v9, none, none, none, none] H8
    generalize hr0 : halfL order ++ halfL order.reverse = r0 at hv9d hr2 B0 hsub0
    have hr0l : r0.length ≤ 120 := by rw [← hr0, List.length_append]; omega
    refine qD_set e78.deal (evD_draw rfl (fun H1 e => ev_lenN (ev_var (v := v9) rfl fun H' e' => (LD.same tm_cell e' (LD.mono tm_cell _ _ _ e hv9d)).lst)) (by omega) (by omega)) fun v10 H9 e9 hv10 => ?_
    obtain ⟨at', rfl, a0, a1⟩ := hv10
    obtain ⟨ak, rfl⟩ := Int.eq_ofNat_of_zero_le a0
    have hak : ak < r0.length := by omega
    have hv9' := LD.mono tm_cell _ _ _ e9 hv9d
    show (tSeq _ _) _ [some (.ref d), some (.ref ac), y2, some v3, some (.int x), some (.int y), some v6, some v7, some (.ref o8), some v9, some (.int ak), none, none, none] H9
    refine qD_set e9.deal (R := fun H' v => ∃ m : Nat, 1 ≤ m ∧ LD d l Cell (List.replicate m (r0.drop ak ++ r0.take ak)).flatten H' v ∧ m ≤ 2) (evD_op (Ra := LD d l Cell (r0.drop ak ++ r0.take ak)) (Rb := fun _ v => ∃ i, v = .int i ∧ (i = 1 ∨ i = 2)) (evD_new fun H1 e => ?_) (evD_I0 (P := fun i => i = 1) (P' := fun i => i = 0 ∨ i = 1) (evDI_pure (fun H1 e => evI_c) rfl) (evD_cb (R' := fun _ v => ∃ b, v = .bl b) (evD_op (dr rfl (by decide) (by decide)) (evD_pure (R := fun _ v => v = .int 0) fun H1 e => evI_c) monoD_c fun H1 u z e hu hz Q q => ?_) fun v H1 e hv => ?_) fun i j h1 h2 => by omega) (LD.mono tm_cell) fun H1 u z e hu hz Q q => ?_) fun v9' H10 e10 hv9' => ?_
    · have h9 := LD.mono tm_cell _ _ _ e hv9'
      have hvar : ∀ {σ : L2.St}, σ[9]? = some (some v9) → Ev (tVar 9) σ H1 (fun H v => LCells H v r0) := fun h => ev_var (v := v9) h fun H' e' => (LD.same tm_cell e' h9).lst
      exact ev_cat tm_cell (ev_new (ev_slFrom tm_cell (hvar rfl) (evI_var rfl))) (ev_new (ev_slTo tm_cell (hvar rfl) (evI_var rfl))) (by rw [List.length_drop, List.length_take]; omega)
    · obtain ⟨n, rfl, _⟩ := hu
      subst hz
      exact ⟨rfl, q _ H1 (But.refl e.deal) ⟨_, rfl⟩⟩
    · obtain ⟨b, rfl⟩ := hv
      refine (ev_intB (b := b) (fun H2 _ Q q => q _ H2 (Same.refl _) rfl)).imp fun H' v _ hv => ⟨_, hv, ?_⟩
      cases b <;> simp
    · obtain ⟨p, xs, rfl, h1, h2, h3, h4⟩ := hu
      obtain ⟨i, rfl, hi⟩ := hz
      have xl := h4.kLen
      rw [List.length_append, List.length_drop, List.length_take] at xl
      refine ⟨p, i, xs, rfl, rfl, h3, by omega, by omega, ?_, fun f hf => q _ _ ((But.refl e.deal).mut hf) ⟨i.toNat, by omega, ⟨f, _, rfl, e.deal.free_d hf, e.deal.free_l hf, upd_same, ?_⟩, by omega⟩⟩
      · rw [sizeLine_eq]
        have : xs.length * i.toNat ≤ xs.length * 2 := Nat.mul_le_mul_left _ (by omega)
        omega
      · have h5 := h4.kImp fun _ _ (r : Cell H1 _ _) => r.text (text_new (o := .lst (List.replicate i.toNat xs).flatten) hf)
        have rep : ∀ m : Nat, Paired (Cell (upd H1 f (.lst (List.replicate i.toNat xs).flatten))) (List.replicate m xs).flatten (List.replicate m (r0.drop ak ++ r0.take ak)).flatten := fun m => by
          induction m with
          | zero => exact .nil
          | succ m ih => rw [List.replicate_succ, List.replicate_succ, List.flatten_cons, List.flatten_cons]; exact h5.kApp ih
        exact rep _
    obtain ⟨m, m1, hv9'', m2⟩ := hv9'
    obtain ⟨B, hsub, hrl⟩ := box_ring (at' := ak) (m := m) hos hon ((hom _).mpr h00) ((hom _).mpr h10) (by rw [hr0]; exact hak) m1 rfl
    rw [hr0] at B hsub hrl
    generalize hring : (List.replicate m (r0.drop ak ++ r0.take ak)).flatten = ring at B hsub hrl hv9''
    have ringl : ring.length ≤ 240 := by
      rw [← hring, rep_len, List.length_append, List.length_drop, List.length_take]
      have : m * (r0.length - ak + min ak r0.length) ≤ 2 * (r0.length - ak + min ak r0.length) := Nat.mul_le_mul_right _ m2
      omega
    have hrt : ∀ c ∈ ring, Tiny c := fun c hc => hot c (hsub c hc)
    have e310 : But d l H3 H10 := e35.trans (e6.trans (e67.trans (e78.trans (e9.trans e10))))
    have e110 : But d l H1 H10 := B12.trans (e3.trans e310)
    have hac10 := e110.old _ _ acd acl hac
    have hxc10 := hxc.kImp fun _ _ (r : Cell H1 _ _) => r.text e110.text
    show (tSeq _ _) _ [some (.ref d), some (.ref ac), y2, some v3, some (.int x), some (.int y), some v6, some v7, some (.ref o8), some v9', some (.int ak), none, none, none] H10
    refine q_asg (R := fun H v => Cell H v c0) (ev_ixLD (k := 0) tm_cell (evV_var rfl) hac10 hxc10 (ixN_nat (j := 0) (by omega)) hc0 evI_c) fun vc H11 e11 hvc => g_cell hvc ?_
    show (tSeq _ _) _ [some (.ref d), some (.ref ac), y2, some v3, some (.int x), some (.int y), some v6, some v7, some (.ref o8), some v9', some (.int ak), some (.int c0.1), some (.int c0.2), none] H11
    refine q_set (R := fun H v => Pair H v ((c0.1, 1), (c0.2, 1))) (evP_tup (evC_tup (evI_var rfl) evI_c) (evC_tup (evI_var rfl) evI_c)) fun v13 H12 e12 hv13 => ?_
    show tRet _ _ [some (.ref d), some (.ref ac), y2, some v3, some (.int x), some (.int y), some v6, some v7, some (.ref o8), some v9', some (.int ak), some (.int c0.1), some (.int c0.2), some v13] H12
    have e1012 := e11.trans e12
    have B1012 := But.of e10.deal e1012
    have tx212 : TExt H2 H12 := (e3.trans (e310.trans B1012)).text
    have hring12 := LD.same tm_cell e1012 hv9''
    have tx612 : TExt H6 H12 := (e67.trans (e78.trans (e9.trans (e10.trans B1012)))).text
    have varR : ∀ {σ : L2.St}, σ[9]? = some (some v9') → Ev (tVar 9) σ H12 (fun H v => LCells H v ring) := fun h => ev_var h fun H' e' => (LD.same tm_cell e' hring12).lst
    refine s_ret (R := fun H v => ∃ (a : Addr) (u w : V), v = .ref a ∧ H a = some (.tup [u, w]) ∧ Plain H u P ∧ ∃ rows, PaperV H w ((c0.1, 1), (c0.2, 1)) ring mid (x, y) rows)
      (ev_tup (evA_2 (ev_varM rfl mono_plain (hP.text tx212)) mono_plain (ev_paper6 (evP_var rfl hv13) (ev_tupleOf tm_cell (varR rfl)) (evC_var rfl (hv7.text tx612)) (evC_tup (evI_var rfl) (evI_var rfl)) (ev_repRows (c := c0) (n := ring.length) ?_ (ev_lenN (varR rfl)) hrl (by omega)))) (fun _ vs h => by obtain ⟨_, _, rfl, _⟩ := h; show 2 ≤ 1000; decide) fun H' vs p h hp _ => ?_) fun v H13 e13 hv => ?_
    · have := ev_tupleOf (K := K) tm_cell (ev_new (ev_slTo (K := K) (k := 1) tm_cell (ev_varLC (σ := [some (.ref d), some (.ref ac), y2, some v3, some (.int x), some (.int y), some v6, some v7, some (.ref o8), some v9', some (.int ak), some (.int c0.1), some (.int c0.2), some v13]) (k := 1) rfl (e1012 _ _ hac10) (hxc10.kImp fun _ _ r => r.text e1012.text)) evI_c))
      rw [ct1] at this
      exact this
    · obtain ⟨u, w', rfl, h1, rows, h2⟩ := h
      exact ⟨p, u, w', rfl, upd_same, h1.text (text_new hp), rows, h2.text (text_new hp)⟩
    · obtain ⟨a, u, w', rfl, h1, h2, rows, h3⟩ := hv
      rw [hDq]
      exact q a u w' H13 P _ ring mid (x, y) rows ((e1.trans e110).trans (B1012.trans (But.of B1012.deal e13))) h1 h2 h3 ⟨⟨c0, rfl, PR, csb c0 c0m⟩, Nat.le_trans hL.len RsL, PN, B, hrt, hrl, by omega⟩
  have addD : ∀ {σ : L2.St} {H : Hp} {k : Nat} {n : Int}, σ[0]? = some (some (.ref d)) → σ[k]? = some (some (.int n)) → EvDI d l (tOp rAddI (tOp rAddI (tVar k) (tC (.int 2))) (tCall sp__law_draw [] E0 (tCons (tVar 0) (tCons (tC (.int 3)) tNil)))) σ H (fun i => n + 2 ≤ i ∧ i ≤ n + 4) := fun {σ H k n} h hk =>
    evD_I0 (evDI_pure (P := fun i => i = n + 2) (fun H1 e => evI_add (evI_var hk) evI_c) rfl) (dr h (by decide) (by decide)) (fun i j h1 h2 => by omega)
  refine qD_if e4'.deal (dr rfl (by decide) (by decide)) (fun H5 e5 => ?_) fun H5 e5 => ?_
  · -- two more
    refine sD_set e5.deal (R := fun H' v => ∃ som, LD d l Cell som H' v ∧ (x, y) ∈ som ∧ (x + 1, y) ∈ som ∧ som.length ≤ 60 ∧ ∀ c ∈ som, -20 ≤ c.1 ∧ c.1 ≤ 20 ∧ -20 ≤ c.2 ∧ c.2 ≤ 20) (evD_op (Ra := LD d l Cell four) (Rb := fun H v => ∃ a b : C2, (-20 ≤ a.1 ∧ a.1 ≤ 20 ∧ -20 ≤ a.2 ∧ a.2 ≤ 20) ∧ (-20 ≤ b.1 ∧ b.1 ≤ 20 ∧ -20 ≤ b.2 ∧ b.2 ≤ 20) ∧ LD d l Cell [a, b] H v) (evD_varM rfl (LD.mono tm_cell) (LD.mono tm_cell _ _ _ e5 hv6d)) ?_ (LD.mono tm_cell) fun H6 u z e6 hu hz Q q => ?_) fun v6 H6 e6 hv6 => ?_
    · refine (evD_lst2 (pa := fun c => -20 ≤ c.1 ∧ c.1 ≤ 20 ∧ -20 ≤ c.2 ∧ c.2 ≤ 20) (pb := fun c => -20 ≤ c.1 ∧ c.1 ≤ 20 ∧ -20 ≤ c.2 ∧ c.2 ≤ 20)
        ((evD_cell (addD (n := x) rfl rfl) (evDI_pure (P := fun i => i = y) (fun H1 e => evI_var rfl) rfl)).imp fun H' v _ ⟨c, h1, h2, h3⟩ => ⟨c, h1, by omega⟩)
        ((evD_cell (evDI_pure (P := fun i => i = x) (fun H1 e => evI_var rfl) rfl) (addD (n := y) rfl rfl)).imp fun H' v _ ⟨c, h1, h2, h3⟩ => ⟨c, h1, by omega⟩)).imp fun H' v _ ⟨a, b, ha, hb, hn⟩ => ⟨a, b, ha, hb, hn.ld e5.deal⟩
    · obtain ⟨p, xs, rfl, h1, h2, h3, h4⟩ := hu
      obtain ⟨a, b, ha, hb, p2, ys, rfl, g1, g2, g3, g4⟩ := hz
      have xl := h4.kLen
      have yl := g4.kLen
      simp only [four, List.length_cons, List.length_nil] at xl yl
      refine ⟨p, p2, xs, ys, rfl, rfl, h3, g3, by rw [sizeLine_eq]; omega, fun f hf => q _ _ ((But.refl e6.deal).mut hf) ⟨four ++ [a, b], ⟨f, _, rfl, e6.deal.free_d hf, e6.deal.free_l hf, upd_same, (h4.kImp fun _ _ r => r.text (text_new hf)).kApp (g4.kImp fun _ _ r => r.text (text_new hf))⟩, by simp [four], by simp [four], by simp [four], fun c hc => ?_⟩⟩
      rcases List.mem_append.mp hc with h | h
      · simp [four] at h
        rcases h with h | h | h | h <;> rw [h] <;> simp only <;> omega
      · rcases List.mem_cons.mp h with h | h
        · rw [h]; exact ha
        · rw [List.mem_singleton.mp h]; exact hb
    · obtain ⟨som, h1, h2, h3, h4, h5⟩ := hv6
      exact rest _ none v6 H6 som rfl (B34.trans (e5.trans e6)) h1 h2 h3 h4 h5
  · -- some more
    have B35 := B34.trans e5
    have hs65 := e5.old _ _ s6d s6l hs6
    have dr7 : ∀ {σ : L2.St} {H : Hp} {k : Nat} {n : Int}, σ[0]? = some (some (.ref d)) → σ[k]? = some (some (.int n)) → EvDI d l (tOp rSubI (tOp rAddI (tVar k) (tCall sp__law_draw [] E0 (tCons (tVar 0) (tCons (tC (.int 7)) tNil)))) (tC (.int 3))) σ H (fun i => n - 3 ≤ i ∧ i ≤ n + 3) := fun {σ H k n} h hk =>
      evD_I0 (P' := fun i => i = 3) (evD_I0 (P := fun i => i = n) (P'' := fun i => n ≤ i ∧ i < n + 7) (evDI_pure (fun H1 e => evI_var hk) rfl) (dr h (by decide) (by decide)) (fun i j h1 h2 => by omega)) (evDI_pure (fun H1 e => evI_c) rfl) (fun i j h1 h2 => by omega)
    refine sD_extend (R := fun H' v => ∃ bs : List C2, (∀ b ∈ bs, -20 ≤ b.1 ∧ b.1 ≤ 20 ∧ -20 ≤ b.2 ∧ b.2 ≤ 20) ∧ bs.length < 5 ∧ LD d l Cell bs H' v) e5.deal s6d s6l hs65 rfl ?_ (by rw [hus.kLen]; show 4 ≤ 1000; omega) fun v ys ds H6 e6 hR hys _ hds => ?_
    · intro H6 e6 Q q
      refine (dr (σ := [some (.ref d), some (.ref ac), none, some v3, some (.int x), some (.int y), some (.ref s6), none, none, none, none, none, none, none]) (m := 5) rfl (by decide) (by decide)) H6 e6 _ fun v H7 e7 hv => ?_
      obtain ⟨n, rfl, n0, n1⟩ := hv
      obtain ⟨n, rfl⟩ := Int.eq_ofNat_of_zero_le n0
      have e57 := e6.trans e7
      have lc := evD_lc (d := d) (l := l) (σ := [some (.ref d), some (.ref ac), none, some v3, some (.int x), some (.int y), some (.ref s6), none, none, none, none, none, none, none]) (H := H7) (Ry := Cell) (Pb := fun b : C2 => -20 ≤ b.1 ∧ b.1 ≤ 20 ∧ -20 ≤ b.2 ∧ b.2 ≤ 20) (J := Itr 0 n) (n := n) (G := fun _ => True) (wi := iRng1 (tCons (tC (.int n)) tNil)) (g := gName 2) (vs := [2])
        (te := tTup (tCons (tOp rSubI (tOp rAddI (tVar 4) (tCall sp__law_draw [] E0 (tCons (tVar 0) (tCons (tC (.int 7)) tNil)))) (tC (.int 3))) (tCons (tOp rSubI (tOp rAddI (tVar 5) (tCall sp__law_draw [] E0 (tCons (tVar 0) (tCons (tC (.int 7)) tNil)))) (tC (.int 3))) tNil)))
        (fun H1 e R q => ⟨n, rfl, by omega, by omega, by simpa using q H1 (But.refl e.deal)⟩) walk_range (fun _ _ => trivial) tm_cell (by omega) gName_mono ?_
      · refine lc H7 (But.refl e7.deal) _ fun v H8 e8 hv => ?_
        obtain ⟨bs, b1, b2, b3⟩ := hv
        have hl := b3.ld e7.deal
        exact q v H8 (e7.trans e8) ⟨bs, ⟨bs, b2, by omega, hl⟩, by omega, hl⟩
      · rintro i z H8 H9 hi e8 ⟨rfl, rfl⟩
        refine ⟨But.refl e8.deal, rfl, But.refl e8.deal, ?_⟩
        exact (evD_cell (dr7 (n := x) rfl rfl) (dr7 (n := y) rfl rfl)).imp fun H' v _ ⟨c, h1, h2, h3⟩ => ⟨c, h1, by omega⟩
    · obtain ⟨bs, b1, b2, b3⟩ := hR
      have hbs : ds = bs := by
        obtain ⟨p, zs, rfl, _, _, h1, h2⟩ := hds
        obtain ⟨p', zs', e, _, _, h1', h2'⟩ := b3
        cases e
        rw [h1] at h1'; cases h1'
        have f1 := h2.kLen
        have f2 := h2'.kLen
        refine List.ext_getElem? fun i => ?_
        by_cases hi : i < zs.length
        · obtain ⟨c, g1, g2⟩ := h2.kGetL (List.getElem?_eq_getElem hi)
          obtain ⟨c', g1', g2'⟩ := h2'.kGetL (List.getElem?_eq_getElem hi)
          rw [g1, g1', g2.inj g2']
        · rw [List.getElem?_eq_none (by omega), List.getElem?_eq_none (by omega)]
      subst hbs
      have hs66 := e6.old _ _ s6d s6l hs65
      have te : TExt H6 (upd H6 s6 (.lst (us ++ ys))) := text_lst hs66
      refine rest _ none (.ref s6) _ (four ++ ds) rfl ((B35.trans e6).mut s60) ⟨s6, _, rfl, s6d, s6l, upd_same, (hus.kImp fun _ _ r => r.text ((e5.trans e6).text.trans te)).kApp (hys.kImp fun _ _ r => r.text te)⟩ (by simp [four]) (by simp [four]) (by rw [List.length_append]; simp [four]; omega) fun c hc => ?_
      rcases List.mem_append.mp hc with h | h
      · simp [four] at h
        rcases h with h | h | h | h <;> rw [h] <;> simp only <;> omega
      · exact b1 c h
end K84
namespace K84
open L2 PySem PySem.Spec PyProof.Rows
local macro_rules | `(tactic| walk_at "cm") => `(tactic| first | assumption | exact Or.inl ⟨by omega, by omega⟩ | exact Or.inr ⟨by omega, by omega⟩)
local macro_rules | `(tactic| walk_at "ev") => `(tactic| first
  | assumption | exact evI_c | exact evI_var rfl | exact evV_var rfl | exact evC_var rfl (by assumption)
  | (refine evI_add ?_ ?_ <;> walk_at "ev") | (refine evI_sub ?_ ?_ <;> walk_at "ev")
  | (refine evI_mul ?_ ?_ ?_; (· walk_at "ev"); (· walk_at "ev"); (· walk_at "cm"))
  | (refine evI_fst ?_; walk_at "ev") | (refine evI_snd ?_; walk_at "ev") | (refine evI_neg ?_; walk_at "ev")
  | (refine evC_tup ?_ ?_ <;> walk_at "ev") | (refine evP_tup ?_ ?_ <;> walk_at "ev")
  | (refine evB_eq ?_ ?_ <;> walk_at "ev") | (refine evB_ne ?_ ?_ <;> walk_at "ev")
  | (refine evB_lt ?_ ?_ <;> walk_at "ev") | (refine evB_le ?_ ?_ <;> walk_at "ev") | (refine evB_gt ?_ ?_ <;> walk_at "ev") | (refine evB_ge ?_ ?_ <;> walk_at "ev")
  | (refine evT_test ?_; walk_at "ev") | (refine evT_B ?_; walk_at "ev") | (refine evT_not ?_; walk_at "ev") | exact evT_yes)
section
variable {K : PySem.W.Frag} {d l : Addr} {te ta tb tc tl : TE} {σ : L2.St} {H H0 : Hp} {α β : Type} {Rx : Hp → V → α → Prop} {ds es : List α}
theorem mono_tup (tm : TMono Rx) : Mono (fun H v => Tup H (Rx H) v ds) := fun _ _ _ e h => Tup.text e.text (fun _ _ r => tm _ _ _ _ e.text r) h
theorem ev_slAto {k : Nat} (tm : TMono Rx) (ha : Ev tl σ H (fun H v => Tup H (Rx H) v ds)) (hb : EvI tb σ H (k : Int)) : Ev (tSl (rSlA K) tl tNoPart (tPart tb)) σ H (fun H v => Tup H (Rx H) v (ds.take k)) := fun H1 h1 Q q =>
  ha H1 h1 _ fun x H2 e2 hx => hb H2 (h1.trans e2) _ fun y H3 e3 hy => by
    obtain ⟨p, xs, rfl, hp, px⟩ := hx
    have px3 := px.kImp fun _ _ r => tm _ _ _ _ e3.text r
    refine ⟨k, hy, p, xs, rfl, SqT.of (e3 _ _ hp), fun h => q _ _ (e2.trans e3) ⟨p, xs, rfl, e3 _ _ hp, ?_⟩, fun _ f hf => q _ _ ((e2.trans e3).trans (same_new hf)) ⟨f, _, rfl, upd_same, ?_⟩⟩
    · have h2 := h.2
      rw [HT.sIx_nat] at h2
      rw [List.take_of_length_le (by rw [← px.kLen]; omega)]
      exact px3
    · rw [cutV_to]
      exact (px3.kImp fun _ _ r => tm _ _ _ _ (text_new hf) r).kTake k
theorem ev_slAfrom {k : Nat} (tm : TMono Rx) (ha : Ev tl σ H (fun H v => Tup H (Rx H) v ds)) (hb : EvI tb σ H (k : Int)) : Ev (tSl (rSlA K) tl (tPart tb) tNoPart) σ H (fun H v => Tup H (Rx H) v (ds.drop k)) := fun H1 h1 Q q =>
  ha H1 h1 _ fun x H2 e2 hx => hb H2 (h1.trans e2) _ fun y H3 e3 hy => by
    obtain ⟨p, xs, rfl, hp, px⟩ := hx
    have px3 := px.kImp fun _ _ r => tm _ _ _ _ e3.text r
    have pl := px.kLen
    refine ⟨k, hy, p, xs, rfl, SqT.of (e3 _ _ hp), fun h => q _ _ (e2.trans e3) ⟨p, xs, rfl, e3 _ _ hp, ?_⟩, fun _ f hf => q _ _ ((e2.trans e3).trans (same_new hf)) ⟨f, _, rfl, upd_same, ?_⟩⟩
    · have h1 := h.1
      rw [HT.sIx_nat] at h1
      have e : ds.drop k = ds := by
        by_cases hk : k = 0
        · rw [hk, List.drop_zero]
        · have : ds = [] := List.length_eq_zero_iff.mp (by omega)
          rw [this, List.drop_nil]
      rw [e]; exact px3
    · rw [cutV_from]
      exact (px3.kImp fun _ _ r => tm _ _ _ _ (text_new hf) r).kDrop k
theorem ev_catT (tm : TMono Rx) (ha : Ev ta σ H (fun H v => Tup H (Rx H) v ds)) (hb : Ev tb σ H (fun H v => Tup H (Rx H) v es)) (hz : ds.length + es.length ≤ 16000000) : Ev (tOp (rCatA K) ta tb) σ H (fun H v => Tup H (Rx H) v (ds ++ es)) :=
  ev_op ha hb (mono_tup tm) fun H1 x y e h1 h2 Q q => by
    obtain ⟨a, xs, rfl, ha, hp⟩ := h1
    obtain ⟨b, ys, rfl, hb, hq⟩ := h2
    have hpl := hp.kLen
    have hql := hq.kLen
    refine ⟨a, b, xs, ys, rfl, rfl, SqT.of ha, SqT.of hb, by rw [sizeLine_eq]; omega, fun h0 => q _ H1 (Same.refl _) ?_, fun _ h0 => q _ H1 (Same.refl _) ?_, fun _ _ p hp0 => q _ _ (same_new hp0) ⟨p, _, rfl, upd_same, (hp.kImp fun _ _ r => tm _ _ _ _ (text_new hp0) r).kApp (hq.kImp fun _ _ r => tm _ _ _ _ (text_new hp0) r)⟩⟩
    · have e : ds = [] := List.length_eq_zero_iff.mp (by rw [← hpl, h0]; rfl)
      rw [e]; exact ⟨b, ys, rfl, hb, hq⟩
    · have e : es = [] := List.length_eq_zero_iff.mp (by rw [← hql, h0]; rfl)
      rw [e, List.append_nil]; exact ⟨a, xs, rfl, ha, hp⟩
theorem ev_revT (tm : TMono Rx) (hne : ds ≠ []) (ha : Ev ta σ H (fun H v => Tup H (Rx H) v ds)) : Ev (tRevT ta) σ H (fun H v => Tup H (Rx H) v ds.reverse) := fun H1 e Q q =>
  ha H1 e _ fun v H2 e2 hv => by
    obtain ⟨a, xs, rfl, h1, h2⟩ := hv
    refine ⟨a, xs, rfl, h1, fun z => hne (List.length_eq_zero_iff.mp (by rw [← h2.kLen, z]; rfl)), fun p hp => q _ _ (e2.trans (same_new hp)) ⟨p, _, rfl, upd_same, (h2.kImp fun _ _ r => tm _ _ _ _ (text_new hp) r).kRev⟩⟩
theorem ev_listT (tm : TMono Rx) (ha : Ev ta σ H (fun H v => Tup H (Rx H) v ds)) : Ev (tCB (rListOf K) (tCons ta tNil)) σ H (NewL H Rx ds) := fun H1 e Q q =>
  ha H1 e _ fun v H2 e2 hv => by
    obtain ⟨a, xs, rfl, h1, h2⟩ := hv
    exact ⟨a, xs, rfl, .inr (SqT.of h1), fun p hp => q _ _ (e2.trans (same_new hp)) ⟨p, xs, rfl, (e.trans e2).free hp, upd_same, h2.kImp fun _ _ r => tm _ _ _ _ (text_new hp) r⟩⟩
end
/-- the cell c put off by t -/
def mv (t c : C2) : C2 := (c.1 + t.1, c.2 + t.2)
def sp__law_put_off : Sp := fun vs H Q _ => ∃ (d l : Addr) (v : V) (pt : C2 × C2) (ring : List C2) (mid corner : C2) (rows : List (List C2)), vs = [.ref d, v] ∧ Deal d l H ∧ PaperV H v pt ring mid corner rows ∧ 0 < ring.length ∧ ring.length ≤ 100000 ∧ rows.length ≤ 100000 ∧ (∀ R ∈ rows, R ≠ []) ∧
  ∀ v' H' t at' rows', But d l H H' → (-900 ≤ t.1 ∧ t.1 ≤ 900 ∧ -900 ≤ t.2 ∧ t.2 ≤ 900) → at' < ring.length → PaperV H' v' pt ((ring.map (mv t)).drop at' ++ (ring.map (mv t)).take at') (mv t mid) (mv t corner) rows' → Q v' H'
theorem pure__law_put_off {K : PySem.W.Frag} (vs : List V) (H : Hp) (Q : VK) (E : XK) (h : sp__law_put_off vs H Q E) : t__law_put_off K sp__law_draw { nx := fun _ H' => Q .non H', rt := Q } (start N__law_put_off vs) H := by
  obtain ⟨d, l, v, pt, ring, mid, corner, rows, rfl, hD, ⟨a, x, vp, vr, vm, vc, vR, rfl, ha, hpt, hring, hmid, hcor, hrows⟩, r0, r1, r2, rne, q⟩ := h
  show t__law_put_off K _ _ [some (.ref d), some (.ref a), none, none, none, none, none, none, none, none, none, none, none, none, none] H
  refine q_asg (evV_var rfl) fun u H1 e1' hu => ?_
  subst hu
  refine ⟨a, _, rfl, SqT.of (e1' _ _ ha), rfl, _, _, rfl, _, _, rfl, _, _, rfl, _, _, rfl, _, _, rfl, _, _, rfl, rfl, ?_⟩
  have t1 := e1'.text
  replace hpt := hpt.text t1
  replace hring := Row.text t1 hring
  replace hmid := hmid.text t1
  replace hcor := hcor.text t1
  replace hrows := hrows.text t1
  have hD1 := hD.same e1'
  show (tSeq _ _) _ [some (.ref d), some (.ref a), some (.str x), some vp, some vr, some vm, some vc, some vR, none, none, none, none, none, none, none] H1
  have dr : ∀ {σ : L2.St} {H : Hp} {m : Int} {tm : TE}, σ[0]? = some (some (.ref d)) → (∀ H1, But d l H H1 → EvI tm σ H1 m) → 0 < m → m < 1000000 → EvDI d l (tCall sp__law_draw [] E0 (tCons (tVar 0) (tCons tm tNil))) σ H (fun n => 0 ≤ n ∧ n < m) := fun h hm h1 h2 => evD_draw h hm h1 (by omega)
  refine qD_set hD1 (R := fun _ v => ∃ w : Int, v = .int w ∧ (w = 3 ∨ w = 900)) ((evD_pick (Rx := fun _ => IsI) (ds := [3, 900]) tm_int (evD_new fun H1 e => ev_lstA tm_int (evA_pcons tm_int evI_c (evA_pcons tm_int evI_c evA_pnil)) (by decide)) (dr rfl (fun H1 e => evI_c) (by decide) (by decide))).imp fun H' v _ ⟨x, hx, hv⟩ => ⟨x, hv, by simpa using hx⟩) fun v8 H2 e2 hv8 => ?_
  obtain ⟨w, rfl, hw⟩ := hv8
  show (tSeq _ _) _ [some (.ref d), some (.ref a), some (.str x), some vp, some vr, some vm, some vc, some vR, some (.int w), none, none, none, none, none, none] H2
  have one : ∀ {H : Hp}, EvDI d l (tOp rSubI (tCall sp__law_draw [] E0 (tCons (tVar 0) (tCons (tOp rAddI (tOp rMulI (tC (.int 2)) (tVar 8)) (tC (.int 1))) tNil))) (tVar 8)) [some (.ref d), some (.ref a), some (.str x), some vp, some vr, some vm, some vc, some vR, some (.int w), none, none, none, none, none, none] H (fun i => -900 ≤ i ∧ i ≤ 900) := fun {H} =>
    evD_I0 (P' := fun i => i = w) (dr rfl (fun H1 e => evI_add (evI_mul evI_c (evI_var rfl) (cm_l (by decide))) evI_c) (by omega) (by omega)) (evDI_pure (fun H1 e => evI_var rfl) rfl) (fun i j h1 h2 => by omega)
  refine qD_asg e2.deal (evD_cell one one) fun vt H3 e3 hvt => ?_
  obtain ⟨t, ht, htx, hty⟩ := hvt
  refine g_cell ht ?_
  have e13 := e2.trans e3
  have t13 := e13.text
  replace hpt := hpt.text t13
  replace hring := Row.text t13 hring
  replace hmid := hmid.text t13
  replace hcor := hcor.text t13
  replace hrows := hrows.text t13
  show (tSeq _ _) _ [some (.ref d), some (.ref a), some (.str x), some vp, some vr, some vm, some vc, some vR, some (.int w), some (.int t.1), some (.int t.2), none, none, none, none] H3
  -- moved
  refine q_set (R := NewL H3 Cell ((ring ++ [mid, corner]).map (mv t))) (ev_lcN (ev_cat tm_cell (ev_new (ev_listT tm_cell (evRow_var rfl hring))) (ev_new (ev_lst2 tm_cell (evC_var rfl hmid) (evC_var rfl hcor))) (by simp; omega)) fun p xs H4 e4 h0 h1 h2 => ?_) fun v12 H4 e4 hv12 => ?_
  · refine (ev_mapL (K := K) (f := mv t) (evV_c (v := .ref p)) h1 h2 tm_cell tm_cell (by simp; omega) fun y c H' e' _ hy => ?_).imp fun H' v e' ⟨r, ys, g1, g2, g3, g4⟩ => ⟨r, ys, g1, (e4).free g2, g3, g4⟩
    exact evC_tup (evI_add (evI_fst (evC_var rfl hy)) (evI_var rfl)) (evI_add (evI_snd (evC_var rfl hy)) (evI_var rfl))
  have hv12d := hv12.ld e3.deal
  have B34 := But.of e3.deal e4
  have e14 := e13.trans B34
  have t34 := e4.text
  replace hpt := hpt.text t34
  replace hring := Row.text t34 hring
  replace hrows := hrows.text t34
  let mvd : List C2 := (ring ++ [mid, corner]).map (mv t)
  show (tSeq _ _) _ [some (.ref d), some (.ref a), some (.str x), some vp, some vr, some vm, some vc, some vR, some (.int w), some (.int t.1), some (.int t.2), none, some v12, none, none] H4
  -- the rest, whichever way the rows stand
  have rest : ∀ (D : Ends) (y13 : Option V) (vR : V) (H5 : Hp) (rows : List (List C2)), D.rt = Q → But d l H4 H5 → Plain H5 vR rows → rows.length ≤ 100000 →
      (tSeq (tAsg (tCall sp__law_draw [] E0 (tCons (tVar 0) (tCons (tCB (rLenSeq K) (tCons (tVar 4) tNil)) tNil))) (gName 14))
    (tSeq (tAsg (tCB (rTupleOf K) (tCons (tOp rCat (tSl (rSlL K) (tVar 12) (tPart (tVar 14)) (tPart (tUn rNegI (tC (.int 2))))) (tSl (rSlL K) (tVar 12) tNoPart (tPart (tVar 14)))) tNil)) (gName 4))
    (tRet (tTup (tCons (tVar 2) (tCons (tVar 3) (tCons (tVar 4) (tCons (tOp (rIxL K) (tVar 12) (tUn rNegI (tC (.int 2)))) (tCons (tOp (rIxL K) (tVar 12) (tUn rNegI (tC (.int 1)))) (tCons (tOp (rCatA K) (tSl (rSlA K) (tVar 7) (tPart (tVar 14)) tNoPart) (tSl (rSlA K) (tVar 7) tNoPart (tPart (tVar 14)))) tNil)))))))))) D
        [some (.ref d), some (.ref a), some (.str x), some vp, some vr, some vm, some vc, some vR, some (.int w), some (.int t.1), some (.int t.2), none, some v12, y13, none] H5 := fun D y13 vR H5 rows hDq e45 hrows hrl => by
    refine qD_set e45.deal (evD_draw (m := ring.length) rfl (fun H1 e => ?_) (by omega) (by omega)) fun v14 H6 e6 hv14 => ?_
    · obtain ⟨p, xs, rfl, h1, h2⟩ := Row.text (e45.trans e).text hring
      exact (ev_lenT (evV_var rfl) h1).to (by rw [h2.kLen])
    obtain ⟨at', rfl, a0, a1⟩ := hv14
    obtain ⟨ak, rfl⟩ := Int.eq_ofNat_of_zero_le a0
    have hak : ak < ring.length := by omega
    have B46 := e45.trans e6
    obtain ⟨p12, xs, rfl, pd, pl, hp6, hxs⟩ := LD.mono tm_cell _ _ _ B46 hv12d
    have xl := hxs.kLen
    simp only [List.length_map, List.length_append, List.length_cons, List.length_nil] at xl
    show (tSeq _ _) _ [some (.ref d), some (.ref a), some (.str x), some vp, some vr, some vm, some vc, some vR, some (.int w), some (.int t.1), some (.int t.2), none, some (.ref p12), y13, some (.int ak)] H6
    have en2 : ∀ {σ : L2.St} {H : Hp}, EvI (tUn rNegI (tC (.int 2))) σ H (-2) := evI_neg evI_c
    have en1 : ∀ {σ : L2.St} {H : Hp}, EvI (tUn rNegI (tC (.int 1))) σ H (-1) := evI_neg evI_c
    have e1 : Ev (tSl (rSlL K) (tVar 12) (tPart (tVar 14)) (tPart (tUn rNegI (tC (.int 2))))) [some (.ref d), some (.ref a), some (.str x), some vp, some vr, some vm, some vc, some vR, some (.int w), some (.int t.1), some (.int t.2), none, some (.ref p12), y13, some (.int ak)] H6 (NewL H6 Cell ((ring.map (mv t)).drop ak)) := fun H7 e7 Q q => by
      refine ⟨_, rfl, _, rfl, ak, rfl, en2 H7 e7 _ fun v H8 e8 hv => ?_⟩
      subst hv
      refine ⟨_, rfl, p12, xs, rfl, SqL.of ((e7.trans e8) _ _ hp6), fun p hp => q _ _ (e8.trans (same_new hp)) ⟨p, _, rfl, (e7.trans e8).free hp, upd_same, ?_⟩⟩
      have h := (hxs.kDrop ak).kTake (ring.length - ak)
      have e : ((((ring ++ [mid, corner]).map (mv t)).drop ak).take (ring.length - ak)) = (ring.map (mv t)).drop ak := by
        rw [List.map_append, List.drop_append_of_le_length (by rw [List.length_map]; omega)]
        exact List.take_left' (by rw [List.length_drop, List.length_map])
      rw [e] at h
      have ec : cutV xs (some (ak : Int)) (some (-2)) = (xs.drop ak).take (ring.length - ak) := by
        unfold cutV
        rw [HT.sIx_nat]
        have h2 : HT.sIx xs.length xs.length (some (-2)) = ring.length := by
          show (if (-2 : Int) < 0 then ((-2 : Int) + (xs.length : Int)).toNat else min (-2 : Int).toNat xs.length) = _
          rw [if_pos (by decide)]; omega
        rw [h2, Nat.min_eq_left (by omega)]
      rw [ec]
      exact h.kImp fun _ _ r => r.text ((e7.trans e8).text.trans (text_new hp))
    have e2 := ev_slTo (K := K) (k := ak) tm_cell (ev_varLC (σ := [some (.ref d), some (.ref a), some (.str x), some vp, some vr, some vm, some vc, some vR, some (.int w), some (.int t.1), some (.int t.2), none, some (.ref p12), y13, some (.int ak)]) (k := 12) rfl hp6 hxs) (evI_var (k := 14) rfl)
    have etk : ((ring ++ [mid, corner]).map (mv t)).take ak = (ring.map (mv t)).take ak := by
      rw [List.map_append, List.take_append_of_le_length (by rw [List.length_map]; omega)]
    rw [etk] at e2
    refine q_set (ev_tupleOf tm_cell (ev_new (ev_cat tm_cell (ev_new e1) (ev_new e2) (by rw [List.length_drop, List.length_take, List.length_map]; omega)))) fun v4 H7 e7 hv4 => ?_
    show tRet _ _ [some (.ref d), some (.ref a), some (.str x), some vp, some v4, some vm, some vc, some vR, some (.int w), some (.int t.1), some (.int t.2), none, some (.ref p12), y13, some (.int ak)] H7
    have t47 := B46.text.trans e7.text
    have hxs7 := hxs.kImp fun _ _ r => Cell.text e7.text r
    have g1 : ((ring ++ [mid, corner]).map (mv t))[ring.length]? = some (mv t mid) := by simp
    have g2 : ((ring ++ [mid, corner]).map (mv t))[ring.length + 1]? = some (mv t corner) := by simp
    have rl : ((ring ++ [mid, corner]).map (mv t)).length = ring.length + 2 := by simp
    have i1 := ev_ixLD (K := K) (Rx := Cell) tm_cell (evV_var (σ := [some (.ref d), some (.ref a), some (.str x), some vp, some v4, some vm, some vc, some vR, some (.int w), some (.int t.1), some (.int t.2), none, some (.ref p12), y13, some (.int ak)]) (k := 12) rfl) (e7 _ _ hp6) hxs7 (show ixN _ (-2) = some ring.length from by rw [rl]; exact ixN_neg (k := 2) (by omega) (by omega)) g1 en2
    have i2 := ev_ixLD (K := K) (Rx := Cell) tm_cell (evV_var (σ := [some (.ref d), some (.ref a), some (.str x), some vp, some v4, some vm, some vc, some vR, some (.int w), some (.int t.1), some (.int t.2), none, some (.ref p12), y13, some (.int ak)]) (k := 12) rfl) (e7 _ _ hp6) hxs7 (show ixN _ (-1) = some (ring.length + 1) from by rw [rl]; exact ixN_neg (k := 1) (by omega) (by omega)) g2 en1
    have hrows7 := hrows.text (e6.text.trans e7.text)
    have er := ev_catT (K := K) (Rx := fun H v cs => Row H v cs) tm_row (ev_slAfrom (K := K) (k := ak) tm_row (ev_varM (σ := [some (.ref d), some (.ref a), some (.str x), some vp, some v4, some vm, some vc, some vR, some (.int w), some (.int t.1), some (.int t.2), none, some (.ref p12), y13, some (.int ak)]) (k := 7) rfl mono_plain hrows7) (evI_var (k := 14) rfl)) (ev_slAto (K := K) (k := ak) tm_row (ev_varM (k := 7) rfl mono_plain hrows7) (evI_var (k := 14) rfl)) (by rw [List.length_drop, List.length_take]; omega)
    refine s_ret (R := fun H v => ∃ rows', PaperV H v pt ((ring.map (mv t)).drop ak ++ (ring.map (mv t)).take ak) (mv t mid) (mv t corner) rows') (ev_tup (evA_cons (R := fun _ v => v = .str x) (evV_var rfl) mono_eq (evA_5 (evP_var rfl (hpt.text t47)) mono_pair (evRow_var rfl hv4) mono_row i1 mono_cell i2 mono_cell er)) (fun _ vs h => by obtain ⟨_, _, rfl, _, _, _, _, _, _, rfl, _⟩ := h; show 6 ≤ 1000; decide) fun H' vs p h hp _ => ?_) fun v H8 e8 hv => ?_
    · obtain ⟨_, _, rfl, rfl, v1, v2, v3, v4, v5, rfl, r1, r2, r3, r4, r5⟩ := h
      have te := text_new (o := .tup [.str x, v1, v2, v3, v4, v5]) hp
      exact ⟨_, p, x, v1, v2, v3, v4, v5, rfl, upd_same, r1.text te, Row.text te r2, r3.text te, r4.text te, Plain.text te r5⟩
    · obtain ⟨rows', hv⟩ := hv
      rw [hDq]
      exact q v H8 t ak rows' ((But.of hD e1').trans (e14.trans (B46.trans (But.of e6.deal (e7.trans e8))))) (by omega) hak hv
  refine qD_if e14.deal (dr rfl (fun H1 e => evI_c) (by decide) (by decide)) (fun H5 e5 => ?_) fun H5 e5 => ?_
  · obtain ⟨pR, xR, rfl, hpR, hxR⟩ := hrows.text e5.text
    refine s_set (R := fun H v => Plain H v (rows.map List.reverse)) (ev_tupleOf tm_row (ev_new (ev_mapT (K := K) (Rx := fun H v cs => Row H v cs) (evV_var rfl) hpR hxR tm_row tm_row (by omega) fun y R H' e' hm hy => ev_revT tm_cell (rne R hm) (evRow_var rfl hy)))) fun v7 H6 e6 hv7 => ?_
    exact rest _ none v7 H6 _ rfl (e5.trans (But.of e5.deal e6)) hv7 (by rw [List.length_map]; exact r2)
  · exact rest _ none vR H5 rows rfl e5 (hrows.text e5.text) r2
end K84
namespace K84
open L2 PySem PySem.Spec PyProof.Rows
/-- the cell c lies in the ring's bounding box -/
def InBox (ring : List C2) (c : C2) : Prop := (∃ e ∈ ring, e.1 ≤ c.1) ∧ (∃ e ∈ ring, c.1 ≤ e.1) ∧ (∃ e ∈ ring, e.2 ≤ c.2) ∧ ∃ e ∈ ring, c.2 ≤ e.2
structure Good (P : List (List C2)) (pt : C2 × C2) (ring : List C2) (corner : C2) : Prop where
  len : P.length ≤ 64
  rows : ∀ R ∈ P, R ≠ [] ∧ R.length ≤ 8
  few : ∃ zs : List C2, zs.length ≤ 8 ∧ ∀ R ∈ P, ∃ z ∈ R, z ∈ zs
  a0 : 0 < pt.1.2
  a1 : pt.1.2 < 32768
  b0 : 0 < pt.2.2
  b1 : pt.2.2 < 32768
  r0 : 0 < ring.length
  r1 : ring.length < 1000000
  sm : ∀ c ∈ ring, Sm c
  ex : ∃ S : Int → Int → Prop, (∀ x y, S x y → inside (sidesR ring) x y (triple pt).2.2 = true) ∧
    (∀ x y, S x y → ∃ R ∈ P, ∀ z ∈ R, S (x + ((triple pt).2.2 * z.1 - (triple pt).1)) (y + ((triple pt).2.2 * z.2 - (triple pt).2.1))) ∧
    (∀ c : C2, S ((triple pt).2.2 * c.1) ((triple pt).2.2 * c.2) → inside (sidesR ring) c.1 c.2 1 = true ∧ InBox ring c) ∧
    (∀ (n : Int) (c : C2), inside (sidesR ring) c.1 c.2 1 = true → InBox ring c → inside (sidesR ring) ((triple pt).2.2 * (c.1 - n * pt.1.1 / pt.1.2) + n * (triple pt).1) ((triple pt).2.2 * (c.2 - n * pt.2.1 / pt.2.2) + n * (triple pt).2.1) (triple pt).2.2 = true →
      S ((triple pt).2.2 * (c.1 - n * pt.1.1 / pt.1.2) + n * (triple pt).1) ((triple pt).2.2 * (c.2 - n * pt.2.1 / pt.2.2) + n * (triple pt).2.1)) ∧
    ∀ f g, 0 ≤ f → f < (triple pt).2.2 → 0 ≤ g → g < (triple pt).2.2 → S ((triple pt).2.2 * corner.1 + f) ((triple pt).2.2 * corner.2 + g)
theorem fr_lowest (u l : Int) : ∃ g : Int, u = g * (fr u l).1 ∧ l = g * (fr u l).2 :=
  ⟨Int.gcd u l, (Int.mul_ediv_cancel' (Int.gcd_dvd_left ..)).symm, (Int.mul_ediv_cancel' (Int.gcd_dvd_right ..)).symm⟩
/-- what is told is the least number not below -/
theorem tells (n k : Int) (f : C2) (h : 0 < f.2) : 0 ≤ ceilF n k f * f.2 - (k * f.2 - n * f.1) ∧ ceilF n k f * f.2 - (k * f.2 - n * f.1) < f.2 := by
  have t0 : 0 < (tmF n f).2 := (fr_low (u := n * f.1) (show 0 < 1 * f.2 by omega)).1
  have s0 : 0 < (lsF n k f).2 := (fr_low (u := k * (tmF n f).2 - (tmF n f).1 * 1) (show 0 < 1 * (tmF n f).2 by omega)).1
  obtain ⟨g, g1, g2⟩ := fr_lowest (n * f.1) (1 * f.2)
  obtain ⟨j, j1, j2⟩ := fr_lowest (k * (tmF n f).2 - (tmF n f).1 * 1) (1 * (tmF n f).2)
  have g1 : n * f.1 = g * (tmF n f).1 := g1
  have g2 : 1 * f.2 = g * (tmF n f).2 := g2
  have j1 : k * (tmF n f).2 - (tmF n f).1 * 1 = j * (lsF n k f).1 := j1
  have j2 : 1 * (tmF n f).2 = j * (lsF n k f).2 := j2
  unfold ceilF
  generalize lsF n k f = s at *
  generalize tmF n f = t at *
  obtain ⟨s1, s2⟩ := s
  obtain ⟨t1, t2⟩ := t
  obtain ⟨f1, f2⟩ := f
  simp only at *
  have h1 := Int.mul_ediv_add_emod (0 - s1) s2
  have h2 := Int.emod_nonneg (0 - s1) (show s2 ≠ 0 by omega)
  have h3 := Int.emod_lt_of_pos (0 - s1) s0
  generalize (0 - s1) / s2 = q at *
  generalize (0 - s1) % s2 = r at *
  -- f2 = g j s2 with g j > 0
  have e2 : f2 = (g * j) * s2 := by grind
  have gj : 0 < g * j := by
    rcases Int.lt_or_le 0 (g * j) with h | h
    · exact h
    · have := Int.mul_le_mul_of_nonneg_right h (show 0 ≤ s2 by omega); omega
  have e1 : (0 - q) * f2 - (k * f2 - n * f1) = (g * j) * r := by
    have : k * f2 - n * f1 = (g * j) * s1 := by grind
    rw [this, e2]
    have : s1 = -(s2 * q + r) := by omega
    rw [this]; grind
  rw [e1]
  refine ⟨Int.mul_nonneg (by omega) h2, ?_⟩
  rw [e2]
  exact Int.mul_lt_mul_of_pos_left h3 gj
/-- a place that the land holds, after n beats -/
theorem Good.held {P : List (List C2)} {pt : C2 × C2} {S : Int → Int → Prop} {is : List C2}
    (mv : ∀ x y, S x y → ∃ R ∈ P, ∀ z ∈ R, S (x + ((triple pt).2.2 * z.1 - (triple pt).1)) (y + ((triple pt).2.2 * z.2 - (triple pt).2.1)))
    (cl : ∀ c : C2, S ((triple pt).2.2 * c.1) ((triple pt).2.2 * c.2) → c ∈ is) :
    ∀ (n : Nat) (hs : List C2), Bt P n is hs → ∀ c : C2, S ((triple pt).2.2 * c.1 + n * (triple pt).1) ((triple pt).2.2 * c.2 + n * (triple pt).2.1) → c ∈ hs
  | 0, hs, hb, c, h => by
    have hb : is = hs := hb
    subst hb
    refine cl c ?_
    simpa using h
  | n + 1, hs, ⟨m, hb, hB⟩, c, h => by
    obtain ⟨R, hR, hz⟩ := mv _ _ h
    refine (hB.1 c).mpr ⟨R, hR, fun z hzR => ?_⟩
    refine Good.held mv cl n m hb (z.1 + c.1, z.2 + c.2) ?_
    have h1 := hz z hzR
    have e1 : (triple pt).2.2 * c.1 + ((n + 1 : Nat) : Int) * (triple pt).1 + ((triple pt).2.2 * z.1 - (triple pt).1) = (triple pt).2.2 * (z.1 + c.1) + (n : Int) * (triple pt).1 := by
      rw [Int.natCast_add]; grind
    have e2 : (triple pt).2.2 * c.2 + ((n + 1 : Nat) : Int) * (triple pt).2.1 + ((triple pt).2.2 * z.2 - (triple pt).2.1) = (triple pt).2.2 * (z.2 + c.2) + (n : Int) * (triple pt).2.1 := by
      rw [Int.natCast_add]; grind
    rw [e1, e2] at h1
    exact h1
/-- how many a beat breaks at most -/
theorem beat_len {P : List (List C2)} {zs cs ds : List C2} (hz : ∀ R ∈ P, ∃ z ∈ R, z ∈ zs) (h : BeatR P cs ds) : ds.length ≤ zs.length * cs.length := by
  have h1 := nodup_le (m := (zs.map fun z => cs.map fun c : C2 => ((c.1 - z.1, c.2 - z.2) : C2)).flatten) h.2 fun c hc => by
    obtain ⟨R, hR, hall⟩ := (h.1 c).mp hc
    obtain ⟨z, hzR, hzz⟩ := hz R hR
    refine List.mem_flatten.mpr ⟨_, List.mem_map.mpr ⟨z, hzz, rfl⟩, List.mem_map.mpr ⟨_, hall z hzR, ?_⟩⟩
    exact Prod.ext (by simp only; omega) (by simp only; omega)
  rw [List.length_flatten, List.map_map] at h1
  have e : (List.length ∘ fun z : C2 => cs.map fun c : C2 => ((c.1 - z.1, c.2 - z.2) : C2)) = fun _ => cs.length := by funext z; simp
  rw [e, List.map_const', List.sum_replicate_nat] at h1
  exact h1
theorem bt_len {P : List (List C2)} {zs is : List C2} (hz : ∀ R ∈ P, ∃ z ∈ R, z ∈ zs) (h8 : zs.length ≤ 8) : ∀ (n : Nat) (hs : List C2), Bt P n is hs → hs.length ≤ 8 ^ n * is.length
  | 0, hs, hb => by
    have hb : is = hs := hb
    subst hb; simp
  | n + 1, hs, ⟨m, hb, hB⟩ => by
    have h1 := bt_len hz h8 n m hb
    have h2 := beat_len hz hB
    have h3 : zs.length * m.length ≤ 8 * (8 ^ n * is.length) := Nat.mul_le_mul h8 h1
    rw [Nat.pow_succ, Nat.mul_comm (8 ^ n) 8, Nat.mul_assoc]
    omega
/-- where it says it stands, scaled -/
theorem told_scaled {n : Int} {pt : C2 × C2} {corner : C2} (a0 : 0 < pt.1.2) (b0 : 0 < pt.2.2) :
    ∃ f g, 0 ≤ f ∧ f < (triple pt).2.2 ∧ 0 ≤ g ∧ g < (triple pt).2.2 ∧ (triple pt).2.2 * ceilF n corner.1 pt.1 + n * (triple pt).1 = (triple pt).2.2 * corner.1 + f ∧ (triple pt).2.2 * ceilF n corner.2 pt.2 + n * (triple pt).2.1 = (triple pt).2.2 * corner.2 + g := by
  obtain ⟨h1, h2⟩ := tells n corner.1 pt.1 a0
  obtain ⟨h3, h4⟩ := tells n corner.2 pt.2 b0
  unfold triple
  simp only
  generalize ceilF n corner.1 pt.1 = x at *
  generalize ceilF n corner.2 pt.2 = y at *
  refine ⟨pt.2.2 * (x * pt.1.2 - (corner.1 * pt.1.2 - n * pt.1.1)), pt.1.2 * (y * pt.2.2 - (corner.2 * pt.2.2 - n * pt.2.1)), Int.mul_nonneg (by omega) h1, ?_, Int.mul_nonneg (by omega) h3, ?_, by grind, by grind⟩
  · rw [Int.mul_comm pt.1.2]; exact Int.mul_lt_mul_of_pos_left h2 b0
  · exact Int.mul_lt_mul_of_pos_left h4 a0
end K84
namespace K84
open L2 PySem PySem.Spec PyProof.Rows
theorem few_rows {P : List (List C2)} (h : P.length ≤ 8) (hne : ∀ R ∈ P, R ≠ []) : ∃ zs : List C2, zs.length ≤ 8 ∧ ∀ R ∈ P, ∃ z ∈ R, z ∈ zs :=
  ⟨P.map fun R => R.headD (0, 0), by rw [List.length_map]; exact h, fun R hR => ⟨R.headD (0, 0), by
    cases R with
    | nil => exact absurd rfl (hne _ hR)
    | cons c r => simp, List.mem_map.mpr ⟨R, hR, rfl⟩⟩⟩
theorem good_box {P : List (List C2)} {pt : C2 × C2} {ring : List C2} {corner : C2} (h : BoxR P pt ring corner) : Good P pt ring corner := by
  obtain ⟨c0, rfl, ⟨R0, hR0, hz0⟩, cb⟩ := h.c
  have tr : triple ((c0.1, 1), (c0.2, 1)) = (c0.1, c0.2, 1) := by unfold triple; simp
  have e1 : ∀ n a : Int, n * a / 1 = n * a := fun n a => Int.ediv_one _
  refine ⟨by have := h.len; omega, h.rows, ?_, by show (0 : Int) < 1; decide, by show (1 : Int) < 32768; decide, by show (0 : Int) < 1; decide, by show (1 : Int) < 32768; decide, by have := h.r0; omega, by have := h.r1; omega, fun c hc => ?_, ?_⟩
  · -- one cell of each row: there are few rows
    exact few_rows (by have := h.len; omega) fun R hR => (h.rows R hR).1
  · obtain ⟨h1, h2⟩ := h.tiny c hc
    exact ⟨by omega, by omega⟩
  · rw [tr]
    refine ⟨fun x y => inside (sidesR ring) x y 1 = true ∧ InBox ring (x, y), fun x y hs => hs.1, fun x y hs => ⟨R0, hR0, fun z hz => ?_⟩, fun c hs => ?_, fun n c h1 h2 h3 => ?_, fun f g f0 f1 g0 g1 => ?_⟩
    · rw [hz0 z hz]
      simp only [Int.one_mul, Int.sub_self, Int.add_zero]
      exact hs
    · simpa using hs
    · simp only [e1, Int.one_mul, Int.sub_add_cancel]
      exact ⟨h1, h2⟩
    · simp only at f1 g1
      have : f = 0 := by omega
      have : g = 0 := by omega
      subst f; subst g
      simp only [Int.one_mul, Int.add_zero]
      exact ⟨h.box.ins, h.box.x0, h.box.x1, h.box.y0, h.box.y1⟩
end K84
namespace K84
/-- upward -/
def Up (w : C2) : Prop := 0 < w.2 ∨ (w.2 = 0 ∧ 0 < w.1)
/-- in lowest terms -/
def Prim (w : C2) : Prop := Int.gcd w.1 w.2 = 1
theorem crs_neg_comm (a b : C2) : crs b a = -crs a b := by unfold crs; grind
theorem crs_negC_l (a b : C2) : crs (negC a) b = -crs a b := by unfold crs negC; grind
theorem crs_negC_r (a b : C2) : crs a (negC b) = -crs a b := by unfold crs negC; grind
theorem negC_negC (a : C2) : negC (negC a) = a := by unfold negC; simp
theorem up_trans {u v w : C2} (hu : Up u) (hv : Up v) (hw : Up w) (h1 : 0 < crs u v) (h2 : 0 < crs v w) : 0 < crs u w := by
  obtain ⟨u1, u2⟩ := u
  obtain ⟨v1, v2⟩ := v
  obtain ⟨w1, w2⟩ := w
  unfold crs Up at *
  simp only at *
  have k : v2 * (u1 * w2 - u2 * w1) = u2 * (v1 * w2 - v2 * w1) + w2 * (u1 * v2 - u2 * v1) := by grind
  rcases hv with hv | ⟨hv2, hv1⟩
  · have a1 := Int.mul_nonneg (show 0 ≤ u2 by omega) (show 0 ≤ v1 * w2 - v2 * w1 by omega)
    have a2 := Int.mul_nonneg (show 0 ≤ w2 by omega) (show 0 ≤ u1 * v2 - u2 * v1 by omega)
    have hpos : 0 < u2 * (v1 * w2 - v2 * w1) + w2 * (u1 * v2 - u2 * v1) := by
      rcases hu with hu | ⟨hu2, hu1⟩
      · have := Int.mul_pos hu h2; omega
      · rcases hw with hw | ⟨hw2, hw1⟩
        · have := Int.mul_pos hw h1; omega
        · exfalso
          subst hw2
          have := Int.mul_pos hv hw1
          simp only [Int.mul_zero, Int.zero_sub] at h2
          omega
    exact Classical.byContradiction fun hn => by
      have := Int.mul_le_mul_of_nonneg_left (Int.not_lt.mp hn) (show 0 ≤ v2 by omega)
      omega
  · exfalso
    subst hv2
    have : 0 ≤ u2 * v1 := Int.mul_nonneg (by omega) (by omega)
    simp only [Int.mul_zero] at h1
    omega
theorem abs_dvd {a b c d : Int} (hg : Int.gcd a b = 1) (h : a * d = b * c) : a ∣ c := by
  have h1 : a.natAbs ∣ b.natAbs * c.natAbs := by
    rw [← Int.natAbs_mul, ← h, Int.natAbs_mul]; exact Nat.dvd_mul_right _ _
  have h2 : Nat.Coprime a.natAbs b.natAbs := hg
  exact Int.natAbs_dvd_natAbs.mp (h2.dvd_of_dvd_mul_left h1)
/-- primitive ways that lie along one another, both upward, are one -/
theorem prim_eq {u v : C2} (pu : Prim u) (pv : Prim v) (hu : Up u) (hv : Up v) (h : crs u v = 0) : u = v := by
  obtain ⟨u1, u2⟩ := u
  obtain ⟨v1, v2⟩ := v
  unfold crs Prim Up at *
  simp only at *
  have e : u1 * v2 = u2 * v1 := by omega
  have d1 : u1 ∣ v1 := abs_dvd pu e
  have d2 : v1 ∣ u1 := abs_dvd pv (show v1 * u2 = v2 * u1 by rw [Int.mul_comm v1, Int.mul_comm v2]; exact e.symm)
  have d3 : u2 ∣ v2 := abs_dvd (by rw [Int.gcd_comm]; exact pu) e.symm
  have d4 : v2 ∣ u2 := abs_dvd (by rw [Int.gcd_comm]; exact pv) (show v2 * u1 = v1 * u2 by rw [Int.mul_comm v2, Int.mul_comm v1]; exact e)
  have n1 : u1.natAbs = v1.natAbs := Nat.dvd_antisymm (Int.natAbs_dvd_natAbs.mpr d1) (Int.natAbs_dvd_natAbs.mpr d2)
  have n2 : u2.natAbs = v2.natAbs := Nat.dvd_antisymm (Int.natAbs_dvd_natAbs.mpr d3) (Int.natAbs_dvd_natAbs.mpr d4)
  have s2 : u2 = v2 := by omega
  subst s2
  by_cases hz : u2 = 0
  · exact Prod.ext (by simp only; omega) rfl
  · have : u2 * (u1 - v1) = 0 := by rw [Int.mul_sub, Int.mul_comm u2 u1]; omega
    rcases Int.mul_eq_zero.mp this with h | h
    · exact absurd h hz
    · exact Prod.ext (by simp only; omega) rfl
/-- the way of an offset: the offset is a multiple of it, forth or back -/
theorem wayOf_spec {x y : Int} (h : ¬ (x = 0 ∧ y = 0)) : ∃ k : Int, k ≠ 0 ∧ x = k * (wayOf x y).1 ∧ y = k * (wayOf x y).2 ∧ Prim (wayOf x y) ∧ Up (wayOf x y) := by
  have hg : 0 < Int.gcd x y := Nat.pos_of_ne_zero fun e => h (Int.gcd_eq_zero_iff.mp e)
  have dx : (Int.gcd x y : Int) ∣ x := Int.gcd_dvd_left ..
  have dy : (Int.gcd x y : Int) ∣ y := Int.gcd_dvd_right ..
  generalize hb : wayB x y = b
  have hb' : b = (Int.gcd x y : Int) ∨ b = -(Int.gcd x y : Int) := by
    rw [← hb]; unfold wayB; split
    · exact .inr rfl
    · exact .inl rfl
  have bx : b ∣ x := by rcases hb' with h | h <;> rw [h]; exact dx; exact (Int.neg_dvd).mpr dx
  have bY : b ∣ y := by rcases hb' with h | h <;> rw [h]; exact dy; exact (Int.neg_dvd).mpr dy
  have b0 : b ≠ 0 := by rcases hb' with h | h <;> rw [h] <;> omega
  have e1 : x = b * (wayOf x y).1 := by unfold wayOf; rw [hb]; simp only; exact (Int.mul_fdiv_cancel' bx).symm
  have e2 : y = b * (wayOf x y).2 := by unfold wayOf; rw [hb]; simp only; exact (Int.mul_fdiv_cancel' bY).symm
  generalize wayOf x y = w at *
  refine ⟨b, b0, e1, e2, ?_, ?_⟩
  · have hn : b.natAbs = Int.gcd x y := by rcases hb' with h | h <;> rw [h] <;> simp
    have hgc : Int.gcd x y = b.natAbs * Int.gcd w.1 w.2 := by
      conv => lhs; rw [e1, e2]
      exact Int.gcd_mul_left ..
    rw [hn] at hgc
    unfold Prim
    have : Int.gcd x y * 1 = Int.gcd x y * Int.gcd w.1 w.2 := by rw [Nat.mul_one]; exact hgc
    exact (Nat.eq_of_mul_eq_mul_left hg this).symm
  · have hs : b = if y < 0 ∨ (y = 0 ∧ x < 0) then -(Int.gcd x y : Int) else (Int.gcd x y : Int) := by rw [← hb]; rfl
    unfold Up
    have hgp : (0 : Int) < (Int.gcd x y : Int) := by omega
    generalize (Int.gcd x y : Int) = g at hs hgp
    by_cases hc : y < 0 ∨ (y = 0 ∧ x < 0)
    · rw [if_pos hc] at hs
      have bn : b < 0 := by omega
      rcases hc with hy | ⟨hy, hx⟩
      · left
        rcases Int.lt_or_le 0 w.2 with h | h
        · exact h
        · have := Int.mul_nonneg_of_nonpos_of_nonpos (show b ≤ 0 by omega) h; omega
      · right
        have w2 : w.2 = 0 := by
          rw [hy] at e2
          rcases Int.mul_eq_zero.mp e2.symm with h | h
          · exact absurd h b0
          · exact h
        refine ⟨w2, ?_⟩
        rcases Int.lt_or_le 0 w.1 with h | h
        · exact h
        · have := Int.mul_nonneg_of_nonpos_of_nonpos (show b ≤ 0 by omega) h; omega
    · rw [if_neg hc] at hs
      have bp : 0 < b := by omega
      by_cases hy : y = 0
      · right
        have w2 : w.2 = 0 := by
          rw [hy] at e2
          rcases Int.mul_eq_zero.mp e2.symm with h | h
          · exact absurd h b0
          · exact h
        refine ⟨w2, ?_⟩
        rcases Int.lt_or_le 0 w.1 with h | h
        · exact h
        · have := Int.mul_le_mul_of_nonneg_left h (show 0 ≤ b by omega)
          have hx : ¬ x < 0 := fun z => hc (.inr ⟨hy, z⟩)
          have : x ≠ 0 := fun z => ‹¬ (x = 0 ∧ y = 0)› ⟨z, hy⟩
          omega
      · left
        rcases Int.lt_or_le 0 w.2 with h | h
        · exact h
        · have := Int.mul_le_mul_of_nonneg_left h (show 0 ≤ b by omega)
          have : ¬ y < 0 := fun z => hc (.inl z)
          omega
abbrev Turn (W : List C2) : Prop := W.Pairwise fun a b => 0 < crs a b
def UpP (w : C2) : Prop := Up w ∧ Prim w
theorem tw_all {α : Type} (p : α → Bool) (l : List α) : (∀ x ∈ l.takeWhile p, p x = true) ∧ l.takeWhile p ++ l.drop (l.takeWhile p).length = l ∧ l.take (l.takeWhile p).length = l.takeWhile p ∧ ∀ x, (l.drop (l.takeWhile p).length).head? = some x → p x = false := by
  induction l with
  | nil => simp
  | cons a r ih =>
    by_cases h : p a = true
    · rw [List.takeWhile_cons_of_pos h]
      obtain ⟨i1, i2, i3, i4⟩ := ih
      refine ⟨fun x hx => ?_, ?_, ?_, fun x hx => ?_⟩
      · rcases List.mem_cons.mp hx with rfl | hx
        · exact h
        · exact i1 x hx
      · simpa using i2
      · simpa using i3
      · exact i4 x (by simpa using hx)
    · rw [List.takeWhile_cons_of_neg h]
      refine ⟨(fun x hx => nomatch hx), by simp, by simp, fun x hx => ?_⟩
      have : x = a := by simpa using hx.symm
      subst this
      simpa using h
theorem insW_turn {f : List C2} {w : C2} (hf : Turn f) (hu : ∀ x ∈ f, UpP x) (hw : UpP w) : Turn (insW f w) := by
  unfold insW
  by_cases hm : w ∈ f
  · rw [if_pos hm]; exact hf
  · rw [if_neg hm]
    obtain ⟨i1, i2, i3, i4⟩ := tw_all (fun x => decide (0 < crs x w)) f
    unfold atW
    generalize hk : (f.takeWhile fun x => decide (0 < crs x w)).length = k at *
    rw [i3]
    generalize f.takeWhile (fun x => decide (0 < crs x w)) = A at *
    generalize f.drop k = B at *
    subst i2
    have hAB := List.pairwise_append.mp hf
    have wB : ∀ b ∈ B, 0 < crs w b := by
      cases B with
      | nil => exact fun b hb => nomatch hb
      | cons b0 r =>
        have h0 := i4 b0 rfl
        have hb0 : b0 ∈ A ++ b0 :: r := by simp
        have hz : crs b0 w ≠ 0 := fun z => hm (by
          rw [← prim_eq (hu b0 hb0).2 hw.2 (hu b0 hb0).1 hw.1 z]; exact hb0)
        have h1 : 0 < crs w b0 := by
          have := crs_neg_comm b0 w
          have h2 : ¬ 0 < crs b0 w := by simpa using h0
          omega
        intro b hb
        rcases List.mem_cons.mp hb with rfl | hb
        · exact h1
        · exact up_trans hw.1 (hu b0 hb0).1 (hu b (by simp [hb])).1 h1 ((List.pairwise_cons.mp hAB.2.1).1 b hb)
    rw [List.append_assoc, List.singleton_append]
    refine List.pairwise_append.mpr ⟨hAB.1, List.pairwise_cons.mpr ⟨wB, hAB.2.1⟩, fun a ha b hb => ?_⟩
    rcases List.mem_cons.mp hb with rfl | hb
    · simpa using i1 a ha
    · exact hAB.2.2 a ha b hb
theorem inTurn_turn {ws : List C2} (h : ∀ w ∈ ws, UpP w) : Turn (inTurn ws) := by
  have key : ∀ (ws f : List C2), (∀ w ∈ ws, UpP w) → (∀ w ∈ f, UpP w) → Turn f → Turn (ws.foldl insW f) := by
    intro ws
    induction ws with
    | nil => exact fun f _ _ h => h
    | cons w r ih =>
      intro f h1 h2 h3
      exact ih (insW f w) (fun x hx => h1 x (List.mem_cons_of_mem _ hx)) (fun x hx => by
        rcases (insW_mem f w x).mp hx with h | h
        · exact h2 x h
        · rw [h]; exact h1 w List.mem_cons_self) (insW_turn h3 h2 (h1 w List.mem_cons_self))
  exact key ws [] h (fun _ h => nomatch h) .nil
theorem waysUp_up (cs : List C2) (p : Int × Int × Int) : ∀ w ∈ waysUp cs p, UpP w := fun w hw => by
  rcases List.mem_append.mp hw with h | h
  · have : w = (1, 0) ∨ w = (0, 1) := by simpa using h
    rcases this with rfl | rfl
    · exact ⟨.inr ⟨rfl, by decide⟩, by unfold Prim; decide⟩
    · exact ⟨.inl (by decide), by unfold Prim; decide⟩
  · obtain ⟨c, hc, rfl⟩ := List.mem_map.mp h
    have hne : ¬ offs c p = (0, 0) := by simpa using (List.mem_filter.mp hc).2
    obtain ⟨k, _, _, _, h1, h2⟩ := wayOf_spec (x := (offs c p).1) (y := (offs c p).2) fun z => hne (Prod.ext z.1 z.2)
    exact ⟨h2, h1⟩
abbrev roundF (W : List C2) : List C2 := W ++ W.map negC
theorem round_neg {W : List C2} {a : C2} (h : a ∈ roundF W) : negC a ∈ roundF W := by
  rcases List.mem_append.mp h with h | h
  · exact List.mem_append_right _ (List.mem_map_of_mem h)
  · obtain ⟨b, hb, rfl⟩ := List.mem_map.mp h
    rw [negC_negC]
    exact List.mem_append_left _ hb
theorem turn_zero {W : List C2} (hW : Turn W) {a b : C2} (ha : a ∈ W) (hb : b ∈ W) (h : crs a b = 0) : a = b := by
  obtain ⟨A, B, rfl⟩ := List.append_of_mem ha
  have hp := List.pairwise_append.mp hW
  rcases List.mem_append.mp hb with hb | hb
  · have := hp.2.2 b hb a (by simp)
    have := crs_neg_comm a b; omega
  · rcases List.mem_cons.mp hb with rfl | hb
    · rfl
    · have := (List.pairwise_cons.mp hp.2.1).1 b hb; omega
theorem round_zero {W : List C2} (hW : Turn W) {a b : C2} (ha : a ∈ roundF W) (hb : b ∈ roundF W) (h : crs a b = 0) : a = b ∨ a = negC b := by
  rcases List.mem_append.mp ha with ha | ha
  · rcases List.mem_append.mp hb with hb | hb
    · exact .inl (turn_zero hW ha hb h)
    · obtain ⟨c, hc, rfl⟩ := List.mem_map.mp hb
      rw [crs_negC_r] at h
      rw [negC_negC]
      exact .inr (turn_zero hW ha hc (by omega))
  · obtain ⟨d, hd, rfl⟩ := List.mem_map.mp ha
    rw [crs_negC_l] at h
    rcases List.mem_append.mp hb with hb | hb
    · right; rw [turn_zero hW hd hb (by omega)]
    · obtain ⟨c, hc, rfl⟩ := List.mem_map.mp hb
      rw [crs_negC_r] at h
      left; rw [turn_zero hW hd hc (by omega)]
/-- b follows a: left of it, no way strictly between -/
structure Nxt (F : List C2) (a b : C2) : Prop where
  left : 0 < crs a b
  none : ∀ l ∈ F, ¬ (0 < crs a l ∧ 0 < crs l b)
theorem turn_order {W : List C2} (hW : Turn W) {A B : List C2} {a b l : C2} (e : W = A ++ a :: b :: B) (hl : l ∈ W) : l = a ∨ l = b ∨ (0 < crs l a ∧ 0 < crs l b) ∨ (0 < crs a l ∧ 0 < crs b l) := by
  subst e
  have hp := List.pairwise_append.mp hW
  have h2 := List.pairwise_cons.mp hp.2.1
  have h3 := List.pairwise_cons.mp h2.2
  rcases List.mem_append.mp hl with h | h
  · exact .inr (.inr (.inl ⟨hp.2.2 l h a (by simp), hp.2.2 l h b (by simp)⟩))
  · rcases List.mem_cons.mp h with h | h
    · exact .inl h
    · rcases List.mem_cons.mp h with h | h
      · exact .inr (.inl h)
      · exact .inr (.inr (.inr ⟨h2.1 l (by simp [h]), h3.1 l h⟩))
theorem crs_self (a : C2) : crs a a = 0 := by unfold crs; grind
theorem nxt_in {W : List C2} (hW : Turn W) {A B : List C2} {a b : C2} (e : W = A ++ a :: b :: B) : Nxt (roundF W) a b := by
  have hab : 0 < crs a b := by
    subst e
    exact (List.pairwise_cons.mp (List.pairwise_append.mp hW).2.1).1 b (by simp)
  refine ⟨hab, fun l hl ⟨h1, h2⟩ => ?_⟩
  rcases List.mem_append.mp hl with hl | hl
  · rcases turn_order hW e hl with h | h | ⟨h3, h4⟩ | ⟨h3, h4⟩
    · rw [h, crs_self] at h1; omega
    · rw [h, crs_self] at h2; omega
    · have := crs_neg_comm l a; omega
    · have := crs_neg_comm l b; omega
  · obtain ⟨c, hc, rfl⟩ := List.mem_map.mp hl
    rw [crs_negC_r] at h1
    rw [crs_negC_l] at h2
    rcases turn_order hW e hc with h | h | ⟨h3, h4⟩ | ⟨h3, h4⟩
    · rw [h, crs_self] at h1; omega
    · rw [h, crs_self] at h2; omega
    · omega
    · have := crs_neg_comm a c; omega
theorem nxt_neg {W : List C2} {a b : C2} (h : Nxt (roundF W) a b) : Nxt (roundF W) (negC a) (negC b) := by
  refine ⟨by rw [crs_negC_l, crs_negC_r]; have := h.left; omega, fun l hl ⟨h1, h2⟩ => h.none (negC l) (round_neg hl) ⟨?_, ?_⟩⟩
  · rw [crs_negC_l] at h1; rw [crs_negC_r]; omega
  · rw [crs_negC_r] at h2; rw [crs_negC_l]; omega
theorem nxt_last {W M : List C2} (hW : Turn W) {a b : C2} (e : W = a :: (M ++ [b])) : Nxt (roundF W) b (negC a) := by
  subst e
  have h1 := List.pairwise_cons.mp hW
  have h2 := List.pairwise_append.mp h1.2
  have ab := h1.1 b (by simp)
  have hl : ∀ c ∈ a :: (M ++ [b]), (c = a ∨ 0 < crs a c) ∧ (c = b ∨ 0 < crs c b) := fun c hc => by
    rcases List.mem_cons.mp hc with rfl | hc
    · exact ⟨.inl rfl, .inr ab⟩
    · refine ⟨.inr (h1.1 c hc), ?_⟩
      rcases List.mem_append.mp hc with hc | hc
      · exact .inr (h2.2.2 c hc b (by simp))
      · exact .inl (by simpa using hc)
  refine ⟨by rw [crs_negC_r]; have := crs_neg_comm a b; omega, fun l hlm ⟨g1, g2⟩ => ?_⟩
  rw [crs_negC_r] at g2
  rcases List.mem_append.mp hlm with hlm | hlm
  · rcases (hl l hlm).2 with h | h
    · rw [h, crs_self] at g1; omega
    · have := crs_neg_comm l b; omega
  · obtain ⟨c, hc, rfl⟩ := List.mem_map.mp hlm
    rw [crs_negC_l] at g2
    rcases (hl c hc).1 with h | h
    · rw [h, crs_self] at g2; omega
    · have := crs_neg_comm a c; omega
theorem split_two {W : List C2} {k : Nat} {a b : C2} (h1 : W[k]? = some a) (h2 : W[k + 1]? = some b) : ∃ A B, W = A ++ a :: b :: B := by
  induction W generalizing k with
  | nil => simp at h1
  | cons c r ih =>
    cases k with
    | zero =>
      have e1 : c = a := by simpa using h1
      cases r with
      | nil => simp at h2
      | cons d r =>
        have e2 : d = b := by simpa using h2
        exact ⟨[], r, by rw [e1, e2]; rfl⟩
    | succ k =>
      obtain ⟨A, B, e⟩ := ih (k := k) (by simpa using h1) (by simpa using h2)
      exact ⟨c :: A, B, by rw [e]; rfl⟩
/-- what stands next in the round follows -/
theorem nxt_round {W : List C2} (hW : Turn W) (h2 : 2 ≤ W.length) {k : Nat} {a b : C2} (ha : (roundF W)[k]? = some a) (hb : (roundF W)[(k + 1) % (roundF W).length]? = some b) : Nxt (roundF W) a b := by
  have hl : (roundF W).length = 2 * W.length := by rw [List.length_append, List.length_map]; omega
  have hk : k < 2 * W.length := by rw [← hl]; exact (List.getElem?_eq_some_iff.mp ha).1
  rw [hl] at hb
  -- W's ends
  obtain ⟨f, M, t, hE⟩ : ∃ f M t, W = f :: (M ++ [t]) := by
    cases W with
    | nil => simp at h2
    | cons f r =>
      have hr : r ≠ [] := fun e => by rw [e] at h2; simp at h2
      exact ⟨f, r.dropLast, r.getLast hr, by rw [List.dropLast_concat_getLast]⟩
  have hf : W[0]? = some f := by rw [hE]; rfl
  have ht : W[W.length - 1]? = some t := by
    rw [hE]; simp
  by_cases h1 : k + 1 < W.length
  · rw [Nat.mod_eq_of_lt (by omega), List.getElem?_append_left h1] at hb
    rw [List.getElem?_append_left (by omega)] at ha
    obtain ⟨A, B, e⟩ := split_two ha hb
    exact nxt_in hW e
  · by_cases h3 : k + 1 = W.length
    · rw [Nat.mod_eq_of_lt (by omega), h3, List.getElem?_append_right (Nat.le_refl _), Nat.sub_self, List.getElem?_map, hf] at hb
      rw [List.getElem?_append_left (by omega), show k = W.length - 1 by omega, ht] at ha
      cases ha; cases hb
      exact nxt_last hW hE
    · rw [List.getElem?_append_right (by omega), List.getElem?_map] at ha
      by_cases h4 : k + 1 < 2 * W.length
      · rw [Nat.mod_eq_of_lt h4, List.getElem?_append_right (by omega), List.getElem?_map, show k + 1 - W.length = (k - W.length) + 1 by omega] at hb
        obtain ⟨a', ha', rfl⟩ := Option.map_eq_some_iff.mp ha
        obtain ⟨b', hb', rfl⟩ := Option.map_eq_some_iff.mp hb
        obtain ⟨A, B, e⟩ := split_two ha' hb'
        exact nxt_neg (nxt_in hW e)
      · rw [show (k + 1) % (2 * W.length) = 0 by rw [show k + 1 = 2 * W.length by omega, Nat.mod_self], List.getElem?_append_left (by omega), hf] at hb
        rw [show k - W.length = W.length - 1 by omega, ht] at ha
        cases hb; cases ha
        have := nxt_neg (nxt_last hW hE)
        rwa [negC_negC] at this
/-- what follows is one -/
theorem nxt_one {W : List C2} (hW : Turn W) {a u b : C2} (hu : u ∈ roundF W) (hb : b ∈ roundF W) (h1 : Nxt (roundF W) a u) (h2 : Nxt (roundF W) a b) : u = b := by
  rcases Int.lt_trichotomy (crs u b) 0 with h | h | h
  · exact absurd ⟨h2.left, by have := crs_neg_comm u b; omega⟩ (h1.none b hb)
  · rcases round_zero hW hu hb h with h | h
    · exact h
    · have := h1.left
      rw [h, crs_negC_r] at this
      have := h2.left; omega
  · exact absurd ⟨h1.left, h⟩ (h2.none u hu)
end K84
namespace K84
open L2 PySem PySem.Spec PyProof.Rows
def vsum (ws : List C2) : C2 := ((ws.map (·.1)).sum, (ws.map (·.2)).sum)
def Sv (W : List C2) (u : C2) : Int := (W.map fun v => ((crs u v).natAbs : Int)).sum
theorem vsum_cons (w : C2) (r : List C2) : vsum (w :: r) = (w.1 + (vsum r).1, w.2 + (vsum r).2) := by unfold vsum; simp
theorem vsum_app (a b : List C2) : vsum (a ++ b) = ((vsum a).1 + (vsum b).1, (vsum a).2 + (vsum b).2) := by unfold vsum; simp
theorem vsum_neg : ∀ W : List C2, vsum (W.map negC) = (-(vsum W).1, -(vsum W).2)
  | [] => rfl
  | w :: r => by
    rw [List.map_cons, vsum_cons, vsum_neg r, vsum_cons]
    unfold negC; simp only
    exact Prod.ext (by simp only; omega) (by simp only; omega)
theorem hereF_eq (s : Int) : ∀ (ws : List C2) (h : C2), hereF s h ws = (h.1 + 2 * (s * (vsum ws).1), h.2 + 2 * (s * (vsum ws).2))
  | [], h => by unfold hereF vsum; simp
  | w :: r, h => by
    show hereF s (stp s (stp s h w) w) r = _
    rw [hereF_eq s r, vsum_cons]
    unfold stp; simp only
    exact Prod.ext (by simp only; grind) (by simp only; grind)
theorem startF_eq (s : Int) (ws : List C2) : startF s ws = (-(s * (vsum ws).1), -(s * (vsum ws).2)) := by
  have key : ∀ (ws : List C2) (h : C2), ws.foldl (stm s) h = (h.1 - s * (vsum ws).1, h.2 - s * (vsum ws).2) := by
    intro ws
    induction ws with
    | nil => intro h; unfold vsum; simp
    | cons w r ih =>
      intro h
      rw [List.foldl_cons, ih, vsum_cons]
      unfold stm; simp only
      exact Prod.ext (by simp only; grind) (by simp only; grind)
  unfold startF
  rw [key]; simp
theorem crs_vsum (u : C2) : ∀ ws : List C2, crs u (vsum ws) = (ws.map fun v => crs u v).sum
  | [] => by unfold crs vsum; simp
  | w :: r => by
    rw [List.map_cons, List.sum_cons, ← crs_vsum u r, vsum_cons]
    unfold crs; simp only; grind
theorem Sv_app (a b : List C2) (u : C2) : Sv (a ++ b) u = Sv a u + Sv b u := by unfold Sv; simp
theorem Sv_cons (a : C2) (b : List C2) (u : C2) : Sv (a :: b) u = ((crs u a).natAbs : Int) + Sv b u := by unfold Sv; simp
theorem Sv_neg (W : List C2) (u : C2) : Sv W (negC u) = Sv W u := by
  unfold Sv
  congr 1
  refine List.map_congr_left fun v _ => ?_
  rw [crs_negC_l, Int.natAbs_neg]
theorem Sv_nonneg (W : List C2) (u : C2) : 0 ≤ Sv W u := by
  unfold Sv
  induction W with
  | nil => simp
  | cons w r ih => rw [List.map_cons, List.sum_cons]; omega
theorem Sv_ge {W : List C2} {u v : C2} (h : v ∈ W) : ((crs u v).natAbs : Int) ≤ Sv W u := by
  obtain ⟨A, B, rfl⟩ := List.append_of_mem h
  rw [Sv_app, Sv_cons]
  have := Sv_nonneg A u
  have := Sv_nonneg B u
  omega
theorem Sv_pos {B : List C2} {u : C2} (h : ∀ v ∈ B, 0 < crs u v) : crs u (vsum B) = Sv B u := by
  rw [crs_vsum]; unfold Sv
  congr 1
  exact List.map_congr_left fun v hv => by have := h v hv; omega
theorem Sv_npos {A : List C2} {u : C2} (h : ∀ v ∈ A, 0 < crs v u) : crs u (vsum A) = -Sv A u := by
  rw [crs_vsum]
  have : ∀ A : List C2, (∀ v ∈ A, 0 < crs v u) → (A.map fun v => crs u v).sum = -Sv A u := by
    intro A
    induction A with
    | nil => intro _; rfl
    | cons a r ih =>
      intro h
      rw [List.map_cons, List.sum_cons, Sv_cons, ih fun v hv => h v (List.mem_cons_of_mem _ hv)]
      have h1 := h a List.mem_cons_self
      have h2 := crs_neg_comm a u
      omega
  exact this A h
/-- where the ring's k-th side begins -/
def begF (W : List C2) (s : Int) (k : Nat) : C2 := hereF s (startF s W) ((roundF W).take k)
theorem beg_val {W : List C2} (hW : Turn W) (s : Int) {k : Nat} {w : C2} (h : (roundF W)[k]? = some w) : crs w (begF W s k) = -(s * Sv W w) := by
  unfold begF
  rw [hereF_eq, startF_eq]
  have split : ∀ (j : Nat) (u : C2), W[j]? = some u → ∃ A B, W = A ++ u :: B ∧ W.take j = A := fun j u hj => by
    have hlt := (List.getElem?_eq_some_iff.mp hj).1
    have he := (List.getElem?_eq_some_iff.mp hj).2
    refine ⟨W.take j, W.drop (j + 1), ?_, rfl⟩
    rw [← he, ← List.drop_eq_getElem_cons hlt, List.take_append_drop]
  by_cases hk : k < W.length
  · rw [List.getElem?_append_left hk] at h
    obtain ⟨A, B, e, ht⟩ := split k w h
    rw [List.take_append_of_le_length (by omega), ht]
    subst e
    have hp := List.pairwise_append.mp hW
    have hA := Sv_npos (A := A) (u := w) fun v hv => hp.2.2 v hv w (by simp)
    have hB := Sv_pos (B := B) (u := w) fun v hv => (List.pairwise_cons.mp hp.2.1).1 v hv
    rw [Sv_app, Sv_cons, crs_self, vsum_app, vsum_cons]
    unfold crs at hA hB ⊢
    simp only [Int.natAbs_zero] at *
    grind
  · rw [List.getElem?_append_right (by omega), List.getElem?_map] at h
    obtain ⟨u, hu, rfl⟩ := Option.map_eq_some_iff.mp h
    obtain ⟨A, B, e, ht⟩ := split _ u hu
    have e2 : (roundF W).take k = W ++ A.map negC := by
      rw [List.take_append, List.take_of_length_le (by omega), ← List.map_take, ht]
    rw [e2, vsum_app, vsum_neg, crs_negC_l, Sv_neg]
    clear e2 ht h
    subst e
    have hp := List.pairwise_append.mp hW
    have hA := Sv_npos (A := A) (u := u) fun v hv => hp.2.2 v hv u (by simp)
    have hB := Sv_pos (B := B) (u := u) fun v hv => (List.pairwise_cons.mp hp.2.1).1 v hv
    rw [Sv_app, Sv_cons, crs_self, vsum_app, vsum_cons]
    unfold crs at hA hB ⊢
    simp only [Int.natAbs_zero] at *
    grind
theorem ringF_get (s : Int) : ∀ (ws : List C2) (h : C2) (k : Nat) (w : C2), ws[k]? = some w → (ringF s h ws)[2 * k]? = some (hereF s h (ws.take k)) ∧ (ringF s h ws)[2 * k + 1]? = some (stp s (hereF s h (ws.take k)) w)
  | [], _, _, _, e => by simp at e
  | v :: r, h, 0, w, e => by
    have : v = w := by simpa using e
    subst this
    exact ⟨rfl, rfl⟩
  | v :: r, h, k + 1, w, e => by
    obtain ⟨h1, h2⟩ := ringF_get s r (stp s (stp s h v) v) k w (by simpa using e)
    exact ⟨h1, h2⟩
theorem ringOf_eq (W : List C2) (s : Int) : ringOf s (roundF W) = ringF s (startF s W) (roundF W) := by
  unfold ringOf
  have : (roundF W).take ((roundF W).length / 2) = W := by
    rw [List.length_append, List.length_map, show (W.length + W.length) / 2 = W.length by omega]
    exact List.take_left' rfl
  rw [this]
theorem here_step (W : List C2) (s : Int) {k : Nat} {w : C2} (h : (roundF W)[k]? = some w) : begF W s (k + 1) = stp s (stp s (begF W s k) w) w := by
  unfold begF
  rw [List.take_add_one, h, hereF_eq, hereF_eq]
  show _ = _
  rw [vsum_app, Option.toList_some, vsum_cons]
  unfold stp vsum; simp only [List.map_nil, List.sum_nil]
  exact Prod.ext (by simp only; grind) (by simp only; grind)
theorem here_close (W : List C2) (s : Int) : begF W s (roundF W).length = begF W s 0 := by
  unfold begF
  rw [List.take_length, List.take_zero, hereF_eq, hereF_eq, vsum_app, vsum_neg]
  unfold vsum
  exact Prod.ext (by simp [Int.add_right_neg]) (by simp [Int.add_right_neg])
theorem ring_sides {W : List C2} {s : Int} {p : C2 × C2} (hp : p ∈ sidesR (ringOf s (roundF W))) : ∃ k w, (roundF W)[k]? = some w ∧ (p.1 = begF W s k ∨ p.1 = stp s (begF W s k) w) ∧ p.2 = stp s p.1 w := by
  rw [ringOf_eq] at hp
  obtain ⟨i, hi, rfl⟩ := List.mem_map.mp hp
  have hl := ringF_len s (roundF W) (startF s W)
  rw [hl] at hi ⊢
  have hi' : i < 2 * (roundF W).length := List.mem_range.mp hi
  have hk : i / 2 < (roundF W).length := by omega
  obtain ⟨w, hw⟩ : ∃ w, (roundF W)[i / 2]? = some w := ⟨_, List.getElem?_eq_getElem hk⟩
  obtain ⟨g1, g2⟩ := ringF_get s (roundF W) (startF s W) (i / 2) w hw
  have gd : ∀ {j : Nat} {c : C2}, (ringF s (startF s W) (roundF W))[j]? = some c → (ringF s (startF s W) (roundF W)).getD j (0, 0) = c := fun h => by rw [List.getD_eq_getElem?_getD, h]; rfl
  have hb : hereF s (startF s W) ((roundF W).take (i / 2)) = begF W s (i / 2) := rfl
  rw [hb] at g1 g2
  refine ⟨i / 2, w, hw, ?_⟩
  by_cases he : i = 2 * (i / 2)
  · have e1 : (i + 1) % (2 * (roundF W).length) = 2 * (i / 2) + 1 := by rw [Nat.mod_eq_of_lt (by omega)]; omega
    simp only
    have g1' := g1
    rw [← he] at g1'
    rw [e1, gd g2, gd g1']
    exact ⟨.inl rfl, rfl⟩
  · have ei : i = 2 * (i / 2) + 1 := by omega
    have ea : (ringF s (startF s W) (roundF W)).getD i (0, 0) = stp s (begF W s (i / 2)) w := by
      rw [List.getD_eq_getElem?_getD, show (ringF s (startF s W) (roundF W))[i]? = some (stp s (begF W s (i / 2)) w) from by rw [← g2]; congr 1]; rfl
    have eb : (ringF s (startF s W) (roundF W)).getD ((i + 1) % (2 * (roundF W).length)) (0, 0) = stp s (stp s (begF W s (i / 2)) w) w := by
      rw [← here_step W s hw]
      by_cases hlt : i / 2 + 1 < (roundF W).length
      · obtain ⟨u, hu⟩ : ∃ u, (roundF W)[i / 2 + 1]? = some u := ⟨_, List.getElem?_eq_getElem hlt⟩
        obtain ⟨f1, _⟩ := ringF_get s (roundF W) (startF s W) (i / 2 + 1) u hu
        rw [show (i + 1) % (2 * (roundF W).length) = 2 * (i / 2 + 1) by rw [Nat.mod_eq_of_lt (by omega)]; omega]
        exact gd f1
      · have e : i / 2 + 1 = (roundF W).length := by omega
        obtain ⟨u, hu⟩ : ∃ u, (roundF W)[0]? = some u := ⟨_, List.getElem?_eq_getElem (by omega)⟩
        obtain ⟨f1, _⟩ := ringF_get s (roundF W) (startF s W) 0 u hu
        rw [show (i + 1) % (2 * (roundF W).length) = 2 * 0 by rw [show i + 1 = 2 * (roundF W).length by omega, Nat.mod_self], gd f1, e, here_close]
        rfl
    simp only
    rw [ea, eb]
    exact ⟨.inr rfl, rfl⟩
theorem ring_has {W : List C2} {s : Int} {k : Nat} {w : C2} (hw : (roundF W)[k]? = some w) : (begF W s k, stp s (begF W s k) w) ∈ sidesR (ringOf s (roundF W)) ∧ begF W s k ∈ ringOf s (roundF W) := by
  rw [ringOf_eq]
  have hl := ringF_len s (roundF W) (startF s W)
  have hk := (List.getElem?_eq_some_iff.mp hw).1
  obtain ⟨g1, g2⟩ := ringF_get s (roundF W) (startF s W) k w hw
  refine ⟨List.mem_map.mpr ⟨2 * k, List.mem_range.mpr (by omega), ?_⟩, List.mem_of_getElem? g1⟩
  rw [hl, Nat.mod_eq_of_lt (by omega), List.getD_eq_getElem?_getD, List.getD_eq_getElem?_getD, g1, g2]
  rfl
theorem sideV_stp (s : Int) (a w : C2) (x y l : Int) : sideV (a, stp s a w) x y l = s * (crs w (x, y) - l * crs w a) := by
  unfold sideV stp crs; simp only; grind
theorem crs_stp (s : Int) (a w : C2) : crs w (stp s a w) = crs w a := by unfold crs stp; simp only; grind
/-- the point Q (scaled by L) lies in the land -/
def InL (W : List C2) (s L : Int) (Q : C2) : Prop := ∀ w ∈ roundF W, 0 ≤ crs w Q + L * (s * Sv W w)
theorem ring_inside {W : List C2} (hW : Turn W) {s : Int} (hs : 1 ≤ s) (x y l : Int) : inside (sidesR (ringOf s (roundF W))) x y l = true ↔ InL W s l (x, y) := by
  have key : ∀ (k : Nat) (w a : C2), (roundF W)[k]? = some w → crs w a = crs w (begF W s k) → sideV (a, stp s a w) x y l = s * (crs w (x, y) + l * (s * Sv W w)) := fun k w a hw ha => by
    rw [sideV_stp, ha, beg_val hW s hw]; grind
  unfold inside
  rw [List.all_eq_true]
  constructor
  · intro h w hw
    obtain ⟨k, hk, he⟩ := List.getElem_of_mem hw
    have hw' : (roundF W)[k]? = some w := by rw [List.getElem?_eq_getElem hk, he]
    have h1 := of_decide_eq_true (h _ (ring_has hw').1)
    rw [key k w _ hw' rfl] at h1
    exact Classical.byContradiction fun hn => by
      have := Int.mul_neg_of_pos_of_neg (show 0 < s by omega) (Int.not_le.mp hn)
      omega
  · intro h p hp
    obtain ⟨k, w, hw, h1, h2⟩ := ring_sides hp
    refine decide_eq_true ?_
    have hp' : p = (p.1, stp s p.1 w) := Prod.ext rfl h2
    have hc : crs w p.1 = crs w (begF W s k) := by
      rcases h1 with h1 | h1
      · rw [h1]
      · rw [h1, crs_stp]
    rw [hp', key k w p.1 hw hc]
    exact Int.mul_nonneg (by omega) (h w (List.mem_of_getElem? hw))
theorem ring_vert {W : List C2} (hW : Turn W) (s : Int) {w : C2} (h : w ∈ roundF W) : ∃ v ∈ ringOf s (roundF W), crs w v = -(s * Sv W w) := by
  obtain ⟨k, hk, he⟩ := List.getElem_of_mem h
  have hw' : (roundF W)[k]? = some w := by rw [List.getElem?_eq_getElem hk, he]
  exact ⟨_, (ring_has hw').2, beg_val hW s hw'⟩
theorem sides_mv (t : C2) (ring : List C2) : sidesR (ring.map (mv t)) = (sidesR ring).map fun p => (mv t p.1, mv t p.2) := by
  unfold sidesR
  rw [List.map_map, List.length_map]
  refine List.map_congr_left fun k hk => ?_
  have hk' : k < ring.length := List.mem_range.mp hk
  have g : ∀ i, i < ring.length → (ring.map (mv t)).getD i (0, 0) = mv t (ring.getD i (0, 0)) := fun i hi => by
    rw [List.getD_eq_getElem?_getD, List.getD_eq_getElem?_getD, List.getElem?_map, List.getElem?_eq_getElem hi]; rfl
  simp only [Function.comp]
  rw [g k hk', g _ (Nat.mod_lt _ (by omega))]
theorem inside_mv (t : C2) (ring : List C2) (x y l : Int) : inside (sidesR (ring.map (mv t))) x y l = inside (sidesR ring) (x - l * t.1) (y - l * t.2) l := by
  unfold inside
  rw [sides_mv, List.all_map]
  congr 1
  funext p
  simp only [Function.comp]
  congr 1
  have : sideV (mv t p.1, mv t p.2) x y l = sideV p (x - l * t.1) (y - l * t.2) l := by unfold sideV mv; simp only; grind
  rw [this]
theorem inside_rot {r0 : List C2} {at' : Nat} (h : at' < r0.length) (x y l : Int) : inside (sidesR (r0.drop at' ++ r0.take at')) x y l = inside (sidesR r0) x y l := by
  unfold inside
  rw [Bool.eq_iff_iff, List.all_eq_true, List.all_eq_true]
  exact ⟨fun hh p hp => hh p ((sides_rot h p).mpr hp), fun hh p hp => hh p ((sides_rot h p).mp hp)⟩
end K84
namespace K84
open L2 PySem PySem.Spec PyProof.Rows
theorem beyV_crs (w c : C2) (p : Int × Int × Int) : beyV w c p = -crs w (offs c p) := by unfold beyV crs offs; simp only; grind
theorem crs_add (w a b : C2) : crs w (a.1 + b.1, a.2 + b.2) = crs w a + crs w b := by unfold crs; simp only; grind
theorem crs_split (a b l v : C2) : crs a b * crs l v = crs l b * crs a v + crs a l * crs b v := by unfold crs; grind
theorem abs_split {A B D x y t : Int} (hA : 0 ≤ A) (hB : 0 ≤ B) (h : D * t = A * x + B * y) : D * (t.natAbs : Int) ≤ A * (x.natAbs : Int) + B * (y.natAbs : Int) := by
  have a1 := Int.mul_le_mul_of_nonneg_left (show x ≤ (x.natAbs : Int) by omega) hA
  have a2 := Int.mul_le_mul_of_nonneg_left (show y ≤ (y.natAbs : Int) by omega) hB
  have a3 := Int.mul_le_mul_of_nonneg_left (show -x ≤ (x.natAbs : Int) by omega) hA
  have a4 := Int.mul_le_mul_of_nonneg_left (show -y ≤ (y.natAbs : Int) by omega) hB
  rw [Int.mul_neg] at a3 a4
  rcases Int.le_total 0 t with ht | ht
  · rw [show (t.natAbs : Int) = t by omega]; omega
  · rw [show (t.natAbs : Int) = -t by omega, Int.mul_neg]; omega
theorem Sv_split {a b l : C2} (hA : 0 ≤ crs l b) (hB : 0 ≤ crs a l) : ∀ W : List C2, crs a b * Sv W l ≤ crs l b * Sv W a + crs a l * Sv W b
  | [] => by unfold Sv; simp
  | v :: r => by
    have ih := Sv_split hA hB r
    have h := abs_split hA hB (crs_split a b l v)
    rw [Sv_cons, Sv_cons, Sv_cons, Int.mul_add, Int.mul_add, Int.mul_add]
    omega
/-- strictly between, it is more by both -/
theorem Sv_more {W : List C2} {a b l : C2} (hl : l ∈ roundF W) (hA : 0 < crs l b) (hB : 0 < crs a l) : crs a b * Sv W l + (crs l b + crs a l) ≤ crs l b * Sv W a + crs a l * Sv W b := by
  obtain ⟨v, hv, hvl⟩ : ∃ v ∈ W, (crs a v).natAbs = (crs a l).natAbs ∧ (crs b v).natAbs = (crs l b).natAbs ∧ crs l v = 0 := by
    rcases List.mem_append.mp hl with h | h
    · exact ⟨l, h, rfl, by rw [crs_neg_comm l b, Int.natAbs_neg], crs_self l⟩
    · obtain ⟨c, hc, rfl⟩ := List.mem_map.mp h
      exact ⟨c, hc, by rw [crs_negC_r, Int.natAbs_neg], by rw [crs_negC_l, crs_neg_comm b c, Int.neg_neg], by rw [crs_negC_l, crs_self]; rfl⟩
  obtain ⟨h1, h2, h3⟩ := hvl
  obtain ⟨A, B, rfl⟩ := List.append_of_mem hv
  have i1 := Sv_split (a := a) (b := b) (l := l) (by omega) (by omega) A
  have i2 := Sv_split (a := a) (b := b) (l := l) (by omega) (by omega) B
  rw [Sv_app, Sv_app, Sv_app, Sv_cons, Sv_cons, Sv_cons, h1, h2, h3]
  rw [show (((crs a l).natAbs : Nat) : Int) = crs a l by omega, show (((crs l b).natAbs : Nat) : Int) = crs l b by omega]
  simp only [Int.mul_add, Int.natAbs_zero, Int.natCast_zero, Int.mul_zero, Int.zero_add]
  have k1 := Int.mul_le_mul_of_nonneg_left (show 1 ≤ crs a l by omega) (show 0 ≤ crs l b by omega)
  have k2 := Int.mul_le_mul_of_nonneg_left (show 1 ≤ crs l b by omega) (show 0 ≤ crs a l by omega)
  rw [Int.mul_one] at k1 k2
  omega
/-- what round ways are like here -/
structure Wys (W : List C2) : Prop where
  turn : Turn W
  x : ((1, 0) : C2) ∈ W
  y : ((0, 1) : C2) ∈ W
  up : ∀ w ∈ W, Up w
theorem Wys.two {W : List C2} (h : Wys W) : 2 ≤ W.length := by
  have h1 := h.x
  have h2 := h.y
  cases W with
  | nil => cases h1
  | cons a r =>
    cases r with
    | nil =>
      have e1 := List.mem_singleton.mp h1
      have e2 := List.mem_singleton.mp h2
      rw [← e1] at e2
      have := congrArg Prod.fst e2
      simp at this
    | cons b r => simp
theorem Sv_ge2 {W : List C2} {w u v : C2} (hu : u ∈ W) (hv : v ∈ W) (hne : v ≠ u) : ((crs w u).natAbs : Int) + ((crs w v).natAbs : Int) ≤ Sv W w := by
  obtain ⟨A, B, rfl⟩ := List.append_of_mem hu
  rw [Sv_app, Sv_cons]
  have a0 := Sv_nonneg A w
  have b0 := Sv_nonneg B w
  rcases List.mem_append.mp hv with h | h
  · have := Sv_ge (u := w) h; omega
  · rcases List.mem_cons.mp h with h | h
    · exact absurd h hne
    · have := Sv_ge (u := w) h; omega
theorem Wys.sv {W : List C2} (h : Wys W) (w : C2) : (w.1.natAbs : Int) + (w.2.natAbs : Int) ≤ Sv W w := by
  have h1 := Sv_ge2 (w := w) h.x h.y (by intro e; have := congrArg Prod.fst e; simp at this)
  have e1 : crs w (1, 0) = -w.2 := by unfold crs; simp
  have e2 : crs w (0, 1) = w.1 := by unfold crs; simp
  rw [e1, e2, Int.natAbs_neg] at h1
  omega
theorem Wys.pos {W : List C2} (h : Wys W) {w : C2} (hw : w ∈ roundF W) : 1 ≤ Sv W w := by
  have h1 := h.sv w
  have h2 : w.1 ≠ 0 ∨ w.2 ≠ 0 := by
    rcases List.mem_append.mp hw with hw | hw
    · have := h.up w hw
      unfold Up at this; omega
    · obtain ⟨c, hc, rfl⟩ := List.mem_map.mp hw
      have := h.up c hc
      unfold Up at this
      unfold negC; simp only; omega
  omega
/-- for a point in the land there are two neighbouring ways, and room for a step at all others -/
theorem two_ways {W : List C2} (hW : Wys W) {s L : Int} (hs : 1 ≤ s) (hL : 0 < L) {Q : C2} (hQ : InL W s L Q) :
    ∃ k w u, (roundF W)[k]? = some w ∧ (roundF W)[(k + 1) % (roundF W).length]? = some u ∧ ∀ v ∈ roundF W, v = w ∨ v = u ∨ s * L ≤ crs v Q + L * (s * Sv W v) := by
  have hM : 0 < s * L := Int.mul_pos (by omega) hL
  have eM : ∀ S : Int, L * (s * S) = s * L * S := fun S => by rw [← Int.mul_assoc, Int.mul_comm L s]
  have hQ' : ∀ w ∈ roundF W, 0 ≤ crs w Q + s * L * Sv W w := fun w hw => by rw [← eM]; exact hQ w hw
  generalize hM' : s * L = M at *
  have hT := hW.turn
  have hn : 0 < (roundF W).length := by
    have := hW.two
    rw [List.length_append]; omega
  let J : C2 → Prop := fun v => crs v Q + M * Sv W v < M
  suffices h : ∃ k w u, (roundF W)[k]? = some w ∧ (roundF W)[(k + 1) % (roundF W).length]? = some u ∧ ∀ v ∈ roundF W, J v → v = w ∨ v = u by
    obtain ⟨k, w, u, h1, h2, h3⟩ := h
    refine ⟨k, w, u, h1, h2, fun v hv => ?_⟩
    by_cases hj : J v
    · rcases h3 v hv hj with h | h
      · exact .inl h
      · exact .inr (.inl h)
    · exact .inr (.inr (by rw [eM]; exact Int.not_lt.mp hj))
  have opp : ∀ a ∈ roundF W, J a → ¬ J (negC a) := fun a ha h1 h2 => by
    have h1 : crs a Q + M * Sv W a < M := h1
    have h2 : crs (negC a) Q + M * Sv W (negC a) < M := h2
    rw [Sv_neg, crs_negC_l] at h2
    have := Int.mul_le_mul_of_nonneg_left (hW.pos ha) (show 0 ≤ M by omega)
    omega
  have btw : ∀ a ∈ roundF W, ∀ b ∈ roundF W, ∀ l ∈ roundF W, J a → J b → 0 < crs a b → 0 < crs a l → 0 < crs l b → False := fun a _ b _ l hl h1 h2 hD hB hA => by
    have h1 : crs a Q + M * Sv W a < M := h1
    have h2 : crs b Q + M * Sv W b < M := h2
    have h3 := hQ' l hl
    have hm := Sv_more hl hA hB
    have hs := crs_split a b l Q
    generalize crs a b = D at *
    generalize crs l b = A at *
    generalize crs a l = B at *
    have k1 := Int.mul_le_mul_of_nonneg_left (show crs a Q + M * Sv W a ≤ M - 1 by omega) (show 0 ≤ A by omega)
    have k2 := Int.mul_le_mul_of_nonneg_left (show crs b Q + M * Sv W b ≤ M - 1 by omega) (show 0 ≤ B by omega)
    have k3 := Int.mul_nonneg (show 0 ≤ D by omega) h3
    have k4 := Int.mul_le_mul_of_nonneg_left hm (show 0 ≤ M by omega)
    simp only [Int.mul_add, Int.mul_sub, Int.mul_one] at k1 k2 k3 k4
    have r1 : A * (M * Sv W a) = M * (A * Sv W a) := by grind
    have r2 : B * (M * Sv W b) = M * (B * Sv W b) := by grind
    have r3 : D * (M * Sv W l) = M * (D * Sv W l) := by grind
    have r4 : A * M = M * A := Int.mul_comm ..
    have r5 : B * M = M * B := Int.mul_comm ..
    omega
  have idx : ∀ a ∈ roundF W, ∃ k u, (roundF W)[k]? = some a ∧ (roundF W)[(k + 1) % (roundF W).length]? = some u := fun a ha => by
    obtain ⟨k, hk, he⟩ := List.getElem_of_mem ha
    exact ⟨k, _, by rw [List.getElem?_eq_getElem hk, he], List.getElem?_eq_getElem (Nat.mod_lt _ hn)⟩
  by_cases h2 : ∃ a b, a ∈ roundF W ∧ b ∈ roundF W ∧ J a ∧ J b ∧ 0 < crs a b
  · obtain ⟨a, b, ha, hb, ja, jb, hab⟩ := h2
    obtain ⟨k, u, g1, g2⟩ := idx a ha
    have hu := List.mem_of_getElem? g2
    have n1 := nxt_round hT hW.two g1 g2
    have n2 : Nxt (roundF W) a b := ⟨hab, fun l hl ⟨p, q⟩ => btw a ha b hb l hl ja jb hab p q⟩
    have e := nxt_one hT hu hb n1 n2
    subst e
    refine ⟨k, a, u, g1, g2, fun v hv jv => ?_⟩
    rcases Int.lt_trichotomy (crs a v) 0 with h | h | h
    · exfalso
      have hva : 0 < crs v a := by have := crs_neg_comm a v; omega
      rcases Int.lt_trichotomy (crs v u) 0 with g | g | g
      · refine btw u hu v hv (negC a) (round_neg ha) jb jv (by have := crs_neg_comm v u; omega) ?_ ?_
        · rw [crs_negC_r]; have := crs_neg_comm a u; omega
        · rw [crs_negC_l]; omega
      · rcases round_zero hT hv hu g with z | z
        · rw [z] at h; omega
        · rw [z] at jv; exact opp u hu jb jv
      · exact btw v hv u hu a ha jv jb g hva hab
    · rcases round_zero hT ha hv h with z | z
      · exact .inl z.symm
      · rw [z] at ja; exact absurd ja (opp v hv jv)
    · exact .inr (nxt_one hT hv hu ⟨h, fun l hl ⟨p, q⟩ => btw a ha v hv l hl ja jv h p q⟩ n1)
  · by_cases h1 : ∃ a, a ∈ roundF W ∧ J a
    · obtain ⟨a, ha, ja⟩ := h1
      obtain ⟨k, u, g1, g2⟩ := idx a ha
      refine ⟨k, a, u, g1, g2, fun v hv jv => ?_⟩
      have n1 : ¬ 0 < crs a v := fun h => h2 ⟨a, v, ha, hv, ja, jv, h⟩
      have n2 : ¬ 0 < crs v a := fun h => h2 ⟨v, a, hv, ha, jv, ja, h⟩
      have := crs_neg_comm a v
      rcases round_zero hT ha hv (by omega) with z | z
      · exact .inl z.symm
      · rw [z] at ja; exact absurd ja (opp v hv jv)
    · obtain ⟨k, u, g1, g2⟩ := idx (1, 0) (List.mem_append_left _ hW.x)
      exact ⟨k, (1, 0), u, g1, g2, fun v hv jv => absurd ⟨v, hv, jv⟩ h1⟩
/-- not behind both of two neighbours together: before each -/
theorem both_left {W : List C2} {w u o d : C2} {κ : Int} (h : Nxt (roundF W) w u) (hd : d ∈ roundF W) (hκ : 0 < κ) (ho : o = (κ * d.1, κ * d.2)) (hm : 0 ≤ crs (w.1 + u.1, w.2 + u.2) o) : 0 ≤ crs w o ∧ 0 ≤ crs u o := by
  have e : ∀ v : C2, crs v o = κ * crs v d := fun v => by rw [ho]; unfold crs; simp only; grind
  have em : crs (w.1 + u.1, w.2 + u.2) d = crs w d + crs u d := by unfold crs; simp only; grind
  rw [e, em] at hm
  have hs : 0 ≤ crs w d + crs u d := Classical.byContradiction fun hn => by
    have := Int.mul_neg_of_pos_of_neg hκ (Int.not_le.mp hn); omega
  rw [e, e]
  have h1 : 0 ≤ crs w d := Classical.byContradiction fun hn => by
    refine h.none (negC d) (round_neg hd) ⟨?_, ?_⟩
    · rw [crs_negC_r]; omega
    · rw [crs_negC_l]; have := crs_neg_comm u d; omega
  have h2 : 0 ≤ crs u d := Classical.byContradiction fun hn => by
    refine h.none d hd ⟨by omega, ?_⟩
    have := crs_neg_comm u d; omega
  exact ⟨Int.mul_nonneg (by omega) h1, Int.mul_nonneg (by omega) h2⟩
theorem ways_wys (cs : List C2) (p : Int × Int × Int) : Wys (inTurn (waysUp cs p)) :=
  ⟨inTurn_turn (waysUp_up cs p), (inTurn_mem _ _).mpr (by unfold waysUp; simp), (inTurn_mem _ _).mpr (by unfold waysUp; simp), fun w hw => (waysUp_up cs p w ((inTurn_mem _ _).mp hw)).1⟩
/-- an offset lies along a way -/
theorem offs_way {cs : List C2} {p : Int × Int × Int} {c : C2} (hc : c ∈ cs) (h0 : offs c p ≠ (0, 0)) : ∃ d ∈ roundF (inTurn (waysUp cs p)), ∃ κ : Int, 0 < κ ∧ offs c p = (κ * d.1, κ * d.2) := by
  obtain ⟨k, k0, e1, e2, _, _⟩ := wayOf_spec (x := (offs c p).1) (y := (offs c p).2) fun z => h0 (Prod.ext z.1 z.2)
  have hm : wayOf (offs c p).1 (offs c p).2 ∈ inTurn (waysUp cs p) := (inTurn_mem _ _).mpr (List.mem_append_right _ (List.mem_map.mpr ⟨c, List.mem_filter.mpr ⟨hc, by simpa using h0⟩, rfl⟩))
  generalize wayOf (offs c p).1 (offs c p).2 = w at *
  rcases Int.lt_trichotomy k 0 with h | h | h
  · refine ⟨negC w, round_neg (List.mem_append_left _ hm), -k, by omega, Prod.ext ?_ ?_⟩
    · rw [e1]; unfold negC; simp only; grind
    · rw [e2]; unfold negC; simp only; grind
  · exact absurd h k0
  · exact ⟨w, List.mem_append_left _ hm, k, h, Prod.ext e1 e2⟩
end K84
namespace K84
open L2 PySem PySem.Spec PyProof.Rows
def ptOf (p : Int × Int × Int) : C2 × C2 := (fr p.1 p.2.2, fr p.2.1 p.2.2)
/-- the point's three numbers in lowest terms -/
structure PtF (p T : Int × Int × Int) (pt : C2 × C2) : Prop where
  a0 : 0 < pt.1.2
  a1 : pt.1.2 ≤ 9
  b0 : 0 < pt.2.2
  b1 : pt.2.2 ≤ 9
  l0 : 0 < T.2.2
  l1 : T.2.2 ≤ 81
  x : -(900 * T.2.2) ≤ T.1 ∧ T.1 ≤ 900 * T.2.2
  y : -(900 * T.2.2) ≤ T.2.1 ∧ T.2.1 ≤ 900 * T.2.2
  n1 : -8100 ≤ pt.1.1 ∧ pt.1.1 ≤ 8100
  n2 : -8100 ≤ pt.2.1 ∧ pt.2.1 ≤ 8100
  ex : T.1 * p.2.2 = p.1 * T.2.2
  ey : T.2.1 * p.2.2 = p.2.1 * T.2.2
theorem pt_facts {P : List (List C2)} {p : Int × Int × Int} (h : AboutR P p) : PtF p (triple (ptOf p)) (ptOf p) := by
  have l0 := h.l0
  have l1 := h.l1
  obtain ⟨x0, x1⟩ := h.x
  obtain ⟨y0, y1⟩ := h.y
  obtain ⟨a0, a1⟩ := fr_low (u := p.1) (show 0 < p.2.2 by omega)
  obtain ⟨b0, b1⟩ := fr_low (u := p.2.1) (show 0 < p.2.2 by omega)
  obtain ⟨g, g1, g2⟩ := fr_lowest p.1 p.2.2
  obtain ⟨j, j1, j2⟩ := fr_lowest p.2.1 p.2.2
  unfold ptOf triple
  simp only
  generalize fr p.1 p.2.2 = f at *
  generalize fr p.2.1 p.2.2 = e at *
  obtain ⟨x, y, l⟩ := p
  obtain ⟨f1, f2⟩ := f
  obtain ⟨e1, e2⟩ := e
  simp only at *
  have pos : ∀ {g a l : Int}, 0 < a → 0 < l → l = g * a → 0 < g := fun {g a l} ha hl h => by
    rcases Int.lt_or_le 0 g with h' | h'
    · exact h'
    · have := Int.mul_le_mul_of_nonneg_right h' (show 0 ≤ a by omega); omega
  have g0 := pos a0 (show 0 < l by omega) g2
  have j0 := pos b0 (show 0 < l by omega) j2
  have bd : ∀ {g a b X l : Int}, 0 < g → X = g * a → l = g * b → -(900 * l) ≤ X → X ≤ 900 * l → -(900 * b) ≤ a ∧ a ≤ 900 * b := fun {g a b X l} h0 h1 h2 h3 h4 => by
    constructor
    · refine Int.le_of_mul_le_mul_left (a := g) ?_ h0
      rw [show g * (-(900 * b)) = -(900 * (g * b)) by grind, ← h1, ← h2]; exact h3
    · refine Int.le_of_mul_le_mul_left (a := g) ?_ h0
      rw [show g * (900 * b) = 900 * (g * b) by grind, ← h1, ← h2]; exact h4
  obtain ⟨c1, c2⟩ := bd g0 g1 g2 x0 x1
  obtain ⟨d1, d2⟩ := bd j0 j1 j2 y0 y1
  have m1 := Int.mul_le_mul_of_nonneg_right c1 (show 0 ≤ e2 by omega)
  have m2 := Int.mul_le_mul_of_nonneg_right c2 (show 0 ≤ e2 by omega)
  have m3 := Int.mul_le_mul_of_nonneg_right d1 (show 0 ≤ f2 by omega)
  have m4 := Int.mul_le_mul_of_nonneg_right d2 (show 0 ≤ f2 by omega)
  have m5 : f2 * e2 ≤ 9 * e2 := Int.mul_le_mul_of_nonneg_right (by omega) (by omega)
  refine ⟨a0, by show f2 ≤ 9; omega, b0, by show e2 ≤ 9; omega, Int.mul_pos a0 b0, by show f2 * e2 ≤ 81; omega, ?_, ?_, by show -8100 ≤ f1 ∧ f1 ≤ 8100; omega, by show -8100 ≤ e1 ∧ e1 ≤ 8100; omega, ?_, ?_⟩
  · show -(900 * (f2 * e2)) ≤ f1 * e2 ∧ f1 * e2 ≤ 900 * (f2 * e2)
    rw [Int.neg_mul, Int.mul_assoc] at m1
    rw [Int.mul_assoc] at m2
    omega
  · show -(900 * (f2 * e2)) ≤ e1 * f2 ∧ e1 * f2 ≤ 900 * (f2 * e2)
    rw [Int.neg_mul, Int.mul_assoc, Int.mul_comm e2 f2] at m3
    rw [Int.mul_assoc, Int.mul_comm e2 f2] at m4
    omega
  · show f1 * e2 * l = x * (f2 * e2)
    rw [g1, g2]; grind
  · show e1 * f2 * l = y * (f2 * e2)
    rw [j1, j2]; grind
/-- the hulls are those about the point in lowest terms, too -/
theorem hull_pt {p T : Int × Int × Int} {pt : C2 × C2} (h : PtF p T pt) (l0 : 0 < p.2.2) {S : List C2} (hS : HullD S p) : HullD S T := fun m => by
  obtain ⟨z, hz, hm⟩ := hS m
  refine ⟨z, hz, ?_⟩
  have e : p.2.2 * crs m (offs z T) = T.2.2 * crs m (offs z p) := by
    have ex := h.ex
    have ey := h.ey
    unfold crs offs; simp only; grind
  have h1 := Int.mul_nonneg (show 0 ≤ T.2.2 by have := h.l0; omega) hm
  exact Classical.byContradiction fun hn => by
    have := Int.mul_neg_of_pos_of_neg l0 (Int.not_le.mp hn); omega
section
variable {P : List (List C2)} {p : Int × Int × Int} {cs : List C2}
theorem cells_bd (h : AboutR P p) (hc : CellsOf P cs) : ∀ c ∈ cs, -1000 ≤ c.1 ∧ c.1 ≤ 1000 ∧ -1000 ≤ c.2 ∧ c.2 ≤ 1000 := fun c hcm => by
  obtain ⟨P0, hH, _, hb, _⟩ := h.ex
  obtain ⟨R, hR, hcR⟩ := (hc c).mp hcm
  obtain ⟨S, hS, hcS⟩ := hH.cell R hR c hcR
  exact hb S hS c hcS
theorem offs_bd {T : Int × Int × Int} {pt : C2 × C2} (F : PtF p T pt) {c : C2} (hc : -1000 ≤ c.1 ∧ c.1 ≤ 1000 ∧ -1000 ≤ c.2 ∧ c.2 ≤ 1000) : (-(1900 * T.2.2) ≤ (offs c T).1 ∧ (offs c T).1 ≤ 1900 * T.2.2) ∧ -(1900 * T.2.2) ≤ (offs c T).2 ∧ (offs c T).2 ≤ 1900 * T.2.2 := by
  obtain ⟨h1, h2, h3, h4⟩ := hc
  have l0 := F.l0
  obtain ⟨x0, x1⟩ := F.x
  obtain ⟨y0, y1⟩ := F.y
  have m1 := Int.mul_le_mul_of_nonneg_right h1 (show 0 ≤ T.2.2 by omega)
  have m2 := Int.mul_le_mul_of_nonneg_right h2 (show 0 ≤ T.2.2 by omega)
  have m3 := Int.mul_le_mul_of_nonneg_right h3 (show 0 ≤ T.2.2 by omega)
  have m4 := Int.mul_le_mul_of_nonneg_right h4 (show 0 ≤ T.2.2 by omega)
  unfold offs
  simp only
  omega
theorem ways_bd {T : Int × Int × Int} {pt : C2 × C2} (F : PtF p T pt) (hb : ∀ c ∈ cs, -1000 ≤ c.1 ∧ c.1 ≤ 1000 ∧ -1000 ≤ c.2 ∧ c.2 ≤ 1000) : ∀ w ∈ waysF cs T, (-(1900 * T.2.2) ≤ w.1 ∧ w.1 ≤ 1900 * T.2.2) ∧ -(1900 * T.2.2) ≤ w.2 ∧ w.2 ≤ 1900 * T.2.2 := by
  have l0 := F.l0
  have up : ∀ w ∈ waysUp cs T, (-(1900 * T.2.2) ≤ w.1 ∧ w.1 ≤ 1900 * T.2.2) ∧ -(1900 * T.2.2) ≤ w.2 ∧ w.2 ≤ 1900 * T.2.2 := fun w hw => by
    rcases List.mem_append.mp hw with hw | hw
    · have : w = (1, 0) ∨ w = (0, 1) := by simpa using hw
      rcases this with rfl | rfl <;> simp only <;> omega
    · obtain ⟨c, hc, rfl⟩ := List.mem_map.mp hw
      obtain ⟨hc1, hc2⟩ := List.mem_filter.mp hc
      have hne : offs c T ≠ (0, 0) := by simpa using hc2
      have ho := offs_bd F (hb c hc1)
      obtain ⟨k, k0, e1, e2, _, _⟩ := wayOf_spec (x := (offs c T).1) (y := (offs c T).2) fun z => hne (Prod.ext z.1 z.2)
      have hl : ∀ {k a b : Int}, k ≠ 0 → a = k * b → b.natAbs ≤ a.natAbs := fun {k a b} h0 h1 => by
        rw [h1, Int.natAbs_mul]
        have : 1 * b.natAbs ≤ k.natAbs * b.natAbs := Nat.mul_le_mul_right _ (by omega)
        omega
      have n1 := hl k0 e1
      have n2 := hl k0 e2
      omega
  intro w hw
  rcases List.mem_append.mp hw with hw | hw
  · exact up w ((inTurn_mem _ _).mp hw)
  · obtain ⟨c, hc, rfl⟩ := List.mem_map.mp hw
    have := up c ((inTurn_mem _ _).mp hc)
    unfold negC
    simp only
    omega
theorem abs_mul_le {a b M : Int} (hM : 0 ≤ M) (h1 : -M ≤ a ∧ a ≤ M) (h2 : -M ≤ b ∧ b ≤ M) : -(M * M) ≤ a * b ∧ a * b ≤ M * M := by
  have k1 : a.natAbs ≤ M.natAbs := by omega
  have k2 : b.natAbs ≤ M.natAbs := by omega
  have k3 := Nat.mul_le_mul k1 k2
  rw [← Int.natAbs_mul, ← Int.natAbs_mul] at k3
  have := Int.mul_nonneg hM hM
  omega
/-- before two neighbours there stands a whole row -/
theorem row_hit (h : AboutR P p) (hc : CellsOf P cs) {k : Nat} {w u : C2} (h1 : (waysF cs (triple (ptOf p)))[k]? = some w) (h2 : (waysF cs (triple (ptOf p)))[(k + 1) % (waysF cs (triple (ptOf p))).length]? = some u) :
    ∃ R ∈ P, ∀ z ∈ R, beyV w z (triple (ptOf p)) ≤ 0 ∧ beyV u z (triple (ptOf p)) ≤ 0 := by
  have F := pt_facts h
  obtain ⟨P0, hH, hHull, _, _⟩ := h.ex
  have hW := ways_wys cs (triple (ptOf p))
  have n := nxt_round hW.turn hW.two h1 h2
  obtain ⟨R, hR, hz⟩ := hH.low (fun z => z ∈ cs → beyV w z (triple (ptOf p)) ≤ 0 ∧ beyV u z (triple (ptOf p)) ≤ 0) fun S hS => by
    by_cases hall : ∃ z ∈ S, z ∉ cs
    · obtain ⟨z, hz, hn⟩ := hall
      exact ⟨z, hz, fun hc => absurd hc hn⟩
    · obtain ⟨z, hz, hm⟩ := hull_pt F (by have := h.l0; omega) (hHull S hS) (w.1 + u.1, w.2 + u.2)
      refine ⟨z, hz, fun hzc => ?_⟩
      rw [beyV_crs, beyV_crs]
      by_cases h0 : offs z (triple (ptOf p)) = (0, 0)
      · rw [h0]; unfold crs; simp
      · obtain ⟨d, hd, κ, hκ, ho⟩ := offs_way hzc h0
        have := both_left n hd hκ ho hm
        omega
  exact ⟨R, hR, fun z hzR => hz z hzR ((hc z).mpr ⟨R, hR, hzR⟩)⟩
theorem land_pre (h : AboutR P p) : LandPre P (ptOf p) 600000000 := by
  have F := pt_facts h
  obtain ⟨P0, hH, _⟩ := h.ex
  have l0 := F.l0
  have l1 := F.l1
  refine ⟨by have := hH.len; omega, fun R hR => by have := (hH.nd R hR).2.2; omega, ?_, ?_, l0, by omega, fun cs hc => ?_, by decide, by decide, fun cs hc w hw c hcm => ?_, fun cs hc k w u h1 h2 => row_hit h hc h1 h2⟩
  · obtain ⟨a, b⟩ := F.n1
    have := F.a0
    have := F.a1
    exact ⟨by omega, by omega⟩
  · obtain ⟨a, b⟩ := F.n2
    have := F.b0
    have := F.b1
    exact ⟨by omega, by omega⟩
  · intro c hcm
    have hb := cells_bd h hc c hcm
    have ho := offs_bd F hb
    exact ⟨⟨by omega, by omega⟩, by omega, by omega⟩
  · have hb := cells_bd h hc
    have ho := offs_bd F (hb c hcm)
    have hw' := ways_bd F hb w hw
    rw [beyV_crs]
    unfold crs
    generalize offs c (triple (ptOf p)) = o at *
    generalize (triple (ptOf p)).2.2 = L at *
    have k1 := abs_mul_le (M := 1900 * L) (by omega) hw'.1 ho.2
    have k2 := abs_mul_le (M := 1900 * L) (by omega) hw'.2 ho.1
    have k3 : 1900 * L * (1900 * L) = 3610000 * (L * L) := by grind
    have k4 : L * L ≤ 81 * L := Int.mul_le_mul_of_nonneg_right l1 (by omega)
    omega
theorem sum_bd {M : Int} : ∀ {ws : List C2}, (∀ w ∈ ws, (-M ≤ w.1 ∧ w.1 ≤ M) ∧ -M ≤ w.2 ∧ w.2 ≤ M) → (-(M * ws.length) ≤ (vsum ws).1 ∧ (vsum ws).1 ≤ M * ws.length) ∧ -(M * ws.length) ≤ (vsum ws).2 ∧ (vsum ws).2 ≤ M * ws.length
  | [], _ => by unfold vsum; simp
  | w :: r, h => by
    have ih := sum_bd (M := M) (ws := r) fun v hv => h v (List.mem_cons_of_mem _ hv)
    have hw := h w List.mem_cons_self
    rw [vsum_cons, List.length_cons, Int.natCast_add, Int.mul_add]
    simp only [Int.natCast_one, Int.mul_one]
    omega
theorem mul_bd {s a B C : Int} (s0 : 0 ≤ s) (sB : s ≤ B) (C0 : 0 ≤ C) (h : -C ≤ a ∧ a ≤ C) : -(B * C) ≤ s * a ∧ s * a ≤ B * C := by
  have k1 := Int.mul_le_mul_of_nonneg_left h.1 s0
  have k2 := Int.mul_le_mul_of_nonneg_left h.2 s0
  have k3 := Int.mul_le_mul_of_nonneg_right sB C0
  rw [Int.mul_neg] at k1
  omega
theorem ring_mem {W : List C2} {s : Int} {c : C2} (h : c ∈ ringOf s (roundF W)) : ∃ k w, (roundF W)[k]? = some w ∧ (c = begF W s k ∨ c = stp s (begF W s k) w) := by
  obtain ⟨i, hi, he⟩ := List.getElem_of_mem h
  have hs := sides_get hi
  obtain ⟨k, w, hw, h1, _⟩ := ring_sides (List.mem_of_getElem? hs)
  have hc : (ringOf s (roundF W)).getD i (0, 0) = c := by rw [List.getD_eq_getElem?_getD, List.getElem?_eq_getElem hi, he]; rfl
  simp only at h1
  rw [hc] at h1
  exact ⟨k, w, hw, h1⟩
theorem ring_bd {W : List C2} {s : Int} (hb : ∀ w ∈ roundF W, (-153900 ≤ w.1 ∧ w.1 ≤ 153900) ∧ -153900 ≤ w.2 ∧ w.2 ≤ 153900) (hl : W.length ≤ 514) (s0 : 0 ≤ s) (s1 : s ≤ 600000000) {c : C2} (h : c ∈ ringOf s (roundF W)) : c.1.natAbs ≤ 2 ^ 59 ∧ c.2.natAbs ≤ 2 ^ 59 := by
  obtain ⟨k, w, hw, hc⟩ := ring_mem h
  have wb := hb w (List.mem_of_getElem? hw)
  have b1 := sum_bd (M := 153900) (ws := W) fun v hv => hb v (List.mem_append_left _ hv)
  have b2 := sum_bd (M := 153900) (ws := (roundF W).take k) fun v hv => hb v (List.mem_of_mem_take hv)
  have l2 : ((roundF W).take k).length ≤ 1028 := by
    rw [List.length_take, List.length_append, List.length_map]; omega
  have n1 : (153900 : Int) * W.length ≤ 153900 * 514 := by omega
  have n2 : (153900 : Int) * ((roundF W).take k).length ≤ 153900 * 1028 := by omega
  have e : begF W s k = (-(s * (vsum W).1) + 2 * (s * (vsum ((roundF W).take k)).1), -(s * (vsum W).2) + 2 * (s * (vsum ((roundF W).take k)).2)) := by
    unfold begF; rw [hereF_eq, startF_eq]
  generalize (roundF W).take k = X at *
  have p1 := mul_bd (C := 153900 * 514) s0 s1 (by decide) (a := (vsum W).1) (by omega)
  have p2 := mul_bd (C := 153900 * 514) s0 s1 (by decide) (a := (vsum W).2) (by omega)
  have p3 := mul_bd (C := 153900 * 1028) s0 s1 (by decide) (a := (vsum X).1) (by omega)
  have p4 := mul_bd (C := 153900 * 1028) s0 s1 (by decide) (a := (vsum X).2) (by omega)
  have p5 := mul_bd (C := 153900) s0 s1 (by decide) (a := w.1) wb.1
  have p6 := mul_bd (C := 153900) s0 s1 (by decide) (a := w.2) wb.2
  rcases hc with hc | hc
  · rw [hc, e]; simp only; omega
  · rw [hc, e]; unfold stp; simp only; omega
theorem good_land (h : AboutR P p) {s : Int} {t : C2} {at' : Nat} (hc : CellsOf P cs) (hcl : cs.length ≤ 512) (s1 : 1 ≤ s) (s2 : s ≤ 600000000)
    (hb : ∀ w ∈ waysF cs (triple (ptOf p)), ∀ c ∈ cs, beyV w c (triple (ptOf p)) ≤ s * (triple (ptOf p)).2.2) (ht : -900 ≤ t.1 ∧ t.1 ≤ 900 ∧ -900 ≤ t.2 ∧ t.2 ≤ 900) (hat : at' < (ringOf s (waysF cs (triple (ptOf p)))).length) :
    Good P (ptOf p) (((ringOf s (waysF cs (triple (ptOf p)))).map (mv t)).drop at' ++ ((ringOf s (waysF cs (triple (ptOf p)))).map (mv t)).take at') (mv t (0, 0)) := by
  have F := pt_facts h
  have cb := cells_bd h hc
  have wbd := ways_bd F cb
  have hit := @row_hit P p cs h hc
  obtain ⟨P0, hH, _, _, S0, hS0, hS3⟩ := h.ex
  have l0 := F.l0
  have l1 := F.l1
  have a0 := F.a0
  have a1 := F.a1
  have b0 := F.b0
  have b1 := F.b1
  have hW := ways_wys cs (triple (ptOf p))
  have hwl : (inTurn (waysUp cs (triple (ptOf p)))).length ≤ 514 := by
    have h1 := inTurn_len (waysUp cs (triple (ptOf p)))
    have h2 : (waysUp cs (triple (ptOf p))).length ≤ cs.length + 2 := by
      unfold waysUp
      rw [List.length_append, List.length_map]
      have := List.length_filter_le (fun c => !decide (offs c (triple (ptOf p)) = (0, 0))) cs
      simp only [List.length_cons, List.length_nil]; omega
    omega
  have ew : waysF cs (triple (ptOf p)) = roundF (inTurn (waysUp cs (triple (ptOf p)))) := rfl
  rw [ew] at hb wbd hit hat ⊢
  generalize inTurn (waysUp cs (triple (ptOf p))) = W at *
  generalize hT : triple (ptOf p) = T at *
  clear ew
  have hml : ((ringOf s (roundF W)).map (mv t)).length = (ringOf s (roundF W)).length := List.length_map ..
  have rl : (ringOf s (roundF W)).length ≤ 4112 := by
    rw [ringOf_eq, ringF_len, List.length_append, List.length_map]; omega
  have hmem : ∀ c, c ∈ ((ringOf s (roundF W)).map (mv t)).drop at' ++ ((ringOf s (roundF W)).map (mv t)).take at' ↔ ∃ v ∈ ringOf s (roundF W), mv t v = c := fun c => by
    rw [mem_rot, List.mem_map]
  have hin : ∀ x y L, inside (sidesR (((ringOf s (roundF W)).map (mv t)).drop at' ++ ((ringOf s (roundF W)).map (mv t)).take at')) x y L = true ↔ InL W s L (x - L * t.1, y - L * t.2) := fun x y L => by
    rw [inside_rot (by rw [hml]; exact hat), inside_mv, ring_inside hW.turn s1]
  generalize hring : ((ringOf s (roundF W)).map (mv t)).drop at' ++ ((ringOf s (roundF W)).map (mv t)).take at' = ring at *
  have ringl : ring.length = (ringOf s (roundF W)).length := by
    rw [← hring, List.length_append, List.length_drop, List.length_take, hml]; omega
  refine ⟨by have := hH.len; omega, fun R hR => ⟨(hH.nd R hR).2.1, by have := (hH.nd R hR).2.2; omega⟩, ⟨S0, by omega, fun R hR => hH.hit R hR S0 hS0⟩, a0, by omega, b0, by omega, by omega, by omega, fun c hcm => ?_, ?_⟩
  · obtain ⟨v, hv, rfl⟩ := (hmem c).mp hcm
    have := ring_bd (fun w hw => by have := wbd w hw; omega) hwl (by omega) s2 hv
    unfold mv Sm
    simp only
    omega
  · rw [hT]
    refine ⟨fun x y => inside (sidesR ring) x y T.2.2 = true, fun x y hs => hs, fun x y hs => ?_, fun c hs => ?_, fun n c _ _ h3 => h3, fun f g f0 f1 g0 g1 => ?_⟩
    · -- a step
      replace hs := (hin _ _ _).mp hs
      obtain ⟨k, w, u, k1, k2, k3⟩ := two_ways hW s1 l0 hs
      obtain ⟨R, hR, hz⟩ := hit k1 k2
      refine ⟨R, hR, fun z hzR => (hin _ _ _).mpr ?_⟩
      obtain ⟨z1, z2⟩ := hz z hzR
      have hzc : z ∈ cs := (hc z).mpr ⟨R, hR, hzR⟩
      rw [beyV_crs] at z1 z2
      intro v hv
      have e : ((x + (T.2.2 * z.1 - T.1) - T.2.2 * t.1, y + (T.2.2 * z.2 - T.2.1) - T.2.2 * t.2) : C2) = ((x - T.2.2 * t.1) + (offs z T).1, (y - T.2.2 * t.2) + (offs z T).2) := by
        unfold offs; simp only
        exact Prod.ext (by simp only; grind) (by simp only; grind)
      rw [e, show crs v ((x - T.2.2 * t.1) + (offs z T).1, (y - T.2.2 * t.2) + (offs z T).2) = crs v (x - T.2.2 * t.1, y - T.2.2 * t.2) + crs v (offs z T) from crs_add v (x - T.2.2 * t.1, y - T.2.2 * t.2) (offs z T)]
      have h0 := hs v hv
      rcases k3 v hv with h | h | h
      · rw [h] at h0 ⊢; omega
      · rw [h] at h0 ⊢; omega
      · have := hb v hv z hzc
        rw [beyV_crs] at this
        omega
    · -- a cell of the land
      replace hs := (hin _ _ _).mp hs
      have hs1 : InL W s 1 (c.1 - 1 * t.1, c.2 - 1 * t.2) := fun v hv => by
        have h0 := hs v hv
        have e : crs v (T.2.2 * c.1 - T.2.2 * t.1, T.2.2 * c.2 - T.2.2 * t.2) + T.2.2 * (s * Sv W v) = T.2.2 * (crs v (c.1 - 1 * t.1, c.2 - 1 * t.2) + 1 * (s * Sv W v)) := by unfold crs; simp only; grind
        rw [e] at h0
        exact Classical.byContradiction fun hn => by
          have := Int.mul_neg_of_pos_of_neg l0 (Int.not_le.mp hn); omega
      refine ⟨(hin _ _ _).mpr hs1, ?_⟩
      have vert : ∀ w ∈ roundF W, ∃ v, mv t v ∈ ring ∧ crs w v ≤ crs w (c.1 - t.1, c.2 - t.2) := fun w hw => by
        obtain ⟨v, hv, e⟩ := ring_vert hW.turn s hw
        have h0 := hs1 w hw
        simp only [Int.one_mul] at h0
        exact ⟨v, (hmem _).mpr ⟨v, hv, rfl⟩, by omega⟩
      obtain ⟨v1, m1, h1⟩ := vert (0, 1) (List.mem_append_left _ hW.y)
      obtain ⟨v2, m2, h2⟩ := vert (negC (0, 1)) (round_neg (List.mem_append_left _ hW.y))
      obtain ⟨v3, m3, h3⟩ := vert (1, 0) (List.mem_append_left _ hW.x)
      obtain ⟨v4, m4, h4⟩ := vert (negC (1, 0)) (round_neg (List.mem_append_left _ hW.x))
      unfold crs at h1 h2 h3 h4
      unfold negC at h2 h4
      simp only [Int.zero_mul, Int.one_mul, Int.zero_sub, Int.sub_zero, Int.neg_mul, Int.neg_zero] at h1 h2 h3 h4
      refine ⟨⟨_, m2, ?_⟩, ⟨_, m1, ?_⟩, ⟨_, m3, ?_⟩, ⟨_, m4, ?_⟩⟩ <;> unfold mv <;> simp only <;> omega
    · refine (hin _ _ _).mpr ?_
      intro w hw
      have e : crs w (T.2.2 * (mv t (0, 0)).1 + f - T.2.2 * t.1, T.2.2 * (mv t (0, 0)).2 + g - T.2.2 * t.2) = w.1 * g - w.2 * f := by unfold crs mv; simp only; grind
      rw [e]
      have hv := hW.sv w
      have m1 := Int.mul_le_mul_of_nonneg_left (show g ≤ T.2.2 by omega) (show 0 ≤ (w.1.natAbs : Int) by omega)
      have m2 := Int.mul_le_mul_of_nonneg_left (show f ≤ T.2.2 by omega) (show 0 ≤ (w.2.natAbs : Int) by omega)
      have q1 : -((w.1.natAbs : Int) * g) ≤ w.1 * g := by
        have := Int.mul_le_mul_of_nonneg_right (show -(w.1.natAbs : Int) ≤ w.1 by omega) g0
        rw [Int.neg_mul] at this; exact this
      have q2 : w.2 * f ≤ (w.2.natAbs : Int) * f := Int.mul_le_mul_of_nonneg_right (by omega) f0
      have m3 := Int.mul_le_mul_of_nonneg_left hv (show 0 ≤ T.2.2 by omega)
      have m4 : T.2.2 * (1 * Sv W w) ≤ T.2.2 * (s * Sv W w) := Int.mul_le_mul_of_nonneg_left (Int.mul_le_mul_of_nonneg_right s1 (Sv_nonneg W w)) (by omega)
      rw [Int.mul_add, Int.mul_comm T.2.2, Int.mul_comm T.2.2 (w.2.natAbs : Int)] at m3
      rw [Int.one_mul] at m4
      omega
end
end K84
namespace K84
open L2 PySem PySem.Spec PyProof.Rows
local macro_rules | `(tactic| walk_at "cm") => `(tactic| first | assumption | exact Or.inl ⟨by omega, by omega⟩ | exact Or.inr ⟨by omega, by omega⟩)
local macro_rules | `(tactic| walk_at "ev") => `(tactic| first
  | assumption | exact evI_c | exact evI_var rfl | exact evV_var rfl | exact evC_var rfl (by assumption)
  | (refine evI_add ?_ ?_ <;> walk_at "ev") | (refine evI_sub ?_ ?_ <;> walk_at "ev")
  | (refine evI_mul ?_ ?_ ?_; (· walk_at "ev"); (· walk_at "ev"); (· walk_at "cm"))
  | (refine evI_fst ?_; walk_at "ev") | (refine evI_snd ?_; walk_at "ev") | (refine evI_neg ?_; walk_at "ev")
  | (refine evC_tup ?_ ?_ <;> walk_at "ev") | (refine evP_tup ?_ ?_ <;> walk_at "ev")
  | (refine evB_eq ?_ ?_ <;> walk_at "ev") | (refine evB_ne ?_ ?_ <;> walk_at "ev")
  | (refine evB_lt ?_ ?_ <;> walk_at "ev") | (refine evB_le ?_ ?_ <;> walk_at "ev") | (refine evB_gt ?_ ?_ <;> walk_at "ev") | (refine evB_ge ?_ ?_ <;> walk_at "ev")
  | (refine evT_test ?_; walk_at "ev") | (refine evT_B ?_; walk_at "ev") | (refine evT_not ?_; walk_at "ev") | exact evT_yes)
def sp_law (K : PySem.W.Frag) : Sp := fun vs H Q _ => ∃ (a : Addr) (ns : List Int), vs = [.ref a] ∧ SqL K H a (ns.map V.int) ∧ ∀ H', Q (.bl true) H'
theorem evI_fstV {K : PySem.W.Frag} {σ : L2.St} {H : Hp} {ta tb : TE} {c : C2} (ha : EvC ta σ H c) (hb : EvI tb σ H 0) : EvI (tOp (rIxT K) ta tb) σ H c.1 :=
  ev_op ha hb mono_cell fun H1 x y _ h1 h2 Q q => by
    obtain ⟨a, rfl, ho⟩ := h1
    exact ⟨a, _, 0, _, rfl, h2, SqT.of ho, atI_nat (j := 0) rfl, q _ H1 (Same.refl H1) rfl⟩
theorem evI_sndV {K : PySem.W.Frag} {σ : L2.St} {H : Hp} {ta tb : TE} {c : C2} (ha : EvC ta σ H c) (hb : EvI tb σ H 1) : EvI (tOp (rIxT K) ta tb) σ H c.2 :=
  ev_op ha hb mono_cell fun H1 x y _ h1 h2 Q q => by
    obtain ⟨a, rfl, ho⟩ := h1
    exact ⟨a, _, 1, _, rfl, h2, SqT.of ho, atI_nat (j := 1) rfl, q _ H1 (Same.refl H1) rfl⟩
theorem inside_cong {ps : List (C2 × C2)} {x y l x' y' : Int} (h : inside ps x y l = true) (e1 : x' = x) (e2 : y' = y) : inside ps x' y' l = true := by subst e1; subst e2; exact h
theorem list_max {l : List Int} (h : l ≠ []) : ∃ m ∈ l, ∀ y ∈ l, y ≤ m := by
  induction l with
  | nil => exact absurd rfl h
  | cons a r ih =>
    by_cases hr : r = []
    · subst hr; exact ⟨a, by simp, fun y hy => by rw [List.mem_singleton.mp hy]; exact Int.le_refl a⟩
    · obtain ⟨m, hm, hx⟩ := ih hr
      by_cases hc : a ≤ m
      · exact ⟨m, List.mem_cons_of_mem _ hm, fun y hy => by
          rcases List.mem_cons.mp hy with rfl | hy
          · exact hc
          · exact hx y hy⟩
      · exact ⟨a, List.mem_cons_self, fun y hy => by
          rcases List.mem_cons.mp hy with rfl | hy
          · exact Int.le_refl _
          · have := hx y hy; omega⟩
theorem list_min {l : List Int} (h : l ≠ []) : ∃ m ∈ l, ∀ y ∈ l, m ≤ y := by
  obtain ⟨m, hm, hx⟩ := list_max (l := l.map fun y => -y) (by simpa using h)
  obtain ⟨y, hy, rfl⟩ := List.mem_map.mp hm
  exact ⟨y, hy, fun z hz => by have := hx (-z) (List.mem_map.mpr ⟨z, hz, rfl⟩); omega⟩
theorem ring_bnd {ring : List C2} (h : 0 < ring.length) : ∃ x0 x1 y0 y1, Bnd ring x0 x1 y0 y1 := by
  have n1 : ring.map (·.1) ≠ [] := fun e => by have := congrArg List.length e; simp at this; rw [this] at h; simp at h
  have n2 : ring.map (·.2) ≠ [] := fun e => by have := congrArg List.length e; simp at this; rw [this] at h; simp at h
  obtain ⟨x1, a, b⟩ := list_max n1
  obtain ⟨x0, c, d⟩ := list_min n1
  obtain ⟨y1, a', b'⟩ := list_max n2
  obtain ⟨y0, c', d'⟩ := list_min n2
  exact ⟨x0, x1, y0, y1, ⟨c, d, a, b, c', d', a', b'⟩⟩
theorem inR_iff {ring : List C2} {x0 x1 y0 y1 : Int} (B : Bnd ring x0 x1 y0 y1) (c : C2) : inR ring x0 x1 y0 y1 c ↔ inside (sidesR ring) c.1 c.2 1 = true ∧ InBox ring c := by
  unfold inR InBox
  constructor
  · rintro ⟨h1, h2, h3, h4, h5⟩
    obtain ⟨e1, m1, q1⟩ := List.mem_map.mp B.a0
    obtain ⟨e2, m2, q2⟩ := List.mem_map.mp B.a1
    obtain ⟨e3, m3, q3⟩ := List.mem_map.mp B.c0
    obtain ⟨e4, m4, q4⟩ := List.mem_map.mp B.c1
    exact ⟨h5, ⟨e1, m1, by omega⟩, ⟨e2, m2, by omega⟩, ⟨e3, m3, by omega⟩, ⟨e4, m4, by omega⟩⟩
  · rintro ⟨h5, ⟨e1, m1, q1⟩, ⟨e2, m2, q2⟩, ⟨e3, m3, q3⟩, ⟨e4, m4, q4⟩⟩
    have a1 := B.b0 _ (List.mem_map.mpr ⟨e1, m1, rfl⟩)
    have a2 := B.b1 _ (List.mem_map.mpr ⟨e2, m2, rfl⟩)
    have a3 := B.d0 _ (List.mem_map.mpr ⟨e3, m3, rfl⟩)
    have a4 := B.d1 _ (List.mem_map.mpr ⟨e4, m4, rfl⟩)
    exact ⟨by omega, by omega, by omega, by omega, h5⟩
/-- what the law asks on the island, from Good -/
theorem Good.stand {P : List (List C2)} {pt : C2 × C2} {ring is hs : List C2} {corner : C2} (G : Good P pt ring corner) (his : ∀ c, c ∈ is ↔ inside (sidesR ring) c.1 c.2 1 = true ∧ InBox ring c) {n : Nat} (hb : Bt P n is hs) :
    (∀ c ∈ is, inside (sidesR ring) ((placeV n pt c).1 * (pt.1.2 * pt.2.2) + n * pt.1.1 * pt.2.2) ((placeV n pt c).2 * (pt.1.2 * pt.2.2) + n * pt.2.1 * pt.1.2) (pt.1.2 * pt.2.2) = true → placeV n pt c ∈ hs) ∧ (ceilF n corner.1 pt.1, ceilF n corner.2 pt.2) ∈ hs := by
  obtain ⟨S, h1, h2, h3, h4, h5⟩ := G.ex
  have held := Good.held h2 (is := is) fun c hc => (his c).mpr (h3 c hc)
  refine ⟨fun c hc hin => ?_, ?_⟩
  · obtain ⟨g1, g2⟩ := (his c).mp hc
    refine held n hs hb (placeV n pt c) ?_
    refine h4 n c g1 g2 (inside_cong hin ?_ ?_)
    · unfold placeV triple; simp only; grind
    · unfold placeV triple; simp only; grind
  · obtain ⟨f, g, f0, f1, g0, g1, e1, e2⟩ := told_scaled (n := n) (pt := pt) (corner := corner) G.a0 G.b0
    refine held n hs hb _ ?_
    simp only
    rw [e1, e2]
    exact h5 f g f0 f1 g0 g1
theorem Good.told {P : List (List C2)} {pt : C2 × C2} {ring : List C2} {corner : C2} (G : Good P pt ring corner) (n : Int) :
    inside (sidesR ring) (ceilF n corner.1 pt.1 * (pt.1.2 * pt.2.2) + n * pt.1.1 * pt.2.2) (ceilF n corner.2 pt.2 * (pt.1.2 * pt.2.2) + n * pt.2.1 * pt.1.2) (pt.1.2 * pt.2.2) = true := by
  obtain ⟨S, h1, h2, h3, h4, h5⟩ := G.ex
  obtain ⟨f, g, f0, f1, g0, g1, e1, e2⟩ := told_scaled (n := n) (pt := pt) (corner := corner) G.a0 G.b0
  refine inside_cong (h1 _ _ (h5 f g f0 f1 g0 g1)) ?_ ?_
  · rw [← e1]; unfold triple; simp only; grind
  · rw [← e2]; unfold triple; simp only; grind
/-- what is left to do with a good paper -/
theorem law_rest {K : PySem.W.Frag} {d l : Addr} {D : Ends} {y0 y2 y3 y4 : Option V} {vP vp : V} {H : Hp} {P : List (List C2)} {pt : C2 × C2} {ring : List C2} {mid corner : C2} {rows : List (List C2)} (hD : Deal d l H) (hP : Plain H vP P) (hp : PaperV H vp pt ring mid corner rows) (G : Good P pt ring corner) (q : ∀ H', D.rt (.bl true) H') :
    (tSeq (tFor (iTup K (tTup (tCons (tC (.int 0)) (tCons (tC (.int 1)) (tCons (tC (.int 2)) (tCons (tC (.int 3)) (tCons (tCall sp__law_draw [] E0 (tCons (tVar 1) (tCons (tOp rPowI (tC (.int 10)) (tC (.int 6))) tNil))) (tCons (tOp rSubI (tOp rPowI (tC (.int 10)) (tC (.int 18))) (tCall sp__law_draw [] E0 (tCons (tVar 1) (tCons (tC (.int 1000)) tNil)))) tNil)))))))) (gName 7) (tIfS (tNot (tB (tCall sp__law_told_right [] E0 (tCons (tVar 6) (tCons (tVar 7) tNil))))) (tRet (tC (.bl false))) tNext))
    (tSeq (tFor (iTup K (tTup (tCons (tC (.int 0)) (tCons (tC (.int 1)) tNil)))) (gName 8) (tIfS (tTest (tOp rGtI (tOp rSubI (tCB (rMax K) (tCons (tLc (iTup K (tOp (rIxT K) (tVar 6) (tC (.int 2)))) (gName 9) tYes (tOp (rIxT K) (tVar 9) (tVar 8)) [9]) tNil)) (tCB (rMin K) (tCons (tLc (iTup K (tOp (rIxT K) (tVar 6) (tC (.int 2)))) (gName 9) tYes (tOp (rIxT K) (tVar 9) (tVar 8)) [9]) tNil))) (tC (.int 10)))) (tRet (tC (.bl true))) tNext))
    (tSeq (tAsg (tCall sp_land_cells [] E0 (tCons (tOp (rIxT K) (tVar 6) (tC (.int 2))) tNil)) (gName 10))
    (tSeq (tIfS (tTest (tOp rGtI (tCB (rLenSeq K) (tCons (tVar 10) tNil)) (tC (.int 80)))) (tRet (tC (.bl true))) tNext)
    (tSeq (tAsg (tVar 10) (gName 11))
    (tSeq (tFor (iRng2 (tCons (tC (.int 1)) (tCons (tC (.int 4)) tNil))) (gName 7) (tSeq (tAsg (tCall sp__law_beat [] E0 (tCons (tVar 5) (tCons (tVar 11) tNil))) (gName 11))
    (tIfS (tNot (tB (tCall sp__law_stands [] E0 (tCons (tVar 6) (tCons (tVar 10) (tCons (tVar 11) (tCons (tVar 7) tNil))))))) (tRet (tC (.bl false))) tNext)))
    (tRet (tOp (rInT K) (tCall sp_cell_at [] E0 (tCons (tVar 6) (tCons (tC (.int 2)) tNil))) (tCall sp_beats [] E0 (tCons (tVar 5) (tCons (tVar 10) (tCons (tC (.int 2)) tNil)))))))))))) D
      [y0, some (.ref d), y2, y3, y4, some vP, some vp, none, none, none, none, none] H := by
  have a0 := G.a0
  have a1 := G.a1
  have b0 := G.b0
  have b1 := G.b1
  have toldE : ∀ {σ : L2.St} {H' : Hp} {n : Int}, TExt H H' → σ[6]? = some (some vp) → σ[7]? = some (some (.int n)) → n.natAbs ≤ 2 ^ 62 → EvB (tCall sp__law_told_right [] E0 (tCons (tVar 6) (tCons (tVar 7) tNil))) σ H' true := fun {σ H' n} e h6 h7 hn =>
    ev_call (evA_2 (ev_varM (R := fun H v => PaperV H v pt ring mid corner rows) h6 (fun _ _ _ e h => h.text e.text) (hp.text e)) (fun _ _ _ e h => h.text e.text) (evI_var h7)) fun H1 vs e hv Q q => by
      obtain ⟨x, _, rfl, hx, rfl⟩ := hv
      exact ⟨x, n, pt, ring, mid, corner, rows, rfl, hx, hn, a0, a1, b0, b1, G.r0, G.r1, G.sm, tells n corner.1 pt.1 a0, tells n corner.2 pt.2 b0, G.told n, fun H' e' => q _ H' e' rfl⟩
  -- the tuple of turns
  let σ0 : L2.St := [y0, some (.ref d), y2, y3, y4, some vP, some vp, none, none, none, none, none]
  refine (evD_draw (d := d) (l := l) (k := 1) (m := (10 : Int) ^ (6 : Nat)) (σ := σ0) rfl (fun H1 e => evI_IC (C := CPow) evI_c evI_c ⟨by decide, by decide, by decide⟩) (by decide) (by decide)) H (But.refl hD) _ fun v H1 e1 hv => ?_
  obtain ⟨n1, rfl, n10, n11⟩ := hv
  refine (evD_I0 (d := d) (l := l) (σ := σ0) (g := fun i j => i - j) (P := fun i => i = (10 : Int) ^ (18 : Nat)) (P' := fun j => 0 ≤ j ∧ j < 1000) (P'' := fun i => 0 ≤ i ∧ i ≤ (10 : Int) ^ (18 : Nat)) (evDI_pure (fun H1 e => evI_IC (C := CPow) evI_c evI_c ⟨by decide, by decide, by decide⟩) rfl) (evD_draw (k := 1) rfl (fun H1 e => evI_c) (by decide) (by decide)) (fun i j h1 h2 => by subst h1; omega)) H1 e1 _ fun v H2 e2 hv => ?_
  obtain ⟨n2, rfl, n20, n21⟩ := hv
  refine ⟨by show 6 ≤ sizeLine; decide, fun t ht => ?_⟩
  have e3 : Same H2 (upd H2 t (.tup [.int 0, .int 1, .int 2, .int 3, .int n1, .int n2])) := same_new ht
  have ht3 : (upd H2 t (.tup [.int 0, .int 1, .int 2, .int 3, .int n1, .int n2])) t = some (.tup [.int 0, .int 1, .int 2, .int 3, .int n1, .int n2]) := upd_same
  have B02 := e1.trans e2
  have B03 := B02.trans (But.of e2.deal e3)
  show ∃ a, V.ref t = .ref a ∧ _
  generalize upd H2 t (.tup [.int 0, .int 1, .int 2, .int 3, .int n1, .int n2]) = H3 at e3 ht3 B03
  have t03 := B03.text
  show tFor (iTup K (tC (.ref t))) (gName 7) _ _ σ0 H3
  refine s_forT (K := K) (D := { D with nx := _ }) (xs := [.int 0, .int 1, .int 2, .int 3, .int n1, .int n2]) evV_c ht3 (fun i σ' H' => (∃ y7, σ' = [y0, some (.ref d), y2, y3, y4, some vP, some vp, y7, none, none, none, none]) ∧ Same H3 H') (fun H4 e4 => ⟨⟨_, rfl⟩, e4⟩) (fun i σ' H' _ h => h.2 _ _ ht3) ?_ ?_
  · rintro i x σ' H4 hx ⟨⟨y7, rfl⟩, e4⟩
    obtain ⟨n, rfl, hn⟩ : ∃ n : Int, x = .int n ∧ n.natAbs ≤ 2 ^ 62 := by
      have hm := List.mem_of_getElem? hx
      have h18 : (10 : Int) ^ 18 = 1000000000000000000 := by decide
      have h6 : (10 : Int) ^ 6 = 1000000 := by decide
      simp only [List.mem_cons, List.not_mem_nil, or_false] at hm
      rcases hm with h | h | h | h | h | h <;> exact ⟨_, h, by omega⟩
    refine s_when (b := false) ((evT_not (evT_B (toldE (t03.trans e4.text) rfl rfl hn))).to rfl) (fun hb => by cases hb) fun _ H5 e5 => ⟨⟨_, rfl⟩, e4.trans e5⟩
  rintro σ' H4 ⟨⟨y7, rfl⟩, e4⟩
  have t04 := t03.trans e4.text
  have hP4 := hP.text t04
  have hp4 := hp.text t04
  clear toldE ht3 e3 e4 t03 B03 ht t04
  -- the widths
  obtain ⟨x0, x1, z0, z1, B⟩ := ring_bnd G.r0
  have r1 := G.r1
  refine q_forTN (R := fun H v => ∃ t, v = .ref t ∧ H t = some (.tup [.int 0, .int 1])) (evC_tup (i := 0) (j := 1) evI_c evI_c) fun v H5 e5 hv => ?_
  obtain ⟨t, rfl, ht⟩ := hv
  refine q_forT (xs := [.int 0, .int 1]) evV_c ht (fun i σ' H' => (∃ y8 y9, σ' = [y0, some (.ref d), y2, y3, y4, some vP, some vp, y7, y8, y9, none, none]) ∧ Same H5 H' ∧ (1 ≤ i → x1 - x0 ≤ 10) ∧ (2 ≤ i → z1 - z0 ≤ 10)) (fun H6 e6 => ⟨⟨_, _, rfl⟩, e6, fun h => by omega, fun h => by omega⟩) (fun i σ' H' _ h => h.2.1 _ _ ht) ?_ ?_
  · rintro i x σ' H6 hx ⟨⟨y8, y9, rfl⟩, e6, w1, w2⟩
    have hi : i < 2 := (List.getElem?_eq_some_iff.mp hx).1
    have hp6 := hp4.text (e5.trans e6).text
    -- the list of the one or the other
    have lc : ∀ (k : Int) (f : C2 → Int), (∀ σ H c, σ.length = 12 → σ[8]? = some (some (.int k)) → EvC (tVar 9) σ H c → EvI (tOp (rIxT K) (tVar 9) (tVar 8)) σ H (f c)) → x = .int k →
        Ev (tLc (iTup K (tOp (rIxT K) (tVar 6) (tC (.int 2)))) (gName 9) tYes (tOp (rIxT K) (tVar 9) (tVar 8)) [9]) [y0, some (.ref d), y2, y3, y4, some vP, some vp, y7, some x, y9, none, none] H6 (NewL H6 (fun _ => IsI) (ring.map f)) := fun k f hf hk H7 e7 Q q => by
      subst hk
      refine hp6.ev_ring (K := K) (k := 6) (σ := [y0, some (.ref d), y2, y3, y4, some vP, some vp, y7, some (.int k), y9, none, none]) rfl H7 e7 _ fun v H8 e8 hv => ?_
      obtain ⟨a, xs, rfl, g1, g2⟩ := hv
      refine (ev_mapT (K := K) (σ := [y0, some (.ref d), y2, y3, y4, some vP, some vp, y7, some (.int k), y9, none, none]) (H := H8) (Rx := Cell) (Ry := fun _ => IsI) (tl := tC (.ref a)) (te := tOp (rIxT K) (tVar 9) (tVar 8)) (j := 9) (f := f) evV_c g1 g2 tm_cell tm_int (by omega) fun y c H9 e9 _ r => hf _ _ _ rfl rfl (evC_var rfl r)) H8 (Same.refl _) Q fun v H9 e9 hv => q v H9 (e8.trans e9) ?_
      obtain ⟨p, ys, h1, h2, h3⟩ := hv
      exact ⟨p, ys, h1, (e7.trans e8).free h2, h3⟩
    have step : ∀ (k : Int) (f : C2 → Int) (lo hi : Int), (∀ σ H c, σ.length = 12 → σ[8]? = some (some (.int k)) → EvC (tVar 9) σ H c → EvI (tOp (rIxT K) (tVar 9) (tVar 8)) σ H (f c)) → x = .int k → lo ∈ ring.map f → (∀ y ∈ ring.map f, lo ≤ y) → hi ∈ ring.map f → (∀ y ∈ ring.map f, y ≤ hi) →
        ∀ (D' : Ends), (∀ H', D'.rt (.bl true) H') → (hi - lo ≤ 10 → ∀ H7, Same H6 H7 → D'.nx [y0, some (.ref d), y2, y3, y4, some vP, some vp, y7, some x, y9, none, none] H7) →
        (tIfS (tTest (tOp rGtI (tOp rSubI (tCB (rMax K) (tCons (tLc (iTup K (tOp (rIxT K) (tVar 6) (tC (.int 2)))) (gName 9) tYes (tOp (rIxT K) (tVar 9) (tVar 8)) [9]) tNil)) (tCB (rMin K) (tCons (tLc (iTup K (tOp (rIxT K) (tVar 6) (tC (.int 2)))) (gName 9) tYes (tOp (rIxT K) (tVar 9) (tVar 8)) [9]) tNil))) (tC (.int 10)))) (tRet (tC (.bl true))) tNext) D' [y0, some (.ref d), y2, y3, y4, some vP, some vp, y7, some x, y9, none, none] H6 := fun k f lo hi hf hk m1 m2 m3 m4 D' hrt hnx => by
      have l1 := lc k f hf hk
      refine s_when (evT_test (evB_gt (evI_sub (ev_max l1 m3 m4) (ev_min l1 m1 m2)) evI_c)) (fun hb H7 e7 => ?_) fun hb H7 e7 => ?_
      · exact s_ret evB_c fun v H8 e8 hv => by rw [hv]; exact hrt H8
      · exact hnx (by have := of_decide_eq_false hb; omega) H7 e7
    have i01 : i = 0 ∨ i = 1 := by omega
    rcases i01 with rfl | rfl
    · have hx0 : x = .int 0 := by simpa using hx.symm
      exact step 0 (·.1) x0 x1 (fun σ H c hl h8 hc => evI_fstV hc (evI_var h8)) hx0 B.a0 B.b0 B.a1 B.b1 _ q fun hw H7 e7 => ⟨⟨_, _, rfl⟩, e6.trans e7, fun _ => hw, fun h => by omega⟩
    · have hx1 : x = .int 1 := by simpa using hx.symm
      exact step 1 (·.2) z0 z1 (fun σ H c hl h8 hc => evI_sndV hc (evI_var h8)) hx1 B.c0 B.d0 B.c1 B.d1 _ q fun hw H7 e7 => ⟨⟨_, _, rfl⟩, e6.trans e7, fun _ => w1 (by omega), fun _ => hw⟩
  rintro σ' H6 ⟨⟨y8, y9, rfl⟩, e6, w1, w2⟩
  have w1 := w1 (by show 1 ≤ 2; omega)
  have w2 := w2 (by show 2 ≤ 2; omega)
  have t46 := (e5.trans e6).text
  have hP6 := hP4.text t46
  have hp6 := hp4.text t46
  show (tSeq _ _) _ [y0, some (.ref d), y2, y3, y4, some vP, some vp, y7, y8, y9, none, none] H6
  -- the island
  refine q_set (R := fun H v => ∃ is : List C2, Row H v is ∧ ∀ c, c ∈ is ↔ inside (sidesR ring) c.1 c.2 1 = true ∧ InBox ring c) (ev_call (evA_1 (hp6.ev_ring rfl)) fun H7 vs e hv Q q => ?_) fun v10 H7 e7 hv10 => ?_
  · obtain ⟨v, rfl, hv⟩ := hv
    exact ⟨v, ring, x0, x1, z0, z1, rfl, hv, r1, G.sm, B, by omega, by omega, fun v' H' cs e' h1 h2 => q v' H' e' ⟨cs, h1, fun c => (h2 c).trans (inR_iff B c)⟩⟩
  obtain ⟨is, his, hmem⟩ := hv10
  show (tSeq _ _) _ [y0, some (.ref d), y2, y3, y4, some vP, some vp, y7, y8, y9, some v10, none] H7
  have hlen : EvI (tCB (rLenSeq K) (tCons (tVar 10) tNil)) [y0, some (.ref d), y2, y3, y4, some vP, some vp, y7, y8, y9, some v10, none] H7 (is.length : Int) := by
    obtain ⟨a, xs, rfl, g1, g2⟩ := id his
    exact (ev_lenT (evV_var rfl) g1).to (by rw [g2.kLen])
  refine q_when (evT_test (evB_gt hlen evI_c)) (fun hb H8 e8 => s_ret evB_c fun v H9 e9 hv => by rw [hv]; exact q H9) fun hb H8 e8 => ?_
  have is80 : is.length ≤ 80 := by have := of_decide_eq_false hb; omega
  have his8 := Row.text e8.text his
  refine q_set (evRow_var rfl his8) fun v11 H9 e9 hv11 => ?_
  have his9 := Row.text e9.text his8
  have t69 := (e7.trans (e8.trans e9)).text
  have hP9 := hP6.text t69
  have hp9 := hp6.text t69
  obtain ⟨zs, z8, hz⟩ := G.few
  have btl : ∀ n hs, n ≤ 3 → Bt P n is hs → hs.length ≤ 100000 := fun n hs hn hb => by
    have h1 := bt_len hz z8 n hs hb
    have h2 : 8 ^ n ≤ 8 ^ 3 := Nat.pow_le_pow_right (by decide) hn
    have h3 : 8 ^ n * is.length ≤ 8 ^ 3 * 80 := Nat.mul_le_mul h2 is80
    have h4 : 8 ^ 3 * 80 = 40960 := rfl
    omega
  show (tSeq _ _) _ [y0, some (.ref d), y2, y3, y4, some vP, some vp, y7, y8, y9, some v10, some v11] H9
  refine q_forR2 (lo := 1) (hi := 4) evI_c evI_c (by decide) (fun i σ' H' => ∃ y7 v11 hs, σ' = [y0, some (.ref d), y2, y3, y4, some vP, some vp, y7, y8, y9, some v10, some v11] ∧ Same H9 H' ∧ Bt P i is hs ∧ Row H' v11 hs) (fun H10 e10 => ⟨y7, v11, is, rfl, e10, rfl, Row.text e10.text hv11⟩) ?_ ?_
  · rintro i σ' H10 hi ⟨y7, v11, hs, rfl, e10, hb, hrow⟩
    have hi3 : i < 3 := hi
    show (tSeq _ _) _ [y0, some (.ref d), y2, y3, y4, some vP, some vp, some (.int (1 + (i : Nat))), y8, y9, some v10, some v11] H10
    refine q_set (R := fun H v => ∃ ds, BeatR P hs ds ∧ Row H v ds) (ev_call (evA_2 (ev_varM rfl mono_plain (hP9.text e10.text)) mono_plain (evRow_var rfl hrow)) fun H11 vs e hv Q q => ?_) fun v11' H11 e11 hv => ?_
    · obtain ⟨u, w, rfl, r1, r2⟩ := hv
      exact ⟨u, w, P, hs, rfl, r1, r2, G.len, G.rows, btl i hs (by omega) hb, fun v' H' ds e' h1 h2 => q v' H' e' ⟨ds, h1, h2⟩⟩
    obtain ⟨ds, hbd, hds⟩ := hv
    have hb' : Bt P (i + 1) is ds := ⟨hs, hb, hbd⟩
    have en : (1 : Int) + (i : Nat) = ((i + 1 : Nat) : Int) := by omega
    obtain ⟨st1, st2⟩ := G.stand hmem hb'
    show (tIfS _ _ _) _ [y0, some (.ref d), y2, y3, y4, some vP, some vp, some (.int (1 + (i : Nat))), y8, y9, some v10, some v11'] H11
    rw [en]
    have t911 := (e10.trans e11).text
    refine s_when (b := false) ((evT_not (evT_B (b := true) (ev_call (evA_cons (ev_varM (R := fun H v => PaperV H v pt ring mid corner rows) rfl (fun _ _ _ e h => h.text e.text) (hp9.text t911)) (fun _ _ _ e h => h.text e.text) (evA_3 (evRow_var rfl (Row.text t911 his9)) mono_row (evRow_var rfl hds) mono_row (evI_var rfl))) fun H12 vs e hv Q q => ?_))).to rfl) (fun hb => by cases hb) fun _ H12 e12 => ⟨_, v11', ds, rfl, e10.trans (e11.trans e12), hb', Row.text e12.text hds⟩
    obtain ⟨u, _, rfl, r0, w1, w2, _, rfl, r1, r2, rfl⟩ := hv
    exact ⟨u, w1, w2, ((i + 1 : Nat) : Int), pt, ring, mid, corner, rows, is, ds, rfl, r0, r1, r2, by omega, a0, a1, b0, b1, G.r0, G.r1, G.sm, st1, st2, fun H' e' => q _ H' e' rfl⟩
  · rintro σ' H10 ⟨y7, v11, hs, rfl, e10, hb, hrow⟩
    refine s_ret (R := fun _ v => v = .bl true) (ev_op (Ra := fun H v => Cell H v (ceilF 2 corner.1 pt.1, ceilF 2 corner.2 pt.2)) (Rb := fun H v => ∃ hs, Bt P 2 is hs ∧ Row H v hs) (ev_cell_at (hp9.text e10.text) rfl evI_c (by decide) a0 a1 b0 b1) (ev_call (evA_3 (ev_varM rfl mono_plain (hP9.text e10.text)) mono_plain (evRow_var rfl (Row.text e10.text his9)) mono_row evI_c) fun H11 vs e hv Q q => ?_) mono_cell fun H11 x y e hx hy Q q => ?_) fun v H11 e11 hv => by rw [hv]; exact q H11
    · obtain ⟨u, w, _, rfl, r1, r2, rfl⟩ := hv
      exact ⟨u, w, P, is, 2, rfl, r1, r2, G.len, G.rows, by decide, fun k hk m hm => btl k m (by omega) hm, fun v' H' ds e' h1 h2 => q v' H' e' ⟨ds, h1, h2⟩⟩
    · obtain ⟨ds, hb2, hr⟩ := hy
      have hm : (ceilF 2 corner.1 pt.1, ceilF 2 corner.2 pt.2) ∈ ds := (G.stand hmem hb2).2
      refine ⟨_, _, hx.dp, hr.dp, sh_cD _, sh_rD ds, q _ H11 (Same.refl _) ?_⟩
      rw [any_cD, decide_eq_true hm]
theorem ring_len_pos {s : Int} {cs : List C2} {p : Int × Int × Int} : 0 < (ringOf s (waysF cs p)).length := by
  unfold ringOf
  rw [ringF_len]
  have : (1, 0) ∈ waysF cs p := by
    unfold waysF
    refine List.mem_append_left _ ((inTurn_mem _ _).mpr ?_)
    unfold waysUp; simp
  have := List.length_pos_of_mem this
  omega
theorem pure_law {K : PySem.W.Frag} (vs : List V) (H : Hp) (Q : VK) (E : XK) (h : sp_law K vs H Q E) : t_law K (sp__law_deal K) sp__law_about sp__law_fraction sp_land_of sp__law_put_off sp__law_draw sp__law_boxed sp__law_told_right sp_land_cells sp__law_beat sp__law_stands sp_cell_at sp_beats { nx := fun _ H' => Q .non H', rt := Q } (start N_law vs) H := by
  obtain ⟨a, ns, rfl, ha, q⟩ := h
  show t_law K _ _ _ _ _ _ _ _ _ _ _ _ _ _ [some (.ref a), none, none, none, none, none, none, none, none, none, none, none] H
  refine q_set (R := fun H v => ∃ d l, v = .ref d ∧ Deal d l H) (ev_call (evA_1 (evV_var rfl)) fun H1 vs e hv Q q => ?_) fun v1 H1 e1 hv => ?_
  · obtain ⟨_, rfl, rfl⟩ := hv
    exact ⟨a, ns, rfl, e.seq ha, fun d l H' e' _ _ hD => q _ H' e' ⟨d, l, rfl, hD⟩⟩
  obtain ⟨d, l, rfl, hD⟩ := hv
  show (tSeq _ _) _ [some (.ref a), some (.ref d), none, none, none, none, none, none, none, none, none, none] H1
  -- about
  refine ⟨_, rfl, d, l, rfl, hD, fun b u w H2 P p e2 hb hu hw hA => ?_⟩
  refine ⟨b, _, rfl, SqT.of hb, rfl, u, _, rfl, g_three hu ⟨w, _, rfl, ?_⟩⟩
  refine ⟨rfl, ?_⟩
  show (tSeq _ _) _ [some (.ref a), some (.ref d), some (.int p.1), some (.int p.2.1), some (.int p.2.2), some w, none, none, none, none, none, none] H2
  have l0 := hA.l0
  have l1 := hA.l1
  -- the living paper, put off
  obtain ⟨P0, hH, _⟩ := hA.ex
  have pre := land_pre hA
  have fr' : ∀ {σ : L2.St} {H : Hp} {ta tb : TE} {u l : Int}, EvI ta σ H u → EvI tb σ H l → 0 < l → l < 1073741824 → EvC (tCall sp__law_fraction [] E0 (tCons ta (tCons tb tNil))) σ H (fr u l) := fun ha hb h0 h1 =>
    ev_call (evA_2 ha mono_eq hb) fun H1 vs e hv Q q => by
      obtain ⟨v, w, rfl, rfl, rfl⟩ := hv
      exact ⟨_, _, rfl, h0, h1, q⟩
  have eland : Ev (tCall sp_land_of [] E0 (tCons (tVar 5) (tCons (tTup (tCons (tCall sp__law_fraction [] E0 (tCons (tVar 2) (tCons (tVar 4) tNil))) (tCons (tCall sp__law_fraction [] E0 (tCons (tVar 3) (tCons (tVar 4) tNil))) tNil))) tNil)))
      [some (.ref a), some (.ref d), some (.int p.1), some (.int p.2.1), some (.int p.2.2), some w, none, none, none, none, none, none] H2 (fun H v => ∃ (cs : List C2) (s : Int) (rows : List (List C2)), CellsOf P cs ∧ cs.length ≤ 512 ∧ 1 ≤ s ∧ s ≤ 600000000 ∧ (∀ w ∈ waysF cs (triple (ptOf p)), ∀ c ∈ cs, beyV w c (triple (ptOf p)) ≤ s * (triple (ptOf p)).2.2) ∧
        rows.length = (ringOf s (waysF cs (triple (ptOf p)))).length ∧ (∀ R ∈ rows, R ∈ P) ∧ PaperV H v (ptOf p) (ringOf s (waysF cs (triple (ptOf p)))) (0, 0) (0, 0) rows) :=
    ev_call (evA_2 (ev_varM rfl mono_plain hw) mono_plain (evP_tup (fr' (evI_var rfl) (evI_var rfl) (by omega) (by omega)) (fr' (evI_var rfl) (evI_var rfl) (by omega) (by omega)))) fun H3 vs e hv Q q => by
      obtain ⟨v, x, rfl, r1, r2⟩ := hv
      exact ⟨v, x, P, ptOf p, 600000000, rfl, r1, r2, pre, fun v' H' cs s rows e' h1 h2 h3 h4 h5 h6 h7 h8 => q v' H' e' ⟨cs, s, rows, h1, h2, h3, h4, h5, h6, h7, h8⟩⟩
  refine ⟨_, rfl, eland H2 (Same.refl _) _ fun v3 H3 e3 hv3 => ?_⟩
  obtain ⟨cs, s, rows, h1, h2, h3, h4, h5, h6, h7, h8⟩ := hv3
  have D2 := e2.deal
  have hrl : (ringOf s (waysF cs (triple (ptOf p)))).length ≤ 100000 := by
    unfold ringOf
    rw [ringF_len]
    have := waysF_len cs (triple (ptOf p))
    omega
  refine ⟨d, l, v3, _, _, _, _, rows, rfl, D2.same e3, h8, ring_len_pos, hrl, by omega, fun R hR => (hH.nd R (h7 R hR)).2.1, fun v' H' t at' rows' e4 ht hat hpap => ?_⟩
  have G := good_land hA h1 h2 h3 h4 h5 ht hat
  have e24 := (But.of D2 e3).trans e4
  have hw4 := hw.text e24.text
  show (tSeq _ _) _ [some (.ref a), some (.ref d), some (.int p.1), some (.int p.2.1), some (.int p.2.2), some w, some v', none, none, none, none, none] H'
  refine qD_if e24.deal (evD_draw rfl (fun H1 e => evI_c) (by decide) (by decide)) (fun H5 e5 => ?_) fun H5 e5 => ?_
  · refine ⟨_, rfl, d, l, rfl, e5.deal, fun b2 u2 w2 H6 P2 pt2 ring2 mid2 corner2 rows2 e6 hb2 hu2 hw2 hB => ?_⟩
    refine ⟨b2, _, rfl, SqT.of hb2, rfl, u2, _, rfl, w2, _, rfl, rfl, ?_⟩
    exact law_rest e6.deal hu2 hw2 (good_box hB) q
  · exact law_rest e5.deal (hw4.text e5.text) (hpap.text e5.text) G q
end K84
namespace K84
open L2 PySem PySem.Spec PyProof.Rows
section
variable {P : Program} {w : World} {K : PySem.W.Frag} {mg : Str → Option Value} {base : Heap}
theorem cal_of {x : Str} {ps : List Str} {sp : Sp} {st : Stmt} {k : Nat} (D : DefAt K mg x st) (b : ∀ f fd, Fun K x x st f fd → Binds K fd ps []) (ok : ∀ f fd, Fun K x x st f fd → FnOk P w K mg base CX0 k f fd ps sp) : Cal P w K mg base k x ps sp := by
  obtain ⟨f, fd, F, m⟩ := D
  exact ⟨f, fd, ok f fd F, m, F.2, b f fd F⟩
theorem cal_common (Z : Blt mg) (D : DefAt K mg "common" s_common)  : Cal P w K mg base 1 "common" ["one", "other"] sp_common :=
  cal_of D (fun f fd F => F.binds fun _ _ _ _ _ _ us hl => match us, hl with | [_, _], _ => rfl) fun f fd F => F.ok sc_common (fun vs H Q E h => by
    obtain ⟨_, _, rfl, _⟩ := h
    rfl) fun cdv A outer s H vs Q E hr h => ⟨_, d_common Z hr, pure_common vs H Q E h⟩
theorem cal_ceiling_of (Z : Blt mg) (D : DefAt K mg "ceiling_of" s_ceiling_of)  : Cal P w K mg base 1 "ceiling_of" ["one"] sp_ceiling_of :=
  cal_of D (fun f fd F => F.binds fun _ _ _ _ _ _ us hl => match us, hl with | [_], _ => rfl) fun f fd F => F.ok sc_ceiling_of (fun vs H Q E h => by
    obtain ⟨_, _, rfl, _⟩ := h
    rfl) fun cdv A outer s H vs Q E hr h => ⟨_, d_ceiling_of Z hr, pure_ceiling_of vs H Q E h⟩
theorem cal_carried (Z : Blt mg) (D : DefAt K mg "carried" s_carried)  : Cal P w K mg base 1 "carried" ["cell", "by"] sp_carried :=
  cal_of D (fun f fd F => F.binds fun _ _ _ _ _ _ us hl => match us, hl with | [_, _], _ => rfl) fun f fd F => F.ok sc_carried (fun vs H Q E h => by
    obtain ⟨_, _, _, _, rfl, _⟩ := h
    rfl) fun cdv A outer s H vs Q E hr h => ⟨_, d_carried Z hr, pure_carried vs H Q E h⟩
theorem cal_sides_round (Z : Blt mg) (D : DefAt K mg "sides_round" s_sides_round)  : Cal P w K mg base 1 "sides_round" ["ring"] sp_sides_round :=
  cal_of D (fun f fd F => F.binds fun _ _ _ _ _ _ us hl => match us, hl with | [_], _ => rfl) fun f fd F => F.ok sc_sides_round (fun vs H Q E h => by
    obtain ⟨_, _, rfl, _⟩ := h
    rfl) fun cdv A outer s H vs Q E hr h => ⟨_, d_sides_round Z hr, pure_sides_round vs H Q E h⟩
theorem cal_is_within (Z : Blt mg) (D : DefAt K mg "is_within" s_is_within)  : Cal P w K mg base 1 "is_within" ["sides", "x", "y", "lower"] sp_is_within :=
  cal_of D (fun f fd F => F.binds fun _ _ _ _ _ _ us hl => match us, hl with | [_, _, _, _], _ => rfl) fun f fd F => F.ok sc_is_within (fun vs H Q E h => by
    obtain ⟨_, _, _, _, _, _, rfl, _⟩ := h
    rfl) fun cdv A outer s H vs Q E hr h => ⟨_, d_is_within Z hr, pure_is_within vs H Q E h⟩
theorem cal_over_common (Z : Blt mg) (D : DefAt K mg "over_common" s_over_common)  : Cal P w K mg base 1 "over_common" ["point"] sp_over_common :=
  cal_of D (fun f fd F => F.binds fun _ _ _ _ _ _ us hl => match us, hl with | [_], _ => rfl) fun f fd F => F.ok sc_over_common (fun vs H Q E h => by
    obtain ⟨_, _, rfl, _⟩ := h
    rfl) fun cdv A outer s H vs Q E hr h => ⟨_, d_over_common Z hr, pure_over_common vs H Q E h⟩
theorem cal_cells_of (Z : Blt mg) (D : DefAt K mg "cells_of" s_cells_of)  : Cal P w K mg base 1 "cells_of" ["rows"] sp_cells_of :=
  cal_of D (fun f fd F => F.binds fun _ _ _ _ _ _ us hl => match us, hl with | [_], _ => rfl) fun f fd F => F.ok sc_cells_of (fun vs H Q E h => by
    obtain ⟨_, _, rfl, _⟩ := h
    rfl) fun cdv A outer s H vs Q E hr h => ⟨_, d_cells_of Z hr, pure_cells_of vs H Q E h⟩
theorem cal_in_turn (Z : Blt mg) (D : DefAt K mg "in_turn" s_in_turn)  : Cal P w K mg base 1 "in_turn" ["ways"] sp_in_turn :=
  cal_of D (fun f fd F => F.binds fun _ _ _ _ _ _ us hl => match us, hl with | [_], _ => rfl) fun f fd F => F.ok sc_in_turn (fun vs H Q E h => by
    obtain ⟨_, _, _, rfl, _⟩ := h
    rfl) fun cdv A outer s H vs Q E hr h => ⟨_, d_in_turn Z hr, pure_in_turn vs H Q E h⟩
theorem cal_beyond (Z : Blt mg) (D : DefAt K mg "beyond" s_beyond)  : Cal P w K mg base 1 "beyond" ["way", "cell", "point"] sp_beyond :=
  cal_of D (fun f fd F => F.binds fun _ _ _ _ _ _ us hl => match us, hl with | [_, _, _], _ => rfl) fun f fd F => F.ok sc_beyond (fun vs H Q E h => by
    obtain ⟨_, _, _, _, _, _, rfl, _⟩ := h
    rfl) fun cdv A outer s H vs Q E hr h => ⟨_, d_beyond Z hr, pure_beyond vs H Q E h⟩
theorem cal_kept_of (Z : Blt mg) (D : DefAt K mg "kept_of" s_kept_of)  : Cal P w K mg base 1 "kept_of" ["island"] sp_kept_of :=
  cal_of D (fun f fd F => F.binds fun _ _ _ _ _ _ us hl => match us, hl with | [_], _ => rfl) fun f fd F => F.ok sc_kept_of (fun vs H Q E h => by
    obtain ⟨_, _, rfl, _⟩ := h
    rfl) fun cdv A outer s H vs Q E hr h => ⟨_, d_kept_of Z hr, pure_kept_of vs H Q E h⟩
theorem cal__law_deal (Z : Blt mg) (D : DefAt K mg "_law_deal" s__law_deal)  : Cal P w K mg base 1 "_law_deal" ["_law_script"] (sp__law_deal K) :=
  cal_of D (fun f fd F => F.binds fun _ _ _ _ _ _ us hl => match us, hl with | [_], _ => rfl) fun f fd F => F.ok sc__law_deal (fun vs H Q E h => by
    obtain ⟨_, _, rfl, _⟩ := h
    rfl) fun cdv A outer s H vs Q E hr h => ⟨_, d__law_deal Z hr, pure__law_deal vs H Q E h⟩
theorem cal__law_draw (Z : Blt mg) (D : DefAt K mg "_law_draw" s__law_draw)  : Cal P w K mg base 1 "_law_draw" ["_law_deal_here", "_law_many"] sp__law_draw :=
  cal_of D (fun f fd F => F.binds fun _ _ _ _ _ _ us hl => match us, hl with | [_, _], _ => rfl) fun f fd F => F.ok sc__law_draw (fun vs H Q E h => by
    obtain ⟨_, _, _, rfl, _⟩ := h
    rfl) fun cdv A outer s H vs Q E hr h => ⟨_, d__law_draw Z hr, pure__law_draw vs H Q E h⟩
theorem cal__law_least (Z : Blt mg) (D : DefAt K mg "_law_least" s__law_least)  : Cal P w K mg base 1 "_law_least" ["_law_rows"] sp__law_least :=
  cal_of D (fun f fd F => F.binds fun _ _ _ _ _ _ us hl => match us, hl with | [_], _ => rfl) fun f fd F => F.ok sc__law_least (fun vs H Q E h => by
    obtain ⟨_, _, rfl, _⟩ := h
    rfl) fun cdv A outer s H vs Q E hr h => ⟨_, d__law_least Z hr, pure__law_least vs H Q E h⟩
theorem cal__law_fraction (Z : Blt mg) (D : DefAt K mg "_law_fraction" s__law_fraction)  : Cal P w K mg base 1 "_law_fraction" ["_law_upper", "_law_lower"] sp__law_fraction :=
  cal_of D (fun f fd F => F.binds fun _ _ _ _ _ _ us hl => match us, hl with | [_, _], _ => rfl) fun f fd F => F.ok sc__law_fraction (fun vs H Q E h => by
    obtain ⟨_, _, rfl, _⟩ := h
    rfl) fun cdv A outer s H vs Q E hr h => ⟨_, d__law_fraction Z hr, pure__law_fraction vs H Q E h⟩
theorem cal__law_lowest (Z : Blt mg) (D : DefAt K mg "_law_lowest" s__law_lowest)  : Cal P w K mg base 1 "_law_lowest" ["_law_x", "_law_y", "_law_lower"] sp__law_lowest :=
  cal_of D (fun f fd F => F.binds fun _ _ _ _ _ _ us hl => match us, hl with | [_, _, _], _ => rfl) fun f fd F => F.ok sc__law_lowest (fun vs H Q E h => by
    obtain ⟨_, _, _, rfl, _⟩ := h
    rfl) fun cdv A outer s H vs Q E hr h => ⟨_, d__law_lowest Z hr, pure__law_lowest vs H Q E h⟩
theorem cal__law_in_land (Z : Blt mg) (D : DefAt K mg "_law_in_land" s__law_in_land)  : Cal P w K mg base 1 "_law_in_land" ["_law_ring", "_law_x", "_law_y", "_law_lower"] sp__law_in_land :=
  cal_of D (fun f fd F => F.binds fun _ _ _ _ _ _ us hl => match us, hl with | [_, _, _, _], _ => rfl) fun f fd F => F.ok sc__law_in_land (fun vs H Q E h => by
    obtain ⟨_, _, _, _, _, rfl, _⟩ := h
    rfl) fun cdv A outer s H vs Q E hr h => ⟨_, d__law_in_land Z hr, pure__law_in_land vs H Q E h⟩
theorem cal__law_beat (Z : Blt mg) (D : DefAt K mg "_law_beat" s__law_beat)  : Cal P w K mg base 1 "_law_beat" ["_law_plain_here", "_law_island"] sp__law_beat :=
  cal_of D (fun f fd F => F.binds fun _ _ _ _ _ _ us hl => match us, hl with | [_, _], _ => rfl) fun f fd F => F.ok sc__law_beat (fun vs H Q E h => by
    obtain ⟨_, _, _, _, rfl, _⟩ := h
    rfl) fun cdv A outer s H vs Q E hr h => ⟨_, d__law_beat Z hr, pure__law_beat vs H Q E h⟩
theorem cal__law_turned (Z : Blt mg) (D : DefAt K mg "_law_turned" s__law_turned)  : Cal P w K mg base 1 "_law_turned" ["_law_one", "_law_other", "_law_third"] sp__law_turned :=
  cal_of D (fun f fd F => F.binds fun _ _ _ _ _ _ us hl => match us, hl with | [_, _, _], _ => rfl) fun f fd F => F.ok sc__law_turned (fun vs H Q E h => by
    obtain ⟨_, _, _, _, _, _, rfl, _⟩ := h
    rfl) fun cdv A outer s H vs Q E hr h => ⟨_, d__law_turned Z hr, pure__law_turned vs H Q E h⟩
theorem cal_fraction (Z : Blt mg) (D : DefAt K mg "fraction" s_fraction) (C_common : Cal P w K mg base 1 "common" ["one", "other"] sp_common) : Cal P w K mg base 2 "fraction" ["upper", "lower"] sp_fraction :=
  cal_of D (fun f fd F => F.binds fun _ _ _ _ _ _ us hl => match us, hl with | [_, _], _ => rfl) fun f fd F => F.ok sc_fraction (fun vs H Q E h => by
    obtain ⟨_, _, rfl, _⟩ := h
    rfl) fun cdv A outer s H vs Q E hr h => ⟨_, d_fraction Z C_common hr, pure_fraction vs H Q E h⟩
theorem cal_land_cells (Z : Blt mg) (D : DefAt K mg "land_cells" s_land_cells) (C_sides_round : Cal P w K mg base 1 "sides_round" ["ring"] sp_sides_round) (C_is_within : Cal P w K mg base 1 "is_within" ["sides", "x", "y", "lower"] sp_is_within) : Cal P w K mg base 2 "land_cells" ["ring"] sp_land_cells :=
  cal_of D (fun f fd F => F.binds fun _ _ _ _ _ _ us hl => match us, hl with | [_], _ => rfl) fun f fd F => F.ok sc_land_cells (fun vs H Q E h => by
    obtain ⟨_, _, _, _, _, _, rfl, _⟩ := h
    rfl) fun cdv A outer s H vs Q E hr h => ⟨_, d_land_cells Z C_sides_round C_is_within hr, pure_land_cells vs H Q E h⟩
theorem cal_way_of (Z : Blt mg) (D : DefAt K mg "way_of" s_way_of) (C_common : Cal P w K mg base 1 "common" ["one", "other"] sp_common) : Cal P w K mg base 2 "way_of" ["x", "y"] sp_way_of :=
  cal_of D (fun f fd F => F.binds fun _ _ _ _ _ _ us hl => match us, hl with | [_, _], _ => rfl) fun f fd F => F.ok sc_way_of (fun vs H Q E h => by
    obtain ⟨_, _, rfl, _⟩ := h
    rfl) fun cdv A outer s H vs Q E hr h => ⟨_, d_way_of Z C_common hr, pure_way_of vs H Q E h⟩
theorem cal_size_for (Z : Blt mg) (D : DefAt K mg "size_for" s_size_for) (C_beyond : Cal P w K mg base 1 "beyond" ["way", "cell", "point"] sp_beyond) : Cal P w K mg base 2 "size_for" ["ways", "cells", "point"] sp_size_for :=
  cal_of D (fun f fd F => F.binds fun _ _ _ _ _ _ us hl => match us, hl with | [_, _, _], _ => rfl) fun f fd F => F.ok sc_size_for (fun vs H Q E h => by
    obtain ⟨_, _, _, _, _, _, _, _, _, rfl, _⟩ := h
    rfl) fun cdv A outer s H vs Q E hr h => ⟨_, d_size_for Z C_beyond hr, pure_size_for vs H Q E h⟩
theorem cal_row_at (Z : Blt mg) (D : DefAt K mg "row_at" s_row_at) (C_beyond : Cal P w K mg base 1 "beyond" ["way", "cell", "point"] sp_beyond) : Cal P w K mg base 2 "row_at" ["plain", "cells", "point", "one", "other"] sp_row_at :=
  cal_of D (fun f fd F => F.binds fun _ _ _ _ _ _ us hl => match us, hl with | [_, _, _, _, _], _ => rfl) fun f fd F => F.ok sc_row_at (fun vs H Q E h => by
    obtain ⟨_, _, _, _, _, _, _, _, _, _, _, rfl, _⟩ := h
    rfl) fun cdv A outer s H vs Q E hr h => ⟨_, d_row_at Z C_beyond hr, pure_row_at vs H Q E h⟩
theorem cal_is_broken_by (Z : Blt mg) (D : DefAt K mg "is_broken_by" s_is_broken_by) (C_carried : Cal P w K mg base 1 "carried" ["cell", "by"] sp_carried) : Cal P w K mg base 2 "is_broken_by" ["row", "kept", "cell"] sp_is_broken_by :=
  cal_of D (fun f fd F => F.binds fun _ _ _ _ _ _ us hl => match us, hl with | [_, _, _], _ => rfl) fun f fd F => F.ok sc_is_broken_by (fun vs H Q E h => by
    obtain ⟨_, _, _, _, _, _, rfl, _⟩ := h
    rfl) fun cdv A outer s H vs Q E hr h => ⟨_, d_is_broken_by Z C_carried hr, pure_is_broken_by vs H Q E h⟩
theorem cal__law_cells (Z : Blt mg) (D : DefAt K mg "_law_cells" s__law_cells) (C__law_draw : Cal P w K mg base 1 "_law_draw" ["_law_deal_here", "_law_many"] sp__law_draw) : Cal P w K mg base 2 "_law_cells" ["_law_deal_here", "_law_many"] sp__law_cells :=
  cal_of D (fun f fd F => F.binds fun _ _ _ _ _ _ us hl => match us, hl with | [_, _], _ => rfl) fun f fd F => F.ok sc__law_cells (fun vs H Q E h => by
    obtain ⟨_, _, _, rfl, _⟩ := h
    rfl) fun cdv A outer s H vs Q E hr h => ⟨_, d__law_cells Z C__law_draw hr, pure__law_cells vs H Q E h⟩
theorem cal__law_healing (Z : Blt mg) (D : DefAt K mg "_law_healing" s__law_healing) (C__law_least : Cal P w K mg base 1 "_law_least" ["_law_rows"] sp__law_least) : Cal P w K mg base 2 "_law_healing" ["_law_plain_here"] sp__law_healing :=
  cal_of D (fun f fd F => F.binds fun _ _ _ _ _ _ us hl => match us, hl with | [_], _ => rfl) fun f fd F => F.ok sc__law_healing (fun vs H Q E h => by
    obtain ⟨_, _, rfl, _⟩ := h
    rfl) fun cdv A outer s H vs Q E hr h => ⟨_, d__law_healing Z C__law_least hr, pure__law_healing vs H Q E h⟩
theorem cal__law_half (Z : Blt mg) (D : DefAt K mg "_law_half" s__law_half) (C__law_turned : Cal P w K mg base 1 "_law_turned" ["_law_one", "_law_other", "_law_third"] sp__law_turned) : Cal P w K mg base 2 "_law_half" ["_law_cells_here"] sp__law_half :=
  cal_of D (fun f fd F => F.binds fun _ _ _ _ _ _ us hl => match us, hl with | [_], _ => rfl) fun f fd F => F.ok sc__law_half (fun vs H Q E h => by
    obtain ⟨_, _, rfl, _⟩ := h
    rfl) fun cdv A outer s H vs Q E hr h => ⟨_, d__law_half Z C__law_turned hr, pure__law_half vs H Q E h⟩
theorem cal__law_put_off (Z : Blt mg) (D : DefAt K mg "_law_put_off" s__law_put_off) (C__law_draw : Cal P w K mg base 1 "_law_draw" ["_law_deal_here", "_law_many"] sp__law_draw) : Cal P w K mg base 2 "_law_put_off" ["_law_deal_here", "_law_paper"] sp__law_put_off :=
  cal_of D (fun f fd F => F.binds fun _ _ _ _ _ _ us hl => match us, hl with | [_, _], _ => rfl) fun f fd F => F.ok sc__law_put_off (fun vs H Q E h => by
    obtain ⟨_, _, _, _, _, _, _, _, rfl, _⟩ := h
    rfl) fun cdv A outer s H vs Q E hr h => ⟨_, d__law_put_off Z C__law_draw hr, pure__law_put_off vs H Q E h⟩
theorem cal_less (Z : Blt mg) (D : DefAt K mg "less" s_less) (C_fraction : Cal P w K mg base 2 "fraction" ["upper", "lower"] sp_fraction) : Cal P w K mg base 3 "less" ["one", "other"] sp_less :=
  cal_of D (fun f fd F => F.binds fun _ _ _ _ _ _ us hl => match us, hl with | [_, _], _ => rfl) fun f fd F => F.ok sc_less (fun vs H Q E h => by
    obtain ⟨_, _, _, _, rfl, _⟩ := h
    rfl) fun cdv A outer s H vs Q E hr h => ⟨_, d_less Z C_fraction hr, pure_less vs H Q E h⟩
theorem cal_times (Z : Blt mg) (D : DefAt K mg "times" s_times) (C_fraction : Cal P w K mg base 2 "fraction" ["upper", "lower"] sp_fraction) : Cal P w K mg base 3 "times" ["one", "other"] sp_times :=
  cal_of D (fun f fd F => F.binds fun _ _ _ _ _ _ us hl => match us, hl with | [_, _], _ => rfl) fun f fd F => F.ok sc_times (fun vs H Q E h => by
    obtain ⟨_, _, _, _, rfl, _⟩ := h
    rfl) fun cdv A outer s H vs Q E hr h => ⟨_, d_times Z C_fraction hr, pure_times vs H Q E h⟩
theorem cal_ways_from (Z : Blt mg) (D : DefAt K mg "ways_from" s_ways_from) (C_way_of : Cal P w K mg base 2 "way_of" ["x", "y"] sp_way_of) (C_in_turn : Cal P w K mg base 1 "in_turn" ["ways"] sp_in_turn) : Cal P w K mg base 3 "ways_from" ["cells", "point"] sp_ways_from :=
  cal_of D (fun f fd F => F.binds fun _ _ _ _ _ _ us hl => match us, hl with | [_, _], _ => rfl) fun f fd F => F.ok sc_ways_from (fun vs H Q E h => by
    obtain ⟨_, _, _, _, _, rfl, _⟩ := h
    rfl) fun cdv A outer s H vs Q E hr h => ⟨_, d_ways_from Z C_way_of C_in_turn hr, pure_ways_from vs H Q E h⟩
theorem cal_beat (Z : Blt mg) (D : DefAt K mg "beat" s_beat) (C_kept_of : Cal P w K mg base 1 "kept_of" ["island"] sp_kept_of) (C_carried : Cal P w K mg base 1 "carried" ["cell", "by"] sp_carried) (C_is_broken_by : Cal P w K mg base 2 "is_broken_by" ["row", "kept", "cell"] sp_is_broken_by) : Cal P w K mg base 3 "beat" ["plain", "island"] sp_beat :=
  cal_of D (fun f fd F => F.binds fun _ _ _ _ _ _ us hl => match us, hl with | [_, _], _ => rfl) fun f fd F => F.ok sc_beat (fun vs H Q E h => by
    obtain ⟨_, _, _, _, rfl, _⟩ := h
    rfl) fun cdv A outer s H vs Q E hr h => ⟨_, d_beat Z C_kept_of C_carried C_is_broken_by hr, pure_beat vs H Q E h⟩
theorem cal__law_about (Z : Blt mg) (D : DefAt K mg "_law_about" s__law_about) (C__law_draw : Cal P w K mg base 1 "_law_draw" ["_law_deal_here", "_law_many"] sp__law_draw) (C__law_cells : Cal P w K mg base 2 "_law_cells" ["_law_deal_here", "_law_many"] sp__law_cells) (C__law_least : Cal P w K mg base 1 "_law_least" ["_law_rows"] sp__law_least) (C__law_healing : Cal P w K mg base 2 "_law_healing" ["_law_plain_here"] sp__law_healing) (C__law_lowest : Cal P w K mg base 1 "_law_lowest" ["_law_x", "_law_y", "_law_lower"] sp__law_lowest) : Cal P w K mg base 3 "_law_about" ["_law_deal_here"] sp__law_about :=
  cal_of D (fun f fd F => F.binds fun _ _ _ _ _ _ us hl => match us, hl with | [_], _ => rfl) fun f fd F => F.ok sc__law_about (fun vs H Q E h => by
    obtain ⟨_, _, rfl, _⟩ := h
    rfl) fun cdv A outer s H vs Q E hr h => ⟨_, d__law_about Z C__law_draw C__law_cells C__law_least C__law_healing C__law_lowest hr, pure__law_about vs H Q E h⟩
theorem cal__law_boxed (Z : Blt mg) (D : DefAt K mg "_law_boxed" s__law_boxed) (C__law_draw : Cal P w K mg base 1 "_law_draw" ["_law_deal_here", "_law_many"] sp__law_draw) (C__law_cells : Cal P w K mg base 2 "_law_cells" ["_law_deal_here", "_law_many"] sp__law_cells) (C__law_least : Cal P w K mg base 1 "_law_least" ["_law_rows"] sp__law_least) (C__law_half : Cal P w K mg base 2 "_law_half" ["_law_cells_here"] sp__law_half) : Cal P w K mg base 3 "_law_boxed" ["_law_deal_here"] sp__law_boxed :=
  cal_of D (fun f fd F => F.binds fun _ _ _ _ _ _ us hl => match us, hl with | [_], _ => rfl) fun f fd F => F.ok sc__law_boxed (fun vs H Q E h => by
    obtain ⟨_, _, rfl, _⟩ := h
    rfl) fun cdv A outer s H vs Q E hr h => ⟨_, d__law_boxed Z C__law_draw C__law_cells C__law_least C__law_half hr, pure__law_boxed vs H Q E h⟩
theorem cal_land_of (Z : Blt mg) (D : DefAt K mg "land_of" s_land_of) (C_over_common : Cal P w K mg base 1 "over_common" ["point"] sp_over_common) (C_cells_of : Cal P w K mg base 1 "cells_of" ["rows"] sp_cells_of) (C_ways_from : Cal P w K mg base 3 "ways_from" ["cells", "point"] sp_ways_from) (C_size_for : Cal P w K mg base 2 "size_for" ["ways", "cells", "point"] sp_size_for) (C_row_at : Cal P w K mg base 2 "row_at" ["plain", "cells", "point", "one", "other"] sp_row_at) : Cal P w K mg base 4 "land_of" ["plain", "v"] sp_land_of :=
  cal_of D (fun f fd F => F.binds fun _ _ _ _ _ _ us hl => match us, hl with | [_, _], _ => rfl) fun f fd F => F.ok sc_land_of (fun vs H Q E h => by
    obtain ⟨_, _, _, _, _, rfl, _⟩ := h
    rfl) fun cdv A outer s H vs Q E hr h => ⟨_, d_land_of Z C_over_common C_cells_of C_ways_from C_size_for C_row_at hr, pure_land_of vs H Q E h⟩
theorem cal_cell_at (Z : Blt mg) (D : DefAt K mg "cell_at" s_cell_at) (C_times : Cal P w K mg base 3 "times" ["one", "other"] sp_times) (C_less : Cal P w K mg base 3 "less" ["one", "other"] sp_less) (C_ceiling_of : Cal P w K mg base 1 "ceiling_of" ["one"] sp_ceiling_of) : Cal P w K mg base 4 "cell_at" ["paper", "many"] sp_cell_at :=
  cal_of D (fun f fd F => F.binds fun _ _ _ _ _ _ us hl => match us, hl with | [_, _], _ => rfl) fun f fd F => F.ok sc_cell_at (fun vs H Q E h => by
    obtain ⟨_, _, _, _, _, _, _, rfl, _⟩ := h
    rfl) fun cdv A outer s H vs Q E hr h => ⟨_, d_cell_at Z C_times C_less C_ceiling_of hr, pure_cell_at vs H Q E h⟩
theorem cal_beats (Z : Blt mg) (D : DefAt K mg "beats" s_beats) (C_beat : Cal P w K mg base 3 "beat" ["plain", "island"] sp_beat) : Cal P w K mg base 4 "beats" ["plain", "island", "many"] sp_beats :=
  cal_of D (fun f fd F => F.binds fun _ _ _ _ _ _ us hl => match us, hl with | [_, _, _], _ => rfl) fun f fd F => F.ok sc_beats (fun vs H Q E h => by
    obtain ⟨_, _, _, _, _, rfl, _⟩ := h
    rfl) fun cdv A outer s H vs Q E hr h => ⟨_, d_beats Z C_beat hr, pure_beats vs H Q E h⟩
theorem cal__law_told_right (Z : Blt mg) (D : DefAt K mg "_law_told_right" s__law_told_right) (C_cell_at : Cal P w K mg base 4 "cell_at" ["paper", "many"] sp_cell_at) (C__law_in_land : Cal P w K mg base 1 "_law_in_land" ["_law_ring", "_law_x", "_law_y", "_law_lower"] sp__law_in_land) : Cal P w K mg base 5 "_law_told_right" ["_law_paper", "_law_many"] sp__law_told_right :=
  cal_of D (fun f fd F => F.binds fun _ _ _ _ _ _ us hl => match us, hl with | [_, _], _ => rfl) fun f fd F => F.ok sc__law_told_right (fun vs H Q E h => by
    obtain ⟨_, _, _, _, _, _, _, rfl, _⟩ := h
    rfl) fun cdv A outer s H vs Q E hr h => ⟨_, d__law_told_right Z C_cell_at C__law_in_land hr, pure__law_told_right vs H Q E h⟩
theorem cal__law_stands (Z : Blt mg) (D : DefAt K mg "_law_stands" s__law_stands) (C__law_in_land : Cal P w K mg base 1 "_law_in_land" ["_law_ring", "_law_x", "_law_y", "_law_lower"] sp__law_in_land) (C_cell_at : Cal P w K mg base 4 "cell_at" ["paper", "many"] sp_cell_at) : Cal P w K mg base 5 "_law_stands" ["_law_paper", "_law_island", "_law_here", "_law_many"] sp__law_stands :=
  cal_of D (fun f fd F => F.binds fun _ _ _ _ _ _ us hl => match us, hl with | [_, _, _, _], _ => rfl) fun f fd F => F.ok sc__law_stands (fun vs H Q E h => by
    obtain ⟨_, _, _, _, _, _, _, _, _, _, _, rfl, _⟩ := h
    rfl) fun cdv A outer s H vs Q E hr h => ⟨_, d__law_stands Z C__law_in_land C_cell_at hr, pure__law_stands vs H Q E h⟩
theorem ok_law {f : Addr} {fd : FuncData} (Z : Blt mg) (F : Fun K "law" "law" s_law f fd) (C__law_deal : Cal P w K mg base 1 "_law_deal" ["_law_script"] (sp__law_deal K)) (C__law_about : Cal P w K mg base 3 "_law_about" ["_law_deal_here"] sp__law_about) (C__law_fraction : Cal P w K mg base 1 "_law_fraction" ["_law_upper", "_law_lower"] sp__law_fraction) (C_land_of : Cal P w K mg base 4 "land_of" ["plain", "v"] sp_land_of) (C__law_put_off : Cal P w K mg base 2 "_law_put_off" ["_law_deal_here", "_law_paper"] sp__law_put_off) (C__law_draw : Cal P w K mg base 1 "_law_draw" ["_law_deal_here", "_law_many"] sp__law_draw) (C__law_boxed : Cal P w K mg base 3 "_law_boxed" ["_law_deal_here"] sp__law_boxed) (C__law_told_right : Cal P w K mg base 5 "_law_told_right" ["_law_paper", "_law_many"] sp__law_told_right) (C_land_cells : Cal P w K mg base 2 "land_cells" ["ring"] sp_land_cells) (C__law_beat : Cal P w K mg base 1 "_law_beat" ["_law_plain_here", "_law_island"] sp__law_beat) (C__law_stands : Cal P w K mg base 5 "_law_stands" ["_law_paper", "_law_island", "_law_here", "_law_many"] sp__law_stands) (C_cell_at : Cal P w K mg base 4 "cell_at" ["paper", "many"] sp_cell_at) (C_beats : Cal P w K mg base 4 "beats" ["plain", "island", "many"] sp_beats) : FnOk P w K mg base CX0 6 f fd ["_law_script"] (sp_law K) :=
  F.ok sc_law (fun vs H Q E h => by
    obtain ⟨_, _, rfl, _⟩ := h
    rfl) fun cdv A outer s H vs Q E hr h => ⟨_, d_law Z C__law_deal C__law_about C__law_fraction C_land_of C__law_put_off C__law_draw C__law_boxed C__law_told_right C_land_cells C__law_beat C__law_stands C_cell_at C_beats hr, pure_law vs H Q E h⟩
end
theorem all_mk {l : PySem.W.OpenLaw} {w : World} {K : PySem.W.Frag} {h : Heap} {mg : Str → Option Value} {fa : Addr} (X : K.In h) (G : h.Ns mainGlobals mg) (hfa : mg "law" = some (.ref fa))
    {f0 : Addr} {od0 an0 : Option Addr} {sl0 : Array (Option Value)} {oc0 kV0 dc0 pm0 cd0 ct0 : Value}
    {f1 : Addr} {od1 an1 : Option Addr} {sl1 : Array (Option Value)} {oc1 kV1 dc1 pm1 cd1 ct1 : Value}
    {f2 : Addr} {od2 an2 : Option Addr} {sl2 : Array (Option Value)} {oc2 kV2 dc2 pm2 cd2 ct2 : Value}
    {f3 : Addr} {od3 an3 : Option Addr} {sl3 : Array (Option Value)} {oc3 kV3 dc3 pm3 cd3 ct3 : Value}
    {f4 : Addr} {od4 an4 : Option Addr} {sl4 : Array (Option Value)} {oc4 kV4 dc4 pm4 cd4 ct4 : Value}
    {f5 : Addr} {od5 an5 : Option Addr} {sl5 : Array (Option Value)} {oc5 kV5 dc5 pm5 cd5 ct5 : Value}
    {f6 : Addr} {od6 an6 : Option Addr} {sl6 : Array (Option Value)} {oc6 kV6 dc6 pm6 cd6 ct6 : Value}
    {f7 : Addr} {od7 an7 : Option Addr} {sl7 : Array (Option Value)} {oc7 kV7 dc7 pm7 cd7 ct7 : Value}
    {f8 : Addr} {od8 an8 : Option Addr} {sl8 : Array (Option Value)} {oc8 kV8 dc8 pm8 cd8 ct8 : Value}
    {f9 : Addr} {od9 an9 : Option Addr} {sl9 : Array (Option Value)} {oc9 kV9 dc9 pm9 cd9 ct9 : Value}
    {f10 : Addr} {od10 an10 : Option Addr} {sl10 : Array (Option Value)} {oc10 kV10 dc10 pm10 cd10 ct10 : Value}
    {f11 : Addr} {od11 an11 : Option Addr} {sl11 : Array (Option Value)} {oc11 kV11 dc11 pm11 cd11 ct11 : Value}
    {f12 : Addr} {od12 an12 : Option Addr} {sl12 : Array (Option Value)} {oc12 kV12 dc12 pm12 cd12 ct12 : Value}
    {f13 : Addr} {od13 an13 : Option Addr} {sl13 : Array (Option Value)} {oc13 kV13 dc13 pm13 cd13 ct13 : Value}
    {f14 : Addr} {od14 an14 : Option Addr} {sl14 : Array (Option Value)} {oc14 kV14 dc14 pm14 cd14 ct14 : Value}
    {f15 : Addr} {od15 an15 : Option Addr} {sl15 : Array (Option Value)} {oc15 kV15 dc15 pm15 cd15 ct15 : Value}
    {f16 : Addr} {od16 an16 : Option Addr} {sl16 : Array (Option Value)} {oc16 kV16 dc16 pm16 cd16 ct16 : Value}
    {f17 : Addr} {od17 an17 : Option Addr} {sl17 : Array (Option Value)} {oc17 kV17 dc17 pm17 cd17 ct17 : Value}
    {f18 : Addr} {od18 an18 : Option Addr} {sl18 : Array (Option Value)} {oc18 kV18 dc18 pm18 cd18 ct18 : Value}
    {f19 : Addr} {od19 an19 : Option Addr} {sl19 : Array (Option Value)} {oc19 kV19 dc19 pm19 cd19 ct19 : Value}
    {f20 : Addr} {od20 an20 : Option Addr} {sl20 : Array (Option Value)} {oc20 kV20 dc20 pm20 cd20 ct20 : Value}
    {f21 : Addr} {od21 an21 : Option Addr} {sl21 : Array (Option Value)} {oc21 kV21 dc21 pm21 cd21 ct21 : Value}
    {f22 : Addr} {od22 an22 : Option Addr} {sl22 : Array (Option Value)} {oc22 kV22 dc22 pm22 cd22 ct22 : Value}
    {f23 : Addr} {od23 an23 : Option Addr} {sl23 : Array (Option Value)} {oc23 kV23 dc23 pm23 cd23 ct23 : Value}
    {f24 : Addr} {od24 an24 : Option Addr} {sl24 : Array (Option Value)} {oc24 kV24 dc24 pm24 cd24 ct24 : Value}
    {f25 : Addr} {od25 an25 : Option Addr} {sl25 : Array (Option Value)} {oc25 kV25 dc25 pm25 cd25 ct25 : Value}
    {f26 : Addr} {od26 an26 : Option Addr} {sl26 : Array (Option Value)} {oc26 kV26 dc26 pm26 cd26 ct26 : Value}
    {f27 : Addr} {od27 an27 : Option Addr} {sl27 : Array (Option Value)} {oc27 kV27 dc27 pm27 cd27 ct27 : Value}
    {f28 : Addr} {od28 an28 : Option Addr} {sl28 : Array (Option Value)} {oc28 kV28 dc28 pm28 cd28 ct28 : Value}
    {f29 : Addr} {od29 an29 : Option Addr} {sl29 : Array (Option Value)} {oc29 kV29 dc29 pm29 cd29 ct29 : Value}
    {f30 : Addr} {od30 an30 : Option Addr} {sl30 : Array (Option Value)} {oc30 kV30 dc30 pm30 cd30 ct30 : Value}
    {f31 : Addr} {od31 an31 : Option Addr} {sl31 : Array (Option Value)} {oc31 kV31 dc31 pm31 cd31 ct31 : Value}
    {f32 : Addr} {od32 an32 : Option Addr} {sl32 : Array (Option Value)} {oc32 kV32 dc32 pm32 cd32 ct32 : Value}
    {f33 : Addr} {od33 an33 : Option Addr} {sl33 : Array (Option Value)} {oc33 kV33 dc33 pm33 cd33 ct33 : Value}
    {f34 : Addr} {od34 an34 : Option Addr} {sl34 : Array (Option Value)} {oc34 kV34 dc34 pm34 cd34 ct34 : Value}
    {f35 : Addr} {od35 an35 : Option Addr} {sl35 : Array (Option Value)} {oc35 kV35 dc35 pm35 cd35 ct35 : Value}
    {f36 : Addr} {od36 an36 : Option Addr} {sl36 : Array (Option Value)} {oc36 kV36 dc36 pm36 cd36 ct36 : Value}
    {f37 : Addr} {od37 an37 : Option Addr} {sl37 : Array (Option Value)} {oc37 kV37 dc37 pm37 cd37 ct37 : Value}
    {f38 : Addr} {od38 an38 : Option Addr} {sl38 : Array (Option Value)} {oc38 kV38 dc38 pm38 cd38 ct38 : Value}
    {f39 : Addr} {od39 an39 : Option Addr} {sl39 : Array (Option Value)} {oc39 kV39 dc39 pm39 cd39 ct39 : Value}
    (a0 : PySem.W.nsIn K mainGlobals "common" = some (some (.ref f0))) (l0 : K.lookup f0 = some ⟨oc0, od0, .func (PySem.W.fnOf "common" "common" (defArgs s_common) (defBody s_common) (defScope s_common) .none kV0 dc0 pm0 an0 cd0 ct0), sl0⟩) (c0 : PySem.W.codeIn K cd0 "common" = true) (k0 : PySem.W.keepIn K (.ref f0) = true)
    (a1 : PySem.W.nsIn K mainGlobals "ceiling_of" = some (some (.ref f1))) (l1 : K.lookup f1 = some ⟨oc1, od1, .func (PySem.W.fnOf "ceiling_of" "ceiling_of" (defArgs s_ceiling_of) (defBody s_ceiling_of) (defScope s_ceiling_of) .none kV1 dc1 pm1 an1 cd1 ct1), sl1⟩) (c1 : PySem.W.codeIn K cd1 "ceiling_of" = true) (k1 : PySem.W.keepIn K (.ref f1) = true)
    (a2 : PySem.W.nsIn K mainGlobals "carried" = some (some (.ref f2))) (l2 : K.lookup f2 = some ⟨oc2, od2, .func (PySem.W.fnOf "carried" "carried" (defArgs s_carried) (defBody s_carried) (defScope s_carried) .none kV2 dc2 pm2 an2 cd2 ct2), sl2⟩) (c2 : PySem.W.codeIn K cd2 "carried" = true) (k2 : PySem.W.keepIn K (.ref f2) = true)
    (a3 : PySem.W.nsIn K mainGlobals "sides_round" = some (some (.ref f3))) (l3 : K.lookup f3 = some ⟨oc3, od3, .func (PySem.W.fnOf "sides_round" "sides_round" (defArgs s_sides_round) (defBody s_sides_round) (defScope s_sides_round) .none kV3 dc3 pm3 an3 cd3 ct3), sl3⟩) (c3 : PySem.W.codeIn K cd3 "sides_round" = true) (k3 : PySem.W.keepIn K (.ref f3) = true)
    (a4 : PySem.W.nsIn K mainGlobals "is_within" = some (some (.ref f4))) (l4 : K.lookup f4 = some ⟨oc4, od4, .func (PySem.W.fnOf "is_within" "is_within" (defArgs s_is_within) (defBody s_is_within) (defScope s_is_within) .none kV4 dc4 pm4 an4 cd4 ct4), sl4⟩) (c4 : PySem.W.codeIn K cd4 "is_within" = true) (k4 : PySem.W.keepIn K (.ref f4) = true)
    (a5 : PySem.W.nsIn K mainGlobals "over_common" = some (some (.ref f5))) (l5 : K.lookup f5 = some ⟨oc5, od5, .func (PySem.W.fnOf "over_common" "over_common" (defArgs s_over_common) (defBody s_over_common) (defScope s_over_common) .none kV5 dc5 pm5 an5 cd5 ct5), sl5⟩) (c5 : PySem.W.codeIn K cd5 "over_common" = true) (k5 : PySem.W.keepIn K (.ref f5) = true)
    (a6 : PySem.W.nsIn K mainGlobals "cells_of" = some (some (.ref f6))) (l6 : K.lookup f6 = some ⟨oc6, od6, .func (PySem.W.fnOf "cells_of" "cells_of" (defArgs s_cells_of) (defBody s_cells_of) (defScope s_cells_of) .none kV6 dc6 pm6 an6 cd6 ct6), sl6⟩) (c6 : PySem.W.codeIn K cd6 "cells_of" = true) (k6 : PySem.W.keepIn K (.ref f6) = true)
    (a7 : PySem.W.nsIn K mainGlobals "in_turn" = some (some (.ref f7))) (l7 : K.lookup f7 = some ⟨oc7, od7, .func (PySem.W.fnOf "in_turn" "in_turn" (defArgs s_in_turn) (defBody s_in_turn) (defScope s_in_turn) .none kV7 dc7 pm7 an7 cd7 ct7), sl7⟩) (c7 : PySem.W.codeIn K cd7 "in_turn" = true) (k7 : PySem.W.keepIn K (.ref f7) = true)
    (a8 : PySem.W.nsIn K mainGlobals "beyond" = some (some (.ref f8))) (l8 : K.lookup f8 = some ⟨oc8, od8, .func (PySem.W.fnOf "beyond" "beyond" (defArgs s_beyond) (defBody s_beyond) (defScope s_beyond) .none kV8 dc8 pm8 an8 cd8 ct8), sl8⟩) (c8 : PySem.W.codeIn K cd8 "beyond" = true) (k8 : PySem.W.keepIn K (.ref f8) = true)
    (a9 : PySem.W.nsIn K mainGlobals "kept_of" = some (some (.ref f9))) (l9 : K.lookup f9 = some ⟨oc9, od9, .func (PySem.W.fnOf "kept_of" "kept_of" (defArgs s_kept_of) (defBody s_kept_of) (defScope s_kept_of) .none kV9 dc9 pm9 an9 cd9 ct9), sl9⟩) (c9 : PySem.W.codeIn K cd9 "kept_of" = true) (k9 : PySem.W.keepIn K (.ref f9) = true)
    (a10 : PySem.W.nsIn K mainGlobals "_law_deal" = some (some (.ref f10))) (l10 : K.lookup f10 = some ⟨oc10, od10, .func (PySem.W.fnOf "_law_deal" "_law_deal" (defArgs s__law_deal) (defBody s__law_deal) (defScope s__law_deal) .none kV10 dc10 pm10 an10 cd10 ct10), sl10⟩) (c10 : PySem.W.codeIn K cd10 "_law_deal" = true) (k10 : PySem.W.keepIn K (.ref f10) = true)
    (a11 : PySem.W.nsIn K mainGlobals "_law_draw" = some (some (.ref f11))) (l11 : K.lookup f11 = some ⟨oc11, od11, .func (PySem.W.fnOf "_law_draw" "_law_draw" (defArgs s__law_draw) (defBody s__law_draw) (defScope s__law_draw) .none kV11 dc11 pm11 an11 cd11 ct11), sl11⟩) (c11 : PySem.W.codeIn K cd11 "_law_draw" = true) (k11 : PySem.W.keepIn K (.ref f11) = true)
    (a12 : PySem.W.nsIn K mainGlobals "_law_least" = some (some (.ref f12))) (l12 : K.lookup f12 = some ⟨oc12, od12, .func (PySem.W.fnOf "_law_least" "_law_least" (defArgs s__law_least) (defBody s__law_least) (defScope s__law_least) .none kV12 dc12 pm12 an12 cd12 ct12), sl12⟩) (c12 : PySem.W.codeIn K cd12 "_law_least" = true) (k12 : PySem.W.keepIn K (.ref f12) = true)
    (a13 : PySem.W.nsIn K mainGlobals "_law_fraction" = some (some (.ref f13))) (l13 : K.lookup f13 = some ⟨oc13, od13, .func (PySem.W.fnOf "_law_fraction" "_law_fraction" (defArgs s__law_fraction) (defBody s__law_fraction) (defScope s__law_fraction) .none kV13 dc13 pm13 an13 cd13 ct13), sl13⟩) (c13 : PySem.W.codeIn K cd13 "_law_fraction" = true) (k13 : PySem.W.keepIn K (.ref f13) = true)
    (a14 : PySem.W.nsIn K mainGlobals "_law_lowest" = some (some (.ref f14))) (l14 : K.lookup f14 = some ⟨oc14, od14, .func (PySem.W.fnOf "_law_lowest" "_law_lowest" (defArgs s__law_lowest) (defBody s__law_lowest) (defScope s__law_lowest) .none kV14 dc14 pm14 an14 cd14 ct14), sl14⟩) (c14 : PySem.W.codeIn K cd14 "_law_lowest" = true) (k14 : PySem.W.keepIn K (.ref f14) = true)
    (a15 : PySem.W.nsIn K mainGlobals "_law_in_land" = some (some (.ref f15))) (l15 : K.lookup f15 = some ⟨oc15, od15, .func (PySem.W.fnOf "_law_in_land" "_law_in_land" (defArgs s__law_in_land) (defBody s__law_in_land) (defScope s__law_in_land) .none kV15 dc15 pm15 an15 cd15 ct15), sl15⟩) (c15 : PySem.W.codeIn K cd15 "_law_in_land" = true) (k15 : PySem.W.keepIn K (.ref f15) = true)
    (a16 : PySem.W.nsIn K mainGlobals "_law_beat" = some (some (.ref f16))) (l16 : K.lookup f16 = some ⟨oc16, od16, .func (PySem.W.fnOf "_law_beat" "_law_beat" (defArgs s__law_beat) (defBody s__law_beat) (defScope s__law_beat) .none kV16 dc16 pm16 an16 cd16 ct16), sl16⟩) (c16 : PySem.W.codeIn K cd16 "_law_beat" = true) (k16 : PySem.W.keepIn K (.ref f16) = true)
    (a17 : PySem.W.nsIn K mainGlobals "_law_turned" = some (some (.ref f17))) (l17 : K.lookup f17 = some ⟨oc17, od17, .func (PySem.W.fnOf "_law_turned" "_law_turned" (defArgs s__law_turned) (defBody s__law_turned) (defScope s__law_turned) .none kV17 dc17 pm17 an17 cd17 ct17), sl17⟩) (c17 : PySem.W.codeIn K cd17 "_law_turned" = true) (k17 : PySem.W.keepIn K (.ref f17) = true)
    (a18 : PySem.W.nsIn K mainGlobals "fraction" = some (some (.ref f18))) (l18 : K.lookup f18 = some ⟨oc18, od18, .func (PySem.W.fnOf "fraction" "fraction" (defArgs s_fraction) (defBody s_fraction) (defScope s_fraction) .none kV18 dc18 pm18 an18 cd18 ct18), sl18⟩) (c18 : PySem.W.codeIn K cd18 "fraction" = true) (k18 : PySem.W.keepIn K (.ref f18) = true)
    (a19 : PySem.W.nsIn K mainGlobals "land_cells" = some (some (.ref f19))) (l19 : K.lookup f19 = some ⟨oc19, od19, .func (PySem.W.fnOf "land_cells" "land_cells" (defArgs s_land_cells) (defBody s_land_cells) (defScope s_land_cells) .none kV19 dc19 pm19 an19 cd19 ct19), sl19⟩) (c19 : PySem.W.codeIn K cd19 "land_cells" = true) (k19 : PySem.W.keepIn K (.ref f19) = true)
    (a20 : PySem.W.nsIn K mainGlobals "way_of" = some (some (.ref f20))) (l20 : K.lookup f20 = some ⟨oc20, od20, .func (PySem.W.fnOf "way_of" "way_of" (defArgs s_way_of) (defBody s_way_of) (defScope s_way_of) .none kV20 dc20 pm20 an20 cd20 ct20), sl20⟩) (c20 : PySem.W.codeIn K cd20 "way_of" = true) (k20 : PySem.W.keepIn K (.ref f20) = true)
    (a21 : PySem.W.nsIn K mainGlobals "size_for" = some (some (.ref f21))) (l21 : K.lookup f21 = some ⟨oc21, od21, .func (PySem.W.fnOf "size_for" "size_for" (defArgs s_size_for) (defBody s_size_for) (defScope s_size_for) .none kV21 dc21 pm21 an21 cd21 ct21), sl21⟩) (c21 : PySem.W.codeIn K cd21 "size_for" = true) (k21 : PySem.W.keepIn K (.ref f21) = true)
    (a22 : PySem.W.nsIn K mainGlobals "row_at" = some (some (.ref f22))) (l22 : K.lookup f22 = some ⟨oc22, od22, .func (PySem.W.fnOf "row_at" "row_at" (defArgs s_row_at) (defBody s_row_at) (defScope s_row_at) .none kV22 dc22 pm22 an22 cd22 ct22), sl22⟩) (c22 : PySem.W.codeIn K cd22 "row_at" = true) (k22 : PySem.W.keepIn K (.ref f22) = true)
    (a23 : PySem.W.nsIn K mainGlobals "is_broken_by" = some (some (.ref f23))) (l23 : K.lookup f23 = some ⟨oc23, od23, .func (PySem.W.fnOf "is_broken_by" "is_broken_by" (defArgs s_is_broken_by) (defBody s_is_broken_by) (defScope s_is_broken_by) .none kV23 dc23 pm23 an23 cd23 ct23), sl23⟩) (c23 : PySem.W.codeIn K cd23 "is_broken_by" = true) (k23 : PySem.W.keepIn K (.ref f23) = true)
    (a24 : PySem.W.nsIn K mainGlobals "_law_cells" = some (some (.ref f24))) (l24 : K.lookup f24 = some ⟨oc24, od24, .func (PySem.W.fnOf "_law_cells" "_law_cells" (defArgs s__law_cells) (defBody s__law_cells) (defScope s__law_cells) .none kV24 dc24 pm24 an24 cd24 ct24), sl24⟩) (c24 : PySem.W.codeIn K cd24 "_law_cells" = true) (k24 : PySem.W.keepIn K (.ref f24) = true)
    (a25 : PySem.W.nsIn K mainGlobals "_law_healing" = some (some (.ref f25))) (l25 : K.lookup f25 = some ⟨oc25, od25, .func (PySem.W.fnOf "_law_healing" "_law_healing" (defArgs s__law_healing) (defBody s__law_healing) (defScope s__law_healing) .none kV25 dc25 pm25 an25 cd25 ct25), sl25⟩) (c25 : PySem.W.codeIn K cd25 "_law_healing" = true) (k25 : PySem.W.keepIn K (.ref f25) = true)
    (a26 : PySem.W.nsIn K mainGlobals "_law_half" = some (some (.ref f26))) (l26 : K.lookup f26 = some ⟨oc26, od26, .func (PySem.W.fnOf "_law_half" "_law_half" (defArgs s__law_half) (defBody s__law_half) (defScope s__law_half) .none kV26 dc26 pm26 an26 cd26 ct26), sl26⟩) (c26 : PySem.W.codeIn K cd26 "_law_half" = true) (k26 : PySem.W.keepIn K (.ref f26) = true)
    (a27 : PySem.W.nsIn K mainGlobals "_law_put_off" = some (some (.ref f27))) (l27 : K.lookup f27 = some ⟨oc27, od27, .func (PySem.W.fnOf "_law_put_off" "_law_put_off" (defArgs s__law_put_off) (defBody s__law_put_off) (defScope s__law_put_off) .none kV27 dc27 pm27 an27 cd27 ct27), sl27⟩) (c27 : PySem.W.codeIn K cd27 "_law_put_off" = true) (k27 : PySem.W.keepIn K (.ref f27) = true)
    (a28 : PySem.W.nsIn K mainGlobals "less" = some (some (.ref f28))) (l28 : K.lookup f28 = some ⟨oc28, od28, .func (PySem.W.fnOf "less" "less" (defArgs s_less) (defBody s_less) (defScope s_less) .none kV28 dc28 pm28 an28 cd28 ct28), sl28⟩) (c28 : PySem.W.codeIn K cd28 "less" = true) (k28 : PySem.W.keepIn K (.ref f28) = true)
    (a29 : PySem.W.nsIn K mainGlobals "times" = some (some (.ref f29))) (l29 : K.lookup f29 = some ⟨oc29, od29, .func (PySem.W.fnOf "times" "times" (defArgs s_times) (defBody s_times) (defScope s_times) .none kV29 dc29 pm29 an29 cd29 ct29), sl29⟩) (c29 : PySem.W.codeIn K cd29 "times" = true) (k29 : PySem.W.keepIn K (.ref f29) = true)
    (a30 : PySem.W.nsIn K mainGlobals "ways_from" = some (some (.ref f30))) (l30 : K.lookup f30 = some ⟨oc30, od30, .func (PySem.W.fnOf "ways_from" "ways_from" (defArgs s_ways_from) (defBody s_ways_from) (defScope s_ways_from) .none kV30 dc30 pm30 an30 cd30 ct30), sl30⟩) (c30 : PySem.W.codeIn K cd30 "ways_from" = true) (k30 : PySem.W.keepIn K (.ref f30) = true)
    (a31 : PySem.W.nsIn K mainGlobals "beat" = some (some (.ref f31))) (l31 : K.lookup f31 = some ⟨oc31, od31, .func (PySem.W.fnOf "beat" "beat" (defArgs s_beat) (defBody s_beat) (defScope s_beat) .none kV31 dc31 pm31 an31 cd31 ct31), sl31⟩) (c31 : PySem.W.codeIn K cd31 "beat" = true) (k31 : PySem.W.keepIn K (.ref f31) = true)
    (a32 : PySem.W.nsIn K mainGlobals "_law_about" = some (some (.ref f32))) (l32 : K.lookup f32 = some ⟨oc32, od32, .func (PySem.W.fnOf "_law_about" "_law_about" (defArgs s__law_about) (defBody s__law_about) (defScope s__law_about) .none kV32 dc32 pm32 an32 cd32 ct32), sl32⟩) (c32 : PySem.W.codeIn K cd32 "_law_about" = true) (k32 : PySem.W.keepIn K (.ref f32) = true)
    (a33 : PySem.W.nsIn K mainGlobals "_law_boxed" = some (some (.ref f33))) (l33 : K.lookup f33 = some ⟨oc33, od33, .func (PySem.W.fnOf "_law_boxed" "_law_boxed" (defArgs s__law_boxed) (defBody s__law_boxed) (defScope s__law_boxed) .none kV33 dc33 pm33 an33 cd33 ct33), sl33⟩) (c33 : PySem.W.codeIn K cd33 "_law_boxed" = true) (k33 : PySem.W.keepIn K (.ref f33) = true)
    (a34 : PySem.W.nsIn K mainGlobals "land_of" = some (some (.ref f34))) (l34 : K.lookup f34 = some ⟨oc34, od34, .func (PySem.W.fnOf "land_of" "land_of" (defArgs s_land_of) (defBody s_land_of) (defScope s_land_of) .none kV34 dc34 pm34 an34 cd34 ct34), sl34⟩) (c34 : PySem.W.codeIn K cd34 "land_of" = true) (k34 : PySem.W.keepIn K (.ref f34) = true)
    (a35 : PySem.W.nsIn K mainGlobals "cell_at" = some (some (.ref f35))) (l35 : K.lookup f35 = some ⟨oc35, od35, .func (PySem.W.fnOf "cell_at" "cell_at" (defArgs s_cell_at) (defBody s_cell_at) (defScope s_cell_at) .none kV35 dc35 pm35 an35 cd35 ct35), sl35⟩) (c35 : PySem.W.codeIn K cd35 "cell_at" = true) (k35 : PySem.W.keepIn K (.ref f35) = true)
    (a36 : PySem.W.nsIn K mainGlobals "beats" = some (some (.ref f36))) (l36 : K.lookup f36 = some ⟨oc36, od36, .func (PySem.W.fnOf "beats" "beats" (defArgs s_beats) (defBody s_beats) (defScope s_beats) .none kV36 dc36 pm36 an36 cd36 ct36), sl36⟩) (c36 : PySem.W.codeIn K cd36 "beats" = true) (k36 : PySem.W.keepIn K (.ref f36) = true)
    (a37 : PySem.W.nsIn K mainGlobals "_law_told_right" = some (some (.ref f37))) (l37 : K.lookup f37 = some ⟨oc37, od37, .func (PySem.W.fnOf "_law_told_right" "_law_told_right" (defArgs s__law_told_right) (defBody s__law_told_right) (defScope s__law_told_right) .none kV37 dc37 pm37 an37 cd37 ct37), sl37⟩) (c37 : PySem.W.codeIn K cd37 "_law_told_right" = true) (k37 : PySem.W.keepIn K (.ref f37) = true)
    (a38 : PySem.W.nsIn K mainGlobals "_law_stands" = some (some (.ref f38))) (l38 : K.lookup f38 = some ⟨oc38, od38, .func (PySem.W.fnOf "_law_stands" "_law_stands" (defArgs s__law_stands) (defBody s__law_stands) (defScope s__law_stands) .none kV38 dc38 pm38 an38 cd38 ct38), sl38⟩) (c38 : PySem.W.codeIn K cd38 "_law_stands" = true) (k38 : PySem.W.keepIn K (.ref f38) = true)
    (a39 : PySem.W.nsIn K mainGlobals "law" = some (some (.ref f39))) (l39 : K.lookup f39 = some ⟨oc39, od39, .func (PySem.W.fnOf "law" "law" (defArgs s_law) (defBody s_law) (defScope s_law) .none kV39 dc39 pm39 an39 cd39 ct39), sl39⟩) (c39 : PySem.W.codeIn K cd39 "law" = true) (k39 : PySem.W.keepIn K (.ref f39) = true)
    (z0 : PySem.W.nsIn K mainGlobals "abs" = some none) (z1 : PySem.W.nsIn K mainGlobals "len" = some none) (z2 : PySem.W.nsIn K mainGlobals "range" = some none) (z3 : PySem.W.nsIn K mainGlobals "min" = some none) (z4 : PySem.W.nsIn K mainGlobals "max" = some none) (z5 : PySem.W.nsIn K mainGlobals "tuple" = some none) (z6 : PySem.W.nsIn K mainGlobals "sorted" = some none) (z7 : PySem.W.nsIn K mainGlobals "all" = some none) (z8 : PySem.W.nsIn K mainGlobals "any" = some none) (z9 : PySem.W.nsIn K mainGlobals "enumerate" = some none) (z10 : PySem.W.nsIn K mainGlobals "zip" = some none) (z11 : PySem.W.nsIn K mainGlobals "dict" = some none) (z12 : PySem.W.nsIn K mainGlobals "list" = some none) (z13 : PySem.W.nsIn K mainGlobals "reversed" = some none) (z14 : PySem.W.nsIn K mainGlobals "set" = some none) (z15 : PySem.W.nsIn K mainGlobals "int" = some none) (z16 : PySem.W.nsIn K mainGlobals "sum" = some none) :
    ∃ fd : FuncData, (∀ (s : Shared) (v : Value), BindsTo s fd ⟨[v], []⟩ [("_law_script", v)]) ∧ ∀ base : Heap, K.In base → base.Ns mainGlobals mg → FnOk l.prog w K mg base CX0 6 fa fd ["_law_script"] (sp_law K) := by
  have e := hfa.symm.trans (PySem.W.mg_of X G a39)
  cases e
  have Z : Blt mg := ⟨PySem.W.mg_none_of X G z0, PySem.W.mg_none_of X G z1, PySem.W.mg_none_of X G z2, PySem.W.mg_none_of X G z3, PySem.W.mg_none_of X G z4, PySem.W.mg_none_of X G z5, PySem.W.mg_none_of X G z6, PySem.W.mg_none_of X G z7, PySem.W.mg_none_of X G z8, PySem.W.mg_none_of X G z9, PySem.W.mg_none_of X G z10, PySem.W.mg_none_of X G z11, PySem.W.mg_none_of X G z12, PySem.W.mg_none_of X G z13, PySem.W.mg_none_of X G z14, PySem.W.mg_none_of X G z15, PySem.W.mg_none_of X G z16⟩
  have D_common : DefAt K mg "common" s_common := ⟨f0, _, fun_mk (st := s_common) l0 c0 k0, PySem.W.mg_of X G a0⟩
  have D_ceiling_of : DefAt K mg "ceiling_of" s_ceiling_of := ⟨f1, _, fun_mk (st := s_ceiling_of) l1 c1 k1, PySem.W.mg_of X G a1⟩
  have D_carried : DefAt K mg "carried" s_carried := ⟨f2, _, fun_mk (st := s_carried) l2 c2 k2, PySem.W.mg_of X G a2⟩
  have D_sides_round : DefAt K mg "sides_round" s_sides_round := ⟨f3, _, fun_mk (st := s_sides_round) l3 c3 k3, PySem.W.mg_of X G a3⟩
  have D_is_within : DefAt K mg "is_within" s_is_within := ⟨f4, _, fun_mk (st := s_is_within) l4 c4 k4, PySem.W.mg_of X G a4⟩
  have D_over_common : DefAt K mg "over_common" s_over_common := ⟨f5, _, fun_mk (st := s_over_common) l5 c5 k5, PySem.W.mg_of X G a5⟩
  have D_cells_of : DefAt K mg "cells_of" s_cells_of := ⟨f6, _, fun_mk (st := s_cells_of) l6 c6 k6, PySem.W.mg_of X G a6⟩
  have D_in_turn : DefAt K mg "in_turn" s_in_turn := ⟨f7, _, fun_mk (st := s_in_turn) l7 c7 k7, PySem.W.mg_of X G a7⟩
  have D_beyond : DefAt K mg "beyond" s_beyond := ⟨f8, _, fun_mk (st := s_beyond) l8 c8 k8, PySem.W.mg_of X G a8⟩
  have D_kept_of : DefAt K mg "kept_of" s_kept_of := ⟨f9, _, fun_mk (st := s_kept_of) l9 c9 k9, PySem.W.mg_of X G a9⟩
  have D__law_deal : DefAt K mg "_law_deal" s__law_deal := ⟨f10, _, fun_mk (st := s__law_deal) l10 c10 k10, PySem.W.mg_of X G a10⟩
  have D__law_draw : DefAt K mg "_law_draw" s__law_draw := ⟨f11, _, fun_mk (st := s__law_draw) l11 c11 k11, PySem.W.mg_of X G a11⟩
  have D__law_least : DefAt K mg "_law_least" s__law_least := ⟨f12, _, fun_mk (st := s__law_least) l12 c12 k12, PySem.W.mg_of X G a12⟩
  have D__law_fraction : DefAt K mg "_law_fraction" s__law_fraction := ⟨f13, _, fun_mk (st := s__law_fraction) l13 c13 k13, PySem.W.mg_of X G a13⟩
  have D__law_lowest : DefAt K mg "_law_lowest" s__law_lowest := ⟨f14, _, fun_mk (st := s__law_lowest) l14 c14 k14, PySem.W.mg_of X G a14⟩
  have D__law_in_land : DefAt K mg "_law_in_land" s__law_in_land := ⟨f15, _, fun_mk (st := s__law_in_land) l15 c15 k15, PySem.W.mg_of X G a15⟩
  have D__law_beat : DefAt K mg "_law_beat" s__law_beat := ⟨f16, _, fun_mk (st := s__law_beat) l16 c16 k16, PySem.W.mg_of X G a16⟩
  have D__law_turned : DefAt K mg "_law_turned" s__law_turned := ⟨f17, _, fun_mk (st := s__law_turned) l17 c17 k17, PySem.W.mg_of X G a17⟩
  have D_fraction : DefAt K mg "fraction" s_fraction := ⟨f18, _, fun_mk (st := s_fraction) l18 c18 k18, PySem.W.mg_of X G a18⟩
  have D_land_cells : DefAt K mg "land_cells" s_land_cells := ⟨f19, _, fun_mk (st := s_land_cells) l19 c19 k19, PySem.W.mg_of X G a19⟩
  have D_way_of : DefAt K mg "way_of" s_way_of := ⟨f20, _, fun_mk (st := s_way_of) l20 c20 k20, PySem.W.mg_of X G a20⟩
  have D_size_for : DefAt K mg "size_for" s_size_for := ⟨f21, _, fun_mk (st := s_size_for) l21 c21 k21, PySem.W.mg_of X G a21⟩
  have D_row_at : DefAt K mg "row_at" s_row_at := ⟨f22, _, fun_mk (st := s_row_at) l22 c22 k22, PySem.W.mg_of X G a22⟩
  have D_is_broken_by : DefAt K mg "is_broken_by" s_is_broken_by := ⟨f23, _, fun_mk (st := s_is_broken_by) l23 c23 k23, PySem.W.mg_of X G a23⟩
  have D__law_cells : DefAt K mg "_law_cells" s__law_cells := ⟨f24, _, fun_mk (st := s__law_cells) l24 c24 k24, PySem.W.mg_of X G a24⟩
  have D__law_healing : DefAt K mg "_law_healing" s__law_healing := ⟨f25, _, fun_mk (st := s__law_healing) l25 c25 k25, PySem.W.mg_of X G a25⟩
  have D__law_half : DefAt K mg "_law_half" s__law_half := ⟨f26, _, fun_mk (st := s__law_half) l26 c26 k26, PySem.W.mg_of X G a26⟩
  have D__law_put_off : DefAt K mg "_law_put_off" s__law_put_off := ⟨f27, _, fun_mk (st := s__law_put_off) l27 c27 k27, PySem.W.mg_of X G a27⟩
  have D_less : DefAt K mg "less" s_less := ⟨f28, _, fun_mk (st := s_less) l28 c28 k28, PySem.W.mg_of X G a28⟩
  have D_times : DefAt K mg "times" s_times := ⟨f29, _, fun_mk (st := s_times) l29 c29 k29, PySem.W.mg_of X G a29⟩
  have D_ways_from : DefAt K mg "ways_from" s_ways_from := ⟨f30, _, fun_mk (st := s_ways_from) l30 c30 k30, PySem.W.mg_of X G a30⟩
  have D_beat : DefAt K mg "beat" s_beat := ⟨f31, _, fun_mk (st := s_beat) l31 c31 k31, PySem.W.mg_of X G a31⟩
  have D__law_about : DefAt K mg "_law_about" s__law_about := ⟨f32, _, fun_mk (st := s__law_about) l32 c32 k32, PySem.W.mg_of X G a32⟩
  have D__law_boxed : DefAt K mg "_law_boxed" s__law_boxed := ⟨f33, _, fun_mk (st := s__law_boxed) l33 c33 k33, PySem.W.mg_of X G a33⟩
  have D_land_of : DefAt K mg "land_of" s_land_of := ⟨f34, _, fun_mk (st := s_land_of) l34 c34 k34, PySem.W.mg_of X G a34⟩
  have D_cell_at : DefAt K mg "cell_at" s_cell_at := ⟨f35, _, fun_mk (st := s_cell_at) l35 c35 k35, PySem.W.mg_of X G a35⟩
  have D_beats : DefAt K mg "beats" s_beats := ⟨f36, _, fun_mk (st := s_beats) l36 c36 k36, PySem.W.mg_of X G a36⟩
  have D__law_told_right : DefAt K mg "_law_told_right" s__law_told_right := ⟨f37, _, fun_mk (st := s__law_told_right) l37 c37 k37, PySem.W.mg_of X G a37⟩
  have D__law_stands : DefAt K mg "_law_stands" s__law_stands := ⟨f38, _, fun_mk (st := s__law_stands) l38 c38 k38, PySem.W.mg_of X G a38⟩
  refine ⟨PySem.W.fnOf "law" "law" (defArgs s_law) (defBody s_law) (defScope s_law) .none kV39 dc39 pm39 an39 cd39 ct39, fun s v => .of_eq rfl, fun base _ _ => ?_⟩
  have C_common := cal_common (P := l.prog) (w := w) (base := base) Z D_common
  have C_ceiling_of := cal_ceiling_of (P := l.prog) (w := w) (base := base) Z D_ceiling_of
  have C_carried := cal_carried (P := l.prog) (w := w) (base := base) Z D_carried
  have C_sides_round := cal_sides_round (P := l.prog) (w := w) (base := base) Z D_sides_round
  have C_is_within := cal_is_within (P := l.prog) (w := w) (base := base) Z D_is_within
  have C_over_common := cal_over_common (P := l.prog) (w := w) (base := base) Z D_over_common
  have C_cells_of := cal_cells_of (P := l.prog) (w := w) (base := base) Z D_cells_of
  have C_in_turn := cal_in_turn (P := l.prog) (w := w) (base := base) Z D_in_turn
  have C_beyond := cal_beyond (P := l.prog) (w := w) (base := base) Z D_beyond
  have C_kept_of := cal_kept_of (P := l.prog) (w := w) (base := base) Z D_kept_of
  have C__law_deal := cal__law_deal (P := l.prog) (w := w) (base := base) Z D__law_deal
  have C__law_draw := cal__law_draw (P := l.prog) (w := w) (base := base) Z D__law_draw
  have C__law_least := cal__law_least (P := l.prog) (w := w) (base := base) Z D__law_least
  have C__law_fraction := cal__law_fraction (P := l.prog) (w := w) (base := base) Z D__law_fraction
  have C__law_lowest := cal__law_lowest (P := l.prog) (w := w) (base := base) Z D__law_lowest
  have C__law_in_land := cal__law_in_land (P := l.prog) (w := w) (base := base) Z D__law_in_land
  have C__law_beat := cal__law_beat (P := l.prog) (w := w) (base := base) Z D__law_beat
  have C__law_turned := cal__law_turned (P := l.prog) (w := w) (base := base) Z D__law_turned
  have C_fraction := cal_fraction (P := l.prog) (w := w) (base := base) Z D_fraction C_common
  have C_land_cells := cal_land_cells (P := l.prog) (w := w) (base := base) Z D_land_cells C_sides_round C_is_within
  have C_way_of := cal_way_of (P := l.prog) (w := w) (base := base) Z D_way_of C_common
  have C_size_for := cal_size_for (P := l.prog) (w := w) (base := base) Z D_size_for C_beyond
  have C_row_at := cal_row_at (P := l.prog) (w := w) (base := base) Z D_row_at C_beyond
  have C_is_broken_by := cal_is_broken_by (P := l.prog) (w := w) (base := base) Z D_is_broken_by C_carried
  have C__law_cells := cal__law_cells (P := l.prog) (w := w) (base := base) Z D__law_cells C__law_draw
  have C__law_healing := cal__law_healing (P := l.prog) (w := w) (base := base) Z D__law_healing C__law_least
  have C__law_half := cal__law_half (P := l.prog) (w := w) (base := base) Z D__law_half C__law_turned
  have C__law_put_off := cal__law_put_off (P := l.prog) (w := w) (base := base) Z D__law_put_off C__law_draw
  have C_less := cal_less (P := l.prog) (w := w) (base := base) Z D_less C_fraction
  have C_times := cal_times (P := l.prog) (w := w) (base := base) Z D_times C_fraction
  have C_ways_from := cal_ways_from (P := l.prog) (w := w) (base := base) Z D_ways_from C_way_of C_in_turn
  have C_beat := cal_beat (P := l.prog) (w := w) (base := base) Z D_beat C_kept_of C_carried C_is_broken_by
  have C__law_about := cal__law_about (P := l.prog) (w := w) (base := base) Z D__law_about C__law_draw C__law_cells C__law_least C__law_healing C__law_lowest
  have C__law_boxed := cal__law_boxed (P := l.prog) (w := w) (base := base) Z D__law_boxed C__law_draw C__law_cells C__law_least C__law_half
  have C_land_of := cal_land_of (P := l.prog) (w := w) (base := base) Z D_land_of C_over_common C_cells_of C_ways_from C_size_for C_row_at
  have C_cell_at := cal_cell_at (P := l.prog) (w := w) (base := base) Z D_cell_at C_times C_less C_ceiling_of
  have C_beats := cal_beats (P := l.prog) (w := w) (base := base) Z D_beats C_beat
  have C__law_told_right := cal__law_told_right (P := l.prog) (w := w) (base := base) Z D__law_told_right C_cell_at C__law_in_land
  have C__law_stands := cal__law_stands (P := l.prog) (w := w) (base := base) Z D__law_stands C__law_in_land C_cell_at
  exact ok_law Z (fun_mk (st := s_law) l39 c39 k39) C__law_deal C__law_about C__law_fraction C_land_of C__law_put_off C__law_draw C__law_boxed C__law_told_right C_land_cells C__law_beat C__law_stands C_cell_at C_beats
end K84
open PySem PySem.W PyProof.Rows in
set_option maxRecDepth 100000 in
set_option maxHeartbeats 0 in
theorem PySem.Challenge.cw_healfloor_k84_whole_never_whole_again_holds : PySem.Challenge.rw_healfloor_k84_whole_never_whole_again.Holds := by
  w_on; o_law; k_head; (case hw => w_witness2)
  k_fill
  refine L2.walk_of (l := PySem.Challenge.rw_healfloor_k84_whole_never_whole_again) (n := 63) (k := 6) (x := "_law_script") (CX := fun _ => L2.CX0) (sp := fun w => K84.sp_law _) rfl (by decide) rfl ⟨rfl, by decide, by decide⟩ (fun w h Y => PySem.W.kIn_of Y) ?F (fun _ _ a ns _ _ hS => ⟨a, ns, rfl, hS, fun _ => rfl⟩) (fun _ _ _ _ _ h => h)
  case F =>
    intro w mg fa h KX G hmg
    refine' K84.all_mk KX G hmg ?a0 ?l0 ?c0 ?k0 ?a1 ?l1 ?c1 ?k1 ?a2 ?l2 ?c2 ?k2 ?a3 ?l3 ?c3 ?k3 ?a4 ?l4 ?c4 ?k4 ?a5 ?l5 ?c5 ?k5 ?a6 ?l6 ?c6 ?k6 ?a7 ?l7 ?c7 ?k7 ?a8 ?l8 ?c8 ?k8 ?a9 ?l9 ?c9 ?k9 ?a10 ?l10 ?c10 ?k10 ?a11 ?l11 ?c11 ?k11 ?a12 ?l12 ?c12 ?k12 ?a13 ?l13 ?c13 ?k13 ?a14 ?l14 ?c14 ?k14 ?a15 ?l15 ?c15 ?k15 ?a16 ?l16 ?c16 ?k16 ?a17 ?l17 ?c17 ?k17 ?a18 ?l18 ?c18 ?k18 ?a19 ?l19 ?c19 ?k19 ?a20 ?l20 ?c20 ?k20 ?a21 ?l21 ?c21 ?k21 ?a22 ?l22 ?c22 ?k22 ?a23 ?l23 ?c23 ?k23 ?a24 ?l24 ?c24 ?k24 ?a25 ?l25 ?c25 ?k25 ?a26 ?l26 ?c26 ?k26 ?a27 ?l27 ?c27 ?k27 ?a28 ?l28 ?c28 ?k28 ?a29 ?l29 ?c29 ?k29 ?a30 ?l30 ?c30 ?k30 ?a31 ?l31 ?c31 ?k31 ?a32 ?l32 ?c32 ?k32 ?a33 ?l33 ?c33 ?k33 ?a34 ?l34 ?c34 ?k34 ?a35 ?l35 ?c35 ?k35 ?a36 ?l36 ?c36 ?k36 ?a37 ?l37 ?c37 ?k37 ?a38 ?l38 ?c38 ?k38 ?a39 ?l39 ?c39 ?k39 ?z0 ?z1 ?z2 ?z3 ?z4 ?z5 ?z6 ?z7 ?z8 ?z9 ?z10 ?z11 ?z12 ?z13 ?z14 ?z15 ?z16
    (case a0 => k_is)
    (case l0 => k_is)
    (case c0 => k_is)
    (case k0 => k_is)
    (case a1 => k_is)
    (case l1 => k_is)
    (case c1 => k_is)
    (case k1 => k_is)
    (case a2 => k_is)
    (case l2 => k_is)
    (case c2 => k_is)
    (case k2 => k_is)
    (case a3 => k_is)
    (case l3 => k_is)
    (case c3 => k_is)
    (case k3 => k_is)
    (case a4 => k_is)
    (case l4 => k_is)
    (case c4 => k_is)
    (case k4 => k_is)
    (case a5 => k_is)
    (case l5 => k_is)
    (case c5 => k_is)
    (case k5 => k_is)
    (case a6 => k_is)
    (case l6 => k_is)
    (case c6 => k_is)
    (case k6 => k_is)
    (case a7 => k_is)
    (case l7 => k_is)
    (case c7 => k_is)
    (case k7 => k_is)
    (case a8 => k_is)
    (case l8 => k_is)
    (case c8 => k_is)
    (case k8 => k_is)
    (case a9 => k_is)
    (case l9 => k_is)
    (case c9 => k_is)
    (case k9 => k_is)
    (case a10 => k_is)
    (case l10 => k_is)
    (case c10 => k_is)
    (case k10 => k_is)
    (case a11 => k_is)
    (case l11 => k_is)
    (case c11 => k_is)
    (case k11 => k_is)
    (case a12 => k_is)
    (case l12 => k_is)
    (case c12 => k_is)
    (case k12 => k_is)
    (case a13 => k_is)
    (case l13 => k_is)
    (case c13 => k_is)
    (case k13 => k_is)
    (case a14 => k_is)
    (case l14 => k_is)
    (case c14 => k_is)
    (case k14 => k_is)
    (case a15 => k_is)
    (case l15 => k_is)
    (case c15 => k_is)
    (case k15 => k_is)
    (case a16 => k_is)
    (case l16 => k_is)
    (case c16 => k_is)
    (case k16 => k_is)
    (case a17 => k_is)
    (case l17 => k_is)
    (case c17 => k_is)
    (case k17 => k_is)
    (case a18 => k_is)
    (case l18 => k_is)
    (case c18 => k_is)
    (case k18 => k_is)
    (case a19 => k_is)
    (case l19 => k_is)
    (case c19 => k_is)
    (case k19 => k_is)
    (case a20 => k_is)
    (case l20 => k_is)
    (case c20 => k_is)
    (case k20 => k_is)
    (case a21 => k_is)
    (case l21 => k_is)
    (case c21 => k_is)
    (case k21 => k_is)
    (case a22 => k_is)
    (case l22 => k_is)
    (case c22 => k_is)
    (case k22 => k_is)
    (case a23 => k_is)
    (case l23 => k_is)
    (case c23 => k_is)
    (case k23 => k_is)
    (case a24 => k_is)
    (case l24 => k_is)
    (case c24 => k_is)
    (case k24 => k_is)
    (case a25 => k_is)
    (case l25 => k_is)
    (case c25 => k_is)
    (case k25 => k_is)
    (case a26 => k_is)
    (case l26 => k_is)
    (case c26 => k_is)
    (case k26 => k_is)
    (case a27 => k_is)
    (case l27 => k_is)
    (case c27 => k_is)
    (case k27 => k_is)
    (case a28 => k_is)
    (case l28 => k_is)
    (case c28 => k_is)
    (case k28 => k_is)
    (case a29 => k_is)
    (case l29 => k_is)
    (case c29 => k_is)
    (case k29 => k_is)
    (case a30 => k_is)
    (case l30 => k_is)
    (case c30 => k_is)
    (case k30 => k_is)
    (case a31 => k_is)
    (case l31 => k_is)
    (case c31 => k_is)
    (case k31 => k_is)
    (case a32 => k_is)
    (case l32 => k_is)
    (case c32 => k_is)
    (case k32 => k_is)
    (case a33 => k_is)
    (case l33 => k_is)
    (case c33 => k_is)
    (case k33 => k_is)
    (case a34 => k_is)
    (case l34 => k_is)
    (case c34 => k_is)
    (case k34 => k_is)
    (case a35 => k_is)
    (case l35 => k_is)
    (case c35 => k_is)
    (case k35 => k_is)
    (case a36 => k_is)
    (case l36 => k_is)
    (case c36 => k_is)
    (case k36 => k_is)
    (case a37 => k_is)
    (case l37 => k_is)
    (case c37 => k_is)
    (case k37 => k_is)
    (case a38 => k_is)
    (case l38 => k_is)
    (case c38 => k_is)
    (case k38 => k_is)
    (case a39 => k_is)
    (case l39 => k_is)
    (case c39 => k_is)
    (case k39 => k_is)
    (case z0 => k_is)
    (case z1 => k_is)
    (case z2 => k_is)
    (case z3 => k_is)
    (case z4 => k_is)
    (case z5 => k_is)
    (case z6 => k_is)
    (case z7 => k_is)
    (case z8 => k_is)
    (case z9 => k_is)
    (case z10 => k_is)
    (case z11 => k_is)
    (case z12 => k_is)
    (case z13 => k_is)
    (case z14 => k_is)
    (case z15 => k_is)
    (case z16 => k_is)

import PyProof.Rows.All
import Wide.All
import OpenK.AllK
import Wide.FinOn
import HandS.List
import HandS.TupAny
import HandS.Style
import KE.KRevSl
import HandS.ForMost
import HandS.Wide
import HandS.Flow
import HandS.TupMul
import HandS.IsInst
import HandS.SetFor
import HandS.DictComp
import KE.GoesNew
import HandS.TryOnly
import HandS.SetKeys
import HandS.Conv
import HandS.Dict
import HandS.Lambda
import HandS.Small
import HandS.Deep
import HandS.TupLen
import KE.SortData
import KE.DataFind
import HandS.More
import HandS.Strs
import HandS.Zip
import HandS.TupSets
import KE.SortKeyHeap
import HandS.Words
import HandS.WordsExc
import HandS.Defaults
import HandS.Head0
import HandS.Head1
import HandS.Head2
import HandS.HeadEnd
import HandS.EndBits
import HandS.HeadHook1
import HandS.HeadHook2
import HandS.Codes
import HandS.EndTab
import PySem.Challenge.RW_loadorloose_k40_fewest_offers
set_option Elab.async false
set_option linter.all false
set_option maxRecDepth 100000
set_option maxHeartbeats 4000000
set_option autoImplicit false
/-! t[::-1] of a tuple. -/
namespace L2
open PySem PySem.Spec PyProof.Rows HT
section
variable {prog : Program} {w : World} {A : Around} {E : Value → Shared → Prop} {s : Shared}
theorem sliceApplied_rev {sl : Addr} {vs : Value} {n : Nat} {Q : Int × Int × Nat → Shared → Prop} (hs : s.heap.IsSliceOf sl .none .none vs) (ps : IsPart vs (some (-1)))
    (h : Q ((n : Int) - 1, -1, n) s) : wpAny (model prog w) A (Builtin.Slice.sliceApplied (.ref sl) (pure (n : Int))) Q E s := by
  obtain ⟨os, hos, hcs, hds⟩ := id hs
  unfold Builtin.Slice.sliceApplied Builtin.Slice.sliceFields
  refine wpAny_bind (wpAny_bind (wpAny_field hos hds (x := .none) rfl (wpAny_bind (wpAny_field hos hds (x := .none) rfl (wpAny_bind (wpAny_field hos hds (x := vs) rfl (wpAny_pure ?_)))))))
  refine wpAny_bind (slicePart_ ps ?_)
  show wpAny _ _ (if ((-1 : Int) == 0) = true then _ else _) _ _ s
  rw [if_neg (by decide)]
  refine wpAny_bind (slicePart_ .none (wpAny_bind (slicePart_ .none (wpAny_bind (wpAny_pure ?_)))))
  show wpAny _ _ (match Builtin.Slice.sliceAdjust none none (-1) (n : Int) with | (lo, hi) => pure (lo, (-1 : Int), Builtin.Slice.slicePlaces lo hi (-1))) _ _ s
  have e1 : Builtin.Slice.sliceAdjust none none (-1) (n : Int) = ((n : Int) - 1, -1) := rfl
  rw [e1]
  have e2 : Builtin.Slice.slicePlaces ((n : Int) - 1) (-1) (-1) = n := by
    unfold Builtin.Slice.slicePlaces
    have h1 : ¬ ((-1 : Int) > 0) := by omega
    simp only [h1, if_false, Int.neg_neg, Int.ediv_one]
    split <;> omega
  show wpAny _ _ (pure ((n : Int) - 1, (-1 : Int), Builtin.Slice.slicePlaces ((n : Int) - 1) (-1) (-1))) _ _ s
  rw [e2]
  exact wpAny_pure h
theorem fm_congr {α β : Type} {f g : α → Option β} : ∀ l : List α, (∀ a ∈ l, f a = g a) → l.filterMap f = l.filterMap g
  | [], _ => rfl
  | x :: l, h => by rw [List.filterMap_cons, List.filterMap_cons, h x List.mem_cons_self, fm_congr l fun a ha => h a (List.mem_cons_of_mem _ ha)]
theorem pick_rev (xs : Array Value) : ((List.range xs.size).filterMap fun (m : Nat) => xs[((xs.size : Int) - 1 + (m : Int) * (-1)).toNat]?).toArray = xs.toList.reverse.toArray := by
  congr 1
  have e : ∀ m ∈ List.range xs.size, xs[((xs.size : Int) - 1 + (m : Int) * (-1)).toNat]? = xs[xs.size - 1 - m]? := fun m hm => by
    have := List.mem_range.mp hm
    congr 1
    omega
  have e3 : (List.range xs.size).filterMap (fun (m : Nat) => xs[((xs.size : Int) - 1 + (m : Int) * (-1)).toNat]?) = (List.range xs.size).filterMap fun m => xs[xs.size - 1 - m]? := fm_congr _ e
  rw [e3]
  have := PySem.W.krv_all xs
  rw [← this, ← List.filterMap_reverse, ← PySem.W.krv_range, List.filterMap_map]
  rfl
theorem getItem_tuple_rev {t sl : Addr} {items : Array Value} {vs : Value} {Q : Value → Shared → Prop} (ht : IsTup s.heap t items) (hs : s.heap.IsSliceOf sl .none .none vs) (ps : IsPart vs (some (-1)))
    (h : Q (.ref s.heap.objs.size) { s with heap := s.heap.push { cls := .type "tuple", data := .seq items.toList.reverse.toArray } })
    (hsz : items.size ≤ sizeLine) : wpAny (model prog w) A (getItem (.ref t) (.ref sl)) Q E s := by
  have htake : sizeOk (.seq items.toList.reverse.toArray) := by
    show items.toList.reverse.toArray.size ≤ sizeLine
    rw [List.size_toArray, List.length_reverse, Array.length_toList]
    exact hsz
  obtain ⟨os, hos, hcs, hds⟩ := id hs
  have hTs : s.TypeIs (.ref sl) "slice" := ⟨os, hos, hcs⟩
  unfold getItem
  try with_reducible refine wpAny_holding ?_
  first | refine wpAny_bind (wpAny_pure ?_) | skip
  refine wpAny_bind (wpAny_sequenceKey ht.typeIs (by decide) ?_)
  refine wpAny_bind (wpAny_callSpecial?_slot (name := Str.ofString "__getitem__") ht.typeIs PyProof.Rows.slot_tuple_getitem
    (wpAny_call_entry PyProof.Rows.slot_tuple_getitem ht.typeIs entry_tuple_getitem ?_ (args_tuple_getitem _ _)))
  show wpAny _ _ (Builtin.Tuple.tupleItemsOf (.ref t) >>= _) _ _ s
  refine wpAny_bind (tupleItemsOf_ ht ?_)
  refine wpAny_bind (wpAny_typeOf hTs ?_)
  rw [if_pos (by decide)]
  refine wpAny_bind (sliceApplied_rev hs ps ?_)
  have hno : ¬ ((((items.size : Int) - 1) == 0 && (-1 : Int) == 1 && items.size == items.size) = true) := by
    intro q
    rw [Bool.and_eq_true, Bool.and_eq_true] at q
    exact absurd q.1.2 (by decide)
  show wpAny _ _ (if (((items.size : Int) - 1) == 0 && (-1 : Int) == 1 && items.size == items.size) = true then _ else _) _ _ s
  rw [if_neg hno, pick_rev]
  first
    | exact wpAny_bind (m := Builtin.Tuple.tupleExact _) (wpAny_newObj_type (wpAny_pure ⟨_, rfl, wpAny_pure h⟩) htake)
    | exact wpAny_bind (m := Builtin.Tuple.tupleExact _) (wpAny_newObj_type (wpAny_bind (wpAny_pure (wpAny_pure ⟨_, rfl, wpAny_pure h⟩))) htake)
    | exact wpAny_bind (wpAny_bind (m := Builtin.Tuple.tupleExact _) (wpAny_newObj_type (wpAny_pure (wpAny_pure ⟨_, rfl, wpAny_pure h⟩)) htake))
    | exact wpAny_bind (wpAny_bind (m := Builtin.Tuple.tupleExact _) (wpAny_newObj_type (wpAny_pure ⟨_, rfl, wpAny_pure h⟩) htake))
end
section
variable {X : Cx}
/-- s[::-1], s a list or a tuple -/
def tRevA (K : PySem.W.Frag) (te : TE) : TE := fun σ H Q => te σ H fun x H1 => ∃ a xs, x = .ref a ∧
  ((SqL K H1 a xs ∧ ∀ p, H1 p = none → Q (.ref p) (upd H1 p (.lst xs.reverse))) ∨ (SqT K H1 a xs ∧ ∀ p, H1 p = none → Q (.ref p) (upd H1 p (.tup xs.reverse))))
theorem pe_revA {e : Expr} {te : TE} {k : Nat} {p1 p2 p3 pos : Pos} (he : PE X e te) : PE X (.Subscript e (.Slice none none (some (.UnaryOp .USub (.Constant (.int 1) k p1) p2)) p3) pos) (tRevA X.K te) := by
  refine ⟨fun pins s σ H Q I h => ?_⟩
  refine Subscript_ (thn (he.run pins s σ H _ I h) fun v s1 ⟨x, H1, I1, r1, q1⟩ => ?_)
  obtain ⟨a, xs, ex, q⟩ := q1
  subst ex
  cases r1
  have hst : PO X (some (.UnaryOp .USub (.Constant (.int 1) k p1) p2)) (tPart (tUn (rU fun i => .int (-i)) (tC (.int 1)))) := po_some (pe_un un_neg pe_int)
  refine wpAny_Slice (thn (po_none.run pins s1 σ H1 (fun o H2 => o = none ∧ H2 = H1) I1 ⟨rfl, rfl⟩) fun vl s2 ⟨l, H2, I2, pl, el, e2⟩ => ?_)
  subst el e2
  refine thn (po_none.run pins s2 σ H2 (fun o H3 => o = none ∧ H3 = H2) I2 ⟨rfl, rfl⟩) fun vu s3 ⟨u, H3, I3, pu, eu, e3⟩ => ?_
  subst eu e3
  refine thn (hst.run pins s3 σ H3 (fun o H4 => o = some (-1) ∧ H4 = H3) I3 ⟨1, rfl, -1, rfl, rfl, rfl⟩) fun vs s4 ⟨o, H4, I4, ps, eo, e4⟩ => ?_
  subst eo e4
  have I5 : Inv X pins σ H4 { s4 with heap := s4.heap.push { cls := .type "slice", data := .fields #[vl, vu, vs] } } := I4.kept (t' := s4.toks) fun b ob q => Heap.get?_push_of_some _ q
  show wpAny (model X.prog X.w) X.A (subscriptTail e (.Slice none none (some (.UnaryOp .USub (.Constant (.int 1) k p1) p2)) p3) (.ref a) (.ref s4.heap.objs.size)) (EP X pins σ Q) X.xe { s4 with heap := s4.heap.push { cls := .type "slice", data := .fields #[vl, vu, vs] } }
  rcases q with ⟨hx, q⟩ | ⟨hx, q⟩
  · obtain ⟨its, r, ht, hz⟩ := I5.list hx
    have hlen := r.length
    refine tail_any (ops := [.ref a, .ref s4.heap.objs.size]) ht.isList.typeIs (PySem.slot_list_getitem.lookup) ?_ (by with_unfolding_all rfl)
    refine wpAny_getItem_list_slice ht.isList (Heap.IsSliceOf.new _ vl vu vs) pl pu ps (by decide) ?_ (by rw [List.size_toArray]; omega)
    rw [PySem.W.krv_pick]
    refine ⟨.ref _, _, I5.laid (t' := s4.toks) (o := .lst xs.reverse) (fun b ob q => Heap.get?_push_of_some _ q) (Nat.le_refl _) ?_, rfl, q _ (I5.hok.fresh (Nat.le_refl _))⟩
    exact ⟨by rw [List.length_reverse]; exact hz, _, 0, r.reverse, Heap.get?_push_size _ rfl⟩
  · cases pl
    cases pu
    obtain ⟨its, r, ht, hz⟩ := I5.tuple hx
    have hlen := r.length
    refine tail_any (ops := [.ref a, .ref s4.heap.objs.size]) ht.typeIs PyProof.Rows.slot_tuple_getitem.lookup ?_ (by with_unfolding_all rfl)
    refine getItem_tuple_rev ht (Heap.IsSliceOf.new _ .none .none vs) ps ?_ (by rw [List.size_toArray]; omega)
    refine ⟨.ref _, _, I5.laid (t' := s4.toks) (o := .tup xs.reverse) (fun b ob q => Heap.get?_push_of_some _ q) (Nat.le_refl _) ?_, rfl, q _ (I5.hok.fresh (Nat.le_refl _))⟩
    exact ⟨by rw [List.length_reverse]; exact hz, _, r.reverse, IsTup.new _ _⟩
end
end L2

/-! Mini: values as trees, numbered memory, and how they lie in the abstract heap. -/
namespace L2
namespace Mi
open PySem PySem.Spec PyProof.Rows

inductive T where
  | non | bl (b : Bool) | int (i : Int) | str (x : Str)
  | tup (ts : List T) | fl (ts : List T) | fd (tk : Bool) (ks ts : List T) | sc (ns : List Int) | obj (i : Nat)

inductive O where
  | lst (ts : List T) | dic (tk : Bool) (ks ts : List T) | ins (c : Str) (fs : List (Str × T))
  /-- where the code objects of the lambda of this qualified name are kept -/
  | tab (q : Str)

abbrev Mem := List O
abbrev En := List (Option T)

def keyT : Key → T
  | .inl i => .int i
  | .inr x => .str x
def keyTT (l : List Key) : T := .tup (l.map keyT)

/-- the written part; are there tuples in it that are used; where the classes stand -/
structure KC where
  K : PySem.W.Frag
  kt : Bool
  ca : Str → Addr
  tb : Str → Option Addr
def KTp (K : PySem.W.Frag) (a : Addr) (xs : List V) : Prop :=
  ∃ (o : Obj) (its : Array Value) (n : Nat), K.lookup a = some o ∧ o.cls = .type "tuple" ∧ o.data = .seq its n ∧ its.size ≤ sizeLine ∧ Vals xs its.toList
def KLp (K : PySem.W.Frag) (a : Addr) (xs : List V) : Prop :=
  ∃ (o : Obj) (its : Array Value) (n : Nat), K.lookup a = some o ∧ o.cls = .type "list" ∧ o.dict = none ∧ o.data = .seq its n ∧ its.size ≤ sizeLine ∧ Vals xs its.toList
/-- not ours, not reserved -/
def Fre (φ ψ : List Addr) (a : Addr) : Prop := a ∉ φ ∧ a ∉ ψ
def FzT (K : KC) (φ ψ : List Addr) (H : Hp) (a : Addr) (vs : List V) : Prop := (Fre φ ψ a ∧ H a = some (.tup vs)) ∨ (K.kt = true ∧ KTp K.K a vs)
def FzL (K : KC) (φ ψ : List Addr) (H : Hp) (a : Addr) (vs : List V) : Prop := (Fre φ ψ a ∧ Rd H a (.lst vs)) ∨ KLp K.K a vs
theorem FzT.sq {K : KC} {φ ψ : List Addr} {H : Hp} {a : Addr} {vs : List V} (h : FzT K φ ψ H a vs) : SqT K.K H a vs := h.elim (fun h => .inl (.inl h.2)) fun h => .inr h.2
theorem FzL.sq {K : KC} {φ ψ : List Addr} {H : Hp} {a : Addr} {vs : List V} (h : FzL K φ ψ H a vs) : SqL K.K H a vs := h.elim (fun h => .inl h.2) .inr

mutual
inductive RT (K : KC) (φ ψ : List Addr) (H : Hp) : T → V → Prop
  | non : RT K φ ψ H .non .non
  | bl (b : Bool) : RT K φ ψ H (.bl b) (.bl b)
  | int (i : Int) : RT K φ ψ H (.int i) (.int i)
  | str (x : Str) : RT K φ ψ H (.str x) (.str x)
  | tup {a : Addr} {vs : List V} {ts : List T} : FzT K φ ψ H a vs → RTs K φ ψ H ts vs → RT K φ ψ H (.tup ts) (.ref a)
  | fl {a : Addr} {vs : List V} {ts : List T} : Fre φ ψ a → H a = some (.lst vs) → RTs K φ ψ H ts vs → RT K φ ψ H (.fl ts) (.ref a)
  | fdK {a : Addr} {kvs : List (Key × V)} {ks ts : List T} : Fre φ ψ a → H a = some (.dK kvs) → ks = kvs.map (fun p => keyT p.1) → RTs K φ ψ H ts (kvs.map (·.2)) → RT K φ ψ H (.fd false ks ts) (.ref a)
  | fdT {a : Addr} {kvs : List (List Key × V)} {ks ts : List T} : K.kt = false → Fre φ ψ a → H a = some (.dT kvs) → ks = kvs.map (fun p => keyTT p.1) → RTs K φ ψ H ts (kvs.map (·.2)) → RT K φ ψ H (.fd true ks ts) (.ref a)
  | sc {a : Addr} {ns : List Int} : FzL K φ ψ H a (ns.map V.int) → RT K φ ψ H (.sc ns) (.ref a)
  | obj {a : Addr} {i : Nat} : φ[i]? = some a → RT K φ ψ H (.obj i) (.ref a)
inductive RTs (K : KC) (φ ψ : List Addr) (H : Hp) : List T → List V → Prop
  | nil : RTs K φ ψ H [] []
  | cons {t : T} {v : V} {ts : List T} {vs : List V} : RT K φ ψ H t v → RTs K φ ψ H ts vs → RTs K φ ψ H (t :: ts) (v :: vs)
end

/-- what stood and is not ours stands; what is ours grows -/
structure Ext (φ : List Addr) (H : Hp) (φ' : List Addr) (H' : Hp) : Prop where
  pre : φ <+: φ'
  keep : ∀ a o, a ∉ φ → H a = some o → a ∉ φ' ∧ H' a = some o

theorem Ext.refl {φ : List Addr} {H : Hp} : Ext φ H φ H := ⟨List.prefix_rfl, fun _ _ h e => ⟨h, e⟩⟩
theorem Ext.trans {φ φ1 φ2 : List Addr} {H H1 H2 : Hp} (x : Ext φ H φ1 H1) (y : Ext φ1 H1 φ2 H2) : Ext φ H φ2 H2 :=
  ⟨x.pre.trans y.pre, fun a o h e => let ⟨h1, e1⟩ := x.keep a o h e; y.keep a o h1 e1⟩
theorem Ext.get {φ φ' : List Addr} {H H' : Hp} (x : Ext φ H φ' H') {i : Nat} {a : Addr} (e : φ[i]? = some a) : φ'[i]? = some a := by
  obtain ⟨r, rfl⟩ := x.pre
  obtain ⟨h, _⟩ := List.getElem?_eq_some_iff.mp e
  rw [List.getElem?_append_left h]
  exact e
/-- what is not ours and not reserved is carried over -/
structure Tr (φ ψ : List Addr) (H : Hp) (φ' ψ' : List Addr) (H' : Hp) : Prop where
  get : ∀ (i : Nat) (a : Addr), φ[i]? = some a → φ'[i]? = some a
  keep : ∀ a o, Fre φ ψ a → H a = some o → Fre φ' ψ' a ∧ H' a = some o
theorem Ext.tr {φ φ' : List Addr} {H H' : Hp} (x : Ext φ H φ' H') (ψ : List Addr) : Tr φ ψ H φ' ψ H' :=
  ⟨fun _ _ e => x.get e, fun a o h e => let ⟨h1, e1⟩ := x.keep a o h.1 e; ⟨⟨h1, h.2⟩, e1⟩⟩
/-- a new reserved address -/
theorem Tr.resv {φ ψ : List Addr} {H : Hp} {D : Addr} {o : HO} (hD : H D = none) : Tr φ ψ H φ (D :: ψ) (upd H D o) :=
  ⟨fun _ _ e => e, fun a u h e => by
    have ne : a ≠ D := ne_of_none e hD
    exact ⟨⟨h.1, fun hm => (List.mem_cons.mp hm).elim ne h.2⟩, by rw [upd_ne ne]; exact e⟩⟩
theorem Tr.unres {φ ψ : List Addr} {H : Hp} {D : Addr} : Tr φ (D :: ψ) H φ ψ H :=
  ⟨fun _ _ e => e, fun _ _ h e => ⟨⟨h.1, fun hm => h.2 (List.mem_cons_of_mem _ hm)⟩, e⟩⟩
/-- what stands at a reserved address is changed -/
theorem Tr.resw {φ ψ : List Addr} {H : Hp} {D : Addr} {o : HO} : Tr φ (D :: ψ) H φ (D :: ψ) (upd H D o) :=
  ⟨fun _ _ e => e, fun a u h e => ⟨h, by rw [upd_ne (fun z => h.2 (by rw [z]; exact List.mem_cons_self))]; exact e⟩⟩
section
variable {K : KC} {φ φ' ψ ψ' : List Addr} {H H' : Hp}
theorem FzT.tr {a : Addr} {vs : List V} (x : Tr φ ψ H φ' ψ' H') (h : FzT K φ ψ H a vs) : FzT K φ' ψ' H' a vs := by
  rcases h with ⟨h1, h2⟩ | h
  · obtain ⟨a1, a2⟩ := x.keep _ _ h1 h2; exact .inl ⟨a1, a2⟩
  · exact .inr h
theorem FzL.tr {a : Addr} {vs : List V} (x : Tr φ ψ H φ' ψ' H') (h : FzL K φ ψ H a vs) : FzL K φ' ψ' H' a vs := by
  rcases h with ⟨h1, h2⟩ | h
  · rcases h2 with h2 | ⟨o, h2⟩
    · obtain ⟨a1, a2⟩ := x.keep _ _ h1 h2; exact .inl ⟨a1, .inl a2⟩
    · obtain ⟨a1, a2⟩ := x.keep _ _ h1 h2; exact .inl ⟨a1, .inr ⟨o, a2⟩⟩
  · exact .inr h
mutual
theorem RT.tr (x : Tr φ ψ H φ' ψ' H') : ∀ (t : T) (v : V), RT K φ ψ H t v → RT K φ' ψ' H' t v
  | .non, _, h => by cases h; exact .non
  | .bl b, _, h => by cases h; exact .bl b
  | .int i, _, h => by cases h; exact .int i
  | .str s, _, h => by cases h; exact .str s
  | .tup ts, _, h => by
    cases h with
    | tup h1 h2 => exact .tup (h1.tr x) (RTs.tr x ts _ h2)
  | .fl ts, _, h => by
    cases h with
    | fl h1 h2 h3 => exact .fl (x.keep _ _ h1 h2).1 (x.keep _ _ h1 h2).2 (RTs.tr x ts _ h3)
  | .fd tk ks ts, _, h => by
    cases h with
    | fdK h1 h2 h3 h4 => exact .fdK (x.keep _ _ h1 h2).1 (x.keep _ _ h1 h2).2 h3 (RTs.tr x ts _ h4)
    | fdT h0 h1 h2 h3 h4 => exact .fdT h0 (x.keep _ _ h1 h2).1 (x.keep _ _ h1 h2).2 h3 (RTs.tr x ts _ h4)
  | .sc ns, _, h => by cases h with | sc h => exact .sc (h.tr x)
  | .obj i, _, h => by cases h with | obj h => exact .obj (x.get _ _ h)
theorem RTs.tr (x : Tr φ ψ H φ' ψ' H') : ∀ (ts : List T) (vs : List V), RTs K φ ψ H ts vs → RTs K φ' ψ' H' ts vs
  | [], _, h => by cases h; exact .nil
  | t :: ts, _, h => by
    cases h with
    | cons h1 h2 => exact .cons (RT.tr x t _ h1) (RTs.tr x ts _ h2)
end
end
section
variable {K : KC} {φ φ' ψ ψ' : List Addr} {H H' : Hp}
theorem RT.ext (x : Ext φ H φ' H') (t : T) (v : V) (h : RT K φ ψ H t v) : RT K φ' ψ H' t v := RT.tr (x.tr ψ) t v h
theorem RTs.ext (x : Ext φ H φ' H') (t : List T) (v : List V) (h : RTs K φ ψ H t v) : RTs K φ' ψ H' t v := RTs.tr (x.tr ψ) t v h
theorem RT.to {t : T} {v : V} (h : RT K φ ψ H t v) (x : Ext φ H φ' H') : RT K φ' ψ H' t v := RT.ext x t v h
theorem RTs.to {t : List T} {v : List V} (h : RTs K φ ψ H t v) (x : Ext φ H φ' H') : RTs K φ' ψ H' t v := RTs.ext x t v h
theorem RTs.length : ∀ {ts : List T} {vs : List V}, RTs K φ ψ H ts vs → ts.length = vs.length
  | _, _, .nil => rfl
  | _, _, .cons _ h => by rw [List.length_cons, List.length_cons, RTs.length h]
theorem RTs.get : ∀ {ts : List T} {vs : List V} {i : Nat} {t : T}, RTs K φ ψ H ts vs → ts[i]? = some t → ∃ v, vs[i]? = some v ∧ RT K φ ψ H t v
  | _, _, _, _, .nil, e => by simp at e
  | _, _, 0, _, .cons h _, e => by simp at e; subst e; exact ⟨_, rfl, h⟩
  | _, _, i + 1, t, .cons _ h, e => by
    obtain ⟨v, h1, h2⟩ := RTs.get (i := i) (t := t) h (by simpa using e)
    exact ⟨v, by simpa using h1, h2⟩
theorem RTs.append : ∀ {ts ts' : List T} {vs vs' : List V}, RTs K φ ψ H ts vs → RTs K φ ψ H ts' vs' → RTs K φ ψ H (ts ++ ts') (vs ++ vs')
  | _, _, _, _, .nil, s => s
  | _, _, _, _, .cons r t, s => .cons r (RTs.append t s)
theorem RTs.take : ∀ {ts : List T} {vs : List V} (n : Nat), RTs K φ ψ H ts vs → RTs K φ ψ H (ts.take n) (vs.take n)
  | _, _, 0, _ => .nil
  | _, _, _ + 1, .nil => .nil
  | _, _, n + 1, .cons r t => .cons r (RTs.take n t)
theorem RTs.drop : ∀ {ts : List T} {vs : List V} (n : Nat), RTs K φ ψ H ts vs → RTs K φ ψ H (ts.drop n) (vs.drop n)
  | _, _, 0, r => r
  | _, _, _ + 1, .nil => .nil
  | _, _, n + 1, .cons _ t => RTs.drop n t
theorem RTs.set {t : T} {v : V} (r : RT K φ ψ H t v) : ∀ {ts : List T} {vs : List V} (i : Nat), RTs K φ ψ H ts vs → RTs K φ ψ H (ts.set i t) (vs.set i v)
  | _, _, _, .nil => .nil
  | _, _, 0, .cons _ t => .cons r t
  | _, _, i + 1, .cons q t => .cons q (RTs.set r i t)
theorem RTs.reverse {ts : List T} {vs : List V} (h : RTs K φ ψ H ts vs) : RTs K φ ψ H ts.reverse vs.reverse := by
  induction ts generalizing vs with
  | nil => cases h; exact .nil
  | cons t ts ih =>
    cases h with
    | cons h1 h2 => rw [List.reverse_cons, List.reverse_cons]; exact (ih h2).append (.cons h1 .nil)
theorem RTs.eraseIdx : ∀ {ts : List T} {vs : List V} (i : Nat), RTs K φ ψ H ts vs → RTs K φ ψ H (ts.eraseIdx i) (vs.eraseIdx i)
  | _, _, _, .nil => .nil
  | _, _, 0, .cons _ t => t
  | _, _, i + 1, .cons q t => .cons q (RTs.eraseIdx i t)
theorem RTs.rep {ts : List T} {vs : List V} (h : RTs K φ ψ H ts vs) : ∀ k : Nat, RTs K φ ψ H (List.replicate k ts).flatten (List.replicate k vs).flatten
  | 0 => .nil
  | k + 1 => by
    rw [List.replicate_succ, List.replicate_succ, List.flatten_cons, List.flatten_cons]
    exact h.append (RTs.rep h k)
theorem RTs.ints : ∀ {ns : List Int} {vs : List V}, RTs K φ ψ H (ns.map T.int) vs → vs = ns.map V.int
  | [], _, h => by cases h; rfl
  | n :: ns, _, h => by
    cases h with
    | cons h1 h2 =>
      cases h1
      rw [RTs.ints h2]; rfl
theorem RTs.ints' : ∀ (ns : List Int), RTs K φ ψ H (ns.map T.int) (ns.map V.int)
  | [] => .nil
  | n :: ns => .cons (.int n) (RTs.ints' ns)
theorem RTs.bls : ∀ {bs : List Bool} {vs : List V}, RTs K φ ψ H (bs.map T.bl) vs → vs = bs.map V.bl
  | [], _, h => by cases h; rfl
  | n :: ns, _, h => by
    cases h with
    | cons h1 h2 =>
      cases h1
      rw [RTs.bls h2]; rfl
end

/-! ### memory -/
def RFs (K : KC) (φ ψ : List Addr) (H : Hp) : List (Str × T) → List (Str × V) → Prop
  | [], [] => True
  | (x, t) :: fs, (y, v) :: gs => x = y ∧ RT K φ ψ H t v ∧ RFs K φ ψ H fs gs
  | _, _ => False
/-- an object at an address; ca: where the classes stand -/
def RO (K : KC) (φ ψ : List Addr) (H : Hp) (a : Addr) : O → Prop
  | .lst ts => ∃ vs, H a = some (.lst vs) ∧ RTs K φ ψ H ts vs
  | .dic tk ks ts => (tk = false ∧ ∃ kvs : List (Key × V), H a = some (.dK kvs) ∧ ks = kvs.map (fun p => keyT p.1) ∧ RTs K φ ψ H ts (kvs.map (·.2))) ∨
      tk = true ∧ K.kt = false ∧ ∃ kvs : List (List Key × V), H a = some (.dT kvs) ∧ ks = kvs.map (fun p => keyTT p.1) ∧ RTs K φ ψ H ts (kvs.map (·.2))
  | .ins c fs => ∃ dx gs, H a = some (.ins (K.ca c) dx gs) ∧ RFs K φ ψ H fs gs
  | .tab q => K.tb q = some a ∧ ∃ ps : Array Value, H a = some (.tbl ps) ∧ TriplesOk ps.toList ∧ ∀ (pos : Pos) (cv : Value), codeAmong pos ps.toList = some cv → ∃ c, cv = .ref c ∧ Fre φ ψ c ∧ H c = some (LamX.CodeO c q)
/-- a thing that may be reserved -/
def Pln (o : HO) : Prop := (∀ vs, o ≠ .tup vs) ∧ (∀ p, o ≠ .ext p) ∧ ∀ ps, o ≠ .tbl ps
structure RM (K : KC) (φ ψ : List Addr) (H : Hp) (M : Mem) : Prop where
  len : φ.length = M.length
  nd : φ.Nodup
  ap : ∀ a ∈ φ, a ∉ ψ
  used2 : ∀ a ∈ ψ, ∃ o, H a = some o ∧ Pln o
  at_ : ∀ (i : Nat) (a : Addr) (o : O), φ[i]? = some a → M[i]? = some o → RO K φ ψ H a o
theorem RM.used {K : KC} {φ ψ : List Addr} {H : Hp} {M : Mem} (r : RM K φ ψ H M) : ∀ a ∈ ψ, H a ≠ none := fun a ha e => by
  obtain ⟨o, h, _⟩ := r.used2 a ha
  rw [h] at e; cases e
theorem RFs.tr {K : KC} {φ φ' ψ ψ' : List Addr} {H H' : Hp} (x : Tr φ ψ H φ' ψ' H') : ∀ {fs : List (Str × T)} {gs : List (Str × V)}, RFs K φ ψ H fs gs → RFs K φ' ψ' H' fs gs
  | [], [], _ => trivial
  | (_, _) :: _, (_, _) :: _, ⟨e, r, h⟩ => ⟨e, RT.tr x _ _ r, RFs.tr x h⟩
  | [], _ :: _, h => h.elim
  | _ :: _, [], h => h.elim
theorem RFs.ext {K : KC} {φ φ' ψ : List Addr} {H H' : Hp} (x : Ext φ H φ' H') {fs : List (Str × T)} {gs : List (Str × V)} (h : RFs K φ ψ H fs gs) : RFs K φ' ψ H' fs gs := h.tr (x.tr ψ)
/-! ### environments -/
structure RE (K : KC) (φ ψ : List Addr) (H : Hp) (env : En) (σ : L2.St) : Prop where
  len : env.length = σ.length
  at_ : ∀ (i : Nat) (t : T), env[i]? = some (some t) → ∃ v, σ[i]? = some (some v) ∧ RT K φ ψ H t v
section
variable {K : KC} {φ φ' ψ : List Addr} {H H' : Hp} {env : En} {σ : L2.St}
theorem RE.tr {ψ' : List Addr} (r : RE K φ ψ H env σ) (x : Tr φ ψ H φ' ψ' H') : RE K φ' ψ' H' env σ := ⟨r.len, fun i t e => let ⟨v, h1, h2⟩ := r.at_ i t e; ⟨v, h1, RT.tr x _ _ h2⟩⟩
theorem RE.ext (r : RE K φ ψ H env σ) (x : Ext φ H φ' H') : RE K φ' ψ H' env σ := ⟨r.len, fun i t e => let ⟨v, h1, h2⟩ := r.at_ i t e; ⟨v, h1, h2.to x⟩⟩
theorem RE.set {i : Nat} {t : T} {v : V} (r : RE K φ ψ H env σ) (h : RT K φ ψ H t v) : RE K φ ψ H (env.set i (some t)) (σ.set i (some v)) := by
  refine ⟨by rw [List.length_set, List.length_set, r.len], fun j u e => ?_⟩
  by_cases hj : i = j
  · subst hj
    by_cases hl : i < env.length
    · rw [List.getElem?_set_self hl] at e
      cases e
      exact ⟨v, by rw [List.getElem?_set_self (by rw [← r.len]; exact hl)], h⟩
    · rw [List.getElem?_eq_none (by rw [List.length_set]; omega)] at e
      cases e
  · rw [List.getElem?_set_ne hj] at e
    obtain ⟨w, h1, h2⟩ := r.at_ j u e
    exact ⟨w, by rw [List.getElem?_set_ne hj]; exact h1, h2⟩
def wipeE (env : En) : List Nat → En
  | [] => env
  | v :: vs => (wipeE env vs).set v none
theorem RE.clear {i : Nat} (r : RE K φ ψ H env σ) : RE K φ ψ H (env.set i none) (σ.set i none) := by
  refine ⟨by rw [List.length_set, List.length_set, r.len], fun j u e => ?_⟩
  by_cases hj : i = j
  · subst hj
    by_cases hl : i < env.length
    · rw [List.getElem?_set_self hl] at e
      cases e
    · rw [List.getElem?_eq_none (by rw [List.length_set]; omega)] at e
      cases e
  · rw [List.getElem?_set_ne hj] at e
    obtain ⟨w, h1, h2⟩ := r.at_ j u e
    exact ⟨w, by rw [List.getElem?_set_ne hj]; exact h1, h2⟩
theorem RE.wipe (r : RE K φ ψ H env σ) : ∀ vs : List Nat, RE K φ ψ H (wipeE env vs) (wipe σ vs)
  | [] => r
  | _ :: vs => (RE.wipe r vs).clear

/-- a new thing at p that is not ours (a tuple, a list that never changes) -/
theorem Ext.new {p : Addr} {o : HO} (hp : H p = none) (hf : p ∉ φ) : Ext φ H φ (upd H p o) :=
  ⟨List.prefix_rfl, fun a _ h e => ⟨h, by rw [upd_ne (ne_of_none e hp)]; exact e⟩⟩
theorem RM.fresh {M : Mem} (r : RM K φ ψ H M) {p : Addr} (hp : H p = none) : p ∉ φ := fun hm => by
  obtain ⟨i, hi, e⟩ := List.mem_iff_getElem.mp hm
  have e1 : φ[i]? = some p := List.getElem?_eq_some_iff.mpr ⟨hi, e⟩
  have hM : i < M.length := by rw [← r.len]; exact hi
  have q := r.at_ i p M[i] e1 (List.getElem?_eq_getElem hM)
  cases ho : M[i] with
  | lst ts => rw [ho] at q; obtain ⟨vs, h, _⟩ := q; rw [hp] at h; cases h
  | dic tk ks ts =>
    rw [ho] at q
    rcases q with ⟨_, kvs, h, _⟩ | ⟨_, _, kvs, h, _⟩
    · rw [hp] at h; cases h
    · rw [hp] at h; cases h
  | ins c fs => rw [ho] at q; obtain ⟨dx, gs, h, _⟩ := q; rw [hp] at h; cases h
  | tab q0 => rw [ho] at q; obtain ⟨_, ps, h, _⟩ := q; rw [hp] at h; cases h
/-- the memory under a change that keeps the contents of our objects -/
theorem RM.ext {M : Mem} (r : RM K φ ψ H M) (x : Ext φ H φ H') (hk : ∀ a ∈ φ, H' a = H a) : RM K φ ψ H' M := by
  refine ⟨r.len, r.nd, r.ap, fun a ha => ?_, fun i a o e1 e2 => ?_⟩
  · obtain ⟨o, q, n⟩ := r.used2 a ha
    exact ⟨o, (x.keep a o (fun z => r.ap a z ha) q).2, n⟩
  have ha : a ∈ φ := List.mem_of_getElem? e1
  have q := r.at_ i a o e1 e2
  cases o with
  | lst ts => obtain ⟨vs, h, h2⟩ := q; exact ⟨vs, by rw [hk a ha]; exact h, h2.to x⟩
  | dic tk ks ts =>
    rcases q with ⟨hk1, kvs, h, h1, h2⟩ | ⟨hk1, hk0, kvs, h, h1, h2⟩
    · exact .inl ⟨hk1, kvs, by rw [hk a ha]; exact h, h1, h2.to x⟩
    · exact .inr ⟨hk1, hk0, kvs, by rw [hk a ha]; exact h, h1, h2.to x⟩
  | ins c fs => obtain ⟨dx, gs, h, h2⟩ := q; exact ⟨dx, gs, by rw [hk a ha]; exact h, h2.ext x⟩
  | tab q0 =>
    obtain ⟨ht, ps, h, h2, h3⟩ := q
    refine ⟨ht, ps, by rw [hk a ha]; exact h, h2, fun pos cv hc => ?_⟩
    obtain ⟨c, e, f, g⟩ := h3 pos cv hc
    obtain ⟨z1, z2⟩ := x.keep c _ f.1 g
    exact ⟨c, e, ⟨z1, f.2⟩, z2⟩
theorem RM.new {M : Mem} (r : RM K φ ψ H M) {p : Addr} {o : HO} (hp : H p = none) : RM K φ ψ (upd H p o) M :=
  r.ext (.new hp (r.fresh hp)) fun a ha => upd_ne fun e => r.fresh hp (e ▸ ha)
theorem RO.tr {ψ' : List Addr} {a : Addr} {o : O} (q : RO K φ ψ H a o) (x : Tr φ ψ H φ' ψ' H') (h : H' a = H a) : RO K φ' ψ' H' a o := by
  cases o with
  | lst ts => obtain ⟨vs, h1, h2⟩ := q; exact ⟨vs, by rw [h]; exact h1, RTs.tr x _ _ h2⟩
  | dic tk ks ts =>
    rcases q with ⟨hk1, kvs, h0, h1, h2⟩ | ⟨hk1, hk0, kvs, h0, h1, h2⟩
    · exact .inl ⟨hk1, kvs, by rw [h]; exact h0, h1, RTs.tr x _ _ h2⟩
    · exact .inr ⟨hk1, hk0, kvs, by rw [h]; exact h0, h1, RTs.tr x _ _ h2⟩
  | ins c fs => obtain ⟨dx, gs, h1, h2⟩ := q; exact ⟨dx, gs, by rw [h]; exact h1, h2.tr x⟩
  | tab q0 =>
    obtain ⟨ht, ps, h1, h2, h3⟩ := q
    refine ⟨ht, ps, by rw [h]; exact h1, h2, fun pos cv hc => ?_⟩
    obtain ⟨c, e, f, g⟩ := h3 pos cv hc
    obtain ⟨z1, z2⟩ := x.keep c _ f g
    exact ⟨c, e, z1, z2⟩
/-- a reserved address: made, changed, given back -/
theorem RM.resv {M : Mem} (r : RM K φ ψ H M) {D : Addr} {o : HO} (hD : H D = none) (ho : Pln o := by refine ⟨?_, ?_, ?_⟩ <;> (intro z h; cases h)) : RM K φ (D :: ψ) (upd H D o) M := by
  have hf := r.fresh hD
  refine ⟨r.len, r.nd, fun a ha hm => ?_, fun a hm => ?_, fun i a u e1 e2 => (r.at_ i a u e1 e2).tr (.resv hD) (upd_ne fun z => hf (z ▸ List.mem_of_getElem? e1))⟩
  · rcases List.mem_cons.mp hm with q | q
    · exact hf (q ▸ ha)
    · exact r.ap a ha q
  · by_cases hap : a = D
    · subst hap; exact ⟨o, upd_same, ho⟩
    · obtain ⟨u, q, n⟩ := r.used2 a ((List.mem_cons.mp hm).resolve_left hap)
      exact ⟨u, by rw [upd_ne hap]; exact q, n⟩
theorem RM.resw {M : Mem} {D : Addr} {o : HO} (r : RM K φ (D :: ψ) H M) (ho : Pln o := by refine ⟨?_, ?_, ?_⟩ <;> (intro z h; cases h)) : RM K φ (D :: ψ) (upd H D o) M := by
  refine ⟨r.len, r.nd, r.ap, fun a hm => ?_, fun i a u e1 e2 => (r.at_ i a u e1 e2).tr .resw (upd_ne fun z => r.ap a (List.mem_of_getElem? e1) (by rw [z]; exact List.mem_cons_self))⟩
  by_cases hap : a = D
  · subst hap; exact ⟨o, upd_same, ho⟩
  · obtain ⟨u, q, n⟩ := r.used2 a hm
    exact ⟨u, by rw [upd_ne hap]; exact q, n⟩
theorem RM.unres {M : Mem} {D : Addr} (r : RM K φ (D :: ψ) H M) : RM K φ ψ H M :=
  ⟨r.len, r.nd, fun a ha hm => r.ap a ha (List.mem_cons_of_mem _ hm), fun a hm => r.used2 a (List.mem_cons_of_mem _ hm), fun i a u e1 e2 => (r.at_ i a u e1 e2).tr .unres rfl⟩
/-- a new object of ours -/
theorem Ext.push {p : Addr} {o : HO} (hp : H p = none) : Ext φ H (φ ++ [p]) (upd H p o) :=
  ⟨List.prefix_append _ _, fun a _ h e => by
    have ne : a ≠ p := ne_of_none e hp
    refine ⟨fun hm => ?_, by rw [upd_ne ne]; exact e⟩
    rcases List.mem_append.mp hm with q | q
    · exact h q
    · exact ne (by simpa using q)⟩
theorem RO.ext {a : Addr} {o : O} (q : RO K φ ψ H a o) (x : Ext φ H φ' H') (h : H' a = H a) : RO K φ' ψ H' a o := by
  cases o with
  | lst ts => obtain ⟨vs, h1, h2⟩ := q; exact ⟨vs, by rw [h]; exact h1, h2.to x⟩
  | dic tk ks ts =>
    rcases q with ⟨hk1, kvs, h0, h1, h2⟩ | ⟨hk1, hk0, kvs, h0, h1, h2⟩
    · exact .inl ⟨hk1, kvs, by rw [h]; exact h0, h1, h2.to x⟩
    · exact .inr ⟨hk1, hk0, kvs, by rw [h]; exact h0, h1, h2.to x⟩
  | ins c fs => obtain ⟨dx, gs, h1, h2⟩ := q; exact ⟨dx, gs, by rw [h]; exact h1, h2.ext x⟩
  | tab q0 => exact RO.tr (o := .tab q0) q (x.tr ψ) h
theorem RM.push {M : Mem} (r : RM K φ ψ H M) {p : Addr} {o : HO} {m : O} (hp : H p = none) (q : RO K (φ ++ [p]) ψ (upd H p o) p m) : RM K (φ ++ [p]) ψ (upd H p o) (M ++ [m]) := by
  have hf := r.fresh hp
  refine ⟨by simp [r.len], ?_, fun a ha hψ => ?_, fun a ha => ?_, fun i a u e1 e2 => ?_⟩
  rotate_left
  · rcases List.mem_append.mp ha with q | q
    · exact r.ap a q hψ
    · have : a = p := by simpa using q
      subst this
      exact r.used a hψ hp
  · by_cases hap : a = p
    · subst hap; exact absurd hp (r.used a ha)
    · obtain ⟨u, q, n⟩ := r.used2 a ha
      exact ⟨u, by rw [upd_ne hap]; exact q, n⟩
  rotate_left
  · refine List.nodup_append.mpr ⟨r.nd, by simp, fun a ha b hb => ?_⟩
    have : b = p := by simpa using hb
    subst this
    exact fun e => hf (e ▸ ha)
  · by_cases hi : i < φ.length
    · rw [List.getElem?_append_left hi] at e1
      rw [List.getElem?_append_left (by rw [← r.len]; exact hi)] at e2
      have ha : a ∈ φ := List.mem_of_getElem? e1
      exact (r.at_ i a u e1 e2).ext (.push hp) (upd_ne fun e => hf (e ▸ ha))
    · have hl := r.len
      rw [List.getElem?_append_right (by omega)] at e1
      rw [List.getElem?_append_right (by omega)] at e2
      by_cases h0 : i - φ.length = 0
      · rw [h0] at e1
        rw [show i - M.length = 0 by omega] at e2
        cases e1; cases e2
        exact q
      · rw [List.getElem?_eq_none (by simp; omega)] at e1
        cases e1
/-- an object of ours changed -/
theorem Ext.write {i : Nat} {a : Addr} {o : HO} (e : φ[i]? = some a) : Ext φ H φ (upd H a o) :=
  ⟨List.prefix_rfl, fun b _ h e2 => ⟨h, by
    rw [upd_ne (fun z => h (by rw [z]; exact List.mem_of_getElem? e))]; exact e2⟩⟩
theorem RM.write {M : Mem} (r : RM K φ ψ H M) {i : Nat} {a : Addr} {o : HO} {m : O} (e : φ[i]? = some a) (q : RO K φ ψ (upd H a o) a m) : RM K φ ψ (upd H a o) (M.set i m) := by
  refine ⟨by rw [List.length_set]; exact r.len, r.nd, r.ap, fun b hb => ?_, fun j b u e1 e2 => ?_⟩
  · by_cases hba : b = a
    · subst hba; exact absurd hb (r.ap b (List.mem_of_getElem? e))
    · obtain ⟨u, q, n⟩ := r.used2 b hb
      exact ⟨u, by rw [upd_ne hba]; exact q, n⟩
  by_cases hj : i = j
  · subst hj
    rw [e] at e1; cases e1
    obtain ⟨hi, _⟩ := List.getElem?_eq_some_iff.mp e
    rw [List.getElem?_set_self (by rw [← r.len]; exact hi)] at e2
    cases e2
    exact q
  · rw [List.getElem?_set_ne hj] at e2
    have ne : b ≠ a := fun z => by
      subst z
      exact hj ((List.getElem?_inj (List.getElem?_eq_some_iff.mp e).1 r.nd).mp (e.trans e1.symm))
    exact (r.at_ j b u e1 e2).ext (.write e) (upd_ne ne)
end
end Mi
end L2

/-! Mini: the terms and what they reckon. -/
namespace L2
namespace Mi
open PySem PySem.Spec PyProof.Rows

/-! ### what is equal -/
mutual
def eqT : T → T → Bool
  | .non, .non => true
  | .bl a, .bl b => a == b
  | .bl a, .int j => (if a then 1 else 0) == j
  | .int i, .bl b => i == (if b then 1 else 0)
  | .int i, .int j => i == j
  | .str x, .str y => x == y
  | .tup xs, .tup ys => eqTs xs ys
  | .fl xs, .fl ys => eqTs xs ys
  | _, _ => false
def eqTs : List T → List T → Bool
  | [], [] => true
  | x :: xs, y :: ys => eqT x y && eqTs xs ys
  | _, _ => false
end
mutual
/-- data without dicts and objects, texts of signs -/
def okT : T → Bool
  | .str x => PyData.strOk x
  | .tup xs => okTs xs
  | .fl xs => okTs xs
  | .non => true
  | .bl _ => true
  | .int _ => true
  | _ => false
def okTs : List T → Bool
  | [] => true
  | x :: xs => okT x && okTs xs
end
mutual
def depT : T → Nat
  | .tup xs => depTs xs + 1
  | .fl xs => depTs xs + 1
  | _ => 0
def depTs : List T → Nat
  | [] => 0
  | x :: xs => max (depT x) (depTs xs)
end
mutual
def pureT : T → Bool
  | .obj _ => false
  | .sc _ => true
  | .tup ts => pureTs ts
  | .fl ts => pureTs ts
  | .fd _ ks ts => pureTs ts
  | _ => true
def pureTs : List T → Bool
  | [] => true
  | t :: ts => pureT t && pureTs ts
end
/-- the same with the lists of ours (from n on) told as they stand -/
def sealT (M : Mem) (n : Nat) : Nat → T → Option T
  | 0, t => if pureT t then some t else none
  | f + 1, t => if pureT t then some t else match t with
    | .obj i => if n ≤ i then (match M[i]? with
      | some (.lst ts) => (ts.mapM (sealT M n f)).map .fl
      | some (.dic tk ks ts) => (ts.mapM (sealT M n f)).map (.fd tk ks)
      | _ => none) else none
    | .tup ts => (ts.mapM (sealT M n f)).map .tup
    | .fl ts => (ts.mapM (sealT M n f)).map .fl
    | .fd tk ks ts => (ts.mapM (sealT M n f)).map (.fd tk ks)
    | t => none
def scL : T → T
  | .sc ns => .fl (ns.map .int)
  | t => t
def eqv? (M : Mem) (x y : T) : Option Bool :=
  (sealT M 0 6 (scL x)).bind fun a => (sealT M 0 6 (scL y)).bind fun b =>
    if okT a = true ∧ okT b = true ∧ depT a ≤ 60 ∧ depT b ≤ 60 then some (eqT a b) else none

/-! ### lists, tuples, dicts by value -/
def lof (M : Mem) : T → Option (List T)
  | .fl ts => some ts
  | .obj i => match M[i]? with
    | some (.lst ts) => some ts
    | _ => none
  | _ => none
def lofS (M : Mem) (t : T) : Option (List T) := match t with
  | .sc ns => some (ns.map .int)
  | t => lof M t
def sof (M : Mem) (t : T) : Option (List T) := match t with
  | .tup ts => some ts
  | t => lofS M t
def dof (M : Mem) : T → Option (Bool × List T × List T)
  | .fd tk ks ts => some (tk, ks, ts)
  | .obj i => match M[i]? with
    | some (.dic tk ks ts) => some (tk, ks, ts)
    | _ => none
  | _ => none
/-- a new list -/
def mkL (tr : Bool) (ts : List T) (M : Mem) : T × Mem := if tr then (.obj M.length, M ++ [.lst ts]) else (.fl ts, M)
def lkp : List T → List T → T → Option T
  | k :: ks, v :: vs, t => if eqT k t then some v else lkp ks vs t
  | _, _, _ => none
def isKey : T → Bool
  | .int _ => true
  | .str _ => true
  | _ => false
def isKeyT (tk : Bool) : T → Bool
  | .tup ts => tk && ts.all isKey
  | t => !tk && isKey t
def putD (ks vs : List T) (t x : T) : List T × List T :=
  if (ks.any fun k => eqT k t) = true then (ks, List.zipWith (fun k v => if eqT k t then x else v) ks vs) else (ks ++ [t], vs ++ [x])

def truth (M : Mem) : T → Option Bool
  | .non => some false
  | .bl b => some b
  | .int i => some (i != 0)
  | .str x => if x.length ≤ 16777216 then some (((x.length : Nat) : Int) != 0) else none
  | .tup ts => some (!ts.isEmpty)
  | t => (lofS M t).map fun ts => !ts.isEmpty

/-! ### operators -/
def mulOk (i j : Int) : Prop := i.natAbs.log2 + j.natAbs.log2 < 134000000
instance (i j : Int) : Decidable (mulOk i j) := by unfold mulOk; infer_instance
def divOk (j : Int) : Prop := j ≠ 0
instance (j : Int) : Decidable (divOk j) := by unfold divOk; infer_instance
def powOk (i j : Int) : Prop := 0 ≤ j ∧ j ≤ 1000000 ∧ i.natAbs < 2 ^ 64
noncomputable instance (i j : Int) : Decidable (powOk i j) := Classical.propDecidable _
/-- within 63 bits -/
def i63 (j : Int) : Prop := -(2 ^ 63) ≤ j ∧ j < 2 ^ 63
noncomputable instance (j : Int) : Decidable (i63 j) := Classical.propDecidable _
noncomputable def binT (op : Operator) (tr : Bool) (x y : T) (M : Mem) : Option (T × Mem) :=
  match op, x, y with
  | .Add, .int i, .int j => some (.int (i + j), M)
  | .Sub, .int i, .int j => some (.int (i - j), M)
  | .Mult, .int i, .int j => if mulOk i j then some (.int (i * j), M) else none
  | .FloorDiv, .int i, .int j => if divOk j then some (.int (i.fdiv j), M) else none
  | .Mod, .int i, .int j => if j ≠ 0 then some (.int (i.fmod j), M) else none
  | .Pow, .int i, .int j => if powOk i j then some (.int (i ^ j.toNat), M) else none
  | .Add, .str a, .str b => if a.length + b.length ≤ 16777216 then some (.str (a ++ b), M) else none
  | .Add, .tup a, .tup b => if a.length + b.length ≤ 16777216 then some (.tup (a ++ b), M) else none
  | .Mult, .tup a, .int j => if 0 ≤ j ∧ j ≤ 1000 ∧ a.length ≤ 1000 ∧ a ≠ [] then some (.tup (List.replicate j.toNat a).flatten, M) else none
  | .Add, x, y => (lof M x).bind fun a => (lof M y).bind fun b => if a.length + b.length ≤ 16777216 then some (mkL tr (a ++ b) M) else none
  | .Mult, x, .int j => (lof M x).bind fun a => if i63 j ∧ a.length * j.toNat ≤ 16777216 then some (mkL tr (List.replicate j.toNat a).flatten M) else none
  | _, _, _ => none
/-- each once -/
def ddp {α : Type} [DecidableEq α] : List α → List α
  | [] => []
  | x :: l => if x ∈ l then ddp l else x :: ddp l
/-- the ints of a list of values -/
def intsOf : List T → Option (List Int)
  | [] => some []
  | .int i :: ts => (intsOf ts).map (i :: ·)
  | _ => none
/-- the tuples of ints of a list of values -/
def tupsOf : List T → Option (List (List Int))
  | [] => some []
  | .tup xs :: ts => (intsOf xs).bind fun ns => (tupsOf ts).map (ns :: ·)
  | _ => none
def blsOf : List T → Option (List Bool)
  | [] => some []
  | .bl i :: ts => (blsOf ts).map (i :: ·)
  | _ => none
def isNo : T → Bool
  | .non => true
  | _ => false
def lexLe (a b : List Int) : Bool := !HT.lexLt b a
def cmpT (op : CmpOp) (x y : T) (M : Mem) : Option Bool :=
  match op with
  | .Eq => eqv? M x y
  | .NotEq => (eqv? M x y).map not
  | .Lt => match x, y with
    | .int i, .int j => some (decide (i < j))
    | .tup a, .tup b => (intsOf a).bind fun a => (intsOf b).map fun b => HT.lexLt a b
    | _, _ => none
  | .LtE => match x, y with
    | .int i, .int j => some (decide (i ≤ j))
    | _, _ => none
  | .Gt => match x, y with
    | .int i, .int j => some (decide (j < i))
    | _, _ => none
  | .GtE => match x, y with
    | .int i, .int j => some (decide (j ≤ i))
    | _, _ => none
  | .Is => match x, y with
    | .bl a, .bl b => some (decide (a = b))
    | x, .non => some (isNo x)
    | _, _ => none
  | .IsNot => match x, y with
    | .bl a, .bl b => some (!decide (a = b))
    | x, .non => some (!isNo x)
    | _, _ => none
  | .In => inT x y M
  | .NotIn => (inT x y M).map not
where
  inT (x y : T) (M : Mem) : Option Bool :=
    match dof M y with
    | some (tk, ks, ts) => if isKeyT tk x then some (lkp ks ts x).isSome else none
    | none => match y with
      | .tup ys => if okT x = true ∧ okTs ys = true ∧ depT x ≤ 60 ∧ depTs ys ≤ 59 then some (ys.any fun z => eqT z x) else none
      | y => (lof M y).bind fun ys => (ys.mapM (sealT M 0 6)).bind fun ys => (sealT M 0 6 x).bind fun x =>
        if okT x = true ∧ okTs ys = true ∧ depT x ≤ 60 ∧ depTs ys ≤ 59 then some (ys.any fun z => eqT z x) else none

/-! ### built-ins -/
inductive BI where
  | len | int | abs | list (tr : Bool) | tuple | sum | all | any | max | min | sorted
  deriving DecidableEq
def maxL : List Int → Int
  | [] => 0
  | [x] => x
  | x :: xs => if x < maxL xs then maxL xs else x
def minL : List Int → Int
  | [] => 0
  | [x] => x
  | x :: xs => if minL xs < x then minL xs else x
def insI (x : Int) : List Int → List Int
  | [] => [x]
  | y :: ys => if x ≤ y then x :: y :: ys else y :: insI x ys
def sortI : List Int → List Int
  | [] => []
  | x :: xs => insI x (sortI xs)
/-- the table of this lambda is there -/
def hasTab (q : Str) (M : Mem) : Bool := M.any fun o => match o with
  | .tab q' => decide (q' = q)
  | _ => false
/-- what begins with two ints, with these -/
def keys2 : List T → Option (List (T × List Int))
  | [] => some []
  | .tup (.int x :: .int y :: z :: r) :: ts => (keys2 ts).map fun l => (.tup (.int x :: .int y :: z :: r), [x, y]) :: l
  | _ => none
def srt2 (l : List (T × List Int)) : List T := (l.mergeSort fun x y => lexLe x.2 y.2).map (·.1)
/-- a pair of ints from 0 to 63 -/
def pr64 : List Int → Bool
  | [x, y] => decide (0 ≤ x) && decide (x < 64) && decide (0 ≤ y) && decide (y < 64)
  | _ => false
/-- the third of tuples -/
def key3 : T → Option Int
  | .tup (_ :: _ :: .int y :: _) => some y
  | _ => none
def keys3 : List T → Option (List Int)
  | [] => some []
  | t :: ts => (key3 t).bind fun y => (keys3 ts).map fun l => y :: l
/-- the positions in the order of ints -/
def srtAt (ys : List Int) : List Int := ((List.range ys.length).map fun (i : Nat) => (i : Int)).mergeSort fun a b => decide (ys.getD a.toNat 0 ≤ ys.getD b.toNat 0)
/-- tuples of ints in order -/
def sortK (ks : List (List Int)) : List (List Int) := ks.mergeSort lexLe
def biT (b : BI) (xs : List T) (M : Mem) : Option (T × Mem) :=
  match b, xs with
  | .len, [x] => match dof M x with
    | some (_, ks, _) => some (.int (ks.length : Nat), M)
    | none => (sof M x).map fun ts => (.int (ts.length : Nat), M)
  | .int, [.int i] => some (.int i, M)
  | .int, [.bl b] => some (.int (if b then 1 else 0), M)
  | .abs, [.int i] => some (.int (if i < 0 then -i else i), M)
  | .list tr, [x] => (sof M x).map fun ts => mkL tr ts M
  | .tuple, [x] => (sof M x).map fun ts => (.tup ts, M)
  | .sum, [x] => (lof M x).bind fun ts => (intsOf ts).map fun ns => (.int ns.sum, M)
  | .all, [x] => (lof M x).bind fun ts => (blsOf ts).map fun bs => (.bl (bs.all id), M)
  | .any, [x] => (lof M x).bind fun ts => (blsOf ts).map fun bs => (.bl (bs.any id), M)
  | .max, [.int i, .int j] => some (.int (if j > i then j else i), M)
  | .min, [.int i, .int j] => some (.int (if j < i then j else i), M)
  | .max, [x] => (lof M x).bind fun ts => (intsOf ts).bind fun ns => if ns = [] then none else some (.int (maxL ns), M)
  | .min, [x] => (lof M x).bind fun ts => (intsOf ts).bind fun ns => if ns = [] then none else some (.int (minL ns), M)
  | .sorted, [x] => match dof M x with
    | some (tk, ks, _) => if tk = true then (tupsOf ks).bind fun ks => if (∀ k ∈ ks, k ≠ []) then some (.fl ((sortK ks).map fun k => .tup (k.map .int)), M) else none else none
    | none => (lof M x).bind fun ts => match intsOf ts with
      | some ns => if ns.length < 64 then some (.fl ((sortI ns).map .int), M) else none
      | none => (tupsOf ts).bind fun ks => if (∀ k ∈ ks, k ≠ []) then some (.fl ((sortK ks).map fun k => .tup (k.map .int)), M) else none
  | _, _ => none
def isiT (M : Mem) (ty : String) (x : T) : Option Bool :=
  match x with
  | .non => some false
  | .bl _ => some (ty == "bool" || ty == "int")
  | .int _ => some (ty == "int")
  | .str _ => some (ty == "str")
  | .tup _ => some (ty == "tuple")
  | .fl _ => some (ty == "list")
  | .obj i => match M[i]? with
    | some (.lst _) => some (ty == "list")
    | _ => none
  | _ => none
inductive BM where
  | append | extend | pop0 | pop | reverse | remove
  deriving DecidableEq
/-- a method of a list of ours -/
noncomputable def bmT (b : BM) (o : T) (xs : List T) (M : Mem) : Option (T × Mem) :=
  match o with
  | .obj i => match M[i]? with
    | some (.lst ts) => match b, xs with
      | .append, [x] => if ts.length < 16777216 then some (.non, M.set i (.lst (ts ++ [x]))) else none
      | .extend, [y] => (lof M y).bind fun zs => if ts.length + zs.length ≤ 16777216 then some (.non, M.set i (.lst (ts ++ zs))) else none
      | .pop0, [] => (ts[ts.length - 1]?).map fun y => (y, M.set i (.lst ts.dropLast))
      | .pop, [.int k] => if i63 k then (seqIndex? k ts.length).bind fun j => (ts[j]?).map fun y => (y, M.set i (.lst (ts.eraseIdx j))) else none
      | .reverse, [] => some (.non, M.set i (.lst ts.reverse))
      | .remove, [.tup ys] => (tupsOf ts).bind fun ks => (intsOf ys).bind fun k => (ks.findIdx? fun x => decide (x = k)).map fun j => (.non, M.set i (.lst (ts.eraseIdx j)))
      | .remove, [.int k] => (intsOf ts).bind fun ns => if k ∈ ns then some (.non, M.set i (.lst ((ns.eraseIdx (ns.findIdx fun x => x == k)).map .int))) else none
      | _, _ => none
    | _ => none
  | _ => none
def ixT (x y : T) (M : Mem) : Option T :=
  match dof M x with
  | some (tk, ks, ts) => if isKeyT tk y then lkp ks ts y else none
  | none => match x, y with
    | .str z, .int i => if z.length ≤ 16777216 then (atI z.cps.toList i).map fun c => .str ⟨#[c]⟩ else none
    | x, .int i => (sof M x).bind fun ts => atI ts i
    | _, _ => none
def cutT (ts : List T) (lo hi : Option Int) : List T := (ts.drop (HT.sIx ts.length 0 lo)).take (HT.sIx ts.length ts.length hi - HT.sIx ts.length 0 lo)
def slT (tr : Bool) (x : T) (lo hi : Option Int) (M : Mem) : Option (T × Mem) :=
  match x with
  | .tup ts => some (.tup (cutT ts lo hi), M)
  | x => (lofS M x).map fun ts => mkL tr (cutT ts lo hi) M
/-- x[::-1] -/
def revT (tr : Bool) (x : T) (M : Mem) : Option (T × Mem) :=
  match x with
  | .tup ts => some (.tup ts.reverse, M)
  | x => (lofS M x).map fun ts => mkL tr ts.reverse M
/-- o[i] = v, o a list or a dict of ours -/
def setT (o i v : T) (M : Mem) : Option Mem :=
  match o with
  | .obj a => match M[a]? with
    | some (.lst ts) => match i with
      | .int k => (ixN ts.length k).map fun j => M.set a (.lst (ts.set j v))
      | _ => none
    | some (.dic tk ks ts) => if isKeyT tk i = true ∧ ks.length < 16777216 then (let r := putD ks ts i v; some (M.set a (.dic tk r.1 r.2))) else none
    | _ => none
  | _ => none

/-! ### terms -/
mutual
inductive ME where
  | var (i : Nat) (x : Str) | glb (x : Str) | non | bl (b : Bool) | int (i : Int) | str (x : Str)
  | bin (op : Operator) (tr : Bool) (a b : ME) | neg (a : ME) | not (a : ME) | one (a : ME) | and (a b : ME) | or (a b : ME)
  | cmp (op : CmpOp) (a b : ME) | ife (c a b : ME)
  | call (f : Str) (es : MEs) | bi (b : BI) (es : MEs) | isi (a : ME) (ty : String) | mcall (c : Str) (o : ME) (m : Str) (es : MEs) | bm (b : BM) (o : ME) (es : MEs) | mk (c : Str) (es : MEs)
  | ix (a b : ME) | slc (tr : Bool) (a lo hi : ME) | nopart | rev (tr : Bool) (a : ME) | att (c : Str) (o : ME) (f : Str)
  | tup (es : MEs) | lst (tr : Bool) (es : MEs)
  | lc (tr : Bool) (own : List (Str × Nat)) (tg : MT) (it : MI) (ifs : MEs) (elt : ME)
  | lc2 (tr : Bool) (own : List (Str × Nat)) (tg : MT) (it : MI) (ifs : MEs) (vs1 : List Nat) (tg1 : MT) (it1 : MI) (ifs1 : MEs) (elt : ME)
  | dnew (t : Bool) | dc (own : List (Str × Nat)) (tg : MT) (it : MI) (k v : ME)
  | sset (a : ME) | lset (a : ME)
  | rtup (a : ME) | rlst (tr : Bool) (a : ME) | dlit (es : MEs) | dget (d k x : ME) | dsd (d k x : ME)
  | skc (q : Str) (a : ME) | sko (q : Str) (i : Nat) (x : Str) (a : ME) | spr (a : ME)
inductive MEs where
  | nil | cons (e : ME) (es : MEs)
inductive MI where
  | over (a : ME) | rng1 (a : ME) | rng2 (a b : ME) | enum (a : ME) | zip2 (a b : ME) | zip3 (a b c : ME)
inductive MT where
  | nm (i : Nat) (x : Str) | tp (ts : MTs)
inductive MTs where
  | nil | cons (t : MT) (ts : MTs)
end
inductive MS where
  | set (i : Nat) (x : Str) (e : ME)
  | asg (t : MT) (e : ME)
  | par (ts : List (Nat × Str)) (es : MEs) | setI (o i e : ME) | setA (c : Str) (o : ME) (f : Str) (e : ME)
  | aug (i : Nat) (x : Str) (op : Operator) (e : ME) | augI (o i : ME) (op : Operator) (e : ME)
  | ex (e : ME) | ret (e : ME) | retN
  | ite (c : ME) (a b : List MS) | whl (c : ME) (b : List MS) | for (t : MT) (it : MI) (b : List MS)
  | brk | cnt | pas

def dcPut : List T → List T × List T → List T × List T
  | k :: v :: r, a => dcPut r (putD a.1 a.2 k v)
  | _, a => a

/-- keys at the even places -/
def altK : List T → Bool
  | [] => true
  | [_] => false
  | k :: _ :: r => isKey k && altK r

/-! ### the program's defs and constants -/
abbrev Fn := List T → Mem → Option (T × Mem)
structure Cl where
  attrs : List Str
  init : Option Fn
  meths : List (Str × Fn)
structure Sig where
  kt : Bool
  fns : List (Str × Fn)
  glbs : List (Str × T)
  cls : List (Str × Cl)

mutual
def asgT : MT → T → En → Option En
  | .nm i _, t, σ => some (σ.set i (some t))
  | .tp ts, t, σ => match t with
    | .tup us => asgTs ts us σ
    | .fl us => asgTs ts us σ
    | _ => none
def asgTs : MTs → List T → En → Option En
  | .nil, [], σ => some σ
  | .cons m ms, t :: ts, σ => (asgT m t σ).bind fun σ1 => asgTs ms ts σ1
  | _, _, _ => none
end
open Classical in
/-- a loop's list is as it was -/
def Grd (g : List (Nat × List T)) (M : Mem) : Prop := ∀ p ∈ g, M[p.1]? = some (.lst p.2)
open Classical in
/-- the items of a comprehension, in order -/
noncomputable def lcC (g : List (Nat × List T)) (step : T → Mem → Option (List T × Mem)) : List T → Mem → Option (List T × Mem)
  | [], M => if Grd g M then some ([], M) else none
  | t :: ts, M => if Grd g M then (step t M).bind fun p => (lcC g step ts p.2).map fun q => (p.1 ++ q.1, q.2) else none
def grdOf : T → List T → List (Nat × List T)
  | .obj i, ts => [(i, ts)]
  | _, _ => []
def rngL (lo hi : Int) : List T := (List.range (hi - lo).toNat).map fun i => T.int (lo + (i : Nat))
def rngOk (i j : Int) : Prop := -(2 ^ 62) ≤ i ∧ i < 2 ^ 62 ∧ -(2 ^ 62) ≤ j ∧ j < 2 ^ 62
noncomputable instance (i j : Int) : Decidable (rngOk i j) := Classical.propDecidable _
def enumL : Nat → List T → List T
  | _, [] => []
  | i, t :: ts => .tup [.int (i : Nat), t] :: enumL (i + 1) ts
def tst (x : Option (T × Mem)) : Option (Bool × Mem) := x.bind fun p => (truth p.2 p.1).map fun b => (b, p.2)
/-- what a for walks: items, guards -/
abbrev Itm := List T × List (Nat × List T)
open Classical in
mutual
noncomputable def evE (G : Sig) : ME → En → Mem → Option (T × Mem)
  | .var i _, σ, M => match σ[i]? with
    | some (some t) => some (t, M)
    | _ => none
  | .glb x, _, M => (G.glbs.lookup x).map fun t => (t, M)
  | .non, _, M => some (.non, M)
  | .bl b, _, M => some (.bl b, M)
  | .int i, _, M => some (.int i, M)
  | .str x, _, M => some (.str x, M)
  | .bin op tr a b, σ, M => (evE G a σ M).bind fun p => (evE G b σ p.2).bind fun q => binT op tr p.1 q.1 q.2
  | .neg a, σ, M => (evE G a σ M).bind fun p => match p.1 with
    | .int i => some (.int (-i), p.2)
    | _ => none
  | .not a, σ, M => (tst (evE G a σ M)).map fun p => (.bl (!p.1), p.2)
  | .one a, σ, M => evE G a σ M
  | .and a b, σ, M => (evE G a σ M).bind fun p => (truth p.2 p.1).bind fun c => if c then evE G b σ p.2 else some p
  | .or a b, σ, M => (evE G a σ M).bind fun p => (truth p.2 p.1).bind fun c => if c then some p else evE G b σ p.2
  | .cmp op a b, σ, M => (evE G a σ M).bind fun p => (evE G b σ p.2).bind fun q => (cmpT op p.1 q.1 q.2).map fun c => (.bl c, q.2)
  | .ife c a b, σ, M => (tst (evE G c σ M)).bind fun p => if p.1 then evE G a σ p.2 else evE G b σ p.2
  | .call f es, σ, M => (evEs G es σ M).bind fun p => (G.fns.lookup f).bind fun F => F p.1 p.2
  | .bi b es, σ, M => (evEs G es σ M).bind fun p => biT b p.1 p.2
  | .isi a ty, σ, M => (evE G a σ M).bind fun p => (isiT p.2 ty p.1).map fun c => (.bl c, p.2)
  | .mcall c o m es, σ, M => (evE G o σ M).bind fun p => match p.1 with
    | .obj i => match p.2[i]? with
      | some (.ins c' fs) => if c' = c ∧ fs.lookup m = none then (evEs G es σ p.2).bind fun q => (G.cls.lookup c).bind fun C => (C.meths.lookup m).bind fun F => F (p.1 :: q.1) q.2 else none
      | _ => none
    | _ => none
  | .bm b o es, σ, M => (evE G o σ M).bind fun p => (lof p.2 p.1).bind fun _ => (evEs G es σ p.2).bind fun q => bmT b p.1 q.1 q.2
  | .mk c es, σ, M => (evEs G es σ M).bind fun p => (G.cls.lookup c).bind fun C => C.init.bind fun F =>
      (F (.obj p.2.length :: p.1) (p.2 ++ [.ins c []])).bind fun r => match r.1 with
        | .non => some (.obj p.2.length, r.2)
        | _ => none
  | .ix a b, σ, M => (evE G a σ M).bind fun p => (evE G b σ p.2).bind fun q => (ixT p.1 q.1 q.2).map fun t => (t, q.2)
  | .slc tr a lo hi, σ, M => (evE G a σ M).bind fun p => (evP G lo σ p.2).bind fun l => (evP G hi σ l.2).bind fun h => slT tr p.1 l.1 h.1 h.2
  | .nopart, _, _ => none
  | .rev tr a, σ, M => (evE G a σ M).bind fun p => revT tr p.1 p.2
  | .att c o f, σ, M => (evE G o σ M).bind fun p => match p.1 with
    | .obj i => match p.2[i]? with
      | some (.ins c' fs) => if c' = c then (G.cls.lookup c).bind fun C => if f ∈ C.attrs then (fs.lookup f).map fun t => (t, p.2) else none else none
      | _ => none
    | _ => none
  | .tup es, σ, M => (evEs G es σ M).bind fun p => if p.1.length ≤ 16777216 then some (.tup p.1, p.2) else none
  | .lst tr es, σ, M => (evEs G es σ M).bind fun p => if p.1.length ≤ 16777216 then some (mkL tr p.1 p.2) else none
  | .lc tr own tg it ifs elt, σ, M => (evI G it σ M).bind fun p =>
      (lcC p.1.2 (fun t M => (asgT tg t (wipeE σ (own.map (·.2)))).bind fun σ2 => (evIf G ifs σ2 M).bind fun c => if c.1 then (evE G elt σ2 c.2).map fun r => ([r.1], r.2) else some ([], c.2)) p.1.1 p.2).bind fun q =>
        if q.1.length ≤ 16777216 then some (mkL tr q.1 q.2) else none
  | .lc2 tr own tg it ifs vs1 tg1 it1 ifs1 elt, σ, M => (evI G it σ M).bind fun p =>
      (lcC p.1.2 (fun t M => (asgT tg t (wipeE σ (own.map (·.2)))).bind fun σ2 => (evIf G ifs σ2 M).bind fun c => if c.1 then (evI G it1 σ2 c.2).bind fun p1 =>
          lcC p1.1.2 (fun t M => (asgT tg1 t (wipeE σ2 vs1)).bind fun σ3 => (evIf G ifs1 σ3 M).bind fun c => if c.1 then (evE G elt σ3 c.2).map fun r => ([r.1], r.2) else some ([], c.2)) p1.1.1 p1.2
        else some ([], c.2)) p.1.1 p.2).bind fun q =>
        if q.1.length ≤ 16777216 then some (mkL tr q.1 q.2) else none
  | .dnew t, _, M => if t = true ∧ G.kt = true then none else some (.obj M.length, M ++ [.dic t [] []])
  | .dc own tg it k v, σ, M => (evI G it σ M).bind fun p =>
      (lcC p.1.2 (fun t M => (asgT tg t (wipeE σ (own.map (·.2)))).bind fun σ2 => (evE G k σ2 M).bind fun a => (evE G v σ2 a.2).bind fun b => if isKey a.1 then some ([a.1, b.1], b.2) else none) p.1.1 p.2).bind fun q =>
        let r := dcPut q.1 ([], [])
        if q.1.length ≤ 1000000 then some (.fd false r.1 r.2, q.2) else none
  | .sset a, σ, M => (evE G a σ M).bind fun p => (sof p.2 p.1).bind fun ts => (intsOf ts).bind fun ns => if ns.length < 64 then some (.fl ((sortI (ddp ns)).map .int), p.2) else none
  | .lset a, σ, M => (evE G a σ M).bind fun p => (sof p.2 p.1).bind fun ts => if ts.length < 64 then (match intsOf ts with
    | some ns => some (.int (ddp ns).length, p.2)
    | none => (tupsOf ts).map fun ks => (.int (ddp ks).length, p.2)) else none
  | .rtup a, σ, M => (evE G a σ M).bind fun p => match p.1 with
    | .int j => if 0 ≤ j ∧ j ≤ 16777216 then some (.tup (rngL 0 j), p.2) else none
    | _ => none
  | .rlst tr a, σ, M => (evE G a σ M).bind fun p => match p.1 with
    | .int j => if 0 ≤ j ∧ j ≤ 16777216 then some (mkL tr (rngL 0 j) p.2) else none
    | _ => none
  | .dlit es, σ, M => (evEs G es σ (M ++ [.dic false [] []])).bind fun p => match p.2[M.length]? with
    | some (.dic false [] []) => if altK p.1 = true then some (.obj M.length, p.2.set M.length (.dic false (dcPut p.1 ([], [])).1 (dcPut p.1 ([], [])).2)) else none
    | _ => none
  | .dget d x y, σ, M => (evE G d σ M).bind fun p => (dof p.2 p.1).bind fun _ => (evE G x σ p.2).bind fun q => (evE G y σ q.2).bind fun r => (dof r.2 p.1).bind fun w =>
      if isKeyT w.1 q.1 = true then some ((lkp w.2.1 w.2.2 q.1).getD r.1, r.2) else none
  | .dsd d x y, σ, M => (evE G d σ M).bind fun p => (dof p.2 p.1).bind fun _ => (evE G x σ p.2).bind fun q => (evE G y σ q.2).bind fun r => match p.1 with
    | .obj i => match r.2[i]? with
      | some (.dic false ks ts) => if isKey q.1 = true ∧ ks.length < 16777216 then (match lkp ks ts q.1 with
        | some u => some (u, r.2)
        | none => some (r.1, r.2.set i (.dic false (putD ks ts q.1 r.1).1 (putD ks ts q.1 r.1).2))) else none
      | _ => none
    | _ => none
  | .skc q a, σ, M => (evE G a σ M).bind fun p => (lof p.2 p.1).bind fun ts => (keys2 ts).bind fun l => if hasTab q p.2 = true ∧ ts.length ≤ 16777216 then some (.fl (srt2 l), p.2) else none
  | .spr a, σ, M => (evE G a σ M).bind fun p => (lof p.2 p.1).bind fun ts => (tupsOf ts).bind fun ks => if ks.length < 64 ∧ (∀ k ∈ ks, pr64 k = true) then some (.fl ((sortK (ddp ks)).map fun k => .tup (k.map .int)), p.2) else none
  | .sko q i _ a, σ, M => (evE G a σ M).bind fun p => match σ[i]? with
    | some (some t) => (lof p.2 t).bind fun ts => (keys3 ts).bind fun ys => match p.1 with
      | .int n => if hasTab q p.2 = true ∧ ts.length ≤ 16777216 ∧ n = ts.length then some (.fl ((srtAt ys).map T.int), p.2) else none
      | _ => none
    | _ => none
noncomputable def evP (G : Sig) : ME → En → Mem → Option (Option Int × Mem)
  | .nopart, _, M => some (none, M)
  | .int i, _, M => some (some i, M)
  | e, σ, M => (evE G e σ M).bind fun p => match p.1 with
    | .int i => some (some i, p.2)
    | _ => none
noncomputable def evEs (G : Sig) : MEs → En → Mem → Option (List T × Mem)
  | .nil, _, M => some ([], M)
  | .cons e es, σ, M => (evE G e σ M).bind fun p => (evEs G es σ p.2).map fun q => (p.1 :: q.1, q.2)
noncomputable def evIf (G : Sig) : MEs → En → Mem → Option (Bool × Mem)
  | .nil, _, M => some (true, M)
  | .cons e .nil, σ, M => tst (evE G e σ M)
  | _, _, _ => none
noncomputable def evI (G : Sig) : MI → En → Mem → Option (Itm × Mem)
  | .over a, σ, M => (evE G a σ M).bind fun p => (sof p.2 p.1).map fun ts => ((ts, grdOf p.1 ts), p.2)
  | .rng1 a, σ, M => (evE G a σ M).bind fun p => match p.1 with
    | .int j => if rngOk 0 j then some ((rngL 0 j, []), p.2) else none
    | _ => none
  | .rng2 a b, σ, M => (evE G a σ M).bind fun p => (evE G b σ p.2).bind fun q => match p.1, q.1 with
    | .int i, .int j => if rngOk i j then some ((rngL i j, []), q.2) else none
    | _, _ => none
  | .enum a, σ, M => (evE G a σ M).bind fun p => (sof p.2 p.1).map fun ts => ((enumL 0 ts, grdOf p.1 ts), p.2)
  | .zip2 a b, σ, M => (evE G a σ M).bind fun p => (evE G b σ p.2).bind fun q => (sof q.2 p.1).bind fun xs => (sof q.2 q.1).map fun ys =>
      ((List.zipWith (fun x y => T.tup [x, y]) xs ys, grdOf p.1 xs ++ grdOf q.1 ys), q.2)
  | .zip3 a b c, σ, M => (evE G a σ M).bind fun p => (evE G b σ p.2).bind fun q => (evE G c σ q.2).bind fun r => (sof r.2 p.1).bind fun xs => (sof r.2 q.1).bind fun ys => (sof r.2 r.1).map fun zs =>
      ((List.zipWith (fun x (p : T × T) => T.tup [x, p.1, p.2]) xs (ys.zip zs), grdOf p.1 xs ++ grdOf q.1 ys ++ grdOf r.1 zs), r.2)
end
end Mi
end L2

/-! Mini: statements, loops, defs. -/
namespace L2
namespace Mi
open PySem PySem.Spec PyProof.Rows

inductive R where
  | nx (σ : En) (M : Mem) | rt (t : T) (M : Mem) | bk (σ : En) (M : Mem) | ct (σ : En) (M : Mem)

def whileN (c : En → Mem → Option (Bool × Mem)) (b : En → Mem → Option R) : Nat → En → Mem → Option R
  | 0, _, _ => none
  | n + 1, σ, M => match c σ M with
    | some (true, M1) => match b σ M1 with
      | some (.nx σ' M') => whileN c b n σ' M'
      | some (.ct σ' M') => whileN c b n σ' M'
      | some (.bk σ' M') => some (.nx σ' M')
      | r => r
    | some (false, M1) => some (.nx σ M1)
    | none => none
theorem whileN_mono {c : En → Mem → Option (Bool × Mem)} {b : En → Mem → Option R} : ∀ (n k : Nat) (σ : En) (M : Mem) (r : R), whileN c b n σ M = some r → n ≤ k → whileN c b k σ M = some r
  | 0, _, _, _, _, h, _ => by simp [whileN] at h
  | n + 1, 0, _, _, _, _, hk => by omega
  | n + 1, k + 1, σ, M, r, h, hk => by
    unfold whileN at h ⊢
    cases hc : c σ M with
    | none => rw [hc] at h; simp at h
    | some p =>
      obtain ⟨t, M1⟩ := p
      rw [hc] at h
      cases t with
      | false => exact h
      | true =>
        simp only at h ⊢
        cases hb : b σ M1 with
        | none => rw [hb] at h; exact h
        | some x =>
          rw [hb] at h
          cases x with
          | nx s m => exact whileN_mono n k s m r h (by omega)
          | ct s m => exact whileN_mono n k s m r h (by omega)
          | bk s m => exact h
          | rt t m => exact h
open Classical in
noncomputable def whileC (c : En → Mem → Option (Bool × Mem)) (b : En → Mem → Option R) (σ : En) (M : Mem) : Option R :=
  if h : ∃ n r, whileN c b n σ M = some r then some (choose (choose_spec h)) else none
theorem whileC_of {c : En → Mem → Option (Bool × Mem)} {b : En → Mem → Option R} {n : Nat} {σ : En} {M : Mem} {r : R} (h : whileN c b n σ M = some r) : whileC c b σ M = some r := by
  have hh : ∃ n r, whileN c b n σ M = some r := ⟨n, r, h⟩
  unfold whileC
  rw [dif_pos hh]
  have s := Classical.choose_spec (Classical.choose_spec hh)
  have h1 := whileN_mono _ (max n (Classical.choose hh)) _ _ _ h (Nat.le_max_left _ _)
  have h2 := whileN_mono _ (max n (Classical.choose hh)) _ _ _ s (Nat.le_max_right _ _)
  rw [h1] at h2
  exact h2.symm
theorem of_whileC {c : En → Mem → Option (Bool × Mem)} {b : En → Mem → Option R} {σ : En} {M : Mem} {r : R} (h : whileC c b σ M = some r) : ∃ n, whileN c b n σ M = some r := by
  unfold whileC at h
  split at h
  · rename_i hh
    have s := Classical.choose_spec (Classical.choose_spec hh)
    cases h
    exact ⟨_, s⟩
  · cases h
/-- one turn -/
theorem whileC_eq (c : En → Mem → Option (Bool × Mem)) (b : En → Mem → Option R) (σ : En) (M : Mem) :
    whileC c b σ M = match c σ M with
    | some (true, M1) => (match b σ M1 with
      | some (.nx σ' M') => whileC c b σ' M'
      | some (.ct σ' M') => whileC c b σ' M'
      | some (.bk σ' M') => some (.nx σ' M')
      | r => r)
    | some (false, M1) => some (.nx σ M1)
    | none => none := by
  have key : ∀ (x : Option R), (∀ r, x = some r → ∃ n, whileN c b n σ M = some r) → (∀ n r, whileN c b n σ M = some r → x = some r) → whileC c b σ M = x := by
    intro x h1 h2
    cases hx : x with
    | some r =>
      obtain ⟨n, hn⟩ := h1 r hx
      exact whileC_of hn
    | none =>
      cases hw : whileC c b σ M with
      | none => rfl
      | some r =>
        obtain ⟨n, hn⟩ := of_whileC hw
        have := h2 n r hn
        rw [hx] at this; cases this
  refine key _ (fun r h => ?_) (fun n r h => ?_)
  · cases hc : c σ M with
    | none => rw [hc] at h; cases h
    | some p =>
      obtain ⟨t, M1⟩ := p
      rw [hc] at h
      cases t with
      | false => exact ⟨1, by unfold whileN; rw [hc]; exact h⟩
      | true =>
        simp only at h
        cases hb : b σ M1 with
        | none => rw [hb] at h; cases h
        | some x =>
          rw [hb] at h
          cases x with
          | nx s m =>
            obtain ⟨n, hn⟩ := of_whileC h
            exact ⟨n + 1, by unfold whileN; rw [hc]; simp only [hb]; exact hn⟩
          | ct s m =>
            obtain ⟨n, hn⟩ := of_whileC h
            exact ⟨n + 1, by unfold whileN; rw [hc]; simp only [hb]; exact hn⟩
          | bk s m => exact ⟨1, by unfold whileN; rw [hc]; simp only [hb]; exact h⟩
          | rt t m => exact ⟨1, by unfold whileN; rw [hc]; simp only [hb]; exact h⟩
  · cases n with
    | zero => simp [whileN] at h
    | succ n =>
      unfold whileN at h
      cases hc : c σ M with
      | none => rw [hc] at h; cases h
      | some p =>
        obtain ⟨t, M1⟩ := p
        rw [hc] at h
        cases t with
        | false => exact h
        | true =>
          simp only at h ⊢
          cases hb : b σ M1 with
          | none => rw [hb] at h; exact h
          | some x =>
            rw [hb] at h
            cases x with
            | nx s m => exact whileC_of h
            | ct s m => exact whileC_of h
            | bk s m => exact h
            | rt t m => exact h
open Classical in
noncomputable def forC (g : List (Nat × List T)) (step : T → En → Mem → Option R) : List T → En → Mem → Option R
  | [], σ, M => if Grd g M then some (.nx σ M) else none
  | t :: ts, σ, M => if Grd g M then (match step t σ M with
    | some (.nx σ' M') => forC g step ts σ' M'
    | some (.ct σ' M') => forC g step ts σ' M'
    | some (.bk σ' M') => some (.nx σ' M')
    | r => r) else none
def putA (f : Str) (v : T) : List (Str × T) → List (Str × T)
  | [] => [(f, v)]
  | (g, x) :: r => if g = f then (g, v) :: r else (g, x) :: putA f v r
def parE (σ : En) : List (Nat × Str) → List T → En
  | (i, _) :: xs, t :: ts => parE (σ.set i (some t)) xs ts
  | _, _ => σ
def augT (op : Operator) (x y : T) : Option T :=
  match op, x, y with
  | .Add, .int i, .int j => some (.int (i + j))
  | .Sub, .int i, .int j => some (.int (i - j))
  | _, _, _ => none
mutual
noncomputable def exS (G : Sig) : MS → En → Mem → Option R
  | .set i _ e, σ, M => (evE G e σ M).map fun p => .nx (σ.set i (some p.1)) p.2
  | .asg t e, σ, M => (evE G e σ M).bind fun p => (asgT t p.1 σ).map fun σ1 => .nx σ1 p.2
  | .setI o i e, σ, M => (evE G e σ M).bind fun v => (evE G o σ v.2).bind fun p => (evE G i σ p.2).bind fun q => (setT p.1 q.1 v.1 q.2).map fun M1 => .nx σ M1
  | .par xs es, σ, M => (evEs G es σ M).bind fun p => if p.1.length = xs.length then some (.nx (parE σ xs p.1) p.2) else none
  | .setA c o f e, σ, M => (evE G e σ M).bind fun v => (evE G o σ v.2).bind fun p => match p.1 with
    | .obj i => match p.2[i]? with
      | some (.ins c' fs) => if c' = c ∧ fs.length < 1000 then (G.cls.lookup c).bind fun C => if f ∈ C.attrs then some (.nx σ (p.2.set i (.ins c (putA f v.1 fs)))) else none else none
      | _ => none
    | _ => none
  | .aug i _ op e, σ, M => match σ[i]? with
    | some (some x) => (evE G e σ M).bind fun p => (augT op x p.1).map fun y => .nx (σ.set i (some y)) p.2
    | _ => none
  | .augI o i op e, σ, M => (evE G o σ M).bind fun p => (evE G i σ p.2).bind fun q => (ixT p.1 q.1 q.2).bind fun x => (evE G e σ q.2).bind fun y => (augT op x y.1).bind fun z =>
      (setT p.1 q.1 z y.2).map fun M1 => .nx σ M1
  | .ex e, σ, M => (evE G e σ M).map fun p => .nx σ p.2
  | .ret e, σ, M => (evE G e σ M).map fun p => .rt p.1 p.2
  | .retN, _, M => some (.rt .non M)
  | .ite c a b, σ, M => (tst (evE G c σ M)).bind fun p => if p.1 then exSs G a σ p.2 else exSs G b σ p.2
  | .whl c b, σ, M => whileC (fun σ M => tst (evE G c σ M)) (fun σ M => exSs G b σ M) σ M
  | .for t it b, σ, M => (evI G it σ M).bind fun p => forC p.1.2 (fun x σ M => (asgT t x σ).bind fun σ1 => exSs G b σ1 M) p.1.1 σ p.2
  | .brk, σ, M => some (.bk σ M)
  | .cnt, σ, M => some (.ct σ M)
  | .pas, σ, M => some (.nx σ M)
noncomputable def exSs (G : Sig) : List MS → En → Mem → Option R
  | [], σ, M => some (.nx σ M)
  | s :: ss, σ, M => match exS G s σ M with
    | some (.nx σ1 M1) => exSs G ss σ1 M1
    | r => r
end
/-- a def -/
structure MD where
  ps : List Str
  N : List Str
  body : List MS
  sl : Bool := true
def startE (N : List Str) (ts : List T) : En := ts.map some ++ List.replicate (N.length - ts.length) none
open Classical in
/-- behind a call: what was made for the answer alone is told by value -/
noncomputable def fin (sl : Bool) (M : Mem) (r : T) (M1 : Mem) : T × Mem :=
  if sl = true ∧ M1.take M.length = M then (match sealT M1 M.length 6 r with | some r' => (r', M) | none => (r, M1)) else (r, M1)
noncomputable def runD (G : Sig) (d : MD) : Fn := fun ts M =>
  if ts.length = d.ps.length then (exSs G d.body (startE d.N ts) M).bind fun r => match r with
    | .rt t M1 => some (fin d.sl M t M1)
    | .nx _ M1 => some (fin d.sl M .non M1)
    | _ => none
  else none
end Mi
end L2

/-! Mini: the operators are the model's. -/
namespace L2
namespace Mi
open PySem PySem.Spec PyProof.Rows

/-- what is wanted of a value and a memory -/
def Ok1 (K : KC) (φ ψ : List Addr) (H : Hp) (t : T) (M : Mem) (Q : VK) : Prop :=
  ∀ φ' H' v, Ext φ H φ' H' → RM K φ' ψ H' M → RT K φ' ψ H' t v → Q v H'
section
variable {K : KC} {φ φ' ψ : List Addr} {H H' : Hp} {M : Mem} {Q : VK} {t : T} {ts : List T} {vs : List V}
theorem Ok1.ext (o : Ok1 K φ ψ H t M Q) (x : Ext φ H φ' H') : Ok1 K φ' ψ H' t M Q := fun φ2 H2 v y => o φ2 H2 v (x.trans y)
theorem Ok1.here (o : Ok1 K φ ψ H t M Q) (r : RM K φ ψ H M) {v : V} (h : RT K φ ψ H t v) : Q v H := o φ H v .refl r h
theorem fre_new (r : RM K φ ψ H M) {p : Addr} (hp : H p = none) : Fre φ ψ p := ⟨r.fresh hp, fun hm => r.used p hm hp⟩
theorem Ok1.newTup (o : Ok1 K φ ψ H (.tup ts) M Q) (r : RM K φ ψ H M) (h : RTs K φ ψ H ts vs) {p : Addr} (hp : H p = none) : Q (.ref p) (upd H p (.tup vs)) := by
  have hf := fre_new r hp
  have x : Ext φ H φ (upd H p (.tup vs)) := .new hp hf.1
  exact o φ _ _ x (r.new hp) (.tup (.inl ⟨hf, upd_same⟩) (h.to x))
theorem Ok1.newL {tr : Bool} (o : Ok1 K φ ψ H (mkL tr ts M).1 (mkL tr ts M).2 Q) (r : RM K φ ψ H M) (h : RTs K φ ψ H ts vs) {p : Addr} (hp : H p = none) : Q (.ref p) (upd H p (.lst vs)) := by
  have hf := fre_new r hp
  cases tr with
  | false =>
    have x : Ext φ H φ (upd H p (.lst vs)) := .new hp hf.1
    exact o φ _ _ x (r.new hp) (.fl hf upd_same (h.to x))
  | true =>
    have x : Ext φ H (φ ++ [p]) (upd H p (.lst vs)) := .push hp
    refine o _ _ _ x (r.push hp ⟨vs, upd_same, h.to x⟩) (.obj ?_)
    rw [← r.len, List.getElem?_append_right (Nat.le_refl _), Nat.sub_self]
    rfl
theorem RM.obj (r : RM K φ ψ H M) {i : Nat} {o : O} {a : Addr} (h : φ[i]? = some a) (e : M[i]? = some o) : RO K φ ψ H a o := r.at_ i a o h e
theorem lof_obj {i : Nat} (e : lof M (.obj i) = some ts) : M[i]? = some (.lst ts) := by
  simp only [lof] at e
  split at e
  · rename_i us hus
    cases e
    exact hus
  · cases e
/-- what a list value is -/
theorem lof_ok (r : RM K φ ψ H M) {v : V} (h : RT K φ ψ H t v) (e : lof M t = some ts) : ∃ a vs, v = .ref a ∧ H a = some (.lst vs) ∧ RTs K φ ψ H ts vs := by
  cases h with
  | fl h1 h2 h3 => cases e; exact ⟨_, _, rfl, h2, h3⟩
  | obj h1 =>
    obtain ⟨vs, q1, q2⟩ := r.obj h1 (lof_obj e)
    exact ⟨_, vs, rfl, q1, q2⟩
  | _ => exact nomatch e
theorem lofS_ok (r : RM K φ ψ H M) {v : V} (h : RT K φ ψ H t v) (e : lofS M t = some ts) : ∃ a vs, v = .ref a ∧ SqL K.K H a vs ∧ RTs K φ ψ H ts vs := by
  unfold lofS at e
  split at e
  · cases e
    cases h with
    | sc h => exact ⟨_, _, rfl, h.sq, RTs.ints' _⟩
  · obtain ⟨a, vs, h1, h2, h3⟩ := lof_ok r h e
    exact ⟨a, vs, h1, .of h2, h3⟩
theorem sof_ok (r : RM K φ ψ H M) {v : V} (h : RT K φ ψ H t v) (e : sof M t = some ts) : ∃ a vs, v = .ref a ∧ RTs K φ ψ H ts vs ∧ ((SqL K.K H a vs ∧ ∀ us, t ≠ .tup us) ∨ (SqT K.K H a vs ∧ t = .tup ts)) := by
  unfold sof at e
  split at e
  · cases e
    cases h with
    | tup h1 h2 => exact ⟨_, _, rfl, h2, .inr ⟨h1.sq, rfl⟩⟩
  · rename_i hne
    obtain ⟨a, vs, h1, h2, h3⟩ := lofS_ok r h e
    exact ⟨a, vs, h1, h3, .inl ⟨h2, hne⟩⟩
end
theorem szl : sizeLine = 16777216 := sizeLine_eq
theorem mulOk.ok {i j : Int} (h : mulOk i j) : IntMulOk i j := by
  have b : ∀ x : Int, Builtin.Int.intBits x ≤ x.natAbs.log2 + 1 := fun x => by
    unfold Builtin.Int.intBits
    split <;> omega
  have h1 := b i
  have h2 := b j
  have h3 : i.natAbs.log2 + j.natAbs.log2 < 134000000 := h
  have e : bitsLine = 134217728 := by decide
  unfold IntMulOk
  intro z
  rw [Bool.and_eq_true] at z
  have z2 := z.2
  unfold Builtin.Int.intTooBig at z2
  have z3 := of_decide_eq_true z2
  rw [e] at z3
  omega
section
variable {X : Cx} {K : KC}
theorem op_mulM : OpR X (binaryOp .Mult) (rI mulOk fun i j => .int (i * j)) := opI fun _ _ _ _ _ _ _ hc q => mul_int q hc.ok
/-- room for a division of any size -/
structure SeerX (X : Cx) : Prop where
  tree : X.prog.given.tree = none
  seer : X.base.NoSeer
  dep : X.A.depth + Builtin.pylongFrames < recursionLimit
  stk : ∃ e l, X.stack = e :: l ∧ e.scope.isGenerator = false ∧ e.scope.isCoroutine = false ∧ e.builtins = builtinsNs ∧ e.globals = mainGlobals
theorem op_divM (hS : SeerX X) : OpR X (binaryOp .FloorDiv) (rI (fun _ j => divOk j) fun i j => .int (i.fdiv j)) := by
  intro pins s σ H x y v u Q I rx ry h
  obtain ⟨i, j, rfl, rfl, hc, q⟩ := h
  obtain ⟨t, rfl⟩ := rx
  obtain ⟨t', rfl⟩ := ry
  obtain ⟨e, l, h1, h2, h3, h4, h5⟩ := hS.stk
  have kp : ∀ b o, X.base.get? b = some o → s.heap.get? b = some o := fun b o z => (I.env0.bs b o z).1
  exact floordiv_int hc ⟨.int _, H, I.tok _, ⟨_, rfl⟩, q⟩ (.inr (PylongRoom.of (I.env0.mod.nolimit.keeps kp) hS.dep (SeerAt.of (hS.seer.keeps kp) hS.tree (by rw [I.env0.frames, h1]) h2 h3 h4 h5)))
/-! ### tuple * 0, tuple * 1 -/
theorem tuple_mulW1 (l : Addr) (items : Array Value) (n : Nat) (dd : Option Addr) (sl : Array (Option Value)) (x : Int) (u : Tok) (c1 : x = 1) :
    Meets (Builtin.«tuple.__mul__» ⟨[.ref l, .int x u], []⟩) (fun _ R s => s.heap.get? l = some { cls := .type "tuple", dict := dd, data := .seq items n, slots := sl } ∧
      R (.ok (.ret (Value.ref l))) s) :=
  .of_wp fun prog w A R s h => by
    obtain ⟨hp, g, d, tk, os⟩ := s
    obtain ⟨hl, h⟩ := h
    subst c1
    have f1 := AutoSeq1.idx_int
    wp_walk using wpAny_loadPart' hl
    repeat (first
      | (refine wpAny_ite_false (decide_eq_false (by decide)) ?_; wp_walk using wpAny_loadPart' hl)
      | (refine wpAny_ite_true (decide_eq_true (by simp)) ?_; wp_walk using wpAny_loadPart' hl))
    exact ⟨_, rfl, h⟩
theorem tuple_mulW0 (l : Addr) (items : Array Value) (n : Nat) (dd : Option Addr) (sl : Array (Option Value)) (x : Int) (u : Tok) (c1 : x = 0) (ci : items.isEmpty = false) :
    Meets (Builtin.«tuple.__mul__» ⟨[.ref l, .int x u], []⟩) (fun _ R s => s.heap.get? l = some { cls := .type "tuple", dict := dd, data := .seq items n, slots := sl } ∧
      R (.ok (.ret (Value.ref s.heap.objs.size))) { s with heap := s.heap.push { cls := Value.type "tuple", data := Data.seq #[] } }) :=
  .of_wp fun prog w A R s h => by
    obtain ⟨hp, g, d, tk, os⟩ := s
    obtain ⟨hl, h⟩ := h
    subst c1
    have f1 := AutoSeq1.idx_int
    wp_walk using wpAny_loadPart' hl
    repeat (first
      | (refine wpAny_ite_false (decide_eq_false (by decide)) ?_; wp_walk using wpAny_loadPart' hl)
      | (refine wpAny_ite_false (decide_eq_false (by rw [ci]; decide)) ?_; wp_walk using wpAny_loadPart' hl)
      | (refine wpAny_ite_true (decide_eq_true (by simp)) ?_; wp_walk using wpAny_loadPart' hl))
    exact ⟨_, rfl, h⟩
def rRep0 (K : PySem.W.Frag) : R2 := fun x y H Q => ∃ l xs, x = .ref l ∧ y = .int 0 ∧ SqT K H l xs ∧ xs ≠ [] ∧ ∀ p, H p = none → Q (.ref p) (upd H p (.tup []))
def rRep1 (K : PySem.W.Frag) : R2 := fun x y H Q => ∃ l xs, x = .ref l ∧ y = .int 1 ∧ SqT K H l xs ∧ Q (.ref l) H
theorem op_rep0 : OpR X (binaryOp .Mult) (rRep0 X.K) := by
  intro pins s σ H x y v u Q I rx ry h
  obtain ⟨l, xs, rfl, rfl, hT, hne, q⟩ := h
  cases rx
  obtain ⟨t, rfl⟩ := ry
  obtain ⟨its, r, ⟨⟨cls, dd, data, sl⟩, ho, hc, n, hd⟩, hs⟩ := I.tuple hT
  simp only at hc hd
  subst hc hd
  have hle : its.length = xs.length := r.length.symm
  have hi : its.toArray.isEmpty = false := by
    cases its with
    | nil => exact absurd (List.eq_nil_of_length_eq_zero (by simpa using hle.symm)) hne
    | cons a b => rfl
  refine wpAny_binaryOp_repeat_ref (T := "tuple") (U := "int") (by decide) ⟨_, ho, rfl⟩ (fun s' => typeIs_int s' 0 t) noFill_tuple_mul F.fills_int_mul F.slot_int_rmul repeat_tuple F.slot_int_index.lookup
    (call_meets F.slot_int_rmul (typeIs_int s 0 t) F.entry_int_rmul (F.args_int_rmul_2 _ _) (int_rmul_tuple 0 t l its.toArray n dd sl)
      ⟨ho, rfl, ⟨_, ho, rfl⟩, call_meets F.slot_tuple_mul ⟨_, ho, rfl⟩ F.entry_tuple_mul (F.args_tuple_mul_2 _ _) (tuple_mulW0 l its.toArray n dd sl 0 t rfl hi) ⟨ho, ?_⟩⟩)
  refine ⟨.ref s.heap.objs.size, _, I.laid (t' := s.toks) (o := .tup []) (fun b ob q => Heap.get?_push_of_some _ q) (Nat.le_refl _) ?_, rfl, q _ (I.hok.fresh (Nat.le_refl _))⟩
  exact ⟨Nat.zero_le _, [], .nil, IsTup.new _ _⟩
theorem op_rep1 : OpR X (binaryOp .Mult) (rRep1 X.K) := by
  intro pins s σ H x y v u Q I rx ry h
  obtain ⟨l, xs, rfl, rfl, hT, q⟩ := h
  cases rx
  obtain ⟨t, rfl⟩ := ry
  obtain ⟨its, r, ⟨⟨cls, dd, data, sl⟩, ho, hc, n, hd⟩, hs⟩ := I.tuple hT
  simp only at hc hd
  subst hc hd
  refine wpAny_binaryOp_repeat_ref (T := "tuple") (U := "int") (by decide) ⟨_, ho, rfl⟩ (fun s' => typeIs_int s' 1 t) noFill_tuple_mul F.fills_int_mul F.slot_int_rmul repeat_tuple F.slot_int_index.lookup
    (call_meets F.slot_int_rmul (typeIs_int s 1 t) F.entry_int_rmul (F.args_int_rmul_2 _ _) (int_rmul_tuple 1 t l its.toArray n dd sl)
      ⟨ho, rfl, ⟨_, ho, rfl⟩, call_meets F.slot_tuple_mul ⟨_, ho, rfl⟩ F.entry_tuple_mul (F.args_tuple_mul_2 _ _) (tuple_mulW1 l its.toArray n dd sl 1 t rfl) ⟨ho, ?_⟩⟩)
  exact ⟨.ref l, H, I, rfl, q⟩

/-! ### every operator -/
def rBin (K : KC) (op : Operator) (tr : Bool) : R2 := fun vx vy H Q =>
  ∃ φ ψ M x y t M', RM K φ ψ H M ∧ RT K φ ψ H x vx ∧ RT K φ ψ H y vy ∧ binT op tr x y M = some (t, M') ∧ Ok1 K φ ψ H t M' Q
theorem op_bin (hK : K.K = X.K) (hS : SeerX X) (op : Operator) (tr : Bool) : OpR X (binaryOp op) (rBin K op tr) := by
  intro pins s σ H vx vy v u Q I rx ry h
  obtain ⟨φ, ψ, M, x, y, t, M', rm, r1, r2, e, ok⟩ := h
  have sz := szl
  unfold binT at e
  split at e
  · cases e; cases r1; cases r2
    exact op_add pins s σ H _ _ v u Q I rx ry ⟨_, _, rfl, rfl, ok.here rm (.int _)⟩
  · cases e; cases r1; cases r2
    exact op_sub pins s σ H _ _ v u Q I rx ry ⟨_, _, rfl, rfl, ok.here rm (.int _)⟩
  · split at e
    · rename_i hm
      cases e; cases r1; cases r2
      exact op_mulM pins s σ H _ _ v u Q I rx ry ⟨_, _, rfl, rfl, hm, ok.here rm (.int _)⟩
    · cases e
  · split at e
    · rename_i hm
      cases e; cases r1; cases r2
      exact op_divM hS pins s σ H _ _ v u Q I rx ry ⟨_, _, rfl, rfl, hm, ok.here rm (.int _)⟩
    · cases e
  · split at e
    · rename_i hm
      cases e; cases r1; cases r2
      exact op_modN pins s σ H _ _ v u Q I rx ry ⟨_, _, rfl, rfl, hm, ok.here rm (.int _)⟩
    · cases e
  · split at e
    · rename_i hm
      cases e; cases r1; cases r2
      exact op_pow pins s σ H _ _ v u Q I rx ry ⟨_, _, rfl, rfl, hm, ok.here rm (.int _)⟩
    · cases e
  · split at e
    · rename_i hm
      cases e; cases r1; cases r2
      exact op_add_str pins s σ H _ _ v u Q I rx ry ⟨_, _, rfl, rfl, by omega, ok.here rm (.str _)⟩
    · cases e
  · split at e
    · rename_i a b hm
      cases e; cases r1; cases r2
      rename_i c1 us1 g1 z1 c2 us2 g2 z2
      have l1 := z1.length
      have l2 := z2.length
      refine op_catA pins s σ H _ _ v u Q I rx ry ⟨_, _, _, _, rfl, rfl, (hK ▸ g1.sq), (hK ▸ g2.sq), by omega, fun e0 => ?_, fun _ e0 => ?_, fun _ _ p hp => ?_⟩
      · subst e0
        cases z1
        exact ok.here rm (.tup g2 z2)
      · subst e0
        cases z2
        rw [List.append_nil] at ok
        exact ok.here rm (.tup g1 z1)
      · exact ok.newTup rm (z1.append z2) hp
    · cases e
  · split at e
    · rename_i a j hm
      obtain ⟨h0, h1, h2, h3⟩ := hm
      cases e; cases r1; cases r2
      rename_i c1 us1 g1 z1
      have l1 := z1.length
      have hne : us1 ≠ [] := fun z => by
        subst z
        cases z1
        exact h3 rfl
      by_cases j0 : j = 0
      · subst j0
        exact op_rep0 pins s σ H _ _ v u Q I rx ry ⟨_, _, rfl, rfl, (hK ▸ g1.sq), hne, fun p hp => ok.newTup rm (ts := []) .nil hp⟩
      · by_cases j1 : j = 1
        · subst j1
          refine op_rep1 pins s σ H _ _ v u Q I rx ry ⟨_, _, rfl, rfl, (hK ▸ g1.sq), ?_⟩
          have e1 : (List.replicate (1 : Int).toNat a).flatten = a := by simp
          rw [e1] at ok
          exact ok.here rm (.tup g1 z1)
        · exact op_repT pins s σ H _ _ v u Q I rx ry ⟨_, _, _, rfl, rfl, (hK ▸ g1.sq), hne, by omega, h1, by omega, fun p hp => ok.newTup rm (z1.rep _) hp⟩
    · cases e
  · obtain ⟨a, ea, e⟩ := Option.bind_eq_some_iff.mp e
    obtain ⟨b, eb, e⟩ := Option.bind_eq_some_iff.mp e
    split at e
    · rename_i hm
      obtain ⟨c1, us1, rfl, g1, z1⟩ := lof_ok rm r1 ea
      obtain ⟨c2, us2, rfl, g2, z2⟩ := lof_ok rm r2 eb
      have l1 := z1.length
      have l2 := z2.length
      obtain ⟨rfl, rfl⟩ := Prod.mk.inj (Option.some.inj e)
      exact op_cat pins s σ H _ _ v u Q I rx ry ⟨_, _, _, _, rfl, rfl, g1, g2, by omega, fun p hp => ok.newL rm (z1.append z2) hp⟩
    · cases e
  · obtain ⟨a, ea, e⟩ := Option.bind_eq_some_iff.mp e
    split at e
    · rename_i hm
      obtain ⟨c1, us1, rfl, g1, z1⟩ := lof_ok rm r1 ea
      have l1 := z1.length
      cases r2
      obtain ⟨rfl, rfl⟩ := Prod.mk.inj (Option.some.inj e)
      exact op_rep pins s σ H _ _ v u Q I rx ry ⟨_, _, _, rfl, rfl, g1, hm.1.1, hm.1.2, by rw [← l1, sz]; exact hm.2, fun p hp => ok.newL rm (z1.rep _) hp⟩
    · cases e
  · cases e
end
end Mi
end L2

/-! Mini: equality, membership, comparisons, truth. -/
namespace L2
namespace Mi
open PySem PySem.Spec PyProof.Rows

mutual
def toD : T → PyData
  | .non => .none
  | .bl b => .bool b
  | .int i => .int i
  | .str x => .str x
  | .tup ts => .tuple (toDs ts)
  | .fl ts => .list (toDs ts)
  | _ => .none
def toDs : List T → List PyData
  | [] => []
  | t :: ts => toD t :: toDs ts
end
mutual
theorem toD_eqv : ∀ (a b : T), okT a = true → okT b = true → PyData.eqv (toD a) (toD b) = eqT a b
  | .non, b, _, hb => by cases b <;> first | (exfalso; simp [okT] at hb; done) | rfl | simp [toD, PyData.eqv, eqT]
  | .bl x, b, _, hb => by cases b <;> first | rfl | simp [toD, PyData.eqv, eqT] | (simp [okT] at hb)
  | .int x, b, _, hb => by cases b <;> first | rfl | simp [toD, PyData.eqv, eqT] | (simp [okT] at hb)
  | .str x, b, _, hb => by cases b <;> first | rfl | simp [toD, PyData.eqv, eqT] | (simp [okT] at hb)
  | .tup xs, b, ha, hb => by
    cases b with
    | tup ys =>
      simp only [toD, PyData.eqv, eqT]
      simp only [okT] at ha hb
      exact toDs_eqv xs ys ha hb
    | _ => first | rfl | simp [toD, PyData.eqv, eqT] | (simp [okT] at hb)
  | .fl xs, b, ha, hb => by
    cases b with
    | fl ys =>
      simp only [toD, PyData.eqv, eqT]
      simp only [okT] at ha hb
      exact toDs_eqv xs ys ha hb
    | _ => first | rfl | simp [toD, PyData.eqv, eqT] | (simp [okT] at hb)
  | .fd _ _ _, _, ha, _ => by simp [okT] at ha
  | .sc _, _, ha, _ => by simp [okT] at ha
  | .obj _, _, ha, _ => by simp [okT] at ha
theorem toDs_eqv : ∀ (a b : List T), okTs a = true → okTs b = true → PyData.eqvAll (toDs a) (toDs b) = eqTs a b
  | [], [], _, _ => by simp [toDs, PyData.eqvAll, eqTs]
  | [], _ :: _, _, _ => by simp [toDs, PyData.eqvAll, eqTs]
  | _ :: _, [], _, _ => by simp [toDs, PyData.eqvAll, eqTs]
  | x :: xs, y :: ys, ha, hb => by
    simp only [okTs, Bool.and_eq_true] at ha hb
    simp only [toDs, PyData.eqvAll, eqTs]
    rw [toD_eqv x y ha.1 hb.1, toDs_eqv xs ys ha.2 hb.2]
end
mutual
theorem toD_lay : ∀ (a : T), okT a = true → (toD a).canLay0 = true
  | .non, _ => by simp [toD, PyData.canLay0]
  | .bl _, _ => by simp [toD, PyData.canLay0]
  | .int _, _ => by simp [toD, PyData.canLay0]
  | .str x, h => by simp only [okT] at h; simp [toD, PyData.canLay0, h]
  | .tup xs, h => by simp only [okT] at h; simp only [toD, PyData.canLay0]; exact toDs_lay xs h
  | .fl xs, h => by simp only [okT] at h; simp only [toD, PyData.canLay0]; exact toDs_lay xs h
  | .fd _ _ _, h => by simp [okT] at h
  | .sc _, h => by simp [okT] at h
  | .obj _, h => by simp [okT] at h
theorem toDs_lay : ∀ (a : List T), okTs a = true → PyData.canLayAll0 (toDs a) = true
  | [], _ => by simp [toDs, PyData.canLayAll0]
  | x :: xs, h => by
    simp only [okTs, Bool.and_eq_true] at h
    simp only [toDs, PyData.canLayAll0, Bool.and_eq_true]
    exact ⟨toD_lay x h.1, toDs_lay xs h.2⟩
end
mutual
theorem toD_dep : ∀ (a : T), okT a = true → (toD a).depth = depT a
  | .non, _ => by simp [toD, PyData.depth, depT]
  | .bl _, _ => by simp [toD, PyData.depth, depT]
  | .int _, _ => by simp [toD, PyData.depth, depT]
  | .str x, h => by simp [toD, PyData.depth, depT]
  | .tup xs, h => by simp only [okT] at h; simp only [toD, PyData.depth, depT]; rw [toDs_dep xs h]
  | .fl xs, h => by simp only [okT] at h; simp only [toD, PyData.depth, depT]; rw [toDs_dep xs h]
  | .fd _ _ _, h => by simp [okT] at h
  | .sc _, h => by simp [okT] at h
  | .obj _, h => by simp [okT] at h
theorem toDs_dep : ∀ (a : List T), okTs a = true → PyData.depthAll (toDs a) = depTs a
  | [], _ => by simp [toDs, PyData.depthAll, depTs]
  | x :: xs, h => by
    simp only [okTs, Bool.and_eq_true] at h
    simp only [toDs, PyData.depthAll, depTs]
    rw [toD_dep x h.1, toDs_dep xs h.2]
end
theorem toD_shaped {a : T} (h : okT a = true) (d : depT a ≤ 60) : SeqAt.shaped (toD a) = true := by
  show ((toD a).canLay0 && decide ((toD a).depth ≤ 64)) = true
  rw [toD_lay a h, toD_dep a h, Bool.true_and]
  exact decide_eq_true (by omega)
theorem toDs_shaped {a : List T} (h : okTs a = true) (d : depTs a ≤ 59) : SeqAt.shaped (.list (toDs a)) = true := by
  have h1 := toDs_lay a h
  have h2 := toDs_dep a h
  show ((PyData.list (toDs a)).canLay0 && decide ((PyData.list (toDs a)).depth ≤ 64)) = true
  rw [Bool.and_eq_true]
  exact ⟨by simp only [PyData.canLay0]; exact h1, decide_eq_true (by simp only [PyData.depth]; omega)⟩
theorem any_eqv : ∀ (ys : List T) (x : T), okTs ys = true → okT x = true → ((toDs ys).any fun z => PyData.eqv z (toD x)) = ys.any fun z => eqT z x
  | [], _, _, _ => rfl
  | y :: ys, x, h, hx => by
    simp only [okTs, Bool.and_eq_true] at h
    simp only [toDs, List.any_cons]
    rw [toD_eqv y x h.1 hx, any_eqv ys x h.2 hx]

section
variable {K : KC} {φ ψ : List Addr} {H : Hp} {M : Mem}
mutual
theorem RT.dp : ∀ (t : T) (v : V), RT K φ ψ H t v → okT t = true → Dp K.K H v (toD t)
  | .non, _, h, _ => by cases h; exact .non
  | .bl b, _, h, _ => by cases h; exact .bl b
  | .int b, _, h, _ => by cases h; exact .int b
  | .str b, _, h, _ => by cases h; exact .str b
  | .tup ts, _, h, k => by
    cases h with
    | tup h1 h2 => simp only [okT] at k; exact .tup h1.sq (RTs.dp ts _ h2 k)
  | .fl ts, _, h, k => by
    cases h with
    | fl h1 h2 h3 => simp only [okT] at k; exact .lst (.of h2) (RTs.dp ts _ h3 k)
  | .fd _ _ _, _, _, k => by simp [okT] at k
  | .sc _, _, _, k => by simp [okT] at k
  | .obj _, _, _, k => by simp [okT] at k
theorem RTs.dp : ∀ (ts : List T) (vs : List V), RTs K φ ψ H ts vs → okTs ts = true → DpAll K.K H vs (toDs ts)
  | [], _, h, _ => by cases h; exact .nil
  | t :: ts, _, h, k => by
    simp only [okTs, Bool.and_eq_true] at k
    cases h with
    | cons h1 h2 => exact .cons (RT.dp t _ h1 k.1) (RTs.dp ts _ h2 k.2)
end
theorem mapM_dp {f : T → Option T} (hf : ∀ t v a, RT K φ ψ H t v → f t = some a → okT a = true → Dp K.K H v (toD a)) : ∀ (ts : List T) (vs : List V) (as : List T), RTs K φ ψ H ts vs → ts.mapM f = some as → okTs as = true → DpAll K.K H vs (toDs as)
  | [], _, as, h, e, k => by
    cases h
    simp at e
    subst e
    exact .nil
  | t :: ts, _, as, h, e, k => by
    cases h with
    | cons h1 h2 =>
      rw [List.mapM_cons] at e
      obtain ⟨a, ea, e⟩ := Option.bind_eq_some_iff.mp e
      obtain ⟨r, er, e⟩ := Option.bind_eq_some_iff.mp e
      cases e
      simp only [okTs, Bool.and_eq_true] at k
      exact .cons (hf t _ a h1 ea k.1) (mapM_dp hf ts _ r h2 er k.2)
theorem seal_dp (r : RM K φ ψ H M) (n : Nat) : ∀ (f : Nat) (t : T) (v : V) (a : T), RT K φ ψ H t v → sealT M n f t = some a → okT a = true → Dp K.K H v (toD a)
  | 0, t, v, a, h, e, k => by
    unfold sealT at e
    split at e
    · cases e; exact RT.dp t v h k
    · cases e
  | f + 1, t, v, a, h, e, k => by
    unfold sealT at e
    split at e
    · cases e; exact RT.dp t v h k
    · split at e
      · rename_i i
        split at e
        · split at e
          · rename_i ts hts
            obtain ⟨as, ea, e⟩ := Option.map_eq_some_iff.mp e
            subst e
            cases h with
            | obj h1 =>
              obtain ⟨vs, q1, q2⟩ := r.obj h1 hts
              simp only [okT] at k
              exact .lst (.of q1) (mapM_dp (fun t v a h e k => seal_dp r n f t v a h e k) ts vs as q2 ea k)
          · obtain ⟨as, ea, e⟩ := Option.map_eq_some_iff.mp e
            subst e
            simp [okT] at k
          · cases e
        · cases e
      · obtain ⟨as, ea, e⟩ := Option.map_eq_some_iff.mp e
        subst e
        cases h with
        | tup h1 h2 =>
          simp only [okT] at k
          exact .tup h1.sq (mapM_dp (fun t v a h e k => seal_dp r n f t v a h e k) _ _ as h2 ea k)
      · obtain ⟨as, ea, e⟩ := Option.map_eq_some_iff.mp e
        subst e
        cases h with
        | fl h1 h2 h3 =>
          simp only [okT] at k
          exact .lst (.of h2) (mapM_dp (fun t v a h e k => seal_dp r n f t v a h e k) _ _ as h3 ea k)
      · obtain ⟨as, ea, e⟩ := Option.map_eq_some_iff.mp e
        subst e
        simp [okT] at k
      · cases e
theorem okTs_ints : ∀ ns : List Int, okTs (ns.map T.int) = true
  | [] => rfl
  | n :: ns => by simp only [List.map_cons, okTs, okT, Bool.true_and]; exact okTs_ints ns
theorem pureTs_ints : ∀ ns : List Int, pureTs (ns.map T.int) = true
  | [] => rfl
  | n :: ns => by simp only [List.map_cons, pureTs, pureT, Bool.true_and]; exact pureTs_ints ns
theorem seal_pure {n f : Nat} {t : T} (h : pureT t = true) : sealT M n f t = some t := by
  cases f with
  | zero => unfold sealT; rw [if_pos h]
  | succ f => unfold sealT; rw [if_pos h]
theorem scl_dp (r : RM K φ ψ H M) {t : T} {v : V} {a : T} (h : RT K φ ψ H t v) (e : sealT M 0 6 (scL t) = some a) (k : okT a = true) : Dp K.K H v (toD a) := by
  cases t with
  | sc ns =>
    cases h with
    | sc h =>
      have e2 : scL (.sc ns) = .fl (ns.map .int) := rfl
      rw [e2, seal_pure (by simp only [pureT]; exact pureTs_ints ns)] at e
      cases e
      refine .lst h.sq ?_
      exact RTs.dp (φ := φ) (ψ := ψ) _ _ (RTs.ints' ns) (okTs_ints ns)
  | _ => exact seal_dp r 0 6 _ v a h e k
end
/-! ### comparisons -/
theorem lkp_dK {kvs : List (Key × V)} {K : KC} {φ ψ : List Addr} {H : Hp} : ∀ {ts : List T} (k : Key), RTs K φ ψ H ts (kvs.map (·.2)) →
    (∀ t, lkp (kvs.map fun p => keyT p.1) ts (keyT k) = some t → ∃ v, valV kvs k = some v ∧ RT K φ ψ H t v) ∧ (lkp (kvs.map fun p => keyT p.1) ts (keyT k)).isSome = (valV kvs k).isSome := by
  induction kvs with
  | nil => intro ts k h; cases h; exact ⟨fun t e => by simp [lkp] at e, rfl⟩
  | cons p r ih =>
    intro ts k h
    cases h with
    | cons h1 h2 =>
      have key : eqT (keyT p.1) (keyT k) = decide (p.1 = k) := by
        cases hp : p.1 with
        | inl a => cases k with
          | inl b =>
            simp only [keyT, eqT]
            by_cases e : a = b
            · subst e; simp
            · rw [decide_eq_false (fun q => e (Sum.inl.inj q))]; simpa using e
          | inr b => simp [keyT, eqT]
        | inr a => cases k with
          | inl b => simp [keyT, eqT]
          | inr b =>
            simp only [keyT, eqT]
            by_cases e : a = b
            · subst e; simp
            · rw [decide_eq_false (fun q => e (Sum.inr.inj q))]; simpa using e
      simp only [List.map_cons, lkp, key]
      by_cases e : p.1 = k
      · rw [if_pos (by simpa using e), valV_pos e]
        exact ⟨fun t q => by cases q; exact ⟨_, rfl, h1⟩, rfl⟩
      · rw [if_neg (by simpa using e), valV_neg e]
        exact ih k h2
theorem keyT_inj {a b : Key} : eqT (keyT a) (keyT b) = decide (a = b) := by
  cases a with
  | inl x => cases b with
    | inl y =>
      simp only [keyT, eqT]
      by_cases e : x = y
      · subst e; simp
      · rw [decide_eq_false (fun q => e (Sum.inl.inj q))]; simpa using e
    | inr y => simp [keyT, eqT]
  | inr x => cases b with
    | inl y => simp [keyT, eqT]
    | inr y =>
      simp only [keyT, eqT]
      by_cases e : x = y
      · subst e; simp
      · rw [decide_eq_false (fun q => e (Sum.inr.inj q))]; simpa using e
theorem keyTs_inj : ∀ {a b : List Key}, eqTs (a.map keyT) (b.map keyT) = decide (a = b)
  | [], [] => by simp [eqTs]
  | [], _ :: _ => by simp [eqTs]
  | _ :: _, [] => by simp [eqTs]
  | x :: xs, y :: ys => by
    simp only [List.map_cons, eqTs, keyT_inj, keyTs_inj, List.cons.injEq, Bool.decide_and]
theorem keyTT_inj {a b : List Key} : eqT (keyTT a) (keyTT b) = decide (a = b) := by
  simp only [keyTT, eqT]
  exact keyTs_inj
theorem lkp_dT {kvs : List (List Key × V)} {K : KC} {φ ψ : List Addr} {H : Hp} : ∀ {ts : List T} (k : List Key), RTs K φ ψ H ts (kvs.map (·.2)) →
    (∀ t, lkp (kvs.map fun p => keyTT p.1) ts (keyTT k) = some t → ∃ v, valV kvs k = some v ∧ RT K φ ψ H t v) ∧ (lkp (kvs.map fun p => keyTT p.1) ts (keyTT k)).isSome = (valV kvs k).isSome := by
  induction kvs with
  | nil => intro ts k h; cases h; exact ⟨fun t e => by simp [lkp] at e, rfl⟩
  | cons p r ih =>
    intro ts k h
    cases h with
    | cons h1 h2 =>
      simp only [List.map_cons, lkp, keyTT_inj]
      by_cases e : p.1 = k
      · rw [if_pos (by simpa using e), valV_pos e]
        exact ⟨fun t q => by cases q; exact ⟨_, rfl, h1⟩, rfl⟩
      · rw [if_neg (by simpa using e), valV_neg e]
        exact ih k h2
end Mi
end L2

/-! Mini: comparisons, truth, subscripts, built-ins, methods are the model's. -/
namespace L2
namespace Mi
open PySem PySem.Spec PyProof.Rows

section
variable {K : KC} {φ ψ : List Addr} {H : Hp} {M : Mem}
theorem key_of_isKey {x : T} {v : V} (h : isKey x = true) (r : RT K φ ψ H x v) : ∃ k : Key, x = keyT k ∧ v = kV k := by
  cases r with
  | int i => exact ⟨.inl i, rfl, rfl⟩
  | str i => exact ⟨.inr i, rfl, rfl⟩
  | _ => cases h
theorem keys_of : ∀ {ts : List T} {vs : List V}, ts.all isKey = true → RTs K φ ψ H ts vs → ∃ ks : List Key, ts = ks.map keyT ∧ vs = ks.map kV
  | _, _, _, .nil => ⟨[], rfl, rfl⟩
  | _, _, h, .cons r t => by
    simp only [List.all_cons, Bool.and_eq_true] at h
    obtain ⟨k, e1, e2⟩ := key_of_isKey h.1 r
    obtain ⟨ks, e3, e4⟩ := keys_of h.2 t
    exact ⟨k :: ks, by rw [e1, e3]; rfl, by rw [e2, e4]; rfl⟩
/-- what a dict value is -/
theorem dof_ok (r : RM K φ ψ H M) {t : T} {v : V} {tk : Bool} {ks ts : List T} (h : RT K φ ψ H t v) (e : dof M t = some (tk, ks, ts)) : ∃ a, v = .ref a ∧
    ((tk = false ∧ ∃ kvs : List (Key × V), H a = some (.dK kvs) ∧ ks = kvs.map (fun p => keyT p.1) ∧ RTs K φ ψ H ts (kvs.map (·.2))) ∨
     (tk = true ∧ K.kt = false ∧ ∃ kvs : List (List Key × V), H a = some (.dT kvs) ∧ ks = kvs.map (fun p => keyTT p.1) ∧ RTs K φ ψ H ts (kvs.map (·.2)))) := by
  cases h with
  | fdK h1 h2 h3 h4 => cases e; exact ⟨_, rfl, .inl ⟨rfl, _, h2, h3, h4⟩⟩
  | fdT h0 h1 h2 h3 h4 => cases e; exact ⟨_, rfl, .inr ⟨rfl, h0, _, h2, h3, h4⟩⟩
  | @obj a i h1 =>
    simp only [dof] at e
    split at e
    · rename_i tk' ks' ts' hus
      cases e
      exact ⟨a, rfl, r.obj h1 hus⟩
    · cases e
  | _ => exact nomatch e
/-- a key looked up -/
theorem lkp_ok (r : RM K φ ψ H M) {t x : T} {v vx : V} {tk : Bool} {ks ts : List T} (h : RT K φ ψ H t v) (hx : RT K φ ψ H x vx) (e : dof M t = some (tk, ks, ts)) (k : isKeyT tk x = true) :
    ∃ a o, v = .ref a ∧ DGet H a vx o ∧ o.isSome = (lkp ks ts x).isSome ∧ ∀ u, lkp ks ts x = some u → ∃ w, o = some w ∧ RT K φ ψ H u w := by
  obtain ⟨a, rfl, ⟨rfl, kvs, h1, rfl, h3⟩ | ⟨rfl, hkt, kvs, h1, rfl, h3⟩⟩ := dof_ok r h e
  · have kx : isKey x = true := by
      cases x <;> first | exact k | (simp [isKeyT, isKey] at k)
    obtain ⟨key, rfl, rfl⟩ := key_of_isKey kx hx
    obtain ⟨q1, q2⟩ := lkp_dK key h3
    exact ⟨a, _, rfl, .k h1, q2.symm, q1⟩
  · cases hx with
    | @tup b vs us g1 g2 =>
      simp only [isKeyT, Bool.true_and] at k
      obtain ⟨key, rfl, rfl⟩ := keys_of k g2
      rcases g1 with ⟨_, g1⟩ | ⟨g1, _⟩
      · obtain ⟨q1, q2⟩ := lkp_dT key h3
        exact ⟨a, _, rfl, .t h1 g1, q2.symm, q1⟩
      · rw [hkt] at g1; cases g1
    | _ => simp [isKeyT, isKey] at k
end
theorem intsOf_ok : ∀ {ts : List T} {ns : List Int}, intsOf ts = some ns → ts = ns.map T.int
  | [], ns, h => by cases h; rfl
  | .int i :: ts, ns, h => by
    simp only [intsOf] at h
    obtain ⟨r, hr, e⟩ := Option.map_eq_some_iff.mp h
    subst e
    rw [intsOf_ok hr]; rfl
  | .non :: _, _, h => by cases h
  | .bl _ :: _, _, h => by cases h
  | .str _ :: _, _, h => by cases h
  | .tup _ :: _, _, h => by cases h
  | .fl _ :: _, _, h => by cases h
  | .fd _ _ _ :: _, _, h => by cases h
  | .sc _ :: _, _, h => by cases h
  | .obj _ :: _, _, h => by cases h
theorem blsOf_ok : ∀ {ts : List T} {ns : List Bool}, blsOf ts = some ns → ts = ns.map T.bl
  | [], ns, h => by cases h; rfl
  | .bl i :: ts, ns, h => by
    simp only [blsOf] at h
    obtain ⟨r, hr, e⟩ := Option.map_eq_some_iff.mp h
    subst e
    rw [blsOf_ok hr]; rfl
  | .non :: _, _, h => by cases h
  | .int _ :: _, _, h => by cases h
  | .str _ :: _, _, h => by cases h
  | .tup _ :: _, _, h => by cases h
  | .fl _ :: _, _, h => by cases h
  | .fd _ _ _ :: _, _, h => by cases h
  | .sc _ :: _, _, h => by cases h
  | .obj _ :: _, _, h => by cases h
section
variable {X : Cx} {K : KC}
theorem op_inT (hu : X.A.units + 65 < cLine) : OpR X (compareOp .In) (fun x y H Q => ∃ d ds, Dp X.K H x d ∧ Dp X.K H y (.tuple ds) ∧ SeqAt.shaped d = true ∧ SeqAt.shaped (.list ds) = true ∧ Q (.bl (ds.any fun z => PyData.eqv z d)) H) := by
  intro pins s σ H x y v u Q I rx ry h
  obtain ⟨d, ds, hd, he, sd, se, q⟩ := h
  obtain ⟨as, r1⟩ := Dp.reads I d x v hd rx
  obtain ⟨bs, r2⟩ := Dp.reads I (.tuple ds) y u he ry
  exact SeqAt.in_tuple_reads r2 r1 (SeqAt.canLay_of_shaped se) (SeqAt.canLay_of_shaped sd) (room_in_shaped sd hu) ⟨.bl _, H, I, rfl, q⟩
theorem op_notInT (hu : X.A.units + 65 < cLine) : OpR X (compareOp .NotIn) (fun x y H Q => ∃ d ds, Dp X.K H x d ∧ Dp X.K H y (.tuple ds) ∧ SeqAt.shaped d = true ∧ SeqAt.shaped (.list ds) = true ∧ Q (.bl (!ds.any fun z => PyData.eqv z d)) H) := by
  intro pins s σ H x y v u Q I rx ry h
  obtain ⟨d, ds, hd, he, sd, se, q⟩ := h
  obtain ⟨as, r1⟩ := Dp.reads I d x v hd rx
  obtain ⟨bs, r2⟩ := Dp.reads I (.tuple ds) y u he ry
  exact SeqAt.notIn_tuple_reads r2 r1 (SeqAt.canLay_of_shaped se) (SeqAt.canLay_of_shaped sd) (room_in_shaped sd hu) ⟨.bl _, H, I, rfl, q⟩
/-- in, by values: what both forms ask -/
theorem in_cases (hK : K.K = X.K) {φ ψ : List Addr} {H : Hp} {M : Mem} {x y : T} {vx vy : V} {c : Bool} (rm : RM K φ ψ H M) (r1 : RT K φ ψ H x vx) (r2 : RT K φ ψ H y vy) (e : cmpT.inT x y M = some c) :
    (∃ a o, vy = .ref a ∧ DGet H a vx o ∧ c = o.isSome) ∨ (∃ d ds, Dp X.K H vx d ∧ Dp X.K H vy (.tuple ds) ∧ SeqAt.shaped d = true ∧ SeqAt.shaped (.list ds) = true ∧ c = ds.any fun z => PyData.eqv z d) ∨
      ∃ d ds, Dp X.K H vx d ∧ Dp X.K H vy (.list ds) ∧ SeqAt.shaped d = true ∧ SeqAt.shaped (.list ds) = true ∧ c = ds.any fun z => PyData.eqv z d := by
  unfold cmpT.inT at e
  split at e
  · rename_i tk ks ts hd
    split at e
    · rename_i hk
      cases e
      obtain ⟨a, o, h1, h2, h3, _⟩ := lkp_ok rm r2 r1 hd hk
      exact .inl ⟨a, o, h1, h2, h3.symm⟩
    · cases e
  · split at e
    · rename_i ys _
      split at e
      · rename_i hc
        obtain ⟨h1, h2, h3, h4⟩ := hc
        cases e
        cases r2 with
        | tup g1 g2 =>
          refine .inr (.inl ⟨toD x, toDs ys, hK ▸ RT.dp x _ r1 h1, .tup (hK ▸ g1.sq) (hK ▸ RTs.dp ys _ g2 h2), toD_shaped h1 h3, toDs_shaped h2 h4, (any_eqv ys x h2 h1).symm⟩)
      · cases e
    · obtain ⟨ys, hy, e⟩ := Option.bind_eq_some_iff.mp e
      obtain ⟨zs, hz, e⟩ := Option.bind_eq_some_iff.mp e
      obtain ⟨x', hx, e⟩ := Option.bind_eq_some_iff.mp e
      split at e
      · rename_i hc
        obtain ⟨h1, h2, h3, h4⟩ := hc
        cases e
        obtain ⟨a, vs, rfl, g1, g2⟩ := lof_ok rm r2 hy
        refine .inr (.inr ⟨toD x', toDs zs, hK ▸ seal_dp rm 0 6 x vx x' r1 hx h1, ?_, toD_shaped h1 h3, toDs_shaped h2 h4, (any_eqv zs x' h2 h1).symm⟩)
        exact .lst (.of g1) (hK ▸ mapM_dp (fun t v a h e k => seal_dp rm 0 6 t v a h e k) ys vs zs g2 hz h2)
      · cases e
def rCmp (K : KC) (op : CmpOp) : R2 := fun vx vy H Q => ∃ φ ψ M x y c, RM K φ ψ H M ∧ RT K φ ψ H x vx ∧ RT K φ ψ H y vy ∧ cmpT op x y M = some c ∧ Q (.bl c) H
theorem non_iff {φ ψ : List Addr} {H : Hp} {x : T} {v : V} (r : RT K φ ψ H x v) : decide (v = .non) = isNo x := by
  cases r <;> simp [isNo]
theorem op_cmp (hK : K.K = X.K) (hu : X.A.units + 65 < cLine) (op : CmpOp) : OpR X (compareOp op) (rCmp K op) := by
  intro pins s σ H vx vy v u Q I rx ry h
  obtain ⟨φ, ψ, M, x, y, c, rm, r1, r2, e, q⟩ := h
  unfold cmpT at e
  cases op with
  | Eq =>
    simp only [eqv?] at e
    obtain ⟨a, ha, e⟩ := Option.bind_eq_some_iff.mp e
    obtain ⟨b, hb, e⟩ := Option.bind_eq_some_iff.mp e
    split at e
    · rename_i hc
      obtain ⟨h1, h2, h3, h4⟩ := hc
      cases e
      refine op_eqD (by omega) pins s σ H vx vy v u Q I rx ry ⟨toD a, toD b, hK ▸ scl_dp rm r1 ha h1, hK ▸ scl_dp rm r2 hb h2, toD_shaped h1 h3, toD_shaped h2 h4, ?_⟩
      rw [toD_eqv a b h1 h2]
      exact q
    · cases e
  | NotEq =>
    obtain ⟨c', e', rfl⟩ := Option.map_eq_some_iff.mp e
    clear e
    have e := e'
    clear e'
    simp only [eqv?] at e
    obtain ⟨a, ha, e⟩ := Option.bind_eq_some_iff.mp e
    obtain ⟨b, hb, e⟩ := Option.bind_eq_some_iff.mp e
    split at e
    · rename_i hc
      obtain ⟨h1, h2, h3, h4⟩ := hc
      cases e
      refine op_neD (by omega) pins s σ H vx vy v u Q I rx ry ⟨toD a, toD b, hK ▸ scl_dp rm r1 ha h1, hK ▸ scl_dp rm r2 hb h2, toD_shaped h1 h3, toD_shaped h2 h4, ?_⟩
      rw [toD_eqv a b h1 h2]
      exact q
    · cases e
  | Lt =>
    simp only at e
    split at e
    · cases e; cases r1; cases r2
      exact op_lt pins s σ H _ _ v u Q I rx ry ⟨_, _, rfl, rfl, q⟩
    · obtain ⟨a, ha, e⟩ := Option.bind_eq_some_iff.mp e
      obtain ⟨b, hb, e⟩ := Option.map_eq_some_iff.mp e
      subst e
      obtain rfl := intsOf_ok ha
      obtain rfl := intsOf_ok hb
      cases r1; cases r2
      rename_i c1 us1 g1 z1 c2 us2 g2 z2
      obtain rfl := z1.ints
      obtain rfl := z2.ints
      exact op_ltT (by omega) pins s σ H _ _ v u Q I rx ry ⟨_, _, _, _, rfl, rfl, hK ▸ g1.sq, hK ▸ g2.sq, q⟩
    · cases e
  | LtE =>
    simp only at e
    split at e
    · cases e; cases r1; cases r2
      exact op_le pins s σ H _ _ v u Q I rx ry ⟨_, _, rfl, rfl, q⟩
    · cases e
  | Gt =>
    simp only at e
    split at e
    · cases e; cases r1; cases r2
      exact op_gt pins s σ H _ _ v u Q I rx ry ⟨_, _, rfl, rfl, q⟩
    · cases e
  | GtE =>
    simp only at e
    split at e
    · cases e; cases r1; cases r2
      exact op_ge pins s σ H _ _ v u Q I rx ry ⟨_, _, rfl, rfl, q⟩
    · cases e
  | Is =>
    simp only at e
    split at e
    · cases e; cases r1; cases r2
      exact op_isBl pins s σ H _ _ v u Q I rx ry ⟨_, _, rfl, rfl, q⟩
    · cases e
      cases r2
      refine op_isN pins s σ H _ _ v u Q I rx ry ⟨rfl, ?_⟩
      rw [non_iff r1]
      exact q
    · cases e
  | IsNot =>
    simp only at e
    split at e
    · cases e; cases r1; cases r2
      exact op_notBl pins s σ H _ _ v u Q I rx ry ⟨_, _, rfl, rfl, q⟩
    · cases e
      cases r2
      refine op_notN pins s σ H _ _ v u Q I rx ry ⟨rfl, ?_⟩
      rw [non_iff r1]
      exact q
    · cases e
  | In =>
    simp only at e
    rcases in_cases (X := X) hK rm r1 r2 e with ⟨a, o, rfl, g, rfl⟩ | ⟨d, ds, h1, h2, h3, h4, rfl⟩ | ⟨d, ds, h1, h2, h3, h4, rfl⟩
    · cases (show u = Value.ref a from ry)
      exact d_in (by omega) I g rx fun s' I' => ⟨.bl o.isSome, H, I', rfl, q⟩
    · exact op_inT hu pins s σ H _ _ v u Q I rx ry ⟨d, ds, h1, h2, h3, h4, q⟩
    · exact op_inD hu pins s σ H _ _ v u Q I rx ry ⟨d, ds, h1, h2, h3, h4, q⟩
  | NotIn =>
    simp only at e
    obtain ⟨c', e', rfl⟩ := Option.map_eq_some_iff.mp e
    clear e
    have e := e'
    clear e'
    rcases in_cases (X := X) hK rm r1 r2 e with ⟨a, o, rfl, g, rfl⟩ | ⟨d, ds, h1, h2, h3, h4, rfl⟩ | ⟨d, ds, h1, h2, h3, h4, rfl⟩
    · cases (show u = Value.ref a from ry)
      exact d_notIn (by omega) I g rx fun s' I' => ⟨.bl (!o.isSome), H, I', rfl, q⟩
    · exact op_notInT hu pins s σ H _ _ v u Q I rx ry ⟨d, ds, h1, h2, h3, h4, q⟩
    · exact op_notInD hu pins s σ H _ _ v u Q I rx ry ⟨d, ds, h1, h2, h3, h4, q⟩
end
end Mi
end L2

/-! Mini: truth, subscripts, built-ins, methods of lists. -/
namespace L2
namespace Mi
open PySem PySem.Spec PyProof.Rows

section
variable {K : KC} {φ ψ : List Addr} {H : Hp}
theorem RTs.empty {ts : List T} {vs : List V} (h : RTs K φ ψ H ts vs) : ts.isEmpty = vs.isEmpty := by cases h <;> rfl
theorem RTs.cut {ts : List T} {vs : List V} (h : RTs K φ ψ H ts vs) (lo hi : Option Int) : RTs K φ ψ H (cutT ts lo hi) (cutV vs lo hi) := by
  unfold cutT cutV
  rw [h.length]
  exact (h.drop _).take _
theorem atI_ok {ts : List T} {vs : List V} {i : Int} {t : T} (h : RTs K φ ψ H ts vs) (e : atI ts i = some t) : ∃ v, atI vs i = some v ∧ RT K φ ψ H t v := by
  unfold atI at e ⊢
  obtain ⟨j, hj, e⟩ := Option.bind_eq_some_iff.mp e
  obtain ⟨v, h1, h2⟩ := h.get e
  exact ⟨v, Option.bind_eq_some_iff.mpr ⟨j, by rw [← h.length]; exact hj, h1⟩, h2⟩
theorem cutT_all {ts : List T} {lo hi : Option Int} (h : HT.sIx ts.length 0 lo = 0 ∧ HT.sIx ts.length ts.length hi = ts.length) : cutT ts lo hi = ts := by
  unfold cutT
  rw [h.1, h.2]
  simp
end
theorem maxL_mem : ∀ {ns : List Int}, ns ≠ [] → maxL ns ∈ ns ∧ ∀ y ∈ ns, y ≤ maxL ns
  | [], h => absurd rfl h
  | [x], _ => by simp [maxL]
  | x :: y :: r, _ => by
    obtain ⟨h1, h2⟩ := maxL_mem (ns := y :: r) (by simp)
    have e : maxL (x :: y :: r) = if x < maxL (y :: r) then maxL (y :: r) else x := rfl
    rw [e]
    by_cases h : x < maxL (y :: r)
    · rw [if_pos h]
      refine ⟨List.mem_cons_of_mem _ h1, fun z hz => ?_⟩
      rcases List.mem_cons.mp hz with q | q
      · rw [q]; omega
      · exact h2 z q
    · rw [if_neg h]
      refine ⟨List.mem_cons_self, fun z hz => ?_⟩
      rcases List.mem_cons.mp hz with q | q
      · rw [q]; exact Int.le_refl _
      · have := h2 z q; omega
theorem minL_mem : ∀ {ns : List Int}, ns ≠ [] → minL ns ∈ ns ∧ ∀ y ∈ ns, minL ns ≤ y
  | [], h => absurd rfl h
  | [x], _ => by simp [minL]
  | x :: y :: r, _ => by
    obtain ⟨h1, h2⟩ := minL_mem (ns := y :: r) (by simp)
    have e : minL (x :: y :: r) = if minL (y :: r) < x then minL (y :: r) else x := rfl
    rw [e]
    by_cases h : minL (y :: r) < x
    · rw [if_pos h]
      refine ⟨List.mem_cons_of_mem _ h1, fun z hz => ?_⟩
      rcases List.mem_cons.mp hz with q | q
      · rw [q]; omega
      · exact h2 z q
    · rw [if_neg h]
      refine ⟨List.mem_cons_self, fun z hz => ?_⟩
      rcases List.mem_cons.mp hz with q | q
      · rw [q]; exact Int.le_refl _
      · have := h2 z q; omega
theorem insI_perm (x : Int) : ∀ l : List Int, (insI x l).Perm (x :: l)
  | [] => .refl _
  | y :: l => by
    unfold insI
    split
    · exact .refl _
    · exact ((insI_perm x l).cons y).trans (.swap x y l)
theorem insI_up (x : Int) : ∀ l : List Int, l.Pairwise (· ≤ ·) → (insI x l).Pairwise (· ≤ ·)
  | [], _ => by simp [insI]
  | y :: l, h => by
    obtain ⟨h1, h2⟩ := List.pairwise_cons.mp h
    unfold insI
    split
    · rename_i hx
      refine List.pairwise_cons.mpr ⟨fun z hz => ?_, h⟩
      rcases List.mem_cons.mp hz with q | q
      · rw [q]; exact hx
      · have := h1 z q; omega
    · rename_i hx
      refine List.pairwise_cons.mpr ⟨fun z hz => ?_, insI_up x l h2⟩
      rcases List.mem_cons.mp ((insI_perm x l).mem_iff.mp hz) with q | q
      · rw [q]; omega
      · exact h1 z q
theorem sortI_perm : ∀ l : List Int, (sortI l).Perm l
  | [] => .refl _
  | x :: l => (insI_perm x _).trans ((sortI_perm l).cons x)
theorem sortI_up : ∀ l : List Int, (sortI l).Pairwise (· ≤ ·)
  | [] => .nil
  | x :: l => insI_up x _ (sortI_up l)
theorem up_same : ∀ {a b : List Int}, a.Perm b → a.Pairwise (· ≤ ·) → b.Pairwise (· ≤ ·) → a = b
  | [], b, h, _, _ => (List.Perm.nil_eq h)
  | x :: a, [], h, _, _ => by simpa using h.length_eq
  | x :: a, y :: b, h, ha, hb => by
    obtain ⟨ha1, ha2⟩ := List.pairwise_cons.mp ha
    obtain ⟨hb1, hb2⟩ := List.pairwise_cons.mp hb
    have e : x = y := by
      have hx : x ∈ y :: b := h.mem_iff.mp List.mem_cons_self
      have hy : y ∈ x :: a := h.mem_iff.mpr List.mem_cons_self
      rcases List.mem_cons.mp hx with q | q
      · exact q
      · rcases List.mem_cons.mp hy with p | p
        · exact p.symm
        · have := hb1 x q; have := ha1 y p; omega
    subst e
    rw [up_same (List.Perm.cons_inv h) ha2 hb2]
section
variable {X : Cx} {K : KC}
/-! ### truth -/
theorem truV_of (hK : K.K = X.K) {φ ψ : List Addr} {H : Hp} {M : Mem} {t : T} {v : V} {b : Bool} (rm : RM K φ ψ H M) (r : RT K φ ψ H t v) (e : truth M t = some b) : TruV X.K v H b := by
  have sz := szl
  unfold truth at e
  split at e
  · cases e; cases r; exact rfl
  · cases e; cases r; exact rfl
  · cases e; cases r; exact rfl
  · split at e
    · cases e; cases r; exact ⟨by omega, rfl⟩
    · cases e
  · cases e
    cases r with
    | tup h1 h2 => exact .inr (.inl ⟨_, hK ▸ h1.sq, by rw [h2.empty]⟩)
  · obtain ⟨ts, h, rfl⟩ := Option.map_eq_some_iff.mp e
    obtain ⟨a, vs, rfl, h1, h2⟩ := lofS_ok rm r h
    exact .inl ⟨vs, hK ▸ h1, by rw [h2.empty]⟩
/-! ### subscripts -/
def rIxM (K : KC) : R2 := fun vx vy H Q => ∃ φ ψ M x y t, RM K φ ψ H M ∧ RT K φ ψ H x vx ∧ RT K φ ψ H y vy ∧ ixT x y M = some t ∧ ∀ v, RT K φ ψ H t v → Q v H
theorem op_ix (hK : K.K = X.K) (hu : X.A.units + 1 < cLine) : IxR X (rIxM K) := by
  intro value slice pins s σ H vx vy v u Q I rx ry h hs
  obtain ⟨φ, ψ, M, x, y, t, rm, r1, r2, e, q⟩ := h
  have sz := szl
  unfold ixT at e
  split at e
  · rename_i tk ks ts hd
    split at e
    · rename_i hk
      obtain ⟨a, o, rfl, g, h3, h4⟩ := lkp_ok rm r1 r2 hd hk
      obtain ⟨w, rfl, rw'⟩ := h4 t e
      cases (show v = Value.ref a from rx)
      exact tail_any (dict_typeIs I g) PySem.F.slot_dict_getitem.lookup (d_getItem hu I g ry fun w' s' I' r' => ⟨w, H, I', r', q w rw'⟩) hs
    · cases e
  · split at e
    · split at e
      · obtain ⟨c, hc, rfl⟩ := Option.map_eq_some_iff.mp e
        cases r1; cases r2
        exact ix_str value slice pins s σ H _ _ v u Q I rx ry ⟨_, _, c, rfl, rfl, by omega, hc, q _ (.str _)⟩ hs
      · cases e
    · obtain ⟨ts, ht, e⟩ := Option.bind_eq_some_iff.mp e
      obtain ⟨a, vs, rfl, h2, h3⟩ := sof_ok rm r1 ht
      cases r2
      obtain ⟨w, hw, rw'⟩ := atI_ok h2 e
      rcases h3 with ⟨h3, _⟩ | ⟨h3, _⟩
      · exact ix_list value slice pins s σ H _ _ v u Q I rx ry ⟨a, vs, _, w, rfl, rfl, hK ▸ h3, hw, q w rw'⟩ hs
      · exact ix_tup value slice pins s σ H _ _ v u Q I rx ry ⟨a, vs, _, w, rfl, rfl, hK ▸ h3, hw, q w rw'⟩ hs
    · cases e
theorem get_strM {pins : List (Addr × Obj)} {s : Shared} {σ : L2.St} {H : Hp} {Q : VK} {z : Str} {i : Int} {tk tk' : Tok} {c : Nat} (I : Inv X pins σ H s) (hz : z.length ≤ 16777216) (hc : atI z.cps.toList i = some c) (q : Q (.str ⟨#[c]⟩) H) :
    wpAny (model X.prog X.w) X.A (getItem (.str z tk) (.int i tk')) (EP X pins σ Q) X.xe s := by
  obtain ⟨j, h1, h2, h3, h4, h5⟩ := atI_get hc
  have hl : z.cps.toList.length = z.length := by simp [Str.length]
  rw [hl] at h1 h4 h5
  exact getItem_str (c := c) (by
    have e1 : decide (i < -(2 ^ 63 : Int)) = false := decide_eq_false (by omega)
    have e2 : decide (i ≥ 2 ^ 63) = false := decide_eq_false (by omega)
    rw [e1, e2, Bool.or_false]) (by rw [h1]; simpa using h2) ⟨.str ⟨#[c]⟩, H, I.tok _, ⟨_, rfl⟩, q⟩
theorem get_listM {pins : List (Addr × Obj)} {s : Shared} {σ : L2.St} {H : Hp} {Q : VK} {a : Addr} {vs : List V} {i : Int} {tk' : Tok} {w : V} (I : Inv X pins σ H s) (h3 : SqL X.K H a vs) (hw : atI vs i = some w) (q : Q w H) :
    wpAny (model X.prog X.w) X.A (getItem (.ref a) (.int i tk')) (EP X pins σ Q) X.xe s := by
  have sz := szl
  have hn := line63
  obtain ⟨j, h4, h5, h6, h7, h8⟩ := atI_get hw
  obtain ⟨its, r, pl, hz⟩ := I.list h3
  obtain ⟨z, ew, rz⟩ := r.get h5
  have hl := r.length
  have fin : EP X pins σ Q z s := ⟨w, H, I, rz, q⟩
  by_cases h0 : 0 ≤ i
  · have hj : i.toNat = j := by
      rw [seqIndex_of h0 h8] at h4
      exact Option.some.inj h4
    exact wpAny_getItem_list pl.isList h0 (by omega) (by rw [hj]; simpa using ew) fin
  · have hj : (i + (its.toArray.size : Int)).toNat = j := by
      rw [seqIndex_neg (by omega) h7] at h4
      rw [List.size_toArray, ← hl]
      exact Option.some.inj h4
    exact wpAny_getItem_list_neg pl.isList (by omega) (by rw [List.size_toArray] <;> omega) (by omega) (by rw [hj]; simpa using ew) fin
theorem get_tupM {pins : List (Addr × Obj)} {s : Shared} {σ : L2.St} {H : Hp} {Q : VK} {a : Addr} {vs : List V} {i : Int} {tk' : Tok} {w : V} (I : Inv X pins σ H s) (h3 : SqT X.K H a vs) (hw : atI vs i = some w) (q : Q w H) :
    wpAny (model X.prog X.w) X.A (getItem (.ref a) (.int i tk')) (EP X pins σ Q) X.xe s := by
  have sz := szl
  have hn := line63
  obtain ⟨j, h4, h5, h6, h7, h8⟩ := atI_get hw
  obtain ⟨its, r, pl, hz⟩ := I.tuple h3
  obtain ⟨z, ew, rz⟩ := r.get h5
  have hl := r.length
  exact getItem_tuple (j := j) pl (by omega) (by omega) (by rw [List.size_toArray, ← hl]; exact h4) (by simpa using ew) ⟨w, H, I, rz, q⟩
/-- o[i] by values, for augmented stores -/
theorem get_ix (hK : K.K = X.K) (hu : X.A.units + 1 < cLine) : PGet X (rIxM K) := by
  intro pins s σ H vx vy v u Q I rx ry h
  obtain ⟨φ, ψ, M, x, y, t, rm, r1, r2, e, q⟩ := h
  unfold ixT at e
  split at e
  · rename_i tk ks ts hd
    split at e
    · rename_i hk
      obtain ⟨a, o, rfl, g, h3, h4⟩ := lkp_ok rm r1 r2 hd hk
      obtain ⟨w, rfl, rw'⟩ := h4 t e
      cases (show v = Value.ref a from rx)
      exact d_getItem hu I g ry fun w' s' I' r' => ⟨w, H, I', r', q w rw'⟩
    · cases e
  · split at e
    · split at e
      · rename_i hz
        obtain ⟨c, hc, rfl⟩ := Option.map_eq_some_iff.mp e
        cases r1; cases r2
        obtain ⟨tk, rfl⟩ := rx
        obtain ⟨tk', rfl⟩ := ry
        exact get_strM I hz hc (q _ (.str _))
      · cases e
    · obtain ⟨ts, ht, e⟩ := Option.bind_eq_some_iff.mp e
      obtain ⟨a, vs, rfl, h2, h3⟩ := sof_ok rm r1 ht
      cases r2
      obtain ⟨w, hw, rw'⟩ := atI_ok h2 e
      obtain ⟨tk', rfl⟩ := ry
      cases (show v = Value.ref a from rx)
      rcases h3 with ⟨h3, _⟩ | ⟨h3, _⟩
      · exact get_listM I (hK ▸ h3) hw (q w rw')
      · exact get_tupM I (hK ▸ h3) hw (q w rw')
    · cases e
def rSlM (K : KC) (tr : Bool) : V → Option Int → Option Int → Hp → VK → Prop := fun vx lo hi H Q => ∃ φ ψ M x t M', RM K φ ψ H M ∧ RT K φ ψ H x vx ∧ slT tr x lo hi M = some (t, M') ∧ Ok1 K φ ψ H t M' Q
theorem op_sl (hK : K.K = X.K) (tr : Bool) : SlR X (rSlM K tr) := by
  intro pins s σ H vx v vl vu lo hi sl Q I rx hs pl pu h
  obtain ⟨φ, ψ, M, x, t, M', rm, r1, e, ok⟩ := h
  unfold slT at e
  split at e
  · rename_i ts
    cases e
    cases r1 with
    | tup h1 h2 =>
      have hl := h2.length
      refine sl_tupA pins s σ H _ v vl vu lo hi sl Q I rx hs pl pu ⟨_, _, rfl, hK ▸ h1.sq, fun hw => ?_, fun hw p hp => ?_⟩
      · rw [← hl] at hw
        rw [cutT_all hw] at ok
        exact ok.here rm (.tup h1 h2)
      · exact ok.newTup rm (h2.cut lo hi) hp
  · obtain ⟨ts, ht, e⟩ := Option.map_eq_some_iff.mp e
    obtain ⟨rfl, rfl⟩ := Prod.mk.inj e
    obtain ⟨a, vs, rfl, h1, h2⟩ := lofS_ok rm r1 ht
    exact sl_list pins s σ H _ v vl vu lo hi sl Q I rx hs pl pu ⟨a, vs, rfl, hK ▸ h1, fun p hp => ok.newL rm (h2.cut lo hi) hp⟩
/-! ### o[i] = v -/
/-- what is wanted of a memory -/
def OkM (K : KC) (φ ψ : List Addr) (H : Hp) (M : Mem) (Q : Hp → Prop) : Prop := ∀ φ' H', Ext φ H φ' H' → RM K φ' ψ H' M → Q H'
end
end Mi
end L2

/-! Mini: tuples of ints taken out of a list, put in order. -/
namespace L2
namespace Mi
open PySem PySem.Spec PyProof.Rows PySem.W PySem.SeqAt

/-- a tuple of ints -/
def tupI (k : List Int) : T := .tup (k.map T.int)
def tupD (k : List Int) : PyData := .tuple (k.map PyData.int)
theorem tupsOf_eq : ∀ {ts : List T} {ks : List (List Int)}, tupsOf ts = some ks → ts = ks.map tupI
  | [], ks, h => by cases h; rfl
  | .tup xs :: ts, ks, h => by
    simp only [tupsOf] at h
    obtain ⟨a, ha, h⟩ := Option.bind_eq_some_iff.mp h
    obtain ⟨r, hr, e⟩ := Option.map_eq_some_iff.mp h
    subst e
    rw [tupsOf_eq hr, intsOf_ok ha]; rfl
  | .non :: _, _, h => by cases h
  | .bl _ :: _, _, h => by cases h
  | .str _ :: _, _, h => by cases h
  | .int _ :: _, _, h => by cases h
  | .fl _ :: _, _, h => by cases h
  | .fd _ _ _ :: _, _, h => by cases h
  | .sc _ :: _, _, h => by cases h
  | .obj _ :: _, _, h => by cases h
theorem toDs_ints : ∀ k : List Int, toDs (k.map T.int) = k.map PyData.int
  | [] => rfl
  | n :: k => by rw [List.map_cons, toDs, toDs_ints k]; rfl
theorem toD_tupI (k : List Int) : toD (tupI k) = tupD k := by unfold tupI tupD; rw [toD, toDs_ints]
theorem okT_tupI (k : List Int) : okT (tupI k) = true := by unfold tupI; rw [okT]; exact okTs_ints k
theorem plain_ints : ∀ k : List Int, PyData.plainAll (k.map PyData.int) = true
  | [] => by simp [PyData.plainAll]
  | n :: k => by rw [List.map_cons]; simp only [PyData.plainAll, plain_ints k, PyData.plain, Bool.and_self]
theorem plain_tupD (k : List Int) : (tupD k).plain = true := by unfold tupD; simp only [PyData.plain]; exact plain_ints k
theorem plain_tups : ∀ ks : List (List Int), PyData.plainAll (ks.map tupD) = true
  | [] => by simp [PyData.plainAll]
  | k :: ks => by rw [List.map_cons]; simp only [PyData.plainAll, plain_tups ks, plain_tupD, Bool.and_self]
theorem depAll_ints : ∀ k : List Int, PyData.depthAll (k.map PyData.int) = 0
  | [] => by simp [PyData.depthAll]
  | n :: k => by rw [List.map_cons]; simp only [PyData.depthAll, depAll_ints k, PyData.depth]; rfl
theorem dep_tupD (k : List Int) : (tupD k).depth = 1 := by unfold tupD; simp only [PyData.depth]; rw [depAll_ints]
theorem eqvAll_ints : ∀ a b : List Int, PyData.eqvAll (a.map PyData.int) (b.map PyData.int) = decide (a = b)
  | [], [] => by simp [PyData.eqvAll]
  | [], _ :: _ => by simp [PyData.eqvAll]
  | _ :: _, [] => by simp [PyData.eqvAll]
  | x :: a, y :: b => by
    simp only [List.map_cons, PyData.eqvAll, eqvAll_ints a b, PyData.eqv, List.cons.injEq, Bool.decide_and]
    congr 1
theorem eqv_tupD (a b : List Int) : PyData.eqv (tupD a) (tupD b) = decide (a = b) := by unfold tupD; simp only [PyData.eqv]; exact eqvAll_ints a b
theorem dataPlace_tups (k : List Int) : ∀ ks : List (List Int), dataPlace (ks.map tupD) (tupD k) = ks.findIdx? fun x => decide (x = k) := fun ks => by
  unfold dataPlace
  rw [List.findIdx?_map]
  congr 1
  funext x
  exact eqv_tupD x k
section
variable {X : Cx}
def rRemT (K : PySem.W.Frag) : V → List V → Hp → VK → Prop := fun x xs H Q => ∃ (l : Addr) (zs : List V) (y : V) (ks : List (List Int)) (k : List Int) (j : Nat), x = .ref l ∧ xs = [y] ∧ H l = some (.lst zs) ∧ DpAll K H zs (ks.map tupD) ∧ Dp K H y (tupD k) ∧
  (ks.findIdx? fun x => decide (x = k)) = some j ∧ Q .non (upd H l (.lst (zs.eraseIdx j)))
theorem mt_removeT (hu : X.A.units + 65 < cLine) : MtM X "list.remove" (rRemT X.K) := by
  intro pins s σ H x xs v us Q I rx rxs h
  obtain ⟨l, zs, y, ks, k, j, rfl, rfl, hH, hd, hy, hj, q⟩ := h
  cases rx
  obtain ⟨u, rfl, ru⟩ := rxs.one
  obtain ⟨z, its, n, r, hl, e⟩ := I.lstM hH
  obtain ⟨as, ra⟩ := Dp.readsAll I _ _ _ hd r
  obtain ⟨bs, rb⟩ := Dp.reads I _ _ _ hy ru
  refine SeqAt.remove_list_data (j := j) (l := l) (vs := its.toArray) ⟨_, e, rfl, _, rfl⟩ (by simpa using ra) rb (plain_tups ks) (plain_tupD k) (by rw [dep_tupD]; omega) (by rw [dataPlace_tups]; exact hj) (by rw [List.size_toArray]; omega) ?_
  have rr := r.eraseIdx j
  refine ⟨.non, _, I.lset (its' := its.eraseIdx j) (t' := s.toks) hH e ?_ rr ?_, rfl, q⟩
  · show its.toArray.eraseIdxIfInBounds j = (its.eraseIdx j).toArray
    rw [List.eraseIdxIfInBounds_toArray]
  · have : (zs.eraseIdx j).length ≤ zs.length := List.length_eraseIdx_le ..
    omega
end
/-! ### in order -/
theorem lex_toks : ∀ a b : List Int, PyProof.Rows.lexLt itemOrd (keyToksAll (a.map PyData.int)) (keyToksAll (b.map PyData.int)) = HT.lexLt a b
  | [], [] => by rfl
  | [], y :: b => by
    rw [List.map_cons]
    simp only [List.map_nil, keyToksAll, List.cons_append]
    rw [PyProof.Rows.lex_diff (by intro h; cases h)]; rfl
  | x :: a, [] => by
    rw [List.map_cons]
    simp only [List.map_nil, keyToksAll, List.cons_append]
    rw [PyProof.Rows.lex_diff (by intro h; cases h)]; rfl
  | x :: a, y :: b => by
    rw [List.map_cons, List.map_cons, HT.lexLt_cons]
    simp only [keyToksAll, keyToks, List.cons_append, List.nil_append]
    rw [PyProof.Rows.lex_self]
    by_cases e : x = y
    · subst e
      rw [PyProof.Rows.lex_self, if_pos rfl]
      exact lex_toks a b
    · rw [PyProof.Rows.lex_diff (by intro h; exact e (Sum.inl.inj h)), if_neg e]; rfl
theorem dataLe_tup {β : Type} (f : β → List Int) (x y : β) : PySem.W.dataLe false (fun b => tupD (f b)) x y = lexLe (f x) (f y) := by
  unfold PySem.W.dataLe PySem.W.sortLe lexLe
  show (!PyProof.Rows.lexLt itemOrd (keyToks (tupD (f y))) (keyToks (tupD (f x)))) = _
  unfold tupD
  simp only [keyToks]
  rw [lex_toks]
/-! ### sorted -/
def leV (x y : V × List Int) : Bool := lexLe x.2 y.2
theorem dataLe_leV : PySem.W.dataLe false (fun b : V × List Int => tupD b.2) = leV := by
  funext x y
  exact dataLe_tup (fun b : V × List Int => b.2) x y
theorem alike_ints : ∀ a b : List Int, alikeAll (a.map PyData.int) (b.map PyData.int) = true
  | [], _ => by simp [alikeAll]
  | _ :: _, [] => by simp [alikeAll]
  | x :: a, y :: b => by simp only [List.map_cons, alikeAll, alike, alike_ints a b, Bool.and_self]
theorem allAlike_tups (L : List (V × List Int)) : PySem.W.AllAlike (L.map fun b => tupD b.2) := by
  intro d hd d' hd'
  obtain ⟨a, _, rfl⟩ := List.mem_map.mp hd
  obtain ⟨b, _, rfl⟩ := List.mem_map.mp hd'
  unfold tupD
  simp only [alike]
  exact alike_ints _ _
theorem sortable_tups {L : List (V × List Int)} (h : ∀ p ∈ L, p.2 ≠ []) : PySem.W.Sortable (L.map fun b => tupD b.2) := by
  refine .inl fun d hd => ?_
  obtain ⟨a, ha, rfl⟩ := List.mem_map.mp hd
  have := h a ha
  cases e : a.2 with
  | nil => exact absurd e this
  | cons x r => exact ⟨.int x, r.map PyData.int, by unfold tupD; rfl⟩
section
variable {X : Cx}
theorem each_vals : ∀ {L : List (V × List Int)} {us : List Value}, Vals (L.map (·.1)) us → PySem.W.EachIs (fun (u : Value) (b : V × List Int) => RelV b.1 u) us L
  | [], _, h => by cases h; exact .nil
  | p :: L, _, h => by
    cases h with
    | cons h1 h2 => exact .cons h1 (each_vals h2)
theorem vals_each : ∀ {L : List (V × List Int)} {us : List Value}, PySem.W.EachIs (fun (u : Value) (b : V × List Int) => RelV b.1 u) us L → Vals (L.map (·.1)) us
  | [], _, h => by cases h; exact .nil
  | p :: L, _, h => by
    cases h with
    | cons h1 h2 => exact .cons h1 (vals_each h2)
theorem each_reads {pins : List (Addr × Obj)} {σ : L2.St} {H : Hp} {s : Shared} (I : Inv X pins σ H s) : ∀ {L : List (V × List Int)} {us : List Value}, Vals (L.map (·.1)) us → (∀ p ∈ L, Dp X.K H p.1 (tupD p.2)) →
    PySem.W.EachIs (fun (u : Value) (b : V × List Int) => ∃ as, Reads s.heap u (tupD b.2) as) us L
  | [], _, h, _ => by cases h; exact .nil
  | p :: L, _, h, hd => by
    cases h with
    | cons h1 h2 => exact .cons (Dp.reads I _ _ _ (hd p (by simp)) h1) (each_reads I h2 fun q hq => hd q (by simp [hq]))
theorem readsAll_ints {h : Heap} : ∀ (k : List Int) (us : List Value) (as : List Addr), ReadsAll h us (k.map PyData.int) as → as = []
  | [], _, _, r => by cases r; rfl
  | n :: k, _, _, r => by
    rw [List.map_cons] at r
    cases r with
    | cons h1 h2 =>
      cases h1
      rw [readsAll_ints k _ _ h2]; rfl
theorem reads_tup {h : Heap} {v : Value} {k : List Int} {as : List Addr} (r : Reads h v (tupD k) as) : as = [] := by
  unfold tupD at r
  cases r with
  | tuple h1 h2 h3 h4 => exact readsAll_ints k _ _ h4
def rSortK (K : PySem.W.Frag) : List V → Hp → VK → Prop := fun vs H Q => ∃ (a : Addr) (L : List (V × List Int)), vs = [V.ref a] ∧ SqL K H a (L.map (·.1)) ∧ (∀ p ∈ L, Dp K H p.1 (tupD p.2) ∧ p.2 ≠ []) ∧
  ∀ p, H p = none → Q (.ref p) (upd H p (.lst ((L.mergeSort leV).map (·.1))))
theorem cr_sortedK (hu : X.A.units + 65 < cLine) : CallR X (.builtin "sorted") (rSortK X.K) := by
  intro pins s σ H vs us Q I r h
  obtain ⟨a, L, rfl, hs, hL, q⟩ := h
  obtain ⟨its, rv, hl, hz⟩ := I.list hs
  obtain ⟨u, rfl, ru⟩ := vals1 r
  obtain rfl : u = Value.ref a := ru
  have e := each_vals rv
  have er := each_reads I rv fun p hp => (hL p hp).1
  rw [List.length_map] at hz
  refine PySem.W.sorted_data (enc := fun b : V × List Int => tupD b.2) (R := fun (u : Value) (b : V × List Int) => RelV b.1 u) hl.isList e er (allAlike_tups L) (sortable_tups fun p hp => (hL p hp).2) hz (fun b _ => by rw [dep_tupD]; omega) fun out ho eo => ?_
  rw [dataLe_leV] at eo
  obtain ⟨c, hc⟩ := PyProof.Rows.sortedAll_at s.heap its out.toArray
  refine ⟨.ref (s.heap.objs.size + 1), _, I.laid (t' := s.toks) (fun _ _ => PyProof.Rows.sortedAll_old) (Nat.le_succ _) (?_ : ObjOk X.prog X.w _ _ _ (.lst ((L.mergeSort leV).map (·.1)))), rfl, q _ (I.hok.fresh (Nat.le_succ _))⟩
  exact ⟨by rw [List.length_map, List.length_mergeSort]; exact hz, out, c, vals_each eo, hc⟩
def rSortKD : List V → Hp → VK → Prop := fun vs H Q => ∃ (d : Addr) (kvs : List (List Key × V)) (ks : List (List Int)), vs = [V.ref d] ∧ Rd H d (.dT kvs) ∧ kvs.map (·.1) = ks.map (fun k => k.map Sum.inl) ∧ (∀ k ∈ ks, k ≠ []) ∧
  ∀ (p : Addr) (L : List (V × List Int)), H p = none → L.map (·.2) = ks → (∀ q ∈ L, ∃ b, q.1 = V.ref b ∧ H b = some (.tup (q.2.map V.int))) → Q (.ref p) (upd H p (.lst ((L.mergeSort leV).map (·.1))))
theorem kV_ints (k : List Int) : (k.map (Sum.inl (β := Str))).map kV = k.map V.int := by rw [List.map_map]; rfl
theorem keys_list {H : Hp} : ∀ {kvs : List (List Key × V)} {bs : List Addr} {ks : List (List Int)}, IsKeys H kvs bs → kvs.map (·.1) = ks.map (fun k => k.map Sum.inl) →
    ∃ L : List (V × List Int), L.map (·.1) = bs.map V.ref ∧ L.map (·.2) = ks ∧ ∀ q ∈ L, ∃ b, q.1 = V.ref b ∧ H b = some (.tup (q.2.map V.int))
  | [], [], ks, _, e => by
    cases ks with
    | nil => exact ⟨[], rfl, rfl, fun q hq => by cases hq⟩
    | cons _ _ => simp at e
  | [], _ :: _, _, h, _ => by cases h
  | _ :: _, [], _, h, _ => by cases h
  | p :: kvs, b :: bs, ks, h, e => by
    cases h with
    | cons h1 h2 =>
      cases ks with
      | nil => simp at e
      | cons k ks =>
        simp only [List.map_cons, List.cons.injEq] at e
        obtain ⟨L, e1, e2, e3⟩ := keys_list h2 e.2
        refine ⟨(V.ref b, k) :: L, by simp [e1], by simp [e2], fun q hq => ?_⟩
        rcases List.mem_cons.mp hq with rfl | hq
        · exact ⟨b, rfl, by rw [h1, e.1, kV_ints]⟩
        · exact e3 q hq
theorem cr_sortedKD (hc : X.calm = true) (hu : X.A.units + 65 < cLine) : CallR X (.builtin "sorted") rSortKD := by
  intro pins s σ H vs us Q I r h
  obtain ⟨d, kvs, ks, rfl, hd, hk, hne, q⟩ := h
  obtain ⟨u, rfl, rx⟩ := vals1 r
  cases rx
  obtain ⟨z, hs, xs, pr, o, es, ep, ho, hx, hdt, he, hn⟩ := (show ObjOk X.prog X.w H s.heap d (.dT kvs) from hd.ok I.hok)
  have l1 : es.size = xs.length := size_of_entries he
  have l2 : kvs.length = xs.length := Paired.length pr
  refine Calls.call_function_entry PyProof.Rows.kind_sorted PyProof.Rows.plain_sorted PyProof.Rows.entry_sorted (PyProof.Rows.args_sorted1 _) ?_
  unfold Builtin.«sorted»
  refine wpAny_bind (m := checkCount "sorted" 1 1 _) (wpAny_pure ?_)
  refine wpAny_bind (PySem.W.kdu_collect (A := X.A.in1) (kdl_raw hs hx hdt) (I.ok.hd hc) ho (by omega) fun h' tk acc kp it => ?_)
  have ea : acc.toList = xs.map fun x => Value.ref x.2.1 := by
    have hl : acc.toList.length = xs.length := by rw [Array.length_toList, it.1]; exact l1
    apply List.ext_getElem?
    intro j
    rw [List.getElem?_map]
    cases hj : acc.toList[j]? with
    | none =>
      have h1 := List.getElem?_eq_none_iff.mp hj
      rw [List.getElem?_eq_none (by omega)]
      all_goals rfl
    | some v =>
      obtain ⟨en, hen, hv⟩ := it.2 j v (by rw [← Array.getElem?_toList]; exact hj)
      have qe := entry_at he j
      rw [hen] at qe
      cases hb : xs[j]? with
      | none =>
        rw [hb] at qe
        cases qe
      | some x =>
        rw [hb] at qe
        rw [hv, (show en = entryOfKey (tupleKind (mixKind X.prog X.w)) x from Option.some.inj qe)]
        all_goals rfl
  obtain ⟨L, e1, e2, e3⟩ := keys_list (isKeys_of pr) hk
  have I1 : Inv X pins σ H { s with heap := h', toks := tk } := I.kept kp
  have rv : Vals (L.map (·.1)) acc.toList := by
    rw [e1, ea, show (xs.map fun x => Value.ref x.2.1) = (xs.map fun x => x.2.1).map Value.ref by rw [List.map_map]; rfl]
    exact vals_refs _
  have hLl : L.length = xs.length := by have := congrArg List.length e1; simpa using this
  have hD : ∀ p ∈ L, Dp X.K H p.1 (tupD p.2) := fun p hp => by
    obtain ⟨b, hb1, hb2⟩ := e3 p hp
    rw [hb1]
    unfold tupD
    refine .tup (.inl (.inl hb2)) ?_
    have : ∀ k : List Int, DpAll X.K H (k.map V.int) (k.map PyData.int) := fun k => by
      induction k with
      | nil => exact .nil
      | cons n k ih => exact .cons (.int n) ih
    exact this _
  have hne' : ∀ p ∈ L, p.2 ≠ [] := fun p hp => hne _ (by rw [← e2]; exact List.mem_map.mpr ⟨p, hp, rfl⟩)
  have hsz : acc.toList.length ≤ sizeLine := by rw [← rv.length, List.length_map]; omega
  refine wpAny_bind (wpAny_newList ?_ hsz)
  have hoL : (h'.push (seqObj "list" acc.toList.toArray 0)).get? h'.objs.size = some (seqObj "list" acc.toList.toArray 0) := Heap.get?_push_size _ rfl
  show wpAny _ _ _ _ _ { s with heap := h'.push (seqObj "list" acc.toList.toArray 0), toks := tk }
  have I2 : Inv X pins σ H { s with heap := h'.push (seqObj "list" acc.toList.toArray 0), toks := tk } := I1.kept (t' := tk) fun b o q => Heap.get?_push_of_some _ q
  refine wpAny_bind (wpAny_holding (PySem.W.list_sort_data (s := { s with heap := h'.push (seqObj "list" acc.toList.toArray 0), toks := tk }) (enc := fun b : V × List Int => tupD b.2) (R := fun (u : Value) (b : V × List Int) => RelV b.1 u) hoL (each_vals rv)
    ((each_reads I2 rv hD).mono fun v b ⟨as, r⟩ => ⟨as, r, by rw [reads_tup r]; simp⟩) (allAlike_tups L) (sortable_tups hne') (by omega) (fun b _ => by rw [dep_tupD]; show X.A.units + 1 + 1 + 1 < cLine; omega) fun out ho eo => ?_))
  rw [dataLe_leV] at eo
  obtain ⟨e', he'⟩ := PyProof.Rows.sortedHeap_at (vs := acc.toList) (out := out.toArray) hoL
  have hlen : ((L.mergeSort leV).map (·.1)).length ≤ sizeLine := by rw [List.length_map, List.length_mergeSort]; omega
  refine wpAny_pure ⟨_, rfl, .ref h'.objs.size, upd H h'.objs.size (.lst ((L.mergeSort leV).map (·.1))), I1.laid (t' := tk) (fun b u e => ?_) (Nat.le_refl _)
    (show ObjOk X.prog X.w _ _ _ (.lst ((L.mergeSort leV).map (·.1))) from ⟨hlen, out, e', vals_each eo, he'⟩), rfl, q _ L (I1.hok.fresh (Nat.le_refl _)) e2 e3⟩
  have hb : b < h'.objs.size := Heap.lt_size e
  rw [PyProof.Rows.sortedHeap_old (Nat.ne_of_lt hb) (by rw [size_push']; exact Nat.lt_succ_of_lt hb)]
  exact Heap.get?_push_of_some _ e
end
theorem toDs_tups : ∀ ks : List (List Int), toDs (ks.map tupI) = ks.map tupD
  | [] => rfl
  | k :: ks => by rw [List.map_cons, toDs, toDs_tups ks, toD_tupI]; rfl
theorem okTs_tups : ∀ ks : List (List Int), okTs (ks.map tupI) = true
  | [] => rfl
  | k :: ks => by rw [List.map_cons, okTs, okTs_tups ks, okT_tupI]; rfl
section
variable {K : KC} {φ ψ : List Addr} {H : Hp} {M : Mem}
theorem rts_pairs : ∀ {ks : List (List Int)} {vs : List V}, RTs K φ ψ H (ks.map tupI) vs → ∃ L : List (V × List Int), vs = L.map (·.1) ∧ L.map (·.2) = ks ∧ ∀ q ∈ L, RT K φ ψ H (tupI q.2) q.1
  | [], _, h => by cases h; exact ⟨[], rfl, rfl, fun q hq => by cases hq⟩
  | k :: ks, _, h => by
    cases h with
    | @cons t v ts vs h1 h2 =>
      obtain ⟨L, e1, e2, e3⟩ := rts_pairs h2
      refine ⟨(v, k) :: L, by simp [e1], by simp [e2], fun q hq => ?_⟩
      rcases List.mem_cons.mp hq with rfl | hq
      · exact h1
      · exact e3 q hq
theorem rts_of : ∀ {L : List (V × List Int)}, (∀ q ∈ L, RT K φ ψ H (tupI q.2) q.1) → RTs K φ ψ H ((L.map (·.2)).map tupI) (L.map (·.1))
  | [], _ => .nil
  | q :: L, h => .cons (h q (by simp)) (rts_of fun p hp => h p (by simp [hp]))
theorem rts_sorted {L : List (V × List Int)} {ks : List (List Int)} (h : ∀ q ∈ L, RT K φ ψ H (tupI q.2) q.1) (e : L.map (·.2) = ks) : RTs K φ ψ H ((sortK ks).map fun k => .tup (k.map .int)) ((L.mergeSort leV).map (·.1)) := by
  have e1 : sortK ks = (L.mergeSort leV).map (·.2) := by
    unfold sortK
    rw [← e]
    exact (List.map_mergeSort (r := leV) (s := lexLe) (f := fun p : V × List Int => p.2) fun _ _ _ _ => rfl).symm
  rw [e1]
  exact rts_of fun q hq => h q ((List.mergeSort_perm L leV).mem_iff.mp hq)
theorem fre_tup (r : RM K φ ψ H M) {b : Addr} {vs : List V} (e : H b = some (.tup vs)) : Fre φ ψ b := by
  refine ⟨fun hm => ?_, fun hm => ?_⟩
  · obtain ⟨i, hi, e1⟩ := List.mem_iff_getElem.mp hm
    have e2 : φ[i]? = some b := List.getElem?_eq_some_iff.mpr ⟨hi, e1⟩
    have hM : i < M.length := by rw [← r.len]; exact hi
    have q := r.at_ i b M[i] e2 (List.getElem?_eq_getElem hM)
    cases ho : M[i] with
    | lst ts => rw [ho] at q; obtain ⟨vs, h, _⟩ := q; rw [e] at h; cases h
    | dic tk ks ts =>
      rw [ho] at q
      rcases q with ⟨_, kvs, h, _⟩ | ⟨_, _, kvs, h, _⟩
      · rw [e] at h; cases h
      · rw [e] at h; cases h
    | ins c fs => rw [ho] at q; obtain ⟨dx, gs, h, _⟩ := q; rw [e] at h; cases h
    | tab q0 => rw [ho] at q; obtain ⟨_, ps, h, _⟩ := q; rw [e] at h; cases h
  · obtain ⟨o, h, n⟩ := r.used2 b hm
    rw [e] at h
    cases h
    exact n.1 _ rfl
theorem keyT_ints : ∀ {l : List Key} {k : List Int}, l.map keyT = k.map T.int → l = k.map Sum.inl
  | [], [], _ => rfl
  | [], _ :: _, h => by simp at h
  | _ :: _, [], h => by simp at h
  | x :: l, n :: k, h => by
    simp only [List.map_cons, List.cons.injEq] at h
    rw [keyT_ints h.2]
    cases x with
    | inl y => simp only [keyT, T.int.injEq] at h; rw [h.1]; rfl
    | inr y => simp [keyT] at h
theorem keys_ints : ∀ {kvs : List (List Key × V)} {ks : List (List Int)}, kvs.map (fun p => keyTT p.1) = ks.map tupI → kvs.map (·.1) = ks.map fun k => k.map Sum.inl
  | [], [], _ => rfl
  | [], _ :: _, h => by simp at h
  | _ :: _, [], h => by simp at h
  | p :: kvs, k :: ks, h => by
    simp only [List.map_cons, List.cons.injEq] at h
    rw [List.map_cons, List.map_cons, keys_ints h.2]
    have := h.1
    unfold keyTT tupI at this
    rw [keyT_ints (T.tup.inj this)]
end
end Mi
end L2

/-! Mini: stores, built-ins, methods of lists. -/
namespace L2
namespace Mi
open PySem PySem.Spec PyProof.Rows

section
variable {K : KC} {φ ψ : List Addr} {H : Hp}
theorem any_keys {α : Type} [DecidableEq α] {f : α → T} (hf : ∀ a b, eqT (f a) (f b) = decide (a = b)) (kvs : List (α × V)) (k : α) : ((kvs.map fun p => f p.1).any fun x => eqT x (f k)) = kvs.any fun kv => decide (kv.1 = k) := by
  rw [List.any_map]
  congr 1
  funext p
  exact hf p.1 k
theorem put_vals {α : Type} [DecidableEq α] {f : α → T} (hf : ∀ a b, eqT (f a) (f b) = decide (a = b)) {t : T} {v : V} (k : α) (rv : RT K φ ψ H t v) : ∀ {kvs : List (α × V)} {ts : List T}, RTs K φ ψ H ts (kvs.map (·.2)) →
    RTs K φ ψ H (List.zipWith (fun x y => if eqT x (f k) then t else y) (kvs.map fun p => f p.1) ts) ((kvs.map (fun kv => if kv.1 = k then (kv.1, v) else kv)).map (·.2))
  | [], _, h => by cases h; exact .nil
  | p :: r, _, h => by
    cases h with
    | cons h1 h2 =>
      simp only [List.map_cons, List.zipWith_cons_cons]
      refine .cons ?_ (put_vals hf k rv h2)
      rw [hf]
      by_cases e : p.1 = k
      · rw [if_pos (by simpa using e), if_pos e]; exact rv
      · rw [if_neg (by simpa using e), if_neg e]; exact h1
theorem put_keys {α : Type} [DecidableEq α] {f : α → T} (k : α) (v : V) (kvs : List (α × V)) : ((kvs.map (fun kv => if kv.1 = k then (kv.1, v) else kv)).map fun p => f p.1) = kvs.map fun p => f p.1 := by
  rw [List.map_map]
  apply List.map_congr_left
  intro p _
  simp only [Function.comp]
  split <;> rfl
theorem putD_ok {α : Type} [DecidableEq α] {f : α → T} (hf : ∀ a b, eqT (f a) (f b) = decide (a = b)) {t : T} {v : V} (k : α) (rv : RT K φ ψ H t v) {kvs : List (α × V)} {ts : List T} (h : RTs K φ ψ H ts (kvs.map (·.2))) :
    (putD (kvs.map fun p => f p.1) ts (f k) t).1 = (putK kvs k v).map (fun p => f p.1) ∧ RTs K φ ψ H (putD (kvs.map fun p => f p.1) ts (f k) t).2 ((putK kvs k v).map (·.2)) := by
  unfold putD putK
  rw [any_keys hf]
  split
  · exact ⟨(put_keys k v kvs).symm, put_vals hf k rv h⟩
  · refine ⟨by simp, ?_⟩
    rw [List.map_append]
    exact h.append (.cons rv .nil)
end
section
variable {X : Cx} {K : KC}
def rSetM (K : KC) : TSet := fun vo vi vx H Q => ∃ φ ψ M o i x M', RM K φ ψ H M ∧ RT K φ ψ H o vo ∧ RT K φ ψ H i vi ∧ RT K φ ψ H x vx ∧ setT o i x M = some M' ∧ OkM K φ ψ H M' Q
theorem op_set (hK : K.K = X.K) (hu : X.A.units + 1 < cLine) : PSet X (rSetM K) := by
  intro pins s σ H vo vi vx ov iv u Q I ro ri rv h
  obtain ⟨φ, ψ, M, o, i, x, M', rm, r1, r2, r3, e, ok⟩ := h
  have sz := szl
  unfold setT at e
  split at e
  · cases r1 with
    | @obj a j ha =>
      split at e
      · rename_i ts hts
        split at e
        · obtain ⟨m, hm, rfl⟩ := Option.map_eq_some_iff.mp e
          cases r2
          obtain ⟨vs, h1, h2⟩ := rm.obj ha hts
          have x' : Ext φ H φ (upd H a (.lst (vs.set m vx))) := .write ha
          exact set_list pins s σ H _ _ vx ov iv u Q I ro ri rv ⟨a, vs, _, m, rfl, rfl, h1, by rw [← h2.length]; exact hm, ok φ _ x' (rm.write ha ⟨_, upd_same, (RTs.set r3 m h2).to x'⟩)⟩
        · cases e
      · rename_i tk ks ts hts
        split at e
        · rename_i hc
          obtain ⟨hk, hl⟩ := hc
          cases e
          rcases rm.obj ha hts with ⟨rfl, kvs, h1, rfl, h3⟩ | ⟨rfl, hkt, kvs, h1, rfl, h3⟩
          · have kx : isKey i = true := by
              cases i <;> first | exact hk | (simp [isKeyT, isKey] at hk)
            obtain ⟨key, rfl, rfl⟩ := key_of_isKey kx r2
            rw [List.length_map] at hl
            obtain ⟨p1, p2⟩ := putD_ok (fun a b => keyT_inj) key r3 h3
            have x' : Ext φ H φ (upd H a (.dK (putK kvs key vx))) := .write ha
            refine set_dict hu pins s σ H _ _ vx ov iv u Q I ro ri rv ⟨a, _, rfl, .k h1 (by omega), ok φ _ x' (rm.write ha ?_)⟩
            exact .inl ⟨rfl, _, upd_same, p1, p2.to x'⟩
          · cases r2 with
            | @tup b vs us g1 g2 =>
              simp only [isKeyT, Bool.true_and] at hk
              obtain ⟨key, rfl, rfl⟩ := keys_of hk g2
              rcases g1 with ⟨_, g1⟩ | ⟨g1, _⟩
              · rw [List.length_map] at hl
                obtain ⟨p1, p2⟩ := putD_ok (f := keyTT) (fun a b => keyTT_inj) key r3 h3
                have x' : Ext φ H φ (upd H a (.dT (putK kvs key vx))) := .write ha
                refine set_dict hu pins s σ H _ _ vx ov iv u Q I ro ri rv ⟨a, _, rfl, .t h1 g1 (by omega), ok φ _ x' (rm.write ha ?_)⟩
                exact .inr ⟨rfl, hkt, _, upd_same, p1, p2.to x'⟩
              · rw [hkt] at g1; cases g1
            | _ => simp [isKeyT, isKey] at hk
        · cases e
      · cases e
  · cases e
/-! ### built-ins -/
def biV : BI → Value
  | .len => .builtin "len"
  | .int => .type "int"
  | .abs => .builtin "abs"
  | .list _ => .type "list"
  | .tuple => .type "tuple"
  | .sum => .builtin "sum"
  | .all => .builtin "all"
  | .any => .builtin "any"
  | .max => .builtin "max"
  | .min => .builtin "min"
  | .sorted => .builtin "sorted"
def rBi (K : KC) (b : BI) : List V → Hp → VK → Prop := fun vs H Q => ∃ φ ψ M ts t M', RM K φ ψ H M ∧ RTs K φ ψ H ts vs ∧ biT b ts M = some (t, M') ∧ Ok1 K φ ψ H t M' Q
theorem op_bi (hK : K.K = X.K) (hc : X.calm = true) (hu : X.A.units + 65 < cLine) (b : BI) : CallR X (biV b) (rBi K b) := by
  intro pins s σ H vs us Q I rv h
  obtain ⟨φ, ψ, M, ts, t, M', rm, r, e, ok⟩ := h
  have sz := szl
  unfold biT at e
  split at e
  · -- len
    cases r with | cons r1 r2 =>
    cases r2
    rename_i v
    split at e
    · rename_i tk ks us' hd
      cases e
      obtain ⟨a, rfl, ⟨rfl, kvs, h1, rfl, h3⟩ | ⟨rfl, hkt, kvs, h1, rfl, h3⟩⟩ := dof_ok rm r1 hd
      · refine call_lenD pins s σ H _ us Q I rv ⟨a, kvs, rfl, h1, ?_⟩
        rw [List.length_map] at ok
        exact ok.here rm (.int _)
      · refine call_len_dT pins s σ H _ us Q I rv ⟨a, kvs, rfl, h1, ?_⟩
        rw [List.length_map] at ok
        exact ok.here rm (.int _)
    · obtain ⟨zs, hz, e⟩ := Option.map_eq_some_iff.mp e
      cases e
      obtain ⟨a, vs, rfl, h2, h3⟩ := sof_ok rm r1 hz
      rw [h2.length] at ok
      rcases h3 with ⟨h3, _⟩ | ⟨h3, _⟩
      · exact call_len_seq pins s σ H _ us Q I rv ⟨a, vs, rfl, .inl (hK ▸ h3), ok.here rm (.int _)⟩
      · exact call_len_seq pins s σ H _ us Q I rv ⟨a, vs, rfl, .inr (hK ▸ h3), ok.here rm (.int _)⟩
  · cases e
    cases r with | cons r1 r2 =>
    cases r2
    cases r1
    exact call_int1 pins s σ H _ us Q I rv (.inl ⟨_, rfl, ok.here rm (.int _)⟩)
  · cases e
    cases r with | cons r1 r2 =>
    cases r2
    cases r1
    exact call_int1 pins s σ H _ us Q I rv (.inr ⟨_, rfl, ok.here rm (.int _)⟩)
  · cases e
    cases r with | cons r1 r2 =>
    cases r2
    cases r1
    exact call_abs pins s σ H _ us Q I rv ⟨_, rfl, ok.here rm (.int _)⟩
  · -- list
    obtain ⟨zs, hz, e⟩ := Option.map_eq_some_iff.mp e
    obtain ⟨rfl, rfl⟩ := Prod.mk.inj e
    cases r with | cons r1 r2 =>
    cases r2
    obtain ⟨a, vs, rfl, h2, h3⟩ := sof_ok rm r1 hz
    rcases h3 with ⟨h3, _⟩ | ⟨h3, _⟩
    · exact call_list_of pins s σ H _ us Q I rv ⟨a, vs, rfl, .inl (hK ▸ h3), fun p hp => ok.newL rm h2 hp⟩
    · exact call_list_of pins s σ H _ us Q I rv ⟨a, vs, rfl, .inr (hK ▸ h3), fun p hp => ok.newL rm h2 hp⟩
  · -- tuple
    obtain ⟨zs, hz, e⟩ := Option.map_eq_some_iff.mp e
    cases e
    cases r with | cons r1 r2 =>
    cases r2
    obtain ⟨a, vs, rfl, h2, h3⟩ := sof_ok rm r1 hz
    rcases h3 with ⟨h3, _⟩ | ⟨h3, rfl⟩
    · exact call_tuple_of pins s σ H _ us Q I rv ⟨a, vs, rfl, .inl ⟨hK ▸ h3, fun p hp => ok.newTup rm h2 hp⟩⟩
    · exact call_tuple_of pins s σ H _ us Q I rv ⟨a, vs, rfl, .inr ⟨hK ▸ h3, ok.here rm r1⟩⟩
  · -- sum
    obtain ⟨zs, hz, e⟩ := Option.bind_eq_some_iff.mp e
    obtain ⟨ns, hn, e⟩ := Option.map_eq_some_iff.mp e
    cases e
    cases r with | cons r1 r2 =>
    cases r2
    obtain ⟨a, vs, rfl, h2, h3⟩ := lof_ok rm r1 hz
    obtain rfl := intsOf_ok hn
    obtain rfl := h3.ints
    exact cr_sum hc pins s σ H _ us Q I rv ⟨a, ns, rfl, .of h2, ok.here rm (.int _)⟩
  · obtain ⟨zs, hz, e⟩ := Option.bind_eq_some_iff.mp e
    obtain ⟨ns, hn, e⟩ := Option.map_eq_some_iff.mp e
    cases e
    cases r with | cons r1 r2 =>
    cases r2
    obtain ⟨a, vs, rfl, h2, h3⟩ := lof_ok rm r1 hz
    obtain rfl := blsOf_ok hn
    obtain rfl := h3.bls
    exact cr_all hc pins s σ H _ us Q I rv ⟨a, ns, rfl, .of h2, ok.here rm (.bl _)⟩
  · obtain ⟨zs, hz, e⟩ := Option.bind_eq_some_iff.mp e
    obtain ⟨ns, hn, e⟩ := Option.map_eq_some_iff.mp e
    cases e
    cases r with | cons r1 r2 =>
    cases r2
    obtain ⟨a, vs, rfl, h2, h3⟩ := lof_ok rm r1 hz
    obtain rfl := blsOf_ok hn
    obtain rfl := h3.bls
    exact cr_any hc pins s σ H _ us Q I rv ⟨a, ns, rfl, .of h2, ok.here rm (.bl _)⟩
  · cases e
    cases r with | cons r1 r2 =>
    cases r2 with | cons r2 r3 =>
    cases r3
    cases r1
    cases r2
    exact call_max2 hc pins s σ H _ us Q I rv ⟨_, _, rfl, ok.here rm (.int _)⟩
  · cases e
    cases r with | cons r1 r2 =>
    cases r2 with | cons r2 r3 =>
    cases r3
    cases r1
    cases r2
    exact call_min2 hc pins s σ H _ us Q I rv ⟨_, _, rfl, ok.here rm (.int _)⟩
  · obtain ⟨zs, hz, e⟩ := Option.bind_eq_some_iff.mp e
    obtain ⟨ns, hn, e⟩ := Option.bind_eq_some_iff.mp e
    split at e
    · cases e
    · rename_i hne
      cases e
      cases r with | cons r1 r2 =>
      cases r2
      obtain ⟨a, vs, rfl, h2, h3⟩ := lof_ok rm r1 hz
      obtain rfl := intsOf_ok hn
      obtain rfl := h3.ints
      obtain ⟨m1, m2⟩ := maxL_mem hne
      refine cr_max hc pins s σ H _ us Q I rv ⟨a, ns, rfl, .of h2, List.length_pos_iff.mpr hne, fun m hm hb => ?_⟩
      have e : m = maxL ns := by have := hb _ m1; have := m2 m hm; omega
      subst e
      exact ok.here rm (.int _)
  · obtain ⟨zs, hz, e⟩ := Option.bind_eq_some_iff.mp e
    obtain ⟨ns, hn, e⟩ := Option.bind_eq_some_iff.mp e
    split at e
    · cases e
    · rename_i hne
      cases e
      cases r with | cons r1 r2 =>
      cases r2
      obtain ⟨a, vs, rfl, h2, h3⟩ := lof_ok rm r1 hz
      obtain rfl := intsOf_ok hn
      obtain rfl := h3.ints
      obtain ⟨m1, m2⟩ := minL_mem hne
      refine cr_min hc pins s σ H _ us Q I rv ⟨a, ns, rfl, .of h2, List.length_pos_iff.mpr hne, fun m hm hb => ?_⟩
      have e : m = minL ns := by have := hb _ m1; have := m2 m hm; omega
      subst e
      exact ok.here rm (.int _)
  · split at e
    · rename_i tk ks us' hd
      split at e
      rotate_left
      · cases e
      rename_i htk
      subst htk
      obtain ⟨kk, hn, e⟩ := Option.bind_eq_some_iff.mp e
      split at e
      rotate_left
      · cases e
      rename_i hne
      cases e
      cases r with | cons r1 r2 =>
      cases r2
      obtain ⟨a, rfl, ⟨h0, _⟩ | ⟨_, hkt, kvs, h1, h2, h3⟩⟩ := dof_ok rm r1 hd
      · cases h0
      have hk : kvs.map (·.1) = kk.map (fun k => k.map Sum.inl) := keys_ints (by rw [← h2]; exact tupsOf_eq hn)
      refine cr_sortedKD hc hu pins s σ H _ us Q I rv ⟨a, kvs, kk, rfl, .inl h1, hk, hne, fun p L hp hL hq => ?_⟩
      exact ok.newL (tr := false) rm (rts_sorted (fun q hq' => by
        obtain ⟨b, e1, e2⟩ := hq q hq'
        rw [e1]
        exact .tup (.inl ⟨fre_tup rm e2, e2⟩) (RTs.ints' _)) hL) hp
    · obtain ⟨zs, hz, e⟩ := Option.bind_eq_some_iff.mp e
      split at e
      · rename_i ns hn
        split at e
        · rename_i h64
          cases e
          cases r with | cons r1 r2 =>
          cases r2
          obtain ⟨a, vs, rfl, h2, h3⟩ := lof_ok rm r1 hz
          obtain rfl := intsOf_ok hn
          obtain rfl := h3.ints
          refine cr_sorted pins s σ H _ us Q I rv ⟨a, ns, rfl, .of h2, h64, fun ns' p hp hu hpn => ?_⟩
          have e : ns' = sortI ns := up_same (hp.trans (sortI_perm ns).symm) hu (sortI_up ns)
          subst e
          exact ok.newL (tr := false) rm (RTs.ints' _) hpn
        · cases e
      · obtain ⟨kk, hn, e⟩ := Option.bind_eq_some_iff.mp e
        split at e
        rotate_left
        · cases e
        rename_i hne
        cases e
        cases r with | cons r1 r2 =>
        cases r2
        obtain ⟨a, vs, rfl, h2, h3⟩ := lof_ok rm r1 hz
        obtain rfl := tupsOf_eq hn
        obtain ⟨L, l1, l2, l3⟩ := rts_pairs h3
        subst l1
        refine cr_sortedK hu pins s σ H _ us Q I rv ⟨a, L, rfl, .of h2, fun p hp => ⟨?_, hne _ (by rw [← l2]; exact List.mem_map.mpr ⟨p, hp, rfl⟩)⟩, fun p hp => ?_⟩
        · have := RT.dp _ _ (l3 p hp) (okT_tupI p.2)
          rw [toD_tupI] at this
          exact hK ▸ this
        · exact ok.newL (tr := false) rm (rts_sorted l3 l2) hp
  · cases e
/-! ### isinstance -/
def isTy (ty : String) : Prop := ty ∈ ["int", "bool", "list", "tuple", "str"]
def rIsiM (K : KC) (ty : String) : List V → Hp → VK → Prop := fun vs H Q => ∃ φ ψ M x v b, vs = [v, .ty ty] ∧ RM K φ ψ H M ∧ RT K φ ψ H x v ∧ isiT M ty x = some b ∧ Q (.bl b) H
theorem kit_ty2 (K : PySem.W.Frag) {a : String} {b : String} (ha : a ∈ ["NoneType", "bool", "int", "str", "tuple", "list"]) (hb : isTy b) : PySem.W.kitOne K (.type a) (.type b) = some (a == b || (a == "bool" && b == "int")) := by
  unfold isTy at hb
  simp only [List.mem_cons, List.not_mem_nil, or_false] at ha hb
  rcases ha with rfl | rfl | rfl | rfl | rfl | rfl <;> rcases hb with rfl | rfl | rfl | rfl | rfl <;> rfl
theorem op_isi (hK : K.K = X.K) {ty : String} (ht : isTy ty) : CallR X (.builtin "isinstance") (rIsiM K ty) := by
  intro pins s σ H vs us Q I rv h
  obtain ⟨φ, ψ, M, x, v, b, rfl, rm, r, e, q⟩ := h
  have go : ∀ (n : String), n ∈ ["NoneType", "bool", "int", "str", "tuple", "list"] → TyX X.K H v (.type n) → b = (n == ty || (n == "bool" && ty == "int")) → wpAny (model X.prog X.w) X.A (call (.builtin "isinstance") us) (EP X pins σ Q) X.xe s := by
    intro n hn tx hb
    exact call_isi pins s σ H _ us Q I rv ⟨v, .ty ty, .type n, .type ty, b, rfl, .ty ty, tx, by rw [hb]; exact kit_ty2 _ hn ht, q⟩
  have ht' : ty = "int" ∨ ty = "bool" ∨ ty = "list" ∨ ty = "tuple" ∨ ty = "str" := by
    unfold isTy at ht
    simpa using ht
  unfold isiT at e
  split at e
  · cases e; cases r
    exact go "NoneType" (by simp) (.base .non) (by rcases ht' with rfl | rfl | rfl | rfl | rfl <;> rfl)
  · cases e; cases r
    exact go "bool" (by simp) (.base (.bl _)) (by rcases ht' with rfl | rfl | rfl | rfl | rfl <;> rfl)
  · cases e; cases r
    exact go "int" (by simp) (.base (.int _)) (by rcases ht' with rfl | rfl | rfl | rfl | rfl <;> rfl)
  · cases e; cases r
    exact go "str" (by simp) (.base (.str _)) (by rcases ht' with rfl | rfl | rfl | rfl | rfl <;> rfl)
  · cases e
    cases r with | tup h1 h2 =>
    refine go "tuple" (by simp) ?_ (by rcases ht' with rfl | rfl | rfl | rfl | rfl <;> rfl)
    rcases h1 with ⟨_, h1⟩ | ⟨_, o, its, n, h1, h3, _⟩
    · exact .base (.tup h1)
    · exact .kTuple (hK ▸ h1) h3
  · cases e
    cases r with | fl h0 h1 h2 =>
    exact go "list" (by simp) (.base (.lst h1)) (by rcases ht' with rfl | rfl | rfl | rfl | rfl <;> rfl)
  · split at e
    · rename_i ts hts
      cases e
      cases r with | obj ha =>
      obtain ⟨vs, h1, h2⟩ := rm.obj ha hts
      exact go "list" (by simp) (.base (.lst h1)) (by rcases ht' with rfl | rfl | rfl | rfl | rfl <;> rfl)
    · cases e
  · cases e
/-! ### methods of lists -/
def bmId : BM → String
  | .append => "list.append"
  | .extend => "list.extend"
  | .pop0 => "list.pop"
  | .pop => "list.pop"
  | .reverse => "list.reverse"
  | .remove => "list.remove"
def rBm (K : KC) (b : BM) : V → List V → Hp → VK → Prop := fun vo vs H Q => ∃ φ ψ M o xs t M', RM K φ ψ H M ∧ RT K φ ψ H o vo ∧ RTs K φ ψ H xs vs ∧ bmT b o xs M = some (t, M') ∧ Ok1 K φ ψ H t M' Q
theorem findIdx_ok {ns : List Int} {k : Int} (h : k ∈ ns) : ns[ns.findIdx fun x => x == k]? = some k ∧ ∀ m : Nat, m < (ns.findIdx fun x => x == k) → ns[m]? ≠ some k := by
  have hl : (ns.findIdx fun x => x == k) < ns.length := List.findIdx_lt_length_of_exists ⟨k, h, by simp⟩
  refine ⟨?_, fun m hm e => ?_⟩
  · have := List.findIdx_getElem (w := hl)
    rw [List.getElem?_eq_getElem hl]
    simpa using this
  · have h1 := List.not_of_lt_findIdx hm
    obtain ⟨h2, h3⟩ := List.getElem?_eq_some_iff.mp e
    rw [h3] at h1
    simp at h1
theorem op_bm (hK : K.K = X.K) (hu : X.A.units + 65 < cLine) (b : BM) : MtM X (bmId b) (rBm K b) := by
  intro pins s σ H vo vs v us Q I rv rvs h
  obtain ⟨φ, ψ, M, o, xs, t, M', rm, r, rs, e, ok⟩ := h
  have sz := szl
  unfold bmT at e
  split at e
  · rename_i i
    split at e
    · rename_i ts hts
      cases r with | @obj a _ ha =>
      obtain ⟨zs, h1, h2⟩ := rm.obj ha hts
      have hl := h2.length
      split at e
      · split at e
        · rename_i hlen
          cases e
          cases rs with | cons r1 r2 =>
          cases r2
          rename_i y
          have x' : Ext φ H φ (upd H a (.lst (zs ++ [y]))) := .write ha
          exact mt_append pins s σ H _ _ v us Q I rv rvs ⟨a, zs, y, rfl, rfl, h1, by omega, ok φ _ _ x' (rm.write ha ⟨_, upd_same, (h2.append (.cons r1 .nil)).to x'⟩) .non⟩
        · cases e
      · obtain ⟨us', hu, e⟩ := Option.bind_eq_some_iff.mp e
        split at e
        · rename_i hlen
          cases e
          cases rs with | cons r1 r2 =>
          cases r2
          obtain ⟨b, ws, rfl, g1, g2⟩ := lof_ok rm r1 hu
          have hl2 := g2.length
          have x' : Ext φ H φ (upd H a (.lst (zs ++ ws))) := .write ha
          exact mt_extend pins s σ H _ _ v us Q I rv rvs ⟨a, b, zs, ws, rfl, rfl, h1, g1, by omega, ok φ _ _ x' (rm.write ha ⟨_, upd_same, (h2.append g2).to x'⟩) .non⟩
        · cases e
      · obtain ⟨y, hy, e⟩ := Option.map_eq_some_iff.mp e
        cases e
        cases rs
        obtain ⟨w, hw, rw'⟩ := h2.get hy
        have x' : Ext φ H φ (upd H a (.lst zs.dropLast)) := .write ha
        have hd : RTs K φ ψ H ts.dropLast zs.dropLast := by
          rw [List.dropLast_eq_take, List.dropLast_eq_take, hl]
          exact h2.take _
        exact mt_pop pins s σ H _ _ v us Q I rv rvs ⟨a, zs, w, rfl, rfl, h1, by rw [← hl]; exact hw, ok φ _ _ x' (rm.write ha ⟨_, upd_same, hd.to x'⟩) (rw'.to x')⟩
      · split at e
        · rename_i hk
          obtain ⟨j, hj, e⟩ := Option.bind_eq_some_iff.mp e
          obtain ⟨y, hy, e⟩ := Option.map_eq_some_iff.mp e
          cases e
          cases rs with | cons r1 r2 =>
          cases r2; cases r1
          obtain ⟨w, hw, rw'⟩ := h2.get hy
          have x' : Ext φ H φ (upd H a (.lst (zs.eraseIdx j))) := .write ha
          exact mt_popAt pins s σ H _ _ v us Q I rv rvs ⟨a, zs, _, j, w, rfl, rfl, h1, hk.1, hk.2, by rw [← hl]; exact hj, hw, ok φ _ _ x' (rm.write ha ⟨_, upd_same, (h2.eraseIdx j).to x'⟩) (rw'.to x')⟩
        · cases e
      · cases e
        cases rs
        have x' : Ext φ H φ (upd H a (.lst zs.reverse)) := .write ha
        exact mt_reverse pins s σ H _ _ v us Q I rv rvs ⟨a, zs, rfl, rfl, h1, ok φ _ _ x' (rm.write ha ⟨_, upd_same, h2.reverse.to x'⟩) .non⟩
      · obtain ⟨kk, hn, e⟩ := Option.bind_eq_some_iff.mp e
        obtain ⟨k, hk, e⟩ := Option.bind_eq_some_iff.mp e
        obtain ⟨j, hj, e⟩ := Option.map_eq_some_iff.mp e
        cases e
        cases rs with | cons r1 r2 =>
        cases r2
        obtain rfl := tupsOf_eq hn
        obtain rfl := intsOf_ok hk
        have d1 := RTs.dp _ _ h2 (okTs_tups kk)
        have d2 := RT.dp (tupI k) _ r1 (okT_tupI k)
        rw [toDs_tups] at d1
        rw [toD_tupI] at d2
        have x' : Ext φ H φ (upd H a (.lst (zs.eraseIdx j))) := .write ha
        exact mt_removeT hu pins s σ H _ _ v us Q I rv rvs ⟨a, zs, _, kk, k, j, rfl, rfl, h1, hK ▸ d1, hK ▸ d2, hj, ok φ _ _ x' (rm.write ha ⟨_, upd_same, (h2.eraseIdx j).to x'⟩) .non⟩
      · obtain ⟨ns, hn, e⟩ := Option.bind_eq_some_iff.mp e
        split at e
        · rename_i hk
          cases e
          cases rs with | cons r1 r2 =>
          cases r2; cases r1
          obtain rfl := intsOf_ok hn
          obtain rfl := h2.ints
          obtain ⟨f1, f2⟩ := findIdx_ok hk
          exact mt_remove pins s σ H _ _ v us Q I rv rvs ⟨a, ns, _, _, rfl, rfl, h1, f1, f2, ok φ _ _ (.write ha) (rm.write ha ⟨_, upd_same, RTs.ints' _⟩) .non⟩
        · cases e
      · cases e
    · cases e
  · cases e
end
end Mi
end L2

/-! Mini: enumerate and zip over lists and tuples in any mix. -/
namespace L2
namespace Mi
open PySem PySem.Spec PyProof.Rows

/-- a list or a tuple (true) -/
def SqB (K : PySem.W.Frag) : Bool → Hp → Addr → List V → Prop
  | false, H, a, xs => SqL K H a xs
  | true, H, a, xs => SqT K H a xs
def IsB : Bool → Heap → Addr → Array Value → Prop
  | false, h, a, its => h.IsList a its
  | true, h, a, its => h.IsTuple a its
def ItB : Bool → Heap → Addr → Addr → Nat → Prop
  | false, h, it, a, i => h.IsListIter it a i
  | true, h, it, a, i => h.IsTupleIter it a i
def objB : Bool → Addr → Obj
  | false, a => { cls := .type "list_iterator", data := .fields #[.ref a, .int 0 0] }
  | true, a => { cls := .type "tuple_iterator", data := .fields #[.ref a, .int 0 0] }
theorem sqB {X : Cx} {pins : List (Addr × Obj)} {σ : L2.St} {H : Hp} {s : Shared} {b : Bool} {a : Addr} {xs : List V} (I : Inv X pins σ H s) (h : SqB X.K b H a xs) :
    ∃ its : List Value, Vals xs its ∧ IsB b s.heap a its.toArray ∧ xs.length ≤ sizeLine := by
  cases b with
  | false => obtain ⟨its, r, p, z⟩ := I.list h; exact ⟨its, r, p.isList, z⟩
  | true => obtain ⟨its, r, p, z⟩ := I.tuple h; exact ⟨its, r, p, z⟩
theorem sqB_inj {X : Cx} {pins : List (Addr × Obj)} {σ : L2.St} {H : Hp} {s : Shared} {b : Bool} {a : Addr} {xs ys : List V} (I : Inv X pins σ H s) (h : SqB X.K b H a xs) (h' : SqB X.K b H a ys) : xs = ys := by
  cases b with
  | false => exact I.list_inj h h'
  | true => exact I.tuple_inj h h'
theorem drawsB {prog : Program} {w : World} {A : Around} (hh : A.handled = none) (b : Bool) (it l : Addr) (hne : l ≠ it) (items : Array Value) :
    Draws prog w A it [it, l] items.size (fun i v => items[i]? = some v) (fun i h => ItB b h it l i ∧ IsB b h l items) := by
  cases b with
  | false => exact .list hh it l hne items
  | true => exact .tuple hh it l hne items
theorem beginsB (b : Bool) (l : Addr) (items : Array Value) : Begins (.ref l) (objB b l) fun h => IsB b h l items := by
  cases b with
  | false => exact begins_list l items
  | true => exact begins_tuple l items
theorem itB_0 {b : Bool} {h : Heap} {it a : Addr} (e : h.get? it = some (objB b a)) : ItB b h it a 0 := by
  cases b with
  | false => exact ⟨_, e, rfl, rfl⟩
  | true => exact ⟨_, e, rfl, rfl⟩
theorem itB_at {b : Bool} {h h' : Heap} {it a : Addr} {i : Nat} (x : ItB b h it a i) (k : ∀ o, h.get? it = some o → h'.get? it = some o) : ItB b h' it a i := by
  cases b with
  | false => obtain ⟨o, e, r⟩ := x; exact ⟨o, k o e, r⟩
  | true => obtain ⟨o, e, r⟩ := x; exact ⟨o, k o e, r⟩
theorem itB_obj {b : Bool} {h : Heap} {it a : Addr} {i : Nat} (x : ItB b h it a i) : ∃ o, h.get? it = some o ∧ ∀ v, o.data ≠ .cell v := by
  cases b with
  | false => obtain ⟨o, e, c, d⟩ := x; exact ⟨o, e, fun v z => by rw [d] at z; cases z⟩
  | true => obtain ⟨o, e, c, d⟩ := x; exact ⟨o, e, fun v z => by rw [d] at z; cases z⟩
theorem isB_lt {b : Bool} {h : Heap} {a : Addr} {its : Array Value} (x : IsB b h a its) : a < h.objs.size := by
  cases b with
  | false => obtain ⟨o, e, _⟩ := x; exact Heap.lt_size e
  | true => obtain ⟨o, e, _⟩ := x; exact Heap.lt_size e

/-- an iterator of new tuples -/
def JT (go : Nat → Hp → Prop) (its : Nat → Hp → List V → Prop) (stop : Nat → Hp → Prop) : It :=
  ⟨go, fun i H v H' => ∃ T vs, v = .ref T ∧ H T = none ∧ H' = upd H T (.tup vs) ∧ its i H vs, stop⟩
theorem turn_T {P : Program} {w : World} {K : PySem.W.Frag} {elts : List Expr} {kk : Nat} {tpos : Pos} {I₀ : Addr} {fp wr : List Addr} {tn : Nat → Heap → Prop} {go : Nat → Hp → Prop} {its : Nat → Hp → List V → Prop} {stop : Nat → Hp → Prop}
    (hI : I₀ ∈ fp) (hw : ∀ b ∈ wr, b ∈ fp)
    (obj : ∀ i h, tn i h → ∀ b ∈ fp, ∃ o, h.get? b = some o ∧ ∀ v, o.data ≠ .cell v)
    (keep : ∀ i h h', tn i h → (∀ b ∈ fp, ∀ o, h.get? b = some o → h'.get? b = some o) → tn i h')
    (W : ∀ (X : Cx), X.prog = P → X.w = w → X.K = K → X.calm = true → ∀ (i : Nat) (pins : List (Addr × Obj)) (s : Shared) (σ : L2.St) (H : Hp), Inv X pins σ H s → tn i s.heap → (go i H ∨ stop i H) →
      ∃ n Pt St Mid fpW, WalksT P w X.A I₀ fpW wr n Pt St Mid ∧ St i s.heap ∧ (go i H → i < n ∧ ∀ vals, Pt i vals → ∃ vs, Vals vs vals.toList ∧ vs.length ≤ sizeLine ∧ its i H vs) ∧ (stop i H → i = n) ∧ ∀ h, St (i + 1) h → tn (i + 1) h)
    (self : ∀ (A : Around) (i : Nat) (s : Shared) (Q : Value → Shared → Prop) (E : Value → Shared → Prop), tn i s.heap → Q (.ref I₀) s → wpAny (model P w) A (pyIter (.ref I₀)) Q E s) :
    Turn P w K (.Tuple elts kk tpos) (JT go its stop) fp I₀ tn where
  mem := hI
  obj := obj
  keep := keep
  item := by
    intro X hP hw' hK hc i pins s σ H E I hf st hg
    obtain ⟨n, Pt, St, Mid, fpW, Wk, hst, h1, h2, h3⟩ := W X hP hw' hK hc i pins s σ H I st (.inl hg)
    subst hP hw' hK
    obtain ⟨hlt, hv⟩ := h1 hg
    refine Wk.item i s _ _ hlt hst fun T vals h' tk hP hnew hT hm hk => ⟨_, rfl, ?_⟩
    refine Wk.go elts kk tpos i T { s with heap := h', toks := tk } _ _ hm fun h'' hst'' hk'' => ?_
    obtain ⟨vs, rv, hz, hits⟩ := hv vals hP
    have hTw : T ∉ wr := Wk.apart i T h' hm
    obtain ⟨o, ho, hc', nn, hd⟩ := hT
    have hT2 : h''.get? T = some o := hk'' T o hTw ho
    have new : ObjOk X.prog X.w (upd H T (.tup vs)) h'' T (.tup vs) := ⟨hz, vals.toList, rv, o, hT2, hc', nn, by rw [hd]⟩
    have I1 : Inv X pins σ (upd H T (.tup vs)) { s with heap := h'', toks := tk } :=
      I.turnedNew (ch := wr) (fun b ob hb q => hk'' b ob hb (hk b ob hb q)) (fun b hb => hf b (hw b hb)) hnew new
    refine ⟨.ref T, _, I1, rfl, ⟨T, vs, rfl, I.hok.fresh hnew, rfl, hits⟩, h3 h'' hst'', fun b hb => ?_⟩
    obtain ⟨ob, hob, _⟩ := obj i s.heap st b hb
    have hb' : b < s.heap.objs.size := Heap.lt_size hob
    rw [upd_ne (Nat.ne_of_lt (Nat.lt_of_lt_of_le hb' hnew))]
    exact (hf b hb).1
  done := by
    intro X hP hw' hK hc i pins s σ H E I hf st hg
    obtain ⟨n, Pt, St, Mid, fpW, Wk, hst, h1, h2, h3⟩ := W X hP hw' hK hc i pins s σ H I st (.inr hg)
    subst hP hw' hK
    obtain rfl := h2 hg
    refine Wk.done s _ _ hst fun h' tk hk => ⟨rfl, ?_⟩
    exact I.step (g' := s.gens) (d' := s.drawn) (ch := wr) (fun b hb => ⟨(hf b (hw b hb)).2.2.2.1, (hf b (hw b hb)).2.1, (hf b (hw b hb)).2.2.2.2.1, (hf b (hw b hb)).2.2.2.2.2⟩) (fun b o _ _ hc e _ => hk b o hc e) (fun b o _ _ hc e _ => ⟨o.slots, hk b o hc e⟩)
      (fun b o _ e nn => nn) (fun b o hc e => ⟨o, hk b o hc e⟩) (fun b xs e => e) (fun b o u e => e) (fun b ps e => ⟨#[], by rw [e]; simp⟩) (fun m hm => by
        obtain ⟨o, es, ep, ho, r⟩ := hm
        exact ⟨o, es, ep, hk _ o (fun z => (hf _ (hw _ z)).2.1 rfl) ho, r⟩) (fun b u e => by
        have nit : ∀ b u, H b = some u → b ∉ wr := fun b u e z => by
          have q := (hf b (hw b z)).1
          rw [q] at e; cases e
        refine (I.hok b u e).stay (fun c v hc q => hk c v ?_ q) (fun c q => q) fun c xs q => q
        rcases hc with z | z
        · rw [z]; exact nit b u e
        · exact nit c _ z) I.bare
  self := self
/-! ### enumerate -/
def Jen (K : PySem.W.Frag) (b : Bool) (a : Addr) : It := JT (fun i H => ∃ xs, SqB K b H a xs ∧ i < xs.length) (fun i H vs => ∀ xs, SqB K b H a xs → ∃ x, xs[i]? = some x ∧ vs = [.int (i : Nat), x]) (fun i H => ∃ xs, SqB K b H a xs ∧ i = xs.length)
theorem two_le : 2 ≤ sizeLine := by rw [szl]; decide
theorem three_le : 3 ≤ sizeLine := by rw [szl]; decide
theorem turn_en {P : Program} {w : World} {K : PySem.W.Frag} {elts : List Expr} {kk : Nat} {tpos : Pos} (b : Bool) (a e it : Addr) (h1 : e ≠ it) (h2 : a ≠ e) (h3 : a ≠ it) :
    Turn P w K (.Tuple elts kk tpos) (Jen K b a) [e, it] e (fun i h => (∃ old, IsEnum h e it ((i : Nat) : Int) old) ∧ ItB b h it a i) := by
  refine turn_T (wr := [e, it]) (by simp) (fun b hb => hb) (fun i h st c hc => ?_) (fun i h h' st k => ?_) (fun X hP hw hK hc i pins s σ H I st hg => ?_) (fun A i s Q E st h => let ⟨⟨_, he⟩, _⟩ := st; wpAny_pyIter_enum he h)
  · obtain ⟨⟨old, he⟩, hi⟩ := st
    have hc' : c = e ∨ c = it := by simpa using hc
    rcases hc' with rfl | rfl
    · exact ⟨_, he, fun v q => nomatch q⟩
    · exact itB_obj hi
  · obtain ⟨⟨old, he⟩, hi⟩ := st
    exact ⟨⟨old, k e (by simp) _ he⟩, itB_at hi fun o q => k it (by simp) o q⟩
  · subst hP hw hK
    obtain ⟨⟨old, he⟩, hi⟩ := st
    have hx : ∃ xs, SqB X.K b H a xs := by rcases hg with ⟨xs, h, _⟩ | ⟨xs, h, _⟩ <;> exact ⟨xs, h⟩
    obtain ⟨xs, hx⟩ := hx
    obtain ⟨vs, rv, ib, hz⟩ := sqB I hx
    have hl := rv.length
    have D := drawsB (prog := X.prog) (w := X.w) (A := X.A.in1) (show X.A.in1.handled = none from I.ok.hd hc) b it a h3 vs.toArray
    refine ⟨_, _, _, _, _, WalksT.enumFrom 0 D e h1 (by simp only [List.mem_cons, List.not_mem_nil, or_false, not_or]; exact ⟨h1, Ne.symm h2⟩) (by simp), ⟨⟨old, by rw [Int.zero_add]; exact he⟩, hi, ib⟩, fun hg => ⟨?_, fun vals hv => ?_⟩, fun hg => ?_, fun h st => ?_⟩
    · obtain ⟨ys, hy, hlt⟩ := hg
      rw [sqB_inj I hy hx] at hlt
      simp only [List.size_toArray]
      omega
    · obtain ⟨t, x, hx1, rfl⟩ := hv
      have hx1 : vs.toArray[i]? = some x := hx1
      have hi1 : vs[i]? = some x := by simpa using hx1
      obtain ⟨hil, _⟩ := List.getElem?_eq_some_iff.mp hi1
      have hxl : i < xs.length := by omega
      obtain ⟨u, hu, ru⟩ := rv.get (List.getElem?_eq_getElem hxl)
      rw [hi1] at hu
      cases hu
      refine ⟨[.int (i : Nat), xs[i]], .cons ⟨t, by rw [Int.zero_add]⟩ (.cons ru .nil), two_le, fun ys hy => ?_⟩
      rw [sqB_inj I hy hx]
      exact ⟨xs[i], List.getElem?_eq_getElem hxl, rfl⟩
    · obtain ⟨ys, hy, rfl⟩ := hg
      rw [sqB_inj I hy hx]
      simp only [List.size_toArray]
      omega
    · obtain ⟨⟨old, he⟩, hi, _⟩ := st
      rw [Int.zero_add] at he
      exact ⟨⟨old, he⟩, hi⟩
theorem meets_enumerate_new1 {v : Value} {o : Obj} {H : Heap → Prop} (B : Begins v o H) :
    Meets (Builtin.«enumerate.__new__» ⟨[.type "enumerate", v], []⟩) (fun _ R s => H s.heap ∧
      R (.ok (.ret (.ref (s.heap.push o).objs.size))) { s with heap := (s.heap.push o).push { cls := .type "enumerate", data := .fields #[.none, .bool false, .ref s.heap.objs.size, rawInt 0, .none, .none] } }) :=
  .of_wp fun prog w A R s h => by
    obtain ⟨hp, g, d, tk, os⟩ := s; obtain ⟨h1, h⟩ := h
    have hsub := sub_enumerate
    have q1 : ∀ {A' : Around} {E : Value → Shared → Prop} {Q : Value → Shared → Prop}, Q (.ref hp.objs.size) ⟨hp.push o, g, d, tk, os⟩ → wpAny (model prog w) A' (pyIter v) Q E ⟨hp, g, d, tk, os⟩ :=
      fun q => B.iter prog w _ _ ⟨hp, g, d, tk, os⟩ _ h1 q
    wp_walk using q1
    refine wpAny_stack_any fun st => wpAny_pure ?_
    split
    · rename_i c _ _ _ _ _
      cases (c == Value.type "enumerate")
      · wp_walk using q1
        exact ⟨_, rfl, h⟩
      · wp_walk using q1
        exact ⟨_, rfl, h⟩
    · wp_walk using q1
      exact ⟨_, rfl, h⟩
theorem enum_begins1 {prog : Program} {w : World} {A : Around} {E : Value → Shared → Prop} {s : Shared} {v : Value} {o : Obj} {H : Heap → Prop} {Q : Value → Shared → Prop} (B : Begins v o H) (h1 : H s.heap)
    (h : ∀ h', IsEnum h' (s.heap.objs.size + 1) s.heap.objs.size 0 .none → h'.get? s.heap.objs.size = some o → h'.objs.size = s.heap.objs.size + 2 →
      (∀ b o, s.heap.get? b = some o → h'.get? b = some o) → Q (.ref (s.heap.objs.size + 1)) { s with heap := h' }) :
    wpAny (model prog w) A (call (.type "enumerate") [v]) Q E s := by
  refine callType_new F.called_enumerate (by decide) (F.typeCall_enumerate_1 _) (F.newCall_enumerate_1 _) (fun obj => F.args_object_init_2 obj _) F.entry_enumerate_new
    (meets_enumerate_new1 B) ⟨h1, ?_⟩
  have hz : (s.heap.push o).objs.size = s.heap.objs.size + 1 := Heap.size_push ..
  show _ ∧ _
  rw [hz]
  have he : IsEnum ((s.heap.push o).push { cls := .type "enumerate", data := .fields #[.none, .bool false, .ref s.heap.objs.size, rawInt 0, .none, .none] }) (s.heap.objs.size + 1) s.heap.objs.size 0 .none := by
    have := Heap.get?_push_size (s.heap.push o) (o := { cls := .type "enumerate", data := .fields #[.none, .bool false, .ref s.heap.objs.size, rawInt 0, .none, .none] }) rfl
    rw [hz] at this; exact this
  refine ⟨⟨_, he, rfl⟩, h _ he (Heap.get?_push_of_some _ (Heap.get?_push_size _ B.free)) (by rw [Heap.size_push, hz]) fun b o x => Heap.get?_push_of_some _ (Heap.get?_push_of_some _ x)⟩
def iEn (K : PySem.W.Frag) (ta : TA) : TI := fun σ H R => ta σ H fun vs H1 => ∃ a b xs, vs = [.ref a] ∧ SqB K b H1 a xs ∧ R (Jen K b a) H1
theorem pi_en {X : Cx} {e : Expr} {ta : TA} {p pos tpos : Pos} {elts : List Expr} {kk : Nat} (hg : Gl X "enumerate") (hm : X.mg "enumerate" = none) (ha : PA X [e] ta) (hst : starEach [e] X.env = [(false, eval e X.env)]) :
    PI X (.Tuple elts kk tpos) (.Call (.Name "enumerate" p) [e] [] pos) (iEn X.K ta) := by
  refine ⟨fun pins s σ H R I h => ?_⟩
  refine Call_ (ld_blt I hg hm boot_enumerate (PyProof.Rows.callWith_type1 (thn (ha.run pos pins s σ H _ I h) fun us s1 ⟨vs, H1, I1, r1, q1⟩ => ?_) hst rfl))
  obtain ⟨a, b, xs, ex, hq, q⟩ := q1
  subst ex
  cases r1 with | cons r rr =>
  cases rr
  cases r
  obtain ⟨its, rv, p', hz⟩ := sqB I1 hq
  refine enum_begins1 (beginsB b a its.toArray) p' fun h' he hit hsz hk => wpAny_pyIter_enum he ?_
  have I2 : Inv X pins σ H1 { s1 with heap := h' } := I1.kept (t' := s1.toks) hk
  have hlt := isB_lt p'
  refine ⟨s1.heap.objs.size + 1, [s1.heap.objs.size + 1, s1.heap.objs.size], _, _, H1, rfl, I2, turn_en b a (s1.heap.objs.size + 1) s1.heap.objs.size (Nat.succ_ne_self _) (Nat.ne_of_lt (Nat.lt_succ_of_lt hlt)) (Nat.ne_of_lt hlt), ⟨⟨.none, he⟩, itB_0 hit⟩, fun c hc => ?_, q⟩
  have e' : c = s1.heap.objs.size + 1 ∨ c = s1.heap.objs.size := by simpa using hc
  have hle : s1.heap.objs.size ≤ c := by
    rcases e' with z | z
    · rw [z]; exact Nat.le_add_right _ _
    · rw [z]; exact Nat.le_refl _
  exact I1.fpOk hle (I1.hok.fresh hle)
end Mi
end L2

/-! Mini: zip of two and of three. -/
namespace L2
namespace Mi
open PySem PySem.Spec PyProof.Rows

theorem notIn2 {x i a : Addr} (h1 : x ≠ i) (h2 : a ≠ x) : x ∉ [i, a] := by
  simp only [List.mem_cons, List.not_mem_nil, or_false, not_or]
  exact ⟨h1, Ne.symm h2⟩
def Jz2 (K : PySem.W.Frag) (b1 b2 : Bool) (a1 a2 : Addr) : It := JT (fun i H => ∃ xs ys, SqB K b1 H a1 xs ∧ SqB K b2 H a2 ys ∧ i < min xs.length ys.length)
  (fun i H vs => ∀ xs ys, SqB K b1 H a1 xs → SqB K b2 H a2 ys → ∃ x y, xs[i]? = some x ∧ ys[i]? = some y ∧ vs = [x, y]) (fun i H => ∃ xs ys, SqB K b1 H a1 xs ∧ SqB K b2 H a2 ys ∧ i = min xs.length ys.length)
structure Apart2 (z TI TO i1 i2 a1 a2 : Addr) : Prop where
  TIz : TI ≠ z
  TOz : TO ≠ z
  TITO : TI ≠ TO
  TIi1 : TI ≠ i1
  TIi2 : TI ≠ i2
  zi1 : z ≠ i1
  zi2 : z ≠ i2
  TOi1 : TO ≠ i1
  TOi2 : TO ≠ i2
  i12 : i1 ≠ i2
  a1z : a1 ≠ z
  a1T : a1 ≠ TO
  a1i1 : a1 ≠ i1
  a1i2 : a1 ≠ i2
  a2z : a2 ≠ z
  a2T : a2 ≠ TO
  a2i1 : a2 ≠ i1
  a2i2 : a2 ≠ i2
theorem Apart2.sep {z TI TO i1 i2 a1 a2 : Addr} (h : Apart2 z TI TO i1 i2 a1 a2) : ZipSep2 z TI TO i1 i2 [i1, a1] [i2, a2] :=
  ⟨h.TIz, h.TOz, h.TITO, h.TIi1, by simp, notIn2 h.zi1 h.a1z, notIn2 h.TOi1 h.a1T, h.TIi2, by simp, notIn2 h.zi2 h.a2z, notIn2 h.TOi2 h.a2T, notIn2 h.i12 h.a2i1, notIn2 (Ne.symm h.i12) h.a1i2⟩
theorem apart2 {N a1 a2 : Nat} (h1 : a1 < N) (h2 : a2 < N) : Apart2 (N + 4) (N + 2) (N + 3) N (N + 1) a1 a2 := by
  constructor <;> (show (_ : Nat) ≠ _) <;> omega
theorem turn_z2 {P : Program} {w : World} {K : PySem.W.Frag} {elts : List Expr} {kk : Nat} {tpos : Pos} (b1 b2 : Bool) {z TI TO i1 i2 a1 a2 : Addr} (D : Apart2 z TI TO i1 i2 a1 a2) :
    Turn P w K (.Tuple elts kk tpos) (Jz2 K b1 b2 a1 a2) [z, TI, TO, i1, i2] z
      (fun i h => IsZip h z TI TO .none ∧ IsTupOf2 h TI (.ref i1) (.ref i2) ∧ (∃ x1 x2, IsTupOf2 h TO x1 x2) ∧ ItB b1 h i1 a1 i ∧ ItB b2 h i2 a2 i) := by
  refine turn_T (wr := [z, TO, i1, i2]) (by simp) (fun b hb => by simp at hb ⊢; rcases hb with h | h | h | h <;> simp [h]) (fun i h st c hc => ?_) (fun i h h' st k => ?_) (fun X hP hw hK hc i pins s σ H I st hg => ?_) (fun A i s Q E st h => wpAny_pyIter_zip st.1 h)
  · obtain ⟨hz, ht, ⟨x1, x2, ho⟩, hi1, hi2⟩ := st
    have hc' : c = z ∨ c = TI ∨ c = TO ∨ c = i1 ∨ c = i2 := by simpa using hc
    rcases hc' with rfl | rfl | rfl | rfl | rfl
    · exact ⟨_, hz, fun v q => nomatch q⟩
    · exact ⟨_, ht, fun v q => nomatch q⟩
    · exact ⟨_, ho, fun v q => nomatch q⟩
    · exact itB_obj hi1
    · exact itB_obj hi2
  · obtain ⟨hz, ht, ⟨x1, x2, ho⟩, hi1, hi2⟩ := st
    exact ⟨k z (by simp) _ hz, k TI (by simp) _ ht, ⟨x1, x2, k TO (by simp) _ ho⟩, itB_at hi1 fun o q => k i1 (by simp) o q, itB_at hi2 fun o q => k i2 (by simp) o q⟩
  · subst hP hw hK
    obtain ⟨hz, ht, ho, hi1, hi2⟩ := st
    have hx : ∃ xs ys, SqB X.K b1 H a1 xs ∧ SqB X.K b2 H a2 ys := by rcases hg with ⟨xs, ys, h, h', _⟩ | ⟨xs, ys, h, h', _⟩ <;> exact ⟨xs, ys, h, h'⟩
    obtain ⟨xs, ys, hx, hy⟩ := hx
    obtain ⟨vs, rv, ib, hzz⟩ := sqB I hx
    obtain ⟨us, ru, ib2, hzz2⟩ := sqB I hy
    have hl := rv.length
    have hl2 := ru.length
    have hh : X.A.in1.handled = none := I.ok.hd hc
    have D1 := drawsB (prog := X.prog) (w := X.w) (A := X.A.in1) hh b1 i1 a1 D.a1i1 vs.toArray
    have D2 := drawsB (prog := X.prog) (w := X.w) (A := X.A.in1) hh b2 i2 a2 D.a2i2 us.toArray
    refine ⟨_, _, _, _, _, WalksT.zipD2 D.sep D1 D2, ⟨hz, ht, ho, ⟨hi1, ib⟩, hi2, ib2⟩, fun hg => ⟨?_, fun vals hv => ?_⟩, fun hg => ?_, fun h st => ?_⟩
    · obtain ⟨xs', ys', hx', hy', hlt⟩ := hg
      rw [sqB_inj I hx' hx, sqB_inj I hy' hy] at hlt
      simp only [List.size_toArray]
      omega
    · obtain ⟨x, y, hx1, hy1, rfl⟩ := hv
      have e1 : vs[i]? = some x := by simpa using hx1
      have e2 : us[i]? = some y := by simpa using hy1
      obtain ⟨l1, _⟩ := List.getElem?_eq_some_iff.mp e1
      obtain ⟨l2, _⟩ := List.getElem?_eq_some_iff.mp e2
      have m1 : i < xs.length := by omega
      have m2 : i < ys.length := by omega
      obtain ⟨u1, hu1, r1⟩ := rv.get (List.getElem?_eq_getElem m1)
      obtain ⟨u2, hu2, r2⟩ := ru.get (List.getElem?_eq_getElem m2)
      rw [e1] at hu1; cases hu1
      rw [e2] at hu2; cases hu2
      refine ⟨[xs[i], ys[i]], .cons r1 (.cons r2 .nil), two_le, fun xs' ys' hx' hy' => ?_⟩
      rw [sqB_inj I hx' hx, sqB_inj I hy' hy]
      exact ⟨_, _, List.getElem?_eq_getElem m1, List.getElem?_eq_getElem m2, rfl⟩
    · obtain ⟨xs', ys', hx', hy', rfl⟩ := hg
      rw [sqB_inj I hx' hx, sqB_inj I hy' hy]
      simp only [List.size_toArray]
      omega
    · obtain ⟨hz, ht, ho, ⟨hi1, _⟩, hi2, _⟩ := st
      exact ⟨hz, ht, ho, hi1, hi2⟩
def iZ2 (K : PySem.W.Frag) (ta : TA) : TI := fun σ H R => ta σ H fun vs H1 => ∃ a1 a2 b1 b2 xs ys, vs = [.ref a1, .ref a2] ∧ SqB K b1 H1 a1 xs ∧ SqB K b2 H1 a2 ys ∧ R (Jz2 K b1 b2 a1 a2) H1
theorem pi_z2 {X : Cx} {e e2 : Expr} {ta : TA} {p pos tpos : Pos} {elts : List Expr} {kk : Nat} (hg : Gl X "zip") (hm : X.mg "zip" = none) (ha : PA X [e, e2] ta)
    (hs : starEach [e, e2] X.env = (false, eval e X.env) :: starEach [e2] X.env) (hpl : (backTo pos (starEach [e2] X.env)).any (·.1) = false) :
    PI X (.Tuple elts kk tpos) (.Call (.Name "zip" p) [e, e2] [] pos) (iZ2 X.K ta) := by
  refine ⟨fun pins s σ H R I h => ?_⟩
  refine Call_ (ld_blt I hg hm PyProof.Rows.boot_zip (PyProof.Rows.callWith_type1 (thn (ha.run pos pins s σ H _ I h) fun us s1 ⟨vs, H1, I1, r1, q1⟩ => ?_) hs hpl))
  obtain ⟨a1, a2, b1, b2, xs, ys, ex, hqx, hqy, q⟩ := q1
  subst ex
  cases r1 with | cons r rr =>
  cases rr with | cons r' rr =>
  cases rr
  cases r
  cases r'
  obtain ⟨its, rv, p1, _⟩ := sqB I1 hqx
  obtain ⟨its2, rv2, p2, _⟩ := sqB I1 hqy
  refine zip_begins2 (beginsB b1 a1 its.toArray) (beginsB b2 a2 its2.toArray) p1 p2 fun h' hz hTI hTO h1 h2 hsz hk => wpAny_pyIter_zip hz ?_
  have I2 : Inv X pins σ H1 { s1 with heap := h' } := I1.kept (t' := s1.toks) hk
  refine ⟨s1.heap.objs.size + 4, [s1.heap.objs.size + 4, s1.heap.objs.size + 2, s1.heap.objs.size + 3, s1.heap.objs.size, s1.heap.objs.size + 1], _, _, H1, rfl, I2, turn_z2 b1 b2 (apart2 (isB_lt p1) (isB_lt p2)), ⟨hz, hTI, ⟨_, _, hTO⟩, itB_0 h1, itB_0 h2⟩, fun c hcm => ?_, q⟩
  have e' : c = s1.heap.objs.size + 4 ∨ c = s1.heap.objs.size + 2 ∨ c = s1.heap.objs.size + 3 ∨ c = s1.heap.objs.size ∨ c = s1.heap.objs.size + 1 := by simpa using hcm
  have hle : s1.heap.objs.size ≤ c := by
    rcases e' with z | z | z | z | z
    · rw [z]; exact Nat.le_add_right _ _
    · rw [z]; exact Nat.le_add_right _ _
    · rw [z]; exact Nat.le_add_right _ _
    · rw [z]; exact Nat.le_refl _
    · rw [z]; exact Nat.le_add_right _ _
  exact I1.fpOk hle (I1.hok.fresh hle)
end Mi
end L2

/-! Mini: what the model's text asks of the forms of expressions. -/
namespace L2
namespace Mi
open PySem PySem.Spec PyProof.Rows

def notStar : Expr → Bool
  | .Starred _ _ => false
  | _ => true
def notSup : Expr → Bool
  | .Call (.Name _ _) [] [] _ => false
  | _ => true
def notSl : Expr → Bool
  | .Slice _ _ _ _ => false
  | _ => true
def notComp : Expr → Bool
  | .ListComp _ _ _ _ => false
  | .SetComp _ _ _ _ => false
  | .DictComp _ _ _ _ _ => false
  | _ => true
def notSet : Expr → Bool
  | .Set _ _ _ => false
  | _ => true
def notTup : Expr → Bool
  | .Tuple _ _ _ => false
  | .List _ _ => false
  | _ => true
def isName : Expr → Bool
  | .Name _ _ => true
  | _ => false
theorem star_cons {e : Expr} {es : List Expr} {env : Env} (h : notStar e = true) : starEach (e :: es) env = (false, eval e env) :: starEach es env := by
  cases e <;> first | rfl | (simp [notStar] at h)
theorem assign_cons {e : Expr} {es : List Expr} {env : Env} (h : notStar e = true) : assignEach (e :: es) env = (false, assign e env) :: assignEach es env := by
  cases e <;> first | rfl | (simp [notStar] at h)
theorem star_map {env : Env} : ∀ {es : List Expr}, es.all notStar = true → starEach es env = es.map fun e => (false, eval e env)
  | [], _ => rfl
  | e :: es, h => by
    simp only [List.all_cons, Bool.and_eq_true] at h
    rw [star_cons h.1, star_map h.2]; rfl
theorem assign_map {env : Env} : ∀ {es : List Expr}, es.all notStar = true → assignEach es env = es.map fun e => (false, assign e env)
  | [], _ => rfl
  | e :: es, h => by
    simp only [List.all_cons, Bool.and_eq_true] at h
    rw [assign_cons h.1, assign_map h.2]; rfl
theorem back_any {env : Env} {pos : Pos} {es : List Expr} (h : es.all notStar = true) : (backTo pos (starEach es env)).any (·.1) = false := by
  rw [star_map h]
  unfold backTo
  rw [List.map_map, List.any_map]
  apply List.any_eq_false.mpr
  intro x _
  simp
theorem back_all {env : Env} {pos : Pos} {es : List Expr} (h : es.all notStar = true) : (backTo pos (starEach es env)).all (fun x => !x.1) = true := by
  rw [star_map h]
  unfold backTo
  rw [List.map_map, List.all_map]
  apply List.all_eq_true.mpr
  intro x _
  rfl
theorem back_few {env : Env} {pos : Pos} {es : List Expr} (h : es.all notStar = true) (hl : es.length < 29) : ((backTo pos (starEach es env)).all (fun x => !x.1) && (backToKw pos (keywordEach [] env)).all (fun x => x.1.isSome)
      && decide (es.length + ([] : List Keyword).length + (if ([] : List Keyword).isEmpty then 0 else 1) < 30)) = true := by
  rw [back_all h, Bool.true_and]
  have e : (backToKw pos (keywordEach [] env)).all (fun x => x.1.isSome) = true := rfl
  rw [e, Bool.true_and]
  exact decide_eq_true (by simp; omega)
theorem sup_base {o : Expr} {f : Str} {env : Env} {whole : Sem Value} (h : notSup o = true) : attributeBase o f env whole = whole := by
  unfold attributeBase
  split
  · simp [notSup] at h
  · rfl
theorem meth_eq {o : Expr} {m : Str} {apos pos : Pos} {args : List Expr} {env : Env} (h : notSup o = true) (hs : args.all notStar = true) (hl : args.length < 29) (hp : (apos.endLine == pos.line) = true) :
    eval (.Call (.Attribute o m apos) args [] pos) env = (do
      let ov ← eval o env
      standAt apos.atName
      let (f, first) ← holding [ov] (getMethod ov m (do return (← importBound o env).getD true))
      callWith pos f first (backTo pos (starEach args env)) (backToKw pos (keywordEach [] env))) := by
  have few : methodCallForm (args.length + ([] : List Keyword).length) (backTo pos (starEach args env)) (backToKw pos (keywordEach [] env)) = true := by
    have := back_few (env := env) (pos := pos) hs hl
    unfold methodCallForm
    exact this
  show (do
    let ov ← attributeBase o m env (eval o env)
    standAt apos.atName
    methodCall o m apos pos env ov (args.length + ([] : List Keyword).length) (backTo pos (starEach args env)) (backToKw pos (keywordEach [] env))) = _
  rw [sup_base h]
  congr 1
  funext ov
  congr 1
  funext u
  unfold methodCall
  rw [few]
  unfold calleeOf methodCallPos
  rw [hp]
  rfl
theorem plain_ix {b : Expr} (h : notSl b = true) : ∀ o i, subscripted b false o i = operate [o, i] (getItem o i) := by
  intro o i
  cases b <;> first | rfl | (simp [notSl] at h)
theorem aug_ix {i : Expr} (h : notSl i = true) : ∀ ov iv new, augStore i ov iv new = (do holding [new, ov, iv] (setItem ov iv new); release [new, ov, iv] []; pure .next) := by
  intro ov iv new
  cases i <;> first | rfl | (simp [notSl] at h)
theorem sub_assign {o i : Expr} {pos : Pos} {env : Env} (h : notSl i = true) : ∀ v, assign (.Subscript o i pos) env v = (do
      let ov ← holding [v] (eval o env)
      let iv ← holding [v, ov] (eval i env)
      standAt pos
      holding [v, ov, iv] (setItem ov iv v)
      release [v, ov, iv] []) := by
  intro v
  cases i <;> first | rfl | (simp [notSl] at h)
theorem sw_not {e : Expr} {t : Option Expr} {l : Nat} {env : Env} (h : notComp e = true) : swapsWith e t l env = pure false := by
  cases e <;> first | rfl | (simp [notComp] at h)
theorem sw_tgt {e t : Expr} {l : Nat} {env : Env} (h : isName t = false) : swapsWith e (some t) l env = pure false := by
  unfold swapsWith
  cases e <;> first
    | rfl
    | (cases t <;> first | rfl | (simp [isName] at h))
theorem fold_set {e : Expr} {env : Env} (h : notSet e = true) : ∀ x, foldedSetIterable e env x = pure x := by
  intro x
  cases e <;> first | rfl | (simp [notSet] at h)
theorem st_none {t e : Expr} {env : Env} (h : notTup t = true ∨ notTup e = true) : swappedStores [t] e env = pure none := by
  unfold swappedStores
  rcases h with h | h
  · cases t <;> first | rfl | (simp [notTup] at h)
  · cases e <;> first
      | (cases t <;> rfl)
      | (simp [notTup] at h)
theorem beh {op : CmpOp} {e : Expr} (h : notSet e = true) : behindInMarks op e = false := by
  cases e <;> first | rfl | (simp [notSet] at h)
theorem star_any {vs : List Expr} (h : vs.all notStar = true) : (vs.any fun | .Starred .. => true | _ => false) = false := by
  apply List.any_eq_false.mpr
  intro x hx
  have := List.all_eq_true.mp h x hx
  cases x <;> first | exact Bool.false_ne_true | (simp [notStar] at this)
theorem star_one : ∀ e : Expr, (match e with | .Starred _ _ => true | _ => false) = true → notStar e = false := by
  intro e h
  cases e <;> first | rfl | exact nomatch h
theorem sw2 {x y : Str} {a b : Expr} {px py p1 p2 : Pos} {k1 k2 : Nat} {env : Env} (hk : env.scope.kind = .function) (hx : env.scope.names.lookup x = some .local) (hy : env.scope.names.lookup y = some .local) (hl : py.line = px.line) (hne : x ≠ y)
    (hs : [a, b].all notStar = true) (h6 : [a, b].all (foldedForSure 8) = false) (h7 : [a, b].all (constantsAlone 8) = false) :
    swappedStores [.Tuple [.Name x px, .Name y py] k1 p1] (.Tuple [a, b] k2 p2) env = pure (some [x, y]) := by
  have hb : env.blockKind = .function := by unfold Env.blockKind; rw [hk]; rfl
  have hx' : env.kindOf x = some .local := hx
  have hy' : env.kindOf y = some .local := hy
  have e1 : (x == y) = false := beq_eq_false_iff_ne.mpr hne
  have e2 : (y == x) = false := beq_eq_false_iff_ne.mpr (Ne.symm hne)
  have h3 := star_any hs
  have lx : (Expr.Name x px).pos.line = px.line := rfl
  unfold swappedStores
  simp only [hb, h3, h6, h7, List.length_cons, List.length_nil, List.filterMap_cons, List.filterMap_nil, List.head?_cons, Option.map_some, Option.getD_some, hx', hy', lx, hl, beq_self_eq_true, Bool.and_self, if_true]
  simp [List.eraseDups_cons, e1, e2, hne]
  intro q
  exfalso
  simp only [List.all_cons, List.all_nil, Bool.and_true, Bool.and_eq_true] at hs
  rcases q with q | q
  · exact Bool.noConfusion ((star_one _ q).symm.trans hs.1)
  · exact Bool.noConfusion ((star_one _ q).symm.trans hs.2)
theorem sw3 {x y z : Str} {a b c : Expr} {px py pz p1 p2 : Pos} {k1 k2 : Nat} {env : Env} (hk : env.scope.kind = .function) (hx : env.scope.names.lookup x = some .local) (hy : env.scope.names.lookup y = some .local) (hz : env.scope.names.lookup z = some .local) (hl : py.line = px.line) (hl2 : pz.line = px.line)
    (hne : x ≠ y) (hne2 : x ≠ z) (hne3 : y ≠ z)
    (hs : [a, b, c].all notStar = true) (h6 : [a, b, c].all (foldedForSure 8) = false) (h7 : [a, b, c].all (constantsAlone 8) = false) :
    swappedStores [.Tuple [.Name x px, .Name y py, .Name z pz] k1 p1] (.Tuple [a, b, c] k2 p2) env = pure (some [x, y, z]) := by
  have hb : env.blockKind = .function := by unfold Env.blockKind; rw [hk]; rfl
  have hx' : env.kindOf x = some .local := hx
  have hy' : env.kindOf y = some .local := hy
  have hz' : env.kindOf z = some .local := hz
  have h3 := star_any hs
  have lx : (Expr.Name x px).pos.line = px.line := rfl
  have f1 := Ne.symm hne
  have f2 := Ne.symm hne2
  have f3 := Ne.symm hne3
  unfold swappedStores
  simp only [hb, h3, h6, h7, List.length_cons, List.length_nil, List.filterMap_cons, List.filterMap_nil, List.head?_cons, Option.map_some, Option.getD_some, hx', hy', hz', lx, hl, hl2, beq_self_eq_true, Bool.and_self, if_true]
  simp [List.eraseDups_cons, hne, hne2, hne3, f1, f2, f3]
  intro q
  exfalso
  simp only [List.all_cons, List.all_nil, Bool.and_true, Bool.and_eq_true] at hs
  rcases q with q | q | q
  · exact Bool.noConfusion ((star_one _ q).symm.trans hs.1)
  · exact Bool.noConfusion ((star_one _ q).symm.trans hs.2.1)
  · exact Bool.noConfusion ((star_one _ q).symm.trans hs.2.2)
end Mi
end L2

/-! Mini: readings, what a loop walks, the table of defs. -/
namespace L2
namespace Mi
open PySem PySem.Spec PyProof.Rows

theorem Tr.refl {φ ψ : List Addr} {H : Hp} : Tr φ ψ H φ ψ H := ⟨fun _ _ e => e, fun _ _ h e => ⟨h, e⟩⟩
theorem Tr.trans {φ φ1 φ2 ψ ψ1 ψ2 : List Addr} {H H1 H2 : Hp} (x : Tr φ ψ H φ1 ψ1 H1) (y : Tr φ1 ψ1 H1 φ2 ψ2 H2) : Tr φ ψ H φ2 ψ2 H2 :=
  ⟨fun i a e => y.get i a (x.get i a e), fun a o h e => let ⟨h1, e1⟩ := x.keep a o h e; y.keep a o h1 e1⟩

def OkB (K : KC) (φ ψ : List Addr) (H : Hp) (b : Bool) (M : Mem) (Q : Bool → Hp → Prop) : Prop := ∀ φ' H', Ext φ H φ' H' → RM K φ' ψ H' M → Q b H'
def OkL (K : KC) (φ ψ : List Addr) (H : Hp) (ts : List T) (M : Mem) (Q : List V → Hp → Prop) : Prop := ∀ φ' H' vs, Ext φ H φ' H' → RM K φ' ψ H' M → RTs K φ' ψ H' ts vs → Q vs H'
def Post (K : KC) (φ ψ : List Addr) (H : Hp) (D : Ends) : R → Prop
  | .nx env M => ∀ φ' H' σ', Ext φ H φ' H' → RM K φ' ψ H' M → RE K φ' ψ H' env σ' → D.nx σ' H'
  | .rt t M => ∀ φ' H' v, Ext φ H φ' H' → RM K φ' ψ H' M → RT K φ' ψ H' t v → D.rt v H'
  | .bk env M => ∀ φ' H' σ', Ext φ H φ' H' → RM K φ' ψ H' M → RE K φ' ψ H' env σ' → D.bk σ' H'
  | .ct env M => ∀ φ' H' σ', Ext φ H φ' H' → RM K φ' ψ H' M → RE K φ' ψ H' env σ' → D.ct σ' H'
theorem Post.ext {K : KC} {φ φ1 ψ : List Addr} {H H1 : Hp} {D : Ends} {r : R} (p : Post K φ ψ H D r) (x : Ext φ H φ1 H1) : Post K φ1 ψ H1 D r := by
  cases r <;> exact fun φ' H' v y => p φ' H' v (x.trans y)

/-! ### readings -/
def tE (G : Sig) (K : KC) (m : ME) : TE := fun σ H Q => ∃ φ ψ env M t M', RE K φ ψ H env σ ∧ RM K φ ψ H M ∧ evE G m env M = some (t, M') ∧ Ok1 K φ ψ H t M' Q
def tT (G : Sig) (K : KC) (m : ME) : TT := fun σ H Q => ∃ φ ψ env M b M', RE K φ ψ H env σ ∧ RM K φ ψ H M ∧ tst (evE G m env M) = some (b, M') ∧ OkB K φ ψ H b M' Q
def tEs (G : Sig) (K : KC) (ms : MEs) : TA := fun σ H Q => ∃ φ ψ env M ts M', RE K φ ψ H env σ ∧ RM K φ ψ H M ∧ evEs G ms env M = some (ts, M') ∧ OkL K φ ψ H ts M' Q
def tIf (G : Sig) (K : KC) (ms : MEs) : TT := fun σ H Q => ∃ φ ψ env M b M', RE K φ ψ H env σ ∧ RM K φ ψ H M ∧ evIf G ms env M = some (b, M') ∧ OkB K φ ψ H b M' Q
def tP (G : Sig) (K : KC) (m : ME) : TO := fun σ H Q => ∃ φ ψ env M o M', RE K φ ψ H env σ ∧ RM K φ ψ H M ∧ evP G m env M = some (o, M') ∧ ∀ φ' H', Ext φ H φ' H' → RM K φ' ψ H' M' → Q o H'
mutual
def slT' : MT → List Nat
  | .nm i _ => [i]
  | .tp ts => slTs ts
def slTs : MTs → List Nat
  | .nil => []
  | .cons t ts => slT' t ++ slTs ts
end
/-- the same but at these places -/
def Ag (js : List Nat) (σ σ' : L2.St) : Prop := σ'.length = σ.length ∧ ∀ j, j ∉ js → σ'[j]? = σ[j]?
theorem Ag.trans {js ks : List Nat} {a b c : L2.St} (h : Ag js a b) (h' : Ag ks b c) : Ag (js ++ ks) a c :=
  ⟨h'.1.trans h.1, fun j hj => by rw [List.mem_append, not_or] at hj; exact (h'.2 j hj.2).trans (h.2 j hj.1)⟩
theorem wipe_in {σ : L2.St} {j : Nat} : ∀ {vs : List Nat}, j ∈ vs → j < σ.length → (wipe σ vs)[j]? = some none
  | v :: vs, h, hl => by
    unfold wipe
    by_cases e : v = j
    · subst e; rw [List.getElem?_set_self (by rw [wipe_length]; exact hl)]
    · rw [List.getElem?_set_ne e]
      exact wipe_in (by rcases List.mem_cons.mp h with q | q; exact absurd q.symm e; exact q) hl
theorem Ag.wipe {js vs : List Nat} {a b : L2.St} (h : Ag js a b) (hs : ∀ j ∈ js, j ∈ vs) : wipe b vs = wipe a vs := by
  apply List.ext_getElem?
  intro j
  by_cases hj : j ∈ vs
  · by_cases hl : j < a.length
    · rw [wipe_in hj hl, wipe_in hj (by rw [h.1]; exact hl)]
    · rw [List.getElem?_eq_none (by rw [wipe_length, h.1]; omega), List.getElem?_eq_none (by rw [wipe_length]; omega)]
  · rw [wipe_out hj, wipe_out hj]
    exact h.2 j fun q => hj (hs j q)
theorem wipe_wipe {σ : L2.St} {vs : List Nat} : wipe (wipe σ vs) vs = wipe σ vs := by
  apply List.ext_getElem?
  intro j
  by_cases hj : j ∈ vs
  · by_cases hl : j < σ.length
    · rw [wipe_in hj hl, wipe_in hj (by rw [wipe_length]; exact hl)]
    · rw [List.getElem?_eq_none (by rw [wipe_length, wipe_length]; omega), List.getElem?_eq_none (by rw [wipe_length]; omega)]
  · rw [wipe_out hj]
def gM (K : KC) (m : MT) : TG := fun v σ H Q => ∃ φ ψ env M t env', RE K φ ψ H env σ ∧ RM K φ ψ H M ∧ RT K φ ψ H t v ∧ asgT m t env = some env' ∧ ∀ σ', RE K φ ψ H env' σ' → Ag (slT' m) σ σ' → Q σ' H
def gMs (K : KC) (m : MTs) : TGs := fun vs σ H Q => ∃ φ ψ env M ts env', RE K φ ψ H env σ ∧ RM K φ ψ H M ∧ RTs K φ ψ H ts vs ∧ asgTs m ts env = some env' ∧ ∀ σ', RE K φ ψ H env' σ' → Ag (slTs m) σ σ' → Q σ' H
def tS (G : Sig) (K : KC) (s : MS) : TS := fun D σ H => ∃ φ ψ env M r, RE K φ ψ H env σ ∧ RM K φ ψ H M ∧ exS G s env M = some r ∧ Post K φ ψ H D r
def tSs (G : Sig) (K : KC) (s : List MS) : TS := fun D σ H => ∃ φ ψ env M r, RE K φ ψ H env σ ∧ RM K φ ψ H M ∧ exSs G s env M = some r ∧ Post K φ ψ H D r

/-! ### weaker readings -/
section
variable {X : Cx}
theorem PE.imp {e : Expr} {t t' : TE} (h : PE X e t) (hi : ∀ σ H Q, t' σ H Q → t σ H Q) : PE X e t' := ⟨fun pins s σ H Q I q => h.run pins s σ H Q I (hi σ H Q q)⟩
theorem PT.imp {e : Expr} {t t' : TT} (h : PT X e t) (hi : ∀ σ H Q, t' σ H Q → t σ H Q) : PT X e t' := ⟨fun pins s σ H Q I q => h.run pins s σ H Q I (hi σ H Q q)⟩
theorem PA.imp {e : List Expr} {t t' : TA} (h : PA X e t) (hi : ∀ σ H Q, t' σ H Q → t σ H Q) : PA X e t' := ⟨fun pos pins s σ H Q I q => h.run pos pins s σ H Q I (hi σ H Q q)⟩
theorem PS.imp {e : Stmt} {t t' : TS} (h : PS X e t) (hi : ∀ D σ H, t' D σ H → t D σ H) : PS X e t' := ⟨fun pins s σ H D I q => h.run pins s σ H D I (hi D σ H q)⟩
theorem PSs.imp {e : List Stmt} {t t' : TS} (h : PSs X e t) (hi : ∀ D σ H, t' D σ H → t D σ H) : PSs X e t' := ⟨fun pins s σ H D I q => h.run pins s σ H D I (hi D σ H q)⟩
theorem PTs.imp {e : List Expr} {t t' : TT} (h : PTs X e t) (hi : ∀ σ H Q, t' σ H Q → t σ H Q) : PTs X e t' := ⟨fun pins s σ H Q I q => h.run pins s σ H Q I (hi σ H Q q)⟩
theorem PG.imp {e : Expr} {t t' : TG} (h : PG X e t) (hi : ∀ v σ H Q, t' v σ H Q → t v σ H Q) : PG X e t' := ⟨fun pins s σ H v u Q I r q => h.run pins s σ H v u Q I r (hi v σ H Q q)⟩
theorem PGs.imp {e : List Expr} {t t' : TGs} (h : PGs X e t) (hi : ∀ v σ H Q, t' v σ H Q → t v σ H Q) : PGs X e t' := ⟨fun pins s σ H v u Q I r q => h.run pins s σ H v u Q I r (hi v σ H Q q)⟩
theorem PI.imp {tg e : Expr} {t t' : TI} (h : PI X tg e t) (hi : ∀ σ H R, t' σ H R → t σ H R) : PI X tg e t' := ⟨fun pins s σ H R I q => h.run pins s σ H R I (hi σ H R q)⟩
theorem PO.imp {e : Option Expr} {t t' : TO} (h : PO X e t) (hi : ∀ σ H Q, t' σ H Q → t σ H Q) : PO X e t' := ⟨fun pins s σ H Q I q => h.run pins s σ H Q I (hi σ H Q q)⟩
end

/-! ### the source of a walk -/
def isTup : T → Bool
  | .tup _ => true
  | _ => false
/-- a source that stands while its guard holds -/
theorem src_ok {K : KC} {φ0 φ ψ0 ψ : List Addr} {H0 H : Hp} {M0 M : Mem} {t : T} {v : V} {ts : List T} {g : List (Nat × List T)} (h : RT K φ0 ψ0 H0 t v) (e : sof M0 t = some ts) (x : Tr φ0 ψ0 H0 φ ψ H) (rm : RM K φ ψ H M) (hg : Grd g M) (hsub : ∀ p ∈ grdOf t ts, p ∈ g) :
    ∃ a vs, v = .ref a ∧ SqB K.K (isTup t) H a vs ∧ RTs K φ ψ H ts vs := by
  have h' := RT.tr x t v h
  have e' : sof M t = some ts := by
    cases t with
    | obj i =>
      have q := hg (i, ts) (hsub _ (by simp [grdOf]))
      simp only [sof, lofS, lof]
      rw [q]
    | _ => exact e
  obtain ⟨a, vs, rfl, h1, h2⟩ := sof_ok rm h' e'
  refine ⟨a, vs, rfl, ?_, h1⟩
  rcases h2 with ⟨h2, hne⟩ | ⟨h2, rfl⟩
  · have : isTup t = false := by
      cases t <;> first | rfl | exact absurd rfl (hne _)
    rw [this]
    exact h2
  · exact h2
def Jsq (K : PySem.W.Frag) (b : Bool) (a : Addr) : It := match b with
  | false => Itl K a
  | true => Itt K a
structure WalkM (K : KC) (φ0 ψ0 : List Addr) (H0 : Hp) (items : List T) (g : List (Nat × List T)) (J : It) : Prop where
  goes : ∀ (i : Nat) φ ψ H M, i < items.length → Tr φ0 ψ0 H0 φ ψ H → RM K φ ψ H M → Grd g M → J.go i H
  stops : ∀ φ ψ H M, Tr φ0 ψ0 H0 φ ψ H → RM K φ ψ H M → Grd g M → J.stop items.length H
  yields : ∀ (i : Nat) φ ψ H M x H', i < items.length → Tr φ0 ψ0 H0 φ ψ H → RM K φ ψ H M → Grd g M → J.yld i H x H' → ∃ t, items[i]? = some t ∧ Ext φ H φ H' ∧ RM K φ ψ H' M ∧ RT K φ ψ H' t x
theorem walk_sq {K : KC} {φ0 ψ0 : List Addr} {H0 : Hp} {M0 : Mem} {t : T} {a : Addr} {ts : List T} (h : RT K φ0 ψ0 H0 t (.ref a)) (e : sof M0 t = some ts) : WalkM K φ0 ψ0 H0 ts (grdOf t ts) (Jsq K.K (isTup t) a) := by
  have key : ∀ φ ψ H M, Tr φ0 ψ0 H0 φ ψ H → RM K φ ψ H M → Grd (grdOf t ts) M → ∃ vs, SqB K.K (isTup t) H a vs ∧ RTs K φ ψ H ts vs := fun φ ψ H M x rm hg => by
    obtain ⟨a', vs, e1, h1, h2⟩ := src_ok h e x rm hg fun p hp => hp
    cases e1
    exact ⟨vs, h1, h2⟩
  refine ⟨fun i φ ψ H M hi x rm hg => ?_, fun φ ψ H M x rm hg => ?_, fun i φ ψ H M y H' hi x rm hg hy => ?_⟩
  · obtain ⟨vs, h1, h2⟩ := key φ ψ H M x rm hg
    obtain ⟨v, hv, _⟩ := h2.get (List.getElem?_eq_getElem hi)
    cases hb : isTup t with
    | false => rw [hb] at h1; exact ⟨vs, v, h1, hv⟩
    | true => rw [hb] at h1; exact ⟨vs, v, h1, hv⟩
  · obtain ⟨vs, h1, h2⟩ := key φ ψ H M x rm hg
    have hl := h2.length
    cases hb : isTup t with
    | false => rw [hb] at h1; exact ⟨vs, h1, by omega⟩
    | true => rw [hb] at h1; exact ⟨vs, h1, by omega⟩
  · obtain ⟨vs, h1, h2⟩ := key φ ψ H M x rm hg
    obtain ⟨v, hv, hr⟩ := h2.get (List.getElem?_eq_getElem hi)
    refine ⟨ts[i], List.getElem?_eq_getElem hi, ?_⟩
    cases hb : isTup t with
    | false =>
      rw [hb] at h1 hy
      obtain ⟨rfl, hy⟩ := hy
      have := hy vs h1
      rw [hv] at this; cases this
      exact ⟨.refl, rm, hr⟩
    | true =>
      rw [hb] at h1 hy
      obtain ⟨rfl, hy⟩ := hy
      have := hy vs h1
      rw [hv] at this; cases this
      exact ⟨.refl, rm, hr⟩
theorem rngL_len (lo hi : Int) : (rngL lo hi).length = (hi - lo).toNat := by unfold rngL; simp
theorem rngL_get {lo hi : Int} {i : Nat} (h : i < (rngL lo hi).length) : (rngL lo hi)[i]? = some (T.int (lo + (i : Nat))) := by
  rw [rngL_len] at h
  unfold rngL
  rw [List.getElem?_map, List.getElem?_range h]
  rfl
theorem walk_rng {K : KC} {φ0 ψ0 : List Addr} {H0 : Hp} (lo hi : Int) : WalkM K φ0 ψ0 H0 (rngL lo hi) [] (Itr lo (hi - lo).toNat) := by
  refine ⟨fun i φ ψ H M h _ _ _ => by rw [rngL_len] at h; exact h, fun φ ψ H M _ _ _ => by rw [rngL_len]; exact Nat.le_refl _, fun i φ ψ H M x H' h _ rm _ hy => ?_⟩
  obtain ⟨rfl, rfl⟩ := hy
  exact ⟨_, rngL_get h, .refl, rm, .int _⟩
theorem enumL_len : ∀ (k : Nat) (ts : List T), (enumL k ts).length = ts.length
  | _, [] => rfl
  | k, t :: ts => by simp [enumL, enumL_len (k + 1) ts]
theorem enumL_get : ∀ (k : Nat) (ts : List T) (i : Nat) (t : T), ts[i]? = some t → (enumL k ts)[i]? = some (.tup [.int ((k + i : Nat) : Int), t])
  | _, [], _, _, h => by simp at h
  | k, u :: ts, 0, t, h => by simp at h; subst h; rfl
  | k, u :: ts, i + 1, t, h => by
    have := enumL_get (k + 1) ts i t (by simpa using h)
    rw [show k + (i + 1) = k + 1 + i by omega]
    simpa [enumL] using this
theorem walk_en {K : KC} {φ0 ψ0 : List Addr} {H0 : Hp} {M0 : Mem} {t : T} {a : Addr} {ts : List T} (h : RT K φ0 ψ0 H0 t (.ref a)) (e : sof M0 t = some ts) : WalkM K φ0 ψ0 H0 (enumL 0 ts) (grdOf t ts) (Jen K.K (isTup t) a) := by
  have key : ∀ φ ψ H M, Tr φ0 ψ0 H0 φ ψ H → RM K φ ψ H M → Grd (grdOf t ts) M → ∃ vs, SqB K.K (isTup t) H a vs ∧ RTs K φ ψ H ts vs := fun φ ψ H M x rm hg => by
    obtain ⟨a', vs, e1, h1, h2⟩ := src_ok h e x rm hg fun p hp => hp
    cases e1
    exact ⟨vs, h1, h2⟩
  refine ⟨fun i φ ψ H M hi x rm hg => ?_, fun φ ψ H M x rm hg => ?_, fun i φ ψ H M y H' hi x rm hg hy => ?_⟩
  · obtain ⟨vs, h1, h2⟩ := key φ ψ H M x rm hg
    rw [enumL_len] at hi
    exact ⟨vs, h1, by rw [← h2.length]; exact hi⟩
  · obtain ⟨vs, h1, h2⟩ := key φ ψ H M x rm hg
    exact ⟨vs, h1, by rw [enumL_len]; exact h2.length⟩
  · obtain ⟨vs, h1, h2⟩ := key φ ψ H M x rm hg
    rw [enumL_len] at hi
    obtain ⟨v, hv, hr⟩ := h2.get (List.getElem?_eq_getElem hi)
    obtain ⟨p, us, rfl, hp, rfl, hits⟩ := hy
    obtain ⟨x', hx', rfl⟩ := hits vs h1
    rw [hv] at hx'; cases hx'
    have xx : Ext φ H φ (upd H p (.tup [.int (i : Nat), v])) := .new hp (rm.fresh hp)
    refine ⟨_, enumL_get 0 ts i _ (List.getElem?_eq_getElem hi), xx, rm.new hp, .tup (.inl ⟨fre_new rm hp, upd_same⟩) (.cons (by rw [Nat.zero_add]; exact .int _) (.cons (hr.to xx) .nil))⟩
theorem zip_get : ∀ (xs ys : List T) (i : Nat) (x y : T), xs[i]? = some x → ys[i]? = some y → (List.zipWith (fun x y => T.tup [x, y]) xs ys)[i]? = some (.tup [x, y])
  | xs, ys, i, x, y, h1, h2 => by rw [List.getElem?_zipWith, h1, h2]
theorem walk_z2 {K : KC} {φ0 ψ0 : List Addr} {H0 : Hp} {M0 M1 : Mem} {t u : T} {a b : Addr} {ts us : List T} (h : RT K φ0 ψ0 H0 t (.ref a)) (h' : RT K φ0 ψ0 H0 u (.ref b)) (e : sof M0 t = some ts) (e' : sof M1 u = some us) :
    WalkM K φ0 ψ0 H0 (List.zipWith (fun x y => T.tup [x, y]) ts us) (grdOf t ts ++ grdOf u us) (Jz2 K.K (isTup t) (isTup u) a b) := by
  have key : ∀ φ ψ H M, Tr φ0 ψ0 H0 φ ψ H → RM K φ ψ H M → Grd (grdOf t ts ++ grdOf u us) M → ∃ vs ws, SqB K.K (isTup t) H a vs ∧ RTs K φ ψ H ts vs ∧ SqB K.K (isTup u) H b ws ∧ RTs K φ ψ H us ws := fun φ ψ H M x rm hg => by
    obtain ⟨a', vs, e1, h1, h2⟩ := src_ok h e x rm hg fun p hp => List.mem_append_left _ hp
    obtain ⟨b', ws, e2, h3, h4⟩ := src_ok h' e' x rm hg fun p hp => List.mem_append_right _ hp
    cases e1
    cases e2
    exact ⟨vs, ws, h1, h2, h3, h4⟩
  have hl : (List.zipWith (fun x y => T.tup [x, y]) ts us).length = min ts.length us.length := List.length_zipWith
  refine ⟨fun i φ ψ H M hi x rm hg => ?_, fun φ ψ H M x rm hg => ?_, fun i φ ψ H M y H' hi x rm hg hy => ?_⟩
  · obtain ⟨vs, ws, h1, h2, h3, h4⟩ := key φ ψ H M x rm hg
    rw [hl] at hi
    exact ⟨vs, ws, h1, h3, by rw [← h2.length, ← h4.length]; exact hi⟩
  · obtain ⟨vs, ws, h1, h2, h3, h4⟩ := key φ ψ H M x rm hg
    exact ⟨vs, ws, h1, h3, by rw [hl, h2.length, h4.length]⟩
  · obtain ⟨vs, ws, h1, h2, h3, h4⟩ := key φ ψ H M x rm hg
    rw [hl] at hi
    have i1 : i < ts.length := by omega
    have i2 : i < us.length := by omega
    obtain ⟨v, hv, hr⟩ := h2.get (List.getElem?_eq_getElem i1)
    obtain ⟨w, hw, hr2⟩ := h4.get (List.getElem?_eq_getElem i2)
    obtain ⟨p, zs, rfl, hp, rfl, hits⟩ := hy
    obtain ⟨x', y', hx', hy', rfl⟩ := hits vs ws h1 h3
    rw [hv] at hx'; cases hx'
    rw [hw] at hy'; cases hy'
    have xx : Ext φ H φ (upd H p (.tup [v, w])) := .new hp (rm.fresh hp)
    exact ⟨_, zip_get ts us i _ _ (List.getElem?_eq_getElem i1) (List.getElem?_eq_getElem i2), xx, rm.new hp, .tup (.inl ⟨fre_new rm hp, upd_same⟩) (.cons (hr.to xx) (.cons (hr2.to xx) .nil))⟩
def iM (G : Sig) (K : KC) (m : MI) : TI := fun σ H R => ∃ φ ψ env M p M', RE K φ ψ H env σ ∧ RM K φ ψ H M ∧ evI G m env M = some (p, M') ∧ ∀ φ' H' J, Ext φ H φ' H' → RM K φ' ψ H' M' → WalkM K φ' ψ H' p.1 p.2 J → R J H'
/-- a list or a tuple walked -/
def iSq (K : PySem.W.Frag) (tl : TE) : TI := fun σ H R => tl σ H fun v H1 => ∃ b a xs, v = .ref a ∧ SqB K b H1 a xs ∧ R (Jsq K b a) H1
theorem pi_sq {X : Cx} {tg l : Expr} {tl : TE} (hl : PE X l tl) : PI X tg l (iSq X.K tl) := by
  refine ⟨fun pins s σ H R I h => ?_⟩
  refine thn (hl.run pins s σ H _ I h) fun v s1 ⟨x, H1, I1, r1, q1⟩ => ?_
  obtain ⟨b, a, xs, e, hq, q⟩ := q1
  subst e
  cases r1
  cases b with
  | false =>
    obtain ⟨its, rv, p, hz⟩ := I1.list hq
    refine wpAny_pyIter_list p.isList ?_
    refine ⟨s1.heap.objs.size, [s1.heap.objs.size], _, _, H1, rfl, I1.kept (t' := s1.toks) fun b o e => Heap.get?_push_of_some _ e, turn_list a _, ⟨_, Heap.get?_push_size _ rfl, rfl, rfl⟩, fun b hb => ?_, q⟩
    have e : b = s1.heap.objs.size := by simpa using hb
    subst e
    exact I1.fpOk (Nat.le_refl _) (I1.hok.fresh (Nat.le_refl _))
  | true =>
    obtain ⟨its, rv, p, hz⟩ := I1.tuple hq
    refine wpAny_pyIter_tuple (show s1.heap.IsTuple a its.toArray from p) ?_
    refine ⟨s1.heap.objs.size, [s1.heap.objs.size], _, _, H1, rfl, I1.kept (t' := s1.toks) fun b o e => Heap.get?_push_of_some _ e, turn_tuple a _, ⟨_, Heap.get?_push_size _ rfl, rfl, rfl⟩, fun b hb => ?_, q⟩
    have e : b = s1.heap.objs.size := by simpa using hb
    subst e
    exact I1.fpOk (Nat.le_refl _) (I1.hok.fresh (Nat.le_refl _))

/-! ### the table of defs -/
/-- what a def promises: what its function reckons -/
def spM (K : KC) (n : Nat) (F : Fn) : Sp := fun vs H Q _ => vs.length = n ∧ ∃ φ ψ M ts r M', RM K φ ψ H M ∧ RTs K φ ψ H ts vs ∧ F ts M = some (r, M') ∧ Ok1 K φ ψ H r M' Q
def bltNames : List Str := ["len", "int", "abs", "list", "tuple", "sum", "all", "any", "max", "min", "sorted", "isinstance", "range", "enumerate", "zip", "set", "dict", "str", "bool"]
structure Ent (K : KC) (k : Nat) (P : Program) (w : World) (KF : PySem.W.Frag) (mg : Str → Option Value) (base : Heap) (f : Addr) (F : Fn) : Prop where
  ex : ∃ (fd : FuncData) (ps : List Str), Binds KF fd ps [] ∧ (∀ ts M r, F ts M = some r → ts.length = ps.length) ∧ FnOk P w KF mg base CX0 k f fd ps (spM K ps.length F)
structure Tab (G : Sig) (K : KC) (k : Nat) (P : Program) (w : World) (KF : PySem.W.Frag) (mg : Str → Option Value) (base : Heap) : Prop where
  hK : K.K = KF
  kt : G.kt = K.kt
  lv : 31 ≤ k
  seer : base.NoSeer
  tree : P.given.tree = none
  fns : ∀ f F, G.fns.lookup f = some F → ∃ fa, mg f = some (.ref fa) ∧ PySem.W.keepIn KF (.ref fa) = true ∧ Ent K k P w KF mg base fa F
  glbs : ∀ x t, G.glbs.lookup x = some t → ∃ u v, mg x = some u ∧ RelV v u ∧ ∀ φ ψ H, RT K φ ψ H t v
  blt : ∀ x ∈ bltNames, mg x = none
  cls : ∀ c C, G.cls.lookup c = some C → Cls KF (K.ca c) ∧ mg c = some (.ref (K.ca c)) ∧ (∀ f ∈ C.attrs, NoAttr KF (K.ca c) f) ∧
    (∀ m F, C.meths.lookup m = some F → ∃ g, Meth KF (K.ca c) m g ∧ Ent K k P w KF mg base g F) ∧ ∀ F, C.init = some F → ∃ g, Mk KF (K.ca c) g ∧ Ent K k P w KF mg base g F
theorem Ent.mono {K : KC} {j k : Nat} {P : Program} {w : World} {KF : PySem.W.Frag} {mg : Str → Option Value} {base : Heap} {f : Addr} {F : Fn} (e : Ent K j P w KF mg base f F) (h : j ≤ k) : Ent K k P w KF mg base f F := by
  obtain ⟨fd, ps, b, a, F⟩ := e.ex
  exact ⟨fd, ps, b, a, F.mono h⟩
theorem Tab.mono {G : Sig} {K : KC} {j k : Nat} {P : Program} {w : World} {KF : PySem.W.Frag} {mg : Str → Option Value} {base : Heap} (t : Tab G K j P w KF mg base) (h : j ≤ k) : Tab G K k P w KF mg base := by
  refine ⟨t.hK, t.kt, Nat.le_trans t.lv h, t.seer, t.tree, fun f F e => ?_, t.glbs, t.blt, fun c C e => ?_⟩
  · obtain ⟨fa, h1, h2, h3⟩ := t.fns f F e
    exact ⟨fa, h1, h2, h3.mono h⟩
  · obtain ⟨h1, h2, h3, h4, h5⟩ := t.cls c C e
    refine ⟨h1, h2, h3, fun m F e2 => ?_, fun F e2 => ?_⟩
    · obtain ⟨g, q1, q2⟩ := h4 m F e2; exact ⟨g, q1, q2.mono h⟩
    · obtain ⟨g, q1, q2⟩ := h5 F e2; exact ⟨g, q1, q2.mono h⟩
structure GC (G : Sig) (K : KC) (k : Nat) (N : List Str) (sc : Scope) (ow : List Str) (X : Cx) : Prop where
  hc : X.calm = true
  hN : X.N = N
  nd : N.Nodup
  sc_ : X.env.scope = sc
  kd : sc.kind = .function
  nev : X.xe = fun _ _ => False
  stk : ∃ e l, X.stack = e :: l ∧ e.scope.isGenerator = false ∧ e.scope.isCoroutine = false ∧ e.builtins = builtinsNs ∧ e.globals = mainGlobals
  st : ∀ x ∈ ow, Loc sc x ∧ (X.fn x = true ∨ sc.names.lookup x = some .local)
  room : Room (k + 1) X.A
  tab : Tab G K k X.prog X.w X.K X.mg X.base
  lam : ∀ q P, q ∈ N → K.tb q = some P → q = X.env.qual ++ "<lambda>" ∧ ∃ c, X.env.code = .ref c ∧ LamX.TabB X.base X.mg c P
def ownC (scope : Scope) (own : List (Str × Nat)) : Bool := own.all fun p => decide (scope.names.lookup p.1 = some .local) || decide (scope.names.lookup p.1 = some .cell)
section
variable {G : Sig} {K : KC} {k : Nat} {N : List Str} {sc : Scope} {ow : List Str} {X : Cx}
theorem GC.hK (g : GC G K k N sc ow X) : K.K = X.K := g.tab.hK
theorem GC.hu (g : GC G K k N sc ow X) : X.A.units + 65 < cLine := by have := g.room.un; omega
theorem GC.seer (g : GC G K k N sc ow X) : SeerX X := ⟨g.tab.tree, g.tab.seer, by
  have h1 := g.room.dp
  have h2 := g.tab.lv
  have h3 : Builtin.pylongFrames = 100 := rfl
  omega, g.stk⟩
theorem GC.pas (g : GC G K k N sc ow X) : PassesOwn (model X.prog X.w) X.A X.env X.xe := by rw [g.nev]; exact .never
theorem GC.blk (g : GC G K k N sc ow X) {s : Shared} {H : Hp} {scope : Scope} {C : Addr} {cl : List (Str × Addr)} {fp : List Addr} {own : List (Str × Nat)} (hk : scope.kind = .function) (ho : ownC scope own = true) :
    GC G K k N (relS scope sc) (own.map (·.1)) (X.blk s H scope (compEnvC scope cl C X.env) fp) := by
  refine ⟨g.hc, g.hN, g.nd, ?_, hk, rfl, g.stk, fun x hx => ?_, g.room, g.tab, g.lam⟩
  · show relS scope X.env.scope = _
    rw [g.sc_]
  · obtain ⟨p, hp, rfl⟩ := List.mem_map.mp hx
    have q := List.all_eq_true.mp ho p hp
    simp only [Bool.or_eq_true, decide_eq_true_eq] at q
    rcases q with q | q
    · have := lookup_relS_keep (sc := sc) (by decide) q
      exact ⟨.inl this, .inr this⟩
    · have := lookup_relS_keep (sc := sc) (by decide) q
      refine ⟨.inr this, .inl ?_⟩
      show (scope.names.lookup p.1 == some .cell) = true
      rw [q]; rfl
end
end Mi
end L2

/-! Mini: does a term stand for an expression of the text. -/
namespace L2
namespace Mi
open PySem PySem.Spec PyProof.Rows

def nod (x : Str) : Bool := !(x == ("__debug__" : Str)) && !(x == ("__classdict__" : Str))
def visC (sc : Scope) (x : Str) : Bool := match sc.names.lookup x with
  | some .local => true
  | some .cell => true
  | some .free => true
  | _ => false
def glC (sc : Scope) (x : Str) : Bool := nod x && (match sc.names.lookup x with
  | some .globalImplicit => true
  | _ => false)
def biNm : BI → Str
  | .len => "len" | .int => "int" | .abs => "abs" | .list _ => "list" | .tuple => "tuple" | .sum => "sum" | .all => "all" | .any => "any" | .max => "max" | .min => "min" | .sorted => "sorted"
def bmNm : BM → Str
  | .append => "append" | .extend => "extend" | .pop0 => "pop" | .pop => "pop" | .reverse => "reverse" | .remove => "remove"
def bmAr : BM → Bool
  | .pop0 => true | .reverse => true | _ => false
/-- the test is plain: its value's truth -/
def plainT : Expr → Bool
  | .UnaryOp .Not _ _ => false
  | .BoolOp _ _ _ => false
  | .IfExp _ _ _ _ => false
  | .Compare _ _ _ _ => false
  | _ => true
/-- lambda member: member[:2] -/
def cutC : Arguments → Expr → Scope → Bool
  | ⟨[], [⟨p, none, _⟩], none, [], [], none, []⟩, .Subscript (.Name p' _) (.Slice none (some (.Constant (.int k) _ _)) none _) _, sc => decide (p = "member") && decide (p' = "member") && decide (k = 2) && decide (sc.kind = .function) && !sc.isCoroutine && !sc.isGenerator && decide (sc.names = [(("member" : Str), NameKind.local)])
  | _, _, _ => false
/-- lambda at: x[at][2] -/
def offC (x : Str) : Arguments → Expr → Scope → Bool
  | ⟨[], [⟨p, none, _⟩], none, [], [], none, []⟩, .Subscript (.Subscript (.Name x' _) (.Name p' _) _) (.Constant (.int k) _ _) _, sc => decide (p = "at") && decide (p' = "at") && decide (x' = x) && decide (k = 2) && decide (sc.kind = .function) && !sc.isCoroutine && !sc.isGenerator && decide (sc.names = [(("at" : Str), NameKind.local), (x, NameKind.free)]) && !(x == ("at" : Str)) && !(x == ("__debug__" : Str)) && !(x == ("__classdict__" : Str))
  | _, _, _ => false
mutual
def okT' (N ow : List Str) : MT → Expr → Bool
  | .nm i x, .Name y _ => decide (x = y) && decide (N[i]? = some y) && decide (y ∈ ow)
  | .tp ts, .Tuple es _ _ => okTs' N ow ts es
  | _, _ => false
def okTs' (N ow : List Str) : MTs → List Expr → Bool
  | .nil, [] => true
  | .cons t ts, e :: es => notStar e && okT' N ow t e && okTs' N ow ts es
  | _, _ => false
end
def isNoP : ME → Bool
  | .nopart => true
  | _ => false
def isBo : Expr → Bool
  | .BoolOp _ _ _ => true
  | _ => false
mutual
def okE (N : List Str) (sc : Scope) : ME → Expr → Bool
  | .var i x, .Name y _ => decide (x = y) && decide (N[i]? = some y) && visC sc y && nod y
  | .glb x, .Name y _ => decide (x = y) && glC sc y
  | .non, .Constant .none _ _ => true
  | .bl b, .Constant (.bool c) _ _ => b == c
  | .int i, .Constant (.int j) _ _ => decide (i = j)
  | .str x, .Constant (.str y) _ _ => decide (x = y)
  | .bin op _ a b, .BinOp x o y _ => decide (op = o) && okE N sc a x && okE N sc b y
  | .neg a, .UnaryOp .USub x _ => okE N sc a x
  | .not a, .UnaryOp .Not x _ => okE N sc a x
  | .one a, .BoolOp _ [x] _ => okE N sc a x
  | .and a b, .BoolOp .And (x :: y :: r) p => okE N sc a x && okE N sc b (.BoolOp .And (y :: r) p)
  | .or a b, .BoolOp .Or (x :: y :: r) p => okE N sc a x && okE N sc b (.BoolOp .Or (y :: r) p)
  | .cmp op a b, .Compare x [o] [y] _ => decide (op = o) && notSet y && okE N sc a x && okE N sc b y
  | .ife c a b, .IfExp x y z _ => okE N sc c x && okE N sc a y && okE N sc b z
  | .call f es, .Call (.Name x _) args [] _ => decide (f = x) && glC sc x && args.all notStar && okEs N sc es args
  | .bi b es, .Call (.Name x _) (e :: args) [] _ => decide (x = biNm b) && glC sc x && (e :: args).all notStar && okEs N sc es (e :: args)
  | .isi a ty, .Call (.Name x _) [e, .Name y _] [] _ => decide (x = "isinstance") && glC sc x && notStar e && decide (y = Str.ofString ty) && glC sc y && okE N sc a e &&
      (ty == "int" || ty == "bool" || ty == "list" || ty == "tuple" || ty == "str")
  | .mcall _ o m es, .Call (.Attribute x n ap) args [] p => decide (m = n) && notSup x && args.all notStar && decide (args.length < 29) && (ap.endLine == p.line) && okE N sc o x && okEs N sc es args
  | .bm b o es, .Call (.Attribute x n ap) args [] p => decide (n = bmNm b) && notSup x && args.all notStar && decide (args.length < 29) && (ap.endLine == p.line) && (args.isEmpty == bmAr b) && okE N sc o x && okEs N sc es args
  | .mk c es, .Call (.Name x _) args [] _ => decide (c = x) && glC sc x && args.all notStar && okEs N sc es args
  | .ix a b, .Subscript x y _ => notSl y && okE N sc a x && okE N sc b y
  | .slc _ a lo hi, .Subscript x (.Slice l h none _) _ => okE N sc a x && (match l with
    | none => isNoP lo
    | some e => !isNoP lo && okE N sc lo e) && (match h with
    | none => isNoP hi
    | some e => !isNoP hi && okE N sc hi e)
  | .rev _ a, .Subscript x (.Slice none none (some (.UnaryOp .USub (.Constant (.int 1) _ _) _)) _) _ => okE N sc a x
  | .att _ o f, .Attribute x g _ => decide (f = g) && notSup x && okE N sc o x
  | .tup es, .Tuple xs _ _ => xs.all notStar && okEs N sc es xs
  | .lst _ es, .List xs _ => xs.all notStar && okEs N sc es xs
  | .lc _ own tg it ifs elt, .ListComp x [⟨t, s, fs, 0⟩] scope _ => blkC N sc scope own && ownC scope own && notSet s && okI N sc it t s && okT' N (own.map (·.1)) tg t && (slT' tg).all (fun j => decide (j ∈ own.map (·.2))) &&
      okIf N (relS scope sc) ifs fs && okE N (relS scope sc) elt x
  | .lc2 _ own tg it ifs vs1 tg1 it1 ifs1 elt, .ListComp x [⟨t, s, fs, 0⟩, ⟨t1, s1, fs1, 0⟩] scope _ => blkC N sc scope own && ownC scope own && notSet s && notSet s1 && okI N sc it t s && okT' N (own.map (·.1)) tg t &&
      (slT' tg).all (fun j => decide (j ∈ own.map (·.2))) && okIf N (relS scope sc) ifs fs && vs1.all (fun j => decide (j ∈ own.map (·.2))) && okI N (relS scope sc) it1 t1 s1 && okT' N (own.map (·.1)) tg1 t1 &&
      (slT' tg1).all (fun j => decide (j ∈ vs1)) && okIf N (relS scope sc) ifs1 fs1 && okE N (relS scope sc) elt x
  | .dnew _, .Dict [] [] _ => true
  | .sset a, .Call (.Name x _) [.Call (.Name y _) [e] [] _] [] _ => decide (x = "sorted") && glC sc x && decide (y = "set") && glC sc y && notStar e && okE N sc a e
  | .spr a, .Call (.Name x _) [.Call (.Name y _) [e] [] _] [] _ => decide (x = "sorted") && glC sc x && decide (y = "set") && glC sc y && notStar e && okE N sc a e
  | .lset a, .Call (.Name x _) [.Call (.Name y _) [e] [] _] [] _ => decide (x = "len") && glC sc x && decide (y = "set") && glC sc y && notStar e && okE N sc a e
  | .dc own tg it k v, .DictComp x y [⟨t, s, [], 0⟩] scope _ => blkC N sc scope own && ownC scope own && notSet s && okI N sc it t s && okT' N (own.map (·.1)) tg t && (slT' tg).all (fun j => decide (j ∈ own.map (·.2))) &&
      okE N (relS scope sc) k x && okE N (relS scope sc) v y
  | .rtup a, .Call (.Name x _) [.Call (.Name y _) [e] [] _] [] _ => decide (x = "tuple") && glC sc x && decide (y = "range") && glC sc y && notStar e && okE N sc a e
  | .rlst _ a, .Call (.Name x _) [.Call (.Name y _) [e] [] _] [] _ => decide (x = "list") && glC sc x && decide (y = "range") && glC sc y && notStar e && okE N sc a e
  | .dlit es, .Dict ks vs _ => !ks.isEmpty && decide (ks.length ≤ 15) && okKV N sc es ks vs
  | .dget d x y, .Call (.Attribute o n ap) [e, f] [] p => decide (n = "get") && notSup o && notStar e && notStar f && (ap.endLine == p.line) && okE N sc d o && okE N sc x e && okE N sc y f
  | .dsd d x y, .Call (.Attribute o n ap) [e, f] [] p => decide (n = "setdefault") && notSup o && notStar e && notStar f && (ap.endLine == p.line) && okE N sc d o && okE N sc x e && okE N sc y f
  | .sko q i x a, .Call (.Name f _) [.Call (.Name g _) [e] [] _] [⟨some kx, .Lambda params body scope _, _⟩] _ => decide (f = "sorted") && glC sc f && decide (g = "range") && glC sc g && decide (kx = "key") && notStar e && decide (q ∈ N) && decide (N[i]? = some x) && decide (sc.names.lookup x = some .cell) && offC x params body scope && okE N sc a e
  | .skc q a, .Call (.Name x _) [e] [⟨some kx, .Lambda params body scope _, _⟩] _ => decide (x = "sorted") && glC sc x && decide (kx = "key") && notStar e && decide (q ∈ N) && cutC params body scope && okE N sc a e
  | _, _ => false
def okKV (N : List Str) (sc : Scope) : MEs → List (Option Expr) → List Expr → Bool
  | .nil, [], [] => true
  | .cons a (.cons b r), some x :: xs, y :: ys => okE N sc a x && okE N sc b y && okKV N sc r xs ys
  | _, _, _ => false
def okEs (N : List Str) (sc : Scope) : MEs → List Expr → Bool
  | .nil, [] => true
  | .cons m ms, e :: es => notStar e && okE N sc m e && okEs N sc ms es
  | _, _ => false
def okIf (N : List Str) (sc : Scope) : MEs → List Expr → Bool
  | .nil, [] => true
  | .cons m .nil, [e] => okE N sc m e
  | _, _ => false
def okI (N : List Str) (sc : Scope) : MI → Expr → Expr → Bool
  | .over a, _, e => okE N sc a e
  | .rng1 a, _, .Call (.Name x _) [e] [] _ => decide (x = "range") && glC sc x && notStar e && okE N sc a e
  | .rng2 a b, _, .Call (.Name x _) [e, f] [] _ => decide (x = "range") && glC sc x && notStar e && notStar f && okE N sc a e && okE N sc b f
  | .enum a, .Tuple _ _ _, .Call (.Name x _) [e] [] _ => decide (x = "enumerate") && glC sc x && notStar e && okE N sc a e
  | .zip2 a b, .Tuple _ _ _, .Call (.Name x _) [e, f] [] _ => decide (x = "zip") && glC sc x && notStar e && notStar f && okE N sc a e && okE N sc b f
  | .zip3 a b c, .Tuple _ _ _, .Call (.Name x _) [e, f, g] [] _ => decide (x = "zip") && glC sc x && notStar e && notStar f && notStar g && okE N sc a e && okE N sc b f && okE N sc c g
  | _, _, _ => false
end
def okP (N : List Str) (sc : Scope) (lo : ME) (l : Option Expr) : Bool := match l with
    | none => isNoP lo
    | some e => !isNoP lo && okE N sc lo e
end Mi
end L2

/-! Mini: terms are sound, one by one. -/
namespace L2
namespace Mi
open PySem PySem.Spec PyProof.Rows

theorem bnd {α β : Type} {x : Option α} {f : α → Option β} {b : β} (h : x.bind f = some b) : ∃ a, x = some a ∧ f a = some b := Option.bind_eq_some_iff.mp h
theorem mpd {α β : Type} {x : Option α} {f : α → β} {b : β} (h : x.map f = some b) : ∃ a, x = some a ∧ f a = b := Option.map_eq_some_iff.mp h
section
variable {X : Cx}
theorem PE.of {e : Expr} {t : TE} (h : ∀ σ H Q, t σ H Q → ∃ t', PE X e t' ∧ t' σ H Q) : PE X e t := ⟨fun pins s σ H Q I q => let ⟨_, p, q'⟩ := h σ H Q q; p.run pins s σ H Q I q'⟩
theorem PS.of {e : Stmt} {t : TS} (h : ∀ D σ H, t D σ H → ∃ t', PS X e t' ∧ t' D σ H) : PS X e t := ⟨fun pins s σ H Q I q => let ⟨_, p, q'⟩ := h Q σ H q; p.run pins s σ H Q I q'⟩
end
variable {G : Sig} {K : KC} {k : Nat}
def SE (G : Sig) (K : KC) (k : Nat) (m : ME) : Prop := ∀ (N : List Str) (sc : Scope) (ow : List Str) (X : Cx) (e : Expr), GC G K k N sc ow X → okE N sc m e = true → PE X e (tE G K m) ∧ PT X e (tT G K m) ∧ (isBo e = true → PW X e (tT G K m))
def SA (G : Sig) (K : KC) (k : Nat) (ms : MEs) : Prop := ∀ (N : List Str) (sc : Scope) (ow : List Str) (X : Cx) (es : List Expr), GC G K k N sc ow X → okEs N sc ms es = true → PA X es (tEs G K ms)
def SIf (G : Sig) (K : KC) (k : Nat) (ms : MEs) : Prop := ∀ (N : List Str) (sc : Scope) (ow : List Str) (X : Cx) (es : List Expr), GC G K k N sc ow X → okIf N sc ms es = true → PTs X es (tIf G K ms)
def SP_ (G : Sig) (K : KC) (k : Nat) (m : ME) : Prop := ∀ (N : List Str) (sc : Scope) (ow : List Str) (X : Cx) (e : Option Expr), GC G K k N sc ow X → okP N sc m e = true → PO X e (tP G K m)
def SI (G : Sig) (K : KC) (k : Nat) (m : MI) : Prop := ∀ (N : List Str) (sc : Scope) (ow : List Str) (X : Cx) (tg e : Expr), GC G K k N sc ow X → okI N sc m tg e = true → PI X tg e (iM G K m)
def SG (G : Sig) (K : KC) (k : Nat) (m : MT) : Prop := ∀ (N : List Str) (sc : Scope) (ow : List Str) (X : Cx) (e : Expr), GC G K k N sc ow X → okT' N ow m e = true → PG X e (gM K m)
def SGs (G : Sig) (K : KC) (k : Nat) (m : MTs) : Prop := ∀ (N : List Str) (sc : Scope) (ow : List Str) (X : Cx) (e : List Expr), GC G K k N sc ow X → okTs' N ow m e = true → PGs X e (gMs K m)

theorem plain_tr {e : Expr} (h : plainT e = true) (env : Env) : ∀ whole, isTrue e env whole = (do let v ← whole; standAt e.pos; holding [v] (truthy v)) := by
  intro wh
  cases e with
  | UnaryOp op x p => cases op <;> first | rfl | (simp [plainT] at h)
  | BoolOp _ _ _ => simp [plainT] at h
  | IfExp _ _ _ _ => simp [plainT] at h
  | Compare _ _ _ _ => simp [plainT] at h
  | _ => rfl
theorem pt_of {X : Cx} {e : Expr} {m : ME} (hK : K.K = X.K) (h : PE X e (tE G K m)) (hp : plainT e = true) : PT X e (tT G K m) := by
  refine PT.imp (pt_truth h (plain_tr hp _)) fun σ H Q ⟨φ, ψ, env, M, b, M', re, rm, ev, ok⟩ => ?_
  obtain ⟨p, e1, e2⟩ := bnd ev
  obtain ⟨c, e3, e4⟩ := mpd e2
  cases e4
  exact ⟨φ, ψ, env, M, p.1, p.2, re, rm, e1, fun φ' H' v x rm' rt => ⟨_, truV_of hK rm' rt e3, ok φ' H' x rm'⟩⟩
theorem se_of {X : Cx} {e : Expr} {m : ME} (hK : K.K = X.K) (h : PE X e (tE G K m)) (hp : plainT e = true) : PE X e (tE G K m) ∧ PT X e (tT G K m) ∧ (isBo e = true → PW X e (tT G K m)) :=
  ⟨h, pt_of hK h hp, fun hb => by cases e <;> first | exact absurd hp Bool.false_ne_true | exact absurd hb Bool.false_ne_true⟩
section
variable {φ ψ : List Addr} {H : Hp} {M : Mem} {Q : VK}
end
/-! ### leaves -/
theorem nod_of {x : Str} (h : nod x = true) : (x == ("__debug__" : Str)) = false ∧ (x == ("__classdict__" : Str)) = false := by
  unfold nod at h
  simp only [Bool.and_eq_true, Bool.not_eq_true'] at h
  exact h
theorem vis_of {sc : Scope} {x : Str} (h : visC sc x = true) : Vis sc x := by
  unfold visC at h
  split at h <;> first | exact .inl (by assumption) | exact .inr (.inl (by assumption)) | exact .inr (.inr (by assumption)) | cases h
theorem gl_of {N : List Str} {sc : Scope} {ow : List Str} {X : Cx} {x : Str} (g : GC G K k N sc ow X) (h : glC sc x = true) : Gl X x ∧ (x == ("__debug__" : Str)) = false := by
  unfold glC at h
  rw [Bool.and_eq_true] at h
  refine ⟨?_, (nod_of h.1).1⟩
  have h2 := h.2
  split at h2
  · show X.env.scope.names.lookup x = _
    rw [g.sc_]; assumption
  · cases h2
theorem s_var {i : Nat} {x : Str} : SE G K k (.var i x) := by
  intro N sc ow X e g h
  unfold okE at h
  split at h <;> (try cases h) <;> rename_i q <;> cases q
  simp only [Bool.and_eq_true, decide_eq_true_eq] at h
  obtain ⟨⟨⟨rfl, h1⟩, h2⟩, h3⟩ := h
  refine se_of g.hK (PE.imp (pe_var (by rw [g.hN]; exact h1) (by rw [g.sc_]; exact vis_of h2) (nod_of h3).1 (nod_of h3).2) fun σ H Q ⟨φ, ψ, env, M, t, M', re, rm, ev, ok⟩ => ?_) rfl
  rw [evE] at ev
  split at ev
  · rename_i u hu
    cases ev
    obtain ⟨v, h4, h5⟩ := re.at_ _ _ hu
    exact ⟨v, h4, ok.here rm h5⟩
  · cases ev
theorem s_glb {x : Str} : SE G K k (.glb x) := by
  intro N sc ow X e g h
  unfold okE at h
  split at h <;> (try cases h) <;> rename_i q <;> cases q
  simp only [Bool.and_eq_true, decide_eq_true_eq] at h
  obtain ⟨rfl, h1⟩ := h
  obtain ⟨h1, h2⟩ := gl_of g h1
  refine se_of g.hK (PE.of fun σ H Q ⟨φ, ψ, env, M, t, M', re, rm, ev, ok⟩ => ?_) rfl
  rw [evE] at ev
  obtain ⟨t, e1, e2⟩ := mpd ev
  cases e2
  obtain ⟨u, v, hm, hr, hT⟩ := g.tab.glbs _ _ e1
  exact ⟨_, pe_glob h1 hm hr h2, ok.here rm (hT φ ψ H)⟩
theorem s_non : SE G K k .non := by
  intro N sc ow X e g h
  unfold okE at h
  split at h <;> (try cases h) <;> rename_i q <;> cases q
  refine se_of g.hK (PE.imp pe_non fun σ H Q ⟨φ, ψ, env, M, t, M', re, rm, ev, ok⟩ => ?_) rfl
  rw [evE] at ev
  cases ev
  exact ok.here rm .non
theorem s_bl {b : Bool} : SE G K k (.bl b) := by
  intro N sc ow X e g h
  unfold okE at h
  split at h <;> (try cases h) <;> rename_i q <;> cases q
  have := eq_of_beq h
  subst this
  refine se_of g.hK (PE.imp pe_bl fun σ H Q ⟨φ, ψ, env, M, t, M', re, rm, ev, ok⟩ => ?_) rfl
  rw [evE] at ev
  cases ev
  exact ok.here rm (.bl _)
theorem s_int {i : Int} : SE G K k (.int i) := by
  intro N sc ow X e g h
  unfold okE at h
  split at h <;> (try cases h) <;> rename_i q <;> cases q
  have := of_decide_eq_true h
  subst this
  refine se_of g.hK (PE.imp pe_int fun σ H Q ⟨φ, ψ, env, M, t, M', re, rm, ev, ok⟩ => ?_) rfl
  rw [evE] at ev
  cases ev
  exact ok.here rm (.int _)
theorem s_str {i : Str} : SE G K k (.str i) := by
  intro N sc ow X e g h
  unfold okE at h
  split at h <;> (try cases h) <;> rename_i q <;> cases q
  have := of_decide_eq_true h
  subst this
  refine se_of g.hK (PE.imp pe_str fun σ H Q ⟨φ, ψ, env, M, t, M', re, rm, ev, ok⟩ => ?_) rfl
  rw [evE] at ev
  cases ev
  exact ok.here rm (.str _)
/-! ### operators -/
theorem s_bin {op : Operator} {tr : Bool} {a b : ME} (ha : SE G K k a) (hb : SE G K k b) : SE G K k (.bin op tr a b) := by
  intro N sc ow X e g h
  unfold okE at h
  split at h <;> (try cases h) <;> rename_i q <;> cases q
  simp only [Bool.and_eq_true, decide_eq_true_eq] at h
  obtain ⟨⟨rfl, h1⟩, h2⟩ := h
  refine se_of g.hK (PE.imp (pe_op (op_bin g.hK g.seer op tr) (ha N sc ow X _ g h1).1 (hb N sc ow X _ g h2).1) fun σ H Q ⟨φ, ψ, env, M, t, M', re, rm, ev, ok⟩ => ?_) rfl
  rw [evE] at ev
  obtain ⟨p, e1, ev⟩ := bnd ev
  obtain ⟨q, e2, ev⟩ := bnd ev
  refine ⟨φ, ψ, env, M, p.1, p.2, re, rm, e1, fun φ1 H1 v x1 rm1 r1 => ⟨φ1, ψ, env, p.2, q.1, q.2, re.ext x1, rm1, e2, fun φ2 H2 w x2 rm2 r2 => ?_⟩⟩
  exact ⟨φ2, ψ, q.2, p.1, q.1, t, M', rm2, r1.to x2, r2, ev, ok.ext (x1.trans x2)⟩
theorem s_neg {a : ME} (ha : SE G K k a) : SE G K k (.neg a) := by
  intro N sc ow X e g h
  unfold okE at h
  split at h <;> (try cases h) <;> rename_i q <;> cases q
  refine se_of g.hK (PE.imp (pe_un un_neg (ha N sc ow X _ g h).1) fun σ H Q ⟨φ, ψ, env, M, t, M', re, rm, ev, ok⟩ => ?_) rfl
  rw [evE] at ev
  obtain ⟨p, e1, ev⟩ := bnd ev
  split at ev
  · rename_i i hi
    cases ev
    refine ⟨φ, ψ, env, M, p.1, p.2, re, rm, e1, fun φ1 H1 v x1 rm1 r1 => ?_⟩
    rw [hi] at r1
    cases r1
    exact ⟨i, rfl, ok φ1 H1 _ x1 rm1 (.int _)⟩
  · cases ev
theorem pt_b {X : Cx} {e : Expr} {m : ME} {t : TE} (hm : ∀ env M b M', tst (evE G m env M) = some (b, M') → evE G m env M = some (.bl b, M')) (h : PT X e (tTest t)) (hi : ∀ σ H Q, tE G K m σ H Q → t σ H Q) : PT X e (tT G K m) := by
  refine PT.imp h fun σ H Q ⟨φ, ψ, env, M, b, M', re, rm, ev, ok⟩ => ?_
  refine hi σ H _ ⟨φ, ψ, env, M, .bl b, M', re, rm, hm _ _ _ _ ev, fun φ' H' v x rm' r => ?_⟩
  cases r
  exact ⟨b, rfl, ok φ' H' x rm'⟩
theorem s_not {a : ME} (ha : SE G K k a) : SE G K k (.not a) := by
  intro N sc ow X e g h
  unfold okE at h
  split at h <;> (try cases h) <;> rename_i q <;> cases q
  obtain ⟨p1, p2, p3⟩ := ha N sc ow X _ g h
  refine ⟨PE.imp (pe_notT p1) fun σ H Q ⟨φ, ψ, env, M, t, M', re, rm, ev, ok⟩ => ?_, PT.imp (pt_not p2) fun σ H Q ⟨φ, ψ, env, M, t, M', re, rm, ev, ok⟩ => ?_, fun h => nomatch h⟩
  · rw [evE] at ev
    obtain ⟨p, e1, ev⟩ := mpd ev
    cases ev
    obtain ⟨q, e5, e2⟩ := bnd e1
    obtain ⟨c, e3, e4⟩ := mpd e2
    cases e4
    exact ⟨φ, ψ, env, M, q.1, q.2, re, rm, e5, fun φ1 H1 v x1 rm1 r1 => ⟨c, truV_of g.hK rm1 r1 e3, ok φ1 H1 _ x1 rm1 (.bl _)⟩⟩
  · rw [evE] at ev
    obtain ⟨p, e1, ev⟩ := bnd ev
    obtain ⟨q, e2, e3⟩ := mpd e1
    cases e3
    obtain ⟨c, e4, e5⟩ := mpd ev
    cases e5
    cases e4
    exact ⟨φ, ψ, env, M, q.1, q.2, re, rm, e2, fun φ1 H1 x1 rm1 => ok φ1 H1 x1 rm1⟩
theorem s_one {a : ME} (ha : SE G K k a) : SE G K k (.one a) := by
  intro N sc ow X e g h
  unfold okE at h
  split at h <;> (try cases h) <;> rename_i q <;> cases q
  obtain ⟨p1, p2, p3⟩ := ha N sc ow X _ g h
  have e1 : ∀ env M, evE G (.one a) env M = evE G a env M := fun env M => by rw [evE]
  have i2 : ∀ σ H Q, tT G K (.one a) σ H Q → tT G K a σ H Q := fun σ H Q ⟨φ, ψ, env, M, t, M', re, rm, ev, ok⟩ => ⟨φ, ψ, env, M, t, M', re, rm, by rw [← e1]; exact ev, ok⟩
  have pw : ∀ op x pos, PT X x (tT G K a) → PW X (.BoolOp op [x] pos) (tT G K (.one a)) := fun op x pos p => by
    cases op with
    | And => exact ⟨fun wh pins s σ H Q I q => (pw_and1 p).run wh pins s σ H Q I (i2 _ _ _ q)⟩
    | Or => exact ⟨fun wh pins s σ H Q I q => (pw_or1 p).run wh pins s σ H Q I (i2 _ _ _ q)⟩
  exact ⟨PE.imp (pe_one p1) fun σ H Q ⟨φ, ψ, env, M, t, M', re, rm, ev, ok⟩ => ⟨φ, ψ, env, M, t, M', re, rm, by rw [← e1]; exact ev, ok⟩, (pw _ _ _ p2).pt, fun _ => pw _ _ _ p2⟩
theorem s_and {a b : ME} (ha : SE G K k a) (hb : SE G K k b) : SE G K k (.and a b) := by
  intro N sc ow X e g h
  unfold okE at h
  split at h <;> (try cases h) <;> rename_i q <;> cases q
  rw [Bool.and_eq_true] at h
  obtain ⟨p1, p2, p3⟩ := ha N sc ow X _ g h.1
  obtain ⟨q1, q2, q3⟩ := hb N sc ow X _ g h.2
  have pw : PW X _ (tT G K (.and a b)) := ⟨fun wh pins s σ H Q I q => (pw_and (pos := _) p2 (q3 rfl)).run wh pins s σ H Q I (by
    obtain ⟨φ, ψ, env, M, t, M', re, rm, ev, ok⟩ := q
    rw [evE] at ev
    obtain ⟨p, e1, ev⟩ := bnd ev
    obtain ⟨r, e2, e3⟩ := mpd ev
    cases e3
    obtain ⟨u, e4, e5⟩ := bnd e1
    obtain ⟨c, e6, e7⟩ := bnd e5
    refine ⟨φ, ψ, env, M, c, u.2, re, rm, by rw [e4]; show (truth u.2 u.1).map _ = _; rw [e6]; rfl, fun φ1 H1 x1 rm1 => ?_⟩
    cases c with
    | true =>
      rw [if_pos rfl] at e7
      show tT G K b σ H1 Q
      exact ⟨φ1, ψ, env, u.2, t, p.2, re.ext x1, rm1, by rw [e7]; show (truth p.2 p.1).map _ = _; rw [e2]; rfl, fun φ2 H2 x2 rm2 => ok φ2 H2 (x1.trans x2) rm2⟩
    | false =>
      rw [if_neg Bool.false_ne_true] at e7
      cases e7
      rw [e6] at e2
      cases e2
      exact ok φ1 H1 x1 rm1)⟩
  refine ⟨PE.imp (pe_andT p1 q1) fun σ H Q ⟨φ, ψ, env, M, t, M', re, rm, ev, ok⟩ => ?_, pw.pt, fun _ => pw⟩
  rw [evE] at ev
  obtain ⟨p, e1, ev⟩ := bnd ev
  obtain ⟨c, e2, ev⟩ := bnd ev
  refine ⟨φ, ψ, env, M, p.1, p.2, re, rm, e1, fun φ1 H1 v x1 rm1 r1 => ⟨c, truV_of g.hK rm1 r1 e2, ?_⟩⟩
  cases c with
  | true =>
    rw [if_pos rfl] at ev ⊢
    exact ⟨φ1, ψ, env, p.2, t, M', re.ext x1, rm1, ev, ok.ext x1⟩
  | false =>
    rw [if_neg Bool.false_ne_true] at ev ⊢
    cases ev
    exact ok φ1 H1 v x1 rm1 r1
theorem s_or {a b : ME} (ha : SE G K k a) (hb : SE G K k b) : SE G K k (.or a b) := by
  intro N sc ow X e g h
  unfold okE at h
  split at h <;> (try cases h) <;> rename_i q <;> cases q
  rw [Bool.and_eq_true] at h
  obtain ⟨p1, p2, p3⟩ := ha N sc ow X _ g h.1
  obtain ⟨q1, q2, q3⟩ := hb N sc ow X _ g h.2
  have pw : PW X _ (tT G K (.or a b)) := ⟨fun wh pins s σ H Q I q => (pw_or (pos := _) p2 (q3 rfl)).run wh pins s σ H Q I (by
    obtain ⟨φ, ψ, env, M, t, M', re, rm, ev, ok⟩ := q
    rw [evE] at ev
    obtain ⟨p, e1, ev⟩ := bnd ev
    obtain ⟨r, e2, e3⟩ := mpd ev
    cases e3
    obtain ⟨u, e4, e5⟩ := bnd e1
    obtain ⟨c, e6, e7⟩ := bnd e5
    refine ⟨φ, ψ, env, M, c, u.2, re, rm, by rw [e4]; show (truth u.2 u.1).map _ = _; rw [e6]; rfl, fun φ1 H1 x1 rm1 => ?_⟩
    cases c with
    | false =>
      rw [if_neg Bool.false_ne_true] at e7
      show tT G K b σ H1 Q
      exact ⟨φ1, ψ, env, u.2, t, p.2, re.ext x1, rm1, by rw [e7]; show (truth p.2 p.1).map _ = _; rw [e2]; rfl, fun φ2 H2 x2 rm2 => ok φ2 H2 (x1.trans x2) rm2⟩
    | true =>
      rw [if_pos rfl] at e7
      cases e7
      rw [e6] at e2
      cases e2
      exact ok φ1 H1 x1 rm1)⟩
  refine ⟨PE.imp (pe_orT p1 q1) fun σ H Q ⟨φ, ψ, env, M, t, M', re, rm, ev, ok⟩ => ?_, pw.pt, fun _ => pw⟩
  rw [evE] at ev
  obtain ⟨p, e1, ev⟩ := bnd ev
  obtain ⟨c, e2, ev⟩ := bnd ev
  refine ⟨φ, ψ, env, M, p.1, p.2, re, rm, e1, fun φ1 H1 v x1 rm1 r1 => ⟨c, truV_of g.hK rm1 r1 e2, ?_⟩⟩
  cases c with
  | false =>
    rw [if_neg Bool.false_ne_true] at ev ⊢
    exact ⟨φ1, ψ, env, p.2, t, M', re.ext x1, rm1, ev, ok.ext x1⟩
  | true =>
    rw [if_pos rfl] at ev ⊢
    cases ev
    exact ok φ1 H1 v x1 rm1 r1
theorem s_cmp {op : CmpOp} {a b : ME} (ha : SE G K k a) (hb : SE G K k b) : SE G K k (.cmp op a b) := by
  intro N sc ow X e g h
  unfold okE at h
  split at h <;> (try cases h) <;> rename_i q <;> cases q
  simp only [Bool.and_eq_true, decide_eq_true_eq] at h
  obtain ⟨⟨⟨rfl, h0⟩, h1⟩, h2⟩ := h
  have i1 : ∀ σ H Q, tE G K (.cmp op a b) σ H Q → tOp (rCmp K op) (tE G K a) (tE G K b) σ H Q := fun σ H Q ⟨φ, ψ, env, M, t, M', re, rm, ev, ok⟩ => by
    rw [evE] at ev
    obtain ⟨p, e1, ev⟩ := bnd ev
    obtain ⟨q, e2, ev⟩ := bnd ev
    obtain ⟨c, e3, ev⟩ := mpd ev
    cases ev
    exact ⟨φ, ψ, env, M, p.1, p.2, re, rm, e1, fun φ1 H1 v x1 rm1 r1 => ⟨φ1, ψ, env, p.2, q.1, q.2, re.ext x1, rm1, e2, fun φ2 H2 w x2 rm2 r2 =>
      ⟨φ2, ψ, q.2, p.1, q.1, c, rm2, r1.to x2, r2, e3, ok φ2 H2 _ (x1.trans x2) rm2 (.bl _)⟩⟩⟩
  refine ⟨PE.imp (pe_cmpR (op_cmp g.hK g.hu op) (ha N sc ow X _ g h1).1 (hb N sc ow X _ g h2).1 (beh h0)) i1, pt_b (fun env M b' M' ev => ?_) (pt_cmpR (op_cmp g.hK g.hu op) (ha N sc ow X _ g h1).1 (hb N sc ow X _ g h2).1 (beh h0)) i1, fun h => nomatch h⟩
  obtain ⟨p, e1, ev⟩ := bnd ev
  obtain ⟨c, e2, ev⟩ := mpd ev
  cases ev
  rw [e1]
  rw [evE] at e1
  obtain ⟨p', _, e1⟩ := bnd e1
  obtain ⟨q', _, e1⟩ := bnd e1
  obtain ⟨c', _, e1⟩ := mpd e1
  subst e1
  cases e2
  rfl
theorem pt_ifE {X : Cx} {c a b : Expr} {pos : Pos} {tc ta tb : TT} (hc : PT X c tc) (ha : PT X a ta) (hb : PT X b tb) : PT X (.IfExp c a b pos) (fun σ H Q => tc σ H fun d H1 => if d = true then ta σ H1 Q else tb σ H1 Q) := by
  refine ⟨fun pins s σ H Q I h => ?_⟩
  show wpAny _ _ (isTrue c X.env (eval c X.env) >>= fun d => if d = true then isTrue a X.env (eval a X.env) else isTrue b X.env (eval b X.env)) _ _ _
  refine wpAny_bind (thn (hc.run pins s σ H _ I h) fun d s1 ⟨H1, I1, q1⟩ => ?_)
  cases d with
  | true => exact ha.run pins s1 σ H1 Q I1 q1
  | false => exact hb.run pins s1 σ H1 Q I1 q1
theorem s_ife {c a b : ME} (hc : SE G K k c) (ha : SE G K k a) (hb : SE G K k b) : SE G K k (.ife c a b) := by
  intro N sc ow X e g h
  unfold okE at h
  split at h <;> (try cases h) <;> rename_i q <;> cases q
  simp only [Bool.and_eq_true] at h
  obtain ⟨⟨h0, h1⟩, h2⟩ := h
  obtain ⟨_, c2, _⟩ := hc N sc ow X _ g h0
  obtain ⟨a1, a2, _⟩ := ha N sc ow X _ g h1
  obtain ⟨b1, b2, _⟩ := hb N sc ow X _ g h2
  refine ⟨PE.imp (pe_ifExp c2 a1 b1) fun σ H Q ⟨φ, ψ, env, M, t, M', re, rm, ev, ok⟩ => ?_, PT.imp (pt_ifE c2 a2 b2) fun σ H Q ⟨φ, ψ, env, M, t, M', re, rm, ev, ok⟩ => ?_, fun h => nomatch h⟩
  · rw [evE] at ev
    obtain ⟨p, e1, ev⟩ := bnd ev
    refine ⟨φ, ψ, env, M, p.1, p.2, re, rm, e1, fun φ1 H1 x1 rm1 => ?_⟩
    split at ev
    · rename_i hp
      rw [if_pos hp]
      exact ⟨φ1, ψ, env, p.2, t, M', re.ext x1, rm1, ev, ok.ext x1⟩
    · rename_i hp
      rw [if_neg hp]
      exact ⟨φ1, ψ, env, p.2, t, M', re.ext x1, rm1, ev, ok.ext x1⟩
  · obtain ⟨r, ev, e9⟩ := bnd ev
    rw [evE] at ev
    obtain ⟨p, e1, ev⟩ := bnd ev
    refine ⟨φ, ψ, env, M, p.1, p.2, re, rm, e1, fun φ1 H1 x1 rm1 => ?_⟩
    split at ev
    · rename_i hp
      rw [if_pos hp]
      exact ⟨φ1, ψ, env, p.2, t, M', re.ext x1, rm1, by rw [ev]; exact e9, fun φ2 H2 x2 => ok φ2 H2 (x1.trans x2)⟩
    · rename_i hp
      rw [if_neg hp]
      exact ⟨φ1, ψ, env, p.2, t, M', re.ext x1, rm1, by rw [ev]; exact e9, fun φ2 H2 x2 => ok φ2 H2 (x1.trans x2)⟩
/-! ### lists of terms -/
theorem s_nil : SA G K k .nil := by
  intro N sc ow X es g h
  cases es with
  | cons _ _ => simp [okEs] at h
  | nil =>
    refine PA.imp pa_nil fun σ H Q ⟨φ, ψ, env, M, ts, M', re, rm, ev, ok⟩ => ?_
    rw [evEs] at ev
    cases ev
    exact ok φ H [] .refl rm .nil
theorem s_cons {e : ME} {es : MEs} (he : SE G K k e) (hs : SA G K k es) : SA G K k (.cons e es) := by
  intro N sc ow X xs g h
  cases xs with
  | nil => simp [okEs] at h
  | cons x xs =>
    simp only [okEs, Bool.and_eq_true] at h
    obtain ⟨⟨h0, h1⟩, h2⟩ := h
    refine PA.imp (pa_cons (he N sc ow X x g h1).1 (hs N sc ow X xs g h2) (star_cons h0)) fun σ H Q ⟨φ, ψ, env, M, ts, M', re, rm, ev, ok⟩ => ?_
    rw [evEs] at ev
    obtain ⟨p, e1, ev⟩ := bnd ev
    obtain ⟨q, e2, ev⟩ := mpd ev
    cases ev
    exact ⟨φ, ψ, env, M, p.1, p.2, re, rm, e1, fun φ1 H1 v x1 rm1 r1 => ⟨φ1, ψ, env, p.2, q.1, q.2, re.ext x1, rm1, e2, fun φ2 H2 vs x2 rm2 r2 =>
      ok φ2 H2 (v :: vs) (x1.trans x2) rm2 (.cons (r1.to x2) r2)⟩⟩
theorem s_if0 : SIf G K k .nil := by
  intro N sc ow X es g h
  cases es with
  | cons _ _ => simp [okIf] at h
  | nil =>
    refine PTs.imp pts_nil fun σ H Q ⟨φ, ψ, env, M, ts, M', re, rm, ev, ok⟩ => ?_
    rw [evIf] at ev
    cases ev
    exact ok φ H .refl rm
theorem s_if1 {e : ME} (he : SE G K k e) : SIf G K k (.cons e .nil) := by
  intro N sc ow X xs g h
  match xs, h with
  | [], h => simp [okIf] at h
  | x :: y :: r, h => simp [okIf] at h
  | [x], h =>
    simp only [okIf] at h
    refine PTs.imp (pts_one (he N sc ow X x g h).2.1) fun σ H Q ⟨φ, ψ, env, M, ts, M', re, rm, ev, ok⟩ => ?_
    rw [evIf] at ev
    exact ⟨φ, ψ, env, M, ts, M', re, rm, ev, ok⟩
theorem s_if2 {e e2 : ME} {es : MEs} : SIf G K k (.cons e (.cons e2 es)) := by
  intro N sc ow X xs g h
  simp [okIf] at h
end Mi
end L2

/-! Mini: calls, fields, displays are sound. -/
namespace L2
namespace Mi
open PySem PySem.Spec PyProof.Rows
variable {G : Sig} {K : KC} {k : Nat}
theorem gc_blt {N : List Str} {sc : Scope} {ow : List Str} {X : Cx} (g : GC G K k N sc ow X) {x : Str} (h : x ∈ bltNames) : X.mg x = none := g.tab.blt x h
theorem s_call {f : Str} {es : MEs} (hs : SA G K k es) : SE G K k (.call f es) := by
  intro N sc ow X e g h
  unfold okE at h
  split at h <;> (try cases h) <;> rename_i q <;> cases q
  simp only [Bool.and_eq_true, decide_eq_true_eq] at h
  obtain ⟨⟨⟨rfl, h0⟩, h1⟩, h2⟩ := h
  obtain ⟨hg, hd⟩ := gl_of g h0
  rename_i args p
  refine se_of g.hK (PE.of fun σ H Q ⟨φ, ψ, env, M, t, M', re, rm, ev, ok⟩ => ?_) rfl
  rw [evE] at ev
  obtain ⟨p, e1, ev⟩ := bnd ev
  obtain ⟨F, e2, ev⟩ := bnd ev
  obtain ⟨fa, m1, m2, E⟩ := g.tab.fns _ _ e2
  obtain ⟨fd, ps, hb, har, Fo⟩ := E.ex
  have pa := hs N sc ow X args g h2
  have rd : tCall (spM K ps.length F) [] E0 (tEs G K es) σ H Q := ⟨φ, ψ, env, M, p.1, p.2, re, rm, e1, fun φ1 H1 vs x1 rm1 r1 =>
    ⟨by rw [List.append_nil, ← r1.length]; exact har _ _ _ ev, φ1, ψ, p.2, p.1, t, M', rm1, by rw [List.append_nil]; exact r1, ev, ok.ext x1⟩⟩
  cases args with
  | nil =>
    cases es with
    | cons _ _ => simp [okEs] at h2
    | nil =>
      refine ⟨_, pe_call0 (E := E0) Fo (g.room.mono (Nat.le_succ _)) hg m1 m2 hb .nil pass0 hd, ?_⟩
      obtain ⟨φ', ψ', env', M1, ts', M1', re', rm', ev', ok'⟩ := rd
      rw [evEs] at ev'
      cases ev'
      exact ok' φ' H [] .refl rm' .nil
  | cons a as =>
    rw [List.all_cons, Bool.and_eq_true] at h1
    exact ⟨_, pe_call (E := E0) Fo (g.room.mono (Nat.le_succ _)) hg m1 m2 hb .nil pass0 pa hd (star_cons h1.1) (back_any h1.2), rd⟩
theorem s_bi {b : BI} {es : MEs} (hs : SA G K k es) : SE G K k (.bi b es) := by
  intro N sc ow X e g h
  unfold okE at h
  split at h <;> (try cases h) <;> rename_i q <;> cases q
  simp only [Bool.and_eq_true, decide_eq_true_eq] at h
  obtain ⟨⟨⟨rfl, h0⟩, h1⟩, h2⟩ := h
  obtain ⟨hg, hd⟩ := gl_of g h0
  have pa := hs N sc ow X _ g h2
  rw [List.all_cons, Bool.and_eq_true] at h1
  have hop := op_bi (X := X) g.hK g.hc g.hu b
  have i1 : ∀ σ H Q, tE G K (.bi b es) σ H Q → tCB (rBi K b) (tEs G K es) σ H Q := fun σ H Q ⟨φ, ψ, env, M, t, M', re, rm, ev, ok⟩ => by
    rw [evE] at ev
    obtain ⟨p, e1, ev⟩ := bnd ev
    exact ⟨φ, ψ, env, M, p.1, p.2, re, rm, e1, fun φ1 H1 vs x1 rm1 r1 => ⟨φ1, ψ, p.2, p.1, t, M', rm1, r1, ev, ok.ext x1⟩⟩
  have mm : ∀ {x : Str}, x ∈ bltNames → X.mg x = none := fun h => gc_blt g h
  refine se_of g.hK (PE.imp ?_ i1) rfl
  cases b with
  | len => exact pe_callB hop hg (mm (by decide)) (by decide) pa (by decide) hd (star_cons h1.1) (back_any h1.2)
  | int => exact pe_callTy hop hg (mm (by decide)) (by decide) pa (by decide) hd (star_cons h1.1) (back_any h1.2)
  | abs => exact pe_callB hop hg (mm (by decide)) (by decide) pa (by decide) hd (star_cons h1.1) (back_any h1.2)
  | list tr => cases tr <;> exact pe_callTy hop hg (mm (by decide)) (by decide) pa (by decide) hd (star_cons h1.1) (back_any h1.2)
  | tuple => exact pe_callTy hop hg (mm (by decide)) (by decide) pa (by decide) hd (star_cons h1.1) (back_any h1.2)
  | sum => exact pe_callB hop hg (mm (by decide)) (by decide) pa (by decide) hd (star_cons h1.1) (back_any h1.2)
  | all => exact pe_callB hop hg (mm (by decide)) (by decide) pa (by decide) hd (star_cons h1.1) (back_any h1.2)
  | any => exact pe_callB hop hg (mm (by decide)) (by decide) pa (by decide) hd (star_cons h1.1) (back_any h1.2)
  | max => exact pe_callB hop hg (mm (by decide)) (by decide) pa (by decide) hd (star_cons h1.1) (back_any h1.2)
  | min => exact pe_callB hop hg (mm (by decide)) (by decide) pa (by decide) hd (star_cons h1.1) (back_any h1.2)
  | sorted => exact pe_callB hop hg (mm (by decide)) (by decide) pa (by decide) hd (star_cons h1.1) (back_any h1.2)
theorem s_isi {a : ME} {ty : String} (ha : SE G K k a) : SE G K k (.isi a ty) := by
  intro N sc ow X e g h
  unfold okE at h
  split at h <;> (try cases h) <;> rename_i q <;> cases q
  simp only [Bool.and_eq_true, decide_eq_true_eq, Bool.or_eq_true, beq_iff_eq] at h
  obtain ⟨⟨⟨⟨⟨⟨rfl, h0⟩, h1⟩, rfl⟩, h2⟩, h3⟩, h4⟩ := h
  obtain ⟨hg, hd⟩ := gl_of g h0
  obtain ⟨hg2, hd2⟩ := gl_of g h2
  have ht : isTy ty ∧ (Str.ofString ty) ∈ bltNames ∧ bootBuiltins (Str.ofString ty) = some (.type ty) ∧ (Str.ofString ty ≠ "__name__") := by
    rcases h4 with (((rfl | rfl) | rfl) | rfl) | rfl <;> exact ⟨by unfold isTy; decide, by decide, by decide, by decide⟩
  have pt : ∀ po, PE X (.Name (Str.ofString ty) po) (tC (.ty ty)) := fun po => pe_bltn hg2 (gc_blt g ht.2.1) ht.2.2.1 rfl ht.2.2.2 hd2
  refine se_of g.hK (PE.imp (pe_callB (op_isi g.hK ht.1) hg (gc_blt g (by decide)) (by decide) (pa_cons (ha N sc ow X _ g h3).1 (pa_cons (pt _) pa_nil rfl) (star_cons h1)) (by decide) hd (star_cons h1) rfl)
    fun σ H Q ⟨φ, ψ, env, M, t, M', re, rm, ev, ok⟩ => ?_) rfl
  rw [evE] at ev
  obtain ⟨p, e1, ev⟩ := bnd ev
  obtain ⟨c, e2, ev⟩ := mpd ev
  cases ev
  exact ⟨φ, ψ, env, M, p.1, p.2, re, rm, e1, fun φ1 H1 v x1 rm1 r1 => ⟨φ1, ψ, p.2, p.1, v, c, rfl, rm1, r1, e2, ok φ1 H1 _ x1 rm1 (.bl _)⟩⟩
theorem RFs.none {φ ψ : List Addr} {H : Hp} {f : Str} : ∀ {fs : List (Str × T)} {gs : List (Str × V)}, RFs K φ ψ H fs gs → fs.lookup f = none → gs.lookup f = none
  | [], [], _, _ => rfl
  | (x, t) :: fs, (y, v) :: gs, ⟨e, r, h⟩, hn => by
    subst e
    rw [List.lookup_cons] at hn ⊢
    cases hx : (f == x) with
    | true => rw [hx] at hn; cases hn
    | false => rw [hx] at hn; exact RFs.none h hn
  | [], _ :: _, h, _ => h.elim
  | _ :: _, [], h, _ => h.elim
theorem RFs.some {φ ψ : List Addr} {H : Hp} {f : Str} {t : T} : ∀ {fs : List (Str × T)} {gs : List (Str × V)}, RFs K φ ψ H fs gs → fs.lookup f = some t → ∃ v, gs.lookup f = some v ∧ RT K φ ψ H t v
  | [], [], _, h => by cases h
  | (x, t) :: fs, (y, v) :: gs, ⟨e, r, h⟩, hn => by
    subst e
    rw [List.lookup_cons] at hn ⊢
    cases hx : (f == x) with
    | true => rw [hx] at hn; cases hn; exact ⟨v, rfl, r⟩
    | false => rw [hx] at hn; exact RFs.some h hn
  | [], _ :: _, h, _ => h.elim
  | _ :: _, [], h, _ => h.elim
theorem RFs.put {φ ψ : List Addr} {H : Hp} {f : Str} {t : T} {v : V} (r : RT K φ ψ H t v) : ∀ {fs : List (Str × T)} {gs : List (Str × V)}, RFs K φ ψ H fs gs → RFs K φ ψ H (putA f t fs) (putF f v gs)
  | [], [], _ => ⟨rfl, r, trivial⟩
  | (x, u) :: fs, (y, w) :: gs, ⟨e, q, h⟩ => by
    subst e
    unfold putA putF
    by_cases hx : x = f
    · rw [if_pos hx]
      rw [if_pos (by first | exact hx | exact hx.symm | exact beq_iff_eq.mpr hx | exact beq_iff_eq.mpr hx.symm)]
      first | exact ⟨rfl, r, h⟩ | exact ⟨hx, r, h⟩ | exact ⟨hx.symm, r, h⟩
    · rw [if_neg hx]
      rw [if_neg (by first | exact hx | exact fun z => hx z.symm | exact fun z => hx (beq_iff_eq.mp z) | exact fun z => hx (beq_iff_eq.mp z).symm)]
      exact ⟨rfl, q, RFs.put r h⟩
  | [], _ :: _, h => h.elim
  | _ :: _, [], h => h.elim
theorem RFs.length {φ ψ : List Addr} {H : Hp} : ∀ {fs : List (Str × T)} {gs : List (Str × V)}, RFs K φ ψ H fs gs → fs.length = gs.length
  | [], [], _ => rfl
  | (_, _) :: fs, (_, _) :: gs, ⟨_, _, h⟩ => by rw [List.length_cons, List.length_cons, RFs.length h]
  | [], _ :: _, h => h.elim
  | _ :: _, [], h => h.elim
/-- an object of a class -/
theorem ins_of {φ ψ : List Addr} {H : Hp} {M : Mem} {i : Nat} {c : Str} {fs : List (Str × T)} {v : V} (rm : RM K φ ψ H M) (r : RT K φ ψ H (.obj i) v) (e : M[i]? = some (.ins c fs)) : ∃ a dx gs, v = .ref a ∧ φ[i]? = some a ∧ H a = some (.ins (K.ca c) dx gs) ∧ RFs K φ ψ H fs gs := by
  cases r with
  | obj ha =>
    obtain ⟨dx, gs, h1, h2⟩ := rm.at_ _ _ _ ha e
    exact ⟨_, dx, gs, rfl, ha, h1, h2⟩
theorem s_mcall {c : Str} {o : ME} {m : Str} {es : MEs} (ho : SE G K k o) (hs : SA G K k es) : SE G K k (.mcall c o m es) := by
  intro N sc ow X e g h
  unfold okE at h
  split at h <;> (try cases h) <;> rename_i q <;> cases q
  simp only [Bool.and_eq_true, decide_eq_true_eq] at h
  obtain ⟨⟨⟨⟨⟨⟨rfl, h0⟩, h1⟩, h2⟩, h3⟩, h4⟩, h5⟩ := h
  rename_i x ap args p
  refine se_of g.hK (PE.of fun σ H Q ⟨φ, ψ, env, M, t, M', re, rm, ev, ok⟩ => ?_) rfl
  rw [evE] at ev
  obtain ⟨p, e1, ev⟩ := bnd ev
  split at ev
  case h_2 => cases ev
  rename_i i hi
  split at ev
  case h_2 => cases ev
  rename_i c' fs hM
  split at ev
  case isFalse => cases ev
  rename_i hc
  obtain ⟨rfl, hl⟩ := hc
  obtain ⟨q, e2, ev⟩ := bnd ev
  obtain ⟨C, e3, ev⟩ := bnd ev
  obtain ⟨F, e4, ev⟩ := bnd ev
  obtain ⟨c1, _, _, c4, _⟩ := g.tab.cls _ _ e3
  obtain ⟨ga, hm, E⟩ := c4 _ _ e4
  obtain ⟨fd, ps, hb, har, Fo⟩ := E.ex
  have pa := hs N sc ow X args g h5
  have po := (ho N sc ow X _ g h4).1
  have rd : tMeth (K.ca c') m (spM K ps.length F) [] E0 (tE G K o) (tEs G K es) σ H Q := by
    refine ⟨φ, ψ, env, M, p.1, p.2, re, rm, e1, fun φ1 H1 v x1 rm1 r1 => ?_⟩
    rw [hi] at r1
    obtain ⟨a, dx, gs, rfl, ha, hh, hf⟩ := ins_of rm1 r1 hM
    refine ⟨a, dx, gs, rfl, hh, hf.none hl, φ1, ψ, env, p.2, q.1, q.2, re.ext x1, rm1, e2, fun φ2 H2 vs x2 rm2 r2 => ?_⟩
    have rr : RTs K φ2 ψ H2 (p.1 :: q.1) (.ref a :: (vs ++ [])) := by
      rw [List.append_nil, hi]
      exact .cons (r1.to x2) r2
    exact ⟨by rw [← rr.length]; exact har _ _ _ ev, φ2, ψ, q.2, p.1 :: q.1, t, M', rm2, rr, ev, ok.ext (x1.trans x2)⟩
  cases args with
  | nil =>
    cases es with
    | cons _ _ => simp [okEs] at h5
    | nil =>
      refine ⟨_, pe_meth0 (E := E0) po c1 hm Fo (g.room.mono (Nat.le_succ _)) hb .nil pass0 (meth_eq h0 h1 h2 h3), ?_⟩
      obtain ⟨φ', ψ', env', M1, t1, M1', re', rm', ev', ok'⟩ := rd
      refine ⟨φ', ψ', env', M1, t1, M1', re', rm', ev', fun φ1 H1 v x1 rm1 r1 => ?_⟩
      obtain ⟨a, dx, gs, q1, q2, q3, q4⟩ := ok' φ1 H1 v x1 rm1 r1
      refine ⟨a, dx, gs, q1, q2, q3, ?_⟩
      obtain ⟨φ', ψ', env', M1, ts', M1', re', rm', ev', ok'⟩ := q4
      rw [evEs] at ev'
      cases ev'
      exact ok' φ' H1 [] .refl rm' .nil
  | cons a as =>
    have h1' := h1
    rw [List.all_cons, Bool.and_eq_true] at h1'
    exact ⟨_, pe_meth (E := E0) po c1 hm Fo (g.room.mono (Nat.le_succ _)) hb .nil pass0 pa (star_cons h1'.1) (back_any h1'.2) (meth_eq h0 h1 h2 h3), rd⟩
theorem s_mk {c : Str} {es : MEs} (hs : SA G K k es) : SE G K k (.mk c es) := by
  intro N sc ow X e g h
  unfold okE at h
  split at h <;> (try cases h) <;> rename_i q <;> cases q
  simp only [Bool.and_eq_true, decide_eq_true_eq] at h
  obtain ⟨⟨⟨rfl, h0⟩, h1⟩, h2⟩ := h
  obtain ⟨hg, hd⟩ := gl_of g h0
  rename_i args p
  refine se_of g.hK (PE.of fun σ H Q ⟨φ, ψ, env, M, t, M', re, rm, ev, ok⟩ => ?_) rfl
  rw [evE] at ev
  obtain ⟨p, e1, ev⟩ := bnd ev
  obtain ⟨C, e3, ev⟩ := bnd ev
  obtain ⟨F, e4, ev⟩ := bnd ev
  obtain ⟨r, e5, ev⟩ := bnd ev
  split at ev
  case h_2 => cases ev
  rename_i hr
  cases ev
  obtain ⟨c1, c2, _, _, c5⟩ := g.tab.cls _ _ e3
  obtain ⟨ga, hm, E⟩ := c5 _ e4
  obtain ⟨fd, ps, hb, har, Fo⟩ := E.ex
  have pa := hs N sc ow X args g h2
  have rd : tMake (K.ca c) (spM K ps.length F) [] E0 (tEs G K es) σ H Q := ⟨φ, ψ, env, M, p.1, p.2, re, rm, e1, fun φ1 H1 vs x1 rm1 r1 x dx hx hdx hne => by
    have n1 : Ext φ1 H1 φ1 (upd H1 dx (.own x)) := .new hdx (rm1.fresh hdx)
    have m1 : RM K φ1 ψ (upd H1 dx (.own x)) p.2 := rm1.new hdx
    have hx' : (upd H1 dx (.own x)) x = none := by rw [upd_ne (Ne.symm hne)]; exact hx
    have n2 : Ext φ1 (upd H1 dx (.own x)) (φ1 ++ [x]) (upd (upd H1 dx (.own x)) x (.ins (K.ca c) dx [])) := .push hx'
    have m2 : RM K (φ1 ++ [x]) ψ (upd (upd H1 dx (.own x)) x (.ins (K.ca c) dx [])) (p.2 ++ [.ins c []]) := m1.push hx' ⟨dx, [], upd_same, trivial⟩
    have hi : (φ1 ++ [x])[p.2.length]? = some x := by rw [← rm1.len, List.getElem?_append_right (Nat.le_refl _)]; simp
    have rr : RTs K (φ1 ++ [x]) ψ (upd (upd H1 dx (.own x)) x (.ins (K.ca c) dx [])) (.obj p.2.length :: p.1) (.ref x :: (vs ++ [])) := by
      rw [List.append_nil]
      exact .cons (.obj hi) (r1.to (n1.trans n2))
    refine ⟨by rw [← rr.length]; exact har _ _ _ e5, φ1 ++ [x], ψ, _, _, r.1, r.2, m2, rr, e5, fun φ2 H2 v x2 rm2 r2 => ?_⟩
    rw [hr] at r2
    cases r2
    exact ⟨rfl, ok φ2 H2 _ (x1.trans (n1.trans (n2.trans x2))) rm2 (.obj (x2.get hi))⟩⟩
  cases args with
  | nil =>
    cases es with
    | cons _ _ => simp [okEs] at h2
    | nil =>
      refine ⟨_, pe_make0 (E := E0) hm Fo g.room hg c2 hb .nil pass0 hd, ?_⟩
      obtain ⟨φ', ψ', env', M1, ts', M1', re', rm', ev', ok'⟩ := rd
      rw [evEs] at ev'
      cases ev'
      exact ok' φ' H [] .refl rm' .nil
  | cons a as =>
    rw [List.all_cons, Bool.and_eq_true] at h1
    exact ⟨_, pe_make (E := E0) hm Fo g.room hg c2 hb .nil pass0 pa hd (star_cons h1.1) (back_any h1.2), rd⟩
end Mi
end L2

/-! Mini: methods of lists, subscripts, displays, targets, sources are sound. -/
namespace L2
namespace Mi
open PySem PySem.Spec PyProof.Rows
variable {G : Sig} {K : KC} {k : Nat}
theorem tyV_list {X : Cx} {φ ψ : List Addr} {H : Hp} {M : Mem} {t : T} {ts : List T} {v : V} (hK : K.K = X.K) (rm : RM K φ ψ H M) (r : RT K φ ψ H t v) (e : lof M t = some ts) : tyV X.K "list" v H := by
  obtain ⟨a, vs, rfl, h1, h2⟩ := lof_ok rm r e
  exact .inl ⟨rfl, vs, SqL.of h1⟩
theorem s_bm {b : BM} {o : ME} {es : MEs} (ho : SE G K k o) (hs : SA G K k es) : SE G K k (.bm b o es) := by
  intro N sc ow X e g h
  unfold okE at h
  split at h <;> (try cases h) <;> rename_i q <;> cases q
  simp only [Bool.and_eq_true, decide_eq_true_eq] at h
  obtain ⟨⟨⟨⟨⟨⟨⟨rfl, h0⟩, h1⟩, h2⟩, h3⟩, h6⟩, h4⟩, h5⟩ := h
  rename_i x ap args p
  have pa := hs N sc ow X args g h5
  have po := (ho N sc ow X _ g h4).1
  have i1 : ∀ σ H Q, tE G K (.bm b o es) σ H Q → tBM X.K "list" (rBm K b) (tE G K o) (tEs G K es) σ H Q := fun σ H Q ⟨φ, ψ, env, M, t, M', re, rm, ev, ok⟩ => by
    rw [evE] at ev
    obtain ⟨p, e1, ev⟩ := bnd ev
    obtain ⟨ls, e2, ev⟩ := bnd ev
    obtain ⟨q, e3, ev⟩ := bnd ev
    exact ⟨φ, ψ, env, M, p.1, p.2, re, rm, e1, fun φ1 H1 v x1 rm1 r1 => ⟨tyV_list g.hK rm1 r1 e2, φ1, ψ, env, p.2, q.1, q.2, re.ext x1, rm1, e3, fun φ2 H2 vs x2 rm2 r2 =>
      ⟨φ2, ψ, q.2, p.1, q.1, t, M', rm2, r1.to x2, r2, ev, ok.ext (x1.trans x2)⟩⟩⟩
  have hm : MtR X (bmId b) (rBm K b) := op_bm (X := X) g.hK g.hu b
  refine se_of g.hK (PE.imp ?_ i1) rfl
  cases args with
  | nil =>
    have i2 : ∀ σ H Q, tBM X.K "list" (rBm K b) (tE G K o) (tEs G K es) σ H Q → tBM0 X.K "list" (rBm K b) (tE G K o) σ H Q := fun σ H Q ⟨φ, ψ, env, M, t, M', re, rm, ev, ok⟩ =>
      ⟨φ, ψ, env, M, t, M', re, rm, ev, fun φ1 H1 v x1 rm1 r1 => by
        obtain ⟨q1, q2⟩ := ok φ1 H1 v x1 rm1 r1
        refine ⟨q1, ?_⟩
        obtain ⟨φ', ψ', env', M1, ts', M1', re', rm', ev', ok'⟩ := q2
        cases es with
        | cons _ _ => simp [okEs] at h5
        | nil =>
          rw [evEs] at ev'
          cases ev'
          exact ok' φ' H1 [] .refl rm' .nil⟩
    cases b with
    | append => simp [bmAr] at h6
    | extend => simp [bmAr] at h6
    | pop => simp [bmAr] at h6
    | remove => simp [bmAr] at h6
    | pop0 => exact PE.imp (pe_bm0 PySem.F.plainAttrs_list PySem.F.slot_list_pop PySem.F.type_list_pop hm po (sup_base h0) h3) i2
    | reverse => exact PE.imp (pe_bm0 PySem.F.plainAttrs_list PySem.F.slot_list_reverse PySem.F.type_list_reverse hm po (sup_base h0) h3) i2
  | cons a as =>
    have h1' := h1
    rw [List.all_cons, Bool.and_eq_true] at h1'
    cases b with
    | append => exact pe_bm PySem.F.plainAttrs_list PySem.F.slot_list_append PySem.F.type_list_append hm po pa (sup_base h0) (back_few h1 h2) h3 (star_cons h1'.1) (back_any h1'.2)
    | extend => exact pe_bm PySem.F.plainAttrs_list PySem.F.slot_list_extend PySem.F.type_list_extend hm po pa (sup_base h0) (back_few h1 h2) h3 (star_cons h1'.1) (back_any h1'.2)
    | pop => exact pe_bm PySem.F.plainAttrs_list PySem.F.slot_list_pop PySem.F.type_list_pop hm po pa (sup_base h0) (back_few h1 h2) h3 (star_cons h1'.1) (back_any h1'.2)
    | remove => exact pe_bm PySem.F.plainAttrs_list PySem.F.slot_list_remove PySem.F.type_list_remove hm po pa (sup_base h0) (back_few h1 h2) h3 (star_cons h1'.1) (back_any h1'.2)
    | pop0 => simp [bmAr] at h6
    | reverse => simp [bmAr] at h6
theorem s_ix {a b : ME} (ha : SE G K k a) (hb : SE G K k b) : SE G K k (.ix a b) := by
  intro N sc ow X e g h
  unfold okE at h
  split at h <;> (try cases h) <;> rename_i q <;> cases q
  simp only [Bool.and_eq_true, decide_eq_true_eq] at h
  obtain ⟨⟨h0, h1⟩, h2⟩ := h
  have hu := g.hu
  refine se_of g.hK (PE.imp (pe_ix (op_ix g.hK (by omega)) (ha N sc ow X _ g h1).1 (hb N sc ow X _ g h2).1 (plain_ix h0)) fun σ H Q ⟨φ, ψ, env, M, t, M', re, rm, ev, ok⟩ => ?_) rfl
  rw [evE] at ev
  obtain ⟨p, e1, ev⟩ := bnd ev
  obtain ⟨q, e2, ev⟩ := bnd ev
  obtain ⟨u, e3, ev⟩ := mpd ev
  cases ev
  refine ⟨φ, ψ, env, M, p.1, p.2, re, rm, e1, fun φ1 H1 v x1 rm1 r1 => ⟨φ1, ψ, env, p.2, q.1, q.2, re.ext x1, rm1, e2, fun φ2 H2 w x2 rm2 r2 => ?_⟩⟩
  exact ⟨φ2, ψ, q.2, p.1, q.1, t, rm2, r1.to x2, r2, e3, fun v' r' => ok φ2 H2 v' (x1.trans x2) rm2 r'⟩
theorem evP_gen {x : Option (T × Mem)} {o : Option Int} {M' : Mem} (h : (x.bind fun p => match p.1 with
    | .int i => some (some i, p.2)
    | _ => none) = some (o, M')) : ∃ i, o = some i ∧ x = some (.int i, M') := by
  obtain ⟨p, e1, e2⟩ := bnd h
  split at e2
  · rename_i i hi
    cases e2
    refine ⟨i, rfl, ?_⟩
    rw [e1, ← hi]
  · cases e2
theorem evP_of {m : ME} {env : En} {M M' : Mem} {o : Option Int} (hn : isNoP m = false) (h : evP G m env M = some (o, M')) : ∃ i, o = some i ∧ evE G m env M = some (.int i, M') := by
  cases m with
  | nopart => cases hn
  | int i =>
    rw [evP] at h
    cases h
    exact ⟨i, rfl, by rw [evE]⟩
  | _ => unfold evP at h; exact evP_gen h
theorem s_pa (m : ME) (hm : SE G K k m) : SP_ G K k m := by
  intro N sc ow X e g h
  cases e with
  | none =>
    cases m with
    | nopart =>
      refine PO.imp po_none fun σ H Q ⟨φ, ψ, env, M, t, M', re, rm, ev, ok⟩ => ?_
      rw [evP] at ev
      cases ev
      exact ok φ H .refl rm
    | _ => exact absurd h Bool.false_ne_true
  | some x =>
    have h : (!isNoP m && okE N sc m x) = true := h
    rw [Bool.and_eq_true, Bool.not_eq_true'] at h
    refine PO.imp (po_some (hm N sc ow X x g h.2).1) fun σ H Q ⟨φ, ψ, env, M, t, M', re, rm, ev, ok⟩ => ?_
    obtain ⟨i, rfl, ev'⟩ := evP_of h.1 ev
    refine ⟨φ, ψ, env, M, .int i, M', re, rm, ev', fun φ1 H1 v x1 rm1 r1 => ?_⟩
    cases r1
    exact ⟨i, rfl, ok φ1 H1 x1 rm1⟩
theorem s_slc {tr : Bool} {a lo hi : ME} (ha : SE G K k a) (hl : SP_ G K k lo) (hh : SP_ G K k hi) : SE G K k (.slc tr a lo hi) := by
  intro N sc ow X e g h
  unfold okE at h
  split at h <;> (try cases h) <;> rename_i q <;> cases q
  simp only [Bool.and_eq_true, decide_eq_true_eq] at h
  obtain ⟨⟨h0, h1⟩, h2⟩ := h
  refine se_of g.hK (PE.imp (pe_slice (op_sl g.hK tr) (ha N sc ow X _ g h0).1 (hl N sc ow X _ g (show okP N sc lo _ = true from h1)) (hh N sc ow X _ g (show okP N sc hi _ = true from h2))) fun σ H Q ⟨φ, ψ, env, M, t, M', re, rm, ev, ok⟩ => ?_) rfl
  rw [evE] at ev
  obtain ⟨p, e1, ev⟩ := bnd ev
  obtain ⟨l, e2, ev⟩ := bnd ev
  obtain ⟨u, e3, ev⟩ := bnd ev
  refine ⟨φ, ψ, env, M, p.1, p.2, re, rm, e1, fun φ1 H1 v x1 rm1 r1 => ⟨φ1, ψ, env, p.2, l.1, l.2, re.ext x1, rm1, e2, fun φ2 H2 x2 rm2 => ⟨φ2, ψ, env, l.2, u.1, u.2, re.ext (x1.trans x2), rm2, e3, fun φ3 H3 x3 rm3 => ?_⟩⟩⟩
  exact ⟨φ3, ψ, u.2, p.1, t, M', rm3, r1.to (x2.trans x3), ev, ok.ext (x1.trans (x2.trans x3))⟩
theorem s_rev {tr : Bool} {a : ME} (ha : SE G K k a) : SE G K k (.rev tr a) := by
  intro N sc ow X e g h
  unfold okE at h
  split at h <;> (try cases h) <;> rename_i q <;> cases q
  refine se_of g.hK (PE.imp (pe_revA (ha N sc ow X _ g h).1) fun σ H Q ⟨φ, ψ, env, M, t, M', re, rm, ev, ok⟩ => ?_) rfl
  rw [evE] at ev
  obtain ⟨p, e1, ev⟩ := bnd ev
  refine ⟨φ, ψ, env, M, p.1, p.2, re, rm, e1, fun φ1 H1 v x1 rm1 r1 => ?_⟩
  obtain ⟨p1, p2⟩ := p
  have ok2 := ok.ext x1
  unfold revT at ev
  split at ev
  · rename_i ts hp1
    cases ev
    simp only at hp1 r1 rm1
    subst hp1
    cases r1 with
    | tup h1 h2 => exact ⟨_, _, rfl, .inr ⟨by rw [← g.hK]; exact h1.sq, fun p' hp => ok2.newTup rm1 h2.reverse hp⟩⟩
  · obtain ⟨ts, e2, ev⟩ := mpd ev
    obtain ⟨l, vs, rfl, h3, h4⟩ := lofS_ok rm1 r1 e2
    refine ⟨l, vs, rfl, .inl ⟨by rw [← g.hK]; exact h3, fun p' hp => ?_⟩⟩
    rw [show t = (t, M').1 from rfl, show M' = (t, M').2 from rfl, ← ev] at ok2
    exact ok2.newL rm1 h4.reverse hp
theorem s_att {c : Str} {o : ME} {f : Str} (ho : SE G K k o) : SE G K k (.att c o f) := by
  intro N sc ow X e g h
  unfold okE at h
  split at h <;> (try cases h) <;> rename_i q <;> cases q
  simp only [Bool.and_eq_true, decide_eq_true_eq] at h
  obtain ⟨⟨rfl, h0⟩, h1⟩ := h
  refine se_of g.hK (PE.imp (pe_fld (ho N sc ow X _ g h1).1 (sup_base h0)) fun σ H Q ⟨φ, ψ, env, M, t, M', re, rm, ev, ok⟩ => ?_) rfl
  rw [evE] at ev
  obtain ⟨p, e1, ev⟩ := bnd ev
  split at ev
  case h_2 => cases ev
  rename_i i hi
  split at ev
  case h_2 => cases ev
  rename_i c' fs hM
  split at ev
  case isFalse => cases ev
  rename_i hc
  subst hc
  obtain ⟨C, e3, ev⟩ := bnd ev
  split at ev
  case isFalse => cases ev
  rename_i hf
  obtain ⟨u, e4, ev⟩ := mpd ev
  cases ev
  obtain ⟨c1, _, c3, _, _⟩ := g.tab.cls _ _ e3
  refine ⟨φ, ψ, env, M, p.1, p.2, re, rm, e1, fun φ1 H1 v x1 rm1 r1 => ?_⟩
  rw [hi] at r1
  obtain ⟨a, dx, gs, rfl, ha, hh, hfs⟩ := ins_of rm1 r1 hM
  obtain ⟨w, hw, hr⟩ := hfs.some e4
  exact ⟨a, K.ca c', dx, gs, w, rfl, hh, c1, c3 _ hf, hw, ok φ1 H1 w x1 rm1 hr⟩
theorem s_tup {es : MEs} (hs : SA G K k es) : SE G K k (.tup es) := by
  intro N sc ow X e g h
  unfold okE at h
  split at h <;> (try cases h) <;> rename_i q <;> cases q
  simp only [Bool.and_eq_true, decide_eq_true_eq] at h
  refine se_of g.hK (PE.imp (pe_tup (hs N sc ow X _ g h.2)) fun σ H Q ⟨φ, ψ, env, M, t, M', re, rm, ev, ok⟩ => ?_) rfl
  rw [evE] at ev
  obtain ⟨p, e1, ev⟩ := bnd ev
  split at ev
  case isFalse => cases ev
  rename_i hl
  cases ev
  refine ⟨φ, ψ, env, M, p.1, p.2, re, rm, e1, fun φ1 H1 vs x1 rm1 r1 => ⟨by rw [← r1.length, szl]; exact hl, fun p' hp => (ok.ext x1).newTup rm1 r1 hp⟩⟩
theorem s_lst {tr : Bool} {es : MEs} (hs : SA G K k es) : SE G K k (.lst tr es) := by
  intro N sc ow X e g h
  unfold okE at h
  split at h <;> (try cases h) <;> rename_i q <;> cases q
  simp only [Bool.and_eq_true, decide_eq_true_eq] at h
  refine se_of g.hK (PE.imp (pe_lst (hs N sc ow X _ g h.2)) fun σ H Q ⟨φ, ψ, env, M, t, M', re, rm, ev, ok⟩ => ?_) rfl
  rw [evE] at ev
  obtain ⟨p, e1, ev⟩ := bnd ev
  split at ev
  case isFalse => cases ev
  rename_i hl
  have ev := Option.some.inj ev
  refine ⟨φ, ψ, env, M, p.1, p.2, re, rm, e1, fun φ1 H1 vs x1 rm1 r1 => ⟨by rw [← r1.length, szl]; exact hl, fun p' hp => ?_⟩⟩
  have ok2 := ok.ext x1
  rw [show t = (t, M').1 from rfl, show M' = (t, M').2 from rfl, ← ev] at ok2
  exact ok2.newL rm1 r1 hp
theorem s_dnew {tk : Bool} : SE G K k (.dnew tk) := by
  intro N sc ow X e g h
  unfold okE at h
  split at h <;> (try cases h) <;> rename_i q <;> cases q
  have key : ∀ σ H Q, tE G K (.dnew tk) σ H Q → ∀ p, H p = none → Q (.ref p) (upd H p (if tk = true then .dT [] else .dK [])) := fun σ H Q ⟨φ, ψ, env, M, t, M', re, rm, ev, ok⟩ p hp => by
    rw [evE] at ev
    split at ev
    case isTrue => cases ev
    rename_i hkt
    cases ev
    have hi : (φ ++ [p])[M.length]? = some p := by rw [← rm.len, List.getElem?_append_right (Nat.le_refl _)]; simp
    refine ok (φ ++ [p]) _ _ (.push hp) (rm.push hp ?_) (.obj hi)
    cases tk with
    | true =>
      refine .inr ⟨rfl, ?_, [], ?_, rfl, .nil⟩
      · rw [← g.tab.kt]
        cases hq : G.kt with
        | true => exact absurd ⟨rfl, hq⟩ hkt
        | false => rfl
      · rw [if_pos rfl]; exact upd_same
    | false => exact .inl ⟨rfl, [], by rw [if_neg Bool.false_ne_true]; exact upd_same, rfl, .nil⟩
  cases tk with
  | true => exact se_of g.hK (PE.imp pe_dnewT fun σ H Q q p hp => by have := key σ H Q q p hp; rwa [if_pos rfl] at this) rfl
  | false => exact se_of g.hK (PE.imp pe_dnewK fun σ H Q q p hp => by have := key σ H Q q p hp; rwa [if_neg Bool.false_ne_true] at this) rfl
/-! ### targets -/
theorem s_nm {i : Nat} {x : Str} : SG G K k (.nm i x) := by
  intro N sc ow X e g h
  unfold okT' at h
  split at h <;> (try cases h) <;> rename_i q <;> cases q
  simp only [Bool.and_eq_true, decide_eq_true_eq] at h
  obtain ⟨⟨rfl, h1⟩, h2⟩ := h
  obtain ⟨s1, s2⟩ := g.st _ h2
  refine PG.imp (pg_name (by rw [g.hN]; exact g.nd) (by rw [g.hN]; exact h1) (by rw [g.sc_]; exact s1) (by rw [g.sc_]; exact s2)) fun v σ H Q ⟨φ, ψ, env, M, t, env', re, rm, r, ev, ok⟩ => ?_
  rw [asgT] at ev
  cases ev
  exact ok _ (re.set r) ⟨by rw [List.length_set], fun j hj => by rw [List.getElem?_set_ne]; intro z; exact hj (by rw [slT']; exact List.mem_singleton.mpr z.symm)⟩
theorem asgs_len {N ow : List Str} {env : Env} : ∀ {ts : MTs} {es : List Expr}, okTs' N ow ts es = true → es.all notStar = true
  | .nil, [], _ => rfl
  | .cons t ts, e :: es, h => by
    simp only [okTs', Bool.and_eq_true] at h
    rw [List.all_cons, h.1.1, asgs_len (env := env) h.2]; rfl
  | .nil, _ :: _, h => by simp [okTs'] at h
  | .cons _ _, [], h => by simp [okTs'] at h
theorem asgs_n {N ow : List Str} {env env' : En} : ∀ {ts : MTs} {es : List Expr} {us : List T}, okTs' N ow ts es = true → asgTs ts us env = some env' → us.length = es.length
  | .nil, [], [], _, _ => rfl
  | .cons t ts, e :: es, u :: us, h, h2 => by
    simp only [okTs', Bool.and_eq_true] at h
    rw [asgTs] at h2
    obtain ⟨_, _, h3⟩ := bnd h2
    rw [List.length_cons, List.length_cons]
    have := asgs_n (env' := env') h.2 h3
    omega
  | .nil, _ :: _, _, h, _ => by simp [okTs'] at h
  | .cons _ _, [], _, h, _ => by simp [okTs'] at h
  | .nil, [], _ :: _, _, h => by simp [asgTs] at h
  | .cons _ _, _ :: _, [], _, h => by simp [asgTs] at h
/-- a, b, .. = a tuple or a list -/
theorem pg_tl {X : Cx} {pos : Pos} {es : List Expr} {k : Nat} {t : TGs} {n : Nat} (hc : X.calm = true) (h : PGs X es t) (hn : (assignEach es X.env).length = n) (hst : (assignEach es X.env).findIdx? (·.1) = none) :
    PG X (.Tuple es k pos) (fun v σ H Q => gTup X.K n t v σ H Q ∨ gLst X.K n t v σ H Q) :=
  ⟨fun pins s σ H v u Q I r hw => hw.elim (fun hw => (pg_tup hc h hn hst).run pins s σ H v u Q I r hw) (fun hw => (pg_lst hc h hn hst).run pins s σ H v u Q I r hw)⟩
theorem s_tp {ts : MTs} (hs : SGs G K k ts) : SG G K k (.tp ts) := by
  intro N sc ow X e g h
  unfold okT' at h
  split at h <;> (try cases h) <;> rename_i q <;> cases q
  have hst := asgs_len (env := X.env) h
  refine PG.imp (pg_tl (n := (assignEach _ X.env).length) g.hc (hs N sc ow X _ g h) rfl (by
    rw [assign_map hst]
    apply List.findIdx?_eq_none_iff.mpr
    intro x hx
    obtain ⟨y, _, rfl⟩ := List.mem_map.mp hx
    rfl)) fun v σ H Q ⟨φ, ψ, env, M, t, env', re, rm, r, ev, ok⟩ => ?_
  unfold asgT at ev
  split at ev
  case h_3 => cases ev
  · rename_i us
    cases r with
    | tup h1 h2 =>
      refine .inl ⟨_, _, rfl, by rw [← g.hK]; exact h1.sq, ?_, φ, ψ, env, M, us, env', re, rm, h2, ev, fun σ' h3 h4 => ok σ' h3 (by rw [slT']; exact h4)⟩
      rw [← h2.length, assign_map hst, List.length_map]
      exact asgs_n h ev
  · rename_i us
    cases r with
    | fl h1 h3 h2 =>
      refine .inr ⟨_, _, rfl, SqL.of h3, ?_, φ, ψ, env, M, us, env', re, rm, h2, ev, fun σ' h3 h4 => ok σ' h3 (by rw [slT']; exact h4)⟩
      rw [← h2.length, assign_map hst, List.length_map]
      exact asgs_n h ev
theorem s_tn : SGs G K k .nil := by
  intro N sc ow X es g h
  cases es with
  | cons _ _ => simp [okTs'] at h
  | nil =>
    refine PGs.imp pgs_nil fun vs σ H Q ⟨φ, ψ, env, M, ts, env', re, rm, r, ev, ok⟩ => ?_
    cases r with
    | cons _ _ => simp [asgTs] at ev
    | nil =>
      rw [asgTs] at ev
      cases ev
      exact ⟨rfl, ok σ re ⟨rfl, fun _ _ => rfl⟩⟩
theorem s_tc {t : MT} {ts : MTs} (ht : SG G K k t) (hs : SGs G K k ts) : SGs G K k (.cons t ts) := by
  intro N sc ow X es g h
  cases es with
  | nil => simp [okTs'] at h
  | cons e es =>
    simp only [okTs', Bool.and_eq_true] at h
    obtain ⟨⟨h0, h1⟩, h2⟩ := h
    refine PGs.imp (pgs_cons (ht N sc ow X e g h1) (hs N sc ow X es g h2) (by rw [assign_cons h0]; rfl)) fun vs σ H Q ⟨φ, ψ, env, M, us, env', re, rm, r, ev, ok⟩ => ?_
    cases r with
    | nil => simp [asgTs] at ev
    | cons r1 r2 =>
      rw [asgTs] at ev
      obtain ⟨env1, e1, ev⟩ := bnd ev
      exact ⟨_, _, rfl, φ, ψ, env, M, _, env1, re, rm, r1, e1, fun σ1 re1 a1 => ⟨φ, ψ, env1, M, _, env', re1, rm, r2, ev, fun σ2 re2 a2 => ok σ2 re2 (by rw [slTs]; exact a1.trans a2)⟩⟩
/-! ### sources -/
theorem sq_of {X : Cx} {φ ψ : List Addr} {H : Hp} {M : Mem} {t : T} {ts : List T} {v : V} (hK : K.K = X.K) (rm : RM K φ ψ H M) (r : RT K φ ψ H t v) (e : sof M t = some ts) : ∃ a vs, v = .ref a ∧ SqB X.K (isTup t) H a vs ∧ RTs K φ ψ H ts vs := by
  obtain ⟨a, vs, rfl, h1, h2⟩ := sof_ok rm r e
  refine ⟨a, vs, rfl, ?_, h1⟩
  rw [← hK]
  rcases h2 with ⟨h2, hne⟩ | ⟨h2, rfl⟩
  · have : isTup t = false := by
      cases t <;> first | rfl | exact absurd rfl (hne _)
    rw [this]
    exact h2
  · exact h2
theorem s_over {a : ME} (ha : SE G K k a) : SI G K k (.over a) := by
  intro N sc ow X tg e g h
  unfold okI at h
  refine PI.imp (pi_sq (ha N sc ow X e g h).1) fun σ H R ⟨φ, ψ, env, M, p, M', re, rm, ev, ok⟩ => ?_
  rw [evI] at ev
  obtain ⟨q, e1, ev⟩ := bnd ev
  obtain ⟨ts, e2, ev⟩ := mpd ev
  cases ev
  refine ⟨φ, ψ, env, M, q.1, q.2, re, rm, e1, fun φ1 H1 v x1 rm1 r1 => ?_⟩
  obtain ⟨a', vs, rfl, h1, h2⟩ := sq_of g.hK rm1 r1 e2
  refine ⟨isTup q.1, a', vs, rfl, h1, ok φ1 H1 _ x1 rm1 ?_⟩
  have := walk_sq (K := K) r1 e2
  rw [g.hK] at this
  exact this
theorem s_rng1 {a : ME} (ha : SE G K k a) : SI G K k (.rng1 a) := by
  intro N sc ow X tg e g h
  unfold okI at h
  split at h <;> (try cases h) <;> rename_i q <;> cases q
  simp only [Bool.and_eq_true, decide_eq_true_eq] at h
  obtain ⟨⟨⟨rfl, h0⟩, h1⟩, h2⟩ := h
  obtain ⟨hg, hd⟩ := gl_of g h0
  refine PI.imp (pi_range1 hg (gc_blt g (by decide)) (pa_cons (ha N sc ow X _ g h2).1 pa_nil (star_cons h1)) (star_cons h1)) fun σ H R ⟨φ, ψ, env, M, p, M', re, rm, ev, ok⟩ => ?_
  rw [evI] at ev
  obtain ⟨q, e1, ev⟩ := bnd ev
  split at ev
  case h_2 => cases ev
  rename_i j hj
  split at ev
  case isFalse => cases ev
  rename_i hr
  cases ev
  refine ⟨φ, ψ, env, M, q.1, q.2, re, rm, e1, fun φ1 H1 v x1 rm1 r1 => ?_⟩
  rw [hj] at r1
  cases r1
  refine ⟨j, rfl, hr.2.2.1, hr.2.2.2, ok φ1 H1 _ x1 rm1 ?_⟩
  have := walk_rng (K := K) (φ0 := φ1) (ψ0 := ψ) (H0 := H1) 0 j
  rwa [show (j - 0).toNat = j.toNat by rw [Int.sub_zero]] at this
theorem s_rng2 {a b : ME} (ha : SE G K k a) (hb : SE G K k b) : SI G K k (.rng2 a b) := by
  intro N sc ow X tg e g h
  unfold okI at h
  split at h <;> (try cases h) <;> rename_i q <;> cases q
  simp only [Bool.and_eq_true, decide_eq_true_eq] at h
  obtain ⟨⟨⟨⟨⟨rfl, h0⟩, h1⟩, h1'⟩, h2⟩, h3⟩ := h
  obtain ⟨hg, hd⟩ := gl_of g h0
  refine PI.imp (pi_range2 hg (gc_blt g (by decide)) (pa_cons (ha N sc ow X _ g h2).1 (pa_cons (hb N sc ow X _ g h3).1 pa_nil (star_cons h1')) (star_cons h1)) (by rw [star_cons h1, star_cons h1']; rfl) (star_cons h1')) fun σ H R ⟨φ, ψ, env, M, p, M', re, rm, ev, ok⟩ => ?_
  rw [evI] at ev
  obtain ⟨q, e1, ev⟩ := bnd ev
  obtain ⟨r, e2, ev⟩ := bnd ev
  split at ev
  case h_2 => cases ev
  rename_i i j hi hj
  split at ev
  case isFalse => cases ev
  rename_i hr
  cases ev
  refine ⟨φ, ψ, env, M, q.1, q.2, re, rm, e1, fun φ1 H1 v x1 rm1 r1 => ⟨φ1, ψ, env, q.2, r.1, r.2, re.ext x1, rm1, e2, fun φ2 H2 w x2 rm2 r2 => ?_⟩⟩
  rw [hi] at r1
  rw [hj] at r2
  cases r1
  cases r2
  exact ⟨i, j, rfl, hr, ok φ2 H2 _ (x1.trans x2) rm2 (walk_rng i j)⟩
theorem s_enum {a : ME} (ha : SE G K k a) : SI G K k (.enum a) := by
  intro N sc ow X tg e g h
  unfold okI at h
  split at h <;> (try cases h) <;> rename_i q <;> cases q
  simp only [Bool.and_eq_true, decide_eq_true_eq] at h
  obtain ⟨⟨⟨rfl, h0⟩, h1⟩, h2⟩ := h
  obtain ⟨hg, hd⟩ := gl_of g h0
  refine PI.imp (pi_en hg (gc_blt g (by decide)) (pa_cons (ha N sc ow X _ g h2).1 pa_nil (star_cons h1)) (star_cons h1)) fun σ H R ⟨φ, ψ, env, M, p, M', re, rm, ev, ok⟩ => ?_
  rw [evI] at ev
  obtain ⟨q, e1, ev⟩ := bnd ev
  obtain ⟨ts, e2, ev⟩ := mpd ev
  cases ev
  refine ⟨φ, ψ, env, M, q.1, q.2, re, rm, e1, fun φ1 H1 v x1 rm1 r1 => ?_⟩
  obtain ⟨a', vs, rfl, h3, h4⟩ := sq_of g.hK rm1 r1 e2
  refine ⟨a', isTup q.1, vs, rfl, h3, ok φ1 H1 _ x1 rm1 ?_⟩
  have := walk_en (K := K) r1 e2
  rw [g.hK] at this
  exact this
theorem s_zip2 {a b : ME} (ha : SE G K k a) (hb : SE G K k b) : SI G K k (.zip2 a b) := by
  intro N sc ow X tg e g h
  unfold okI at h
  split at h <;> (try cases h) <;> rename_i q <;> cases q
  simp only [Bool.and_eq_true, decide_eq_true_eq] at h
  obtain ⟨⟨⟨⟨⟨rfl, h0⟩, h1⟩, h1'⟩, h2⟩, h3⟩ := h
  obtain ⟨hg, hd⟩ := gl_of g h0
  refine PI.imp (pi_z2 hg (gc_blt g (by decide)) (pa_cons (ha N sc ow X _ g h2).1 (pa_cons (hb N sc ow X _ g h3).1 pa_nil (star_cons h1')) (star_cons h1)) (star_cons h1) (back_any (by rw [List.all_cons, h1']; rfl))) fun σ H R ⟨φ, ψ, env, M, p, M', re, rm, ev, ok⟩ => ?_
  rw [evI] at ev
  obtain ⟨q, e1, ev⟩ := bnd ev
  obtain ⟨r, e2, ev⟩ := bnd ev
  obtain ⟨xs, e3, ev⟩ := bnd ev
  obtain ⟨ys, e4, ev⟩ := mpd ev
  cases ev
  refine ⟨φ, ψ, env, M, q.1, q.2, re, rm, e1, fun φ1 H1 v x1 rm1 r1 => ⟨φ1, ψ, env, q.2, r.1, r.2, re.ext x1, rm1, e2, fun φ2 H2 w x2 rm2 r2 => ?_⟩⟩
  have r1' := r1.to x2
  obtain ⟨a', vs, rfl, h4, h5⟩ := sq_of g.hK rm2 r1' e3
  obtain ⟨b', us, rfl, h6, h7⟩ := sq_of g.hK rm2 r2 e4
  refine ⟨a', b', isTup q.1, isTup r.1, vs, us, rfl, h4, h6, ok φ2 H2 _ (x1.trans x2) rm2 ?_⟩
  have := walk_z2 (K := K) r1' r2 e3 e4
  rw [g.hK] at this
  exact this
end Mi
end L2

/-! Mini: comprehensions are sound. -/
namespace L2
namespace Mi
open PySem PySem.Spec PyProof.Rows
variable {G : Sig} {K : KC} {k : Nat}
/-- but for one address all that stood stands -/
structure XD (D : Addr) (φ : List Addr) (H : Hp) (φ' : List Addr) (H' : Hp) : Prop where
  pre : φ <+: φ'
  keep : ∀ a o, a ∉ φ → a ≠ D → H a = some o → a ∉ φ' ∧ H' a = some o
section
variable {D : Addr} {φ φ1 φ2 ψ : List Addr} {H H1 H2 : Hp}
theorem XD.refl : XD D φ H φ H := ⟨List.prefix_rfl, fun _ _ h _ e => ⟨h, e⟩⟩
theorem XD.trans (x : XD D φ H φ1 H1) (y : XD D φ1 H1 φ2 H2) : XD D φ H φ2 H2 :=
  ⟨x.pre.trans y.pre, fun a o h n e => let ⟨h1, e1⟩ := x.keep a o h n e; y.keep a o h1 n e1⟩
theorem XD.of (x : Ext φ H φ1 H1) : XD D φ H φ1 H1 := ⟨x.pre, fun a o h _ e => x.keep a o h e⟩
theorem XD.upd {o : HO} : XD D φ H φ (upd H D o) := ⟨List.prefix_rfl, fun a o h n e => ⟨h, by rw [upd_ne n]; exact e⟩⟩
theorem XD.get (x : XD D φ H φ1 H1) {i : Nat} {a : Addr} (e : φ[i]? = some a) : φ1[i]? = some a := by
  obtain ⟨r, rfl⟩ := x.pre
  obtain ⟨h, _⟩ := List.getElem?_eq_some_iff.mp e
  rw [List.getElem?_append_left h]
  exact e
theorem XD.tr (x : XD D φ H φ1 H1) (ψ : List Addr) : Tr φ (D :: ψ) H φ1 (D :: ψ) H1 :=
  ⟨fun _ _ e => x.get e, fun a o h e => by
    have n : a ≠ D := fun z => h.2 (by rw [z]; exact List.mem_cons_self)
    obtain ⟨h1, e1⟩ := x.keep a o h.1 n e
    exact ⟨⟨h1, h.2⟩, e1⟩⟩
/-- from ahead of D -/
theorem XD.ext {o : HO} (hD : H D = none) (x : XD D φ (L2.upd H D o) φ1 H1) : Ext φ H φ1 H1 :=
  ⟨x.pre, fun a u h e => x.keep a u h (ne_of_none e hD) (by rw [upd_ne (ne_of_none e hD)]; exact e)⟩
theorem XD.tr0 {o : HO} (hD : H D = none) (x : XD D φ (L2.upd H D o) φ1 H1) : Tr φ ψ H φ1 (D :: ψ) H1 :=
  ⟨fun _ _ e => x.get e, fun a u h e => by
    have n : a ≠ D := ne_of_none e hD
    obtain ⟨h1, e1⟩ := (x.ext hD).keep a u h.1 e
    exact ⟨⟨h1, fun hm => (List.mem_cons.mp hm).elim n h.2⟩, e1⟩⟩
end
theorem loop_ok {CD : List T → List Addr → Hp → Prop} {D : Addr} {ψ φ0 ψ0 φs : List Addr} {H0 Hs : Hp} {Ms Mend : Mem} {items acc0 out : List T} {g : List (Nat × List T)} {step : T → Mem → Option (List T × Mem)} {J : It} {body : V → Hp → (Hp → Prop) → Prop} {Fin : Hp → Prop}
    {Lim : List T → Prop} (hw : WalkM K φ0 ψ0 H0 items g J) (hT : ∀ φ H, XD D φs Hs φ H → Tr φ0 ψ0 H0 φ (D :: ψ) H)
    (hCD : ∀ acc φ H φ' H', D ∉ φ → CD acc φ H → Ext φ H φ' H' → CD acc φ' H') (rm : RM K φs (D :: ψ) Hs Ms) (hc : CD acc0 φs Hs) (hl : lcC g step items Ms = some (out, Mend))
    (hLim : ∀ a b, Lim (a ++ b) → Lim a) (hlim : Lim (acc0 ++ out))
    (hb : ∀ φ H M t x o M' acc Nx, XD D φs Hs φ H → RM K φ (D :: ψ) H M → CD acc φ H → RT K φ (D :: ψ) H t x → step t M = some (o, M') → Lim (acc ++ o) →
      (∀ φ' H', XD D φ H φ' H' → RM K φ' (D :: ψ) H' M' → CD (acc ++ o) φ' H' → Nx H') → body x H Nx)
    (hf : ∀ φ H, XD D φs Hs φ H → RM K φ (D :: ψ) H Mend → CD (acc0 ++ out) φ H → Fin H) :
    ∃ W : Nat → Nat → Hp → Prop, (∃ m, W 0 m Hs) ∧ ∀ i m H, W i m H → (J.stop i H ∧ Fin H) ∨ (J.go i H ∧ ∃ Nx : Hp → Prop, (∀ H', Nx H' → ∃ m', m' < m ∧ W (i + 1) m' H') ∧ ∀ x H', J.yld i H x H' → body x H' Nx) := by
  refine ⟨fun i m H => m = items.length - i ∧ i ≤ items.length ∧ ∃ φ M acc rest, XD D φs Hs φ H ∧ RM K φ (D :: ψ) H M ∧ CD acc φ H ∧ lcC g step (items.drop i) M = some (rest, Mend) ∧ acc ++ rest = acc0 ++ out,
    ⟨_, rfl, Nat.zero_le _, φs, Ms, acc0, out, .refl, rm, hc, hl, rfl⟩, ?_⟩
  rintro i m H ⟨rfl, hi, φ, M, acc, rest, x, rmi, hci, hli, ha⟩
  by_cases hlt : i < items.length
  · rw [List.drop_eq_getElem_cons hlt] at hli
    rw [lcC] at hli
    split at hli
    case isFalse => cases hli
    rename_i hg
    obtain ⟨p, e1, hli⟩ := bnd hli
    obtain ⟨q, e2, hli⟩ := mpd hli
    have e3 : p.1 ++ q.1 = rest := congrArg Prod.fst hli
    have e4 : q.2 = Mend := congrArg Prod.snd hli
    have e2 : lcC g step (items.drop (i + 1)) p.2 = some (q.1, Mend) := by rw [e2, ← e4]
    rw [← e3] at ha
    refine .inr ⟨hw.goes i φ (D :: ψ) H M hlt (hT φ H x) rmi hg, fun H' => ∃ φ', XD D φs Hs φ' H' ∧ RM K φ' (D :: ψ) H' p.2 ∧ CD (acc ++ p.1) φ' H', fun H' ⟨φ', y1, y2, y3⟩ => ?_, fun v H' hy => ?_⟩
    · exact ⟨items.length - (i + 1), by omega, rfl, hlt, φ', p.2, acc ++ p.1, q.1, y1, y2, y3, e2, by rw [List.append_assoc]; exact ha⟩
    · obtain ⟨t, ht, x2, rm2, rt⟩ := hw.yields i φ (D :: ψ) H M v H' hlt (hT φ H x) rmi hg hy
      rw [List.getElem?_eq_getElem hlt] at ht
      cases ht
      have hDφ : D ∉ φ := fun hm => rmi.ap D hm List.mem_cons_self
      refine hb φ H' M _ v p.1 p.2 acc _ (x.trans (.of x2)) rm2 (hCD _ _ _ _ _ hDφ hci x2) rt e1 (hLim _ q.1 (by rw [List.append_assoc, ha]; exact hlim)) fun φ' H'' y1 y2 y3 => ⟨φ', (x.trans (.of x2)).trans y1, y2, y3⟩
  · have e : i = items.length := by omega
    subst e
    rw [List.drop_length, lcC] at hli
    split at hli
    case isFalse => cases hli
    rename_i hg
    cases hli
    rw [List.append_nil] at ha
    subst ha
    exact .inl ⟨hw.stops φ (D :: ψ) H _ (hT φ H x) rmi hg, hf φ H x rmi hci⟩
/-- what a list at D holds so far -/
def CDl (K : KC) (ψ : List Addr) (D : Addr) (acc : List T) (φ : List Addr) (H : Hp) : Prop := ∃ accs, H D = some (.lst accs) ∧ RTs K φ (D :: ψ) H acc accs
theorem CDl.ext {ψ : List Addr} {D : Addr} {acc : List T} {φ φ' : List Addr} {H H' : Hp} (hD : D ∉ φ) (h : CDl K ψ D acc φ H) (x : Ext φ H φ' H') : CDl K ψ D acc φ' H' := by
  obtain ⟨accs, h1, h2⟩ := h
  exact ⟨accs, (x.keep D _ hD h1).2, h2.to x⟩
theorem CDl.put {ψ : List Addr} {D : Addr} {acc : List T} {accs : List V} {φ : List Addr} {H : Hp} {t : T} {v : V} (h1 : RTs K φ (D :: ψ) H acc accs) (r : RT K φ (D :: ψ) H t v) : CDl K ψ D (acc ++ [t]) φ (upd H D (.lst (accs ++ [v]))) :=
  ⟨accs ++ [v], upd_same, RTs.tr .resw _ _ (h1.append (.cons r .nil))⟩
def Lim0 (l : List T) : Prop := l.length ≤ 16777216
theorem lim0 : ∀ a b, Lim0 (a ++ b) → Lim0 a := fun a b h => by unfold Lim0 at h ⊢; rw [List.length_append] at h; omega
noncomputable def stepL (G : Sig) (tg : MT) (ifs : MEs) (elt : ME) (env : En) (t : T) (M : Mem) : Option (List T × Mem) :=
  (asgT tg t env).bind fun σ2 => (evIf G ifs σ2 M).bind fun c => if c.1 then (evE G elt σ2 c.2).map fun r => ([r.1], r.2) else some ([], c.2)
/-- one turn of a list's innermost clause -/
theorem turn_l {ψ : List Addr} {D : Addr} {tg : MT} {ifs : MEs} {elt : ME} {env : En} {σb : L2.St} {vs : List Nat} {φ : List Addr} {H : Hp} {M M' : Mem} {t : T} {x : V} {o acc : List T} {Nx : Hp → Prop}
    (re : RE K φ (D :: ψ) H env (wipe σb vs)) (hv : ∀ j ∈ slT' tg, j ∈ vs) (rm : RM K φ (D :: ψ) H M) (hc : CDl K ψ D acc φ H) (rt : RT K φ (D :: ψ) H t x) (hs : stepL G tg ifs elt env t M = some (o, M')) (hl : Lim0 (acc ++ o))
    (hN : ∀ φ' H', XD D φ H φ' H' → RM K φ' (D :: ψ) H' M' → CDl K ψ D (acc ++ o) φ' H' → Nx H') :
    gM K tg x (wipe σb vs) H fun σ2 H2 => wipe σ2 vs = wipe σb vs ∧ tIf G K ifs σ2 H2 fun b H3 => if b = true then tE G K elt σ2 H3 fun y H4 => ∃ acc, H4 D = some (.lst acc) ∧ acc.length < sizeLine ∧ Nx (upd H4 D (.lst (acc ++ [y]))) else Nx H3 := by
  obtain ⟨env2, e1, hs⟩ := bnd hs
  obtain ⟨c, e2, hs⟩ := bnd hs
  have hD : D ∉ φ := fun hm => rm.ap D hm List.mem_cons_self
  refine ⟨φ, D :: ψ, env, M, t, env2, re, rm, rt, e1, fun σ2 re2 ag => ⟨by rw [ag.wipe hv, wipe_wipe], φ, D :: ψ, env2, M, c.1, c.2, re2, rm, e2, fun φ1 H1 x1 rm1 => ?_⟩⟩
  by_cases hb : c.1 = true
  · rw [if_pos hb] at hs ⊢
    obtain ⟨r, e3, hs⟩ := mpd hs
    cases hs
    refine ⟨φ1, D :: ψ, env2, c.2, r.1, r.2, re2.ext x1, rm1, e3, fun φ2 H2 y x2 rm2 r2 => ?_⟩
    obtain ⟨accs, h1, h2⟩ := hc.ext hD (x1.trans x2)
    refine ⟨accs, h1, ?_, hN φ2 _ ((XD.of (x1.trans x2)).trans .upd) rm2.resw (.put h2 r2)⟩
    rw [← h2.length, szl]
    unfold Lim0 at hl
    rw [List.length_append, List.length_singleton] at hl
    omega
  · rw [if_neg hb] at hs ⊢
    cases hs
    exact hN φ1 H1 (.of x1) rm1 (by rw [List.append_nil]; exact hc.ext hD x1)
/-- the list is done -/
theorem lc_end {ψ φ φ1 φ2 : List Addr} {H H1 H2 : Hp} {D : Addr} {o : HO} {M1 M2 : Mem} {tr : Bool} {acc : List T} {Q : VK} (x1 : Ext φ H φ1 H1) (rm1 : RM K φ1 ψ H1 M1) (hD : H1 D = none) (xd : XD D φ1 (upd H1 D o) φ2 H2) (rm2 : RM K φ2 (D :: ψ) H2 M2)
    (hc : CDl K ψ D acc φ2 H2) (ok : Ok1 K φ ψ H (mkL tr acc M2).1 (mkL tr acc M2).2 Q) : Q (.ref D) H2 := by
  obtain ⟨accs, h1, h2⟩ := hc
  have nφ : D ∉ φ2 := fun hm => rm2.ap D hm List.mem_cons_self
  have nψ : D ∉ ψ := fun hm => rm1.used D hm hD
  have x2 : Ext φ1 H1 φ2 H2 := xd.ext hD
  cases tr with
  | false => exact ok φ2 H2 _ (x1.trans x2) rm2.unres (.fl ⟨nφ, nψ⟩ h1 (RTs.tr .unres _ _ h2))
  | true =>
    have ad : Tr φ2 (D :: ψ) H2 (φ2 ++ [D]) ψ H2 := ⟨fun i a e => by
        obtain ⟨h, _⟩ := List.getElem?_eq_some_iff.mp e
        rw [List.getElem?_append_left h]; exact e, fun a u h e => ⟨⟨fun hm => by
          rcases List.mem_append.mp hm with q | q
          · exact h.1 q
          · exact h.2 (by rw [List.mem_singleton.mp q]; exact List.mem_cons_self), fun hm => h.2 (List.mem_cons_of_mem _ hm)⟩, e⟩⟩
    have x3 : Ext φ1 H1 (φ2 ++ [D]) H2 := ⟨x2.pre.trans (List.prefix_append _ _), fun a u h e => by
      obtain ⟨q1, q2⟩ := x2.keep a u h e
      refine ⟨fun hm => ?_, q2⟩
      rcases List.mem_append.mp hm with q | q
      · exact q1 q
      · exact ne_of_none e hD (List.mem_singleton.mp q)⟩
    have hi : (φ2 ++ [D])[M2.length]? = some D := by rw [← rm2.len, List.getElem?_append_right (Nat.le_refl _)]; simp
    refine ok (φ2 ++ [D]) H2 _ (x1.trans x3) ⟨by show (φ2 ++ [D]).length = (M2 ++ [O.lst acc]).length; rw [List.length_append, List.length_append, rm2.len]; rfl, ?_, fun a ha hψ => ?_, fun a ha => rm2.used2 a (List.mem_cons_of_mem _ ha), fun i a u e1 e2 => ?_⟩ (.obj hi)
    · refine List.nodup_append.mpr ⟨rm2.nd, by simp, fun a ha b hb => ?_⟩
      have : b = D := by simpa using hb
      subst this
      exact fun e => nφ (e ▸ ha)
    · rcases List.mem_append.mp ha with q | q
      · exact rm2.ap a q (List.mem_cons_of_mem _ hψ)
      · exact nψ (by rw [List.mem_singleton.mp q] at hψ; exact hψ)
    · have e2 : (M2 ++ [O.lst acc])[i]? = some u := e2
      by_cases hii : i < φ2.length
      · rw [List.getElem?_append_left hii] at e1
        rw [List.getElem?_append_left (by rw [← rm2.len]; exact hii)] at e2
        exact (rm2.at_ i a u e1 e2).tr ad rfl
      · have hl := rm2.len
        rw [List.getElem?_append_right (by omega)] at e1
        rw [List.getElem?_append_right (by omega)] at e2
        by_cases h0 : i - φ2.length = 0
        · rw [h0] at e1
          rw [show i - M2.length = 0 by omega] at e2
          cases e1; cases e2
          exact ⟨accs, h1, RTs.tr ad _ _ h2⟩
        · rw [List.getElem?_eq_none (by simp; omega)] at e1
          cases e1
def stepEq (G : Sig) (tr : Bool) (own : List (Str × Nat)) (tg : MT) (it : MI) (ifs : MEs) (elt : ME) (σ : En) (M : Mem) : evE G (.lc tr own tg it ifs elt) σ M = (evI G it σ M).bind fun p =>
      (lcC p.1.2 (stepL G tg ifs elt (wipeE σ (own.map (·.2)))) p.1.1 p.2).bind fun q => if q.1.length ≤ 16777216 then some (mkL tr q.1 q.2) else none := by
  rw [evE]; rfl
theorem rd_lc {tr : Bool} {own : List (Str × Nat)} {tg : MT} {it : MI} {ifs : MEs} {elt : ME} (hv : ∀ j ∈ slT' tg, j ∈ own.map (·.2)) {σ : L2.St} {H : Hp} {Q : VK} (h : tE G K (.lc tr own tg it ifs elt) σ H Q) :
    tLc (iM G K it) (gM K tg) (tIf G K ifs) (tE G K elt) (own.map (·.2)) σ H Q := by
  obtain ⟨φ, ψ, env, M, t, M', re, rm, ev, ok⟩ := h
  rw [stepEq] at ev
  obtain ⟨p, e1, ev⟩ := bnd ev
  obtain ⟨q, e2, ev⟩ := bnd ev
  split at ev
  case isFalse => cases ev
  rename_i hl
  have ev := Option.some.inj ev
  refine ⟨φ, ψ, env, M, p.1, p.2, re, rm, e1, fun φ1 H1 J x1 rm1 hw D hD => ?_⟩
  have re1 : RE K φ1 (D :: ψ) (upd H1 D (.lst [])) (wipeE env (own.map (·.2))) (wipe σ (own.map (·.2))) := ((re.ext x1).tr (.resv hD)).wipe _
  refine loop_ok (CD := CDl K ψ D) (Lim := Lim0) (acc0 := []) hw (fun φ' H' x => x.tr0 hD) (fun acc φ H φ' H' hD h x => h.ext hD x) (rm1.resv hD) ⟨[], upd_same, .nil⟩ e2 lim0 (by rw [List.nil_append]; exact hl)
    (fun φ' H' M1 t' x o M2 acc Nx x2 rm2 hc rt hs hl hN => turn_l (re1.tr (x2.tr ψ)) hv rm2 hc rt hs hl hN) fun φ' H' x2 rm2 hc => ?_
  rw [List.nil_append] at hc
  refine lc_end x1 rm1 hD x2 rm2 hc (tr := tr) ?_
  rw [ev]
  exact ok
end Mi
end L2

/-! Mini: comprehensions are sound, by their forms. -/
namespace L2
namespace Mi
open PySem PySem.Spec PyProof.Rows
variable {G : Sig} {K : KC} {k : Nat}
theorem all_mem {js ks : List Nat} (h : (js.all fun j => decide (j ∈ ks)) = true) : ∀ j ∈ js, j ∈ ks := fun j hj => of_decide_eq_true (List.all_eq_true.mp h j hj)
theorem blk_kind {N : List Str} {sc scope : Scope} {own : List (Str × Nat)} (h : blkC N sc scope own = true) : scope.kind = .function := (blkOk_by h).kind
theorem s_lc {tr : Bool} {own : List (Str × Nat)} {tg : MT} {it : MI} {ifs : MEs} {elt : ME} (hi : SI G K k it) (hg : SG G K k tg) (hf : SIf G K k ifs) (he : SE G K k elt) : SE G K k (.lc tr own tg it ifs elt) := by
  intro N sc ow X e g h
  unfold okE at h
  split at h <;> (try cases h) <;> rename_i q <;> cases q
  simp only [Bool.and_eq_true] at h
  obtain ⟨⟨⟨⟨⟨⟨⟨h1, h2⟩, h3⟩, h4⟩, h5⟩, h6⟩, h7⟩, h8⟩ := h
  have hk := blk_kind h1
  exact se_of g.hK (PE.imp (pe_lc g.hc (by rw [g.hN]; exact g.nd) (hi N sc ow X _ _ g h4) (by rw [g.hN, g.sc_]; exact blkOk_by h1) (fun s H C cl fp => hg _ _ _ _ _ (g.blk hk h2) h5) (fun s H C cl fp => hf _ _ _ _ _ (g.blk hk h2) h7)
    (fun s H C cl fp => (he _ _ _ _ _ (g.blk hk h2) h8).1) (fold_set h3)) fun σ H Q q => rd_lc (all_mem h6) q) rfl
/-- the same as a store to a name on one line -/
theorem s_setlc {tr : Bool} {own : List (Str × Nat)} {tg : MT} {it : MI} {ifs : MEs} {elt : ME} (hi : SI G K k it) (hg : SG G K k tg) (hf : SIf G K k ifs) (he : SE G K k elt) {N : List Str} {sc : Scope} {ow : List Str} {X : Cx} {e : Expr} {i : Nat} {y : Str} {py spos : Pos} (g : GC G K k N sc ow X)
    (h : okE N sc (.lc tr own tg it ifs elt) e = true) (hy : N[i]? = some y) (hl : sc.names.lookup y = some .local) (hsw : swapsWith e (some (.Name y py)) spos.line X.env = pure true) :
    PS X (.Assign [.Name y py] e spos) (tAsg (tE G K (.lc tr own tg it ifs elt)) (gName i)) := by
  unfold okE at h
  split at h <;> (try cases h) <;> rename_i q <;> cases q
  simp only [Bool.and_eq_true] at h
  obtain ⟨⟨⟨⟨⟨⟨⟨h1, h2⟩, h3⟩, h4⟩, h5⟩, h6⟩, h7⟩, h8⟩ := h
  have hk := blk_kind h1
  exact PS.imp (ps_setLc g.hc (by rw [g.hN]; exact g.nd) (by rw [g.hN]; exact hy) (by rw [g.sc_]; exact hl) hsw (hi N sc ow X _ _ g h4) (by rw [g.hN, g.sc_]; exact blkOk_by h1) (fun s H C cl fp => hg _ _ _ _ _ (g.blk hk h2) h5) (fun s H C cl fp => hf _ _ _ _ _ (g.blk hk h2) h7)
    (fun s H C cl fp => (he _ _ _ _ _ (g.blk hk h2) h8).1) (fold_set h3)) fun D σ H q => rd_lc (all_mem h6) q
/-! ### two clauses -/
noncomputable def stepL2 (G : Sig) (tg : MT) (ifs : MEs) (vs1 : List Nat) (tg1 : MT) (it1 : MI) (ifs1 : MEs) (elt : ME) (env : En) (t : T) (M : Mem) : Option (List T × Mem) :=
  (asgT tg t env).bind fun σ2 => (evIf G ifs σ2 M).bind fun c => if c.1 then (evI G it1 σ2 c.2).bind fun p1 => lcC p1.1.2 (stepL G tg1 ifs1 elt (wipeE σ2 vs1)) p1.1.1 p1.2 else some ([], c.2)
theorem step2Eq (tr : Bool) (own : List (Str × Nat)) (tg : MT) (it : MI) (ifs : MEs) (vs1 : List Nat) (tg1 : MT) (it1 : MI) (ifs1 : MEs) (elt : ME) (σ : En) (M : Mem) : evE G (.lc2 tr own tg it ifs vs1 tg1 it1 ifs1 elt) σ M = (evI G it σ M).bind fun p =>
      (lcC p.1.2 (stepL2 G tg ifs vs1 tg1 it1 ifs1 elt (wipeE σ (own.map (·.2)))) p.1.1 p.2).bind fun q => if q.1.length ≤ 16777216 then some (mkL tr q.1 q.2) else none := by
  rw [evE]; rfl
theorem rd_lc2 {tr : Bool} {own : List (Str × Nat)} {tg tg1 : MT} {it it1 : MI} {ifs ifs1 : MEs} {elt : ME} {vs1 : List Nat} (hv : ∀ j ∈ slT' tg, j ∈ own.map (·.2)) (hv1 : ∀ j ∈ slT' tg1, j ∈ vs1) {σ : L2.St} {H : Hp} {Q : VK} (h : tE G K (.lc2 tr own tg it ifs vs1 tg1 it1 ifs1 elt) σ H Q) :
    tLc2 (iM G K it) (gM K tg) (tIf G K ifs) (iM G K it1) (gM K tg1) (tIf G K ifs1) (tE G K elt) (own.map (·.2)) vs1 σ H Q := by
  obtain ⟨φ, ψ, env, M, t, M', re, rm, ev, ok⟩ := h
  rw [step2Eq] at ev
  obtain ⟨p, e1, ev⟩ := bnd ev
  obtain ⟨q, e2, ev⟩ := bnd ev
  split at ev
  case isFalse => cases ev
  rename_i hl
  have ev := Option.some.inj ev
  refine ⟨φ, ψ, env, M, p.1, p.2, re, rm, e1, fun φ1 H1 J x1 rm1 hw D hD => ?_⟩
  have re1 : RE K φ1 (D :: ψ) (upd H1 D (.lst [])) (wipeE env (own.map (·.2))) (wipe σ (own.map (·.2))) := ((re.ext x1).tr (.resv hD)).wipe _
  refine loop_ok (CD := CDl K ψ D) (Lim := Lim0) (acc0 := []) hw (fun φ' H' x => x.tr0 hD) (fun acc φ H φ' H' hD h x => h.ext hD x) (rm1.resv hD) ⟨[], upd_same, .nil⟩ e2 lim0 (by rw [List.nil_append]; exact hl)
    (fun φ' H' M1 t' x o M2 acc Nx x2 rm2 hc rt hs hl hN => ?_) fun φ' H' x2 rm2 hc => ?_
  · obtain ⟨env2, e1, hs⟩ := bnd hs
    obtain ⟨c, e2, hs⟩ := bnd hs
    have hDn : D ∉ φ' := fun hm => rm2.ap D hm List.mem_cons_self
    refine ⟨φ', D :: ψ, _, M1, t', env2, re1.tr (x2.tr ψ), rm2, rt, e1, fun σ2 re2 ag => ⟨by rw [ag.wipe hv, wipe_wipe], φ', D :: ψ, env2, M1, c.1, c.2, re2, rm2, e2, fun φ3 H3 x3 rm3 => ?_⟩⟩
    by_cases hb : c.1 = true
    · rw [if_pos hb] at hs ⊢
      obtain ⟨p1, e3, hs⟩ := bnd hs
      refine ⟨φ3, D :: ψ, env2, c.2, p1.1, p1.2, re2.ext x3, rm3, e3, fun φ4 H4 J1 x4 rm4 hw1 => ?_⟩
      refine loop_ok (CD := CDl K ψ D) (Lim := Lim0) (acc0 := acc) (out := o) hw1 (fun φ' H' x => x.tr ψ) (fun acc φ H φ' H' hD h x => h.ext hD x) rm4 (hc.ext hDn (x3.trans x4)) hs lim0 hl
        (fun φ5 H5 M5 t5 x5 o5 M6 acc5 Nx5 y5 rm5 hc5 rt5 hs5 hl5 hN5 => ?_) fun φ5 H5 y5 rm5 hc5 => hN φ5 H5 ((XD.of (x3.trans x4)).trans y5) rm5 hc5
      exact turn_l ((((re2.ext x3).ext x4).tr (y5.tr ψ)).wipe vs1) hv1 rm5 hc5 rt5 hs5 hl5 hN5
    · rw [if_neg hb] at hs ⊢
      cases hs
      exact hN φ3 H3 (.of x3) rm3 (by rw [List.append_nil]; exact hc.ext hDn x3)
  · rw [List.nil_append] at hc
    refine lc_end x1 rm1 hD x2 rm2 hc (tr := tr) ?_
    rw [ev]
    exact ok
theorem s_lc2 {tr : Bool} {own : List (Str × Nat)} {tg tg1 : MT} {it it1 : MI} {ifs ifs1 : MEs} {elt : ME} {vs1 : List Nat} (hi : SI G K k it) (hg : SG G K k tg) (hf : SIf G K k ifs) (hi1 : SI G K k it1) (hg1 : SG G K k tg1) (hf1 : SIf G K k ifs1) (he : SE G K k elt) :
    SE G K k (.lc2 tr own tg it ifs vs1 tg1 it1 ifs1 elt) := by
  intro N sc ow X e g h
  unfold okE at h
  split at h <;> (try cases h) <;> rename_i q <;> cases q
  simp only [Bool.and_eq_true] at h
  obtain ⟨⟨⟨⟨⟨⟨⟨⟨⟨⟨⟨⟨⟨h1, h2⟩, h3⟩, h3'⟩, h4⟩, h5⟩, h6⟩, h7⟩, h9⟩, h10⟩, h11⟩, h12⟩, h13⟩, h8⟩ := h
  have hk := blk_kind h1
  exact se_of g.hK (PE.imp (pe_lc2 (vs1 := vs1) g.hc (by rw [g.hN]; exact g.nd) (hi N sc ow X _ _ g h4) (by rw [g.hN, g.sc_]; exact blkOk_by h1) (all_mem h9) (fun s H C cl fp => hg _ _ _ _ _ (g.blk hk h2) h5) (fun s H C cl fp => hf _ _ _ _ _ (g.blk hk h2) h7)
    (fun s H C cl fp => (he _ _ _ _ _ (g.blk hk h2) h8).1) (hs := fold_set h3) (hi1 := fun s H C cl fp => hi1 _ _ _ _ _ _ (g.blk hk h2) h10) (hg1 := fun s H C cl fp => hg1 _ _ _ _ _ (g.blk hk h2) h11) (ht1 := fun s H C cl fp => hf1 _ _ _ _ _ (g.blk hk h2) h13) (hs1 := fun env => fold_set h3')) fun σ H Q q => rd_lc2 (all_mem h6) (all_mem h12) q) rfl
theorem s_setlc2 {tr : Bool} {own : List (Str × Nat)} {tg tg1 : MT} {it it1 : MI} {ifs ifs1 : MEs} {elt : ME} {vs1 : List Nat} (hi : SI G K k it) (hg : SG G K k tg) (hf : SIf G K k ifs) (hi1 : SI G K k it1) (hg1 : SG G K k tg1) (hf1 : SIf G K k ifs1) (he : SE G K k elt)
    {N : List Str} {sc : Scope} {ow : List Str} {X : Cx} {e : Expr} {i : Nat} {y : Str} {py spos : Pos} (g : GC G K k N sc ow X)
    (h : okE N sc (.lc2 tr own tg it ifs vs1 tg1 it1 ifs1 elt) e = true) (hy : N[i]? = some y) (hl : sc.names.lookup y = some .local) (hsw : swapsWith e (some (.Name y py)) spos.line X.env = pure true) :
    PS X (.Assign [.Name y py] e spos) (tAsg (tE G K (.lc2 tr own tg it ifs vs1 tg1 it1 ifs1 elt)) (gName i)) := by
  unfold okE at h
  split at h <;> (try cases h) <;> rename_i q <;> cases q
  simp only [Bool.and_eq_true] at h
  obtain ⟨⟨⟨⟨⟨⟨⟨⟨⟨⟨⟨⟨⟨h1, h2⟩, h3⟩, h3'⟩, h4⟩, h5⟩, h6⟩, h7⟩, h9⟩, h10⟩, h11⟩, h12⟩, h13⟩, h8⟩ := h
  have hk := blk_kind h1
  exact PS.imp (ps_setLc2 (vs1 := vs1) g.hc (by rw [g.hN]; exact g.nd) (by rw [g.hN]; exact hy) (by rw [g.sc_]; exact hl) hsw (hi N sc ow X _ _ g h4) (by rw [g.hN, g.sc_]; exact blkOk_by h1) (all_mem h9) (fun s H C cl fp => hg _ _ _ _ _ (g.blk hk h2) h5) (fun s H C cl fp => hf _ _ _ _ _ (g.blk hk h2) h7)
    (fun s H C cl fp => (he _ _ _ _ _ (g.blk hk h2) h8).1) (hs := fold_set h3) (hi1 := fun s H C cl fp => hi1 _ _ _ _ _ _ (g.blk hk h2) h10) (hg1 := fun s H C cl fp => hg1 _ _ _ _ _ (g.blk hk h2) h11) (ht1 := fun s H C cl fp => hf1 _ _ _ _ _ (g.blk hk h2) h13) (hs1 := fun env => fold_set h3')) fun D σ H q => rd_lc2 (all_mem h6) (all_mem h12) q
end Mi
end L2

/-! Mini: sets of ints from lists. -/
namespace L2
open PySem PySem.Spec PyProof.Rows
section
variable {P : Program} {w : World} {A : Around} {E : Value → Shared → Prop} {s : Shared}
theorem call_set_listI {l : Addr} {items : Array Value} (ns : List Int) {Q : Value → Shared → Prop} (hh : A.handled = none) (hl : s.heap.IsList l items) (hit : IntsAre items.toList ns) (hb : ns.length + 1 < scanBound)
    (h : ∀ (h' : Heap) (tk c : Nat), SetR w h' s.heap.objs.size (fun j => decide (j ∈ ns)) c → c ≤ ns.length → (∀ b o, s.heap.get? b = some o → h'.get? b = some o) → Q (.ref s.heap.objs.size) { s with heap := h', toks := tk }) :
    wpAny (model P w) A (call (.type "set") [.ref l]) Q E s := by
  have hisz : items.size = ns.length := by
    have q := IntsAre.length hit
    rw [Array.length_toList] at q
    exact q
  obtain ⟨c, tl, hmro⟩ := F.called_set.mro
  have hmade := F.called_set.made
  have hsub := F.called_set.sub
  refine wpAny_call (codeAny_of_tree ?_)
  show wpAny _ _ (callAny (.type "set") _) _ _ _
  refine wpAny_pure ⟨Code.quiet_builtin _ (by decide +kernel), codeAny_builtin F.entry_type_call ?_⟩
  rw [Around.under_plain (weight_type_call_type "set" [.ref l] []) rfl]
  have h1 := F.called_set.notType
  have h2 := F.called_set.canCreate
  have hct := F.typeCall_set_1 (.ref l)
  repeat (any_goals (first | assumption | wp_step))

  refine codeAny_mono (code_set_led1 (.ref l) (E := E) (Q₁ := fun obj s₁ => obj = .ref s.heap.objs.size ∧ s₁ = { s with heap := s.heap.push { cls := .type "set", dict := none, data := .set #[] 0 (.fresh 0 0 (!w.params.followText "set-order")) } }) ⟨rfl, rfl⟩) fun r s₁ hr => ?_
  cases r with
  | error e => exact hr
  | ok fl =>
    cases fl with
    | ret obj =>
      obtain ⟨rfl, rfl⟩ := hr
      have hS : (s.heap.push { cls := .type "set", dict := none, data := .set #[] 0 (.fresh 0 0 (!w.params.followText "set-order")) }).get? s.heap.objs.size = some { cls := .type "set", dict := none, data := .set #[] 0 (.fresh 0 0 (!w.params.followText "set-order")) } := Heap.get?_push_size _ rfl
      have hT : Shared.TypeIs { s with heap := s.heap.push { cls := .type "set", dict := none, data := .set #[] 0 (.fresh 0 0 (!w.params.followText "set-order")) } } (.ref s.heap.objs.size) "set" := ⟨_, hS, rfl⟩
      have hli := F.called_set.init.lookup
      have hbi := F.called_set.init.bind (.ref s.heap.objs.size)
      repeat (any_goals (first | assumption | wp_step))

      refine codeAny_mono (codeAny_call_builtin (R := wants (fun r s₂ => r = .none ∧ ∃ h' tk c, s₂ = { s with heap := h', toks := tk } ∧ SetR w h' s.heap.objs.size (fun j => decide (j ∈ ns)) c ∧ c ≤ ns.length ∧
          (∀ b o, s.heap.get? b = some o → h'.get? b = some o)) E) F.called_set.init.plain F.entry_set_init (check_set_init_1 hT ?_)) fun r₂ s₂ hr₂ => ?_
      · obtain ⟨ol, hol, hcl, nl, hdl⟩ := hl
        obtain ⟨ocls, odict, odata, oslots⟩ := ol
        simp only at hcl hdl
        subst hcl; subst hdl
        have hol' : (s.heap.push { cls := .type "set", dict := none, data := .set #[] 0 (.fresh 0 0 (!w.params.followText "set-order")) }).get? l = some { cls := .type "list", dict := odict, data := .seq items nl, slots := oslots } := Heap.get?_push_of_some _ hol
        have hsls := F.sub_list_set
        have hslf := F.sub_list_frozenset
        have hne : (Value.type "list" == Value.type "dict") = false := by decide
        have hl1 : (s.heap.push { cls := .type "set", dict := none, data := .set #[] 0 (.fresh 0 0 (!w.params.followText "set-order")) }).IsList l items := ⟨_, hol', rfl, nl, rfl⟩
        unfold Builtin.«set.__init__» noKeywords Builtin.Frozenset.updateFrom
        generalize hPI : pyIter = PI
        wp_walk
        subst hPI

        refine wpAny_pyIter_list hl1 ?_
        refine wpAny_bind (wpAny_runValue ?_)
        have hlS : l < s.heap.objs.size := Heap.lt_size hol
        have hh3 : A.in1.in1.in1.handled = none := by simp [hh]
        have hz1 : (s.heap.push { cls := .type "set", dict := none, data := .set #[] 0 (.fresh 0 0 (!w.params.followText "set-order")) }).objs.size = s.heap.objs.size + 1 := Heap.size_push ..
        have hneI : l ≠ (s.heap.push { cls := .type "set", dict := none, data := .set #[] 0 (.fresh 0 0 (!w.params.followText "set-order")) }).objs.size := by
          rw [Heap.size_push]; exact Nat.ne_of_lt (Nat.lt_succ_of_lt hlS)
        have hSf : s.heap.objs.size ∉ [(s.heap.push { cls := .type "set", dict := none, data := .set #[] 0 (.fresh 0 0 (!w.params.followText "set-order")) }).objs.size, l] := by
          rw [Heap.size_push]; simp only [List.mem_cons, List.mem_singleton, List.not_mem_nil, or_false, not_or]
          exact ⟨Nat.ne_of_lt (Nat.lt_succ_self _), Nat.ne_of_gt hlS⟩
        have hval : ∀ (i : Nat) (v : Value), items[i]? = some v → ∃ k t, ns[i]? = some k ∧ v = .int k t := fun i v hv => by
          have hi : i < ns.length := by rw [← hisz]; exact (Array.getElem?_eq_some_iff.mp hv).1
          obtain ⟨t, e⟩ := PyProof.Rows.IntsAre.int_at hit i v (by rw [Array.getElem?_toList]; exact hv)
          refine ⟨ns[i], t, List.getElem?_eq_getElem hi, ?_⟩
          rw [e, List.getD_eq_getElem?_getD, List.getElem?_eq_getElem hi] <;> rfl
        refine set_update_ints ((Walks.list hh3 _ l hneI items).toS) s.heap.objs.size
          hSf ns hisz hb hval (items.size - 0) 0 _ (by omega) (Nat.zero_le _)
          ⟨⟨_, Heap.get?_push_size _ rfl, rfl, rfl⟩, (hl1.push _)⟩ ?hS0 ?hR
        case hS0 =>
          have hget : ((s.heap.push { cls := .type "set", dict := none, data := .set #[] 0 (.fresh 0 0 (!w.params.followText "set-order")) }).push { cls := .type "list_iterator", data := .fields #[.ref l, .int 0 0] }).get? s.heap.objs.size
              = some { cls := .type "set", dict := none, data := .set #[] 0 (.fresh 0 0 (!w.params.followText "set-order")) } := Heap.get?_push_of_some _ hS
          exact ⟨0, Nat.le_refl 0, setR_new_at hget⟩
        case hR =>
          intro s' c' hm hc' hS'
          obtain ⟨h', g2, d', tk', os'⟩ := s'
          have eg : g2 = s.gens := hm.gens
          have ed : d' = s.drawn := hm.drawn
          have eo : os' = s.os := hm.os
          subst eg; subst ed; subst eo
          show wpAny _ _ _ _ _ _
          refine wpAny_pure ?_
          show wpAny _ _ (ret Value.none) _ _ _
          rw [hisz] at hc'
          refine wpAny_pure ⟨rfl, h', tk', c', rfl, hS', hc', fun b o e => ?_⟩
          have hb0 : b < s.heap.objs.size := Heap.lt_size e
          have hb1 : b ≠ s.heap.objs.size := Nat.ne_of_lt hb0
          have hb2 : b ≠ (s.heap.push { cls := .type "set", dict := none, data := .set #[] 0 (.fresh 0 0 (!w.params.followText "set-order")) }).objs.size := by
            rw [Heap.size_push]; exact Nat.ne_of_lt (Nat.lt_succ_of_lt hb0)
          exact hm.heap b o (by simp only [List.mem_cons, List.mem_singleton, List.not_mem_nil, or_false, not_or]; exact ⟨hb1, hb2⟩) (Heap.get?_push_of_some _ (Heap.get?_push_of_some _ e))

      · cases r₂ with
        | error e => exact hr₂
        | ok fl₂ =>
          cases fl₂ with
          | ret r =>
            obtain ⟨rfl, h', tk, c', rfl, hS', hc', hk'⟩ := hr₂
            repeat (any_goals (first | assumption | wp_step))
            exact h _ _ _ hS' hc' hk'
          | _ => exact hr₂.elim
    | _ => exact hr.elim

end
namespace Mi
variable {X : Cx}
/-- set(xs), xs a list or a tuple of ints -/
def rSetI (K : PySem.W.Frag) (w : World) : List V → Hp → VK → Prop := fun vs H Q => ∃ (a : Addr) (ns : List Int), vs = [.ref a] ∧ (SqL K H a (ns.map V.int) ∨ SqT K H a (ns.map V.int)) ∧ ns.length + 1 < scanBound ∧
  ∀ p c, H p = none → c ≤ ns.length → Q (.ref p) (upd H p (SetO w p (fun j => decide (j ∈ ns)) c))
theorem cr_setI (hc : X.calm = true) : CallR X (.type "set") (rSetI X.K X.w) := by
  intro pins s σ H vs us Q I r h
  obtain ⟨a, ns, rfl, hq, hb, q⟩ := h
  rw [Vals.ref1 r]
  have key : ∀ (h' : Heap) (tk c : Nat), SetR X.w h' s.heap.objs.size (fun j => decide (j ∈ ns)) c → c ≤ ns.length → (∀ b o, s.heap.get? b = some o → h'.get? b = some o) → EP X pins σ Q (.ref s.heap.objs.size) { s with heap := h', toks := tk } := fun h' tk c R hl hk => by
    have hf : H s.heap.objs.size = none := I.hok.fresh (Nat.le_refl _)
    exact ⟨.ref _, _, I.laid (t' := tk) hk (Nat.le_refl _) (setO_new R), rfl, q _ c hf hl⟩
  rcases hq with hq | hq
  · obtain ⟨its, rv, p, hz⟩ := I.list hq
    exact call_set_listI ns (I.ok.hd hc) p.isList (by simpa using intsAre_of rv) hb key
  · obtain ⟨its, rv, p, hz⟩ := I.tuple hq
    exact call_set_tupI ns (I.ok.hd hc) p (by simpa using intsAre_of rv) hb key
end Mi
end L2

/-! Mini: sets of tuples of ints from tuples; how many a set has. -/
namespace L2
open PySem PySem.Spec PyProof.Rows
section
variable {P : Program} {w : World} {A : Around} {E : Value → Shared → Prop} {s : Shared}
theorem call_set_tupsT {l : Addr} {items : Array Value} (ks : List (Addr × List Int)) {Q : Value → Shared → Prop} (hh : A.handled = none) (hl : s.heap.IsTuple l items) (hit : items.toList = ks.map fun p => Value.ref p.1)
    (hk : ∀ p ∈ ks, IsT P w s.heap p.2 p.1) (hfew : ks.length < 64) (hu : A.units + 3 < cLine)
    (h : ∀ (h' : Heap) (tk : Nat) L es ep t, SetTR P w h' s.heap.objs.size L es ep t → Got ks ks.length L → (∀ b o, s.heap.get? b = some o → h'.get? b = some o) → Q (.ref s.heap.objs.size) { s with heap := h', toks := tk }) :
    wpAny (model P w) A (call (.type "set") [.ref l]) Q E s := by
  have hisz : items.size = ks.length := by
    have q := congrArg List.length hit
    rw [Array.length_toList, List.length_map] at q
    exact q
  obtain ⟨c, tl, hmro⟩ := F.called_set.mro
  have hmade := F.called_set.made
  have hsub := F.called_set.sub
  refine wpAny_call (codeAny_of_tree ?_)
  show wpAny _ _ (callAny (.type "set") _) _ _ _
  refine wpAny_pure ⟨Code.quiet_builtin _ (by decide +kernel), codeAny_builtin F.entry_type_call ?_⟩
  rw [Around.under_plain (weight_type_call_type "set" [.ref l] []) rfl]
  have h1 := F.called_set.notType
  have h2 := F.called_set.canCreate
  have hct := F.typeCall_set_1 (.ref l)
  repeat (any_goals (first | assumption | wp_step))

  refine codeAny_mono (code_set_led1 (.ref l) (E := E) (Q₁ := fun obj s₁ => obj = .ref s.heap.objs.size ∧ s₁ = { s with heap := s.heap.push { cls := .type "set", dict := none, data := .set #[] 0 (.fresh 0 0 (!w.params.followText "set-order")) } }) ⟨rfl, rfl⟩) fun r s₁ hr => ?_
  cases r with
  | error e => exact hr
  | ok fl =>
    cases fl with
    | ret obj =>
      obtain ⟨rfl, rfl⟩ := hr
      have hS : (s.heap.push { cls := .type "set", dict := none, data := .set #[] 0 (.fresh 0 0 (!w.params.followText "set-order")) }).get? s.heap.objs.size = some { cls := .type "set", dict := none, data := .set #[] 0 (.fresh 0 0 (!w.params.followText "set-order")) } := Heap.get?_push_size _ rfl
      have hT : Shared.TypeIs { s with heap := s.heap.push { cls := .type "set", dict := none, data := .set #[] 0 (.fresh 0 0 (!w.params.followText "set-order")) } } (.ref s.heap.objs.size) "set" := ⟨_, hS, rfl⟩
      have hli := F.called_set.init.lookup
      have hbi := F.called_set.init.bind (.ref s.heap.objs.size)
      repeat (any_goals (first | assumption | wp_step))

      refine codeAny_mono (codeAny_call_builtin (R := wants (fun r s₂ => r = .none ∧ ∃ h' tk L es ep t, s₂ = { s with heap := h', toks := tk } ∧ SetTR P w h' s.heap.objs.size L es ep t ∧ Got ks ks.length L ∧
          (∀ b o, s.heap.get? b = some o → h'.get? b = some o)) E) F.called_set.init.plain F.entry_set_init (check_set_init_1 hT ?_)) fun r₂ s₂ hr₂ => ?_
      · obtain ⟨ol, hol, hcl, nl, hdl⟩ := hl
        obtain ⟨ocls, odict, odata, oslots⟩ := ol
        simp only at hcl hdl
        subst hcl; subst hdl
        have hol' : (s.heap.push { cls := .type "set", dict := none, data := .set #[] 0 (.fresh 0 0 (!w.params.followText "set-order")) }).get? l = some { cls := .type "tuple", dict := odict, data := .seq items nl, slots := oslots } := Heap.get?_push_of_some _ hol
        have hsls := F.sub_tuple_set
        have hslf := F.sub_tuple_frozenset
        have hne : (Value.type "tuple" == Value.type "dict") = false := by decide
        have hl1 : (s.heap.push { cls := .type "set", dict := none, data := .set #[] 0 (.fresh 0 0 (!w.params.followText "set-order")) }).IsTuple l items := ⟨_, hol', rfl, nl, rfl⟩
        unfold Builtin.«set.__init__» noKeywords Builtin.Frozenset.updateFrom
        generalize hPI : pyIter = PI
        wp_walk
        subst hPI

        refine wpAny_pyIter_tuple hl1 ?_
        refine wpAny_bind (wpAny_runValue ?_)
        have hlS : l < s.heap.objs.size := Heap.lt_size hol
        have hh3 : A.in1.in1.in1.handled = none := by simp [hh]
        have hz1 : (s.heap.push { cls := .type "set", dict := none, data := .set #[] 0 (.fresh 0 0 (!w.params.followText "set-order")) }).objs.size = s.heap.objs.size + 1 := Heap.size_push ..
        have hneI : l ≠ (s.heap.push { cls := .type "set", dict := none, data := .set #[] 0 (.fresh 0 0 (!w.params.followText "set-order")) }).objs.size := by
          rw [Heap.size_push]; exact Nat.ne_of_lt (Nat.lt_succ_of_lt hlS)
        have hSf : s.heap.objs.size ∉ [(s.heap.push { cls := .type "set", dict := none, data := .set #[] 0 (.fresh 0 0 (!w.params.followText "set-order")) }).objs.size, l] := by
          rw [Heap.size_push]; simp only [List.mem_cons, List.mem_singleton, List.not_mem_nil, or_false, not_or]
          exact ⟨Nat.ne_of_lt (Nat.lt_succ_self _), Nat.ne_of_gt hlS⟩
        have hval : ∀ (i : Nat) (v : Value), items[i]? = some v → ∃ p, ks[i]? = some p ∧ v = .ref p.1 := fun i v hv => by
          have q : items.toList[i]? = some v := by rw [Array.getElem?_toList]; exact hv
          rw [hit, List.getElem?_map] at q
          cases hq : ks[i]? with
          | none => rw [hq] at q; cases q
          | some p =>
            rw [hq] at q
            exact ⟨p, rfl, (Option.some.inj q).symm⟩
        have none_of : ∀ b, s.heap.objs.size ≤ b → s.heap.get? b = none := fun b hb => by
          cases q : s.heap.get? b with
          | none => rfl
          | some o => exact absurd (Nat.lt_of_lt_of_le (Heap.lt_size q) hb) (Nat.lt_irrefl _)
        refine set_update_tups ((Walks.tuple hh3 _ l hneI items).toS) s.heap.objs.size
          hSf ks hisz hfew hval s.heap hk (none_of _ (Nat.le_refl _)) (fun b hb => none_of b (by
            rw [List.mem_singleton.mp hb, Heap.size_push]
            exact Nat.le_succ _)) hu (items.size - 0) 0 _ (by omega) (Nat.zero_le _)
          ⟨⟨_, Heap.get?_push_size _ rfl, rfl, rfl⟩, (hl1.push _)⟩ (fun b o e => Heap.get?_push_of_some _ (Heap.get?_push_of_some _ e)) ?hS0 ?hR
        case hS0 =>
          have hget : ((s.heap.push { cls := .type "set", dict := none, data := .set #[] 0 (.fresh 0 0 (!w.params.followText "set-order")) }).push { cls := .type "tuple_iterator", data := .fields #[.ref l, .int 0 0] }).get? s.heap.objs.size
              = some { cls := .type "set", dict := none, data := .set #[] 0 (.fresh 0 0 (!w.params.followText "set-order")) } := Heap.get?_push_of_some _ hS
          exact ⟨[], #[], 0, _, setTR_fresh hget, Got.zero ks⟩
        case hR =>
          intro s' L es ep t hm hS' g' hkp
          obtain ⟨h', g2, d', tk', os'⟩ := s'
          have eg : g2 = s.gens := hm.gens
          have ed : d' = s.drawn := hm.drawn
          have eo : os' = s.os := hm.os
          subst eg; subst ed; subst eo
          show wpAny _ _ _ _ _ _
          refine wpAny_pure ?_
          show wpAny _ _ (ret Value.none) _ _ _
          rw [hisz] at g'
          exact wpAny_pure ⟨rfl, h', tk', L, es, ep, t, rfl, hS', g', hkp⟩

      · cases r₂ with
        | error e => exact hr₂
        | ok fl₂ =>
          cases fl₂ with
          | ret r =>
            obtain ⟨rfl, h', tk, L, es, ep, t, rfl, hS', g', hk'⟩ := hr₂
            repeat (any_goals (first | assumption | wp_step))
            exact h _ _ _ _ _ _ hS' g' hk'
          | _ => exact hr₂.elim
    | _ => exact hr.elim

end
end L2


/-! Mini: how many a set has. -/
namespace L2
open PySem PySem.Spec PyProof.Rows
/-- each once -/
theorem once_len {α : Type} [DecidableEq α] {l m : List α} (h : l.Nodup) (h' : m.Nodup) (e : ∀ a, a ∈ l ↔ a ∈ m) : l.length = m.length := ((List.perm_ext_iff_of_nodup h h').mpr e).length_eq
namespace Mi
theorem ddp_mem {α : Type} [DecidableEq α] : ∀ {l : List α} {a : α}, a ∈ ddp l ↔ a ∈ l
  | [], a => Iff.rfl
  | x :: l, a => by
    unfold ddp
    split
    · rename_i h
      rw [ddp_mem, List.mem_cons]
      exact ⟨.inr, fun q => q.elim (fun e => e ▸ h) id⟩
    · rw [List.mem_cons, List.mem_cons, ddp_mem]
theorem ddp_nodup {α : Type} [DecidableEq α] : ∀ (l : List α), (ddp l).Nodup
  | [] => List.nodup_nil
  | x :: l => by
    unfold ddp
    split
    · exact ddp_nodup l
    · rename_i h
      exact List.nodup_cons.mpr ⟨fun q => h (ddp_mem.mp q), ddp_nodup l⟩
theorem ddp_len {α : Type} [DecidableEq α] : ∀ (l : List α), (ddp l).length ≤ l.length
  | [] => Nat.le_refl _
  | x :: l => by
    unfold ddp
    split
    · exact Nat.le_succ_of_le (ddp_len l)
    · exact Nat.succ_le_succ (ddp_len l)
variable {X : Cx}
/-- len(set(xs)) -/
def tLenSet (K : PySem.W.Frag) (ta : TE) : TE := fun σ H Q => ta σ H fun x H1 =>
  (∃ (l : Addr) (ns : List Int), x = V.ref l ∧ (SqL K H1 l (ns.map V.int) ∨ SqT K H1 l (ns.map V.int)) ∧ ns.length < 64 ∧ Q (.int (ddp ns).length) H1) ∨
  (∃ (l : Addr) (ks : List (Addr × List Int)), x = V.ref l ∧ (SqL K H1 l (ks.map fun p => V.ref p.1) ∨ SqT K H1 l (ks.map fun p => V.ref p.1)) ∧ (∀ p ∈ ks, SqT K H1 p.1 (p.2.map V.int)) ∧ ks.length < 64 ∧ Q (.int (ddp (ks.map (·.2))).length) H1)
theorem pe_lenSet {a : Expr} {ta : TE} {p p2 q pos : Pos} (hc : X.calm = true) (hu : X.A.units + 64 < cLine) (hg : Gl X "len") (hm : X.mg "len" = none) (hg2 : Gl X "set") (hm2 : X.mg "set" = none) (ha : PE X a ta)
    (na : starEach [a] X.env = (false, eval a X.env) :: starEach [] X.env := by rfl) : PE X (.Call (.Name "len" p) [.Call (.Name "set" p2) [a] [] q] [] pos) (tLenSet X.K ta) := by
  refine ⟨fun pins s σ H Q I h => ?_⟩
  refine Call_ (ld_blt I hg hm PySem.boot_len ?_)
  refine PyProof.Rows.callWith_builtin1 (PyProof.Rows.args_cons ?_ rfl) rfl rfl
  refine Call_ (ld_blt I hg2 hm2 PyProof.Rows.boot_set ?_)
  refine PyProof.Rows.callWith_type1 (PyProof.Rows.args_cons (thn (ha.run pins s σ H _ I h) fun v s1 ⟨x, H1, I1, r1, q1⟩ => PyProof.Rows.args_nil ?_) na) na rfl
  have hInts : ∀ (ns : List Int) (c : Nat) (h' : Heap) (tk : Nat) (l : Addr), ns.length < 64 → SetR X.w h' s1.heap.objs.size (fun j => decide (j ∈ ns)) c → (∀ b o, s1.heap.get? b = some o → h'.get? b = some o) → Q (.int (ddp ns).length) H1 → 
      wpAny (model X.prog X.w) X.A (call (.builtin "len") [.ref s1.heap.objs.size]) (EP X pins σ Q) X.xe { s1 with heap := h', toks := tk } := fun ns c h' tk l h64 hS hk q1 => by
    obtain ⟨o, es, ep, t, ho, hex, hd, g, nd, hm, hb, hf, hn, _⟩ := hS
    have I2 : Inv X pins σ H1 { s1 with heap := h', toks := tk } := I1.kept fun b o e => hk b o e
    have e1 : es.size = (ddp ns).length := by
      rw [← Array.length_toList, ← List.length_map (f := keyOf)]
      exact once_len nd (ddp_nodup ns) fun k => by rw [← hm k, ddp_mem, decide_eq_true_eq]
    have := ddp_len ns
    exact call_len_set ho hex hd hf (by omega) ⟨.int (ddp ns).length, H1, I2.tok _, ⟨_, by rw [e1]⟩, q1⟩
  have hTups : ∀ (ks : List (Addr × List Int)) (h' : Heap) (tk : Nat) (L : List (Addr × List Int)) (es : Array (Int × Value)) (ep : Nat) (t : SetTable), ks.length < 64 → SetTR X.prog X.w h' s1.heap.objs.size L es ep t → Got ks ks.length L →
      (∀ b o, s1.heap.get? b = some o → h'.get? b = some o) → Q (.int (ddp (ks.map (·.2))).length) H1 →
      wpAny (model X.prog X.w) X.A (call (.builtin "len") [.ref s1.heap.objs.size]) (EP X pins σ Q) X.xe { s1 with heap := h', toks := tk } := fun ks h' tk L es ep t h64 R g hk q1 => by
    obtain ⟨o, ho, hex, hd⟩ := R.ob
    have I2 : Inv X pins σ H1 { s1 with heap := h', toks := tk } := I1.kept fun b o e => hk b o e
    have e1 : es.size = (ddp (ks.map (·.2))).length := by
      rw [SetTR.size (s := { s1 with heap := h', toks := tk }) R, ← List.length_map (f := (·.2)) (as := L)]
      refine once_len R.nd (ddp_nodup _) fun k => ?_
      rw [ddp_mem]
      have tk : ks.take ks.length = ks := List.take_length
      constructor
      · intro hk
        obtain ⟨p, hp, e⟩ := List.mem_map.mp hk
        have := g.sub p hp
        rw [tk] at this
        exact List.mem_map.mpr ⟨p, this, e⟩
      · intro hk
        obtain ⟨p, hp, e⟩ := List.mem_map.mp hk
        rw [← e]
        exact g.all p (by rw [tk]; exact hp)
    have := ddp_len (ks.map (·.2))
    rw [List.length_map] at this
    exact call_len_set ho hex hd (SetTR.fits (s := { s1 with heap := h', toks := tk }) R) (by omega) ⟨.int (ddp (ks.map (·.2))).length, H1, I2.tok _, ⟨_, by rw [e1]⟩, q1⟩
  have sb : scanBound = scanBound := rfl
  rcases q1 with ⟨l, ns, rfl, hq, h1, q1⟩ | ⟨l, ks, rfl, hq, hk, h1, q1⟩
  · cases r1
    rcases hq with hq | hq
    · obtain ⟨its, r, pl, hz⟩ := I1.list hq
      exact call_set_listI ns (I1.ok.hd hc) pl.isList (by simpa using r.ints) (by unfold scanBound; omega) fun h' tk c hS hl hk => PyProof.Rows.args_nil (hInts ns c h' tk l h1 hS hk q1)
    · obtain ⟨its, r, pl, hz⟩ := I1.tuple hq
      exact call_set_tupI ns (I1.ok.hd hc) pl (by simpa using r.ints) (by unfold scanBound; omega) fun h' tk c hS hl hk => PyProof.Rows.args_nil (hInts ns c h' tk l h1 hS hk q1)
  · cases r1
    rcases hq with hq | hq
    · obtain ⟨its, r, pl, hz⟩ := I1.list hq
      exact call_set_tups (P := X.prog) (w := X.w) ks (I1.ok.hd hc) pl.isList (by simpa using refs_of_vals r) (fun p hp => I1.isT (hk p hp)) h1 (by omega) fun h' tk L es ep t R g k => PyProof.Rows.args_nil (hTups ks h' tk L es ep t h1 R g k q1)
    · obtain ⟨its, r, pl, hz⟩ := I1.tuple hq
      exact call_set_tupsT (P := X.prog) (w := X.w) ks (I1.ok.hd hc) pl (by simpa using refs_of_vals r) (fun p hp => I1.isT (hk p hp)) h1 (by omega) fun h' tk L es ep t R g k => PyProof.Rows.args_nil (hTups ks h' tk L es ep t h1 R g k q1)
end Mi
end L2

/-! Mini: sorted(set(xs)), len(set(xs)). -/
namespace L2
namespace Mi
open PySem PySem.Spec PyProof.Rows
variable {G : Sig} {K : KC} {k : Nat}
theorem tupsOf_ok {φ ψ : List Addr} {H : Hp} : ∀ {ts : List T} {ns : List (List Int)} {vs : List V}, tupsOf ts = some ns → RTs K φ ψ H ts vs →
    ∃ ks : List (Addr × List Int), vs = ks.map (fun p => V.ref p.1) ∧ ks.map (·.2) = ns ∧ ∀ p ∈ ks, SqT K.K H p.1 (p.2.map V.int)
  | [], ns, vs, h, r => by
    cases h; cases r
    exact ⟨[], rfl, rfl, fun _ h => by cases h⟩
  | .tup xs :: ts, ns, vs, h, r => by
    cases r with | cons r1 r2 =>
    unfold tupsOf at h
    obtain ⟨ms, h1, h'⟩ := Option.bind_eq_some_iff.mp h
    obtain ⟨ns', h2, h''⟩ := Option.map_eq_some_iff.mp h'
    obtain ⟨ks, e1, e2, e3⟩ := tupsOf_ok h2 r2
    cases r1 with | tup f r3 =>
    obtain rfl := intsOf_ok h1
    obtain rfl := r3.ints
    rename_i a
    refine ⟨(a, ms) :: ks, by rw [e1]; rfl, by rw [List.map_cons, e2]; exact h'', fun p hp => ?_⟩
    rcases List.mem_cons.mp hp with rfl | hp
    · exact f.sq
    · exact e3 p hp
  | .non :: ts, ns, vs, h, r => by simp [tupsOf] at h
  | .bl _ :: ts, ns, vs, h, r => by simp [tupsOf] at h
  | .int _ :: ts, ns, vs, h, r => by simp [tupsOf] at h
  | .str _ :: ts, ns, vs, h, r => by simp [tupsOf] at h
  | .fl _ :: ts, ns, vs, h, r => by simp [tupsOf] at h
  | .fd _ _ _ :: ts, ns, vs, h, r => by simp [tupsOf] at h
  | .sc _ :: ts, ns, vs, h, r => by simp [tupsOf] at h
  | .obj _ :: ts, ns, vs, h, r => by simp [tupsOf] at h
theorem lt_nodup {l : List Int} (h : l.Pairwise (· < ·)) : l.Nodup := h.imp fun h => by omega
theorem s_sset {a : ME} (ha : SE G K k a) : SE G K k (.sset a) := by
  intro N sc ow X e g h
  unfold okE at h
  split at h <;> (try cases h) <;> rename_i q <;> cases q
  simp only [Bool.and_eq_true, decide_eq_true_eq] at h
  obtain ⟨⟨⟨⟨⟨rfl, h0⟩, rfl⟩, h1⟩, h2⟩, h3⟩ := h
  obtain ⟨hg, hd⟩ := gl_of g h0
  obtain ⟨hg2, hd2⟩ := gl_of g h1
  refine se_of g.hK (PE.imp (pe_callB (cr_sortedSet g.hc) hg (gc_blt g (by decide)) (by decide) (pa_cons (pe_callTy (cr_setI g.hc) hg2 (gc_blt g (by decide)) (by decide) (pa_cons (ha N sc ow X _ g h3).1 pa_nil (star_cons h2)) (by decide) hd2 (star_cons h2) rfl) pa_nil rfl) (by decide) hd rfl rfl)
    fun σ H Q ⟨φ, ψ, env, M, t, M', re, rm, ev, ok⟩ => ?_) rfl
  rw [evE] at ev
  obtain ⟨p, e1, ev⟩ := bnd ev
  obtain ⟨ts, e2, ev⟩ := bnd ev
  obtain ⟨ns, e3, ev⟩ := bnd ev
  split at ev
  case isFalse => cases ev
  rename_i h64
  cases ev
  refine ⟨φ, ψ, env, M, p.1, p.2, re, rm, e1, fun φ1 H1 v x1 rm1 r1 => ?_⟩
  obtain ⟨l, vs, rfl, hr, hs⟩ := sof_ok rm1 r1 e2
  obtain rfl := intsOf_ok e3
  obtain rfl := hr.ints
  have hs' : SqL X.K H1 l (ns.map V.int) ∨ SqT X.K H1 l (ns.map V.int) := by
    rw [← g.hK]
    rcases hs with ⟨h, _⟩ | ⟨h, _⟩
    · exact .inl h
    · exact .inr h
  refine ⟨l, ns, rfl, hs', by unfold scanBound; omega, fun p' c hp hc => ?_⟩
  refine ⟨p', (fun j => decide (j ∈ ns)), c, rfl, upd_same, by omega, fun ns' q hlt hm hl hq => ?_⟩
  have e : ns' = sortI (ddp ns) := by
    refine up_same ?_ (hlt.imp fun h => Int.le_of_lt h) (sortI_up _)
    refine List.Perm.trans ?_ (sortI_perm _).symm
    refine (List.perm_ext_iff_of_nodup (lt_nodup hlt) (ddp_nodup ns)).mpr fun j => ?_
    rw [hm, ddp_mem, decide_eq_true_eq]
  subst e
  have x2 : Ext φ1 H1 φ1 (upd H1 p' (SetO X.w p' (fun j => decide (j ∈ ns)) c)) := .new hp (rm1.fresh hp)
  exact ((ok.ext x1).ext x2).newL (tr := false) (rm1.new hp) (RTs.ints' _) hq
theorem s_lset {a : ME} (ha : SE G K k a) : SE G K k (.lset a) := by
  intro N sc ow X e g h
  unfold okE at h
  split at h <;> (try cases h) <;> rename_i q <;> cases q
  simp only [Bool.and_eq_true, decide_eq_true_eq] at h
  obtain ⟨⟨⟨⟨⟨rfl, h0⟩, rfl⟩, h1⟩, h2⟩, h3⟩ := h
  obtain ⟨hg, hd⟩ := gl_of g h0
  obtain ⟨hg2, hd2⟩ := gl_of g h1
  refine se_of g.hK (PE.imp (pe_lenSet g.hc (by have := g.hu; omega) hg (gc_blt g (by decide)) hg2 (gc_blt g (by decide)) (ha N sc ow X _ g h3).1 (star_cons h2))
    fun σ H Q ⟨φ, ψ, env, M, t, M', re, rm, ev, ok⟩ => ?_) rfl
  rw [evE] at ev
  obtain ⟨p, e1, ev⟩ := bnd ev
  obtain ⟨ts, e2, ev⟩ := bnd ev
  split at ev
  case isFalse => cases ev
  rename_i h64
  refine ⟨φ, ψ, env, M, p.1, p.2, re, rm, e1, fun φ1 H1 v x1 rm1 r1 => ?_⟩
  obtain ⟨l, vs, rfl, hr, hs⟩ := sof_ok rm1 r1 e2
  have hs' : SqL X.K H1 l vs ∨ SqT X.K H1 l vs := by
    rw [← g.hK]
    rcases hs with ⟨h, _⟩ | ⟨h, _⟩
    · exact .inl h
    · exact .inr h
  split at ev
  · rename_i ns e3
    cases ev
    obtain rfl := intsOf_ok e3
    obtain rfl := hr.ints
    exact .inl ⟨l, ns, rfl, hs', by simpa using h64, (ok.ext x1).here rm1 (.int _)⟩
  · obtain ⟨ks, e3, ev⟩ := mpd ev
    cases ev
    obtain ⟨ks', rfl, e4, e5⟩ := tupsOf_ok e3 hr
    have hl := hr.length
    rw [List.length_map] at hl
    refine .inr ⟨l, ks', rfl, hs', fun p hp => by rw [← g.hK]; exact e5 p hp, by omega, ?_⟩
    rw [e4]
    exact (ok.ext x1).here rm1 (.int _)
end Mi
end L2

/-! Mini: ranges as values, displayed dicts, d.get, d.setdefault. -/
namespace L2
namespace Mi
open PySem PySem.Spec PyProof.Rows
variable {G : Sig} {K : KC} {k : Nat}
theorem rts_rg {φ ψ : List Addr} {H : Hp} (a b : Int) : RTs K φ ψ H (rngL a b) (rgV a b) := by
  unfold rngL rgV
  generalize List.range (b - a).toNat = l
  induction l with
  | nil => exact .nil
  | cons x l ih => exact .cons (.int _) ih
theorem rgok {j : Int} (h : 0 ≤ j ∧ j ≤ 16777216) : RgOk 0 j := ⟨by omega, by omega, by omega, by omega, by omega⟩
theorem s_rtup {a : ME} (ha : SE G K k a) : SE G K k (.rtup a) := by
  intro N sc ow X e g h
  unfold okE at h
  split at h <;> (try cases h) <;> rename_i q <;> cases q
  simp only [Bool.and_eq_true, decide_eq_true_eq] at h
  obtain ⟨⟨⟨⟨⟨rfl, h0⟩, rfl⟩, h1⟩, h2⟩, h3⟩ := h
  obtain ⟨hg, hd⟩ := gl_of g h0
  obtain ⟨hg2, hd2⟩ := gl_of g h1
  refine se_of g.hK (PE.imp (pe_tupRg g.hc hg (gc_blt g (by decide)) (prg_1 hg2 (gc_blt g (by decide)) (ha N sc ow X _ g h3).1 (star_cons h2)) (star_cons rfl)) fun σ H Q ⟨φ, ψ, env, M, t, M', re, rm, ev, ok⟩ => ?_) rfl
  rw [evE] at ev
  obtain ⟨p, e1, ev⟩ := bnd ev
  split at ev
  case h_2 => cases ev
  rename_i j hj
  split at ev
  case isFalse => cases ev
  rename_i hb
  cases ev
  refine ⟨φ, ψ, env, M, p.1, p.2, re, rm, e1, fun φ1 H1 v x1 rm1 r1 => ?_⟩
  rw [hj] at r1
  cases r1
  exact ⟨j, rfl, rgok hb, fun q hq => (ok.ext x1).newTup rm1 (rts_rg 0 j) hq⟩
theorem s_rlst {tr : Bool} {a : ME} (ha : SE G K k a) : SE G K k (.rlst tr a) := by
  intro N sc ow X e g h
  unfold okE at h
  split at h <;> (try cases h) <;> rename_i q <;> cases q
  simp only [Bool.and_eq_true, decide_eq_true_eq] at h
  obtain ⟨⟨⟨⟨⟨rfl, h0⟩, rfl⟩, h1⟩, h2⟩, h3⟩ := h
  obtain ⟨hg, hd⟩ := gl_of g h0
  obtain ⟨hg2, hd2⟩ := gl_of g h1
  refine se_of g.hK (PE.imp (pe_listRg g.hc hg (gc_blt g (by decide)) (prg_1 hg2 (gc_blt g (by decide)) (ha N sc ow X _ g h3).1 (star_cons h2)) (star_cons rfl)) fun σ H Q ⟨φ, ψ, env, M, t, M', re, rm, ev, ok⟩ => ?_) rfl
  rw [evE] at ev
  obtain ⟨p, e1, ev⟩ := bnd ev
  split at ev
  case h_2 => cases ev
  rename_i j hj
  split at ev
  case isFalse => cases ev
  rename_i hb
  have ev := Option.some.inj ev
  refine ⟨φ, ψ, env, M, p.1, p.2, re, rm, e1, fun φ1 H1 v x1 rm1 r1 => ?_⟩
  rw [hj] at r1
  cases r1
  have ok2 := ok.ext x1
  rw [show t = (t, M').1 from rfl, show M' = (t, M').2 from rfl, ← ev] at ok2
  exact ⟨j, rfl, rgok hb, fun q hq => ok2.newL rm1 (rts_rg 0 j) hq⟩
/-! ### d.get(k, x), d.setdefault(k, x) -/
theorem m2_of {X : Cx} {o e f : Expr} {m : Str} {apos cpos : Pos} (h0 : notSup o = true) (h1 : notStar e = true) (h2 : notStar f = true) (h3 : (apos.endLine == cpos.line) = true) : M2 X o m apos e f cpos := by
  have hs : [e, f].all notStar = true := by simp [h1, h2]
  refine ⟨sup_base h0, back_few hs (by show 2 < 29; decide), h3, ?_⟩
  rw [star_cons h1, star_cons h2]; rfl
theorem isD_of {φ ψ : List Addr} {H : Hp} {M : Mem} (r : RM K φ ψ H M) {t : T} {v : V} {z : Bool × List T × List T} (h : RT K φ ψ H t v) (e : dof M t = some z) : ∃ a, v = .ref a ∧ IsD H a := by
  obtain ⟨tk, ks, ts⟩ := z
  obtain ⟨a, rfl, ⟨_, kvs, h1, _⟩ | ⟨_, _, kvs, h1, _⟩⟩ := dof_ok r h e
  · exact ⟨a, rfl, .inl ⟨kvs, .inl h1⟩⟩
  · exact ⟨a, rfl, .inr ⟨kvs, .inl h1⟩⟩
theorem s_dget {d x y : ME} (hd : SE G K k d) (hx : SE G K k x) (hy : SE G K k y) : SE G K k (.dget d x y) := by
  intro N sc ow X e g h
  unfold okE at h
  split at h <;> (try cases h) <;> rename_i q <;> cases q
  simp only [Bool.and_eq_true, decide_eq_true_eq] at h
  obtain ⟨⟨⟨⟨⟨⟨⟨rfl, h0⟩, h1⟩, h2⟩, h3⟩, h4⟩, h5⟩, h6⟩ := h
  refine se_of g.hK (PE.imp (pe_dget2 (by have := g.hu; omega) (hd N sc ow X _ g h4).1 (hx N sc ow X _ g h5).1 (hy N sc ow X _ g h6).1 (m2_of h0 h1 h2 h3)) fun σ H Q ⟨φ, ψ, env, M, t, M', re, rm, ev, ok⟩ => ?_) rfl
  rw [evE] at ev
  obtain ⟨p, e1, ev⟩ := bnd ev
  obtain ⟨z, e0, ev⟩ := bnd ev
  obtain ⟨q, e2, ev⟩ := bnd ev
  obtain ⟨r, e3, ev⟩ := bnd ev
  obtain ⟨w, e4, ev⟩ := bnd ev
  obtain ⟨tk, ks, ts⟩ := w
  simp only at ev
  split at ev
  case isFalse => cases ev
  rename_i hk
  cases ev
  refine ⟨φ, ψ, env, M, p.1, p.2, re, rm, e1, fun φ1 H1 v x1 rm1 r1 => ?_⟩
  obtain ⟨a, rfl, hD⟩ := isD_of rm1 r1 e0
  refine ⟨a, rfl, hD, φ1, ψ, env, p.2, q.1, q.2, re.ext x1, rm1, e2, fun φ2 H2 v2 x2 rm2 r2 => ⟨φ2, ψ, env, q.2, r.1, r.2, (re.ext x1).ext x2, rm2, e3, fun φ3 H3 v3 x3 rm3 r3 => ?_⟩⟩
  obtain ⟨a', o, ha, hg, hs, hv⟩ := lkp_ok rm3 (r1.to (x2.trans x3)) (r2.to x3) e4 hk
  cases ha
  refine ⟨o, hg, ?_⟩
  have ok3 := ok.ext (x1.trans (x2.trans x3))
  cases hl : lkp ks ts q.1 with
  | none =>
    rw [hl] at hs ok3
    cases o with
    | some _ => cases hs
    | none => exact ok3.here rm3 r3
  | some u =>
    rw [hl] at ok3
    obtain ⟨w, rfl, hw⟩ := hv u hl
    exact ok3.here rm3 hw
theorem s_dsd {d x y : ME} (hd : SE G K k d) (hx : SE G K k x) (hy : SE G K k y) : SE G K k (.dsd d x y) := by
  intro N sc ow X e g h
  unfold okE at h
  split at h <;> (try cases h) <;> rename_i q <;> cases q
  simp only [Bool.and_eq_true, decide_eq_true_eq] at h
  obtain ⟨⟨⟨⟨⟨⟨⟨rfl, h0⟩, h1⟩, h2⟩, h3⟩, h4⟩, h5⟩, h6⟩ := h
  refine se_of g.hK (PE.imp (pe_dsetd (hd N sc ow X _ g h4).1 (hx N sc ow X _ g h5).1 (hy N sc ow X _ g h6).1 (m2_of h0 h1 h2 h3)) fun σ H Q ⟨φ, ψ, env, M, t, M', re, rm, ev, ok⟩ => ?_) rfl
  rw [evE] at ev
  obtain ⟨p, e1, ev⟩ := bnd ev
  obtain ⟨z, e0, ev⟩ := bnd ev
  obtain ⟨q, e2, ev⟩ := bnd ev
  obtain ⟨r, e3, ev⟩ := bnd ev
  split at ev
  case h_2 => cases ev
  rename_i i hi
  split at ev
  case h_2 => cases ev
  rename_i ks ts hM
  split at ev
  case isFalse => cases ev
  rename_i hk
  obtain ⟨hk, hl⟩ := hk
  refine ⟨φ, ψ, env, M, p.1, p.2, re, rm, e1, fun φ1 H1 v x1 rm1 r1 => ?_⟩
  obtain ⟨a, rfl, hD⟩ := isD_of rm1 r1 e0
  refine ⟨a, rfl, hD, φ1, ψ, env, p.2, q.1, q.2, re.ext x1, rm1, e2, fun φ2 H2 v2 x2 rm2 r2 => ⟨φ2, ψ, env, q.2, r.1, r.2, (re.ext x1).ext x2, rm2, e3, fun φ3 H3 v3 x3 rm3 r3 => ?_⟩⟩
  have r1' := r1.to (x2.trans x3)
  rw [hi] at r1'
  cases r1' with | obj ha =>
  have r2' := r2.to x3
  rcases rm3.at_ _ _ _ ha hM with ⟨_, kvs, h1, rfl, h3⟩ | ⟨h0, _⟩
  rotate_left
  · cases h0
  obtain ⟨key, ek, rfl⟩ := key_of_isKey hk r2'
  rw [List.length_map] at hl
  rw [ek] at ev
  obtain ⟨q1, q2⟩ := lkp_dK key h3
  refine ⟨kvs, key, h1, rfl, by rw [szl]; exact hl, fun v hv => ?_, fun hn => ?_⟩
  · cases hlk : lkp (kvs.map fun p => keyT p.1) ts (keyT key) with
    | none => rw [hlk, hv] at q2; cases q2
    | some u =>
      obtain ⟨w, ew, hw⟩ := q1 u hlk
      rw [hv] at ew
      cases ew
      rw [hlk] at ev
      cases ev
      exact (ok.ext (x1.trans (x2.trans x3))).here rm3 hw
  · cases hlk : lkp (kvs.map fun p => keyT p.1) ts (keyT key) with
    | some u => rw [hlk, hn] at q2; cases q2
    | none =>
      rw [hlk] at ev
      cases ev
      obtain ⟨p1, p2⟩ := putD_ok (fun a b => keyT_inj) key r3 h3
      have x' : Ext φ3 H3 φ3 (upd H3 a (.dK (putK kvs key v3))) := .write ha
      exact ok _ _ _ (x1.trans (x2.trans (x3.trans x'))) (rm3.write ha (.inl ⟨rfl, _, upd_same, p1, p2.to x'⟩)) (r3.to x')
/-! ### displayed dicts -/
def SKV (G : Sig) (K : KC) (k : Nat) (ms : MEs) : Prop := ∀ (N : List Str) (sc : Scope) (ow : List Str) (X : Cx) (pos : Pos) (ks : List (Option Expr)) (vs : List Expr), GC G K k N sc ow X → okKV N sc ms ks vs = true →
  ks.all (·.isSome) = true ∧ ks.length = vs.length ∧ ∃ trs, PPs X pos ks vs trs ∧ ∀ (σ : L2.St) (H : Hp) (Q : List (V × V) → Hp → Prop) (φ ψ : List Addr) (env : En) (M : Mem) (ts : List T) (M' : Mem), RE K φ ψ H env σ → RM K φ ψ H M → evEs G ms env M = some (ts, M') → altK ts = true →
    (∀ φ' H' (kvs : List (Key × V)), Ext φ H φ' H' → RM K φ' ψ H' M' → kvs.length = ks.length → (∃ us, ts = us ∧ ∀ (kv0 : List (Key × V)) (ts0 : List T), RTs K φ' ψ H' ts0 (kv0.map (·.2)) →
      (dcPut us (kv0.map (fun p => keyT p.1), ts0)).1 = (mergeK kv0 kvs).map (fun p => keyT p.1) ∧ RTs K φ' ψ H' (dcPut us (kv0.map (fun p => keyT p.1), ts0)).2 ((mergeK kv0 kvs).map (·.2))) → Q (kvs.map fun kv => (kV kv.1, kv.2)) H') → tPairs trs σ H Q
theorem s_kv0 : SKV G K k .nil := by
  intro N sc ow X pos ks vs g h
  cases ks with
  | cons _ _ => simp [okKV] at h
  | nil =>
    cases vs with
    | cons _ _ => simp [okKV] at h
    | nil =>
      refine ⟨rfl, rfl, [], pps_nil, fun σ H Q φ ψ env M ts M' re rm ev al ok => ?_⟩
      rw [evEs] at ev
      cases ev
      exact ok φ H [] .refl rm rfl ⟨[], rfl, fun kv0 ts0 h => ⟨rfl, h⟩⟩
theorem s_kv1 {a : ME} : SKV G K k (.cons a .nil) := by
  intro N sc ow X pos ks vs g h
  simp [okKV] at h
theorem s_kv2 {a b : ME} {r : MEs} (ha : SE G K k a) (hb : SE G K k b) (hr : SKV G K k r) : SKV G K k (.cons a (.cons b r)) := by
  intro N sc ow X pos ks vs g h
  cases ks with
  | nil => simp [okKV] at h
  | cons x ks =>
    cases x with
    | none => simp [okKV] at h
    | some x =>
      cases vs with
      | nil => simp [okKV] at h
      | cons y vs =>
        simp only [okKV, Bool.and_eq_true] at h
        obtain ⟨⟨h1, h2⟩, h3⟩ := h
        obtain ⟨al, ll, trs, pp, rd⟩ := hr N sc ow X pos ks vs g h3
        refine ⟨by simpa using al, by simp [ll], (tE G K a, tE G K b) :: trs, pps_cons (ha N sc ow X _ g h1).1 (hb N sc ow X _ g h2).1 pp, fun σ H Q φ ψ env M ts M' re rm ev alt ok => ?_⟩
        rw [evEs] at ev
        obtain ⟨p, e1, ev⟩ := bnd ev
        obtain ⟨q, e2, ev⟩ := mpd ev
        rw [evEs] at e2
        obtain ⟨p2, e3, e2⟩ := bnd e2
        obtain ⟨q2, e4, e2⟩ := mpd e2
        subst e2
        cases ev
        simp only [altK, Bool.and_eq_true] at alt
        refine ⟨φ, ψ, env, M, p.1, p.2, re, rm, e1, fun φ1 H1 v1 x1 rm1 r1 => ⟨φ1, ψ, env, p.2, p2.1, p2.2, re.ext x1, rm1, e3, fun φ2 H2 v2 x2 rm2 r2 => ?_⟩⟩
        obtain ⟨key, ek, rfl⟩ := key_of_isKey alt.1 r1
        refine rd σ H2 _ φ2 ψ env p2.2 q2.1 q2.2 ((re.ext x1).ext x2) rm2 e4 alt.2 fun φ3 H3 kvs x3 rm3 hl ⟨us, eu, hm⟩ => ?_
        subst eu
        refine ok φ3 H3 ((key, v2) :: kvs) (x1.trans (x2.trans x3)) rm3 (by simp [hl]) ⟨_, rfl, fun kv0 ts0 h0 => ?_⟩
        obtain ⟨p1, p3⟩ := putD_ok (fun a b => keyT_inj) key (r2.to x3) h0
        have := hm (putK kv0 key v2) _ p3
        rw [← p1] at this
        rw [ek]
        exact this
theorem s_dlit {es : MEs} (hs : SKV G K k es) : SE G K k (.dlit es) := by
  intro N sc ow X e g h
  unfold okE at h
  split at h <;> (try cases h) <;> rename_i q <;> cases q
  simp only [Bool.and_eq_true, decide_eq_true_eq, Bool.not_eq_true', List.isEmpty_eq_false_iff] at h
  obtain ⟨⟨h0, h1⟩, h2⟩ := h
  rename_i ks vs pos
  obtain ⟨al, ll, trs, pp, rd⟩ := hs N sc ow X pos ks vs g h2
  refine se_of g.hK (PE.imp (pe_disp pp al ll h0 h1) fun σ H Q ⟨φ, ψ, env, M, t, M', re, rm, ev, ok⟩ p hp => ?_) rfl
  rw [evE] at ev
  obtain ⟨r, e1, ev⟩ := bnd ev
  split at ev
  case h_2 => cases ev
  rename_i hM
  split at ev
  case isFalse => cases ev
  rename_i hk
  cases ev
  have x0 : Ext φ H (φ ++ [p]) (upd H p (.dK [])) := .push hp
  have hi : (φ ++ [p])[M.length]? = some p := by rw [← rm.len, List.getElem?_append_right (Nat.le_refl _)]; simp
  have rm0 : RM K (φ ++ [p]) ψ (upd H p (.dK [])) (M ++ [.dic false [] []]) := rm.push hp (.inl ⟨rfl, [], upd_same, rfl, .nil⟩)
  refine rd σ _ _ (φ ++ [p]) ψ env _ r.1 r.2 (re.ext x0) rm0 e1 hk fun φ1 H1 kvs x1 rm1 hl ⟨us, eu, hm⟩ => ?_
  subst eu
  have ha := x1.get hi
  rcases rm1.at_ _ _ _ ha hM with ⟨_, kv, h3, h4, h5⟩ | ⟨h3, _⟩
  rotate_left
  · cases h3
  have hkv : kv = [] := by
    cases kv with
    | nil => rfl
    | cons _ _ => cases h4
  subst hkv
  refine ⟨h3, kvs, rfl, by omega, ?_⟩
  have x2 : Ext φ1 H1 φ1 (upd H1 p (.dK (mergeK [] kvs))) := .write ha
  obtain ⟨q1, q2⟩ := hm [] [] .nil
  exact ok _ _ _ (x0.trans (x1.trans x2)) (rm1.write ha (.inl ⟨rfl, _, upd_same, q1, q2.to x2⟩)) (.obj (x2.get ha))
end Mi
end L2

/-! A key that is cut: the call of «lambda x: x[:2]», raw. -/
namespace L2
namespace Mi
open PySem PySem.Spec PyProof.Rows PySem.W
/-- the parameters, the body, the scope of a lambda x: x[:2] -/
def CutL (params : Arguments) (body : Expr) (scope : Scope) : Prop :=
  ∃ (ap p1 p2 p3 p4 : Pos) (kd : Nat), params = ⟨[], [⟨"member", none, ap⟩], none, [], [], none, []⟩ ∧ body = .Subscript (.Name "member" p1) (.Slice none (some (.Constant (.int 2) kd p2)) none p3) p4 ∧
    scope.kind = .function ∧ scope.isCoroutine = false ∧ scope.isGenerator = false ∧ scope.names = [(("member" : Str), NameKind.local)]
section
variable {prog : Program} {w : World} {A : Around} {s : Shared}
theorem key_cut {f c' a : Addr} {qual : Str} {params : Arguments} {body : Expr} {scope : Scope} {cl : List (Str × Addr)} {pm ctv : Value} {items : Array Value} {x y : Int} {t1 t2 : Tok} {r : List Value} (L : CutL params body scope)
    (hf : s.heap.get? f = some (kla_obj "<lambda>" qual params body scope cl pm c' ctv)) (hcd : s.heap.CodeRec (.ref c') qual) (lim : s.heap.NoLimit) (hd : A.depth < recursionLimit)
    (ht : IsTup s.heap a items) (hi : items.toList = .int x t1 :: .int y t2 :: r) (hr : r ≠ []) (hz : items.size ≤ sizeLine) :
    wpAny (model prog w) A (call (.ref f) [.ref a]) (KeyPure (.tuple [.int x, .int y]) s) (fun _ _ => False) s := by
  obtain ⟨ap, p1, p2, p3, p4, kd, rfl, rfl, k1, k2, k3, k4⟩ := L
  refine wpAny_call (kla_callFunE hd hf rfl k2 k3 rfl hcd ?_)
  have hb : bindArgs (kla_fn "<lambda>" qual ⟨[], [⟨"member", none, ap⟩], none, [], [], none, []⟩ (.Subscript (.Name "member" p1) (.Slice none (some (.Constant (.int 2) kd p2)) none p3) p4) scope cl pm (.ref c') ctv) ⟨[.ref a], []⟩ = pure [(("member" : Str), Value.ref a)] := rfl
  rw [hb]
  refine wpAny_pure (wpAny_newFunctionEnv (fun y hy => ?_) (fun y hy => ?_) (fun h₁ hns hsb => ⟨lim.fresh _ hsb, ?_⟩) k1)
  · have hy : y ∈ scope.names := hy
    rw [k4, List.mem_singleton] at hy; rw [hy]; exact fun e => nomatch e
  · rw [List.mem_singleton] at hy
    rw [hy]
    show scope.names.lookup _ = _
    rw [k4]; rfl
  have kp : ∀ b o, s.heap.get? b = some o → h₁.get? b = some o := fun b o e => hsb.extBut b o (Nat.ne_of_lt (Heap.lt_size e)) (Heap.get?_push_of_some _ e)
  refine kla_codeExpr ?_
  refine Subscript_ (wpAny_Name (wpAny_loadName_local k1 ?_ hns rfl ?_))
  · show scope.names.lookup _ = _
    rw [k4]; rfl
  refine wpAny_Slice ?_
  refine evalPart_none_step ?_
  refine evalPart_some_step ?_
  refine wpAny_Constant_int ?_
  refine evalPart_none_step ?_
  have ht1 : IsTup h₁ a items := let ⟨o, e, r⟩ := ht; ⟨o, kp _ _ e, r⟩
  generalize s.toks + List.length [(("member" : Str), Value.ref a)] = tk
  have hz2 : items.size = r.length + 2 := by rw [← Array.length_toList, hi]; rfl
  have r1 : 1 ≤ r.length := List.length_pos_iff.mpr hr
  have ht2 : IsTup (h₁.push { cls := .type "slice", data := .fields #[.none, .int 2 tk, .none] }) a items := let ⟨o, e, q⟩ := ht1; ⟨o, Heap.get?_push_of_some _ e, q⟩
  have s1 : HT.sIx items.size 0 none = 0 := rfl
  have s2 : HT.sIx items.size items.size (some 2) = 2 := by
    have := HT.sIx_nat items.size items.size 2
    rw [show (some ((2 : Nat) : Int)) = some (2 : Int) from rfl] at this
    rw [this]; omega
  refine PyProof.Rows.tail_any (ops := [.ref h₁.objs.size, .ref a]) ht2.typeIs slot_tuple_getitem.lookup (HT.getItem_tuple_cut (lo := none) (hi := some 2) ht2 (Heap.IsSliceOf.new ..) .none (.int 2 tk) (fun z => ?_) ?_ hz) (by with_unfolding_all rfl)
  · rw [s2] at z; omega
  rw [s1, s2, hi]
  refine ⟨_, _, rfl, fun b o e => Heap.get?_push_of_some _ (Heap.get?_push_of_some _ (kp b o e)), ?_⟩
  exact .tuple (Heap.get?_push_size _ rfl) rfl rfl (.cons (.int x t1) (.cons (.int y t2) .nil))
end
end Mi
end L2

/-! Mini: sorted by a key that is cut (a lambda). -/
namespace L2
namespace Mi
open PySem PySem.Spec PyProof.Rows PySem.W
theorem cutC_ok {params : Arguments} {body : Expr} {scope : Scope} (h : cutC params body scope = true) : CutL params body scope := by
  unfold cutC at h
  split at h
  · rename_i p ap p' p1 k kd p2 p3 p4 sc
    simp only [Bool.and_eq_true, decide_eq_true_eq, Bool.not_eq_true'] at h
    obtain ⟨⟨⟨⟨⟨⟨h1, h2⟩, h3⟩, h4⟩, h5⟩, h6⟩, h7⟩ := h
    subst h1; subst h2; subst h3
    exact ⟨_, _, _, _, _, _, rfl, rfl, h4, h5, h6, h7⟩
  · cases h
section
variable {X : Cx} {pins : List (Addr × Obj)} {σ : L2.St} {H : Hp} {s : Shared}
theorem upd_swap {H : Hp} {a b : Addr} {o u : HO} (h : a ≠ b) : upd (upd H a o) b u = upd (upd H b u) a o := by
  funext z
  by_cases e : z = a
  · subst e; rw [upd_ne h, upd_same, upd_same]
  · by_cases e2 : z = b
    · subst e2; rw [upd_same, upd_ne e, upd_same]
    · rw [upd_ne e2, upd_ne e, upd_ne e, upd_ne e2]
/-- the lambda's object, told with the table as it is then -/
theorem lam_made {q : Str} {c P : Addr} {ps : Array Value} {params : Arguments} {body : Expr} {scope : Scope} {pos : Pos} {E : Value → Shared → Prop} {Q : Value → Shared → Prop} (I : Inv X pins σ H s) (TB : LamX.TabB X.base X.mg c P) (hcode : X.env.code = .ref c) (hq : q = X.env.qual ++ "<lambda>")
    (hP : H P = some (.tbl ps)) (ht : TriplesOk ps.toList) (ha : ∀ (pos : Pos) (cv : Value), codeAmong pos ps.toList = some cv → ∃ c, cv = .ref c ∧ H c = some (LamX.CodeO c q)) (hdef : defaultsOf params X.env = ([], [])) (hfree : ∀ y ∈ scope.names, y.2 = .free → ∃ c, X.env.cells.lookup y.1 = some c)
    (h : ∀ (f c' : Addr) (pm ctv : Value) (H1 : Hp) (s' : Shared), Inv X pins σ H1 s' → ((H1 = H ∧ H c' = some (LamX.CodeO c' q)) ∨ (H c' = none ∧ P ≠ c' ∧ H1 = upd (upd H c' (LamX.CodeO c' q)) P (.tbl (ps ++ #[rawInt pos.line, rawInt pos.col, .ref c'])))) →
      s'.heap.get? f = some (kla_obj "<lambda>" q params body scope (cloFrom X.env.cells scope.names []) pm c' ctv) → H1 c' = some (LamX.CodeO c' q) → Q (.ref f) s') :
    wpAny (model X.prog X.w) X.A (eval (.Lambda params body scope pos) X.env) Q E s := by
  subst hq
  refine kla_eval hdef ?_
  have tP : s.heap.get? P = some (tabObj ps) := I.hok P _ hP
  have cl : closureFor scope X.env = pure (cloFrom X.env.cells scope.names []) := closure_ok hfree
  have bI := TB.bm.keeps I.bk
  have gI := I.mod.glob.keeps I.bk
  have cI := TB.code.keeps I.bk
  match hc : codeAmong pos ps.toList with
  | some cv =>
    obtain ⟨c', rfl, hk⟩ := ha pos cv hc
    exact kla_makeFunctionHit cl I.ok.glob gI hcode cI tP ht hc bI fun ctv h' tk keep _ =>
      h _ c' _ ctv H _ (I.kept fun b o e => Heap.get?_push_of_some _ (keep b o e)) (.inl ⟨rfl, hk⟩) (Heap.get?_push_size _ rfl) hk
  | none =>
    refine kla_makeFunction cl I.ok.glob gI hcode cI tP ht hc TB.gP bI fun c' ctv h' tk keep above below rec_ grown => ?_
    obtain ⟨c2, oc, vs, t, e2, r1, r2, r3⟩ := rec_
    cases e2
    have n0 := I.hok.fresh above
    have nP : P ≠ c' := ne_of_none hP n0
    refine h h'.objs.size c' ((X.mg "__name__").getD .none) ctv _ _ (?_ : Inv X pins σ (upd (upd H c' (LamX.CodeO c' (X.env.qual ++ "<lambda>"))) P (.tbl (ps ++ #[rawInt pos.line, rawInt pos.col, .ref c']))) _) (.inr ⟨n0, nP, rfl⟩) (Heap.get?_push_size _ rfl) (by rw [upd_ne nP.symm, upd_same])
    rw [upd_swap nP.symm]
    exact LamX.inv_table (t' := tk) I hP (fun b o ne e => Heap.get?_push_of_some _ (keep b o ne e)) (Heap.get?_push_of_some _ grown) above ⟨oc, vs, t, Heap.get?_push_of_some _ r1, r2, r3⟩
end
section
variable {K : KC} {φ ψ : List Addr} {H : Hp} {M : Mem}
theorem keys2_ok : ∀ {ts : List T} {l : List (T × List Int)}, keys2 ts = some l → l.map (·.1) = ts ∧ ∀ p ∈ l, ∃ x y z r, p = (.tup (.int x :: .int y :: z :: r), [x, y])
  | [], l, h => by cases h; exact ⟨rfl, fun p hp => by cases hp⟩
  | .tup (.int x :: .int y :: z :: r) :: ts, l, h => by
    rw [keys2] at h
    obtain ⟨l', h', e⟩ := Option.map_eq_some_iff.mp h
    subst e
    obtain ⟨h1, h2⟩ := keys2_ok h'
    refine ⟨by rw [List.map_cons, h1], fun p hp => ?_⟩
    rcases List.mem_cons.mp hp with rfl | hp
    · exact ⟨x, y, z, r, rfl⟩
    · exact h2 p hp
  | .non :: _, l, h => by simp [keys2] at h
  | .bl _ :: _, l, h => by simp [keys2] at h
  | .int _ :: _, l, h => by simp [keys2] at h
  | .str _ :: _, l, h => by simp [keys2] at h
  | .fl _ :: _, l, h => by simp [keys2] at h
  | .fd _ _ _ :: _, l, h => by simp [keys2] at h
  | .sc _ :: _, l, h => by simp [keys2] at h
  | .obj _ :: _, l, h => by simp [keys2] at h
  | .tup [] :: _, l, h => by simp [keys2] at h
  | .tup [_] :: _, l, h => by simp [keys2] at h
  | .tup [_, _] :: _, l, h => by simp [keys2] at h
  | .tup (t :: u :: z :: r) :: ts, l, h => by
    cases t <;> first | (simp [keys2] at h; done) | skip
    cases u <;> first | (simp [keys2] at h; done) | skip
    rename_i x y
    rw [keys2] at h
    obtain ⟨l', h', e⟩ := Option.map_eq_some_iff.mp h
    subst e
    obtain ⟨h1, h2⟩ := keys2_ok h'
    refine ⟨by rw [List.map_cons, h1], fun p hp => ?_⟩
    rcases List.mem_cons.mp hp with rfl | hp
    · exact ⟨x, y, z, r, rfl⟩
    · exact h2 p hp
/-- the values of items, with their words -/
def RI (K : KC) (φ ψ : List Addr) (H : Hp) (u : Value) (b : T × List Int) : Prop := ∃ v, RelV v u ∧ RT K φ ψ H b.1 v
theorem each_of : ∀ {l : List (T × List Int)} {vs : List V} {us : List Value}, RTs K φ ψ H (l.map (·.1)) vs → Vals vs us → EachIs (RI K φ ψ H) us l
  | [], _, _, h, r => by cases h; cases r; exact .nil
  | b :: l, _, _, h, r => by
    cases h with
    | cons h1 h2 =>
      cases r with
      | cons r1 r2 => exact .cons ⟨_, r1, h1⟩ (each_of h2 r2)
theorem of_each : ∀ {l : List (T × List Int)} {us : List Value}, EachIs (RI K φ ψ H) us l → ∃ vs, Vals vs us ∧ RTs K φ ψ H (l.map (·.1)) vs
  | [], _, h => by cases h; exact ⟨[], .nil, .nil⟩
  | b :: l, _, h => by
    cases h with
    | cons h1 h2 =>
      obtain ⟨v, r1, r2⟩ := h1
      obtain ⟨vs, q1, q2⟩ := of_each h2
      exact ⟨v :: vs, .cons r1 q1, .cons r2 q2⟩
theorem hasTab_at {q : Str} (h : hasTab q M = true) : ∃ i : Nat, M[i]? = some (O.tab q) := by
  unfold hasTab at h
  obtain ⟨o, ho, e⟩ := List.any_eq_true.mp h
  cases o with
  | tab q' =>
    have : q' = q := of_decide_eq_true e
    subst this
    exact List.getElem?_of_mem ho
  | lst _ => cases e
  | dic _ _ _ => cases e
  | ins _ _ => cases e
end
variable {G : Sig} {K : KC} {k : Nat}
theorem s_skc {q : Str} {a : ME} (ha : SE G K k a) : SE G K k (.skc q a) := by
  intro N sc ow X e g h
  unfold okE at h
  split at h <;> (try cases h) <;> rename_i w <;> cases w
  rename_i x px e0 kx params body scope lpos kpos pos
  simp only [Bool.and_eq_true, decide_eq_true_eq] at h
  obtain ⟨⟨⟨⟨⟨⟨rfl, h0⟩, rfl⟩, h1⟩, h2⟩, h3⟩, h4⟩ := h
  obtain ⟨hg, hd⟩ := gl_of g h0
  have L := cutC_ok h3
  obtain ⟨ap, p1, p2, p3, p4, kd, rfl, rfl, k1, k2, k3, k4⟩ := id L
  have cut := L
  refine se_of g.hK ⟨fun pins s σ H Q I ⟨φ, ψ, env, M, t, M', re, rm, ev, ok⟩ => ?_⟩ rfl
  rw [evE] at ev
  obtain ⟨p, e1, ev⟩ := bnd ev
  obtain ⟨ts, e2, ev⟩ := bnd ev
  obtain ⟨l, e3, ev⟩ := bnd ev
  split at ev
  case isFalse => cases ev
  rename_i hc
  cases ev
  obtain ⟨hT, hl⟩ := hc
  refine wpAny_Call_Name_kw (ld_blt I hg (gc_blt g (by decide)) (u := .builtin "sorted") rfl ?_)
  refine PyProof.Rows.callWith_kw (thn ((pa_cons (ha N sc ow X e0 g h4).1 pa_nil (star_cons h1)).run pos pins s σ H (fun vs H1 => ∃ φ1 v, vs = [v] ∧ Ext φ H φ1 H1 ∧ RM K φ1 ψ H1 p.2 ∧ RT K φ1 ψ H1 p.1 v) I ⟨φ, ψ, env, M, p.1, p.2, re, rm, e1, fun φ1 H1 v x1 rm1 r1 => ⟨φ1, v, rfl, x1, rm1, r1⟩⟩) fun us s1 z1 => ?_)
    (by rw [star_cons h1]; rfl) (back_any (by simp [h1])) rfl rfl
  obtain ⟨vs0, H1, I1, r1, φ1, v, rfl, x1, rm1, rt1⟩ := z1
  obtain ⟨u, rfl, ru⟩ := vals1 r1
  obtain ⟨i, hi⟩ := hasTab_at hT
  obtain ⟨P, hφ⟩ : ∃ P, φ1[i]? = some P := ⟨_, List.getElem?_eq_getElem (by rw [rm1.len]; exact (List.getElem?_eq_some_iff.mp hi).1)⟩
  obtain ⟨htb, ps, hP, htri, hcodes⟩ := rm1.at_ i P _ hφ hi
  obtain ⟨hq, c, hcode, TB⟩ := g.lam q P h2 htb
  show wpAny _ _ (evalAll [do let v ← eval (.Lambda _ _ scope lpos) X.env; standAt pos; pure v]) _ _ s1
  refine wpAny_evalAll_cons (wpAny_bind (lam_made I1 TB hcode hq hP htri (fun pos cv hc => let ⟨c, e, _, z⟩ := hcodes pos cv hc; ⟨c, e, z⟩) rfl (fun y hy => ?_) fun f c' pm ctv H2 s2 I2 how hf hco => wpAny_bind (wpAny_standAt (wpAny_pure (wpAny_evalAll_nil ?_)))))
  · rw [k4, List.mem_singleton] at hy; rw [hy]; exact fun e => nomatch e
  obtain ⟨x2, rm2⟩ : Ext φ1 H1 φ1 H2 ∧ RM K φ1 ψ H2 p.2 := by
    rcases how with ⟨rfl, _⟩ | ⟨n0, nP, rfl⟩
    · exact ⟨.refl, rm1⟩
    · refine ⟨(Ext.new n0 (rm1.fresh n0)).trans (Ext.write hφ), ?_⟩
      have rmA := rm1.new (o := LamX.CodeO c' q) n0
      have fr := fre_new rm1 n0
      have same : p.2.set i (O.tab q) = p.2 := by
        apply List.ext_getElem?
        intro j
        by_cases hj : i = j
        · subst hj; rw [List.getElem?_set_self (List.getElem?_eq_some_iff.mp hi).1, hi]
        · rw [List.getElem?_set_ne hj]
      rw [← same]
      refine rmA.write hφ ⟨htb, _, upd_same, ?_, fun pos' cv hcv => ?_⟩
      · rw [Array.toList_append]; exact PySem.TriplesOk_snoc _ _ _ _ htri
      · rw [Array.toList_append] at hcv
        rcases LamX.among_app _ htri hcv with z | z
        · obtain ⟨c0, e, f0, z⟩ := hcodes pos' cv z
          have ne : c0 ≠ c' := ne_of_none z n0
          have neP : c0 ≠ P := fun e => f0.1 (e ▸ List.mem_of_getElem? hφ)
          exact ⟨c0, e, f0, by rw [upd_ne neP, upd_ne ne]; exact z⟩
        · exact ⟨c', z, fr, by rw [upd_ne nP.symm, upd_same]⟩
  obtain ⟨a', vs, rfl, hH, rts⟩ := lof_ok rm2 (rt1.to x2) e2
  cases ru
  obtain ⟨z, its, n, rv, hlen, hget⟩ := I2.lstM hH
  obtain ⟨hmap, hall⟩ := keys2_ok e3
  have each : EachIs (RI K φ1 ψ H2) its l := each_of (by rw [hmap]; exact rts) rv
  have ll : l.length = its.length := each.length.symm
  show wpAny _ _ (call (.builtin "sorted") [.ref a'] [(Str.ofString "key", .ref f)]) _ _ s2
  have dle : PySem.W.dataLe false (fun b : T × List Int => tupD b.2) = fun x y => lexLe x.2 y.2 := by
    funext x y
    exact dataLe_tup (fun b : T × List Int => b.2) x y
  have hu := g.hu
  refine PySem.W.sorted_key_data (b := false) (k := fun b : T × List Int => tupD b.2) (R := RI K φ1 ψ H2) (bs := l) (vs := its) ⟨_, hget, rfl, _, rfl⟩ each (fun d hd d' hd' => ?_) (.inl fun d hd => ?_) (by rw [ll, ← hlen]; exact z) (fun b _ => by rw [dep_tupD]; omega) (ksk_s1 _ _) (fun x => ksk_l1 _ _) (fun x => ksk_t1 f x)
    (fun v x hR hx h tk keep => ?_) fun out c h' tk keep fresh hD hol eo => ?_
  · obtain ⟨b1, _, rfl⟩ := List.mem_map.mp hd
    obtain ⟨b2, _, rfl⟩ := List.mem_map.mp hd'
    unfold tupD
    simp only [alike]
    exact alike_ints _ _
  · obtain ⟨b1, hb, rfl⟩ := List.mem_map.mp hd
    obtain ⟨x, y, z, r, rfl⟩ := hall _ hb
    exact ⟨.int x, [.int y], rfl⟩
  · obtain ⟨w, rw_, rt⟩ := hR
    obtain ⟨x, y, z, r, rfl⟩ := hall _ hx
    cases rt with
    | tup q1 q2 =>
      rename_i ta tv
      cases rw_
      have sq := q1.sq
      rw [g.hK] at sq
      obtain ⟨its', rv', tup', hz'⟩ := I2.tuple sq
      cases q2 with
      | cons q3 q4 =>
        cases q3
        cases q4 with
        | cons q5 q6 =>
          cases q5
          cases q6 with
          | cons q7 q8 =>
            cases rv' with
            | cons s3 s4 =>
              obtain ⟨t1, rfl⟩ := s3
              cases s4 with
              | cons s5 s6 =>
                obtain ⟨t2, rfl⟩ := s5
                cases s6 with
                | cons s7 s8 =>
                  obtain ⟨⟨oc, cvs, ct, a1, a2, a3⟩, _, _⟩ := I2.hok c' _ hco
                  refine key_cut (s := { s2 with heap := h, toks := tk }) cut (keep _ _ hf) ⟨c', oc, cvs, ct, rfl, keep _ _ a1, a2, a3⟩ (I2.nolimit.keeps keep) ?_ (let ⟨o, e, r⟩ := tup'; ⟨o, keep _ _ e, r⟩) (r := _ :: _) (by rw [List.toList_toArray]) (by simp) ?_
                  · have := g.room.dp
                    have : X.A.in1.in1.depth = X.A.depth := rfl
                    omega
                  · rw [List.size_toArray]
                    have := q8.length
                    have := s8.length
                    simp only [List.length_cons] at hz' ⊢
                    omega
  · rw [dle] at eo
    obtain ⟨vs', w1, w2⟩ := of_each eo
    have hp := I2.hok.fresh (Nat.le_succ s2.heap.objs.size)
    have wl : vs'.length ≤ sizeLine := by rw [w1.length, hol, ll, ← hlen]; exact z
    exact ⟨.ref _, _, I2.laid (t' := tk) (o := .lst vs') keep (Nat.le_succ _) ⟨wl, out, c, w1, hD⟩, rfl, (ok.ext (x1.trans x2)).newL (tr := false) rm2 w2 hp⟩
end Mi
end L2

/-! A key out of a list that stands ahead: the call of «lambda at: xs[at][2]», raw; and sorted of a range by a key. -/
namespace L2
namespace Mi
open PySem PySem.Spec PyProof.Rows PySem.W
/-- the parameters, the body, the scope of a lambda at: x[at][2] -/
def OffL (x : Str) (params : Arguments) (body : Expr) (scope : Scope) : Prop :=
  ∃ (ap p1 p2 p3 p4 p5 : Pos) (kd : Nat), params = ⟨[], [⟨"at", none, ap⟩], none, [], [], none, []⟩ ∧ body = .Subscript (.Subscript (.Name x p1) (.Name "at" p2) p3) (.Constant (.int 2) kd p4) p5 ∧
    scope.kind = .function ∧ scope.isCoroutine = false ∧ scope.isGenerator = false ∧ scope.names = [(("at" : Str), NameKind.local), (x, NameKind.free)] ∧ (x == ("at" : Str)) = false ∧ (x == ("__debug__" : Str)) = false ∧ (x == ("__classdict__" : Str)) = false
section
variable {prog : Program} {w : World} {A : Around} {s : Shared}
theorem key_off {x : Str} {f c' cO l p : Addr} {qual : Str} {params : Arguments} {body : Expr} {scope : Scope} {cl : List (Str × Addr)} {pm ctv : Value} {items its : Array Value} {i y : Int} {t t2 : Tok} (L : OffL x params body scope)
    (hf : s.heap.get? f = some (kla_obj "<lambda>" qual params body scope cl pm c' ctv)) (hcd : s.heap.CodeRec (.ref c') qual) (lim : s.heap.NoLimit) (hd : A.depth < recursionLimit)
    (hcl : cl.lookup x = some cO) (hc : s.heap.IsCell cO (some (.ref l))) (hl : s.heap.IsList l items) (h0 : 0 ≤ i) (hi : i < 2 ^ 63) (hx : items[i.toNat]? = some (.ref p)) (ht : IsTup s.heap p its) (hy : its[2]? = some (.int y t2)) (hsz : its.size < 2 ^ 62) :
    wpAny (model prog w) A (call (.ref f) [.int i t]) (KeyPure (.int y) s) (fun _ _ => False) s := by
  obtain ⟨ap, p1, p2, p3, p4, p5, kd, rfl, rfl, k1, k2, k3, k4, n1, n2, n3⟩ := L
  refine wpAny_call (kla_callFunE hd hf rfl k2 k3 rfl hcd ?_)
  have hb : bindArgs (kla_fn "<lambda>" qual ⟨[], [⟨"at", none, ap⟩], none, [], [], none, []⟩ (.Subscript (.Subscript (.Name x p1) (.Name "at" p2) p3) (.Constant (.int 2) kd p4) p5) scope cl pm (.ref c') ctv) ⟨[.int i t], []⟩ = pure [(("at" : Str), Value.int i t)] := rfl
  rw [hb]
  refine wpAny_pure (wpAny_newFunctionEnv (fun y hy => ?_) (fun y hy => ?_) (fun h₁ hns hsb => ⟨lim.fresh _ hsb, ?_⟩) k1)
  · have hy : y ∈ scope.names := hy
    rw [k4] at hy
    rcases List.mem_cons.mp hy with rfl | hy
    · exact fun e => nomatch e
    · rw [List.mem_singleton] at hy; rw [hy]; exact fun e => nomatch e
  · rw [List.mem_singleton] at hy
    rw [hy]
    show scope.names.lookup _ = _
    rw [k4]; rfl
  have kp : ∀ b o, s.heap.get? b = some o → h₁.get? b = some o := fun b o e => hsb.extBut b o (Nat.ne_of_lt (Heap.lt_size e)) (Heap.get?_push_of_some _ e)
  refine kla_codeExpr ?_
  have lk : scope.names.lookup x = some .free := by
    rw [k4, List.lookup_cons, n1, List.lookup_cons]
    simp
  have hc1 : h₁.IsCell cO (some (.ref l)) := let ⟨o, e, r⟩ := hc; ⟨o, kp _ _ e, r⟩
  have hl1 : h₁.IsList l items := let ⟨o, e, r⟩ := hl; ⟨o, kp _ _ e, r⟩
  have ht1 : IsTup h₁ p its := let ⟨o, e, r⟩ := ht; ⟨o, kp _ _ e, r⟩
  generalize s.toks + List.length [(("at" : Str), Value.int i t)] = tk
  refine Subscript_ (Subscript_ (wpAny_Name (wpAny_loadName_free k1 lk hcl hc1 ?_ n3) n2))
  refine wpAny_Name (wpAny_loadName_local k1 ?_ hns rfl ?_)
  · show scope.names.lookup _ = _
    rw [k4]; rfl
  refine PyProof.Rows.tail_any (ops := [.ref l, .int i t]) hl1.typeIs slot_list_getitem.lookup (wpAny_getItem_list hl1 h0 hi hx ?_) (by with_unfolding_all rfl)
  refine wpAny_Constant_int ?_
  have lt : 2 < its.size := by
    rcases Nat.lt_or_ge 2 its.size with h | h
    · exact h
    · rw [Array.getElem?_eq_none h] at hy; cases hy
  refine PyProof.Rows.tail_any (ops := [.ref p, .int 2 tk]) ht1.typeIs slot_tuple_getitem.lookup (getItem_tuple (j := 2) ht1 (by decide) (by decide) ?_ hy ?_) (by with_unfolding_all rfl)
  · unfold seqIndex?
    simp
    omega
  · exact ⟨_, _, rfl, fun b o e => kp b o e, .int y t2⟩
end
section
variable {prog : Program} {w : World} {A : Around} {E : Value → Shared → Prop} {s : Shared}
theorem ints_each {a0 c0 : Int} {n : Nat} {acc : Array Value} (hi : ItemsOf (fun i v => ∃ t, v = Value.int (a0 + i * c0) t) acc n) : EachIs (fun u x => ∃ t, u = Value.int x t) acc.toList ((List.range n).map fun (i : Nat) => a0 + (i : Int) * c0) := by
  have hl : acc.toList.length = ((List.range n).map fun (i : Nat) => a0 + (i : Int) * c0).length := by rw [List.length_map, List.length_range, Array.length_toList]; exact hi.1
  refine EachIs.of_zip hl fun p hp => ?_
  obtain ⟨j, hj⟩ := List.getElem?_of_mem hp
  rw [List.getElem?_zip_eq_some] at hj
  obtain ⟨h1, h2⟩ := hj
  obtain ⟨t, e⟩ := hi.2 j p.1 (by rw [← Array.getElem?_toList]; exact h1)
  rw [List.getElem?_map] at h2
  obtain ⟨i, hi2, e2⟩ := Option.map_eq_some_iff.mp h2
  obtain ⟨h3, h4⟩ := List.getElem?_eq_some_iff.mp hi2
  rw [List.getElem_range] at h4
  subst h4
  exact ⟨t, by rw [e, ← e2]⟩
/-- sorted(range(n), key=f) -/
theorem sorted_range_key {r : Addr} {a0 b0 c0 : Int} {t u v : Tok} {n : Nat} {f : Addr} {Q : Value → Shared → Prop} (k : Int → PyData) (hh : A.handled = none) (hr : IsRange s.heap r a0 b0 c0 t u v) (hsmall : Builtin.Range.small a0 b0 c0 = true) (hn : Builtin.Range.rangeSize a0 b0 c0 = n) (hlen : n ≤ 2 ^ 24)
    {bs : List Int} (hbs : bs = (List.range n).map fun (i : Nat) => a0 + (i : Int) * c0) (hal : AllAlike (bs.map k)) (hk : Sortable (bs.map k)) (hu : ∀ x, x ∈ bs → A.units + 2 + (k x).depth < cLine)
    (turn : ∀ (x : Int) (tk0 : Tok), x ∈ bs → ∀ (h : Heap) (tk : Nat), (∀ b o, s.heap.get? b = some o → h.get? b = some o) →
      wpAny (model prog w) A.in1.in1 (call (.ref f) [.int x tk0]) (KeyPure (k x) { s with heap := h, toks := tk }) (fun _ _ => False) { s with heap := h, toks := tk })
    (h : ∀ (out : List Value) (c : Nat) (a : Addr) (h1 h' : Heap) (tk : Nat), (∀ b o, s.heap.get? b = some o → h1.get? b = some o) → (∀ b o, h1.get? b = some o → h'.get? b = some o) → a = h1.objs.size → h'.get? a = some (seqObj "list" (List.toArray out) c) → out.length = bs.length → EachIs (fun u x => ∃ t, u = Value.int x t) out (bs.mergeSort (dataLe false k)) →
      Q (.ref a) { s with heap := h', toks := tk }) :
    wpAny (model prog w) A (call (.builtin "sorted") [.ref r] [(Str.ofString "key", .ref f)]) Q E s := by
  refine call_function_entry_kw kind_sorted plain_sorted entry_sorted (ksk_s1 _ _) ?_
  unfold Builtin.«sorted»
  refine wpAny_bind (m := checkCount "sorted" 1 1 _) (wpAny_pure ?_)
  refine wpAny_bind (L2.collect_range (A := A.in1) hh hr hsmall hn hlen fun h' tk acc keep hi => ?_)
  have hsz : acc.toList.length = n := by rw [Array.length_toList]; exact hi.1
  have hZ : acc.toList.length ≤ sizeLine := by rw [hsz, sizeLine_eq]; omega
  have e := ints_each hi
  rw [← hbs] at e
  refine wpAny_bind (wpAny_newList ?_ hZ)
  generalize acc.toList = vs at *
  have hoL : (h'.push (seqObj "list" vs.toArray 0)).get? h'.objs.size = some (seqObj "list" vs.toArray 0) := Heap.get?_push_size _ rfl
  show wpAny _ _ _ _ _ { s with heap := h'.push (seqObj "list" vs.toArray 0), toks := tk }
  have kp0 : ∀ {g : Heap}, KeepsBut h'.objs.size (h'.push (seqObj "list" vs.toArray 0)) g → ∀ b o, s.heap.get? b = some o → g.get? b = some o := fun {g} kp b o q => kp b o (Nat.ne_of_lt (Heap.lt_size (keep b o q))) (Heap.get?_push_of_some _ (keep b o q))
  refine wpAny_bind (wpAny_holding (list_sort_key_data (s := { s with heap := h'.push (seqObj "list" vs.toArray 0), toks := tk }) (A := A.in1) (b := false) (R := fun u x => ∃ t, u = Value.int x t) (bs := bs) k hoL e hal hk (by rw [← e.length]; exact hZ)
    (fun x hx => hu x hx) (ksk_l1 _ _) (ksk_t1 f _) (fun u x hR hx g tk2 kp => ?_) fun out c g tk2 kp hD hol eo => ?_))
  · obtain ⟨t0, rfl⟩ := hR
    exact turn x t0 hx g tk2 (kp0 kp)
  · exact wpAny_pure ⟨_, rfl, h out c h'.objs.size h' g tk2 keep (fun b o q => kp b o (Nat.ne_of_lt (Heap.lt_size q)) (Heap.get?_push_of_some _ q)) rfl hD hol eo⟩
end
end Mi
end L2

/-! Mini: positions of a list, sorted by the third of what stands there (a lambda that takes the list from its cell). -/
namespace L2
namespace Mi
open PySem PySem.Spec PyProof.Rows PySem.W
theorem offC_ok {x : Str} {params : Arguments} {body : Expr} {scope : Scope} (h : offC x params body scope = true) : OffL x params body scope := by
  unfold offC at h
  split at h
  · rename_i p ap x' p1 p' p2 p3 k kd p4 p5 sc
    simp only [Bool.and_eq_true, decide_eq_true_eq, Bool.not_eq_true'] at h
    obtain ⟨⟨⟨⟨⟨⟨⟨⟨⟨⟨h1, h2⟩, h2'⟩, h3⟩, h4⟩, h5⟩, h6⟩, h7⟩, h8⟩, h9⟩, h10⟩ := h
    subst h1; subst h2; subst h2'; subst h3
    exact ⟨_, _, _, _, _, _, _, rfl, rfl, h4, h5, h6, h7, h8, h9, h10⟩
  · cases h
theorem keys3_ok : ∀ {ts : List T} {ys : List Int}, keys3 ts = some ys → ys.length = ts.length ∧ ∀ (i : Nat) (t : T), ts[i]? = some t → key3 t = some (ys.getD i 0)
  | [], ys, h => by cases h; exact ⟨rfl, fun i t e => by simp at e⟩
  | t :: ts, ys, h => by
    rw [keys3] at h
    obtain ⟨y, hy, h⟩ := Option.bind_eq_some_iff.mp h
    obtain ⟨l, hl, e⟩ := Option.map_eq_some_iff.mp h
    subst e
    obtain ⟨h1, h2⟩ := keys3_ok hl
    refine ⟨by simp [h1], fun i u e => ?_⟩
    cases i with
    | zero => simp at e; subst e; simpa using hy
    | succ i => simp at e; simpa using h2 i u e
theorem key3_ok {t : T} {y : Int} (h : key3 t = some y) : ∃ a b r, t = .tup (a :: b :: .int y :: r) := by
  unfold key3 at h
  split at h
  · cases h; exact ⟨_, _, _, rfl⟩
  · cases h
theorem dataLe_int (f : Int → Int) : PySem.W.dataLe false (fun b : Int => PyData.int (f b)) = fun x y => decide (f x ≤ f y) := by
  funext x y
  unfold PySem.W.dataLe PySem.W.sortLe
  show (!PyProof.Rows.lexLt itemOrd (keyToks (PyData.int (f y))) (keyToks (PyData.int (f x)))) = _
  simp only [keyToks]
  by_cases e : f y = f x
  · rw [e, PyProof.Rows.lex_self]
    simp
    rfl
  · rw [PyProof.Rows.lex_diff (by intro h; exact e (Sum.inl.inj h))]
    show (!decide (f y < f x)) = decide (f x ≤ f y)
    by_cases h : f y < f x
    · simp [h]
    · simp [h]; omega
variable {G : Sig} {K : KC} {k : Nat}
theorem s_sko {q : Str} {i : Nat} {x : Str} {a : ME} (ha : SE G K k a) : SE G K k (.sko q i x a) := by
  intro N sc ow X e g h
  unfold okE at h
  split at h <;> (try cases h) <;> rename_i w <;> cases w
  rename_i f fp gx gp e0 gpos kx params body scope lpos kpos pos
  simp only [Bool.and_eq_true, decide_eq_true_eq] at h
  obtain ⟨⟨⟨⟨⟨⟨⟨⟨⟨⟨rfl, h0⟩, rfl⟩, h1⟩, rfl⟩, h2⟩, h3⟩, h4⟩, h5⟩, h6⟩, h7⟩ := h
  obtain ⟨hg, hd⟩ := gl_of g h0
  obtain ⟨hg2, hd2⟩ := gl_of g h1
  have L := offC_ok h6
  obtain ⟨ap, p1, p2, p3, p4, p5, kd, rfl, rfl, k1, k2, k3, k4, n1, n2, n3⟩ := id L
  have off := L
  have kx : X.env.kindOf x = some .cell := by show X.env.scope.names.lookup x = _; rw [g.sc_]; exact h5
  refine se_of g.hK ⟨fun pins s σ H Q I ⟨φ, ψ, env, M, t, M', re, rm, ev, ok⟩ => ?_⟩ rfl
  rw [evE] at ev
  obtain ⟨p, e1, ev⟩ := bnd ev
  split at ev
  case h_2 => cases ev
  rename_i tv htv
  obtain ⟨ts, e2, ev⟩ := bnd ev
  obtain ⟨ys, e3, ev⟩ := bnd ev
  split at ev
  case h_2 => cases ev
  rename_i n hn
  split at ev
  case isFalse => cases ev
  rename_i hc
  cases ev
  obtain ⟨hT, hl, rfl⟩ := hc
  obtain ⟨vx, hvx, rvx⟩ := re.at_ _ _ htv
  refine wpAny_Call_Name_kw (ld_blt I hg (gc_blt g (by decide)) (u := .builtin "sorted") rfl ?_)
  refine PyProof.Rows.callWith_kw (args_cons (Call_ (ld_blt I hg2 (gc_blt g (by decide)) boot_range (PyProof.Rows.callWith_type1 (one_arg (ha N sc ow X e0 g h7).1 I
    (R := fun v H1 => ∃ φ1, Ext φ H φ1 H1 ∧ RM K φ1 ψ H1 p.2 ∧ RT K φ1 ψ H1 p.1 v) ⟨φ, ψ, env, M, p.1, p.2, re, rm, e1, fun φ1 H1 v x1 rm1 r1 => ⟨φ1, x1, rm1, r1⟩⟩ (fun v s1 xv H1 I1 r1 z1 => ?_) (star_cons h2)) (star_cons h2)))) (star_cons rfl))
    (by rw [star_cons rfl]; rfl) (back_any (by simp [notStar])) rfl rfl
  obtain ⟨φ1, x1, rm1, rt1⟩ := z1
  rw [hn] at rt1
  cases rt1
  obtain ⟨tk1, rfl⟩ := r1
  refine call_range_1 ?_
  refine args_nil ?_
  have I1' : Inv X pins σ H1 { s1 with heap := s1.heap.push { cls := .type "range", data := .fields #[.int 0 s1.toks, .int (ts.length : Int) tk1, .int 1 (s1.toks + 1)] }, toks := s1.toks + 1 + 1 } := I1.kept fun b u e => Heap.get?_push_of_some _ e
  have I2 : Inv X ((s1.heap.objs.size, { cls := .type "range", data := .fields #[.int 0 s1.toks, .int (ts.length : Int) tk1, .int 1 (s1.toks + 1)] }) :: pins) σ H1 { s1 with heap := s1.heap.push { cls := .type "range", data := .fields #[.int 0 s1.toks, .int (ts.length : Int) tk1, .int 1 (s1.toks + 1)] }, toks := s1.toks + 1 + 1 } := by
    refine I1'.pins_of fun q hq => ?_
    rcases List.mem_cons.mp hq with rfl | hq
    · exact ⟨Heap.get?_push_size _ rfl, I1.hok.fresh (Nat.le_refl _), fun z => absurd I1.lt (by rw [← z]; exact Nat.lt_irrefl _), I1.nofs (Nat.le_refl _), fun v z => (nomatch z)⟩
    · exact I1'.pin q (List.mem_append_right _ hq)
  obtain ⟨j, hj⟩ := hasTab_at hT
  obtain ⟨P, hφ⟩ : ∃ P, φ1[j]? = some P := ⟨_, List.getElem?_eq_getElem (by rw [rm1.len]; exact (List.getElem?_eq_some_iff.mp hj).1)⟩
  obtain ⟨htb, ps, hP, htri, hcodes⟩ := rm1.at_ j P _ hφ hj
  obtain ⟨hq, c, hcode, TB⟩ := g.lam q P h3 htb
  show wpAny _ _ (evalAll [do let v ← eval (.Lambda _ _ scope lpos) X.env; standAt pos; pure v]) _ _ _
  refine wpAny_evalAll_cons (wpAny_bind (lam_made I2 TB hcode hq hP htri (fun pos cv hc => let ⟨c, e, _, z⟩ := hcodes pos cv hc; ⟨c, e, z⟩) rfl (fun y hy hk => ?_) fun f c' pm ctv H2 s2 I3 how hf hco => wpAny_bind (wpAny_standAt (wpAny_pure (wpAny_evalAll_nil ?_)))))
  · exact I1.ok.has y.1 (.inl (by
      rw [k4] at hy
      rcases List.mem_cons.mp hy with rfl | hy
      · cases hk
      · rw [List.mem_singleton] at hy; rw [hy]; exact kx))
  obtain ⟨x2, rm2⟩ : Ext φ1 H1 φ1 H2 ∧ RM K φ1 ψ H2 p.2 := by
    rcases how with ⟨rfl, _⟩ | ⟨n0, nP, rfl⟩
    · exact ⟨.refl, rm1⟩
    · refine ⟨(Ext.new n0 (rm1.fresh n0)).trans (Ext.write hφ), ?_⟩
      have rmA := rm1.new (o := LamX.CodeO c' q) n0
      have fr := fre_new rm1 n0
      have same : p.2.set j (O.tab q) = p.2 := by
        apply List.ext_getElem?
        intro j'
        by_cases hj' : j = j'
        · subst hj'; rw [List.getElem?_set_self (List.getElem?_eq_some_iff.mp hj).1, hj]
        · rw [List.getElem?_set_ne hj']
      rw [← same]
      refine rmA.write hφ ⟨htb, _, upd_same, ?_, fun pos' cv hcv => ?_⟩
      · rw [Array.toList_append]; exact PySem.TriplesOk_snoc _ _ _ _ htri
      · rw [Array.toList_append] at hcv
        rcases LamX.among_app _ htri hcv with z | z
        · obtain ⟨c0, e, f0, z⟩ := hcodes pos' cv z
          have ne : c0 ≠ c' := ne_of_none z n0
          have neP : c0 ≠ P := fun e => f0.1 (e ▸ List.mem_of_getElem? hφ)
          exact ⟨c0, e, f0, by rw [upd_ne neP, upd_ne ne]; exact z⟩
        · exact ⟨c', z, fr, by rw [upd_ne nP.symm, upd_same]⟩
  obtain ⟨a', vs, rfl, hH, rts⟩ := lof_ok rm2 (rvx.to (x1.trans x2)) e2
  obtain ⟨z, its, nn, rv, hlen, hget⟩ := I3.lstM hH
  obtain ⟨yl, yk⟩ := keys3_ok e3
  have hr := (I3.pin _ (List.mem_append_right _ List.mem_cons_self)).1
  have I4 : Inv X pins σ H2 s2 := I3.pins_of fun q hq => I3.pin q (List.mem_append_right _ (List.mem_cons_of_mem _ hq))
  obtain ⟨cO, hcO, hcell⟩ : ∃ cO, X.env.cells.lookup x = some cO ∧ s2.heap.IsCell cO (some (.ref a')) := by
    obtain ⟨m, hns, hloc⟩ := I4.loc
    obtain ⟨u, ru, lk⟩ := hloc i x _ (by rw [g.hN]; exact h4) hvx (.inr (.inl (by rw [g.sc_]; exact h5)))
    cases ru
    rcases lk with ⟨k0, _⟩ | ⟨_, c, c1, c2⟩
    · rw [kx] at k0; cases k0
    · exact ⟨c, c1, c2⟩
  have hclo : (cloFrom X.env.cells scope.names []).lookup x = some cO := by
    rw [k4]
    simp only [cloFrom]
    rw [if_neg (by decide), if_pos (by decide), hcO]
    simp [List.lookup_cons]
  have hu := g.hu
  have tl : ts.length = its.length := by rw [rts.length, rv.length]
  refine sorted_range_key (n := ts.length) (fun b => PyData.int (ys.getD b.toNat 0)) (I4.ok.hd g.hc) hr (small_one (by omega) (by omega) (by omega) (by omega)) (by rw [show ts.length = ((ts.length : Int) - 0).toNat by omega]; exact rangeSize_nat 0 _) (by omega) (bs := (List.range ts.length).map fun (i : Nat) => (i : Int)) (by
      apply List.map_congr_left; intro i _; omega) ?_ ?_ (fun x hx => by
      show X.A.units + 2 + 0 < cLine
      omega) (fun y tk0 hy h tk keep => ?_) fun out c a h1 h' tk keep1 keep2 ea hD hol eo => ?_
  · intro d hd d' hd'
    obtain ⟨b1, _, rfl⟩ := List.mem_map.mp hd
    obtain ⟨b2, _, rfl⟩ := List.mem_map.mp hd'
    rfl
  · refine .inr fun d hd => ?_
    obtain ⟨b1, _, rfl⟩ := List.mem_map.mp hd
    exact ⟨fun z => (nomatch z), fun xs z => (nomatch z)⟩
  · obtain ⟨m, hm, rfl⟩ := List.mem_map.mp hy
    rw [List.mem_range] at hm
    obtain ⟨tm, htm⟩ : ∃ tm, ts[m]? = some tm := ⟨_, List.getElem?_eq_getElem hm⟩
    obtain ⟨ta, tb, tr, rfl⟩ := key3_ok (yk m tm htm)
    obtain ⟨vm, hvm, rtm⟩ := rts.get htm
    obtain ⟨um, hum, rum⟩ := rv.get hvm
    cases rtm with
    | tup q1 q2 =>
      cases rum
      have sq := q1.sq
      rw [g.hK] at sq
      obtain ⟨its', rv', tup', hz'⟩ := I4.tuple sq
      cases q2 with
      | cons q3 q4 =>
        cases q4 with
        | cons q5 q6 =>
          cases q6 with
          | cons q7 q8 =>
            cases q7
            cases rv' with
            | cons s3 s4 =>
              cases s4 with
              | cons s5 s6 =>
                cases s6 with
                | cons s7 s8 =>
                  obtain ⟨t2, rfl⟩ := s7
                  obtain ⟨⟨oc, cvs, ct, b1, b2, b3⟩, _, _⟩ := I4.hok c' _ hco
                  refine key_off (s := { s2 with heap := h, toks := tk }) (cO := cO) (l := a') (items := its.toArray) (its := _) off (keep _ _ hf) ⟨c', oc, cvs, ct, rfl, keep _ _ b1, b2, b3⟩ (I4.nolimit.keeps keep) ?_ hclo (let ⟨o, e, r⟩ := hcell; ⟨o, keep _ _ e, r⟩) ⟨_, keep _ _ hget, rfl, _, rfl⟩ (by omega) (by omega) (by simpa using hum) (let ⟨o, e, r⟩ := tup'; ⟨o, keep _ _ e, r⟩) (t2 := t2) (by simp) ?_
                  · have := g.room.dp
                    have : X.A.in1.in1.depth = X.A.depth := rfl
                    omega
                  · rw [List.size_toArray]
                    have := q8.length
                    have := s8.length
                    simp only [List.length_cons] at hz' ⊢
                    have := szl
                    omega
  · rw [dataLe_int] at eo
    rw [show ((List.range ts.length).map fun (i : Nat) => (i : Int)).mergeSort (fun a b => decide (ys.getD a.toNat 0 ≤ ys.getD b.toNat 0)) = srtAt ys by unfold srtAt; rw [yl]] at eo
    have rv2 : ∀ {l : List Int} {us : List Value}, EachIs (fun u x => ∃ t, u = Value.int x t) us l → Vals (l.map V.int) us := fun {l} => by
      induction l with
      | nil => intro us h; cases h; exact .nil
      | cons y l ih => intro us h; cases h with
        | cons h1 h2 => exact .cons h1 (ih h2)
    have rt2 : ∀ l : List Int, RTs K φ1 ψ H2 (l.map T.int) (l.map V.int) := fun l => by
      induction l with
      | nil => exact .nil
      | cons y l ih => exact .cons (.int y) ih
    have vo := rv2 eo
    have wl : ((srtAt ys).map V.int).length ≤ sizeLine := by rw [vo.length, hol, List.length_map, List.length_range, tl, ← hlen]; exact z
    have I5 : Inv X pins σ H2 { s2 with heap := h1 } := I4.kept (t' := s2.toks) keep1
    subst ea
    exact ⟨.ref _, _, I5.laid (t' := tk) (o := .lst ((srtAt ys).map V.int)) keep2 (Nat.le_refl _) ⟨wl, out, c, vo, hD⟩, rfl, (ok.ext (x1.trans x2)).newL (tr := false) rm2 (rt2 _) (I5.hok.fresh (Nat.le_refl _))⟩
/-! ### sorted(set(xs)), xs a list of pairs -/
theorem tupsOf_rt {φ ψ : List Addr} {H : Hp} : ∀ {ts : List T} {ns : List (List Int)} {vs : List V}, tupsOf ts = some ns → RTs K φ ψ H ts vs →
    ∃ ks : List (Addr × List Int), vs = ks.map (fun p => V.ref p.1) ∧ ks.map (·.2) = ns ∧ (∀ p ∈ ks, SqT K.K H p.1 (p.2.map V.int)) ∧ ∀ p ∈ ks, RT K φ ψ H (.tup (p.2.map T.int)) (.ref p.1)
  | [], ns, vs, h, r => by
    cases h; cases r
    exact ⟨[], rfl, rfl, fun _ h => (nomatch h), fun _ h => (nomatch h)⟩
  | t :: ts, ns, vs, h, r => by
    cases r with | cons r1 r2 =>
    cases t with
    | tup xs =>
      unfold tupsOf at h
      obtain ⟨ms, h1, h'⟩ := Option.bind_eq_some_iff.mp h
      obtain ⟨ns', h2, h''⟩ := Option.map_eq_some_iff.mp h'
      obtain ⟨ks, e1, e2, e3, e4⟩ := tupsOf_rt h2 r2
      obtain rfl := intsOf_ok h1
      have r1' := r1
      cases r1 with | tup f r3 =>
      obtain rfl := r3.ints
      rename_i a
      refine ⟨(a, ms) :: ks, by rw [e1]; rfl, by rw [List.map_cons, e2]; exact h'', fun p hp => ?_, fun p hp => ?_⟩
      · rcases List.mem_cons.mp hp with rfl | hp
        · exact f.sq
        · exact e3 p hp
      · rcases List.mem_cons.mp hp with rfl | hp
        · exact r1'
        · exact e4 p hp
    | _ => simp [tupsOf] at h
theorem pr64_ok {k : List Int} (h : pr64 k = true) : ∃ x y, k = [x, y] ∧ 0 ≤ x ∧ x < 64 ∧ 0 ≤ y ∧ y < 64 := by
  unfold pr64 at h
  split at h
  · simp only [Bool.and_eq_true, decide_eq_true_eq] at h
    exact ⟨_, _, rfl, h.1.1.1, h.1.1.2, h.1.2, h.2⟩
  · cases h
theorem lexLe_code {a b : List Int} (ha : pr64 a = true) (hb : pr64 b = true) : lexLe a b = decide (TS.code 64 a ≤ TS.code 64 b) := by
  obtain ⟨x, y, rfl, h1, h2, h3, h4⟩ := pr64_ok ha
  obtain ⟨x', y', rfl, g1, g2, g3, g4⟩ := pr64_ok hb
  rw [code_pair, code_pair]
  unfold lexLe
  rw [HT.lexLt_cons, HT.lexLt_cons]
  have n0 : HT.lexLt ([] : List Int) [] = false := rfl
  rw [n0, Bool.eq_iff_iff]
  by_cases e : x' = x
  · by_cases e2 : y' = y
    · simp [e, e2]
    · rw [if_pos e, if_neg e2]; simp; omega
  · rw [if_neg e]; simp; omega
theorem code_inj {a b : List Int} (ha : pr64 a = true) (hb : pr64 b = true) (h : TS.code 64 a = TS.code 64 b) : a = b := by
  obtain ⟨x, y, rfl, h1, h2, h3, h4⟩ := pr64_ok ha
  obtain ⟨x', y', rfl, g1, g2, g3, g4⟩ := pr64_ok hb
  rw [code_pair, code_pair] at h
  have : x = x' := by omega
  have : y = y' := by omega
  subst_vars; rfl
theorem sortK_pairs {ns : List (List Int)} (hb : ∀ k ∈ ns, pr64 k = true) {L : List (List Int)} (nd : L.Nodup) (hm : ∀ k, k ∈ L ↔ k ∈ ns) (hs : L.Pairwise fun a b => TS.code 64 a ≤ TS.code 64 b) : L = sortK (ddp ns) := by
  have pm : (sortK (ddp ns)).Perm (ddp ns) := List.mergeSort_perm _ _
  have nd2 : (sortK (ddp ns)).Nodup := pm.nodup_iff.mpr (ddp_nodup ns)
  have mem2 : ∀ k, k ∈ sortK (ddp ns) ↔ k ∈ ns := fun k => by rw [pm.mem_iff, ddp_mem]
  have p : L.Perm (sortK (ddp ns)) := (List.perm_ext_iff_of_nodup nd nd2).mpr fun k => by rw [hm, mem2]
  have mp : (sortK (ddp ns)).map (TS.code 64) = ((ddp ns).map (TS.code 64)).mergeSort fun a b => decide (a ≤ b) := by
    unfold sortK
    exact List.map_mergeSort fun a ha b hb' => lexLe_code (hb a (ddp_mem.mp ha)) (hb b (ddp_mem.mp hb'))
  have s1 := List.pairwise_mergeSort (le := fun a b : Int => decide (a ≤ b)) (fun a b c h1 h2 => by simp at h1 h2 ⊢; omega) (fun a b => by simp; omega) ((ddp ns).map (TS.code 64))
  rw [← mp, List.pairwise_map] at s1
  have s2 : (sortK (ddp ns)).Pairwise fun a b => TS.code 64 a ≤ TS.code 64 b := s1.imp fun h => by simpa using h
  refine p.eq_of_pairwise (le := fun a b => TS.code 64 a ≤ TS.code 64 b) (fun a b ha hb' h1 h2 => ?_) hs s2
  exact code_inj (hb a ((hm a).mp ha)) (hb b ((mem2 b).mp hb')) (Int.le_antisymm h1 h2)
theorem s_spr {a : ME} (ha : SE G K k a) : SE G K k (.spr a) := by
  intro N sc ow X e g h
  unfold okE at h
  split at h <;> (try cases h) <;> rename_i q <;> cases q
  simp only [Bool.and_eq_true, decide_eq_true_eq] at h
  obtain ⟨⟨⟨⟨⟨rfl, h0⟩, rfl⟩, h1⟩, h2⟩, h3⟩ := h
  obtain ⟨hg, hd⟩ := gl_of g h0
  obtain ⟨hg2, hd2⟩ := gl_of g h1
  refine se_of g.hK (PE.imp (pe_callB (cr_sortedT g.hc) hg (gc_blt g (by decide)) (by decide) (pa_cons (pe_callTy (cr_setOfT g.hc (by have := g.hu; omega)) hg2 (gc_blt g (by decide)) (by decide) (pa_cons (ha N sc ow X _ g h3).1 pa_nil (star_cons h2)) (by decide) hd2 (star_cons h2) rfl) pa_nil rfl) (by decide) hd rfl rfl)
    fun σ H Q ⟨φ, ψ, env, M, t, M', re, rm, ev, ok⟩ => ?_) rfl
  rw [evE] at ev
  obtain ⟨p, e1, ev⟩ := bnd ev
  obtain ⟨ts, e2, ev⟩ := bnd ev
  obtain ⟨ns, e3, ev⟩ := bnd ev
  split at ev
  case isFalse => cases ev
  rename_i h64
  cases ev
  refine ⟨φ, ψ, env, M, p.1, p.2, re, rm, e1, fun φ1 H1 v x1 rm1 r1 => ?_⟩
  obtain ⟨l, vs, rfl, hH, rts⟩ := lof_ok rm1 r1 e2
  obtain ⟨ks, rfl, e4, e5, e6⟩ := tupsOf_rt e3 rts
  have kl : ks.length = ns.length := by rw [← e4, List.length_map]
  refine ⟨l, ks, rfl, SqL.of hH, fun p hp => by rw [← g.hK]; exact e5 p hp, by rw [kl]; exact h64.1, fun a L hp sub all => ?_⟩
  have x2 : Ext φ1 H1 φ1 (upd H1 a (SetTO X.prog X.w a L)) := .new hp (rm1.fresh hp)
  have rm2 := rm1.new (o := SetTO X.prog X.w a L) hp
  have bd : ∀ q ∈ L, pr64 q.2 = true := fun q hq => h64.2 _ (by rw [← e4]; exact List.mem_map.mpr ⟨q, sub q hq, rfl⟩)
  refine ⟨a, L, 2, 64, rfl, upd_same, fun q hq => ?_, by decide, fun q hq => ?_, fun L' p' pm nd few pw hp' => ?_⟩
  · have rt := (e6 q (sub q hq)).to x2
    cases rt with | tup f r3 =>
    have := f.sq
    rw [g.hK] at this
    have e := r3.ints
    rw [e] at this
    exact this
  · obtain ⟨x, y, e, b1, b2, b3, b4⟩ := pr64_ok (bd q hq)
    rw [e]
    refine ⟨rfl, ?_⟩
    intro z hz
    simp at hz
    rcases hz with rfl | rfl <;> omega
  · have eL : L'.map (·.2) = sortK (ddp ns) := sortK_pairs h64.2 nd (fun k => by
      rw [(pm.map (·.2)).mem_iff, ← e4]
      constructor
      · intro hk
        obtain ⟨q, hq, rfl⟩ := List.mem_map.mp hk
        exact List.mem_map.mpr ⟨q, sub q hq, rfl⟩
      · intro hk
        obtain ⟨q, hq, rfl⟩ := List.mem_map.mp hk
        exact all q hq) (by rw [List.pairwise_map]; exact pw)
    have rt2 : ∀ l : List (Addr × List Int), (∀ q ∈ l, q ∈ ks) → RTs K φ1 ψ (upd H1 a (SetTO X.prog X.w a L)) ((l.map (·.2)).map fun k => T.tup (k.map T.int)) (l.map fun q => V.ref q.1) := fun l => by
      induction l with
      | nil => intro _; exact .nil
      | cons q l ih => intro hl; exact .cons ((e6 q (hl q (by simp))).to x2) (ih fun r hr => hl r (by simp [hr]))
    have w2 := rt2 L' fun q hq => sub q (pm.mem_iff.mp hq)
    rw [eL] at w2
    exact ((ok.ext x1).ext x2).newL (tr := false) rm2 w2 hp'
end Mi
end L2

/-! Mini: zip of three. -/
namespace L2
namespace Mi
open PySem PySem.Spec PyProof.Rows
variable {G : Sig} {K : KC} {k : Nat}
def Jz3 (K : PySem.W.Frag) (b1 b2 b3 : Bool) (a1 a2 a3 : Addr) : It := JT (fun i H => ∃ xs ys us, SqB K b1 H a1 xs ∧ SqB K b2 H a2 ys ∧ SqB K b3 H a3 us ∧ i < min (min xs.length ys.length) us.length)
  (fun i H vs => ∀ xs ys us, SqB K b1 H a1 xs → SqB K b2 H a2 ys → SqB K b3 H a3 us → ∃ x y u, xs[i]? = some x ∧ ys[i]? = some y ∧ us[i]? = some u ∧ vs = [x, y, u]) (fun i H => ∃ xs ys us, SqB K b1 H a1 xs ∧ SqB K b2 H a2 ys ∧ SqB K b3 H a3 us ∧ i = min (min xs.length ys.length) us.length)
structure Apart3 (z TI TO i1 i2 i3 a1 a2 a3 : Addr) : Prop where
  TIz : TI ≠ z
  TOz : TO ≠ z
  TITO : TI ≠ TO
  TIi1 : TI ≠ i1
  TIi2 : TI ≠ i2
  TIi3 : TI ≠ i3
  zi1 : z ≠ i1
  zi2 : z ≠ i2
  zi3 : z ≠ i3
  TOi1 : TO ≠ i1
  TOi2 : TO ≠ i2
  TOi3 : TO ≠ i3
  i12 : i1 ≠ i2
  i13 : i1 ≠ i3
  i23 : i2 ≠ i3
  a1z : a1 ≠ z
  a1T : a1 ≠ TO
  a1i1 : a1 ≠ i1
  a1i2 : a1 ≠ i2
  a1i3 : a1 ≠ i3
  a2z : a2 ≠ z
  a2T : a2 ≠ TO
  a2i1 : a2 ≠ i1
  a2i2 : a2 ≠ i2
  a2i3 : a2 ≠ i3
  a3z : a3 ≠ z
  a3T : a3 ≠ TO
  a3i1 : a3 ≠ i1
  a3i2 : a3 ≠ i2
  a3i3 : a3 ≠ i3
theorem Apart3.sep {z TI TO i1 i2 i3 a1 a2 a3 : Addr} (h : Apart3 z TI TO i1 i2 i3 a1 a2 a3) : ZipSep3 z TI TO i1 i2 i3 [i1, a1] [i2, a2] [i3, a3] :=
  { TIz := h.TIz, TOz := h.TOz, TITO := h.TITO, TIi1 := h.TIi1, mem1 := by simp, zf1 := notIn2 h.zi1 h.a1z, Tf1 := notIn2 h.TOi1 h.a1T,
    TIi2 := h.TIi2, mem2 := by simp, zf2 := notIn2 h.zi2 h.a2z, Tf2 := notIn2 h.TOi2 h.a2T,
    TIi3 := h.TIi3, mem3 := by simp, zf3 := notIn2 h.zi3 h.a3z, Tf3 := notIn2 h.TOi3 h.a3T,
    sep1_2 := notIn2 h.i12 h.a2i1, sep1_3 := notIn2 h.i13 h.a3i1, sep2_1 := notIn2 (Ne.symm h.i12) h.a1i2, sep2_3 := notIn2 h.i23 h.a3i2,
    sep3_1 := notIn2 (Ne.symm h.i13) h.a1i3, sep3_2 := notIn2 (Ne.symm h.i23) h.a2i3 }
theorem apart3 {N a1 a2 a3 : Nat} (h1 : a1 < N) (h2 : a2 < N) (h3 : a3 < N) : Apart3 (N + 5) (N + 3) (N + 4) N (N + 1) (N + 2) a1 a2 a3 := by
  constructor <;> (show (_ : Nat) ≠ _) <;> omega
theorem turn_z3 {P : Program} {w : World} {K : PySem.W.Frag} {elts : List Expr} {kk : Nat} {tpos : Pos} (b1 b2 b3 : Bool) {z TI TO i1 i2 i3 a1 a2 a3 : Addr} (D : Apart3 z TI TO i1 i2 i3 a1 a2 a3) :
    Turn P w K (.Tuple elts kk tpos) (Jz3 K b1 b2 b3 a1 a2 a3) [z, TI, TO, i1, i2, i3] z
      (fun i h => IsZip h z TI TO .none ∧ IsTupOf3 h TI (.ref i1) (.ref i2) (.ref i3) ∧ (∃ x1 x2 x3, IsTupOf3 h TO x1 x2 x3) ∧ ItB b1 h i1 a1 i ∧ ItB b2 h i2 a2 i ∧ ItB b3 h i3 a3 i) := by
  refine turn_T (wr := [z, TO, i1, i2, i3]) (by simp) (fun b hb => by simp at hb ⊢; rcases hb with h | h | h | h | h <;> simp [h]) (fun i h st c hc => ?_) (fun i h h' st k => ?_) (fun X hP hw hK hc i pins s σ H I st hg => ?_) (fun A i s Q E st h => wpAny_pyIter_zip st.1 h)
  · obtain ⟨hz, ht, ⟨x1, x2, x3, ho⟩, hi1, hi2, hi3⟩ := st
    have hc' : c = z ∨ c = TI ∨ c = TO ∨ c = i1 ∨ c = i2 ∨ c = i3 := by simpa using hc
    rcases hc' with rfl | rfl | rfl | rfl | rfl | rfl
    · exact ⟨_, hz, fun v q => nomatch q⟩
    · exact ⟨_, ht, fun v q => nomatch q⟩
    · exact ⟨_, ho, fun v q => nomatch q⟩
    · exact itB_obj hi1
    · exact itB_obj hi2
    · exact itB_obj hi3
  · obtain ⟨hz, ht, ⟨x1, x2, x3, ho⟩, hi1, hi2, hi3⟩ := st
    exact ⟨k z (by simp) _ hz, k TI (by simp) _ ht, ⟨x1, x2, x3, k TO (by simp) _ ho⟩, itB_at hi1 fun o q => k i1 (by simp) o q, itB_at hi2 fun o q => k i2 (by simp) o q, itB_at hi3 fun o q => k i3 (by simp) o q⟩
  · subst hP hw hK
    obtain ⟨hz, ht, ho, hi1, hi2, hi3⟩ := st
    have hx : ∃ xs ys us, SqB X.K b1 H a1 xs ∧ SqB X.K b2 H a2 ys ∧ SqB X.K b3 H a3 us := by rcases hg with ⟨xs, ys, us, h, h', h2, _⟩ | ⟨xs, ys, us, h, h', h2, _⟩ <;> exact ⟨xs, ys, us, h, h', h2⟩
    obtain ⟨xs, ys, ws, hx, hy, hw⟩ := hx
    obtain ⟨vs, rv, ib, hzz⟩ := sqB I hx
    obtain ⟨us, ru, ib2, hzz2⟩ := sqB I hy
    obtain ⟨ts, rt, ib3, hzz3⟩ := sqB I hw
    have hl := rv.length
    have hl2 := ru.length
    have hl3 := rt.length
    have hh : X.A.in1.handled = none := I.ok.hd hc
    have D1 := drawsB (prog := X.prog) (w := X.w) (A := X.A.in1) hh b1 i1 a1 D.a1i1 vs.toArray
    have D2 := drawsB (prog := X.prog) (w := X.w) (A := X.A.in1) hh b2 i2 a2 D.a2i2 us.toArray
    have D3 := drawsB (prog := X.prog) (w := X.w) (A := X.A.in1) hh b3 i3 a3 D.a3i3 ts.toArray
    refine ⟨_, _, _, _, _, WalksT.zipD3 D.sep D1 D2 D3, ⟨hz, ht, ho, ⟨hi1, ib⟩, ⟨hi2, ib2⟩, hi3, ib3⟩, fun hg => ⟨?_, fun vals hv => ?_⟩, fun hg => ?_, fun h st => ?_⟩
    · obtain ⟨xs', ys', us', hx', hy', hw', hlt⟩ := hg
      rw [sqB_inj I hx' hx, sqB_inj I hy' hy, sqB_inj I hw' hw] at hlt
      simp only [List.size_toArray]
      omega
    · obtain ⟨x, y, u, hx1, hy1, hu1, rfl⟩ := hv
      have e1 : vs[i]? = some x := by simpa using hx1
      have e2 : us[i]? = some y := by simpa using hy1
      have e3 : ts[i]? = some u := by simpa using hu1
      obtain ⟨l1, _⟩ := List.getElem?_eq_some_iff.mp e1
      obtain ⟨l2, _⟩ := List.getElem?_eq_some_iff.mp e2
      obtain ⟨l3, _⟩ := List.getElem?_eq_some_iff.mp e3
      have m1 : i < xs.length := by omega
      have m2 : i < ys.length := by omega
      have m3 : i < ws.length := by omega
      obtain ⟨u1, hu1, r1⟩ := rv.get (List.getElem?_eq_getElem m1)
      obtain ⟨u2, hu2, r2⟩ := ru.get (List.getElem?_eq_getElem m2)
      obtain ⟨u3, hu3, r3⟩ := rt.get (List.getElem?_eq_getElem m3)
      rw [e1] at hu1; cases hu1
      rw [e2] at hu2; cases hu2
      rw [e3] at hu3; cases hu3
      refine ⟨[xs[i], ys[i], ws[i]], .cons r1 (.cons r2 (.cons r3 .nil)), three_le, fun xs' ys' us' hx' hy' hw' => ?_⟩
      rw [sqB_inj I hx' hx, sqB_inj I hy' hy, sqB_inj I hw' hw]
      exact ⟨_, _, _, List.getElem?_eq_getElem m1, List.getElem?_eq_getElem m2, List.getElem?_eq_getElem m3, rfl⟩
    · obtain ⟨xs', ys', us', hx', hy', hw', rfl⟩ := hg
      rw [sqB_inj I hx' hx, sqB_inj I hy' hy, sqB_inj I hw' hw]
      simp only [List.size_toArray]
      omega
    · obtain ⟨hz, ht, ho, ⟨hi1, _⟩, ⟨hi2, _⟩, hi3, _⟩ := st
      exact ⟨hz, ht, ho, hi1, hi2, hi3⟩
def iZ3 (K : PySem.W.Frag) (ta : TA) : TI := fun σ H R => ta σ H fun vs H1 => ∃ a1 a2 a3 b1 b2 b3 xs ys us, vs = [.ref a1, .ref a2, .ref a3] ∧ SqB K b1 H1 a1 xs ∧ SqB K b2 H1 a2 ys ∧ SqB K b3 H1 a3 us ∧ R (Jz3 K b1 b2 b3 a1 a2 a3) H1
theorem pi_z3 {X : Cx} {e e2 e3 : Expr} {ta : TA} {p pos tpos : Pos} {elts : List Expr} {kk : Nat} (hg : Gl X "zip") (hm : X.mg "zip" = none) (ha : PA X [e, e2, e3] ta)
    (hs : starEach [e, e2, e3] X.env = (false, eval e X.env) :: starEach [e2, e3] X.env) (hpl : (backTo pos (starEach [e2, e3] X.env)).any (·.1) = false) :
    PI X (.Tuple elts kk tpos) (.Call (.Name "zip" p) [e, e2, e3] [] pos) (iZ3 X.K ta) := by
  refine ⟨fun pins s σ H R I h => ?_⟩
  refine Call_ (ld_blt I hg hm PyProof.Rows.boot_zip (PyProof.Rows.callWith_type1 (thn (ha.run pos pins s σ H _ I h) fun us s1 ⟨vs, H1, I1, r1, q1⟩ => ?_) hs hpl))
  obtain ⟨a1, a2, a3, b1, b2, b3, xs, ys, ws, ex, hqx, hqy, hqw, q⟩ := q1
  subst ex
  cases r1 with | cons r rr =>
  cases rr with | cons r' rr =>
  cases rr with | cons r'' rr =>
  cases rr
  cases r
  cases r'
  cases r''
  obtain ⟨its, rv, p1, _⟩ := sqB I1 hqx
  obtain ⟨its2, rv2, p2, _⟩ := sqB I1 hqy
  obtain ⟨its3, rv3, p3, _⟩ := sqB I1 hqw
  refine zip_begins3 (beginsB b1 a1 its.toArray) (beginsB b2 a2 its2.toArray) (beginsB b3 a3 its3.toArray) p1 p2 p3 fun h' hz hTI hTO h1 h2 h3 hsz hk => wpAny_pyIter_zip hz ?_
  have I2 : Inv X pins σ H1 { s1 with heap := h' } := I1.kept (t' := s1.toks) hk
  refine ⟨s1.heap.objs.size + 5, [s1.heap.objs.size + 5, s1.heap.objs.size + 3, s1.heap.objs.size + 4, s1.heap.objs.size, s1.heap.objs.size + 1, s1.heap.objs.size + 2], _, _, H1, rfl, I2, turn_z3 b1 b2 b3 (apart3 (isB_lt p1) (isB_lt p2) (isB_lt p3)), ⟨hz, hTI, ⟨_, _, _, hTO⟩, itB_0 h1, itB_0 h2, itB_0 h3⟩, fun c hcm => ?_, q⟩
  have e' : c = s1.heap.objs.size + 5 ∨ c = s1.heap.objs.size + 3 ∨ c = s1.heap.objs.size + 4 ∨ c = s1.heap.objs.size ∨ c = s1.heap.objs.size + 1 ∨ c = s1.heap.objs.size + 2 := by simpa using hcm
  have hle : s1.heap.objs.size ≤ c := by
    rcases e' with z | z | z | z | z | z
    · rw [z]; exact Nat.le_add_right _ _
    · rw [z]; exact Nat.le_add_right _ _
    · rw [z]; exact Nat.le_add_right _ _
    · rw [z]; exact Nat.le_refl _
    · rw [z]; exact Nat.le_add_right _ _
    · rw [z]; exact Nat.le_add_right _ _
  exact I1.fpOk hle (I1.hok.fresh hle)
theorem zip3_get (xs ys us : List T) (i : Nat) (x y u : T) (h1 : xs[i]? = some x) (h2 : ys[i]? = some y) (h3 : us[i]? = some u) : (List.zipWith (fun x (p : T × T) => T.tup [x, p.1, p.2]) xs (ys.zip us))[i]? = some (.tup [x, y, u]) := by
  have : (ys.zip us)[i]? = some (y, u) := by rw [List.getElem?_zip_eq_some]; exact ⟨h2, h3⟩
  rw [List.getElem?_zipWith, h1, this]
theorem walk_z3 {K : KC} {φ0 ψ0 : List Addr} {H0 : Hp} {M0 M1 M2 : Mem} {t u x : T} {a b c : Addr} {ts us xs : List T} (h : RT K φ0 ψ0 H0 t (.ref a)) (h' : RT K φ0 ψ0 H0 u (.ref b)) (h'' : RT K φ0 ψ0 H0 x (.ref c)) (e : sof M0 t = some ts) (e' : sof M1 u = some us) (e'' : sof M2 x = some xs) :
    WalkM K φ0 ψ0 H0 (List.zipWith (fun x (p : T × T) => T.tup [x, p.1, p.2]) ts (us.zip xs)) (grdOf t ts ++ grdOf u us ++ grdOf x xs) (Jz3 K.K (isTup t) (isTup u) (isTup x) a b c) := by
  have key : ∀ φ ψ H M, Tr φ0 ψ0 H0 φ ψ H → RM K φ ψ H M → Grd (grdOf t ts ++ grdOf u us ++ grdOf x xs) M → ∃ vs ws zs, SqB K.K (isTup t) H a vs ∧ RTs K φ ψ H ts vs ∧ SqB K.K (isTup u) H b ws ∧ RTs K φ ψ H us ws ∧ SqB K.K (isTup x) H c zs ∧ RTs K φ ψ H xs zs := fun φ ψ H M x' rm hg => by
    obtain ⟨a', vs, e1, h1, h2⟩ := src_ok h e x' rm hg fun p hp => List.mem_append_left _ (List.mem_append_left _ hp)
    obtain ⟨b', ws, e2, h3, h4⟩ := src_ok h' e' x' rm hg fun p hp => List.mem_append_left _ (List.mem_append_right _ hp)
    obtain ⟨c', zs, e3, h5, h6⟩ := src_ok h'' e'' x' rm hg fun p hp => List.mem_append_right _ hp
    cases e1
    cases e2
    cases e3
    exact ⟨vs, ws, zs, h1, h2, h3, h4, h5, h6⟩
  have hl : (List.zipWith (fun x (p : T × T) => T.tup [x, p.1, p.2]) ts (us.zip xs)).length = min ts.length (min us.length xs.length) := by rw [List.length_zipWith, List.length_zip]
  refine ⟨fun i φ ψ H M hi x' rm hg => ?_, fun φ ψ H M x' rm hg => ?_, fun i φ ψ H M y H' hi x' rm hg hy => ?_⟩
  · obtain ⟨vs, ws, zs, h1, h2, h3, h4, h5, h6⟩ := key φ ψ H M x' rm hg
    rw [hl] at hi
    exact ⟨vs, ws, zs, h1, h3, h5, by rw [← h2.length, ← h4.length, ← h6.length]; omega⟩
  · obtain ⟨vs, ws, zs, h1, h2, h3, h4, h5, h6⟩ := key φ ψ H M x' rm hg
    exact ⟨vs, ws, zs, h1, h3, h5, by rw [hl, h2.length, h4.length, h6.length]; omega⟩
  · obtain ⟨vs, ws, zs, h1, h2, h3, h4, h5, h6⟩ := key φ ψ H M x' rm hg
    rw [hl] at hi
    have i1 : i < ts.length := by omega
    have i2 : i < us.length := by omega
    have i3 : i < xs.length := by omega
    obtain ⟨v, hv, hr⟩ := h2.get (List.getElem?_eq_getElem i1)
    obtain ⟨w, hw, hr2⟩ := h4.get (List.getElem?_eq_getElem i2)
    obtain ⟨w', hw', hr3⟩ := h6.get (List.getElem?_eq_getElem i3)
    obtain ⟨p, qs, rfl, hp, rfl, hits⟩ := hy
    obtain ⟨x', y', u', hx', hy', hu', rfl⟩ := hits vs ws zs h1 h3 h5
    rw [hv] at hx'; cases hx'
    rw [hw] at hy'; cases hy'
    rw [hw'] at hu'; cases hu'
    have xx : Ext φ H φ (upd H p (.tup [v, w, w'])) := .new hp (rm.fresh hp)
    exact ⟨_, zip3_get ts us xs i _ _ _ (List.getElem?_eq_getElem i1) (List.getElem?_eq_getElem i2) (List.getElem?_eq_getElem i3), xx, rm.new hp, .tup (.inl ⟨fre_new rm hp, upd_same⟩) (.cons (hr.to xx) (.cons (hr2.to xx) (.cons (hr3.to xx) .nil)))⟩
theorem s_zip3 {a b c : ME} (ha : SE G K k a) (hb : SE G K k b) (hc : SE G K k c) : SI G K k (.zip3 a b c) := by
  intro N sc ow X tg e g h
  unfold okI at h
  split at h <;> (try cases h) <;> rename_i q <;> cases q
  simp only [Bool.and_eq_true, decide_eq_true_eq] at h
  obtain ⟨⟨⟨⟨⟨⟨⟨rfl, h0⟩, h1⟩, h1'⟩, h1''⟩, h2⟩, h3⟩, h4⟩ := h
  obtain ⟨hg, hd⟩ := gl_of g h0
  refine PI.imp (pi_z3 hg (gc_blt g (by decide)) (pa_cons (ha N sc ow X _ g h2).1 (pa_cons (hb N sc ow X _ g h3).1 (pa_cons (hc N sc ow X _ g h4).1 pa_nil (star_cons h1'')) (star_cons h1')) (star_cons h1)) (star_cons h1) (back_any (by rw [List.all_cons, List.all_cons, h1', h1'']; rfl))) fun σ H R ⟨φ, ψ, env, M, p, M', re, rm, ev, ok⟩ => ?_
  rw [evI] at ev
  obtain ⟨q, e1, ev⟩ := bnd ev
  obtain ⟨r, e2, ev⟩ := bnd ev
  obtain ⟨s, e3, ev⟩ := bnd ev
  obtain ⟨xs, e4, ev⟩ := bnd ev
  obtain ⟨ys, e5, ev⟩ := bnd ev
  obtain ⟨zs, e6, ev⟩ := mpd ev
  cases ev
  refine ⟨φ, ψ, env, M, q.1, q.2, re, rm, e1, fun φ1 H1 v x1 rm1 r1 => ⟨φ1, ψ, env, q.2, r.1, r.2, re.ext x1, rm1, e2, fun φ2 H2 w x2 rm2 r2 => ⟨φ2, ψ, env, r.2, s.1, s.2, (re.ext x1).ext x2, rm2, e3, fun φ3 H3 u x3 rm3 r3 => ?_⟩⟩⟩
  have r1' := r1.to (x2.trans x3)
  have r2' := r2.to x3
  obtain ⟨a', vs, rfl, h4, h5⟩ := sq_of g.hK rm3 r1' e4
  obtain ⟨b', us, rfl, h6, h7⟩ := sq_of g.hK rm3 r2' e5
  obtain ⟨c', ws, rfl, h8, h9⟩ := sq_of g.hK rm3 r3 e6
  refine ⟨a', b', c', isTup q.1, isTup r.1, isTup s.1, vs, us, ws, rfl, h4, h6, h8, ok φ3 H3 _ (x1.trans (x2.trans x3)) rm3 ?_⟩
  have := walk_z3 (K := K) r1' r2' r3 e4 e5 e6
  rw [g.hK] at this
  exact this
end Mi
end L2

/-! Mini: dict comprehensions; do statements stand for the text. -/
namespace L2
namespace Mi
open PySem PySem.Spec PyProof.Rows
variable {G : Sig} {K : KC} {k : Nat}
/-! ### dict comprehensions -/
def CDd (K : KC) (ψ : List Addr) (D : Addr) (acc : List T) (φ : List Addr) (H : Hp) : Prop :=
  acc.length % 2 = 0 ∧ ∃ kvs : List (Key × V), H D = some (.dK kvs) ∧ (dcPut acc ([], [])).1 = kvs.map (fun p => keyT p.1) ∧ RTs K φ (D :: ψ) H (dcPut acc ([], [])).2 (kvs.map (·.2)) ∧ kvs.length ≤ acc.length
theorem CDd.ext {ψ : List Addr} {D : Addr} {acc : List T} {φ φ' : List Addr} {H H' : Hp} (hD : D ∉ φ) (h : CDd K ψ D acc φ H) (x : Ext φ H φ' H') : CDd K ψ D acc φ' H' := by
  obtain ⟨h0, kvs, h1, h2, h3, h4⟩ := h
  exact ⟨h0, kvs, (x.keep D _ hD h1).2, h2, h3.to x, h4⟩
theorem dcPut_app : ∀ (acc : List T) (a : List T × List T) (k v : T), acc.length % 2 = 0 → dcPut (acc ++ [k, v]) a = putD (dcPut acc a).1 (dcPut acc a).2 k v
  | [], a, k, v, _ => rfl
  | [x], a, k, v, h => by simp at h
  | x :: y :: r, a, k, v, h => by
    show dcPut (x :: y :: (r ++ [k, v])) a = _
    rw [dcPut, dcPut]
    exact dcPut_app r _ k v (by simp only [List.length_cons] at h; omega)
theorem putK_len {κ : Type} [DecidableEq κ] (kvs : List (κ × V)) (k : κ) (v : V) : (putK kvs k v).length ≤ kvs.length + 1 := by
  unfold putK
  split
  · rw [List.length_map]; omega
  · rw [List.length_append]; simp
def Lim1 (l : List T) : Prop := l.length ≤ 1000000
theorem lim1 : ∀ a b, Lim1 (a ++ b) → Lim1 a := fun a b h => by unfold Lim1 at h ⊢; rw [List.length_append] at h; omega
noncomputable def stepD (G : Sig) (tg : MT) (k v : ME) (env : En) (t : T) (M : Mem) : Option (List T × Mem) :=
  (asgT tg t env).bind fun σ2 => (evE G k σ2 M).bind fun a => (evE G v σ2 a.2).bind fun b => if isKey a.1 then some ([a.1, b.1], b.2) else none
theorem stepDEq (own : List (Str × Nat)) (tg : MT) (it : MI) (kx vx : ME) (σ : En) (M : Mem) : evE G (.dc own tg it kx vx) σ M = (evI G it σ M).bind fun p =>
      (lcC p.1.2 (stepD G tg kx vx (wipeE σ (own.map (·.2)))) p.1.1 p.2).bind fun q => if q.1.length ≤ 1000000 then some (.fd false (dcPut q.1 ([], [])).1 (dcPut q.1 ([], [])).2, q.2) else none := by
  rw [evE]; rfl
theorem rd_dc {own : List (Str × Nat)} {tg : MT} {it : MI} {kx vx : ME} (hv : ∀ j ∈ slT' tg, j ∈ own.map (·.2)) {σ : L2.St} {H : Hp} {Q : VK} (h : tE G K (.dc own tg it kx vx) σ H Q) :
    tDc (iM G K it) (gM K tg) tYes (tE G K kx) (tE G K vx) (own.map (·.2)) σ H Q := by
  obtain ⟨φ, ψ, env, M, t, M', re, rm, ev, ok⟩ := h
  rw [stepDEq] at ev
  obtain ⟨p, e1, ev⟩ := bnd ev
  obtain ⟨q, e2, ev⟩ := bnd ev
  split at ev
  case isFalse => cases ev
  rename_i hl
  have ev := Option.some.inj ev
  refine ⟨φ, ψ, env, M, p.1, p.2, re, rm, e1, fun φ1 H1 J x1 rm1 hw D hD => ?_⟩
  have re1 : RE K φ1 (D :: ψ) (upd H1 D (.dK [])) (wipeE env (own.map (·.2))) (wipe σ (own.map (·.2))) := ((re.ext x1).tr (.resv hD)).wipe _
  refine loop_ok (CD := CDd K ψ D) (Lim := Lim1) (acc0 := []) hw (fun φ' H' x => x.tr0 hD) (fun acc φ H φ' H' hD h x => h.ext hD x) (rm1.resv hD) ⟨rfl, [], upd_same, rfl, .nil, Nat.zero_le _⟩ e2 lim1 (by rw [List.nil_append]; exact hl)
    (fun φ' H' M1 t' x o M2 acc Nx x2 rm2 hc rt hs hl hN => ?_) fun φ' H' x2 rm2 hc => ?_
  · obtain ⟨env2, e1, hs⟩ := bnd hs
    obtain ⟨a, e2, hs⟩ := bnd hs
    obtain ⟨b, e3, hs⟩ := bnd hs
    split at hs
    case isFalse => cases hs
    rename_i hkey
    have hs := Option.some.inj hs
    have ho : o = [a.1, b.1] := (congrArg Prod.fst hs).symm
    have hM : b.2 = M2 := congrArg Prod.snd hs
    subst ho
    have hDn : D ∉ φ' := fun hm => rm2.ap D hm List.mem_cons_self
    refine ⟨φ', D :: ψ, _, M1, t', env2, re1.tr (x2.tr ψ), rm2, rt, e1, fun σ2 re2 ag => ⟨by rw [ag.wipe hv, wipe_wipe], ?_⟩⟩
    show tE G K kx σ2 H' _
    refine ⟨φ', D :: ψ, env2, M1, a.1, a.2, re2, rm2, e2, fun φ3 H3 y x3 rm3 r3 => ⟨φ3, D :: ψ, env2, a.2, b.1, b.2, re2.ext x3, rm3, e3, fun φ4 H4 z x4 rm4 r4 => ?_⟩⟩
    obtain ⟨ky, ek, ey⟩ := key_of_isKey hkey r3
    obtain ⟨h0, kvs, h1, h2, h3, h4⟩ := hc.ext hDn (x3.trans x4)
    refine ⟨kvs, ky, ey, h1, ?_, hN φ4 _ ((XD.of (x3.trans x4)).trans .upd) (hM ▸ rm4.resw) ?_⟩
    · rw [szl]
      unfold Lim1 at hl
      rw [List.length_append] at hl
      omega
    · obtain ⟨p1, p2⟩ := putD_ok (fun a b => keyT_inj) ky r4 h3
      rw [← h2, ← ek, ← dcPut_app acc _ _ _ h0] at p1 p2
      refine ⟨by rw [List.length_append]; show (acc.length + 2) % 2 = 0; omega, _, upd_same, p1, RTs.tr .resw _ _ p2, ?_⟩
      have := putK_len kvs ky z
      rw [List.length_append]
      show _ ≤ acc.length + 2
      omega
  · rw [List.nil_append] at hc
    obtain ⟨h0, kvs, h1, h2, h3, h4⟩ := hc
    have e4 : t = .fd false (dcPut q.1 ([], [])).1 (dcPut q.1 ([], [])).2 := (congrArg Prod.fst ev).symm
    have e5 : q.2 = M' := congrArg Prod.snd ev
    rw [e4, ← e5] at ok
    exact ok φ' H' _ (x1.trans (x2.ext hD)) rm2.unres (.fdK ⟨fun hm => rm2.ap D hm List.mem_cons_self, fun hm => rm1.used D hm hD⟩ h1 h2 (RTs.tr .unres _ _ h3))
theorem s_dc {own : List (Str × Nat)} {tg : MT} {it : MI} {kx vx : ME} (hi : SI G K k it) (hg : SG G K k tg) (hk' : SE G K k kx) (he : SE G K k vx) : SE G K k (.dc own tg it kx vx) := by
  intro N sc ow X e g h
  unfold okE at h
  split at h <;> (try cases h) <;> rename_i q <;> cases q
  simp only [Bool.and_eq_true] at h
  obtain ⟨⟨⟨⟨⟨⟨⟨h1, h2⟩, h3⟩, h4⟩, h5⟩, h6⟩, h7⟩, h8⟩ := h
  have hk := blk_kind h1
  exact se_of g.hK (PE.imp (pe_dc g.hc (by rw [g.hN]; exact g.nd) (hi N sc ow X _ _ g h4) (by rw [g.hN, g.sc_]; exact blkOk_by h1) (fun s H C cl fp => hg _ _ _ _ _ (g.blk hk h2) h5) (fun s H C cl fp => pts_nil)
    (fun s H C cl fp => (hk' _ _ _ _ _ (g.blk hk h2) h7).1) (fun s H C cl fp => (he _ _ _ _ _ (g.blk hk h2) h8).1) (fold_set h3)) fun σ H Q q => rd_dc (all_mem h6) q) rfl
theorem ps_setDc {X : Cx} {i : Nat} {y : Str} {py : Pos} {kx vx tg iter : Expr} {ifs : List Expr} {scope : Scope} {own : List (Str × Nat)} {pos spos : Pos} {wi : TI} {g : TG} {tt : TT} {tk tv : TE} (hc : X.calm = true) (hN : X.N.Nodup) (hy : X.N[i]? = some y) (hyl : X.env.scope.names.lookup y = some .local)
    (hsw : swapsWith (.DictComp kx vx [⟨tg, iter, ifs, 0⟩] scope pos) (some (.Name y py)) spos.line X.env = pure true) (hi : PI X tg iter wi) (ok : BlkOk X.N X.env.scope scope own)
    (hg : ∀ (s : Shared) (H : Hp) (C : Addr) (cl : List (Str × Addr)) (fp : List Addr), PG (X.blk s H scope (compEnvC scope cl C X.env) fp) tg g) (ht : ∀ (s : Shared) (H : Hp) (C : Addr) (cl : List (Str × Addr)) (fp : List Addr), PTs (X.blk s H scope (compEnvC scope cl C X.env) fp) ifs tt)
    (hk : ∀ (s : Shared) (H : Hp) (C : Addr) (cl : List (Str × Addr)) (fp : List Addr), PE (X.blk s H scope (compEnvC scope cl C X.env) fp) kx tk)
    (he : ∀ (s : Shared) (H : Hp) (C : Addr) (cl : List (Str × Addr)) (fp : List Addr), PE (X.blk s H scope (compEnvC scope cl C X.env) fp) vx tv) (hs : ∀ x, foldedSetIterable iter X.env x = pure x) :
    PS X (.Assign [.Name y py] (.DictComp kx vx [⟨tg, iter, ifs, 0⟩] scope pos) spos) (tAsg (tDc wi g tt tk tv (own.map (·.2))) (gName i)) := by
  refine ⟨fun pins s σ H D I h => ?_⟩
  rw [exec_Assign_Name_used _ _ _ _ hsw]
  refine wpAny_bind (wpAny_standAt (wpAny_bind ?_))
  show wpAny _ X.A (do let _ ← comprehension (.DictComp kx vx [⟨tg, iter, ifs, 0⟩] scope pos) scope X.env (firstIterPos [⟨tg, iter, ifs, 0⟩] pos) newDict false (eval iter X.env) (some (assign (.Name y py) X.env))) _ _ s
  have h : tDc wi g tt tk tv (own.map (·.2)) σ H (fun x H1 => gName i x σ H1 D.nx) := h
  refine wpAny_bind (thn (dc_core (Qf := fun _ s' => SP X pins D .next s') hc hN I hi ok hg ht hk he hs h fun L C s' m H' I' q hn f => ?_) fun _ s' hq => wpAny_pure (wpAny_pure hq))
  show wpAny _ _ (assign (.Name y py) X.env (.ref L)) _ _ _
  refine wpAny_assign_Name (store_ok2 (v := V.ref L) I' hN hy (.inl hyl) rfl (fun s2 I2 ⟨a, sb, ha⟩ => ?_) (.inr hyl))
  obtain ⟨f0, f1, f2, f3, f4, f5⟩ := f
  have haC : C ≠ a := by
    rcases ha with z | z
    · rw [z]; exact f1
    · exact fun e => f4 y a z e.symm
  refine ⟨m, hn.sameBut sb haC, fun h3 sb3 => ?_⟩
  exact ⟨_, H', I2.turned (t' := s2.toks) (fun b o hb e => (sb3.2 b hb).trans e) f0 f1 f3 f4 f5, q⟩
theorem s_setdc {own : List (Str × Nat)} {tg : MT} {it : MI} {kx vx : ME} (hi : SI G K k it) (hg : SG G K k tg) (hk' : SE G K k kx) (he : SE G K k vx) {N : List Str} {sc : Scope} {ow : List Str} {X : Cx} {e : Expr} {i : Nat} {y : Str} {py spos : Pos} (g : GC G K k N sc ow X)
    (h : okE N sc (.dc own tg it kx vx) e = true) (hy : N[i]? = some y) (hl : sc.names.lookup y = some .local) (hsw : swapsWith e (some (.Name y py)) spos.line X.env = pure true) :
    PS X (.Assign [.Name y py] e spos) (tAsg (tE G K (.dc own tg it kx vx)) (gName i)) := by
  unfold okE at h
  split at h <;> (try cases h) <;> rename_i q <;> cases q
  simp only [Bool.and_eq_true] at h
  obtain ⟨⟨⟨⟨⟨⟨⟨h1, h2⟩, h3⟩, h4⟩, h5⟩, h6⟩, h7⟩, h8⟩ := h
  have hk := blk_kind h1
  exact PS.imp (ps_setDc g.hc (by rw [g.hN]; exact g.nd) (by rw [g.hN]; exact hy) (by rw [g.sc_]; exact hl) hsw (hi N sc ow X _ _ g h4) (by rw [g.hN, g.sc_]; exact blkOk_by h1) (fun s H C cl fp => hg _ _ _ _ _ (g.blk hk h2) h5) (fun s H C cl fp => pts_nil)
    (fun s H C cl fp => (hk' _ _ _ _ _ (g.blk hk h2) h7).1) (fun s H C cl fp => (he _ _ _ _ _ (g.blk hk h2) h8).1) (fold_set h3)) fun D σ H q => rd_dc (all_mem h6) q
/-! ### all terms -/
mutual
theorem sE : ∀ m : ME, SE G K k m
  | .var _ _ => s_var
  | .glb _ => s_glb
  | .non => s_non
  | .bl _ => s_bl
  | .int _ => s_int
  | .str _ => s_str
  | .bin _ _ a b => s_bin (sE a) (sE b)
  | .neg a => s_neg (sE a)
  | .not a => s_not (sE a)
  | .one a => s_one (sE a)
  | .and a b => s_and (sE a) (sE b)
  | .or a b => s_or (sE a) (sE b)
  | .cmp _ a b => s_cmp (sE a) (sE b)
  | .ife c a b => s_ife (sE c) (sE a) (sE b)
  | .call _ es => s_call (sA es)
  | .bi _ es => s_bi (sA es)
  | .isi a _ => s_isi (sE a)
  | .mcall _ o _ es => s_mcall (sE o) (sA es)
  | .bm _ o es => s_bm (sE o) (sA es)
  | .mk _ es => s_mk (sA es)
  | .ix a b => s_ix (sE a) (sE b)
  | .slc _ a lo hi => s_slc (sE a) (s_pa lo (sE lo)) (s_pa hi (sE hi))
  | .nopart => fun _ _ _ _ _ _ h => by simp [okE] at h
  | .rev _ a => s_rev (sE a)
  | .att _ o _ => s_att (sE o)
  | .tup es => s_tup (sA es)
  | .lst _ es => s_lst (sA es)
  | .lc _ _ tg it ifs elt => s_lc (sI it) (sT tg) (sIf ifs) (sE elt)
  | .lc2 _ _ tg it ifs _ tg1 it1 ifs1 elt => s_lc2 (sI it) (sT tg) (sIf ifs) (sI it1) (sT tg1) (sIf ifs1) (sE elt)
  | .dnew _ => s_dnew
  | .dc _ tg it kx vx => s_dc (sI it) (sT tg) (sE kx) (sE vx)
  | .sset a => s_sset (sE a)
  | .lset a => s_lset (sE a)
  | .rtup a => s_rtup (sE a)
  | .rlst _ a => s_rlst (sE a)
  | .dlit es => s_dlit (sKV es)
  | .dget d x y => s_dget (sE d) (sE x) (sE y)
  | .dsd d x y => s_dsd (sE d) (sE x) (sE y)
  | .skc q a => s_skc (sE a)
  | .sko q i x a => s_sko (sE a)
  | .spr a => s_spr (sE a)
theorem sKV : ∀ ms : MEs, SKV G K k ms
  | .nil => s_kv0
  | .cons _ .nil => s_kv1
  | .cons a (.cons b r) => s_kv2 (sE a) (sE b) (sKV r)
theorem sA : ∀ ms : MEs, SA G K k ms
  | .nil => s_nil
  | .cons e es => s_cons (sE e) (sA es)
theorem sIf : ∀ ms : MEs, SIf G K k ms
  | .nil => s_if0
  | .cons e .nil => s_if1 (sE e)
  | .cons _ (.cons _ _) => s_if2
theorem sI : ∀ m : MI, SI G K k m
  | .over a => s_over (sE a)
  | .rng1 a => s_rng1 (sE a)
  | .rng2 a b => s_rng2 (sE a) (sE b)
  | .enum a => s_enum (sE a)
  | .zip2 a b => s_zip2 (sE a) (sE b)
  | .zip3 a b c => s_zip3 (sE a) (sE b) (sE c)
theorem sT : ∀ m : MT, SG G K k m
  | .nm _ _ => s_nm
  | .tp ts => s_tp (sTs ts)
theorem sTs : ∀ m : MTs, SGs G K k m
  | .nil => s_tn
  | .cons t ts => s_tc (sT t) (sTs ts)
end
end Mi
end L2

/-! Mini: statements are sound. -/
namespace L2
namespace Mi
open PySem PySem.Spec PyProof.Rows
variable {G : Sig} {K : KC} {k : Nat}
def swC (sc : Scope) (t : Str) (pos : Pos) : Expr → Bool
  | .ListComp _ _ scope p => (sc.names.lookup t == some .local) && (pos.line == p.line) && !(scope.names.any fun (n, k) => n == t && (k == .local || k == .cell))
  | .DictComp _ _ _ scope p => (sc.names.lookup t == some .local) && (pos.line == p.line) && !(scope.names.any fun (n, k) => n == t && (k == .local || k == .cell))
  | .SetComp _ _ scope p => (sc.names.lookup t == some .local) && (pos.line == p.line) && !(scope.names.any fun (n, k) => n == t && (k == .local || k == .cell))
  | _ => false
theorem sw_eq {v : Expr} {t : Str} {pos : Pos} {l : Nat} {env : Env} (hk : env.scope.kind = .function) : swapsWith v (some (.Name t pos)) l env = pure (swC env.scope t pos v) := by
  have hb : env.blockKind = .function := by unfold Env.blockKind; rw [hk]; rfl
  cases v with
  | ListComp a b scope p => unfold swapsWith; simp only [hb, swC, Env.kindOf, Expr.pos]; rfl
  | DictComp a b c scope p => unfold swapsWith; simp only [hb, swC, Env.kindOf, Expr.pos]; rfl
  | SetComp a b scope p => unfold swapsWith; simp only [hb, swC, Env.kindOf, Expr.pos]; rfl
  | _ => rfl
def isLc : ME → Bool
  | .lc _ _ _ _ _ _ => true
  | .lc2 _ _ _ _ _ _ _ _ _ _ => true
  | .dc _ _ _ _ _ => true
  | _ => false
def locC (sc : Scope) (x : Str) : Bool := match sc.names.lookup x with
  | some .local => true
  | _ => false
/-- a tuple of targets that are not all plain locals: stored one by one -/
def cellT (sc : Scope) : Expr → Bool
  | .Tuple ts _ _ => ts.any fun e => match e with
    | .Name x _ => !locC sc x
    | _ => false
  | _ => false
theorem filterMap_lt {α β : Type} {f : α → Option β} : ∀ {l : List α} {a : α}, a ∈ l → f a = none → (l.filterMap f).length < l.length
  | x :: l, a, h, hf => by
    rcases List.mem_cons.mp h with rfl | h
    · rw [List.filterMap_cons_none hf, List.length_cons]
      have := List.length_filterMap_le f l
      omega
    · have := filterMap_lt h hf
      rw [List.filterMap_cons]
      cases f x with
      | none => simp only [List.length_cons]; omega
      | some y => simp only [List.length_cons]; omega
theorem st_cell {t e : Expr} {env : Env} (h : cellT env.scope t = true) : swappedStores [t] e env = pure none := by
  unfold swappedStores
  cases t with
  | Tuple ts k p =>
    cases e with
    | Tuple vs k2 p2 =>
      obtain ⟨x, hx, hn⟩ := List.any_eq_true.mp h
      simp only
      split
      · rfl
      · split
        · rfl
        · have hlt := filterMap_lt (f := fun e => match e with
            | .Name id pos => if (env.kindOf id == some .local && pos.line == (Option.map (fun x => x.pos.line) ts.head?).getD 0) = true then some id else none
            | _ => none) hx (by
            cases x with
            | Name y q =>
              simp only [Bool.not_eq_true'] at hn
              simp only
              rw [if_neg]
              intro hc
              rw [Bool.and_eq_true] at hc
              have h1 : env.scope.names.lookup y = some .local := by
                have := hc.1
                exact eq_of_beq this
              unfold locC at hn
              rw [h1] at hn
              cases hn
            | _ => rfl)
          split
          · rfl
          · rename_i hc
            exfalso
            apply hc
            rw [Bool.or_eq_true]
            left
            rw [bne_iff_ne]
            exact Nat.ne_of_lt hlt
    | _ => rfl
  | _ => cases h
mutual
def okS (N : List Str) (sc : Scope) (ow : List Str) : MS → Stmt → Bool
  | .set i x e, .Assign [.Name y py] v _ => decide (x = y) && decide (N[i]? = some y) && decide (y ∈ ow) && okE N sc e v && (if swC sc y py v = true then isLc e && locC sc y else true)
  | .asg t e, .Assign [tg] v _ => notStar tg && !isName tg && (notTup v || cellT sc tg) && okT' N ow t tg && okE N sc e v
  | .par [(i, x), (j, y)] es, .Assign [.Tuple [.Name x' px, .Name y' py] _ _] (.Tuple [a, b] _ _) _ => decide (x = x') && decide (y = y') && decide (N[i]? = some x) && decide (N[j]? = some y) && !decide (i = j) && !decide (x = y) && locC sc x && locC sc y &&
      decide (py.line = px.line) && [a, b].all notStar && !([a, b].all (foldedForSure 8)) && !([a, b].all (constantsAlone 8)) && okEs N sc es [a, b]
  | .par [(i, x), (j, y), (l, z)] es, .Assign [.Tuple [.Name x' px, .Name y' py, .Name z' pz] _ _] (.Tuple [a, b, c] _ _) _ => decide (x = x') && decide (y = y') && decide (z = z') && decide (N[i]? = some x) && decide (N[j]? = some y) && decide (N[l]? = some z) &&
      !decide (i = j) && !decide (i = l) && !decide (j = l) && !decide (x = y) && !decide (x = z) && !decide (y = z) && locC sc x && locC sc y && locC sc z &&
      decide (py.line = px.line) && decide (pz.line = px.line) && [a, b, c].all notStar && !([a, b, c].all (foldedForSure 8)) && !([a, b, c].all (constantsAlone 8)) && okEs N sc es [a, b, c]
  | .setI o i e, .Assign [.Subscript x y _] v _ => notSl y && okE N sc o x && okE N sc i y && okE N sc e v
  | .setA _ o f e, .Assign [.Attribute x g _] v _ => decide (f = g) && okE N sc o x && okE N sc e v
  | .aug i x op e, .AugAssign (.Name y _) o v _ => decide (x = y) && decide (N[i]? = some y) && decide (y ∈ ow) && decide (op = o) && (decide (op = .Add) || decide (op = .Sub)) && okE N sc e v
  | .augI o i op e, .AugAssign (.Subscript x y _) o' v _ => notSl y && decide (op = o') && (decide (op = .Add) || decide (op = .Sub)) && okE N sc o x && okE N sc i y && okE N sc e v
  | .ex e, .Expr v _ => notComp v && okE N sc e v
  | .ret e, .Return (some v) _ => okE N sc e v
  | .retN, .Return none _ => true
  | .ite c a b, .If x y z _ => okE N sc c x && okSs N sc ow a y && okSs N sc ow b z
  | .whl c b, .While x y [] _ => okE N sc c x && okSs N sc ow b y
  | .for t it b, .For tg x y [] _ => notSet x && okI N sc it tg x && okT' N ow t tg && okSs N sc ow b y
  | .brk, .Break _ => true
  | .cnt, .Continue _ => true
  | .pas, .Pass _ => true
  | _, _ => false
def okSs (N : List Str) (sc : Scope) (ow : List Str) : List MS → List Stmt → Bool
  | [], [] => true
  | s :: ss, t :: ts => okS N sc ow s t && okSs N sc ow ss ts
  | _, _ => false
end
def SSt (G : Sig) (K : KC) (k : Nat) (m : MS) : Prop := ∀ (N : List Str) (sc : Scope) (ow : List Str) (X : Cx) (e : Stmt), GC G K k N sc ow X → okS N sc ow m e = true → PS X e (tS G K m)
def SSs (G : Sig) (K : KC) (k : Nat) (m : List MS) : Prop := ∀ (N : List Str) (sc : Scope) (ow : List Str) (X : Cx) (e : List Stmt), GC G K k N sc ow X → okSs N sc ow m e = true → PSs X e (tSs G K m)
section
variable {N : List Str} {sc : Scope} {ow : List Str} {X : Cx}
theorem GC.n (g : GC G K k N sc ow X) : X.N.Nodup := by rw [g.hN]; exact g.nd
theorem GC.ix (g : GC G K k N sc ow X) {i : Nat} {x : Str} (h : N[i]? = some x) : X.N[i]? = some x := by rw [g.hN]; exact h
theorem GC.lo (g : GC G K k N sc ow X) {x : Str} (h : x ∈ ow) : Loc X.env.scope x := by rw [g.sc_]; exact (g.st x h).1
theorem GC.fn' (g : GC G K k N sc ow X) {x : Str} (h : x ∈ ow) : X.fn x = true ∨ X.env.scope.names.lookup x = some .local := by rw [g.sc_]; exact (g.st x h).2
theorem GC.kd' (g : GC G K k N sc ow X) : X.env.scope.kind = .function := by rw [g.sc_]; exact g.kd
theorem GC.lc (g : GC G K k N sc ow X) {x : Str} (h : locC sc x = true) : X.env.scope.names.lookup x = some .local := by
  rw [g.sc_]
  unfold locC at h
  split at h
  · assumption
  · cases h
end
theorem t_set {i : Nat} {x : Str} {e : ME} {D : Ends} {σ : L2.St} {H : Hp} (h : tS G K (.set i x e) D σ H) : tAsg (tE G K e) (gName i) D σ H := by
  obtain ⟨φ, ψ, env, M, r, re, rm, ev, po⟩ := h
  rw [exS] at ev
  obtain ⟨p, e1, ev⟩ := mpd ev
  cases ev
  exact ⟨φ, ψ, env, M, p.1, p.2, re, rm, e1, fun φ1 H1 v x1 rm1 r1 => po φ1 H1 _ x1 rm1 ((re.ext x1).set r1)⟩
theorem s_set {i : Nat} {x : Str} {e : ME} : SSt G K k (.set i x e) := by
  intro N sc ow X st g h
  unfold okS at h
  split at h <;> (try cases h) <;> rename_i q <;> cases q
  simp only [Bool.and_eq_true, decide_eq_true_eq] at h
  obtain ⟨⟨⟨⟨rfl, h1⟩, h2⟩, h3⟩, h4⟩ := h
  rename_i py v pos
  refine PS.imp ?_ fun D σ H => t_set
  have hsw : swapsWith v (some (.Name x py)) pos.line X.env = pure (swC sc x py v) := by rw [sw_eq g.kd', g.sc_]
  cases hb : swC sc x py v with
  | false =>
    rw [hb] at hsw
    exact ps_set g.n (g.ix h1) (g.lo h2) (sE e N sc ow X v g h3).1 hsw (g.fn' h2)
  | true =>
    rw [hb] at hsw
    rw [hb, if_pos rfl, Bool.and_eq_true] at h4
    have hl : sc.names.lookup x = some .local := by have := g.lc h4.2; rwa [g.sc_] at this
    cases e with
    | lc tr own tg it ifs elt => exact s_setlc (sI it) (sT tg) (sIf ifs) (sE elt) g h3 h1 hl hsw
    | lc2 tr own tg it ifs vs1 tg1 it1 ifs1 elt => exact s_setlc2 (sI it) (sT tg) (sIf ifs) (sI it1) (sT tg1) (sIf ifs1) (sE elt) g h3 h1 hl hsw
    | dc own tg it kx vx => exact s_setdc (sI it) (sT tg) (sE kx) (sE vx) g h3 h1 hl hsw
    | _ => exact absurd h4.1 Bool.false_ne_true
theorem s_asg {t : MT} {e : ME} : SSt G K k (.asg t e) := by
  intro N sc ow X st g h
  unfold okS at h
  split at h <;> (try cases h) <;> rename_i q <;> cases q
  simp only [Bool.and_eq_true, Bool.not_eq_true'] at h
  obtain ⟨⟨⟨⟨h0, h1⟩, h2⟩, h3⟩, h4⟩ := h
  refine PS.imp (ps_asg (sE e N sc ow X _ g h4).1 (sT t N sc ow X _ g h3) (sw_tgt h1) (by
    rcases (Bool.or_eq_true _ _).mp h2 with h2 | h2
    · exact st_none (.inr h2)
    · exact st_cell (by rw [g.sc_]; exact h2)) (by rw [assign_cons h0]; rfl)) fun D σ H ⟨φ, ψ, env, M, r, re, rm, ev, po⟩ => ?_
  rw [exS] at ev
  obtain ⟨p, e1, ev⟩ := bnd ev
  obtain ⟨env1, e2, ev⟩ := mpd ev
  cases ev
  exact ⟨φ, ψ, env, M, p.1, p.2, re, rm, e1, fun φ1 H1 v x1 rm1 r1 => ⟨φ1, ψ, env, p.2, p.1, env1, re.ext x1, rm1, r1, e2, fun σ' re' _ => po φ1 H1 σ' x1 rm1 re'⟩⟩
theorem s_par {xs : List (Nat × Str)} {es : MEs} : SSt G K k (.par xs es) := by
  intro N sc ow X st g h
  unfold okS at h
  split at h <;> (try cases h) <;> rename_i q <;> cases q
  · simp only [Bool.and_eq_true, decide_eq_true_eq, Bool.not_eq_true', decide_eq_false_iff_not] at h
    obtain ⟨⟨⟨⟨⟨⟨⟨⟨⟨⟨⟨⟨rfl, rfl⟩, h1⟩, h2⟩, h3⟩, h4⟩, h5⟩, h6⟩, h7⟩, h8⟩, h9⟩, h10⟩, h11⟩ := h
    refine PS.imp (ps_par g.hc g.n (g.ix h1) (g.ix h2) h3 (g.lc h5) (g.lc h6) (sA es N sc ow X _ g h11) (sw2 g.kd' (g.lc h5) (g.lc h6) h7 h4 h8 h9 h10)) fun D σ H ⟨φ, ψ, env, M, r, re, rm, ev, po⟩ => ?_
    rw [exS] at ev
    obtain ⟨p, e1, ev⟩ := bnd ev
    split at ev
    case isFalse => cases ev
    rename_i hl
    cases ev
    refine ⟨φ, ψ, env, M, p.1, p.2, re, rm, e1, fun φ1 H1 vs x1 rm1 r1 => ?_⟩
    generalize p.1 = us at *
    match us, vs, r1, hl with
    | [u, v], [a, b], .cons ra (.cons rb .nil), _ => exact ⟨a, b, rfl, po φ1 H1 _ x1 rm1 (((re.ext x1).set ra).set rb)⟩
  · simp only [Bool.and_eq_true, decide_eq_true_eq, Bool.not_eq_true', decide_eq_false_iff_not] at h
    obtain ⟨⟨⟨⟨⟨⟨⟨⟨⟨⟨⟨⟨⟨⟨⟨⟨⟨⟨⟨⟨rfl, rfl⟩, rfl⟩, h1⟩, h2⟩, h2'⟩, h3⟩, h3'⟩, h3''⟩, h4⟩, h4'⟩, h4''⟩, h5⟩, h6⟩, h6'⟩, h7⟩, h7'⟩, h8⟩, h9⟩, h10⟩, h11⟩ := h
    refine PS.imp (ps_par3 g.hc g.n (g.ix h1) (g.ix h2) (g.ix h2') h3 h3' h3'' (g.lc h5) (g.lc h6) (g.lc h6') (sA es N sc ow X _ g h11) (sw3 g.kd' (g.lc h5) (g.lc h6) (g.lc h6') h7 h7' h4 h4' h4'' h8 h9 h10)) fun D σ H ⟨φ, ψ, env, M, r, re, rm, ev, po⟩ => ?_
    rw [exS] at ev
    obtain ⟨p, e1, ev⟩ := bnd ev
    split at ev
    case isFalse => cases ev
    rename_i hl
    cases ev
    refine ⟨φ, ψ, env, M, p.1, p.2, re, rm, e1, fun φ1 H1 vs x1 rm1 r1 => ?_⟩
    generalize p.1 = us at *
    match us, vs, r1, hl with
    | [u, v, w], [a, b, c], .cons ra (.cons rb (.cons rc .nil)), _ => exact ⟨a, b, c, rfl, po φ1 H1 _ x1 rm1 ((((re.ext x1).set ra).set rb).set rc)⟩
theorem s_setI {o i e : ME} : SSt G K k (.setI o i e) := by
  intro N sc ow X st g h
  unfold okS at h
  split at h <;> (try cases h) <;> rename_i q <;> cases q
  simp only [Bool.and_eq_true] at h
  obtain ⟨⟨⟨h0, h1⟩, h2⟩, h3⟩ := h
  have hu := g.hu
  refine PS.imp (ps_asg (sE e N sc ow X _ g h3).1 (pg_sub (sE o N sc ow X _ g h1).1 (sE i N sc ow X _ g h2).1 (op_set g.hK (by omega)) (sub_assign h0)) (by rw [swapsWithSole]; exact sw_tgt rfl) (st_none (.inl rfl)) (by rw [assign_cons rfl]; rfl)) fun D σ H ⟨φ, ψ, env, M, r, re, rm, ev, po⟩ => ?_
  rw [exS] at ev
  obtain ⟨v, e1, ev⟩ := bnd ev
  obtain ⟨p, e2, ev⟩ := bnd ev
  obtain ⟨q, e3, ev⟩ := bnd ev
  obtain ⟨M1, e4, ev⟩ := mpd ev
  cases ev
  exact ⟨φ, ψ, env, M, v.1, v.2, re, rm, e1, fun φ1 H1 vv x1 rm1 r1 => ⟨φ1, ψ, env, v.2, p.1, p.2, re.ext x1, rm1, e2, fun φ2 H2 vo x2 rm2 r2 => ⟨φ2, ψ, env, p.2, q.1, q.2, re.ext (x1.trans x2), rm2, e3, fun φ3 H3 vi x3 rm3 r3 =>
    ⟨φ3, ψ, q.2, p.1, q.1, v.1, M1, rm3, r2.to x3, r3, r1.to (x2.trans x3), e4, fun φ4 H4 x4 rm4 => po φ4 H4 σ (x1.trans (x2.trans (x3.trans x4))) rm4 (re.ext (x1.trans (x2.trans (x3.trans x4))))⟩⟩⟩⟩
theorem s_setA {c : Str} {o : ME} {f : Str} {e : ME} : SSt G K k (.setA c o f e) := by
  intro N sc ow X st g h
  unfold okS at h
  split at h <;> (try cases h) <;> rename_i q <;> cases q
  simp only [Bool.and_eq_true, decide_eq_true_eq] at h
  obtain ⟨⟨rfl, h1⟩, h2⟩ := h
  refine PS.imp (ps_fld (sE o N sc ow X _ g h1).1 (sE e N sc ow X _ g h2).1 (sw_tgt rfl)) fun D σ H ⟨φ, ψ, env, M, r, re, rm, ev, po⟩ => ?_
  rw [exS] at ev
  obtain ⟨v, e1, ev⟩ := bnd ev
  obtain ⟨p, e2, ev⟩ := bnd ev
  split at ev
  case h_2 => cases ev
  rename_i i hi
  split at ev
  case h_2 => cases ev
  rename_i c' fs hM
  split at ev
  case isFalse => cases ev
  rename_i hc
  obtain ⟨rfl, hl⟩ := hc
  obtain ⟨C, e3, ev⟩ := bnd ev
  split at ev
  case isFalse => cases ev
  rename_i hf
  cases ev
  obtain ⟨c1, _, c3, _, _⟩ := g.tab.cls _ _ e3
  refine ⟨φ, ψ, env, M, v.1, v.2, re, rm, e1, fun φ1 H1 vv x1 rm1 r1 => ⟨φ1, ψ, env, v.2, p.1, p.2, re.ext x1, rm1, e2, fun φ2 H2 vo x2 rm2 r2 => ?_⟩⟩
  rw [hi] at r2
  obtain ⟨a, dx, gs, rfl, ha, hh, hfs⟩ := ins_of rm2 r2 hM
  have x3 : Ext φ2 H2 φ2 (upd H2 a (.ins (K.ca c') dx (putF f vv gs))) := .write ha
  refine ⟨a, K.ca c', dx, gs, rfl, hh, c1, c3 _ hf, by rw [← hfs.length]; exact hl, po φ2 _ σ (x1.trans (x2.trans x3)) (rm2.write ha ⟨dx, _, upd_same, (hfs.put (r1.to x2)).ext x3⟩) (re.ext (x1.trans (x2.trans x3)))⟩
theorem aug_ip {X : Cx} {op : Operator} (h : op = .Add ∨ op = .Sub) : PIp X op (fun x y H Q => ∃ a b c, x = .int a ∧ y = .int b ∧ augT op (.int a) (.int b) = some (.int c) ∧ Q (.int c) H) := by
  intro pins s σ H x y v u Q I r1 r2 ⟨a, b, c, e1, e2, e3, q⟩
  rcases h with rfl | rfl
  · cases e3
    exact ip_add pins s σ H x y v u Q I r1 r2 ⟨a, b, e1, e2, q⟩
  · cases e3
    exact ip_sub pins s σ H x y v u Q I r1 r2 ⟨a, b, e1, e2, q⟩
theorem augT_int {op : Operator} {x y z : T} (h : augT op x y = some z) : ∃ a b c, x = .int a ∧ y = .int b ∧ z = .int c ∧ augT op (.int a) (.int b) = some (.int c) := by
  unfold augT at h
  split at h
  · cases h; exact ⟨_, _, _, rfl, rfl, rfl, rfl⟩
  · cases h; exact ⟨_, _, _, rfl, rfl, rfl, rfl⟩
  · cases h
theorem s_aug {i : Nat} {x : Str} {op : Operator} {e : ME} : SSt G K k (.aug i x op e) := by
  intro N sc ow X st g h
  unfold okS at h
  split at h <;> (try cases h) <;> rename_i q <;> cases q
  simp only [Bool.and_eq_true, decide_eq_true_eq, Bool.or_eq_true] at h
  obtain ⟨⟨⟨⟨⟨rfl, h1⟩, h2⟩, rfl⟩, h3⟩, h4⟩ := h
  refine PS.imp (ps_aug g.n (g.ix h1) (g.lo h2) (sE e N sc ow X _ g h4).1 (aug_ip h3) (g.fn' h2)) fun D σ H ⟨φ, ψ, env, M, r, re, rm, ev, po⟩ => ?_
  rw [exS] at ev
  split at ev
  case h_2 => cases ev
  rename_i t ht
  obtain ⟨p, e1, ev⟩ := bnd ev
  obtain ⟨z, e2, ev⟩ := mpd ev
  cases ev
  obtain ⟨v, hv, rv⟩ := re.at_ _ _ ht
  obtain ⟨a, b, c, rfl, hb, rfl, e3⟩ := augT_int e2
  cases rv
  refine ⟨_, hv, φ, ψ, env, M, p.1, p.2, re, rm, e1, fun φ1 H1 vv x1 rm1 r1 => ?_⟩
  rw [hb] at r1
  cases r1
  exact ⟨a, b, c, rfl, rfl, e3, po φ1 H1 _ x1 rm1 ((re.ext x1).set (.int c))⟩
theorem s_augI {o i : ME} {op : Operator} {e : ME} : SSt G K k (.augI o i op e) := by
  intro N sc ow X st g h
  unfold okS at h
  split at h <;> (try cases h) <;> rename_i q <;> cases q
  simp only [Bool.and_eq_true, decide_eq_true_eq, Bool.or_eq_true] at h
  obtain ⟨⟨⟨⟨⟨h0, rfl⟩, h3⟩, h4⟩, h5⟩, h6⟩ := h
  have hu := g.hu
  refine PS.imp (ps_augS (sE o N sc ow X _ g h4).1 (sE i N sc ow X _ g h5).1 (get_ix g.hK (by omega)) (sE e N sc ow X _ g h6).1 (aug_ip h3) (op_set g.hK (by omega)) (aug_ix h0)) fun D σ H ⟨φ, ψ, env, M, r, re, rm, ev, po⟩ => ?_
  rw [exS] at ev
  obtain ⟨p, e1, ev⟩ := bnd ev
  obtain ⟨q, e2, ev⟩ := bnd ev
  obtain ⟨t, e3, ev⟩ := bnd ev
  obtain ⟨y, e4, ev⟩ := bnd ev
  obtain ⟨z, e5, ev⟩ := bnd ev
  obtain ⟨M1, e6, ev⟩ := mpd ev
  cases ev
  obtain ⟨a, b, c, rfl, hb, rfl, e7⟩ := augT_int e5
  refine ⟨φ, ψ, env, M, p.1, p.2, re, rm, e1, fun φ1 H1 vo x1 rm1 r1 => ⟨φ1, ψ, env, p.2, q.1, q.2, re.ext x1, rm1, e2, fun φ2 H2 vi x2 rm2 r2 => ⟨φ2, ψ, q.2, p.1, q.1, .int a, rm2, r1.to x2, r2, e3, fun v3 r3 => ?_⟩⟩⟩
  cases r3
  refine ⟨φ2, ψ, env, q.2, y.1, y.2, re.ext (x1.trans x2), rm2, e4, fun φ3 H3 vy x3 rm3 r3 => ?_⟩
  rw [hb] at r3
  cases r3
  exact ⟨a, b, c, rfl, rfl, e7, φ3, ψ, y.2, p.1, q.1, .int c, M1, rm3, r1.to (x2.trans x3), r2.to x3, .int c, e6, fun φ4 H4 x4 rm4 => po φ4 H4 σ (x1.trans (x2.trans (x3.trans x4))) rm4 (re.ext (x1.trans (x2.trans (x3.trans x4))))⟩
theorem s_ex {e : ME} : SSt G K k (.ex e) := by
  intro N sc ow X st g h
  unfold okS at h
  split at h <;> (try cases h) <;> rename_i q <;> cases q
  rw [Bool.and_eq_true] at h
  refine PS.imp (ps_expr (sE e N sc ow X _ g h.2).1 (sw_not h.1)) fun D σ H ⟨φ, ψ, env, M, r, re, rm, ev, po⟩ => ?_
  rw [exS] at ev
  obtain ⟨p, e1, ev⟩ := mpd ev
  cases ev
  exact ⟨φ, ψ, env, M, p.1, p.2, re, rm, e1, fun φ1 H1 v x1 rm1 r1 => po φ1 H1 σ x1 rm1 (re.ext x1)⟩
theorem s_ret {e : ME} : SSt G K k (.ret e) := by
  intro N sc ow X st g h
  unfold okS at h
  split at h <;> (try cases h) <;> rename_i q <;> cases q
  refine PS.imp (ps_ret (sE e N sc ow X _ g h).1) fun D σ H ⟨φ, ψ, env, M, r, re, rm, ev, po⟩ => ?_
  rw [exS] at ev
  obtain ⟨p, e1, ev⟩ := mpd ev
  cases ev
  exact ⟨φ, ψ, env, M, p.1, p.2, re, rm, e1, fun φ1 H1 v x1 rm1 r1 => po φ1 H1 v x1 rm1 r1⟩
theorem s_retN : SSt G K k .retN := by
  intro N sc ow X st g h
  unfold okS at h
  split at h <;> (try cases h) <;> rename_i q <;> cases q
  refine PS.imp ps_retN fun D σ H ⟨φ, ψ, env, M, r, re, rm, ev, po⟩ => ?_
  rw [exS] at ev
  cases ev
  exact po φ H _ .refl rm .non
theorem s_brk : SSt G K k .brk := by
  intro N sc ow X st g h
  unfold okS at h
  split at h <;> (try cases h) <;> rename_i q <;> cases q
  refine PS.imp ps_break fun D σ H ⟨φ, ψ, env, M, r, re, rm, ev, po⟩ => ?_
  rw [exS] at ev
  cases ev
  exact po φ H _ .refl rm re
theorem s_cnt : SSt G K k .cnt := by
  intro N sc ow X st g h
  unfold okS at h
  split at h <;> (try cases h) <;> rename_i q <;> cases q
  refine PS.imp ps_continue fun D σ H ⟨φ, ψ, env, M, r, re, rm, ev, po⟩ => ?_
  rw [exS] at ev
  cases ev
  exact po φ H _ .refl rm re
theorem s_pas : SSt G K k .pas := by
  intro N sc ow X st g h
  unfold okS at h
  split at h <;> (try cases h) <;> rename_i q <;> cases q
  refine PS.imp ps_pass fun D σ H ⟨φ, ψ, env, M, r, re, rm, ev, po⟩ => ?_
  rw [exS] at ev
  cases ev
  exact po φ H _ .refl rm re
theorem s_ite {c : ME} {a b : List MS} (ha : SSs G K k a) (hb : SSs G K k b) : SSt G K k (.ite c a b) := by
  intro N sc ow X st g h
  unfold okS at h
  split at h <;> (try cases h) <;> rename_i q <;> cases q
  simp only [Bool.and_eq_true] at h
  obtain ⟨⟨h0, h1⟩, h2⟩ := h
  refine PS.imp (ps_if (sE c N sc ow X _ g h0).2.1 (ha N sc ow X _ g h1) (hb N sc ow X _ g h2)) fun D σ H ⟨φ, ψ, env, M, r, re, rm, ev, po⟩ => ?_
  rw [exS] at ev
  obtain ⟨p, e1, ev⟩ := bnd ev
  refine ⟨φ, ψ, env, M, p.1, p.2, re, rm, e1, fun φ1 H1 x1 rm1 => ?_⟩
  split at ev
  · rename_i hp
    rw [if_pos hp]
    exact ⟨φ1, ψ, env, p.2, r, re.ext x1, rm1, ev, po.ext x1⟩
  · rename_i hp
    rw [if_neg hp]
    exact ⟨φ1, ψ, env, p.2, r, re.ext x1, rm1, ev, po.ext x1⟩
theorem s_whl {c : ME} {b : List MS} (hb : SSs G K k b) : SSt G K k (.whl c b) := by
  intro N sc ow X st g h
  unfold okS at h
  split at h <;> (try cases h) <;> rename_i q <;> cases q
  rw [Bool.and_eq_true] at h
  refine PS.imp (ps_while g.pas (sE c N sc ow X _ g h.1).2.1 (hb N sc ow X _ g h.2)) fun D σ H ⟨φ, ψ, env, M, r, re, rm, ev, po⟩ => ?_
  rw [exS] at ev
  obtain ⟨n, hn⟩ := of_whileC ev
  refine ⟨fun m σ H => ∃ φ env M, RE K φ ψ H env σ ∧ RM K φ ψ H M ∧ whileN (fun σ M => tst (evE G c σ M)) (fun σ M => exSs G b σ M) m env M = some r ∧ Post K φ ψ H D r, ⟨n, φ, env, M, re, rm, hn, po⟩, ?_⟩
  rintro m σ H ⟨φ, env, M, re, rm, hm, po⟩
  cases m with
  | zero => simp [whileN] at hm
  | succ m =>
    unfold whileN at hm
    cases hc : tst (evE G c env M) with
    | none => rw [hc] at hm; cases hm
    | some p =>
      obtain ⟨d, M1⟩ := p
      rw [hc] at hm
      refine ⟨φ, ψ, env, M, d, M1, re, rm, hc, fun φ1 H1 x1 rm1 => ?_⟩
      cases d with
      | false =>
        rw [if_neg Bool.false_ne_true]
        cases hm
        exact po φ1 H1 σ x1 rm1 (re.ext x1)
      | true =>
        rw [if_pos rfl]
        simp only at hm
        refine ⟨fun σ' H' => ∃ φ env M, RE K φ ψ H' env σ' ∧ RM K φ ψ H' M ∧ whileN (fun σ M => tst (evE G c σ M)) (fun σ M => exSs G b σ M) m env M = some r ∧ Post K φ ψ H' D r, fun σ' H' q => ⟨m, Nat.lt_succ_self _, q⟩, ?_⟩
        cases he : exSs G b env M1 with
        | none => rw [he] at hm; cases hm
        | some rr =>
          rw [he] at hm
          refine ⟨φ1, ψ, env, M1, rr, re.ext x1, rm1, he, ?_⟩
          cases rr with
          | nx e' m' => exact fun φ' H' σ' x' rm' re' => ⟨φ', e', m', re', rm', hm, po.ext (x1.trans x')⟩
          | ct e' m' => exact fun φ' H' σ' x' rm' re' => ⟨φ', e', m', re', rm', hm, po.ext (x1.trans x')⟩
          | bk e' m' =>
            cases hm
            exact fun φ' H' σ' x' rm' re' => po φ' H' σ' (x1.trans x') rm' re'
          | rt t m' =>
            cases hm
            exact fun φ' H' σ' x' rm' re' => po φ' H' σ' (x1.trans x') rm' re'
theorem s_for {t : MT} {it : MI} {b : List MS} (hb : SSs G K k b) : SSt G K k (.for t it b) := by
  intro N sc ow X st g h
  unfold okS at h
  split at h <;> (try cases h) <;> rename_i q <;> cases q
  simp only [Bool.and_eq_true] at h
  obtain ⟨⟨⟨h0, h1⟩, h2⟩, h3⟩ := h
  refine PS.imp (ps_for g.pas g.hc (sI it N sc ow X _ _ g h1) (sT t N sc ow X _ g h2) (hb N sc ow X _ g h3) (fold_set h0)) fun D σ H ⟨φ, ψ, env, M, r, re, rm, ev, po⟩ => ?_
  rw [exS] at ev
  obtain ⟨p, e1, ev⟩ := bnd ev
  refine ⟨φ, ψ, env, M, p.1, p.2, re, rm, e1, fun φ0 H0 J x0 rm0 hw => ?_⟩
  generalize hstep : (fun x σ M => (asgT t x σ).bind fun σ1 => exSs G b σ1 M) = step at ev
  refine ⟨fun i m σ H => m = p.1.1.length - i ∧ i ≤ p.1.1.length ∧ ∃ φ env M, Ext φ0 H0 φ H ∧ RE K φ ψ H env σ ∧ RM K φ ψ H M ∧ forC p.1.2 step (p.1.1.drop i) env M = some r ∧ Post K φ ψ H D r,
    ⟨_, rfl, Nat.zero_le _, φ0, env, p.2, .refl, re.ext x0, rm0, ev, po.ext x0⟩, ?_⟩
  rintro i m σ H ⟨rfl, hi, φ, env, M, x1, re, rm, hm, po⟩
  by_cases hlt : i < p.1.1.length
  · rw [List.drop_eq_getElem_cons hlt, forC] at hm
    split at hm
    case isFalse => cases hm
    rename_i hg
    refine .inr ⟨hw.goes i φ ψ H M hlt (x1.tr ψ) rm hg, fun σ' H' => ∃ φ env M, Ext φ0 H0 φ H' ∧ RE K φ ψ H' env σ' ∧ RM K φ ψ H' M ∧ forC p.1.2 step (p.1.1.drop (i + 1)) env M = some r ∧ Post K φ ψ H' D r,
      fun σ' H' q => ⟨p.1.1.length - (i + 1), by omega, rfl, hlt, q⟩, fun v H' hy => ?_⟩
    obtain ⟨u, hu, x2, rm2, rt⟩ := hw.yields i φ ψ H M v H' hlt (x1.tr ψ) rm hg hy
    rw [List.getElem?_eq_getElem hlt] at hu
    cases hu
    cases hs : step p.1.1[i] env M with
    | none => rw [hs] at hm; cases hm
    | some rr =>
      rw [hs] at hm
      rw [← hstep] at hs
      obtain ⟨env1, e2, e3⟩ := bnd hs
      refine ⟨φ, ψ, env, M, _, env1, re.ext x2, rm2, rt, e2, fun σ1 re1 _ => ⟨φ, ψ, env1, M, rr, re1, rm2, e3, ?_⟩⟩
      cases rr with
      | nx e' m' => exact fun φ' H' σ' x' rm' re' => ⟨φ', e', m', x1.trans (x2.trans x'), re', rm', hm, po.ext (x2.trans x')⟩
      | ct e' m' => exact fun φ' H' σ' x' rm' re' => ⟨φ', e', m', x1.trans (x2.trans x'), re', rm', hm, po.ext (x2.trans x')⟩
      | bk e' m' =>
        cases hm
        exact fun φ' H' σ' x' rm' re' => po φ' H' σ' (x2.trans x') rm' re'
      | rt t m' =>
        cases hm
        exact fun φ' H' σ' x' rm' re' => po φ' H' σ' (x2.trans x') rm' re'
  · have e : i = p.1.1.length := by omega
    subst e
    rw [List.drop_length, forC] at hm
    split at hm
    case isFalse => cases hm
    rename_i hg
    cases hm
    exact .inl ⟨hw.stops φ ψ H _ (x1.tr ψ) rm hg, po φ H σ .refl rm re⟩
theorem ss_nil : SSs G K k [] := by
  intro N sc ow X st g h
  cases st with
  | cons _ _ => simp [okSs] at h
  | nil =>
    refine PSs.imp pss_nil fun D σ H ⟨φ, ψ, env, M, r, re, rm, ev, po⟩ => ?_
    rw [exSs] at ev
    cases ev
    exact po φ H σ .refl rm re
theorem ss_cons {s : MS} {ss : List MS} (h1 : SSt G K k s) (h2 : SSs G K k ss) : SSs G K k (s :: ss) := by
  intro N sc ow X st g h
  cases st with
  | nil => simp [okSs] at h
  | cons t ts =>
    rw [okSs, Bool.and_eq_true] at h
    refine PSs.imp (pss_cons (h1 N sc ow X t g h.1) (h2 N sc ow X ts g h.2)) fun D σ H ⟨φ, ψ, env, M, r, re, rm, ev, po⟩ => ?_
    rw [exSs] at ev
    cases hs : exS G s env M with
    | none => rw [hs] at ev; cases ev
    | some rr =>
      rw [hs] at ev
      refine ⟨φ, ψ, env, M, rr, re, rm, hs, ?_⟩
      cases rr with
      | nx e' m' => exact fun φ' H' σ' x' rm' re' => ⟨φ', ψ, e', m', r, re', rm', ev, po.ext x'⟩
      | rt t m' => cases ev; exact po
      | bk t m' => cases ev; exact po
      | ct t m' => cases ev; exact po
mutual
theorem sS : ∀ m : MS, SSt G K k m
  | .set _ _ _ => s_set
  | .asg _ _ => s_asg
  | .par _ _ => s_par
  | .setI _ _ _ => s_setI
  | .setA _ _ _ _ => s_setA
  | .aug _ _ _ _ => s_aug
  | .augI _ _ _ _ => s_augI
  | .ex _ => s_ex
  | .ret _ => s_ret
  | .retN => s_retN
  | .ite _ a b => s_ite (sSs a) (sSs b)
  | .whl _ b => s_whl (sSs b)
  | .for _ _ b => s_for (sSs b)
  | .brk => s_brk
  | .cnt => s_cnt
  | .pas => s_pas
theorem sSs : ∀ m : List MS, SSs G K k m
  | [] => ss_nil
  | s :: ss => ss_cons (sS s) (sSs ss)
end
end Mi
end L2

/-! Mini: a def keeps its promise. -/
namespace L2
namespace Mi
open PySem PySem.Spec PyProof.Rows
variable {G : Sig} {K : KC} {k : Nat}
mutual
/-- the objects of ours within lie below n -/
def bndT (n : Nat) : T → Prop
  | .obj i => i < n
  | .tup ts => bndTs n ts
  | .fl ts => bndTs n ts
  | .fd _ ks ts => bndTs n ts
  | _ => True
def bndTs (n : Nat) : List T → Prop
  | [] => True
  | t :: ts => bndT n t ∧ bndTs n ts
end
mutual
theorem bnd_pure (n : Nat) : ∀ t : T, pureT t = true → bndT n t
  | .obj i, h => by simp [pureT] at h
  | .tup ts, h => by rw [bndT]; exact bnd_pures n ts (by simpa [pureT] using h)
  | .fl ts, h => by rw [bndT]; exact bnd_pures n ts (by simpa [pureT] using h)
  | .fd _ ks ts, h => by rw [bndT]; exact bnd_pures n ts (by simpa [pureT] using h)
  | .non, _ => by simp [bndT]
  | .bl _, _ => by simp [bndT]
  | .int _, _ => by simp [bndT]
  | .str _, _ => by simp [bndT]
  | .sc _, _ => by simp [bndT]
theorem bnd_pures (n : Nat) : ∀ ts : List T, pureTs ts = true → bndTs n ts
  | [], _ => by simp [bndTs]
  | t :: ts, h => by
    simp only [pureTs, Bool.and_eq_true] at h
    rw [bndTs]
    exact ⟨bnd_pure n t h.1, bnd_pures n ts h.2⟩
end
section
variable {φ φ' ψ : List Addr} {H : Hp} {M M' : Mem}
mutual
theorem RT.bnd : ∀ (t : T) (v : V), RT K φ ψ H t v → bndT φ.length t
  | .non, _, _ => by simp [bndT]
  | .bl _, _, _ => by simp [bndT]
  | .int _, _, _ => by simp [bndT]
  | .str _, _, _ => by simp [bndT]
  | .sc _, _, _ => by simp [bndT]
  | .obj i, _, h => by cases h with | obj h => rw [bndT]; exact (List.getElem?_eq_some_iff.mp h).1
  | .tup ts, _, h => by cases h with | tup _ h => rw [bndT]; exact RTs.bnd ts _ h
  | .fl ts, _, h => by cases h with | fl _ _ h => rw [bndT]; exact RTs.bnd ts _ h
  | .fd _ ks ts, _, h => by
    cases h with
    | fdK _ _ _ h => rw [bndT]; exact RTs.bnd ts _ h
    | fdT _ _ _ _ h => rw [bndT]; exact RTs.bnd ts _ h
theorem RTs.bnd : ∀ (ts : List T) (vs : List V), RTs K φ ψ H ts vs → bndTs φ.length ts
  | [], _, _ => by simp [bndTs]
  | t :: ts, _, h => by cases h with | cons h1 h2 => rw [bndTs]; exact ⟨RT.bnd t _ h1, RTs.bnd ts _ h2⟩
end
theorem Fre.down {a : Addr} (p : φ <+: φ') (h : Fre φ' ψ a) : Fre φ ψ a := ⟨fun hm => h.1 (p.subset hm), h.2⟩
theorem FzT.down {a : Addr} {vs : List V} (p : φ <+: φ') (h : FzT K φ' ψ H a vs) : FzT K φ ψ H a vs := h.elim (fun h => .inl ⟨h.1.down p, h.2⟩) .inr
theorem FzL.down {a : Addr} {vs : List V} (p : φ <+: φ') (h : FzL K φ' ψ H a vs) : FzL K φ ψ H a vs := h.elim (fun h => .inl ⟨h.1.down p, h.2⟩) .inr
mutual
theorem RT.down (p : φ <+: φ') : ∀ (t : T) (v : V), bndT φ.length t → RT K φ' ψ H t v → RT K φ ψ H t v
  | .non, _, _, h => by cases h; exact .non
  | .bl b, _, _, h => by cases h; exact .bl b
  | .int i, _, _, h => by cases h; exact .int i
  | .str s, _, _, h => by cases h; exact .str s
  | .tup ts, _, b, h => by
    rw [bndT] at b
    cases h with
    | tup h1 h2 => exact .tup (h1.down p) (RTs.down p ts _ b h2)
  | .fl ts, _, b, h => by
    rw [bndT] at b
    cases h with
    | fl h1 h2 h3 => exact .fl (h1.down p) h2 (RTs.down p ts _ b h3)
  | .fd tk ks ts, _, b, h => by
    rw [bndT] at b
    cases h with
    | fdK h1 h2 h3 h4 => exact .fdK (h1.down p) h2 h3 (RTs.down p ts _ b h4)
    | fdT h0 h1 h2 h3 h4 => exact .fdT h0 (h1.down p) h2 h3 (RTs.down p ts _ b h4)
  | .sc ns, _, _, h => by cases h with | sc h => exact .sc (h.down p)
  | .obj i, _, b, h => by
    rw [bndT] at b
    cases h with
    | obj h =>
      obtain ⟨r, rfl⟩ := p
      rw [List.getElem?_append_left b] at h
      exact .obj h
theorem RTs.down (p : φ <+: φ') : ∀ (ts : List T) (vs : List V), bndTs φ.length ts → RTs K φ' ψ H ts vs → RTs K φ ψ H ts vs
  | [], _, _, h => by cases h; exact .nil
  | t :: ts, _, b, h => by
    rw [bndTs] at b
    cases h with
    | cons h1 h2 => exact .cons (RT.down p t _ b.1 h1) (RTs.down p ts _ b.2 h2)
end
def bndF (n : Nat) : List (Str × T) → Prop
  | [] => True
  | (_, t) :: fs => bndT n t ∧ bndF n fs
theorem RFs.bnd : ∀ {fs : List (Str × T)} {gs : List (Str × V)}, RFs K φ ψ H fs gs → bndF φ.length fs
  | [], [], _ => trivial
  | (_, _) :: _, (_, _) :: _, ⟨_, r, h⟩ => ⟨RT.bnd _ _ r, RFs.bnd h⟩
  | [], _ :: _, h => h.elim
  | _ :: _, [], h => h.elim
theorem RFs.down (p : φ <+: φ') : ∀ {fs : List (Str × T)} {gs : List (Str × V)}, bndF φ.length fs → RFs K φ' ψ H fs gs → RFs K φ ψ H fs gs
  | [], [], _, _ => trivial
  | (_, _) :: _, (_, _) :: _, b, ⟨e, r, h⟩ => ⟨e, RT.down p _ _ b.1 r, RFs.down p b.2 h⟩
  | [], _ :: _, _, h => h.elim
  | _ :: _, [], _, h => h.elim
def bndO (n : Nat) : O → Prop
  | .lst ts => bndTs n ts
  | .dic _ _ ts => bndTs n ts
  | .ins _ fs => bndF n fs
  | .tab _ => True
theorem RO.bnd {a : Addr} {o : O} (h : RO K φ ψ H a o) : bndO φ.length o := by
  cases o with
  | lst ts => obtain ⟨vs, _, h⟩ := h; exact RTs.bnd _ _ h
  | dic tk ks ts =>
    rcases h with ⟨_, kvs, _, _, h⟩ | ⟨_, _, kvs, _, _, h⟩
    · exact RTs.bnd _ _ h
    · exact RTs.bnd _ _ h
  | ins c fs => obtain ⟨dx, gs, _, h⟩ := h; exact h.bnd
  | tab q => trivial
theorem RO.down {a : Addr} {o : O} (p : φ <+: φ') (b : bndO φ.length o) (h : RO K φ' ψ H a o) : RO K φ ψ H a o := by
  cases o with
  | lst ts => obtain ⟨vs, h1, h⟩ := h; exact ⟨vs, h1, RTs.down p _ _ b h⟩
  | dic tk ks ts =>
    rcases h with ⟨e, kvs, h1, h2, h⟩ | ⟨e, e', kvs, h1, h2, h⟩
    · exact .inl ⟨e, kvs, h1, h2, RTs.down p _ _ b h⟩
    · exact .inr ⟨e, e', kvs, h1, h2, RTs.down p _ _ b h⟩
  | ins c fs => obtain ⟨dx, gs, h1, h⟩ := h; exact ⟨dx, gs, h1, h.down p b⟩
  | tab q =>
    obtain ⟨ht, ps, h1, h2, h3⟩ := h
    refine ⟨ht, ps, h1, h2, fun pos cv hc => ?_⟩
    obtain ⟨c, e, f, g⟩ := h3 pos cv hc
    exact ⟨c, e, f.down p, g⟩
/-- the part of the memory that was there -/
theorem RM.down {H0 : Hp} (r0 : RM K φ ψ H0 M) (r : RM K φ' ψ H M') (p : φ <+: φ') (e : M'.take M.length = M) : RM K φ ψ H M := by
  refine ⟨r0.len, r0.nd, r0.ap, r.used2, fun i a o e1 e2 => ?_⟩
  have hi : i < φ.length := (List.getElem?_eq_some_iff.mp e1).1
  have e3 : φ'[i]? = some a := by obtain ⟨q, rfl⟩ := p; rw [List.getElem?_append_left hi]; exact e1
  have e4 : M'[i]? = some o := by
    rw [← e, List.getElem?_take] at e2
    split at e2
    · exact e2
    · cases e2
  exact RO.down p (r0.at_ i a o e1 e2).bnd (r.at_ i a o e3 e4)
theorem mapM_rt {n : Nat} {f : T → Option T} (p : φ <+: φ') (hf : ∀ t v a, RT K φ' ψ H t v → f t = some a → RT K φ ψ H a v) : ∀ (ts : List T) (vs : List V) (as : List T), RTs K φ' ψ H ts vs → ts.mapM f = some as → RTs K φ ψ H as vs
  | [], _, as, h, e => by
    cases h
    rw [List.mapM_nil] at e
    cases e
    exact .nil
  | t :: ts, _, as, h, e => by
    rw [List.mapM_cons] at e
    obtain ⟨a, ea, e⟩ := Option.bind_eq_some_iff.mp e
    obtain ⟨r, er, e⟩ := Option.bind_eq_some_iff.mp e
    cases e
    cases h with
    | cons h1 h2 => exact .cons (hf t _ a h1 ea) (mapM_rt (n := n) p hf ts _ r h2 er)
theorem seal_rt (r : RM K φ' ψ H M) (p : φ <+: φ') : ∀ (f : Nat) (t : T) (v : V) (a : T), RT K φ' ψ H t v → sealT M φ.length f t = some a → RT K φ ψ H a v
  | 0, t, v, a, h, e => by
    unfold sealT at e
    split at e
    · rename_i hp; cases e; exact RT.down p t v (bnd_pure _ t hp) h
    · cases e
  | f + 1, t, v, a, h, e => by
    unfold sealT at e
    split at e
    · rename_i hp; cases e; exact RT.down p t v (bnd_pure _ t hp) h
    · split at e
      · rename_i i
        split at e
        · rename_i hn
          cases h with
          | obj h1 =>
            rename_i a'
            have fre : Fre φ ψ a' := by
              refine ⟨fun hm => ?_, r.ap a' (List.mem_of_getElem? h1)⟩
              obtain ⟨j, hj⟩ := List.getElem?_of_mem hm
              have hjl : j < φ.length := (List.getElem?_eq_some_iff.mp hj).1
              have e3 : φ'[j]? = some a' := by obtain ⟨q, rfl⟩ := p; rw [List.getElem?_append_left hjl]; exact hj
              have := (List.getElem?_inj (List.getElem?_eq_some_iff.mp h1).1 r.nd).mp (h1.trans e3.symm)
              omega
            split at e
            · rename_i ts hts
              obtain ⟨as, ea, e⟩ := Option.map_eq_some_iff.mp e
              subst e
              obtain ⟨vs, q1, q2⟩ := r.obj h1 hts
              exact .fl fre q1 (mapM_rt (n := f) p (fun t v a h e => seal_rt r p f t v a h e) ts vs as q2 ea)
            · rename_i tk ks ts hts
              obtain ⟨as, ea, e⟩ := Option.map_eq_some_iff.mp e
              subst e
              rcases r.obj h1 hts with ⟨rfl, kvs, q1, q2, q3⟩ | ⟨rfl, q0, kvs, q1, q2, q3⟩
              · exact .fdK fre q1 q2 (mapM_rt (n := f) p (fun t v a h e => seal_rt r p f t v a h e) ts _ as q3 ea)
              · exact .fdT q0 fre q1 q2 (mapM_rt (n := f) p (fun t v a h e => seal_rt r p f t v a h e) ts _ as q3 ea)
            · cases e
        · cases e
      · obtain ⟨as, ea, e⟩ := Option.map_eq_some_iff.mp e
        subst e
        cases h with
        | tup h1 h2 => exact .tup (h1.down p) (mapM_rt (n := f) p (fun t v a h e => seal_rt r p f t v a h e) _ _ as h2 ea)
      · obtain ⟨as, ea, e⟩ := Option.map_eq_some_iff.mp e
        subst e
        cases h with
        | fl h1 h2 h3 => exact .fl (h1.down p) h2 (mapM_rt (n := f) p (fun t v a h e => seal_rt r p f t v a h e) _ _ as h3 ea)
      · obtain ⟨as, ea, e⟩ := Option.map_eq_some_iff.mp e
        subst e
        cases h with
        | fdK h1 h2 h3 h4 => exact .fdK (h1.down p) h2 h3 (mapM_rt (n := f) p (fun t v a h e => seal_rt r p f t v a h e) _ _ as h4 ea)
        | fdT h0 h1 h2 h3 h4 => exact .fdT h0 (h1.down p) h2 h3 (mapM_rt (n := f) p (fun t v a h e => seal_rt r p f t v a h e) _ _ as h4 ea)
      · cases e
end
theorem fin_ok {φ ψ : List Addr} {H : Hp} {M M1 : Mem} {t : T} {Q : VK} {sl : Bool} (rm : RM K φ ψ H M) (ok : Ok1 K φ ψ H (fin sl M t M1).1 (fin sl M t M1).2 Q) : Ok1 K φ ψ H t M1 Q := by
  intro φ' H' v x rm' rt
  unfold fin at ok
  split at ok
  · rename_i ht
    have ht := ht.2
    split at ok
    · rename_i r' hr
      rw [← rm.len] at hr
      have x' : Ext φ H φ H' := ⟨List.prefix_rfl, fun a o h e => ⟨h, (x.keep a o h e).2⟩⟩
      exact ok φ H' v x' (rm.down rm' x.pre ht) (seal_rt rm' x.pre 6 t v r' rt hr)
    · exact ok φ' H' v x rm' rt
  · exact ok φ' H' v x rm' rt
theorem start_re {φ ψ : List Addr} {H : Hp} {N : List Str} : ∀ {ts : List T} {vs : List V}, RTs K φ ψ H ts vs → RE K φ ψ H (startE N ts) (start N vs) := by
  intro ts vs h
  have hl := h.length
  refine ⟨by unfold startE start; rw [List.length_append, List.length_append, List.length_map, List.length_map, List.length_replicate, List.length_replicate, hl], fun i t e => ?_⟩
  unfold startE at e
  unfold start
  by_cases hi : i < ts.length
  · rw [List.getElem?_append_left (by rw [List.length_map]; exact hi), List.getElem?_map] at e
    rw [List.getElem?_append_left (by rw [List.length_map, ← hl]; exact hi), List.getElem?_map]
    obtain ⟨u, hu, e⟩ := Option.map_eq_some_iff.mp e
    cases e
    obtain ⟨v, hv, r⟩ := h.get hu
    exact ⟨v, by rw [hv]; rfl, r⟩
  · rw [List.getElem?_append_right (by rw [List.length_map]; omega)] at e
    obtain ⟨_, e⟩ := List.getElem?_eq_some_iff.mp e
    rw [List.getElem_replicate] at e
    cases e
def owC (sc : Scope) (ow : List Str) : Bool := ow.all fun x => decide (sc.names.lookup x = some .local) || decide (sc.names.lookup x = some .cell)
/-- the table of the lambda within the def at f -/
def LamF (K : KC) (KF : PySem.W.Frag) (mg : Str → Option Value) (base : Heap) (f : Addr) (qual : Str) (N : List Str) : Prop :=
  ∀ q P, q ∈ N → K.tb q = some P → q = qual ++ ".<locals>." ++ "<lambda>" ∧ ∃ c, (∀ oc od fd osl, KF.lookup f = some ⟨oc, od, .func fd, osl⟩ → fd.code = .ref c) ∧ LamX.TabB base mg c P
/-- a def of the text, by its term -/
theorem fn_mini {P : Program} {w : World} {KF : PySem.W.Frag} {mg : Str → Option Value} {base : Heap} {x qual : Str} {st : Stmt} {f : Addr} {fd : FuncData} {d : MD} {ow : List Str} (F : Fun KF x qual st f fd) (S : FnScope d.N d.ps (defScope st)) (ho : owC (defScope st) ow = true)
    (tab : Tab G K k P w KF mg base) (lam : LamF K KF mg base f qual d.N) (hm : okSs d.N (defScope st) ow d.body (defBody st) = true) : FnOk P w KF mg base CX0 (k + 2) f fd d.ps (spM K d.ps.length (runD G d)) := by
  obtain ⟨oc, od, kV, doc, pm, an, cdv, ct, osl, rfl, lk, hcd⟩ := F.ex
  refine fn_of (k := k + 1) (N := d.N) lk hcd S (fun vs H Q E h => h.1) fun A outer s H vs Q E hr hsp => ?_
  obtain ⟨hl, φ, ψ, M, ts, r, M', rm, rts, ev, ok⟩ := hsp
  suffices hh : ∃ t, PSs (cxOf CX0 P w KF mg base d.N qual (defScope st) f cdv A outer s H E).nox (defBody st) t ∧ t { nx := fun _ H' => Q .non H', rt := Q } (start d.N vs) H by
    obtain ⟨t, h, q⟩ := hh
    exact ⟨t, h.nox, q⟩
  refine ⟨tSs G K d.body, sSs d.body d.N (defScope st) ow _ _ ⟨rfl, rfl, S.nd, rfl, S.kind, rfl, ⟨_, _, rfl, S.gen, S.co, rfl, rfl⟩, fun x hx => ⟨?_, .inl rfl⟩, hr, tab, fun q P' hq e => ?_⟩ hm, ?_⟩
  rotate_left
  · obtain ⟨h0, c, h1, h2⟩ := lam q P' hq e
    exact ⟨h0, c, h1 _ _ _ _ lk, h2⟩
  rotate_right
  · have q := List.all_eq_true.mp ho x hx
    simp only [Bool.or_eq_true, decide_eq_true_eq] at q
    exact q
  · unfold runD at ev
    split at ev
    case isFalse => cases ev
    obtain ⟨rr, e1, ev⟩ := bnd ev
    refine ⟨φ, ψ, startE d.N ts, M, rr, start_re rts, rm, e1, ?_⟩
    cases rr with
    | rt t M1 =>
      have ev := Option.some.inj ev
      rw [show r = (fin d.sl M t M1).1 by rw [ev], show M' = (fin d.sl M t M1).2 by rw [ev]] at ok
      exact fin_ok rm ok
    | nx e' M1 =>
      have ev := Option.some.inj ev
      rw [show r = (fin d.sl M .non M1).1 by rw [ev], show M' = (fin d.sl M .non M1).2 by rw [ev]] at ok
      exact fun φ' H' σ' x' rm' _ => fin_ok rm ok φ' H' .non x' rm' .non
    | bk e' M1 => cases ev
    | ct e' M1 => cases ev
theorem runD_len {d : MD} {ts : List T} {M : Mem} {r : T × Mem} (h : runD G d ts M = some r) : ts.length = d.ps.length := by
  unfold runD at h
  split at h
  · assumption
  · cases h
theorem ent_mini {P : Program} {w : World} {KF : PySem.W.Frag} {mg : Str → Option Value} {base : Heap} {x qual : Str} {st : Stmt} {f : Addr} {fd : FuncData} {d : MD} {ow : List Str} (F : Fun KF x qual st f fd) (S : FnScope d.N d.ps (defScope st)) (ho : owC (defScope st) ow = true)
    (hb : Binds KF fd d.ps []) (tab : Tab G K k P w KF mg base) (lam : LamF K KF mg base f qual d.N) (hm : okSs d.N (defScope st) ow d.body (defBody st) = true) : Ent K (k + 2) P w KF mg base f (runD G d) :=
  ⟨fd, d.ps, hb, fun _ _ _ h => runD_len h, fn_mini F S ho tab lam hm⟩
end Mi
end L2

/-! Mini: a whole text, its table, its end. -/
namespace L2
namespace Mi
open PySem PySem.Spec PyProof.Rows
/-- a def of the text: where it stands, its name, its qualified name, its statement, its term, the names that it stores -/
structure DI where
  at_ : Str × Option Str
  name : Str
  qual : Str
  st : Stmt
  d : MD
  ow : List Str
structure CI where
  name : Str
  attrs : List Str
  meths : List Str
  init : Bool
structure Prog where
  kt : Bool
  glbs : List (Str × List Int)
  ds : List DI
  cs : List CI
  lam : List Str
def DI.D (x : DI) : He.DefD := ⟨x.at_, x.name, x.qual, defArgs x.st, defBody x.st, defScope x.st, [], []⟩
def DI.ok (x : DI) : Bool := C8.scC x.d.N x.d.ps (defScope x.st) && owC (defScope x.st) x.ow && okSs x.d.N (defScope x.st) x.ow x.d.body (defBody x.st)
def Prog.at (P : Prog) (p : Str × Option Str) : Option DI := P.ds.find? fun x => decide (x.at_ = p)
noncomputable def Prog.fn (P : Prog) (G : Sig) (p : Str × Option Str) : Option Fn := (P.at p).map fun x => runD G x.d
def Prog.fns (P : Prog) : List DI := P.ds.filter fun x => decide (x.at_.2 = none)
noncomputable def Prog.cl (P : Prog) (G : Sig) (c : CI) : Cl :=
  ⟨c.attrs, if c.init then P.fn G (c.name, some "__init__") else none, (c.meths.filterMap fun m => (P.fn G (c.name, some m)).map fun F => (m, F))⟩
/-- what the defs reckon, n calls deep -/
noncomputable def Prog.G (P : Prog) : Nat → Sig
  | 0 => ⟨P.kt, [], P.glbs.map fun p => (p.1, .tup (p.2.map .int)), []⟩
  | n + 1 => ⟨P.kt, P.fns.map fun x => (x.at_.1, runD (P.G n) x.d), P.glbs.map fun p => (p.1, .tup (p.2.map .int)), P.cs.map fun c => (c.name, P.cl (P.G n) c)⟩
/-! ### the facts -/
def Prog.fa (P : Prog) : List He.Fa := P.fns.map (fun x => .glo x.at_.1) ++ (P.glbs.map (fun p => .glo p.1) ++ (bltNames.map (fun x => .free x) ++ P.cs.flatMap fun c =>
  .glo c.name :: .cls c.name :: (c.attrs.map (fun f => .noat c.name f) ++ (c.meths.map (fun m => .meth c.name m) ++ if c.init then [.mkr c.name] else []))))
/-- the addresses that the module's names reach, level by level -/
def nextF (g : Addr → Option Obj) (F : List Addr) : List Addr := (F.flatMap fun a => match g a with
  | some o => He.refsD o
  | none => []).filter fun a => !(Nat.beq a mainGlobals || Nat.beq a builtinsNs)
def asL (g : Addr → Option Obj) : Nat → List Addr → List Addr
  | 0, F => F
  | n + 1, F => F ++ asL g n (nextF g F)
def asN (g : Addr → Option Obj) (n : Nat) : List Addr := asL g n [mainGlobals]
/-! ### lambdas: the code object of the def at f, its table -/
def codeOf (K : PySem.W.Frag) (f : Addr) : Option Addr := match K.lookup f with
  | some ⟨_, _, .func fd, _⟩ => (match fd.code with
    | .ref c => some c
    | _ => none)
  | _ => none
def tabOf (K : PySem.W.Frag) (c : Addr) : Option Addr := match K.lookup c with
  | some ⟨_, _, .fields vs, _⟩ => (match vs.getD 11 .none with
    | .ref T => some T
    | _ => none)
  | _ => none
def lamQ (x : DI) : Str := x.qual ++ ".<locals>." ++ "<lambda>"
def Prog.tbAt (P : Prog) (K : PySem.W.Frag) (q : Str) : Option Addr := if q ∈ P.lam then (P.ds.find? fun x => decide (lamQ x = q)).bind fun x => (codeOf K (He.fAd K x.at_)).bind (tabOf K) else none
def Prog.tabs (P : Prog) (K : PySem.W.Frag) : List Addr := P.lam.filterMap (P.tbAt K)
def Prog.fr (P : Prog) (g : Addr → Option Obj) (n : Nat) : PySem.W.Frag := match P.lam with
  | [] => He.frG g (asN g n)
  | _ => He.frG g ((asN g n).filter fun a => !(P.tabs (He.frG g (asN g n))).contains a)
def isStrV : Value → Bool
  | .str _ _ => true
  | _ => false
def isIntV : Value → Bool
  | .int _ _ => true
  | _ => false
def isBoolV : Value → Bool
  | .bool _ => true
  | _ => false
def isRefV (T : Addr) : Value → Bool
  | .ref a => Nat.beq a T
  | _ => false
def isTypV (x : String) : Value → Bool
  | .type y => x == y
  | _ => false
/-- the code object of the def at f has its table at T -/
def hdB (K : PySem.W.Frag) (f T : Addr) : Bool := match codeOf K f with
  | some c => (match K.lookup c with
    | some ⟨cls, _, .fields vs, _⟩ => isTypV "code" cls && decide (11 < vs.size) && isRefV T (vs.getD 11 .none) && isStrV (vs.getD 18 .none) && isIntV (vs.getD 7 .none) && isBoolV (vs.getD 9 .none) && isIntV (vs.getD 10 .none) && !(Nat.beq c T)
    | _ => false)
  | none => false
def tabB (K : PySem.W.Frag) (T : Addr) : Bool := match K.lookup T with
  | some ⟨.none, none, .fields vs, sl⟩ => vs.isEmpty && sl.isEmpty
  | _ => false
def Prog.lamOk (P : Prog) (K1 K : PySem.W.Frag) : Bool := (P.lam.all fun q => match P.tbAt K q with
    | some T => tabB K1 T && (K.lookup T).isNone && !(Nat.beq mainGlobals T)
    | none => false) && decide ((P.tabs K).Nodup) && (P.lam.all fun q => P.ds.any fun x => decide (lamQ x = q) && x.d.N.contains q) && P.ds.all fun x => x.d.N.all fun q => match P.tbAt K q with
    | some T => decide (q = lamQ x) && hdB K (He.fAd K x.at_) T
    | none => true
def Prog.ob (P : Prog) (K1 K : PySem.W.Frag) : He.AlD × Bool := (He.obsD P.fa (P.ds.map DI.D) K, (P.glbs.all fun p => He.tupB K p.1 (p.2.map .int)) && P.lamOk K1 K)
theorem Prog.fr_in {P : Prog} {h : Heap} {n : Nat} : (P.fr h.get? n).In h := by
  unfold Prog.fr
  split
  · exact He.frG_in
  · exact He.frG_in
def Prog.hook (P : Prog) (n : Nat) : PySem.W.Hook where
  α := He.AlD × Bool
  obs := fun s => P.ob (He.frG s.heap.get? (asN s.heap.get? n)) (P.fr s.heap.get? n)
  val := fun _ => (He.valD (P.ds.map DI.D), true)
  says := fun _ h => ∃ K1 K : PySem.W.Frag, K1.In h ∧ K.In h ∧ P.ob K1 K = (He.valD (P.ds.map DI.D), true)
  of := fun _ _ e => ⟨_, _, He.frG_in, P.fr_in, e⟩
  keeps := fun _ _ _ ⟨K1, K, h1, hK, c⟩ k => ⟨K1, K, PySem.W.Frag.In.keeps h1 k, PySem.W.Frag.In.keeps hK k, c⟩
def Prog.obs (P : Prog) (n : Nat) (s : PySem.W.SharedT) : He.AlD × Bool := P.ob (He.frG (HandSHeadRun.getT s) (asN (HandSHeadRun.getT s) n)) (P.fr (HandSHeadRun.getT s) n)
theorem Prog.obs_eq (P : Prog) (n : Nat) (s : PySem.W.SharedT) : P.obs n s = (P.hook n).obs s.abs := by
  have e : HandSHeadRun.getT s = s.abs.heap.get? := funext (HandSHeadRun.getT_eq s)
  unfold Prog.obs
  rw [e]
  rfl
def BindD (x : DI) : Prop := ∀ (kV doc pm : Value) (an : Option Addr) (cdv ct : Value) (us : List Value), us.length = x.d.ps.length → bindArgs (PySem.W.fnOf x.name x.qual (defArgs x.st) (defBody x.st) (defScope x.st) .none kV doc pm an cdv ct) ⟨us, []⟩ = pure (x.d.ps.zip us)
def BindA : List DI → Prop
  | [] => True
  | x :: xs => BindD x ∧ BindA xs
def AllK : List DI → Prop
  | [] => True
  | x :: xs => x.ok = true ∧ AllK xs
theorem AllK.of : ∀ {xs : List DI}, AllK xs → ∀ x ∈ xs, x.ok = true
  | y :: ys, h, x, hm => by
    rcases List.mem_cons.mp hm with e | e
    · subst e; exact h.1
    · exact AllK.of h.2 x e
theorem BindA.of : ∀ {xs : List DI} {x : DI}, BindA xs → x ∈ xs → BindD x
  | y :: ys, x, h, hm => by
    rcases List.mem_cons.mp hm with e | e
    · subst e; exact h.1
    · exact BindA.of h.2 e
theorem fun_of {K : PySem.W.Frag} {x qual : Str} {st : Stmt} {f : Addr} {fd : FuncData} (F : FunD K x qual (defArgs st) (defBody st) (defScope st) [] [] f fd) : Fun K x qual st f fd := by
  have kp := F.kp
  obtain ⟨oc, od, dV, kV, doc, pm, an, cdv, ct, osl, rfl, lk, hcd, hD, hK⟩ := F.ex
  rcases hD with ⟨_, rfl⟩ | ⟨e, _⟩
  · exact fun_mk lk hcd kp
  · exact absurd rfl e
section
variable {P : Prog} {K1 K : PySem.W.Frag} {h : Heap} {mg : Str → Option Value} {prog : Program} {w : World} {base : Heap}
theorem Prog.fact (c : P.ob K1 K = (He.valD (P.ds.map DI.D), true)) {f : He.Fa} (hm : f ∈ P.fa) : f.ok K = true := by
  have c1 : He.obsD P.fa (P.ds.map DI.D) K = He.valD (P.ds.map DI.D) := congrArg (fun z => z.1) c
  have c2 := (He.ba (show ((P.fa.all fun f => f.ok K) && (P.ds.map DI.D).all fun d => d.ok K) = true from congrArg (fun z : He.AlD => z.1) c1)).1
  exact List.all_eq_true.mp c2 f hm
theorem Prog.def_ (c : P.ob K1 K = (He.valD (P.ds.map DI.D), true)) {x : DI} (hm : x ∈ P.ds) : ∃ fd, Fun K x.name x.qual x.st (He.fAd K x.at_) fd ∧ FunD K x.name x.qual (defArgs x.st) (defBody x.st) (defScope x.st) [] [] (He.fAd K x.at_) fd := by
  have c1 : He.SaysD P.fa (P.ds.map DI.D) K := congrArg (fun z : He.AlD × Bool => z.1) c
  obtain ⟨i, hi⟩ := List.getElem?_of_mem hm
  obtain ⟨fd, F⟩ := c1.def_ i (d := x.D) (by rw [List.getElem?_map, hi]; rfl)
  exact ⟨fd, fun_of F, F⟩
theorem Prog.at_mem {p : Str × Option Str} {x : DI} (e : P.at p = some x) : x ∈ P.ds ∧ x.at_ = p := by
  unfold Prog.at at e
  have h1 := List.find?_some e
  exact ⟨List.mem_of_find?_eq_some e, of_decide_eq_true h1⟩
theorem DI.scope {x : DI} (h : x.ok = true) : FnScope x.d.N x.d.ps (defScope x.st) ∧ owC (defScope x.st) x.ow = true ∧ okSs x.d.N (defScope x.st) x.ow x.d.body (defBody x.st) = true := by
  unfold DI.ok at h
  simp only [Bool.and_eq_true] at h
  exact ⟨C8.fnScope_by h.1.1, h.1.2, h.2⟩
theorem Prog.tab0 (X : K.In h) (Gm : h.Ns mainGlobals mg) (c : P.ob K1 K = (He.valD (P.ds.map DI.D), true)) (hkt : P.glbs = [] ∨ P.kt = true) : (∀ x t, (P.glbs.map fun p => (p.1, T.tup (p.2.map .int))).lookup x = some t → ∃ u v, mg x = some u ∧ RelV v u ∧ ∀ φ ψ H, RT ⟨K, P.kt, He.ga K, P.tbAt K⟩ φ ψ H t v) ∧ ∀ x ∈ bltNames, mg x = none := by
  refine ⟨fun x t e => ?_, fun x hx => He.free_ok X Gm (P.fact c (List.mem_append_right _ (List.mem_append_right _ (List.mem_append_left _ (List.mem_map.mpr ⟨x, hx, rfl⟩)))))⟩
  have hm := PySem.mem_of_lookup e
  obtain ⟨p, hp, e2⟩ := List.mem_map.mp hm
  cases e2
  have ct : P.glbs.all (fun p => He.tupB K p.1 (p.2.map .int)) = true := (He.ba (show (P.glbs.all (fun p => He.tupB K p.1 (p.2.map .int)) && P.lamOk K1 K) = true from congrArg (fun z : He.AlD × Bool => z.2) c)).1
  have hq := List.all_eq_true.mp ct p hp
  have hk : P.kt = true := by
    rcases hkt with z | z
    · rw [z] at hp; cases hp
    · exact z
  refine ⟨_, .ref (He.ga K p.1), He.glo_ok X Gm (P.fact c (List.mem_append_right _ (List.mem_append_left _ (List.mem_map.mpr ⟨p, hp, rfl⟩)))), rfl, fun φ ψ H => .tup (.inr ⟨hk, ?_⟩) (RTs.ints' _)⟩
  rcases He.tupB_ok hq (fun _ => none) with q | q
  · rcases q with q | ⟨o, q⟩
    · cases q
    · cases q
  · have e3 : (p.2.map He.Dv.int).map (He.Dv.v K) = p.2.map V.int := by rw [List.map_map]; rfl
    rw [e3] at q
    exact q
theorem lookup_map {α β : Type} {g : α → Str} {f : α → β} {x : Str} {y : β} {l : List α} (e : (l.map fun a => (g a, f a)).lookup x = some y) : ∃ a ∈ l, g a = x ∧ f a = y := by
  obtain ⟨a, ha, e⟩ := List.mem_map.mp (PySem.mem_of_lookup e)
  cases e
  exact ⟨a, ha, rfl, rfl⟩
theorem Prog.lam_ok (c : P.ob K1 K = (He.valD (P.ds.map DI.D), true)) : P.lamOk K1 K = true := (He.ba (show (P.glbs.all (fun p => He.tupB K p.1 (p.2.map .int)) && P.lamOk K1 K) = true from congrArg (fun z : He.AlD × Bool => z.2) c)).2
theorem strV_ok {v : Value} (h : isStrV v = true) : ∃ x t, v = .str x t := by cases v <;> first | exact ⟨_, _, rfl⟩ | cases h
theorem intV_ok {v : Value} (h : isIntV v = true) : ∃ x t, v = .int x t := by cases v <;> first | exact ⟨_, _, rfl⟩ | cases h
theorem boolV_ok {v : Value} (h : isBoolV v = true) : ∃ x, v = .bool x := by cases v <;> first | exact ⟨_, rfl⟩ | cases h
theorem refV_ok {v : Value} {T : Addr} (h : isRefV T v = true) : v = .ref T := by cases v <;> first | (have := Nat.eq_of_beq_eq_true h; rw [this]) | cases h
theorem typV_ok {v : Value} {x : String} (h : isTypV x v = true) : v = .type x := by cases v <;> first | (have := eq_of_beq h; rw [this]) | cases h
theorem hdB_ok {f T : Addr} (e : hdB K f T = true) : ∃ c, (∀ oc od fd osl, K.lookup f = some ⟨oc, od, .func fd, osl⟩ → fd.code = .ref c) ∧ ∀ h : Heap, K.In h → PySem.W.CodeHd h c T := by
  unfold hdB at e
  split at e
  case h_2 => cases e
  rename_i c hc
  split at e
  case h_2 => cases e
  rename_i cls dd vs sl hl
  simp only [Bool.and_eq_true, decide_eq_true_eq, Bool.not_eq_true'] at e
  obtain ⟨⟨⟨⟨⟨⟨⟨e1, e2⟩, e3⟩, e4⟩, e5⟩, e6⟩, e7⟩, e8⟩ := e
  refine ⟨c, fun oc od fd osl hf => ?_, fun h hK => ?_⟩
  · unfold codeOf at hc
    rw [hf] at hc
    simp only at hc
    cases hd : fd.code with
    | ref c1 => rw [hd] at hc; simp only [Option.some.injEq] at hc; rw [hc]
    | _ => rw [hd] at hc; simp at hc
  · obtain ⟨x1, y1, z1⟩ := strV_ok e4
    obtain ⟨x2, y2, z2⟩ := intV_ok e5
    obtain ⟨x3, z3⟩ := boolV_ok e6
    obtain ⟨x4, y4, z4⟩ := intV_ok e7
    have z5 := refV_ok e3
    have z6 := typV_ok e1
    subst z6
    refine ⟨_, vs, x1, y1, x2, y2, x3, x4, y4, hK _ _ hl, rfl, ?_, ?_, z5, z1, z2, z3, z4, fun z => ?_⟩
    · rfl
    · rw [Array.getD_eq_getD_getElem?, Array.getElem?_eq_getElem e2] at z5
      rw [Array.getElem?_eq_getElem e2]
      exact congrArg some z5
    · rw [z, Nat.beq_refl] at e8; cases e8
theorem tabB_ok {T : Addr} (e : tabB K T = true) (hK : K.In h) : h.get? T = some (PySem.W.tabObj #[]) := by
  unfold tabB at e
  split at e
  case h_2 => cases e
  rename_i vs sl hl
  simp only [Bool.and_eq_true] at e
  obtain ⟨e1, e3⟩ := e
  have h1 : vs = #[] := Array.isEmpty_iff.mp e1
  have h3 : sl = #[] := Array.isEmpty_iff.mp e3
  subst h1; subst h3
  exact hK _ _ hl
/-- where the tables stand -/
structure TabP (P : Prog) (K : PySem.W.Frag) (h : Heap) : Prop where
  nd : (P.tabs K).Nodup
  len : (P.tabs K).length = P.lam.length
  at_ : ∀ (i : Nat) (q : Str), P.lam[i]? = some q → ∃ T, (P.tabs K)[i]? = some T ∧ P.tbAt K q = some T
  obj : ∀ T ∈ P.tabs K, h.get? T = some (PySem.W.tabObj #[])
  out : ∀ T ∈ P.tabs K, K.lookup T = none
  gl : ∀ T ∈ P.tabs K, mainGlobals ≠ T
  code : ∀ T ∈ P.tabs K, ∃ c, PySem.W.CodeHd h c T
theorem filterMap_all {α β : Type} {f : α → Option β} : ∀ {l : List α}, (∀ a ∈ l, ∃ b, f a = some b) → (l.filterMap f).length = l.length ∧ ∀ (i : Nat) (a : α), l[i]? = some a → ∃ b, (l.filterMap f)[i]? = some b ∧ f a = some b
  | [], _ => ⟨rfl, fun i a e => by simp at e⟩
  | x :: l, h => by
    obtain ⟨b, hb⟩ := h x List.mem_cons_self
    obtain ⟨h1, h2⟩ := filterMap_all fun a ha => h a (List.mem_cons_of_mem _ ha)
    rw [List.filterMap_cons, hb]
    refine ⟨by simp [h1], fun i a e => ?_⟩
    cases i with
    | zero => cases e; exact ⟨b, rfl, hb⟩
    | succ i => exact h2 i a e
theorem Prog.tab_in {q : Str} {T : Addr} (e : P.tbAt K q = some T) : q ∈ P.lam ∧ T ∈ P.tabs K := by
  have hq : q ∈ P.lam := by
    unfold Prog.tbAt at e
    split at e
    · assumption
    · cases e
  exact ⟨hq, List.mem_filterMap.mpr ⟨q, hq, e⟩⟩
theorem Prog.tabP (c : P.ob K1 K = (He.valD (P.ds.map DI.D), true)) (h1 : K1.In h) (hK : K.In h) : TabP P K h := by
  have e := P.lam_ok c
  unfold Prog.lamOk at e
  simp only [Bool.and_eq_true, decide_eq_true_eq, List.all_eq_true] at e
  obtain ⟨⟨⟨e1, e2⟩, e3⟩, e4⟩ := e
  have each : ∀ q ∈ P.lam, ∃ T, P.tbAt K q = some T ∧ tabB K1 T = true ∧ K.lookup T = none ∧ mainGlobals ≠ T := fun q hq => by
    have z := e1 q hq
    split at z
    · rename_i T hT
      simp only [Bool.and_eq_true, Bool.not_eq_true', Option.isNone_iff_eq_none] at z
      exact ⟨T, hT, z.1.1, z.1.2, fun e => by rw [← e, Nat.beq_refl] at z; cases z.2⟩
    · cases z
  have mem : ∀ T ∈ P.tabs K, ∃ q ∈ P.lam, P.tbAt K q = some T ∧ tabB K1 T = true ∧ K.lookup T = none ∧ mainGlobals ≠ T := fun T hT => by
    obtain ⟨q, hq, e⟩ := List.mem_filterMap.mp hT
    obtain ⟨T', e', r⟩ := each q hq
    rw [e] at e'
    cases e'
    exact ⟨q, hq, e, r⟩
  obtain ⟨f1, f2⟩ := filterMap_all (f := P.tbAt K) (l := P.lam) fun q hq => let ⟨T, e, _⟩ := each q hq; ⟨T, e⟩
  refine ⟨e2, f1, f2, fun T hT => ?_, fun T hT => ?_, fun T hT => ?_, fun T hT => ?_⟩
  · obtain ⟨q, _, _, b, _⟩ := mem T hT
    exact tabB_ok b h1
  · obtain ⟨q, _, _, _, b, _⟩ := mem T hT
    exact b
  · obtain ⟨q, _, _, _, _, b⟩ := mem T hT
    exact b
  · obtain ⟨q, hq, e, _⟩ := mem T hT
    obtain ⟨x, hx, z⟩ := List.any_eq_true.mp (e3 q hq)
    simp only [Bool.and_eq_true, decide_eq_true_eq] at z
    have y := e4 x hx q (by simpa using z.2)
    rw [e] at y
    simp only [Bool.and_eq_true, decide_eq_true_eq] at y
    obtain ⟨cc, _, k2⟩ := hdB_ok y.2
    exact ⟨cc, k2 h hK⟩
theorem Prog.lamF (c : P.ob K1 K = (He.valD (P.ds.map DI.D), true)) (hb : K.In base) (hT : ∀ T ∈ P.tabs K, base.BuiltinsAt mg T ∧ mainGlobals ≠ T) {x : DI} (hx : x ∈ P.ds) : LamF ⟨K, P.kt, He.ga K, P.tbAt K⟩ K mg base (He.fAd K x.at_) x.qual x.d.N := fun q T hq e => by
  have e' := P.lam_ok c
  unfold Prog.lamOk at e'
  simp only [Bool.and_eq_true, decide_eq_true_eq, List.all_eq_true] at e'
  have y := e'.2 x hx q hq
  have e : P.tbAt K q = some T := e
  rw [e] at y
  simp only [Bool.and_eq_true, decide_eq_true_eq] at y
  obtain ⟨cc, k1, k2⟩ := hdB_ok y.2
  obtain ⟨b1, b2⟩ := hT T (P.tab_in e).2
  exact ⟨y.1, cc, k1, k2 base hb, b1, b2⟩
/-- the table, n deep -/
theorem Prog.tab (hb0 : K.In base) (hT : ∀ T ∈ P.tabs K, base.BuiltinsAt mg T ∧ mainGlobals ≠ T) (X : K.In h) (Gm : h.Ns mainGlobals mg) (c : P.ob K1 K = (He.valD (P.ds.map DI.D), true)) (hkt : P.glbs = [] ∨ P.kt = true) (hok : P.ds.all DI.ok = true) (hb : BindA P.ds) (hse : base.NoSeer) (htr : prog.given.tree = none) :
    ∀ n, Tab (P.G n) ⟨K, P.kt, He.ga K, P.tbAt K⟩ (2 * n + 31) prog w K mg base := by
  intro n
  induction n with
  | zero => exact ⟨rfl, rfl, Nat.le_refl _, hse, htr, fun f F e => (nomatch e), (P.tab0 X Gm c hkt).1, (P.tab0 X Gm c hkt).2, fun f F e => (nomatch e)⟩
  | succ n t =>
    have ent : ∀ x ∈ P.ds, Ent ⟨K, P.kt, He.ga K, P.tbAt K⟩ (2 * n + 31 + 2) prog w K mg base (He.fAd K x.at_) (runD (P.G n) x.d) := fun x hx => by
      obtain ⟨fd, F, FD⟩ := P.def_ c hx
      obtain ⟨s1, s2, s3⟩ := DI.scope (List.all_eq_true.mp hok x hx)
      exact ent_mini F s1 s2 (FD.bindsN (hb.of hx)) t (P.lamF c hb0 hT hx) s3
    have entp : ∀ p F, P.fn (P.G n) p = some F → Ent ⟨K, P.kt, He.ga K, P.tbAt K⟩ (2 * n + 31 + 2) prog w K mg base (He.fAd K p) F := fun p F e => by
      obtain ⟨x, hx, e2⟩ := Option.map_eq_some_iff.mp e
      obtain ⟨hm, rfl⟩ := P.at_mem hx
      have e' : runD (P.G n) x.d = F := e2
      rw [← e']
      exact ent x hm
    refine Tab.mono (k := 2 * (n + 1) + 31) (j := 2 * n + 31 + 2) ⟨rfl, rfl, by omega, hse, htr, fun f F e => ?_, (P.tab0 X Gm c hkt).1, (P.tab0 X Gm c hkt).2, fun cn C e => ?_⟩ (by omega)
    · obtain ⟨x, hx, rfl, rfl⟩ := lookup_map e
      have hx' := List.mem_filter.mp hx
      have ea : He.fAd K x.at_ = He.ga K x.at_.1 := by
        unfold He.fAd
        rw [of_decide_eq_true hx'.2]
      have en := ent x hx'.1
      rw [ea] at en
      obtain ⟨fd, F, FD⟩ := P.def_ c hx'.1
      have kp := F.kp
      rw [ea] at kp
      exact ⟨He.ga K x.at_.1, He.glo_ok X Gm (P.fact c (List.mem_append_left _ (List.mem_map.mpr ⟨x, hx, rfl⟩))), kp, en⟩
    · obtain ⟨ci, hc, rfl, rfl⟩ := lookup_map e
      have mem : ∀ f : He.Fa, f ∈ (He.Fa.glo ci.name :: .cls ci.name :: (ci.attrs.map (fun f => .noat ci.name f) ++ (ci.meths.map (fun m => .meth ci.name m) ++ if ci.init then [.mkr ci.name] else []))) → f.ok K = true := fun f hf =>
        P.fact c (List.mem_append_right _ (List.mem_append_right _ (List.mem_append_right _ (List.mem_flatMap.mpr ⟨ci, hc, hf⟩))))
      refine ⟨He.cls_ok (mem _ (by simp)), He.glo_ok X Gm (mem _ (by simp)), fun f hf => He.noat_ok (mem _ ?_), fun m F e2 => ?_, fun F e2 => ?_⟩
      · refine List.mem_cons_of_mem _ (List.mem_cons_of_mem _ (List.mem_append_left _ (List.mem_map.mpr ⟨f, hf, rfl⟩)))
      · obtain ⟨m', hm', e3⟩ := List.mem_filterMap.mp (PySem.mem_of_lookup e2)
        obtain ⟨F', eF, e4⟩ := Option.map_eq_some_iff.mp e3
        cases e4
        exact ⟨_, He.meth_ok (mem _ (List.mem_cons_of_mem _ (List.mem_cons_of_mem _ (List.mem_append_right _ (List.mem_append_left _ (List.mem_map.mpr ⟨_, hm', rfl⟩)))))), entp _ _ eF⟩
      · have e3 : (if ci.init = true then P.fn (P.G n) (ci.name, some "__init__") else none) = some F := e2
        split at e3
        · rename_i hi
          refine ⟨_, He.mkr_ok (mem _ (List.mem_cons_of_mem _ (List.mem_cons_of_mem _ (List.mem_append_right _ (List.mem_append_right _ ?_))))), entp _ _ e3⟩
          rw [if_pos hi]
          exact List.mem_singleton.mpr rfl
        · cases e3
end
/-- the head: the law's promise over a base that bears what the state behind the top bears; cs: tables of lambdas -/
theorem call_mini {P : Program} {w : World} {K : PySem.W.Frag} {mg mb : Str → Option Value} {k : Nat} {fa a : Addr} {cs : List Addr} {fd : FuncData} {x : Str} {sp : Sp} {s1 : Shared} {vs : List Value} {ns : List Int} (KX : K.In s1.heap) (gm : s1.heap.Ns mainGlobals mg) (gb : s1.heap.Ns builtinsNs mb) (hbb : ∀ y : Str, y ≠ "__name__" → mb y = bootBuiltins y)
    (lim : s1.heap.NoLimit) (see : s1.heap.NoSeer) (hg : s1.gens = #[]) (hT : ∀ T ∈ cs, s1.heap.get? T = some (PySem.W.tabObj #[])) (nT : ∀ T ∈ cs, K.lookup T = none) (gT : ∀ T ∈ cs, mainGlobals ≠ T) (cT : ∀ T ∈ cs, ∃ c, PySem.W.CodeHd s1.heap c T)
    (hbm : ∃ (bm : Addr) (ob : Obj), mg "__builtins__" = some (.ref bm) ∧ bm ≠ builtinsNs ∧ s1.heap.get? bm = some ob ∧ ob.cls = .type "module" ∧ ob.dict = some builtinsNs ∧ ob.data = .plain)
    (ha : s1.heap.get? a = some { cls := .type "list", data := .seq vs.toArray }) (hi : IntsAre vs ns) (hl : ns.length ≤ sizeLine) (hr : Room k callerA)
    (F : ∀ base : Heap, K.In base → base.Ns mainGlobals mg → base.NoSeer → (∀ T ∈ cs, base.BuiltinsAt mg T ∧ mainGlobals ≠ T) → FnOk P w K mg base CX0 k fa fd [x] sp) (hbind : ∀ (s : Shared) (u : Value), BindsTo s fd ⟨[u], []⟩ [(x, u)])
    (hsp : ∀ H : Hp, (∀ T ∈ cs, H T = some (.tbl #[])) → a ∉ cs → SqL K H a (ns.map V.int) → sp [.ref a] H (fun v _ => v = .bl true) fun _ _ _ => False) :
    codeAny (model P w) callerA (.call (.ref fa) ⟨[.ref a], []⟩) (fun r s' => r = .ok (.ret (.bool true)) ∧ OldK s1.heap s'.heap ∧ s'.os = s1.os ∧ AllBare s'.gens) s1 := by
  have rv := vals_ints hi
  have lv := hi.length
  have aT : a ∉ cs := fun z => by
    have q := hT a z
    rw [ha] at q
    have z' : Data.seq vs.toArray _ = Data.fields #[] := congrArg Obj.data (Option.some.inj q)
    cases z'
  have main : ∀ H : Hp, (∀ b, H b = none ∨ b ∈ cs ∨ ∃ o xs, H b = some (.frz o (.lst xs))) → (∀ T ∈ cs, H T = some (.tbl #[])) → SqL K H a (ns.map V.int) → HOk P w H s1.heap → (∀ b, H b ≠ none → b = a ∨ b ∈ cs) → (H a ≠ none → K.lookup a = none) →
      codeAny (model P w) callerA (.call (.ref fa) ⟨[.ref a], []⟩) (fun r s' => r = .ok (.ret (.bool true)) ∧ OldK s1.heap s'.heap ∧ s'.os = s1.os ∧ AllBare s'.gens) s1 := fun H only hH hS hok hA hK => by
    have nil : ∀ {b : Addr} {o : Obj}, s1.heap.get? b = some o → (∀ us n, o.data ≠ .seq us n) → o.data ≠ .fields #[] → H b = none := fun {b o} e nd nf => by
      cases q : H b with
      | none => rfl
      | some u =>
        rcases hA b (by rw [q]; exact fun z => nomatch z) with e' | e'
        · rw [e', ha] at e
          cases e
          exact absurd rfl (nd _ _)
        · rw [hT b e'] at e
          cases e
          exact absurd rfl nf
    have here : ∀ {b : Addr} {o : Obj}, s1.heap.get? b = some o → (∀ us n, o.data ≠ .seq us n) → o.data ≠ .fields #[] → (hidT s1.heap H).get? b = some o := fun {b o} e nd nf => hidT_get e (nil e nd nf)
    have ns' : ∀ {b : Addr} {m : Str → Option Value}, s1.heap.Ns b m → (hidT s1.heap H).Ns b m := fun {b m} ⟨o, es, ep, e, d, r⟩ => ⟨o, es, ep, here e (fun us n z => by rw [d] at z; cases z) (fun z => by rw [d] at z; cases z), d, r⟩
    have kb : K.In (hidT s1.heap H) := fun b o e => hidT_get (KX b o e) (by
      cases q : H b with
      | none => rfl
      | some u =>
        rcases hA b (by rw [q]; exact fun z => nomatch z) with e' | e'
        · rw [e'] at e q
          rw [hK (by rw [q]; exact fun z => nomatch z)] at e
          cases e
        · rw [nT b e'] at e
          cases e)
    have nmod : ∀ {b : Addr} {o : Obj}, s1.heap.get? b = some o → o.cls = .type "module" → H b = none := fun {b o} e cl => by
      cases q : H b with
      | none => rfl
      | some u =>
        rcases hA b (by rw [q]; exact fun z => nomatch z) with e' | e'
        · rw [e', ha] at e
          cases e
          exact absurd (Value.type.inj cl) (by decide)
        · rw [hT b e'] at e
          cases e
          cases cl
    have sb : (hidT s1.heap H).NoSeer := by
      obtain ⟨mc, c1, c2⟩ := see.statics
      obtain ⟨mm, m1, m2⟩ := see.mods
      obtain ⟨mi, i1, i2⟩ := see.imp
      obtain ⟨mgg, bm, ob, n1, n2, n3, n4, n5⟩ := see.main
      exact ⟨⟨mc, ns' c1, c2⟩, ⟨mm, ns' m1, m2⟩, ⟨mi, ns' i1, i2⟩, mgg, bm, ob, ns' n1, n2, hidT_get n3 (nmod n3 n4), n4, n5⟩
    have tb : ∀ T ∈ cs, (hidT s1.heap H).BuiltinsAt mg T ∧ mainGlobals ≠ T := fun T h => by
      obtain ⟨bm, ob, b1, b2, b3, b4, b5, b6⟩ := hbm
      refine ⟨⟨bm, ob, b1, b2, fun q => ?_, fun q => ?_, hidT_get b3 (nmod b3 b4), b4, b5, b6⟩, gT T h⟩
      · obtain ⟨o, es, ep, e, hd, _⟩ := gm
        rw [q, e] at b3
        cases b3
        rw [hd] at b6
        cases b6
      · rw [q, hT T h] at b3
        cases b3
        cases b6
    have md : L2.Mod K mg (hidT s1.heap H) := ⟨kb, ns' gm, ⟨mb, ns' gb, hbb⟩, let ⟨mc, h1, h2⟩ := lim; ⟨mc, ns' h1, h2⟩⟩
    have e0 : Env0 P w K mg (hidT s1.heap H) callerA [] s1 H := ⟨rfl, md, fun b o e => of_hidT e, Nat.le_of_eq (hidT_size _ _), trivial, fun b hb => (nomatch hb), hok, .of_eq hg⟩
    refine codeAny_mono ((F _ kb (ns' gm) sb tb).run callerA [] s1 H ⟨[.ref a], []⟩ [.ref a] [.ref a] _ _ hr e0 (hbind s1 (.ref a)) (.cons rfl .nil) (hsp H hH aT hS)) fun r s' h => ?_
    match r, h with
    | .error e, h => exact False.elim h
    | .ok .next, h => exact False.elim h
    | .ok .brk, h => exact False.elim h
    | .ok .cont, h => exact False.elim h
    | .ok (.ret u), h =>
      obtain ⟨v, H', os, bare, un, hok', r', q⟩ := h
      have q' : v = .bl true := q
      subst q'
      obtain rfl : u = Value.bool true := r'
      have kept : ∀ b o, b ∉ cs → s1.heap.get? b = some o → s'.heap.get? b = some o := fun b o nb e => by
        rcases only b with q | q | ⟨ob, xs, z⟩
        · exact un.keep b o e q (fun z => (nomatch z)) (fun z => (nomatch z))
        · exact absurd q nb
        · obtain ⟨z1, _⟩ := hok b _ z
          obtain ⟨z2, _⟩ := hok' b _ (un.frzs b ob _ z)
          rw [e] at z1
          cases z1
          exact z2
      have more : ∀ T ∈ cs, ∃ ps : Array Value, s'.heap.get? T = some (PySem.W.tabObj ps) := fun T h => by
        obtain ⟨ps, z⟩ := un.tbls T #[] (hH T h)
        exact ⟨_, hok' T _ z⟩
      refine ⟨rfl, ⟨fun b o e => ?_, fun b o e => ?_⟩, os, bare⟩
      · by_cases hb : b ∈ cs
        · obtain ⟨c, C⟩ := cT b hb
          obtain ⟨ps, z⟩ := more b hb
          have hb' := hT b hb
          rw [hb'] at e
          cases e
          exact .inr (.inl ⟨(C.tab hb').isCodeTable, rfl, #[], ps, rfl, by rw [Array.empty_append]; exact z⟩)
        · exact .inl (kept b o hb e)
      · by_cases hb : b ∈ cs
        · obtain ⟨ps, z⟩ := more b hb
          exact ⟨_, z⟩
        · exact ⟨o, kept b o hb e⟩
  have tbH : ∀ T ∈ cs, ∀ u, some (HO.tbl #[]) = some u → ObjOk P w (fun b => if b ∈ cs then some (.tbl #[]) else none) s1.heap T u := fun T h u e => by
    cases e
    exact hT T h
  by_cases hk : ∃ o, K.lookup a = some o
  · obtain ⟨o, hk⟩ := hk
    have e := KX a o hk
    rw [ha] at e
    cases e
    refine main (fun b => if b ∈ cs then some (.tbl #[]) else none) (fun b => ?_) (fun T h => if_pos h) (.inr ⟨_, vs.toArray, _, hk, rfl, rfl, rfl, by rw [List.size_toArray, lv]; exact hl, by simpa using rv⟩) (fun b u z => ?_) (fun b z => ?_) fun z => absurd (if_neg aT) z
    · by_cases hb : b ∈ cs
      · exact .inr (.inl hb)
      · exact .inl (if_neg hb)
    · by_cases hb : b ∈ cs
      · have z' := (if_pos hb).symm.trans z
        cases z'
        exact hT b hb
      · exact nomatch (if_neg hb).symm.trans z
    · by_cases hb : b ∈ cs
      · exact .inr hb
      · exact absurd (if_neg hb) z
  · have hk' : K.lookup a = none := by
      cases q : K.lookup a with
      | none => rfl
      | some o => exact absurd ⟨o, q⟩ hk
    have nb : ∀ {b : Addr}, b ≠ a → ∀ o, upd (fun b => if b ∈ cs then some (HO.tbl #[]) else none) a o b = if b ∈ cs then some (HO.tbl #[]) else none := fun {b} h o => upd_ne h
    refine main (upd (fun b => if b ∈ cs then some (.tbl #[]) else none) a (.frz { cls := .type "list", data := .seq vs.toArray } (.lst (ns.map V.int)))) (fun b => ?_) (fun T h => ?_) (.inl (.inr ⟨_, upd_same⟩)) (fun b u z => ?_) (fun b z => ?_) fun _ => hk'
    · by_cases hb : b = a
      · subst hb; exact .inr (.inr ⟨_, _, upd_same⟩)
      · by_cases hc : b ∈ cs
        · exact .inr (.inl hc)
        · exact .inl (by rw [nb hb, if_neg hc])
    · rw [nb (fun z => aT (z ▸ h)), if_pos h]
    · by_cases hb : b = a
      · subst hb
        rw [upd_same] at z
        cases z
        exact ⟨ha, by rw [List.length_map]; exact hl, vs, _, rv, ha⟩
      · rw [nb hb] at z
        by_cases hc : b ∈ cs
        · rw [if_pos hc] at z
          cases z
          exact hT b hc
        · rw [if_neg hc] at z
          cases z
    · by_cases hb : b = a
      · exact .inl hb
      · by_cases hc : b ∈ cs
        · exact .inr hc
        · exact absurd (by rw [nb hb, if_neg hc]) z
theorem walk_mini {l : PySem.W.OpenLaw} {n k : Nat} {q : Program} {loose : List Str} {XP : (Str → Option Value) → Heap → Prop} {YP : World → Heap → Prop} {d : DefRec} {x : Str}
    (hn : l.most = some n) (hn2 : n ≤ sizeLine) (hdf : d.params.defaults = []) (hr : Room k callerA) (him : PyProof.Rows.importsNone q = true)
    (F : ∀ (w : World) (mg : Str → Option Value) (fa : Addr) (h : Heap), YP w h → h.Ns mainGlobals mg → mg d.name = some (.ref fa) →
      ∃ (K : PySem.W.Frag) (cs : List Addr) (fd : FuncData) (sp : Sp), K.In h ∧ ((∀ T ∈ cs, h.get? T = some (PySem.W.tabObj #[])) ∧ (∀ T ∈ cs, K.lookup T = none) ∧ (∀ T ∈ cs, mainGlobals ≠ T) ∧ ∀ T ∈ cs, ∃ c, PySem.W.CodeHd h c T) ∧ (∀ (s : Shared) (u : Value), BindsTo s fd ⟨[u], []⟩ [(x, u)]) ∧
        (∀ (H : Hp) (a : Addr) (ns : List Int), ns.length ≤ n → (∀ z ∈ ns, Builtin.Int.intBits z ≤ 1048576) → (∀ T ∈ cs, H T = some (.tbl #[])) → a ∉ cs → SqL K H a (ns.map V.int) → sp [.ref a] H (fun v _ => v = .bl true) fun _ _ _ => False) ∧
        ∀ base : Heap, K.In base → base.Ns mainGlobals mg → base.NoSeer → (∀ T ∈ cs, base.BuiltinsAt mg T ∧ mainGlobals ≠ T) → FnOk l.prog w K mg base CX0 k fa fd [x] sp) :
    PySem.W.WalkO q loose XP YP l.row.toRowW d [] (fun f vs => PySem.call f vs) := by
  refine Att.attach_callB hn hdf fun w s₀ s₁ mg mb fa o pm cd doc a vs ns G Y ho hd hcd hmg hobj hints hlen hbits hg => ?_
  obtain ⟨K, cs, fd, sp, KX, ⟨t1, t2, t3, t4⟩, hb, hsp, hF⟩ := F w mg fa _ Y G.T.g hmg
  exact call_mini KX G.T.g G.T.b G.T.builtins G.T.nolimit (G.T.seer him) hg t1 t2 t3 t4 G.T.bmain hobj hints (Nat.le_trans hlen hn2) hr hF hb fun H hH hn hS => hsp H a ns hlen hbits hH hn hS
/-- the law's own goal -/
def Prog.Goal (P : Prog) (n : Nat) (dl : MD) : Prop := ∀ ns : List Int, ns.length ≤ 63 → (∀ z ∈ ns, Builtin.Int.intBits z ≤ 1048576) → ∃ M, runD (P.G n) dl [.sc ns] (P.lam.map O.tab) = some (.bl true, M)
/-- the end -/
theorem mini_walk {l : PySem.W.OpenLaw} {q : Program} {loose : List Str} {d : DefRec} {P : Prog} {m n : Nat} {x : Str} {xl : DI} {XP : (Str → Option Value) → Heap → Prop} (hn : l.most = some 63) (hdf : d.params.defaults = []) (hd : d.name = ("law" : Str)) (hkt : P.glbs = [] ∨ P.kt = true) (hok : P.ds.all DI.ok = true) (hb : BindA P.ds)
    (hxl : P.at ("law", none) = some xl) (hps : xl.d.ps = [x]) (hroom : n ≤ 40) (him : PyProof.Rows.importsNone q = true) (htr : l.prog.given.tree = none) (goal : P.Goal n xl.d) : PySem.W.WalkO q loose XP (P.hook m).says l.row.toRowW d [] (fun f vs => PySem.call f vs) := by
  refine walk_mini (l := l) (n := 63) (k := 2 * n + 31 + 2) (x := x) hn (by rw [szl]; decide) hdf ⟨rfl, ?_, ?_⟩ him fun w mg fa h Y Gm hmg => ?_
  · have : callerA.depth + 3 * 113 + 5 < recursionLimit := by decide
    omega
  · have : callerA.units + 16 * 113 + 200 < cLine := by decide
    omega
  · obtain ⟨K1, K, KX1, KX, c⟩ := Y
    have tp := P.tabP c KX1 KX
    rw [hd] at hmg
    obtain ⟨hm, ha⟩ := P.at_mem hxl
    obtain ⟨fd, F, FD⟩ := P.def_ c hm
    have efa : fa = He.fAd K xl.at_ := by
      have hmem : xl ∈ P.fns := List.mem_filter.mpr ⟨hm, by rw [ha]; rfl⟩
      have g := He.glo_ok KX Gm (P.fact c (List.mem_append_left _ (List.mem_map.mpr ⟨xl, hmem, rfl⟩)))
      have e1 : xl.at_.1 = ("law" : Str) := by rw [ha]
      rw [e1, hmg] at g
      cases g
      unfold He.fAd
      rw [ha]
    subst efa
    obtain ⟨s1, s2, s3⟩ := DI.scope (List.all_eq_true.mp hok xl hm)
    refine ⟨K, P.tabs K, fd, spM ⟨K, P.kt, He.ga K, P.tbAt K⟩ xl.d.ps.length (runD (P.G n) xl.d), KX, ⟨tp.obj, tp.out, tp.gl, tp.code⟩, fun s u => ?_, fun H a ns h1 h2 hH hn hS => ?_, fun base hB hG hse hBT => ?_⟩
    · have := FD.bindsA (hb.of hm) s [u] (by rw [hps]; rfl)
      rw [hps] at this
      exact this
    · obtain ⟨M', e⟩ := goal ns h1 h2
      refine ⟨by rw [hps]; rfl, P.tabs K, [], P.lam.map O.tab, [.sc ns], .bl true, M', ⟨by rw [List.length_map]; exact tp.len, tp.nd, fun a h => (fun z => nomatch z), fun a h => (nomatch h), fun i b o e e2 => ?_⟩, .cons (.sc ?_) .nil, e, fun φ' H' v _ _ r => ?_⟩
      · rw [List.getElem?_map] at e2
        obtain ⟨q, hq, rfl⟩ := Option.map_eq_some_iff.mp e2
        obtain ⟨T, k1, k2⟩ := tp.at_ i q hq
        rw [e] at k1
        cases k1
        exact ⟨k2, #[], hH b (List.mem_of_getElem? e), True.intro, fun pos cv hc => by
          have z : codeAmong pos [] = some cv := hc
          simp [codeAmong] at z⟩
      · rcases hS with q | q
        · exact .inl ⟨⟨hn, by simp⟩, q⟩
        · exact .inr q
      · cases r; rfl
    · have t := P.tab hB hBT KX Gm c hkt hok hb hse htr (prog := l.prog) (w := w) n
      rw [← hps]
      exact fn_mini F s1 s2 t (P.lamF c hB hBT hm) s3
/-! ### the head's run, look by look -/
theorem map2 {α β γ : Type} {x : Option α} {f : α → β} {g : α → γ} {b : β} {c : γ} (h1 : x.map f = some b) (h2 : x.map g = some c) : x.map (fun s => (f s, g s)) = some (b, c) := by
  cases x with
  | none => cases h1
  | some s =>
    simp only [Option.map_some, Option.some.injEq] at *
    rw [h1, h2]
theorem map3 {α β γ : Type} {x : Option α} {f : α → β} {g : β → γ} {b : β} (h1 : x.map f = some b) : x.map (fun s => g (f s)) = some (g b) := by
  cases x with
  | none => cases h1
  | some s =>
    simp only [Option.map_some, Option.some.injEq] at *
    rw [h1]
/-- what the top leaves -/
noncomputable abbrev endQ (p : Program) (M : Nat) (w : World) (os : OsState) : Option PySem.W.SharedT := HandSHeadRun.endF (HandSHeadRun.stepQ (HandSHeadRun.denQ HandSHeadRun.tabQ) p w) M p w os
abbrev frT (P : Prog) (n : Nat) (s : PySem.W.SharedT) : PySem.W.Frag := P.fr (HandSHeadRun.getT s) n
abbrev frT1 (n : Nat) (s : PySem.W.SharedT) : PySem.W.Frag := He.frG (HandSHeadRun.getT s) (asN (HandSHeadRun.getT s) n)
theorem run_split {r : PySem.W.OpenRow} {q : Program} {P : Prog} {n M : Nat} {loose : List Str} {w : World}
    (hL : ∀ os, (endQ r.prog M w os).map (fun s => HandSHeadRun.looksF r.prog (PySem.W.boot_heap w.params) s.abs) = some true)
    (hS : ∀ os, (endQ r.prog M w os).map (fun s => HandSHeadRun.seenQ q loose (importedModules r.prog.main.body) (fun s => PySem.W.xlAt q [] s && PySem.W.recOk r.toRowW.records s) s.abs) = some (PySem.W.openGood q loose))
    (hA : ∀ os, (endQ r.prog M w os).map (fun s => P.fa.all fun f => f.ok (frT P n s)) = some true)
    (hB : ∀ os, (endQ r.prog M w os).map (fun s => (P.ds.map DI.D).all fun d => d.ok (frT P n s)) = some true)
    (hC : ∀ os, (endQ r.prog M w os).map (fun s => (P.ds.map DI.D).map fun d => He.fnW (frT P n s) d.at_) = some ((P.ds.map DI.D).map He.DefD.val))
    (hD : ∀ os, (endQ r.prog M w os).map (fun s => (P.glbs.all fun p => He.tupB (frT P n s) p.1 (p.2.map .int)) && P.lamOk (frT1 n s) (frT P n s)) = some true) : HandSHeadRun.RunEq r q (P.hook n) (P.obs n) M loose w := fun os => by
  have h1 := map2 (map2 (map2 (hA os) (hB os)) (hC os)) (hD os)
  have h2 := map3 (g := fun z : ((Bool × Bool) × List He.FnW) × Bool => ((((z.1.1.1 && z.1.1.2), z.1.2), z.2) : He.AlD × Bool)) h1
  exact map2 (hL os) (map2 (hS os) h2)
end Mi
end L2

/-! The defs of the laws as terms (printed by lib.py). -/
namespace L2
namespace Mi
namespace Lib
open PySem PySem.Spec PyProof.Rows
def common_divisor : MD := ⟨["a", "b"], ["a", "b"], [
  .par [(0, "a"), (1, "b")] (.cons (.bi .abs (.cons (.var 0 "a") .nil)) (.cons (.bi .abs (.cons (.var 1 "b") .nil)) .nil)),
  .whl (.var 1 "b") [
    .par [(0, "a"), (1, "b")] (.cons (.var 1 "b") (.cons (.bin .Mod false (.var 0 "a") (.var 1 "b")) .nil))],
  .ret (.var 0 "a")], true⟩
def divisor_of : MD := ⟨["integers"], ["integers", "found", "integer"], [
  .set 1 "found" (.int 0),
  .for (.nm 2 "integer") (.over (.var 0 "integers")) [
    .ite (.var 2 "integer") [
      .set 1 "found" (.call "common_divisor" (.cons (.var 1 "found") (.cons (.var 2 "integer") .nil))),
      .ite (.cmp .Eq (.var 1 "found") (.int 1)) [
        .brk] []] []],
  .ret (.var 1 "found")], true⟩
def number : MD := ⟨["n", "d"], ["n", "d", "divisor"], [
  .ite (.cmp .Lt (.var 1 "d") (.int 0)) [
    .par [(0, "n"), (1, "d")] (.cons (.neg (.var 0 "n")) (.cons (.neg (.var 1 "d")) .nil))] [],
  .set 2 "divisor" (.call "common_divisor" (.cons (.var 0 "n") (.cons (.var 1 "d") .nil))),
  .ret (.tup (.cons (.bin .FloorDiv false (.var 0 "n") (.var 2 "divisor")) (.cons (.bin .FloorDiv false (.var 1 "d") (.var 2 "divisor")) .nil)))], true⟩
def plus : MD := ⟨["a", "b"], ["a", "b"], [
  .ret (.call "number" (.cons (.bin .Add false (.bin .Mult false (.ix (.var 0 "a") (.int 0)) (.ix (.var 1 "b") (.int 1))) (.bin .Mult false (.ix (.var 1 "b") (.int 0)) (.ix (.var 0 "a") (.int 1)))) (.cons (.bin .Mult false (.ix (.var 0 "a") (.int 1)) (.ix (.var 1 "b") (.int 1))) .nil)))], true⟩
def minus : MD := ⟨["a", "b"], ["a", "b"], [
  .ret (.call "number" (.cons (.bin .Sub false (.bin .Mult false (.ix (.var 0 "a") (.int 0)) (.ix (.var 1 "b") (.int 1))) (.bin .Mult false (.ix (.var 1 "b") (.int 0)) (.ix (.var 0 "a") (.int 1)))) (.cons (.bin .Mult false (.ix (.var 0 "a") (.int 1)) (.ix (.var 1 "b") (.int 1))) .nil)))], true⟩
def times : MD := ⟨["a", "b"], ["a", "b"], [
  .ret (.call "number" (.cons (.bin .Mult false (.ix (.var 0 "a") (.int 0)) (.ix (.var 1 "b") (.int 0))) (.cons (.bin .Mult false (.ix (.var 0 "a") (.int 1)) (.ix (.var 1 "b") (.int 1))) .nil)))], true⟩
def over : MD := ⟨["a", "b"], ["a", "b"], [
  .ret (.call "number" (.cons (.bin .Mult false (.ix (.var 0 "a") (.int 0)) (.ix (.var 1 "b") (.int 1))) (.cons (.bin .Mult false (.ix (.var 0 "a") (.int 1)) (.ix (.var 1 "b") (.int 0))) .nil)))], true⟩
def less : MD := ⟨["a", "b"], ["a", "b"], [
  .ret (.cmp .Lt (.bin .Mult false (.ix (.var 0 "a") (.int 0)) (.ix (.var 1 "b") (.int 1))) (.bin .Mult false (.ix (.var 1 "b") (.int 0)) (.ix (.var 0 "a") (.int 1))))], true⟩
def sign : MD := ⟨["a"], ["a"], [
  .ret (.bin .Sub false (.bi .int (.cons (.cmp .Gt (.ix (.var 0 "a") (.int 0)) (.int 0)) .nil)) (.bi .int (.cons (.cmp .Lt (.ix (.var 0 "a") (.int 0)) (.int 0)) .nil)))], true⟩
def lowest : MD := ⟨["integers"], ["integers", "divisor", "integer"], [
  .set 1 "divisor" (.call "divisor_of" (.cons (.var 0 "integers") .nil)),
  .ite (.cmp .Lt (.var 1 "divisor") (.int 2)) [
    .ret (.bi (.list false) (.cons (.var 0 "integers") .nil))] [],
  .ret (.lc false [("integer", 2)] (.nm 2 "integer") (.over (.var 0 "integers")) .nil (.bin .FloorDiv false (.var 2 "integer") (.var 1 "divisor")))], true⟩
def brought : MD := ⟨["numbers"], ["numbers", "common", "part"], [
  .set 1 "common" (.int 1),
  .for (.nm 2 "part") (.over (.var 0 "numbers")) [
    .set 1 "common" (.bin .Mult false (.bin .FloorDiv false (.var 1 "common") (.call "common_divisor" (.cons (.var 1 "common") (.cons (.ix (.var 2 "part") (.int 1)) .nil)))) (.ix (.var 2 "part") (.int 1)))],
  .ret (.call "lowest" (.cons (.lc false [("part", 2)] (.nm 2 "part") (.over (.var 0 "numbers")) .nil (.bin .Mult false (.ix (.var 2 "part") (.int 0)) (.bin .FloorDiv false (.var 1 "common") (.ix (.var 2 "part") (.int 1))))) .nil))], true⟩
def _law_cell : MD := ⟨["_law_script", "_law_k"], ["_law_script", "_law_k"], [
  .ite (.cmp .Lt (.var 1 "_law_k") (.bi .len (.cons (.var 0 "_law_script") .nil))) [
    .ret (.ix (.var 0 "_law_script") (.var 1 "_law_k"))] [],
  .ret (.int 0)], true⟩
def _law_parts : MD := ⟨["_law_cell_here", "_law_sizes"], ["_law_cell_here", "_law_sizes", "_law_parts_here", "_law_left", "_law_k", "_law_mixed"], [
  .set 2 "_law_parts_here" (.lst true .nil),
  .set 3 "_law_left" (.bin .Sub false (.var 0 "_law_cell_here") (.bin .Pow false (.int 10) (.int 18))),
  .for (.nm 4 "_law_k") (.rng1 (.bi .len (.cons (.var 1 "_law_sizes") .nil))) [
    .ite (.cmp .GtE (.var 3 "_law_left") (.int 0)) [
      .ex (.bm .append (.var 2 "_law_parts_here") (.cons (.bin .Mod false (.bi .int (.cons (.var 3 "_law_left") .nil)) (.ix (.var 1 "_law_sizes") (.var 4 "_law_k"))) .nil)),
      .set 3 "_law_left" (.bin .FloorDiv false (.var 3 "_law_left") (.ix (.var 1 "_law_sizes") (.var 4 "_law_k")))] [
      .set 5 "_law_mixed" (.bin .Mod false (.bi .int (.cons (.bin .Add false (.bin .Add false (.bin .Mult false (.var 0 "_law_cell_here") (.int 48271)) (.bin .Mult false (.var 4 "_law_k") (.int 69621))) (.int 11)) .nil)) (.int 2147483647)),
      .set 5 "_law_mixed" (.bin .Mod false (.bi .int (.cons (.bin .Add false (.bin .Add false (.bin .Mult false (.var 5 "_law_mixed") (.var 5 "_law_mixed")) (.bin .Mult false (.int 16807) (.var 4 "_law_k"))) (.int 5)) .nil)) (.int 998244353)),
      .ex (.bm .append (.var 2 "_law_parts_here") (.cons (.bin .Mod false (.bi .int (.cons (.bin .FloorDiv false (.var 5 "_law_mixed") (.int 7)) .nil)) (.ix (.var 1 "_law_sizes") (.var 4 "_law_k"))) .nil))]],
  .ret (.var 2 "_law_parts_here")], true⟩
def _law_is_integer : MD := ⟨["_law_actual"], ["_law_actual"], [
  .ret (.and (.isi (.var 0 "_law_actual") "int") (.one (.not (.isi (.var 0 "_law_actual") "bool"))))], true⟩
def without_rows : MD := ⟨["gains"], ["gains", "still", "column", "gain"], [
  .set 1 "still" (.bin .Mult false (.tup (.cons (.glb "NOUGHT") .nil)) (.bi .len (.cons (.var 0 "gains") .nil))),
  .for (.tp (.cons (.nm 2 "column") (.cons (.nm 3 "gain") .nil))) (.enum (.var 0 "gains")) [
    .ite (.cmp .Gt (.var 3 "gain") (.int 0)) [
      .ret (.tup (.cons (.str "any") (.cons (.var 1 "still") (.cons (.bin .Add false (.bin .Add false (.slc false (.var 1 "still") .nopart (.var 2 "column")) (.tup (.cons (.tup (.cons (.int 1) (.cons (.int 1) .nil))) .nil))) (.slc false (.var 1 "still") (.bin .Add false (.var 2 "column") (.int 1)) .nopart)) .nil))))] []],
  .ret (.tup (.cons (.str "most") (.cons (.var 1 "still") (.cons (.tup .nil) .nil))))], true⟩
def maximize : MD := ⟨["rows", "sides", "gains"], ["rows", "sides", "gains", "table", "column"], [
  .ite (.not (.var 0 "rows")) [
    .ret (.call "without_rows" (.cons (.var 2 "gains") .nil))] [],
  .set 3 "table" (.mk "Table" (.cons (.var 0 "rows") (.cons (.var 1 "sides") .nil))),
  .ex (.mcall "Table" (.var 3 "table") "set_gains" (.cons (.bin .Add false (.bin .Mult false (.lst false (.cons (.int 0) .nil)) (.att "Table" (.var 3 "table") "width")) (.bin .Mult false (.lst false (.cons (.neg (.int 1)) .nil)) (.bi .len (.cons (.var 0 "rows") .nil)))) .nil)),
  .ex (.mcall "Table" (.var 3 "table") "climb" .nil),
  .ite (.cmp .Lt (.ix (.att "Table" (.var 3 "table") "top") (.neg (.int 1))) (.int 0)) [
    .ret (.tup (.cons (.str "none") (.cons (.mcall "Table" (.var 3 "table") "prices" (.cons (.int 1) .nil)) .nil)))] [],
  .ex (.mcall "Table" (.var 3 "table") "settle" .nil),
  .ex (.mcall "Table" (.var 3 "table") "set_gains" (.cons (.bin .Add false (.bi (.list false) (.cons (.var 2 "gains") .nil)) (.bin .Mult false (.lst false (.cons (.int 0) .nil)) (.bi .len (.cons (.var 0 "rows") .nil)))) .nil)),
  .set 4 "column" (.mcall "Table" (.var 3 "table") "climb" .nil),
  .ite (.cmp .IsNot (.var 4 "column") .non) [
    .ret (.tup (.cons (.str "any") (.cons (.mcall "Table" (.var 3 "table") "tuple_here" .nil) (.cons (.mcall "Table" (.var 3 "table") "ray" (.cons (.var 4 "column") .nil)) .nil))))] [],
  .ret (.tup (.cons (.str "most") (.cons (.mcall "Table" (.var 3 "table") "tuple_here" .nil) (.cons (.mcall "Table" (.var 3 "table") "prices" (.cons (.int 0) .nil)) .nil))))], true⟩
def product : MD := ⟨["integers", "numbers"], ["integers", "numbers", "found", "integer", "part"], [
  .set 2 "found" (.glb "NOUGHT"),
  .for (.tp (.cons (.nm 3 "integer") (.cons (.nm 4 "part") .nil))) (.zip2 (.var 0 "integers") (.var 1 "numbers")) [
    .ite (.and (.var 3 "integer") (.one (.ix (.var 4 "part") (.int 0)))) [
      .set 2 "found" (.call "plus" (.cons (.var 2 "found") (.cons (.call "times" (.cons (.tup (.cons (.var 3 "integer") (.cons (.int 1) .nil))) (.cons (.var 4 "part") .nil))) .nil)))] []],
  .ret (.var 2 "found")], true⟩
def total : MD := ⟨["numbers"], ["numbers", "found", "part"], [
  .set 1 "found" (.glb "NOUGHT"),
  .for (.nm 2 "part") (.over (.var 0 "numbers")) [
    .set 1 "found" (.call "plus" (.cons (.var 1 "found") (.cons (.var 2 "part") .nil)))],
  .ret (.var 1 "found")], true⟩
def taken_from : MD := ⟨["v", "w"], ["v", "w"], [
  .ite (.isi (.ix (.var 0 "v") (.int 0)) "tuple") [
    .ret (.tup (.cons (.call "plus" (.cons (.ix (.var 0 "v") (.int 0)) (.cons (.tup (.cons (.neg (.ix (.ix (.var 1 "w") (.int 0)) (.int 0))) (.cons (.ix (.ix (.var 1 "w") (.int 0)) (.int 1)) .nil))) .nil))) (.cons (.call "plus" (.cons (.ix (.var 0 "v") (.int 1)) (.cons (.tup (.cons (.neg (.ix (.ix (.var 1 "w") (.int 1)) (.int 0))) (.cons (.ix (.ix (.var 1 "w") (.int 1)) (.int 1)) .nil))) .nil))) .nil)))] [],
  .ret (.tup (.cons (.bin .Sub false (.ix (.var 0 "v") (.int 0)) (.ix (.var 1 "w") (.int 0))) (.cons (.bin .Sub false (.ix (.var 0 "v") (.int 1)) (.ix (.var 1 "w") (.int 1))) .nil)))], true⟩
def span : MD := ⟨["frame", "k"], ["frame", "k", "points", "members", "_"], [
  .asg (.tp (.cons (.nm 2 "points") (.cons (.nm 3 "members") (.cons (.nm 4 "_") .nil)))) (.var 0 "frame"),
  .ret (.call "taken_from" (.cons (.ix (.var 2 "points") (.ix (.ix (.var 3 "members") (.var 1 "k")) (.int 0))) (.cons (.ix (.var 2 "points") (.ix (.ix (.var 3 "members") (.var 1 "k")) (.int 1))) .nil)))], true⟩
def growth : MD := ⟨["frame", "k", "motion"], ["frame", "k", "motion", "i", "j"], [
  .asg (.tp (.cons (.nm 3 "i") (.cons (.nm 4 "j") .nil))) (.slc false (.ix (.ix (.var 0 "frame") (.int 1)) (.var 1 "k")) .nopart (.int 2)),
  .ret (.call "product" (.cons (.call "span" (.cons (.var 0 "frame") (.cons (.var 1 "k") .nil))) (.cons (.call "taken_from" (.cons (.ix (.var 2 "motion") (.var 3 "i")) (.cons (.ix (.var 2 "motion") (.var 4 "j")) .nil))) .nil)))], true⟩
def work : MD := ⟨["load", "motion"], ["load", "motion", "found", "force", "velocity"], [
  .set 2 "found" (.lc false [("force", 3), ("velocity", 4)] (.tp (.cons (.nm 3 "force") (.cons (.nm 4 "velocity") .nil))) (.zip2 (.var 0 "load") (.var 1 "motion")) .nil (.call "product" (.cons (.var 3 "force") (.cons (.var 4 "velocity") .nil)))),
  .ite (.and (.var 2 "found") (.one (.isi (.ix (.var 2 "found") (.int 0)) "tuple"))) [
    .ret (.call "total" (.cons (.var 2 "found") .nil))] [],
  .ret (.bi .sum (.cons (.var 2 "found") .nil))], true⟩
def resistance : MD := ⟨["frame", "motion"], ["frame", "motion", "found", "k", "_", "pull", "push", "grown"], [
  .set 2 "found" (.int 0),
  .for (.tp (.cons (.nm 3 "k") (.cons (.tp (.cons (.nm 4 "_") (.cons (.nm 4 "_") (.cons (.nm 5 "pull") (.cons (.nm 6 "push") .nil))))) .nil))) (.enum (.ix (.var 0 "frame") (.int 1))) [
    .set 7 "grown" (.call "growth" (.cons (.var 0 "frame") (.cons (.var 3 "k") (.cons (.var 1 "motion") .nil)))),
    .ite (.cmp .Gt (.var 7 "grown") (.int 0)) [
      .aug 2 "found" .Add (.bin .Mult false (.var 5 "pull") (.var 7 "grown"))] [
      .ite (.cmp .Lt (.var 7 "grown") (.int 0)) [
        .aug 2 "found" .Sub (.bin .Mult false (.var 6 "push") (.var 7 "grown"))] []]],
  .ret (.var 2 "found")], true⟩
def loose_joints : MD := ⟨["frame"], ["frame", "pins", "pin", "joint"], [
  .set 1 "pins" (.dc [("pin", 2)] (.nm 2 "pin") (.over (.ix (.var 0 "frame") (.int 2))) (.var 2 "pin") (.bl true)),
  .ret (.lc false [("joint", 3)] (.nm 3 "joint") (.rng1 (.bi .len (.cons (.ix (.var 0 "frame") (.int 0)) .nil))) (.cons (.cmp .NotIn (.var 3 "joint") (.var 1 "pins")) .nil) (.var 3 "joint"))], true⟩
def parts_of : MD := ⟨["frame"], ["frame", "parts", "k", "_", "pull", "push"], [
  .set 1 "parts" (.lst true .nil),
  .for (.tp (.cons (.nm 2 "k") (.cons (.tp (.cons (.nm 3 "_") (.cons (.nm 3 "_") (.cons (.nm 4 "pull") (.cons (.nm 5 "push") .nil))))) .nil))) (.enum (.ix (.var 0 "frame") (.int 1))) [
    .ite (.cmp .NotEq (.var 4 "pull") (.int 0)) [
      .ex (.bm .append (.var 1 "parts") (.cons (.tup (.cons (.var 2 "k") (.cons (.int 1) .nil))) .nil))] [],
    .ite (.cmp .NotEq (.var 5 "push") (.int 0)) [
      .ex (.bm .append (.var 1 "parts") (.cons (.tup (.cons (.var 2 "k") (.cons (.neg (.int 1)) .nil))) .nil))] []],
  .ret (.var 1 "parts")], true⟩
def limit_of : MD := ⟨["frame", "part"], ["frame", "part", "k", "way"], [
  .asg (.tp (.cons (.nm 2 "k") (.cons (.nm 3 "way") .nil))) (.var 1 "part"),
  .ret (.ife (.cmp .Eq (.var 3 "way") (.int 1)) (.ix (.ix (.ix (.var 0 "frame") (.int 1)) (.var 2 "k")) (.int 2)) (.ix (.ix (.ix (.var 0 "frame") (.int 1)) (.var 2 "k")) (.int 3)))], true⟩
def balance_rows : MD := ⟨["frame", "parts"], ["frame", "parts", "found", "joint", "which", "row", "k", "way", "i", "j", "entry"], [
  .set 2 "found" (.lst true .nil),
  .for (.nm 3 "joint") (.over (.call "loose_joints" (.cons (.var 0 "frame") .nil))) [
    .for (.nm 4 "which") (.rng1 (.int 2)) [
      .set 5 "row" (.lst true .nil),
      .for (.tp (.cons (.nm 6 "k") (.cons (.nm 7 "way") .nil))) (.over (.var 1 "parts")) [
        .asg (.tp (.cons (.nm 8 "i") (.cons (.nm 9 "j") .nil))) (.slc false (.ix (.ix (.var 0 "frame") (.int 1)) (.var 6 "k")) .nopart (.int 2)),
        .set 10 "entry" (.bin .Mult false (.var 7 "way") (.ix (.call "span" (.cons (.var 0 "frame") (.cons (.var 6 "k") .nil))) (.var 4 "which"))),
        .ex (.bm .append (.var 5 "row") (.cons (.bin .Add false (.bin .Mult false (.neg (.var 10 "entry")) (.bi .int (.cons (.cmp .Eq (.var 3 "joint") (.var 8 "i")) .nil))) (.bin .Mult false (.var 10 "entry") (.bi .int (.cons (.cmp .Eq (.var 3 "joint") (.var 9 "j")) .nil)))) .nil))],
      .ex (.bm .append (.var 2 "found") (.cons (.bi .tuple (.cons (.var 5 "row") .nil)) .nil))]],
  .ret (.var 2 "found")], true⟩
def sides_of : MD := ⟨["frame", "load"], ["frame", "load", "joint", "which"], [
  .ret (.lc2 false [("joint", 2), ("which", 3)] (.nm 2 "joint") (.over (.call "loose_joints" (.cons (.var 0 "frame") .nil))) .nil [3] (.nm 3 "which") (.rng1 (.int 2)) .nil (.neg (.ix (.ix (.var 1 "load") (.var 2 "joint")) (.var 3 "which"))))], true⟩
def limit_rows : MD := ⟨["limits", "width"], ["limits", "width", "bound", "rows", "count", "at", "row", "limit"], [
  .set 2 "bound" (.lc false [("at", 5), ("limit", 7)] (.tp (.cons (.nm 5 "at") (.cons (.nm 7 "limit") .nil))) (.enum (.var 0 "limits")) (.cons (.cmp .IsNot (.var 7 "limit") .non) .nil) (.var 5 "at")),
  .set 3 "rows" (.lst true .nil),
  .for (.tp (.cons (.nm 4 "count") (.cons (.nm 5 "at") .nil))) (.enum (.var 2 "bound")) [
    .set 6 "row" (.bin .Mult true (.lst false (.cons (.int 0) .nil)) (.bin .Add false (.var 1 "width") (.bi .len (.cons (.var 2 "bound") .nil)))),
    .setI (.var 6 "row") (.var 5 "at") (.int 1),
    .setI (.var 6 "row") (.bin .Add false (.var 1 "width") (.var 4 "count")) (.int 1),
    .ex (.bm .append (.var 3 "rows") (.cons (.bi .tuple (.cons (.var 6 "row") .nil)) .nil))],
  .ret (.tup (.cons (.var 3 "rows") (.cons (.lc false [("at", 5)] (.nm 5 "at") (.over (.var 2 "bound")) .nil (.ix (.var 0 "limits") (.var 5 "at"))) .nil)))], true⟩
def tensions_of_parts : MD := ⟨["frame", "parts", "x"], ["frame", "parts", "x", "found", "k", "way", "part"], [
  .set 3 "found" (.bin .Mult true (.lst false (.cons (.glb "NOUGHT") .nil)) (.bi .len (.cons (.ix (.var 0 "frame") (.int 1)) .nil))),
  .for (.tp (.cons (.tp (.cons (.nm 4 "k") (.cons (.nm 5 "way") .nil))) (.cons (.nm 6 "part") .nil))) (.zip2 (.var 1 "parts") (.var 2 "x")) [
    .ite (.cmp .Eq (.var 5 "way") (.int 1)) [
      .setI (.var 3 "found") (.var 4 "k") (.call "minus" (.cons (.ix (.var 3 "found") (.var 4 "k")) (.cons (.tup (.cons (.neg (.ix (.var 6 "part") (.int 0))) (.cons (.ix (.var 6 "part") (.int 1)) .nil))) .nil)))] [
      .setI (.var 3 "found") (.var 4 "k") (.call "minus" (.cons (.ix (.var 3 "found") (.var 4 "k")) (.cons (.var 6 "part") .nil)))]],
  .ret (.bi .tuple (.cons (.var 3 "found") .nil))], true⟩
def motion_of : MD := ⟨["frame", "prices"], ["frame", "prices", "found", "at", "joint", "_"], [
  .set 2 "found" (.lc true [("_", 5)] (.nm 5 "_") (.over (.ix (.var 0 "frame") (.int 0))) .nil (.tup (.cons (.glb "NOUGHT") (.cons (.glb "NOUGHT") .nil)))),
  .for (.tp (.cons (.nm 3 "at") (.cons (.nm 4 "joint") .nil))) (.enum (.call "loose_joints" (.cons (.var 0 "frame") .nil))) [
    .setI (.var 2 "found") (.var 4 "joint") (.tup (.cons (.ix (.var 1 "prices") (.bin .Mult false (.int 2) (.var 3 "at"))) (.cons (.ix (.var 1 "prices") (.bin .Add false (.bin .Mult false (.int 2) (.var 3 "at")) (.int 1))) .nil)))],
  .ret (.bi .tuple (.cons (.var 2 "found") .nil))], true⟩
def whole_motion : MD := ⟨["motion"], ["motion", "flat", "velocity", "part", "joint"], [
  .set 1 "flat" (.call "brought" (.cons (.lc2 false [("velocity", 2), ("part", 3)] (.nm 2 "velocity") (.over (.var 0 "motion")) .nil [3] (.nm 3 "part") (.over (.var 2 "velocity")) .nil (.var 3 "part")) .nil)),
  .ret (.bi .tuple (.cons (.lc false [("joint", 4)] (.nm 4 "joint") (.rng1 (.bi .len (.cons (.var 0 "motion") .nil))) .nil (.tup (.cons (.ix (.var 1 "flat") (.bin .Mult false (.int 2) (.var 4 "joint"))) (.cons (.ix (.var 1 "flat") (.bin .Add false (.bin .Mult false (.int 2) (.var 4 "joint")) (.int 1))) .nil)))) .nil))], true⟩
def program_of : MD := ⟨["frame", "load"], ["frame", "load", "parts", "limited", "limits", "slack", "rows", "part", "row"], [
  .set 2 "parts" (.call "parts_of" (.cons (.var 0 "frame") .nil)),
  .asg (.tp (.cons (.nm 3 "limited") (.cons (.nm 4 "limits") .nil))) (.call "limit_rows" (.cons (.lc false [("part", 7)] (.nm 7 "part") (.over (.var 2 "parts")) .nil (.call "limit_of" (.cons (.var 0 "frame") (.cons (.var 7 "part") .nil)))) (.cons (.bi .len (.cons (.var 2 "parts") .nil)) .nil))),
  .set 5 "slack" (.bin .Mult false (.tup (.cons (.int 0) .nil)) (.bi .len (.cons (.var 4 "limits") .nil))),
  .set 6 "rows" (.bin .Add false (.lc false [("row", 8)] (.nm 8 "row") (.over (.call "balance_rows" (.cons (.var 0 "frame") (.cons (.var 2 "parts") .nil)))) .nil (.bin .Add false (.var 8 "row") (.var 5 "slack"))) (.var 3 "limited")),
  .ret (.tup (.cons (.var 2 "parts") (.cons (.var 6 "rows") (.cons (.bin .Add false (.call "sides_of" (.cons (.var 0 "frame") (.cons (.var 1 "load") .nil))) (.var 4 "limits")) .nil))))], true⟩
def carry : MD := ⟨["frame", "load"], ["frame", "load", "parts", "rows", "sides", "width", "answer"], [
  .asg (.tp (.cons (.nm 2 "parts") (.cons (.nm 3 "rows") (.cons (.nm 4 "sides") .nil)))) (.call "program_of" (.cons (.var 0 "frame") (.cons (.var 1 "load") .nil))),
  .set 5 "width" (.ife (.var 3 "rows") (.bi .len (.cons (.ix (.var 3 "rows") (.int 0)) .nil)) (.bi .len (.cons (.var 2 "parts") .nil))),
  .set 6 "answer" (.call "maximize" (.cons (.var 3 "rows") (.cons (.var 4 "sides") (.cons (.bin .Mult false (.tup (.cons (.int 0) .nil)) (.var 5 "width")) .nil)))),
  .ite (.cmp .Eq (.ix (.var 6 "answer") (.int 0)) (.str "none")) [
    .ret (.tup (.cons (.str "motion") (.cons (.call "whole_motion" (.cons (.call "motion_of" (.cons (.var 0 "frame") (.cons (.ix (.var 6 "answer") (.int 1)) .nil))) .nil)) .nil)))] [],
  .ret (.tup (.cons (.str "tensions") (.cons (.call "tensions_of_parts" (.cons (.var 0 "frame") (.cons (.var 2 "parts") (.cons (.ix (.var 6 "answer") (.int 1)) .nil)))) .nil)))], true⟩
def turned : MD := ⟨["v"], ["v"], [
  .ret (.tup (.cons (.neg (.ix (.var 0 "v") (.int 1))) (.cons (.ix (.var 0 "v") (.int 0)) .nil)))], true⟩
def Pebbles___init__ : MD := ⟨["self", "n"], ["self", "n", "_"], [
  .setA "Pebbles" (.var 0 "self") "free" (.bin .Mult true (.lst false (.cons (.int 2) .nil)) (.var 1 "n")),
  .setA "Pebbles" (.var 0 "self") "held" (.lc false [("_", 2)] (.nm 2 "_") (.rng1 (.var 1 "n")) .nil (.lst true .nil))], true⟩
def Pebbles__way_to_pebble : MD := ⟨["self", "start", "other"], ["self", "start", "other", "before", "waiting", "joint", "following", "way"], [
  .set 3 "before" (.dlit (.cons (.var 1 "start") (.cons .non (.cons (.var 2 "other") (.cons .non .nil))))),
  .set 4 "waiting" (.lst true (.cons (.var 1 "start") .nil)),
  .whl (.var 4 "waiting") [
    .set 5 "joint" (.bm .pop0 (.var 4 "waiting") .nil),
    .for (.nm 6 "following") (.over (.ix (.att "Pebbles" (.var 0 "self") "held") (.var 5 "joint"))) [
      .ite (.cmp .NotIn (.var 6 "following") (.var 3 "before")) [
        .setI (.var 3 "before") (.var 6 "following") (.var 5 "joint"),
        .ite (.ix (.att "Pebbles" (.var 0 "self") "free") (.var 6 "following")) [
          .set 7 "way" (.lst true (.cons (.var 6 "following") .nil)),
          .whl (.cmp .NotEq (.ix (.var 7 "way") (.neg (.int 1))) (.var 1 "start")) [
            .ex (.bm .append (.var 7 "way") (.cons (.ix (.var 3 "before") (.ix (.var 7 "way") (.neg (.int 1)))) .nil))],
          .ret (.var 7 "way")] [],
        .ex (.bm .append (.var 4 "waiting") (.cons (.var 6 "following") .nil))] []]],
  .ret .non], true⟩
def Pebbles__fetch : MD := ⟨["self", "joint", "other"], ["self", "joint", "other", "way", "at"], [
  .set 3 "way" (.mcall "Pebbles" (.var 0 "self") "_way_to_pebble" (.cons (.var 1 "joint") (.cons (.var 2 "other") .nil))),
  .ite (.cmp .Is (.var 3 "way") .non) [
    .ret (.bl false)] [],
  .for (.nm 4 "at") (.rng1 (.bin .Sub false (.bi .len (.cons (.var 3 "way") .nil)) (.int 1))) [
    .ex (.bm .remove (.ix (.att "Pebbles" (.var 0 "self") "held") (.ix (.var 3 "way") (.bin .Add false (.var 4 "at") (.int 1)))) (.cons (.ix (.var 3 "way") (.var 4 "at")) .nil)),
    .ex (.bm .append (.ix (.att "Pebbles" (.var 0 "self") "held") (.ix (.var 3 "way") (.var 4 "at"))) (.cons (.ix (.var 3 "way") (.bin .Add false (.var 4 "at") (.int 1))) .nil))],
  .augI (.att "Pebbles" (.var 0 "self") "free") (.ix (.var 3 "way") (.int 0)) .Sub (.int 1),
  .augI (.att "Pebbles" (.var 0 "self") "free") (.var 1 "joint") .Add (.int 1),
  .ret (.bl true)], true⟩
def Pebbles_take : MD := ⟨["self", "i", "j"], ["self", "i", "j"], [
  .whl (.and (.cmp .Lt (.ix (.att "Pebbles" (.var 0 "self") "free") (.var 1 "i")) (.int 2)) (.one (.mcall "Pebbles" (.var 0 "self") "_fetch" (.cons (.var 1 "i") (.cons (.var 2 "j") .nil))))) [
    .pas],
  .whl (.and (.cmp .Lt (.ix (.att "Pebbles" (.var 0 "self") "free") (.var 2 "j")) (.int 2)) (.one (.mcall "Pebbles" (.var 0 "self") "_fetch" (.cons (.var 2 "j") (.cons (.var 1 "i") .nil))))) [
    .pas],
  .ite (.cmp .Lt (.bin .Add false (.ix (.att "Pebbles" (.var 0 "self") "free") (.var 1 "i")) (.ix (.att "Pebbles" (.var 0 "self") "free") (.var 2 "j"))) (.int 4)) [
    .ret (.bl false)] [],
  .augI (.att "Pebbles" (.var 0 "self") "free") (.var 1 "i") .Sub (.int 1),
  .ex (.bm .append (.ix (.att "Pebbles" (.var 0 "self") "held") (.var 1 "i")) (.cons (.var 2 "j") .nil)),
  .ret (.bl true)], true⟩
def chosen_of : MD := ⟨["n", "pairs"], ["n", "pairs", "pebbles", "i", "j"], [
  .set 2 "pebbles" (.mk "Pebbles" (.cons (.var 0 "n") .nil)),
  .ret (.lc false [("i", 3), ("j", 4)] (.tp (.cons (.nm 3 "i") (.cons (.nm 4 "j") .nil))) (.over (.var 1 "pairs")) (.cons (.mcall "Pebbles" (.var 2 "pebbles") "take" (.cons (.var 3 "i") (.cons (.var 4 "j") .nil))) .nil) (.tup (.cons (.var 3 "i") (.cons (.var 4 "j") .nil))))], true⟩
def are_independent : MD := ⟨["n", "pairs"], ["n", "pairs"], [
  .ret (.cmp .Eq (.bi .len (.cons (.call "chosen_of" (.cons (.var 0 "n") (.cons (.var 1 "pairs") .nil))) .nil)) (.bi .len (.cons (.var 1 "pairs") .nil)))], true⟩
def chosen : MD := ⟨["net"], ["net"], [
  .ret (.call "chosen_of" (.cons (.ix (.var 0 "net") (.int 0)) (.cons (.ix (.var 0 "net") (.int 1)) .nil)))], true⟩
def count_rank : MD := ⟨["net"], ["net"], [
  .ret (.bi .len (.cons (.call "chosen" (.cons (.var 0 "net") .nil)) .nil))], true⟩
def is_enough : MD := ⟨["net"], ["net"], [
  .ret (.or (.cmp .Eq (.ix (.var 0 "net") (.int 0)) (.int 1)) (.one (.cmp .Eq (.call "count_rank" (.cons (.var 0 "net") .nil)) (.bin .Sub false (.bin .Mult false (.int 2) (.ix (.var 0 "net") (.int 0))) (.int 3)))))], true⟩
def _law_net : MD := ⟨["_law_script", "_law_least", "_law_most"], ["_law_script", "_law_least", "_law_most", "_law_parts_here", "_law_n", "_law_draws", "_law_pairs", "_law_at", "_law_i", "_law_j", "_law_turn"], [
  .set 3 "_law_parts_here" (.call "_law_parts" (.cons (.call "_law_cell" (.cons (.var 0 "_law_script") (.cons (.int 0) .nil))) (.cons (.lst false (.cons (.bin .Add false (.bin .Sub false (.var 2 "_law_most") (.var 1 "_law_least")) (.int 1)) (.cons (.int 4) (.cons (.int 9) (.cons (.int 5) .nil))))) .nil))),
  .set 4 "_law_n" (.bin .Add false (.var 1 "_law_least") (.ix (.var 3 "_law_parts_here") (.int 0))),
  .set 5 "_law_draws" (.call "_law_parts" (.cons (.call "_law_cell" (.cons (.var 0 "_law_script") (.cons (.int 1) .nil))) (.cons (.bin .Mult false (.lst false (.cons (.int 6) .nil)) (.int 66)) .nil))),
  .set 6 "_law_pairs" (.lst true .nil),
  .set 7 "_law_at" (.int 0),
  .for (.nm 8 "_law_i") (.rng1 (.var 4 "_law_n")) [
    .for (.nm 9 "_law_j") (.rng2 (.bin .Add false (.var 8 "_law_i") (.int 1)) (.var 4 "_law_n")) [
      .ite (.cmp .Gt (.ix (.var 5 "_law_draws") (.var 7 "_law_at")) (.ix (.var 3 "_law_parts_here") (.int 1))) [
        .ex (.bm .append (.var 6 "_law_pairs") (.cons (.tup (.cons (.var 8 "_law_i") (.cons (.var 9 "_law_j") .nil))) .nil))] [],
      .set 7 "_law_at" (.bin .Add false (.var 7 "_law_at") (.int 1))]],
  .set 10 "_law_turn" (.bin .Mod false (.bi .int (.cons (.ix (.var 3 "_law_parts_here") (.int 2)) .nil)) (.bi .max (.cons (.int 1) (.cons (.bi .len (.cons (.var 6 "_law_pairs") .nil)) .nil)))),
  .set 6 "_law_pairs" (.bin .Add true (.slc false (.var 6 "_law_pairs") (.var 10 "_law_turn") .nopart) (.slc false (.var 6 "_law_pairs") .nopart (.var 10 "_law_turn"))),
  .ite (.cmp .Eq (.ix (.var 3 "_law_parts_here") (.int 3)) (.int 0)) [
    .ex (.bm .reverse (.var 6 "_law_pairs") .nil)] [],
  .ret (.tup (.cons (.var 4 "_law_n") (.cons (.bi .tuple (.cons (.var 6 "_law_pairs") .nil)) .nil)))], true⟩
def _law_sets : MD := ⟨["_law_n"], ["_law_n", "_law_sets_here", "_law_code", "_law_joints", "_law_k"], [
  .set 1 "_law_sets_here" (.lst true .nil),
  .for (.nm 2 "_law_code") (.rng1 (.bin .Pow false (.int 2) (.int 7))) [
    .set 3 "_law_joints" (.lc false [("_law_k", 4)] (.nm 4 "_law_k") (.rng1 (.var 0 "_law_n")) (.cons (.cmp .Eq (.bin .Mod false (.bin .FloorDiv false (.var 2 "_law_code") (.ix (.lst false (.cons (.int 1) (.cons (.int 2) (.cons (.int 4) (.cons (.int 8) (.cons (.int 16) (.cons (.int 32) (.cons (.int 64) .nil)))))))) (.var 4 "_law_k"))) (.int 2)) (.int 1)) .nil) (.var 4 "_law_k")),
    .ite (.and (.cmp .Gt (.bi .len (.cons (.var 3 "_law_joints") .nil)) (.int 1)) (.one (.cmp .Lt (.var 2 "_law_code") (.ix (.lst false (.cons (.int 1) (.cons (.int 2) (.cons (.int 4) (.cons (.int 8) (.cons (.int 16) (.cons (.int 32) (.cons (.int 64) (.cons (.int 128) .nil))))))))) (.var 0 "_law_n"))))) [
      .ex (.bm .append (.var 1 "_law_sets_here") (.cons (.var 3 "_law_joints") .nil))] []],
  .ret (.var 1 "_law_sets_here")], true⟩
def _law_independent : MD := ⟨["_law_n", "_law_pairs"], ["_law_n", "_law_pairs", "_law_joints", "_law_inside", "_law_pair"], [
  .for (.nm 2 "_law_joints") (.over (.call "_law_sets" (.cons (.var 0 "_law_n") .nil))) [
    .set 3 "_law_inside" (.lc false [("_law_pair", 4)] (.nm 4 "_law_pair") (.over (.var 1 "_law_pairs")) (.cons (.and (.cmp .In (.ix (.var 4 "_law_pair") (.int 0)) (.var 2 "_law_joints")) (.one (.cmp .In (.ix (.var 4 "_law_pair") (.int 1)) (.var 2 "_law_joints")))) .nil) (.var 4 "_law_pair")),
    .ite (.cmp .Gt (.bi .len (.cons (.var 3 "_law_inside") .nil)) (.bin .Sub false (.bin .Mult false (.int 2) (.bi .len (.cons (.var 2 "_law_joints") .nil))) (.int 3))) [
      .ret (.bl false)] []],
  .ret (.bl true)], true⟩
def _law_chosen : MD := ⟨["_law_net_here"], ["_law_net_here", "_law_taken", "_law_pair"], [
  .set 1 "_law_taken" (.lst true .nil),
  .for (.nm 2 "_law_pair") (.over (.ix (.var 0 "_law_net_here") (.int 1))) [
    .ite (.call "_law_independent" (.cons (.ix (.var 0 "_law_net_here") (.int 0)) (.cons (.bin .Add false (.var 1 "_law_taken") (.lst false (.cons (.var 2 "_law_pair") .nil))) .nil))) [
      .ex (.bm .append (.var 1 "_law_taken") (.cons (.var 2 "_law_pair") .nil))] []],
  .ret (.var 1 "_law_taken")], true⟩
def neighbours : MD := ⟨["pairs", "joint"], ["pairs", "joint", "found", "i", "j"], [
  .set 2 "found" (.lc true [("i", 3), ("j", 4)] (.tp (.cons (.nm 3 "i") (.cons (.nm 4 "j") .nil))) (.over (.var 0 "pairs")) (.cons (.cmp .Eq (.var 3 "i") (.var 1 "joint")) .nil) (.var 4 "j")),
  .ex (.bm .extend (.var 2 "found") (.cons (.lc false [("i", 3), ("j", 4)] (.tp (.cons (.nm 3 "i") (.cons (.nm 4 "j") .nil))) (.over (.var 0 "pairs")) (.cons (.cmp .Eq (.var 4 "j") (.var 1 "joint")) .nil) (.var 3 "i")) .nil)),
  .ret (.bi .sorted (.cons (.var 2 "found") .nil))], true⟩
def splitting : MD := ⟨["n", "pairs", "joint"], ["n", "pairs", "joint", "a", "b", "c", "rest", "i", "j", "h", "pair"], [
  .asg (.tp (.cons (.nm 3 "a") (.cons (.nm 4 "b") (.cons (.nm 5 "c") .nil)))) (.call "neighbours" (.cons (.var 1 "pairs") (.cons (.var 2 "joint") .nil))),
  .set 6 "rest" (.lc false [("pair", 10)] (.nm 10 "pair") (.over (.var 1 "pairs")) (.cons (.cmp .NotIn (.var 2 "joint") (.var 10 "pair")) .nil) (.var 10 "pair")),
  .for (.tp (.cons (.nm 7 "i") (.cons (.nm 8 "j") (.cons (.nm 9 "h") .nil)))) (.over (.tup (.cons (.tup (.cons (.var 3 "a") (.cons (.var 4 "b") (.cons (.var 5 "c") .nil)))) (.cons (.tup (.cons (.var 3 "a") (.cons (.var 5 "c") (.cons (.var 4 "b") .nil)))) (.cons (.tup (.cons (.var 4 "b") (.cons (.var 5 "c") (.cons (.var 3 "a") .nil)))) .nil))))) [
    .ite (.and (.cmp .NotIn (.tup (.cons (.var 7 "i") (.cons (.var 8 "j") .nil))) (.var 6 "rest")) (.one (.call "are_independent" (.cons (.var 0 "n") (.cons (.bin .Add false (.var 6 "rest") (.lst false (.cons (.tup (.cons (.var 7 "i") (.cons (.var 8 "j") .nil))) .nil))) .nil))))) [
      .ret (.tup (.cons (.var 7 "i") (.cons (.var 8 "j") (.cons (.var 9 "h") .nil))))] []],
  .ret .non], true⟩
def last_step : MD := ⟨["n", "pairs", "joints"], ["n", "pairs", "joints", "joint", "found", "i", "j", "h", "rest", "pair"], [
  .for (.nm 3 "joint") (.over (.var 2 "joints")) [
    .set 4 "found" (.call "neighbours" (.cons (.var 1 "pairs") (.cons (.var 3 "joint") .nil))),
    .ite (.cmp .Eq (.bi .len (.cons (.var 4 "found") .nil)) (.int 2)) [
      .ret (.tup (.cons (.tup (.cons (.str "two") (.cons (.var 3 "joint") (.cons (.ix (.var 4 "found") (.int 0)) (.cons (.ix (.var 4 "found") (.int 1)) .nil))))) (.cons (.lc false [("pair", 9)] (.nm 9 "pair") (.over (.var 1 "pairs")) (.cons (.cmp .NotIn (.var 3 "joint") (.var 9 "pair")) .nil) (.var 9 "pair")) .nil)))] []],
  .for (.nm 3 "joint") (.over (.var 2 "joints")) [
    .ite (.cmp .Eq (.bi .len (.cons (.call "neighbours" (.cons (.var 1 "pairs") (.cons (.var 3 "joint") .nil))) .nil)) (.int 3)) [
      .asg (.tp (.cons (.nm 5 "i") (.cons (.nm 6 "j") (.cons (.nm 7 "h") .nil)))) (.call "splitting" (.cons (.var 0 "n") (.cons (.var 1 "pairs") (.cons (.var 3 "joint") .nil)))),
      .set 8 "rest" (.lc false [("pair", 9)] (.nm 9 "pair") (.over (.var 1 "pairs")) (.cons (.cmp .NotIn (.var 3 "joint") (.var 9 "pair")) .nil) (.var 9 "pair")),
      .ret (.tup (.cons (.tup (.cons (.str "three") (.cons (.var 3 "joint") (.cons (.var 5 "i") (.cons (.var 6 "j") (.cons (.var 7 "h") .nil)))))) (.cons (.bin .Add false (.var 8 "rest") (.lst false (.cons (.tup (.cons (.var 5 "i") (.cons (.var 6 "j") .nil))) .nil))) .nil)))] []],
  .ret .non], true⟩
def building : MD := ⟨["net"], ["net", "pairs", "joints", "steps", "step"], [
  .ite (.not (.call "is_enough" (.cons (.var 0 "net") .nil))) [
    .ret .non] [],
  .set 1 "pairs" (.call "chosen" (.cons (.var 0 "net") .nil)),
  .set 2 "joints" (.rlst true (.ix (.var 0 "net") (.int 0))),
  .set 3 "steps" (.lst true .nil),
  .whl (.cmp .Gt (.bi .len (.cons (.var 2 "joints") .nil)) (.int 2)) [
    .asg (.tp (.cons (.nm 4 "step") (.cons (.nm 1 "pairs") .nil))) (.call "last_step" (.cons (.ix (.var 0 "net") (.int 0)) (.cons (.var 1 "pairs") (.cons (.var 2 "joints") .nil)))),
    .ex (.bm .append (.var 3 "steps") (.cons (.var 4 "step") .nil)),
    .ex (.bm .remove (.var 2 "joints") (.cons (.ix (.var 4 "step") (.int 1)) .nil))],
  .ex (.bm .append (.var 3 "steps") (.cons (.tup (.cons (.str "pair") (.cons (.ix (.var 2 "joints") (.int 0)) (.cons (.ix (.var 2 "joints") (.int 1)) .nil)))) .nil)),
  .ret (.rev false (.var 3 "steps"))], true⟩
def _law_builds : MD := ⟨["_law_net_here", "_law_steps"], ["_law_net_here", "_law_steps", "_law_joints", "_law_pairs", "_law_at", "_law_step", "_law_ends", "_law_new", "_law_end", "_law_pair"], [
  .set 2 "_law_joints" (.lst true .nil),
  .set 3 "_law_pairs" (.lst true .nil),
  .for (.nm 4 "_law_at") (.rng1 (.bi .len (.cons (.var 1 "_law_steps") .nil))) [
    .set 5 "_law_step" (.ix (.var 1 "_law_steps") (.var 4 "_law_at")),
    .ite (.or (.not (.isi (.var 5 "_law_step") "tuple")) (.one (.cmp .NotEq (.bi .len (.cons (.var 5 "_law_step") .nil)) (.dget (.dlit (.cons (.str "pair") (.cons (.int 3) (.cons (.str "two") (.cons (.int 4) (.cons (.str "three") (.cons (.int 5) .nil))))))) (.ix (.var 5 "_law_step") (.int 0)) (.int 0))))) [
      .ret (.bl false)] [],
    .ite (.cmp .NotEq (.cmp .Eq (.ix (.var 5 "_law_step") (.int 0)) (.str "pair")) (.cmp .Eq (.var 4 "_law_at") (.int 0))) [
      .ret (.bl false)] [],
    .set 6 "_law_ends" (.bi (.list false) (.cons (.slc false (.var 5 "_law_step") (.int 2) .nopart) .nil)),
    .set 7 "_law_new" (.ix (.var 5 "_law_step") (.int 1)),
    .ite (.and (.cmp .NotEq (.ix (.var 5 "_law_step") (.int 0)) (.str "pair")) (.one (.or (.cmp .Gt (.bi .len (.cons (.lc false [("_law_end", 8)] (.nm 8 "_law_end") (.over (.var 6 "_law_ends")) (.cons (.cmp .NotIn (.var 8 "_law_end") (.var 2 "_law_joints")) .nil) (.var 8 "_law_end")) .nil)) (.int 0)) (.one (.cmp .GtE (.ix (.var 6 "_law_ends") (.int 0)) (.ix (.var 6 "_law_ends") (.int 1))))))) [
      .ret (.bl false)] [],
    .ite (.or (.cmp .In (.var 7 "_law_new") (.var 2 "_law_joints")) (.or (.and (.cmp .Eq (.ix (.var 5 "_law_step") (.int 0)) (.str "pair")) (.one (.cmp .GtE (.var 7 "_law_new") (.ix (.var 6 "_law_ends") (.int 0))))) (.one (.cmp .NotEq (.lset (.var 6 "_law_ends")) (.bi .len (.cons (.var 6 "_law_ends") .nil)))))) [
      .ret (.bl false)] [],
    .ite (.cmp .Eq (.ix (.var 5 "_law_step") (.int 0)) (.str "three")) [
      .ite (.cmp .NotIn (.tup (.cons (.ix (.var 6 "_law_ends") (.int 0)) (.cons (.ix (.var 6 "_law_ends") (.int 1)) .nil))) (.var 3 "_law_pairs")) [
        .ret (.bl false)] [],
      .ex (.bm .remove (.var 3 "_law_pairs") (.cons (.tup (.cons (.ix (.var 6 "_law_ends") (.int 0)) (.cons (.ix (.var 6 "_law_ends") (.int 1)) .nil))) .nil))] [],
    .ex (.bm .append (.var 2 "_law_joints") (.cons (.var 7 "_law_new") .nil)),
    .ite (.cmp .Eq (.var 4 "_law_at") (.int 0)) [
      .ex (.bm .append (.var 2 "_law_joints") (.cons (.ix (.var 6 "_law_ends") (.int 0)) .nil))] [],
    .set 3 "_law_pairs" (.bin .Add true (.var 3 "_law_pairs") (.lc false [("_law_end", 8)] (.nm 8 "_law_end") (.over (.var 6 "_law_ends")) .nil (.tup (.cons (.bi .min (.cons (.lst false (.cons (.var 7 "_law_new") (.cons (.var 8 "_law_end") .nil))) .nil)) (.cons (.bi .max (.cons (.lst false (.cons (.var 7 "_law_new") (.cons (.var 8 "_law_end") .nil))) .nil)) .nil)))))],
  .ite (.cmp .NotEq (.bi .sorted (.cons (.var 2 "_law_joints") .nil)) (.rlst false (.ix (.var 0 "_law_net_here") (.int 0)))) [
    .ret (.bl false)] [],
  .ret (.cmp .Eq (.bi .len (.cons (.lc false [("_law_pair", 9)] (.nm 9 "_law_pair") (.over (.var 3 "_law_pairs")) (.cons (.cmp .NotIn (.var 9 "_law_pair") (.ix (.var 0 "_law_net_here") (.int 1))) .nil) (.var 9 "_law_pair")) .nil)) (.int 0))], true⟩
def ordered : MD := ⟨["i", "j"], ["i", "j"], [
  .ret (.ife (.cmp .Lt (.var 0 "i") (.var 1 "j")) (.tup (.cons (.var 0 "i") (.cons (.var 1 "j") .nil))) (.tup (.cons (.var 1 "j") (.cons (.var 0 "i") .nil))))], true⟩
def implied_pairs : MD := ⟨["n", "pairs"], ["n", "pairs", "found", "i", "j"], [
  .set 2 "found" (.dnew true),
  .for (.nm 3 "i") (.rng1 (.var 0 "n")) [
    .for (.nm 4 "j") (.rng2 (.bin .Add false (.var 3 "i") (.int 1)) (.var 0 "n")) [
      .ite (.or (.cmp .In (.tup (.cons (.var 3 "i") (.cons (.var 4 "j") .nil))) (.var 1 "pairs")) (.one (.not (.call "are_independent" (.cons (.var 0 "n") (.cons (.bin .Add false (.var 1 "pairs") (.lst false (.cons (.tup (.cons (.var 3 "i") (.cons (.var 4 "j") .nil))) .nil))) .nil)))))) [
        .setI (.var 2 "found") (.tup (.cons (.var 3 "i") (.cons (.var 4 "j") .nil))) (.bl true)] []]],
  .ret (.var 2 "found")], true⟩
def cover : MD := ⟨["net"], ["net", "n", "pairs", "implied", "sets", "i", "j", "found", "joint"], [
  .set 1 "n" (.ix (.var 0 "net") (.int 0)),
  .set 2 "pairs" (.call "chosen" (.cons (.var 0 "net") .nil)),
  .set 3 "implied" (.call "implied_pairs" (.cons (.var 1 "n") (.cons (.var 2 "pairs") .nil))),
  .set 4 "sets" (.dnew true),
  .for (.tp (.cons (.nm 5 "i") (.cons (.nm 6 "j") .nil))) (.over (.var 2 "pairs")) [
    .set 7 "found" (.lst true (.cons (.var 5 "i") (.cons (.var 6 "j") .nil))),
    .for (.nm 8 "joint") (.rng1 (.var 1 "n")) [
      .ite (.and (.cmp .NotIn (.var 8 "joint") (.tup (.cons (.var 5 "i") (.cons (.var 6 "j") .nil)))) (.and (.cmp .In (.call "ordered" (.cons (.var 5 "i") (.cons (.var 8 "joint") .nil))) (.var 3 "implied")) (.one (.cmp .In (.call "ordered" (.cons (.var 6 "j") (.cons (.var 8 "joint") .nil))) (.var 3 "implied"))))) [
        .ex (.bm .append (.var 7 "found") (.cons (.var 8 "joint") .nil))] []],
    .setI (.var 4 "sets") (.bi .tuple (.cons (.bi .sorted (.cons (.var 7 "found") .nil)) .nil)) (.bl true)],
  .ret (.bi .sorted (.cons (.var 4 "sets") .nil))], true⟩
def _law_covers : MD := ⟨["_law_net_here", "_law_sets"], ["_law_net_here", "_law_sets", "_law_joints", "_law_i", "_law_j"], [
  .for (.nm 2 "_law_joints") (.over (.var 1 "_law_sets")) [
    .ite (.or (.not (.isi (.var 2 "_law_joints") "tuple")) (.or (.cmp .Lt (.bi .len (.cons (.var 2 "_law_joints") .nil)) (.int 2)) (.one (.cmp .NotEq (.bi (.list false) (.cons (.var 2 "_law_joints") .nil)) (.sset (.var 2 "_law_joints")))))) [
      .ret (.bl false)] [],
    .ite (.or (.cmp .Lt (.ix (.var 2 "_law_joints") (.int 0)) (.int 0)) (.one (.cmp .GtE (.ix (.var 2 "_law_joints") (.neg (.int 1))) (.ix (.var 0 "_law_net_here") (.int 0))))) [
      .ret (.bl false)] []],
  .ite (.cmp .NotEq (.lset (.var 1 "_law_sets")) (.bi .len (.cons (.var 1 "_law_sets") .nil))) [
    .ret (.bl false)] [],
  .for (.tp (.cons (.nm 3 "_law_i") (.cons (.nm 4 "_law_j") .nil))) (.over (.ix (.var 0 "_law_net_here") (.int 1))) [
    .ite (.cmp .Eq (.bi .len (.cons (.lc false [("_law_joints", 2)] (.nm 2 "_law_joints") (.over (.var 1 "_law_sets")) (.cons (.and (.cmp .In (.var 3 "_law_i") (.var 2 "_law_joints")) (.one (.cmp .In (.var 4 "_law_j") (.var 2 "_law_joints")))) .nil) (.var 2 "_law_joints")) .nil)) (.int 0)) [
      .ret (.bl false)] []],
  .ret (.bl true)], true⟩
def is_set : MD := ⟨["n", "joints"], ["n", "joints", "rising", "at"], [
  .set 2 "rising" (.bi .all (.cons (.lc false [("at", 3)] (.nm 3 "at") (.rng1 (.bin .Sub false (.bi .len (.cons (.var 1 "joints") .nil)) (.int 1))) .nil (.cmp .Lt (.ix (.var 1 "joints") (.var 3 "at")) (.ix (.var 1 "joints") (.bin .Add false (.var 3 "at") (.int 1))))) .nil)),
  .ret (.and (.cmp .Gt (.bi .len (.cons (.var 1 "joints") .nil)) (.int 1)) (.and (.var 2 "rising") (.and (.cmp .GtE (.ix (.var 1 "joints") (.int 0)) (.int 0)) (.one (.cmp .Lt (.ix (.var 1 "joints") (.neg (.int 1))) (.var 0 "n"))))))], true⟩
def is_cover : MD := ⟨["net", "sets"], ["net", "sets", "i", "j", "joints"], [
  .ite (.or (.not (.bi .all (.cons (.lc false [("joints", 4)] (.nm 4 "joints") (.over (.var 1 "sets")) .nil (.call "is_set" (.cons (.ix (.var 0 "net") (.int 0)) (.cons (.var 4 "joints") .nil)))) .nil))) (.one (.cmp .NotEq (.lset (.var 1 "sets")) (.bi .len (.cons (.var 1 "sets") .nil))))) [
    .ret (.bl false)] [],
  .for (.tp (.cons (.nm 2 "i") (.cons (.nm 3 "j") .nil))) (.over (.ix (.var 0 "net") (.int 1))) [
    .ite (.not (.bi .any (.cons (.lc false [("joints", 4)] (.nm 4 "joints") (.over (.var 1 "sets")) .nil (.and (.cmp .In (.var 2 "i") (.var 4 "joints")) (.one (.cmp .In (.var 3 "j") (.var 4 "joints"))))) .nil))) [
      .ret (.bl false)] []],
  .ret (.bl true)], true⟩
def fewest : MD := ⟨["net", "offers"], ["net", "offers", "n", "pairs", "pebbles", "count", "taken", "at", "pair", "fewest.<locals>.<lambda>"], [
  .asg (.tp (.cons (.nm 2 "n") (.cons (.nm 3 "pairs") .nil))) (.var 0 "net"),
  .set 4 "pebbles" (.mk "Pebbles" (.cons (.var 2 "n") .nil)),
  .set 5 "count" (.bi .len (.cons (.lc false [("pair", 8)] (.nm 8 "pair") (.over (.var 3 "pairs")) (.cons (.mcall "Pebbles" (.var 4 "pebbles") "take" (.cons (.ix (.var 8 "pair") (.int 0)) (.cons (.ix (.var 8 "pair") (.int 1)) .nil))) .nil) (.var 8 "pair")) .nil)),
  .set 6 "taken" (.lst true .nil),
  .for (.nm 7 "at") (.over (.sko "fewest.<locals>.<lambda>" 1 "offers" (.bi .len (.cons (.var 1 "offers") .nil)))) [
    .ite (.mcall "Pebbles" (.var 4 "pebbles") "take" (.cons (.ix (.ix (.var 1 "offers") (.var 7 "at")) (.int 0)) (.cons (.ix (.ix (.var 1 "offers") (.var 7 "at")) (.int 1)) .nil))) [
      .ex (.bm .append (.var 6 "taken") (.cons (.var 7 "at") .nil))] []],
  .ite (.and (.cmp .Gt (.var 2 "n") (.int 1)) (.one (.cmp .Lt (.bin .Add false (.var 5 "count") (.bi .len (.cons (.var 6 "taken") .nil))) (.bin .Sub false (.bin .Mult false (.int 2) (.var 2 "n")) (.int 3))))) [
    .ret .non] [],
  .ret (.bi .sorted (.cons (.var 6 "taken") .nil))], true⟩
def _law_net_2 : MD := ⟨["_law_script", "_law_least_here", "_law_most"], ["_law_script", "_law_least_here", "_law_most", "_law_parts_here", "_law_n", "_law_draws", "_law_pairs", "_law_at", "_law_i", "_law_j", "_law_turn"], [
  .set 3 "_law_parts_here" (.call "_law_parts" (.cons (.call "_law_cell" (.cons (.var 0 "_law_script") (.cons (.int 0) .nil))) (.cons (.lst false (.cons (.bin .Add false (.bin .Sub false (.var 2 "_law_most") (.var 1 "_law_least_here")) (.int 1)) (.cons (.int 4) (.cons (.int 9) (.cons (.int 5) .nil))))) .nil))),
  .set 4 "_law_n" (.bin .Add false (.var 1 "_law_least_here") (.ix (.var 3 "_law_parts_here") (.int 0))),
  .set 5 "_law_draws" (.call "_law_parts" (.cons (.call "_law_cell" (.cons (.var 0 "_law_script") (.cons (.int 1) .nil))) (.cons (.bin .Mult false (.lst false (.cons (.int 6) .nil)) (.int 66)) .nil))),
  .set 6 "_law_pairs" (.lst true .nil),
  .set 7 "_law_at" (.int 0),
  .for (.nm 8 "_law_i") (.rng1 (.var 4 "_law_n")) [
    .for (.nm 9 "_law_j") (.rng2 (.bin .Add false (.var 8 "_law_i") (.int 1)) (.var 4 "_law_n")) [
      .ite (.cmp .Gt (.ix (.var 5 "_law_draws") (.var 7 "_law_at")) (.ix (.var 3 "_law_parts_here") (.int 1))) [
        .ex (.bm .append (.var 6 "_law_pairs") (.cons (.tup (.cons (.var 8 "_law_i") (.cons (.var 9 "_law_j") .nil))) .nil))] [],
      .set 7 "_law_at" (.bin .Add false (.var 7 "_law_at") (.int 1))]],
  .set 10 "_law_turn" (.bin .Mod false (.bi .int (.cons (.ix (.var 3 "_law_parts_here") (.int 2)) .nil)) (.bi .max (.cons (.int 1) (.cons (.bi .len (.cons (.var 6 "_law_pairs") .nil)) .nil)))),
  .set 6 "_law_pairs" (.bin .Add true (.slc false (.var 6 "_law_pairs") (.var 10 "_law_turn") .nopart) (.slc false (.var 6 "_law_pairs") .nopart (.var 10 "_law_turn"))),
  .ite (.cmp .Eq (.ix (.var 3 "_law_parts_here") (.int 3)) (.int 0)) [
    .ex (.bm .reverse (.var 6 "_law_pairs") .nil)] [],
  .ret (.tup (.cons (.var 4 "_law_n") (.cons (.bi .tuple (.cons (.var 6 "_law_pairs") .nil)) .nil)))], true⟩
def _law_enough : MD := ⟨["_law_net_here", "_law_offers", "_law_taken"], ["_law_net_here", "_law_offers", "_law_taken", "_law_pairs", "_law_at"], [
  .set 3 "_law_pairs" (.bin .Add false (.bi (.list false) (.cons (.ix (.var 0 "_law_net_here") (.int 1)) .nil)) (.lc false [("_law_at", 4)] (.nm 4 "_law_at") (.over (.var 2 "_law_taken")) (.cons (.cmp .NotIn (.slc false (.ix (.var 1 "_law_offers") (.var 4 "_law_at")) .nopart (.int 2)) (.ix (.var 0 "_law_net_here") (.int 1))) .nil) (.slc false (.ix (.var 1 "_law_offers") (.var 4 "_law_at")) .nopart (.int 2)))),
  .ret (.or (.cmp .Eq (.ix (.var 0 "_law_net_here") (.int 0)) (.int 1)) (.one (.cmp .Eq (.bi .len (.cons (.call "_law_chosen" (.cons (.tup (.cons (.ix (.var 0 "_law_net_here") (.int 0)) (.cons (.bi .tuple (.cons (.spr (.var 3 "_law_pairs")) .nil)) .nil))) .nil)) .nil)) (.bin .Sub false (.bin .Mult false (.int 2) (.ix (.var 0 "_law_net_here") (.int 0))) (.int 3)))))], true⟩
def _law_least : MD := ⟨["_law_net_here", "_law_offers"], ["_law_net_here", "_law_offers", "_law_best", "_law_code", "_law_taken", "_law_cost", "_law_at"], [
  .set 2 "_law_best" .non,
  .for (.nm 3 "_law_code") (.rng1 (.ix (.lst false (.cons (.int 1) (.cons (.int 2) (.cons (.int 4) (.cons (.int 8) (.cons (.int 16) (.cons (.int 32) (.cons (.int 64) (.cons (.int 128) (.cons (.int 256) .nil)))))))))) (.bi .len (.cons (.var 1 "_law_offers") .nil)))) [
    .set 4 "_law_taken" (.lc false [("_law_at", 6)] (.nm 6 "_law_at") (.rng1 (.bi .len (.cons (.var 1 "_law_offers") .nil))) (.cons (.cmp .Eq (.bin .Mod false (.bin .FloorDiv false (.var 3 "_law_code") (.ix (.lst false (.cons (.int 1) (.cons (.int 2) (.cons (.int 4) (.cons (.int 8) (.cons (.int 16) (.cons (.int 32) (.cons (.int 64) (.cons (.int 128) .nil))))))))) (.var 6 "_law_at"))) (.int 2)) (.int 1)) .nil) (.var 6 "_law_at")),
    .set 5 "_law_cost" (.bi .sum (.cons (.lc false [("_law_at", 6)] (.nm 6 "_law_at") (.over (.var 4 "_law_taken")) .nil (.ix (.ix (.var 1 "_law_offers") (.var 6 "_law_at")) (.int 2))) .nil)),
    .ite (.and (.or (.cmp .Is (.var 2 "_law_best") .non) (.one (.cmp .Lt (.var 5 "_law_cost") (.var 2 "_law_best")))) (.one (.call "_law_enough" (.cons (.var 0 "_law_net_here") (.cons (.var 1 "_law_offers") (.cons (.var 4 "_law_taken") .nil)))))) [
      .set 2 "_law_best" (.var 5 "_law_cost")] []],
  .ret (.var 2 "_law_best")], true⟩
def law_k40 : MD := ⟨["_law_script"], ["_law_script", "_law_net_here", "_law_n", "_law_digits", "_law_offers", "_law_k", "_law_i", "_law_j", "_law_least_here", "_law_kept", "_law_found", "_law_at", "_law_other"], [
  .set 1 "_law_net_here" (.call "_law_net" (.cons (.var 0 "_law_script") (.cons (.int 1) (.cons (.int 5) .nil)))),
  .set 2 "_law_n" (.ix (.var 1 "_law_net_here") (.int 0)),
  .set 3 "_law_digits" (.call "_law_parts" (.cons (.call "_law_cell" (.cons (.var 0 "_law_script") (.cons (.int 2) .nil))) (.cons (.bin .Add false (.lst false (.cons (.int 7) .nil)) (.bin .Mult false (.lst false (.cons (.int 6) (.cons (.int 6) (.cons (.int 6) .nil)))) (.int 6))) .nil))),
  .set 4 "_law_offers" (.lst true .nil),
  .for (.nm 5 "_law_k") (.rng1 (.bin .Mult false (.ix (.var 3 "_law_digits") (.int 0)) (.bi .int (.cons (.cmp .Gt (.var 2 "_law_n") (.int 1)) .nil)))) [
    .set 6 "_law_i" (.bin .Mod false (.bi .int (.cons (.ix (.var 3 "_law_digits") (.bin .Add false (.int 1) (.bin .Mult false (.int 3) (.var 5 "_law_k")))) .nil)) (.var 2 "_law_n")),
    .set 7 "_law_j" (.bin .Mod false (.bi .int (.cons (.bin .Add false (.bin .Add false (.var 6 "_law_i") (.int 1)) (.bin .Mod false (.ix (.var 3 "_law_digits") (.bin .Add false (.int 2) (.bin .Mult false (.int 3) (.var 5 "_law_k")))) (.bin .Sub false (.var 2 "_law_n") (.int 1)))) .nil)) (.var 2 "_law_n")),
    .ex (.bm .append (.var 4 "_law_offers") (.cons (.tup (.cons (.bi .min (.cons (.lst false (.cons (.var 6 "_law_i") (.cons (.var 7 "_law_j") .nil))) .nil)) (.cons (.bi .max (.cons (.lst false (.cons (.var 6 "_law_i") (.cons (.var 7 "_law_j") .nil))) .nil)) (.cons (.ix (.var 3 "_law_digits") (.bin .Add false (.int 3) (.bin .Mult false (.int 3) (.var 5 "_law_k")))) .nil)))) .nil))],
  .set 8 "_law_least_here" (.call "_law_least" (.cons (.var 1 "_law_net_here") (.cons (.var 4 "_law_offers") .nil))),
  .set 9 "_law_kept" (.bi (.list false) (.cons (.var 4 "_law_offers") .nil)),
  .set 10 "_law_found" (.call "fewest" (.cons (.var 1 "_law_net_here") (.cons (.var 4 "_law_offers") .nil))),
  .ite (.cmp .Is (.var 8 "_law_least_here") .non) [
    .ret (.cmp .Is (.var 10 "_law_found") .non)] [],
  .ite (.or (.not (.isi (.var 10 "_law_found") "list")) (.or (.cmp .NotEq (.var 4 "_law_offers") (.var 9 "_law_kept")) (.one (.cmp .NotEq (.var 10 "_law_found") (.sset (.var 10 "_law_found")))))) [
    .ret (.bl false)] [],
  .ite (.cmp .Gt (.bi .len (.cons (.lc false [("_law_at", 11)] (.nm 11 "_law_at") (.over (.var 10 "_law_found")) (.cons (.or (.not (.call "_law_is_integer" (.cons (.var 11 "_law_at") .nil))) (.or (.cmp .Lt (.var 11 "_law_at") (.int 0)) (.one (.cmp .GtE (.var 11 "_law_at") (.bi .len (.cons (.var 4 "_law_offers") .nil)))))) .nil) (.var 11 "_law_at")) .nil)) (.int 0)) [
    .ret (.bl false)] [],
  .ite (.or (.not (.call "_law_enough" (.cons (.var 1 "_law_net_here") (.cons (.var 4 "_law_offers") (.cons (.var 10 "_law_found") .nil))))) (.one (.cmp .NotEq (.bi .sum (.cons (.lc false [("_law_at", 11)] (.nm 11 "_law_at") (.over (.var 10 "_law_found")) .nil (.ix (.ix (.var 4 "_law_offers") (.var 11 "_law_at")) (.int 2))) .nil)) (.var 8 "_law_least_here")))) [
    .ret (.bl false)] [],
  .ret (.cmp .Eq (.bi .len (.cons (.lc false [("_law_at", 11)] (.nm 11 "_law_at") (.over (.var 10 "_law_found")) (.cons (.call "_law_enough" (.cons (.var 1 "_law_net_here") (.cons (.var 4 "_law_offers") (.cons (.lc false [("_law_other", 12)] (.nm 12 "_law_other") (.over (.var 10 "_law_found")) (.cons (.cmp .NotEq (.var 12 "_law_other") (.var 11 "_law_at")) .nil) (.var 12 "_law_other")) .nil)))) .nil) (.var 11 "_law_at")) .nil)) (.int 0))], true⟩
def ways : MD := ⟨["r", "braces"], ["r", "braces", "found", "row", "column", "kind"], [
  .set 2 "found" (.dnew false),
  .for (.tp (.cons (.nm 3 "row") (.cons (.nm 4 "column") (.cons (.nm 5 "kind") .nil)))) (.over (.var 1 "braces")) [
    .ite (.cmp .NotEq (.var 5 "kind") (.str "down")) [
      .ex (.bm .append (.dsd (.var 2 "found") (.var 3 "row") (.lst true .nil)) (.cons (.bin .Add false (.var 0 "r") (.var 4 "column")) .nil))] [],
    .ite (.cmp .NotEq (.var 5 "kind") (.str "up")) [
      .ex (.bm .append (.dsd (.var 2 "found") (.bin .Add false (.var 0 "r") (.var 4 "column")) (.lst true .nil)) (.cons (.var 3 "row") .nil))] []],
  .ret (.var 2 "found")], true⟩
def come_to : MD := ⟨["leading", "start"], ["leading", "start", "found", "waiting", "following"], [
  .set 2 "found" (.dlit (.cons (.var 1 "start") (.cons (.bl true) .nil))),
  .set 3 "waiting" (.lst true (.cons (.var 1 "start") .nil)),
  .whl (.var 3 "waiting") [
    .for (.nm 4 "following") (.over (.dget (.var 0 "leading") (.bm .pop0 (.var 3 "waiting") .nil) (.lst false .nil))) [
      .ite (.cmp .NotIn (.var 4 "following") (.var 2 "found")) [
        .setI (.var 2 "found") (.var 4 "following") (.bl true),
        .ex (.bm .append (.var 3 "waiting") (.cons (.var 4 "following") .nil))] []]],
  .ret (.var 2 "found")], true⟩
def parted : MD := ⟨["r", "c", "braces"], ["r", "c", "braces", "leading", "start", "found", "row", "j"], [
  .set 3 "leading" (.call "ways" (.cons (.var 0 "r") (.cons (.var 2 "braces") .nil))),
  .for (.nm 4 "start") (.rng1 (.bin .Add false (.var 0 "r") (.var 1 "c"))) [
    .set 5 "found" (.call "come_to" (.cons (.var 3 "leading") (.cons (.var 4 "start") .nil))),
    .ite (.cmp .Lt (.bi .len (.cons (.var 5 "found") .nil)) (.bin .Add false (.var 0 "r") (.var 1 "c"))) [
      .ret (.tup (.cons (.lc false [("row", 6)] (.nm 6 "row") (.rng1 (.var 0 "r")) (.cons (.cmp .In (.var 6 "row") (.var 5 "found")) .nil) (.var 6 "row")) (.cons (.lc false [("j", 7)] (.nm 7 "j") (.rng1 (.var 1 "c")) (.cons (.cmp .In (.bin .Add false (.var 0 "r") (.var 7 "j")) (.var 5 "found")) .nil) (.var 7 "j")) .nil)))] []],
  .ret .non], true⟩
end Lib
end Mi
end L2

namespace K40
open PySem PySem.Spec PyProof.Rows L2 L2.Mi
def top (i : Nat) : Stmt := PySem.Challenge.pw_loadorloose_k40_fewest_offers.main.body.getD i (.Pass ⟨0, 0, 0, 0⟩)
def sub (i j : Nat) : Stmt := (C8.clsBody (top i)).getD j (.Pass ⟨0, 0, 0, 0⟩)
def i_Pebbles___init__ : DI := ⟨("Pebbles", some "__init__"), "__init__", "Pebbles.__init__", (sub 1 0), Lib.Pebbles___init__, ["self", "n"]⟩
theorem k_Pebbles___init__ : i_Pebbles___init__.ok = true := by decide +kernel
theorem b_Pebbles___init__ : BindD i_Pebbles___init__ := fun _ _ _ _ _ _ us hl => match us, hl with | [_, _], _ => rfl
def i_Pebbles__way_to_pebble : DI := ⟨("Pebbles", some "_way_to_pebble"), "_way_to_pebble", "Pebbles._way_to_pebble", (sub 1 1), Lib.Pebbles__way_to_pebble, ["self", "start", "other", "before", "waiting", "joint", "following", "way"]⟩
theorem k_Pebbles__way_to_pebble : i_Pebbles__way_to_pebble.ok = true := by decide +kernel
theorem b_Pebbles__way_to_pebble : BindD i_Pebbles__way_to_pebble := fun _ _ _ _ _ _ us hl => match us, hl with | [_, _, _], _ => rfl
def i_Pebbles__fetch : DI := ⟨("Pebbles", some "_fetch"), "_fetch", "Pebbles._fetch", (sub 1 2), Lib.Pebbles__fetch, ["self", "joint", "other", "way", "at"]⟩
theorem k_Pebbles__fetch : i_Pebbles__fetch.ok = true := by decide +kernel
theorem b_Pebbles__fetch : BindD i_Pebbles__fetch := fun _ _ _ _ _ _ us hl => match us, hl with | [_, _, _], _ => rfl
def i_Pebbles_take : DI := ⟨("Pebbles", some "take"), "take", "Pebbles.take", (sub 1 3), Lib.Pebbles_take, ["self", "i", "j"]⟩
theorem k_Pebbles_take : i_Pebbles_take.ok = true := by decide +kernel
theorem b_Pebbles_take : BindD i_Pebbles_take := fun _ _ _ _ _ _ us hl => match us, hl with | [_, _, _], _ => rfl
def i_fewest : DI := ⟨("fewest", none), "fewest", "fewest", (top 3), Lib.fewest, ["net", "offers", "n", "pairs", "pebbles", "count", "taken", "at"]⟩
theorem k_fewest : i_fewest.ok = true := by decide +kernel
theorem b_fewest : BindD i_fewest := fun _ _ _ _ _ _ us hl => match us, hl with | [_, _], _ => rfl
def i__law_cell : DI := ⟨("_law_cell", none), "_law_cell", "_law_cell", (top 5), Lib._law_cell, ["_law_script", "_law_k"]⟩
theorem k__law_cell : i__law_cell.ok = true := by decide +kernel
theorem b__law_cell : BindD i__law_cell := fun _ _ _ _ _ _ us hl => match us, hl with | [_, _], _ => rfl
def i__law_parts : DI := ⟨("_law_parts", none), "_law_parts", "_law_parts", (top 6), Lib._law_parts, ["_law_cell_here", "_law_sizes", "_law_parts_here", "_law_left", "_law_k", "_law_mixed"]⟩
theorem k__law_parts : i__law_parts.ok = true := by decide +kernel
theorem b__law_parts : BindD i__law_parts := fun _ _ _ _ _ _ us hl => match us, hl with | [_, _], _ => rfl
def i__law_is_integer : DI := ⟨("_law_is_integer", none), "_law_is_integer", "_law_is_integer", (top 7), Lib._law_is_integer, ["_law_actual"]⟩
theorem k__law_is_integer : i__law_is_integer.ok = true := by decide +kernel
theorem b__law_is_integer : BindD i__law_is_integer := fun _ _ _ _ _ _ us hl => match us, hl with | [_], _ => rfl
def i__law_net : DI := ⟨("_law_net", none), "_law_net", "_law_net", (top 8), Lib._law_net_2, ["_law_script", "_law_least_here", "_law_most", "_law_parts_here", "_law_n", "_law_draws", "_law_pairs", "_law_at", "_law_i", "_law_j", "_law_turn"]⟩
theorem k__law_net : i__law_net.ok = true := by decide +kernel
theorem b__law_net : BindD i__law_net := fun _ _ _ _ _ _ us hl => match us, hl with | [_, _, _], _ => rfl
def i__law_sets : DI := ⟨("_law_sets", none), "_law_sets", "_law_sets", (top 9), Lib._law_sets, ["_law_n", "_law_sets_here", "_law_code", "_law_joints"]⟩
theorem k__law_sets : i__law_sets.ok = true := by decide +kernel
theorem b__law_sets : BindD i__law_sets := fun _ _ _ _ _ _ us hl => match us, hl with | [_], _ => rfl
def i__law_independent : DI := ⟨("_law_independent", none), "_law_independent", "_law_independent", (top 10), Lib._law_independent, ["_law_n", "_law_pairs", "_law_joints", "_law_inside"]⟩
theorem k__law_independent : i__law_independent.ok = true := by decide +kernel
theorem b__law_independent : BindD i__law_independent := fun _ _ _ _ _ _ us hl => match us, hl with | [_, _], _ => rfl
def i__law_chosen : DI := ⟨("_law_chosen", none), "_law_chosen", "_law_chosen", (top 11), Lib._law_chosen, ["_law_net_here", "_law_taken", "_law_pair"]⟩
theorem k__law_chosen : i__law_chosen.ok = true := by decide +kernel
theorem b__law_chosen : BindD i__law_chosen := fun _ _ _ _ _ _ us hl => match us, hl with | [_], _ => rfl
def i__law_enough : DI := ⟨("_law_enough", none), "_law_enough", "_law_enough", (top 12), Lib._law_enough, ["_law_net_here", "_law_offers", "_law_taken", "_law_pairs"]⟩
theorem k__law_enough : i__law_enough.ok = true := by decide +kernel
theorem b__law_enough : BindD i__law_enough := fun _ _ _ _ _ _ us hl => match us, hl with | [_, _, _], _ => rfl
def i__law_least : DI := ⟨("_law_least", none), "_law_least", "_law_least", (top 13), Lib._law_least, ["_law_net_here", "_law_offers", "_law_best", "_law_code", "_law_taken", "_law_cost"]⟩
theorem k__law_least : i__law_least.ok = true := by decide +kernel
theorem b__law_least : BindD i__law_least := fun _ _ _ _ _ _ us hl => match us, hl with | [_, _], _ => rfl
def i_law : DI := ⟨("law", none), "law", "law", (top 14), Lib.law_k40, ["_law_script", "_law_net_here", "_law_n", "_law_digits", "_law_offers", "_law_k", "_law_i", "_law_j", "_law_least_here", "_law_kept", "_law_found"]⟩
theorem k_law : i_law.ok = true := by decide +kernel
theorem b_law : BindD i_law := fun _ _ _ _ _ _ us hl => match us, hl with | [_], _ => rfl
def Pr : Prog := ⟨false, [], [i_Pebbles___init__, i_Pebbles__way_to_pebble, i_Pebbles__fetch, i_Pebbles_take, i_fewest, i__law_cell, i__law_parts, i__law_is_integer, i__law_net, i__law_sets, i__law_independent, i__law_chosen, i__law_enough, i__law_least, i_law], [⟨"Pebbles", ["free", "held"], ["_way_to_pebble", "_fetch", "take"], true⟩], ["fewest.<locals>.<lambda>"]⟩
theorem oks : Pr.ds.all DI.ok = true := List.all_eq_true.mpr (AllK.of ⟨k_Pebbles___init__, k_Pebbles__way_to_pebble, k_Pebbles__fetch, k_Pebbles_take, k_fewest, k__law_cell, k__law_parts, k__law_is_integer, k__law_net, k__law_sets, k__law_independent, k__law_chosen, k__law_enough, k__law_least, k_law, trivial⟩)
theorem binds : BindA Pr.ds := ⟨b_Pebbles___init__, b_Pebbles__way_to_pebble, b_Pebbles__fetch, b_Pebbles_take, b_fewest, b__law_cell, b__law_parts, b__law_is_integer, b__law_net, b__law_sets, b__law_independent, b__law_chosen, b__law_enough, b__law_least, b_law, trivial⟩
def nm0 : List Str := ["Pebbles", "fewest", "_law_cell", "_law_parts", "_law_is_integer", "_law_net", "_law_sets", "_law_independent", "_law_chosen", "_law_enough", "_law_least"]
def names : List Str := nm0
abbrev R : PySem.W.OpenRow := PySem.W.OpenLaw.row PySem.Challenge.rw_loadorloose_k40_fewest_offers
theorem runL (w : World) (os : OsState) : (endQ R.prog 4000 w os).map (fun s => HandSHeadRun.looksF R.prog (PySem.W.boot_heap w.params) s.abs) = some true := by kernel_rfl
theorem runS (w : World) (os : OsState) : (endQ R.prog 4000 w os).map (fun s => HandSHeadRun.seenQ (PySem.W.view R.prog [14]) names (importedModules R.prog.main.body) (fun s => PySem.W.xlAt (PySem.W.view R.prog [14]) [] s && PySem.W.recOk R.toRowW.records s) s.abs) = some (PySem.W.openGood (PySem.W.view R.prog [14]) names) := by kernel_rfl
theorem runA (w : World) (os : OsState) : (endQ R.prog 4000 w os).map (fun s => Pr.fa.all fun f => f.ok (frT Pr 6 s)) = some true := by kernel_rfl
theorem runB (w : World) (os : OsState) : (endQ R.prog 4000 w os).map (fun s => (Pr.ds.map DI.D).all fun d => d.ok (frT Pr 6 s)) = some true := by kernel_rfl
theorem runC (w : World) (os : OsState) : (endQ R.prog 4000 w os).map (fun s => (Pr.ds.map DI.D).map fun d => He.fnW (frT Pr 6 s) d.at_) = some ((Pr.ds.map DI.D).map He.DefD.val) := by kernel_rfl
theorem runD' (w : World) (os : OsState) : (endQ R.prog 4000 w os).map (fun s => (Pr.glbs.all fun p => He.tupB (frT Pr 6 s) p.1 (p.2.map .int)) && Pr.lamOk (frT1 6 s) (frT Pr 6 s)) = some true := by kernel_rfl
theorem run (w : World) : HandSHeadRun.RunEq R (PySem.W.view R.prog [14]) (Pr.hook 6) (Pr.obs 6) 4000 names w := run_split (runL w) (runS w) (runA w) (runB w) (runC w) (runD' w)
theorem isLaw : Pr.at ("law", none) = some i_law := by rfl
theorem l_fewest (n : Nat) : (Pr.G (n + 1)).fns.lookup ("fewest" : Str) = some (runD (Pr.G n) Lib.fewest) := by rfl
theorem l__law_cell (n : Nat) : (Pr.G (n + 1)).fns.lookup ("_law_cell" : Str) = some (runD (Pr.G n) Lib._law_cell) := by rfl
theorem l__law_parts (n : Nat) : (Pr.G (n + 1)).fns.lookup ("_law_parts" : Str) = some (runD (Pr.G n) Lib._law_parts) := by rfl
theorem l__law_is_integer (n : Nat) : (Pr.G (n + 1)).fns.lookup ("_law_is_integer" : Str) = some (runD (Pr.G n) Lib._law_is_integer) := by rfl
theorem l__law_net (n : Nat) : (Pr.G (n + 1)).fns.lookup ("_law_net" : Str) = some (runD (Pr.G n) Lib._law_net_2) := by rfl
theorem l__law_sets (n : Nat) : (Pr.G (n + 1)).fns.lookup ("_law_sets" : Str) = some (runD (Pr.G n) Lib._law_sets) := by rfl
theorem l__law_independent (n : Nat) : (Pr.G (n + 1)).fns.lookup ("_law_independent" : Str) = some (runD (Pr.G n) Lib._law_independent) := by rfl
theorem l__law_chosen (n : Nat) : (Pr.G (n + 1)).fns.lookup ("_law_chosen" : Str) = some (runD (Pr.G n) Lib._law_chosen) := by rfl
theorem l__law_enough (n : Nat) : (Pr.G (n + 1)).fns.lookup ("_law_enough" : Str) = some (runD (Pr.G n) Lib._law_enough) := by rfl
theorem l__law_least (n : Nat) : (Pr.G (n + 1)).fns.lookup ("_law_least" : Str) = some (runD (Pr.G n) Lib._law_least) := by rfl
end K40

/-! Mini: reckoning by simp. -/
namespace L2
namespace Mi
open PySem PySem.Spec PyProof.Rows
variable {G : Sig}
@[simp] theorem grd_nil (M : Mem) : Grd [] M = True := by simp [Grd]
theorem grd_one (i : Nat) (ts : List T) (M : Mem) : Grd [(i, ts)] M = (M[i]? = some (.lst ts)) := by simp [Grd]
/-- an answer without objects, nothing old changed -/
theorem fin_pure (M : Mem) (r : T) (M1 : List O) (h : pureT r = true) : fin true M r (M ++ M1) = (r, M) := by
  unfold fin
  rw [if_pos ⟨rfl, by simp⟩, seal_pure h]
/-- a list of ours without objects within -/
theorem fin_obj (M : Mem) (ts : List T) (M1 : List O) (i : Nat) (hi : M.length ≤ i) (e : (M ++ M1)[i]? = some (.lst ts)) (h : pureTs ts = true) : fin true M (.obj i) (M ++ M1) = (.fl ts, M) := by
  have hm : ∀ ts : List T, pureTs ts = true → ts.mapM (sealT (M ++ M1) M.length 5) = some ts := by
    intro ts
    induction ts with
    | nil => intro _; rfl
    | cons t ts ih =>
      intro h
      simp only [pureTs, Bool.and_eq_true] at h
      rw [List.mapM_cons, seal_pure h.1, ih h.2]
      rfl
  unfold fin
  rw [if_pos ⟨rfl, by simp⟩]
  have : sealT (M ++ M1) M.length 6 (.obj i) = some (.fl ts) := by
    unfold sealT
    rw [if_neg (by simp [pureT])]
    simp only [if_pos hi, e]
    rw [hm ts h]
    rfl
  rw [this]
noncomputable def outD (sl : Bool) (M : Mem) : R → Option (T × Mem)
  | .rt t M1 => some (fin sl M t M1)
  | .nx _ M1 => some (fin sl M .non M1)
  | _ => none
theorem runD_def (d : MD) (ts : List T) (M : Mem) (h : ts.length = d.ps.length) : runD G d ts M = (exSs G d.body (startE d.N ts) M).bind (outD d.sl M) := by
  unfold runD
  rw [if_pos h]
  congr 1
/-- a body that answers -/
theorem run_rt {d : MD} {ts : List T} {M : Mem} {t : T} {M1 : Mem} (h : ts.length = d.ps.length) (e : exSs G d.body (startE d.N ts) M = some (.rt t M1)) : runD G d ts M = some (fin d.sl M t M1) := by
  rw [runD_def d ts M h, e]; rfl
theorem run_pure {d : MD} {ts : List T} {M : Mem} {t : T} {M1 : Mem} (h : ts.length = d.ps.length) (hs : d.sl = true) (hp : pureT t = true) (e : exSs G d.body (startE d.N ts) M = some (.rt t (M ++ M1))) : runD G d ts M = some (t, M) := by
  rw [run_rt h e, hs, fin_pure M t M1 hp]
theorem ixN_n {n i : Nat} (h : i < n) : ixN n (i : Int) = some i := by
  unfold ixN
  rw [if_pos (by omega), if_pos (by omega)]
  first | rfl | simp
theorem atI_n {α : Type} (ts : List α) (i : Nat) : atI ts (i : Int) = ts[i]? := by
  by_cases h : i < ts.length
  · unfold atI; rw [ixN_n h]; rfl
  · rw [List.getElem?_eq_none (by omega)]
    unfold atI ixN
    rw [if_pos (by omega), if_neg (by omega)]
    rfl
theorem rngL_lt {lo hi : Int} (h : lo < hi) : rngL lo hi = .int lo :: rngL (lo + 1) hi := by
  unfold rngL
  have e : (hi - lo).toNat = (hi - (lo + 1)).toNat + 1 := by omega
  rw [e, List.range_succ_eq_map, List.map_cons, List.map_map]
  congr 1
  · simp
  · apply List.map_congr_left
    intro i _
    show T.int _ = T.int _
    congr 1
    simp only [Nat.succ_eq_add_one]
    omega
theorem rngL_ge {lo hi : Int} (h : hi ≤ lo) : rngL lo hi = [] := by
  unfold rngL
  rw [show (hi - lo).toNat = 0 by omega]
  rfl
theorem rngOk_small {i j : Int} (h1 : 0 ≤ i) (h2 : i < 2 ^ 60) (h3 : 0 ≤ j) (h4 : j < 2 ^ 60) : rngOk i j := by unfold rngOk; omega
theorem log2_lt {j : Int} {k : Nat} (h : j.natAbs < 2 ^ k) (hk : 0 < k) : j.natAbs.log2 < k := by
  by_cases h0 : j.natAbs = 0
  · rw [h0]; simpa using hk
  · exact (Nat.log2_lt h0).mpr h
theorem divOk_of {j : Int} {k : Nat} (h0 : j ≠ 0) (h : j.natAbs < 2 ^ k) (hk : 0 < k) (hl : k ≤ 9000) : divOk j := h0
theorem mulOk_of {i j : Int} {a b : Nat} (h1 : i.natAbs < 2 ^ a) (h2 : j.natAbs < 2 ^ b) (ha : 0 < a) (hb : 0 < b) (hl : a + b ≤ 134000000) : mulOk i j := by
  unfold mulOk
  have := log2_lt h1 ha
  have := log2_lt h2 hb
  omega
/-! ### equations for simp -/
noncomputable def nxt (G : Sig) (ss : List MS) : R → Option R
  | .nx σ M => exSs G ss σ M
  | r => some r
@[simp] theorem nxt_nx (ss : List MS) (σ : En) (M : Mem) : nxt G ss (.nx σ M) = exSs G ss σ M := rfl
@[simp] theorem nxt_rt (ss : List MS) (t : T) (M : Mem) : nxt G ss (.rt t M) = some (.rt t M) := rfl
@[simp] theorem nxt_bk (ss : List MS) (σ : En) (M : Mem) : nxt G ss (.bk σ M) = some (.bk σ M) := rfl
@[simp] theorem nxt_ct (ss : List MS) (σ : En) (M : Mem) : nxt G ss (.ct σ M) = some (.ct σ M) := rfl
@[simp] theorem xs_nil (σ : En) (M : Mem) : exSs G [] σ M = some (.nx σ M) := by rw [exSs]
@[simp] theorem xs_cons (s : MS) (ss : List MS) (σ : En) (M : Mem) : exSs G (s :: ss) σ M = (exS G s σ M).bind (nxt G ss) := by
  rw [exSs]
  cases h : exS G s σ M with
  | none => rfl
  | some r => cases r <;> rfl
@[simp] theorem x_set (i : Nat) (x : Str) (e : ME) (σ : En) (M : Mem) : exS G (.set i x e) σ M = (evE G e σ M).map fun p => .nx (σ.set i (some p.1)) p.2 := by rw [exS]
@[simp] theorem x_asg (t : MT) (e : ME) (σ : En) (M : Mem) : exS G (.asg t e) σ M = (evE G e σ M).bind fun p => (asgT t p.1 σ).map fun σ1 => .nx σ1 p.2 := by rw [exS]
@[simp] theorem x_setI (o i e : ME) (σ : En) (M : Mem) : exS G (.setI o i e) σ M = (evE G e σ M).bind fun v => (evE G o σ v.2).bind fun p => (evE G i σ p.2).bind fun q => (setT p.1 q.1 v.1 q.2).map fun M1 => .nx σ M1 := by rw [exS]
@[simp] theorem x_par (xs : List (Nat × Str)) (es : MEs) (σ : En) (M : Mem) : exS G (.par xs es) σ M = (evEs G es σ M).bind fun p => if p.1.length = xs.length then some (.nx (parE σ xs p.1) p.2) else none := by rw [exS]
@[simp] theorem x_aug (i : Nat) (x : Str) (op : Operator) (e : ME) (σ : En) (M : Mem) : exS G (.aug i x op e) σ M = (σ[i]?.bind id).bind fun x => (evE G e σ M).bind fun p => (augT op x p.1).map fun y => .nx (σ.set i (some y)) p.2 := by
  rw [exS]
  cases σ[i]? with
  | none => rfl
  | some o => cases o <;> rfl
@[simp] theorem x_augI (o i : ME) (op : Operator) (e : ME) (σ : En) (M : Mem) : exS G (.augI o i op e) σ M = (evE G o σ M).bind fun p => (evE G i σ p.2).bind fun q => (ixT p.1 q.1 q.2).bind fun x => (evE G e σ q.2).bind fun y => (augT op x y.1).bind fun z =>
      (setT p.1 q.1 z y.2).map fun M1 => .nx σ M1 := by rw [exS]
@[simp] theorem x_ex (e : ME) (σ : En) (M : Mem) : exS G (.ex e) σ M = (evE G e σ M).map fun p => .nx σ p.2 := by rw [exS]
@[simp] theorem x_ret (e : ME) (σ : En) (M : Mem) : exS G (.ret e) σ M = (evE G e σ M).map fun p => .rt p.1 p.2 := by rw [exS]
@[simp] theorem x_retN (σ : En) (M : Mem) : exS G .retN σ M = some (.rt .non M) := by rw [exS]
@[simp] theorem x_brk (σ : En) (M : Mem) : exS G .brk σ M = some (.bk σ M) := by rw [exS]
@[simp] theorem x_cnt (σ : En) (M : Mem) : exS G .cnt σ M = some (.ct σ M) := by rw [exS]
@[simp] theorem x_pas (σ : En) (M : Mem) : exS G .pas σ M = some (.nx σ M) := by rw [exS]
@[simp] theorem x_ite (c : ME) (a b : List MS) (σ : En) (M : Mem) : exS G (.ite c a b) σ M = (tst (evE G c σ M)).bind fun p => if p.1 = true then exSs G a σ p.2 else exSs G b σ p.2 := by rw [exS]
@[simp] theorem e_var (i : Nat) (x : Str) (σ : En) (M : Mem) : evE G (.var i x) σ M = (σ[i]?.bind id).map fun t => (t, M) := by
  rw [evE]
  cases σ[i]? with
  | none => rfl
  | some o => cases o <;> rfl
@[simp] theorem e_glb (x : Str) (σ : En) (M : Mem) : evE G (.glb x) σ M = (G.glbs.lookup x).map fun t => (t, M) := by rw [evE]
@[simp] theorem e_non (σ : En) (M : Mem) : evE G .non σ M = some (.non, M) := by rw [evE]
@[simp] theorem e_bl (b : Bool) (σ : En) (M : Mem) : evE G (.bl b) σ M = some (.bl b, M) := by rw [evE]
@[simp] theorem e_int (i : Int) (σ : En) (M : Mem) : evE G (.int i) σ M = some (.int i, M) := by rw [evE]
@[simp] theorem e_str (x : Str) (σ : En) (M : Mem) : evE G (.str x) σ M = some (.str x, M) := by rw [evE]
@[simp] theorem e_bin (op : Operator) (tr : Bool) (a b : ME) (σ : En) (M : Mem) : evE G (.bin op tr a b) σ M = (evE G a σ M).bind fun p => (evE G b σ p.2).bind fun q => binT op tr p.1 q.1 q.2 := by rw [evE]
def negT : T → Option T
  | .int i => some (.int (-i))
  | _ => none
@[simp] theorem neg_int (i : Int) : negT (.int i) = some (.int (-i)) := rfl
@[simp] theorem e_neg (a : ME) (σ : En) (M : Mem) : evE G (.neg a) σ M = (evE G a σ M).bind fun p => (negT p.1).map fun t => (t, p.2) := by
  rw [evE]
  congr 1
  funext p
  obtain ⟨t, m⟩ := p
  cases t <;> rfl
@[simp] theorem e_not (a : ME) (σ : En) (M : Mem) : evE G (.not a) σ M = (tst (evE G a σ M)).map fun p => (.bl (!p.1), p.2) := by rw [evE]
@[simp] theorem e_one (a : ME) (σ : En) (M : Mem) : evE G (.one a) σ M = evE G a σ M := by rw [evE]
@[simp] theorem e_and (a b : ME) (σ : En) (M : Mem) : evE G (.and a b) σ M = (evE G a σ M).bind fun p => (truth p.2 p.1).bind fun c => if c = true then evE G b σ p.2 else some p := by rw [evE]
@[simp] theorem e_or (a b : ME) (σ : En) (M : Mem) : evE G (.or a b) σ M = (evE G a σ M).bind fun p => (truth p.2 p.1).bind fun c => if c = true then some p else evE G b σ p.2 := by rw [evE]
@[simp] theorem e_cmp (op : CmpOp) (a b : ME) (σ : En) (M : Mem) : evE G (.cmp op a b) σ M = (evE G a σ M).bind fun p => (evE G b σ p.2).bind fun q => (cmpT op p.1 q.1 q.2).map fun c => (.bl c, q.2) := by rw [evE]
@[simp] theorem e_ife (c a b : ME) (σ : En) (M : Mem) : evE G (.ife c a b) σ M = (tst (evE G c σ M)).bind fun p => if p.1 = true then evE G a σ p.2 else evE G b σ p.2 := by rw [evE]
@[simp] theorem e_call (f : Str) (es : MEs) (σ : En) (M : Mem) : evE G (.call f es) σ M = (evEs G es σ M).bind fun p => (G.fns.lookup f).bind fun F => F p.1 p.2 := by rw [evE]
@[simp] theorem e_bi (b : BI) (es : MEs) (σ : En) (M : Mem) : evE G (.bi b es) σ M = (evEs G es σ M).bind fun p => biT b p.1 p.2 := by rw [evE]
@[simp] theorem e_isi (a : ME) (ty : String) (σ : En) (M : Mem) : evE G (.isi a ty) σ M = (evE G a σ M).bind fun p => (isiT p.2 ty p.1).map fun c => (.bl c, p.2) := by rw [evE]
@[simp] theorem e_bm (b : BM) (o : ME) (es : MEs) (σ : En) (M : Mem) : evE G (.bm b o es) σ M = (evE G o σ M).bind fun p => (lof p.2 p.1).bind fun _ => (evEs G es σ p.2).bind fun q => bmT b p.1 q.1 q.2 := by rw [evE]
@[simp] theorem e_ix (a b : ME) (σ : En) (M : Mem) : evE G (.ix a b) σ M = (evE G a σ M).bind fun p => (evE G b σ p.2).bind fun q => (ixT p.1 q.1 q.2).map fun t => (t, q.2) := by rw [evE]
@[simp] theorem e_slc (tr : Bool) (a lo hi : ME) (σ : En) (M : Mem) : evE G (.slc tr a lo hi) σ M = (evE G a σ M).bind fun p => (evP G lo σ p.2).bind fun l => (evP G hi σ l.2).bind fun h => slT tr p.1 l.1 h.1 h.2 := by rw [evE]
@[simp] theorem e_rev (tr : Bool) (a : ME) (σ : En) (M : Mem) : evE G (.rev tr a) σ M = (evE G a σ M).bind fun p => revT tr p.1 p.2 := by rw [evE]
@[simp] theorem revT_obj (tr : Bool) (i : Nat) (M : Mem) : revT tr (.obj i) M = (lofS M (.obj i)).map fun ts => mkL tr ts.reverse M := rfl
@[simp] theorem revT_fl (tr : Bool) (ts : List T) (M : Mem) : revT tr (.fl ts) M = some (mkL tr ts.reverse M) := rfl
@[simp] theorem e_tup (es : MEs) (σ : En) (M : Mem) : evE G (.tup es) σ M = (evEs G es σ M).bind fun p => if p.1.length ≤ 16777216 then some (.tup p.1, p.2) else none := by rw [evE]
@[simp] theorem e_lst (tr : Bool) (es : MEs) (σ : En) (M : Mem) : evE G (.lst tr es) σ M = (evEs G es σ M).bind fun p => if p.1.length ≤ 16777216 then some (mkL tr p.1 p.2) else none := by rw [evE]
@[simp] theorem e_dnew (t : Bool) (σ : En) (M : Mem) : evE G (.dnew t) σ M = if t = true ∧ G.kt = true then none else some (.obj M.length, M ++ [.dic t [] []]) := by rw [evE]
@[simp] theorem p_no (σ : En) (M : Mem) : evP G .nopart σ M = some (none, M) := by rw [evP]
@[simp] theorem p_int (i : Int) (σ : En) (M : Mem) : evP G (.int i) σ M = some (some i, M) := by rw [evP]
def prtT : T → Option (Option Int)
  | .int i => some (some i)
  | _ => none
@[simp] theorem prt_int (i : Int) : prtT (.int i) = some (some i) := rfl
theorem p_gen {m : ME} (h : isNoP m = false) (σ : En) (M : Mem) : evP G m σ M = (evE G m σ M).bind fun p => (prtT p.1).map fun o => (o, p.2) := by
  have key : ∀ x : Option (T × Mem), (x.bind fun p => match p.1 with
    | .int i => some (some i, p.2)
    | _ => none) = x.bind fun p => (prtT p.1).map fun o => (o, p.2) := fun x => by
    congr 1
    funext p
    obtain ⟨t, m⟩ := p
    cases t <;> rfl
  cases m with
  | nopart => cases h
  | int i => rw [evP, evE]; rfl
  | _ => unfold evP; exact key _
@[simp] theorem p_var (i : Nat) (x : Str) (σ : En) (M : Mem) : evP G (.var i x) σ M = (evE G (.var i x) σ M).bind fun p => (prtT p.1).map fun o => (o, p.2) := p_gen rfl σ M
@[simp] theorem p_bin (op : Operator) (tr : Bool) (a b : ME) (σ : En) (M : Mem) : evP G (.bin op tr a b) σ M = (evE G (.bin op tr a b) σ M).bind fun p => (prtT p.1).map fun o => (o, p.2) := p_gen rfl σ M
@[simp] theorem p_bi (b : BI) (es : MEs) (σ : En) (M : Mem) : evP G (.bi b es) σ M = (evE G (.bi b es) σ M).bind fun p => (prtT p.1).map fun o => (o, p.2) := p_gen rfl σ M
@[simp] theorem p_ix (a b : ME) (σ : En) (M : Mem) : evP G (.ix a b) σ M = (evE G (.ix a b) σ M).bind fun p => (prtT p.1).map fun o => (o, p.2) := p_gen rfl σ M
@[simp] theorem p_neg (a : ME) (σ : En) (M : Mem) : evP G (.neg a) σ M = (evE G (.neg a) σ M).bind fun p => (prtT p.1).map fun o => (o, p.2) := p_gen rfl σ M
@[simp] theorem es_nil (σ : En) (M : Mem) : evEs G .nil σ M = some ([], M) := by rw [evEs]
@[simp] theorem es_cons (e : ME) (es : MEs) (σ : En) (M : Mem) : evEs G (.cons e es) σ M = (evE G e σ M).bind fun p => (evEs G es σ p.2).map fun q => (p.1 :: q.1, q.2) := by rw [evEs]
@[simp] theorem if_nil (σ : En) (M : Mem) : evIf G .nil σ M = some (true, M) := by rw [evIf]
@[simp] theorem if_one (e : ME) (σ : En) (M : Mem) : evIf G (.cons e .nil) σ M = tst (evE G e σ M) := by rw [evIf]
@[simp] theorem i_over (a : ME) (σ : En) (M : Mem) : evI G (.over a) σ M = (evE G a σ M).bind fun p => (sof p.2 p.1).map fun ts => ((ts, grdOf p.1 ts), p.2) := by rw [evI]
noncomputable def rg1 : T → Option Itm
  | .int j => if rngOk 0 j then some (rngL 0 j, []) else none
  | _ => none
@[simp] theorem rg1_int (j : Int) : rg1 (.int j) = if rngOk 0 j then some (rngL 0 j, []) else none := rfl
@[simp] theorem i_rng1 (a : ME) (σ : En) (M : Mem) : evI G (.rng1 a) σ M = (evE G a σ M).bind fun p => (rg1 p.1).map fun r => (r, p.2) := by
  rw [evI]
  congr 1
  funext p
  obtain ⟨t, m⟩ := p
  cases t <;> first
    | rfl
    | (simp only [rg1]; split <;> rfl)
noncomputable def rg2 : T → T → Option Itm
  | .int i, .int j => if rngOk i j then some (rngL i j, []) else none
  | _, _ => none
@[simp] theorem rg2_int (i j : Int) : rg2 (.int i) (.int j) = if rngOk i j then some (rngL i j, []) else none := rfl
@[simp] theorem i_rng2 (a b : ME) (σ : En) (M : Mem) : evI G (.rng2 a b) σ M = (evE G a σ M).bind fun p => (evE G b σ p.2).bind fun q => (rg2 p.1 q.1).map fun r => (r, q.2) := by
  rw [evI]
  congr 1
  funext p
  congr 1
  funext q
  obtain ⟨t, m⟩ := p
  obtain ⟨u, m'⟩ := q
  cases t <;> cases u <;> first
    | rfl
    | (simp only [rg2]; split <;> rfl)
@[simp] theorem i_enum (a : ME) (σ : En) (M : Mem) : evI G (.enum a) σ M = (evE G a σ M).bind fun p => (sof p.2 p.1).map fun ts => ((enumL 0 ts, grdOf p.1 ts), p.2) := by rw [evI]
@[simp] theorem i_zip2 (a b : ME) (σ : En) (M : Mem) : evI G (.zip2 a b) σ M = (evE G a σ M).bind fun p => (evE G b σ p.2).bind fun q => (sof q.2 p.1).bind fun xs => (sof q.2 q.1).map fun ys =>
      ((List.zipWith (fun x y => T.tup [x, y]) xs ys, grdOf p.1 xs ++ grdOf q.1 ys), q.2) := by rw [evI]
@[simp] theorem tst_some (t : T) (M : Mem) : tst (some (t, M)) = (truth M t).map fun b => (b, M) := rfl
@[simp] theorem tst_none : tst none = none := rfl
@[simp] theorem asg_nm (i : Nat) (x : Str) (t : T) (σ : En) : asgT (.nm i x) t σ = some (σ.set i (some t)) := by rw [asgT]
@[simp] theorem asg_tp (ts : MTs) (us : List T) (σ : En) : asgT (.tp ts) (.tup us) σ = asgTs ts us σ := by rw [asgT]
@[simp] theorem asg_tpl (ts : MTs) (us : List T) (σ : En) : asgT (.tp ts) (.fl us) σ = asgTs ts us σ := by rw [asgT]
@[simp] theorem asgs_nil (σ : En) : asgTs .nil [] σ = some σ := by rw [asgTs]
@[simp] theorem asgs_cons (m : MT) (ms : MTs) (t : T) (ts : List T) (σ : En) : asgTs (.cons m ms) (t :: ts) σ = (asgT m t σ).bind fun σ1 => asgTs ms ts σ1 := by rw [asgTs]
@[simp] theorem at_0 {α : Type} (x : α) (xs : List α) : atI (x :: xs) 0 = some x := by rw [show (0 : Int) = ((0 : Nat) : Int) from rfl, atI_n]; rfl
@[simp] theorem at_1 {α : Type} (x y : α) (xs : List α) : atI (x :: y :: xs) 1 = some y := by rw [show (1 : Int) = ((1 : Nat) : Int) from rfl, atI_n]; rfl
@[simp] theorem at_2 {α : Type} (x y z : α) (xs : List α) : atI (x :: y :: z :: xs) 2 = some z := by rw [show (2 : Int) = ((2 : Nat) : Int) from rfl, atI_n]; rfl
@[simp] theorem at_3 {α : Type} (x y z w : α) (xs : List α) : atI (x :: y :: z :: w :: xs) 3 = some w := by rw [show (3 : Int) = ((3 : Nat) : Int) from rfl, atI_n]; rfl
@[simp] theorem ix_tup (ts : List T) (i : Int) (M : Mem) : ixT (.tup ts) (.int i) M = atI ts i := by simp [ixT, dof, sof]
@[simp] theorem ix_fl (ts : List T) (i : Int) (M : Mem) : ixT (.fl ts) (.int i) M = atI ts i := by simp [ixT, dof, sof, lofS, lof]
@[simp] theorem ix_sc (ns : List Int) (i : Int) (M : Mem) : ixT (.sc ns) (.int i) M = atI (ns.map T.int) i := by simp [ixT, dof, sof, lofS]
@[simp] theorem sof_tup (M : Mem) (ts : List T) : sof M (.tup ts) = some ts := rfl
@[simp] theorem sof_fl (M : Mem) (ts : List T) : sof M (.fl ts) = some ts := rfl
@[simp] theorem lof_fl (M : Mem) (ts : List T) : lof M (.fl ts) = some ts := rfl
@[simp] theorem grdOf_tup (ts us : List T) : grdOf (.tup ts) us = [] := rfl
@[simp] theorem grdOf_fl (ts us : List T) : grdOf (.fl ts) us = [] := rfl
@[simp] theorem grdOf_sc (ts : List Int) (us : List T) : grdOf (.sc ts) us = [] := rfl
@[simp] theorem mkL_f (ts : List T) (M : Mem) : mkL false ts M = (.fl ts, M) := rfl
@[simp] theorem mkL_t (ts : List T) (M : Mem) : mkL true ts M = (.obj M.length, M ++ [.lst ts]) := rfl
@[simp] theorem tr_int (M : Mem) (i : Int) : truth M (.int i) = some (i != 0) := rfl
@[simp] theorem tr_bl (M : Mem) (b : Bool) : truth M (.bl b) = some b := rfl
@[simp] theorem cmp_lt (i j : Int) (M : Mem) : cmpT .Lt (.int i) (.int j) M = some (decide (i < j)) := rfl
@[simp] theorem cmp_le (i j : Int) (M : Mem) : cmpT .LtE (.int i) (.int j) M = some (decide (i ≤ j)) := rfl
@[simp] theorem cmp_gt (i j : Int) (M : Mem) : cmpT .Gt (.int i) (.int j) M = some (decide (j < i)) := rfl
@[simp] theorem cmp_ge (i j : Int) (M : Mem) : cmpT .GtE (.int i) (.int j) M = some (decide (j ≤ i)) := rfl
@[simp] theorem eqv_int (i j : Int) (M : Mem) : eqv? M (.int i) (.int j) = some (decide (i = j)) := by
  simp [eqv?, scL, sealT, pureT, okT, depT, eqT]
  rfl
@[simp] theorem cmp_eq (i j : Int) (M : Mem) : cmpT .Eq (.int i) (.int j) M = some (decide (i = j)) := eqv_int i j M
@[simp] theorem cmp_ne (i j : Int) (M : Mem) : cmpT .NotEq (.int i) (.int j) M = some (!decide (i = j)) := by
  have : cmpT .NotEq (.int i) (.int j) M = (eqv? M (.int i) (.int j)).map not := rfl
  rw [this, eqv_int]; rfl
@[simp] theorem bin_add (tr : Bool) (i j : Int) (M : Mem) : binT .Add tr (.int i) (.int j) M = some (.int (i + j), M) := rfl
@[simp] theorem bin_sub (tr : Bool) (i j : Int) (M : Mem) : binT .Sub tr (.int i) (.int j) M = some (.int (i - j), M) := rfl
theorem bin_mul {i j : Int} (h : mulOk i j) (tr : Bool) (M : Mem) : binT .Mult tr (.int i) (.int j) M = some (.int (i * j), M) := by
  show (if mulOk i j then _ else _) = _
  rw [if_pos h]
theorem bin_div {i j : Int} (h : divOk j) (tr : Bool) (M : Mem) : binT .FloorDiv tr (.int i) (.int j) M = some (.int (i.fdiv j), M) := by
  show (if divOk j then _ else _) = _
  rw [if_pos h]
theorem bin_mod {i j : Int} (h : j ≠ 0) (tr : Bool) (M : Mem) : binT .Mod tr (.int i) (.int j) M = some (.int (i.fmod j), M) := by
  show (if j ≠ 0 then _ else _) = _
  rw [if_pos h]
/-- a bound by bits -/
def Sm (k : Nat) (x : Int) : Prop := x.natAbs < 2 ^ k
theorem Sm.mono {j k : Nat} {x : Int} (h : Sm j x) (hk : j ≤ k) : Sm k x := Nat.lt_of_lt_of_le h (Nat.pow_le_pow_right (by decide) hk)
theorem Sm.mul {j k : Nat} {x y : Int} (h : Sm j x) (h' : Sm k y) : Sm (j + k) (x * y) := by
  unfold Sm at *
  rw [Int.natAbs_mul, Nat.pow_add]
  exact Nat.mul_lt_mul'' h h'
theorem Sm.add {k : Nat} {x y : Int} (h : Sm k x) (h' : Sm k y) : Sm (k + 1) (x + y) := by
  unfold Sm at *
  have := Int.natAbs_add_le x y
  rw [Nat.pow_succ]
  omega
theorem Sm.neg {k : Nat} {x : Int} (h : Sm k x) : Sm k (-x) := by unfold Sm at *; rwa [Int.natAbs_neg]
theorem Sm.sub {k : Nat} {x y : Int} (h : Sm k x) (h' : Sm k y) : Sm (k + 1) (x - y) := by rw [Int.sub_eq_add_neg]; exact h.add h'.neg
theorem Sm.mulOk {j k : Nat} {x y : Int} (h : Sm j x) (h' : Sm k y) (hl : j + k ≤ 133999998) : mulOk x y := mulOk_of (a := j + 1) (b := k + 1) (h.mono (by omega)) (h'.mono (by omega)) (by omega) (by omega) (by omega)
theorem Sm.divOk {k : Nat} {x : Int} (h0 : x ≠ 0) (h : Sm k x) (hl : k ≤ 8999) : divOk x := divOk_of (k := k + 1) h0 (h.mono (by omega)) (by omega) (by omega)
theorem Sm.le {k : Nat} {x y : Int} (h : Sm k y) (hl : x.natAbs ≤ y.natAbs) : Sm k x := Nat.lt_of_le_of_lt hl h
instance (k : Nat) (x : Int) : Decidable (Sm k x) := by unfold Sm; infer_instance
theorem bi_len {M : Mem} {x : T} {ts : List T} (h : dof M x = none) (h2 : sof M x = some ts) : biT .len [x] M = some (.int (ts.length : Nat), M) := by
  unfold biT
  simp only [h, h2]
  rfl
theorem rg1_of {j : Int} (h : rngOk 0 j) : rg1 (.int j) = some (rngL 0 j, []) := by rw [rg1_int, if_pos h]
theorem rg2_of {i j : Int} (h : rngOk i j) : rg2 (.int i) (.int j) = some (rngL i j, []) := by rw [rg2_int, if_pos h]
/-! ### loops by name -/
noncomputable def whl (G : Sig) (c : ME) (b : List MS) (σ : En) (M : Mem) : Option R := whileC (fun σ M => tst (evE G c σ M)) (fun σ M => exSs G b σ M) σ M
noncomputable def fr (G : Sig) (t : MT) (b : List MS) (g : List (Nat × List T)) (xs : List T) (σ : En) (M : Mem) : Option R := forC g (fun x σ M => (asgT t x σ).bind fun σ1 => exSs G b σ1 M) xs σ M
noncomputable def lcr (G : Sig) (tg : MT) (ifs : MEs) (elt : ME) (σ : En) (g : List (Nat × List T)) (xs : List T) (M : Mem) : Option (List T × Mem) := lcC g (stepL G tg ifs elt σ) xs M
noncomputable def lcr2 (G : Sig) (tg : MT) (ifs : MEs) (vs1 : List Nat) (tg1 : MT) (it1 : MI) (ifs1 : MEs) (elt : ME) (σ : En) (g : List (Nat × List T)) (xs : List T) (M : Mem) : Option (List T × Mem) := lcC g (stepL2 G tg ifs vs1 tg1 it1 ifs1 elt σ) xs M
noncomputable def dcr (G : Sig) (tg : MT) (k v : ME) (σ : En) (g : List (Nat × List T)) (xs : List T) (M : Mem) : Option (List T × Mem) := lcC g (stepD G tg k v σ) xs M
@[simp high] theorem exS_whl (c : ME) (b : List MS) (σ : En) (M : Mem) : exS G (.whl c b) σ M = whl G c b σ M := by rw [exS]; rfl
@[simp high] theorem exS_for (t : MT) (it : MI) (b : List MS) (σ : En) (M : Mem) : exS G (.for t it b) σ M = (evI G it σ M).bind fun p => fr G t b p.1.2 p.1.1 σ p.2 := by rw [exS]; rfl
@[simp high] theorem evE_lc (tr : Bool) (own : List (Str × Nat)) (tg : MT) (it : MI) (ifs : MEs) (elt : ME) (σ : En) (M : Mem) : evE G (.lc tr own tg it ifs elt) σ M = (evI G it σ M).bind fun p =>
    (lcr G tg ifs elt (wipeE σ (own.map (·.2))) p.1.2 p.1.1 p.2).bind fun q => if q.1.length ≤ 16777216 then some (mkL tr q.1 q.2) else none := stepEq G tr own tg it ifs elt σ M
@[simp high] theorem evE_lc2 (tr : Bool) (own : List (Str × Nat)) (tg : MT) (it : MI) (ifs : MEs) (vs1 : List Nat) (tg1 : MT) (it1 : MI) (ifs1 : MEs) (elt : ME) (σ : En) (M : Mem) : evE G (.lc2 tr own tg it ifs vs1 tg1 it1 ifs1 elt) σ M = (evI G it σ M).bind fun p =>
    (lcr2 G tg ifs vs1 tg1 it1 ifs1 elt (wipeE σ (own.map (·.2))) p.1.2 p.1.1 p.2).bind fun q => if q.1.length ≤ 16777216 then some (mkL tr q.1 q.2) else none := step2Eq tr own tg it ifs vs1 tg1 it1 ifs1 elt σ M
@[simp high] theorem evE_dc (own : List (Str × Nat)) (tg : MT) (it : MI) (kx vx : ME) (σ : En) (M : Mem) : evE G (.dc own tg it kx vx) σ M = (evI G it σ M).bind fun p =>
    (dcr G tg kx vx (wipeE σ (own.map (·.2))) p.1.2 p.1.1 p.2).bind fun q => if q.1.length ≤ 1000000 then some (.fd false (dcPut q.1 ([], [])).1 (dcPut q.1 ([], [])).2, q.2) else none := stepDEq own tg it kx vx σ M
theorem whl_eq (c : ME) (b : List MS) (σ : En) (M : Mem) : whl G c b σ M = match tst (evE G c σ M) with
    | some (true, M1) => (match exSs G b σ M1 with
      | some (.nx σ' M') => whl G c b σ' M'
      | some (.ct σ' M') => whl G c b σ' M'
      | some (.bk σ' M') => some (.nx σ' M')
      | r => r)
    | some (false, M1) => some (.nx σ M1)
    | none => none := by unfold whl; rw [whileC_eq]; try rfl
/-- one turn -/
theorem whl_t {c : ME} {b : List MS} {σ σ' : En} {M M1 M' : Mem} (h : tst (evE G c σ M) = some (true, M1)) (h2 : exSs G b σ M1 = some (.nx σ' M')) : whl G c b σ M = whl G c b σ' M' := by rw [whl_eq, h]; simp only [h2]
theorem whl_f {c : ME} {b : List MS} {σ : En} {M M1 : Mem} (h : tst (evE G c σ M) = some (false, M1)) : whl G c b σ M = some (.nx σ M1) := by rw [whl_eq, h]
theorem fr_nil {t : MT} {b : List MS} {g : List (Nat × List T)} {σ : En} {M : Mem} (h : Grd g M) : fr G t b g [] σ M = some (.nx σ M) := by unfold fr; rw [forC, if_pos h]
theorem fr_nx {t : MT} {b : List MS} {g : List (Nat × List T)} {x : T} {xs : List T} {σ σ1 σ' : En} {M M' : Mem} (h : Grd g M) (h1 : asgT t x σ = some σ1) (h2 : exSs G b σ1 M = some (.nx σ' M')) : fr G t b g (x :: xs) σ M = fr G t b g xs σ' M' := by
  unfold fr; rw [forC, if_pos h, h1]; simp only [Option.bind_some, h2]
theorem fr_ct {t : MT} {b : List MS} {g : List (Nat × List T)} {x : T} {xs : List T} {σ σ1 σ' : En} {M M' : Mem} (h : Grd g M) (h1 : asgT t x σ = some σ1) (h2 : exSs G b σ1 M = some (.ct σ' M')) : fr G t b g (x :: xs) σ M = fr G t b g xs σ' M' := by
  unfold fr; rw [forC, if_pos h, h1]; simp only [Option.bind_some, h2]
theorem fr_bk {t : MT} {b : List MS} {g : List (Nat × List T)} {x : T} {xs : List T} {σ σ1 σ' : En} {M M' : Mem} (h : Grd g M) (h1 : asgT t x σ = some σ1) (h2 : exSs G b σ1 M = some (.bk σ' M')) : fr G t b g (x :: xs) σ M = some (.nx σ' M') := by
  unfold fr; rw [forC, if_pos h, h1]; simp only [Option.bind_some, h2]
theorem fr_rt {t : MT} {b : List MS} {g : List (Nat × List T)} {x : T} {xs : List T} {σ σ1 : En} {M M' : Mem} {u : T} (h : Grd g M) (h1 : asgT t x σ = some σ1) (h2 : exSs G b σ1 M = some (.rt u M')) : fr G t b g (x :: xs) σ M = some (.rt u M') := by
  unfold fr; rw [forC, if_pos h, h1]; simp only [Option.bind_some, h2]
theorem frn_nil {i : Nat} {n : Str} {b : List MS} {σ : En} {M : Mem} : fr G (.nm i n) b [] [] σ M = some (.nx σ M) := fr_nil (by simp)
theorem frn_nx {i : Nat} {n : Str} {b : List MS} {g : List (Nat × List T)} {x : T} {xs : List T} {σ : En} (σ' : En) {M : Mem} (M' : Mem) (h : Grd g M) (h2 : exSs G b (σ.set i (some x)) M = some (.nx σ' M')) : fr G (.nm i n) b g (x :: xs) σ M = fr G (.nm i n) b g xs σ' M' := fr_nx h (asg_nm ..) h2
/-- over a list of known shape -/
theorem lcr_of {α : Type} {tg : MT} {ifs : MEs} {elt : ME} {σ : En} {g : List (Nat × List T)} {M : Mem} (c : α → T) (f : α → T) (hg : Grd g M) {xs : List α} (h : ∀ a ∈ xs, stepL G tg ifs elt σ (c a) M = some ([f a], M)) : lcr G tg ifs elt σ g (xs.map c) M = some (xs.map f, M) := by
  unfold lcr
  induction xs with
  | nil => rw [List.map_nil, lcC, if_pos hg]; rfl
  | cons x xs ih =>
    rw [List.map_cons, lcC, if_pos hg, h x List.mem_cons_self]
    simp only [Option.bind_some]
    rw [ih fun t ht => h t (List.mem_cons_of_mem _ ht)]
    rfl
/-- .. with a test -/
theorem lcr_if {α : Type} {tg : MT} {ifs : MEs} {elt : ME} {σ : En} {g : List (Nat × List T)} {M : Mem} (c : α → T) (p : α → Bool) (f : α → T) (hg : Grd g M) {xs : List α} (h : ∀ a ∈ xs, stepL G tg ifs elt σ (c a) M = some (if p a then [f a] else [], M)) :
    lcr G tg ifs elt σ g (xs.map c) M = some ((xs.filter p).map f, M) := by
  unfold lcr
  induction xs with
  | nil => rw [List.map_nil, lcC, if_pos hg]; rfl
  | cons x xs ih =>
    rw [List.map_cons, lcC, if_pos hg, h x List.mem_cons_self]
    simp only [Option.bind_some]
    rw [ih fun t ht => h t (List.mem_cons_of_mem _ ht)]
    by_cases hp : p x = true
    · rw [if_pos hp, List.filter_cons_of_pos hp]; rfl
    · rw [if_neg hp, List.filter_cons_of_neg hp]; rfl
/-! ### ranges as values, displayed dicts, get, setdefault -/
def rtT : T → Option (List T)
  | .int j => if 0 ≤ j ∧ j ≤ 16777216 then some (rngL 0 j) else none
  | _ => none
@[simp] theorem e_rtup (a : ME) (σ : En) (M : Mem) : evE G (.rtup a) σ M = (evE G a σ M).bind fun p => (rtT p.1).map fun ts => (.tup ts, p.2) := by
  rw [evE]
  congr 1
  funext p
  obtain ⟨t, m⟩ := p
  cases t <;> first
    | rfl
    | (simp only [rtT]; split <;> rfl)
@[simp] theorem e_rlst (tr : Bool) (a : ME) (σ : En) (M : Mem) : evE G (.rlst tr a) σ M = (evE G a σ M).bind fun p => (rtT p.1).map fun ts => mkL tr ts p.2 := by
  rw [evE]
  congr 1
  funext p
  obtain ⟨t, m⟩ := p
  cases t <;> first
    | rfl
    | (simp only [rtT]; split <;> rfl)
def dlT (i : Nat) (ts : List T) (M : Mem) : Option (T × Mem) := match M[i]? with
  | some (.dic false [] []) => if altK ts = true then some (.obj i, M.set i (.dic false (dcPut ts ([], [])).1 (dcPut ts ([], [])).2)) else none
  | _ => none
@[simp] theorem e_dlit (es : MEs) (σ : En) (M : Mem) : evE G (.dlit es) σ M = (evEs G es σ (M ++ [.dic false [] []])).bind fun p => dlT M.length p.1 p.2 := by rw [evE]; rfl
def dgT (d k x : T) (M : Mem) : Option T := (dof M d).bind fun w => if isKeyT w.1 k = true then some ((lkp w.2.1 w.2.2 k).getD x) else none
@[simp] theorem e_dget (d x y : ME) (σ : En) (M : Mem) : evE G (.dget d x y) σ M = (evE G d σ M).bind fun p => (dof p.2 p.1).bind fun _ => (evE G x σ p.2).bind fun q => (evE G y σ q.2).bind fun r => (dgT p.1 q.1 r.1 r.2).map fun t => (t, r.2) := by
  rw [evE]
  congr 1
  funext p
  congr 1
  funext _
  congr 1
  funext q
  congr 1
  funext r
  unfold dgT
  cases dof r.2 p.1 with
  | none => rfl
  | some w =>
    simp only [Option.bind_some]
    split <;> rfl
def dsT (d k x : T) (M : Mem) : Option (T × Mem) := match d with
  | .obj i => match M[i]? with
    | some (.dic false ks ts) => if isKey k = true ∧ ks.length < 16777216 then (match lkp ks ts k with
      | some u => some (u, M)
      | none => some (x, M.set i (.dic false (putD ks ts k x).1 (putD ks ts k x).2))) else none
    | _ => none
  | _ => none
@[simp] theorem e_dsd (d x y : ME) (σ : En) (M : Mem) : evE G (.dsd d x y) σ M = (evE G d σ M).bind fun p => (dof p.2 p.1).bind fun _ => (evE G x σ p.2).bind fun q => (evE G y σ q.2).bind fun r => dsT p.1 q.1 r.1 r.2 := by rw [evE]; rfl
@[simp] theorem e_spr (a : ME) (σ : En) (M : Mem) : evE G (.spr a) σ M = (evE G a σ M).bind fun p => (lof p.2 p.1).bind fun ts => (tupsOf ts).bind fun ks => if ks.length < 64 ∧ (∀ k ∈ ks, pr64 k = true) then some (.fl ((sortK (ddp ks)).map fun k => .tup (k.map .int)), p.2) else none := by rw [evE]
def skoT (q : Str) (p : T × Mem) (o : Option (Option T)) : Option (T × Mem) := match o with
  | some (some t) => (lof p.2 t).bind fun ts => (keys3 ts).bind fun ys => match p.1 with
    | .int n => if hasTab q p.2 = true ∧ ts.length ≤ 16777216 ∧ n = ts.length then some (.fl ((srtAt ys).map T.int), p.2) else none
    | _ => none
  | _ => none
@[simp] theorem e_sko (q : Str) (i : Nat) (x : Str) (a : ME) (σ : En) (M : Mem) : evE G (.sko q i x a) σ M = (evE G a σ M).bind fun p => skoT q p σ[i]? := by rw [evE]; rfl
@[simp] theorem e_skc (q : Str) (a : ME) (σ : En) (M : Mem) : evE G (.skc q a) σ M = (evE G a σ M).bind fun p => (lof p.2 p.1).bind fun ts => (keys2 ts).bind fun l => if hasTab q p.2 = true ∧ ts.length ≤ 16777216 then some (.fl (srt2 l), p.2) else none := by rw [evE]
/-! ### first trials -/
theorem sp_cell (ns : List Int) (k : Nat) (M : Mem) : runD G Lib._law_cell [.sc ns, .int k] M = some (.int (ns.getD k 0), M) := by
  by_cases h : k < ns.length
  · refine run_pure (M1 := []) rfl rfl rfl ?_
    rw [List.append_nil]
    simp [Lib._law_cell, exSs, exS, evE, evEs, startE, tst, truth, biT, dof, sof, lofS, cmpT, h, ixT, atI_n]
  · refine run_pure (M1 := []) rfl rfl rfl ?_
    rw [List.append_nil]
    simp [Lib._law_cell, exSs, exS, evE, evEs, startE, tst, truth, biT, dof, sof, lofS, cmpT, h, ixT, atI_n]
end Mi
end L2

/-! Objects, and loops by invariants. -/
namespace L2
namespace Mi
open PySem PySem.Spec PyProof.Rows
variable {G : Sig}
/-! ### fields, methods, making -/
def attT (G : Sig) (c f : Str) (t : T) (M : Mem) : Option T := match t with
  | .obj i => match M[i]? with
    | some (.ins c' fs) => if c' = c then (G.cls.lookup c).bind fun C => if f ∈ C.attrs then fs.lookup f else none else none
    | _ => none
  | _ => none
@[simp] theorem e_att (c : Str) (o : ME) (f : Str) (σ : En) (M : Mem) : evE G (.att c o f) σ M = (evE G o σ M).bind fun p => (attT G c f p.1 p.2).map fun t => (t, p.2) := by
  rw [evE]
  congr 1
  funext p
  obtain ⟨t, m⟩ := p
  cases t with
  | obj i =>
    simp only [attT]
    cases m[i]? with
    | none => rfl
    | some o =>
      cases o with
      | ins c' fs =>
        simp only
        split
        · cases G.cls.lookup c with
          | none => rfl
          | some C =>
            simp only [Option.bind_some]
            split <;> rfl
        · rfl
      | _ => rfl
  | _ => rfl
def sattT (G : Sig) (c f : Str) (t v : T) (M : Mem) : Option Mem := match t with
  | .obj i => match M[i]? with
    | some (.ins c' fs) => if c' = c ∧ fs.length < 1000 then (G.cls.lookup c).bind fun C => if f ∈ C.attrs then some (M.set i (.ins c (putA f v fs))) else none else none
    | _ => none
  | _ => none
@[simp] theorem x_setA (c : Str) (o : ME) (f : Str) (e : ME) (σ : En) (M : Mem) : exS G (.setA c o f e) σ M = (evE G e σ M).bind fun v => (evE G o σ v.2).bind fun p => (sattT G c f p.1 v.1 p.2).map fun M1 => .nx σ M1 := by
  rw [exS]
  congr 1
  funext v
  congr 1
  funext p
  obtain ⟨t, m⟩ := p
  cases t with
  | obj i =>
    simp only [sattT]
    cases m[i]? with
    | none => rfl
    | some o =>
      cases o with
      | ins c' fs =>
        simp only
        split
        · cases G.cls.lookup c with
          | none => rfl
          | some C =>
            simp only [Option.bind_some]
            split <;> rfl
        · rfl
      | _ => rfl
  | _ => rfl
/-- is it an object of the class that may call m -/
def insOk (c m : Str) (t : T) (M : Mem) : Option Unit := match t with
  | .obj i => match M[i]? with
    | some (.ins c' fs) => if c' = c ∧ fs.lookup m = none then some () else none
    | _ => none
  | _ => none
@[simp] theorem e_mcall (c : Str) (o : ME) (m : Str) (es : MEs) (σ : En) (M : Mem) : evE G (.mcall c o m es) σ M = (evE G o σ M).bind fun p => (insOk c m p.1 p.2).bind fun _ => (evEs G es σ p.2).bind fun q => ((G.cls.lookup c).bind fun C => C.meths.lookup m).bind fun F => F (p.1 :: q.1) q.2 := by
  rw [evE]
  congr 1
  funext p
  obtain ⟨t, k⟩ := p
  cases t with
  | obj i =>
    simp only [insOk]
    cases k[i]? with
    | none => rfl
    | some o =>
      cases o with
      | ins c' fs =>
        simp only
        split
        · simp only [Option.bind_some]
          congr 1
          funext q
          cases G.cls.lookup c <;> rfl
        · rfl
      | _ => rfl
  | _ => rfl
def mkR (i : Nat) : Option (T × Mem) → Option (T × Mem)
  | some (.non, M) => some (.obj i, M)
  | _ => none
@[simp] theorem mkR_non (i : Nat) (M : Mem) : mkR i (some (.non, M)) = some (.obj i, M) := rfl
@[simp] theorem e_mk (c : Str) (es : MEs) (σ : En) (M : Mem) : evE G (.mk c es) σ M = (evEs G es σ M).bind fun p => ((G.cls.lookup c).bind fun C => C.init).bind fun F => mkR p.2.length (F (.obj p.2.length :: p.1) (p.2 ++ [.ins c []])) := by
  rw [evE]
  congr 1
  funext p
  cases G.cls.lookup c with
  | none => rfl
  | some C =>
    simp only [Option.bind_some]
    congr 1
    funext F
    cases F (.obj p.2.length :: p.1) (p.2 ++ [.ins c []]) with
    | none => rfl
    | some r =>
      obtain ⟨t, m⟩ := r
      cases t <;> rfl
/-- a class with its fields -/
def HasC (G : Sig) (c : Str) (as : List Str) : Prop := ∃ C, G.cls.lookup c = some C ∧ C.attrs = as
def KnowsM (G : Sig) (c m : Str) (S : Fn → Prop) : Prop := ∃ F, ((G.cls.lookup c).bind fun C => C.meths.lookup m) = some F ∧ S F
def KnowsI (G : Sig) (c : Str) (S : Fn → Prop) : Prop := ∃ F, ((G.cls.lookup c).bind fun C => C.init) = some F ∧ S F
theorem att_of {c f : Str} {as : List Str} {i : Nat} {fs : List (Str × T)} {M : Mem} (h : HasC G c as) (hf : f ∈ as) (hi : M[i]? = some (.ins c fs)) : attT G c f (.obj i) M = fs.lookup f := by
  obtain ⟨C, h1, rfl⟩ := h
  simp only [attT, hi, if_true, h1, Option.bind_some, if_pos hf]
theorem satt_of {c f : Str} {as : List Str} {i : Nat} {fs : List (Str × T)} {v : T} {M : Mem} (h : HasC G c as) (hf : f ∈ as) (hi : M[i]? = some (.ins c fs)) (hl : fs.length < 1000) : sattT G c f (.obj i) v M = some (M.set i (.ins c (putA f v fs))) := by
  obtain ⟨C, h1, rfl⟩ := h
  simp only [sattT, hi, hl, h1, Option.bind_some, if_pos hf, and_self, if_true]
theorem insOk_of {c m : Str} {i : Nat} {fs : List (Str × T)} {M : Mem} (hi : M[i]? = some (.ins c fs)) (h : fs.lookup m = none) : insOk c m (.obj i) M = some () := by
  simp only [insOk, hi, h, and_self, if_true]
/-- pairs -/
def zipT (xs ys : List T) : List T := List.zipWith (fun x y => T.tup [x, y]) xs ys
@[simp high] theorem i_zip2z (a b : ME) (σ : En) (M : Mem) : evI G (.zip2 a b) σ M = (evE G a σ M).bind fun p => (evE G b σ p.2).bind fun q => (sof q.2 p.1).bind fun xs => (sof q.2 q.1).map fun ys =>
      ((zipT xs ys, grdOf p.1 xs ++ grdOf q.1 ys), q.2) := by rw [evI]; rfl
theorem rng_get {n : Nat} {i : Nat} {z : T} (h : (rngL 0 (n : Int))[i]? = some z) : i < n ∧ z = .int (i : Int) := by
  have hi := (List.getElem?_eq_some_iff.mp h).1
  have := rngL_get hi
  rw [h] at this
  rw [rngL_len] at hi
  refine ⟨by omega, ?_⟩
  rw [Int.zero_add] at this
  exact Option.some.inj this
/-! ### loops by invariants -/
theorem grd_at {i : Nat} {ts : List T} {M : Mem} (h : M[i]? = some (.lst ts)) : Grd [(i, ts)] M := by rw [grd_one]; exact h
theorem sof_obj {i : Nat} {ts : List T} {M : Mem} (h : M[i]? = some (.lst ts)) : sof M (.obj i) = some ts := by simp only [sof, lofS, lof, h]
theorem lof_obj' {i : Nat} {ts : List T} {M : Mem} (h : M[i]? = some (.lst ts)) : lof M (.obj i) = some ts := by simp only [lof, h]
theorem ix_obj {i : Nat} {ts : List T} {M : Mem} {k : Int} (h : M[i]? = some (.lst ts)) : ixT (.obj i) (.int k) M = atI ts k := by simp only [ixT, dof, h, sof, lofS, lof, Option.bind_some]
theorem set_obj {i : Nat} {ts : List T} {M : Mem} {k : Nat} {v : T} (h : M[i]? = some (.lst ts)) (hk : k < ts.length) : setT (.obj i) (.int k) v M = some (M.set i (.lst (ts.set k v))) := by
  simp only [setT, h, ixN_n hk, Option.map_some]
theorem atI_last {α : Type} {ts : List α} (h : ts ≠ []) : atI ts (-1) = ts[ts.length - 1]? := by
  have hl : 0 < ts.length := List.length_pos_iff.mpr h
  unfold atI ixN
  rw [if_neg (by omega), if_pos (by omega)]
  simp only [Option.bind_some]
  congr 1
  first | omega | (show ((ts.length : Int) + -1).toNat = _; omega) | simp
end Mi
end L2

/-! What the small defs on numbers reckon. -/
namespace L2
namespace Mi
open PySem PySem.Spec PyProof.Rows
variable {G : Sig}
def Knows (G : Sig) (f : Str) (S : Fn → Prop) : Prop := ∃ F, G.fns.lookup f = some F ∧ S F
/-! ### common divisors -/
theorem abs_if (a : Int) : (if a < 0 then -a else a) = (a.natAbs : Int) := by split <;> omega
theorem fmod_nat (a b : Nat) : Int.fmod (a : Int) (b : Int) = ((a % b : Nat) : Int) := by
  rw [Int.fmod_eq_emod_of_nonneg _ (by omega)]; rfl
/-! ### the law's own divisor -/
/-! ### numbers -/
abbrev Q2 := Int × Int
theorem gcd_pos {n d : Int} (h : d ≠ 0) : 0 < Int.gcd n d := Nat.pos_of_ne_zero fun e => h (Int.gcd_eq_zero_iff.mp e).2
theorem fdiv_nat (n : Int) (g : Nat) : n.fdiv (g : Int) = n / (g : Int) := Int.fdiv_eq_ediv_of_nonneg _ (by omega)
section
variable {F : Fn} {k : Nat}
end
end Mi
end L2

/-! What the defs on lists of numbers reckon; the script's parts. -/
namespace L2
namespace Mi
open PySem PySem.Spec PyProof.Rows
variable {G : Sig}
/-! ### the divisor of many -/
def gcdF (g : Nat) (ns : List Int) : Nat := ns.foldl (fun g x => Int.gcd g x) g
def gcdL (ns : List Int) : Nat := gcdF 0 ns
def ilT (ns : List Int) : T := .fl (ns.map T.int)
theorem pureT_il (ns : List Int) : pureT (ilT ns) = true := by simp only [ilT, pureT]; exact pureTs_ints ns
end Mi
end L2

/-! Brought to whole numbers; the script's parts. -/
namespace L2
namespace Mi
open PySem PySem.Spec PyProof.Rows
variable {G : Sig}
def lcmF (c : Int) (ps : List Q2) : Int := ps.foldl (fun c p => c / (Int.gcd c p.2 : Nat) * p.2) c
def LcmOk : Int → List Q2 → Prop
  | c, [] => 0 < c ∧ Sm 16000 c
  | c, p :: ps => 0 < c ∧ Sm 16000 c ∧ 0 < p.2 ∧ Sm 16000 p.2 ∧ LcmOk (c / (Int.gcd c p.2 : Nat) * p.2) ps
theorem lcm_step {c d : Int} (hc : 0 < c) (hd : 0 < d) : 0 < c / (Int.gcd c d : Nat) * d := by
  have g0 : 0 < Int.gcd c d := gcd_pos (by omega)
  have hdv : ((Int.gcd c d : Nat) : Int) ∣ c := Int.gcd_dvd_left ..
  have : 0 < c / (Int.gcd c d : Nat) := by
    obtain ⟨q, hq⟩ := hdv
    have hq0 : 0 < q := by
      rcases Int.lt_trichotomy q 0 with h | h | h
      · exfalso
        have : ((Int.gcd c d : Nat) : Int) * q < 0 := Int.mul_neg_of_pos_of_neg (by omega) h
        omega
      · subst h; omega
      · exact h
    have e : c / (Int.gcd c d : Nat) = q := Int.ediv_eq_of_eq_mul_right (by omega) hq
    rw [e]; exact hq0
  exact Int.mul_pos this hd
theorem lcm_sm {a b : Nat} {c d : Int} (hc : Sm a c) (hd : Sm b d) : Sm (a + b) (c / (Int.gcd c d : Nat) * d) := by
  refine Sm.mul (hc.le ?_) hd
  exact Int.natAbs_ediv_le_natAbs ..
theorem LcmOk.of {b : Nat} : ∀ {ps : List Q2} {c : Int} {a : Nat}, 0 < c → Sm a c → (∀ p ∈ ps, 0 < p.2 ∧ Sm b p.2) → b ≤ 16000 → a + b * ps.length ≤ 16000 → LcmOk c ps ∧ 0 < lcmF c ps ∧ Sm (a + b * ps.length) (lcmF c ps)
  | [], c, a, h0, hs, _, _, hl => ⟨⟨h0, hs.mono (by omega)⟩, h0, hs.mono (by omega)⟩
  | p :: ps, c, a, h0, hs, hp, hb, hl => by
    obtain ⟨p1, p2⟩ := hp p List.mem_cons_self
    rw [List.length_cons, Nat.mul_succ] at hl
    obtain ⟨q1, q2, q3⟩ := LcmOk.of (a := a + b) (lcm_step h0 p1) (lcm_sm hs p2) (fun x hx => hp x (List.mem_cons_of_mem _ hx)) hb (by omega)
    refine ⟨⟨h0, hs.mono (by omega), p1, p2.mono hb, q1⟩, q2, ?_⟩
    rw [List.length_cons, Nat.mul_succ]
    exact q3.mono (by omega)
theorem LcmOk.mem : ∀ {ps : List Q2} {c : Int}, LcmOk c ps → (∀ p ∈ ps, 0 < p.2 ∧ Sm 16000 p.2) ∧ Sm 16000 (lcmF c ps) ∧ 0 < lcmF c ps
  | [], c, h => ⟨fun p hp => (nomatch hp), h.2, h.1⟩
  | p :: ps, c, ⟨h1, h2, h3, h4, h5⟩ => by
    obtain ⟨q1, q2⟩ := LcmOk.mem h5
    refine ⟨fun x hx => ?_, q2⟩
    rcases List.mem_cons.mp hx with rfl | hx
    · exact ⟨h3, h4⟩
    · exact q1 x hx
/-! ### the script's parts -/
def mixP (cell : Int) (k : Nat) : Int :=
  let m := Int.fmod (cell * 48271 + (k : Int) * 69621 + 11) 2147483647
  Int.fdiv (Int.fmod (m * m + 16807 * (k : Int) + 5) 998244353) 7
def partsL (cell : Int) : Int → Nat → List Int → List Int
  | _, _, [] => []
  | left, k, s :: ss => if 0 ≤ left then left.fmod s :: partsL cell (left.fdiv s) (k + 1) ss else (mixP cell k).fmod s :: partsL cell left (k + 1) ss
def parts (cell : Int) (sizes : List Int) : List Int := partsL cell (cell - 1000000000000000000) 0 sizes
theorem partsL_len (cell : Int) : ∀ (ss : List Int) (l : Int) (k : Nat), (partsL cell l k ss).length = ss.length
  | [], _, _ => rfl
  | s :: ss, l, k => by
    unfold partsL
    split
    · rw [List.length_cons, List.length_cons, partsL_len cell ss]
    · rw [List.length_cons, List.length_cons, partsL_len cell ss]
theorem partsL_in (cell : Int) : ∀ (ss : List Int) (l : Int) (k : Nat), (∀ s ∈ ss, 0 < s) → ∀ (i : Nat) (p s : Int), (partsL cell l k ss)[i]? = some p → ss[i]? = some s → 0 ≤ p ∧ p < s
  | [], _, _, _, i, p, s, h, _ => by simp [partsL] at h
  | s :: ss, l, k, hp, i, p, s', h, h' => by
    have h0 := hp s List.mem_cons_self
    have key : ∀ x : Int, 0 ≤ x.fmod s ∧ x.fmod s < s := fun x => by rw [Int.fmod_eq_emod_of_nonneg _ (by omega)]; exact ⟨Int.emod_nonneg _ (by omega), Int.emod_lt_of_pos _ h0⟩
    unfold partsL at h
    split at h
    · cases i with
      | zero => simp at h h'; subst h h'; exact key _
      | succ i => exact partsL_in cell ss _ _ (fun x hx => hp x (List.mem_cons_of_mem _ hx)) i p s' (by simpa using h) (by simpa using h')
    · cases i with
      | zero => simp at h h'; subst h h'; exact key _
      | succ i => exact partsL_in cell ss _ _ (fun x hx => hp x (List.mem_cons_of_mem _ hx)) i p s' (by simpa using h) (by simpa using h')
theorem parts_len (cell : Int) (ss : List Int) : (parts cell ss).length = ss.length := partsL_len ..
/-- the i-th part -/
def prt (ps : List Int) (i : Nat) : Int := ps.getD i 0
theorem parts_at {cell : Int} {ss : List Int} {i : Nat} {s : Int} (hp : ∀ s ∈ ss, 0 < s) (h : ss[i]? = some s) : (parts cell ss)[i]? = some (prt (parts cell ss) i) ∧ 0 ≤ prt (parts cell ss) i ∧ prt (parts cell ss) i < s := by
  have hi : i < (parts cell ss).length := by rw [parts_len]; exact (List.getElem?_eq_some_iff.mp h).1
  have e : (parts cell ss)[i]? = some (prt (parts cell ss) i) := by
    unfold prt
    rw [List.getD_eq_getElem?_getD, List.getElem?_eq_getElem hi]; rfl
  exact ⟨e, partsL_in cell ss _ 0 hp i _ s e h⟩
theorem mixOk {c : Int} (h : Sm 2000000 c) : mulOk c 48271 := h.mulOk (k := 16) (by decide) (by decide)
theorem parts_loop {M : Mem} {cell : Int} {st : T} {sizes : List Int} {gd : List (Nat × List T)} (hs : sof M st = some (sizes.map T.int)) (hst : pureT st = true) (hcell : Sm 2000000 cell) (hpos : ∀ s ∈ sizes, 0 < s ∧ Sm 8000 s) (hlen : sizes.length ≤ 1000) :
    ∀ (ss : List Int) (dn : List Int) (left : Int) (acc : List Int) (z y : Option T), sizes = dn ++ ss → acc.length = dn.length → ∃ left' z' y', fr G (.nm 4 "_law_k") [
    .ite (.cmp .GtE (.var 3 "_law_left") (.int 0)) [
      .ex (.bm .append (.var 2 "_law_parts_here") (.cons (.bin .Mod false (.bi .int (.cons (.var 3 "_law_left") .nil)) (.ix (.var 1 "_law_sizes") (.var 4 "_law_k"))) .nil)),
      .set 3 "_law_left" (.bin .FloorDiv false (.var 3 "_law_left") (.ix (.var 1 "_law_sizes") (.var 4 "_law_k")))] [
      .set 5 "_law_mixed" (.bin .Mod false (.bi .int (.cons (.bin .Add false (.bin .Add false (.bin .Mult false (.var 0 "_law_cell_here") (.int 48271)) (.bin .Mult false (.var 4 "_law_k") (.int 69621))) (.int 11)) .nil)) (.int 2147483647)),
      .set 5 "_law_mixed" (.bin .Mod false (.bi .int (.cons (.bin .Add false (.bin .Add false (.bin .Mult false (.var 5 "_law_mixed") (.var 5 "_law_mixed")) (.bin .Mult false (.int 16807) (.var 4 "_law_k"))) (.int 5)) .nil)) (.int 998244353)),
      .ex (.bm .append (.var 2 "_law_parts_here") (.cons (.bin .Mod false (.bi .int (.cons (.bin .FloorDiv false (.var 5 "_law_mixed") (.int 7)) .nil)) (.ix (.var 1 "_law_sizes") (.var 4 "_law_k"))) .nil))]] [] (rngL (dn.length : Nat) ((dn.length + ss.length : Nat) : Int))
      [some (.int cell), some st, some (.obj M.length), some (.int left), z, y] (M ++ [.lst (acc.map T.int)]) = some (.nx [some (.int cell), some st, some (.obj M.length), some (.int left'), z', y'] (M ++ [.lst ((acc ++ partsL cell left dn.length ss).map T.int)]))
  | [], dn, left, acc, z, y, hd, ha => ⟨left, z, y, by
      rw [rngL_ge (by simp)]
      rw [frn_nil]
      simp [partsL]⟩
  | s :: ss, dn, left, acc, z, y, hd, ha => by
    obtain ⟨s0, s1⟩ := hpos s (by rw [hd]; simp)
    have hgo : (dn.length : Int) < ((dn.length + (s :: ss).length : Nat) : Int) := by simp only [List.length_cons]; omega
    rw [rngL_lt hgo]
    have hix : ∀ M1 : List O, ixT st (.int (dn.length : Nat)) (M ++ M1) = some (.int s) := fun M1 => by
      have hs' : sof (M ++ M1) st = some (sizes.map T.int) := by
        cases st with
        | obj i => simp [pureT] at hst
        | _ => exact hs
      have hd0 : dof (M ++ M1) st = none := by
        cases st with
        | obj i => simp [pureT] at hst
        | fd tk ks ts => simp [sof, lofS, lof] at hs
        | _ => rfl
      have hi : (sizes.map T.int)[dn.length]? = some (.int s) := by rw [hd]; simp
      have hx : (sof (M ++ M1) st).bind (fun ts => atI ts ((dn.length : Nat) : Int)) = some (.int s) := by
        rw [hs']
        show atI _ _ = _
        rw [atI_n, hi]
      unfold ixT
      rw [hd0]
      cases st with
      | str z => simp [sof, lofS, lof] at hs
      | _ => exact hx
    have hN : (dn.length : Int) + 1 = ((dn ++ [s]).length : Nat) := by simp
    have hM : ((dn.length + (s :: ss).length : Nat) : Int) = (((dn ++ [s]).length + ss.length : Nat) : Int) := by simp only [List.length_cons, List.length_append, List.length_nil]; omega
    have hal : acc.length < 16777216 := by
      have : dn.length ≤ 1000 := by rw [hd] at hlen; simp at hlen; omega
      omega
    have dvs : divOk s := (by unfold divOk; omega)
    have hk : Sm 16 (dn.length : Nat) := by
      have : dn.length ≤ 1000 := by rw [hd] at hlen; simp at hlen; omega
      unfold Sm; simp only [Int.natAbs_natCast]; omega
    by_cases h0 : 0 ≤ left
    · obtain ⟨l', z', y', ih⟩ := parts_loop hs hst hcell hpos hlen (gd := gd) ss (dn ++ [s]) (left.fdiv s) (acc ++ [left.fmod s]) (some (.int (dn.length : Nat))) y (by rw [hd]; simp) (by simp [ha])
      refine ⟨l', z', y', ?_⟩
      rw [frn_nx [some (.int cell), some st, some (.obj M.length), some (.int (left.fdiv s)), some (.int (dn.length : Nat)), y] (M ++ [.lst ((acc ++ [left.fmod s]).map T.int)]) (by simp)
        (by simp [h0, lof, biT, bmT, hix, bin_mod (show s ≠ 0 by omega), bin_div dvs, hal]), hN, hM, ih]
      congr 4
      rw [partsL, if_pos h0]
      simp
    · have hm0 : (0:Int) ≤ Int.fmod (cell * 48271 + (dn.length : Int) * 69621 + 11) 2147483647 ∧ Int.fmod (cell * 48271 + (dn.length : Int) * 69621 + 11) 2147483647 < 2147483647 := by
        rw [Int.fmod_eq_emod_of_nonneg _ (by decide)]; exact ⟨Int.emod_nonneg _ (by decide), Int.emod_lt_of_pos _ (by decide)⟩
      have m1 : Sm 31 (Int.fmod (cell * 48271 + (dn.length : Int) * 69621 + 11) 2147483647) := by unfold Sm; omega
      obtain ⟨l', z', y', ih⟩ := parts_loop hs hst hcell hpos hlen (gd := gd) ss (dn ++ [s]) left (acc ++ [(mixP cell dn.length).fmod s]) (some (.int (dn.length : Nat))) (some (.int (Int.fmod (Int.fmod (cell * 48271 + (dn.length : Int) * 69621 + 11) 2147483647 * Int.fmod (cell * 48271 + (dn.length : Int) * 69621 + 11) 2147483647 + 16807 * (dn.length : Int) + 5) 998244353))) (by rw [hd]; simp) (by simp [ha])
      refine ⟨l', z', y', ?_⟩
      have d7 : divOk 7 := by decide
      rw [frn_nx [some (.int cell), some st, some (.obj M.length), some (.int left), some (.int (dn.length : Nat)), some (.int (Int.fmod (Int.fmod (cell * 48271 + (dn.length : Int) * 69621 + 11) 2147483647 * Int.fmod (cell * 48271 + (dn.length : Int) * 69621 + 11) 2147483647 + 16807 * (dn.length : Int) + 5) 998244353))] (M ++ [.lst ((acc ++ [(mixP cell dn.length).fmod s]).map T.int)]) (by simp)
        (by simp [h0, lof, biT, bmT, hix, bin_mod (show s ≠ 0 by omega), bin_mod (show (2147483647 : Int) ≠ 0 by decide), bin_mod (show (998244353 : Int) ≠ 0 by decide), bin_div d7, bin_mul (mixOk hcell), bin_mul (hk.mulOk (k := 17) (y := 69621) (by decide) (by decide)), bin_mul (m1.mulOk m1 (by decide)), bin_mul (Sm.mulOk (x := 16807) (j := 15) (by decide) hk (by decide)), hal, mixP]), hN, hM, ih]
      congr 4
      rw [partsL, if_neg h0]
      simp
end Mi
end L2

/-! The script's parts, the law's small defs. -/
namespace L2
namespace Mi
open PySem PySem.Spec PyProof.Rows
variable {G : Sig}
theorem pow_10_18 (M : Mem) : binT .Pow false (.int 10) (.int 18) M = some (.int 1000000000000000000, M) := by
  have hp : powOk 10 18 := by unfold powOk; decide
  show (if powOk 10 18 then some (T.int ((10 : Int) ^ (18 : Int).toNat), M) else none) = _
  rw [if_pos hp]
  rfl
def IsParts (F : Fn) : Prop := ∀ (cell : Int) (st : T) (sizes : List Int) (M : Mem), sof M st = some (sizes.map T.int) → pureT st = true → Sm 2000000 cell → (∀ s ∈ sizes, 0 < s ∧ Sm 8000 s) → sizes.length ≤ 1000 → F [.int cell, st] M = some (ilT (parts cell sizes), M)
theorem sp_parts : IsParts (runD G Lib._law_parts) := by
  intro cell st sizes M hs hst hc hp hl
  obtain ⟨l', z', y', e⟩ := parts_loop (G := G) (gd := []) hs hst hc hp hl sizes [] (cell - 1000000000000000000) [] none none rfl rfl
  have hfin : fin true M (.obj M.length) (M ++ [.lst ((parts cell sizes).map T.int)]) = (ilT (parts cell sizes), M) := fin_obj M _ _ _ (Nat.le_refl _) (by simp) (pureTs_ints _)
  have hsof : sof (M ++ [O.lst []]) st = some (sizes.map T.int) := by
    cases st with
    | obj i => simp [pureT] at hst
    | _ => exact hs
  have hdof : dof (M ++ [O.lst []]) st = none := by
    cases st with
    | obj i => simp [pureT] at hst
    | fd tk ks ts => simp [sof, lofS, lof] at hs
    | _ => rfl
  have hro : rngOk 0 (sizes.length : Nat) := by unfold rngOk; omega
  have hb : exSs G Lib._law_parts.body (startE Lib._law_parts.N [.int cell, st]) M = some (.rt (.obj M.length) (M ++ [.lst ((parts cell sizes).map T.int)])) := by
    have hpow : binT .Pow false (.int 10) (.int 18) (M ++ [O.lst []]) = some (.int 1000000000000000000, M ++ [O.lst []]) := pow_10_18 _
    simp only [List.length_nil, Nat.zero_add, List.nil_append, List.map_nil] at e
    rw [show (((0 : Nat) : Int)) = 0 from rfl, show partsL cell (cell - 1000000000000000000) 0 sizes = parts cell sizes from rfl] at e
    have hbl := bi_len hdof hsof
    rw [List.length_map] at hbl
    have hrg := rg1_of hro
    simp [Lib._law_parts, startE, hpow, hbl, hrg, e]
  rw [run_rt rfl hb]
  exact congrArg some hfin
end Mi
end L2

/-! Equality of numbers and lists; the rest of k01's defs. -/
namespace L2
namespace Mi
open PySem PySem.Spec PyProof.Rows
variable {G : Sig}
theorem cmpne_of {x y : T} {M : Mem} {b : Bool} (h : eqv? M x y = some b) : cmpT .NotEq x y M = some (!b) := by
  have : cmpT .NotEq x y M = (eqv? M x y).map not := by unfold cmpT; rfl
  rw [this, h]; rfl
/-! ### scaling -/
end Mi
end L2

/-! Numbers as rationals. -/
namespace L2
namespace Mi
open PySem PySem.Spec PyProof.Rows
variable {G : Sig}
def ratT (q : Rat) : T := .tup [.int q.num, .int (q.den : Int)]
theorem rat_split (a : Rat) : a = (a.num : Rat) / ((a.den : Int) : Rat) := by
  rw [← Rat.divInt_eq_div]
  exact Rat.mk_eq_divInt (num := a.num) (den := a.den) (nz := a.den_nz) (c := a.reduced)
theorem den_ne (a : Rat) : ((a.den : Int) : Rat) ≠ 0 := by
  have := a.den_nz
  intro h
  have h2 : ((a.den : Int) : Rat) = ((0 : Int) : Rat) := h
  rw [Rat.intCast_inj] at h2
  omega
theorem den_pos (a : Rat) : (0 : Int) < (a.den : Int) := by have := a.den_pos; omega
theorem den_n0 (a : Rat) : (a.den : Int) ≠ 0 := by have := a.den_pos; omega
theorem cast_ne {d : Int} (h : d ≠ 0) : (d : Rat) ≠ 0 := by
  intro e
  have h2 : (d : Rat) = ((0 : Int) : Rat) := e
  rw [Rat.intCast_inj] at h2
  exact h h2
/-- sizes by bits -/
def Sq (k : Nat) (q : Rat) : Prop := Sm k q.num ∧ Sm k (q.den : Int)
theorem Sq.mono {j k : Nat} {x : Rat} (h : Sq j x) (hk : j ≤ k) : Sq k x := ⟨h.1.mono hk, h.2.mono hk⟩
theorem quo_num {n d : Int} (hd : d ≠ 0) : ((n : Rat) / (d : Rat)).num.natAbs ≤ n.natAbs ∧ ((n : Rat) / (d : Rat)).den ≤ d.natAbs := by
  rw [← Rat.divInt_eq_div, Rat.num_divInt, Rat.den_divInt, if_neg hd]
  refine ⟨?_, Nat.div_le_self _ _⟩
  refine Nat.le_trans (Int.natAbs_ediv_le_natAbs _ _) ?_
  rw [Int.natAbs_mul]
  have := Int.natAbs_sign d
  by_cases h : d = 0
  · exact absurd h hd
  · rw [Int.natAbs_sign_of_ne_zero h, Nat.one_mul]; exact Nat.le_refl _
theorem quo_sq {k : Nat} {n d : Int} (hd : d ≠ 0) (h1 : Sm k n) (h2 : Sm k d) : Sq k ((n : Rat) / (d : Rat)) := by
  obtain ⟨a, b⟩ := quo_num (n := n) hd
  refine ⟨h1.le a, ?_⟩
  unfold Sm at *
  simp only [Int.natAbs_natCast]
  omega
theorem add_quo (a b : Rat) : ((a.num * (b.den : Int) + b.num * (a.den : Int) : Int) : Rat) / (((a.den : Int) * (b.den : Int) : Int) : Rat) = a + b := by
  have ha := den_ne a
  have hb := den_ne b
  conv => rhs; rw [rat_split a, rat_split b]
  rw [Rat.intCast_add, Rat.intCast_mul, Rat.intCast_mul, Rat.intCast_mul]
  grind
theorem sub_quo (a b : Rat) : ((a.num * (b.den : Int) - b.num * (a.den : Int) : Int) : Rat) / (((a.den : Int) * (b.den : Int) : Int) : Rat) = a - b := by
  have ha := den_ne a
  have hb := den_ne b
  conv => rhs; rw [rat_split a, rat_split b]
  rw [Rat.intCast_sub, Rat.intCast_mul, Rat.intCast_mul, Rat.intCast_mul]
  grind
theorem mul_quo (a b : Rat) : ((a.num * b.num : Int) : Rat) / (((a.den : Int) * (b.den : Int) : Int) : Rat) = a * b := by
  have ha := den_ne a
  have hb := den_ne b
  conv => rhs; rw [rat_split a, rat_split b]
  rw [Rat.intCast_mul, Rat.intCast_mul]
  grind
theorem Sq.add {j k : Nat} {a b : Rat} (h : Sq j a) (h' : Sq k b) : Sq (j + k + 1) (a + b) := by
  rw [← add_quo]
  exact quo_sq (Int.mul_ne_zero (den_n0 a) (den_n0 b)) ((h.1.mul h'.2).add ((h'.1.mul h.2).mono (by omega))) ((h.2.mul h'.2).mono (by omega))
theorem Sq.sub {j k : Nat} {a b : Rat} (h : Sq j a) (h' : Sq k b) : Sq (j + k + 1) (a - b) := by
  rw [← sub_quo]
  exact quo_sq (Int.mul_ne_zero (den_n0 a) (den_n0 b)) ((h.1.mul h'.2).sub ((h'.1.mul h.2).mono (by omega))) ((h.2.mul h'.2).mono (by omega))
theorem Sq.mul {j k : Nat} {a b : Rat} (h : Sq j a) (h' : Sq k b) : Sq (j + k) (a * b) := by
  rw [← mul_quo]
  exact quo_sq (Int.mul_ne_zero (den_n0 a) (den_n0 b)) (h.1.mul h'.1) (h.2.mul h'.2)
theorem Sq.neg {k : Nat} {a : Rat} (h : Sq k a) : Sq k (-a) := ⟨h.1.neg, h.2⟩
theorem Sq.int {k : Nat} {i : Int} (h : Sm k i) (hk : 0 < k) : Sq k (i : Rat) := ⟨h, by
  show Sm k ((1 : Nat) : Int)
  unfold Sm
  have : 2 ^ 1 ≤ 2 ^ k := Nat.pow_le_pow_right (by decide) hk
  simp only [Int.natAbs_natCast]
  omega⟩
/-! ### the law's own numbers -/
end Mi
end L2

/-! The table of a program: what its methods reckon, the walk. -/
namespace L2
namespace Mi
open PySem PySem.Spec PyProof.Rows
variable {G : Sig}
structure TS where
  w : Nat
  signs : List Int
  rows : List (List Int)
  basis : List Nat
  scale : Int
  top : List Int
def nT (n : Nat) : T := .int (n : Int)
def TS.fs (s : TS) (n : Nat) : List (Str × T) := [("width", nT s.w), ("signs", ilT s.signs), ("rows", .obj (n + 1)), ("basis", .obj (n + 2)), ("scale", .int s.scale), ("top", ilT s.top)]
def TS.mem (s : TS) (n : Nat) : List O := [.ins "Table" (s.fs n), .lst (s.rows.map ilT), .lst (s.basis.map nT)]
def tabAs : List Str := ["width", "signs", "rows", "basis", "scale", "top"]
abbrev HasTab (G : Sig) : Prop := HasC G "Table" tabAs
/-- the table stands at n -/
structure At (s : TS) (n : Nat) (M : Mem) : Prop where
  o : M[n]? = some (.ins "Table" (s.fs n))
  r : M[n + 1]? = some (.lst (s.rows.map ilT))
  b : M[n + 2]? = some (.lst (s.basis.map nT))
theorem At.of (s : TS) (M0 : List O) (M1 : List O) : At s M0.length (M0 ++ (s.mem M0.length ++ M1)) := by
  refine ⟨?_, ?_, ?_⟩
  · rw [List.getElem?_append_right (by omega), Nat.sub_self]; rfl
  · rw [List.getElem?_append_right (by omega), Nat.add_sub_cancel_left]; rfl
  · rw [List.getElem?_append_right (by omega), Nat.add_sub_cancel_left]; rfl
section
variable {s : TS} {n : Nat} {M : Mem}
theorem At.app (A : At s n M) (M1 : List O) : At s n (M ++ M1) := by
  have h : ∀ (i : Nat) (o : O), M[i]? = some o → (M ++ M1)[i]? = some o := fun i o h => by
    rw [List.getElem?_append_left (List.getElem?_eq_some_iff.mp h).1]; exact h
  exact ⟨h _ _ A.o, h _ _ A.r, h _ _ A.b⟩
theorem At.width (A : At s n M) (h : HasTab G) : attT G "Table" "width" (.obj n) M = some (nT s.w) := att_of h (by decide) A.o
theorem At.signs (A : At s n M) (h : HasTab G) : attT G "Table" "signs" (.obj n) M = some (ilT s.signs) := att_of h (by decide) A.o
theorem At.rows (A : At s n M) (h : HasTab G) : attT G "Table" "rows" (.obj n) M = some (.obj (n + 1)) := att_of h (by decide) A.o
theorem At.basis (A : At s n M) (h : HasTab G) : attT G "Table" "basis" (.obj n) M = some (.obj (n + 2)) := att_of h (by decide) A.o
theorem At.scale (A : At s n M) (h : HasTab G) : attT G "Table" "scale" (.obj n) M = some (.int s.scale) := att_of h (by decide) A.o
theorem At.top (A : At s n M) (h : HasTab G) : attT G "Table" "top" (.obj n) M = some (ilT s.top) := att_of h (by decide) A.o
end
/-! ### lists -/
def gt (l : List Int) (k : Nat) : Int := l.getD k 0
theorem at_il (ns : List Int) (k : Nat) (h : k < ns.length) : atI (ns.map T.int) (k : Int) = some (.int (gt ns k)) := by
  rw [atI_n, List.getElem?_map, gt, List.getD_eq_getElem?_getD, List.getElem?_eq_getElem h]; rfl
theorem ix_il (ns : List Int) (k : Nat) (M : Mem) (h : k < ns.length) : ixT (ilT ns) (nT k) M = some (.int (gt ns k)) := by
  unfold ilT nT; rw [ix_fl, at_il ns k h]
theorem ix_il_last (ns : List Int) (M : Mem) (h : ns ≠ []) : ixT (ilT ns) (.int (-1)) M = some (.int (gt ns (ns.length - 1))) := by
  have hl : 0 < ns.length := List.length_pos_iff.mpr h
  unfold ilT
  rw [ix_fl, atI_last (by simpa using h), List.length_map, List.getElem?_map, gt, List.getD_eq_getElem?_getD, List.getElem?_eq_getElem (by omega)]; rfl
@[simp] theorem fl_il (l : List Int) : T.fl (l.map T.int) = ilT l := rfl
@[simp] theorem sof_il (M : Mem) (l : List Int) : sof M (ilT l) = some (l.map T.int) := rfl
@[simp] theorem lof_il (M : Mem) (l : List Int) : lof M (ilT l) = some (l.map T.int) := rfl
@[simp] theorem grdOf_il (l : List Int) (us : List T) : grdOf (ilT l) us = [] := rfl
theorem fin_same {sl : Bool} {M M1 : Mem} {t : T} (hp : pureT t = true) (h : M1.length = M.length) : fin sl M t M1 = (t, M1) := by
  unfold fin
  split
  · rename_i hc
    have : M1 = M := by
      have := hc.2
      rwa [List.take_of_length_le (by omega)] at this
    rw [seal_pure hp, this]
  · rfl
theorem run_same {d : MD} {ts : List T} {M : Mem} {t : T} {M1 : Mem} (h : ts.length = d.ps.length) (hp : pureT t = true) (hl : M1.length = M.length) (e : exSs G d.body (startE d.N ts) M = some (.rt t M1)) : runD G d ts M = some (t, M1) := by
  rw [run_rt h e, fin_same hp hl]
/-! ### _changed -/
def divs (a d : Int) (row : List Int) : List Int := row.map fun x => (a * x).fdiv d
def mixs (a b d : Int) (row step : List Int) : List Int := List.zipWith (fun x y => (a * x - b * y).fdiv d) row step
def chg (scale : Int) (row step : List Int) (c : Nat) : List Int :=
  if gt row c = 0 then (if gt step c = scale then row else divs (gt step c) scale row) else mixs (gt step c) (gt row c) scale row step
theorem divs_len (a d : Int) (row : List Int) : (divs a d row).length = row.length := by simp [divs]
theorem mixs_len (a b d : Int) (row step : List Int) : (mixs a b d row step).length = min row.length step.length := by simp [mixs]
def KB : Nat := 60000000
def Sma (l : List Int) : Prop := ∀ x ∈ l, Sm KB x
theorem Sma.at {l : List Int} (h : Sma l) (k : Nat) : Sm KB (gt l k) := by
  rw [gt, List.getD_eq_getElem?_getD]
  cases e : l[k]? with
  | none => show (0 : Int).natAbs < 2 ^ KB; exact Nat.pow_pos (by decide)
  | some x => exact h x (List.mem_of_getElem? e)
end Mi
end L2

/-! Determinants by rows picked: signs, swaps of columns. -/
namespace L2
namespace Det
variable {α γ : Type}
/-- a row picked, with its sign, and the rest -/
def picks : List α → List (Int × α × List α)
  | [] => []
  | x :: xs => (1, x, xs) :: (picks xs).map fun p => (-p.1, p.2.1, x :: p.2.2)
/-- the sum over the picks -/
def psum (rs : List α) (f : α → List α → Int) : Int := ((picks rs).map fun p => p.1 * f p.2.1 p.2.2).sum
theorem psum_nil (f : α → List α → Int) : psum [] f = 0 := rfl
theorem sum_neg (l : List Int) : (l.map fun x => -x).sum = -l.sum := by
  induction l with
  | nil => rfl
  | cons x l ih => simp only [List.map_cons, List.sum_cons, ih]; omega
theorem psum_cons (x : α) (xs : List α) (f : α → List α → Int) : psum (x :: xs) f = f x xs - psum xs fun y ys => f y (x :: ys) := by
  show (List.map _ ((1, x, xs) :: (picks xs).map fun p => (-p.1, p.2.1, x :: p.2.2))).sum = f x xs - ((picks xs).map fun p => p.1 * f p.2.1 (x :: p.2.2)).sum
  simp only [List.map_cons, List.sum_cons, List.map_map, Int.one_mul]
  have : ((picks xs).map ((fun p : Int × α × List α => p.1 * f p.2.1 p.2.2) ∘ fun p => (-p.1, p.2.1, x :: p.2.2))) = ((picks xs).map fun p => p.1 * f p.2.1 (x :: p.2.2)).map fun z => -z := by
    rw [List.map_map]
    apply List.map_congr_left
    intro p _
    simp [Int.neg_mul]
  rw [this, sum_neg]
  omega
theorem psum_congr : ∀ {rs : List α} {f g : α → List α → Int}, (∀ y ys, f y ys = g y ys) → psum rs f = psum rs g := fun {rs f g} h => by
  have : f = g := funext fun y => funext fun ys => h y ys
  rw [this]
theorem psum_neg : ∀ (rs : List α) (f : α → List α → Int), psum rs (fun y ys => -f y ys) = -psum rs f
  | [], f => rfl
  | x :: xs, f => by rw [psum_cons, psum_cons, psum_neg xs]; omega
theorem psum_add : ∀ (rs : List α) (f g : α → List α → Int), psum rs (fun y ys => f y ys + g y ys) = psum rs f + psum rs g
  | [], f, g => rfl
  | x :: xs, f, g => by rw [psum_cons, psum_cons, psum_cons, psum_add xs]; omega
theorem psum_sub (rs : List α) (f g : α → List α → Int) : psum rs (fun y ys => f y ys - g y ys) = psum rs f - psum rs g := by
  have := psum_add rs f fun y ys => -g y ys
  rw [psum_neg] at this
  rw [psum_congr (fun y ys => Int.sub_eq_add_neg), this]; omega
theorem psum_mul (k : Int) : ∀ (rs : List α) (f : α → List α → Int), psum rs (fun y ys => k * f y ys) = k * psum rs f
  | [], f => by rw [psum_nil, psum_nil, Int.mul_zero]
  | x :: xs, f => by rw [psum_cons, psum_cons, psum_mul k xs, Int.mul_sub]
/-- two picks -/
def p2 (rs : List α) (f : α → α → List α → Int) : Int := psum rs fun y ys => psum ys fun z zs => f y z zs
theorem p2_cons (x : α) (xs : List α) (f : α → α → List α → Int) : p2 (x :: xs) f = psum xs (fun z zs => f x z zs) - psum xs (fun y ys => f y x ys) + p2 xs fun y z zs => f y z (x :: zs) := by
  unfold p2
  rw [psum_cons]
  have : psum xs (fun y ys => psum (x :: ys) fun z zs => f y z zs) = psum xs (fun y ys => f y x ys) - psum xs fun y ys => psum ys fun z zs => f y z (x :: zs) := by
    rw [← psum_sub]
    exact psum_congr fun y ys => psum_cons x ys _
  rw [this]
  show _ = _ - _ + psum xs fun y ys => psum ys fun z zs => f y z (x :: zs)
  omega
theorem p2_swap : ∀ (rs : List α) (f : α → α → List α → Int), p2 rs (fun y z zs => f z y zs) = -p2 rs f
  | [], f => rfl
  | x :: xs, f => by
    rw [p2_cons, p2_cons, p2_swap xs fun y z zs => f y z (x :: zs)]
    omega
/-- the determinant of the rows rs at the columns cs -/
def det (A : α → γ → Int) : List γ → List α → Int
  | [], _ => 1
  | c :: cs, rs => psum rs fun y ys => A y c * det A cs ys
theorem det_swap (A : α → γ → Int) (c d : γ) (cs : List γ) (rs : List α) : det A (d :: c :: cs) rs = -det A (c :: d :: cs) rs := by
  have e : ∀ c d : γ, det A (c :: d :: cs) rs = p2 rs fun y z zs => A y c * (A z d * det A cs zs) := fun c d => by
    unfold p2
    show psum rs _ = _
    exact psum_congr fun y ys => by rw [psum_mul]; rfl
  rw [e, e, ← p2_swap]
  unfold p2
  exact psum_congr fun y ys => psum_congr fun z zs => by
    show A y d * (A z c * det A cs zs) = A z c * (A y d * det A cs zs)
    rw [← Int.mul_assoc, ← Int.mul_assoc, Int.mul_comm (A y d)]
/-- two neighbours the same -/
theorem det_same (A : α → γ → Int) (c : γ) (cs : List γ) (rs : List α) : det A (c :: c :: cs) rs = 0 := by
  have := det_swap A c c cs rs
  omega
/-- a column that stands again -/
theorem det_again (A : α → γ → Int) : ∀ (cs : List γ) (c : γ) (rs : List α), c ∈ cs → det A (c :: cs) rs = 0
  | [], c, rs, h => by cases h
  | d :: cs, c, rs, h => by
    by_cases hd : c = d
    · subst hd; exact det_same A c cs rs
    · have hc : c ∈ cs := by rcases List.mem_cons.mp h with q | q; exact absurd q hd; exact q
      rw [det_swap A d c cs rs]
      have : det A (d :: c :: cs) rs = psum rs fun y ys => 0 := psum_congr fun y ys => by
        show A y d * det A (c :: cs) ys = 0
        rw [det_again A cs c ys hc, Int.mul_zero]
      rw [this]
      have z := psum_mul 0 rs fun (_ : α) (_ : List α) => (0 : Int)
      simp only [Int.zero_mul] at z
      rw [z]; rfl
end Det
end L2

/-! Finite sums of ints; more of determinants. -/
namespace L2
namespace Lp
def sI : Nat → (Nat → Int) → Int
  | 0, _ => 0
  | n + 1, f => sI n f + f n
theorem sI_congr {n : Nat} {f g : Nat → Int} (h : ∀ k, k < n → f k = g k) : sI n f = sI n g := by
  induction n with
  | zero => rfl
  | succ n ih => rw [sI, sI, ih fun k hk => h k (by omega), h n (by omega)]
theorem sI_zero {n : Nat} {f : Nat → Int} (h : ∀ k, k < n → f k = 0) : sI n f = 0 := by
  induction n with
  | zero => rfl
  | succ n ih => rw [sI, ih fun k hk => h k (by omega), h n (by omega)]; rfl
theorem sI_add (n : Nat) (f g : Nat → Int) : sI n (fun k => f k + g k) = sI n f + sI n g := by
  induction n with
  | zero => rfl
  | succ n ih => rw [sI, sI, sI, ih]; omega
theorem sI_sub (n : Nat) (f g : Nat → Int) : sI n (fun k => f k - g k) = sI n f - sI n g := by
  induction n with
  | zero => rfl
  | succ n ih => rw [sI, sI, sI, ih]; omega
theorem sI_mul (n : Nat) (c : Int) (f : Nat → Int) : sI n (fun k => c * f k) = c * sI n f := by
  induction n with
  | zero => simp [sI]
  | succ n ih => rw [sI, sI, ih, Int.mul_add]
theorem sI_one {n r : Nat} {f : Nat → Int} (hr : r < n) (h : ∀ k, k < n → k ≠ r → f k = 0) : sI n f = f r := by
  induction n with
  | zero => omega
  | succ n ih =>
    rw [sI]
    by_cases e : r = n
    · subst e; rw [sI_zero fun k hk => h k (by omega) (by omega)]; omega
    · rw [ih (by omega) fun k hk => h k (by omega), h n (by omega) (by omega)]; omega
theorem sI_abs {n C : Nat} {f : Nat → Int} (h : ∀ k, k < n → (f k).natAbs ≤ C) : (sI n f).natAbs ≤ n * C := by
  induction n with
  | zero => simp [sI]
  | succ n ih =>
    rw [sI, Nat.succ_mul]
    have := ih fun k hk => h k (by omega)
    have := h n (by omega)
    have := Int.natAbs_add_le (sI n f) (f n)
    omega
end Lp
namespace Det
variable {α γ : Type}
/-- vectors as functions of the rows -/
abbrev Vc := Nat → Int
def dt (m : Nat) (cs : List Vc) : Int := det (fun (i : Nat) (v : Vc) => v i) cs (List.range m)
theorem det_cong (A : α → γ → Int) (c : γ) (cs cs' : List γ) (rs : List α) (s : Int) (h : ∀ ys, det A cs ys = s * det A cs' ys) : det A (c :: cs) rs = s * det A (c :: cs') rs := by
  show psum rs _ = s * psum rs _
  rw [← psum_mul]
  exact psum_congr fun y ys => by
    rw [h, ← Int.mul_assoc, ← Int.mul_assoc, Int.mul_comm s]
def sg : Nat → Int
  | 0 => 1
  | n + 1 => -sg n
theorem det_front (A : α → γ → Int) (c : γ) (l2 : List γ) : ∀ (l1 : List γ) (rs : List α), det A (l1 ++ c :: l2) rs = sg l1.length * det A (c :: (l1 ++ l2)) rs
  | [], rs => by simp [sg]
  | d :: l1, rs => by
    show det A (d :: (l1 ++ c :: l2)) rs = sg (l1.length + 1) * det A (c :: d :: (l1 ++ l2)) rs
    rw [det_cong A d (l1 ++ c :: l2) (c :: (l1 ++ l2)) rs (sg l1.length) fun ys => det_front A c l2 l1 ys, sg, det_swap, Int.mul_neg, Int.neg_mul]
/-- the slot k made v -/
def slot (m : Nat) (B : List Vc) (k : Nat) (v : Vc) : Int := sg k * dt m (v :: B.eraseIdx k)
theorem dt_set (m : Nat) (B : List Vc) (k : Nat) (v : Vc) (h : k < B.length) : dt m (B.set k v) = slot m B k v := by
  unfold slot dt
  rw [List.set_eq_take_append_cons_drop, if_pos h, det_front, List.length_take, Nat.min_eq_left (by omega), List.eraseIdx_eq_take_drop_succ]
theorem dt_self (m : Nat) (B : List Vc) (k : Nat) (h : k < B.length) : slot m B k B[k] = dt m B := by
  rw [← dt_set m B k _ h, List.set_getElem_self]
theorem dt_other (m : Nat) (B : List Vc) (k l : Nat) (hk : k ≠ l) (h : l < B.length) : slot m B k B[l] = 0 := by
  unfold slot dt
  rw [det_again _ _ _ _ (List.mem_eraseIdx_iff_getElem.mpr ⟨l, h, fun e => hk e.symm, rfl⟩), Int.mul_zero]
theorem dt_lin (m : Nat) (cs : List Vc) (u v : Vc) (a b : Int) : dt m ((fun i => a * u i + b * v i) :: cs) = a * dt m (u :: cs) + b * dt m (v :: cs) := by
  unfold dt
  show psum _ _ = a * psum _ _ + b * psum _ _
  rw [← psum_mul, ← psum_mul, ← psum_add]
  exact psum_congr fun y ys => by rw [Int.add_mul, Int.mul_assoc, Int.mul_assoc]
theorem slot_lin (m : Nat) (B : List Vc) (k : Nat) (u v : Vc) (a b : Int) : slot m B k (fun i => a * u i + b * v i) = a * slot m B k u + b * slot m B k v := by
  unfold slot
  rw [dt_lin, Int.mul_add, ← Int.mul_assoc, ← Int.mul_assoc, ← Int.mul_assoc, ← Int.mul_assoc, Int.mul_comm a, Int.mul_comm b]
theorem psum_mem : ∀ {rs : List α} {f g : α → List α → Int}, (∀ y ∈ rs, ∀ ys, ys ⊆ rs → f y ys = g y ys) → psum rs f = psum rs g
  | [], _, _, _ => rfl
  | x :: xs, f, g, h => by
    rw [psum_cons, psum_cons, h x List.mem_cons_self xs (List.subset_cons_self x xs), psum_mem (f := fun y ys => f y (x :: ys)) (g := fun y ys => g y (x :: ys)) fun y hy ys hs =>
      h y (List.mem_cons_of_mem _ hy) (x :: ys) (List.cons_subset_cons x hs)]
theorem dt_cong0 (m : Nat) (cs : List Vc) (u v : Vc) (h : ∀ i, i < m → u i = v i) : dt m (u :: cs) = dt m (v :: cs) := by
  unfold dt
  show psum _ _ = psum _ _
  exact psum_mem fun y hy ys _ => congrArg (· * det (fun (i : Nat) (v : Vc) => v i) cs ys) (h y (List.mem_range.mp hy))
theorem slot_cong (m : Nat) (B : List Vc) (k : Nat) (u v : Vc) (h : ∀ i, i < m → u i = v i) : slot m B k u = slot m B k v := by
  unfold slot; rw [dt_cong0 m _ u v h]
open Lp in
theorem slot_sum (m : Nat) (B : List Vc) (k : Nat) (f : Nat → Int) (u : Nat → Vc) : ∀ n, slot m B k (fun i => sI n fun l => f l * u l i) = sI n fun l => f l * slot m B k (u l)
  | 0 => by
    have := slot_lin m B k (fun _ => 0) (fun _ => 0) 0 0
    simpa [sI] using this
  | n + 1 => by
    have := slot_lin m B k (fun i => sI n fun l => f l * u l i) (u n) 1 (f n)
    rw [Int.one_mul, slot_sum m B k f u n] at this
    rw [sI, ← this]
    exact slot_cong m B k _ _ fun i _ => by rw [sI, Int.one_mul]
/-- two slots changed about -/
theorem slot_swap (m : Nat) (B : List Vc) (r k : Nat) (u v : Vc) (h : r ≠ k) (hr : r < B.length) (hk : k < B.length) : dt m ((B.set r u).set k v) = -dt m ((B.set r v).set k u) := by
  have e : ∀ u v, dt m ((B.set r u).set k v) = slot m (B.set r u) k v := fun u v => dt_set m _ k v (by rw [List.length_set]; exact hk)
  have e' : ∀ u v, dt m ((B.set r u).set k v) = slot m (B.set k v) r u := fun u v => by
    rw [List.set_comm _ _ h]
    exact dt_set m _ r u (by rw [List.length_set]; exact hr)
  have z : ∀ u, dt m ((B.set r u).set k u) = 0 := fun u => by
    rw [e]
    have := dt_other m (B.set r u) k r (fun q => h q.symm) (by rw [List.length_set]; exact hr)
    rwa [List.getElem_set_self] at this
  have a2 : ∀ u v w : Vc, dt m ((B.set r u).set k (fun i => 1 * v i + 1 * w i)) = dt m ((B.set r u).set k v) + dt m ((B.set r u).set k w) := fun u v w => by
    rw [e, slot_lin, e, e]; omega
  have a1 : ∀ u v w : Vc, dt m ((B.set r (fun i => 1 * u i + 1 * v i)).set k w) = dt m ((B.set r u).set k w) + dt m ((B.set r v).set k w) := fun u v w => by
    rw [e', slot_lin, e', e']; omega
  have := z (fun i => 1 * u i + 1 * v i)
  rw [a2, a1, a1, z, z] at this
  omega
/-- the unit vectors -/
def un (k : Nat) : Vc := fun i => if i = k then 1 else 0
theorem det_unit : ∀ (rs : List Nat), rs.Nodup → det (fun (i : Nat) (v : Vc) => v i) (rs.map un) rs = 1
  | [], _ => rfl
  | x :: xs, h => by
    obtain ⟨h1, h2⟩ := List.nodup_cons.mp h
    show psum (x :: xs) (fun y ys => un x y * det _ (xs.map un) ys) = 1
    rw [psum_cons, det_unit xs h2]
    have : psum xs (fun y ys => un x y * det (fun (i : Nat) (v : Vc) => v i) (xs.map un) (x :: ys)) = psum xs fun y ys => 0 := psum_mem fun y hy ys _ => by
      have : un x y = 0 := by
        unfold un
        rw [if_neg]
        intro e
        exact h1 (e ▸ hy)
      rw [this, Int.zero_mul]
    rw [this]
    have z := psum_mul 0 xs fun (_ : Nat) (_ : List Nat) => (0 : Int)
    simp only [Int.zero_mul] at z
    rw [z]
    simp [un]
theorem dt_unit (m : Nat) : dt m ((List.range m).map un) = 1 := det_unit _ List.nodup_range
theorem psum_abs {C : Nat} : ∀ {rs : List α} {f : α → List α → Int}, (∀ y ys, ys.length + 1 = rs.length → ys ⊆ rs → y ∈ rs → (f y ys).natAbs ≤ C) → (psum rs f).natAbs ≤ rs.length * C
  | [], _, _ => by simp [psum_nil]
  | x :: xs, f, h => by
    rw [psum_cons, List.length_cons, Nat.succ_mul]
    have h1 := h x xs (by simp) (List.subset_cons_self x xs) List.mem_cons_self
    have h2 := psum_abs (C := C) (rs := xs) (f := fun y ys => f y (x :: ys)) fun y ys hl hs hy => h y (x :: ys) (by simp; omega) (List.cons_subset_cons x hs) (List.mem_cons_of_mem _ hy)
    have := Int.natAbs_sub_le (f x xs) (psum xs fun y ys => f y (x :: ys))
    omega
theorem det_abs (A : α → γ → Int) (n C : Nat) : ∀ (cs : List γ) (rs : List α), rs.length ≤ n → (∀ c ∈ cs, ∀ r ∈ rs, (A r c).natAbs ≤ C) → (det A cs rs).natAbs ≤ (n * C) ^ cs.length
  | [], _, _, _ => by simp [det]
  | c :: cs, rs, hn, h => by
    show (psum rs _).natAbs ≤ _
    refine Nat.le_trans (psum_abs (C := C * (n * C) ^ cs.length) fun y ys hl hs hy => ?_) ?_
    · rw [Int.natAbs_mul]
      exact Nat.mul_le_mul (h c List.mem_cons_self y hy) (det_abs A n C cs ys (by omega) fun c hc r hr => h c (List.mem_cons_of_mem _ hc) r (hs hr))
    · rw [List.length_cons, Nat.pow_succ, Nat.mul_comm ((n * C) ^ cs.length), Nat.mul_assoc]
      exact Nat.mul_le_mul_right _ hn
end Det
end L2

/-! A tableau of integers: what every exchange keeps. -/
namespace L2
namespace Lp
open Det
structure St where
  b : Nat → Nat
  x : Nat → Nat → Int
  d : Int
variable {m N : Nat} {X0 : Nat → Nat → Int} {g : Nat → Int}
def col (X0 : Nat → Nat → Int) (j : Nat) : Vc := fun i => X0 i j
def Bs (m : Nat) (X0 : Nat → Nat → Int) (b : Nat → Nat) : List Vc := (List.range m).map fun k => col X0 (b k)
structure Inv (m N : Nat) (X0 : Nat → Nat → Int) (s : St) : Prop where
  dp : 0 < s.d
  det : ∃ e : Int, (e = 1 ∨ e = -1) ∧ dt m (Bs m X0 s.b) = e * s.d
  sys : ∀ i, i < m → ∀ j, j < N → s.d * X0 i j = sI m fun k => X0 i (s.b k) * s.x k j
  bl : ∀ k, k < m → s.b k < N
theorem Bs_len (b : Nat → Nat) : (Bs m X0 b).length = m := by simp [Bs]
theorem Bs_get (b : Nat → Nat) {k : Nat} (h : k < (Bs m X0 b).length) : (Bs m X0 b)[k] = col X0 (b k) := by simp [Bs]
theorem Bs_set (b : Nat → Nat) (r c : Nat) (h : r < m) : (Bs m X0 b).set r (col X0 c) = Bs m X0 fun k => if k = r then c else b k := by
  apply List.ext_getElem
  · simp [Bs]
  · intro k h1 h2
    simp only [Bs, List.getElem_set, List.getElem_map, List.getElem_range]
    by_cases e : r = k
    · subst e; simp
    · rw [if_neg e, if_neg fun q => e q.symm]
theorem slot_b {b : Nat → Nat} {k l : Nat} (hk : k < m) (hl : l < m) : slot m (Bs m X0 b) k (col X0 (b l)) = if l = k then dt m (Bs m X0 b) else 0 := by
  have h1 : l < (Bs m X0 b).length := by rw [Bs_len]; exact hl
  rw [← Bs_get b h1]
  by_cases e : l = k
  · subst e; rw [if_pos rfl, dt_self]
  · rw [if_neg e, dt_other _ _ _ _ (fun q => e q.symm)]
theorem e_sq {e : Int} (h : e = 1 ∨ e = -1) : e * e = 1 := by rcases h with rfl | rfl <;> rfl
theorem e_ab {e : Int} (h : e = 1 ∨ e = -1) : e.natAbs = 1 := by rcases h with rfl | rfl <;> rfl
variable {s : St}
/-- a column's slot -/
theorem Inv.slot_sys (I : Inv m N X0 s) (B : List Vc) (k : Nat) {j : Nat} (hj : j < N) : s.d * slot m B k (col X0 j) = sI m fun l => s.x l j * slot m B k (col X0 (s.b l)) := by
  have h1 := slot_lin m B k (col X0 j) (col X0 j) s.d 0
  have h2 : slot m B k (fun i => s.d * col X0 j i + 0 * col X0 j i) = slot m B k fun i => sI m fun l => s.x l j * col X0 (s.b l) i := slot_cong m B k _ _ fun i hi => by
    have := I.sys i hi j hj
    show s.d * X0 i j + 0 * X0 i j = sI m fun l => s.x l j * X0 i (s.b l)
    rw [this]
    rw [Int.zero_mul, Int.add_zero]
    exact sI_congr fun k _ => Int.mul_comm _ _
  rw [h2, slot_sum] at h1
  rw [h1]; omega
theorem Inv.cramer (I : Inv m N X0 s) {e : Int} (he : e = 1 ∨ e = -1) (hd : dt m (Bs m X0 s.b) = e * s.d) {k j : Nat} (hk : k < m) (hj : j < N) : s.x k j = e * slot m (Bs m X0 s.b) k (col X0 j) := by
  have h := I.slot_sys (Bs m X0 s.b) k hj
  rw [sI_one (r := k) hk fun l hl hne => by rw [slot_b hk hl, if_neg hne, Int.mul_zero], slot_b hk hk, if_pos rfl, hd] at h
  have dp := I.dp
  have : s.d * slot m (Bs m X0 s.b) k (col X0 j) = s.d * (s.x k j * e) := by rw [h]; grind
  have := Int.eq_of_mul_eq_mul_left (by omega) this
  rw [this, Int.mul_comm, Int.mul_assoc, e_sq he, Int.mul_one]
/-- the columns of the basis are unit columns -/
theorem Inv.unit (I : Inv m N X0 s) {k l : Nat} (hk : k < m) (hl : l < m) : s.x k (s.b l) = if l = k then s.d else 0 := by
  obtain ⟨e, he, hd⟩ := I.det
  rw [I.cramer he hd hk (I.bl l hl), slot_b hk hl]
  by_cases h : l = k
  · rw [if_pos h, if_pos h, hd, ← Int.mul_assoc, e_sq he, Int.one_mul]
  · rw [if_neg h, if_neg h, Int.mul_zero]
theorem Inv.inj (I : Inv m N X0 s) {k l : Nat} (hk : k < m) (hl : l < m) (h : s.b k = s.b l) : k = l := by
  have h1 := I.unit hk hk
  have h2 := I.unit hk hl
  rw [← h, h1, if_pos rfl] at h2
  by_cases e : l = k
  · exact e.symm
  · rw [if_neg e] at h2; have := I.dp; omega
/-- one exchange -/
structure Piv (m N : Nat) (s s' : St) (r c : Nat) (o : Int) : Prop where
  hr : r < m
  hc : c < N
  ho : o = 1 ∨ o = -1
  hp : 0 < o * s.x r c
  b : ∀ k, k < m → s'.b k = if k = r then c else s.b k
  d : s'.d = o * s.x r c
  xr : ∀ j, j < N → s'.x r j = o * s.x r j
  xk : ∀ k, k < m → k ≠ r → ∀ j, j < N → s'.x k j = (o * s.x r c * s.x k j - s.x k c * (o * s.x r j)).fdiv s.d
variable {s' : St} {r c : Nat} {o : Int}
theorem Bs_cong {b b' : Nat → Nat} (h : ∀ k, k < m → b k = b' k) : Bs m X0 b = Bs m X0 b' := by
  unfold Bs
  exact List.map_congr_left fun k hk => by rw [h k (List.mem_range.mp hk)]
theorem Inv.exact (I : Inv m N X0 s) (P : Piv m N s s' r c o) {k j : Nat} (hk : k < m) (hne : k ≠ r) (hj : j < N) : s.d * s'.x k j = o * s.x r c * s.x k j - s.x k c * (o * s.x r j) := by
  obtain ⟨e, he, hd⟩ := I.det
  have dp := I.dp
  have hr := P.hr
  have hB' : slot m (Bs m X0 s.b) r (col X0 c) = e * s.x r c := by
    rw [I.cramer he hd P.hr P.hc, ← Int.mul_assoc, e_sq he, Int.one_mul]
  let B' := (Bs m X0 s.b).set r (col X0 c)
  have lB : (Bs m X0 s.b).length = m := Bs_len _
  have lB' : B'.length = m := by simp [B', lB]
  have dB' : dt m B' = e * s.x r c := by rw [← hB']; exact dt_set m _ r _ (by omega)
  have h := I.slot_sys B' k hj
  have t0 : ∀ l, l < m → slot m B' k (col X0 (s.b l)) = (if l = k then e * s.x r c else 0) - (if l = r then e * s.x k c else 0) := fun l hl => by
    by_cases h1 : l = k
    · subst h1
      rw [if_pos rfl, if_neg hne, ← dt_set m B' l _ (by omega)]
      have : col X0 (s.b l) = B'[l]'(by omega) := by
        show _ = ((Bs m X0 s.b).set r (col X0 c))[l]'_
        rw [List.getElem_set_ne (fun q => hne q.symm), Bs_get]
      rw [this, List.set_getElem_self, dB']; omega
    · rw [if_neg h1]
      by_cases h2 : l = r
      · subst h2
        rw [if_pos rfl, ← dt_set m B' k _ (by omega)]
        show dt m (((Bs m X0 s.b).set l (col X0 c)).set k (col X0 (s.b l))) = _
        rw [slot_swap m _ l k _ _ h1 (by omega) (by omega)]
        have : (Bs m X0 s.b).set l (col X0 (s.b l)) = Bs m X0 s.b := by
          rw [← Bs_get (m := m) (X0 := X0) s.b (k := l) (by omega), List.set_getElem_self]
        rw [this, dt_set m _ k _ (by omega), I.cramer he hd hk P.hc, ← Int.mul_assoc, e_sq he]; omega
      · rw [if_neg h2]
        have : col X0 (s.b l) = B'[l]'(by omega) := by
          show _ = ((Bs m X0 s.b).set r (col X0 c))[l]'_
          rw [List.getElem_set_ne (fun q => h2 q.symm), Bs_get]
        rw [this, dt_other m B' k l (fun q => h1 q.symm) (by omega)]; rfl
  have h3 : (sI m fun l => s.x l j * slot m B' k (col X0 (s.b l))) = s.x k j * (e * s.x r c) - s.x r j * (e * s.x k c) := by
    have : (sI m fun l => s.x l j * slot m B' k (col X0 (s.b l))) = sI m fun l => (s.x l j * (if l = k then e * s.x r c else 0)) - s.x l j * (if l = r then e * s.x k c else 0) := sI_congr fun l hl => by rw [t0 l hl, Int.mul_sub]
    rw [this, sI_sub, sI_one (r := k) hk fun l _ hne => by rw [if_neg hne, Int.mul_zero], sI_one (r := r) P.hr fun l _ hne => by rw [if_neg hne, Int.mul_zero], if_pos rfl, if_pos rfl]
  rw [h3] at h
  have h4 : o * s.x r c * s.x k j - s.x k c * (o * s.x r j) = s.d * (o * e * slot m B' k (col X0 j)) := by
    have : s.d * (o * e * slot m B' k (col X0 j)) = o * e * (s.d * slot m B' k (col X0 j)) := by rw [Int.mul_left_comm]
    rw [this, h]
    have h5 := e_sq he
    grind
  rw [P.xk k hk hne j hj, h4, Int.mul_fdiv_cancel_left _ (by omega)]
theorem Inv.piv (I : Inv m N X0 s) (P : Piv m N s s' r c o) : Inv m N X0 s' := by
  have dp := I.dp
  obtain ⟨e, he, hd⟩ := I.det
  refine ⟨by rw [P.d]; exact P.hp, ⟨e * o, ?_, ?_⟩, fun i hi j hj => ?_, fun k hk => ?_⟩
  · rcases he with rfl | rfl <;> rcases P.ho with rfl | rfl <;> simp
  · rw [Bs_cong P.b, ← Bs_set s.b r c P.hr, dt_set m _ r _ (by rw [Bs_len]; exact P.hr), P.d]
    have h1 := I.cramer he hd P.hr P.hc
    have h2 := e_sq he
    have h3 := e_sq P.ho
    rw [h1]
    grind
  · refine Int.eq_of_mul_eq_mul_left (a := s.d) (by omega) ?_
    rw [← sI_mul]
    have hs := I.sys i hi
    have t0 : ∀ k, k < m → s.d * (X0 i (s'.b k) * s'.x k j) = o * s.x r c * (X0 i (s.b k) * s.x k j) - o * s.x r j * (X0 i (s.b k) * s.x k c) + (if k = r then s.d * X0 i c * (o * s.x r j) else 0) := fun k hk => by
      by_cases h : k = r
      · subst h
        rw [P.b k hk, if_pos rfl, P.xr j hj, if_pos rfl]
        grind
      · rw [P.b k hk, if_neg h, if_neg h]
        have := I.exact P hk h hj
        grind
    rw [sI_congr t0, sI_add, sI_sub, sI_mul, sI_mul, ← hs j hj, ← hs c P.hc, sI_one (r := r) P.hr fun l _ hne => by rw [if_neg hne], if_pos rfl, P.d]
    grind
  · rw [P.b k hk]
    split
    · exact P.hc
    · exact I.bl k hk
/-- the row of the gains -/
def Top (m N : Nat) (g : Nat → Int) (s : St) (t : Nat → Int) : Prop := ∀ j, j < N → t j = (sI m fun k => g (s.b k) * s.x k j) - g j * s.d
variable {t t' : Nat → Int}
theorem Top.exact (I : Inv m N X0 s) (P : Piv m N s s' r c o) (T : Top m N g s t) {j : Nat} (hj : j < N) : s.d * ((sI m fun k => g (s'.b k) * s'.x k j) - g j * s'.d) = o * s.x r c * t j - t c * (o * s.x r j) := by
  have t0 : ∀ k, k < m → s.d * (g (s'.b k) * s'.x k j) = o * s.x r c * (g (s.b k) * s.x k j) - o * s.x r j * (g (s.b k) * s.x k c) + (if k = r then s.d * g c * (o * s.x r j) else 0) := fun k hk => by
    by_cases h : k = r
    · subst h
      rw [P.b k hk, if_pos rfl, P.xr j hj, if_pos rfl]
      grind
    · rw [P.b k hk, if_neg h, if_neg h]
      have := I.exact P hk h hj
      grind
  rw [Int.mul_sub, ← sI_mul, sI_congr t0, sI_add, sI_sub, sI_mul, sI_mul, sI_one (r := r) (f := fun k => if k = r then s.d * g c * (o * s.x r j) else 0) P.hr (fun l _ hne => by rw [if_neg hne]), if_pos rfl, P.d]
  have h1 := T j hj
  have h2 := T c P.hc
  grind
theorem Top.piv (I : Inv m N X0 s) (P : Piv m N s s' r c o) (T : Top m N g s t) (h : ∀ j, j < N → t' j = (o * s.x r c * t j - t c * (o * s.x r j)).fdiv s.d) : Top m N g s' t' := fun j hj => by
  have dp := I.dp
  rw [h j hj, ← T.exact I P hj, Int.mul_fdiv_cancel_left _ (by omega)]
theorem Top.base (I : Inv m N X0 s) (T : Top m N g s t) {k : Nat} (hk : k < m) : t (s.b k) = 0 := by
  rw [T _ (I.bl k hk), sI_one (r := k) hk fun l hl hne => by rw [I.unit hl hk, if_neg (fun q => hne q.symm), Int.mul_zero], I.unit hk hk, if_pos rfl]; omega
/-- the same basis, the same tableau -/
theorem Inv.same (I : Inv m N X0 s) (I' : Inv m N X0 s') (h : ∀ k, k < m → s.b k = s'.b k) : s.d = s'.d ∧ ∀ k, k < m → ∀ j, j < N → s.x k j = s'.x k j := by
  obtain ⟨e, he, hd⟩ := I.det
  obtain ⟨e', he', hd'⟩ := I'.det
  have dp := I.dp
  have dp' := I'.dp
  have hB := Bs_cong (X0 := X0) h
  have h1 : e * s.d = e' * s'.d := by rw [← hd, ← hd', hB]
  have h2 : e = e' := by rcases he with rfl | rfl <;> rcases he' with rfl | rfl <;> omega
  subst h2
  refine ⟨by rcases he with rfl | rfl <;> omega, fun k hk j hj => ?_⟩
  rw [I.cramer he hd hk hj, I'.cramer he' hd' hk hj, hB]
/-- sizes -/
theorem Inv.abs (I : Inv m N X0 s) {C : Nat} (h : ∀ i, i < m → ∀ j, j < N → (X0 i j).natAbs ≤ C) : s.d.natAbs ≤ (m * C) ^ m ∧ ∀ k, k < m → ∀ j, j < N → (s.x k j).natAbs ≤ (m * C) ^ m := by
  obtain ⟨e, he, hd⟩ := I.det
  have key : ∀ b : Nat → Nat, (∀ k, k < m → b k < N) → (dt m (Bs m X0 b)).natAbs ≤ (m * C) ^ m := fun b hb => by
    have := det_abs (fun (i : Nat) (v : Vc) => v i) m C (Bs m X0 b) (List.range m) (by simp) fun c hc r hr => by
      obtain ⟨k, hk, rfl⟩ := List.mem_map.mp hc
      exact h r (List.mem_range.mp hr) (b k) (hb k (List.mem_range.mp hk))
    rwa [Bs_len] at this
  refine ⟨?_, fun k hk j hj => ?_⟩
  · have := key s.b I.bl
    rw [hd, Int.natAbs_mul, e_ab he, Nat.one_mul] at this
    exact this
  · rw [I.cramer he hd hk hj, Int.natAbs_mul, e_ab he, Nat.one_mul, ← dt_set m _ k _ (by rw [Bs_len]; exact hk), Bs_set _ _ _ hk]
    refine key _ fun l hl => ?_
    split
    · exact hj
    · exact I.bl l hl
/-- the start: unit columns -/
theorem Inv.start {w : Nat} (hN : w + m ≤ N) (hu : ∀ i, i < m → ∀ k, k < m → X0 i (w + k) = if i = k then 1 else 0) : Inv m N X0 ⟨fun k => w + k, X0, 1⟩ := by
  refine ⟨by show (0:Int) < 1; omega, ⟨1, .inl rfl, ?_⟩, fun i hi j hj => ?_, fun k hk => ?_⟩
  · rw [Int.one_mul]
    show dt m (Bs m X0 fun k => w + k) = 1
    rw [← dt_unit m]
    unfold dt
    have e : ∀ l : List Nat, (∀ k ∈ l, k < m) → Det.det (fun (i : Nat) (v : Vc) => v i) (l.map fun k => col X0 (w + k)) (List.range m) = Det.det (fun (i : Nat) (v : Vc) => v i) (l.map un) (List.range m) := by
      have key : ∀ (l : List Nat) (rs : List Nat), (∀ k ∈ l, k < m) → (∀ r ∈ rs, r < m) → Det.det (fun (i : Nat) (v : Vc) => v i) (l.map fun k => col X0 (w + k)) rs = Det.det (fun (i : Nat) (v : Vc) => v i) (l.map un) rs := by
        intro l
        induction l with
        | nil => intros; rfl
        | cons k l ih =>
          intro rs hl hr
          show psum rs _ = psum rs _
          exact psum_mem fun y hy ys hs => by
            rw [ih ys (fun k hk => hl k (List.mem_cons_of_mem _ hk)) fun r hr' => hr r (hs hr')]
            congr 1
            exact hu y (hr y hy) k (hl k List.mem_cons_self)
      exact fun l hl => key l _ hl fun r hr => List.mem_range.mp hr
    exact e _ fun k hk => List.mem_range.mp hk
  · show 1 * X0 i j = sI m fun k => X0 i (w + k) * X0 k j
    rw [sI_one (r := i) hi fun k hk hne => by rw [hu i hi k hk, if_neg (fun q => hne q.symm), Int.zero_mul], hu i hi i hi, if_pos rfl]
  · show w + k < N
    omega
end Lp
end L2

/-! The smallest column first: no endless climb. -/
namespace L2
namespace Lp
open Det
variable {m N : Nat} {X0 : Nat → Nat → Int} {g : Nat → Int}
/-- one climbing step; L is the column of the sides -/
structure Up (m N w L : Nat) (s s' : St) (t t' : Nat → Int) (r c : Nat) : Prop where
  P : Piv m N s s' r c 1
  cw : c < w
  neg : t c < 0
  first : ∀ j, j < c → 0 ≤ t j
  low : ∀ k, k < m → 0 < s.x k c → s.x r L * s.x k c ≤ s.x k L * s.x r c ∧ (s.x r L * s.x k c = s.x k L * s.x r c → s.b r ≤ s.b k)
  tt : ∀ j, j < N → t' j = (1 * s.x r c * t j - t c * (1 * s.x r j)).fdiv s.d
variable {s s' : St} {t t' : Nat → Int} {r c w L : Nat}
/-- the gain grows -/
theorem Up.gain (U : Up m N w L s s' t t' r c) (I : Inv m N X0 s) (T : Top m N g s t) (hL : L < N) : t' L * s.d = t L * s'.d - t c * s.x r L := by
  have I' := I.piv U.P
  have h := T.exact I U.P hL
  have h2 := (T.piv I U.P U.tt) L hL
  rw [← h2] at h
  rw [U.P.d]
  have hd := I.dp
  grind
/-! ### pigeons -/
/-- a row of small numbers as one number -/
def code (K : Nat) (f : Nat → Nat) : Nat → Nat
  | 0 => 0
  | n + 1 => code K f n * K + f n
theorem code_inj {K : Nat} {f f' : Nat → Nat} : ∀ {n : Nat}, (∀ k, k < n → f k < K) → (∀ k, k < n → f' k < K) → code K f n = code K f' n → ∀ k, k < n → f k = f' k
  | 0, _, _, _ => fun k hk => by omega
  | n + 1, h, h', e => by
    rw [code, code] at e
    have h2 := h n (by omega)
    have h2' := h' n (by omega)
    have hK : 0 < K := by omega
    have e1 : code K f n = code K f' n := by
      have := congrArg (· / K) e
      simpa [Nat.add_comm, Nat.add_mul_div_right _ _ hK, Nat.div_eq_of_lt h2, Nat.div_eq_of_lt h2'] using this
    have e2 : f n = f' n := by rw [e1] at e; omega
    intro k hk
    by_cases hkn : k = n
    · subst hkn; exact e2
    · exact code_inj (fun k hk => h k (by omega)) (fun k hk => h' k (by omega)) e1 k (by omega)
/-- the greatest of some -/
theorem greatest (f : Nat → Nat) (i : Nat) : ∀ j, i < j → ∃ q, i ≤ q ∧ q < j ∧ ∀ u, i ≤ u → u < j → f u ≤ f q
  | 0, h => by omega
  | j + 1, h => by
    by_cases hi : i = j
    · subst hi
      exact ⟨i, Nat.le_refl _, by omega, fun u h1 h2 => by rw [show u = i by omega]; exact Nat.le_refl _⟩
    · obtain ⟨q, h1, h2, h3⟩ := greatest f i j (by omega)
      by_cases hq : f j ≤ f q
      · exact ⟨q, h1, by omega, fun u a b => by
          by_cases e : u = j
          · subst e; exact hq
          · exact h3 u a (by omega)⟩
      · exact ⟨j, by omega, by omega, fun u a b => by
          by_cases e : u = j
          · subst e; exact Nat.le_refl _
          · have := h3 u a (by omega); omega⟩
/-! ### a round of exchanges -/
section
variable (S : Nat → St) (T : Nat → Nat → Int) (r c : Nat → Nat)
def In (m : Nat) (S : Nat → St) (n v : Nat) : Prop := ∃ k, k < m ∧ (S n).b k = v
variable {S T r c}
end
end Lp
end L2

/-! The table: rising, leaving, the exchange. -/
namespace L2
namespace Mi
open PySem PySem.Spec PyProof.Rows
open L2.Lp (sI)
variable {G : Sig}
/-! ### sequences of any kind -/
theorem dof_sof {M : Mem} {x : T} {ts : List T} (h : sof M x = some ts) : dof M x = none := by
  cases x with
  | obj i =>
    have := lof_obj (show lof M (.obj i) = some ts from h)
    simp only [dof, this]
  | fd => cases h
  | _ => rfl
theorem ix_sof {M : Mem} {x : T} {ts : List T} (h : sof M x = some ts) (k : Int) : ixT x (.int k) M = atI ts k := by
  have hd := dof_sof h
  cases x with
  | str z => cases h
  | _ => simp only [ixT, hd, h, Option.bind_some]
theorem len_sof {M : Mem} {x : T} {ts : List T} (h : sof M x = some ts) : biT .len [x] M = some (nT ts.length, M) := bi_len (dof_sof h) h
theorem getE_app {M M1 : List O} {i : Nat} {o : O} (h : M[i]? = some o) : (M ++ M1)[i]? = some o := by
  rw [List.getElem?_append_left (List.getElem?_eq_some_iff.mp h).1]; exact h
@[simp] theorem grdOf_obj (i : Nat) (ts : List T) : grdOf (.obj i) ts = [(i, ts)] := rfl
def tlT (l : List Int) : T := .tup (l.map T.int)
@[simp] theorem sof_tl (M : Mem) (l : List Int) : sof M (tlT l) = some (l.map T.int) := rfl
@[simp] theorem grdOf_tl (l : List Int) (us : List T) : grdOf (tlT l) us = [] := rfl
@[simp] theorem int_nT (k : Nat) : T.int (k : Int) = nT k := rfl
@[simp] theorem cmp_lt_nT (a b : Nat) (M : Mem) : cmpT .Lt (nT a) (nT b) M = some (decide (a < b)) := by
  have : decide ((a : Int) < (b : Int)) = decide (a < b) := by simp
  rw [← this]; rfl
@[simp] theorem cmp_ge_nT (a b : Nat) (M : Mem) : cmpT .GtE (nT a) (nT b) M = some (decide (b ≤ a)) := by
  have : decide ((b : Int) ≤ (a : Int)) = decide (b ≤ a) := by simp
  rw [← this]; rfl
@[simp] theorem cmp_ne_nT (a b : Nat) (M : Mem) : cmpT .NotEq (nT a) (nT b) M = some (!decide (a = b)) := by
  have : decide ((a : Int) = (b : Int)) = decide (a = b) := by simp [Int.natCast_inj]
  unfold nT
  rw [cmp_ne, this]
@[simp] theorem cmp_eq_nT (a b : Nat) (M : Mem) : cmpT .Eq (nT a) (nT b) M = some (decide (a = b)) := by
  have : decide ((a : Int) = (b : Int)) = decide (a = b) := by simp [Int.natCast_inj]
  unfold nT
  rw [cmp_eq, this]
@[simp] theorem bin_add_nT (a b : Nat) (tr : Bool) (M : Mem) : binT .Add tr (nT a) (nT b) M = some (nT (a + b), M) := by
  unfold nT; rw [bin_add]; congr
def optT : Option Nat → T
  | none => .non
  | some k => nT k
@[simp] theorem cmp_is_opt (o : Option Nat) (M : Mem) : cmpT .Is (optT o) .non M = some o.isNone := by cases o <;> rfl
@[simp] theorem cmp_isn_opt (o : Option Nat) (M : Mem) : cmpT .IsNot (optT o) .non M = some o.isSome := by cases o <;> rfl
@[simp] theorem cmp_is_nT (k : Nat) (M : Mem) : cmpT .Is (nT k) .non M = some false := rfl
@[simp] theorem cmp_isn_nT (k : Nat) (M : Mem) : cmpT .IsNot (nT k) .non M = some true := rfl
@[simp] theorem cmp_is_nn (M : Mem) : cmpT .Is .non .non M = some true := rfl
@[simp] theorem cmp_isn_nn (M : Mem) : cmpT .IsNot .non .non M = some false := rfl
theorem rg1_n {n : Nat} (h : n < 2 ^ 60) : rg1 (nT n) = some (rngL 0 (n : Int), []) := rg1_of (rngOk_small (by omega) (by omega) (by omega) (by omega))
theorem map_get {α : Type} {f : α → T} {l : List α} {i : Nat} {z : T} (h : (l.map f)[i]? = some z) : ∃ a, l[i]? = some a ∧ z = f a := by
  rw [List.getElem?_map] at h
  cases hl : l[i]? with
  | none => simp [hl] at h
  | some a => simp only [hl, Option.map_some, Option.some.injEq] at h; exact ⟨a, rfl, h.symm⟩
def TS.row (s : TS) (k : Nat) : List Int := s.rows.getD k []
def TS.x (s : TS) (k j : Nat) : Int := gt (s.row k) j
def TS.b (s : TS) (k : Nat) : Nat := s.basis.getD k 0
theorem TS.row_of {s : TS} {k : Nat} {r : List Int} (h : s.rows[k]? = some r) : s.row k = r := by rw [TS.row, List.getD_eq_getElem?_getD, h]; rfl
theorem TS.rows_row {s : TS} {k : Nat} (h : k < s.rows.length) : s.rows[k]? = some (s.row k) := by rw [TS.row, List.getD_eq_getElem?_getD, List.getElem?_eq_getElem h]; rfl
/-- the shape: m rows of N entries, all small -/
structure Shp (s : TS) (m N : Nat) : Prop where
  rl : s.rows.length = m
  rw_ : ∀ r ∈ s.rows, r.length = N
  bl : s.basis.length = m
  sr : ∀ r ∈ s.rows, Sma r
  ss : Sm KB s.scale
  s0 : s.scale ≠ 0
  wN : s.w < N
  mN : m < 2 ^ 20
  NN : N < 2 ^ 20
section
variable {s : TS} {n m N : Nat} {M : Mem}
theorem Shp.len (S : Shp s m N) {k : Nat} (h : k < m) : (s.row k).length = N := S.rw_ _ (List.mem_of_getElem? (TS.rows_row (by rw [S.rl]; exact h)))
theorem Shp.sma (S : Shp s m N) {k : Nat} (h : k < m) : Sma (s.row k) := S.sr _ (List.mem_of_getElem? (TS.rows_row (by rw [S.rl]; exact h)))
theorem Shp.sx (S : Shp s m N) {k : Nat} (h : k < m) (j : Nat) : Sm KB (s.x k j) := (S.sma h).at j
theorem At.row (A : At s n M) (S : Shp s m N) {k : Nat} (h : k < m) : ixT (.obj (n + 1)) (nT k) M = some (ilT (s.row k)) := by
  unfold nT
  rw [ix_obj A.r, atI_n, List.getElem?_map, TS.rows_row (by rw [S.rl]; exact h)]; rfl
theorem Shp.ent (S : Shp s m N) {k j : Nat} (h : k < m) (hj : j < N) : ixT (ilT (s.row k)) (nT j) M = some (.int (s.x k j)) := ix_il _ _ _ (by rw [S.len h]; exact hj)
theorem Shp.last (S : Shp s m N) {k : Nat} (h : k < m) : ixT (ilT (s.row k)) (.int (-1)) M = some (.int (s.x k (N - 1))) := by
  have hl := S.len h
  have := S.wN
  rw [ix_il_last _ _ (fun e => by rw [e] at hl; simp at hl; omega), hl]; rfl
end
/-! ### rising -/
def RisesTo (s : TS) : Option Nat → Prop
  | none => ∀ j, j < s.w → 0 ≤ gt s.top j
  | some c => c < s.w ∧ gt s.top c < 0 ∧ ∀ j, j < c → 0 ≤ gt s.top j
/-! ### leaving -/
def LeavesTo (s : TS) (c L i : Nat) : Option Nat → Prop
  | none => ∀ k, k < i → ¬0 < s.x k c
  | some r => r < i ∧ 0 < s.x r c ∧ ∀ k, k < i → 0 < s.x k c → s.x r L * s.x k c ≤ s.x k L * s.x r c ∧ (s.x r L * s.x k c = s.x k L * s.x r c → s.b r ≤ s.b k)
end Mi
end L2

/-! The table: the exchange, the row of the gains. -/
namespace L2
namespace Mi
open PySem PySem.Spec PyProof.Rows
open L2.Lp (sI)
variable {G : Sig}
def ngs (l : List Int) : List Int := l.map fun x => -x
def stp (s : TS) (r c : Nat) : List Int := if s.x r c < 0 then ngs (s.row r) else s.row r
def midr (s : TS) (st : List Int) (r c i : Nat) : List (List Int) := (List.range s.rows.length).map fun k => if k = r then st else if k < i then chg s.scale (s.row k) st c else s.row k
def TS.piv (s : TS) (r c : Nat) : TS := { s with rows := midr s (stp s r c) r c s.rows.length, top := chg s.scale s.top (stp s r c) c, scale := gt (stp s r c) c, basis := s.basis.set r c }
theorem midr_get {s : TS} {st : List Int} {r c i k : Nat} (h : k < s.rows.length) : (midr s st r c i)[k]? = some (if k = r then st else if k < i then chg s.scale (s.row k) st c else s.row k) := by
  unfold midr
  rw [List.getElem?_map, List.getElem?_range h]; rfl
theorem midr_len (s : TS) (st : List Int) (r c i : Nat) : (midr s st r c i).length = s.rows.length := by simp [midr]
/-! ### the memory -/
section
variable {s : TS} {M0 : List O}
theorem set_app (M0 L : List O) (i : Nat) (o : O) : (M0 ++ L).set (M0.length + i) o = M0 ++ L.set i o := by
  rw [List.set_append_right _ _ (by omega), Nat.add_sub_cancel_left]
end
theorem gt_ngs (l : List Int) (k : Nat) : gt (ngs l) k = -gt l k := by
  unfold gt ngs
  rw [List.getD_eq_getElem?_getD, List.getD_eq_getElem?_getD, List.getElem?_map]
  cases l[k]? <;> simp
end Mi
end L2

/-! The table: the gains, the start. -/
namespace L2
namespace Mi
open PySem PySem.Spec PyProof.Rows
variable {G : Sig}
theorem bin_rep (tr : Bool) {ts : List T} {k : Nat} (h : ts.length * k ≤ 16777216) (hk : k < 2 ^ 60) (M : Mem) : binT .Mult tr (.fl ts) (nT k) M = some (mkL tr (List.replicate k ts).flatten M) := by
  have h63 : i63 (k : Int) := by unfold i63; omega
  show ((lof M (.fl ts)).bind fun a => if i63 (k : Int) ∧ a.length * (k : Int).toNat ≤ 16777216 then some (mkL tr (List.replicate (k : Int).toNat a).flatten M) else none) = _
  rw [lof_fl]
  show (if i63 (k : Int) ∧ ts.length * (k : Int).toNat ≤ 16777216 then _ else _) = _
  rw [if_pos ⟨h63, by simpa using h⟩]
  simp
@[simp] theorem bi_intb (b : Bool) (M : Mem) : biT .int [.bl b] M = some (.int (if b = true then 1 else 0), M) := rfl
@[simp] theorem bi_inti (i : Int) (M : Mem) : biT .int [.int i] M = some (.int i, M) := rfl
@[simp] theorem bi_abs (i : Int) (M : Mem) : biT .abs [.int i] M = some (.int (i.natAbs : Int), M) := by
  rw [← abs_if]; rfl
theorem bm_append {i : Nat} {ts : List T} {x : T} {M : Mem} (h : M[i]? = some (.lst ts)) (hl : ts.length < 16777216) : bmT .append (.obj i) [x] M = some (.non, M.set i (.lst (ts ++ [x]))) := by
  simp only [bmT, h, if_pos hl]
theorem gt_append (a b : List Int) (k : Nat) : gt (a ++ b) k = if k < a.length then gt a k else gt b (k - a.length) := by
  unfold gt
  rw [List.getD_eq_getElem?_getD, List.getD_eq_getElem?_getD, List.getD_eq_getElem?_getD]
  split
  · rw [List.getElem?_append_left (by assumption)]
  · rw [List.getElem?_append_right (by omega)]
theorem gt_map (f : Int → Int) (l : List Int) (k : Nat) (h : k < l.length) : gt (l.map f) k = f (gt l k) := by
  unfold gt
  rw [List.getD_eq_getElem?_getD, List.getD_eq_getElem?_getD, List.getElem?_map, List.getElem?_eq_getElem h]; rfl
theorem gt_out (l : List Int) (k : Nat) (h : l.length ≤ k) : gt l k = 0 := by
  unfold gt
  rw [List.getD_eq_getElem?_getD, List.getElem?_eq_none h]; rfl
theorem gt_range (f : Nat → Int) (n k : Nat) (h : k < n) : gt ((List.range n).map f) k = f k := by
  unfold gt
  rw [List.getD_eq_getElem?_getD, List.getElem?_map, List.getElem?_range h]; rfl
def scl (a : Int) (l : List Int) : List Int := l.map fun x => a * x
theorem scl_len (a : Int) (l : List Int) : (scl a l).length = l.length := by simp [scl]
/-! ### set_gains -/
end Mi
end L2

/-! The table: what is kept, the climb, the settling. -/
namespace L2
namespace Mi
open PySem PySem.Spec PyProof.Rows
variable {G : Sig}
def TS.st (s : TS) : Lp.St := ⟨s.b, s.x, s.scale⟩
structure Sys (X0 : Nat → Nat → Int) (m N w : Nat) (g : Nat → Int) : Prop where
  m20 : m < 2 ^ 20
  N20 : N < 2 ^ 20
  wN : w + m < N
  uni : ∀ i, i < m → ∀ k, k < m → X0 i (w + k) = if i = k then 1 else 0
  siz : ∃ C Cg : Nat, (∀ i, i < m → ∀ j, j < N → (X0 i j).natAbs ≤ C) ∧ (∀ j, j < N → (g j).natAbs ≤ Cg) ∧ (m * C) ^ m < 2 ^ KB ∧ (m * (Cg * (m * C) ^ m)) + Cg * (m * C) ^ m < 2 ^ KB
structure Gd (X0 : Nat → Nat → Int) (m N : Nat) (g : Nat → Int) (s : TS) : Prop where
  S : Shp s m N
  I : Lp.Inv m N X0 s.st
  tl : s.top.length = N
  T : Lp.Top m N g s.st (gt s.top)
  ts : Sma s.top
variable {X0 : Nat → Nat → Int} {m N w : Nat} {g : Nat → Int} {s : TS}
theorem mem_gt {l : List Int} {x : Int} (h : x ∈ l) : ∃ j, j < l.length ∧ gt l j = x := by
  obtain ⟨j, hj, e⟩ := List.mem_iff_getElem.mp h
  exact ⟨j, hj, by rw [gt, List.getD_eq_getElem?_getD, List.getElem?_eq_getElem hj]; exact e⟩
/-- sizes come from the system -/
theorem gd_of (Y : Sys X0 m N w g) (rl : s.rows.length = m) (rw_ : ∀ r ∈ s.rows, r.length = N) (bl : s.basis.length = m) (wN : s.w < N) (I : Lp.Inv m N X0 s.st) (tl : s.top.length = N) (T : Lp.Top m N g s.st (gt s.top)) : Gd X0 m N g s := by
  obtain ⟨C, Cg, h1, h2, h3, h4⟩ := Y.siz
  obtain ⟨a1, a2⟩ := I.abs h1
  have hx : ∀ k, k < m → ∀ j, j < N → Sm KB (s.x k j) := fun k hk j hj => Nat.lt_of_le_of_lt (a2 k hk j hj) h3
  refine ⟨⟨rl, rw_, bl, fun r hr x hx' => ?_, Nat.lt_of_le_of_lt a1 h3, fun e => by have := I.dp; have e' : s.st.d = 0 := e; omega, wN, Y.m20, Y.N20⟩, I, tl, T, fun x hx' => ?_⟩
  · obtain ⟨k, hk, e⟩ := List.mem_iff_getElem.mp hr
    obtain ⟨j, hj, e2⟩ := mem_gt hx'
    have := hx k (by omega) j (by rw [← rw_ r hr]; exact hj)
    have e3 : s.row k = r := TS.row_of (by rw [List.getElem?_eq_getElem hk, e])
    rw [TS.x, e3, e2] at this
    exact this
  · obtain ⟨j, hj, e2⟩ := mem_gt hx'
    rw [tl] at hj
    have := T j hj
    rw [← e2, this]
    show Int.natAbs _ < _
    refine Nat.lt_of_le_of_lt (Int.natAbs_sub_le _ _) (Nat.lt_of_le_of_lt (Nat.add_le_add (Lp.sI_abs (C := Cg * (m * C) ^ m) fun k hk => ?_) ?_) h4)
    · rw [Int.natAbs_mul]
      exact Nat.mul_le_mul (h2 _ (I.bl k hk)) (a2 k hk j hj)
    · rw [Int.natAbs_mul]
      exact Nat.mul_le_mul (h2 j hj) a1
theorem gt_chg {sc : Int} {row step : List Int} {c j : Nat} (h0 : sc ≠ 0) (h1 : j < row.length) (h2 : j < step.length) : gt (chg sc row step c) j = (gt step c * gt row j - gt row c * gt step j).fdiv sc := by
  unfold chg
  by_cases hb : gt row c = 0
  · rw [if_pos hb, hb, Int.zero_mul, Int.sub_zero]
    by_cases ha : gt step c = sc
    · rw [if_pos ha, ha, Int.mul_fdiv_cancel_left _ h0]
    · rw [if_neg ha, divs, gt_map _ _ _ h1]
  · rw [if_neg hb, mixs]
    unfold gt
    rw [List.getD_eq_getElem?_getD, List.getElem?_zipWith, List.getD_eq_getElem?_getD, List.getD_eq_getElem?_getD, List.getD_eq_getElem?_getD, List.getD_eq_getElem?_getD, List.getElem?_eq_getElem h1, List.getElem?_eq_getElem h2]; rfl
theorem chg_len {sc : Int} {row step : List Int} {c : Nat} (h : row.length = step.length) : (chg sc row step c).length = row.length := by
  unfold chg
  split
  · split
    · rfl
    · exact divs_len ..
  · rw [mixs_len]; omega
theorem stp_len (S : Shp s m N) {r c : Nat} (hr : r < m) : (stp s r c).length = N := by
  unfold stp
  split
  · simp [ngs, S.len hr]
  · exact S.len hr
theorem gt_stp (s : TS) (r c j : Nat) : gt (stp s r c) j = (if s.x r c < 0 then -1 else 1) * s.x r j := by
  unfold stp
  split
  · rw [gt_ngs]; show -s.x r j = _; omega
  · show s.x r j = _; omega
theorem piv_row (S : Shp s m N) {r c k : Nat} (hk : k < m) : (s.piv r c).row k = if k = r then stp s r c else chg s.scale (s.row k) (stp s r c) c := by
  rw [TS.row, List.getD_eq_getElem?_getD]
  show ((midr s (stp s r c) r c s.rows.length)[k]?).getD [] = _
  rw [midr_get (by rw [S.rl]; exact hk)]
  by_cases e : k = r
  · rw [if_pos e, if_pos e]; rfl
  · rw [if_neg e, if_neg e, if_pos (by rw [S.rl]; exact hk)]; rfl
theorem piv_Piv (Q : Gd X0 m N g s) {r c : Nat} (hr : r < m) (hc : c < N) (h : s.x r c ≠ 0) : Lp.Piv m N s.st (s.piv r c).st r c (if s.x r c < 0 then -1 else 1) := by
  have S := Q.S
  refine ⟨hr, hc, by split <;> simp, by show 0 < _ * s.x r c; split <;> omega, fun k hk => ?_, gt_stp s r c c, fun j hj => ?_, fun k hk hne j hj => ?_⟩
  · show (s.basis.set r c).getD k 0 = if k = r then c else s.b k
    rw [List.getD_eq_getElem?_getD]
    by_cases e : k = r
    · subst e; rw [List.getElem?_set_self (by rw [S.bl]; exact hk), if_pos rfl]; rfl
    · rw [List.getElem?_set_ne (fun q => e q.symm), if_neg e, TS.b, List.getD_eq_getElem?_getD]
  · show gt ((s.piv r c).row r) j = _
    rw [piv_row S hr, if_pos rfl, gt_stp]; rfl
  · show gt ((s.piv r c).row k) j = _
    rw [piv_row S hk, if_neg hne, gt_chg S.s0 (by rw [S.len hk]; exact hj) (by rw [stp_len S hr]; exact hj), gt_stp, gt_stp]; rfl
theorem Gd.piv (Y : Sys X0 m N w g) (Q : Gd X0 m N g s) {r c : Nat} (hr : r < m) (hc : c < N) (h : s.x r c ≠ 0) : Gd X0 m N g (s.piv r c) := by
  have S := Q.S
  have P := piv_Piv Q hr hc h
  refine gd_of Y ?_ (fun row hrow => ?_) ?_ S.wN (Q.I.piv P) ?_ (Q.T.piv Q.I P fun j hj => ?_)
  · show (midr s (stp s r c) r c s.rows.length).length = m
    rw [midr_len, S.rl]
  · obtain ⟨k, hk, e⟩ := List.mem_iff_getElem.mp hrow
    have hk' : k < m := by
      have : k < (midr s (stp s r c) r c s.rows.length).length := hk
      rwa [midr_len, S.rl] at this
    have e3 : (s.piv r c).row k = row := TS.row_of (by rw [List.getElem?_eq_getElem hk, e])
    rw [← e3, piv_row S hk']
    split
    · exact stp_len S hr
    · rw [chg_len (by rw [S.len hk', stp_len S hr]), S.len hk']
  · show (s.basis.set r c).length = m
    rw [List.length_set, S.bl]
  · show (chg s.scale s.top (stp s r c) c).length = N
    rw [chg_len (by rw [Q.tl, stp_len S hr]), Q.tl]
  · show gt (chg s.scale s.top (stp s r c) c) j = _
    rw [gt_chg S.s0 (by rw [Q.tl]; exact hj) (by rw [stp_len S hr]; exact hj), gt_stp, gt_stp]; rfl
/-! ### the climb -/
/-- the end of a climb -/
def Ends (s : TS) (m : Nat) : Option Nat → Prop
  | none => ∀ j, j < s.w → 0 ≤ gt s.top j
  | some c => c < s.w ∧ gt s.top c < 0 ∧ ∀ k, k < m → s.x k c ≤ 0
/-- one step of the climb -/
def Step (m N : Nat) (s s' : TS) : Prop := ∃ r c, RisesTo s (some c) ∧ LeavesTo s c (N - 1) m (some r) ∧ s' = s.piv r c
theorem Step.up (Y : Sys X0 m N w g) {s s' : TS} (Q : Gd X0 m N g s) (hw : s.w = w) {r c : Nat} (h1 : RisesTo s (some c)) (h2 : LeavesTo s c (N - 1) m (some r)) : Lp.Up m N w (N - 1) s.st (s.piv r c).st (gt s.top) (gt (s.piv r c).top) r c := by
  have S := Q.S
  obtain ⟨a1, a2, a3⟩ := h1
  obtain ⟨b1, b2, b3⟩ := h2
  have hc : c < N := by have := Y.wN; omega
  have P := piv_Piv Q b1 hc (by omega)
  rw [if_neg (by omega)] at P
  refine ⟨P, by omega, a2, a3, fun k hk hp => b3 k hk hp, fun j hj => ?_⟩
  show gt (chg s.scale s.top (stp s r c) c) j = _
  rw [gt_chg S.s0 (by rw [Q.tl]; exact hj) (by rw [stp_len S b1]; exact hj), gt_stp, gt_stp, if_neg (by omega)]; rfl
end Mi
end L2

/-! The table: the settling, the start. -/
namespace L2
namespace Mi
open PySem PySem.Spec PyProof.Rows
variable {G : Sig}
variable {X0 : Nat → Nat → Int} {m N w : Nat} {g : Nat → Int} {s : TS}
/-! ### settle -/
theorem Gd.d0 (Q : Gd X0 m N g s) : s.scale ≠ 0 := Q.S.s0
end Mi
end L2

/-! The table: how it begins. -/
namespace L2
namespace Mi
open PySem PySem.Spec PyProof.Rows
variable {G : Sig}
def sgs (sides : List Int) : List Int := sides.map fun x => if x < 0 then -1 else 1
def unl (m k : Nat) : List Int := (List.range m).map fun i => if k = i then 1 else 0
def irow (rows : List (List Int)) (sides : List Int) (k : Nat) : List Int := scl (gt (sgs sides) k) (rows.getD k []) ++ unl rows.length k ++ [((gt sides k).natAbs : Int)]
def ini (rows : List (List Int)) (sides : List Int) (w : Nat) : TS := ⟨w, sgs sides, (List.range rows.length).map (irow rows sides), (List.range rows.length).map fun k => w + k, 1, []⟩
theorem satt_app {f : Str} {as : List Str} {M0 L : List O} {fs : List (Str × T)} {c : Str} {v : T} (h : HasC G c as) (hf : f ∈ as) (hl : fs.length < 1000) : sattT G c f (.obj M0.length) v (M0 ++ (.ins c fs :: L)) = some (M0 ++ (.ins c (putA f v fs) :: L)) := by
  rw [satt_of h hf (by rw [List.getElem?_append_right (by omega), Nat.sub_self]; rfl) hl]
  have := set_app M0 (.ins c fs :: L) 0 (.ins c (putA f v fs))
  rw [Nat.add_zero] at this
  rw [this]; rfl
theorem run_nx2 {d : MD} {ts : List T} {M : Mem} {σ : En} {M1 : Mem} (h : ts.length = d.ps.length) (hl : M1.take M.length ≠ M) (e : exSs G d.body (startE d.N ts) M = some (.nx σ M1)) : runD G d ts M = some (.non, M1) := by
  rw [runD_def d ts M h, e]
  show some (fin d.sl M .non M1) = _
  unfold fin
  rw [if_neg fun q => hl q.2]
end Mi
end L2

/-! The table: what it tells. -/
namespace L2
namespace Mi
open PySem PySem.Spec PyProof.Rows
variable {G : Sig}
def tupQ (qs : List Rat) : T := .tup (qs.map ratT)
theorem pure_map {α : Type} {f : α → T} (h : ∀ a, pureT (f a) = true) : ∀ l : List α, pureTs (l.map f) = true
  | [] => rfl
  | a :: l => by rw [List.map_cons, pureTs, h a, pure_map h l]; rfl
def gq (l : List Rat) (k : Nat) : Rat := l.getD k 0
theorem lst_last (M : List O) (o : O) : (M ++ [o])[M.length]? = some o := by rw [List.getElem?_append_right (by omega), Nat.sub_self]; rfl
theorem lst_set (M : List O) (o o' : O) : (M ++ [o]).set M.length o' = M ++ [o'] := by rw [List.set_append_right _ _ (by omega), Nat.sub_self]; rfl
theorem rep_fl (x : T) (n : Nat) : (List.replicate n [x]).flatten = List.replicate n x := by
  induction n with
  | zero => rfl
  | succ n ih => rw [List.replicate_succ, List.flatten_cons, ih]; rfl
variable {m N : Nat}
def Inj (s : TS) (m : Nat) : Prop := ∀ k l, k < m → l < m → s.b k = s.b l → k = l
end Mi
end L2

/-! What a right answer of a program is; the last table gives one. -/
namespace L2
namespace Mi
/-! ### sums of rationals -/
/-! ### answers -/
inductive Ans where
  | none (y : List Rat) | any (x r : List Rat) | most (x y : List Rat)
/-- all over one divisor -/
def Over (D B : Nat) (qs : List Rat) : Prop := ∀ q ∈ qs, ∃ z : Int, q = (z : Rat) / ((D : Int) : Rat) ∧ z.natAbs ≤ B
/-! ### the last table -/
section
variable {rows : List (List Int)} {sides : List Int} {w m : Nat}
theorem unl_len (m k : Nat) : (unl m k).length = m := by simp [unl]
def X0 (rows : List (List Int)) (sides : List Int) (i j : Nat) : Int := gt (irow rows sides i) j
theorem X0_u (hm : rows.length = m) (hw : ∀ r ∈ rows, r.length = w) {i k : Nat} (hi : i < m) (hk : k < m) : X0 rows sides i (w + k) = if i = k then 1 else 0 := by
  have hr : (rows.getD i []).length = w := by
    rw [List.getD_eq_getElem?_getD, List.getElem?_eq_getElem (by omega)]
    exact hw _ (List.getElem_mem ..)
  unfold X0 irow
  rw [gt_append, if_pos (by rw [List.length_append, scl_len, unl_len]; omega), gt_append, if_neg (by rw [scl_len]; omega), scl_len, hr, unl, gt_range _ _ _ (by omega), Nat.add_sub_cancel_left]
theorem sg_mul (hs : sides.length = m) {i : Nat} (hi : i < m) : gt (sgs sides) i * gt sides i = ((gt sides i).natAbs : Int) ∧ (gt (sgs sides) i = 1 ∨ gt (sgs sides) i = -1) := by
  rw [sgs, gt_map _ _ _ (by omega)]
  split
  · exact ⟨by omega, .inr rfl⟩
  · exact ⟨by omega, .inl rfl⟩
variable {g : Nat → Int} {s : TS}
variable {N : Nat}
theorem Gd.inj {X : Nat → Nat → Int} (Q : Gd X m N g s) : Inj s m := fun k l hk hl h => Q.I.inj hk hl h
variable (hm : rows.length = m) (hw : ∀ r ∈ rows, r.length = w) (hs : sides.length = m)
include hm hw hs
end
end Mi
end L2

/-! maximize tells a right answer. -/
namespace L2
namespace Mi
open PySem PySem.Spec PyProof.Rows
variable {G : Sig}
theorem cut_lo (ts : List T) (k : Nat) : cutT ts none (some (k : Int)) = ts.take k := by
  unfold cutT
  rw [HT.sIx_none, HT.sIx_nat, List.drop_zero, Nat.sub_zero]
  by_cases h : k ≤ ts.length
  · rw [Nat.min_eq_left h]
  · rw [Nat.min_eq_right (by omega), List.take_of_length_le (Nat.le_refl _), List.take_of_length_le (by omega)]
theorem cut_hi (ts : List T) (k : Nat) : cutT ts (some (k : Int)) none = ts.drop k := by
  unfold cutT
  rw [HT.sIx_none, HT.sIx_nat]
  by_cases h : k ≤ ts.length
  · rw [Nat.min_eq_left h, List.take_of_length_le (by rw [List.length_drop]; exact Nat.le_refl _)]
  · rw [Nat.min_eq_right (by omega), Nat.sub_self, List.take_zero, List.drop_eq_nil_of_le (by omega)]
/-! ### without rows -/
end Mi
end L2

/-! maximize: all joined. -/
namespace L2
namespace Mi
open PySem PySem.Spec PyProof.Rows
variable {G : Sig}
structure MaxIn (rows : List (List Int)) (sides gains : List Int) (C Cg : Nat) : Prop where
  sl : sides.length = rows.length
  rw_ : ∀ r ∈ rows, r.length = gains.length
  few : rows.length + gains.length < 1000
  cr : ∀ r ∈ rows, ∀ x ∈ r, x.natAbs ≤ C
  cs : ∀ x ∈ sides, x.natAbs ≤ C
  c1 : 1 ≤ C
  cg : ∀ x ∈ gains, x.natAbs ≤ Cg
  g1 : 1 ≤ Cg
  big : (rows.length + 1) * (Cg * (rows.length * C) ^ rows.length) < 2 ^ KB
theorem gt_le {l : List Int} {C : Nat} (h : ∀ x ∈ l, x.natAbs ≤ C) (k : Nat) : (gt l k).natAbs ≤ C := by
  unfold gt
  rw [List.getD_eq_getElem?_getD]
  cases e : l[k]? with
  | none => simp
  | some x => exact h x (List.mem_of_getElem? e)
section
variable {rows : List (List Int)} {sides gains : List Int} {C Cg : Nat}
theorem MaxIn.ini (I : MaxIn rows sides gains C Cg) {i j : Nat} (hi : i < rows.length) : (X0 rows sides i j).natAbs ≤ C := by
  have hr : ∀ x ∈ rows.getD i [], x.natAbs ≤ C := by
    rw [List.getD_eq_getElem?_getD, List.getElem?_eq_getElem hi]
    exact I.cr _ (List.getElem_mem ..)
  have c1 := I.c1
  unfold X0
  refine gt_le (fun x hx => ?_) j
  unfold irow at hx
  rcases List.mem_append.mp hx with hx | hx
  · rcases List.mem_append.mp hx with hx | hx
    · obtain ⟨y, hy, rfl⟩ := List.mem_map.mp hx
      have := (sg_mul (m := rows.length) I.sl hi).2
      rw [Int.natAbs_mul, Lp.e_ab this, Nat.one_mul]
      exact hr y hy
    · obtain ⟨y, hy, rfl⟩ := List.mem_map.mp hx
      split <;> simp <;> omega
  · rw [List.mem_singleton.mp hx]
    simp only [Int.natAbs_natCast]
    exact gt_le I.cs i
theorem MaxIn.C_small (I : MaxIn rows sides gains C Cg) (h : rows ≠ []) : C < 2 ^ KB ∧ Cg < 2 ^ KB ∧ (rows.length * C) ^ rows.length < 2 ^ KB := by
  have hm : 0 < rows.length := List.length_pos_iff.mpr h
  have b := I.big
  have c1 := I.c1
  have g1 := I.g1
  have hmC : C ≤ rows.length * C := Nat.le_mul_of_pos_left C hm
  have h1 : C ≤ (rows.length * C) ^ rows.length := Nat.le_trans hmC (Nat.le_self_pow (by omega) _)
  have h2 : (rows.length * C) ^ rows.length ≤ Cg * (rows.length * C) ^ rows.length := Nat.le_mul_of_pos_left _ g1
  have h3 : Cg * (rows.length * C) ^ rows.length ≤ (rows.length + 1) * (Cg * (rows.length * C) ^ rows.length) := Nat.le_mul_of_pos_left _ (by omega)
  have h4 : Cg ≤ Cg * (rows.length * C) ^ rows.length := Nat.le_mul_of_pos_right _ (Nat.lt_of_lt_of_le c1 h1)
  omega
theorem MaxIn.sys (I : MaxIn rows sides gains C Cg) (h : rows ≠ []) {g : Nat → Int} (hg : ∀ j, (g j).natAbs ≤ Cg) : Sys (X0 rows sides) rows.length (gains.length + rows.length + 1) gains.length g := by
  have hf := I.few
  refine ⟨by omega, by omega, by omega, fun i hi k hk => X0_u rfl I.rw_ hi hk, C, Cg, fun i hi j _ => I.ini hi, fun j _ => hg j, (I.C_small h).2.2, ?_⟩
  have := I.big
  rw [Nat.add_mul, Nat.one_mul] at this
  exact this
end
/-- the gains of the first and of the second climb -/
def g1 (w m : Nat) : List Int := List.replicate w 0 ++ List.replicate m (-1)
def g2 (gains : List Int) (m : Nat) : List Int := gains ++ List.replicate m 0
theorem gt_rep (n : Nat) (x : Int) (k : Nat) : gt (List.replicate n x) k = if k < n then x else 0 := by
  unfold gt
  rw [List.getD_eq_getElem?_getD, List.getElem?_replicate]
  split <;> rfl
end Mi
end L2

/-! maximize. -/
namespace L2
namespace Mi
open PySem PySem.Spec PyProof.Rows
variable {G : Sig}
end Mi
end L2

/-! The law's own judging of answers of programs. -/
namespace L2
namespace Mi
open PySem PySem.Spec PyProof.Rows
variable {G : Sig}
def InD (D B : Nat) (q : Rat) : Prop := ∃ z : Int, q = (z : Rat) / ((D : Int) : Rat) ∧ z.natAbs ≤ B
section
variable {D B B' : Nat} {q r : Rat}
theorem InD.sz (h : InD D B q) (hD : 0 < D) : q.num.natAbs ≤ B ∧ q.den ≤ D := by
  obtain ⟨z, rfl, hz⟩ := h
  have := quo_num (n := z) (d := (D : Int)) (by omega)
  refine ⟨Nat.le_trans this.1 hz, by simpa using this.2⟩
theorem InD.add (h : InD D B q) (h' : InD D B' r) : InD D (B + B') (q + r) := by
  obtain ⟨z, rfl, hz⟩ := h
  obtain ⟨y, rfl, hy⟩ := h'
  refine ⟨z + y, ?_, Nat.le_trans (Int.natAbs_add_le _ _) (Nat.add_le_add hz hy)⟩
  rw [Rat.intCast_add]; grind
theorem InD.mul (h : InD D B q) {A : Nat} {a : Int} (ha : a.natAbs ≤ A) : InD D (A * B) ((a : Rat) * q) := by
  obtain ⟨z, rfl, hz⟩ := h
  refine ⟨a * z, ?_, by rw [Int.natAbs_mul]; exact Nat.mul_le_mul ha hz⟩
  rw [Rat.intCast_mul]; grind
theorem InD.mono (h : InD D B q) (hB : B ≤ B') : InD D B' q := by
  obtain ⟨z, e, hz⟩ := h; exact ⟨z, e, by omega⟩
theorem InD.zero (hD : 0 < D) : InD D B 0 := ⟨0, by
  have : ((D : Int) : Rat) ≠ 0 := cast_ne (by omega)
  have h0 : ((0 : Int) : Rat) = 0 := rfl
  rw [h0]; grind, by simp⟩
theorem InD.sq (h : InD D B q) (hD : 0 < D) {k : Nat} (h1 : D < 2 ^ k) (h2 : B < 2 ^ k) : Sq k q := by
  obtain ⟨a, b⟩ := h.sz hD
  refine ⟨Nat.lt_of_le_of_lt a h2, ?_⟩
  unfold Sm
  simp only [Int.natAbs_natCast]
  omega
theorem Over.at (h : Over D B [q]) : InD D B q := h q List.mem_cons_self
end
/-- the sizes that the law's numbers can have -/
structure LOk (D B : Nat) : Prop where
  d0 : 0 < D
  dd : D * D < 2 ^ 1900
  bb : B < 2 ^ 50000000
theorem LOk.dl {D B : Nat} (h : LOk D B) : D < 2 ^ 60000000 :=
  Nat.lt_of_le_of_lt (Nat.le_mul_of_pos_left _ h.d0) (Nat.lt_of_lt_of_le h.dd (Nat.pow_le_pow_right (by decide) (by decide)))
theorem LOk.sq {D B : Nat} (h : LOk D B) {q : Rat} (hq : InD D B q) : Sq 60000000 q := hq.sq h.d0 h.dl (Nat.lt_of_lt_of_le h.bb (Nat.pow_le_pow_right (by decide) (by decide)))
@[simp] theorem isi_tup (ts : List T) (M : Mem) : isiT M "tuple" (.tup ts) = some true := rfl
@[simp] theorem isi_int (i : Int) (M : Mem) : isiT M "int" (.int i) = some true := rfl
@[simp] theorem isi_nT (i : Nat) (M : Mem) : isiT M "int" (nT i) = some true := rfl
@[simp] theorem cmp_gt_n0 (a : Nat) (M : Mem) : cmpT .Gt (nT a) (.int 0) M = some (decide (0 < a)) := by
  have : decide ((0 : Int) < (a : Int)) = decide (0 < a) := by simp
  rw [← this]; rfl
end Mi
end L2

/-! The law's own judging: rows, sums, fits, columns. -/
namespace L2
namespace Mi
open PySem PySem.Spec PyProof.Rows
variable {G : Sig}
theorem rngL_map (n : Nat) : rngL 0 (n : Int) = (List.range n).map nT := by
  unfold rngL
  rw [show ((n : Int) - 0).toNat = n by omega]
  apply List.map_congr_left
  intro i _
  rw [Int.zero_add]; rfl
@[simp] theorem sof_tupQ (M : Mem) (qs : List Rat) : sof M (tupQ qs) = some (qs.map ratT) := rfl
@[simp] theorem grdOf_tupQ (qs : List Rat) (us : List T) : grdOf (tupQ qs) us = [] := rfl
@[simp] theorem isi_tupQ (qs : List Rat) (M : Mem) : isiT M "tuple" (tupQ qs) = some true := rfl
@[simp] theorem cmp_eq_n0 (a : Nat) (M : Mem) : cmpT .Eq (nT a) (.int 0) M = some (decide (a = 0)) := cmp_eq_nT a 0 M
/-- what the law's sums ask of sizes: w columns, m rows -/
structure LSz (rows : List (List Int)) (sides gains : List Int) (D A B : Nat) : Prop where
  rw_ : ∀ r ∈ rows, r.length = gains.length
  sl : sides.length = rows.length
  few : rows.length + gains.length < 2 ^ 18
  ra : ∀ r ∈ rows, ∀ x ∈ r, x.natAbs ≤ A
  sa : ∀ x ∈ sides, x.natAbs ≤ A
  ga : ∀ x ∈ gains, x.natAbs ≤ A
  a1 : 1 ≤ A
  b1 : 1 ≤ B
  ok : LOk D ((rows.length + gains.length) * (A * B))
theorem len_fl (ts : List T) (M : Mem) : biT .len [.fl ts] M = some (nT ts.length, M) := len_sof rfl
end Mi
end L2

/-! The law's own judging: right answers. -/
namespace L2
namespace Mi
open PySem PySem.Spec PyProof.Rows
variable {G : Sig}
theorem rep_il (n : Nat) (x : Int) (M : Mem) (h : n < 2 ^ 20) : binT .Mult false (.fl [.int x]) (nT n) M = some (ilT (List.replicate n x), M) := by
  rw [bin_rep false (by simp; omega) (by omega), rep_fl]
  show some (T.fl _, _) = _
  rw [← List.map_replicate]; rfl
end Mi
end L2

/-! The law's programs. -/
namespace L2
namespace Mi
open PySem PySem.Spec PyProof.Rows
variable {G : Sig}
def IsCell (F : Fn) : Prop := ∀ (ns : List Int) (k : Nat) (M : Mem), F [.sc ns, nT k] M = some (.int (gt ns k), M)
theorem sp_cellN : IsCell (runD G Lib._law_cell) := fun ns k M => sp_cell ns k M
theorem pos_of_all {ss : List Int} (h : ∀ s ∈ ss, 0 < s) (cell : Int) (i : Nat) : 0 ≤ gt (parts cell ss) i ∧ (i < ss.length → gt (parts cell ss) i < gt ss i) := by
  by_cases hi : i < ss.length
  · have := parts_at (cell := cell) (i := i) (s := ss[i]) h (List.getElem?_eq_getElem hi)
    have e : gt ss i = ss[i] := by unfold gt; rw [List.getD_eq_getElem?_getD, List.getElem?_eq_getElem hi]; rfl
    exact ⟨this.2.1, fun _ => by rw [e]; exact this.2.2⟩
  · rw [gt_out _ _ (by rw [parts_len]; omega)]
    exact ⟨Int.le_refl _, fun h => absurd h hi⟩
structure ProgOk (rows : List (List Int)) (sides : List Int) (w : Nat) : Prop where
  sl : sides.length = rows.length
  r : ∀ k r, rows[k]? = some r → r.length = w ∧ ∀ x ∈ r, x.natAbs ≤ 6 * 4 ^ k
  s : ∀ k x, sides[k]? = some x → x.natAbs ≤ 600 * 4 ^ k
theorem seal_lst {M : Mem} {n f i : Nat} {ts : List T} (hi : n ≤ i) (e : M[i]? = some (.lst ts)) (h : pureTs ts = true) : sealT M n (f + 1) (.obj i) = some (.fl ts) := by
  have hm : ∀ ts : List T, pureTs ts = true → ts.mapM (sealT M n f) = some ts := by
    intro ts
    induction ts with
    | nil => intro _; rfl
    | cons t ts ih =>
      intro h
      simp only [pureTs, Bool.and_eq_true] at h
      rw [List.mapM_cons, seal_pure h.1, ih h.2]
      rfl
  unfold sealT
  rw [if_neg (by simp [pureT])]
  simp only [if_pos hi, e]
  rw [hm ts h]
  rfl
end Mi
end L2

/-! maximize before the law's judging. -/
namespace L2
namespace Mi
open PySem PySem.Spec PyProof.Rows
variable {G : Sig}
mutual
theorem eqT_refl : ∀ t : T, okT t = true → eqT t t = true
  | .non, _ => rfl
  | .bl b, _ => by simp [eqT]
  | .int i, _ => by simp [eqT]
  | .str x, _ => by simp [eqT]
  | .tup xs, h => eqTs_refl xs h
  | .fl xs, h => eqTs_refl xs h
  | .fd _ _ _, h => by simp [okT] at h
  | .sc _, h => by simp [okT] at h
  | .obj _, h => by simp [okT] at h
theorem eqTs_refl : ∀ t : List T, okTs t = true → eqTs t t = true
  | [], _ => rfl
  | x :: xs, h => by
    simp only [okTs, Bool.and_eq_true] at h
    simp only [eqTs, Bool.and_eq_true]
    exact ⟨eqT_refl x h.1, eqTs_refl xs h.2⟩
end
mutual
theorem okT_pure : ∀ t : T, okT t = true → pureT t = true
  | .non, _ => rfl
  | .bl b, _ => rfl
  | .int i, _ => rfl
  | .str x, _ => rfl
  | .tup xs, h => okTs_pure xs h
  | .fl xs, h => okTs_pure xs h
  | .fd _ _ _, h => by simp [okT] at h
  | .sc _, h => by simp [okT] at h
  | .obj _, h => by simp [okT] at h
theorem okTs_pure : ∀ t : List T, okTs t = true → pureTs t = true
  | [], _ => rfl
  | x :: xs, h => by
    simp only [okTs, Bool.and_eq_true] at h
    simp only [pureTs, Bool.and_eq_true]
    exact ⟨okT_pure x h.1, okTs_pure xs h.2⟩
end
theorem scL_ok {t : T} (h : okT t = true) : scL t = t := by
  cases t <;> first | rfl | (simp [okT] at h)
theorem eqv_ok {x y : T} (M : Mem) (h1 : okT x = true) (h2 : okT y = true) (d1 : depT x ≤ 60) (d2 : depT y ≤ 60) : eqv? M x y = some (eqT x y) := by
  unfold eqv?
  rw [scL_ok h1, scL_ok h2, seal_pure (okT_pure x h1), seal_pure (okT_pure y h2)]
  simp only [Option.bind_some]
  rw [if_pos ⟨h1, h2, d1, d2⟩]
theorem eqv_self {x : T} (M : Mem) (h : okT x = true) (hd : depT x ≤ 60) : eqv? M x x = some true := by
  rw [eqv_ok M h h hd hd, eqT_refl x h]
/-- maximize and the law agree when sizes do not matter -/
structure Siz (rows : List (List Int)) (sides gains : List Int) (C Cg E : Nat) : Prop where
  i : MaxIn rows sides gains C Cg
  gC : Cg ≤ C
  e1 : (rows.length * C) ^ rows.length ≤ 2 ^ E
  e2 : E ≤ 949
  e3 : C ≤ 2 ^ 1000000
theorem bits_sm {z : Int} (h : Builtin.Int.intBits z ≤ 1048576) : Sm 1048577 z := by
  unfold Builtin.Int.intBits at h
  unfold Sm
  by_cases h0 : z.natAbs = 0
  · rw [h0]; exact Nat.pow_pos (by decide)
  · have := Nat.lt_log2_self (n := z.natAbs)
    refine Nat.lt_of_lt_of_le this (Nat.pow_le_pow_right (by decide) ?_)
    first | omega | (simp_all; omega)
theorem cell_sm {ns : List Int} (hb : ∀ z ∈ ns, Builtin.Int.intBits z ≤ 1048576) (k : Nat) : Sm 1100000 (gt ns k) := by
  unfold gt
  by_cases h : k < ns.length
  · rw [List.getD_eq_getElem?_getD, List.getElem?_eq_getElem h]
    exact (bits_sm (hb _ (List.getElem_mem h))).mono (by decide)
  · rw [List.getD_eq_getElem?_getD, List.getElem?_eq_none (by omega)]
    exact Nat.pow_pos (by decide)
end Mi
end L2

/-! The program's judging of answers of programs. -/
namespace L2
namespace Mi
open PySem PySem.Spec PyProof.Rows
variable {G : Sig}
structure POk (D B : Nat) : Prop where
  d0 : 0 < D
  dd : D < 2 ^ 20000000
  bb : B < 2 ^ 20000000
theorem POk.sq {D B B' : Nat} (h : POk D B) {q : Rat} (hq : InD D B' q) (hB : B' ≤ B) : Sq 20000000 q := hq.sq h.d0 h.dd (Nat.lt_of_le_of_lt hB h.bb)
end Mi
end L2

/-! Answers that the law changes or draws. -/
namespace L2
namespace Mi
open PySem PySem.Spec PyProof.Rows
variable {G : Sig}
@[simp] theorem bin_mod_nT (a b : Nat) (hb : 0 < b) (tr : Bool) (M : Mem) : binT .Mod tr (nT a) (nT b) M = some (nT (a % b), M) := by
  unfold nT
  rw [bin_mod (by omega), fmod_nat]
end Mi
end L2

/-! Frames: as values; the law's frames and loads. -/
namespace L2
namespace Mi
open PySem PySem.Spec PyProof.Rows
variable {G : Sig}
abbrev Vec := Int × Int
structure Mb where
  i : Nat
  j : Nat
  pull : Option Int
  push : Option Int
structure Fm where
  pts : List Vec
  mbs : List Mb
  pins : List Nat
def vT (p : Vec) : T := .tup [.int p.1, .int p.2]
def oT : Option Int → T
  | none => .non
  | some x => .int x
def mT (m : Mb) : T := .tup [nT m.i, nT m.j, oT m.pull, oT m.push]
def vsT (l : List Vec) : T := .tup (l.map vT)
def fmT (f : Fm) : T := .tup [vsT f.pts, .tup (f.mbs.map mT), .tup (f.pins.map nT)]
def gv (l : List Vec) (k : Nat) : Vec := l.getD k (0, 0)
@[simp] theorem sof_vs (M : Mem) (l : List Vec) : sof M (vsT l) = some (l.map vT) := rfl
@[simp] theorem grdOf_vs (l : List Vec) (us : List T) : grdOf (vsT l) us = [] := rfl
theorem ix_vs {l : List Vec} {k : Nat} (h : k < l.length) (M : Mem) : ixT (vsT l) (nT k) M = some (vT (gv l k)) := by
  unfold nT
  rw [ix_sof (sof_vs M l), atI_n, List.getElem?_map, gv, List.getD_eq_getElem?_getD, List.getElem?_eq_getElem h]; rfl
@[simp] theorem ix_v0 (p : Vec) (M : Mem) : ixT (vT p) (.int 0) M = some (.int p.1) := by unfold vT; rw [ix_tup, at_0]
@[simp] theorem ix_v1 (p : Vec) (M : Mem) : ixT (vT p) (.int 1) M = some (.int p.2) := by unfold vT; rw [ix_tup, at_1]
theorem eqv_v (p q : Vec) (M : Mem) : eqv? M (vT p) (vT q) = some (decide (p = q)) := by
  have e := eqv_ok M (x := vT p) (y := vT q) rfl rfl (by simp [vT, depT, depTs]) (by simp [vT, depT, depTs])
  rw [e]
  obtain ⟨a, b⟩ := p
  obtain ⟨c, d⟩ := q
  simp only [vT, eqT, eqTs, Bool.and_true, Prod.mk.injEq, Option.some.injEq]
  by_cases h1 : a = c <;> by_cases h2 : b = d <;> simp [h1, h2]
def LimOk (o : Option Int) : Prop := ∀ x, o = some x → 0 ≤ x ∧ x ≤ 9
structure FmOk (f : Fm) (n C : Nat) : Prop where
  np : f.pts.length = n
  pc : ∀ p ∈ f.pts, p.1.natAbs ≤ C ∧ p.2.natAbs ≤ C
  mb : ∀ m ∈ f.mbs, m.i < m.j ∧ m.j < n ∧ gv f.pts m.i ≠ gv f.pts m.j
  lim : ∀ m ∈ f.mbs, LimOk m.pull ∧ LimOk m.push
  few : f.mbs.length ≤ 28
  pn : ∀ p ∈ f.pins, p < n
  ps : f.pins.Pairwise (· < ·)
/-! ### points -/
theorem mul_nT (a b : Nat) (h : a < 2 ^ 60) (h' : b < 2 ^ 60) (tr : Bool) (M : Mem) : binT .Mult tr (nT a) (nT b) M = some (nT (a * b), M) := by
  unfold nT
  rw [bin_mul (Sm.mulOk (j := 60) (k := 60) (by unfold Sm; omega) (by unfold Sm; omega) (by decide))]
  congr
/-! ### limits -/
/-- bar, cable, strut -/
def Bcs (a b : Option Int) : Prop := (a = none ∧ b = none) ∨ (a = none ∧ b = some 0) ∨ (a = some 0 ∧ b = none)
end Mi
end L2

/-! The law's frames and loads: members, pins, loads. -/
namespace L2
namespace Mi
open PySem PySem.Spec PyProof.Rows
variable {G : Sig}
@[simp] theorem e_sset (a : ME) (σ : En) (M : Mem) : evE G (.sset a) σ M = (evE G a σ M).bind fun p => (sof p.2 p.1).bind fun ts => (intsOf ts).bind fun ns => if ns.length < 64 then some (.fl ((sortI (ddp ns)).map .int), p.2) else none := by rw [evE]
/-- the members, made from some pairs -/
def MbOk (pts : List Vec) (style : Nat) (m : Mb) : Prop := m.i < m.j ∧ m.j < pts.length ∧ gv pts m.i ≠ gv pts m.j ∧ LimOk m.pull ∧ LimOk m.push ∧ (style = 0 → m.pull = none ∧ m.push = none) ∧ (style = 1 → Bcs m.pull m.push) ∧ (3 ≤ style → m.pull ≠ none ∧ m.push ≠ none)
/-- ascending by the two joints -/
def MLt (a b : Mb) : Prop := a.i < b.i ∨ a.i = b.i ∧ a.j < b.j
theorem rg2_n {a b : Nat} (h : a < 2 ^ 60) (h' : b < 2 ^ 60) : rg2 (nT a) (nT b) = some (rngL (a : Int) (b : Int), []) := rg2_of (rngOk_small (by omega) (by omega) (by omega) (by omega))
theorem rng2_get {a b i : Nat} {z : T} (h : (rngL (a : Int) (b : Int))[i]? = some z) : a + i < b ∧ z = nT (a + i) := by
  have hi := (List.getElem?_eq_some_iff.mp h).1
  have := rngL_get hi
  rw [h] at this
  rw [rngL_len] at hi
  refine ⟨by omega, ?_⟩
  rw [Option.some.inj this]; rfl
/-! ### the frame -/
/-- what a law's frame is like -/
structure LFm (f : Fm) (least style : Nat) (pinned : Bool) : Prop where
  n1 : least ≤ f.pts.length
  n2 : f.pts.length ≤ least + 4
  pc : ∀ p ∈ f.pts, p.1.natAbs ≤ 6 ∧ p.2.natAbs ≤ 6
  mb : ∀ m ∈ f.mbs, MbOk f.pts style m
  few : f.mbs.length ≤ 28
  pw : f.mbs.Pairwise MLt
  pn : ∀ p ∈ f.pins, p < f.pts.length
  ps : f.pins.Pairwise (· < ·)
  pl : f.pins.length ≤ 2
  pf : pinned = false → f.pins = []
/-! ### the load -/
end Mi
end L2

/-! Frames: growths, work, resistance, for vectors. -/
namespace L2
namespace Mi
open PySem PySem.Spec PyProof.Rows
variable {G : Sig}
def KF : Nat := 1000000
def vsub (p q : Vec) : Vec := (p.1 - q.1, p.2 - q.2)
def dotv (p q : Vec) : Int := p.1 * q.1 + p.2 * q.2
def gm (f : Fm) (k : Nat) : Mb := f.mbs.getD k ⟨0, 0, none, none⟩
def spanV (f : Fm) (k : Nat) : Vec := vsub (gv f.pts (gm f k).i) (gv f.pts (gm f k).j)
def gro (f : Fm) (k : Nat) (mo : List Vec) : Int := dotv (spanV f k) (vsub (gv mo (gm f k).i) (gv mo (gm f k).j))
def SmV (k : Nat) (p : Vec) : Prop := Sm k p.1 ∧ Sm k p.2
def SmL (k : Nat) (o : Option Int) : Prop := ∀ x, o = some x → Sm k x
structure FW (f : Fm) (n : Nat) : Prop where
  pl : f.pts.length = n
  n3 : n < 1000
  ml : f.mbs.length < 1000
  mj : ∀ m ∈ f.mbs, m.i < n ∧ m.j < n
  pn : ∀ p ∈ f.pins, p < n
  pnl : f.pins.length < 1000
  sp : ∀ p ∈ f.pts, SmV KF p
  sl : ∀ m ∈ f.mbs, SmL KF m.pull ∧ SmL KF m.push
structure MW (mo : List Vec) (n : Nat) : Prop where
  ml : mo.length = n
  sm : ∀ p ∈ mo, SmV KF p
theorem sm_zero (k : Nat) : Sm k 0 := Nat.pow_pos (by decide)
theorem smv_gv {l : List Vec} {k : Nat} (h : ∀ p ∈ l, SmV k p) (i : Nat) : SmV k (gv l i) := by
  unfold gv
  rw [List.getD_eq_getElem?_getD]
  cases e : l[i]? with
  | none => exact ⟨sm_zero _, sm_zero _⟩
  | some p => exact h p (List.mem_of_getElem? e)
section
variable {f : Fm} {n k : Nat} {mo : List Vec}
theorem SmV.sub {j : Nat} {p q : Vec} (h : SmV j p) (h' : SmV j q) : SmV (j + 1) (vsub p q) := ⟨h.1.sub h'.1, h.2.sub h'.2⟩
theorem FW.span (W : FW f n) (k : Nat) : SmV (KF + 1) (spanV f k) := (smv_gv W.sp _).sub (smv_gv W.sp _)
end
@[simp] theorem sof_tup' (M : Mem) (l : List Mb) : sof M (.tup (l.map mT)) = some (l.map mT) := rfl
@[simp] theorem ix_f0 (f : Fm) (M : Mem) : ixT (fmT f) (.int 0) M = some (vsT f.pts) := by unfold fmT; rw [ix_tup, at_0]
@[simp] theorem ix_f1 (f : Fm) (M : Mem) : ixT (fmT f) (.int 1) M = some (.tup (f.mbs.map mT)) := by unfold fmT; rw [ix_tup, at_1]
@[simp] theorem ix_f2 (f : Fm) (M : Mem) : ixT (fmT f) (.int 2) M = some (.tup (f.pins.map nT)) := by unfold fmT; rw [ix_tup, at_2]
@[simp] theorem ix_m0 (m : Mb) (M : Mem) : ixT (mT m) (.int 0) M = some (nT m.i) := by unfold mT; rw [ix_tup, at_0]
@[simp] theorem ix_m1 (m : Mb) (M : Mem) : ixT (mT m) (.int 1) M = some (nT m.j) := by unfold mT; rw [ix_tup, at_1]
@[simp] theorem ix_m2 (m : Mb) (M : Mem) : ixT (mT m) (.int 2) M = some (oT m.pull) := by unfold mT; rw [ix_tup, at_2]
@[simp] theorem ix_m3 (m : Mb) (M : Mem) : ixT (mT m) (.int 3) M = some (oT m.push) := by unfold mT; rw [ix_tup, at_3]
@[simp] theorem isi_tup_int (i : Int) (M : Mem) : isiT M "tuple" (.int i) = some false := rfl
@[simp] theorem isi_tup_nT (i : Nat) (M : Mem) : isiT M "tuple" (nT i) = some false := rfl
@[simp] theorem cmp_is_oT (o : Option Int) (M : Mem) : cmpT .Is (oT o) .non M = some o.isNone := by cases o <;> rfl
@[simp] theorem cmp_isn_oT (o : Option Int) (M : Mem) : cmpT .IsNot (oT o) .non M = some o.isSome := by cases o <;> rfl
/-! ### the program -/
/-- allowed by the members -/
def AllowM (f : Fm) (mo : List Vec) (k : Nat) : Prop := ((gm f k).pull = none → gro f k mo ≤ 0) ∧ ((gm f k).push = none → 0 ≤ gro f k mo)
def Allow (f : Fm) (mo : List Vec) : Prop := ∀ k, k < f.mbs.length → AllowM f mo k
end Mi
end L2

/-! The law's own growths, work and resistance, for vectors. -/
namespace L2
namespace Mi
open PySem PySem.Spec PyProof.Rows
variable {G : Sig}
@[simp] theorem eqv_vT (p q : Vec) (M : Mem) : eqv? M (vT p) (vT q) = some (decide (p = q)) := eqv_v p q M
theorem eqT_nT (a b : Nat) : eqT (nT a) (nT b) = decide (a = b) := by
  have h := eqv_int (a : Int) (b : Int) []
  have h2 : eqv? [] (T.int (a : Int)) (.int (b : Int)) = some (eqT (nT a) (nT b)) := by
    unfold eqv?
    rfl
  rw [h2] at h
  rw [Option.some.inj h]
  by_cases e : a = b
  · simp [e]
  · simp only [e, decide_false, decide_eq_false_iff_not]; omega
theorem okTs_nT (l : List Nat) : okTs (l.map nT) = true := by
  induction l with
  | nil => rfl
  | cons x l ih => exact (by rw [List.map_cons, okTs, ih]; rfl)
theorem depTs_nT (l : List Nat) : depTs (l.map nT) ≤ 59 := by
  induction l with
  | nil => exact Nat.zero_le _
  | cons x l ih =>
    rw [List.map_cons, depTs]
    have : depT (nT x) = 0 := rfl
    omega
def IsLIntI (F : Fn) : Prop := ∀ (i : Int) (M : Mem), F [.int i] M = some (.bl true, M)
theorem sp_lintI : IsLIntI (runD G Lib._law_is_integer) := by
  intro i M
  have h1 : isiT M "int" (.int i) = some true := rfl
  have h2 : isiT M "bool" (.int i) = some false := rfl
  refine run_same rfl rfl rfl ?_
  simp [Lib._law_is_integer, startE, h1, h2]
end Mi
end L2
namespace L2
namespace Mi
theorem sm_le {k : Nat} {x : Int} (h : x.natAbs < 2 ^ 10) (hk : 10 ≤ k) : Sm k x := Sm.mono (j := 10) (by unfold Sm; omega) hk
theorem LFm.fw {f : Fm} {least style : Nat} {pinned : Bool} (L : LFm f least style pinned) (h : least ≤ 4) : FW f f.pts.length := by
  have n2 := L.n2
  have few := L.few
  refine ⟨rfl, by omega, by omega, fun m hm => ?_, L.pn, by have := L.pl; omega, fun p hp => ?_, fun m hm => ?_⟩
  · obtain ⟨h1, h2, _⟩ := L.mb m hm
    exact ⟨by omega, h2⟩
  · obtain ⟨h1, h2⟩ := L.pc p hp
    exact ⟨sm_le (by omega) (by unfold KF; decide), sm_le (by omega) (by unfold KF; decide)⟩
  · obtain ⟨_, _, _, h4, h5, _⟩ := L.mb m hm
    exact ⟨fun x e => by have := h4 x e; exact sm_le (by omega) (by unfold KF; decide), fun x e => by have := h5 x e; exact sm_le (by omega) (by unfold KF; decide)⟩
end Mi
end L2

/-! Rigid motions. -/
namespace L2
namespace Mi
open PySem PySem.Spec PyProof.Rows
variable {G : Sig}
def crs (p q : Vec) : Int := p.1 * q.2 - p.2 * q.1
def dP (pts : List Vec) (i j : Nat) : Vec := vsub (gv pts i) (gv pts j)
/-- the law's word for it -/
def RigP (pts mo : List Vec) (i j : Nat) : Prop := dotv (dP pts i j) (dP mo i j) = 0 ∧ (dP pts i j = (0, 0) → dP mo i j = (0, 0))
def RigC (pts mo : List Vec) (i j a b : Nat) : Prop := crs (dP pts i j) (dP mo i j) * dotv (dP pts a b) (dP pts a b) = crs (dP pts a b) (dP mo a b) * dotv (dP pts i j) (dP pts i j)
def Rigid (pts mo : List Vec) : Prop := (∀ i j, j < i → i < pts.length → RigP pts mo i j) ∧ ∀ i j a b, j < i → i < pts.length → b < a → a < pts.length → RigC pts mo i j a b
@[simp] theorem cmp_is_tup (ts : List T) (M : Mem) : cmpT .Is (.tup ts) .non M = some false := rfl
theorem MW.gl {mo : List Vec} {n k : Nat} (V : MW mo n) (h : k < n) (M : Mem) : ixT (vsT mo) (nT k) M = some (vT (gv mo k)) := ix_vs (by rw [V.ml]; exact h) M
theorem MW.dP {mo : List Vec} {n : Nat} (V : MW mo n) (i j : Nat) : SmV (KF + 1) (dP mo i j) := (smv_gv V.sm _).sub (smv_gv V.sm _)
/-! ### the law's word -/
end Mi
end L2

/-! Motions of numbers. -/
namespace L2
namespace Mi
open PySem PySem.Spec PyProof.Rows
variable {G : Sig}
abbrev NV := Rat × Rat
def nvT (p : NV) : T := .tup [ratT p.1, ratT p.2]
def nvsT (l : List NV) : T := .tup (l.map nvT)
def gn (l : List NV) (k : Nat) : NV := l.getD k (0, 0)
def nsub (p q : NV) : NV := (p.1 - q.1, p.2 - q.2)
def dotN (p : Vec) (q : NV) : Rat := (p.1 : Rat) * q.1 + (p.2 : Rat) * q.2
def SqV (k : Nat) (p : NV) : Prop := Sq k p.1 ∧ Sq k p.2
structure NW (mo : List NV) (n K : Nat) : Prop where
  ml : mo.length = n
  sm : ∀ p ∈ mo, SqV K p
@[simp] theorem sof_nvs (M : Mem) (l : List NV) : sof M (nvsT l) = some (l.map nvT) := rfl
@[simp] theorem grdOf_nvs (l : List NV) (us : List T) : grdOf (nvsT l) us = [] := rfl
@[simp] theorem ix_n0 (p : NV) (M : Mem) : ixT (nvT p) (.int 0) M = some (ratT p.1) := by unfold nvT; rw [ix_tup, at_0]
@[simp] theorem ix_n1 (p : NV) (M : Mem) : ixT (nvT p) (.int 1) M = some (ratT p.2) := by unfold nvT; rw [ix_tup, at_1]
@[simp] theorem ix_r0 (q : Rat) (M : Mem) : ixT (ratT q) (.int 0) M = some (.int q.num) := by unfold ratT; rw [ix_tup, at_0]
@[simp] theorem ix_r1 (q : Rat) (M : Mem) : ixT (ratT q) (.int 1) M = some (.int (q.den : Int)) := by unfold ratT; rw [ix_tup, at_1]
@[simp] theorem isi_rat (q : Rat) (M : Mem) : isiT M "tuple" (ratT q) = some true := rfl
theorem SqV.sub {j k : Nat} {p q : NV} (h : SqV j p) (h' : SqV k q) : SqV (j + k + 1) (nsub p q) := ⟨h.1.sub h'.1, h.2.sub h'.2⟩
theorem SqV.mono {j k : Nat} {p : NV} (h : SqV j p) (hk : j ≤ k) : SqV k p := ⟨h.1.mono hk, h.2.mono hk⟩
end Mi
end L2

/-! Uses. -/
namespace L2
namespace Mi
open PySem PySem.Spec PyProof.Rows
variable {G : Sig}
def nz (o : Option Int) : Bool := !decide (o = some 0)
theorem InD.neg {D B : Nat} {q : Rat} (h : InD D B q) : InD D B (-q) := by
  obtain ⟨z, rfl, hz⟩ := h
  refine ⟨-z, ?_, by rw [Int.natAbs_neg]; exact hz⟩
  rw [Rat.intCast_neg]; grind
structure ND (mo : List NV) (n D B : Nat) : Prop where
  ml : mo.length = n
  sm : ∀ p ∈ mo, InD D B p.1 ∧ InD D B p.2
theorem ND.at {mo : List NV} {n D B : Nat} (V : ND mo n D B) (hD : 0 < D) (i : Nat) : InD D B (gn mo i).1 ∧ InD D B (gn mo i).2 := by
  unfold gn
  rw [List.getD_eq_getElem?_getD]
  cases e : mo[i]? with
  | none => exact ⟨InD.zero hD, InD.zero hD⟩
  | some p => exact V.sm p (List.mem_of_getElem? e)
/-! ### the law's -/
@[simp] theorem rngOk02 : rngOk 0 2 := rngOk_small (by decide) (by decide) (by decide) (by decide)
end Mi
end L2

/-! What a law reckons of a growth of numbers, step by step. -/
namespace L2
namespace Mi
open PySem PySem.Spec PyProof.Rows
variable {G : Sig}
structure LG (F1 F2 : Fn) (S : Vec) (u v : NV) (D B : Nat) (M : Mem) : Prop where
  a1 : F1 [ratT u.1, ratT (-v.1)] M = some (ratT (u.1 - v.1), M)
  a2 : F1 [ratT u.2, ratT (-v.2)] M = some (ratT (u.2 - v.2), M)
  b1 : F2 [ratT (S.1 : Rat), ratT (u.1 - v.1)] M = some (ratT ((S.1 : Rat) * (u.1 - v.1)), M)
  b2 : F2 [ratT (S.2 : Rat), ratT (u.2 - v.2)] M = some (ratT ((S.2 : Rat) * (u.2 - v.2)), M)
  c1 : F1 [ratT 0, ratT ((S.1 : Rat) * (u.1 - v.1))] M = some (ratT ((S.1 : Rat) * (u.1 - v.1)), M)
  c2 : F1 [ratT ((S.1 : Rat) * (u.1 - v.1)), ratT ((S.2 : Rat) * (u.2 - v.2))] M = some (ratT ((S.1 : Rat) * (u.1 - v.1) + (S.2 : Rat) * (u.2 - v.2)), M)
  t : InD D (2 ^ (KF + 4) * B + 1) (dotN S (nsub u v))
end Mi
end L2

/-! Walks by what must hold behind: rules read off the goal. -/
namespace L2
namespace Mi
open PySem PySem.Spec PyProof.Rows
variable {G : Sig}
def Wp (o : Option R) (Q : R → Prop) : Prop := ∃ r, o = some r ∧ Q r
@[simp] theorem wp_some (r : R) (Q : R → Prop) : Wp (some r) Q ↔ Q r := ⟨fun ⟨_, e, h⟩ => by cases e; exact h, fun h => ⟨r, rfl, h⟩⟩
theorem Wp.mono {o : Option R} {Q Q' : R → Prop} (h : Wp o Q) (hq : ∀ r, Q r → Q' r) : Wp o Q' := let ⟨r, e, q⟩ := h; ⟨r, e, hq r q⟩
/-- what a body must bring -/
def Stp (k : R → Option R) (Q : R → Prop) (J : En → Mem → Prop) : R → Prop
  | .nx σ M => J σ M
  | .ct σ M => J σ M
  | .bk σ M => Wp (k (.nx σ M)) Q
  | .rt t M => Wp (k (.rt t M)) Q
section
variable (k : R → Option R) (Q : R → Prop) (J : En → Mem → Prop) (σ : En) (M : Mem) (t : T)
@[simp] theorem stp_nx : Stp k Q J (.nx σ M) ↔ J σ M := Iff.rfl
@[simp] theorem stp_ct : Stp k Q J (.ct σ M) ↔ J σ M := Iff.rfl
@[simp] theorem stp_bk : Stp k Q J (.bk σ M) ↔ Wp (k (.nx σ M)) Q := Iff.rfl
@[simp] theorem stp_rt : Stp k Q J (.rt t M) ↔ Wp (k (.rt t M)) Q := Iff.rfl
end
theorem wp_fr {tg : MT} {b : List MS} {g : List (Nat × List T)} {xs : List T} {σ : En} {M : Mem} {k : R → Option R} {Q : R → Prop} (I : Nat → En → Mem → Prop) (h0 : I 0 σ M) (hg : ∀ i σ M, I i σ M → Grd g M)
    (hs : ∀ i x σ M, xs[i]? = some x → I i σ M → Wp ((asgT tg x σ).bind fun σ1 => exSs G b σ1 M) (Stp k Q (I (i + 1))))
    (he : ∀ σ M, I xs.length σ M → Wp (k (.nx σ M)) Q) : Wp ((fr G tg b g xs σ M).bind k) Q := by
  induction xs generalizing I σ M with
  | nil => rw [fr_nil (hg _ _ _ h0)]; exact he _ _ h0
  | cons x xs ih =>
    obtain ⟨r, e, q⟩ := hs 0 x σ M rfl h0
    cases ha : asgT tg x σ with
    | none => rw [ha] at e; cases e
    | some σ1 =>
      rw [ha] at e
      simp only [Option.bind_some] at e
      have go : ∀ σ2 M2, I 1 σ2 M2 → Wp ((fr G tg b g xs σ2 M2).bind k) Q := fun σ2 M2 h => ih (fun i => I (i + 1)) h (fun i => hg (i + 1)) (fun i y σ M hy => hs (i + 1) y σ M (by simpa using hy)) (fun σ M h => he σ M (by simpa using h))
      cases r with
      | nx σ2 M2 => rw [fr_nx (hg _ _ _ h0) ha e]; exact go _ _ q
      | ct σ2 M2 => rw [fr_ct (hg _ _ _ h0) ha e]; exact go _ _ q
      | bk σ2 M2 => rw [fr_bk (hg _ _ _ h0) ha e]; exact q
      | rt t M2 => rw [fr_rt (hg _ _ _ h0) ha e]; exact q
/-- the loop as the last thing of a text -/
theorem wp_whl {c : ME} {b : List MS} {k : R → Option R} {Q : R → Prop} (I : Nat → En → Mem → Prop)
    (hs : ∀ n σ M, I n σ M → ∃ v M1, tst (evE G c σ M) = some (v, M1) ∧ (v = false → Wp (k (.nx σ M1)) Q) ∧ (v = true → Wp (exSs G b σ M1) (Stp k Q fun σ M => ∃ n', n' < n ∧ I n' σ M))) :
    ∀ (n : Nat) (σ : En) (M : Mem), I n σ M → Wp ((whl G c b σ M).bind k) Q := by
  intro n
  induction n using Nat.strongRecOn with
  | ind n ih =>
    intro σ M h
    obtain ⟨v, M1, e, hf, ht⟩ := hs n σ M h
    cases v with
    | false => rw [whl_f e]; exact hf rfl
    | true =>
      obtain ⟨r, e2, q⟩ := ht rfl
      rw [whl_eq, e]
      simp only [e2]
      cases r with
      | nx σ2 M2 => obtain ⟨n', hn, h'⟩ := q; exact ih n' hn _ _ h'
      | ct σ2 M2 => obtain ⟨n', hn, h'⟩ := q; exact ih n' hn _ _ h'
      | bk σ2 M2 => exact q
      | rt t M2 => exact q
/-! ### memory behind -/
section
variable (M : Mem) (o p q v : O) (L : List O) (ts us : List T) (x : T)
@[simp] theorem mg0 : (M ++ o :: L)[M.length]? = some o := by rw [List.getElem?_append_right (Nat.le_refl _), Nat.sub_self]; rfl
@[simp] theorem mg1 : (M ++ o :: p :: L)[M.length + 1]? = some p := by rw [List.getElem?_append_right (by omega), Nat.add_sub_cancel_left]; rfl
@[simp] theorem mg2 : (M ++ o :: p :: q :: L)[M.length + 2]? = some q := by rw [List.getElem?_append_right (by omega), Nat.add_sub_cancel_left]; rfl
@[simp] theorem mst0 : (M ++ o :: L).set M.length v = M ++ v :: L := by rw [List.set_append_right _ _ (Nat.le_refl _), Nat.sub_self]; rfl
@[simp] theorem mst1 : (M ++ o :: p :: L).set (M.length + 1) v = M ++ o :: v :: L := by rw [List.set_append_right _ _ (by omega), Nat.add_sub_cancel_left]; rfl
@[simp] theorem mst2 : (M ++ o :: p :: q :: L).set (M.length + 2) v = M ++ o :: p :: v :: L := by rw [List.set_append_right _ _ (by omega), Nat.add_sub_cancel_left]; rfl
@[simp] theorem lof_m0 : lof (M ++ .lst ts :: L) (.obj M.length) = some ts := lof_obj' (mg0 ..)
@[simp] theorem lof_m1 : lof (M ++ o :: .lst ts :: L) (.obj (M.length + 1)) = some ts := lof_obj' (mg1 ..)
@[simp] theorem lof_m2 : lof (M ++ o :: p :: .lst ts :: L) (.obj (M.length + 2)) = some ts := lof_obj' (mg2 ..)
@[simp] theorem sof_m0 : sof (M ++ .lst ts :: L) (.obj M.length) = some ts := sof_obj (mg0 ..)
@[simp] theorem sof_m1 : sof (M ++ o :: .lst ts :: L) (.obj (M.length + 1)) = some ts := sof_obj (mg1 ..)
@[simp] theorem sof_m2 : sof (M ++ o :: p :: .lst ts :: L) (.obj (M.length + 2)) = some ts := sof_obj (mg2 ..)
@[simp] theorem ixo_m0 (i : Int) : ixT (.obj M.length) (.int i) (M ++ .lst ts :: L) = atI ts i := ix_obj (mg0 ..)
@[simp] theorem ixo_m1 (i : Int) : ixT (.obj (M.length + 1)) (.int i) (M ++ o :: .lst ts :: L) = atI ts i := ix_obj (mg1 ..)
@[simp] theorem ixo_m2 (i : Int) : ixT (.obj (M.length + 2)) (.int i) (M ++ o :: p :: .lst ts :: L) = atI ts i := ix_obj (mg2 ..)
theorem app_of {i : Nat} (h : M[i]? = some (.lst ts)) : bmT .append (.obj i) [x] M = if ts.length < 16777216 then some (.non, M.set i (.lst (ts ++ [x]))) else none := by
  unfold bmT
  simp only [h]
@[simp] theorem app_m0 : bmT .append (.obj M.length) [x] (M ++ .lst ts :: L) = if ts.length < 16777216 then some (.non, M ++ .lst (ts ++ [x]) :: L) else none := by rw [app_of _ ts x (mg0 ..), mst0]
@[simp] theorem app_m1 : bmT .append (.obj (M.length + 1)) [x] (M ++ o :: .lst ts :: L) = if ts.length < 16777216 then some (.non, M ++ o :: .lst (ts ++ [x]) :: L) else none := by rw [app_of _ ts x (mg1 ..), mst1]
@[simp] theorem app_m2 : bmT .append (.obj (M.length + 2)) [x] (M ++ o :: p :: .lst ts :: L) = if ts.length < 16777216 then some (.non, M ++ o :: p :: .lst (ts ++ [x]) :: L) else none := by rw [app_of _ ts x (mg2 ..), mst2]
end
/-! ### answers -/
/-- the answer, told by value -/
def Ans1 (t : T) (M : Mem) (r : R) : Prop := ∃ t1 M1, r = .rt t1 (M ++ M1) ∧ sealT (M ++ M1) M.length 6 t1 = some t
theorem run_wp {d : MD} {ts : List T} {M : Mem} {t : T} (h : ts.length = d.ps.length) (hs : d.sl = true) (w : Wp (exSs G d.body (startE d.N ts) M) (Ans1 t M)) : runD G d ts M = some (t, M) := by
  obtain ⟨r, e, t1, M1, rfl, q⟩ := w
  rw [run_rt h e, hs]
  unfold fin
  rw [if_pos ⟨rfl, by simp⟩, q]
theorem ans_pure {t : T} {M M1 : Mem} (h : pureT t = true) : Ans1 t M (.rt t (M ++ M1)) := ⟨t, M1, rfl, seal_pure h⟩
theorem seal_obj {M : Mem} {n i f : Nat} {ts : List T} (hi : n ≤ i) (e : M[i]? = some (.lst ts)) (h : pureTs ts = true) : sealT M n (f + 1) (.obj i) = some (.fl ts) := seal_lst hi e h
theorem ans_obj {ts : List T} {M M1 : Mem} {i : Nat} (hi : M.length ≤ i) (e : (M ++ M1)[i]? = some (.lst ts)) (h : pureTs ts = true) : Ans1 (.fl ts) M (.rt (.obj i) (M ++ M1)) := ⟨.obj i, M1, rfl, seal_obj hi e h⟩
theorem ans_m0 {ts : List T} {M : Mem} {L : List O} (h : pureTs ts = true) : Ans1 (.fl ts) M (.rt (.obj M.length) (M ++ .lst ts :: L)) := ans_obj (Nat.le_refl _) (mg0 ..) h
@[simp] theorem enum_lenT {α : Type} (f : α → T) (l : List α) (i : Nat) : (enumL i (l.map f)).length = l.length := by rw [enumL_len, List.length_map]
@[simp] theorem rng_lenT (n : Nat) : (rngL 0 (n : Int)).length = n := by rw [rngL_len]; omega
/-! ### loops over written lists -/
noncomputable def frk (G : Sig) (tg : MT) (b : List MS) (xs : List T) : R → Option R
  | .nx σ M => fr G tg b [] xs σ M
  | .ct σ M => fr G tg b [] xs σ M
  | .bk σ M => some (.nx σ M)
  | .rt t M => some (.rt t M)
section
variable (tg : MT) (b : List MS) (x : T) (xs : List T) (σ : En) (M : Mem) (t : T) (ifs : MEs) (elt : ME) (step : T → Mem → Option (List T × Mem))
@[simp] theorem frk_nx : frk G tg b xs (.nx σ M) = fr G tg b [] xs σ M := rfl
@[simp] theorem frk_ct : frk G tg b xs (.ct σ M) = fr G tg b [] xs σ M := rfl
@[simp] theorem frk_bk : frk G tg b xs (.bk σ M) = some (.nx σ M) := rfl
@[simp] theorem frk_rt : frk G tg b xs (.rt t M) = some (.rt t M) := rfl
@[simp] theorem fr_nil0 : fr G tg b [] [] σ M = some (.nx σ M) := fr_nil (by simp)
@[simp] theorem fr_cons0 : fr G tg b [] (x :: xs) σ M = ((asgT tg x σ).bind fun σ1 => exSs G b σ1 M).bind (frk G tg b xs) := by
  cases ha : asgT tg x σ with
  | none => unfold fr; rw [forC, if_pos (by simp), ha]; rfl
  | some σ1 =>
    simp only [Option.bind_some]
    cases e : exSs G b σ1 M with
    | none => unfold fr; rw [forC, if_pos (by simp), ha]; simp only [Option.bind_some, e]; rfl
    | some r =>
      cases r with
      | nx σ2 M2 => exact fr_nx (by simp) ha e
      | ct σ2 M2 => exact fr_ct (by simp) ha e
      | bk σ2 M2 => exact fr_bk (by simp) ha e
      | rt t M2 => exact fr_rt (by simp) ha e
@[simp] theorem lcC_nil0 : lcC [] step [] M = some ([], M) := by rw [lcC, if_pos (by simp)]
@[simp] theorem lcC_cons0 : lcC [] step (x :: xs) M = (step x M).bind fun p => (lcC [] step xs p.2).map fun q => (p.1 ++ q.1, q.2) := by rw [lcC, if_pos (by simp)]
@[simp] theorem lcr_nil0 : lcr G tg ifs elt σ [] [] M = some ([], M) := lcC_nil0 ..
@[simp] theorem lcr_cons0 : lcr G tg ifs elt σ [] (x :: xs) M = (stepL G tg ifs elt σ x M).bind fun p => (lcr G tg ifs elt σ [] xs p.2).map fun q => (p.1 ++ q.1, q.2) := lcC_cons0 ..
@[simp] theorem rngL_two : rngL 0 2 = [T.int 0, T.int 1] := rfl
@[simp] theorem rg1_two : rg1 (.int 2) = some ([.int 0, .int 1], []) := by
  rw [rg1_of (rngOk_small (by decide) (by decide) (by decide) (by decide))]; rfl
end
theorem wp_assoc {α β : Type} {x : Option α} {f : α → Option β} {g : β → Option R} {Q : R → Prop} (h : Wp (x.bind fun r => (f r).bind g) Q) : Wp ((x.bind f).bind g) Q := by
  cases x with
  | none => exact h
  | some x => exact h
theorem bin_add_nn (tr : Bool) (a b : Nat) (M : Mem) : binT .Add tr (nT a) (nT b) M = some (nT (a + b), M) := by
  show some (T.int ((a : Int) + (b : Int)), M) = _
  rw [← Int.natCast_add]; rfl
theorem setn_of {i k : Nat} {ts : List T} {v : T} {M : Mem} (h : M[i]? = some (.lst ts)) (hk : k < ts.length) : setT (.obj i) (nT k) v M = some (M.set i (.lst (ts.set k v))) := set_obj h hk
theorem len_m0 {ts : List T} {M : Mem} {L : List O} : biT .len [.obj M.length] (M ++ .lst ts :: L) = some (nT ts.length, M ++ .lst ts :: L) := len_sof (sof_m0 ..)
theorem rep_obj (x : T) (n : Nat) (M : Mem) (h : n ≤ 10000) : binT .Mult true (.fl [x]) (nT n) M = some (.obj M.length, M ++ [.lst (List.replicate n x)]) := by
  show ((lof M (.fl [x])).bind fun a => if i63 (n : Int) ∧ a.length * ((n : Int)).toNat ≤ 16777216 then some (mkL true (List.replicate ((n : Int)).toNat a).flatten M) else none) = _
  simp only [lof, Option.bind_some]
  rw [if_pos ⟨⟨by omega, by omega⟩, by simp; omega⟩, Int.toNat_natCast]
  have : (List.replicate n [x]).flatten = List.replicate n x := by
    induction n with
    | zero => rfl
    | succ n ih => rw [List.replicate_succ, List.flatten_cons, ih (by omega), List.replicate_succ]; rfl
  rw [this]; rfl
end Mi
end L2

/-! Pebbles, plainly: no program in sight. -/
namespace L2
namespace Peb
def sg : Nat → (Nat → Nat) → Nat
  | 0, _ => 0
  | n + 1, f => sg n f + f n
def updf {α : Type} (f : Nat → α) (i : Nat) (v : α) : Nat → α := fun k => if k = i then v else f k
theorem updf_eq {α : Type} (f : Nat → α) (i : Nat) (v : α) : updf f i v i = v := if_pos rfl
theorem updf_ne {α : Type} (f : Nat → α) {i k : Nat} (v : α) (h : k ≠ i) : updf f i v k = f k := if_neg h
theorem sg_congr {f g : Nat → Nat} : ∀ {n : Nat}, (∀ k, k < n → f k = g k) → sg n f = sg n g
  | 0, _ => rfl
  | n + 1, h => by rw [sg, sg, sg_congr (n := n) fun k hk => h k (by omega), h n (by omega)]
theorem sg_le {f g : Nat → Nat} : ∀ {n : Nat}, (∀ k, k < n → f k ≤ g k) → sg n f ≤ sg n g
  | 0, _ => Nat.le_refl _
  | n + 1, h => by
    have := sg_le (n := n) fun k hk => h k (by omega)
    have := h n (by omega)
    rw [sg, sg]; omega
theorem sg_add (f g : Nat → Nat) : ∀ n, sg n (fun k => f k + g k) = sg n f + sg n g
  | 0 => rfl
  | n + 1 => by rw [sg, sg, sg, sg_add f g n]; omega
theorem sg_updf (f : Nat → Nat) (v : Nat) {i : Nat} : ∀ {n : Nat}, i < n → sg n (updf f i v) + f i = sg n f + v
  | 0, h => absurd h (Nat.not_lt_zero _)
  | n + 1, h => by
    rw [sg, sg]
    by_cases e : i = n
    · subst e
      rw [updf_eq, sg_congr (n := i) (f := updf f i v) (g := f) fun k hk => updf_ne f v (by omega)]
      omega
    · have := sg_updf f v (i := i) (n := n) (by omega)
      rw [updf_ne f v (fun q => e q.symm)]
      omega
theorem sg_two (f : Nat → Nat) {i j n : Nat} (hij : i ≠ j) (hi : i < n) (hj : j < n) : f i + f j ≤ sg n f := by
  have h1 := sg_updf f 0 (n := n) hi
  have h2 := sg_updf (updf f i 0) 0 (n := n) hj
  rw [updf_ne f 0 (fun e => hij e.symm)] at h2
  omega
def cardS (n : Nat) (S : Nat → Bool) : Nat := sg n fun k => if S k = true then 1 else 0
def hin (n : Nat) (H : Nat → List Nat) (S : Nat → Bool) : Nat := sg n fun k => if S k = true then (H k).countP S else 0
def inn (P : List (Nat × Nat)) (S : Nat → Bool) : Nat := P.countP fun p => S p.1 && S p.2
def PInd (n : Nat) (P : List (Nat × Nat)) : Prop := ∀ S : Nat → Bool, 2 ≤ cardS n S → inn P S + 3 ≤ 2 * cardS n S
theorem inn_app (P Q : List (Nat × Nat)) (S : Nat → Bool) : inn (P ++ Q) S = inn P S + inn Q S := by unfold inn; exact List.countP_append
theorem inn_one (i j : Nat) (S : Nat → Bool) : inn [(i, j)] S = if (S i && S j) = true then 1 else 0 := by
  unfold inn
  rw [List.countP_singleton]
theorem PInd.left {n : Nat} {P Q : List (Nat × Nat)} (h : PInd n (P ++ Q)) : PInd n P := fun S hS => by
  have := h S hS
  rw [inn_app] at this
  omega
theorem ind_nil (n : Nat) : PInd n [] := fun S hS => by
  show 0 + 3 ≤ _
  omega
structure PInv (n : Nat) (P : List (Nat × Nat)) (fr : Nat → Nat) (H : Nat → List Nat) : Prop where
  two : ∀ k, k < n → fr k + (H k).length = 2
  rng : ∀ k, k < n → ∀ x ∈ H k, x < n
  eq : ∀ S, hin n H S = inn P S
  ind : PInd n P
/-! ### turning an edge -/
def flipE (H : Nat → List Nat) (x y : Nat) : Nat → List Nat := updf (updf H y ((H y).erase x)) x (H x ++ [y])
theorem flip_x (H : Nat → List Nat) (x y : Nat) : flipE H x y x = H x ++ [y] := updf_eq ..
theorem flip_y (H : Nat → List Nat) {x y : Nat} (h : x ≠ y) : flipE H x y y = (H y).erase x := by
  unfold flipE
  rw [updf_ne _ _ (fun e => h e.symm), updf_eq]
theorem flip_o (H : Nat → List Nat) {x y k : Nat} (h1 : k ≠ x) (h2 : k ≠ y) : flipE H x y k = H k := by
  unfold flipE
  rw [updf_ne _ _ h1, updf_ne _ _ h2]
theorem cnt_erase (S : Nat → Bool) (x : Nat) (l : List Nat) (h : x ∈ l) : l.countP S = (l.erase x).countP S + (if S x = true then 1 else 0) := by
  induction l with
  | nil => cases h
  | cons a l ih =>
    by_cases e : a = x
    · subst e
      rw [List.erase_cons_head, List.countP_cons]
    · have hx : x ∈ l := by
        rcases List.mem_cons.mp h with q | q
        · exact absurd q.symm e
        · exact q
      rw [List.erase_cons_tail (by simpa using e), List.countP_cons, List.countP_cons, ih hx]
      omega
theorem hin_flip {n : Nat} {H : Nat → List Nat} {x y : Nat} (S : Nat → Bool) (hxy : x ≠ y) (hx : x < n) (hy : y < n) (hm : x ∈ H y) : hin n (flipE H x y) S = hin n H S := by
  unfold hin
  let f : Nat → Nat := fun k => if S k = true then (H k).countP S else 0
  let a : Nat := if S y = true then ((H y).erase x).countP S else 0
  let b : Nat := if S x = true then (H x ++ [y]).countP S else 0
  have e : sg n (fun k => if S k = true then (flipE H x y k).countP S else 0) = sg n (updf (updf f y a) x b) := sg_congr fun k _ => by
    by_cases h1 : k = x
    · subst h1
      rw [updf_eq, flip_x]
    · by_cases h2 : k = y
      · subst h2
        rw [updf_ne _ _ h1, updf_eq, flip_y _ hxy]
      · rw [updf_ne _ _ h1, updf_ne _ _ h2, flip_o _ h1 h2]
  rw [e]
  have h1 := sg_updf (updf f y a) b hx
  have h2 := sg_updf f a hy
  rw [updf_ne f a hxy] at h1
  have h3 : a + b = f x + f y := by
    simp only [a, b, f]
    rw [cnt_erase S x (H y) hm, List.countP_append, List.countP_singleton]
    cases S x <;> cases S y <;> simp <;> omega
  show _ = sg n f
  omega
theorem flip_len {H : Nat → List Nat} {x y : Nat} (hxy : x ≠ y) (hm : x ∈ H y) (k : Nat) : (flipE H x y k).length + (if k = y then 1 else 0) = (H k).length + (if k = x then 1 else 0) := by
  by_cases h1 : k = x
  · subst h1
    rw [flip_x, if_neg hxy, if_pos rfl, List.length_append]
    simp
  · by_cases h2 : k = y
    · subst h2
      rw [flip_y _ hxy, if_pos rfl, if_neg h1, List.length_erase_of_mem hm]
      have := List.length_pos_of_mem hm
      omega
    · rw [flip_o _ h1 h2, if_neg h1, if_neg h2]
theorem flip_mem {H : Nat → List Nat} {x y k z : Nat} (hxy : x ≠ y) (h : z ∈ flipE H x y k) : z ∈ H k ∨ z = y := by
  by_cases h1 : k = x
  · subst h1
    rw [flip_x] at h
    rcases List.mem_append.mp h with q | q
    · exact .inl q
    · exact .inr (List.mem_singleton.mp q)
  · by_cases h2 : k = y
    · subst h2
      rw [flip_y _ hxy] at h
      exact .inl (List.mem_of_mem_erase h)
    · rw [flip_o _ h1 h2] at h; exact .inl h
/-! ### a way turned -/
def rotW : List Nat → (Nat → List Nat) → (Nat → List Nat)
  | x :: y :: w, H => rotW (y :: w) (flipE H x y)
  | _, H => H
def PLnk (H : Nat → List Nat) : List Nat → Prop
  | x :: y :: w => x ∈ H y ∧ PLnk H (y :: w)
  | _ => True
theorem PLnk.congr {H H' : Nat → List Nat} : ∀ {w : List Nat}, PLnk H w → (∀ z ∈ w.tail, H' z = H z) → PLnk H' w
  | [], _, _ => trivial
  | [_], _, _ => trivial
  | x :: y :: w, h, he => ⟨by rw [he y (by simp)]; exact h.1, PLnk.congr h.2 fun z hz => he z (by simp only [List.tail_cons] at hz ⊢; exact List.mem_cons_of_mem _ hz)⟩
theorem rot_all {n : Nat} : ∀ (w : List Nat) (H : Nat → List Nat) (x l : Nat), (x :: w).Nodup → (∀ z ∈ x :: w, z < n) → PLnk H (x :: w) → (x :: w).getLast? = some l →
    (∀ S, hin n (rotW (x :: w) H) S = hin n H S) ∧ (∀ k, k ∉ x :: w → rotW (x :: w) H k = H k) ∧ (∀ k, (rotW (x :: w) H k).length + (if k = l then 1 else 0) = (H k).length + (if k = x then 1 else 0)) ∧
    ∀ k z, z ∈ rotW (x :: w) H k → z ∈ H k ∨ z ∈ x :: w
  | [], H, x, l, _, _, _, hl => by
    have : x = l := by simpa using hl
    subst this
    exact ⟨fun S => rfl, fun k _ => rfl, fun k => rfl, fun k z h => .inl h⟩
  | y :: w, H, x, l, hd, hn, hk, hl => by
    obtain ⟨hx, hd2⟩ := List.nodup_cons.mp hd
    have hxy : x ≠ y := fun e => hx (by simp [e])
    obtain ⟨hy, hd3⟩ := List.nodup_cons.mp hd2
    have lk : PLnk (flipE H x y) (y :: w) := PLnk.congr hk.2 fun z hz => by
      have hz : z ∈ w := hz
      exact flip_o H (fun e => hx (by rw [← e]; exact List.mem_cons_of_mem _ hz)) (fun e => hy (e ▸ hz))
    have hl2 : (y :: w).getLast? = some l := by rw [List.getLast?_cons_cons] at hl; exact hl
    obtain ⟨i1, i2, i3, i4⟩ := rot_all w (flipE H x y) y l hd2 (fun z hz => hn z (List.mem_cons_of_mem _ hz)) lk hl2
    refine ⟨fun S => ?_, fun k h => ?_, fun k => ?_, fun k z h => ?_⟩
    · show hin n (rotW (y :: w) (flipE H x y)) S = _
      rw [i1, hin_flip S hxy (hn x (by simp)) (hn y (by simp)) hk.1]
    · show rotW (y :: w) (flipE H x y) k = _
      rw [i2 k (fun q => h (List.mem_cons_of_mem _ q)), flip_o H (fun e => h (by simp [e])) (fun e => h (by simp [e]))]
    · show (rotW (y :: w) (flipE H x y) k).length + _ = _
      have a := i3 k
      have b := flip_len (H := H) hxy hk.1 k
      omega
    · rcases i4 k z h with q | q
      · rcases flip_mem hxy q with q | q
        · exact .inl q
        · exact .inr (by simp [q])
      · exact .inr (List.mem_cons_of_mem _ q)
/-! ### bringing a pebble -/
/-- a way from `i` to a free pebble `f`, backwards, that does not meet `j` -/
structure PWay (n i j : Nat) (fr : Nat → Nat) (H : Nat → List Nat) (f : Nat) (w : List Nat) : Prop where
  nd : (f :: w).Nodup
  lt : ∀ z ∈ f :: w, z < n
  lk : PLnk H (f :: w)
  la : (f :: w).getLast? = some i
  no : j ∉ f :: w
  fi : f ≠ i
  fr : 0 < fr f
def frN (fr : Nat → Nat) (f i : Nat) : Nat → Nat := updf (updf fr f (fr f - 1)) i (fr i + 1)
theorem frN_eq {fr : Nat → Nat} {f i : Nat} (h : f ≠ i) (k : Nat) : frN fr f i k = if k = i then fr i + 1 else if k = f then fr f - 1 else fr k := by
  unfold frN updf
  rfl
theorem PWay.inv {n i j f : Nat} {P : List (Nat × Nat)} {fr : Nat → Nat} {H : Nat → List Nat} {w : List Nat} (h : PWay n i j fr H f w) (I : PInv n P fr H) : PInv n P (frN fr f i) (rotW (f :: w) H) := by
  obtain ⟨r1, r2, r3, r4⟩ := rot_all w H f i h.nd h.lt h.lk h.la
  refine ⟨fun k hk => ?_, fun k hk x hx => ?_, fun S => by rw [r1]; exact I.eq S, I.ind⟩
  · have a := I.two k hk
    have b := r3 k
    have hfi := h.fi
    have hf := h.fr
    rw [frN_eq hfi]
    by_cases h1 : k = i
    · subst h1
      rw [if_pos rfl] at b ⊢
      rw [if_neg (fun e => hfi e.symm)] at b
      omega
    · rw [if_neg h1] at b ⊢
      by_cases h2 : k = f
      · subst h2
        rw [if_pos rfl] at b ⊢
        omega
      · rw [if_neg h2] at b ⊢
        omega
  · rcases r4 k x hx with q | q
    · exact I.rng k hk x q
    · exact h.lt x q
theorem PWay.fi1 {n i j f : Nat} {fr : Nat → Nat} {H : Nat → List Nat} {w : List Nat} (h : PWay n i j fr H f w) : frN fr f i i = fr i + 1 := by rw [frN_eq h.fi, if_pos rfl]
theorem way_enters {H : Nat → List Nat} {i j : Nat} {T : Nat → Prop} (hT : ∀ k, T k → k ≠ i → k ≠ j → ∀ x ∈ H k, T x) : ∀ (w : List Nat) (f : Nat), (f :: w).Nodup → PLnk H (f :: w) → (f :: w).getLast? = some i → j ∉ f :: w → ∀ z ∈ f :: w, z ≠ i → T z → T f ∧ f ≠ i
  | [], f, _, _, _, _, z, hz, hzi, ht => by
    rw [List.mem_singleton.mp hz] at ht hzi
    exact ⟨ht, hzi⟩
  | y :: w, f, hd, hl, hla, hj, z, hz, hzi, ht => by
    obtain ⟨hx, hd2⟩ := List.nodup_cons.mp hd
    have hl2 : (y :: w).getLast? = some i := by rw [List.getLast?_cons_cons] at hla; exact hla
    rcases List.mem_cons.mp hz with e | hz
    · rw [e] at ht hzi; exact ⟨ht, hzi⟩
    · obtain ⟨h1, h2⟩ := way_enters hT w y hd2 hl.2 hl2 (fun q => hj (List.mem_cons_of_mem _ q)) z hz hzi ht
      refine ⟨hT y h1 h2 (fun e => hj (by simp [e])) f hl.1, fun e => hx ?_⟩
      rw [e]
      exact List.mem_of_getLast? hl2
/-- what is closed off is not met -/
theorem PWay.keep {n i j f : Nat} {fr : Nat → Nat} {H : Nat → List Nat} {w : List Nat} (h : PWay n i j fr H f w) {T : Nat → Prop} (hT : ∀ k, T k → k ≠ i → k ≠ j → fr k = 0 ∧ ∀ x ∈ H k, T x) (k : Nat) (hk : T k) (hki : k ≠ i) :
    rotW (f :: w) H k = H k ∧ frN fr f i k = fr k := by
  have hn : k ∉ f :: w := fun hm => by
    obtain ⟨a, b⟩ := way_enters (T := T) (fun k h1 h2 h3 => (hT k h1 h2 h3).2) w f h.nd h.lk h.la h.no k hm hki hk
    have := (hT f a b (fun e => h.no (by simp [← e]))).1
    have := h.fr
    omega
  refine ⟨(rot_all w H f i h.nd h.lt h.lk h.la).2.1 k hn, ?_⟩
  rw [frN_eq h.fi, if_neg hki, if_neg (fun e => hn (by simp [e]))]
theorem PWay.other {n i j f : Nat} {fr : Nat → Nat} {H : Nat → List Nat} {w : List Nat} (h : PWay n i j fr H f w) (hij : i ≠ j) : rotW (f :: w) H j = H j ∧ frN fr f i j = fr j :=
  ⟨(rot_all w H f i h.nd h.lt h.lk h.la).2.1 j h.no, by rw [frN_eq h.fi, if_neg (fun e => hij e.symm), if_neg (fun e => h.no (by simp [e]))]⟩
/-- no further pebble for `i` -/
structure PStk (n i j : Nat) (fr : Nat → Nat) (H : Nat → List Nat) (R : Nat → Prop) : Prop where
  mi : R i
  mj : R j
  lt : ∀ k, R k → k < n
  fz : ∀ k, R k → k ≠ i → k ≠ j → fr k = 0
  cl : ∀ k, R k → k ≠ j → ∀ x ∈ H k, R x
/-- what is known of `i` while pebbles are fetched for `j` -/
def PKn (n i j : Nat) (fr : Nat → Nat) (H : Nat → List Nat) : Prop := fr i = 2 ∨ ∃ R, PStk n i j fr H R
theorem PWay.kn {n i j f : Nat} {fr : Nat → Nat} {H : Nat → List Nat} {w : List Nat} (h : PWay n j i fr H f w) (hij : i ≠ j) (hk : PKn n i j fr H) : PKn n i j (frN fr f j) (rotW (f :: w) H) := by
  rcases hk with h2 | ⟨R, hR⟩
  · exact .inl (by rw [(h.other (fun e => hij e.symm)).2]; exact h2)
  · right
    have key := fun k hk hkj => h.keep (T := R) (fun k h1 h2 h3 => ⟨hR.fz k h1 h3 h2, hR.cl k h1 h2⟩) k hk hkj
    refine ⟨R, hR.mi, hR.mj, hR.lt, fun k h1 h2 h3 => ?_, fun k h1 h2 x hx => ?_⟩
    · rw [(key k h1 h3).2]; exact hR.fz k h1 h2 h3
    · rw [(key k h1 h2).1] at hx; exact hR.cl k h1 h2 x hx
theorem hin_closed {n : Nat} {H : Nat → List Nat} {U : Nat → Bool} (h : ∀ k, k < n → U k = true → ∀ x ∈ H k, U x = true) : hin n H U = sg n fun k => if U k = true then (H k).length else 0 := by
  unfold hin
  refine sg_congr fun k hk => ?_
  by_cases e : U k = true
  · rw [if_pos e, if_pos e, List.countP_eq_length]
    exact h k hk e
  · rw [if_neg e, if_neg e]
theorem two_card {n : Nat} {P : List (Nat × Nat)} {fr : Nat → Nat} {H : Nat → List Nat} (I : PInv n P fr H) (U : Nat → Bool) : (sg n fun k => if U k = true then (H k).length else 0) + (sg n fun k => if U k = true then fr k else 0) = 2 * cardS n U := by
  unfold cardS
  rw [← sg_add]
  have : ∀ f : Nat → Nat, sg n (fun k => f k + f k) = 2 * sg n f := fun f => by rw [sg_add]; omega
  rw [← this]
  refine sg_congr fun k hk => ?_
  have := I.two k hk
  by_cases e : U k = true
  · rw [if_pos e, if_pos e, if_pos e]; omega
  · rw [if_neg e, if_neg e, if_neg e]
theorem card_two {n : Nat} {U : Nat → Bool} {i j : Nat} (hij : i ≠ j) (hi : i < n) (hj : j < n) (h1 : U i = true) (h2 : U j = true) : 2 ≤ cardS n U := by
  have := sg_two (fun k => if U k = true then 1 else 0) hij hi hj
  simp only [h1, h2, if_true] at this
  exact this
open Classical in
/-- not to be taken -/
theorem reject {n i j : Nat} {P : List (Nat × Nat)} {fr : Nat → Nat} {H : Nat → List Nat} (I : PInv n P fr H) (hij : i ≠ j) (hi : i < n) (hj : j < n) (k1 : PKn n i j fr H) (k2 : PKn n j i fr H) (h4 : fr i + fr j < 4) : ¬PInd n (P ++ [(i, j)]) := by
  have nil : ∀ k, k < n → fr k = 2 → H k = [] := fun k hk h => List.length_eq_zero_iff.mp (by have := I.two k hk; omega)
  have key : ∃ U : Nat → Prop, U i ∧ U j ∧ (∀ k, U k → k < n) ∧ (∀ k, U k → k ≠ i → k ≠ j → fr k = 0) ∧ ∀ k, U k → ∀ x ∈ H k, U x := by
    rcases k1 with a | ⟨T, hT⟩
    · rcases k2 with b | ⟨S, hS⟩
      · omega
      · refine ⟨S, hS.mj, hS.mi, hS.lt, fun k h1 h2 h3 => hS.fz k h1 h3 h2, fun k h1 x hx => ?_⟩
        by_cases e : k = i
        · rw [e, nil i hi a] at hx; cases hx
        · exact hS.cl k h1 e x hx
    · rcases k2 with b | ⟨S, hS⟩
      · refine ⟨T, hT.mi, hT.mj, hT.lt, hT.fz, fun k h1 x hx => ?_⟩
        by_cases e : k = j
        · rw [e, nil j hj b] at hx; cases hx
        · exact hT.cl k h1 e x hx
      · refine ⟨fun k => T k ∨ S k, .inl hT.mi, .inl hT.mj, fun k h => h.elim (hT.lt k) (hS.lt k), fun k h h2 h3 => h.elim (fun q => hT.fz k q h2 h3) (fun q => hS.fz k q h3 h2), fun k h x hx => ?_⟩
        by_cases e : k = j
        · rw [e] at hx
          exact .inr (hS.cl j hS.mi (fun q => hij q.symm) x hx)
        · by_cases e2 : k = i
          · rw [e2] at hx
            exact .inl (hT.cl i hT.mi hij x hx)
          · rcases h with q | q
            · exact .inl (hT.cl k q e x hx)
            · exact .inr (hS.cl k q e2 x hx)
  obtain ⟨U, u1, u2, u3, u4, u5⟩ := key
  intro hI
  let V : Nat → Bool := fun k => decide (U k)
  have v : ∀ k, V k = true ↔ U k := fun k => by simp [V]
  have c2 := card_two (U := V) hij hi hj ((v i).mpr u1) ((v j).mpr u2)
  have a := hI V c2
  rw [inn_app, inn_one, (v i).mpr u1, (v j).mpr u2, Bool.and_self, if_pos rfl, ← I.eq V, hin_closed (fun k _ hk x hx => (v x).mpr (u5 k ((v k).mp hk) x hx))] at a
  have b := two_card I V
  have c : (sg n fun k => if V k = true then fr k else 0) ≤ fr i + fr j := by
    have e : sg n (fun k => if V k = true then fr k else 0) = sg n (updf (updf (fun _ => 0) i (fr i)) j (fr j)) := sg_congr fun k hk => by
      by_cases e1 : k = j
      · subst e1; rw [updf_eq, if_pos ((v k).mpr u2)]
      · rw [updf_ne _ _ e1]
        by_cases e2 : k = i
        · subst e2; rw [updf_eq, if_pos ((v k).mpr u1)]
        · rw [updf_ne _ _ e2]
          by_cases e3 : U k
          · rw [if_pos ((v k).mpr e3), u4 k e3 e2 e1]
          · rw [if_neg (fun q => e3 ((v k).mp q))]
    rw [e]
    have z : ∀ n, sg n (fun _ => 0) = 0 := fun n => by
      induction n with
      | zero => rfl
      | succ n ih => rw [sg, ih]
    have h1 := sg_updf (updf (fun _ => 0) i (fr i)) (fr j) hj
    have h2 := sg_updf (fun _ => 0) (fr i) hi
    rw [z] at h2
    omega
  omega
/-- to be taken -/
theorem accept {n i j : Nat} {P : List (Nat × Nat)} {fr : Nat → Nat} {H : Nat → List Nat} (I : PInv n P fr H) (hij : i ≠ j) (hi : i < n) (hj : j < n) (h1 : fr i = 2) (h2 : fr j = 2) :
    PInv n (P ++ [(i, j)]) (updf fr i (fr i - 1)) (updf H i (H i ++ [j])) := by
  refine ⟨fun k hk => ?_, fun k hk x hx => ?_, fun S => ?_, fun S hS => ?_⟩
  · have := I.two k hk
    by_cases e : k = i
    · subst e
      rw [updf_eq, updf_eq, List.length_append]
      simp
      omega
    · rw [updf_ne _ _ e, updf_ne _ _ e]; exact this
  · by_cases e : k = i
    · subst e
      rw [updf_eq] at hx
      rcases List.mem_append.mp hx with q | q
      · exact I.rng k hk x q
      · rw [List.mem_singleton.mp q]; exact hj
    · rw [updf_ne _ _ e] at hx; exact I.rng k hk x hx
  · rw [inn_app, inn_one, ← I.eq S]
    unfold hin
    let f : Nat → Nat := fun k => if S k = true then (H k).countP S else 0
    have e : sg n (fun k => if S k = true then (updf H i (H i ++ [j]) k).countP S else 0) = sg n (updf f i (if S i = true then (H i ++ [j]).countP S else 0)) := sg_congr fun k _ => by
      by_cases e1 : k = i
      · subst e1; rw [updf_eq, updf_eq]
      · rw [updf_ne _ _ e1, updf_ne _ _ e1]
    rw [e]
    have a := sg_updf f (if S i = true then (H i ++ [j]).countP S else 0) hi
    have b : (if S i = true then (H i ++ [j]).countP S else 0) = f i + (if (S i && S j) = true then 1 else 0) := by
      simp only [f]
      rw [List.countP_append, List.countP_singleton]
      cases S i <;> cases S j <;> simp
    show _ = sg n f + _
    omega
  · have a := I.ind S hS
    rw [inn_app, inn_one]
    by_cases e : (S i && S j) = true
    · rw [if_pos e]
      rw [Bool.and_eq_true] at e
      have b := two_card I S
      have c := sg_two (fun k => if S k = true then fr k else 0) hij hi hj
      simp only [e.1, e.2, if_true] at c
      have d : hin n H S ≤ sg n fun k => if S k = true then (H k).length else 0 := sg_le fun k _ => by
        split
        · exact List.countP_le_length
        · exact Nat.le_refl _
      rw [I.eq S] at d
      omega
    · rw [if_neg e]; exact a
theorem inv0 (n : Nat) : PInv n [] (fun _ => 2) (fun _ => []) := by
  refine ⟨fun k _ => rfl, fun k _ x hx => (nomatch hx), fun S => ?_, ind_nil n⟩
  unfold hin
  show _ = 0
  have : ∀ n, sg n (fun k => if S k = true then List.countP S [] else 0) = 0 := fun n => by
    induction n with
    | zero => rfl
    | succ n ih => rw [sg, ih]; simp
  exact this n
/-! ### taken one by one -/
open Classical in
noncomputable def grdP (n : Nat) (acc : List (Nat × Nat)) : List (Nat × Nat) → List (Nat × Nat)
  | [] => acc
  | p :: ps => if PInd n (acc ++ [p]) then grdP n (acc ++ [p]) ps else grdP n acc ps
theorem grd_ind {n : Nat} : ∀ (ps acc : List (Nat × Nat)), PInd n acc → PInd n (grdP n acc ps)
  | [], acc, h => h
  | p :: ps, acc, h => by
    unfold grdP
    split
    · exact grd_ind ps _ (by assumption)
    · exact grd_ind ps _ h
theorem grd_le {n : Nat} : ∀ (ps acc : List (Nat × Nat)), (grdP n acc ps).length ≤ acc.length + ps.length
  | [], acc => Nat.le_refl _
  | p :: ps, acc => by
    unfold grdP
    split
    · have := grd_le (n := n) ps (acc ++ [p])
      rw [List.length_append] at this
      simp at this ⊢
      omega
    · have := grd_le (n := n) ps acc
      simp
      omega
theorem grd_sub {n : Nat} : ∀ (ps acc : List (Nat × Nat)) (p : Nat × Nat), p ∈ grdP n acc ps → p ∈ acc ∨ p ∈ ps
  | [], acc, p, h => .inl h
  | q :: ps, acc, p, h => by
    unfold grdP at h
    split at h
    · rcases grd_sub ps _ p h with r | r
      · rcases List.mem_append.mp r with r | r
        · exact .inl r
        · rw [List.mem_singleton.mp r]; exact .inr (by simp)
      · exact .inr (List.mem_cons_of_mem _ r)
    · rcases grd_sub ps _ p h with r | r
      · exact .inl r
      · exact .inr (List.mem_cons_of_mem _ r)
end Peb
end L2

/-! Tight sets, plainly. -/
namespace L2
namespace Peb
abbrev orS (S T : Nat → Bool) : Nat → Bool := fun k => S k || T k
abbrev anS (S T : Nat → Bool) : Nat → Bool := fun k => S k && T k
theorem card_or_and (n : Nat) (S T : Nat → Bool) : cardS n (orS S T) + cardS n (anS S T) = cardS n S + cardS n T := by
  unfold cardS
  rw [← sg_add, ← sg_add]
  refine sg_congr fun k _ => ?_
  show (if (S k || T k) = true then 1 else 0) + (if (S k && T k) = true then 1 else 0) = _
  cases S k <;> cases T k <;> rfl
theorem card_mono {n : Nat} {S T : Nat → Bool} (h : ∀ k, k < n → S k = true → T k = true) : cardS n S ≤ cardS n T := by
  unfold cardS
  refine sg_le fun k hk => ?_
  by_cases e : S k = true
  · rw [if_pos e, if_pos (h k hk e)]; exact Nat.le_refl _
  · rw [if_neg e]; exact Nat.zero_le _
theorem card_one {n : Nat} {U : Nat → Bool} {i : Nat} (hi : i < n) (h : U i = true) : 1 ≤ cardS n U := by
  unfold cardS
  have := sg_updf (fun k => if U k = true then 1 else 0) 0 (n := n) hi
  simp only [h, if_true] at this
  omega
theorem inn_cons (p : Nat × Nat) (P : List (Nat × Nat)) (S : Nat → Bool) : inn (p :: P) S = inn P S + if (S p.1 && S p.2) = true then 1 else 0 := by
  unfold inn; rw [List.countP_cons]
theorem inn_or_and (S T : Nat → Bool) : ∀ P : List (Nat × Nat), inn P S + inn P T ≤ inn P (orS S T) + inn P (anS S T)
  | [] => Nat.le_refl _
  | p :: P => by
    have ih := inn_or_and S T P
    rw [inn_cons, inn_cons, inn_cons, inn_cons]
    have : (if (S p.1 && S p.2) = true then 1 else 0) + (if (T p.1 && T p.2) = true then 1 else 0) ≤ (if ((S p.1 || T p.1) && (S p.2 || T p.2)) = true then 1 else 0) + (if ((S p.1 && T p.1) && (S p.2 && T p.2)) = true then 1 else 0) := by
      cases S p.1 <;> cases S p.2 <;> cases T p.1 <;> cases T p.2 <;> decide
    have e1 : (orS S T p.1 && orS S T p.2) = ((S p.1 || T p.1) && (S p.2 || T p.2)) := rfl
    have e2 : (anS S T p.1 && anS S T p.2) = ((S p.1 && T p.1) && (S p.2 && T p.2)) := rfl
    rw [e1, e2]
    omega
theorem inn_three {S T U W : Nat → Bool} : ∀ {P : List (Nat × Nat)}, (∀ p ∈ P, ¬(S p.1 = true ∧ S p.2 = true ∧ T p.1 = true ∧ T p.2 = true) ∧ ¬(T p.1 = true ∧ T p.2 = true ∧ U p.1 = true ∧ U p.2 = true) ∧ ¬(S p.1 = true ∧ S p.2 = true ∧ U p.1 = true ∧ U p.2 = true)) →
    (∀ k, S k = true → W k = true) → (∀ k, T k = true → W k = true) → (∀ k, U k = true → W k = true) → inn P S + inn P T + inn P U ≤ inn P W
  | [], _, _, _, _ => Nat.le_refl _
  | p :: P, h, hS, hT, hU => by
    have ih := inn_three (P := P) (fun q hq => h q (by simp [hq])) hS hT hU
    obtain ⟨h1, h2, h3⟩ := h p (by simp)
    have s1 := hS p.1
    have s2 := hS p.2
    have t1 := hT p.1
    have t2 := hT p.2
    have u1 := hU p.1
    have u2 := hU p.2
    rw [inn_cons, inn_cons, inn_cons, inn_cons]
    have : (if (S p.1 && S p.2) = true then 1 else 0) + (if (T p.1 && T p.2) = true then 1 else 0) + (if (U p.1 && U p.2) = true then 1 else 0) ≤ (if (W p.1 && W p.2) = true then 1 else 0) := by
      revert h1 h2 h3 s1 s2 t1 t2 u1 u2
      cases S p.1 <;> cases S p.2 <;> cases T p.1 <;> cases T p.2 <;> cases U p.1 <;> cases U p.2 <;> cases W p.1 <;> cases W p.2 <;> simp
    omega
/-- pairs of n joints -/
def PrN (n : Nat) (P : List (Nat × Nat)) : Prop := ∀ p ∈ P, p.1 ≠ p.2 ∧ p.1 < n ∧ p.2 < n
def Tig (n : Nat) (P : List (Nat × Nat)) (S : Nat → Bool) : Prop := 2 ≤ cardS n S ∧ inn P S + 3 = 2 * cardS n S
section
variable {n : Nat} {P : List (Nat × Nat)} {S T U : Nat → Bool}
theorem Tig.or (hi : PInd n P) (hS : Tig n P S) (hT : Tig n P T) (h : 2 ≤ cardS n (anS S T)) : Tig n P (orS S T) := by
  have a := card_or_and n S T
  have b := inn_or_and S T P
  have c := hi _ h
  have le : cardS n S ≤ cardS n (orS S T) := card_mono fun k _ e => by show (S k || T k) = true; rw [e]; rfl
  have h1 := hS.1
  have d := hi (orS S T) (by omega)
  have h2 := hS.2
  have h3 := hT.2
  exact ⟨by omega, by omega⟩
theorem tri (hp : PrN n P) (hi : PInd n P) (hS : Tig n P S) (hT : Tig n P T) (hU : Tig n P U) {a b c : Nat} (ab : a ≠ b) (bc : b ≠ c) (ac : a ≠ c) (an : a < n) (bn : b < n) (cn : c < n)
    (Sa : S a = true) (Sb : S b = true) (Tb : T b = true) (Tc : T c = true) (Ua : U a = true) (Uc : U c = true) : Tig n P (orS (orS S T) U) := by
  have VU : 2 ≤ cardS n (anS (orS S T) U) := card_two ac an cn (by show ((S a || T a) && U a) = true; rw [Sa, Ua]; rfl) (by show ((S c || T c) && U c) = true; rw [Tc, Uc]; simp)
  by_cases h1 : 2 ≤ cardS n (anS S T)
  · exact (hS.or hi hT h1).or hi hU VU
  by_cases h2 : 2 ≤ cardS n (anS T U)
  · have := hS.or hi (hT.or hi hU h2) (card_two ab an bn (by show (S a && (T a || U a)) = true; rw [Sa, Ua]; simp) (by show (S b && (T b || U b)) = true; rw [Sb, Tb]; rfl))
    have e : orS S (orS T U) = orS (orS S T) U := by funext k; show (S k || (T k || U k)) = (S k || T k || U k); rw [Bool.or_assoc]
    rw [← e]; exact this
  by_cases h3 : 2 ≤ cardS n (anS S U)
  · have := (hS.or hi hU h3).or hi hT (card_two bc bn cn (by show ((S b || U b) && T b) = true; rw [Sb, Tb]; rfl) (by show ((S c || U c) && T c) = true; rw [Uc, Tc]; simp))
    have e : orS (orS S U) T = orS (orS S T) U := by funext k; show ((S k || U k) || T k) = ((S k || T k) || U k); rw [Bool.or_assoc, Bool.or_assoc, Bool.or_comm (U k)]
    rw [← e]; exact this
  have c1 := card_or_and n S T
  have c2 := card_or_and n (orS S T) U
  have o1 : 1 ≤ cardS n (anS S T) := card_one bn (by show (S b && T b) = true; rw [Sb, Tb]; rfl)
  have i3 : inn P S + inn P T + inn P U ≤ inn P (orS (orS S T) U) := by
    refine inn_three (fun p hpm => ?_) (fun k e => by show ((S k || T k) || U k) = true; rw [e]; simp) (fun k e => by show ((S k || T k) || U k) = true; rw [e]; simp) (fun k e => by show ((S k || T k) || U k) = true; rw [e]; simp)
    obtain ⟨q1, q2, q3⟩ := hp p hpm
    refine ⟨fun ⟨a1, a2, a3, a4⟩ => h1 (card_two q1 q2 q3 (by show (S _ && T _) = true; rw [a1, a3]; rfl) (by show (S _ && T _) = true; rw [a2, a4]; rfl)),
      fun ⟨a1, a2, a3, a4⟩ => h2 (card_two q1 q2 q3 (by show (T _ && U _) = true; rw [a1, a3]; rfl) (by show (T _ && U _) = true; rw [a2, a4]; rfl)),
      fun ⟨a1, a2, a3, a4⟩ => h3 (card_two q1 q2 q3 (by show (S _ && U _) = true; rw [a1, a3]; rfl) (by show (S _ && U _) = true; rw [a2, a4]; rfl))⟩
  have W2 : 2 ≤ cardS n (orS (orS S T) U) := by
    have le : cardS n S ≤ cardS n (orS (orS S T) U) := card_mono fun k _ e => by show ((S k || T k) || U k) = true; rw [e]; simp
    have := hS.1; omega
  have d := hi _ W2
  have e1 := hS.2
  have e2 := hT.2
  have e3 := hU.2
  exact ⟨W2, by omega⟩
theorem blocked {i j : Nat} (hi : PInd n P) (hn : ¬PInd n (P ++ [(i, j)])) : ∃ S, Tig n P S ∧ S i = true ∧ S j = true := by
  apply Classical.byContradiction
  intro hno
  refine hn fun S hS => ?_
  have a := hi S hS
  rw [inn_app, inn_one]
  by_cases e : (S i && S j) = true
  · rw [if_pos e]
    rw [Bool.and_eq_true] at e
    have : inn P S + 3 ≠ 2 * cardS n S := fun q => hno ⟨S, ⟨hS, q⟩, e.1, e.2⟩
    omega
  · rw [if_neg e]; omega
theorem Tig.blocks {i j : Nat} (h : Tig n P S) (h1 : S i = true) (h2 : S j = true) : ¬PInd n (P ++ [(i, j)]) := fun hi => by
  have := hi S h.1
  rw [inn_app, inn_one, if_pos (by rw [h1, h2]; rfl)] at this
  have := h.2
  omega
/-- a pair that is there: its ends are tight -/
theorem tig_pair (hi : PInd n P) {i j : Nat} (h : (i, j) ∈ P) (hij : i ≠ j) (hi1 : i < n) (hj : j < n) : Tig n P (fun k => decide (k = i ∨ k = j)) := by
  have c2 : 2 ≤ cardS n (fun k => decide (k = i ∨ k = j)) := card_two hij hi1 hj (by simp) (by simp)
  have c : cardS n (fun k => decide (k = i ∨ k = j)) ≤ 2 := by
    unfold cardS
    have e : ∀ k, (if decide (k = i ∨ k = j) = true then 1 else 0) = (updf (updf (fun _ => 0) i 1) j 1) k := fun k => by
      unfold updf
      by_cases h1 : k = j
      · simp [h1]
      · by_cases h2 : k = i
        · subst h2; simp [h1]
        · simp [h1, h2]
    rw [sg_congr (n := n) fun k _ => e k]
    have a := sg_updf (fun _ => 0) 1 (n := n) hi1
    have b := sg_updf (updf (fun _ => 0) i 1) 1 (n := n) hj
    have z : ∀ m, sg m (fun _ => 0) = 0 := fun m => by
      induction m with
      | zero => rfl
      | succ m ih => rw [sg, ih]
    rw [z] at a
    omega
  refine ⟨c2, ?_⟩
  have d := hi _ c2
  have m : 1 ≤ inn P (fun k => decide (k = i ∨ k = j)) := by
    unfold inn
    exact List.countP_pos_iff.mpr ⟨(i, j), h, by simp⟩
  omega
end
/-! ### what is taken one by one is most -/
theorem PInd.sub {n : Nat} {P Q : List (Nat × Nat)} (h : PInd n Q) (hs : P.Sublist Q) : PInd n P := fun S hS => by
  have := h S hS
  have : inn P S ≤ inn Q S := hs.countP_le
  omega
theorem grd_pre {n : Nat} : ∀ (ps acc : List (Nat × Nat)), ∃ r, grdP n acc ps = acc ++ r
  | [], acc => ⟨[], by simp [grdP]⟩
  | p :: ps, acc => by
    unfold grdP
    split
    · obtain ⟨r, e⟩ := grd_pre (n := n) ps (acc ++ [p])
      exact ⟨p :: r, by rw [e]; simp⟩
    · exact grd_pre ps acc
theorem grd_max {n : Nat} : ∀ (ps acc : List (Nat × Nat)) (q : Nat × Nat), q ∈ ps → q ∈ grdP n acc ps ∨ ¬PInd n (grdP n acc ps ++ [q])
  | [], _, _, h => by cases h
  | p :: ps, acc, q, h => by
    unfold grdP
    rcases List.mem_cons.mp h with rfl | h
    · split
      · obtain ⟨r, e⟩ := grd_pre (n := n) ps (acc ++ [q])
        exact .inl (by rw [e]; simp)
      · rename_i hn
        obtain ⟨r, e⟩ := grd_pre (n := n) ps acc
        refine .inr fun hh => hn ?_
        rw [e] at hh
        refine hh.sub ?_
        exact List.Sublist.append (List.sublist_append_left _ _) (List.Sublist.refl _)
    · split
      · exact grd_max ps _ q h
      · exact grd_max ps _ q h
end Peb
end L2

/-! Nets built by steps, plainly: a joint that can be the last. -/
namespace L2
namespace Peb
def ordP (i j : Nat) : Nat × Nat := if i < j then (i, j) else (j, i)
def rstP (v : Nat) (P : List (Nat × Nat)) : List (Nat × Nat) := P.filter fun p => decide (p.1 ≠ v) && decide (p.2 ≠ v)
def nbL (v : Nat) (P : List (Nat × Nat)) : List Nat := (P.filter fun p => decide (p.1 = v)).map (·.2) ++ (P.filter fun p => decide (p.2 = v)).map (·.1)
def AscP (P : List (Nat × Nat)) : Prop := ∀ p ∈ P, p.1 < p.2
theorem nb_1 {v : Nat} {p : Nat × Nat} {P : List (Nat × Nat)} (h : p.1 = v) (h2 : p.2 ≠ v) : nbL v (p :: P) = p.2 :: nbL v P := by
  unfold nbL
  rw [List.filter_cons_of_pos (by simpa using h), List.filter_cons_of_neg (by simpa using h2)]; rfl
theorem nb_2 {v : Nat} {p : Nat × Nat} {P : List (Nat × Nat)} (h : p.1 ≠ v) (h2 : p.2 = v) : nbL v (p :: P) = (P.filter fun p => decide (p.1 = v)).map (·.2) ++ p.1 :: (P.filter fun p => decide (p.2 = v)).map (·.1) := by
  unfold nbL
  rw [List.filter_cons_of_neg (by simpa using h), List.filter_cons_of_pos (by simpa using h2)]; rfl
theorem nb_0 {v : Nat} {p : Nat × Nat} {P : List (Nat × Nat)} (h : p.1 ≠ v) (h2 : p.2 ≠ v) : nbL v (p :: P) = nbL v P := by
  unfold nbL
  rw [List.filter_cons_of_neg (by simpa using h), List.filter_cons_of_neg (by simpa using h2)]
theorem rst_0 {v : Nat} {p : Nat × Nat} {P : List (Nat × Nat)} (h : p.1 ≠ v) (h2 : p.2 ≠ v) : rstP v (p :: P) = p :: rstP v P := by
  unfold rstP
  rw [List.filter_cons_of_pos (by simp [h, h2])]
theorem rst_1 {v : Nat} {p : Nat × Nat} {P : List (Nat × Nat)} (h : p.1 = v ∨ p.2 = v) : rstP v (p :: P) = rstP v P := by
  unfold rstP
  rw [List.filter_cons_of_neg (by rcases h with h | h <;> simp [h])]
theorem split_perm (v : Nat) : ∀ {P : List (Nat × Nat)}, AscP P → P.Perm (rstP v P ++ (nbL v P).map (ordP v))
  | [], _ => .nil
  | p :: P, h => by
    have ih := split_perm v (P := P) fun q hq => h q (by simp [hq])
    have hp := h p (by simp)
    by_cases h1 : p.1 = v
    · have h2 : p.2 ≠ v := by omega
      rw [rst_1 (.inl h1), nb_1 h1 h2, List.map_cons]
      have e : ordP v p.2 = p := by unfold ordP; rw [if_pos (by omega)]; exact Prod.ext h1.symm rfl
      rw [e]
      exact (List.Perm.cons p ih).trans List.perm_middle.symm
    · by_cases h2 : p.2 = v
      · rw [rst_1 (.inr h2), nb_2 h1 h2, List.map_append, List.map_cons, ← List.append_assoc]
        have e : ordP v p.1 = p := by unfold ordP; rw [if_neg (by omega)]; exact Prod.ext rfl h2.symm
        rw [e]
        refine (List.Perm.cons p ih).trans ?_
        refine List.Perm.trans ?_ List.perm_middle.symm
        unfold nbL
        rw [List.map_append, List.append_assoc]
      · rw [rst_0 h1 h2, nb_0 h1 h2, List.cons_append]
        exact List.Perm.cons p ih
theorem card_pair {n i j : Nat} (hij : i ≠ j) (hi : i < n) (hj : j < n) : cardS n (fun k => decide (k = i ∨ k = j)) = 2 := by
  refine Nat.le_antisymm ?_ (card_two hij hi hj (by simp) (by simp))
  unfold cardS
  have e : ∀ k, (if decide (k = i ∨ k = j) = true then 1 else 0) = (updf (updf (fun _ => 0) i 1) j 1) k := fun k => by
    unfold updf
    by_cases h1 : k = j
    · simp [h1]
    · by_cases h2 : k = i
      · subst h2; simp [h1]
      · simp [h1, h2]
  rw [sg_congr (n := n) fun k _ => e k]
  have a := sg_updf (fun _ => 0) 1 (n := n) hi
  have b := sg_updf (updf (fun _ => 0) i 1) 1 (n := n) hj
  have z : ∀ m, sg m (fun _ => 0) = 0 := fun m => by
    induction m with
    | zero => rfl
    | succ m ih => rw [sg, ih]
  rw [z] at a
  omega
theorem ind_nodup {n : Nat} {P : List (Nat × Nat)} (hp : PrN n P) (hi : PInd n P) : P.Nodup := by
  refine List.nodup_iff_count.mpr fun p => ?_
  by_cases hm : p ∈ P
  · obtain ⟨h1, h2, h3⟩ := hp p hm
    have c := card_pair h1 h2 h3
    have d := hi _ (by rw [c]; exact Nat.le_refl _)
    rw [c] at d
    have : P.count p ≤ inn P (fun k => decide (k = p.1 ∨ k = p.2)) := by
      unfold inn List.count
      refine List.countP_mono_left fun q _ hq => ?_
      have : q = p := by simpa using hq
      rw [this]; simp
    omega
  · rw [List.count_eq_zero_of_not_mem hm]; omega
theorem inn_all {P : List (Nat × Nat)} {S : Nat → Bool} (h : ∀ p ∈ P, S p.1 = true ∧ S p.2 = true) : inn P S = P.length := by
  unfold inn
  rw [List.countP_eq_length]
  intro p hp
  rw [(h p hp).1, (h p hp).2]; rfl
def inJ (J : List Nat) : Nat → Bool := fun k => decide (k ∈ J)
theorem card_fil (S : Nat → Bool) : ∀ n, cardS n S = ((List.range n).filter S).length
  | 0 => rfl
  | n + 1 => by
    have ih := card_fil S n
    unfold cardS at ih ⊢
    rw [sg, ih, List.range_succ, List.filter_append, List.length_append]
    by_cases h : S n = true
    · rw [if_pos h, List.filter_cons_of_pos h]; rfl
    · rw [if_neg h, List.filter_cons_of_neg h]; rfl
theorem card_inJ {n : Nat} {J : List Nat} (nd : J.Nodup) (hJ : ∀ k ∈ J, k < n) : cardS n (inJ J) = J.length := by
  rw [card_fil]
  refine List.Perm.length_eq ((List.perm_ext_iff_of_nodup (List.nodup_range.filter _) nd).mpr fun k => ?_)
  rw [List.mem_filter, List.mem_range]
  unfold inJ
  simp only [decide_eq_true_eq]
  exact ⟨fun h => h.2, fun h => ⟨hJ k h, h⟩⟩
theorem sg_one : ∀ {n i : Nat}, i < n → sg n (fun k => if k = i then 1 else 0) = 1 := fun {n i} h => by
  have z : ∀ m, sg m (fun _ => 0) = 0 := fun m => by
    induction m with
    | zero => rfl
    | succ m ih => rw [sg, ih]
  have a := sg_updf (fun _ => 0) 1 (n := n) h
  rw [z] at a
  rw [sg_congr (g := updf (fun _ => 0) i 1) fun k _ => by unfold updf; rfl]
  omega
theorem nb_len (v : Nat) (p : Nat × Nat) (P : List (Nat × Nat)) : (nbL v (p :: P)).length = (nbL v P).length + (if v = p.1 then 1 else 0) + (if v = p.2 then 1 else 0) := by
  unfold nbL
  simp only [List.length_append, List.length_map, List.filter_cons]
  by_cases h1 : p.1 = v <;> by_cases h2 : p.2 = v
  · simp [h1, h2, eq_comm]; omega
  · have h2' : v ≠ p.2 := fun e => h2 e.symm
    simp [h1, h2, h2']; omega
  · have h1' : v ≠ p.1 := fun e => h1 e.symm
    simp [h1, h2, h1']; omega
  · have h1' : v ≠ p.1 := fun e => h1 e.symm
    have h2' : v ≠ p.2 := fun e => h2 e.symm
    simp [h1, h2, h1', h2']
theorem deg_sum {n : Nat} : ∀ {P : List (Nat × Nat)}, PrN n P → sg n (fun v => (nbL v P).length) = 2 * P.length
  | [], _ => by
    have z : ∀ m, sg m (fun v => (nbL v []).length) = 0 := fun m => by
      induction m with
      | zero => rfl
      | succ m ih => rw [sg, ih]; rfl
    exact z n
  | p :: P, h => by
    have ih := deg_sum (P := P) fun q hq => h q (by simp [hq])
    obtain ⟨_, h2, h3⟩ := h p (by simp)
    rw [sg_congr fun v _ => nb_len v p P, sg_add, sg_add, ih, sg_one h2, sg_one h3, List.length_cons]; omega
/-- a net that is just enough for its joints -/
structure Lam (n : Nat) (J : List Nat) (P : List (Nat × Nat)) : Prop where
  nd : J.Nodup
  jn : ∀ k ∈ J, k < n
  asc : AscP P
  inc : ∀ p ∈ P, p.1 ∈ J ∧ p.2 ∈ J
  ind : PInd n P
  cnt : P.length + 3 = 2 * J.length
section
variable {n : Nat} {J : List Nat} {P : List (Nat × Nat)}
theorem Lam.pr (h : Lam n J P) : PrN n P := fun p hp => ⟨by have := h.asc p hp; omega, h.jn _ (h.inc p hp).1, h.jn _ (h.inc p hp).2⟩
theorem Lam.len (h : Lam n J P) (v : Nat) : P.length = (rstP v P).length + (nbL v P).length := by
  have := (split_perm v h.asc).length_eq
  rw [List.length_append, List.length_map] at this
  exact this
theorem Lam.low (h : Lam n J P) : ∃ v ∈ J, (nbL v P).length ≤ 3 := by
  apply Classical.byContradiction
  intro hno
  have four : ∀ v ∈ J, 4 ≤ (nbL v P).length := fun v hv => by
    have : ¬(nbL v P).length ≤ 3 := fun q => hno ⟨v, hv, q⟩
    omega
  have a := deg_sum h.pr
  have b : sg n (fun v => 4 * (if inJ J v = true then 1 else 0)) ≤ sg n (fun v => (nbL v P).length) := sg_le fun v _ => by
    by_cases e : inJ J v = true
    · rw [if_pos e]; exact four v (by simpa [inJ] using e)
    · rw [if_neg e]; exact Nat.zero_le _
  have c : sg n (fun v => 4 * (if inJ J v = true then 1 else 0)) = 4 * cardS n (inJ J) := by
    unfold cardS
    have : ∀ m, sg m (fun v => 4 * (if inJ J v = true then 1 else 0)) = 4 * sg m (fun v => if inJ J v = true then 1 else 0) := fun m => by
      induction m with
      | zero => rfl
      | succ m ih => rw [sg, sg, ih]; omega
    exact this n
  rw [c, a, card_inJ h.nd h.jn] at b
  have := h.cnt
  omega
theorem rst_mem {v : Nat} {p : Nat × Nat} (h : p ∈ rstP v P) : p ∈ P ∧ p.1 ≠ v ∧ p.2 ≠ v := by
  unfold rstP at h
  obtain ⟨h1, h2⟩ := List.mem_filter.mp h
  simp only [Bool.and_eq_true, decide_eq_true_eq] at h2
  exact ⟨h1, h2.1, h2.2⟩
theorem rst_ind {v : Nat} (h : PInd n P) : PInd n (rstP v P) := h.sub List.filter_sublist
theorem Lam.rin (h : Lam n J P) (v : Nat) : ∀ p ∈ rstP v P, p.1 ∈ J.erase v ∧ p.2 ∈ J.erase v := fun p hp => by
  obtain ⟨h1, h2, h3⟩ := rst_mem hp
  obtain ⟨h4, h5⟩ := h.inc p h1
  exact ⟨(List.mem_erase_of_ne h2).mpr h4, (List.mem_erase_of_ne h3).mpr h5⟩
theorem Lam.two (h : Lam n J P) {v : Nat} (hv : v ∈ J) (h3 : 3 ≤ J.length) : 2 ≤ (nbL v P).length := by
  have nd : (J.erase v).Nodup := h.nd.erase v
  have l := List.length_erase_of_mem hv
  have c : cardS n (inJ (J.erase v)) = (J.erase v).length := card_inJ nd fun k hk => h.jn k (List.mem_of_mem_erase hk)
  have d := rst_ind (v := v) h.ind (inJ (J.erase v)) (by omega)
  rw [inn_all fun p hp => ⟨by simpa [inJ] using (h.rin v p hp).1, by simpa [inJ] using (h.rin v p hp).2⟩] at d
  have := h.len v
  have := h.cnt
  omega
theorem ord_ends (v y : Nat) : ((ordP v y).1 = v ∧ (ordP v y).2 = y) ∨ ((ordP v y).1 = y ∧ (ordP v y).2 = v) := by
  unfold ordP; split
  · exact .inl ⟨rfl, rfl⟩
  · exact .inr ⟨rfl, rfl⟩
theorem blk_of (hi : PInd n P) (hp : PrN n P) {x y : Nat} (hxy : x ≠ y) (hx : x < n) (hy : y < n) (h : (x, y) ∈ P ∨ ¬PInd n (P ++ [(x, y)])) : ∃ S, Tig n P S ∧ S x = true ∧ S y = true := by
  rcases h with h | h
  · exact ⟨_, tig_pair hi h hxy hx hy, by simp, by simp⟩
  · exact blocked hi h
theorem card_add {W : Nat → Bool} {v : Nat} (hv : v < n) (h : W v = false) : cardS n (fun k => W k || decide (k = v)) = cardS n W + 1 := by
  unfold cardS
  have a := sg_updf (fun k => if W k = true then 1 else 0) 1 (n := n) hv
  simp only [h] at a
  rw [sg_congr (f := fun k => if (W k || decide (k = v)) = true then 1 else 0) (g := updf (fun k => if W k = true then 1 else 0) v 1) fun k _ => ?_]
  · simpa using a
  · unfold updf
    by_cases e : k = v
    · simp [e]
    · simp [e]
end
end Peb
end L2

/-! Nets built by steps, plainly: the steps done. -/
namespace L2
namespace Peb
inductive Stp where
  | pair (i j : Nat) | two (k i j : Nat) | three (k i j h : Nat)
abbrev BSt := List Nat × List (Nat × Nat)
def doS (first : Bool) (s : Stp) (st : BSt) : Option BSt :=
  match s with
  | .pair i j => if first = true ∧ i < j then some (st.1 ++ [i, j], st.2 ++ [(i, j)]) else none
  | .two k i j => if first = false ∧ k ∉ st.1 ∧ i ∈ st.1 ∧ j ∈ st.1 ∧ i < j then some (st.1 ++ [k], st.2 ++ [ordP k i, ordP k j]) else none
  | .three k i j h => if first = false ∧ k ∉ st.1 ∧ i ∈ st.1 ∧ j ∈ st.1 ∧ i < j ∧ h ∈ st.1 ∧ h ≠ i ∧ h ≠ j ∧ (i, j) ∈ st.2 then some (st.1 ++ [k], st.2.erase (i, j) ++ [ordP k i, ordP k j, ordP k h]) else none
def runS : Bool → List Stp → BSt → Option BSt
  | _, [], st => some st
  | b, s :: ss, st => (doS b s st).bind (runS false ss)
def isB (n : Nat) (N : List (Nat × Nat)) (ss : List Stp) : Bool := match runS true ss ([], []) with
  | some st => decide (st.1.Perm (List.range n)) && st.2.all fun p => decide (p ∈ N)
  | none => false
/-- what steps build -/
def Bu (J : List Nat) (P : List (Nat × Nat)) (ss : List Stp) : Prop := ∃ st, runS true ss ([], []) = some st ∧ st.1.Perm J ∧ st.2.Perm P ∧ ss ≠ []
section
variable {n : Nat} {J : List Nat} {P : List (Nat × Nat)} {v : Nat} {ss : List Stp}
end
end Peb
end L2

/-! Covers, plainly. -/
namespace L2
namespace Peb
def Imp (n : Nat) (P : List (Nat × Nat)) (a b : Nat) : Prop := ordP a b ∈ P ∨ ¬PInd n (P ++ [ordP a b])
noncomputable instance (n : Nat) (P : List (Nat × Nat)) (a b : Nat) : Decidable (Imp n P a b) := Classical.propDecidable _
section
variable {n : Nat} {P : List (Nat × Nat)}
theorem imp_tig (hp : PrN n P) (hi : PInd n P) {a b : Nat} (hab : a ≠ b) (an : a < n) (bn : b < n) : Imp n P a b ↔ ∃ S, Tig n P S ∧ S a = true ∧ S b = true := by
  unfold Imp
  constructor
  · intro h
    rcases ord_ends a b with ⟨e1, e2⟩ | ⟨e1, e2⟩
    · have e : ordP a b = (a, b) := Prod.ext e1 e2
      rw [e] at h
      exact blk_of hi hp hab an bn h
    · have e : ordP a b = (b, a) := Prod.ext e1 e2
      rw [e] at h
      obtain ⟨S, h1, h2, h3⟩ := blk_of hi hp (Ne.symm hab) bn an h
      exact ⟨S, h1, h3, h2⟩
  · rintro ⟨S, h1, h2, h3⟩
    right
    rcases ord_ends a b with ⟨e1, e2⟩ | ⟨e1, e2⟩
    · have e : ordP a b = (a, b) := Prod.ext e1 e2
      rw [e]; exact h1.blocks h2 h3
    · have e : ordP a b = (b, a) := Prod.ext e1 e2
      rw [e]; exact h1.blocks h3 h2
theorem card_le_n (S : Nat → Bool) : cardS n S ≤ n := by
  rw [card_fil]
  have := List.length_filter_le S (List.range n)
  rw [List.length_range] at this
  exact this
theorem card_more {S T : Nat → Bool} (h : ∀ k, k < n → S k = true → T k = true) {k : Nat} (hk : k < n) (h1 : T k = true) (h2 : S k = false) : cardS n S < cardS n T := by
  have a := card_add hk h2
  have b : cardS n (fun x => S x || decide (x = k)) ≤ cardS n T := card_mono fun x hx e => by
    by_cases e2 : x = k
    · rw [e2]; exact h1
    · have : S x = true := by simpa [e2] using e
      exact h x hx this
  omega
/-- the greatest tight set with a pair -/
def MaxT (n : Nat) (P : List (Nat × Nat)) (i j : Nat) (W : Nat → Bool) : Prop := Tig n P W ∧ W i = true ∧ W j = true ∧ ∀ V, Tig n P V → V i = true → V j = true → ∀ k, k < n → V k = true → W k = true
theorem max_tig (hi : PInd n P) {i j : Nat} (hij : i ≠ j) (hin : i < n) (hjn : j < n) : ∀ (m : Nat) (S : Nat → Bool), n - cardS n S ≤ m → Tig n P S → S i = true → S j = true → ∃ W, MaxT n P i j W := by
  intro m
  induction m with
  | zero =>
    intro S hm hS h1 h2
    refine ⟨S, hS, h1, h2, fun V hV v1 v2 k hk hVk => ?_⟩
    cases e : S k with
    | true => rfl
    | false =>
      have := card_more (n := n) (S := S) (T := fun _ => true) (fun _ _ _ => rfl) hk rfl e
      have := card_le_n (n := n) (fun _ => true)
      omega
  | succ m ih =>
    intro S hm hS h1 h2
    by_cases h : ∃ V, Tig n P V ∧ V i = true ∧ V j = true ∧ ∃ k, k < n ∧ V k = true ∧ S k = false
    · obtain ⟨V, hV, v1, v2, k, hk, q1, q2⟩ := h
      have u := hS.or hi hV (card_two hij hin hjn (by show (S i && V i) = true; rw [h1, v1]; rfl) (by show (S j && V j) = true; rw [h2, v2]; rfl))
      have c := card_more (n := n) (S := S) (T := orS S V) (fun x _ e => by show (S x || V x) = true; rw [e]; rfl) hk (by show (S k || V k) = true; rw [q1]; simp) q2
      exact ih (orS S V) (by omega) u (by show (S i || V i) = true; rw [h1]; rfl) (by show (S j || V j) = true; rw [h2]; rfl)
    · refine ⟨S, hS, h1, h2, fun V hV v1 v2 k hk hVk => ?_⟩
      cases e : S k with
      | true => rfl
      | false => exact absurd ⟨V, hV, v1, v2, k, hk, hVk, e⟩ h
theorem max_of (hp : PrN n P) (hi : PInd n P) {p : Nat × Nat} (h : p ∈ P) : ∃ W, MaxT n P p.1 p.2 W := by
  obtain ⟨h1, h2, h3⟩ := hp p h
  exact max_tig hi h1 h2 h3 n _ (by omega) (tig_pair hi (i := p.1) (j := p.2) h h1 h2 h3) (by simp) (by simp)
/-- two that share a pair of joints -/
theorem MaxT.sub (hi : PInd n P) {i j i' j' a b : Nat} {W W' : Nat → Bool} (h : MaxT n P i j W) (h' : MaxT n P i' j' W') (hab : a ≠ b) (an : a < n) (bn : b < n) (a1 : W a = true) (a2 : W' a = true) (b1 : W b = true) (b2 : W' b = true) : ∀ k, k < n → W' k = true → W k = true := by
  have u := h.1.or hi h'.1 (card_two hab an bn (by show (W a && W' a) = true; rw [a1, a2]; rfl) (by show (W b && W' b) = true; rw [b1, b2]; rfl))
  intro k hk hk'
  exact h.2.2.2 _ u (by show (W i || W' i) = true; rw [h.2.1]; rfl) (by show (W j || W' j) = true; rw [h.2.2.1]; rfl) k hk (by show (W k || W' k) = true; rw [hk']; simp)
/-- the joints that go with a pair -/
noncomputable def CW (n : Nat) (P : List (Nat × Nat)) (i j : Nat) : List Nat := (List.range n).filter fun k => decide (k = i ∨ k = j ∨ (Imp n P i k ∧ Imp n P j k))
theorem cw_max (hp : PrN n P) (hi : PInd n P) {i j : Nat} (hij : i ≠ j) (hin : i < n) (hjn : j < n) {W : Nat → Bool} (h : MaxT n P i j W) : CW n P i j = (List.range n).filter W := by
  unfold CW
  refine List.filter_congr fun k hk => ?_
  have hk := List.mem_range.mp hk
  rw [Bool.eq_iff_iff, decide_eq_true_eq]
  constructor
  · rintro (rfl | rfl | ⟨h1, h2⟩)
    · exact h.2.1
    · exact h.2.2.1
    · by_cases e1 : k = i
      · rw [e1]; exact h.2.1
      by_cases e2 : k = j
      · rw [e2]; exact h.2.2.1
      obtain ⟨S, hS, s1, s2⟩ := (imp_tig hp hi (fun e => e1 e.symm) hin hk).mp h1
      obtain ⟨T, hT, t1, t2⟩ := (imp_tig hp hi (fun e => e2 e.symm) hjn hk).mp h2
      have u := tri hp hi h.1 hT hS (a := i) (b := j) (c := k) hij (fun e => e2 e.symm) (fun e => e1 e.symm) hin hjn hk h.2.1 h.2.2.1 t1 t2 s1 s2
      refine h.2.2.2 _ u ?_ ?_ k hk ?_
      · show ((W i || T i) || S i) = true; rw [h.2.1]; rfl
      · show ((W j || T j) || S j) = true; rw [h.2.2.1]; rfl
      · show ((W k || T k) || S k) = true; rw [t2]; simp
  · intro hW
    by_cases e1 : k = i
    · exact .inl e1
    by_cases e2 : k = j
    · exact .inr (.inl e2)
    exact .inr (.inr ⟨(imp_tig hp hi (fun e => e1 e.symm) hin hk).mpr ⟨W, h.1, h.2.1, hW⟩, (imp_tig hp hi (fun e => e2 e.symm) hjn hk).mpr ⟨W, h.1, h.2.2.1, hW⟩⟩)
/-- the sum of a list of tuples -/
def sumC (ks : List (List Nat)) : Int := (ks.map fun X => 2 * (X.length : Int) - 3).sum
def inX (p : Nat × Nat) (X : List Nat) : Bool := decide (p.1 ∈ X) && decide (p.2 ∈ X)
theorem inn_inX (X : List Nat) (Q : List (Nat × Nat)) : inn Q (inJ X) = Q.countP fun p => inX p X := by
  unfold inn inJ inX; rfl
theorem dbl (ks : List (List Nat)) : ∀ Q : List (Nat × Nat), (ks.map fun X => Q.countP fun p => inX p X).sum = (Q.map fun p => ks.countP fun X => inX p X).sum
  | [] => by
    have : ∀ ks : List (List Nat), (ks.map fun X => ([] : List (Nat × Nat)).countP fun p => inX p X).sum = 0 := fun ks => by
      induction ks with
      | nil => rfl
      | cons X ks ih => rw [List.map_cons, List.sum_cons, ih]; rfl
    exact this ks
  | p :: Q => by
    have ih := dbl ks Q
    rw [List.map_cons, List.sum_cons, ← ih]
    have : ∀ ks : List (List Nat), (ks.map fun X => (p :: Q).countP fun p => inX p X).sum = (ks.countP fun X => inX p X) + (ks.map fun X => Q.countP fun p => inX p X).sum := fun ks => by
      induction ks with
      | nil => rfl
      | cons X ks ih =>
        rw [List.map_cons, List.sum_cons, List.map_cons, List.sum_cons, ih, List.countP_cons, List.countP_cons]
        omega
    exact this ks
theorem countP_one {α : Type} (f : α → Bool) : ∀ {l : List α}, l.Nodup → (∃ x ∈ l, f x = true) → (∀ x ∈ l, ∀ y ∈ l, f x = true → f y = true → x = y) → l.countP f = 1
  | [], _, ⟨x, h, _⟩, _ => by cases h
  | a :: l, hd, ⟨x, hx, hf⟩, hu => by
    rw [List.countP_cons]
    have hd' := List.nodup_cons.mp hd
    by_cases e : f a = true
    · have : l.countP f = 0 := List.countP_eq_zero.mpr fun y hy q => by
        have := hu a (by simp) y (by simp [hy]) e q
        exact hd'.1 (this ▸ hy)
      rw [this, if_pos e]
    · rw [if_neg e]
      have hx' : x ∈ l := by
        rcases List.mem_cons.mp hx with h | h
        · rw [h] at hf; exact absurd hf e
        · exact h
      rw [countP_one f hd'.2 ⟨x, hx', hf⟩ fun y hy z hz => hu y (by simp [hy]) z (by simp [hz])]
structure CovOk (n : Nat) (P : List (Nat × Nat)) (ks : List (List Nat)) : Prop where
  nd : ks.Nodup
  mem : ∀ X, X ∈ ks ↔ ∃ p ∈ P, X = CW n P p.1 p.2
theorem CovOk.asc {ks : List (List Nat)} (h : CovOk n P ks) (hp : PrN n P) (hi : PInd n P) {X : List Nat} (hX : X ∈ ks) : X.Pairwise (· < ·) ∧ 2 ≤ X.length ∧ ∀ k ∈ X, k < n := by
  obtain ⟨p, hpm, rfl⟩ := (h.mem X).mp hX
  obtain ⟨h1, h2, h3⟩ := hp p hpm
  obtain ⟨W, hW⟩ := max_of hp hi hpm
  refine ⟨?_, ?_, fun k hk => ?_⟩
  · unfold CW; exact List.pairwise_lt_range.filter _
  · rw [cw_max hp hi h1 h2 h3 hW, ← card_fil]; exact hW.1.1
  · unfold CW at hk; exact List.mem_range.mp (List.mem_filter.mp hk).1
theorem CovOk.cov {ks : List (List Nat)} (h : CovOk n P ks) (hp : PrN n P) (hi : PInd n P) {q : Nat × Nat} (hq : q.1 ≠ q.2 ∧ q.1 < n ∧ q.2 < n) (hb : q ∈ P ∨ ¬PInd n (P ++ [q])) : ∃ X ∈ ks, q.1 ∈ X ∧ q.2 ∈ X := by
  obtain ⟨S, hS, s1, s2⟩ := blk_of hi hp hq.1 hq.2.1 hq.2.2 hb
  have pos : 0 < inn P S := by have := hS.1; have := hS.2; omega
  obtain ⟨p, hpm, hps⟩ := List.countP_pos_iff.mp pos
  rw [Bool.and_eq_true] at hps
  obtain ⟨h1, h2, h3⟩ := hp p hpm
  obtain ⟨W, hW⟩ := max_of hp hi hpm
  refine ⟨CW n P p.1 p.2, (h.mem _).mpr ⟨p, hpm, rfl⟩, ?_⟩
  rw [cw_max hp hi h1 h2 h3 hW, List.mem_filter, List.mem_filter, List.mem_range, List.mem_range]
  exact ⟨⟨hq.2.1, hW.2.2.2 S hS hps.1 hps.2 _ hq.2.1 s1⟩, hq.2.2, hW.2.2.2 S hS hps.1 hps.2 _ hq.2.2 s2⟩
theorem CovOk.sum {ks : List (List Nat)} (h : CovOk n P ks) (hp : PrN n P) (hi : PInd n P) : sumC ks = (P.length : Int) := by
  have each : ∀ X ∈ ks, 2 * (X.length : Int) - 3 = ((P.countP fun p => inX p X : Nat) : Int) := fun X hX => by
    obtain ⟨p, hpm, rfl⟩ := (h.mem X).mp hX
    obtain ⟨h1, h2, h3⟩ := hp p hpm
    obtain ⟨W, hW⟩ := max_of hp hi hpm
    have e := cw_max hp hi h1 h2 h3 hW
    have c : (CW n P p.1 p.2).length = cardS n W := by rw [e, card_fil]
    have i2 : (P.countP fun q => inX q (CW n P p.1 p.2)) = inn P W := by
      unfold inn
      refine List.countP_congr fun q hq => ?_
      obtain ⟨_, q2, q3⟩ := hp q hq
      unfold inX
      rw [e]
      simp [q2, q3]
    have := hW.1.2
    rw [i2, c]; omega
  have s1 : sumC ks = (((ks.map fun X => P.countP fun p => inX p X).sum : Nat) : Int) := by
    unfold sumC
    have : ∀ l : List (List Nat), (∀ X ∈ l, 2 * (X.length : Int) - 3 = ((P.countP fun p => inX p X : Nat) : Int)) → (l.map fun X => 2 * (X.length : Int) - 3).sum = (((l.map fun X => P.countP fun p => inX p X).sum : Nat) : Int) := fun l => by
      induction l with
      | nil => intro _; rfl
      | cons X l ih =>
        intro hl
        rw [List.map_cons, List.sum_cons, List.map_cons, List.sum_cons, ih fun Y hY => hl Y (by simp [hY]), hl X (by simp)]
        omega
    exact this ks each
  have s2 : (P.map fun p => ks.countP fun X => inX p X).sum = P.length := by
    have one : ∀ p ∈ P, (ks.countP fun X => inX p X) = 1 := fun p hpm => by
      obtain ⟨h1, h2, h3⟩ := hp p hpm
      obtain ⟨W, hW⟩ := max_of hp hi hpm
      refine countP_one _ h.nd ⟨CW n P p.1 p.2, (h.mem _).mpr ⟨p, hpm, rfl⟩, ?_⟩ fun X hX Y hY fX fY => ?_
      · rw [cw_max hp hi h1 h2 h3 hW]
        unfold inX
        simp [h2, h3, hW.2.1, hW.2.2.1]
      · obtain ⟨p1, m1, rfl⟩ := (h.mem X).mp hX
        obtain ⟨p2, m2, rfl⟩ := (h.mem Y).mp hY
        obtain ⟨a1, a2, a3⟩ := hp p1 m1
        obtain ⟨b1, b2, b3⟩ := hp p2 m2
        obtain ⟨W1, hW1⟩ := max_of hp hi m1
        obtain ⟨W2, hW2⟩ := max_of hp hi m2
        rw [cw_max hp hi a1 a2 a3 hW1] at fX ⊢
        rw [cw_max hp hi b1 b2 b3 hW2] at fY ⊢
        unfold inX at fX fY
        simp only [Bool.and_eq_true, decide_eq_true_eq, List.mem_filter, List.mem_range] at fX fY
        refine List.filter_congr fun k hk => ?_
        have hk := List.mem_range.mp hk
        rw [Bool.eq_iff_iff]
        exact ⟨hW2.sub hi hW1 h1 h2 h3 fY.1.2 fX.1.2 fY.2.2 fX.2.2 k hk, hW1.sub hi hW2 h1 h2 h3 fX.1.2 fY.1.2 fX.2.2 fY.2.2 k hk⟩
    have : ∀ l : List (Nat × Nat), (∀ p ∈ l, (ks.countP fun X => inX p X) = 1) → (l.map fun p => ks.countP fun X => inX p X).sum = l.length := fun l => by
      induction l with
      | nil => intro _; rfl
      | cons p l ih =>
        intro hl
        rw [List.map_cons, List.sum_cons, ih fun q hq => hl q (by simp [hq]), hl p (by simp), List.length_cons]; omega
    exact this P one
  rw [s1, dbl, s2]
/-- no cover has a lesser sum -/
theorem cov_weak (hp : PrN n P) (hi : PInd n P) {ks : List (List Nat)} (hk : ∀ X ∈ ks, X.Nodup ∧ 2 ≤ X.length ∧ ∀ k ∈ X, k < n) (hc : ∀ p ∈ P, ∃ X ∈ ks, p.1 ∈ X ∧ p.2 ∈ X) : (P.length : Int) ≤ sumC ks := by
  have each : ∀ X ∈ ks, ((P.countP fun p => inX p X : Nat) : Int) ≤ 2 * (X.length : Int) - 3 := fun X hX => by
    obtain ⟨h1, h2, h3⟩ := hk X hX
    have c := card_inJ h1 h3
    have d := hi (inJ X) (by rw [c]; exact h2)
    rw [c, inn_inX] at d
    omega
  have s1 : (((ks.map fun X => P.countP fun p => inX p X).sum : Nat) : Int) ≤ sumC ks := by
    unfold sumC
    have : ∀ l : List (List Nat), (∀ X ∈ l, ((P.countP fun p => inX p X : Nat) : Int) ≤ 2 * (X.length : Int) - 3) → (((l.map fun X => P.countP fun p => inX p X).sum : Nat) : Int) ≤ (l.map fun X => 2 * (X.length : Int) - 3).sum := fun l => by
      induction l with
      | nil => intro _; exact Int.le_refl _
      | cons X l ih =>
        intro hl
        have a := ih fun Y hY => hl Y (by simp [hY])
        have b := hl X (by simp)
        rw [List.map_cons, List.sum_cons, List.map_cons, List.sum_cons]
        omega
    exact this ks each
  have s2 : P.length ≤ (P.map fun p => ks.countP fun X => inX p X).sum := by
    have : ∀ l : List (Nat × Nat), (∀ p ∈ l, ∃ X ∈ ks, p.1 ∈ X ∧ p.2 ∈ X) → l.length ≤ (l.map fun p => ks.countP fun X => inX p X).sum := fun l => by
      induction l with
      | nil => intro _; exact Nat.le_refl _
      | cons p l ih =>
        intro hl
        have a := ih fun q hq => hl q (by simp [hq])
        obtain ⟨X, hX, x1, x2⟩ := hl p (by simp)
        have b : 0 < ks.countP fun X => inX p X := List.countP_pos_iff.mpr ⟨X, hX, by unfold inX; simp [x1, x2]⟩
        rw [List.map_cons, List.sum_cons, List.length_cons]; omega
    exact this P hc
  rw [dbl] at s1
  omega
end
end Peb
end L2

/-! Ranks of pairs, plainly: what is blocked is no more; the cheapest. -/
namespace L2
namespace Peb
/-- some list of covering sets -/
theorem cov_ex (n : Nat) (P : List (Nat × Nat)) : ∃ ks, CovOk n P ks := by
  suffices h : ∀ l : List (List Nat), ∃ ks : List (List Nat), ks.Nodup ∧ ∀ X, X ∈ ks ↔ X ∈ l by
    obtain ⟨ks, h1, h2⟩ := h (P.map fun p => CW n P p.1 p.2)
    refine ⟨ks, h1, fun X => ?_⟩
    rw [h2, List.mem_map]
    constructor
    · rintro ⟨p, hp, e⟩; exact ⟨p, hp, e.symm⟩
    · rintro ⟨p, hp, e⟩; exact ⟨p, hp, e.symm⟩
  intro l
  induction l with
  | nil => exact ⟨[], List.nodup_nil, fun X => Iff.rfl⟩
  | cons Y l ih =>
    obtain ⟨ks, h1, h2⟩ := ih
    by_cases h : Y ∈ ks
    · refine ⟨ks, h1, fun X => ?_⟩
      rw [List.mem_cons, ← h2]
      constructor
      · exact .inr
      · rintro (rfl | q)
        · exact h
        · exact q
    · exact ⟨Y :: ks, List.nodup_cons.mpr ⟨h, h1⟩, fun X => by rw [List.mem_cons, List.mem_cons, h2]⟩
/-- what P blocks has no more than P -/
theorem few {n : Nat} {P J : List (Nat × Nat)} (hp : PrN n P) (hi : PInd n P) (jp : PrN n J) (hj : PInd n J) (hb : ∀ q ∈ J, q ∈ P ∨ ¬PInd n (P ++ [q])) : J.length ≤ P.length := by
  obtain ⟨ks, hk⟩ := cov_ex n P
  have h1 := hk.sum hp hi
  have h2 := cov_weak jp hj (ks := ks) (fun X hX => let ⟨a, b, c⟩ := hk.asc hp hi hX; ⟨a.imp fun h => Nat.ne_of_lt h, b, c⟩) fun q hq => hk.cov hp hi (jp q hq) (hb q hq)
  omega
theorem grd_pr {n : Nat} {ps acc : List (Nat × Nat)} (h1 : PrN n acc) (h2 : PrN n ps) : PrN n (grdP n acc ps) := fun p hp => by
  rcases grd_sub ps acc p hp with h | h
  · exact h1 p h
  · exact h2 p h
theorem not_ind_more {n : Nat} {P Q : List (Nat × Nat)} {q : Nat × Nat} (h : ¬PInd n (P ++ [q])) (hs : P.Sublist Q) : ¬PInd n (Q ++ [q]) := fun z => h (z.sub (hs.append (List.Sublist.refl _)))
/-- at most 2 n - 3 -/
theorem ind_top {n : Nat} (h2 : 2 ≤ n) {P : List (Nat × Nat)} (hp : PrN n P) (hi : PInd n P) : P.length + 3 ≤ 2 * n := by
  have c : cardS n (fun _ => true) = n := by
    rw [card_fil, List.filter_eq_self.mpr fun _ _ => rfl, List.length_range]
  have := hi (fun _ => true) (by rw [c]; exact h2)
  rw [c, inn_all fun p _ => ⟨rfl, rfl⟩] at this
  exact this
/-- the count rank: the same for all lists with the same pairs -/
theorem grd_mono {n : Nat} {A B : List (Nat × Nat)} (ha : PrN n A) (hb : PrN n B) (h : ∀ q ∈ A, q ∈ B) : (grdP n [] A).length ≤ (grdP n [] B).length := by
  refine few (grd_pr (fun p hp => by cases hp) hb) (grd_ind _ _ (ind_nil n)) (grd_pr (fun p hp => by cases hp) ha) (grd_ind _ _ (ind_nil n)) fun q hq => ?_
  rcases grd_sub _ _ q hq with z | z
  · cases z
  · exact grd_max B [] q (h q z)
theorem len_two {α : Type} (B : α → Bool) : ∀ l : List α, l.length = (l.filter B).length + (l.filter fun q => !B q).length
  | [] => rfl
  | x :: l => by
    have := len_two B l
    rw [List.filter_cons, List.filter_cons]
    cases h : B x <;> simp <;> omega
theorem nd_le {α : Type} [DecidableEq α] : ∀ {a b : List α}, a.Nodup → (∀ x ∈ a, x ∈ b) → a.length ≤ b.length
  | [], b, _, _ => Nat.zero_le _
  | x :: a, b, hd, h => by
    obtain ⟨h1, h2⟩ := List.nodup_cons.mp hd
    have hx := h x (by simp)
    have := nd_le (b := b.erase x) h2 fun y hy => (List.mem_erase_of_ne (fun e : y = x => h1 (by rw [← e]; exact hy))).mpr (h y (by simp [hy]))
    have hl := List.length_erase_of_mem hx
    have : 0 < b.length := List.length_pos_of_mem hx
    rw [List.length_cons]
    omega
/-! ### the cheapest -/
/-- offers: a pair and its cost -/
abbrev Ofr := (Nat × Nat) × Nat
open Classical in
/-- taken one by one: the positions that are taken -/
noncomputable def tkG (n : Nat) (f : Nat → Nat × Nat) (acc : List (Nat × Nat)) : List Nat → List Nat
  | [] => []
  | a :: as => if PInd n (acc ++ [f a]) then a :: tkG n f (acc ++ [f a]) as else tkG n f acc as
theorem tkG_sub {n : Nat} {f : Nat → Nat × Nat} : ∀ (as : List Nat) (acc : List (Nat × Nat)), (tkG n f acc as).Sublist as
  | [], _ => List.Sublist.slnil
  | a :: as, acc => by
    unfold tkG
    split
    · exact (tkG_sub as _).cons₂ a
    · exact (tkG_sub as _).cons a
theorem tkG_ind {n : Nat} {f : Nat → Nat × Nat} : ∀ (as : List Nat) (acc : List (Nat × Nat)), PInd n acc → PInd n (acc ++ (tkG n f acc as).map f)
  | [], acc, h => by simpa [tkG] using h
  | a :: as, acc, h => by
    unfold tkG
    split
    · rename_i q
      have := tkG_ind (f := f) as _ q
      rw [List.append_assoc] at this
      simpa using this
    · exact tkG_ind as _ h
/-- each position is taken, or blocked by what was taken up to it -/
theorem tkG_max {n : Nat} {f : Nat → Nat × Nat} : ∀ (as : List Nat) (acc : List (Nat × Nat)) (pre : List Nat) (a : Nat) (post : List Nat), as = pre ++ a :: post → a ∈ tkG n f acc as ∨ ¬PInd n ((acc ++ (tkG n f acc pre).map f) ++ [f a])
  | [], acc, pre, a, post, h => by simp at h
  | b :: as, acc, pre, a, post, h => by
    cases pre with
    | nil =>
      simp only [List.nil_append, List.cons.injEq] at h
      obtain ⟨rfl, rfl⟩ := h
      unfold tkG
      by_cases q : PInd n (acc ++ [f b])
      · rw [if_pos q]; exact .inl (by simp)
      · rw [if_neg q]; refine .inr ?_
        simpa [tkG] using q
    | cons c pre =>
      simp only [List.cons_append, List.cons.injEq] at h
      obtain ⟨rfl, rfl⟩ := h
      unfold tkG
      by_cases q : PInd n (acc ++ [f b])
      · rw [if_pos q, if_pos q]
        rcases tkG_max (pre ++ a :: post) (acc ++ [f b]) pre a post rfl with r | r
        · exact .inl (List.mem_cons_of_mem _ r)
        · refine .inr ?_
          rw [List.map_cons]
          simpa using r
      · rw [if_neg q, if_neg q]
        exact tkG_max (pre ++ a :: post) acc pre a post rfl
theorem tkG_pre {n : Nat} {f : Nat → Nat × Nat} : ∀ (pre post : List Nat) (acc : List (Nat × Nat)), ∃ r, tkG n f acc (pre ++ post) = tkG n f acc pre ++ r ∧ ∀ x ∈ r, x ∈ post
  | [], post, acc => ⟨_, by simp [tkG]; rfl, fun x hx => (tkG_sub post acc).subset hx⟩
  | a :: pre, post, acc => by
    rw [List.cons_append]
    unfold tkG
    split
    · obtain ⟨r, h1, h2⟩ := tkG_pre pre post (acc ++ [f a])
      exact ⟨r, by rw [h1]; rfl, h2⟩
    · exact tkG_pre pre post acc
/-- what stands before a threshold -/
theorem upto_split {c : Nat → Nat} : ∀ (as : List Nat), as.Pairwise (fun a b => c a ≤ c b) → ∀ m : Nat, ∃ pre post, as = pre ++ post ∧ (∀ x ∈ pre, c x ≤ m) ∧ ∀ x ∈ post, m < c x
  | [], _, m => ⟨[], [], rfl, fun x h => (nomatch h), fun x h => (nomatch h)⟩
  | a :: as, h, m => by
    obtain ⟨h1, h2⟩ := List.pairwise_cons.mp h
    by_cases q : c a ≤ m
    · obtain ⟨pre, post, e, z1, z2⟩ := upto_split as h2 m
      refine ⟨a :: pre, post, by rw [e]; rfl, fun x hx => ?_, z2⟩
      rcases List.mem_cons.mp hx with rfl | hx
      · exact q
      · exact z1 x hx
    · refine ⟨[], a :: as, rfl, fun x h => (nomatch h), fun x hx => ?_⟩
      rcases List.mem_cons.mp hx with rfl | hx
      · omega
      · have := h1 x hx; omega
section
variable {n : Nat} {N : List (Nat × Nat)} {f : Nat → Nat × Nat} {c : Nat → Nat} {as : List Nat}
/-- the pairs of the net and of the offers at positions -/
def Wth (N : List (Nat × Nat)) (f : Nat → Nat × Nat) (T : List Nat) (A : List (Nat × Nat)) : Prop := ∀ q, q ∈ A ↔ q ∈ N ∨ ∃ t ∈ T, q = f t
/-- with dear offers left out -/
theorem cheap (hN : PrN n N) (hf : ∀ a ∈ as, (f a).1 ≠ (f a).2 ∧ (f a).1 < n ∧ (f a).2 < n) (hs : as.Pairwise fun a b => c a ≤ c b) (T : List Nat) (hT : ∀ t ∈ T, t ∈ as) {A : List (Nat × Nat)} (hA : Wth N f T A) (m : Nat) :
    (grdP n [] A).length ≤ (grdP n [] N).length + ((tkG n f (grdP n [] N) as).filter fun g => decide (c g ≤ m)).length + (T.filter fun t => decide (m < c t)).length := by
  obtain ⟨pre, post, e, h1, h2⟩ := upto_split as hs m
  have pN0 : PrN n (grdP n [] N) := grd_pr (fun p hp => by cases hp) hN
  have iN0 : PInd n (grdP n [] N) := grd_ind _ _ (ind_nil n)
  obtain ⟨r, e2, h3⟩ := tkG_pre (f := f) (n := n) pre post (grdP n [] N)
  have preS := tkG_sub (f := f) (n := n) pre (grdP n [] N)
  have fl : ((tkG n f (grdP n [] N) as).filter fun g => decide (c g ≤ m)) = tkG n f (grdP n [] N) pre := by
    rw [e, e2, List.filter_append]
    have a1 : (tkG n f (grdP n [] N) pre).filter (fun g => decide (c g ≤ m)) = tkG n f (grdP n [] N) pre := List.filter_eq_self.mpr fun x hx => decide_eq_true (h1 x (preS.subset hx))
    have a2 : r.filter (fun g => decide (c g ≤ m)) = [] := List.filter_eq_nil_iff.mpr fun x hx => by
      have := h2 x (h3 x hx)
      simp; omega
    rw [a1, a2, List.append_nil]
  rw [fl]
  have inP : PInd n (grdP n [] N ++ (tkG n f (grdP n [] N) pre).map f) := tkG_ind _ _ iN0
  have prP : PrN n (grdP n [] N ++ (tkG n f (grdP n [] N) pre).map f) := fun p hp => by
    rcases List.mem_append.mp hp with z | z
    · exact pN0 p z
    · obtain ⟨a, ha, rfl⟩ := List.mem_map.mp z
      exact hf a (by rw [e]; exact List.mem_append_left _ (preS.subset ha))
  have prA : PrN n A := fun p hp => by
    rcases (hA p).mp hp with z | ⟨t, ht, rfl⟩
    · exact hN p z
    · exact hf t (hT t ht)
  have prJ : PrN n (grdP n [] A) := grd_pr (fun p hp => by cases hp) prA
  have inJ : PInd n (grdP n [] A) := grd_ind _ _ (ind_nil n)
  have nd := ind_nodup prJ inJ
  -- what J has of cheap things
  let B : Nat × Nat → Bool := fun q => decide (q ∈ N ∨ ∃ t ∈ T, q = f t ∧ c t ≤ m)
  have spl : (grdP n [] A).length = ((grdP n [] A).filter B).length + ((grdP n [] A).filter fun q => !B q).length := len_two B _
  have l1 : ((grdP n [] A).filter B).length ≤ (grdP n [] N ++ (tkG n f (grdP n [] N) pre).map f).length := by
    refine few prP inP (fun p hp => prJ p (List.mem_filter.mp hp).1) (inJ.sub List.filter_sublist) fun q hq => ?_
    have hB := (List.mem_filter.mp hq).2
    rcases of_decide_eq_true hB with z | ⟨t, ht, rfl, hc⟩
    · rcases grd_max N [] q z with w | w
      · exact .inl (List.mem_append_left _ w)
      · exact .inr (not_ind_more w (List.sublist_append_left _ _))
    · have hm : t ∈ pre := by
        have := hT t ht
        rw [e] at this
        rcases List.mem_append.mp this with z | z
        · exact z
        · have := h2 t z; omega
      obtain ⟨u, v, e3⟩ := List.append_of_mem hm
      rcases tkG_max (f := f) pre (grdP n [] N) u t v e3 with w | w
      · exact .inl (List.mem_append_right _ (List.mem_map.mpr ⟨t, w, rfl⟩))
      · refine .inr (not_ind_more w ?_)
        obtain ⟨r', e4, _⟩ := tkG_pre (f := f) (n := n) u (t :: v) (grdP n [] N)
        rw [e3, e4, List.map_append]
        exact (List.Sublist.refl _).append (List.sublist_append_left _ _)
  have l2 : ((grdP n [] A).filter fun q => !B q).length ≤ (T.filter fun t => decide (m < c t)).length := by
    rw [← List.length_map (as := T.filter fun t => decide (m < c t)) f]
    refine nd_le (nd.filter _) fun q hq => ?_
    obtain ⟨k1, k2⟩ := List.mem_filter.mp hq
    have qA : q ∈ A := (grd_sub _ _ q k1).resolve_left (fun z => by cases z)
    have nB : ¬(q ∈ N ∨ ∃ t ∈ T, q = f t ∧ c t ≤ m) := by
      intro z
      simp only [B, decide_eq_true z] at k2
      cases k2
    rcases (hA q).mp qA with z | ⟨t, ht, rfl⟩
    · exact absurd (.inl z) nB
    · exact List.mem_map.mpr ⟨t, List.mem_filter.mpr ⟨ht, decide_eq_true (by
        by_cases w : c t ≤ m
        · exact absurd (.inr ⟨t, ht, rfl, w⟩) nB
        · omega)⟩, rfl⟩
  rw [List.length_append, List.length_map] at l1
  omega
end
/-- a sum by thresholds -/
theorem sum_thr (c : Nat → Nat) (C : Nat) : ∀ T : List Nat, (∀ t ∈ T, c t ≤ C) → (T.map c).sum = sg C fun m => (T.filter fun t => decide (m < c t)).length
  | [], _ => by
    show 0 = _
    have : ∀ C, sg C (fun _ => 0) = 0 := fun C => by
      induction C with
      | zero => rfl
      | succ C ih => rw [sg, ih]
    exact (this C).symm
  | t :: T, h => by
    have ih := sum_thr c C T fun x hx => h x (by simp [hx])
    have hc := h t (by simp)
    rw [List.map_cons, List.sum_cons, ih]
    have one : ∀ k C, k ≤ C → sg C (fun m => if m < k then 1 else 0) = k := fun k C => by
      induction C with
      | zero => intro h; have : k = 0 := by omega
                subst this; rfl
      | succ C ihC =>
        intro h
        rw [sg]
        by_cases e : k ≤ C
        · rw [ihC e, if_neg (by omega)]; omega
        · have ek : k = C + 1 := by omega
          subst ek
          rw [if_pos (by omega)]
          have : sg C (fun m => if m < C + 1 then 1 else 0) = sg C (fun m => if m < C then 1 else 0) := sg_congr fun m hm => by rw [if_pos (by omega), if_pos hm]
          have all : ∀ C, sg C (fun m => if m < C then 1 else 0) = C := fun C => by
            have h1 : ∀ D, sg D (fun _ => 1) = D := fun D => by
              induction D with
              | zero => rfl
              | succ D ih => rw [sg, ih]
            rw [show sg C (fun m => if m < C then 1 else 0) = sg C (fun _ => 1) from sg_congr fun m hm => if_pos hm]
            exact h1 C
          rw [this, all]
    have e1 := one (c t) C hc
    calc c t + sg C (fun m => (T.filter fun t => decide (m < c t)).length) = sg C (fun m => if m < c t then 1 else 0) + sg C (fun m => (T.filter fun t => decide (m < c t)).length) := by rw [e1]
      _ = sg C (fun m => (if m < c t then 1 else 0) + (T.filter fun t => decide (m < c t)).length) := (sg_add _ _ C).symm
      _ = _ := sg_congr fun m _ => by
        rw [List.filter_cons]
        by_cases e : m < c t
        · rw [if_pos e, if_pos (decide_eq_true e), List.length_cons]; omega
        · rw [if_neg e, if_neg (by simp; omega)]; omega
theorem fil_le_lt (c : Nat → Nat) (m : Nat) : ∀ T : List Nat, (T.filter fun t => decide (c t ≤ m)).length + (T.filter fun t => decide (m < c t)).length = T.length
  | [] => rfl
  | t :: T => by
    have := fil_le_lt c m T
    rw [List.filter_cons, List.filter_cons]
    by_cases e : c t ≤ m
    · rw [if_pos (decide_eq_true e), if_neg (by simp; omega)]; simp; omega
    · rw [if_neg (by simp; omega), if_pos (decide_eq_true (by omega))]; simp; omega
section
variable {n : Nat} {N : List (Nat × Nat)} {f : Nat → Nat × Nat} {c : Nat → Nat} {as : List Nat}
/-- no set of offers that gives as much costs less -/
theorem best (hN : PrN n N) (hf : ∀ a ∈ as, (f a).1 ≠ (f a).2 ∧ (f a).1 < n ∧ (f a).2 < n) (hs : as.Pairwise fun a b => c a ≤ c b) (T : List Nat) (hT : ∀ t ∈ T, t ∈ as) {A : List (Nat × Nat)} (hA : Wth N f T A) {C : Nat} (hC : ∀ a ∈ as, c a ≤ C)
    (hr : (grdP n [] N).length + (tkG n f (grdP n [] N) as).length ≤ (grdP n [] A).length) : ((tkG n f (grdP n [] N) as).map c).sum ≤ (T.map c).sum := by
  rw [sum_thr c C _ fun t ht => hC t ((tkG_sub as _).subset ht), sum_thr c C T fun t ht => hC t (hT t ht)]
  refine sg_le fun m _ => ?_
  have h1 := cheap hN hf hs T hT hA m
  have h2 := fil_le_lt c m (tkG n f (grdP n [] N) as)
  omega
/-- all offers give no more than what is taken -/
theorem most (hN : PrN n N) (hf : ∀ a ∈ as, (f a).1 ≠ (f a).2 ∧ (f a).1 < n ∧ (f a).2 < n) (hs : as.Pairwise fun a b => c a ≤ c b) (T : List Nat) (hT : ∀ t ∈ T, t ∈ as) {A : List (Nat × Nat)} (hA : Wth N f T A) {C : Nat} (hC : ∀ a ∈ as, c a ≤ C) :
    (grdP n [] A).length ≤ (grdP n [] N).length + (tkG n f (grdP n [] N) as).length := by
  have h1 := cheap hN hf hs T hT hA C
  have h2 : (T.filter fun t => decide (C < c t)) = [] := List.filter_eq_nil_iff.mpr fun t ht => by
    have := hC t (hT t ht)
    simp; omega
  have h3 := List.length_filter_le (fun g => decide (c g ≤ C)) (tkG n f (grdP n [] N) as)
  rw [h2] at h1
  simp only [List.length_nil] at h1
  omega
/-- what is taken gives it -/
theorem gives (hN : PrN n N) (hf : ∀ a ∈ as, (f a).1 ≠ (f a).2 ∧ (f a).1 < n ∧ (f a).2 < n) {T : List Nat} (hT : ∀ t ∈ T, t ∈ tkG n f (grdP n [] N) as) (hT2 : ∀ t ∈ tkG n f (grdP n [] N) as, t ∈ T) {A : List (Nat × Nat)} (hA : Wth N f T A) :
    (grdP n [] N).length + (tkG n f (grdP n [] N) as).length ≤ (grdP n [] A).length := by
  have sub := tkG_sub (f := f) (n := n) as (grdP n [] N)
  have pN0 : PrN n (grdP n [] N) := grd_pr (fun p hp => by cases hp) hN
  have iP := tkG_ind (f := f) as _ (grd_ind N [] (ind_nil n))
  have pP : PrN n (grdP n [] N ++ (tkG n f (grdP n [] N) as).map f) := fun p hp => by
    rcases List.mem_append.mp hp with z | z
    · exact pN0 p z
    · obtain ⟨a, ha, rfl⟩ := List.mem_map.mp z
      exact hf a (sub.subset ha)
  have pA : PrN n A := fun p hp => by
    rcases (hA p).mp hp with z | ⟨t, ht, rfl⟩
    · exact hN p z
    · exact hf t (sub.subset (hT t ht))
  have := few (grd_pr (fun p hp => by cases hp) pA) (grd_ind A [] (ind_nil n)) pP iP fun q hq => grd_max A [] q ((hA q).mpr (by
    rcases List.mem_append.mp hq with z | z
    · exact .inl ((grd_sub _ _ q z).resolve_left fun w => by cases w)
    · obtain ⟨a, ha, rfl⟩ := List.mem_map.mp z
      exact .inr ⟨a, hT2 a ha, rfl⟩))
  rw [List.length_append, List.length_map] at this
  exact this
/-- with one of them left out it is less -/
theorem less_out (hN : PrN n N) (hf : ∀ a ∈ as, (f a).1 ≠ (f a).2 ∧ (f a).1 < n ∧ (f a).2 < n) {g : Nat} (hg : g ∈ tkG n f (grdP n [] N) as) {T : List Nat} (hT : ∀ t, t ∈ T ↔ t ∈ tkG n f (grdP n [] N) as ∧ t ≠ g) {A : List (Nat × Nat)} (hA : Wth N f T A) :
    (grdP n [] A).length < (grdP n [] N).length + (tkG n f (grdP n [] N) as).length := by
  have sub := tkG_sub (f := f) (n := n) as (grdP n [] N)
  have pN0 : PrN n (grdP n [] N) := grd_pr (fun p hp => by cases hp) hN
  have iP := tkG_ind (f := f) as _ (grd_ind N [] (ind_nil n))
  let G' := (tkG n f (grdP n [] N) as).filter fun t => decide (t ≠ g)
  have gl : G'.length < (tkG n f (grdP n [] N) as).length := by
    refine Nat.lt_of_le_of_ne (List.length_filter_le _ _) fun e => ?_
    have := (List.length_filter_eq_length_iff.mp e) g hg
    simp at this
  have iP' : PInd n (grdP n [] N ++ G'.map f) := iP.sub ((List.Sublist.refl _).append (List.filter_sublist.map f))
  have pP' : PrN n (grdP n [] N ++ G'.map f) := fun p hp => by
    rcases List.mem_append.mp hp with z | z
    · exact pN0 p z
    · obtain ⟨a, ha, rfl⟩ := List.mem_map.mp z
      exact hf a (sub.subset (List.mem_filter.mp ha).1)
  have pA : PrN n A := fun p hp => by
    rcases (hA p).mp hp with z | ⟨t, ht, rfl⟩
    · exact hN p z
    · exact hf t (sub.subset ((hT t).mp ht).1)
  have := few pP' iP' (grd_pr (fun p hp => by cases hp) pA) (grd_ind A [] (ind_nil n)) fun q hq => by
    rcases (hA q).mp ((grd_sub _ _ q hq).resolve_left fun w => by cases w) with z | ⟨t, ht, rfl⟩
    · rcases grd_max N [] q z with w | w
      · exact .inl (List.mem_append_left _ w)
      · exact .inr (not_ind_more w (List.sublist_append_left _ _))
    · obtain ⟨w1, w2⟩ := (hT t).mp ht
      exact .inl (List.mem_append_right _ (List.mem_map.mpr ⟨t, List.mem_filter.mpr ⟨w1, decide_eq_true w2⟩, rfl⟩))
  rw [List.length_append, List.length_map] at this
  omega
end
end Peb
end L2

/-! Loose joints, parts, limits. -/
namespace L2
namespace Mi
open PySem PySem.Spec PyProof.Rows
variable {G : Sig}
/-! ### sets of numbers as dicts -/
theorem lkp_nT : ∀ (ks : List Nat) (vs : List T) (x : Nat), vs.length = ks.length → (lkp (ks.map nT) vs (nT x)).isSome = decide (x ∈ ks)
  | [], _, x, _ => by cases ‹List T› <;> simp [lkp]
  | k :: ks, [], x, h => by simp at h
  | k :: ks, v :: vs, x, h => by
    rw [List.map_cons, lkp, eqT_nT]
    by_cases e : k = x
    · subst e; simp
    · rw [decide_eq_false e, if_neg (by simp), lkp_nT ks vs x (by simpa using h)]
      have : ¬x = k := fun q => e q.symm
      simp [this]
theorem any_nT (ks : List Nat) (x : Nat) : ((ks.map nT).any fun k => eqT k (nT x)) = decide (x ∈ ks) := by
  induction ks with
  | nil => simp
  | cons k ks ih =>
    rw [List.map_cons, List.any_cons, ih, eqT_nT]
    by_cases e : k = x
    · subst e; simp
    · have : ¬x = k := fun q => e q.symm
      simp [e, this]
/-! ### loose joints -/
def loose (f : Fm) : List Nat := (List.range f.pts.length).filter fun x => !decide (x ∈ f.pins)
theorem loose_len (f : Fm) : (loose f).length ≤ f.pts.length := by
  have := List.length_filter_le (fun x => !decide (x ∈ f.pins)) (List.range f.pts.length)
  rwa [List.length_range] at this
/-! ### parts -/
def partsM (k : Nat) (m : Mb) : List (Nat × Int) := (if m.pull = some 0 then [] else [(k, 1)]) ++ (if m.push = some 0 then [] else [(k, -1)])
def partsF (f : Fm) : List (Nat × Int) := (List.range f.mbs.length).flatMap fun k => partsM k (gm f k)
theorem partsM_len (k : Nat) (m : Mb) : (partsM k m).length ≤ 2 := by unfold partsM; split <;> split <;> simp
theorem parts_upto_len (f : Fm) (i : Nat) : ((List.range i).flatMap fun k => partsM k (gm f k)).length ≤ 2 * i := by
  induction i with
  | zero => simp
  | succ i ih =>
    rw [List.range_succ, List.flatMap_append, List.length_append, List.flatMap_cons, List.flatMap_nil, List.append_nil]
    have := partsM_len i (gm f i)
    omega
@[simp] theorem cmp_ne_oTi (o : Option Int) (i : Int) (M : Mem) : cmpT .NotEq (oT o) (.int i) M = some (!decide (o = some i)) := by
  cases o with
  | none => rfl
  | some x => show cmpT .NotEq (.int x) (.int i) M = _; rw [cmp_ne]; simp
end Mi
end L2

/-! Limits, balance rows, sides. -/
namespace L2
namespace Mi
open PySem PySem.Spec PyProof.Rows
variable {G : Sig}
def limOf (f : Fm) (p : Nat × Int) : Option Int := if p.2 = 1 then (gm f p.1).pull else (gm f p.1).push
def crd (v : Vec) (w : Nat) : Int := if w = 0 then v.1 else v.2
def ind (a b : Nat) : Int := if a = b then 1 else 0
/-- a part's entry in a joint's row -/
def balE (f : Fm) (jt w : Nat) (p : Nat × Int) : Int := -(p.2 * crd (spanV f p.1) w) * ind jt (gm f p.1).i + p.2 * crd (spanV f p.1) w * ind jt (gm f p.1).j
def balR (f : Fm) (ps : List (Nat × Int)) (jt w : Nat) : List Int := ps.map (balE f jt w)
def balRs (f : Fm) (ps : List (Nat × Int)) : List (List Int) := (loose f).flatMap fun jt => [balR f ps jt 0, balR f ps jt 1]
def PsOk (f : Fm) (ps : List (Nat × Int)) : Prop := ∀ p ∈ ps, p.1 < f.mbs.length ∧ (p.2 = 1 ∨ p.2 = -1)
theorem balRs_len (f : Fm) (ps : List (Nat × Int)) : (balRs f ps).length = 2 * (loose f).length := by
  unfold balRs
  induction loose f with
  | nil => rfl
  | cons x l ih => rw [List.flatMap_cons, List.length_append, ih]; simp; omega
/-! ### sides -/
/-! ### limits -/
def bnds (ls : List (Option Int)) : List Nat := (List.range ls.length).filter fun i => (ls.getD i none).isSome
def limRow (w B a c : Nat) : List Int := ((List.replicate (w + B) 0).set a 1).set (w + c) 1
def limRs (ls : List (Option Int)) (w : Nat) : List (List Int) := (List.range (bnds ls).length).map fun c => limRow w (bnds ls).length ((bnds ls).getD c 0) c
theorem bnd_len (ls : List (Option Int)) : (bnds ls).length ≤ ls.length := by
  have := List.length_filter_le (fun i => (ls.getD i none).isSome) (List.range ls.length)
  rwa [List.length_range] at this
theorem mem_bnd {ls : List (Option Int)} {i : Nat} : i ∈ bnds ls ↔ i < ls.length ∧ (ls.getD i none).isSome = true := by simp [bnds]
end Mi
end L2

/-! Tensions of parts, motions of prices, whole motions. -/
namespace L2
namespace Mi
open PySem PySem.Spec PyProof.Rows
variable {G : Sig}
/-! ### tensions -/
/-- no bound of the divisor's bits -/
structure Pk (D B : Nat) : Prop where
  d0 : 0 < D
  dd : D < 2 ^ 50000000
  bb : B < 2 ^ 50000000
theorem Pk.sq {D B : Nat} (h : Pk D B) {q : Rat} (hq : InD D B q) : Sq 60000000 q := (hq.sq h.d0 h.dd h.bb).mono (by decide)
theorem Pk.mono {D B B' : Nat} (h : Pk D B) (hb : B' ≤ B) : Pk D B' := ⟨h.d0, h.dd, Nat.lt_of_le_of_lt hb h.bb⟩
end Mi
end L2

/-! Motions of prices, whole motions. -/
namespace L2
namespace Mi
open PySem PySem.Spec PyProof.Rows
variable {G : Sig}
theorem add_one_n (tr : Bool) (a : Nat) (M : Mem) : binT .Add tr (nT a) (.int 1) M = some (nT (a + 1), M) := by
  show some (T.int ((a : Int) + 1), M) = some (T.int _, M)
  rw [Int.natCast_add]; rfl
/-! ### whole motions -/
/-- a positive multiple of numbers in lowest terms -/
structure Whole (qs : List Rat) (B : Nat) (zs : List Int) : Prop where
  zl : zs.length = qs.length
  mul : ∃ c : Rat, 0 < c ∧ ∀ i, (gt zs i : Rat) = c * gq qs i
  bd : ∀ i, (gt zs i).natAbs ≤ B
  low : gcdL zs ≤ 1
end Mi
end L2

/-! maximize, with sides that may be greater than the rows. -/
namespace L2
namespace Mi
open PySem PySem.Spec PyProof.Rows
variable {G : Sig}
def Ans.ray : Ans → List Rat
  | .none _ => []
  | .any _ r => r
  | .most _ _ => []
end Mi
end L2

/-! Whole motions; the program of a frame and a load; carry. -/
namespace L2
namespace Mi
open PySem PySem.Spec PyProof.Rows
variable {G : Sig}
def flatV (v : List Vec) : List Int := v.flatMap fun p => [p.1, p.2]
/-- a motion of numbers as one of vectors in lowest terms -/
structure WholeM (mo : List NV) (B : Nat) (v : List Vec) : Prop where
  vl : v.length = mo.length
  mul : ∃ c : Rat, 0 < c ∧ ∀ i, ((gv v i).1 : Rat) = c * (gn mo i).1 ∧ ((gv v i).2 : Rat) = c * (gn mo i).2
  bd : ∀ i, (gv v i).1.natAbs ≤ B ∧ (gv v i).2.natAbs ≤ B
  low : gcdL (flatV v) ≤ 1
/-! ### the program -/
def limsF (f : Fm) : List (Option Int) := (partsF f).map (limOf f)
def nSl (f : Fm) : Nat := (bnds (limsF f)).length
def carRows (f : Fm) : List (List Int) := (balRs f (partsF f)).map (fun r => r ++ List.replicate (nSl f) 0) ++ limRs (limsF f) (partsF f).length
theorem partsF_ok (f : Fm) : PsOk f (partsF f) := by
  intro p hp
  obtain ⟨k, hk, hp⟩ := List.mem_flatMap.mp hp
  have hk := List.mem_range.mp hk
  unfold partsM at hp
  rcases List.mem_append.mp hp with h | h
  · split at h
    · cases h
    · rw [List.mem_singleton.mp h]; exact ⟨hk, .inl rfl⟩
  · split at h
    · cases h
    · rw [List.mem_singleton.mp h]; exact ⟨hk, .inr rfl⟩
theorem partsF_len (f : Fm) : (partsF f).length ≤ 2 * f.mbs.length := parts_upto_len f _
/-! ### carry -/
def widF (f : Fm) : Nat := (partsF f).length + nSl f
theorem carRows_len (f : Fm) : (carRows f).length = 2 * (loose f).length + nSl f := by
  unfold carRows
  rw [List.length_append, List.length_map, balRs_len]
  simp [limRs, nSl]
end Mi
end L2

/-! Plain: what rows of balance and limits mean. -/
namespace L2
namespace Mi
open PySem PySem.Spec PyProof.Rows
end Mi
end L2

/-! Plain: limits; what a right answer of the program of a load tells. -/
namespace L2
namespace Mi
open PySem PySem.Spec PyProof.Rows
theorem gt_set (l : List Int) (a j : Nat) (v : Int) (h : a < l.length) : gt (l.set a v) j = if j = a then v else gt l j := by
  unfold gt
  rw [List.getD_eq_getElem?_getD, List.getD_eq_getElem?_getD]
  by_cases e : j = a
  · subst e; rw [if_pos rfl, List.getElem?_set_self h]; rfl
  · rw [if_neg e, List.getElem?_set_ne (fun z => e z.symm)]
theorem gt_lim {w B a c : Nat} (ha : a < w) (hc : c < B) (j : Nat) : gt (limRow w B a c) j = ind a j + ind (w + c) j := by
  unfold limRow
  rw [gt_set _ _ _ _ (by simp; omega), gt_set _ _ _ _ (by simp; omega), gt_rep]
  unfold ind
  repeat (first | omega | split)
theorem bnd_getD {ls : List (Option Int)} {c : Nat} (h : c < (bnds ls).length) : (bnds ls).getD c 0 ∈ bnds ls ∧ (bnds ls)[c]? = some ((bnds ls).getD c 0) := by
  have e : (bnds ls)[c]? = some ((bnds ls).getD c 0) := by rw [List.getD_eq_getElem?_getD, List.getElem?_eq_getElem h]; rfl
  exact ⟨List.mem_of_getElem? e, e⟩
/-! ### resistance -/
def LimNN (f : Fm) : Prop := ∀ m ∈ f.mbs, (∀ x, m.pull = some x → 0 ≤ x) ∧ ∀ x, m.push = some x → 0 ≤ x
end Mi
end L2

/-! Plain: the answers of carry are right. -/
namespace L2
namespace Mi
open PySem PySem.Spec PyProof.Rows
theorem lims_len (f : Fm) : (limsF f).length = (partsF f).length := by simp [limsF]
/-! ### tensions -/
/-! ### whole motions -/
end Mi
end L2

/-! Forces at the joints: the law's and the program's. -/
namespace L2
namespace Mi
open PySem PySem.Spec PyProof.Rows
variable {G : Sig}
/-! ### lists that are made in a comprehension -/
section
variable {M : Mem} {n i : Nat}
end
/-! ### the forces -/
/-- sizes -/
def FB (D B : Nat) : Nat := 2 ^ (KF + 2) * (D + 1001 * B)
end Mi
end L2

/-! The law's forces, balance and limits. -/
namespace L2
namespace Mi
open PySem PySem.Spec PyProof.Rows
variable {G : Sig}
end Mi
end L2

/-! The law's judging of carry. -/
namespace L2
namespace Mi
open PySem PySem.Spec PyProof.Rows
variable {G : Sig}
/-! ### limits -/
/-! ### motions -/
end Mi
end L2

/-! carry is right; the law says so. -/
namespace L2
namespace Mi
open PySem PySem.Spec PyProof.Rows
variable {G : Sig}
inductive CarA where
  | tens (ts : List Rat) | mot (v : List Vec)
structure TenOk (f : Fm) (ts : List Rat) (D B : Nat) : Prop where
  tl : ts.length = f.mbs.length
  hin : ∀ q ∈ ts, InD D B q
  d0 : 0 < D
  ds : D ≤ 2 ^ 900
  bs : B ≤ 2 ^ 2000
structure MotOk (f : Fm) (n : Nat) (v : List Vec) : Prop where
  vl : v.length = n
  sm : ∀ p ∈ v, p.1.natAbs < 2 ^ 1900 ∧ p.2.natAbs < 2 ^ 1900
  low : gcdL (flatV v) ≤ 1
  al : Allow f v
  pin : ∀ p ∈ f.pins, gv v p = (0, 0)
/-- what a frame and a load must bring -/
structure CarIn (f : Fm) (n : Nat) (lo : List Vec) (C Cs : Nat) : Prop where
  W : FW f n
  m100 : f.mbs.length ≤ 100
  nn : LimNN f
  ll : lo.length = n
  ls : ∀ p ∈ lo, SmV KF p
  sp : ∀ k w, k < f.mbs.length → 2 * (crd (spanV f k) w).natAbs ≤ C
  lc : ∀ p ∈ lo, p.1.natAbs ≤ Cs ∧ p.2.natAbs ≤ Cs
  mc : ∀ m ∈ f.mbs, (∀ x, m.pull = some x → x.natAbs ≤ Cs) ∧ ∀ x, m.push = some x → x.natAbs ≤ Cs
  cc : C ≤ Cs
  cs : Cs ≤ 2 ^ 950
  c1 : 1 ≤ C
  n100 : n ≤ 100
  big : ∀ m, m ≤ 2 * n + 2 * f.mbs.length → (m * C) ^ m ≤ 2 ^ 900
theorem ind_01 (a b : Nat) : ind a b = 0 ∨ ind a b = 1 := by unfold ind; split <;> simp
theorem bal_le {f : Fm} {C : Nat} (h : ∀ k w, k < f.mbs.length → 2 * (crd (spanV f k) w).natAbs ≤ C) {ps : List (Nat × Int)} (hp : PsOk f ps) : ∀ r ∈ balRs f ps, ∀ x ∈ r, x.natAbs ≤ C := by
  intro r hr x hx
  have key : ∀ jt w, ∀ x ∈ balR f ps jt w, x.natAbs ≤ C := fun jt w x hx => by
    obtain ⟨p, hpm, rfl⟩ := List.mem_map.mp hx
    obtain ⟨hk, hw⟩ := hp p hpm
    have := h p.1 w hk
    unfold balE
    generalize crd (spanV f p.1) w = c at *
    rcases ind_01 jt (gm f p.1).i with e1 | e1 <;> rcases ind_01 jt (gm f p.1).j with e2 | e2 <;> rcases hw with e3 | e3 <;> rw [e1, e2, e3] <;> omega
  obtain ⟨jt, _, h1⟩ := List.mem_flatMap.mp hr
  rcases List.mem_cons.mp h1 with rfl | h1
  · exact key _ _ x hx
  · rw [List.mem_singleton.mp h1] at hx; exact key _ _ x hx
theorem at_gt (l : List Int) (j : Nat) (hj : j < l.length) : l[j] = gt l j := by unfold gt; rw [List.getD_eq_getElem?_getD, List.getElem?_eq_getElem hj]; rfl
theorem lim_le {ls : List (Option Int)} {w : Nat} (hw : ls.length ≤ w) : ∀ r ∈ limRs ls w, ∀ x ∈ r, x.natAbs ≤ 1 := by
  intro r hr x hx
  obtain ⟨c, hc, rfl⟩ := List.mem_map.mp hr
  have hc := List.mem_range.mp hc
  obtain ⟨hm, _⟩ := bnd_getD hc
  have := (mem_bnd.mp hm).1
  obtain ⟨j, hj, rfl⟩ := List.getElem_of_mem hx
  rw [at_gt, gt_lim (by omega) hc]
  unfold ind
  split <;> split <;> omega
theorem CarIn.rows {f : Fm} {n C Cs : Nat} {lo : List Vec} (I : CarIn f n lo C Cs) : (carRows f).length ≤ 2 * n + 2 * f.mbs.length ∧ widF f ≤ 4 * f.mbs.length := by
  have h1 := loose_len f
  have h2 := I.W.pl
  have h3 := bnd_len (limsF f)
  have h4 := lims_len f
  have h5 := partsF_len f
  have h6 : nSl f = (bnds (limsF f)).length := rfl
  rw [carRows_len]
  unfold widF
  omega
theorem CarIn.pw {f : Fm} {n C Cs : Nat} {lo : List Vec} (I : CarIn f n lo C Cs) : ((carRows f).length * C) ^ (carRows f).length ≤ 2 ^ 900 := I.big _ I.rows.1
theorem pow2_lt {a b k : Nat} {x y : Nat} (hx : x ≤ 2 ^ a) (hy : y ≤ 2 ^ b) (hk : a + b < k) : x * y < 2 ^ k := by
  refine Nat.lt_of_le_of_lt (Nat.mul_le_mul hx hy) ?_
  rw [← Nat.pow_add]
  exact Nat.pow_lt_pow_right (by decide) hk
theorem CarIn.cr {f : Fm} {n C Cs : Nat} {lo : List Vec} (I : CarIn f n lo C Cs) : ∀ r ∈ carRows f, ∀ x ∈ r, x.natAbs ≤ C := fun r hr x hx => by
  unfold carRows at hr
  rcases List.mem_append.mp hr with h | h
  · obtain ⟨r', hr', rfl⟩ := List.mem_map.mp h
    rcases List.mem_append.mp hx with h | h
    · exact bal_le I.sp (partsF_ok f) r' hr' x h
    · rw [(List.mem_replicate.mp h).2]; exact Nat.zero_le _
  · exact Nat.le_trans (lim_le (by rw [lims_len]; exact Nat.le_refl _) r h x hx) I.c1
theorem lok_of {D B : Nat} (hD : 0 < D) (hd : D ≤ 2 ^ 900) (hB : B ≤ 2 ^ 2000) : LOk D (FB D B) := by
  refine ⟨hD, ?_, ?_⟩
  · exact pow2_lt hd hd (by decide)
  · unfold FB
    have h1 : D + 1001 * B ≤ 2 ^ 2020 := by
      have e1 : (2 : Nat) ^ 900 ≤ 2 ^ 2000 := Nat.pow_le_pow_right (by decide) (by decide)
      have e2 : (2 : Nat) ^ 2020 = 2 ^ 2000 * 2 ^ 20 := by rw [← Nat.pow_add]
      omega
    exact pow2_lt (Nat.le_refl _) h1 (by unfold KF; decide)
theorem TenOk.ok {f : Fm} {ts : List Rat} {D B : Nat} (h : TenOk f ts D B) : LOk D (FB D B) := lok_of h.d0 h.ds h.bs
/-! ### the law's word -/
end Mi
end L2

/-! The law's frames bring what carry needs. -/
namespace L2
namespace Mi
open PySem PySem.Spec PyProof.Rows
theorem LFm.nn {f : Fm} {least style : Nat} {pinned : Bool} (L : LFm f least style pinned) : LimNN f := fun m hm => by
  obtain ⟨_, _, _, h4, h5, _⟩ := L.mb m hm
  exact ⟨fun x e => (h4 x e).1, fun x e => (h5 x e).1⟩
variable {G : Sig}
/-- a drawn list -/
theorem draw {Fp : Fn} (kp : IsParts Fp) {ns : List Int} (hcs : ∀ k, Sm 1100000 (gt ns k)) (k : Nat) (z : List Int) (hz : ∀ s ∈ z, 0 < s ∧ s < 1024) (hl : z.length ≤ 1000) (M : Mem) :
    Fp [.int (gt ns k), ilT z] M = some (ilT (parts (gt ns k) z), M) ∧ (parts (gt ns k) z).length = z.length ∧ ∀ i, i < z.length → 0 ≤ gt (parts (gt ns k) z) i ∧ gt (parts (gt ns k) z) i < gt z i := by
  have hp : ∀ s ∈ z, 0 < s ∧ Sm 8000 s := fun s hs => ⟨(hz s hs).1, sm_le (by have := hz s hs; omega) (by decide)⟩
  refine ⟨kp (gt ns k) (ilT z) z M rfl (pureT_il _) ((hcs k).mono (by decide)) hp hl, parts_len .., fun i hi => ?_⟩
  have := pos_of_all (ss := z) (fun s h => (hp s h).1) (gt ns k) i
  exact ⟨this.1, this.2 hi⟩
theorem run_true {d : MD} {ts : List T} {M : Mem} (h : ts.length = d.ps.length) (w : Wp (exSs G d.body (startE d.N ts) M) (fun r => ∃ M1, r = .rt (.bl true) M1)) : ∃ M', runD G d ts M = some (.bl true, M') := by
  obtain ⟨r, e, M1, rfl⟩ := w
  rw [run_rt h e]
  unfold fin
  split
  · rw [seal_pure (by rfl)]; exact ⟨_, rfl⟩
  · exact ⟨_, rfl⟩
end Mi
end L2

/-! Grids: braces, the ways, what is come to. -/
namespace L2
namespace Mi
open PySem PySem.Spec PyProof.Rows
variable {G : Sig}
structure Br where
  i : Nat
  j : Nat
  k : Nat
  deriving DecidableEq
theorem in_fl (k : Nat) (l : List Nat) (M : Mem) {t : T} (h : lof M t = some (l.map nT)) (hd : dof M t = none) (ht : ∀ ys, t ≠ .tup ys) : cmpT .In (nT k) t M = some (decide (k ∈ l)) := by
  have hm : ∀ l : List Nat, (l.map nT).mapM (sealT M 0 6) = some (l.map nT) := by
    intro l
    induction l with
    | nil => rfl
    | cons x l ih => rw [List.map_cons, List.mapM_cons, ih]; rfl
  have e : cmpT .In (nT k) t M = cmpT.inT (nT k) t M := rfl
  rw [e]
  unfold cmpT.inT
  rw [hd]
  have : (match t with
      | .tup ys => if okT (nT k) = true ∧ okTs ys = true ∧ depT (nT k) ≤ 60 ∧ depTs ys ≤ 59 then some (ys.any fun z => eqT z (nT k)) else none
      | y => (lof M y).bind fun ys => (ys.mapM (sealT M 0 6)).bind fun ys => (sealT M 0 6 (nT k)).bind fun x =>
        if okT x = true ∧ okTs ys = true ∧ depT x ≤ 60 ∧ depTs ys ≤ 59 then some (ys.any fun z => eqT z x) else none) = (lof M t).bind fun ys => (ys.mapM (sealT M 0 6)).bind fun ys => (sealT M 0 6 (nT k)).bind fun x =>
        if okT x = true ∧ okTs ys = true ∧ depT x ≤ 60 ∧ depTs ys ≤ 59 then some (ys.any fun z => eqT z x) else none := by
    cases t <;> first | rfl | (exact absurd rfl (ht _))
  simp only [this, h, Option.bind_some, hm]
  have s : sealT M 0 6 (nT k) = some (nT k) := rfl
  rw [s]
  simp only [Option.bind_some]
  rw [if_pos ⟨rfl, okTs_nT l, Nat.zero_le _, depTs_nT l⟩, List.any_map]
  congr 1
  rw [Bool.eq_iff_iff]
  simp only [List.any_eq_true, Function.comp, eqT_nT, decide_eq_true_eq]
  exact ⟨fun ⟨x, hx, h⟩ => h ▸ hx, fun h => ⟨k, h, rfl⟩⟩
theorem in_ns (k : Nat) (l : List Nat) (M : Mem) : cmpT .In (nT k) (.fl (l.map nT)) M = some (decide (k ∈ l)) := in_fl k l M rfl rfl (fun _ h => nomatch h)
theorem nin_od {i : Nat} {ks : List Nat} {vs : List T} {M : Mem} (e : M[i]? = some (O.dic false (ks.map nT) vs)) (h : vs.length = ks.length) (x : Nat) : cmpT .NotIn (nT x) (.obj i) M = some (!decide (x ∈ ks)) := by
  have e1 : cmpT .NotIn (nT x) (.obj i) M = (cmpT .In (nT x) (.obj i) M).map not := rfl
  have e2 : cmpT .In (nT x) (.obj i) M = some (decide (x ∈ ks)) := by
    show cmpT.inT (nT x) (.obj i) M = _
    unfold cmpT.inT
    have d : dof M (.obj i) = some (false, ks.map nT, vs) := by simp [dof, e]
    rw [d]
    show (if isKeyT false (nT x) = true then some (lkp (ks.map nT) vs (nT x)).isSome else none) = _
    rw [if_pos (by rfl), lkp_nT _ _ _ h]
  rw [e1, e2]; rfl
/-! ### the ways, plainly -/
def Ed (r : Nat) (bs : List Br) (u v : Nat) : Prop := ∃ b ∈ bs, (b.k ≠ 2 ∧ u = b.i ∧ v = r + b.j) ∨ (b.k ≠ 1 ∧ u = r + b.j ∧ v = b.i)
inductive Rch (r : Nat) (bs : List Br) (S : List Nat) : Nat → Prop
  | st {x : Nat} : x ∈ S → Rch r bs S x
  | go {u v : Nat} : Rch r bs S u → Ed r bs u v → Rch r bs S v
def BOk (r c : Nat) (bs : List Br) : Prop := ∀ b ∈ bs, b.i < r ∧ b.j < c
theorem Ed.lt {r c : Nat} {bs : List Br} (h : BOk r c bs) {u v : Nat} (e : Ed r bs u v) : v < r + c := by
  obtain ⟨b, hb, h1⟩ := e
  have := h b hb
  rcases h1 with h1 | h1 <;> omega
theorem Rch.lt {r c : Nat} {bs : List Br} {S : List Nat} (h : BOk r c bs) (hs : ∀ x ∈ S, x < r + c) {x : Nat} (e : Rch r bs S x) : x < r + c := by
  cases e with
  | st h => exact hs _ h
  | go _ e => exact e.lt h
/-- a closed list that holds the starts -/
theorem Rch.mem {r : Nat} {bs : List Br} {S fs : List Nat} (h0 : ∀ x ∈ S, x ∈ fs) (hc : ∀ u ∈ fs, ∀ v, Ed r bs u v → v ∈ fs) {x : Nat} (e : Rch r bs S x) : x ∈ fs := by
  induction e with
  | st h => exact h0 _ h
  | go _ e ih => exact hc _ ih _ e
theorem nd_le {l : List Nat} {N : Nat} (hd : l.Nodup) (h : ∀ x ∈ l, x < N) : l.length ≤ N := by
  have := List.Nodup.length_le_of_subset hd (l₂ := List.range N) fun x hx => List.mem_range.mpr (h x hx)
  rwa [List.length_range] at this
theorem nd_full {l : List Nat} {N : Nat} (hd : l.Nodup) (h : ∀ x ∈ l, x < N) : l.length < N ↔ ∃ x, x < N ∧ x ∉ l := by
  constructor
  · intro hl
    refine Classical.byContradiction fun hn => ?_
    have := List.Nodup.length_le_of_subset (List.nodup_range (n := N)) (l₂ := l) fun x hx => Classical.byContradiction fun hq => hn ⟨x, List.mem_range.mp hx, hq⟩
    rw [List.length_range] at this
    omega
  · rintro ⟨x, hx, hn⟩
    have := nd_le (l := x :: l) (N := N) (List.nodup_cons.mpr ⟨hn, hd⟩) fun y hy => by
      rcases List.mem_cons.mp hy with h1 | h1
      · omega
      · exact h y h1
    simp only [List.length_cons] at this
    omega
/-! ### `ways` -/
/-- the dict at the end of `M`, its lists behind -/
def WI (M : Mem) (ks os : List Nat) (ld : Nat → List Nat) (M' : Mem) : Prop := (∃ L, M' = M ++ L ∧ 0 < L.length) ∧ M'[M.length]? = some (O.dic false (ks.map nT) (os.map T.obj)) ∧ os.length = ks.length ∧ ks.Nodup ∧ os.Nodup ∧ (∀ o ∈ os, M.length < o) ∧
  (∀ (i k o : Nat), ks[i]? = some k → os[i]? = some o → M'[o]? = some (O.lst ((ld k).map nT))) ∧ ∀ u, u ∉ ks → ld u = []
theorem WI.congr {M M' : Mem} {ks os : List Nat} {ld ld' : Nat → List Nat} (h : WI M ks os ld M') (e : ∀ u, ld u = ld' u) : WI M ks os ld' M' := by
  have : ld = ld' := funext e
  rw [← this]; exact h
theorem lkp_ix (ks : List Nat) (vs : List T) (i k : Nat) (v : T) (hd : ks.Nodup) (hk : ks[i]? = some k) (hv : vs[i]? = some v) : lkp (ks.map nT) vs (nT k) = some v := by
  induction ks generalizing vs i with
  | nil => simp at hk
  | cons x ks ih =>
    cases vs with
    | nil => simp at hv
    | cons y vs =>
      rw [List.map_cons, lkp, eqT_nT]
      cases i with
      | zero =>
        simp only [List.getElem?_cons_zero, Option.some.injEq] at hk hv
        subst hk; subst hv; simp
      | succ i =>
        simp only [List.getElem?_cons_succ] at hk hv
        have hx : x ≠ k := fun e => (List.nodup_cons.mp hd).1 (e ▸ List.mem_of_getElem? hk)
        rw [decide_eq_false hx, if_neg (by simp)]
        exact ih vs i (List.nodup_cons.mp hd).2 hk hv
theorem putN (ks : List Nat) (vs : List T) (u : Nat) (x : T) (h : u ∉ ks) : putD (ks.map nT) vs (nT u) x = ((ks ++ [u]).map nT, vs ++ [x]) := by
  unfold putD
  rw [any_nT, if_neg (by simpa using h), List.map_append]
  rfl
/-- one more way -/
theorem WI.put {M M' : Mem} {ks os : List Nat} {ld : Nat → List Nat} (h : WI M ks os ld M') (hk : ks.length < 1000) (hl : ∀ k, (ld k).length < 1000) (u v : Nat) :
    dof M' (.obj M.length) = some (false, ks.map nT, os.map T.obj) ∧ ∃ o M1, dsT (.obj M.length) (nT u) (.obj M'.length) (M' ++ [O.lst []]) = some (.obj o, M1) ∧ (∃ xs, lof M1 (.obj o) = some xs) ∧
    ∃ M2 ks' os', bmT .append (.obj o) [nT v] M1 = some (.non, M2) ∧ WI M ks' os' (fun w => if w = u then ld w ++ [v] else ld w) M2 ∧ ks'.length ≤ ks.length + 1 := by
  obtain ⟨⟨L, hM, hL⟩, hd, hlen, hkn, hon, ho, hs, hn⟩ := h
  refine ⟨by simp [dof, hd], ?_⟩
  have hlt : M.length < M'.length := by rw [hM, List.length_append]; omega
  have hd2 : (M' ++ [O.lst []])[M.length]? = some (O.dic false (ks.map nT) (os.map T.obj)) := by rw [List.getElem?_append_left hlt]; exact hd
  have hol : ∀ i k o, ks[i]? = some k → os[i]? = some o → o < M'.length := fun i k o h1 h2 => (List.getElem?_eq_some_iff.mp (hs i k o h1 h2)).1
  by_cases hu : u ∈ ks
  · obtain ⟨i, hi, he⟩ := List.mem_iff_getElem.mp hu
    have hi1 : ks[i]? = some u := by rw [List.getElem?_eq_getElem hi, he]
    have hi2 : os[i]? = some (os[i]'(by omega)) := List.getElem?_eq_getElem _
    generalize os[i]'(by omega) = o at hi2
    have hs0 := hs i u o hi1 hi2
    have holt := hol i u o hi1 hi2
    have hs1 : (M' ++ [O.lst []])[o]? = some (O.lst ((ld u).map nT)) := by rw [List.getElem?_append_left holt]; exact hs0
    have hMo := ho o (List.mem_of_getElem? hi2)
    refine ⟨o, M' ++ [O.lst []], ?_, ⟨_, lof_obj' hs1⟩, _, ks, os, bm_append hs1 (by rw [List.length_map]; have := hl u; omega), ?_, by omega⟩
    · unfold dsT
      simp only [hd2]
      rw [if_pos ⟨rfl, by rw [List.length_map]; omega⟩, lkp_ix ks _ i u (.obj o) hkn hi1 (by rw [List.getElem?_map, hi2]; rfl)]
    · refine ⟨⟨(L ++ [O.lst []]).set (o - M.length) (.lst ((ld u).map nT ++ [nT v])), ?_, by rw [List.length_set, List.length_append]; omega⟩, ?_, hlen, hkn, hon, ho, ?_, ?_⟩
      · rw [hM, List.append_assoc, List.set_append_right _ _ (by omega)]
      · rw [List.getElem?_set_ne (by omega)]; exact hd2
      · intro i' k' o' h1 h2
        by_cases hii : i' = i
        · subst hii
          rw [hi1] at h1; rw [hi2] at h2
          obtain rfl := Option.some.inj h1
          obtain rfl := Option.some.inj h2
          rw [List.getElem?_set_self (by rw [List.length_append]; omega)]
          simp
        · have hne : o' ≠ o := fun e => hii (by
            subst e
            exact (List.getElem?_inj (by exact (List.getElem?_eq_some_iff.mp h2).1) hon).mp (h2.trans hi2.symm))
          have hku : k' ≠ u := fun e => hii (by
            subst e
            exact (List.getElem?_inj (by exact (List.getElem?_eq_some_iff.mp h1).1) hkn).mp (h1.trans hi1.symm))
          rw [List.getElem?_set_ne (fun e => hne e.symm), List.getElem?_append_left (hol i' k' o' h1 h2)]
          show _ = some (O.lst ((if k' = u then _ else _ : List Nat).map nT))
          rw [if_neg hku]
          exact hs i' k' o' h1 h2
      · intro w hw
        show (if w = u then _ else _) = _
        rw [if_neg (fun e => hw (by rw [e]; exact hu))]
        exact hn w hw
  · have hlu := hn u hu
    have hs1 : ((M' ++ [O.lst []]).set M.length (.dic false ((ks ++ [u]).map nT) ((os ++ [M'.length]).map T.obj)))[M'.length]? = some (O.lst []) := by
      rw [List.getElem?_set_ne (by omega), List.getElem?_append_right (Nat.le_refl _), Nat.sub_self]; rfl
    refine ⟨M'.length, (M' ++ [O.lst []]).set M.length (.dic false ((ks ++ [u]).map nT) ((os ++ [M'.length]).map T.obj)), ?_, ⟨_, lof_obj' hs1⟩, _, ks ++ [u], os ++ [M'.length], bm_append hs1 (by simp), ?_, by simp⟩
    · unfold dsT
      simp only [hd2]
      have e1 : lkp (ks.map nT) (os.map T.obj) (nT u) = none := by
        have := lkp_nT ks (os.map T.obj) u (by rw [List.length_map, hlen])
        rw [decide_eq_false hu] at this
        cases h : lkp (ks.map nT) (os.map T.obj) (nT u) with
        | none => rfl
        | some z => rw [h] at this; cases this
      rw [if_pos ⟨rfl, by rw [List.length_map]; omega⟩, e1, putN _ _ _ _ hu, List.map_append (l₁ := os)]
      rfl
    · refine ⟨⟨((L ++ [O.lst []]).set 0 (.dic false ((ks ++ [u]).map nT) ((os ++ [M'.length]).map T.obj))).set (M'.length - M.length) (.lst ([] ++ [nT v])), ?_, by rw [List.length_set, List.length_set, List.length_append]; omega⟩, ?_, by simp [hlen], ?_, ?_, ?_, ?_, ?_⟩
      · rw [hM, List.append_assoc, List.set_append_right _ _ (Nat.le_refl _), Nat.sub_self, List.set_append_right _ _ (by rw [List.length_append]; omega)]
      · rw [List.getElem?_set_ne (by omega), List.getElem?_set_self (by rw [List.length_append]; omega)]
      · rw [List.nodup_append]
        exact ⟨hkn, by simp, fun a ha b hb => by rw [List.mem_singleton.mp hb]; exact fun e => hu (e ▸ ha)⟩
      · rw [List.nodup_append]
        refine ⟨hon, by simp, fun a ha b hb => ?_⟩
        rw [List.mem_singleton.mp hb]
        obtain ⟨i, hi, he⟩ := List.mem_iff_getElem.mp ha
        have := hol i ks[i] a (List.getElem?_eq_getElem (by omega)) (by rw [List.getElem?_eq_getElem hi, he])
        omega
      · intro o h
        rcases List.mem_append.mp h with h | h
        · exact ho o h
        · rw [List.mem_singleton.mp h]; exact hlt
      · intro i' k' o' h1 h2
        by_cases hii : i' < ks.length
        · rw [List.getElem?_append_left hii] at h1
          rw [List.getElem?_append_left (by omega)] at h2
          have hku : k' ≠ u := fun e => hu (e ▸ List.mem_of_getElem? h1)
          have := hol i' k' o' h1 h2
          have := ho o' (List.mem_of_getElem? h2)
          rw [List.getElem?_set_ne (by omega), List.getElem?_set_ne (by omega), List.getElem?_append_left (by omega)]
          show _ = some (O.lst ((if k' = u then _ else _ : List Nat).map nT))
          rw [if_neg hku]
          exact hs i' k' o' h1 h2
        · have hi3 : i' = ks.length := by
            have := (List.getElem?_eq_some_iff.mp h1).1
            rw [List.length_append, List.length_singleton] at this
            omega
          subst hi3
          rw [List.getElem?_append_right (Nat.le_refl _), Nat.sub_self] at h1
          rw [List.getElem?_append_right (by omega), hlen, Nat.sub_self] at h2
          simp only [List.getElem?_cons_zero, Option.some.injEq] at h1 h2
          subst h1; subst h2
          rw [List.getElem?_set_self (by rw [List.length_set, List.length_append]; simp)]
          show _ = some (O.lst ((if u = u then _ else _ : List Nat).map nT))
          rw [if_pos rfl, hlu]
          rfl
      · intro w hw
        rw [List.mem_append, List.mem_singleton, not_or] at hw
        show (if w = u then _ else _) = _
        rw [if_neg hw.2]
        exact hn w hw.1
theorem take_snoc {α : Type} {l : List α} {i : Nat} {b : α} (h : l[i]? = some b) : l.take (i + 1) = l.take i ++ [b] := by
  rw [List.take_add_one, h]; rfl
end Mi
end L2

/-! Grids: what is come to; parted. -/
namespace L2
namespace Mi
open PySem PySem.Spec PyProof.Rows
variable {G : Sig}
/-- the state under way -/
structure CoI (r : Nat) (bs : List Br) (N s : Nat) (fs ws : List Nat) : Prop where
  nd : fs.Nodup
  lt : ∀ x ∈ fs, x < N
  rc : ∀ x ∈ fs, Rch r bs [s] x
  st : s ∈ fs
  wi : ∀ w ∈ ws, w ∈ fs
  cl : ∀ f ∈ fs, f ∉ ws → ∀ v, Ed r bs f v → v ∈ fs
theorem CoI.one {r N s : Nat} {bs : List Br} {fs ws : List Nat} {u v : Nat} (h : CoI r bs N s fs (ws ++ [u])) : True := trivial
end Mi
end L2

/-! Grids: parted, motions of grids, the law's own leads. -/
namespace L2
namespace Mi
open PySem PySem.Spec PyProof.Rows
variable {G : Sig}
def AllR (r c : Nat) (bs : List Br) : Prop := ∀ s, s < r + c → ∀ x, x < r + c → Rch r bs [s] x
structure Part (r c : Nat) (bs : List Br) (fs : List Nat) : Prop where
  nd : fs.Nodup
  st : ∃ s, s < r + c ∧ ∀ x, x ∈ fs ↔ Rch r bs [s] x
  few : fs.length < r + c
theorem Part.not {r c : Nat} {bs : List Br} {fs : List Nat} (hok : BOk r c bs) (h : Part r c bs fs) : ¬AllR r c bs := by
  intro ha
  obtain ⟨s, hs, hx⟩ := h.st
  obtain ⟨x, h1, h2⟩ := (nd_full h.nd fun x hx' => ((hx x).mp hx').lt hok fun y hy => by rw [List.mem_singleton.mp hy]; exact hs).mp h.few
  exact h2 ((hx x).mpr (ha s hs x h1))
/-! ### motions of grids -/
end Mi
end L2

/-! Grids: the law's own leads. -/
namespace L2
namespace Mi
open PySem PySem.Spec PyProof.Rows
variable {G : Sig}
structure LdI (r : Nat) (bs : List Br) (N : Nat) (ss fs : List Nat) : Prop where
  nd : fs.Nodup
  lt : ∀ x ∈ fs, x < N
  rc : ∀ x ∈ fs, Rch r bs ss x
  st : ∀ x ∈ ss, x ∈ fs
end Mi
end L2

/-! Grids: the law's judging and its drawn braces. -/
namespace L2
namespace Mi
open PySem PySem.Spec PyProof.Rows
variable {G : Sig}
/-! ### what is drawn -/
theorem max_1n (n : Nat) (M : Mem) : biT .max [.int 1, nT n] M = some (nT (if 1 < n then n else 1), M) := by
  show some (T.int (if (n : Int) > 1 then (n : Int) else 1), M) = _
  by_cases h : 1 < n
  · rw [if_pos (by omega), if_pos h]; rfl
  · rw [if_neg (by omega), if_neg h]; rfl
theorem sl_ob {i : Nat} {ts : List T} {M : Mem} (h : M[i]? = some (O.lst ts)) (lo hi : Option Int) : slT false (.obj i) lo hi M = some (.fl (cutT ts lo hi), M) := by
  show (lofS M (.obj i)).map _ = _
  have : lofS M (.obj i) = some ts := by simp [lofS, lof, h]
  rw [this]; rfl
end Mi
end L2

/-! Pebbles in memory: a way to a pebble. -/
namespace L2
namespace Mi
open PySem PySem.Spec PyProof.Rows
open L2.Peb (updf updf_eq updf_ne PWay PStk PKn PInv PInd PLnk rotW flipE frN)
variable {G : Sig}
abbrev HasPeb (G : Sig) : Prop := HasC G "Pebbles" ["free", "held"]
def frL (n : Nat) (fr : Nat → Nat) : List T := (List.range n).map fun k => nT (fr k)
structure PS (M : Mem) (o a : Nat) (hs : List Nat) (n : Nat) (fr : Nat → Nat) (H : Nat → List Nat) : Prop where
  ob : M[o]? = some (O.ins "Pebbles" [("free", .obj a), ("held", .fl (hs.map T.obj))])
  fr : M[a]? = some (O.lst (frL n fr))
  hl : hs.length = n
  hd : hs.Nodup
  ao : a ≠ o
  oh : o ∉ hs
  ah : a ∉ hs
  he : ∀ (k h : Nat), hs[k]? = some h → M[h]? = some (O.lst ((H k).map nT))
section
variable {M : Mem} {o a n : Nat} {hs : List Nat} {fr : Nat → Nat} {H : Nat → List Nat}
theorem PS.app (h : PS M o a hs n fr H) (L : List O) : PS (M ++ L) o a hs n fr H :=
  ⟨getE_app h.ob, getE_app h.fr, h.hl, h.hd, h.ao, h.oh, h.ah, fun k x hx => getE_app (h.he k x hx)⟩
theorem PS.free (h : PS M o a hs n fr H) (hc : HasPeb G) : attT G "Pebbles" "free" (.obj o) M = some (.obj a) := att_of hc (by decide) h.ob
theorem PS.held (h : PS M o a hs n fr H) (hc : HasPeb G) : attT G "Pebbles" "held" (.obj o) M = some (.fl (hs.map T.obj)) := att_of hc (by decide) h.ob
theorem PS.ok (h : PS M o a hs n fr H) (m : Str) (hm : ([("free", T.obj a), ("held", T.fl (hs.map T.obj))] : List (Str × T)).lookup m = none) : insOk "Pebbles" m (.obj o) M = some () := insOk_of h.ob hm
theorem PS.ixf (h : PS M o a hs n fr H) {k : Nat} (hk : k < n) : ixT (.obj a) (nT k) M = some (nT (fr k)) := by
  unfold nT
  rw [ix_obj h.fr, atI_n]
  unfold frL
  rw [List.getElem?_map, List.getElem?_range hk]; rfl
theorem PS.ixh (h : PS M o a hs n fr H) {k : Nat} (hk : k < n) : ∃ x, hs[k]? = some x ∧ ixT (.fl (hs.map T.obj)) (nT k) M = some (.obj x) ∧ M[x]? = some (O.lst ((H k).map nT)) := by
  have hk2 : k < hs.length := by rw [h.hl]; exact hk
  refine ⟨hs[k], List.getElem?_eq_getElem hk2, ?_, h.he k _ (List.getElem?_eq_getElem hk2)⟩
  show atI (hs.map T.obj) (k : Int) = _
  rw [atI_n, List.getElem?_map, List.getElem?_eq_getElem hk2]; rfl
theorem frL_set (n : Nat) (fr : Nat → Nat) (k v : Nat) : (frL n fr).set k (nT v) = frL n (updf fr k v) := by
  unfold frL
  apply List.ext_getElem?
  intro i
  rw [List.getElem?_set]
  simp only [List.getElem?_map, List.length_map, List.length_range]
  by_cases e : k = i
  · subst e
    rw [if_pos rfl]
    by_cases hk : k < n
    · rw [if_pos hk, List.getElem?_range hk]; simp [updf_eq]
    · rw [if_neg hk, List.getElem?_eq_none (by simpa using hk)]; rfl
  · rw [if_neg e]
    by_cases hi : i < n
    · rw [List.getElem?_range hi]; simp [updf_ne _ _ (fun q => e q.symm)]
    · rw [List.getElem?_eq_none (by simpa using hi)]; rfl
theorem PS.setf (h : PS M o a hs n fr H) {k : Nat} (hk : k < n) (v : Nat) : setT (.obj a) (nT k) (nT v) M = some (M.set a (.lst (frL n (updf fr k v)))) ∧ PS (M.set a (.lst (frL n (updf fr k v)))) o a hs n (updf fr k v) H := by
  have ha := (List.getElem?_eq_some_iff.mp h.fr).1
  constructor
  · rw [setn_of h.fr (by unfold frL; rw [List.length_map, List.length_range]; exact hk), frL_set]
  · refine ⟨by rw [List.getElem?_set_ne h.ao]; exact h.ob, by rw [List.getElem?_set_self ha], h.hl, h.hd, h.ao, h.oh, h.ah, fun k x hx => ?_⟩
    rw [List.getElem?_set_ne (show a ≠ x from fun e => h.ah (by rw [e]; exact List.mem_of_getElem? hx))]
    exact h.he k x hx
theorem PS.seth (h : PS M o a hs n fr H) {k x : Nat} (hk : hs[k]? = some x) (l : List Nat) : PS (M.set x (.lst (l.map nT))) o a hs n fr (updf H k l) := by
  have hx := (List.getElem?_eq_some_iff.mp (h.he k x hk)).1
  have hm := List.mem_of_getElem? hk
  refine ⟨by rw [List.getElem?_set_ne (show x ≠ o from fun e => h.oh (by rw [← e]; exact hm))]; exact h.ob, by rw [List.getElem?_set_ne (show x ≠ a from fun e => h.ah (by rw [← e]; exact hm))]; exact h.fr, h.hl, h.hd, h.ao, h.oh, h.ah, fun k2 x2 hx2 => ?_⟩
  by_cases e : k2 = k
  · subst e
    rw [hk] at hx2
    obtain rfl := Option.some.inj hx2
    rw [List.getElem?_set_self hx, updf_eq]
  · have : x ≠ x2 := fun q => e (by
      subst q
      exact (List.getElem?_inj (List.getElem?_eq_some_iff.mp hx2).1 h.hd).mp (hx2.trans hk.symm))
    rw [List.getElem?_set_ne this, updf_ne _ _ e]
    exact h.he k2 x2 hx2
end
theorem lnk_snoc {H : Nat → List Nat} {l p : Nat} (hp : l ∈ H p) : ∀ (w : List Nat) (f : Nat), (f :: w).getLast? = some l → PLnk H (f :: w) → PLnk H (f :: (w ++ [p]))
  | [], f, hl, _ => by
    have : f = l := by simpa using hl
    subst this
    exact ⟨hp, trivial⟩
  | y :: w, f, hl, hk => by
    rw [List.getLast?_cons_cons] at hl
    exact ⟨hk.1, lnk_snoc hp w y hl hk.2⟩
/-- the search under way -/
structure BeI (n i j : Nat) (fr : Nat → Nat) (H : Nat → List Nat) (ks ps ws : List Nat) : Prop where
  nd : (i :: j :: ks).Nodup
  lt : ∀ x ∈ ks, x < n
  pl : ps.length = ks.length
  par : ∀ (t x p : Nat), ks[t]? = some x → ps[t]? = some p → x ∈ H p ∧ (p = i ∨ ∃ s, s < t ∧ ks[s]? = some p)
  fz : ∀ k ∈ ks, fr k = 0
  wi : ∀ w ∈ ws, w = i ∨ w ∈ ks
  cl : ∀ k, k = i ∨ k ∈ ks → k ∉ ws → ∀ x ∈ H k, x ∈ i :: j :: ks
theorem BeI.few {n i j : Nat} {fr : Nat → Nat} {H : Nat → List Nat} {ks ps ws : List Nat} (h : BeI n i j fr H ks ps ws) : ks.length ≤ n := by
  refine nd_le (l := ks) ?_ h.lt
  exact (List.nodup_cons.mp (List.nodup_cons.mp h.nd).2).2
def bfO (i j : Nat) (ks ps : List Nat) : O := .dic false ((i :: j :: ks).map nT) (T.non :: T.non :: ps.map nT)
def IsWayP (F : Fn) : Prop := ∀ (M : Mem) (o a : Nat) (hs : List Nat) (n : Nat) (fr : Nat → Nat) (H : Nat → List Nat) (i j : Nat), PS M o a hs n fr H → n ≤ 100 → i ≠ j → i < n → j < n → (∀ k, k < n → ∀ x ∈ H k, x < n) →
  ((∃ R, PStk n i j fr H R) ∧ F [.obj o, nT i, nT j] M = some (.non, M)) ∨ ∃ f w, PWay n i j fr H f w ∧ F [.obj o, nT i, nT j] M = some (.fl ((f :: w).map nT), M)
theorem truth_n (k : Nat) (M : Mem) : truth M (nT k) = some (k != 0) := by
  show some ((k : Int) != 0) = _
  congr 1
  rw [Bool.eq_iff_iff]
  simp only [bne_iff_ne, ne_eq]
  omega
theorem ix_last {i : Nat} {ts : List T} {l : T} {M : Mem} (h : M[i]? = some (O.lst ts)) (hl : ts.getLast? = some l) : ixT (.obj i) (.int (-1)) M = some l := by
  have hne : ts ≠ [] := fun e => by rw [e] at hl; cases hl
  rw [ix_obj h, atI_last hne, ← List.getLast?_eq_getElem?]; exact hl
theorem ix_dic {i : Nat} {ks : List Nat} {vs : List T} {M : Mem} (h : M[i]? = some (O.dic false (ks.map nT) vs)) {t k : Nat} {v : T} (hd : ks.Nodup) (hk : ks[t]? = some k) (hv : vs[t]? = some v) : ixT (.obj i) (nT k) M = some v := by
  have d : dof M (.obj i) = some (false, ks.map nT, vs) := by simp [dof, h]
  unfold ixT
  rw [d]
  show (if isKeyT false (nT k) = true then lkp (ks.map nT) vs (nT k) else none) = _
  rw [if_pos (by rfl)]
  exact lkp_ix ks vs t k v hd hk hv
theorem sp_wayP (hc : HasPeb G) : IsWayP (runD G Lib.Pebbles__way_to_pebble) := by
  intro M o a hs n fr H i j P hn hij hi hj hr
  suffices h : Wp (exSs G Lib.Pebbles__way_to_pebble.body (startE Lib.Pebbles__way_to_pebble.N [.obj o, nT i, nT j]) M) (fun q => ((∃ R, PStk n i j fr H R) ∧ Ans1 .non M q) ∨ ∃ f w, PWay n i j fr H f w ∧ Ans1 (.fl ((f :: w).map nT)) M q) by
    obtain ⟨q, e, h⟩ := h
    rcases h with ⟨h1, h2⟩ | ⟨f, w, h1, h2⟩
    · exact .inl ⟨h1, run_wp rfl rfl ⟨q, e, h2⟩⟩
    · exact .inr ⟨f, w, h1, run_wp rfl rfl ⟨q, e, h2⟩⟩
  have dl : ∀ L, dlT M.length [nT i, .non, nT j, .non] (M ++ O.dic false [] [] :: L) = some (.obj M.length, M ++ bfO i j [] [] :: L) := fun L => by
    unfold dlT
    rw [mg0]
    simp only
    rw [if_pos (by rfl), mst0]
    have : dcPut [nT i, T.non, nT j, T.non] ([], []) = ([nT i, nT j], [T.non, T.non]) := by
      show putD (putD [] [] (nT i) .non).1 (putD [] [] (nT i) .non).2 (nT j) .non = _
      have e1 : putD [] [] (nT i) T.non = ([nT i], [T.non]) := rfl
      rw [e1]
      have := putN [i] [T.non] j T.non (by simpa using fun e => hij e.symm)
      exact this
    rw [this]; rfl
  have dl0 := dl []
  simp only [Lib.Pebbles__way_to_pebble]
  let E : Option T → Option T → En := fun x y => [some (.obj o), some (nT i), some (nT j), some (.obj M.length), some (.obj (M.length + 1)), x, y, none]
  simp [startE, dl0, mkL]
  refine wp_whl (fun m σ M' => ∃ ks ps ws, BeI n i j fr H ks ps ws ∧ M' = M ++ [bfO i j ks ps, .lst (ws.map nT)] ∧ (∃ x y, σ = E x y) ∧ m = 2 * (n - ks.length) + ws.length ∧ m ≤ 2 * n + 1) ?_ (2 * n + 1) _ _ ?_
  · intro m σ M' ⟨ks, ps, ws, hB, hM, ⟨x0, y0, hσ⟩, hm, hm2⟩
    subst hσ
    subst hM
    refine ⟨!ws.isEmpty, M ++ [bfO i j ks ps, .lst (ws.map nT)], ?_, ?_, ?_⟩
    · simp [E, truth]
      exact ⟨ws.map nT, by simp [lofS], by cases ws <;> rfl⟩
    · intro hw
      have hw : ws = [] := by simpa using hw
      subst hw
      simp [E]
      left
      refine ⟨⟨fun k => k ∈ i :: j :: ks, by simp, by simp, fun k hk => ?_, fun k hk h1 h2 => ?_, fun k hk h1 x hx => ?_⟩, ans_pure rfl⟩
      · rcases List.mem_cons.mp hk with e | hk
        · rw [e]; exact hi
        · rcases List.mem_cons.mp hk with e | hk
          · rw [e]; exact hj
          · exact hB.lt k hk
      · rcases List.mem_cons.mp hk with e | hk
        · exact absurd e h1
        · rcases List.mem_cons.mp hk with e | hk
          · exact absurd e h2
          · exact hB.fz k hk
      · refine hB.cl k ?_ (by simp) x hx
        rcases List.mem_cons.mp hk with e | hk
        · exact .inl e
        · rcases List.mem_cons.mp hk with e | hk
          · exact absurd e h1
          · exact .inr hk
    · intro hw
      obtain ⟨ws', u, rfl⟩ : ∃ ws' u, ws = ws' ++ [u] := by
        rcases List.eq_nil_or_concat ws with h | ⟨a, b, h⟩
        · rw [h] at hw; simp at hw
        · exact ⟨a, b, by rw [h, List.concat_eq_append]⟩
      have pp : bmT .pop0 (.obj (M.length + 1)) [] (M ++ [bfO i j ks ps, .lst ((ws' ++ [u]).map nT)]) = some (nT u, M ++ [bfO i j ks ps, .lst (ws'.map nT)]) := by
        unfold bmT
        simp only [mg1]
        rw [List.length_map, List.length_append, List.length_singleton, Nat.add_sub_cancel, List.getElem?_map, List.getElem?_append_right (Nat.le_refl _), Nat.sub_self, mst1, List.map_append, List.map_singleton, List.dropLast_concat]
        rfl
      have huk : u = i ∨ u ∈ ks := hB.wi u (by simp)
      have hun : u < n := by
        rcases huk with e | e
        · rw [e]; exact hi
        · exact hB.lt u e
      have P1 := P.app [bfO i j ks ps, .lst (ws'.map nT)]
      have ah := P1.held (G := G) hc
      obtain ⟨hx, hx1, hx2, hx3⟩ := P1.ixh hun
      have so := sof_obj hx3
      have hxM : M[hx]? = some (O.lst ((H u).map nT)) := P.he u hx hx1
      generalize hWS : (ws' ++ [u]).map nT = WS at *
      generalize hHS : T.fl (hs.map T.obj) = HS at *
      simp only [E]
      simp [pp, ah, hx2, so]
      refine wp_fr (fun t σ M' => ∃ ks2 ps2 ws2, BeI n i j fr H ks2 ps2 (ws2 ++ [u]) ∧ M' = M ++ [bfO i j ks2 ps2, .lst (ws2.map nT)] ∧ (∃ y, σ = E (some (nT u)) y) ∧ 2 * (n - ks2.length) + ws2.length + 1 ≤ m ∧ (u = i ∨ u ∈ ks2) ∧
        ∀ v ∈ (H u).take t, v ∈ i :: j :: ks2) ⟨ks, ps, ws', hB, rfl, ⟨_, rfl⟩, by rw [hm, List.length_append, List.length_singleton]; omega, huk, by simp⟩ (fun t σ M' h => by
          obtain ⟨ks2, ps2, ws2, _, hM2, _⟩ := h
          rw [hM2]
          exact grd_at (getE_app hxM)) ?_ ?_
      · intro t x σ M' hx ⟨ks2, ps2, ws2, hC, hM2, ⟨y2, hσ⟩, hme, hu2, hv2⟩
        subst hσ
        subst hM2
        obtain ⟨v, hv, rfl⟩ := map_get hx
        have hvm := List.mem_of_getElem? hv
        have hvn := hr u hun v hvm
        have fk := hC.few
        have bl : (T.non :: T.non :: ps2.map nT).length = (i :: j :: ks2).length := by simp [hC.pl]
        have ni := nin_od (M := M ++ [bfO i j ks2 ps2, .lst (ws2.map nT)]) (i := M.length) (ks := i :: j :: ks2) (mg0 ..) bl v
        have P2 := P.app [bfO i j (ks2 ++ [v]) (ps2 ++ [u]), .lst (ws2.map nT)]
        have af := P2.free (G := G) hc
        have xf := P2.ixf hvn
        by_cases hvk : v ∈ i :: j :: ks2
        · rw [decide_eq_true hvk] at ni
          simp only [E]
          simp [ni]
          refine ⟨ks2, ps2, ws2, hC, ⟨rfl, rfl⟩, hme, hu2, fun y hy => ?_⟩
          rw [take_snoc hv] at hy
          rcases List.mem_append.mp hy with h | h
          · simpa using hv2 y h
          · rw [List.mem_singleton.mp h]; simpa using hvk
        · rw [decide_eq_false hvk] at ni
          have st : setT (.obj M.length) (nT v) (nT u) (M ++ [bfO i j ks2 ps2, .lst (ws2.map nT)]) = some (M ++ [bfO i j (ks2 ++ [v]) (ps2 ++ [u]), .lst (ws2.map nT)]) := by
            unfold setT
            simp only [mg0, bfO]
            rw [if_pos ⟨rfl, by rw [List.length_map]; simp; omega⟩, putN _ _ _ _ hvk, mst0, List.map_append (l₁ := ps2)]
            rfl
          have nd3 : (i :: j :: (ks2 ++ [v])).Nodup := by
            have : i :: j :: (ks2 ++ [v]) = (i :: j :: ks2) ++ [v] := by simp
            rw [this, List.nodup_append]
            exact ⟨hC.nd, by simp, fun a ha b hb => by rw [List.mem_singleton.mp hb]; exact fun e => hvk (e ▸ ha)⟩
          have par3 : ∀ (t x p : Nat), (ks2 ++ [v])[t]? = some x → (ps2 ++ [u])[t]? = some p → x ∈ H p ∧ (p = i ∨ ∃ s, s < t ∧ (ks2 ++ [v])[s]? = some p) := by
            intro t x p h1 h2
            by_cases ht : t < ks2.length
            · rw [List.getElem?_append_left ht] at h1
              rw [List.getElem?_append_left (by rw [hC.pl]; exact ht)] at h2
              obtain ⟨q1, q2⟩ := hC.par t x p h1 h2
              refine ⟨q1, q2.imp id fun ⟨s, hs, hp⟩ => ⟨s, hs, by rw [List.getElem?_append_left (by omega)]; exact hp⟩⟩
            · have ht2 : t = ks2.length := by
                have := (List.getElem?_eq_some_iff.mp h1).1
                rw [List.length_append, List.length_singleton] at this
                omega
              subst ht2
              rw [List.getElem?_append_right (Nat.le_refl _), Nat.sub_self] at h1
              rw [List.getElem?_append_right (by rw [hC.pl]; exact Nat.le_refl _), hC.pl, Nat.sub_self] at h2
              simp only [List.getElem?_cons_zero, Option.some.injEq] at h1 h2
              subst h1; subst h2
              refine ⟨hvm, hu2.imp id fun h => ?_⟩
              obtain ⟨s, hs, he⟩ := List.mem_iff_getElem.mp h
              exact ⟨s, hs, by rw [List.getElem?_append_left hs, List.getElem?_eq_getElem hs, he]⟩
          have hin : ∀ y ∈ (H u).take (t + 1), y ∈ i :: j :: (ks2 ++ [v]) := fun y hy => by
            rw [take_snoc hv] at hy
            rcases List.mem_append.mp hy with h | h
            · have := hv2 y h
              simp only [List.mem_cons, List.mem_append] at this ⊢
              rcases this with h | h | h
              · exact .inl h
              · exact .inr (.inl h)
              · exact .inr (.inr (.inl h))
            · rw [List.mem_singleton.mp h]; simp
          have pl3 : (ps2 ++ [u]).length = (ks2 ++ [v]).length := by simp [hC.pl]
          have lt3 : ∀ x ∈ ks2 ++ [v], x < n := fun x hx => by
            rcases List.mem_append.mp hx with h | h
            · exact hC.lt x h
            · rw [List.mem_singleton.mp h]; exact hvn
          by_cases hfv : fr v = 0
          · -- go on
            have ap : bmT .append (.obj (M.length + 1)) [nT v] (M ++ [bfO i j (ks2 ++ [v]) (ps2 ++ [u]), .lst (ws2.map nT)]) = some (.non, M ++ [bfO i j (ks2 ++ [v]) (ps2 ++ [u]), .lst ((ws2 ++ [v]).map nT)]) := by
              rw [app_m1, if_pos (by rw [List.length_map]; omega), List.map_append (l₁ := ws2)]; rfl
            have B3 : BeI n i j fr H (ks2 ++ [v]) (ps2 ++ [u]) (ws2 ++ [v] ++ [u]) := by
              refine ⟨nd3, lt3, pl3, par3, fun k hk => ?_, fun w hw => ?_, fun k hk hn x hx => ?_⟩
              · rcases List.mem_append.mp hk with h | h
                · exact hC.fz k h
                · rw [List.mem_singleton.mp h]; exact hfv
              · simp only [List.mem_append, List.mem_singleton] at hw ⊢
                rcases hw with (h | h) | h
                · exact (hC.wi w (by simp [h])).imp id .inl
                · exact .inr (.inr h)
                · rw [h]; exact hu2.imp id .inl
              · simp only [List.mem_append, List.mem_singleton, not_or] at hk hn
                have hk2 : k = i ∨ k ∈ ks2 := by
                  rcases hk with h | h | h
                  · exact .inl h
                  · exact .inr h
                  · exact absurd h hn.1.2
                have := hC.cl k hk2 (by simp [hn.1.1, hn.2]) x hx
                simp only [List.mem_cons, List.mem_append] at this ⊢
                rcases this with h | h | h
                · exact .inl h
                · exact .inr (.inl h)
                · exact .inr (.inr (.inl h))
            have tr : ∀ M, truth M (nT (fr v)) = some false := fun M => by rw [truth_n, hfv]; rfl
            have fk3 := B3.few
            have lk3 : (ks2 ++ [v]).length = ks2.length + 1 := by simp
            have lw3 : (ws2 ++ [v]).length = ws2.length + 1 := by simp
            have hu3 : u = i ∨ u ∈ ks2 ++ [v] := hu2.imp id fun h => List.mem_append_left _ h
            generalize fr v = fv at *
            generalize ks2 ++ [v] = ks3 at *
            generalize ps2 ++ [u] = ps3 at *
            generalize ws2 ++ [v] = ws3 at *
            simp only [E]
            simp [ni, st, af, xf, tr, ap]
            exact ⟨ks3, ps3, ws3, B3, ⟨rfl, rfl⟩, by omega, hu3, by simpa using hin⟩
          · -- a pebble is found
            have tr : ∀ M, truth M (nT (fr v)) = some true := fun M => by
              rw [truth_n]
              congr 1
              simpa using hfv
            have fpos : 0 < fr v := by omega
            generalize hfvv : fr v = fv at *
            have fk3 : (ks2 ++ [v]).length ≤ n := nd_le (l := ks2 ++ [v]) (List.nodup_cons.mp (List.nodup_cons.mp nd3).2).2 lt3
            have lastv : (ks2 ++ [v])[(ks2 ++ [v]).length - 1]? = some v := by simp
            have lk3 : 0 < (ks2 ++ [v]).length := by simp
            have hvi : v ≠ i := fun e => hvk (by simp [e])
            have hvj : v ≠ j := fun e => hvk (by simp [e])
            have atd : ∀ wy : List Nat, (M ++ [bfO i j (ks2 ++ [v]) (ps2 ++ [u]), .lst (ws2.map nT), .lst (wy.map nT)])[M.length]? = some (O.dic false ((i :: j :: (ks2 ++ [v])).map nT) (T.non :: T.non :: (ps2 ++ [u]).map nT)) := fun wy => mg0 ..
            have atw : ∀ wy : List Nat, (M ++ [bfO i j (ks2 ++ [v]) (ps2 ++ [u]), .lst (ws2.map nT), .lst (wy.map nT)])[M.length + 2]? = some (O.lst (wy.map nT)) := fun wy => mg2 ..
            have apw : ∀ (wy : List Nat) (z : Nat), wy.length ≤ 100 → bmT .append (.obj (M.length + 2)) [nT z] (M ++ [bfO i j (ks2 ++ [v]) (ps2 ++ [u]), .lst (ws2.map nT), .lst (wy.map nT)]) = some (.non, M ++ [bfO i j (ks2 ++ [v]) (ps2 ++ [u]), .lst (ws2.map nT), .lst ((wy ++ [z]).map nT)]) := fun wy z h => by
              rw [app_m2, if_pos (by rw [List.length_map]; omega), List.map_append (l₁ := wy)]; rfl
            have sx : ∀ wy : List Nat, (M ++ [bfO i j (ks2 ++ [v]) (ps2 ++ [u]), O.lst (ws2.map nT)]) ++ [O.lst (wy.map nT)] = M ++ [bfO i j (ks2 ++ [v]) (ps2 ++ [u]), .lst (ws2.map nT), .lst (wy.map nT)] := fun wy => by simp
            have sx1 := sx [v]
            generalize hk3 : ks2 ++ [v] = ks3 at *
            generalize hp3 : ps2 ++ [u] = ps3 at *
            generalize hBO : bfO i j ks3 ps3 = BO at *
            generalize ws2.map nT = WT at *
            have len2 : (M ++ [BO, O.lst WT]).length = M.length + 2 := by simp
            simp only [E]
            simp [ni, st, af, xf, tr, mkL]
            refine wp_assoc (wp_assoc (wp_whl (fun s σ M' => ∃ wy l, M' = M ++ [BO, .lst WT, .lst ((v :: wy).map nT)] ∧ σ = [some (.obj o), some (nT i), some (nT j), some (.obj M.length), some (.obj (M.length + 1)), some (nT u), some (nT v), some (.obj (M.length + 2))] ∧
              (v :: wy).getLast? = some l ∧ (v :: wy).Nodup ∧ (∀ z ∈ v :: wy, z < n) ∧ PLnk H (v :: wy) ∧ j ∉ v :: wy ∧ ((s = 0 ∧ l = i) ∨ ∃ t, s = t + 1 ∧ ks3[t]? = some l ∧ ∀ z ∈ v :: wy, ∃ t', t ≤ t' ∧ ks3[t']? = some z)) ?_ ks3.length _ _ ?_))
            · intro s σ M' ⟨wy, l, hM3, hσ, w1, w2, w3, w4, w5, w6⟩
              subst hσ
              subst hM3
              have wl : (v :: wy).length ≤ n := nd_le w2 w3
              have lastT : ((v :: wy).map nT).getLast? = some (nT l) := by rw [List.getLast?_map, w1]; rfl
              have il := ix_last (atw (v :: wy)) lastT
              have cn := cmp_ne_nT l i (M ++ [BO, .lst WT, .lst ((v :: wy).map nT)])
              have ng : negT (.int 1) = some (.int (-1)) := rfl
              have at2 := atw (v :: wy)
              rcases w6 with ⟨rfl, rfl⟩ | ⟨t, rfl, t1, t2⟩
              · refine ⟨false, M ++ [BO, .lst WT, .lst ((v :: wy).map nT)], ?_, fun _ => ?_, fun h => by cases h⟩
                · rw [decide_eq_true rfl] at cn
                  generalize (v :: wy).map nT = WY at *
                  simp [ng, il, cn, truth]
                · have an : Ans1 (.fl ((v :: wy).map nT)) M (.rt (.obj (M.length + 2)) (M ++ [BO, .lst WT, .lst ((v :: wy).map nT)])) := ans_obj (by omega) at2 (pure_map (fun _ => rfl) _)
                  have fin : ∃ f w, PWay n l j fr H f w ∧ Ans1 (.fl ((f :: w).map nT)) M (.rt (.obj (M.length + 2)) (M ++ [BO, .lst WT, .lst ((v :: wy).map nT)])) := ⟨v, wy, ⟨w2, w3, w4, w1, w5, hvi, by rw [hfvv]; exact fpos⟩, an⟩
                  generalize (v :: wy).map nT = WY at *
                  simp
                  exact .inr fin
              · have hli : l ≠ i := fun e => (List.nodup_cons.mp nd3).1 (by rw [← e]; exact List.mem_cons_of_mem _ (List.mem_of_getElem? t1))
                refine ⟨true, M ++ [BO, .lst WT, .lst ((v :: wy).map nT)], ?_, (fun h => by cases h), fun _ => ?_⟩
                · rw [decide_eq_false hli] at cn
                  generalize (v :: wy).map nT = WY at *
                  simp [ng, il, cn, truth]
                · have htl := (List.getElem?_eq_some_iff.mp t1).1
                  obtain ⟨p, hp⟩ : ∃ p, ps3[t]? = some p := ⟨_, List.getElem?_eq_getElem (by omega)⟩
                  obtain ⟨q1, q2⟩ := par3 t l p t1 hp
                  have xd := ix_dic (t := t + 2) (k := l) (v := nT p) (atd (v :: wy)) nd3 (by simpa using t1) (by simp [hp])
                  have ap := apw (v :: wy) p (by omega)
                  have lf := lof_obj' at2
                  have pn : p < n := by
                    rcases q2 with e | ⟨s, _, hs⟩
                    · rw [e]; exact hi
                    · exact lt3 p (List.mem_of_getElem? hs)
                  have kd : ks3.Nodup := (List.nodup_cons.mp (List.nodup_cons.mp nd3).2).2
                  have ki : i ∉ ks3 := fun h => (List.nodup_cons.mp nd3).1 (List.mem_cons_of_mem _ h)
                  have kj : j ∉ ks3 := fun h => (List.nodup_cons.mp (List.nodup_cons.mp nd3).2).1 h
                  have pnew : p ∉ v :: wy := fun hm => by
                    obtain ⟨t', ht1, ht2⟩ := t2 p hm
                    rcases q2 with e | ⟨s, hs1, hs2⟩
                    · exact ki (e ▸ List.mem_of_getElem? ht2)
                    · have := (List.getElem?_inj (List.getElem?_eq_some_iff.mp hs2).1 kd).mp (hs2.trans ht2.symm)
                      omega
                  have pj : p ≠ j := fun e => by
                    rcases q2 with e2 | ⟨s, _, hs⟩
                    · exact hij (e2.symm.trans e)
                    · exact kj (e ▸ List.mem_of_getElem? hs)
                  have goal2 : ∃ n', n' < t + 1 ∧ ∃ wy' l', M ++ [BO, O.lst WT, O.lst ((v :: wy ++ [p]).map nT)] = M ++ [BO, .lst WT, .lst ((v :: wy').map nT)] ∧ (v :: wy').getLast? = some l' ∧ (v :: wy').Nodup ∧ (∀ z ∈ v :: wy', z < n) ∧ PLnk H (v :: wy') ∧ j ∉ v :: wy' ∧ ((n' = 0 ∧ l' = i) ∨ ∃ t, n' = t + 1 ∧ ks3[t]? = some l' ∧ ∀ z ∈ v :: wy', ∃ t', t ≤ t' ∧ ks3[t']? = some z) := by
                    have common : (v :: (wy ++ [p])).getLast? = some p ∧ (v :: (wy ++ [p])).Nodup ∧ (∀ z ∈ v :: (wy ++ [p]), z < n) ∧ PLnk H (v :: (wy ++ [p])) ∧ j ∉ v :: (wy ++ [p]) := by
                      have e : v :: (wy ++ [p]) = (v :: wy) ++ [p] := rfl
                      refine ⟨by rw [e, List.getLast?_concat], ?_, fun z hz => ?_, lnk_snoc q1 wy v w1 w4, fun hm => ?_⟩
                      · rw [e, List.nodup_append]
                        exact ⟨w2, by simp, fun a ha b hb => by rw [List.mem_singleton.mp hb]; exact fun e => pnew (e ▸ ha)⟩
                      · rw [e] at hz
                        rcases List.mem_append.mp hz with h | h
                        · exact w3 z h
                        · rw [List.mem_singleton.mp h]; exact pn
                      · rw [e] at hm
                        rcases List.mem_append.mp hm with h | h
                        · exact w5 h
                        · exact pj (List.mem_singleton.mp h).symm
                    obtain ⟨c1, c2, c3, c4, c5⟩ := common
                    rcases q2 with e | ⟨s, hs1, hs2⟩
                    · exact ⟨0, by omega, wy ++ [p], p, rfl, c1, c2, c3, c4, c5, .inl ⟨rfl, e⟩⟩
                    · refine ⟨s + 1, by omega, wy ++ [p], p, rfl, c1, c2, c3, c4, c5, .inr ⟨s, rfl, hs2, fun z hz => ?_⟩⟩
                      have e : v :: (wy ++ [p]) = (v :: wy) ++ [p] := rfl
                      rw [e] at hz
                      rcases List.mem_append.mp hz with h | h
                      · obtain ⟨t', h1, h2⟩ := t2 z h
                        exact ⟨t', by omega, h2⟩
                      · rw [List.mem_singleton.mp h]; exact ⟨s, Nat.le_refl _, hs2⟩
                  obtain ⟨n', g1, wy', l', g2, g3⟩ := goal2
                  rw [g2] at ap
                  generalize (v :: wy).map nT = WY at *
                  simp [ng, il, xd, lf, ap]
                  exact ⟨n', g1, wy', by simp, l', by simpa using g3⟩
            · refine ⟨[], v, by simp, rfl, by simp, by simp, by simp [hvn], trivial, by simpa using fun e => hvj (Eq.symm e), .inr ⟨ks3.length - 1, by omega, lastv, fun z hz => ⟨ks3.length - 1, Nat.le_refl _, by rw [List.mem_singleton.mp hz]; exact lastv⟩⟩⟩
      · intro σ M' ⟨ks2, ps2, ws2, hC, hM2, ⟨y2, hσ⟩, hme, hu2, hv2⟩
        subst hσ
        rw [List.length_map, List.take_length] at hv2
        simp
        refine ⟨2 * (n - ks2.length) + ws2.length, by omega, ks2, ps2, ws2, ⟨hC.nd, hC.lt, hC.pl, hC.par, hC.fz, fun w hw => hC.wi w (by simp [hw]), fun k hk hnw x hx => ?_⟩, hM2, ⟨_, _, rfl⟩, rfl, by omega⟩
        by_cases e : k = u
        · rw [e] at hx; exact hv2 x hx
        · exact hC.cl k hk (by simp [hnw, e]) x hx
  · exact ⟨[], [], [i], ⟨by simp [hij], fun x h => (nomatch h), rfl, fun t x p h => by simp at h, fun k h => (nomatch h), by simp, fun k hk hn => by
      rcases hk with e | e
      · exact absurd (by simp [e]) hn
      · cases e⟩, rfl, ⟨_, _, rfl⟩, by simp, Nat.le_refl _⟩
end Mi
end L2

/-! Pebbles in memory: fetching, taking, what is chosen. -/
namespace L2
namespace Mi
open PySem PySem.Spec PyProof.Rows
open L2.Peb (updf updf_eq updf_ne PWay PStk PKn PInv PInd PLnk rotW frN flipE)
variable {G : Sig}
/-- outside of the pebbles nothing is changed -/
def Frm (M M' : Mem) (a : Nat) (hs : List Nat) : Prop := M'.length = M.length ∧ ∀ x, x ≠ a → x ∉ hs → M'[x]? = M[x]?
theorem Frm.refl (M : Mem) (a : Nat) (hs : List Nat) : Frm M M a hs := ⟨rfl, fun _ _ _ => rfl⟩
theorem Frm.trans {M M1 M2 : Mem} {a : Nat} {hs : List Nat} (h : Frm M M1 a hs) (h2 : Frm M1 M2 a hs) : Frm M M2 a hs := ⟨h2.1.trans h.1, fun x h3 h4 => (h2.2 x h3 h4).trans (h.2 x h3 h4)⟩
theorem Frm.seta (M : Mem) (a : Nat) (hs : List Nat) (v : O) : Frm M (M.set a v) a hs := ⟨List.length_set, fun x h _ => List.getElem?_set_ne (fun e => h e.symm)⟩
theorem Frm.seth {M : Mem} {a x : Nat} {hs : List Nat} (hx : x ∈ hs) (v : O) : Frm M (M.set x v) a hs := ⟨List.length_set, fun y _ h => List.getElem?_set_ne (fun e => h (by rw [← e]; exact hx))⟩
theorem erase_ix (x : Nat) : ∀ l : List Nat, x ∈ l → ((l.map fun k : Nat => (k : Int)).eraseIdx ((l.map fun k : Nat => (k : Int)).findIdx fun y => y == (x : Int))) = (l.erase x).map fun k : Nat => (k : Int)
  | [], h => (nomatch h)
  | y :: l, h => by
    rw [List.map_cons, List.findIdx_cons]
    by_cases e : y = x
    · subst e
      rw [List.erase_cons_head]
      simp
    · have hx : x ∈ l := by
        rcases List.mem_cons.mp h with q | q
        · exact absurd q.symm e
        · exact q
      have hne : ((y : Int) == (x : Int)) = false := by
        rw [beq_eq_false_iff_ne]
        omega
      rw [hne, List.erase_cons_tail (by simpa using e), List.map_cons]
      simp only [cond_false, List.eraseIdx_cons_succ]
      rw [erase_ix x l hx]
theorem intsOf_nT : ∀ l : List Nat, intsOf (l.map nT) = some (l.map fun k : Nat => (k : Int))
  | [] => rfl
  | x :: l => by
    show (intsOf (l.map nT)).map ((x : Int) :: ·) = _
    rw [intsOf_nT l]; rfl
theorem bm_remove {h x : Nat} {l : List Nat} {M : Mem} (he : M[h]? = some (O.lst (l.map nT))) (hx : x ∈ l) : bmT .remove (.obj h) [nT x] M = some (.non, M.set h (.lst ((l.erase x).map nT))) := by
  have e : bmT .remove (.obj h) [nT x] M = (intsOf (l.map nT)).bind fun ns => if (x : Int) ∈ ns then some (T.non, M.set h (.lst ((ns.eraseIdx (ns.findIdx fun y => y == (x : Int))).map T.int))) else none := by
    show bmT .remove (.obj h) [.int (x : Int)] M = _
    unfold bmT
    simp only [he]
  rw [e, intsOf_nT]
  simp only [Option.bind_some]
  rw [if_pos (List.mem_map.mpr ⟨x, hx, rfl⟩), erase_ix x l hx, List.map_map]
  rfl
def IsFetchP (F : Fn) : Prop := ∀ (M : Mem) (o a : Nat) (hs : List Nat) (n : Nat) (fr : Nat → Nat) (H : Nat → List Nat) (i j : Nat), PS M o a hs n fr H → n ≤ 100 → i ≠ j → i < n → j < n → (∀ k, k < n → ∀ x ∈ H k, x < n) → (∀ k, k < n → (H k).length ≤ 2) →
  ((∃ R, PStk n i j fr H R) ∧ F [.obj o, nT i, nT j] M = some (.bl false, M)) ∨ ∃ f w M', PWay n i j fr H f w ∧ F [.obj o, nT i, nT j] M = some (.bl true, M') ∧ PS M' o a hs n (frN fr f i) (rotW (f :: w) H) ∧ Frm M M' a hs
theorem sp_fetchP (hc : HasPeb G) (hw : KnowsM G "Pebbles" "_way_to_pebble" IsWayP) : IsFetchP (runD G Lib.Pebbles__fetch) := by
  intro M o a hs n fr H i j P hn hij hi hj hr h2
  obtain ⟨F1, l1, k1⟩ := hw
  have ok := P.ok "_way_to_pebble" (by rfl)
  rcases k1 M o a hs n fr H i j P hn hij hi hj hr with ⟨hS, e⟩ | ⟨f, w, W, e⟩
  · refine .inl ⟨hS, run_pure (M1 := []) rfl rfl rfl ?_⟩
    rw [List.append_nil]
    have ni : cmpT .Is .non .non M = some true := rfl
    simp [Lib.Pebbles__fetch, startE, ok, l1, e, ni]
  · right
    suffices h : Wp (exSs G Lib.Pebbles__fetch.body (startE Lib.Pebbles__fetch.N [.obj o, nT i, nT j]) M) (fun q => ∃ M', q = .rt (.bl true) M' ∧ PS M' o a hs n (frN fr f i) (rotW (f :: w) H) ∧ Frm M M' a hs) by
      obtain ⟨q, e, M', rfl, h1, h3⟩ := h
      exact ⟨f, w, M', W, run_same rfl rfl h3.1 e, h1, h3⟩
    have fw : (f :: w).length ≤ n := nd_le W.nd W.lt
    have wln : w.length ≤ 99 := by rw [List.length_cons] at fw; omega
    have ni : cmpT .Is (.fl ((f :: w).map nT)) .non M = some false := rfl
    have ln : biT .len [.fl ((f :: w).map nT)] M = some (nT (w.length + 1), M) := by rw [len_fl, List.length_map]; rfl
    have sb : binT .Sub false (nT (w.length + 1)) (.int 1) M = some (nT w.length, M) := by
      show some (T.int (((w.length + 1 : Nat) : Int) - 1), M) = some (T.int ((w.length : Nat) : Int), M)
      congr 3; omega
    have rg := rg1_n (n := w.length) (by simp at fw; omega)
    have ix0 : ∀ M, ixT (.fl ((f :: w).map nT)) (.int 0) M = some (nT f) := fun M => by
      show atI ((f :: w).map nT) ((0 : Nat) : Int) = _
      rw [atI_n]; rfl
    have ixk : ∀ (k x : Nat) (M : Mem), (f :: w)[k]? = some x → ixT (.fl ((f :: w).map nT)) (nT k) M = some (nT x) := fun k x M h => by
      show atI ((f :: w).map nT) (k : Int) = _
      rw [atI_n, List.getElem?_map, h]; rfl
    generalize hWT : T.fl ((f :: w).map nT) = WT at *
    generalize hwl : w.length + 1 = wl at *
    simp only [Lib.Pebbles__fetch]
    simp [startE, ok, l1, e, ni, ln, sb, rg]
    refine wp_fr (fun t σ M' => ∃ Ht, PS M' o a hs n fr Ht ∧ Frm M M' a hs ∧ (∃ z, σ = [some (.obj o), some (nT i), some (nT j), some WT, z]) ∧ rotW ((f :: w).drop t) Ht = rotW (f :: w) H ∧ PLnk Ht ((f :: w).drop t) ∧ ∀ k, (Ht k).length ≤ (H k).length + t)
      ⟨H, P, Frm.refl .., ⟨_, rfl⟩, rfl, W.lk, fun k => Nat.le_refl _⟩ (fun _ _ _ _ => by simp) ?_ ?_
    · intro t x σ M' hx ⟨Ht, P1, hF, ⟨z, hσ⟩, hrot, hlk, hlen⟩
      subst hσ
      obtain ⟨ht, rfl⟩ := rng_get hx
      have hx1 : (f :: w)[t]? = some ((f :: w)[t]'(by simp; omega)) := List.getElem?_eq_getElem _
      have hy1 : (f :: w)[t + 1]? = some ((f :: w)[t + 1]'(by simp; omega)) := List.getElem?_eq_getElem _
      generalize (f :: w)[t]'(by simp; omega) = x at hx1
      generalize (f :: w)[t + 1]'(by simp; omega) = y at hy1
      have hxn := W.lt x (List.mem_of_getElem? hx1)
      have hyn := W.lt y (List.mem_of_getElem? hy1)
      have hxy : x ≠ y := fun e => by
        subst e
        have := (List.getElem?_inj (List.getElem?_eq_some_iff.mp hx1).1 W.nd).mp (hx1.trans hy1.symm)
        omega
      have dr1 : (f :: w).drop t = x :: (f :: w).drop (t + 1) := by
        rw [List.drop_eq_getElem_cons (by simp; omega)]
        congr 1
        exact Option.some.inj ((List.getElem?_eq_getElem (by simp; omega)).symm.trans hx1)
      have dr2 : (f :: w).drop (t + 1) = y :: (f :: w).drop (t + 2) := by
        rw [List.drop_eq_getElem_cons (by simp; omega)]
        congr 1
        exact Option.some.inj ((List.getElem?_eq_getElem (by simp; omega)).symm.trans hy1)
      rw [dr1, dr2] at hrot hlk
      have hmem : x ∈ Ht y := hlk.1
      -- remove
      obtain ⟨hy, y1, y2, y3⟩ := P1.ixh hyn
      have rm := bm_remove y3 hmem
      have P2 := P1.seth y1 ((Ht y).erase x)
      have F2 : Frm M' (M'.set hy (.lst (((Ht y).erase x).map nT))) a hs := Frm.seth (List.mem_of_getElem? y1) _
      generalize hM2 : M'.set hy (.lst (((Ht y).erase x).map nT)) = M2 at *
      -- append
      obtain ⟨hx', x1, x2, x3⟩ := P2.ixh hxn
      rw [updf_ne _ _ hxy] at x3
      have lx := hlen x
      have lx2 := h2 x hxn
      have ap := bm_append (x := nT y) x3 (by rw [List.length_map]; omega)
      have P3 := P2.seth x1 (Ht x ++ [y])
      have F3 : Frm M2 (M2.set hx' (.lst ((Ht x ++ [y]).map nT))) a hs := Frm.seth (List.mem_of_getElem? x1) _
      have me : (Ht x).map nT ++ [nT y] = (Ht x ++ [y]).map nT := by rw [List.map_append]; rfl
      rw [me] at ap
      have fe : updf (updf Ht y ((Ht y).erase x)) x (Ht x ++ [y]) = flipE Ht x y := rfl
      rw [fe] at P3
      have fin : PS (M2.set hx' (.lst ((Ht x ++ [y]).map nT))) o a hs n fr (flipE Ht x y) ∧ Frm M (M2.set hx' (.lst ((Ht x ++ [y]).map nT))) a hs ∧ rotW ((f :: w).drop (t + 1)) (flipE Ht x y) = rotW (f :: w) H ∧ PLnk (flipE Ht x y) ((f :: w).drop (t + 1)) ∧ ∀ k, (flipE Ht x y k).length ≤ (H k).length + (t + 1) := by
        refine ⟨P3, (hF.trans F2).trans F3, by rw [dr2]; exact hrot, ?_, fun k => ?_⟩
        · rw [dr2]
          refine Peb.PLnk.congr hlk.2 fun z hz => ?_
          have hz : z ∈ (f :: w).drop (t + 2) := hz
          have nd := W.nd.sublist (List.drop_sublist t (f :: w))
          rw [dr1, dr2] at nd
          obtain ⟨n1, n2⟩ := List.nodup_cons.mp nd
          obtain ⟨n3, _⟩ := List.nodup_cons.mp n2
          exact Peb.flip_o Ht (fun e => n1 (by rw [← e]; exact List.mem_cons_of_mem _ hz)) (fun e => n3 (by rw [← e]; exact hz))
        · have q1 := Peb.flip_len (H := Ht) hxy hmem k
          have q2 := hlen k
          by_cases e1 : k = y
          · by_cases e2 : k = x
            · rw [if_pos e1, if_pos e2] at q1; omega
            · rw [if_pos e1, if_neg e2] at q1; omega
          · by_cases e2 : k = x
            · rw [if_neg e1, if_pos e2] at q1; omega
            · rw [if_neg e1, if_neg e2] at q1; omega
      have ah1 := P1.held (G := G) hc
      have ah2 := P2.held (G := G) hc
      have at1 := add_one_n false t M'
      have at2 := add_one_n false t M2
      have i1 := ixk (t + 1) y M' hy1
      have i2 := ixk t x M' hx1
      have i3 := ixk t x M2 hx1
      have i4 := ixk (t + 1) y M2 hy1
      have lf1 := lof_obj' y3
      have lf2 := lof_obj' x3
      generalize M2.set hx' (.lst ((Ht x ++ [y]).map nT)) = M3 at *
      generalize T.fl (hs.map T.obj) = HS at *
      generalize hHy : (Ht y).map nT = TY at *
      generalize hHx : (Ht x).map nT = TX at *
      obtain ⟨f1, f2, f3, f4, f5⟩ := fin
      generalize t + 1 = t1 at *
      simp [ah1, ah2, at1, at2, i1, i2, i3, i4, y2, x2, lf1, lf2, rm, ap]
      exact ⟨_, f1, f2, f3, f4, f5⟩
    · intro σ M' ⟨Ht, P1, hF, ⟨z, hσ⟩, hrot, hlk, hlen⟩
      subst hσ
      rw [rng_lenT] at hrot
      have dl : (f :: w).drop w.length = [i] := by
        have hl := W.la
        have : (f :: w).length = w.length + 1 := rfl
        rw [List.getLast?_eq_getElem?, this, Nat.add_sub_cancel] at hl
        rw [List.drop_eq_getElem_cons (by simp)]
        congr 1
        · exact Option.some.inj ((List.getElem?_eq_getElem (by simp)).symm.trans hl)
        · rw [List.drop_eq_nil_iff]; simp
      rw [dl] at hrot
      have hrot : Ht = rotW (f :: w) H := hrot
      subst hrot
      have hfn := W.lt f (by simp)
      have fi := W.fi
      have fpos := W.fr
      have af := P1.free (G := G) hc
      have xf := P1.ixf hfn
      obtain ⟨s1, P2⟩ := P1.setf hfn (fr f - 1)
      have F2 : Frm M' (M'.set a (.lst (frL n (updf fr f (fr f - 1))))) a hs := Frm.seta ..
      generalize M'.set a (.lst (frL n (updf fr f (fr f - 1)))) = M2 at *
      have af2 := P2.free (G := G) hc
      have xi := P2.ixf hi
      rw [updf_ne _ _ (fun e => fi e.symm)] at xi
      obtain ⟨s2, P3⟩ := P2.setf hi (fr i + 1)
      have F3 : Frm M2 (M2.set a (.lst (frL n (updf (updf fr f (fr f - 1)) i (fr i + 1))))) a hs := Frm.seta ..
      have ag1 : augT .Sub (nT (fr f)) (.int 1) = some (nT (fr f - 1)) := by
        show some (T.int ((fr f : Int) - 1)) = some (T.int ((fr f - 1 : Nat) : Int))
        congr 2; omega
      have ag2 : augT .Add (nT (fr i)) (.int 1) = some (nT (fr i + 1)) := by
        show some (T.int ((fr i : Int) + 1)) = some (T.int ((fr i + 1 : Nat) : Int))
        congr 2
      have fin : ∃ M3, M2.set a (.lst (frL n (updf (updf fr f (fr f - 1)) i (fr i + 1)))) = M3 ∧ PS M3 o a hs n (frN fr f i) (rotW (f :: w) H) ∧ Frm M M3 a hs := ⟨_, rfl, P3, (hF.trans F2).trans F3⟩
      obtain ⟨M3, g1, g2, g3⟩ := fin
      rw [g1] at s2
      generalize fr f - 1 = v1 at *
      generalize fr i + 1 = v2 at *
      have ix0' := ix0 M'
      simp [ix0', af, xf, ag1, s1, af2, xi, ag2, s2]
      exact ⟨g2, g3⟩
/-- one of the loops of `take` -/
theorem fetch_loop (hc : HasPeb G) {F : Fn} (lF : ((G.cls.lookup ("Pebbles" : Str)).bind fun C => C.meths.lookup ("_fetch" : Str)) = some F) (kF : IsFetchP F) {np nq : Str} {ip iq o a n i j : Nat} {hs : List Nat} {P : List (Nat × Nat)} {σ : En} (h0 : σ[0]? = some (some (.obj o))) (h1 : σ[ip]? = some (some (nT i))) (h2 : σ[iq]? = some (some (nT j)))
    (hn : n ≤ 100) (hij : i ≠ j) (hi : i < n) (hj : j < n) : ∀ (m : Nat) (M : Mem) (fr : Nat → Nat) (H : Nat → List Nat), m = 2 - fr i → PS M o a hs n fr H → PInv n P fr H →
    ∃ M' fr' H', whl G (.and (.cmp .Lt (.ix (.att "Pebbles" (.var 0 "self") "free") (.var ip np)) (.int 2)) (.one (.mcall "Pebbles" (.var 0 "self") "_fetch" (.cons (.var ip np) (.cons (.var iq nq) .nil))))) [.pas] σ M = some (.nx σ M') ∧
      PS M' o a hs n fr' H' ∧ Frm M M' a hs ∧ PInv n P fr' H' ∧ PKn n i j fr' H' ∧ (PKn n j i fr H → PKn n j i fr' H') := by
  intro m
  induction m with
  | zero =>
    intro M fr H hm PP I
    have := I.two i hi
    have h22 : fr i = 2 := by omega
    have af := PP.free (G := G) hc
    have xi := PP.ixf hi
    have cl : cmpT .Lt (nT (fr i)) (.int 2) M = some false := by
      show some (decide ((fr i : Int) < 2)) = _
      rw [decide_eq_false (by omega)]
    refine ⟨M, fr, H, whl_f ?_, PP, Frm.refl .., I, .inl h22, id⟩
    simp [h0, h1, af, xi, cl, truth]
  | succ m ih =>
    intro M fr H hm PP I
    have hlt : fr i < 2 := by omega
    have af := PP.free (G := G) hc
    have xi := PP.ixf hi
    have cl : cmpT .Lt (nT (fr i)) (.int 2) M = some true := by
      show some (decide ((fr i : Int) < 2)) = _
      rw [decide_eq_true (by omega)]
    have ok := PP.ok "_fetch" (by rfl)
    have h2l : ∀ k, k < n → (H k).length ≤ 2 := fun k hk => by have := I.two k hk; omega
    rcases kF M o a hs n fr H i j PP hn hij hi hj I.rng h2l with ⟨hS, e⟩ | ⟨f, w, M1, W, e, P1, F1⟩
    · refine ⟨M, fr, H, whl_f ?_, PP, Frm.refl .., I, .inr hS, id⟩
      simp [h0, h1, h2, af, xi, cl, ok, lF, e, truth]
    · have I1 := W.inv I
      have f1 := W.fi1
      obtain ⟨M', fr', H', q1, q2, q3, q4, q5, q6⟩ := ih M1 _ _ (by rw [f1]; omega) P1 I1
      refine ⟨M', fr', H', ?_, q2, F1.trans q3, q4, q5, fun hk => q6 (W.kn (fun e => hij e.symm) hk)⟩
      rw [← q1]
      refine whl_t (M1 := M1) ?_ ?_
      · simp [h0, h1, h2, af, xi, cl, ok, lF, e, truth]
      · simp
def IsTakeP (F : Fn) : Prop := ∀ (M : Mem) (o a : Nat) (hs : List Nat) (n : Nat) (P : List (Nat × Nat)) (fr : Nat → Nat) (H : Nat → List Nat) (i j : Nat), PS M o a hs n fr H → PInv n P fr H → n ≤ 100 → i ≠ j → i < n → j < n →
  ∃ (M' : Mem) (fr' : Nat → Nat) (H' : Nat → List Nat) (b : Bool), F [.obj o, nT i, nT j] M = some (.bl b, M') ∧ PS M' o a hs n fr' H' ∧ Frm M M' a hs ∧ (b = true ↔ PInd n (P ++ [(i, j)])) ∧ PInv n (if b = true then P ++ [(i, j)] else P) fr' H'
theorem sp_takeP (hc : HasPeb G) (hf : KnowsM G "Pebbles" "_fetch" IsFetchP) : IsTakeP (runD G Lib.Pebbles_take) := by
  intro M o a hs n P fr H i j PP I hn hij hi hj
  obtain ⟨F1, l1, k1⟩ := hf
  let σ : En := [some (.obj o), some (nT i), some (nT j)]
  obtain ⟨M1, fr1, H1, a1, a2, a3, a4, a5, _⟩ := fetch_loop (np := "i") (nq := "j") (ip := 1) (iq := 2) (σ := σ) hc l1 k1 (by simp [σ]) (by simp [σ]) (by simp [σ]) hn hij hi hj _ M fr H rfl PP I
  obtain ⟨M2, fr2, H2, b1, b2, b3, b4, b5, b6⟩ := fetch_loop (np := "j") (nq := "i") (ip := 2) (iq := 1) (σ := σ) hc l1 k1 (by simp [σ]) (by simp [σ]) (by simp [σ]) hn (fun e => hij e.symm) hj hi _ M1 fr1 H1 rfl a2 a4
  have kn := b6 a5
  have af := b2.free (G := G) hc
  have xi := b2.ixf hi
  have xj := b2.ixf hj
  have t1 := b4.two i hi
  have t2 := b4.two j hj
  have ad := bin_add_nn false (fr2 i) (fr2 j) M2
  by_cases h4 : fr2 i + fr2 j < 4
  · refine ⟨M2, fr2, H2, false, run_same rfl rfl (a3.trans b3).1 ?_, b2, a3.trans b3, by simp [Peb.reject b4 hij hi hj kn b5 h4], by simpa using b4⟩
    have cl : cmpT .Lt (nT (fr2 i + fr2 j)) (.int 4) M2 = some true := by
      show some (decide (((fr2 i + fr2 j : Nat) : Int) < 4)) = _
      rw [decide_eq_true (by omega)]
    simp only [σ] at a1 b1
    generalize fr2 i + fr2 j = s at *
    simp [Lib.Pebbles_take, startE, a1, b1, af, xi, xj, ad, cl]
  · have h2i : fr2 i = 2 := by omega
    have h2j : fr2 j = 2 := by omega
    have acc := Peb.accept b4 hij hi hj h2i h2j
    obtain ⟨s1, P3⟩ := b2.setf hi (fr2 i - 1)
    have F3 : Frm M2 (M2.set a (.lst (frL n (updf fr2 i (fr2 i - 1))))) a hs := Frm.seta ..
    generalize M2.set a (.lst (frL n (updf fr2 i (fr2 i - 1)))) = M3 at *
    obtain ⟨hx, x1, x2, x3⟩ := P3.ixh hi
    have ap := bm_append (x := nT j) x3 (by rw [List.length_map]; omega)
    have P4 := P3.seth x1 (H2 i ++ [j])
    have F4 : Frm M3 (M3.set hx (.lst ((H2 i ++ [j]).map nT))) a hs := Frm.seth (List.mem_of_getElem? x1) _
    have me : (H2 i).map nT ++ [nT j] = (H2 i ++ [j]).map nT := by rw [List.map_append]; rfl
    rw [me] at ap
    have cl : cmpT .Lt (nT (fr2 i + fr2 j)) (.int 4) M2 = some false := by
      show some (decide (((fr2 i + fr2 j : Nat) : Int) < 4)) = _
      rw [decide_eq_false (by omega)]
    have ag1 : augT .Sub (nT (fr2 i)) (.int 1) = some (nT (fr2 i - 1)) := by
      show some (T.int ((fr2 i : Int) - 1)) = some (T.int ((fr2 i - 1 : Nat) : Int))
      congr 2; omega
    have ah := P3.held (G := G) hc
    have lf := lof_obj' x3
    have FF := ((a3.trans b3).trans F3).trans F4
    generalize M3.set hx (.lst ((H2 i ++ [j]).map nT)) = M4 at *
    refine ⟨M4, _, _, true, run_same rfl rfl FF.1 ?_, P4, FF, by simp [acc.ind], by simpa using acc⟩
    simp only [σ] at a1 b1
    generalize fr2 i - 1 = v at *
    generalize (H2 i).map nT = HH at *
    generalize fr2 i + fr2 j = s at *
    generalize T.fl (hs.map T.obj) = HS at *
    simp [Lib.Pebbles_take, startE, a1, b1, af, xi, xj, ad, cl, ag1, s1, ah, x2, lf, ap]
end Mi
end L2

/-! Pebbles: what is chosen, the count rank. -/
namespace L2
namespace Mi
open PySem PySem.Spec PyProof.Rows
open L2.Peb (updf updf_eq updf_ne PWay PStk PKn PInv PInd PLnk rotW frN flipE grdP cardS)
variable {G : Sig}
def IsPInit (F : Fn) : Prop := ∀ (M : Mem) (n : Nat), n ≤ 100 → ∃ L hs, F [.obj M.length, nT n] (M ++ [.ins "Pebbles" []]) = some (.non, M ++ L) ∧ PS (M ++ L) M.length (M.length + 1) hs n (fun _ => 2) (fun _ => []) ∧ ∀ x ∈ hs, M.length < x
theorem lcr_news {i : Nat} {x : Str} {σ : En} (hi : i < σ.length) : ∀ (xs : List T) (M : Mem), lcr G (.nm i x) .nil (.lst true .nil) σ [] xs M = some ((List.range xs.length).map fun k => T.obj (M.length + k), M ++ List.replicate xs.length (O.lst []))
  | [], M => by rw [lcr_nil0]; simp
  | y :: xs, M => by
    rw [lcr_cons0]
    have e : stepL G (.nm i x) .nil (.lst true .nil) σ y M = some ([.obj M.length], M ++ [O.lst []]) := by simp [stepL, hi, mkL]
    rw [e]
    simp only [Option.bind_some]
    rw [lcr_news hi xs]
    simp only [Option.map_some, List.length_append, List.length_singleton, List.length_cons]
    congr 2
    · rw [List.range_succ_eq_map, List.map_cons, List.map_map]
      show T.obj M.length :: _ = T.obj (M.length + 0) :: _
      congr 1
      apply List.map_congr_left
      intro k _
      show T.obj (M.length + 1 + k) = T.obj (M.length + (k + 1))
      congr 1; omega
    · rw [List.append_assoc, List.replicate_succ]; rfl
theorem sp_pinit (hc : HasPeb G) : IsPInit (runD G Lib.Pebbles___init__) := by
  intro M n hn
  let fs1 : List (Str × T) := [("free", .obj (M.length + 1))]
  let hs : List Nat := (List.range n).map fun k => M.length + 2 + k
  let fs2 : List (Str × T) := [("free", .obj (M.length + 1)), ("held", .fl (hs.map T.obj))]
  let L : List O := .ins "Pebbles" fs2 :: .lst (frL n fun _ => 2) :: List.replicate n (O.lst [])
  refine ⟨L, hs, ?_, ?_, ?_⟩
  · have r1 := rep_obj (.int 2) n (M ++ [.ins "Pebbles" []]) (by omega)
    have lm : (M ++ [O.ins "Pebbles" []]).length = M.length + 1 := by simp
    rw [lm, List.append_assoc] at r1
    have r2 : (List.replicate n (T.int 2)) = frL n fun _ => 2 := by
      unfold frL
      rw [List.map_const', List.length_range]; rfl
    rw [r2] at r1
    have s1 : sattT G "Pebbles" "free" (.obj M.length) (.obj (M.length + 1)) (M ++ ([.ins "Pebbles" []] ++ [.lst (frL n fun _ => 2)])) = some (M ++ (.ins "Pebbles" fs1 :: [.lst (frL n fun _ => 2)])) := satt_app hc (by decide) (by simp)
    have l1 := lcr_news (G := G) (i := 2) (x := "_") (σ := [some (.obj M.length), some (nT n), none]) (by simp) (rngL 0 (n : Int)) (M ++ (.ins "Pebbles" fs1 :: [.lst (frL n fun _ => 2)]))
    rw [rng_lenT] at l1
    have lm2 : (M ++ (O.ins "Pebbles" fs1 :: [O.lst (frL n fun _ => 2)])).length = M.length + 2 := by simp
    rw [lm2] at l1
    have he : ((List.range n).map fun k => T.obj (M.length + 2 + k)) = hs.map T.obj := by simp only [hs]; rw [List.map_map]; rfl
    rw [he, List.append_assoc] at l1
    have hlen : (hs.map T.obj).length ≤ 16777216 := by simp [hs]; omega
    have s2 : sattT G "Pebbles" "held" (.obj M.length) (.fl (hs.map T.obj)) (M ++ ((.ins "Pebbles" fs1 :: [.lst (frL n fun _ => 2)]) ++ List.replicate n (O.lst []))) = some (M ++ L) := satt_app hc (by decide) (by simp [fs1])
    have rg := rg1_n (n := n) (by omega)
    refine run_nx2 rfl (σ := [some (.obj M.length), some (nT n), none]) (fun e => by
      have := congrArg (fun l : List O => l[M.length]?) e
      simp [L, List.take_append, fs2] at this) ?_
    generalize hs.map T.obj = HS at *
    generalize frL n (fun _ => 2) = FL at *
    clear_value L fs1
    simp at r1 s1 l1 s2
    simp [Lib.Pebbles___init__, startE, wipeE, mkL, r1, s1, rg, l1, hlen, s2]
  · have lenL : L.length = n + 2 := by simp [L]
    refine ⟨mg0 .., mg1 .., by simp [hs], ?_, by omega, ?_, ?_, fun k h hk => ?_⟩
    · simp only [hs]
      exact List.pairwise_map.mpr (List.nodup_range.imp fun {a b} h => (by omega : M.length + 2 + a ≠ M.length + 2 + b))
    · intro h
      obtain ⟨k, _, e⟩ := List.mem_map.mp h
      omega
    · intro h
      obtain ⟨k, _, e⟩ := List.mem_map.mp h
      omega
    · simp only [hs] at hk
      rw [List.getElem?_map] at hk
      have hkn : k < n := by
        by_cases q : k < n
        · exact q
        · rw [List.getElem?_eq_none (by simpa using q)] at hk; cases hk
      rw [List.getElem?_range hkn] at hk
      have hk : M.length + 2 + k = h := by simpa using hk
      subst hk
      rw [List.getElem?_append_right (by omega), show M.length + 2 + k - M.length = k + 2 by omega]
      show (List.replicate n (O.lst []))[k]? = _
      rw [List.getElem?_replicate, if_pos hkn]; rfl
  · intro x hx
    obtain ⟨k, _, e⟩ := List.mem_map.mp hx
    omega
def npT (p : Nat × Nat) : T := .tup [nT p.1, nT p.2]
def InN (n : Nat) (P : List (Nat × Nat)) : Prop := ∀ p ∈ P, p.1 ≠ p.2 ∧ p.1 < n ∧ p.2 < n
theorem prs_pure (P : List (Nat × Nat)) : pureTs (P.map npT) = true := pure_map (f := npT) (fun _ => rfl) P
def netT (n : Nat) (P : List (Nat × Nat)) : T := .tup [nT n, .tup (P.map npT)]
def EnoughP (n : Nat) (P : List (Nat × Nat)) : Prop := n = 1 ∨ ((grdP n [] P).length : Int) = 2 * (n : Int) - 3
noncomputable instance (n : Nat) (P : List (Nat × Nat)) : Decidable (EnoughP n P) := Classical.propDecidable _
end Mi
end L2

/-! The law's own counting: sets of joints. -/
namespace L2
namespace Mi
open PySem PySem.Spec PyProof.Rows
open L2.Peb (updf updf_eq updf_ne PInd grdP cardS sg inn)
variable {G : Sig}
/-! ### sets by their codes -/
def bits (n c : Nat) : List Nat := (List.range n).filter fun k => decide (c / 2 ^ k % 2 = 1)
def codeS (S : Nat → Bool) : Nat → Nat
  | 0 => 0
  | n + 1 => codeS S n + (if S n = true then 2 ^ n else 0)
theorem codeS_lt (S : Nat → Bool) : ∀ n, codeS S n < 2 ^ n
  | 0 => by simp [codeS]
  | n + 1 => by
    have := codeS_lt S n
    rw [codeS, Nat.pow_succ]
    split <;> omega
theorem codeS_bit (S : Nat → Bool) : ∀ (n k : Nat), k < n → (codeS S n / 2 ^ k % 2 = 1 ↔ S k = true)
  | 0, k, h => absurd h (Nat.not_lt_zero _)
  | n + 1, k, h => by
    have hl := codeS_lt S n
    rw [codeS]
    by_cases e : k = n
    · subst e
      by_cases hs : S k = true
      · rw [if_pos hs]
        have : (codeS S k + 2 ^ k) / 2 ^ k = 1 := by
          rw [Nat.add_div_right _ (Nat.pow_pos (by decide)), Nat.div_eq_of_lt hl]
        rw [this]; simp [hs]
      · rw [if_neg hs, Nat.add_zero, Nat.div_eq_of_lt hl]; simp [hs]
    · have ih := codeS_bit S n k (by omega)
      by_cases hs : S n = true
      · rw [if_pos hs]
        obtain ⟨d, rfl⟩ : ∃ d, n = k + 1 + d := ⟨n - (k + 1), by omega⟩
        have e2 : 2 ^ (k + 1 + d) = 2 * 2 ^ d * 2 ^ k := by
          rw [Nat.pow_add, Nat.pow_succ]
          rw [Nat.mul_comm (2 ^ k) 2, Nat.mul_assoc, Nat.mul_comm (2 ^ k), ← Nat.mul_assoc]
        rw [e2, Nat.add_mul_div_right _ _ (Nat.pow_pos (by decide)), Nat.add_mul_mod_self_left]
        exact ih
      · rw [if_neg hs, Nat.add_zero]; exact ih
theorem bits_code (S : Nat → Bool) (n : Nat) : bits n (codeS S n) = (List.range n).filter S := by
  unfold bits
  apply List.filter_congr
  intro k hk
  have := codeS_bit S n k (List.mem_range.mp hk)
  rw [Bool.eq_iff_iff, decide_eq_true_eq]
  exact this
theorem card_filter (S : Nat → Bool) : ∀ n, cardS n S = ((List.range n).filter S).length
  | 0 => rfl
  | n + 1 => by
    show cardS n S + (if S n = true then 1 else 0) = _
    rw [card_filter S n, List.range_succ, List.filter_append, List.length_append]
    congr 1
    cases h : S n <;> simp [h]
def jsT (js : List Nat) : T := .fl (js.map nT)
def IsLSets (F : Fn) : Prop := ∀ (n : Nat) (M : Mem), n ≤ 7 → ∃ Ls : List (List Nat), F [nT n] M = some (.fl (Ls.map jsT), M) ∧ (∀ js ∈ Ls, ∃ S : Nat → Bool, js = (List.range n).filter S ∧ 2 ≤ js.length) ∧ (∀ S : Nat → Bool, 2 ≤ cardS n S → (List.range n).filter S ∈ Ls) ∧ Ls.length ≤ 128
theorem ix_pow7 (k : Nat) (h : k < 7) (M : Mem) : ixT (ilT [1, 2, 4, 8, 16, 32, 64]) (nT k) M = some (nT (2 ^ k)) := by
  match k, h with
  | 0, _ => rfl
  | 1, _ => rfl
  | 2, _ => rfl
  | 3, _ => rfl
  | 4, _ => rfl
  | 5, _ => rfl
  | 6, _ => rfl
theorem ix_pow8 (k : Nat) (h : k < 8) (M : Mem) : ixT (ilT [1, 2, 4, 8, 16, 32, 64, 128]) (nT k) M = some (nT (2 ^ k)) := by
  match k, h with
  | 0, _ => rfl
  | 1, _ => rfl
  | 2, _ => rfl
  | 3, _ => rfl
  | 4, _ => rfl
  | 5, _ => rfl
  | 6, _ => rfl
  | 7, _ => rfl
theorem pow_2_7 (M : Mem) : binT .Pow false (.int 2) (.int 7) M = some (.int 128, M) := by
  show (if powOk 2 7 then _ else _) = _
  rw [if_pos (by unfold powOk; decide)]
  rfl
theorem div_nnP (a b : Nat) (hb : 0 < b) (M : Mem) : binT .FloorDiv false (nT a) (nT b) M = some (nT (a / b), M) := by
  have := bin_div (i := (a : Int)) (j := (b : Int)) (M := M) (show ((b : Int) ≠ 0) by omega) false
  rw [show ((a : Int).fdiv (b : Int)) = ((a / b : Nat) : Int) by rw [fdiv_nat, ← Int.natCast_ediv]] at this
  exact this
theorem sp_lsets : IsLSets (runD G Lib._law_sets) := by
  intro n M hn
  suffices h : Wp (exSs G Lib._law_sets.body (startE Lib._law_sets.N [nT n]) M) (fun q => ∃ Ls : List (List Nat), Ans1 (.fl (Ls.map jsT)) M q ∧ (∀ js ∈ Ls, ∃ S : Nat → Bool, js = (List.range n).filter S ∧ 2 ≤ js.length) ∧ (∀ S : Nat → Bool, 2 ≤ cardS n S → (List.range n).filter S ∈ Ls) ∧ Ls.length ≤ 128) by
    obtain ⟨q, e, Ls, h1, h2⟩ := h
    exact ⟨Ls, run_wp rfl rfl ⟨q, e, h1⟩, h2⟩
  have p27 := pow_2_7 (M ++ [O.lst []])
  have rg : rg1 (.int 128) = some (rngL 0 ((128 : Nat) : Int), []) := rg1_n (n := 128) (by decide)
  have rgn := rg1_n (n := n) (by omega)
  have z7 : T.fl [.int 1, .int 2, .int 4, .int 8, .int 16, .int 32, .int 64] = ilT [1, 2, 4, 8, 16, 32, 64] := rfl
  have z8 : T.fl [.int 1, .int 2, .int 4, .int 8, .int 16, .int 32, .int 64, .int 128] = ilT [1, 2, 4, 8, 16, 32, 64, 128] := rfl
  simp only [Lib._law_sets]
  simp [startE, p27, rg, mkL]
  refine wp_fr (xs := rngL 0 ((128 : Nat) : Int)) (fun c σ M' => ∃ Ls : List (List Nat), M' = M ++ [.lst (Ls.map jsT)] ∧ (∃ a b, σ = [some (nT n), some (.obj M.length), a, b, none]) ∧ (∀ js ∈ Ls, ∃ S : Nat → Bool, js = (List.range n).filter S ∧ 2 ≤ js.length) ∧ (∀ x, x < c → x < 2 ^ n → 2 ≤ (bits n x).length → bits n x ∈ Ls) ∧ Ls.length ≤ c)
    ⟨[], rfl, ⟨_, _, rfl⟩, fun js h => (nomatch h), fun x h => absurd h (Nat.not_lt_zero x), Nat.le_refl _⟩ (fun _ _ _ _ => by simp) ?_ ?_
  · intro c x σ M' hx ⟨Ls, hM, ⟨a0, b0, hσ⟩, h1, h2, h3⟩
    subst hσ
    obtain ⟨hc, rfl⟩ := rng_get hx
    have lc : lcr G (.nm 4 "_law_k") (.cons (.cmp .Eq (.bin .Mod false (.bin .FloorDiv false (.var 2 "_law_code") (.ix (.lst false (.cons (.int 1) (.cons (.int 2) (.cons (.int 4) (.cons (.int 8) (.cons (.int 16) (.cons (.int 32) (.cons (.int 64) .nil)))))))) (.var 4 "_law_k"))) (.int 2)) (.int 1)) .nil) (.var 4 "_law_k") [some (nT n), some (.obj M.length), some (nT c), b0, none] [] (rngL 0 (n : Int)) M' = some ((bits n c).map nT, M') := by
      rw [rngL_map]
      refine lcr_if nT (fun k => decide (c / 2 ^ k % 2 = 1)) nT (by simp) fun k hk => ?_
      have hk := List.mem_range.mp hk
      have x7 := ix_pow7 k (by omega) M'
      have dv := div_nnP c (2 ^ k) (Nat.pow_pos (by decide)) M'
      have md : binT .Mod false (nT (c / 2 ^ k)) (.int 2) M' = some (nT (c / 2 ^ k % 2), M') := bin_mod_nT _ 2 (by decide) false M'
      have cq : cmpT .Eq (nT (c / 2 ^ k % 2)) (.int 1) M' = some (decide (c / 2 ^ k % 2 = 1)) := cmp_eq_nT _ 1 M'
      generalize decide (c / 2 ^ k % 2 = 1) = dd at *
      generalize c / 2 ^ k % 2 = e2 at *
      generalize c / 2 ^ k = e1 at *
      generalize 2 ^ k = e0 at *
      simp [stepL, mkL, z7, x7, dv, md, cq]
      split <;> rfl
    have blh : (bits n c).length ≤ n := by
      have := List.length_filter_le (fun k => decide (c / 2 ^ k % 2 = 1)) (List.range n)
      rw [List.length_range] at this; exact this
    have b16 : ((bits n c).map nT).length ≤ 16777216 := by rw [List.length_map]; omega
    have ln : ∀ M, biT .len [.fl ((bits n c).map nT)] M = some (nT (bits n c).length, M) := fun M => by rw [len_fl, List.length_map]
    have cg : cmpT .Gt (nT (bits n c).length) (.int 1) M' = some (decide (1 < (bits n c).length)) := by
      show some (decide ((1 : Int) < ((bits n c).length : Int))) = _
      congr 1
      rw [decide_eq_decide]; omega
    have x8 := ix_pow8 n (by omega) M'
    have cl := cmp_lt_nT c (2 ^ n) M'
    have at1 : M'[M.length]? = some (O.lst (Ls.map jsT)) := by rw [hM]; exact lst_last M _
    have ap := bm_append (x := jsT (bits n c)) at1 (by rw [List.length_map]; omega)
    have ap2 : M'.set M.length (.lst (Ls.map jsT ++ [jsT (bits n c)])) = M ++ [.lst ((Ls ++ [bits n c]).map jsT)] := by rw [hM, lst_set, List.map_append]; rfl
    rw [ap2] at ap
    have ap' : bmT .append (.obj M.length) [.fl ((bits n c).map nT)] M' = _ := ap
    have lf := lof_obj' at1
    have bE : bits n c = (List.range n).filter fun k => decide (c / 2 ^ k % 2 = 1) := rfl
    have stay : ∀ Ls' : List (List Nat), Ls ⊆ Ls' → (2 ≤ (bits n c).length → c < 2 ^ n → bits n c ∈ Ls') → ∀ x, x < c + 1 → x < 2 ^ n → 2 ≤ (bits n x).length → bits n x ∈ Ls' := fun Ls' hs hb x q1 q2 q3 => by
      by_cases e : x = c
      · subst e; exact hb q3 q2
      · exact hs (h2 x (by omega) q2 q3)
    have fin1 : ¬(1 < (bits n c).length ∧ c < 2 ^ n) → ∃ Ls' : List (List Nat), M' = M ++ [O.lst (Ls'.map jsT)] ∧ (∀ js ∈ Ls', ∃ S : Nat → Bool, js = (List.range n).filter S ∧ 2 ≤ js.length) ∧ (∀ x, x < c + 1 → x < 2 ^ n → 2 ≤ (bits n x).length → bits n x ∈ Ls') ∧ Ls'.length ≤ c + 1 := fun hn => ⟨Ls, hM, h1, stay Ls (fun _ h => h) (fun q1 q2 => absurd ⟨by omega, q2⟩ hn), by omega⟩
    have fin2 : 1 < (bits n c).length → ∃ Ls' : List (List Nat), M ++ [O.lst ((Ls ++ [bits n c]).map jsT)] = M ++ [O.lst (Ls'.map jsT)] ∧ (∀ js ∈ Ls', ∃ S : Nat → Bool, js = (List.range n).filter S ∧ 2 ≤ js.length) ∧ (∀ x, x < c + 1 → x < 2 ^ n → 2 ≤ (bits n x).length → bits n x ∈ Ls') ∧ Ls'.length ≤ c + 1 := fun hl => ⟨Ls ++ [bits n c], rfl, fun js hj => by
      rcases List.mem_append.mp hj with h | h
      · exact h1 js h
      · rw [List.mem_singleton.mp h]; exact ⟨_, bE, hl⟩, stay _ (fun _ h => List.mem_append_left _ h) (fun _ _ => by simp), by simp; omega⟩
    generalize (Ls ++ [bits n c]).map jsT = RES at *
    generalize Ls.map jsT = RES0 at *
    generalize (bits n c).map nT = BT at *
    generalize hbl : (bits n c).length = bl at *
    generalize hpw : 2 ^ n = pw at *
    by_cases c1 : 1 < bl
    · rw [decide_eq_true c1] at cg
      by_cases c2 : c < pw
      · rw [decide_eq_true c2] at cl
        obtain ⟨Ls', f1, f2, f3, f4⟩ := fin2 c1
        simp [rgn, wipeE, lc, b16, mkL, ln, cg, z8, x8, cl, lf, ap', truth]
        exact ⟨Ls', by simpa using f1, by simpa using f2, f3, f4⟩
      · rw [decide_eq_false c2] at cl
        obtain ⟨Ls', f1, f2, f3, f4⟩ := fin1 (fun q => c2 q.2)
        simp [rgn, wipeE, lc, b16, mkL, ln, cg, z8, x8, cl, truth]
        exact ⟨Ls', f1, by simpa using f2, f3, f4⟩
    · rw [decide_eq_false c1] at cg
      obtain ⟨Ls', f1, f2, f3, f4⟩ := fin1 (fun q => c1 q.1)
      simp [rgn, wipeE, lc, b16, mkL, ln, cg, truth]
      exact ⟨Ls', f1, by simpa using f2, f3, f4⟩
  · intro σ M' ⟨Ls, hM, ⟨a0, b0, hσ⟩, h1, h2, h3⟩
    subst hσ
    rw [rng_lenT] at h2 h3
    subst hM
    simp
    refine ⟨Ls, ans_m0 (pure_map (f := jsT) (fun js => by unfold jsT pureT; exact pure_map (f := nT) (fun _ => rfl) js) Ls), by simpa using h1, fun S hS => ?_, h3⟩
    have := codeS_lt S n
    have p128 : 2 ^ n ≤ 2 ^ 7 := Nat.pow_le_pow_right (by decide) hn
    rw [← bits_code]
    refine h2 _ (by omega) this ?_
    rw [bits_code, ← card_filter]; exact hS
/-! ### independent by all sets -/
theorem inn_len (P : List (Nat × Nat)) (S : Nat → Bool) : inn P S = (P.filter fun p => S p.1 && S p.2).length := by unfold inn; rw [List.countP_eq_length_filter]
theorem inn_js {n : Nat} {P : List (Nat × Nat)} {S : Nat → Bool} (hp : InN n P) : inn P S = (P.filter fun p => decide (p.1 ∈ (List.range n).filter S) && decide (p.2 ∈ (List.range n).filter S)).length := by
  rw [inn_len]
  congr 1
  apply List.filter_congr
  intro p hm
  obtain ⟨_, h1, h2⟩ := hp p hm
  rw [Bool.eq_iff_iff]
  simp [h1, h2]
def IsLInd (F : Fn) : Prop := ∀ (n : Nat) (P : List (Nat × Nat)) (M : Mem), n ≤ 7 → InN n P → P.length ≤ 1000 → ∃ b : Bool, F [nT n, .fl (P.map npT)] M = some (.bl b, M) ∧ (b = true ↔ PInd n P)
theorem sp_lind (h : Knows G "_law_sets" IsLSets) : IsLInd (runD G Lib._law_independent) := by
  intro n P M hn hp hl
  obtain ⟨F1, l1, k1⟩ := h
  obtain ⟨Ls, e1, q1, q2, q3⟩ := k1 n M hn
  suffices h : Wp (exSs G Lib._law_independent.body (startE Lib._law_independent.N [nT n, .fl (P.map npT)]) M) (fun q => (q = .rt (.bl true) M ∧ PInd n P) ∨ (q = .rt (.bl false) M ∧ ¬PInd n P)) by
    obtain ⟨q, e, h⟩ := h
    rcases h with ⟨rfl, h⟩ | ⟨rfl, h⟩
    · exact ⟨true, run_pure (M1 := []) rfl rfl rfl (by rw [List.append_nil]; exact e), by simp [h]⟩
    · exact ⟨false, run_pure (M1 := []) rfl rfl rfl (by rw [List.append_nil]; exact e), by simp [h]⟩
  generalize hPT : P.map npT = PT at *
  simp only [Lib._law_independent]
  simp [startE, l1, e1]
  refine wp_fr (fun t σ M' => M' = M ∧ (∃ a b, σ = [some (nT n), some (.fl PT), a, b, none]) ∧ ∀ js ∈ Ls.take t, (P.filter fun p => decide (p.1 ∈ js) && decide (p.2 ∈ js)).length + 3 ≤ 2 * js.length) ⟨rfl, ⟨_, _, rfl⟩, fun js h => by simp at h⟩ (fun _ _ _ _ => by simp) ?_ ?_
  · intro t x σ M' hx ⟨hM, ⟨a0, b0, hσ⟩, hall⟩
    subst hσ
    subst hM
    obtain ⟨js, hj, rfl⟩ := map_get hx
    have hjm := List.mem_of_getElem? hj
    obtain ⟨S, hS, h2⟩ := q1 js hjm
    have jE : jsT js = .fl (js.map nT) := rfl
    have jl : js.length ≤ n := by
      rw [hS]
      have := List.length_filter_le S (List.range n)
      rwa [List.length_range] at this
    have lc : lcr G (.nm 4 "_law_pair") (.cons (.and (.cmp .In (.ix (.var 4 "_law_pair") (.int 0)) (.var 2 "_law_joints")) (.one (.cmp .In (.ix (.var 4 "_law_pair") (.int 1)) (.var 2 "_law_joints")))) .nil) (.var 4 "_law_pair") [some (nT n), some (.fl PT), some (.fl (js.map nT)), b0, none] [] PT M' = some ((P.filter fun p => decide (p.1 ∈ js) && decide (p.2 ∈ js)).map npT, M') := by
      rw [← hPT]
      refine lcr_if npT (fun p => decide (p.1 ∈ js) && decide (p.2 ∈ js)) npT (by simp) fun p _ => ?_
      have x0 : ixT (npT p) (.int 0) M' = some (nT p.1) := rfl
      have x1 : ixT (npT p) (.int 1) M' = some (nT p.2) := rfl
      have i1 := in_ns p.1 js M'
      have i2 := in_ns p.2 js M'
      generalize npT p = NP at *
      generalize p.1 = u at *
      generalize p.2 = v at *
      generalize js.map nT = JT at *
      by_cases d1 : u ∈ js
      · rw [decide_eq_true d1] at i1 ⊢
        generalize decide (v ∈ js) = dv at *
        simp [stepL, x0, x1, i1, i2, truth]
        split <;> rfl
      · rw [decide_eq_false d1] at i1 ⊢
        simp [stepL, x0, i1, truth]
    have flh := List.length_filter_le (fun p => decide (p.1 ∈ js) && decide (p.2 ∈ js)) P
    have f16 : ((P.filter fun p => decide (p.1 ∈ js) && decide (p.2 ∈ js)).map npT).length ≤ 16777216 := by rw [List.length_map]; omega
    have ln1 : biT .len [.fl ((P.filter fun p => decide (p.1 ∈ js) && decide (p.2 ∈ js)).map npT)] M' = some (nT (P.filter fun p => decide (p.1 ∈ js) && decide (p.2 ∈ js)).length, M') := by rw [len_fl, List.length_map]
    have ln2 : biT .len [.fl (js.map nT)] M' = some (nT js.length, M') := by rw [len_fl, List.length_map]
    have m1 : binT .Mult false (.int 2) (nT js.length) M' = some (nT (2 * js.length), M') := mul_nT 2 js.length (by decide) (by omega) false M'
    have s1 : binT .Sub false (nT (2 * js.length)) (.int 3) M' = some (.int (((2 * js.length : Nat) : Int) - 3), M') := rfl
    have inE : inn P S = (P.filter fun p => decide (p.1 ∈ js) && decide (p.2 ∈ js)).length := by rw [hS]; exact inn_js hp
    have crd : cardS n S = js.length := by rw [card_filter, ← hS]
    have cg : cmpT .Gt (nT (P.filter fun p => decide (p.1 ∈ js) && decide (p.2 ∈ js)).length) (.int (((2 * js.length : Nat) : Int) - 3)) M' = some (decide (((2 * js.length : Nat) : Int) - 3 < ((P.filter fun p => decide (p.1 ∈ js) && decide (p.2 ∈ js)).length : Int))) := rfl
    have tk := take_snoc hj
    generalize hFP : (P.filter fun p => decide (p.1 ∈ js) && decide (p.2 ∈ js)).map npT = FP at *
    generalize hfl : (P.filter fun p => decide (p.1 ∈ js) && decide (p.2 ∈ js)).length = fl at *
    generalize js.map nT = JT at *
    by_cases hd : ((2 * js.length : Nat) : Int) - 3 < (fl : Int)
    · rw [decide_eq_true hd] at cg
      have no : ¬PInd n P := fun hI => by
        have := hI S (by omega)
        omega
      generalize 2 * js.length = j2 at *
      generalize ((j2 : Nat) : Int) - 3 = j3 at *
      simp [jE, wipeE, lc, f16, mkL, ln1, ln2, m1, s1, cg]
      exact no
    · rw [decide_eq_false hd] at cg
      have nxt : ∀ js' ∈ Ls.take (t + 1), (P.filter fun p => decide (p.1 ∈ js') && decide (p.2 ∈ js')).length + 3 ≤ 2 * js'.length := fun js' hj' => by
        rw [tk] at hj'
        rcases List.mem_append.mp hj' with h | h
        · exact hall js' h
        · rw [List.mem_singleton.mp h, hfl]; omega
      generalize 2 * js.length = j2 at *
      generalize ((j2 : Nat) : Int) - 3 = j3 at *
      simp [jE, wipeE, lc, f16, mkL, ln1, ln2, m1, s1, cg]
      exact nxt
  · intro σ M' ⟨hM, ⟨a0, b0, hσ⟩, hall⟩
    subst hσ
    subst hM
    rw [List.length_map, List.take_length] at hall
    simp
    intro S hS
    have hj := q2 S hS
    have := hall _ hj
    rw [inn_js hp, card_filter]
    exact this
def IsLChosen (F : Fn) : Prop := ∀ (n : Nat) (P : List (Nat × Nat)) (M : Mem), n ≤ 7 → InN n P → P.length ≤ 500 → F [netT n P] M = some (.fl ((grdP n [] P).map npT), M)
theorem grd_y {n : Nat} {acc : List (Nat × Nat)} {q : Nat × Nat} (h : PInd n (acc ++ [q])) (ps : List (Nat × Nat)) : grdP n acc (q :: ps) = grdP n (acc ++ [q]) ps := by
  rw [grdP]
  exact if_pos h
theorem grd_n {n : Nat} {acc : List (Nat × Nat)} {q : Nat × Nat} (h : ¬PInd n (acc ++ [q])) (ps : List (Nat × Nat)) : grdP n acc (q :: ps) = grdP n acc ps := by
  rw [grdP]
  exact if_neg h
theorem grd_snoc (n : Nat) : ∀ (ps acc : List (Nat × Nat)) (p : Nat × Nat), (PInd n (grdP n acc ps ++ [p]) → grdP n acc (ps ++ [p]) = grdP n acc ps ++ [p]) ∧ (¬PInd n (grdP n acc ps ++ [p]) → grdP n acc (ps ++ [p]) = grdP n acc ps)
  | [], acc, p => ⟨fun h => grd_y h [], fun h => grd_n h []⟩
  | q :: ps, acc, p => by
    rw [List.cons_append]
    by_cases h : PInd n (acc ++ [q])
    · rw [grd_y h, grd_y h]; exact grd_snoc n ps _ p
    · rw [grd_n h, grd_n h]; exact grd_snoc n ps _ p
theorem grd_inn {n : Nat} {P : List (Nat × Nat)} (hp : InN n P) (i : Nat) : InN n (grdP n [] (P.take i)) := fun q hq => by
  rcases Peb.grd_sub _ _ q hq with h | h
  · cases h
  · exact hp q (List.mem_of_mem_take h)
theorem sp_lchosen (h : Knows G "_law_independent" IsLInd) : IsLChosen (runD G Lib._law_chosen) := by
  intro n P M hn hp hl
  obtain ⟨F1, l1, k1⟩ := h
  suffices h : Wp (exSs G Lib._law_chosen.body (startE Lib._law_chosen.N [netT n P]) M) (Ans1 (.fl ((grdP n [] P).map npT)) M) from run_wp rfl rfl h
  have x0 : ∀ M, ixT (netT n P) (.int 0) M = some (nT n) := fun _ => rfl
  have x1 : ∀ M, ixT (netT n P) (.int 1) M = some (.tup (P.map npT)) := fun _ => rfl
  generalize netT n P = NN at *
  simp only [Lib._law_chosen]
  simp [startE, mkL, x1]
  refine wp_fr (fun i σ M' => M' = M ++ [.lst ((grdP n [] (P.take i)).map npT)] ∧ ∃ a, σ = [some NN, some (.obj M.length), a]) ⟨rfl, _, rfl⟩ (fun _ _ _ _ => by simp) ?_ ?_
  · intro i x σ M' hx ⟨hM, a0, hσ⟩
    subst hσ
    obtain ⟨p, hp1, rfl⟩ := map_get hx
    have hi := (List.getElem?_eq_some_iff.mp hp1).1
    have gl := Peb.grd_le (n := n) (P.take i) []
    rw [List.length_take] at gl
    simp only [List.length_nil] at gl
    have gi := grd_inn hp i
    have tk := take_snoc hp1
    have gs := grd_snoc n (P.take i) [] p
    rw [← tk] at gs
    generalize grdP n [] (P.take (i + 1)) = Q2 at *
    generalize grdP n [] (P.take i) = Q at *
    have hq : InN n (Q ++ [p]) := fun q hq => by
      rcases List.mem_append.mp hq with h | h
      · exact gi q h
      · rw [List.mem_singleton.mp h]; exact hp p (List.mem_of_getElem? hp1)
    obtain ⟨b, e1, hb⟩ := k1 n (Q ++ [p]) M' hn hq (by simp; omega)
    have at1 : M'[M.length]? = some (O.lst (Q.map npT)) := by rw [hM]; exact lst_last M _
    have lf := lof_obj' at1
    have ad : binT .Add false (.obj M.length) (.fl [npT p]) M' = some (.fl ((Q ++ [p]).map npT), M') := by
      show ((lof M' (.obj M.length)).bind fun a => (lof M' (.fl [npT p])).bind fun b => if a.length + b.length ≤ 16777216 then some (mkL false (a ++ b) M') else none) = _
      rw [lf, lof_fl]
      simp only [Option.bind_some]
      rw [if_pos (by rw [List.length_map]; simp; omega), List.map_append]; rfl
    have ap := bm_append (x := npT p) at1 (by rw [List.length_map]; omega)
    have ap2 : M'.set M.length (.lst (Q.map npT ++ [npT p])) = M ++ [.lst ((Q ++ [p]).map npT)] := by rw [hM, lst_set, List.map_append]; rfl
    rw [ap2] at ap
    have x0' := x0 M'
    cases b with
    | true =>
      rw [gs.1 (hb.mp rfl)]
      generalize (Q ++ [p]).map npT = QT at *
      generalize npT p = PT at *
      simp [x0', mkL, ad, l1, e1, lf, ap]
    | false =>
      rw [gs.2 (fun h => by have := hb.mpr h; cases this)]
      generalize (Q ++ [p]).map npT = QT at *
      generalize Q.map npT = QT0 at *
      generalize npT p = PT at *
      simp [x0', mkL, ad, l1, e1]
      exact hM
  · intro σ M' ⟨hM, a0, hσ⟩
    subst hσ
    subst hM
    rw [List.length_map, List.take_length]
    simp
    have := ans_m0 (M := M) (L := []) (prs_pure (grdP n [] P))
    exact this
end Mi
end L2

/-! The nets that a law draws. -/
namespace L2
namespace Mi
open PySem PySem.Spec PyProof.Rows
variable {G : Sig}
def trN (n : Nat) : Nat → Nat
  | 0 => 0
  | i + 1 => trN n i + (n - (i + 1))
theorem trN_le : ∀ n, n ≤ 9 → ∀ i, i ≤ n → trN n i ≤ 36 := by
  intro n hn i hi
  have key : ∀ n : Fin 10, ∀ i : Fin 10, i.val ≤ n.val → trN n.val i.val ≤ 36 := by decide
  exact key ⟨n, by omega⟩ ⟨i, by omega⟩ hi
def IsLNet (F : Fn) : Prop := ∀ (ns : List Int) (lo hi : Nat) (M : Mem), (∀ k, Sm 1100000 (gt ns k)) → 1 ≤ lo → lo ≤ hi → hi ≤ 9 →
  ∃ (n : Nat) (P : List (Nat × Nat)), F [.sc ns, nT lo, nT hi] M = some (netT n P, M) ∧ lo ≤ n ∧ n ≤ hi ∧ (∀ p ∈ P, p.1 < p.2 ∧ p.2 < n) ∧ P.Nodup ∧ P.length ≤ 36
end Mi
end L2

/-! Spare pairs. -/
namespace L2
namespace Mi
open PySem PySem.Spec PyProof.Rows
open L2.Peb (PInd grdP)
variable {G : Sig}
end Mi
end L2

/-! Buildings: ordered, neighbours. -/
namespace L2
namespace Mi
open PySem PySem.Spec PyProof.Rows
open L2.Peb (PInd grdP ordP rstP nbL AscP Lam Bu)
variable {G : Sig}
/-- naturals in order -/
def srtN (l : List Nat) : List Nat := (sortI (l.map fun k : Nat => (k : Int))).map Int.toNat
theorem sort_nT (l : List Nat) : (sortI (l.map fun k : Nat => (k : Int))).map T.int = (srtN l).map nT := by
  unfold srtN
  rw [List.map_map]
  refine List.map_congr_left fun x hx => ?_
  have hx := (sortI_perm _).mem_iff.mp hx
  obtain ⟨k, _, rfl⟩ := List.mem_map.mp hx
  rfl
theorem srt_perm (l : List Nat) : (srtN l).Perm l := by
  unfold srtN
  have := (sortI_perm (l.map fun k : Nat => (k : Int))).map Int.toNat
  rw [List.map_map] at this
  have e : l.map (Int.toNat ∘ fun k : Nat => (k : Int)) = l := by
    have : (Int.toNat ∘ fun k : Nat => (k : Int)) = id := by funext k; rfl
    rw [this, List.map_id]
  rw [e] at this
  exact this
theorem srt_up (l : List Nat) : (srtN l).Pairwise (· ≤ ·) := by
  unfold srtN
  rw [List.pairwise_map]
  exact (sortI_up _).imp fun h => by omega
theorem eqT_np (p q : Nat × Nat) : eqT (npT p) (npT q) = decide (p = q) := by
  obtain ⟨a, b⟩ := p
  obtain ⟨c, d⟩ := q
  show (eqT (nT a) (nT c) && (eqT (nT b) (nT d) && true)) = _
  rw [eqT_nT, eqT_nT, Bool.and_true, Bool.eq_iff_iff]
  simp [Prod.ext_iff]
theorem okTs_np : ∀ P : List (Nat × Nat), okTs (P.map npT) = true
  | [] => rfl
  | p :: P => by rw [List.map_cons, okTs, okTs_np P]; rfl
theorem depTs_np : ∀ P : List (Nat × Nat), depTs (P.map npT) ≤ 58
  | [] => Nat.zero_le _
  | p :: P => by
    have := depTs_np P
    rw [List.map_cons, depTs]
    have : depT (npT p) = 1 := rfl
    omega
theorem in_tp (p : Nat × Nat) (P : List (Nat × Nat)) (M : Mem) : cmpT .In (npT p) (.tup (P.map npT)) M = some (decide (p ∈ P)) := by
  have e : cmpT .In (npT p) (.tup (P.map npT)) M = if okT (npT p) = true ∧ okTs (P.map npT) = true ∧ depT (npT p) ≤ 60 ∧ depTs (P.map npT) ≤ 59 then some ((P.map npT).any fun z => eqT z (npT p)) else none := rfl
  have d1 : depT (npT p) = 1 := rfl
  have d2 := depTs_np P
  rw [e, if_pos ⟨rfl, okTs_np P, by omega, by omega⟩, List.any_map]
  congr 1
  rw [Bool.eq_iff_iff]
  simp only [List.any_eq_true, Function.comp, eqT_np, decide_eq_true_eq]
  exact ⟨fun ⟨x, hx, h⟩ => h ▸ hx, fun h => ⟨p, h, rfl⟩⟩
theorem nin_tp (p : Nat × Nat) (P : List (Nat × Nat)) (M : Mem) : cmpT .NotIn (npT p) (.tup (P.map npT)) M = some (!decide (p ∈ P)) := by
  have : cmpT .NotIn (npT p) (.tup (P.map npT)) M = (cmpT .In (npT p) (.tup (P.map npT)) M).map not := rfl
  rw [this, in_tp p P M]; rfl
end Mi
end L2

/-! Buildings: splitting, last_step, building. -/
namespace L2
namespace Mi
open PySem PySem.Spec PyProof.Rows
open L2.Peb (PInd grdP ordP rstP nbL AscP Lam Bu)
variable {G : Sig}
/-! ### steps as values -/
end Mi
end L2

/-! Buildings: building. -/
namespace L2
namespace Mi
open PySem PySem.Spec PyProof.Rows
open L2.Peb (PInd grdP ordP rstP nbL AscP Lam Bu)
variable {G : Sig}
end Mi
end L2

/-! Buildings: _law_builds. -/
namespace L2
namespace Mi
open PySem PySem.Spec PyProof.Rows
open L2.Peb (PInd grdP ordP rstP nbL AscP Lam Bu doS runS isB)
variable {G : Sig}
/-! ### len(set(xs)) -/
def lsetT (t : T) (M : Mem) : Option T := (sof M t).bind fun ts => if ts.length < 64 then (match intsOf ts with
    | some ns => some (.int (ddp ns).length)
    | none => (tupsOf ts).map fun ks => .int (ddp ks).length) else none
@[simp] theorem e_lset (a : ME) (σ : En) (M : Mem) : evE G (.lset a) σ M = (evE G a σ M).bind fun p => (lsetT p.1 p.2).map fun t => (t, p.2) := by
  rw [evE]
  congr 1
  funext p
  unfold lsetT
  cases sof p.2 p.1 with
  | none => rfl
  | some ts =>
    simp only [Option.bind_some]
    split
    · cases intsOf ts with
      | some ns => rfl
      | none =>
        simp only
        cases tupsOf ts <;> rfl
    · rfl
/-! ### the memory of a building -/
structure BldM (M M' : Mem) (J : List Nat) (P : List (Nat × Nat)) (po : Nat) : Prop where
  pre : M'.take M.length = M
  jn : M'[M.length]? = some (O.lst (J.map nT))
  pr : M'[po]? = some (O.lst (P.map npT))
  lt : M.length < po
section
variable {M M' : Mem} {J : List Nat} {P : List (Nat × Nat)} {po : Nat}
theorem BldM.app (h : BldM M M' J P po) (o : O) : BldM M (M' ++ [o]) J P po := by
  have l1 : M.length < M'.length := (List.getElem?_eq_some_iff.mp h.jn).1
  have l2 : po < M'.length := (List.getElem?_eq_some_iff.mp h.pr).1
  exact ⟨by rw [List.take_append_of_le_length (by omega)]; exact h.pre, by rw [List.getElem?_append_left l1]; exact h.jn, by rw [List.getElem?_append_left l2]; exact h.pr, h.lt⟩
theorem BldM.behind (h : BldM M M' J P po) : ∃ L, M' = M ++ L := ⟨M'.drop M.length, by
  have := List.take_append_drop M.length M'
  rw [h.pre] at this
  exact this.symm⟩
end
/-! ### the parts of a step -/
end Mi
end L2

/-! Buildings: _law_builds, the walk. -/
namespace L2
namespace Mi
open PySem PySem.Spec PyProof.Rows
open L2.Peb (PInd grdP ordP rstP nbL AscP Lam Bu doS runS isB)
variable {G : Sig}
end Mi
end L2

/-! Covers: implied_pairs, cover. -/
namespace L2
namespace Mi
open PySem PySem.Spec PyProof.Rows
open L2.Peb (PInd grdP ordP AscP Imp CW CovOk sumC inX)
variable {G : Sig}
end Mi
end L2

/-! Covers: cover. -/
namespace L2
namespace Mi
open PySem PySem.Spec PyProof.Rows
open L2.Peb (PInd grdP ordP AscP Imp CW CovOk sumC inX)
variable {G : Sig}
/-- a tuple of joints -/
def tnT (l : List Nat) : T := .tup (l.map nT)
structure CvM (M M' : Mem) (D : List (List Nat)) (vs : List T) : Prop where
  pre : M'.take M.length = M
  dc : M'[M.length]? = some (O.dic true (D.map tnT) vs)
end Mi
end L2

/-! A load that is carried drives nothing. The program's forces. -/
namespace L2
namespace Mi
open PySem PySem.Spec PyProof.Rows
variable {G : Sig}
/-! ### the program's forces -/
end Mi
end L2

/-! The program's judging of tensions. -/
namespace L2
namespace Mi
open PySem PySem.Spec PyProof.Rows
variable {G : Sig}
/-! ### balance -/
end Mi
end L2

/-! Covers: sums, is_cover, _law_covers. -/
namespace L2
namespace Mi
open PySem PySem.Spec PyProof.Rows
open L2.Peb (PInd grdP ordP AscP Imp CW CovOk sumC inX)
variable {G : Sig}
theorem intsOf_mapC {α : Type} (f : α → Int) : ∀ l : List α, intsOf (l.map fun x => T.int (f x)) = some (l.map f)
  | [] => rfl
  | x :: l => by
    rw [List.map_cons]
    show (intsOf (l.map fun x => T.int (f x))).map (f x :: ·) = _
    rw [intsOf_mapC f l]; rfl
theorem sum_map {α : Type} (f : α → Int) (l : List α) (M : Mem) : biT .sum [.fl (l.map fun x => T.int (f x))] M = some (.int (l.map f).sum, M) := by
  have : biT .sum [.fl (l.map fun x => T.int (f x))] M = (intsOf (l.map fun x => T.int (f x))).map fun ns => (T.int ns.sum, M) := rfl
  rw [this, intsOf_mapC]; rfl
/-! ### is_set -/
/-! ### both judges -/
end Mi
end L2

/-! Covers: _law_covers. -/
namespace L2
namespace Mi
open PySem PySem.Spec PyProof.Rows
open L2.Peb (PInd grdP ordP AscP Imp CW CovOk sumC inX)
variable {G : Sig}
theorem ddp_nd {α : Type} [DecidableEq α] : ∀ l : List α, (ddp l).Nodup ∧ ∀ x, x ∈ ddp l ↔ x ∈ l
  | [] => ⟨by simp [ddp], fun x => by simp [ddp]⟩
  | a :: l => by
    obtain ⟨h1, h2⟩ := ddp_nd l
    unfold ddp
    split
    · rename_i hm
      exact ⟨h1, fun x => by rw [h2]; simp; intro e; rw [e]; exact hm⟩
    · rename_i hm
      exact ⟨List.nodup_cons.mpr ⟨fun q => hm ((h2 a).mp q), h1⟩, fun x => by simp [h2]⟩
/-- each once, in order -/
def srtD (X : List Nat) : List Nat := (sortI (ddp (X.map fun k : Nat => (k : Int)))).map Int.toNat
theorem srtD_int (X : List Nat) : (sortI (ddp (X.map fun k : Nat => (k : Int)))).map T.int = (srtD X).map nT := by
  unfold srtD
  rw [List.map_map]
  refine List.map_congr_left fun x hx => ?_
  have hx := ((ddp_nd _).2 x).mp ((sortI_perm _).mem_iff.mp hx)
  obtain ⟨k, _, rfl⟩ := List.mem_map.mp hx
  rfl
theorem srtD_mem (X : List Nat) (k : Nat) : k ∈ srtD X ↔ k ∈ X := by
  unfold srtD
  rw [List.mem_map]
  constructor
  · rintro ⟨x, hx, rfl⟩
    have hx := ((ddp_nd _).2 x).mp ((sortI_perm _).mem_iff.mp hx)
    obtain ⟨k, hk, rfl⟩ := List.mem_map.mp hx
    exact hk
  · intro h
    exact ⟨(k : Int), (sortI_perm _).mem_iff.mpr (((ddp_nd _).2 _).mpr (List.mem_map.mpr ⟨k, h, rfl⟩)), rfl⟩
theorem srtD_up (X : List Nat) : (srtD X).Pairwise (· < ·) := by
  have h0 : ∀ x ∈ sortI (ddp (X.map fun k : Nat => (k : Int))), 0 ≤ x := fun x hx => by
    have hx := ((ddp_nd _).2 x).mp ((sortI_perm _).mem_iff.mp hx)
    obtain ⟨k, _, rfl⟩ := List.mem_map.mp hx
    omega
  have h1 := sortI_up (ddp (X.map fun k : Nat => (k : Int)))
  have h2 : (sortI (ddp (X.map fun k : Nat => (k : Int)))).Nodup := (sortI_perm _).nodup_iff.mpr (ddp_nd _).1
  unfold srtD
  rw [List.pairwise_map]
  have h3 := List.Pairwise.and h1 h2
  refine List.Pairwise.imp_of_mem (fun {a b} ha hb q => ?_) h3
  have := h0 a ha
  have := h0 b hb
  have := q.1
  have := q.2
  omega
theorem srtD_eq (X : List Nat) : X = srtD X ↔ X.Pairwise (· < ·) := by
  constructor
  · intro h; rw [h]; exact srtD_up X
  · intro h
    have nd1 : X.Nodup := h.imp fun q => by omega
    have nd2 : (srtD X).Nodup := (srtD_up X).imp fun q => by omega
    have p : X.Perm (srtD X) := (List.perm_ext_iff_of_nodup nd1 nd2).mpr fun k => (srtD_mem X k).symm
    exact p.eq_of_pairwise (le := fun a b => a ≤ b) (fun a b _ _ h1 h2 => Nat.le_antisymm h1 h2) (h.imp fun q => Nat.le_of_lt q) ((srtD_up X).imp fun q => Nat.le_of_lt q)
end Mi
end L2

/-! fewest: what it takes. -/
namespace L2
namespace Mi
open PySem PySem.Spec PyProof.Rows
open L2.Peb (PInd grdP PInv tkG Ofr)
variable {G : Sig}
theorem fw_nx {s : MS} {ss : List MS} {σ σ' : En} {M M' : Mem} {Q : R → Prop} (h : exS G s σ M = some (.nx σ' M')) (k : Wp (exSs G ss σ' M') Q) : Wp (exSs G (s :: ss) σ M) Q := by
  rw [xs_cons, h]; exact k
def offT (o : Ofr) : T := .tup [nT o.1.1, nT o.1.2, nT o.2]
/-- the offers, by their positions -/
def fO (os : List Ofr) (a : Nat) : Nat × Nat := (os.getD a ((0, 0), 0)).1
def cO (os : List Ofr) (a : Nat) : Nat := (os.getD a ((0, 0), 0)).2
/-- the positions in the order of the costs -/
def asO (os : List Ofr) : List Nat := (List.range os.length).mergeSort fun a b => decide (cO os a ≤ cO os b)
theorem asO_perm (os : List Ofr) : (asO os).Perm (List.range os.length) := List.mergeSort_perm _ _
theorem asO_lt {os : List Ofr} {a : Nat} (h : a ∈ asO os) : a < os.length := List.mem_range.mp ((asO_perm os).mem_iff.mp h)
theorem asO_len (os : List Ofr) : (asO os).length = os.length := by rw [(asO_perm os).length_eq, List.length_range]
theorem asO_nd (os : List Ofr) : (asO os).Nodup := (asO_perm os).nodup_iff.mpr List.nodup_range
theorem asO_srt (os : List Ofr) : (asO os).Pairwise fun a b => cO os a ≤ cO os b := by
  have := List.pairwise_mergeSort (le := fun a b => decide (cO os a ≤ cO os b)) (fun a b c h1 h2 => by simp at h1 h2 ⊢; omega) (fun a b => by simp; omega) (List.range os.length)
  exact this.imp fun h => by simpa using h
theorem keys3_off : ∀ os : List Ofr, keys3 (os.map offT) = some (os.map fun o => (o.2 : Int))
  | [] => rfl
  | o :: os => by
    rw [List.map_cons, keys3, keys3_off os]; rfl
theorem srtAt_off (os : List Ofr) : srtAt (os.map fun o => (o.2 : Int)) = (asO os).map fun a : Nat => (a : Int) := by
  unfold srtAt asO
  rw [List.length_map]
  have h := List.map_mergeSort (r := fun a b : Nat => decide (cO os a ≤ cO os b)) (s := fun a b : Int => decide ((os.map fun o => (o.2 : Int)).getD a.toNat 0 ≤ (os.map fun o => (o.2 : Int)).getD b.toNat 0)) (f := fun a : Nat => (a : Int)) (l := List.range os.length) (fun a ha b hb => by
    have g : ∀ k, k ∈ List.range os.length → (os.map fun o => (o.2 : Int)).getD k 0 = (cO os k : Int) := fun k hk => by
      have hk := List.mem_range.mp hk
      unfold cO
      rw [List.getD_eq_getElem?_getD, List.getD_eq_getElem?_getD, List.getElem?_map, List.getElem?_eq_getElem hk]; rfl
    rw [Int.toNat_natCast, Int.toNat_natCast, g a ha, g b hb, decide_eq_decide]
    omega)
  exact h.symm
def lamF : Str := "fewest.<locals>.<lambda>"
/-- what fewest tells -/
noncomputable def gF (n : Nat) (P : List (Nat × Nat)) (os : List Ofr) : List Nat := tkG n (fO os) (grdP n [] P) (asO os)
noncomputable def fewT (n : Nat) (P : List (Nat × Nat)) (os : List Ofr) : T := if 1 < n ∧ (((grdP n [] P).length + (gF n P os).length : Nat) : Int) < 2 * n - 3 then .non else .fl ((srtN (gF n P os)).map nT)
theorem tk_y {n : Nat} {f : Nat → Nat × Nat} {acc : List (Nat × Nat)} {b : Nat} (h : PInd n (acc ++ [f b])) (as : List Nat) : tkG n f acc (b :: as) = b :: tkG n f (acc ++ [f b]) as := by
  rw [tkG]
  exact if_pos h
theorem tk_n {n : Nat} {f : Nat → Nat × Nat} {acc : List (Nat × Nat)} {b : Nat} (h : ¬PInd n (acc ++ [f b])) (as : List Nat) : tkG n f acc (b :: as) = tkG n f acc as := by
  rw [tkG]
  exact if_neg h
theorem tk_0 (n : Nat) (f : Nat → Nat × Nat) (acc : List (Nat × Nat)) : tkG n f acc [] = [] := rfl
theorem tkG_snoc (n : Nat) (f : Nat → Nat × Nat) : ∀ (as : List Nat) (acc : List (Nat × Nat)) (a : Nat), (PInd n ((acc ++ (tkG n f acc as).map f) ++ [f a]) → tkG n f acc (as ++ [a]) = tkG n f acc as ++ [a]) ∧ (¬PInd n ((acc ++ (tkG n f acc as).map f) ++ [f a]) → tkG n f acc (as ++ [a]) = tkG n f acc as)
  | [], acc, a => by
    rw [tk_0, List.map_nil, List.append_nil, List.nil_append]
    exact ⟨fun h => by rw [tk_y h, tk_0], fun h => by rw [tk_n h, tk_0]⟩
  | b :: as, acc, a => by
    rw [List.cons_append]
    by_cases h : PInd n (acc ++ [f b])
    · rw [tk_y h, tk_y h]
      have ih := tkG_snoc n f as (acc ++ [f b]) a
      rw [List.map_cons]
      have e : acc ++ f b :: List.map f (tkG n f (acc ++ [f b]) as) = acc ++ [f b] ++ List.map f (tkG n f (acc ++ [f b]) as) := by simp
      rw [e]
      exact ⟨fun q => by rw [ih.1 q]; rfl, fun q => by rw [ih.2 q]⟩
    · rw [tk_n h, tk_n h]
      exact tkG_snoc n f as acc a
theorem len_lst {i : Nat} {ts : List T} {M : Mem} (h : M[i]? = some (O.lst ts)) : biT .len [.obj i] M = some (nT ts.length, M) := by
  exact len_sof (sof_obj h)
/-- the pairs of the net, taken one by one -/
theorem lcr_takeF (hc : HasPeb G) {F : Fn} (lF : ((G.cls.lookup ("Pebbles" : Str)).bind fun C => C.meths.lookup ("take" : Str)) = some F) (kF : IsTakeP F) {n o a : Nat} {hs : List Nat} {z0 z1 z2 z3 z5 z6 z7 z9 : Option T} (hn : n ≤ 100) : ∀ (ps : List (Nat × Nat)) (M : Mem) (acc : List (Nat × Nat)) (fr : Nat → Nat) (H : Nat → List Nat), PS M o a hs n fr H → PInv n acc fr H → InN n ps →
    ∃ L M' fr' H', lcr G (.nm 8 "pair") (.cons (.mcall "Pebbles" (.var 4 "pebbles") "take" (.cons (.ix (.var 8 "pair") (.int 0)) (.cons (.ix (.var 8 "pair") (.int 1)) .nil))) .nil) (.var 8 "pair") [z0, z1, z2, z3, some (.obj o), z5, z6, z7, none, z9] [] (ps.map npT) M = some (L.map npT, M') ∧ acc ++ L = grdP n acc ps ∧ Frm M M' a hs ∧ PS M' o a hs n fr' H' ∧ PInv n (acc ++ L) fr' H'
  | [], M, acc, fr, H, P, I, _ => ⟨[], M, fr, H, by rw [List.map_nil, lcr_nil0], by rw [List.append_nil]; rfl, Frm.refl .., P, by rw [List.append_nil]; exact I⟩
  | p :: ps, M, acc, fr, H, P, I, hp => by
    obtain ⟨h1, h2, h3⟩ := hp p (by simp)
    obtain ⟨M1, fr1, H1, b, e, P1, F1, hb, I1⟩ := kF M o a hs n acc fr H p.1 p.2 P I hn h1 h2 h3
    have ok := P.ok "take" (by rfl)
    have step : stepL G (.nm 8 "pair") (.cons (.mcall "Pebbles" (.var 4 "pebbles") "take" (.cons (.ix (.var 8 "pair") (.int 0)) (.cons (.ix (.var 8 "pair") (.int 1)) .nil))) .nil) (.var 8 "pair") [z0, z1, z2, z3, some (.obj o), z5, z6, z7, none, z9] (npT p) M = some (if b = true then [npT p] else [], M1) := by
      have x0 : ixT (npT p) (.int 0) M = some (nT p.1) := rfl
      have x1 : ixT (npT p) (.int 1) M = some (nT p.2) := rfl
      generalize npT p = NP at *
      generalize p.1 = u at *
      generalize p.2 = v at *
      simp [stepL, ok, lF, x0, x1, e, truth]
      split <;> rfl
    rw [List.map_cons, lcr_cons0, step]
    simp only [Option.bind_some]
    have hps : InN n ps := fun q hq => hp q (List.mem_cons_of_mem _ hq)
    have pp : acc ++ [(p.1, p.2)] = acc ++ [p] := rfl
    rw [pp] at hb I1
    cases b with
    | true =>
      rw [if_pos rfl] at I1
      obtain ⟨L, M', fr', H', q1, q2, q3, q4, q5⟩ := lcr_takeF hc lF kF (z0 := z0) (z1 := z1) (z2 := z2) (z3 := z3) (z5 := z5) (z6 := z6) (z7 := z7) (z9 := z9) hn ps M1 (acc ++ [p]) fr1 H1 P1 I1 hps
      refine ⟨p :: L, M', fr', H', by rw [q1]; rfl, ?_, F1.trans q3, q4, by rw [List.append_cons]; exact q5⟩
      rw [grdP, if_pos (hb.mp rfl), ← q2]
      simp
    | false =>
      rw [if_neg (by simp)] at I1
      obtain ⟨L, M', fr', H', q1, q2, q3, q4, q5⟩ := lcr_takeF hc lF kF (z0 := z0) (z1 := z1) (z2 := z2) (z3 := z3) (z5 := z5) (z6 := z6) (z7 := z7) (z9 := z9) hn ps M1 acc fr1 H1 P1 I1 hps
      refine ⟨L, M', fr', H', by rw [q1]; rfl, ?_, F1.trans q3, q4, q5⟩
      rw [grdP, if_neg (fun h => by have := hb.mpr h; cases this), ← q2]
theorem hasTab_of {q : Str} {M M' : Mem} (h : hasTab q M = true) (k : ∀ i : Nat, M[i]? = some (O.tab q) → M'[i]? = some (O.tab q)) : hasTab q M' = true := by
  obtain ⟨i, hi⟩ := hasTab_at h
  unfold hasTab
  refine List.any_eq_true.mpr ⟨_, List.mem_of_getElem? (k i hi), ?_⟩
  simp
def IsFewest (F : Fn) : Prop := ∀ (n : Nat) (P : List (Nat × Nat)) (os : List Ofr) (M : Mem) (i : Nat), InN n P → n ≤ 100 → P.length ≤ 1000 → (∀ o ∈ os, o.1.1 ≠ o.1.2 ∧ o.1.1 < n ∧ o.1.2 < n) → os.length ≤ 60 → M[i]? = some (O.lst (os.map offT)) → hasTab "fewest.<locals>.<lambda>" M = true →
  F [netT n P, .obj i] M = some (fewT n P os, M)
theorem sp_fewest (hc : HasPeb G) (hi : KnowsI G "Pebbles" IsPInit) (ht : KnowsM G "Pebbles" "take" IsTakeP) : IsFewest (runD G Lib.fewest) := by
  intro n P os M i hp hn hl ho hol hM hT
  obtain ⟨F1, l1, k1⟩ := hi
  obtain ⟨F2, l2, k2⟩ := ht
  obtain ⟨L, hs, e1, PP, hx⟩ := k1 M n hn
  have hiM := (List.getElem?_eq_some_iff.mp hM).1
  suffices h : Wp (exSs G Lib.fewest.body (startE Lib.fewest.N [netT n P, .obj i]) M) (fun q => ∃ L, q = .rt (fewT n P os) (M ++ L)) by
    obtain ⟨q, e, L, rfl⟩ := h
    refine run_pure (M1 := L) rfl rfl ?_ e
    unfold fewT
    split
    · rfl
    · unfold pureT; exact pure_map (f := nT) (fun _ => rfl) _
  let z0 : Option T := some (netT n P)
  let zi : Option T := some (.obj i)
  let zn : Option T := some (nT n)
  let zp : Option T := some (.tup (P.map npT))
  let ze : Option T := some (.obj M.length)
  obtain ⟨Q, M1, fr1, H1, e2, e3, e4, P1, I1⟩ := lcr_takeF (z0 := z0) (z1 := zi) (z2 := zn) (z3 := zp) (z5 := none) (z6 := none) (z7 := none) (z9 := none) hc l2 k2 hn P (M ++ L) [] _ _ PP (Peb.inv0 n) hp
  rw [List.nil_append] at e3 I1
  subst e3
  have keep1 : ∀ x, x < M.length → M1[x]? = M[x]? := fun x h => by
    rw [e4.2 x (by omega) (fun hm => by have := hx x hm; omega), List.getElem?_append_left h]
  have l1l : M1.length = (M ++ L).length := e4.1
  have hlt : M.length ≤ M1.length := by rw [l1l, List.length_append]; omega
  have ah : M.length + 1 < M1.length := (List.getElem?_eq_some_iff.mp P1.fr).1
  have hsl : ∀ x ∈ hs, x < M1.length := fun x hm => by
    obtain ⟨k, hk⟩ := List.getElem?_of_mem hm
    exact (List.getElem?_eq_some_iff.mp (P1.he k x hk)).1
  have x0 : ixT (netT n P) (.int 0) M = some (nT n) := rfl
  simp only [Lib.fewest]
  refine fw_nx (σ' := [z0, zi, zn, zp, none, none, none, none, none, none]) (M' := M) ?_ ?_
  · have un : ∀ σ : En, asgT (.tp (.cons (.nm 2 "n") (.cons (.nm 3 "pairs") .nil))) (netT n P) σ = asgT (.tp (.cons (.nm 2 "n") (.cons (.nm 3 "pairs") .nil))) (.tup [nT n, .tup (P.map npT)]) σ := fun σ => rfl
    simp only [z0, zi, zn, zp]
    generalize netT n P = NT at *
    generalize P.map npT = PT at *
    simp [startE, un]
  refine fw_nx (σ' := [z0, zi, zn, zp, ze, none, none, none, none, none]) (M' := M ++ L) ?_ ?_
  · have nn : zn = some (nT n) := rfl
    have ee : ze = some (.obj M.length) := rfl
    clear_value z0 zi zp
    simp [nn, ee, l1, e1]
  have len0 : biT .len [.fl ((grdP n [] P).map npT)] M1 = some (nT (grdP n [] P).length, M1) := by rw [len_fl, List.length_map]
  have gl := Peb.grd_le (n := n) P []
  simp only [List.length_nil, Nat.zero_add] at gl
  have q16 : ((grdP n [] P).map npT).length ≤ 16777216 := by rw [List.length_map]; omega
  refine fw_nx (σ' := [z0, zi, zn, zp, ze, some (nT (grdP n [] P).length), none, none, none, none]) (M' := M1) ?_ ?_
  · have sp : sof (M ++ L) (.tup (P.map npT)) = some (P.map npT) := rfl
    have gp : grdOf (.tup (P.map npT)) (P.map npT) = [] := rfl
    have pp : zp = some (.tup (P.map npT)) := rfl
    have ee : ze = some (.obj M.length) := rfl
    clear_value z0 zi zn ze zp
    generalize (grdP n [] P).map npT = GT at *
    generalize P.map npT = PT at *
    subst pp
    subst ee
    simp [sp, gp, wipeE, e2, q16, mkL, len0]
  refine fw_nx (σ' := [z0, zi, zn, zp, ze, some (nT (grdP n [] P).length), some (.obj M1.length), none, none, none]) (M' := M1 ++ [O.lst []]) ?_ ?_
  · simp [mkL]
  have ot : M1[i]? = some (O.lst (os.map offT)) := by rw [keep1 i hiM]; exact hM
  have hT1 : hasTab "fewest.<locals>.<lambda>" (M1 ++ [O.lst []]) = true := hasTab_of hT fun x hx => by
    have hlx := (List.getElem?_eq_some_iff.mp hx).1
    rw [List.getElem?_append_left (by omega), keep1 x hlx]; exact hx
  have lof1 : lof (M1 ++ [O.lst []]) (.obj i) = some (os.map offT) := lof_obj' (by rw [List.getElem?_append_left (by omega)]; exact ot)
  have ev : evI G (.over (.sko "fewest.<locals>.<lambda>" 1 "offers" (.bi .len (.cons (.var 1 "offers") .nil)))) [z0, zi, zn, zp, ze, some (nT (grdP n [] P).length), some (.obj M1.length), none, none, none] (M1 ++ [O.lst []]) = some (((asO os).map nT, []), M1 ++ [O.lst []]) := by
    have ln : biT .len [.obj i] (M1 ++ [O.lst []]) = some (nT os.length, M1 ++ [O.lst []]) := by
      have := len_lst (M := M1 ++ [O.lst []]) (i := i) (ts := os.map offT) (by rw [List.getElem?_append_left (by omega)]; exact ot)
      rw [List.length_map] at this
      exact this
    have sk : skoT "fewest.<locals>.<lambda>" (nT os.length, M1 ++ [O.lst []]) (some (some (.obj i))) = some (.fl ((asO os).map nT), M1 ++ [O.lst []]) := by
      show ((lof (M1 ++ [O.lst []]) (.obj i)).bind fun ts => (keys3 ts).bind fun ys => if hasTab "fewest.<locals>.<lambda>" (M1 ++ [O.lst []]) = true ∧ ts.length ≤ 16777216 ∧ (os.length : Int) = ts.length then some (T.fl ((srtAt ys).map T.int), M1 ++ [O.lst []]) else none) = _
      rw [lof1]
      simp only [Option.bind_some]
      rw [keys3_off]
      simp only [Option.bind_some]
      rw [if_pos ⟨hT1, by rw [List.length_map]; omega, by rw [List.length_map]⟩, srtAt_off, List.map_map]
      rfl
    have sfl : sof (M1 ++ [O.lst []]) (.fl ((asO os).map nT)) = some ((asO os).map nT) := rfl
    have gfl : grdOf (.fl ((asO os).map nT)) ((asO os).map nT) = [] := rfl
    have ii : zi = some (.obj i) := rfl
    clear_value z0 zn zp ze zi
    subst ii
    generalize (asO os).map nT = AT at *
    simp [ln, sk, sfl, gfl]
  rw [xs_cons, exS_for, ev]
  simp only [Option.bind_some]
  let f := fO os
  let N0 := grdP n [] P
  have tl : ∀ t, (tkG n f N0 ((asO os).take t)).length ≤ 60 := fun t => by
    have := (Peb.tkG_sub (n := n) (f := f) ((asO os).take t) N0).length_le
    rw [List.length_take, asO_len] at this
    omega
  refine wp_fr (fun t σ M' => ∃ (fr' : Nat → Nat) (H' : Nat → List Nat), M'.length = M1.length + 1 ∧ (∀ x, x < M.length → M'[x]? = M[x]?) ∧ M'[M1.length]? = some (O.lst ((tkG n f N0 ((asO os).take t)).map nT)) ∧ PS M' M.length (M.length + 1) hs n fr' H' ∧ PInv n (N0 ++ (tkG n f N0 ((asO os).take t)).map f) fr' H' ∧
    ∃ a, σ = [z0, zi, zn, zp, ze, some (nT N0.length), some (.obj M1.length), a, none, none]) ⟨fr1, H1, by simp, fun x h => by rw [List.getElem?_append_left (by omega)]; exact keep1 x h, by simp [tkG], P1.app _, by simpa [tkG] using I1, _, rfl⟩ (fun _ _ _ _ => by simp) ?_ ?_
  · intro t x σ M' hx0 ⟨fr', H', hlen, hK, hT', hP, hI, a0, hσ⟩
    subst hσ
    obtain ⟨a, ha, rfl⟩ := map_get hx0
    have hat := List.mem_of_getElem? ha
    have hal := asO_lt hat
    have hoa : os[a]? = some os[a] := List.getElem?_eq_getElem hal
    have fa : f a = os[a].1 := by show (os.getD a _).1 = _; rw [List.getD_eq_getElem?_getD, hoa]; rfl
    obtain ⟨h1, h2, h3⟩ := ho os[a] (List.getElem_mem hal)
    obtain ⟨M2, fr2, H2, b, e, P2, F2', hb, I2⟩ := k2 M' M.length (M.length + 1) hs n (N0 ++ (tkG n f N0 ((asO os).take t)).map f) fr' H' os[a].1.1 os[a].1.2 hP hI hn h1 h2 h3
    have pe : ((os[a].1.1, os[a].1.2) : Nat × Nat) = f a := by rw [fa]
    rw [pe] at hb I2
    have ok := hP.ok "take" (by rfl)
    have ix1 : ixT (.obj i) (nT a) M' = some (offT os[a]) := by
      unfold nT
      rw [ix_obj (show M'[i]? = some (O.lst (os.map offT)) by rw [hK i hiM]; exact hM), atI_n, List.getElem?_map, hoa]; rfl
    have j0 : ixT (offT os[a]) (.int 0) M' = some (nT os[a].1.1) := rfl
    have j1 : ixT (offT os[a]) (.int 1) M' = some (nT os[a].1.2) := rfl
    have ts := tkG_snoc n f ((asO os).take t) N0 a
    rw [← take_snoc ha] at ts
    have nK : M1.length ∉ hs := fun hm => absurd (hsl _ hm) (Nat.lt_irrefl _)
    have M2l : M2.length = M1.length + 1 := by rw [F2'.1]; exact hlen
    have M2K : ∀ x, x < M.length → M2[x]? = M[x]? := fun x h => by rw [F2'.2 x (by omega) (fun hm => by have := hx x hm; omega)]; exact hK x h
    have M2T : M2[M1.length]? = some (O.lst ((tkG n f N0 ((asO os).take t)).map nT)) := by rw [F2'.2 M1.length (by omega) nK]; exact hT'
    have ap := bm_append (x := nT a) M2T (by rw [List.length_map]; have := tl t; omega)
    have lf := lof_obj' M2T
    have zie : zi = some (.obj i) := rfl
    have zee : ze = some (.obj M.length) := rfl
    have zne : zn = some (nT n) := rfl
    cases b with
    | true =>
      have hpi := hb.mp rfl
      replace ts := ts.1 hpi
      rw [if_pos rfl] at I2
      have fin : ∃ (fr' : Nat → Nat) (H' : Nat → List Nat), (M2.set M1.length (.lst ((tkG n f N0 ((asO os).take t)).map nT ++ [nT a]))).length = M1.length + 1 ∧ (∀ x, x < M.length → (M2.set M1.length (.lst ((tkG n f N0 ((asO os).take t)).map nT ++ [nT a])))[x]? = M[x]?) ∧ (M2.set M1.length (.lst ((tkG n f N0 ((asO os).take t)).map nT ++ [nT a])))[M1.length]? = some (O.lst ((tkG n f N0 ((asO os).take (t + 1))).map nT)) ∧ PS (M2.set M1.length (.lst ((tkG n f N0 ((asO os).take t)).map nT ++ [nT a]))) M.length (M.length + 1) hs n fr' H' ∧ PInv n (N0 ++ (tkG n f N0 ((asO os).take (t + 1))).map f) fr' H' := by
        refine ⟨fr2, H2, by rw [List.length_set]; exact M2l, fun x h => by rw [List.getElem?_set_ne (by omega)]; exact M2K x h, by rw [List.getElem?_set_self (by omega), ts, List.map_append]; rfl, ?_, ?_⟩
        · refine ⟨by rw [List.getElem?_set_ne (by omega)]; exact P2.ob, by rw [List.getElem?_set_ne (by omega)]; exact P2.fr, P2.hl, P2.hd, P2.ao, P2.oh, P2.ah, fun k h hk => ?_⟩
          rw [List.getElem?_set_ne (fun q => nK (by rw [q]; exact List.mem_of_getElem? hk))]
          exact P2.he k h hk
        · rw [ts, List.map_append, ← List.append_assoc]; exact I2
      clear_value z0 zp f N0 zi ze zn
      subst zie; subst zee; subst zne
      generalize (tkG n f N0 ((asO os).take t)).map nT = TL at *
      generalize offT os[a] = OA at *
      generalize nT a = AT at *
      simp [ok, l2, ix1, j0, j1, e, truth, lf, ap]
      obtain ⟨fr', H', f1, f2, f3, f4, f5⟩ := fin
      exact ⟨M2l, f2, f3, fr', H', f4, f5⟩
    | false =>
      have hpi : ¬PInd n ((N0 ++ (tkG n f N0 ((asO os).take t)).map f) ++ [f a]) := fun h => by have := hb.mpr h; cases this
      replace ts := ts.2 hpi
      rw [if_neg (by simp)] at I2
      have fin : ∃ (fr' : Nat → Nat) (H' : Nat → List Nat), M2.length = M1.length + 1 ∧ (∀ x, x < M.length → M2[x]? = M[x]?) ∧ M2[M1.length]? = some (O.lst ((tkG n f N0 ((asO os).take (t + 1))).map nT)) ∧ PS M2 M.length (M.length + 1) hs n fr' H' ∧ PInv n (N0 ++ (tkG n f N0 ((asO os).take (t + 1))).map f) fr' H' :=
        ⟨fr2, H2, M2l, M2K, by rw [ts]; exact M2T, P2, by rw [ts]; exact I2⟩
      clear_value z0 zp f N0 zi ze zn
      subst zie; subst zee; subst zne
      generalize offT os[a] = OA at *
      generalize nT a = AT at *
      simp [ok, l2, ix1, j0, j1, e, truth]
      obtain ⟨fr', H', f1, f2, f3, f4, f5⟩ := fin
      exact ⟨f1, f2, f3, fr', H', f4, f5⟩
  · intro σ M' ⟨fr', H', hlen, hK, hT', hP, hI, a0, hσ⟩
    subst hσ
    rw [List.length_map, List.take_length] at hT'
    have gE : tkG n f N0 (asO os) = gF n P os := rfl
    rw [gE] at hT'
    have pre : M' = M ++ M'.drop M.length := by
      have : M'.take M.length = M := by
        apply List.ext_getElem?
        intro x
        rw [List.getElem?_take]
        by_cases h : x < M.length
        · rw [if_pos h, hK x h]
        · rw [if_neg h, List.getElem?_eq_none (by omega)]
      have h2 := List.take_append_drop M.length M'
      rw [this] at h2
      exact h2.symm
    have gl2 : (gF n P os).length ≤ 60 := by
      have := (Peb.tkG_sub (n := n) (f := fO os) (asO os) (grdP n [] P)).length_le
      rw [asO_len] at this
      exact Nat.le_trans this hol
    have lf := lof_obj' hT'
    have ln : biT .len [.obj M1.length] M' = some (nT (gF n P os).length, M') := by
      have := len_lst hT'
      rw [List.length_map] at this
      exact this
    have so : biT .sorted [.obj M1.length] M' = some (.fl ((srtN (gF n P os)).map nT), M') := by
      unfold biT
      have hd : dof M' (.obj M1.length) = none := by simp [dof, hT']
      have h64 : (gF n P os).length < 64 := by omega
      simp only [hd, lf, Option.bind_some, intsOf_nT, List.length_map, h64, if_true]
      rw [sort_nT]
    have c1 : cmpT .Gt (nT n) (.int 1) M' = some (decide (1 < n)) := by
      show some (decide ((1 : Int) < (n : Int))) = _
      congr 1
      rw [decide_eq_decide]; omega
    have ad := bin_add_nn false (grdP n [] P).length (gF n P os).length M'
    have ml := mul_nT 2 n (by decide) (by omega) false M'
    have sb : binT .Sub false (nT (2 * n)) (.int 3) M' = some (.int (((2 * n : Nat) : Int) - 3), M') := rfl
    have cl : cmpT .Lt (nT ((grdP n [] P).length + (gF n P os).length)) (.int (((2 * n : Nat) : Int) - 3)) M' = some (decide ((((grdP n [] P).length + (gF n P os).length : Nat) : Int) < ((2 * n : Nat) : Int) - 3)) := rfl
    have fin : ∀ v, R.rt v M' = R.rt v (M ++ M'.drop M.length) := fun v => by rw [← pre]
    unfold fewT
    have zne : zn = some (nT n) := rfl
    have hN0 : N0 = grdP n [] P := rfl
    rw [hN0]
    have mE : ((2 * n : Nat) : Int) = 2 * (n : Int) := by omega
    clear_value z0 zp f N0 zi ze zn
    subst zne
    generalize hA : (grdP n [] P).length + (gF n P os).length = A at *
    generalize hB : 2 * n = B at *
    generalize (srtN (gF n P os)).map nT = ST at *
    generalize hg1 : (grdP n [] P).length = g1 at *
    generalize hg2 : (gF n P os).length = g2 at *
    have two : nT 2 = .int 2 := rfl
    rw [two] at ml
    by_cases d1 : 1 < n
    · rw [decide_eq_true d1] at c1
      by_cases d2 : (A : Int) < (B : Int) - 3
      · rw [decide_eq_true d2] at cl
        rw [if_pos ⟨d1, by omega⟩]
        simp [c1, ln, ad, ml, sb, cl, truth]
        exact ⟨_, pre⟩
      · rw [decide_eq_false d2] at cl
        rw [if_neg (by rintro ⟨_, q⟩; omega)]
        simp [c1, ln, ad, ml, sb, cl, truth, so]
        exact ⟨_, pre⟩
    · rw [decide_eq_false d1] at c1
      rw [if_neg (fun q => d1 q.1)]
      simp [c1, truth, so]
      exact ⟨_, pre⟩
end Mi
end L2

/-! The law's own search for the least cost. -/
namespace L2
namespace Mi
open PySem PySem.Spec PyProof.Rows
open L2.Peb (PInd grdP Ofr Wth)
variable {G : Sig}
def prI (p : Nat × Nat) : List Int := [(p.1 : Int), (p.2 : Int)]
theorem tupsOf_prI : ∀ L : List (Nat × Nat), tupsOf (L.map npT) = some (L.map prI)
  | [] => rfl
  | p :: L => by
    rw [List.map_cons]
    show (intsOf [nT p.1, nT p.2]).bind _ = _
    rw [show intsOf [nT p.1, nT p.2] = some (prI p) from rfl]
    simp only [Option.bind_some]
    rw [tupsOf_prI L]; rfl
/-- the pairs, each once, in order -/
theorem set_pairs (L : List (Nat × Nat)) : ∃ A : List (Nat × Nat), ((sortK (ddp (L.map prI))).map fun k => T.tup (k.map T.int)) = A.map npT ∧ (∀ q, q ∈ A ↔ q ∈ L) ∧ A.length ≤ L.length := by
  have mem : ∀ k, k ∈ sortK (ddp (L.map prI)) ↔ ∃ q ∈ L, prI q = k := fun k => by
    have pm : (sortK (ddp (L.map prI))).Perm (ddp (L.map prI)) := List.mergeSort_perm _ _
    rw [pm.mem_iff, ddp_mem, List.mem_map]
  let g : List Int → Nat × Nat := fun k => ((k.getD 0 0).toNat, (k.getD 1 0).toNat)
  have gp : ∀ q, g (prI q) = q := fun q => rfl
  refine ⟨(sortK (ddp (L.map prI))).map g, ?_, fun q => ?_, ?_⟩
  · rw [List.map_map]
    apply List.map_congr_left
    intro k hk
    obtain ⟨q, _, rfl⟩ := (mem k).mp hk
    show _ = npT (g (prI q))
    rw [gp]; rfl
  · rw [List.mem_map]
    constructor
    · rintro ⟨k, hk, rfl⟩
      obtain ⟨r, hr, rfl⟩ := (mem k).mp hk
      rw [gp]; exact hr
    · intro hq
      exact ⟨prI q, (mem _).mpr ⟨q, hq, rfl⟩, gp q⟩
  · rw [List.length_map]
    have pm : (sortK (ddp (L.map prI))).Perm (ddp (L.map prI)) := List.mergeSort_perm _ _
    rw [pm.length_eq]
    have dl : ∀ l : List (List Int), (ddp l).length ≤ l.length := fun l => by
      induction l with
      | nil => exact Nat.le_refl _
      | cons x l ih =>
        unfold ddp
        split
        · simp; omega
        · simp; omega
    have := dl (L.map prI)
    rwa [List.length_map] at this
theorem nin_tpF (p : Nat × Nat) (P : List (Nat × Nat)) (M : Mem) : cmpT .NotIn (npT p) (.tup (P.map npT)) M = some (!decide (p ∈ P)) := nin_tp p P M
def IsLEnoughF (F : Fn) : Prop := ∀ (n : Nat) (P : List (Nat × Nat)) (os : List Ofr) (Ts : List Nat) (M : Mem) (i : Nat), n ≤ 7 → InN n P → P.length ≤ 40 → (∀ o ∈ os, o.1.1 ≠ o.1.2 ∧ o.1.1 < n ∧ o.1.2 < n) → Ts.length ≤ 20 → (∀ t ∈ Ts, t < os.length) → M[i]? = some (O.lst (os.map offT)) →
  ∃ A b, Wth P (fO os) Ts A ∧ F [netT n P, .obj i, .fl (Ts.map nT)] M = some (.bl b, M) ∧ (b = true ↔ n = 1 ∨ (grdP n [] A).length + 3 = 2 * n)
theorem fO_get {os : List Ofr} {a : Nat} (h : a < os.length) : fO os a = os[a].1 ∧ cO os a = os[a].2 := by
  unfold fO cO
  rw [List.getD_eq_getElem?_getD, List.getElem?_eq_getElem h]
  exact ⟨rfl, rfl⟩
theorem sp_lenoughF (h : Knows G "_law_chosen" IsLChosen) : IsLEnoughF (runD G Lib._law_enough) := by
  intro n P os Ts M i hn hP hPl ho hTl hT hM
  obtain ⟨F1, l1, k1⟩ := h
  let Q : List (Nat × Nat) := (Ts.filter fun t => !decide (fO os t ∈ P)).map (fO os)
  have hQl : Q.length ≤ 20 := by
    simp only [Q, List.length_map]
    exact Nat.le_trans (List.length_filter_le _ _) hTl
  obtain ⟨A, hA1, hA2, hA3⟩ := set_pairs (P ++ Q)
  have hW : Wth P (fO os) Ts A := fun q => by
    rw [hA2, List.mem_append]
    simp only [Q, List.mem_map, List.mem_filter, Bool.not_eq_true', decide_eq_false_iff_not]
    constructor
    · rintro (z | ⟨t, ⟨h1, h2⟩, rfl⟩)
      · exact .inl z
      · exact .inr ⟨t, h1, rfl⟩
    · rintro (z | ⟨t, h1, rfl⟩)
      · exact .inl z
      · by_cases z : fO os t ∈ P
        · exact .inl z
        · exact .inr ⟨t, ⟨h1, z⟩, rfl⟩
  have inA : InN n A := fun q hq => by
    rcases (hW q).mp hq with z | ⟨t, ht, rfl⟩
    · exact hP q z
    · rw [(fO_get (hT t ht)).1]; exact ho _ (List.getElem_mem _)
  have Al : A.length ≤ 60 := by rw [List.length_append] at hA3; omega
  have e1 := k1 n A M hn inA (by omega)
  refine ⟨A, decide (n = 1 ∨ (grdP n [] A).length + 3 = 2 * n), hW, ?_, by rw [decide_eq_true_eq]⟩
  suffices h : Wp (exSs G Lib._law_enough.body (startE Lib._law_enough.N [netT n P, .obj i, .fl (Ts.map nT)]) M) (fun q => q = .rt (.bl (decide (n = 1 ∨ (grdP n [] A).length + 3 = 2 * n))) M) by
    obtain ⟨q, e, rfl⟩ := h
    exact run_pure (M1 := []) rfl rfl rfl (by rw [List.append_nil]; exact e)
  have x0 : ixT (netT n P) (.int 0) M = some (nT n) := rfl
  have x1 : ixT (netT n P) (.int 1) M = some (.tup (P.map npT)) := rfl
  have lst : biT (.list false) [.tup (P.map npT)] M = some (.fl (P.map npT), M) := rfl
  have lc : lcr G (.nm 4 "_law_at") (.cons (.cmp .NotIn (.slc false (.ix (.var 1 "_law_offers") (.var 4 "_law_at")) .nopart (.int 2)) (.ix (.var 0 "_law_net_here") (.int 1))) .nil) (.slc false (.ix (.var 1 "_law_offers") (.var 4 "_law_at")) .nopart (.int 2)) [some (netT n P), some (.obj i), some (.fl (Ts.map nT)), none, none] [] (Ts.map nT) M = some (Q.map npT, M) := by
    have e : Q.map npT = (Ts.filter fun t => !decide (fO os t ∈ P)).map fun t => npT (fO os t) := by simp only [Q]; rw [List.map_map]; rfl
    rw [e]
    refine lcr_if nT (fun t => !decide (fO os t ∈ P)) (fun t => npT (fO os t)) (by simp) fun t ht => ?_
    have hlt := hT t ht
    have g : ixT (.obj i) (nT t) M = some (offT os[t]) := by
      unfold nT
      rw [ix_obj hM, atI_n, List.getElem?_map, List.getElem?_eq_getElem hlt]; rfl
    have sl : slT false (offT os[t]) none (some 2) M = some (npT (fO os t), M) := by rw [(fO_get hlt).1]; rfl
    have ni := nin_tpF (fO os t) P M
    generalize netT n P = NT at *
    generalize P.map npT = PT at *
    generalize npT (fO os t) = NP at *
    generalize offT os[t] = OT at *
    generalize nT t = TT at *
    generalize decide (fO os t ∈ P) = dd at *
    simp [stepL, g, sl, x1, ni]
    cases dd <;> rfl
  have q16 : (Q.map npT).length ≤ 16777216 := by rw [List.length_map]; omega
  have ad : binT .Add false (.fl (P.map npT)) (.fl (Q.map npT)) M = some (.fl ((P ++ Q).map npT), M) := by
    show ((lof M (.fl (P.map npT))).bind fun a => (lof M (.fl (Q.map npT))).bind fun b => if a.length + b.length ≤ 16777216 then some (mkL false (a ++ b) M) else none) = _
    rw [lof_fl, lof_fl]
    simp only [Option.bind_some]
    rw [if_pos (by rw [List.length_map, List.length_map]; omega), List.map_append]; rfl
  have st : sof M (.fl (Ts.map nT)) = some (Ts.map nT) := rfl
  have gt' : grdOf (.fl (Ts.map nT)) (Ts.map nT) = [] := rfl
  have sp : ((tupsOf ((P ++ Q).map npT)).bind fun ks => if ks.length < 64 ∧ ∀ (k : List Int), k ∈ ks → pr64 k = true then some (T.fl ((sortK (ddp ks)).map fun k => .tup (k.map .int)), M) else none) = some (.fl (A.map npT), M) := by
    have hall : ∀ k ∈ (P ++ Q).map prI, pr64 k = true := fun k hk => by
      obtain ⟨q, hq, rfl⟩ := List.mem_map.mp hk
      have := inA q ((hA2 q).mpr hq)
      unfold pr64 prI
      simp only [Bool.and_eq_true, decide_eq_true_eq]
      exact ⟨⟨⟨by omega, by omega⟩, by omega⟩, by omega⟩
    rw [tupsOf_prI]
    simp only [Option.bind_some]
    rw [if_pos ⟨by rw [List.length_map, List.length_append]; omega, hall⟩, hA1]
  have tp : biT .tuple [.fl (A.map npT)] M = some (.tup (A.map npT), M) := rfl
  have ln : biT .len [.fl ((grdP n [] A).map npT)] M = some (nT (grdP n [] A).length, M) := by rw [len_fl, List.length_map]
  have nE : T.tup [nT n, .tup (A.map npT)] = netT n A := rfl
  have c1 : cmpT .Eq (nT n) (.int 1) M = some (decide (n = 1)) := cmp_eq_nT n 1 M
  have ml : binT .Mult false (.int 2) (nT n) M = some (nT (2 * n), M) := mul_nT 2 n (by decide) (by omega) false M
  have sb : binT .Sub false (nT (2 * n)) (.int 3) M = some (.int (((2 * n : Nat) : Int) - 3), M) := rfl
  have ce : cmpT .Eq (nT (grdP n [] A).length) (.int (((2 * n : Nat) : Int) - 3)) M = some (decide ((grdP n [] A).length + 3 = 2 * n)) := by
    have : cmpT .Eq (nT (grdP n [] A).length) (.int (((2 * n : Nat) : Int) - 3)) M = some (decide (((grdP n [] A).length : Int) = ((2 * n : Nat) : Int) - 3)) := cmp_eq _ _ M
    rw [this]
    congr 1
    rw [decide_eq_decide]; omega
  simp only [Lib._law_enough]
  refine fw_nx (σ' := [some (netT n P), some (.obj i), some (.fl (Ts.map nT)), some (.fl ((P ++ Q).map npT)), none]) (M' := M) ?_ ?_
  · generalize netT n P = NT at *
    generalize (P ++ Q).map npT = PQ at *
    generalize P.map npT = PT at *
    generalize Q.map npT = QT at *
    generalize Ts.map nT = TT at *
    simp [startE, x1, lst, wipeE, lc, q16, mkL, ad]
  generalize hg : (grdP n [] A).length = gl at *
  generalize (grdP n [] A).map npT = GT at *
  generalize (P ++ Q).map npT = PQ at *
  generalize A.map npT = AT at *
  generalize hB : 2 * n = B at *
  generalize ((B : Nat) : Int) - 3 = B3 at *
  by_cases d : n = 1
  · rw [decide_eq_true d] at c1
    rw [decide_eq_true (Or.inl d)]
    generalize netT n P = NT at *
    simp [x0, c1, truth]
  · rw [decide_eq_false d] at c1
    have hor : decide (n = 1 ∨ gl + 3 = B) = decide (gl + 3 = B) := by rw [decide_eq_decide]; simp [d]
    rw [hor]
    generalize netT n A = NA at *
    generalize netT n P = NT at *
    simp [x0, c1, truth, sp, tp, nE, l1, e1, ln, ml, sb, ce]
/-! ### the least cost -/
def EnP (n : Nat) (P : List (Nat × Nat)) (os : List Ofr) (Ts : List Nat) : Prop := ∃ A, Wth P (fO os) Ts A ∧ (n = 1 ∨ (grdP n [] A).length + 3 = 2 * n)
def cst (os : List Ofr) (Ts : List Nat) : Nat := (Ts.map (cO os)).sum
theorem cst_int (os : List Ofr) : ∀ Ts : List Nat, (Ts.map fun a => (cO os a : Int)).sum = (cst os Ts : Int)
  | [] => rfl
  | t :: Ts => by
    rw [List.map_cons, List.sum_cons, cst_int os Ts]
    unfold cst
    rw [List.map_cons, List.sum_cons]
    omega
theorem en_iff {n : Nat} {P : List (Nat × Nat)} {os : List Ofr} {Ts : List Nat} (hP : InN n P) (ho : ∀ o ∈ os, o.1.1 ≠ o.1.2 ∧ o.1.1 < n ∧ o.1.2 < n) (hT : ∀ t ∈ Ts, t < os.length) {A : List (Nat × Nat)} (hA : Wth P (fO os) Ts A) : EnP n P os Ts ↔ (n = 1 ∨ (grdP n [] A).length + 3 = 2 * n) := by
  constructor
  · rintro ⟨B, hB, h⟩
    have pr : ∀ C, Wth P (fO os) Ts C → Peb.PrN n C := fun C hC q hq => by
      rcases (hC q).mp hq with z | ⟨t, ht, rfl⟩
      · exact hP q z
      · rw [(fO_get (hT t ht)).1]; exact ho _ (List.getElem_mem _)
    have h1 := Peb.grd_mono (pr A hA) (pr B hB) fun q hq => (hB q).mpr ((hA q).mp hq)
    have h2 := Peb.grd_mono (pr B hB) (pr A hA) fun q hq => (hA q).mpr ((hB q).mp hq)
    rcases h with h | h
    · exact .inl h
    · exact .inr (by omega)
  · exact fun h => ⟨A, hA, h⟩
theorem ix_pow9 (k : Nat) (h : k < 9) (M : Mem) : ixT (ilT [1, 2, 4, 8, 16, 32, 64, 128, 256]) (nT k) M = some (nT (2 ^ k)) := by
  match k, h with
  | 0, _ => rfl
  | 1, _ => rfl
  | 2, _ => rfl
  | 3, _ => rfl
  | 4, _ => rfl
  | 5, _ => rfl
  | 6, _ => rfl
  | 7, _ => rfl
  | 8, _ => rfl
/-- the best so far -/
def BestO (n : Nat) (P : List (Nat × Nat)) (os : List Ofr) (c : Nat) (r : T) : Prop :=
  (r = .non ∧ ∀ x, x < c → ¬EnP n P os (bits os.length x)) ∨ ∃ v : Nat, r = nT v ∧ (∃ x, x < c ∧ EnP n P os (bits os.length x) ∧ cst os (bits os.length x) = v) ∧ ∀ x, x < c → EnP n P os (bits os.length x) → v ≤ cst os (bits os.length x)
def IsLLeastF (F : Fn) : Prop := ∀ (n : Nat) (P : List (Nat × Nat)) (os : List Ofr) (M : Mem) (i : Nat), n ≤ 7 → InN n P → P.length ≤ 40 → (∀ o ∈ os, o.1.1 ≠ o.1.2 ∧ o.1.1 < n ∧ o.1.2 < n) → os.length ≤ 7 → M[i]? = some (O.lst (os.map offT)) →
  ∃ r, F [netT n P, .obj i] M = some (r, M) ∧ BestO n P os (2 ^ os.length) r
theorem bits_lt {n c k : Nat} (h : k ∈ bits n c) : k < n := by unfold bits at h; exact List.mem_range.mp (List.mem_filter.mp h).1
theorem bits_len (n c : Nat) : (bits n c).length ≤ n := by
  unfold bits
  have := List.length_filter_le (fun k => decide (c / 2 ^ k % 2 = 1)) (List.range n)
  rwa [List.length_range] at this
theorem sp_lleastF (h : Knows G "_law_enough" IsLEnoughF) : IsLLeastF (runD G Lib._law_least) := by
  intro n P os M i hn hP hPl ho hol hM
  obtain ⟨F1, l1, k1⟩ := h
  suffices h : Wp (exSs G Lib._law_least.body (startE Lib._law_least.N [netT n P, .obj i]) M) (fun q => ∃ r, q = .rt r M ∧ BestO n P os (2 ^ os.length) r) by
    obtain ⟨q, e, r, rfl, hb⟩ := h
    refine ⟨r, run_pure (M1 := []) rfl rfl ?_ (by rw [List.append_nil]; exact e), hb⟩
    rcases hb with ⟨rfl, _⟩ | ⟨v, rfl, _⟩ <;> rfl
  have lfo : lof M (.obj i) = some (os.map offT) := lof_obj' hM
  have lno : biT .len [.obj i] M = some (nT os.length, M) := by
    have := len_lst hM
    rw [List.length_map] at this
    exact this
  have p9 := ix_pow9 os.length (by omega) M
  have z9 : T.fl [.int 1, .int 2, .int 4, .int 8, .int 16, .int 32, .int 64, .int 128, .int 256] = ilT [1, 2, 4, 8, 16, 32, 64, 128, 256] := rfl
  have z8 : T.fl [.int 1, .int 2, .int 4, .int 8, .int 16, .int 32, .int 64, .int 128] = ilT [1, 2, 4, 8, 16, 32, 64, 128] := rfl
  have p7 : 2 ^ os.length ≤ 2 ^ 7 := Nat.pow_le_pow_right (by decide) hol
  have rg := rg1_n (n := 2 ^ os.length) (by omega)
  have rgn := rg1_n (n := os.length) (by omega)
  simp only [Lib._law_least]
  refine fw_nx (σ' := [some (netT n P), some (.obj i), some .non, none, none, none, none]) (M' := M) (by simp [startE]) ?_
  have ev : evI G (.rng1 (.ix (.lst false (.cons (.int 1) (.cons (.int 2) (.cons (.int 4) (.cons (.int 8) (.cons (.int 16) (.cons (.int 32) (.cons (.int 64) (.cons (.int 128) (.cons (.int 256) .nil)))))))))) (.bi .len (.cons (.var 1 "_law_offers") .nil)))) [some (netT n P), some (.obj i), some .non, none, none, none, none] M = some ((rngL 0 ((2 ^ os.length : Nat) : Int), []), M) := by
    generalize netT n P = NT at *
    generalize 2 ^ os.length = W at *
    simp [lno, mkL, z9, p9, rg]
  rw [xs_cons, exS_for, ev]
  simp only [Option.bind_some]
  refine wp_fr (fun c σ M' => M' = M ∧ ∃ r a b d e, σ = [some (netT n P), some (.obj i), some r, a, b, d, e] ∧ e = none ∧ BestO n P os c r) ⟨rfl, _, _, _, _, _, rfl, rfl, .inl ⟨rfl, fun x h => absurd h (Nat.not_lt_zero x)⟩⟩ (fun _ _ _ _ => by simp) ?_ ?_
  · intro c x σ M' hx ⟨hM', r, a0, b0, d0, e0, hσ, he0, hb⟩
    subst hσ
    subst hM'
    subst he0
    obtain ⟨hc, rfl⟩ := rng_get hx
    have lc : lcr G (.nm 6 "_law_at") (.cons (.cmp .Eq (.bin .Mod false (.bin .FloorDiv false (.var 3 "_law_code") (.ix (.lst false (.cons (.int 1) (.cons (.int 2) (.cons (.int 4) (.cons (.int 8) (.cons (.int 16) (.cons (.int 32) (.cons (.int 64) (.cons (.int 128) .nil))))))))) (.var 6 "_law_at"))) (.int 2)) (.int 1)) .nil) (.var 6 "_law_at") [some (netT n P), some (.obj i), some r, some (nT c), b0, d0, none] [] (rngL 0 (os.length : Int)) M' = some ((bits os.length c).map nT, M') := by
      rw [rngL_map]
      refine lcr_if nT (fun k => decide (c / 2 ^ k % 2 = 1)) nT (by simp) fun k hk => ?_
      have hk := List.mem_range.mp hk
      have x8 := ix_pow8 k (by omega) M'
      have dv := div_nnP c (2 ^ k) (Nat.pow_pos (by decide)) M'
      have md : binT .Mod false (nT (c / 2 ^ k)) (.int 2) M' = some (nT (c / 2 ^ k % 2), M') := bin_mod_nT _ 2 (by decide) false M'
      have cq : cmpT .Eq (nT (c / 2 ^ k % 2)) (.int 1) M' = some (decide (c / 2 ^ k % 2 = 1)) := cmp_eq_nT _ 1 M'
      generalize netT n P = NT at *
      generalize decide (c / 2 ^ k % 2 = 1) = dd at *
      generalize c / 2 ^ k % 2 = e2 at *
      generalize c / 2 ^ k = e1 at *
      generalize 2 ^ k = e0 at *
      simp [stepL, mkL, z8, x8, dv, md, cq]
      split <;> rfl
    have bl := bits_len os.length c
    have b16 : ((bits os.length c).map nT).length ≤ 16777216 := by rw [List.length_map]; omega
    have lcc : ∀ z4 z5, lcr G (.nm 6 "_law_at") .nil (.ix (.ix (.var 1 "_law_offers") (.var 6 "_law_at")) (.int 2)) [some (netT n P), some (.obj i), some r, some (nT c), z4, z5, none] [] ((bits os.length c).map nT) M' = some ((bits os.length c).map (fun a => T.int (cO os a : Int)), M') := fun z4 z5 => by
      refine lcr_of (tg := .nm 6 "_law_at") nT (fun a => T.int (cO os a : Int)) (by simp) fun a ha => ?_
      have hlt := bits_lt ha
      have g : ixT (.obj i) (nT a) M' = some (offT os[a]) := by
        unfold nT
        rw [ix_obj hM, atI_n, List.getElem?_map, List.getElem?_eq_getElem hlt]; rfl
      have g2 : ixT (offT os[a]) (.int 2) M' = some (.int (cO os a : Int)) := by rw [(fO_get hlt).2]; rfl
      generalize netT n P = NT at *
      generalize offT os[a] = OT at *
      generalize (cO os a : Int) = cz at *
      generalize nT a = AT at *
      simp [stepL, g, g2]
    have c16 : ((bits os.length c).map (fun a => T.int (cO os a : Int))).length ≤ 16777216 := by rw [List.length_map]; omega
    have sm : biT .sum [.fl ((bits os.length c).map fun a => T.int (cO os a : Int))] M' = some (nT (cst os (bits os.length c)), M') := by
      rw [sum_map (fun a => (cO os a : Int)), cst_int]; rfl
    obtain ⟨A, b, hW, e1, hbI⟩ := k1 n P os (bits os.length c) M' i hn hP hPl ho (by omega) (fun t ht => bits_lt ht) hM
    rw [← en_iff hP ho (fun t ht => bits_lt ht) hW] at hbI
    have nxtY : b = true → (∀ v : Nat, r = nT v → cst os (bits os.length c) < v) → BestO n P os (c + 1) (nT (cst os (bits os.length c))) := fun hbt hv => by
      have en := hbI.mp hbt
      rcases hb with ⟨rfl, hno⟩ | ⟨v, rfl, ⟨x, hx1, hx2, hx3⟩, hmin⟩
      · refine .inr ⟨_, rfl, ⟨c, Nat.lt_succ_self c, en, rfl⟩, fun y hy hye => ?_⟩
        by_cases e : y = c
        · rw [e]; exact Nat.le_refl _
        · exact absurd hye (hno y (by omega))
      · have hlt := hv v rfl
        refine .inr ⟨_, rfl, ⟨c, Nat.lt_succ_self c, en, rfl⟩, fun y hy hye => ?_⟩
        by_cases e : y = c
        · rw [e]; exact Nat.le_refl _
        · have := hmin y (by omega) hye; omega
    have nxtN : (b = true → ∃ v : Nat, r = nT v ∧ v ≤ cst os (bits os.length c)) → BestO n P os (c + 1) r := fun hv => by
      rcases hb with ⟨rfl, hno⟩ | ⟨v, rfl, ⟨x, hx1, hx2, hx3⟩, hmin⟩
      · refine .inl ⟨rfl, fun y hy => ?_⟩
        by_cases e : y = c
        · rw [e]
          intro z
          obtain ⟨v, e2, _⟩ := hv (hbI.mpr z)
          cases e2
        · exact hno y (by omega)
      · refine .inr ⟨v, rfl, ⟨x, by omega, hx2, hx3⟩, fun y hy hye => ?_⟩
        by_cases e : y = c
        · rw [e] at hye ⊢
          obtain ⟨w, e2, hw⟩ := hv (hbI.mpr hye)
          have : (v : Int) = w := T.int.inj e2
          omega
        · exact hmin y (by omega) hye
    have hrr := hb
    clear hb hbI
    generalize (bits os.length c).map (fun a => T.int (cO os a : Int)) = CC at *
    generalize (bits os.length c).map nT = BT at *
    generalize hcs : cst os (bits os.length c) = cs at *
    have sB : sof M' (.fl BT) = some BT := rfl
    have gB : grdOf (.fl BT) BT = [] := rfl
    rcases hrr with ⟨rfl, _⟩ | ⟨v, rfl, _⟩
    · have is1 : cmpT .Is .non .non M' = some true := rfl
      generalize netT n P = NT at *
      cases b with
      | true =>
        have nx := nxtY rfl fun v e => by cases e
        simp [lno, rgn, wipeE, lc, b16, mkL, lcc, c16, sm, is1, truth, l1, e1, sB, gB]
        exact ⟨_, _, _, _, _, ⟨rfl, rfl, rfl, rfl, rfl⟩, rfl, nx⟩
      | false =>
        have nx := nxtN (fun e => by cases e)
        simp [lno, rgn, wipeE, lc, b16, mkL, lcc, c16, sm, is1, truth, l1, e1, sB, gB]
        exact ⟨_, _, _, _, _, ⟨rfl, rfl, rfl, rfl, rfl⟩, rfl, nx⟩
    · have is1 : cmpT .Is (nT v) .non M' = some false := rfl
      have cl := cmp_lt_nT cs v M'
      generalize netT n P = NT at *
      by_cases hlt : cs < v
      · rw [decide_eq_true hlt] at cl
        cases b with
        | true =>
          have nx := nxtY rfl fun w e => by have : (v : Int) = w := T.int.inj e; omega
          simp [lno, rgn, wipeE, lc, b16, mkL, lcc, c16, sm, is1, hlt, truth, l1, e1, sB, gB]
          exact ⟨_, _, _, _, _, ⟨rfl, rfl, rfl, rfl, rfl⟩, rfl, nx⟩
        | false =>
          have nx := nxtN (fun e => by cases e)
          simp [lno, rgn, wipeE, lc, b16, mkL, lcc, c16, sm, is1, hlt, truth, l1, e1, sB, gB]
          exact ⟨_, _, _, _, _, ⟨rfl, rfl, rfl, rfl, rfl⟩, rfl, nx⟩
      · rw [decide_eq_false hlt] at cl
        have nx := nxtN (fun _ => ⟨v, rfl, by omega⟩)
        simp [lno, rgn, wipeE, lc, b16, mkL, lcc, c16, sm, is1, hlt, truth, sB, gB]
        exact ⟨_, _, _, _, _, ⟨rfl, rfl, rfl, rfl, rfl⟩, rfl, nx⟩
  · intro σ M' ⟨hM', r, a0, b0, d0, e0, hσ, he0, hb⟩
    subst hσ
    subst hM'
    rw [rng_lenT] at hb
    simp
    exact hb
end Mi
end L2

/-! What fewest tells is what the law asks. -/
namespace L2
namespace Mi
open PySem PySem.Spec PyProof.Rows
open L2.Peb (PInd grdP Ofr Wth tkG)
theorem wth_ex (P : List (Nat × Nat)) (f : Nat → Nat × Nat) (Ts : List Nat) : ∃ A, Wth P f Ts A := ⟨P ++ Ts.map f, fun q => by
  rw [List.mem_append, List.mem_map]
  constructor
  · rintro (z | ⟨t, h1, h2⟩)
    · exact .inl z
    · exact .inr ⟨t, h1, h2.symm⟩
  · rintro (z | ⟨t, h1, h2⟩)
    · exact .inl z
    · exact .inr ⟨t, h1, h2.symm⟩⟩
theorem en_same {n : Nat} {P : List (Nat × Nat)} {os : List Ofr} {Ts Us : List Nat} (h : ∀ t, t ∈ Ts ↔ t ∈ Us) : EnP n P os Ts → EnP n P os Us := fun ⟨A, hA, z⟩ => ⟨A, fun q => by
  rw [hA]
  constructor
  · rintro (w | ⟨t, h1, h2⟩)
    · exact .inl w
    · exact .inr ⟨t, (h t).mp h1, h2⟩
  · rintro (w | ⟨t, h1, h2⟩)
    · exact .inl w
    · exact .inr ⟨t, (h t).mpr h1, h2⟩, z⟩
theorem sum_permN {a b : List Nat} (h : a.Perm b) : a.sum = b.sum := by
  induction h with
  | nil => rfl
  | cons x _ ih => rw [List.sum_cons, List.sum_cons, ih]
  | swap x y l => rw [List.sum_cons, List.sum_cons, List.sum_cons, List.sum_cons]; omega
  | trans _ _ h1 h2 => rw [h1, h2]
theorem cst_same {os : List Ofr} {Ts Us : List Nat} (h1 : Ts.Nodup) (h2 : Us.Nodup) (h : ∀ t, t ∈ Ts ↔ t ∈ Us) : cst os Ts = cst os Us := by
  have p : Ts.Perm Us := (List.perm_ext_iff_of_nodup h1 h2).mpr h
  exact sum_permN (p.map (cO os))
theorem fewest_ok {n : Nat} {P : List (Nat × Nat)} {os : List Ofr} {r : T} (hP : InN n P) (ho : ∀ o ∈ os, o.1.1 ≠ o.1.2 ∧ o.1.1 < n ∧ o.1.2 < n) (n1 : 1 ≤ n) (h1 : n = 1 → os = []) (hr : BestO n P os (2 ^ os.length) r) :
    (r = .non → fewT n P os = .non) ∧ ∀ v : Nat, r = nT v → fewT n P os = .fl ((srtN (gF n P os)).map nT) ∧ EnP n P os (srtN (gF n P os)) ∧ cst os (srtN (gF n P os)) = v ∧ ∀ g ∈ srtN (gF n P os), ¬EnP n P os ((srtN (gF n P os)).filter fun t => !decide (t = g)) := by
  have hf : ∀ a ∈ asO os, (fO os a).1 ≠ (fO os a).2 ∧ (fO os a).1 < n ∧ (fO os a).2 < n := fun a ha => by
    rw [(fO_get (asO_lt ha)).1]
    exact ho _ (List.getElem_mem _)
  have hs := asO_srt os
  have sub := Peb.tkG_sub (n := n) (f := fO os) (asO os) (grdP n [] P)
  have gE : tkG n (fO os) (grdP n [] P) (asO os) = gF n P os := rfl
  rw [gE] at sub
  have gnd : (gF n P os).Nodup := sub.nodup (asO_nd os)
  have sp := srt_perm (gF n P os)
  have snd : (srtN (gF n P os)).Nodup := sp.nodup_iff.mpr gnd
  have smem : ∀ t, t ∈ srtN (gF n P os) ↔ t ∈ gF n P os := fun t => sp.mem_iff
  have inAs : ∀ k, k < os.length → k ∈ asO os := fun k hk => (asO_perm os).mem_iff.mpr (List.mem_range.mpr hk)
  -- its code
  let S : Nat → Bool := fun k => decide (k ∈ gF n P os)
  have cl := codeS_lt S os.length
  have bE : bits os.length (codeS S os.length) = (List.range os.length).filter S := bits_code S os.length
  have bmem : ∀ t, t ∈ bits os.length (codeS S os.length) ↔ t ∈ srtN (gF n P os) := fun t => by
    rw [bE, List.mem_filter, smem, List.mem_range]
    constructor
    · intro h; exact of_decide_eq_true h.2
    · intro h; exact ⟨asO_lt (sub.subset h), decide_eq_true h⟩
  have bnd : (bits os.length (codeS S os.length)).Nodup := by rw [bE]; exact List.nodup_range.filter _
  have cE : cst os (bits os.length (codeS S os.length)) = cst os (srtN (gF n P os)) := cst_same bnd snd bmem
  have cG : cst os (srtN (gF n P os)) = cst os (gF n P os) := cst_same snd gnd smem
  have pN0 : Peb.PrN n (grdP n [] P) := Peb.grd_pr (fun p hp => by cases hp) hP
  have prG : Peb.PrN n (grdP n [] P ++ (gF n P os).map (fO os)) := fun p hp => by
    rcases List.mem_append.mp hp with z | z
    · exact pN0 p z
    · obtain ⟨a, ha, rfl⟩ := List.mem_map.mp z
      exact hf a (sub.subset ha)
  have inG : PInd n (grdP n [] P ++ (gF n P os).map (fO os)) := Peb.tkG_ind _ _ (Peb.grd_ind P [] (Peb.ind_nil n))
  obtain ⟨A, hA⟩ := wth_ex P (fO os) (srtN (gF n P os))
  have giv := Peb.gives hP hf (T := srtN (gF n P os)) (fun t ht => (smem t).mp ht) (fun t ht => (smem t).mpr ht) hA
  rw [gE] at giv
  have prA : Peb.PrN n A := fun p hp => by
    rcases (hA p).mp hp with z | ⟨t, ht, rfl⟩
    · exact hP p z
    · exact hf t (sub.subset ((smem t).mp ht))
  by_cases e1 : n = 1
  · have e0 := h1 e1
    subst e0
    have g0 : gF n P [] = [] := by unfold gF; rw [show asO [] = [] by simp [asO]]; rfl
    have en : ∀ Ts, EnP n P [] Ts := fun Ts => let ⟨A, hA⟩ := wth_ex P (fO []) Ts; ⟨A, hA, .inl e1⟩
    refine ⟨fun e => ?_, fun v e => ?_⟩
    · rcases hr with ⟨_, hno⟩ | ⟨v, e2, _⟩
      · exact absurd (en _) (hno 0 (by simp))
      · rw [e] at e2; cases e2
    · rcases hr with ⟨e2, _⟩ | ⟨w, e2, ⟨x, hx, _, hc⟩, _⟩
      · rw [e] at e2; cases e2
      · rw [e] at e2
        have ew : (v : Int) = w := T.int.inj e2
        have b0 : bits ([] : List Ofr).length x = [] := rfl
        rw [b0] at hc
        have c0 : cst [] [] = 0 := rfl
        refine ⟨?_, en _, ?_, fun g hg => ?_⟩
        · unfold fewT
          rw [if_neg (by rintro ⟨q, _⟩; omega)]
        · rw [g0]
          show cst [] (srtN []) = v
          have : cst [] (srtN []) = 0 := rfl
          omega
        · rw [g0] at hg
          have : g ∈ ([] : List Nat) := hg
          cases this
  · have n2 : 2 ≤ n := by omega
    have topG := Peb.ind_top n2 prG inG
    rw [List.length_append, List.length_map] at topG
    have topA := Peb.ind_top n2 (Peb.grd_pr (fun p hp => by cases hp) prA) (Peb.grd_ind A [] (Peb.ind_nil n))
    refine ⟨fun e => ?_, fun v e => ?_⟩
    · rcases hr with ⟨_, hno⟩ | ⟨v, e2, _⟩
      · unfold fewT
        by_cases c : (((grdP n [] P).length + (gF n P os).length : Nat) : Int) < 2 * n - 3
        · rw [if_pos ⟨by omega, c⟩]
        · exfalso
          refine hno _ cl (en_same (fun t => (bmem t).symm) ⟨A, hA, .inr ?_⟩)
          omega
      · rw [e] at e2; cases e2
    · rcases hr with ⟨e2, _⟩ | ⟨w, e2, ⟨x, hx, hen, hc⟩, hmin⟩
      · rw [e] at e2; cases e2
      · rw [e] at e2
        have ew : (v : Int) = w := T.int.inj e2
        obtain ⟨B, hB, hBr⟩ := hen
        have hBr : (grdP n [] B).length + 3 = 2 * n := hBr.resolve_left e1
        have bl : ∀ t ∈ bits os.length x, t ∈ asO os := fun t ht => inAs t (bits_lt ht)
        have mx : ∃ C, ∀ a ∈ asO os, cO os a ≤ C := by
          refine ⟨((asO os).map (cO os)).sum, fun a ha => ?_⟩
          obtain ⟨u, w, e⟩ := List.append_of_mem ha
          rw [e, List.map_append, List.sum_append, List.map_cons, List.sum_cons]
          omega
        obtain ⟨C, hC⟩ := mx
        have mo := Peb.most hP hf hs (bits os.length x) bl hB hC
        rw [gE] at mo
        have full : (grdP n [] P).length + (gF n P os).length + 3 = 2 * n := by omega
        have enG : EnP n P os (srtN (gF n P os)) := ⟨A, hA, .inr (by omega)⟩
        have be := Peb.best hP hf hs (bits os.length x) bl hB hC (by rw [gE]; omega)
        rw [gE] at be
        have be : cst os (gF n P os) ≤ cst os (bits os.length x) := be
        have mn := hmin _ cl (en_same (fun t => (bmem t).symm) enG)
        refine ⟨?_, enG, by omega, fun g hg => ?_⟩
        · unfold fewT
          rw [if_neg (by rintro ⟨_, q⟩; omega)]
        · rintro ⟨D, hD, hDr⟩
          have hDr : (grdP n [] D).length + 3 = 2 * n := hDr.resolve_left e1
          have lo := Peb.less_out hP hf (g := g) (T := (srtN (gF n P os)).filter fun t => !decide (t = g)) (by rw [gE]; exact (smem g).mp hg) (fun t => by
            rw [gE, List.mem_filter, smem]
            simp) hD
          rw [gE] at lo
          omega
theorem off_ok : ∀ os : List Ofr, okTs (os.map offT) = true
  | [] => rfl
  | o :: os => by
    rw [List.map_cons, okTs, off_ok os]; rfl
theorem off_dep : ∀ os : List Ofr, depTs (os.map offT) ≤ 58
  | [] => Nat.zero_le _
  | o :: os => by
    have := off_dep os
    rw [List.map_cons, depTs]
    have : depT (offT o) = 1 := rfl
    omega
theorem off_pure (os : List Ofr) : pureTs (os.map offT) = true := pure_map (f := offT) (fun _ => rfl) os
theorem eqv_offs {i : Nat} (os : List Ofr) {M : Mem} (h : M[i]? = some (O.lst (os.map offT))) : eqv? M (.obj i) (.fl (os.map offT)) = some true := by
  have h1 : okT (.fl (os.map offT)) = true := by unfold okT; exact off_ok os
  have h2 : depT (.fl (os.map offT)) ≤ 60 := by unfold depT; have := off_dep os; omega
  have h3 : sealT M 0 6 (.obj i) = some (.fl (os.map offT)) := seal_obj (Nat.zero_le _) h (off_pure os)
  have h4 : sealT M 0 6 (.fl (os.map offT)) = some (.fl (os.map offT)) := seal_pure (by unfold pureT; exact off_pure os)
  have h5 := eqv_self M h1 h2
  unfold eqv? at h5 ⊢
  simp only [scL] at h5 ⊢
  rw [h4] at h5 ⊢
  rw [h3]
  exact h5
end Mi
end L2

/-! The nets of the law under other names (k40). -/
namespace L2
namespace Mi
open PySem PySem.Spec PyProof.Rows
section
variable {G : Sig}
theorem sp_lnetV2 (hcell : Knows G "_law_cell" IsCell) (hparts : Knows G "_law_parts" IsParts) : IsLNet (runD G Lib._law_net_2) := by
  intro ns lo hi M hns h1 h2 h9
  obtain ⟨Fc, lc, kc⟩ := hcell
  obtain ⟨Fp, lp, kp⟩ := hparts
  have c0 : Fc [.sc ns, .int 0] M = some (.int (gt ns 0), M) := kc ns 0 M
  have c1 : Fc [.sc ns, .int 1] M = some (.int (gt ns 1), M) := kc ns 1 M
  let z : List Int := [((hi - lo + 1 : Nat) : Int), 4, 9, 5]
  obtain ⟨e0, hPl, hPb⟩ := draw kp hns 0 z (fun s hs => by
    have : s = ((hi - lo + 1 : Nat) : Int) ∨ s = 4 ∨ s = 9 ∨ s = 5 := by simpa [z] using hs
    omega) (by simp [z]) M
  have zE : T.fl [nT (hi - lo + 1), .int 4, .int 9, .int 5] = ilT z := rfl
  let z2 : List Int := List.replicate 66 6
  obtain ⟨e1, hDl, hDb⟩ := draw kp hns 1 z2 (fun s hs => by rw [(List.mem_replicate.mp hs).2]; decide) (by simp [z2]) M
  have z2E : binT .Mult false (.fl [.int 6]) (.int 66) M = some (ilT z2, M) := rep_il 66 6 M (by decide)
  have q0 := hPb 0 (by simp [z])
  have q1 := hPb 1 (by simp [z])
  have q2 := hPb 2 (by simp [z])
  have q3 := hPb 3 (by simp [z])
  have g0 : gt z 0 = ((hi - lo + 1 : Nat) : Int) := rfl
  have g1 : gt z 1 = 4 := rfl
  have g2 : gt z 2 = 9 := rfl
  have g3 : gt z 3 = 5 := rfl
  rw [g0] at q0; rw [g1] at q1; rw [g2] at q2; rw [g3] at q3
  have hPl : (parts (gt ns 0) z).length = 4 := hPl
  have hDl : (parts (gt ns 1) z2).length = 66 := by rw [hDl]; simp [z2]
  clear hPb hDb
  generalize parts (gt ns 0) z = A at *
  generalize parts (gt ns 1) z2 = D at *
  obtain ⟨v0, w0⟩ : ∃ v : Nat, gt A 0 = (v : Int) := ⟨(gt A 0).toNat, by omega⟩
  obtain ⟨v2, w2⟩ : ∃ v : Nat, gt A 2 = (v : Int) := ⟨(gt A 2).toNat, by omega⟩
  have i0 : ∀ M, ixT (ilT A) (.int 0) M = some (nT v0) := fun M => by have := ix_il A 0 M (by omega); rw [w0] at this; exact this
  have i1 : ∀ M, ixT (ilT A) (.int 1) M = some (.int (gt A 1)) := fun M => ix_il A 1 M (by omega)
  have i2 : ∀ M, ixT (ilT A) (.int 2) M = some (nT v2) := fun M => by have := ix_il A 2 M (by omega); rw [w2] at this; exact this
  have i3 : ∀ M, ixT (ilT A) (.int 3) M = some (.int (gt A 3)) := fun M => ix_il A 3 M (by omega)
  have id' : ∀ k M, k < 66 → ixT (ilT D) (nT k) M = some (.int (gt D k)) := fun k M h => ix_il D k M (by omega)
  have sb : binT .Sub false (nT hi) (nT lo) M = some (nT (hi - lo), M) := by
    show some (T.int ((hi : Int) - (lo : Int)), M) = some (T.int ((hi - lo : Nat) : Int), M)
    congr 3; omega
  have ad1 := add_one_n false (hi - lo) M
  let n := lo + v0
  have an : binT .Add false (nT lo) (nT v0) M = some (nT n, M) := bin_add_nn false lo v0 M
  have hn1 : lo ≤ n := by simp only [n]; omega
  have hn2 : n ≤ hi := by simp only [n]; omega
  clear_value n z z2
  have rg := rg1_n (n := n) (by omega)
  suffices h : Wp (exSs G Lib._law_net_2.body (startE Lib._law_net_2.N [.sc ns, nT lo, nT hi]) M) (fun q => ∃ P : List (Nat × Nat), (∀ p ∈ P, p.1 < p.2 ∧ p.2 < n) ∧ P.Nodup ∧ P.length ≤ 36 ∧ ∃ L, q = .rt (netT n P) (M ++ L)) by
    obtain ⟨q, e, P, h1, h2, h3, L, rfl⟩ := h
    exact ⟨n, P, run_pure (M1 := L) rfl rfl (by have := prs_pure P; simp [netT, pureT, pureTs, this]; rfl) e, hn1, hn2, h1, h2, h3⟩
  generalize hi - lo + 1 = hl1 at *
  generalize hi - lo = hl0 at *
  simp only [Lib._law_net_2]
  simp [startE, lc, lp, c0, c1, sb, ad1, zE, e0, i0, an, z2E, e1, rg, mkL]
  let E : Nat → Option T → Option T → En := fun at_ a b => [some (.sc ns), some (nT lo), some (nT hi), some (ilT A), some (nT n), some (ilT D), some (.obj M.length), some (nT at_), a, b, none]
  refine wp_fr (fun i σ M' => ∃ P : List (Nat × Nat), M' = M ++ [.lst (P.map npT)] ∧ (∃ a b, σ = E (trN n i) a b) ∧ (∀ p ∈ P, p.1 < p.2 ∧ p.2 < n ∧ p.1 < i) ∧ P.Nodup ∧ P.length ≤ trN n i) ⟨[], rfl, ⟨_, _, rfl⟩, fun p h => (nomatch h), List.nodup_nil, Nat.le_refl _⟩ (fun _ _ _ _ => by simp) ?_ ?_
  · intro i x σ M' hx ⟨P, hM, ⟨a0, b0, hσ⟩, hp, hnd, hl⟩
    subst hσ
    obtain ⟨hi', rfl⟩ := rng_get hx
    have ai := add_one_n false i M'
    have rg2 := rg2_n (a := i + 1) (b := n) (by omega) (by omega)
    have t36 := trN_le n (by omega) (i + 1) (by omega)
    have tS : trN n (i + 1) = trN n i + (n - (i + 1)) := rfl
    generalize hXX : rngL ((i + 1 : Nat) : Int) (n : Int) = XX at rg2
    simp only [E]
    simp [ai, rg2]
    refine wp_fr (fun k σ M2 => ∃ P : List (Nat × Nat), M2 = M ++ [.lst (P.map npT)] ∧ (∃ b, σ = E (trN n i + k) (some (nT i)) b) ∧ (∀ p ∈ P, p.1 < p.2 ∧ p.2 < n ∧ (p.1 < i ∨ (p.1 = i ∧ p.2 < i + 1 + k))) ∧ P.Nodup ∧ P.length ≤ trN n i + k)
      ⟨P, hM, ⟨_, rfl⟩, fun p h => by have := hp p h; exact ⟨this.1, this.2.1, .inl this.2.2⟩, hnd, hl⟩ (fun _ _ _ _ => by simp) ?_ ?_
    · intro k x σ M2 hx ⟨P, hM2, ⟨b1, hσ⟩, hp, hnd, hl⟩
      subst hσ
      rw [← hXX] at hx
      obtain ⟨hk, rfl⟩ := rng2_get hx
      have x1 := id' (trN n i + k) M2 (by omega)
      have x2 := i1 M2
      have adv : ∀ M3, binT .Add false (nT (trN n i + k)) (.int 1) M3 = some (nT (trN n i + (k + 1)), M3) := fun M3 => add_one_n false (trN n i + k) M3
      have cg : cmpT .Gt (.int (gt D (trN n i + k))) (.int (gt A 1)) M2 = some (decide (gt A 1 < gt D (trN n i + k))) := rfl
      have at1 : M2[M.length]? = some (O.lst (P.map npT)) := by rw [hM2]; exact lst_last M _
      have ap := bm_append (x := npT (i, i + 1 + k)) at1 (by rw [List.length_map]; omega)
      have ap2 : M2.set M.length (.lst (P.map npT ++ [npT (i, i + 1 + k)])) = M ++ [.lst ((P ++ [(i, i + 1 + k)]).map npT)] := by rw [hM2, lst_set, List.map_append]; rfl
      rw [ap2] at ap
      have ap' : bmT .append (.obj M.length) [.tup [nT i, nT (i + 1 + k)]] M2 = _ := ap
      have lf := lof_obj' at1
      have old : ∀ p ∈ P, p.1 < p.2 ∧ p.2 < n ∧ (p.1 < i ∨ (p.1 = i ∧ p.2 < i + 1 + (k + 1))) := fun p h => by
        obtain ⟨r1, r2, r3⟩ := hp p h
        exact ⟨r1, r2, by omega⟩
      have fin : ∃ Q : List (Nat × Nat), M ++ [O.lst ((P ++ [(i, i + 1 + k)]).map npT)] = M ++ [.lst (Q.map npT)] ∧ (∀ p ∈ Q, p.1 < p.2 ∧ p.2 < n ∧ (p.1 < i ∨ (p.1 = i ∧ p.2 < i + 1 + (k + 1)))) ∧ Q.Nodup ∧ Q.length ≤ trN n i + (k + 1) := by
        refine ⟨_, rfl, fun p hm => ?_, ?_, by simp; omega⟩
        · rcases List.mem_append.mp hm with h | h
          · exact old p h
          · rw [List.mem_singleton.mp h]
            exact ⟨by show i < i + 1 + k; omega, hk, .inr ⟨rfl, by show i + 1 + k < _; omega⟩⟩
        · rw [List.nodup_append]
          refine ⟨hnd, by simp, fun a ha b hb => ?_⟩
          rw [List.mem_singleton.mp hb]
          intro e
          have := hp a ha
          rw [e] at this
          have h3 := this.2.2
          simp at h3
      generalize (P ++ [(i, i + 1 + k)]).map npT = RES at *
      generalize hj : i + 1 + k = j at *
      generalize hP0 : P.map npT = RES0 at *
      have hat : trN n i + (k + 1) = trN n i + k + 1 := by omega
      generalize trN n i + k = at0 at *
      generalize trN n i + (k + 1) = at1' at *
      by_cases d : gt A 1 < gt D at0
      · rw [decide_eq_true d] at cg
        simp only [E]
        simp [x1, x2, cg, lf, ap', adv]
        obtain ⟨Q, f1, f2, f3, f4⟩ := fin
        exact ⟨Q, by simpa using f1, by simpa using f2, f3, f4⟩
      · rw [decide_eq_false d] at cg
        simp only [E]
        simp [x1, x2, cg, adv]
        exact ⟨P, by rw [hP0]; exact hM2, by simpa using old, hnd, by omega⟩
    · intro σ M2 ⟨P, hM2, ⟨b1, hσ⟩, hp, hnd, hl⟩
      subst hσ
      rw [← hXX, rngL_len, show ((n : Int) - ((i + 1 : Nat) : Int)).toNat = n - (i + 1) by omega, ← tS] at hl ⊢
      simp
      exact ⟨P, hM2, ⟨_, _, rfl⟩, fun a b h => by
        have := hp (a, b) h
        simp only at this
        omega, hnd, hl⟩
  · intro σ M' ⟨P, hM, ⟨a0, b0, hσ⟩, hp, hnd, hl⟩
    subst hσ
    rw [rng_lenT] at hl
    have t36 := trN_le n (by omega) n (Nat.le_refl _)
    subst hM
    have ii : ∀ k M, biT .int [nT k] M = some (nT k, M) := fun k M => rfl
    have ln : biT .len [.obj M.length] (M ++ [.lst (P.map npT)]) = some (nT P.length, M ++ [.lst (P.map npT)]) := by rw [len_m0, List.length_map]
    have mx := max_1n P.length (M ++ [.lst (P.map npT)])
    have mm : ∃ m : Nat, (if 1 < P.length then P.length else 1) = m ∧ 1 ≤ m ∧ ∀ x, x % m ≤ P.length := by
      refine ⟨_, rfl, by split <;> omega, fun x => ?_⟩
      split
      · exact Nat.le_of_lt (Nat.mod_lt _ (by omega))
      · rw [Nat.mod_one]; omega
    obtain ⟨m, hm, hm1, hmx⟩ := mm
    rw [hm] at mx
    have md := bin_mod_nT v2 m (by omega) false (M ++ [.lst (P.map npT)])
    have htl := hmx v2
    generalize v2 % m = t at *
    have s1 := sl_ob (M := M ++ [.lst (P.map npT)]) (mg0 ..) (some (t : Int)) none
    have s2 := sl_ob (M := M ++ [.lst (P.map npT)]) (mg0 ..) none (some (t : Int))
    rw [cut_hi] at s1
    rw [cut_lo] at s2
    rw [← List.map_drop] at s1
    rw [← List.map_take] at s2
    let Q := P.drop t ++ P.take t
    have af : binT .Add true (.fl ((P.drop t).map npT)) (.fl ((P.take t).map npT)) (M ++ [.lst (P.map npT)]) = some (.obj (M.length + 1), M ++ [.lst (P.map npT), .lst (Q.map npT)]) := by
      show ((lof (M ++ [.lst (P.map npT)]) (.fl ((P.drop t).map npT))).bind fun a => (lof (M ++ [.lst (P.map npT)]) (.fl ((P.take t).map npT))).bind fun b => if a.length + b.length ≤ 16777216 then some (mkL true (a ++ b) (M ++ [.lst (P.map npT)])) else none) = _
      rw [lof_fl, lof_fl]
      simp only [Option.bind_some]
      rw [if_pos (by rw [List.length_map, List.length_map, List.length_drop, List.length_take]; omega), ← List.map_append]
      show some (T.obj (M ++ [O.lst (P.map npT)]).length, (M ++ [O.lst (P.map npT)]) ++ [O.lst (Q.map npT)]) = _
      simp
    have pt : prtT (nT t) = some (some (t : Int)) := rfl
    have hperm : Q.Perm P := List.perm_append_comm.trans (by rw [List.take_append_drop])
    have hQ : (∀ p ∈ Q, p.1 < p.2 ∧ p.2 < n) ∧ Q.Nodup ∧ Q.length ≤ 36 := ⟨fun p h => by have := hp p (hperm.mem_iff.mp h); exact ⟨this.1, this.2.1⟩, hperm.nodup_iff.mpr hnd, by rw [hperm.length_eq]; omega⟩
    have hR : (∀ p ∈ Q.reverse, p.1 < p.2 ∧ p.2 < n) ∧ Q.reverse.Nodup ∧ Q.reverse.length ≤ 36 := ⟨fun p h => hQ.1 p (List.mem_reverse.mp h), (List.reverse_perm Q).nodup_iff.mpr hQ.2.1, by rw [List.length_reverse]; exact hQ.2.2⟩
    clear_value Q
    have at2 : ∀ P2 : List (Nat × Nat), (M ++ [O.lst (P.map npT), .lst (P2.map npT)])[M.length + 1]? = some (O.lst (P2.map npT)) := fun P2 => mg1 ..
    have rv : bmT .reverse (.obj (M.length + 1)) [] (M ++ [O.lst (P.map npT), .lst (Q.map npT)]) = some (.non, M ++ [O.lst (P.map npT), .lst (Q.reverse.map npT)]) := by
      unfold bmT
      simp only [at2]
      rw [mst1, List.map_reverse]
    have tp : ∀ P2 : List (Nat × Nat), biT .tuple [.obj (M.length + 1)] (M ++ [O.lst (P.map npT), .lst (P2.map npT)]) = some (.tup (P2.map npT), M ++ [O.lst (P.map npT), .lst (P2.map npT)]) := fun P2 => by
      show (sof _ _).map _ = _
      rw [sof_obj (at2 P2)]; rfl
    have nE : ∀ P2 : List (Nat × Nat), T.tup [nT n, .tup (P2.map npT)] = netT n P2 := fun _ => rfl
    have i2' := i2 (M ++ [.lst (P.map npT)])
    have i3' := i3 (M ++ [O.lst (P.map npT), .lst (Q.map npT)])
    have ce : cmpT .Eq (.int (gt A 3)) (.int 0) (M ++ [O.lst (P.map npT), .lst (Q.map npT)]) = some (decide (gt A 3 = 0)) := cmp_eq _ _ _
    have lf2 := lof_obj' (at2 Q)
    have tpQ := tp Q
    have tpR := tp Q.reverse
    have nQ := nE Q
    have nR := nE Q.reverse
    have finQ : ∃ P' : List (Nat × Nat), (∀ p ∈ P', p.1 < p.2 ∧ p.2 < n) ∧ P'.Nodup ∧ P'.length ≤ 36 ∧ netT n Q = netT n P' := ⟨Q, hQ.1, hQ.2.1, hQ.2.2, rfl⟩
    have finR : ∃ P' : List (Nat × Nat), (∀ p ∈ P', p.1 < p.2 ∧ p.2 < n) ∧ P'.Nodup ∧ P'.length ≤ 36 ∧ netT n Q.reverse = netT n P' := ⟨Q.reverse, hR.1, hR.2.1, hR.2.2, rfl⟩
    clear tp nE at2
    generalize netT n Q = NQ at *
    generalize netT n Q.reverse = NR at *
    generalize (P.drop t).map npT = X1 at *
    generalize (P.take t).map npT = X2 at *
    generalize Q.reverse.map npT = X4 at *
    generalize Q.map npT = X5 at *
    generalize P.map npT = X3 at *
    by_cases d : gt A 3 = 0
    · rw [decide_eq_true d] at ce
      simp only [E]
      simp [i2', ii, ln, mx, md, pt, s1, s2, af, i3', ce, lf2, rv, tpR, nR]
      obtain ⟨P', f1, f2, f3, f4⟩ := finR
      exact ⟨P', by simpa using f1, f2, f3, f4⟩
    · rw [decide_eq_false d] at ce
      simp only [E]
      simp [i2', ii, ln, mx, md, pt, s1, s2, af, i3', ce, tpQ, nQ]
      obtain ⟨P', f1, f2, f3, f4⟩ := finQ
      exact ⟨P', by simpa using f1, f2, f3, f4⟩
end
end Mi
end L2

namespace K40
open PySem PySem.Spec PyProof.Rows L2 L2.Mi
theorem kPeb (n : Nat) : HasPeb (Pr.G (n + 1)) := ⟨_, rfl, rfl⟩
theorem K_Pebbles___init__ (n : Nat) : KnowsI (Pr.G (n + 2)) "Pebbles" IsPInit := ⟨runD (Pr.G (n + 1)) Lib.Pebbles___init__, rfl, sp_pinit (kPeb (n + 0))⟩
theorem K_Pebbles__way_to_pebble (n : Nat) : KnowsM (Pr.G (n + 2)) "Pebbles" "_way_to_pebble" IsWayP := ⟨runD (Pr.G (n + 1)) Lib.Pebbles__way_to_pebble, rfl, sp_wayP (kPeb (n + 0))⟩
theorem K_Pebbles__fetch (n : Nat) : KnowsM (Pr.G (n + 3)) "Pebbles" "_fetch" IsFetchP := ⟨runD (Pr.G (n + 2)) Lib.Pebbles__fetch, rfl, sp_fetchP (kPeb (n + 1)) (K_Pebbles__way_to_pebble (n + 0))⟩
theorem K_Pebbles_take (n : Nat) : KnowsM (Pr.G (n + 4)) "Pebbles" "take" IsTakeP := ⟨runD (Pr.G (n + 3)) Lib.Pebbles_take, rfl, sp_takeP (kPeb (n + 2)) (K_Pebbles__fetch (n + 0))⟩
theorem K_fewest (n : Nat) : Knows (Pr.G (n + 5)) "fewest" IsFewest := ⟨runD (Pr.G (n + 4)) Lib.fewest, l_fewest (n + 4), sp_fewest (kPeb (n + 3)) (K_Pebbles___init__ (n + 2)) (K_Pebbles_take (n + 0))⟩
theorem K__law_cell (n : Nat) : Knows (Pr.G (n + 1)) "_law_cell" IsCell := ⟨runD (Pr.G (n + 0)) Lib._law_cell, l__law_cell (n + 0), sp_cellN ⟩
theorem K__law_parts (n : Nat) : Knows (Pr.G (n + 1)) "_law_parts" IsParts := ⟨runD (Pr.G (n + 0)) Lib._law_parts, l__law_parts (n + 0), sp_parts ⟩
theorem K__law_is_integer (n : Nat) : Knows (Pr.G (n + 1)) "_law_is_integer" IsLIntI := ⟨runD (Pr.G (n + 0)) Lib._law_is_integer, l__law_is_integer (n + 0), sp_lintI ⟩
theorem K__law_net (n : Nat) : Knows (Pr.G (n + 2)) "_law_net" IsLNet := ⟨runD (Pr.G (n + 1)) Lib._law_net_2, l__law_net (n + 1), sp_lnetV2 (K__law_cell (n + 0)) (K__law_parts (n + 0))⟩
theorem K__law_sets (n : Nat) : Knows (Pr.G (n + 1)) "_law_sets" IsLSets := ⟨runD (Pr.G (n + 0)) Lib._law_sets, l__law_sets (n + 0), sp_lsets ⟩
theorem K__law_independent (n : Nat) : Knows (Pr.G (n + 2)) "_law_independent" IsLInd := ⟨runD (Pr.G (n + 1)) Lib._law_independent, l__law_independent (n + 1), sp_lind (K__law_sets (n + 0))⟩
theorem K__law_chosen (n : Nat) : Knows (Pr.G (n + 3)) "_law_chosen" IsLChosen := ⟨runD (Pr.G (n + 2)) Lib._law_chosen, l__law_chosen (n + 2), sp_lchosen (K__law_independent (n + 0))⟩
theorem K__law_enough (n : Nat) : Knows (Pr.G (n + 4)) "_law_enough" IsLEnoughF := ⟨runD (Pr.G (n + 3)) Lib._law_enough, l__law_enough (n + 3), sp_lenoughF (K__law_chosen (n + 0))⟩
theorem K__law_least (n : Nat) : Knows (Pr.G (n + 5)) "_law_least" IsLLeastF := ⟨runD (Pr.G (n + 4)) Lib._law_least, l__law_least (n + 4), sp_lleastF (K__law_enough (n + 0))⟩
end K40

/-! k40 holds. -/
namespace K40
open PySem PySem.Spec PyProof.Rows L2 L2.Mi
open L2.Peb (PInd grdP Ofr)
/-- the sizes of the digits -/
def zz : List Int := [7, 6, 6, 6, 6, 6, 6, 6, 6, 6, 6, 6, 6, 6, 6, 6, 6, 6, 6]
theorem zz_at : ∀ k, k < 18 → gt zz (1 + k) = 6 := by decide
theorem reps (M : Mem) : binT .Mult false (.fl [.int 6, .int 6, .int 6]) (.int 6) M = some (.fl ((List.replicate 18 (6 : Int)).map T.int), M) := by
  have := bin_rep (ts := [T.int 6, T.int 6, T.int 6]) (k := 6) false (by decide) (by decide) M
  exact this
theorem adds (M : Mem) : binT .Add false (.fl [.int 7]) (.fl ((List.replicate 18 (6 : Int)).map T.int)) M = some (ilT zz, M) := by rfl
/-- the offer that is drawn -/
def ofr (n : Nat) (D : List Int) (k : Nat) : Ofr :=
  let i := (gt D (1 + 3 * k)).toNat % n
  let j := (i + 1 + (gt D (2 + 3 * k)).toNat % (n - 1)) % n
  ((if j < i then j else i, if i < j then j else i), (gt D (3 + 3 * k)).toNat)
theorem ofr_ok {n : Nat} (h : 2 ≤ n) (D : List Int) (k : Nat) : (ofr n D k).1.1 ≠ (ofr n D k).1.2 ∧ (ofr n D k).1.1 < n ∧ (ofr n D k).1.2 < n := by
  have hi : (gt D (1 + 3 * k)).toNat % n < n := Nat.mod_lt _ (by omega)
  have he : (gt D (2 + 3 * k)).toNat % (n - 1) < n - 1 := Nat.mod_lt _ (by omega)
  have hj : ((gt D (1 + 3 * k)).toNat % n + 1 + (gt D (2 + 3 * k)).toNat % (n - 1)) % n < n := Nat.mod_lt _ (by omega)
  have ne : ((gt D (1 + 3 * k)).toNat % n + 1 + (gt D (2 + 3 * k)).toNat % (n - 1)) % n ≠ (gt D (1 + 3 * k)).toNat % n := by
    generalize (gt D (1 + 3 * k)).toNat % n = i at *
    generalize (gt D (2 + 3 * k)).toNat % (n - 1) = e at *
    by_cases c : i + 1 + e < n
    · rw [Nat.mod_eq_of_lt c]; omega
    · rw [Nat.mod_eq_sub_mod (by omega), Nat.mod_eq_of_lt (by omega)]; omega
  unfold ofr
  simp only
  generalize (gt D (1 + 3 * k)).toNat % n = i at *
  generalize (i + 1 + (gt D (2 + 3 * k)).toNat % (n - 1)) % n = j at *
  refine ⟨?_, ?_, ?_⟩
  · split <;> split <;> omega
  · split <;> omega
  · split <;> omega
theorem mn (i j : Nat) (M : Mem) : biT .min [.fl [nT i, nT j]] M = some (nT (if j < i then j else i), M) := by
  show some (T.int (minL [(i : Int), (j : Int)]), M) = _
  unfold minL minL
  congr 2
  by_cases h : j < i
  · rw [if_pos h, if_pos (by omega)]; rfl
  · rw [if_neg h, if_neg (by omega)]; rfl
theorem mx (i j : Nat) (M : Mem) : biT .max [.fl [nT i, nT j]] M = some (nT (if i < j then j else i), M) := by
  show some (T.int (maxL [(i : Int), (j : Int)]), M) = _
  unfold maxL maxL
  congr 2
  by_cases h : i < j
  · rw [if_pos h, if_pos (by omega)]; rfl
  · rw [if_neg h, if_neg (by omega)]; rfl
theorem goal : Pr.Goal 12 Lib.law_k40 := by
  intro ns hlen hbits
  suffices h : ∀ M : Mem, hasTab "fewest.<locals>.<lambda>" M = true → ∃ M', runD (Pr.G 12) Lib.law_k40 [.sc ns] M = some (.bl true, M') from h _ (by decide +kernel)
  intro M hT
  have hcs := cell_sm hbits
  obtain ⟨Fn, ln, kn⟩ := K__law_net 10
  obtain ⟨Fc, lc, kc⟩ := K__law_cell 11
  obtain ⟨Fp, lp, kp⟩ := K__law_parts 11
  obtain ⟨Ff, lf, kf⟩ := K_fewest 7
  obtain ⟨Fl, ll, kl⟩ := K__law_least 7
  obtain ⟨Fe, le, ke⟩ := K__law_enough 8
  obtain ⟨Fi, li, ki⟩ := K__law_is_integer 11
  simp only [Nat.reduceAdd] at ln lc lp lf ll le li
  obtain ⟨n, P, e1, hn1, hn5, hp, hnd, hPl⟩ := kn ns 1 5 M hcs (by omega) (by omega) (by omega)
  have e1 : Fn [.sc ns, .int 1, .int 5] M = some (netT n P, M) := e1
  have hP : InN n P := fun p h => by have := hp p h; exact ⟨by omega, by omega, this.2⟩
  have c2 : Fc [.sc ns, .int 2] M = some (.int (gt ns 2), M) := kc ns 2 M
  obtain ⟨e2, hDl, hDb⟩ := draw kp hcs 2 zz (fun s hs => by
    have : s = 7 ∨ s = 6 := by simpa [zz] using hs
    omega) (by simp [zz]) M
  generalize hD : parts (gt ns 2) zz = D at *
  have hDl : D.length = 19 := hDl
  have hD0 := hDb 0 (by simp [zz])
  have hD0 : 0 ≤ gt D 0 ∧ gt D 0 < 7 := hD0
  have hDk : ∀ k, k < 18 → 0 ≤ gt D (1 + k) ∧ gt D (1 + k) < 6 := fun k hk => by
    have := hDb (1 + k) (by simp [zz]; omega)
    rw [zz_at k hk] at this
    exact this
  have x0 : ixT (netT n P) (.int 0) M = some (nT n) := rfl
  let m : Nat := if 1 < n then (gt D 0).toNat else 0
  have hm : m ≤ 6 := by simp only [m]; split <;> omega
  let os : List Ofr := (List.range m).map (ofr n D)
  have osl : os.length = m := by simp [os]
  have ho : ∀ o ∈ os, o.1.1 ≠ o.1.2 ∧ o.1.1 < n ∧ o.1.2 < n := fun o h => by
    obtain ⟨k, hk, rfl⟩ := List.mem_map.mp h
    have hk := List.mem_range.mp hk
    by_cases c : 1 < n
    · exact ofr_ok c D k
    · simp only [m, if_neg c] at hk; omega
  have h1 : n = 1 → os = [] := fun e => by
    have : m = 0 := by simp only [m]; rw [if_neg (by omega)]
    simp only [os, this]; rfl
  refine run_true rfl ?_
  simp only [Lib.law_k40]
  refine fw_nx (σ' := [some (.sc ns), some (netT n P), none, none, none, none, none, none, none, none, none, none, none]) (M' := M) ?_ ?_
  · generalize netT n P = NT at *
    simp [startE, ln, e1]
  refine fw_nx (σ' := [some (.sc ns), some (netT n P), some (nT n), none, none, none, none, none, none, none, none, none, none]) (M' := M) ?_ ?_
  · generalize netT n P = NT at *
    simp [x0]
  refine fw_nx (σ' := [some (.sc ns), some (netT n P), some (nT n), some (ilT D), none, none, none, none, none, none, none, none, none]) (M' := M) ?_ ?_
  · have r1 := reps M
    have a1 := adds M
    generalize (List.replicate 18 (6 : Int)).map T.int = RR at *
    generalize ilT zz = ZZ at *
    generalize ilT D = DD at *
    generalize netT n P = NT at *
    simp [lc, c2, lp, mkL, r1, a1, e2]
  refine fw_nx (σ' := [some (.sc ns), some (netT n P), some (nT n), some (ilT D), some (.obj M.length), none, none, none, none, none, none, none, none]) (M' := M ++ [O.lst []]) ?_ ?_
  · generalize ilT D = DD at *
    generalize netT n P = NT at *
    simp [mkL]
  have ixD : ∀ k M', k < 19 → ixT (ilT D) (nT k) M' = some (.int (gt D k)) := fun k M' h => ix_il D k M' (by omega)
  have ev : evI (Pr.G 12) (.rng1 (.bin .Mult false (.ix (.var 3 "_law_digits") (.int 0)) (.bi .int (.cons (.cmp .Gt (.var 2 "_law_n") (.int 1)) .nil)))) [some (.sc ns), some (netT n P), some (nT n), some (ilT D), some (.obj M.length), none, none, none, none, none, none, none, none] (M ++ [O.lst []]) = some ((rngL 0 (m : Int), []), M ++ [O.lst []]) := by
    have d0 : ixT (ilT D) (.int 0) (M ++ [O.lst []]) = some (.int (gt D 0)) := ixD 0 _ (by omega)
    have cg : cmpT .Gt (nT n) (.int 1) (M ++ [O.lst []]) = some (decide (1 < n)) := by
      show some (decide ((1 : Int) < (n : Int))) = _
      congr 1
      rw [decide_eq_decide]; omega
    have ib : biT .int [.bl (decide (1 < n))] (M ++ [O.lst []]) = some (nT (if 1 < n then 1 else 0), M ++ [O.lst []]) := by
      by_cases c : 1 < n
      · rw [decide_eq_true c, if_pos c]; rfl
      · rw [decide_eq_false c, if_neg c]; rfl
    have g0 : T.int (gt D 0) = nT (gt D 0).toNat := by
      show T.int _ = T.int _
      congr 1; omega
    have ml : binT .Mult false (.int (gt D 0)) (nT (if 1 < n then 1 else 0)) (M ++ [O.lst []]) = some (nT m, M ++ [O.lst []]) := by
      rw [g0, mul_nT _ _ (by omega) (by split <;> omega)]
      congr 3
      simp only [m]
      split <;> omega
    have rg := rg1_n (n := m) (by omega)
    clear_value m
    generalize ilT D = DD at *
    generalize netT n P = NT at *
    generalize decide (1 < n) = db at *
    generalize (if 1 < n then 1 else 0) = e01 at *
    simp [d0, cg, ib, ml, rg]
  rw [xs_cons, exS_for, ev]
  simp only [Option.bind_some]
  refine wp_fr (fun k σ M' => M' = M ++ [O.lst (((List.range k).map (ofr n D)).map offT)] ∧ ∃ a b d, σ = [some (.sc ns), some (netT n P), some (nT n), some (ilT D), some (.obj M.length), a, b, d, none, none, none, none, none]) ⟨rfl, _, _, _, rfl⟩ (fun _ _ _ _ => by simp) ?_ ?_
  · intro k x σ M' hx ⟨hM', a0, b0, d0, hσ⟩
    subst hσ
    obtain ⟨hk, rfl⟩ := rng_get hx
    have n2 : 1 < n := by
      apply Classical.byContradiction
      intro c
      simp only [m, if_neg c] at hk; omega
    have k6 : k < 6 := by omega
    have s1 := hDk (3 * k) (by omega)
    have s2 := hDk (1 + 3 * k) (by omega)
    have s3 := hDk (2 + 3 * k) (by omega)
    rw [show 1 + (1 + 3 * k) = 2 + 3 * k by omega] at s2
    rw [show 1 + (2 + 3 * k) = 3 + 3 * k by omega] at s3
    have tn : ∀ z : Int, 0 ≤ z → T.int z = nT z.toNat := fun z hz => by
      show T.int _ = T.int _
      congr 1; omega
    have g1 : ixT (ilT D) (nT (1 + 3 * k)) M' = some (nT (gt D (1 + 3 * k)).toNat) := by rw [ixD _ _ (by omega), tn _ s1.1]
    have g2 : ixT (ilT D) (nT (2 + 3 * k)) M' = some (nT (gt D (2 + 3 * k)).toNat) := by rw [ixD _ _ (by omega), tn _ s2.1]
    have g3 : ixT (ilT D) (nT (3 + 3 * k)) M' = some (nT (gt D (3 + 3 * k)).toNat) := by rw [ixD _ _ (by omega), tn _ s3.1]
    have m3 : binT .Mult false (.int 3) (nT k) M' = some (nT (3 * k), M') := mul_nT 3 k (by decide) (by omega) false M'
    have p1 : binT .Add false (.int 1) (nT (3 * k)) M' = some (nT (1 + 3 * k), M') := bin_add_nn false 1 (3 * k) M'
    have p2 : binT .Add false (.int 2) (nT (3 * k)) M' = some (nT (2 + 3 * k), M') := bin_add_nn false 2 (3 * k) M'
    have p3 : binT .Add false (.int 3) (nT (3 * k)) M' = some (nT (3 + 3 * k), M') := bin_add_nn false 3 (3 * k) M'
    have ii : ∀ z, biT .int [nT z] M' = some (nT z, M') := fun z => rfl
    have md := fun z => bin_mod_nT z n (by omega) false M'
    have md1 := fun z => bin_mod_nT z (n - 1) (by omega) false M'
    have sb : binT .Sub false (nT n) (.int 1) M' = some (nT (n - 1), M') := by
      show some (T.int ((n : Int) - 1), M') = some (T.int ((n - 1 : Nat) : Int), M')
      congr 3; omega
    have i1 := fun z => add_one_n false z M'
    have at1 : M'[M.length]? = some (O.lst (((List.range k).map (ofr n D)).map offT)) := by rw [hM']; exact lst_last M _
    have ap := bm_append (x := offT (ofr n D k)) at1 (by simp; omega)
    have ap2 : M'.set M.length (.lst (((List.range k).map (ofr n D)).map offT ++ [offT (ofr n D k)])) = M ++ [.lst (((List.range (k + 1)).map (ofr n D)).map offT)] := by
      rw [hM', lst_set, List.range_succ, List.map_append, List.map_append]; rfl
    rw [ap2] at ap
    have lfo := lof_obj' at1
    have oE : offT (ofr n D k) = .tup [nT (if ((gt D (1 + 3 * k)).toNat % n + 1 + (gt D (2 + 3 * k)).toNat % (n - 1)) % n < (gt D (1 + 3 * k)).toNat % n then ((gt D (1 + 3 * k)).toNat % n + 1 + (gt D (2 + 3 * k)).toNat % (n - 1)) % n else (gt D (1 + 3 * k)).toNat % n), nT (if (gt D (1 + 3 * k)).toNat % n < ((gt D (1 + 3 * k)).toNat % n + 1 + (gt D (2 + 3 * k)).toNat % (n - 1)) % n then ((gt D (1 + 3 * k)).toNat % n + 1 + (gt D (2 + 3 * k)).toNat % (n - 1)) % n else (gt D (1 + 3 * k)).toNat % n), nT (gt D (3 + 3 * k)).toNat] := rfl
    rw [oE] at ap
    have ad2 : ∀ a b, binT .Add false (nT a) (nT b) M' = some (nT (a + b), M') := fun a b => bin_add_nn false a b M'
    have mn' := fun i j => mn i j M'
    have mx' := fun i j => mx i j M'
    generalize ((List.range (k + 1)).map (ofr n D)).map offT = R1 at *
    generalize ((List.range k).map (ofr n D)).map offT = R0 at *
    generalize (gt D (1 + 3 * k)).toNat = A1 at *
    generalize (gt D (2 + 3 * k)).toNat = A2 at *
    generalize (gt D (3 + 3 * k)).toNat = A3 at *
    generalize 1 + 3 * k = k1 at *
    generalize 2 + 3 * k = k2 at *
    generalize 3 + 3 * k = k3 at *
    generalize 3 * k = kk at *
    generalize ilT D = DD at *
    generalize netT n P = NT at *
    have e1' := md A1
    have e2' := md1 A2
    have e3' := i1 (A1 % n)
    have e4' := ad2 (A1 % n + 1) (A2 % (n - 1))
    have e5' := md (A1 % n + 1 + A2 % (n - 1))
    have e6' := mn' (A1 % n) ((A1 % n + 1 + A2 % (n - 1)) % n)
    have e7' := mx' (A1 % n) ((A1 % n + 1 + A2 % (n - 1)) % n)
    clear md md1 i1 ad2 mn' mx'
    generalize (A1 % n + 1 + A2 % (n - 1)) % n = J at *
    generalize A1 % n + 1 + A2 % (n - 1) = J0 at *
    generalize A2 % (n - 1) = E at *
    generalize A1 % n + 1 = I1 at *
    generalize A1 % n = I at *
    generalize (if J < I then J else I) = MN at *
    generalize (if I < J then J else I) = MX at *
    generalize n - 1 = n' at *
    simp [m3, p1, p2, p3, g1, g2, g3, ii, e1', e2', e3', e4', e5', e6', e7', sb, mkL, lfo, ap]
  · intro σ M' ⟨hM', a0, b0, d0, hσ⟩
    subst hσ
    rw [rng_lenT] at hM'
    have hoE : (List.range m).map (ofr n D) = os := rfl
    rw [hoE] at hM'
    have at1 : M'[M.length]? = some (O.lst (os.map offT)) := by rw [hM']; exact lst_last M _
    have hT' : hasTab "fewest.<locals>.<lambda>" M' = true := hasTab_of hT fun x hx => by
      rw [hM', List.getElem?_append_left (List.getElem?_eq_some_iff.mp hx).1]; exact hx
    obtain ⟨r, e3, hbest⟩ := kl n P os M' M.length (by omega) hP (by omega) ho (by omega) at1
    have e4 := kf n P os M' M.length hP (by omega) (by omega) ho (by omega) at1 hT'
    obtain ⟨q1, q2⟩ := fewest_ok hP ho hn1 h1 hbest
    have kept : biT (.list false) [.obj M.length] M' = some (.fl (os.map offT), M') := by
      show (sof M' (.obj M.length)).map (fun ts => mkL false ts M') = _
      rw [sof_obj at1]; rfl
    have lno : biT .len [.obj M.length] M' = some (nT os.length, M') := by
      have := len_lst at1
      rw [List.length_map] at this
      exact this
    rcases hbest with ⟨rfl, _⟩ | ⟨v, rfl, _⟩
    · rw [q1 rfl] at e4
      have is1 : cmpT .Is .non .non M' = some true := rfl
      clear q1 q2
      clear_value os m
      generalize ilT D = DD at *
      generalize netT n P = NT at *
      generalize os.map offT = OT at *
      simp [ll, e3, kept, lf, e4, is1, truth]
    · obtain ⟨w1, w2, w3, w4⟩ := q2 v rfl
      rw [w1] at e4
      have sp := srt_perm (gF n P os)
      have sub := Peb.tkG_sub (n := n) (f := fO os) (asO os) (grdP n [] P)
      have gnd : (gF n P os).Nodup := sub.nodup (asO_nd os)
      have snd : (srtN (gF n P os)).Nodup := sp.nodup_iff.mpr gnd
      have Xlt : ∀ t ∈ srtN (gF n P os), t < os.length := fun t ht => asO_lt (sub.subset (sp.mem_iff.mp ht))
      have Xl : (srtN (gF n P os)).length ≤ 6 := by
        rw [sp.length_eq]
        have := sub.length_le
        rw [asO_len] at this
        have h : (gF n P os).length ≤ os.length := this
        omega
      have Xup : (srtN (gF n P os)).Pairwise (· < ·) := by
        have := (srt_up (gF n P os)).and snd
        exact this.imp fun h => Nat.lt_of_le_of_ne h.1 h.2
      clear w1 sp gnd sub snd
      generalize srtN (gF n P os) = X at *
      -- found is as it should be
      have sS : ((intsOf (X.map nT)).bind fun ns => if ns.length < 64 then some (ilT (sortI (ddp ns)), M') else none) = some (.fl (X.map nT), M') := by
        rw [intsOf_nT]
        simp only [Option.bind_some]
        rw [if_pos (by rw [List.length_map]; omega)]
        show some (T.fl ((sortI (ddp (X.map fun k : Nat => (k : Int)))).map T.int), M') = _
        rw [srtD_int, ← (srtD_eq X).mpr Xup]
      have okX : ∀ X : List Nat, okTs (X.map nT) = true := fun X => by
        induction X with
        | nil => rfl
        | cons x X ih => rw [List.map_cons, okTs, ih]; rfl
      have dX : ∀ X : List Nat, depTs (X.map nT) ≤ 58 := fun X => by
        induction X with
        | nil => exact Nat.zero_le _
        | cons x X ih =>
          rw [List.map_cons, depTs]
          have : depT (nT x) = 0 := rfl
          omega
      have ne2 : cmpT .NotEq (.fl (X.map nT)) (.fl (X.map nT)) M' = some false := cmpne_of (eqv_self M' (by unfold okT; exact okX X) (by unfold depT; have := dX X; omega))
      have ne1 : cmpT .NotEq (.obj M.length) (.fl (os.map offT)) M' = some false := cmpne_of (eqv_offs os at1)
      have is1 : cmpT .Is (nT v) .non M' = some false := rfl
      have isl : isiT M' "list" (.fl (X.map nT)) = some true := rfl
      have sX : sof M' (.fl (X.map nT)) = some (X.map nT) := rfl
      have gX : grdOf (.fl (X.map nT)) (X.map nT) = [] := rfl
      obtain ⟨A, b, hW, e5, hb⟩ := ke n P os X M' M.length (by omega) hP (by omega) ho (by omega) Xlt at1
      have hbt : b = true := hb.mpr ((en_iff hP ho Xlt hW).mp w2)
      subst hbt
      have lc1 : lcr (Pr.G 12) (.nm 11 "_law_at") (.cons (.or (.not (.call "_law_is_integer" (.cons (.var 11 "_law_at") .nil))) (.or (.cmp .Lt (.var 11 "_law_at") (.int 0)) (.one (.cmp .GtE (.var 11 "_law_at") (.bi .len (.cons (.var 4 "_law_offers") .nil)))))) .nil) (.var 11 "_law_at") [some (.sc ns), some (netT n P), some (nT n), some (ilT D), some (.obj M.length), a0, b0, d0, some (nT v), some (.fl (os.map offT)), some (.fl (X.map nT)), none, none] [] (X.map nT) M' = some ([], M') := by
        have := lcr_if (G := Pr.G 12) (tg := .nm 11 "_law_at") (ifs := .cons (.or (.not (.call "_law_is_integer" (.cons (.var 11 "_law_at") .nil))) (.or (.cmp .Lt (.var 11 "_law_at") (.int 0)) (.one (.cmp .GtE (.var 11 "_law_at") (.bi .len (.cons (.var 4 "_law_offers") .nil)))))) .nil) (elt := .var 11 "_law_at") (σ := [some (.sc ns), some (netT n P), some (nT n), some (ilT D), some (.obj M.length), a0, b0, d0, some (nT v), some (.fl (os.map offT)), some (.fl (X.map nT)), none, none]) (g := []) (M := M') nT (fun _ => false) nT (by simp) (xs := X) fun t ht => ?_
        · rw [show X.filter (fun _ => false) = [] from List.filter_eq_nil_iff.mpr (by simp)] at this
          exact this
        have ii : Fi [nT t] M' = some (.bl true, M') := ki (t : Int) M'
        have c1 : cmpT .Lt (nT t) (.int 0) M' = some false := by
          show some (decide ((t : Int) < 0)) = _
          exact congrArg some (decide_eq_false (by omega))
        have c2 : cmpT .GtE (nT t) (nT os.length) M' = some false := by
          show some (decide ((os.length : Int) ≤ (t : Int))) = _
          have := Xlt t ht
          exact congrArg some (decide_eq_false (by omega))
        clear_value os m
        generalize ilT D = DD at *
        generalize netT n P = NT at *
        generalize os.map offT = OT at *
        generalize X.map nT = XT at *
        generalize nT t = TT at *
        generalize nT os.length = OL at *
        simp [stepL, li, ii, c1, c2, lno, truth]
      have lcc : lcr (Pr.G 12) (.nm 11 "_law_at") .nil (.ix (.ix (.var 4 "_law_offers") (.var 11 "_law_at")) (.int 2)) [some (.sc ns), some (netT n P), some (nT n), some (ilT D), some (.obj M.length), a0, b0, d0, some (nT v), some (.fl (os.map offT)), some (.fl (X.map nT)), none, none] [] (X.map nT) M' = some (X.map (fun a => T.int (cO os a : Int)), M') := by
        refine lcr_of (tg := .nm 11 "_law_at") nT (fun a => T.int (cO os a : Int)) (by simp) fun a ha => ?_
        have hlt := Xlt a ha
        have g : ixT (.obj M.length) (nT a) M' = some (offT os[a]) := by
          unfold nT
          rw [ix_obj at1, atI_n, List.getElem?_map, List.getElem?_eq_getElem hlt]; rfl
        have g2 : ixT (offT os[a]) (.int 2) M' = some (.int (cO os a : Int)) := by rw [(fO_get hlt).2]; rfl
        generalize ilT D = DD at *
        generalize netT n P = NT at *
        generalize offT os[a] = OA at *
        generalize os.map offT = OT at *
        generalize (cO os a : Int) = cz at *
        generalize X.map nT = XT at *
        generalize nT a = AT at *
        simp [stepL, g, g2]
      have c16 : (X.map (fun a => T.int (cO os a : Int))).length ≤ 16777216 := by rw [List.length_map]; omega
      have sm : biT .sum [.fl (X.map fun a => T.int (cO os a : Int))] M' = some (nT v, M') := by
        rw [sum_map (fun a => (cO os a : Int)), cst_int, w3]; rfl
      have nev : cmpT .NotEq (nT v) (nT v) M' = some false := cmpne_of (eqv_self M' rfl (Nat.zero_le _))
      have lc2 : lcr (Pr.G 12) (.nm 11 "_law_at") (.cons (.call "_law_enough" (.cons (.var 1 "_law_net_here") (.cons (.var 4 "_law_offers") (.cons (.lc false [("_law_other", 12)] (.nm 12 "_law_other") (.over (.var 10 "_law_found")) (.cons (.cmp .NotEq (.var 12 "_law_other") (.var 11 "_law_at")) .nil) (.var 12 "_law_other")) .nil)))) .nil) (.var 11 "_law_at") [some (.sc ns), some (netT n P), some (nT n), some (ilT D), some (.obj M.length), a0, b0, d0, some (nT v), some (.fl (os.map offT)), some (.fl (X.map nT)), none, none] [] (X.map nT) M' = some ([], M') := by
        have := lcr_if (G := Pr.G 12) (tg := .nm 11 "_law_at") (ifs := .cons (.call "_law_enough" (.cons (.var 1 "_law_net_here") (.cons (.var 4 "_law_offers") (.cons (.lc false [("_law_other", 12)] (.nm 12 "_law_other") (.over (.var 10 "_law_found")) (.cons (.cmp .NotEq (.var 12 "_law_other") (.var 11 "_law_at")) .nil) (.var 12 "_law_other")) .nil)))) .nil) (elt := .var 11 "_law_at") (σ := [some (.sc ns), some (netT n P), some (nT n), some (ilT D), some (.obj M.length), a0, b0, d0, some (nT v), some (.fl (os.map offT)), some (.fl (X.map nT)), none, none]) (g := []) (M := M') nT (fun _ => false) nT (by simp) (xs := X) fun t ht => ?_
        · rw [show X.filter (fun _ => false) = [] from List.filter_eq_nil_iff.mpr (by simp)] at this
          exact this
        have Ul : (X.filter fun u => !decide (u = t)).length ≤ 6 := Nat.le_trans (List.length_filter_le _ _) Xl
        have Ult : ∀ u ∈ X.filter (fun u => !decide (u = t)), u < os.length := fun u hu => Xlt u (List.mem_filter.mp hu).1
        obtain ⟨B, b2, hW2, e6, hb2⟩ := ke n P os (X.filter fun u => !decide (u = t)) M' M.length (by omega) hP (by omega) ho (by omega) Ult at1
        have b2f : b2 = false := by
          cases b2 with
          | false => rfl
          | true => exact absurd ((en_iff hP ho Ult hW2).mpr (hb2.mp rfl)) (w4 t ht)
        subst b2f
        have inner : ∀ (z : Option T), lcr (Pr.G 12) (.nm 12 "_law_other") (.cons (.cmp .NotEq (.var 12 "_law_other") (.var 11 "_law_at")) .nil) (.var 12 "_law_other") [some (.sc ns), some (netT n P), some (nT n), some (ilT D), some (.obj M.length), a0, b0, d0, some (nT v), some (.fl (os.map offT)), some (.fl (X.map nT)), some (nT t), none] [] (X.map nT) M' = some ((X.filter fun u => !decide (u = t)).map nT, M') := fun _ => by
          refine lcr_if nT (fun u => !decide (u = t)) nT (by simp) fun u hu => ?_
          have ne : cmpT .NotEq (nT u) (nT t) M' = some (!decide (u = t)) := cmp_ne_nT u t M'
          generalize ilT D = DD at *
          generalize netT n P = NT at *
          generalize os.map offT = OT at *
          generalize X.map nT = XT at *
          generalize nT u = UT at *
          generalize nT t = TT at *
          generalize decide (u = t) = dd at *
          simp [stepL, ne]
          cases dd <;> rfl
        have inner := inner none
        have u16 : ((X.filter fun u => !decide (u = t)).map nT).length ≤ 16777216 := by rw [List.length_map]; omega
        clear_value os m
        generalize ilT D = DD at *
        generalize netT n P = NT at *
        generalize os.map offT = OT at *
        generalize (X.filter fun u => !decide (u = t)).map nT = UT at *
        generalize X.map nT = XT at *
        generalize nT t = TT at *
        simp [stepL, sX, gX, wipeE, inner, u16, mkL, le, e6, truth]
      have ln0 : biT .len [.fl []] M' = some (.int 0, M') := rfl
      have cg0 : cmpT .Gt (.int 0) (.int 0) M' = some false := rfl
      have ce0 : cmpT .Eq (.int 0) (.int 0) M' = some true := by rw [cmp_eq]; rfl
      clear w2 w3 w4 hW hb
      clear_value os m
      generalize X.map (fun a => T.int (cO os a : Int)) = CC at *
      generalize ilT D = DD at *
      generalize netT n P = NT at *
      generalize os.map offT = OT at *
      generalize X.map nT = XT at *
      simp [ll, e3, kept, lf, e4, is1, truth, isl, ne1, sX, gX, sS, ne2, wipeE, lc1, ln0, cg0, le, e5, lcc, c16, mkL, sm, nev, lc2, ce0]
end K40

open PySem PySem.W PySem.Calls PyProof.Rows
set_option maxHeartbeats 0 in
theorem PySem.Challenge.cw_loadorloose_k40_fewest_offers_holds : PySem.Challenge.rw_loadorloose_k40_fewest_offers.Holds := by
  w_on; o_law
  refine HandSHeadRun.head_any (r := OpenLaw.row PySem.Challenge.rw_loadorloose_k40_fewest_offers) (q := view (OpenLaw.row PySem.Challenge.rw_loadorloose_k40_fewest_offers).prog [14]) (H := L2.Mi.Prog.hook K40.Pr 6) (ob := L2.Mi.Prog.obs K40.Pr 6) (M := 4000) (loose := K40.names) (d := HandSHeadRun.topDef (OpenLaw.row PySem.Challenge.rw_loadorloose_k40_fewest_offers).prog 14) (kwd := []) (L2.Mi.Prog.obs_eq K40.Pr 6)
    (by kernel_rfl) (fun s => by kernel_rfl) K40.run (by kernel_rfl) (by kernel_rfl) (by kernel_rfl) (by rfl) (by first | assumption | decide +kernel) (by decide +kernel) ⟨rfl, rfl, rfl, rfl, rfl, by decide +kernel⟩ ?hw ?hc
  case hw => w_witness2
  case hc =>
    exact L2.Mi.mini_walk (l := PySem.Challenge.rw_loadorloose_k40_fewest_offers) (P := K40.Pr) (n := 12) (x := "_law_script") (xl := K40.i_law) rfl (by kernel_rfl) (by kernel_rfl) (Or.inl rfl) K40.oks K40.binds K40.isLaw rfl (by decide) (by kernel_rfl) rfl K40.goal


import PyProof.Rows.All
import Wide.All
import OpenK.AllK
import Wide.FinOn
import HandS.ForMost
import HandS.Wide
import HandS.Flow
import HandS.Style
import HandS.TupAny
import HandS.TupMul
import HandS.IsInst
import HandS.SetFor
import HandS.DictComp
import KE.GoesNew
import HandS.Small
import HandS.Deep
import HandS.TupLen
import HandS.More
import HandS.Words
import HandS.WordsExc
import HandS.Defaults
import HandS.Head0
import HandS.Head1
import HandS.Head2
import HandS.HeadEnd
import HandS.EndBits
import HandS.HeadHook1
import HandS.HeadHook2
import HandS.Codes
import PySem.Challenge.RW_loadorloose_k01_numbers
set_option Elab.async false
set_option linter.all false
set_option maxRecDepth 100000
set_option maxHeartbeats 4000000
set_option autoImplicit false
/-! Mini: values as trees, numbered memory, and how they lie in the abstract heap. -/
namespace L2
namespace Mi
open PySem PySem.Spec PyProof.Rows

inductive T where
  | non | bl (b : Bool) | int (i : Int) | str (x : Str)
  | tup (ts : List T) | fl (ts : List T) | fd (tk : Bool) (ks ts : List T) | sc (ns : List Int) | obj (i : Nat)

inductive O where
  | lst (ts : List T) | dic (tk : Bool) (ks ts : List T) | ins (c : Str) (fs : List (Str × T))

abbrev Mem := List O
abbrev En := List (Option T)

def keyT : Key → T
  | .inl i => .int i
  | .inr x => .str x
def keyTT (l : List Key) : T := .tup (l.map keyT)

/-- the written part; are there tuples in it that are used; where the classes stand -/
structure KC where
  K : PySem.W.Frag
  kt : Bool
  ca : Str → Addr
def KTp (K : PySem.W.Frag) (a : Addr) (xs : List V) : Prop :=
  ∃ (o : Obj) (its : Array Value) (n : Nat), K.lookup a = some o ∧ o.cls = .type "tuple" ∧ o.data = .seq its n ∧ its.size ≤ sizeLine ∧ Vals xs its.toList
def KLp (K : PySem.W.Frag) (a : Addr) (xs : List V) : Prop :=
  ∃ (o : Obj) (its : Array Value) (n : Nat), K.lookup a = some o ∧ o.cls = .type "list" ∧ o.dict = none ∧ o.data = .seq its n ∧ its.size ≤ sizeLine ∧ Vals xs its.toList
/-- not ours, not reserved -/
def Fre (φ ψ : List Addr) (a : Addr) : Prop := a ∉ φ ∧ a ∉ ψ
def FzT (K : KC) (φ ψ : List Addr) (H : Hp) (a : Addr) (vs : List V) : Prop := (Fre φ ψ a ∧ H a = some (.tup vs)) ∨ (K.kt = true ∧ KTp K.K a vs)
def FzL (K : KC) (φ ψ : List Addr) (H : Hp) (a : Addr) (vs : List V) : Prop := (Fre φ ψ a ∧ Rd H a (.lst vs)) ∨ KLp K.K a vs
theorem FzT.sq {K : KC} {φ ψ : List Addr} {H : Hp} {a : Addr} {vs : List V} (h : FzT K φ ψ H a vs) : SqT K.K H a vs := h.elim (fun h => .inl (.inl h.2)) fun h => .inr h.2
theorem FzL.sq {K : KC} {φ ψ : List Addr} {H : Hp} {a : Addr} {vs : List V} (h : FzL K φ ψ H a vs) : SqL K.K H a vs := h.elim (fun h => .inl h.2) .inr

mutual
inductive RT (K : KC) (φ ψ : List Addr) (H : Hp) : T → V → Prop
  | non : RT K φ ψ H .non .non
  | bl (b : Bool) : RT K φ ψ H (.bl b) (.bl b)
  | int (i : Int) : RT K φ ψ H (.int i) (.int i)
  | str (x : Str) : RT K φ ψ H (.str x) (.str x)
  | tup {a : Addr} {vs : List V} {ts : List T} : FzT K φ ψ H a vs → RTs K φ ψ H ts vs → RT K φ ψ H (.tup ts) (.ref a)
  | fl {a : Addr} {vs : List V} {ts : List T} : Fre φ ψ a → H a = some (.lst vs) → RTs K φ ψ H ts vs → RT K φ ψ H (.fl ts) (.ref a)
  | fdK {a : Addr} {kvs : List (Key × V)} {ks ts : List T} : Fre φ ψ a → H a = some (.dK kvs) → ks = kvs.map (fun p => keyT p.1) → RTs K φ ψ H ts (kvs.map (·.2)) → RT K φ ψ H (.fd false ks ts) (.ref a)
  | fdT {a : Addr} {kvs : List (List Key × V)} {ks ts : List T} : K.kt = false → Fre φ ψ a → H a = some (.dT kvs) → ks = kvs.map (fun p => keyTT p.1) → RTs K φ ψ H ts (kvs.map (·.2)) → RT K φ ψ H (.fd true ks ts) (.ref a)
  | sc {a : Addr} {ns : List Int} : FzL K φ ψ H a (ns.map V.int) → RT K φ ψ H (.sc ns) (.ref a)
  | obj {a : Addr} {i : Nat} : φ[i]? = some a → RT K φ ψ H (.obj i) (.ref a)
inductive RTs (K : KC) (φ ψ : List Addr) (H : Hp) : List T → List V → Prop
  | nil : RTs K φ ψ H [] []
  | cons {t : T} {v : V} {ts : List T} {vs : List V} : RT K φ ψ H t v → RTs K φ ψ H ts vs → RTs K φ ψ H (t :: ts) (v :: vs)
end

/-- what stood and is not ours stands; what is ours grows -/
structure Ext (φ : List Addr) (H : Hp) (φ' : List Addr) (H' : Hp) : Prop where
  pre : φ <+: φ'
  keep : ∀ a o, a ∉ φ → H a = some o → a ∉ φ' ∧ H' a = some o

theorem Ext.refl {φ : List Addr} {H : Hp} : Ext φ H φ H := ⟨List.prefix_rfl, fun _ _ h e => ⟨h, e⟩⟩
theorem Ext.trans {φ φ1 φ2 : List Addr} {H H1 H2 : Hp} (x : Ext φ H φ1 H1) (y : Ext φ1 H1 φ2 H2) : Ext φ H φ2 H2 :=
  ⟨x.pre.trans y.pre, fun a o h e => let ⟨h1, e1⟩ := x.keep a o h e; y.keep a o h1 e1⟩
theorem Ext.get {φ φ' : List Addr} {H H' : Hp} (x : Ext φ H φ' H') {i : Nat} {a : Addr} (e : φ[i]? = some a) : φ'[i]? = some a := by
  obtain ⟨r, rfl⟩ := x.pre
  obtain ⟨h, _⟩ := List.getElem?_eq_some_iff.mp e
  rw [List.getElem?_append_left h]
  exact e
/-- what is not ours and not reserved is carried over -/
structure Tr (φ ψ : List Addr) (H : Hp) (φ' ψ' : List Addr) (H' : Hp) : Prop where
  get : ∀ (i : Nat) (a : Addr), φ[i]? = some a → φ'[i]? = some a
  keep : ∀ a o, Fre φ ψ a → H a = some o → Fre φ' ψ' a ∧ H' a = some o
theorem Ext.tr {φ φ' : List Addr} {H H' : Hp} (x : Ext φ H φ' H') (ψ : List Addr) : Tr φ ψ H φ' ψ H' :=
  ⟨fun _ _ e => x.get e, fun a o h e => let ⟨h1, e1⟩ := x.keep a o h.1 e; ⟨⟨h1, h.2⟩, e1⟩⟩
/-- a new reserved address -/
theorem Tr.resv {φ ψ : List Addr} {H : Hp} {D : Addr} {o : HO} (hD : H D = none) : Tr φ ψ H φ (D :: ψ) (upd H D o) :=
  ⟨fun _ _ e => e, fun a u h e => by
    have ne : a ≠ D := ne_of_none e hD
    exact ⟨⟨h.1, fun hm => (List.mem_cons.mp hm).elim ne h.2⟩, by rw [upd_ne ne]; exact e⟩⟩
theorem Tr.unres {φ ψ : List Addr} {H : Hp} {D : Addr} : Tr φ (D :: ψ) H φ ψ H :=
  ⟨fun _ _ e => e, fun _ _ h e => ⟨⟨h.1, fun hm => h.2 (List.mem_cons_of_mem _ hm)⟩, e⟩⟩
/-- what stands at a reserved address is changed -/
theorem Tr.resw {φ ψ : List Addr} {H : Hp} {D : Addr} {o : HO} : Tr φ (D :: ψ) H φ (D :: ψ) (upd H D o) :=
  ⟨fun _ _ e => e, fun a u h e => ⟨h, by rw [upd_ne (fun z => h.2 (by rw [z]; exact List.mem_cons_self))]; exact e⟩⟩
section
variable {K : KC} {φ φ' ψ ψ' : List Addr} {H H' : Hp}
theorem FzT.tr {a : Addr} {vs : List V} (x : Tr φ ψ H φ' ψ' H') (h : FzT K φ ψ H a vs) : FzT K φ' ψ' H' a vs := by
  rcases h with ⟨h1, h2⟩ | h
  · obtain ⟨a1, a2⟩ := x.keep _ _ h1 h2; exact .inl ⟨a1, a2⟩
  · exact .inr h
theorem FzL.tr {a : Addr} {vs : List V} (x : Tr φ ψ H φ' ψ' H') (h : FzL K φ ψ H a vs) : FzL K φ' ψ' H' a vs := by
  rcases h with ⟨h1, h2⟩ | h
  · rcases h2 with h2 | ⟨o, h2⟩
    · obtain ⟨a1, a2⟩ := x.keep _ _ h1 h2; exact .inl ⟨a1, .inl a2⟩
    · obtain ⟨a1, a2⟩ := x.keep _ _ h1 h2; exact .inl ⟨a1, .inr ⟨o, a2⟩⟩
  · exact .inr h
mutual
theorem RT.tr (x : Tr φ ψ H φ' ψ' H') : ∀ (t : T) (v : V), RT K φ ψ H t v → RT K φ' ψ' H' t v
  | .non, _, h => by cases h; exact .non
  | .bl b, _, h => by cases h; exact .bl b
  | .int i, _, h => by cases h; exact .int i
  | .str s, _, h => by cases h; exact .str s
  | .tup ts, _, h => by
    cases h with
    | tup h1 h2 => exact .tup (h1.tr x) (RTs.tr x ts _ h2)
  | .fl ts, _, h => by
    cases h with
    | fl h1 h2 h3 => exact .fl (x.keep _ _ h1 h2).1 (x.keep _ _ h1 h2).2 (RTs.tr x ts _ h3)
  | .fd tk ks ts, _, h => by
    cases h with
    | fdK h1 h2 h3 h4 => exact .fdK (x.keep _ _ h1 h2).1 (x.keep _ _ h1 h2).2 h3 (RTs.tr x ts _ h4)
    | fdT h0 h1 h2 h3 h4 => exact .fdT h0 (x.keep _ _ h1 h2).1 (x.keep _ _ h1 h2).2 h3 (RTs.tr x ts _ h4)
  | .sc ns, _, h => by cases h with | sc h => exact .sc (h.tr x)
  | .obj i, _, h => by cases h with | obj h => exact .obj (x.get _ _ h)
theorem RTs.tr (x : Tr φ ψ H φ' ψ' H') : ∀ (ts : List T) (vs : List V), RTs K φ ψ H ts vs → RTs K φ' ψ' H' ts vs
  | [], _, h => by cases h; exact .nil
  | t :: ts, _, h => by
    cases h with
    | cons h1 h2 => exact .cons (RT.tr x t _ h1) (RTs.tr x ts _ h2)
end
end
section
variable {K : KC} {φ φ' ψ ψ' : List Addr} {H H' : Hp}
theorem RT.ext (x : Ext φ H φ' H') (t : T) (v : V) (h : RT K φ ψ H t v) : RT K φ' ψ H' t v := RT.tr (x.tr ψ) t v h
theorem RTs.ext (x : Ext φ H φ' H') (t : List T) (v : List V) (h : RTs K φ ψ H t v) : RTs K φ' ψ H' t v := RTs.tr (x.tr ψ) t v h
theorem RT.to {t : T} {v : V} (h : RT K φ ψ H t v) (x : Ext φ H φ' H') : RT K φ' ψ H' t v := RT.ext x t v h
theorem RTs.to {t : List T} {v : List V} (h : RTs K φ ψ H t v) (x : Ext φ H φ' H') : RTs K φ' ψ H' t v := RTs.ext x t v h
theorem RTs.length : ∀ {ts : List T} {vs : List V}, RTs K φ ψ H ts vs → ts.length = vs.length
  | _, _, .nil => rfl
  | _, _, .cons _ h => by rw [List.length_cons, List.length_cons, RTs.length h]
theorem RTs.get : ∀ {ts : List T} {vs : List V} {i : Nat} {t : T}, RTs K φ ψ H ts vs → ts[i]? = some t → ∃ v, vs[i]? = some v ∧ RT K φ ψ H t v
  | _, _, _, _, .nil, e => by simp at e
  | _, _, 0, _, .cons h _, e => by simp at e; subst e; exact ⟨_, rfl, h⟩
  | _, _, i + 1, t, .cons _ h, e => by
    obtain ⟨v, h1, h2⟩ := RTs.get (i := i) (t := t) h (by simpa using e)
    exact ⟨v, by simpa using h1, h2⟩
theorem RTs.getV : ∀ {ts : List T} {vs : List V} {i : Nat} {v : V}, RTs K φ ψ H ts vs → vs[i]? = some v → ∃ t, ts[i]? = some t ∧ RT K φ ψ H t v
  | _, _, _, _, .nil, e => by simp at e
  | _, _, 0, _, .cons h _, e => by simp at e; subst e; exact ⟨_, rfl, h⟩
  | _, _, i + 1, t, .cons _ h, e => by
    obtain ⟨v, h1, h2⟩ := RTs.getV (i := i) (v := t) h (by simpa using e)
    exact ⟨v, by simpa using h1, h2⟩
theorem RTs.append : ∀ {ts ts' : List T} {vs vs' : List V}, RTs K φ ψ H ts vs → RTs K φ ψ H ts' vs' → RTs K φ ψ H (ts ++ ts') (vs ++ vs')
  | _, _, _, _, .nil, s => s
  | _, _, _, _, .cons r t, s => .cons r (RTs.append t s)
theorem RTs.take : ∀ {ts : List T} {vs : List V} (n : Nat), RTs K φ ψ H ts vs → RTs K φ ψ H (ts.take n) (vs.take n)
  | _, _, 0, _ => .nil
  | _, _, _ + 1, .nil => .nil
  | _, _, n + 1, .cons r t => .cons r (RTs.take n t)
theorem RTs.drop : ∀ {ts : List T} {vs : List V} (n : Nat), RTs K φ ψ H ts vs → RTs K φ ψ H (ts.drop n) (vs.drop n)
  | _, _, 0, r => r
  | _, _, _ + 1, .nil => .nil
  | _, _, n + 1, .cons _ t => RTs.drop n t
theorem RTs.set {t : T} {v : V} (r : RT K φ ψ H t v) : ∀ {ts : List T} {vs : List V} (i : Nat), RTs K φ ψ H ts vs → RTs K φ ψ H (ts.set i t) (vs.set i v)
  | _, _, _, .nil => .nil
  | _, _, 0, .cons _ t => .cons r t
  | _, _, i + 1, .cons q t => .cons q (RTs.set r i t)
theorem RTs.reverse {ts : List T} {vs : List V} (h : RTs K φ ψ H ts vs) : RTs K φ ψ H ts.reverse vs.reverse := by
  induction ts generalizing vs with
  | nil => cases h; exact .nil
  | cons t ts ih =>
    cases h with
    | cons h1 h2 => rw [List.reverse_cons, List.reverse_cons]; exact (ih h2).append (.cons h1 .nil)
theorem RTs.eraseIdx : ∀ {ts : List T} {vs : List V} (i : Nat), RTs K φ ψ H ts vs → RTs K φ ψ H (ts.eraseIdx i) (vs.eraseIdx i)
  | _, _, _, .nil => .nil
  | _, _, 0, .cons _ t => t
  | _, _, i + 1, .cons q t => .cons q (RTs.eraseIdx i t)
theorem RTs.rep {ts : List T} {vs : List V} (h : RTs K φ ψ H ts vs) : ∀ k : Nat, RTs K φ ψ H (List.replicate k ts).flatten (List.replicate k vs).flatten
  | 0 => .nil
  | k + 1 => by
    rw [List.replicate_succ, List.replicate_succ, List.flatten_cons, List.flatten_cons]
    exact h.append (RTs.rep h k)
theorem RTs.ints : ∀ {ns : List Int} {vs : List V}, RTs K φ ψ H (ns.map T.int) vs → vs = ns.map V.int
  | [], _, h => by cases h; rfl
  | n :: ns, _, h => by
    cases h with
    | cons h1 h2 =>
      cases h1
      rw [RTs.ints h2]; rfl
theorem RTs.ints' : ∀ (ns : List Int), RTs K φ ψ H (ns.map T.int) (ns.map V.int)
  | [] => .nil
  | n :: ns => .cons (.int n) (RTs.ints' ns)
theorem RTs.bls : ∀ {bs : List Bool} {vs : List V}, RTs K φ ψ H (bs.map T.bl) vs → vs = bs.map V.bl
  | [], _, h => by cases h; rfl
  | n :: ns, _, h => by
    cases h with
    | cons h1 h2 =>
      cases h1
      rw [RTs.bls h2]; rfl
end

/-! ### memory -/
def RFs (K : KC) (φ ψ : List Addr) (H : Hp) : List (Str × T) → List (Str × V) → Prop
  | [], [] => True
  | (x, t) :: fs, (y, v) :: gs => x = y ∧ RT K φ ψ H t v ∧ RFs K φ ψ H fs gs
  | _, _ => False
/-- an object at an address; ca: where the classes stand -/
def RO (K : KC) (φ ψ : List Addr) (H : Hp) (a : Addr) : O → Prop
  | .lst ts => ∃ vs, H a = some (.lst vs) ∧ RTs K φ ψ H ts vs
  | .dic tk ks ts => (tk = false ∧ ∃ kvs : List (Key × V), H a = some (.dK kvs) ∧ ks = kvs.map (fun p => keyT p.1) ∧ RTs K φ ψ H ts (kvs.map (·.2))) ∨
      tk = true ∧ K.kt = false ∧ ∃ kvs : List (List Key × V), H a = some (.dT kvs) ∧ ks = kvs.map (fun p => keyTT p.1) ∧ RTs K φ ψ H ts (kvs.map (·.2))
  | .ins c fs => ∃ dx gs, H a = some (.ins (K.ca c) dx gs) ∧ RFs K φ ψ H fs gs
structure RM (K : KC) (φ ψ : List Addr) (H : Hp) (M : Mem) : Prop where
  len : φ.length = M.length
  nd : φ.Nodup
  ap : ∀ a ∈ φ, a ∉ ψ
  used : ∀ a ∈ ψ, H a ≠ none
  at_ : ∀ (i : Nat) (a : Addr) (o : O), φ[i]? = some a → M[i]? = some o → RO K φ ψ H a o
theorem RFs.tr {K : KC} {φ φ' ψ ψ' : List Addr} {H H' : Hp} (x : Tr φ ψ H φ' ψ' H') : ∀ {fs : List (Str × T)} {gs : List (Str × V)}, RFs K φ ψ H fs gs → RFs K φ' ψ' H' fs gs
  | [], [], _ => trivial
  | (_, _) :: _, (_, _) :: _, ⟨e, r, h⟩ => ⟨e, RT.tr x _ _ r, RFs.tr x h⟩
  | [], _ :: _, h => h.elim
  | _ :: _, [], h => h.elim
theorem RFs.ext {K : KC} {φ φ' ψ : List Addr} {H H' : Hp} (x : Ext φ H φ' H') {fs : List (Str × T)} {gs : List (Str × V)} (h : RFs K φ ψ H fs gs) : RFs K φ' ψ H' fs gs := h.tr (x.tr ψ)
/-! ### environments -/
structure RE (K : KC) (φ ψ : List Addr) (H : Hp) (env : En) (σ : L2.St) : Prop where
  len : env.length = σ.length
  at_ : ∀ (i : Nat) (t : T), env[i]? = some (some t) → ∃ v, σ[i]? = some (some v) ∧ RT K φ ψ H t v
section
variable {K : KC} {φ φ' ψ : List Addr} {H H' : Hp} {env : En} {σ : L2.St}
theorem RE.tr {ψ' : List Addr} (r : RE K φ ψ H env σ) (x : Tr φ ψ H φ' ψ' H') : RE K φ' ψ' H' env σ := ⟨r.len, fun i t e => let ⟨v, h1, h2⟩ := r.at_ i t e; ⟨v, h1, RT.tr x _ _ h2⟩⟩
theorem RE.ext (r : RE K φ ψ H env σ) (x : Ext φ H φ' H') : RE K φ' ψ H' env σ := ⟨r.len, fun i t e => let ⟨v, h1, h2⟩ := r.at_ i t e; ⟨v, h1, h2.to x⟩⟩
theorem RE.set {i : Nat} {t : T} {v : V} (r : RE K φ ψ H env σ) (h : RT K φ ψ H t v) : RE K φ ψ H (env.set i (some t)) (σ.set i (some v)) := by
  refine ⟨by rw [List.length_set, List.length_set, r.len], fun j u e => ?_⟩
  by_cases hj : i = j
  · subst hj
    by_cases hl : i < env.length
    · rw [List.getElem?_set_self hl] at e
      cases e
      exact ⟨v, by rw [List.getElem?_set_self (by rw [← r.len]; exact hl)], h⟩
    · rw [List.getElem?_eq_none (by rw [List.length_set]; omega)] at e
      cases e
  · rw [List.getElem?_set_ne hj] at e
    obtain ⟨w, h1, h2⟩ := r.at_ j u e
    exact ⟨w, by rw [List.getElem?_set_ne hj]; exact h1, h2⟩
def wipeE (env : En) : List Nat → En
  | [] => env
  | v :: vs => (wipeE env vs).set v none
theorem RE.clear {i : Nat} (r : RE K φ ψ H env σ) : RE K φ ψ H (env.set i none) (σ.set i none) := by
  refine ⟨by rw [List.length_set, List.length_set, r.len], fun j u e => ?_⟩
  by_cases hj : i = j
  · subst hj
    by_cases hl : i < env.length
    · rw [List.getElem?_set_self hl] at e
      cases e
    · rw [List.getElem?_eq_none (by rw [List.length_set]; omega)] at e
      cases e
  · rw [List.getElem?_set_ne hj] at e
    obtain ⟨w, h1, h2⟩ := r.at_ j u e
    exact ⟨w, by rw [List.getElem?_set_ne hj]; exact h1, h2⟩
theorem RE.wipe (r : RE K φ ψ H env σ) : ∀ vs : List Nat, RE K φ ψ H (wipeE env vs) (wipe σ vs)
  | [] => r
  | _ :: vs => (RE.wipe r vs).clear

/-- a new thing at p that is not ours (a tuple, a list that never changes) -/
theorem Ext.new {p : Addr} {o : HO} (hp : H p = none) (hf : p ∉ φ) : Ext φ H φ (upd H p o) :=
  ⟨List.prefix_rfl, fun a _ h e => ⟨h, by rw [upd_ne (ne_of_none e hp)]; exact e⟩⟩
theorem RM.fresh {M : Mem} (r : RM K φ ψ H M) {p : Addr} (hp : H p = none) : p ∉ φ := fun hm => by
  obtain ⟨i, hi, e⟩ := List.mem_iff_getElem.mp hm
  have e1 : φ[i]? = some p := List.getElem?_eq_some_iff.mpr ⟨hi, e⟩
  have hM : i < M.length := by rw [← r.len]; exact hi
  have q := r.at_ i p M[i] e1 (List.getElem?_eq_getElem hM)
  cases ho : M[i] with
  | lst ts => rw [ho] at q; obtain ⟨vs, h, _⟩ := q; rw [hp] at h; cases h
  | dic tk ks ts =>
    rw [ho] at q
    rcases q with ⟨_, kvs, h, _⟩ | ⟨_, _, kvs, h, _⟩
    · rw [hp] at h; cases h
    · rw [hp] at h; cases h
  | ins c fs => rw [ho] at q; obtain ⟨dx, gs, h, _⟩ := q; rw [hp] at h; cases h
/-- the memory under a change that keeps the contents of our objects -/
theorem RM.ext {M : Mem} (r : RM K φ ψ H M) (x : Ext φ H φ H') (hk : ∀ a ∈ φ, H' a = H a) : RM K φ ψ H' M := by
  refine ⟨r.len, r.nd, r.ap, fun a ha => ?_, fun i a o e1 e2 => ?_⟩
  · cases q : H a with
    | none => exact absurd q (r.used a ha)
    | some o => rw [(x.keep a o (fun z => r.ap a z ha) q).2]; exact fun z => nomatch z
  have ha : a ∈ φ := List.mem_of_getElem? e1
  have q := r.at_ i a o e1 e2
  cases o with
  | lst ts => obtain ⟨vs, h, h2⟩ := q; exact ⟨vs, by rw [hk a ha]; exact h, h2.to x⟩
  | dic tk ks ts =>
    rcases q with ⟨hk1, kvs, h, h1, h2⟩ | ⟨hk1, hk0, kvs, h, h1, h2⟩
    · exact .inl ⟨hk1, kvs, by rw [hk a ha]; exact h, h1, h2.to x⟩
    · exact .inr ⟨hk1, hk0, kvs, by rw [hk a ha]; exact h, h1, h2.to x⟩
  | ins c fs => obtain ⟨dx, gs, h, h2⟩ := q; exact ⟨dx, gs, by rw [hk a ha]; exact h, h2.ext x⟩
theorem RM.new {M : Mem} (r : RM K φ ψ H M) {p : Addr} {o : HO} (hp : H p = none) : RM K φ ψ (upd H p o) M :=
  r.ext (.new hp (r.fresh hp)) fun a ha => upd_ne fun e => r.fresh hp (e ▸ ha)
theorem RO.tr {ψ' : List Addr} {a : Addr} {o : O} (q : RO K φ ψ H a o) (x : Tr φ ψ H φ' ψ' H') (h : H' a = H a) : RO K φ' ψ' H' a o := by
  cases o with
  | lst ts => obtain ⟨vs, h1, h2⟩ := q; exact ⟨vs, by rw [h]; exact h1, RTs.tr x _ _ h2⟩
  | dic tk ks ts =>
    rcases q with ⟨hk1, kvs, h0, h1, h2⟩ | ⟨hk1, hk0, kvs, h0, h1, h2⟩
    · exact .inl ⟨hk1, kvs, by rw [h]; exact h0, h1, RTs.tr x _ _ h2⟩
    · exact .inr ⟨hk1, hk0, kvs, by rw [h]; exact h0, h1, RTs.tr x _ _ h2⟩
  | ins c fs => obtain ⟨dx, gs, h1, h2⟩ := q; exact ⟨dx, gs, by rw [h]; exact h1, h2.tr x⟩
/-- a reserved address: made, changed, given back -/
theorem RM.resv {M : Mem} (r : RM K φ ψ H M) {D : Addr} {o : HO} (hD : H D = none) : RM K φ (D :: ψ) (upd H D o) M := by
  have hf := r.fresh hD
  refine ⟨r.len, r.nd, fun a ha hm => ?_, fun a hm => ?_, fun i a u e1 e2 => (r.at_ i a u e1 e2).tr (.resv hD) (upd_ne fun z => hf (z ▸ List.mem_of_getElem? e1))⟩
  · rcases List.mem_cons.mp hm with q | q
    · exact hf (q ▸ ha)
    · exact r.ap a ha q
  · by_cases hap : a = D
    · subst hap; rw [upd_same]; exact fun z => nomatch z
    · rw [upd_ne hap]; exact r.used a ((List.mem_cons.mp hm).resolve_left hap)
theorem RM.resw {M : Mem} {D : Addr} {o : HO} (r : RM K φ (D :: ψ) H M) : RM K φ (D :: ψ) (upd H D o) M := by
  refine ⟨r.len, r.nd, r.ap, fun a hm => ?_, fun i a u e1 e2 => (r.at_ i a u e1 e2).tr .resw (upd_ne fun z => r.ap a (List.mem_of_getElem? e1) (by rw [z]; exact List.mem_cons_self))⟩
  by_cases hap : a = D
  · subst hap; rw [upd_same]; exact fun z => nomatch z
  · rw [upd_ne hap]; exact r.used a hm
theorem RM.unres {M : Mem} {D : Addr} (r : RM K φ (D :: ψ) H M) : RM K φ ψ H M :=
  ⟨r.len, r.nd, fun a ha hm => r.ap a ha (List.mem_cons_of_mem _ hm), fun a hm => r.used a (List.mem_cons_of_mem _ hm), fun i a u e1 e2 => (r.at_ i a u e1 e2).tr .unres rfl⟩
/-- a new object of ours -/
theorem Ext.push {p : Addr} {o : HO} (hp : H p = none) : Ext φ H (φ ++ [p]) (upd H p o) :=
  ⟨List.prefix_append _ _, fun a _ h e => by
    have ne : a ≠ p := ne_of_none e hp
    refine ⟨fun hm => ?_, by rw [upd_ne ne]; exact e⟩
    rcases List.mem_append.mp hm with q | q
    · exact h q
    · exact ne (by simpa using q)⟩
theorem RO.ext {a : Addr} {o : O} (q : RO K φ ψ H a o) (x : Ext φ H φ' H') (h : H' a = H a) : RO K φ' ψ H' a o := by
  cases o with
  | lst ts => obtain ⟨vs, h1, h2⟩ := q; exact ⟨vs, by rw [h]; exact h1, h2.to x⟩
  | dic tk ks ts =>
    rcases q with ⟨hk1, kvs, h0, h1, h2⟩ | ⟨hk1, hk0, kvs, h0, h1, h2⟩
    · exact .inl ⟨hk1, kvs, by rw [h]; exact h0, h1, h2.to x⟩
    · exact .inr ⟨hk1, hk0, kvs, by rw [h]; exact h0, h1, h2.to x⟩
  | ins c fs => obtain ⟨dx, gs, h1, h2⟩ := q; exact ⟨dx, gs, by rw [h]; exact h1, h2.ext x⟩
theorem RM.push {M : Mem} (r : RM K φ ψ H M) {p : Addr} {o : HO} {m : O} (hp : H p = none) (q : RO K (φ ++ [p]) ψ (upd H p o) p m) : RM K (φ ++ [p]) ψ (upd H p o) (M ++ [m]) := by
  have hf := r.fresh hp
  refine ⟨by simp [r.len], ?_, fun a ha hψ => ?_, fun a ha => ?_, fun i a u e1 e2 => ?_⟩
  rotate_left
  · rcases List.mem_append.mp ha with q | q
    · exact r.ap a q hψ
    · have : a = p := by simpa using q
      subst this
      exact r.used a hψ hp
  · by_cases hap : a = p
    · subst hap; rw [upd_same]; exact fun z => nomatch z
    · rw [upd_ne hap]; exact r.used a ha
  rotate_left
  · refine List.nodup_append.mpr ⟨r.nd, by simp, fun a ha b hb => ?_⟩
    have : b = p := by simpa using hb
    subst this
    exact fun e => hf (e ▸ ha)
  · by_cases hi : i < φ.length
    · rw [List.getElem?_append_left hi] at e1
      rw [List.getElem?_append_left (by rw [← r.len]; exact hi)] at e2
      have ha : a ∈ φ := List.mem_of_getElem? e1
      exact (r.at_ i a u e1 e2).ext (.push hp) (upd_ne fun e => hf (e ▸ ha))
    · have hl := r.len
      rw [List.getElem?_append_right (by omega)] at e1
      rw [List.getElem?_append_right (by omega)] at e2
      by_cases h0 : i - φ.length = 0
      · rw [h0] at e1
        rw [show i - M.length = 0 by omega] at e2
        cases e1; cases e2
        exact q
      · rw [List.getElem?_eq_none (by simp; omega)] at e1
        cases e1
/-- an object of ours changed -/
theorem Ext.write {i : Nat} {a : Addr} {o : HO} (e : φ[i]? = some a) : Ext φ H φ (upd H a o) :=
  ⟨List.prefix_rfl, fun b _ h e2 => ⟨h, by
    rw [upd_ne (fun z => h (by rw [z]; exact List.mem_of_getElem? e))]; exact e2⟩⟩
theorem RM.write {M : Mem} (r : RM K φ ψ H M) {i : Nat} {a : Addr} {o : HO} {m : O} (e : φ[i]? = some a) (q : RO K φ ψ (upd H a o) a m) : RM K φ ψ (upd H a o) (M.set i m) := by
  refine ⟨by rw [List.length_set]; exact r.len, r.nd, r.ap, fun b hb => ?_, fun j b u e1 e2 => ?_⟩
  · by_cases hba : b = a
    · subst hba; rw [upd_same]; exact fun z => nomatch z
    · rw [upd_ne hba]; exact r.used b hb
  by_cases hj : i = j
  · subst hj
    rw [e] at e1; cases e1
    obtain ⟨hi, _⟩ := List.getElem?_eq_some_iff.mp e
    rw [List.getElem?_set_self (by rw [← r.len]; exact hi)] at e2
    cases e2
    exact q
  · rw [List.getElem?_set_ne hj] at e2
    have ne : b ≠ a := fun z => by
      subst z
      exact hj ((List.getElem?_inj (List.getElem?_eq_some_iff.mp e).1 r.nd).mp (e.trans e1.symm))
    exact (r.at_ j b u e1 e2).ext (.write e) (upd_ne ne)
end
end Mi
end L2

/-! Mini: the terms and what they reckon. -/
namespace L2
namespace Mi
open PySem PySem.Spec PyProof.Rows

/-! ### what is equal -/
mutual
def eqT : T → T → Bool
  | .non, .non => true
  | .bl a, .bl b => a == b
  | .bl a, .int j => (if a then 1 else 0) == j
  | .int i, .bl b => i == (if b then 1 else 0)
  | .int i, .int j => i == j
  | .str x, .str y => x == y
  | .tup xs, .tup ys => eqTs xs ys
  | .fl xs, .fl ys => eqTs xs ys
  | _, _ => false
def eqTs : List T → List T → Bool
  | [], [] => true
  | x :: xs, y :: ys => eqT x y && eqTs xs ys
  | _, _ => false
end
mutual
/-- data without dicts and objects, texts of signs -/
def okT : T → Bool
  | .str x => PyData.strOk x
  | .tup xs => okTs xs
  | .fl xs => okTs xs
  | .non => true
  | .bl _ => true
  | .int _ => true
  | _ => false
def okTs : List T → Bool
  | [] => true
  | x :: xs => okT x && okTs xs
end
mutual
def depT : T → Nat
  | .tup xs => depTs xs + 1
  | .fl xs => depTs xs + 1
  | _ => 0
def depTs : List T → Nat
  | [] => 0
  | x :: xs => max (depT x) (depTs xs)
end
mutual
def pureT : T → Bool
  | .obj _ => false
  | .sc _ => true
  | .tup ts => pureTs ts
  | .fl ts => pureTs ts
  | .fd _ ks ts => pureTs ts
  | _ => true
def pureTs : List T → Bool
  | [] => true
  | t :: ts => pureT t && pureTs ts
end
/-- the same with the lists of ours (from n on) told as they stand -/
def sealT (M : Mem) (n : Nat) : Nat → T → Option T
  | 0, t => if pureT t then some t else none
  | f + 1, t => if pureT t then some t else match t with
    | .obj i => if n ≤ i then (match M[i]? with
      | some (.lst ts) => (ts.mapM (sealT M n f)).map .fl
      | some (.dic tk ks ts) => (ts.mapM (sealT M n f)).map (.fd tk ks)
      | _ => none) else none
    | .tup ts => (ts.mapM (sealT M n f)).map .tup
    | .fl ts => (ts.mapM (sealT M n f)).map .fl
    | .fd tk ks ts => (ts.mapM (sealT M n f)).map (.fd tk ks)
    | t => none
def scL : T → T
  | .sc ns => .fl (ns.map .int)
  | t => t
def eqv? (M : Mem) (x y : T) : Option Bool :=
  (sealT M 0 6 (scL x)).bind fun a => (sealT M 0 6 (scL y)).bind fun b =>
    if okT a = true ∧ okT b = true ∧ depT a ≤ 60 ∧ depT b ≤ 60 then some (eqT a b) else none

/-! ### lists, tuples, dicts by value -/
def lof (M : Mem) : T → Option (List T)
  | .fl ts => some ts
  | .obj i => match M[i]? with
    | some (.lst ts) => some ts
    | _ => none
  | _ => none
def tof : T → Option (List T)
  | .tup ts => some ts
  | _ => none
def lofS (M : Mem) (t : T) : Option (List T) := match t with
  | .sc ns => some (ns.map .int)
  | t => lof M t
def sof (M : Mem) (t : T) : Option (List T) := match t with
  | .tup ts => some ts
  | t => lofS M t
def dof (M : Mem) : T → Option (Bool × List T × List T)
  | .fd tk ks ts => some (tk, ks, ts)
  | .obj i => match M[i]? with
    | some (.dic tk ks ts) => some (tk, ks, ts)
    | _ => none
  | _ => none
/-- a new list -/
def mkL (tr : Bool) (ts : List T) (M : Mem) : T × Mem := if tr then (.obj M.length, M ++ [.lst ts]) else (.fl ts, M)
def lkp : List T → List T → T → Option T
  | k :: ks, v :: vs, t => if eqT k t then some v else lkp ks vs t
  | _, _, _ => none
def isKey : T → Bool
  | .int _ => true
  | .str _ => true
  | _ => false
def isKeyT (tk : Bool) : T → Bool
  | .tup ts => tk && ts.all isKey
  | t => !tk && isKey t
def putD (ks vs : List T) (t x : T) : List T × List T :=
  if (ks.any fun k => eqT k t) = true then (ks, List.zipWith (fun k v => if eqT k t then x else v) ks vs) else (ks ++ [t], vs ++ [x])

def truth (M : Mem) : T → Option Bool
  | .non => some false
  | .bl b => some b
  | .int i => some (i != 0)
  | .str x => if x.length ≤ 16777216 then some (((x.length : Nat) : Int) != 0) else none
  | .tup ts => some (!ts.isEmpty)
  | t => (lofS M t).map fun ts => !ts.isEmpty

/-! ### operators -/
def mulOk (i j : Int) : Prop := i.natAbs.log2 + j.natAbs.log2 < 134000000
instance (i j : Int) : Decidable (mulOk i j) := by unfold mulOk; infer_instance
def divOk (j : Int) : Prop := j ≠ 0 ∧ j.natAbs.log2 < 9000
instance (j : Int) : Decidable (divOk j) := by unfold divOk; infer_instance
def powOk (i j : Int) : Prop := 0 ≤ j ∧ j ≤ 1000000 ∧ i.natAbs < 2 ^ 64
noncomputable instance (i j : Int) : Decidable (powOk i j) := Classical.propDecidable _
/-- within 63 bits -/
def i63 (j : Int) : Prop := -(2 ^ 63) ≤ j ∧ j < 2 ^ 63
noncomputable instance (j : Int) : Decidable (i63 j) := Classical.propDecidable _
noncomputable def binT (op : Operator) (tr : Bool) (x y : T) (M : Mem) : Option (T × Mem) :=
  match op, x, y with
  | .Add, .int i, .int j => some (.int (i + j), M)
  | .Sub, .int i, .int j => some (.int (i - j), M)
  | .Mult, .int i, .int j => if mulOk i j then some (.int (i * j), M) else none
  | .FloorDiv, .int i, .int j => if divOk j then some (.int (i.fdiv j), M) else none
  | .Mod, .int i, .int j => if j ≠ 0 then some (.int (i.fmod j), M) else none
  | .Pow, .int i, .int j => if powOk i j then some (.int (i ^ j.toNat), M) else none
  | .Add, .str a, .str b => if a.length + b.length ≤ 16777216 then some (.str (a ++ b), M) else none
  | .Add, .tup a, .tup b => if a.length + b.length ≤ 16777216 then some (.tup (a ++ b), M) else none
  | .Mult, .tup a, .int j => if 0 ≤ j ∧ j ≤ 1000 ∧ a.length ≤ 1000 ∧ a ≠ [] then some (.tup (List.replicate j.toNat a).flatten, M) else none
  | .Add, x, y => (lof M x).bind fun a => (lof M y).bind fun b => if a.length + b.length ≤ 16777216 then some (mkL tr (a ++ b) M) else none
  | .Mult, x, .int j => (lof M x).bind fun a => if i63 j ∧ a.length * j.toNat ≤ 16777216 then some (mkL tr (List.replicate j.toNat a).flatten M) else none
  | _, _, _ => none
/-- the ints of a list of values -/
def intsOf : List T → Option (List Int)
  | [] => some []
  | .int i :: ts => (intsOf ts).map (i :: ·)
  | _ => none
def blsOf : List T → Option (List Bool)
  | [] => some []
  | .bl i :: ts => (blsOf ts).map (i :: ·)
  | _ => none
def isNo : T → Bool
  | .non => true
  | _ => false
def lexLe (a b : List Int) : Bool := !HT.lexLt b a
def cmpT (op : CmpOp) (x y : T) (M : Mem) : Option Bool :=
  match op with
  | .Eq => eqv? M x y
  | .NotEq => (eqv? M x y).map not
  | .Lt => match x, y with
    | .int i, .int j => some (decide (i < j))
    | .tup a, .tup b => (intsOf a).bind fun a => (intsOf b).map fun b => HT.lexLt a b
    | _, _ => none
  | .LtE => match x, y with
    | .int i, .int j => some (decide (i ≤ j))
    | _, _ => none
  | .Gt => match x, y with
    | .int i, .int j => some (decide (j < i))
    | _, _ => none
  | .GtE => match x, y with
    | .int i, .int j => some (decide (j ≤ i))
    | _, _ => none
  | .Is => match x, y with
    | .bl a, .bl b => some (decide (a = b))
    | x, .non => some (isNo x)
    | _, _ => none
  | .IsNot => match x, y with
    | .bl a, .bl b => some (!decide (a = b))
    | x, .non => some (!isNo x)
    | _, _ => none
  | .In => inT x y M
  | .NotIn => (inT x y M).map not
where
  inT (x y : T) (M : Mem) : Option Bool :=
    match dof M y with
    | some (tk, ks, ts) => if isKeyT tk x then some (lkp ks ts x).isSome else none
    | none => match y with
      | .tup ys => if okT x = true ∧ okTs ys = true ∧ depT x ≤ 60 ∧ depTs ys ≤ 59 then some (ys.any fun z => eqT z x) else none
      | y => (lof M y).bind fun ys => (ys.mapM (sealT M 0 6)).bind fun ys => (sealT M 0 6 x).bind fun x =>
        if okT x = true ∧ okTs ys = true ∧ depT x ≤ 60 ∧ depTs ys ≤ 59 then some (ys.any fun z => eqT z x) else none

/-! ### built-ins -/
inductive BI where
  | len | int | abs | list (tr : Bool) | tuple | sum | all | any | max | min | sorted
  deriving DecidableEq
def maxL : List Int → Int
  | [] => 0
  | [x] => x
  | x :: xs => if x < maxL xs then maxL xs else x
def minL : List Int → Int
  | [] => 0
  | [x] => x
  | x :: xs => if minL xs < x then minL xs else x
def insI (x : Int) : List Int → List Int
  | [] => [x]
  | y :: ys => if x ≤ y then x :: y :: ys else y :: insI x ys
def sortI : List Int → List Int
  | [] => []
  | x :: xs => insI x (sortI xs)
def biT (b : BI) (xs : List T) (M : Mem) : Option (T × Mem) :=
  match b, xs with
  | .len, [x] => match dof M x with
    | some (_, ks, _) => some (.int (ks.length : Nat), M)
    | none => (sof M x).map fun ts => (.int (ts.length : Nat), M)
  | .int, [.int i] => some (.int i, M)
  | .int, [.bl b] => some (.int (if b then 1 else 0), M)
  | .abs, [.int i] => some (.int (if i < 0 then -i else i), M)
  | .list tr, [x] => (sof M x).map fun ts => mkL tr ts M
  | .tuple, [x] => (sof M x).map fun ts => (.tup ts, M)
  | .sum, [x] => (lof M x).bind fun ts => (intsOf ts).map fun ns => (.int ns.sum, M)
  | .all, [x] => (lof M x).bind fun ts => (blsOf ts).map fun bs => (.bl (bs.all id), M)
  | .any, [x] => (lof M x).bind fun ts => (blsOf ts).map fun bs => (.bl (bs.any id), M)
  | .max, [.int i, .int j] => some (.int (if j > i then j else i), M)
  | .min, [.int i, .int j] => some (.int (if j < i then j else i), M)
  | .max, [x] => (lof M x).bind fun ts => (intsOf ts).bind fun ns => if ns = [] then none else some (.int (maxL ns), M)
  | .min, [x] => (lof M x).bind fun ts => (intsOf ts).bind fun ns => if ns = [] then none else some (.int (minL ns), M)
  | .sorted, [x] => (lof M x).bind fun ts => (intsOf ts).bind fun ns => if ns.length < 64 then some (.fl ((sortI ns).map .int), M) else none
  | _, _ => none
def isiT (M : Mem) (ty : String) (x : T) : Option Bool :=
  match x with
  | .non => some false
  | .bl _ => some (ty == "bool" || ty == "int")
  | .int _ => some (ty == "int")
  | .str _ => some (ty == "str")
  | .tup _ => some (ty == "tuple")
  | .fl _ => some (ty == "list")
  | .obj i => match M[i]? with
    | some (.lst _) => some (ty == "list")
    | _ => none
  | _ => none
inductive BM where
  | append | extend | pop0 | pop | reverse | remove
  deriving DecidableEq
/-- a method of a list of ours -/
noncomputable def bmT (b : BM) (o : T) (xs : List T) (M : Mem) : Option (T × Mem) :=
  match o with
  | .obj i => match M[i]? with
    | some (.lst ts) => match b, xs with
      | .append, [x] => if ts.length < 16777216 then some (.non, M.set i (.lst (ts ++ [x]))) else none
      | .extend, [y] => (lof M y).bind fun zs => if ts.length + zs.length ≤ 16777216 then some (.non, M.set i (.lst (ts ++ zs))) else none
      | .pop0, [] => (ts[ts.length - 1]?).map fun y => (y, M.set i (.lst ts.dropLast))
      | .pop, [.int k] => if i63 k then (seqIndex? k ts.length).bind fun j => (ts[j]?).map fun y => (y, M.set i (.lst (ts.eraseIdx j))) else none
      | .reverse, [] => some (.non, M.set i (.lst ts.reverse))
      | .remove, [.int k] => (intsOf ts).bind fun ns => if k ∈ ns then some (.non, M.set i (.lst ((ns.eraseIdx (ns.findIdx fun x => x == k)).map .int))) else none
      | _, _ => none
    | _ => none
  | _ => none
def ixT (x y : T) (M : Mem) : Option T :=
  match dof M x with
  | some (tk, ks, ts) => if isKeyT tk y then lkp ks ts y else none
  | none => match x, y with
    | .str z, .int i => if z.length ≤ 16777216 then (atI z.cps.toList i).map fun c => .str ⟨#[c]⟩ else none
    | x, .int i => (sof M x).bind fun ts => atI ts i
    | _, _ => none
def cutT (ts : List T) (lo hi : Option Int) : List T := (ts.drop (HT.sIx ts.length 0 lo)).take (HT.sIx ts.length ts.length hi - HT.sIx ts.length 0 lo)
def slT (tr : Bool) (x : T) (lo hi : Option Int) (M : Mem) : Option (T × Mem) :=
  match x with
  | .tup ts => some (.tup (cutT ts lo hi), M)
  | x => (lofS M x).map fun ts => mkL tr (cutT ts lo hi) M
/-- o[i] = v, o a list or a dict of ours -/
def setT (o i v : T) (M : Mem) : Option Mem :=
  match o with
  | .obj a => match M[a]? with
    | some (.lst ts) => match i with
      | .int k => (ixN ts.length k).map fun j => M.set a (.lst (ts.set j v))
      | _ => none
    | some (.dic tk ks ts) => if isKeyT tk i = true ∧ ks.length < 16777216 then (let r := putD ks ts i v; some (M.set a (.dic tk r.1 r.2))) else none
    | _ => none
  | _ => none

/-! ### terms -/
mutual
inductive ME where
  | var (i : Nat) (x : Str) | glb (x : Str) | non | bl (b : Bool) | int (i : Int) | str (x : Str)
  | bin (op : Operator) (tr : Bool) (a b : ME) | neg (a : ME) | not (a : ME) | one (a : ME) | and (a b : ME) | or (a b : ME)
  | cmp (op : CmpOp) (a b : ME) | ife (c a b : ME)
  | call (f : Str) (es : MEs) | bi (b : BI) (es : MEs) | isi (a : ME) (ty : String) | mcall (c : Str) (o : ME) (m : Str) (es : MEs) | bm (b : BM) (o : ME) (es : MEs) | mk (c : Str) (es : MEs)
  | ix (a b : ME) | slc (tr : Bool) (a lo hi : ME) | nopart | rev (tr : Bool) (a : ME) | att (c : Str) (o : ME) (f : Str)
  | tup (es : MEs) | lst (tr : Bool) (es : MEs)
  | lc (tr : Bool) (own : List (Str × Nat)) (tg : MT) (it : MI) (ifs : MEs) (elt : ME)
  | lc2 (tr : Bool) (own : List (Str × Nat)) (tg : MT) (it : MI) (ifs : MEs) (vs1 : List Nat) (tg1 : MT) (it1 : MI) (ifs1 : MEs) (elt : ME)
  | dnew (t : Bool) | dc (own : List (Str × Nat)) (tg : MT) (it : MI) (k v : ME)
  | sset (a : ME)
inductive MEs where
  | nil | cons (e : ME) (es : MEs)
inductive MI where
  | over (a : ME) | rng1 (a : ME) | rng2 (a b : ME) | enum (a : ME) | zip2 (a b : ME) | zip3 (a b c : ME)
inductive MT where
  | nm (i : Nat) (x : Str) | tp (ts : MTs)
inductive MTs where
  | nil | cons (t : MT) (ts : MTs)
end
inductive MS where
  | set (i : Nat) (x : Str) (e : ME)
  | asg (t : MT) (e : ME)
  | par (ts : List (Nat × Str)) (es : MEs) | setI (o i e : ME) | setA (c : Str) (o : ME) (f : Str) (e : ME)
  | aug (i : Nat) (x : Str) (op : Operator) (e : ME) | augI (o i : ME) (op : Operator) (e : ME)
  | ex (e : ME) | ret (e : ME) | retN
  | ite (c : ME) (a b : List MS) | whl (c : ME) (b : List MS) | for (t : MT) (it : MI) (b : List MS)
  | brk | cnt | pas

def dcPut : List T → List T × List T → List T × List T
  | k :: v :: r, a => dcPut r (putD a.1 a.2 k v)
  | _, a => a

/-! ### the program's defs and constants -/
abbrev Fn := List T → Mem → Option (T × Mem)
structure Cl where
  attrs : List Str
  init : Option Fn
  meths : List (Str × Fn)
structure Sig where
  kt : Bool
  fns : List (Str × Fn)
  glbs : List (Str × T)
  cls : List (Str × Cl)

mutual
def asgT : MT → T → En → Option En
  | .nm i _, t, σ => some (σ.set i (some t))
  | .tp ts, t, σ => match t with
    | .tup us => asgTs ts us σ
    | _ => none
def asgTs : MTs → List T → En → Option En
  | .nil, [], σ => some σ
  | .cons m ms, t :: ts, σ => (asgT m t σ).bind fun σ1 => asgTs ms ts σ1
  | _, _, _ => none
end
open Classical in
/-- a loop's list is as it was -/
def Grd (g : List (Nat × List T)) (M : Mem) : Prop := ∀ p ∈ g, M[p.1]? = some (.lst p.2)
open Classical in
/-- the items of a comprehension, in order -/
noncomputable def lcC (g : List (Nat × List T)) (step : T → Mem → Option (List T × Mem)) : List T → Mem → Option (List T × Mem)
  | [], M => if Grd g M then some ([], M) else none
  | t :: ts, M => if Grd g M then (step t M).bind fun p => (lcC g step ts p.2).map fun q => (p.1 ++ q.1, q.2) else none
def grdOf : T → List T → List (Nat × List T)
  | .obj i, ts => [(i, ts)]
  | _, _ => []
def rngL (lo hi : Int) : List T := (List.range (hi - lo).toNat).map fun i => T.int (lo + (i : Nat))
def rngOk (i j : Int) : Prop := -(2 ^ 62) ≤ i ∧ i < 2 ^ 62 ∧ -(2 ^ 62) ≤ j ∧ j < 2 ^ 62
noncomputable instance (i j : Int) : Decidable (rngOk i j) := Classical.propDecidable _
def enumL : Nat → List T → List T
  | _, [] => []
  | i, t :: ts => .tup [.int (i : Nat), t] :: enumL (i + 1) ts
def tst (x : Option (T × Mem)) : Option (Bool × Mem) := x.bind fun p => (truth p.2 p.1).map fun b => (b, p.2)
/-- what a for walks: items, guards -/
abbrev Itm := List T × List (Nat × List T)
open Classical in
mutual
noncomputable def evE (G : Sig) : ME → En → Mem → Option (T × Mem)
  | .var i _, σ, M => match σ[i]? with
    | some (some t) => some (t, M)
    | _ => none
  | .glb x, _, M => (G.glbs.lookup x).map fun t => (t, M)
  | .non, _, M => some (.non, M)
  | .bl b, _, M => some (.bl b, M)
  | .int i, _, M => some (.int i, M)
  | .str x, _, M => some (.str x, M)
  | .bin op tr a b, σ, M => (evE G a σ M).bind fun p => (evE G b σ p.2).bind fun q => binT op tr p.1 q.1 q.2
  | .neg a, σ, M => (evE G a σ M).bind fun p => match p.1 with
    | .int i => some (.int (-i), p.2)
    | _ => none
  | .not a, σ, M => (tst (evE G a σ M)).map fun p => (.bl (!p.1), p.2)
  | .one a, σ, M => evE G a σ M
  | .and a b, σ, M => (evE G a σ M).bind fun p => (truth p.2 p.1).bind fun c => if c then evE G b σ p.2 else some p
  | .or a b, σ, M => (evE G a σ M).bind fun p => (truth p.2 p.1).bind fun c => if c then some p else evE G b σ p.2
  | .cmp op a b, σ, M => (evE G a σ M).bind fun p => (evE G b σ p.2).bind fun q => (cmpT op p.1 q.1 q.2).map fun c => (.bl c, q.2)
  | .ife c a b, σ, M => (tst (evE G c σ M)).bind fun p => if p.1 then evE G a σ p.2 else evE G b σ p.2
  | .call f es, σ, M => (evEs G es σ M).bind fun p => (G.fns.lookup f).bind fun F => F p.1 p.2
  | .bi b es, σ, M => (evEs G es σ M).bind fun p => biT b p.1 p.2
  | .isi a ty, σ, M => (evE G a σ M).bind fun p => (isiT p.2 ty p.1).map fun c => (.bl c, p.2)
  | .mcall c o m es, σ, M => (evE G o σ M).bind fun p => match p.1 with
    | .obj i => match p.2[i]? with
      | some (.ins c' fs) => if c' = c ∧ fs.lookup m = none then (evEs G es σ p.2).bind fun q => (G.cls.lookup c).bind fun C => (C.meths.lookup m).bind fun F => F (p.1 :: q.1) q.2 else none
      | _ => none
    | _ => none
  | .bm b o es, σ, M => (evE G o σ M).bind fun p => (lof p.2 p.1).bind fun _ => (evEs G es σ p.2).bind fun q => bmT b p.1 q.1 q.2
  | .mk c es, σ, M => (evEs G es σ M).bind fun p => (G.cls.lookup c).bind fun C => C.init.bind fun F =>
      (F (.obj p.2.length :: p.1) (p.2 ++ [.ins c []])).bind fun r => match r.1 with
        | .non => some (.obj p.2.length, r.2)
        | _ => none
  | .ix a b, σ, M => (evE G a σ M).bind fun p => (evE G b σ p.2).bind fun q => (ixT p.1 q.1 q.2).map fun t => (t, q.2)
  | .slc tr a lo hi, σ, M => (evE G a σ M).bind fun p => (evP G lo σ p.2).bind fun l => (evP G hi σ l.2).bind fun h => slT tr p.1 l.1 h.1 h.2
  | .nopart, _, _ => none
  | .rev tr a, σ, M => (evE G a σ M).bind fun p => (lofS p.2 p.1).map fun ts => mkL tr ts.reverse p.2
  | .att c o f, σ, M => (evE G o σ M).bind fun p => match p.1 with
    | .obj i => match p.2[i]? with
      | some (.ins c' fs) => if c' = c then (G.cls.lookup c).bind fun C => if f ∈ C.attrs then (fs.lookup f).map fun t => (t, p.2) else none else none
      | _ => none
    | _ => none
  | .tup es, σ, M => (evEs G es σ M).bind fun p => if p.1.length ≤ 16777216 then some (.tup p.1, p.2) else none
  | .lst tr es, σ, M => (evEs G es σ M).bind fun p => if p.1.length ≤ 16777216 then some (mkL tr p.1 p.2) else none
  | .lc tr own tg it ifs elt, σ, M => (evI G it σ M).bind fun p =>
      (lcC p.1.2 (fun t M => (asgT tg t (wipeE σ (own.map (·.2)))).bind fun σ2 => (evIf G ifs σ2 M).bind fun c => if c.1 then (evE G elt σ2 c.2).map fun r => ([r.1], r.2) else some ([], c.2)) p.1.1 p.2).bind fun q =>
        if q.1.length ≤ 16777216 then some (mkL tr q.1 q.2) else none
  | .lc2 tr own tg it ifs vs1 tg1 it1 ifs1 elt, σ, M => (evI G it σ M).bind fun p =>
      (lcC p.1.2 (fun t M => (asgT tg t (wipeE σ (own.map (·.2)))).bind fun σ2 => (evIf G ifs σ2 M).bind fun c => if c.1 then (evI G it1 σ2 c.2).bind fun p1 =>
          lcC p1.1.2 (fun t M => (asgT tg1 t (wipeE σ2 vs1)).bind fun σ3 => (evIf G ifs1 σ3 M).bind fun c => if c.1 then (evE G elt σ3 c.2).map fun r => ([r.1], r.2) else some ([], c.2)) p1.1.1 p1.2
        else some ([], c.2)) p.1.1 p.2).bind fun q =>
        if q.1.length ≤ 16777216 then some (mkL tr q.1 q.2) else none
  | .dnew t, _, M => if t = true ∧ G.kt = true then none else some (.obj M.length, M ++ [.dic t [] []])
  | .dc own tg it k v, σ, M => (evI G it σ M).bind fun p =>
      (lcC p.1.2 (fun t M => (asgT tg t (wipeE σ (own.map (·.2)))).bind fun σ2 => (evE G k σ2 M).bind fun a => (evE G v σ2 a.2).bind fun b => if isKey a.1 then some ([a.1, b.1], b.2) else none) p.1.1 p.2).bind fun q =>
        let r := dcPut q.1 ([], [])
        if q.1.length ≤ 1000000 then some (.fd false r.1 r.2, q.2) else none
  | .sset a, σ, M => (evE G a σ M).bind fun p => (lof p.2 p.1).bind fun ts => (intsOf ts).bind fun ns => if ns.length < 60 then some (.fl ((sortI ns.eraseDups).map .int), p.2) else none
noncomputable def evP (G : Sig) : ME → En → Mem → Option (Option Int × Mem)
  | .nopart, _, M => some (none, M)
  | .int i, _, M => some (some i, M)
  | e, σ, M => (evE G e σ M).bind fun p => match p.1 with
    | .int i => some (some i, p.2)
    | _ => none
noncomputable def evEs (G : Sig) : MEs → En → Mem → Option (List T × Mem)
  | .nil, _, M => some ([], M)
  | .cons e es, σ, M => (evE G e σ M).bind fun p => (evEs G es σ p.2).map fun q => (p.1 :: q.1, q.2)
noncomputable def evIf (G : Sig) : MEs → En → Mem → Option (Bool × Mem)
  | .nil, _, M => some (true, M)
  | .cons e .nil, σ, M => tst (evE G e σ M)
  | _, _, _ => none
noncomputable def evI (G : Sig) : MI → En → Mem → Option (Itm × Mem)
  | .over a, σ, M => (evE G a σ M).bind fun p => (sof p.2 p.1).map fun ts => ((ts, grdOf p.1 ts), p.2)
  | .rng1 a, σ, M => (evE G a σ M).bind fun p => match p.1 with
    | .int j => if rngOk 0 j then some ((rngL 0 j, []), p.2) else none
    | _ => none
  | .rng2 a b, σ, M => (evE G a σ M).bind fun p => (evE G b σ p.2).bind fun q => match p.1, q.1 with
    | .int i, .int j => if rngOk i j then some ((rngL i j, []), q.2) else none
    | _, _ => none
  | .enum a, σ, M => (evE G a σ M).bind fun p => (sof p.2 p.1).map fun ts => ((enumL 0 ts, grdOf p.1 ts), p.2)
  | .zip2 a b, σ, M => (evE G a σ M).bind fun p => (evE G b σ p.2).bind fun q => (sof q.2 p.1).bind fun xs => (sof q.2 q.1).map fun ys =>
      ((List.zipWith (fun x y => T.tup [x, y]) xs ys, grdOf p.1 xs ++ grdOf q.1 ys), q.2)
  | .zip3 a b c, σ, M => (evE G a σ M).bind fun p => (evE G b σ p.2).bind fun q => (evE G c σ q.2).bind fun r => (sof r.2 p.1).bind fun xs => (sof r.2 q.1).bind fun ys => (sof r.2 r.1).map fun zs =>
      ((List.zipWith (fun x (p : T × T) => T.tup [x, p.1, p.2]) xs (ys.zip zs), grdOf p.1 xs ++ grdOf q.1 ys ++ grdOf r.1 zs), r.2)
end
end Mi
end L2

/-! Mini: statements, loops, defs. -/
namespace L2
namespace Mi
open PySem PySem.Spec PyProof.Rows

inductive R where
  | nx (σ : En) (M : Mem) | rt (t : T) (M : Mem) | bk (σ : En) (M : Mem) | ct (σ : En) (M : Mem)

def whileN (c : En → Mem → Option (Bool × Mem)) (b : En → Mem → Option R) : Nat → En → Mem → Option R
  | 0, _, _ => none
  | n + 1, σ, M => match c σ M with
    | some (true, M1) => match b σ M1 with
      | some (.nx σ' M') => whileN c b n σ' M'
      | some (.ct σ' M') => whileN c b n σ' M'
      | some (.bk σ' M') => some (.nx σ' M')
      | r => r
    | some (false, M1) => some (.nx σ M1)
    | none => none
theorem whileN_mono {c : En → Mem → Option (Bool × Mem)} {b : En → Mem → Option R} : ∀ (n k : Nat) (σ : En) (M : Mem) (r : R), whileN c b n σ M = some r → n ≤ k → whileN c b k σ M = some r
  | 0, _, _, _, _, h, _ => by simp [whileN] at h
  | n + 1, 0, _, _, _, _, hk => by omega
  | n + 1, k + 1, σ, M, r, h, hk => by
    unfold whileN at h ⊢
    cases hc : c σ M with
    | none => rw [hc] at h; simp at h
    | some p =>
      obtain ⟨t, M1⟩ := p
      rw [hc] at h
      cases t with
      | false => exact h
      | true =>
        simp only at h ⊢
        cases hb : b σ M1 with
        | none => rw [hb] at h; exact h
        | some x =>
          rw [hb] at h
          cases x with
          | nx s m => exact whileN_mono n k s m r h (by omega)
          | ct s m => exact whileN_mono n k s m r h (by omega)
          | bk s m => exact h
          | rt t m => exact h
open Classical in
noncomputable def whileC (c : En → Mem → Option (Bool × Mem)) (b : En → Mem → Option R) (σ : En) (M : Mem) : Option R :=
  if h : ∃ n r, whileN c b n σ M = some r then some (choose (choose_spec h)) else none
theorem whileC_of {c : En → Mem → Option (Bool × Mem)} {b : En → Mem → Option R} {n : Nat} {σ : En} {M : Mem} {r : R} (h : whileN c b n σ M = some r) : whileC c b σ M = some r := by
  have hh : ∃ n r, whileN c b n σ M = some r := ⟨n, r, h⟩
  unfold whileC
  rw [dif_pos hh]
  have s := Classical.choose_spec (Classical.choose_spec hh)
  have h1 := whileN_mono _ (max n (Classical.choose hh)) _ _ _ h (Nat.le_max_left _ _)
  have h2 := whileN_mono _ (max n (Classical.choose hh)) _ _ _ s (Nat.le_max_right _ _)
  rw [h1] at h2
  exact h2.symm
theorem of_whileC {c : En → Mem → Option (Bool × Mem)} {b : En → Mem → Option R} {σ : En} {M : Mem} {r : R} (h : whileC c b σ M = some r) : ∃ n, whileN c b n σ M = some r := by
  unfold whileC at h
  split at h
  · rename_i hh
    have s := Classical.choose_spec (Classical.choose_spec hh)
    cases h
    exact ⟨_, s⟩
  · cases h
/-- one turn -/
theorem whileC_eq (c : En → Mem → Option (Bool × Mem)) (b : En → Mem → Option R) (σ : En) (M : Mem) :
    whileC c b σ M = match c σ M with
    | some (true, M1) => (match b σ M1 with
      | some (.nx σ' M') => whileC c b σ' M'
      | some (.ct σ' M') => whileC c b σ' M'
      | some (.bk σ' M') => some (.nx σ' M')
      | r => r)
    | some (false, M1) => some (.nx σ M1)
    | none => none := by
  have key : ∀ (x : Option R), (∀ r, x = some r → ∃ n, whileN c b n σ M = some r) → (∀ n r, whileN c b n σ M = some r → x = some r) → whileC c b σ M = x := by
    intro x h1 h2
    cases hx : x with
    | some r =>
      obtain ⟨n, hn⟩ := h1 r hx
      exact whileC_of hn
    | none =>
      cases hw : whileC c b σ M with
      | none => rfl
      | some r =>
        obtain ⟨n, hn⟩ := of_whileC hw
        have := h2 n r hn
        rw [hx] at this; cases this
  refine key _ (fun r h => ?_) (fun n r h => ?_)
  · cases hc : c σ M with
    | none => rw [hc] at h; cases h
    | some p =>
      obtain ⟨t, M1⟩ := p
      rw [hc] at h
      cases t with
      | false => exact ⟨1, by unfold whileN; rw [hc]; exact h⟩
      | true =>
        simp only at h
        cases hb : b σ M1 with
        | none => rw [hb] at h; cases h
        | some x =>
          rw [hb] at h
          cases x with
          | nx s m =>
            obtain ⟨n, hn⟩ := of_whileC h
            exact ⟨n + 1, by unfold whileN; rw [hc]; simp only [hb]; exact hn⟩
          | ct s m =>
            obtain ⟨n, hn⟩ := of_whileC h
            exact ⟨n + 1, by unfold whileN; rw [hc]; simp only [hb]; exact hn⟩
          | bk s m => exact ⟨1, by unfold whileN; rw [hc]; simp only [hb]; exact h⟩
          | rt t m => exact ⟨1, by unfold whileN; rw [hc]; simp only [hb]; exact h⟩
  · cases n with
    | zero => simp [whileN] at h
    | succ n =>
      unfold whileN at h
      cases hc : c σ M with
      | none => rw [hc] at h; cases h
      | some p =>
        obtain ⟨t, M1⟩ := p
        rw [hc] at h
        cases t with
        | false => exact h
        | true =>
          simp only at h ⊢
          cases hb : b σ M1 with
          | none => rw [hb] at h; exact h
          | some x =>
            rw [hb] at h
            cases x with
            | nx s m => exact whileC_of h
            | ct s m => exact whileC_of h
            | bk s m => exact h
            | rt t m => exact h
open Classical in
noncomputable def forC (g : List (Nat × List T)) (step : T → En → Mem → Option R) : List T → En → Mem → Option R
  | [], σ, M => if Grd g M then some (.nx σ M) else none
  | t :: ts, σ, M => if Grd g M then (match step t σ M with
    | some (.nx σ' M') => forC g step ts σ' M'
    | some (.ct σ' M') => forC g step ts σ' M'
    | some (.bk σ' M') => some (.nx σ' M')
    | r => r) else none
def putA (f : Str) (v : T) : List (Str × T) → List (Str × T)
  | [] => [(f, v)]
  | (g, x) :: r => if g = f then (g, v) :: r else (g, x) :: putA f v r
def parE (σ : En) : List (Nat × Str) → List T → En
  | (i, _) :: xs, t :: ts => parE (σ.set i (some t)) xs ts
  | _, _ => σ
def augT (op : Operator) (x y : T) : Option T :=
  match op, x, y with
  | .Add, .int i, .int j => some (.int (i + j))
  | .Sub, .int i, .int j => some (.int (i - j))
  | _, _, _ => none
mutual
noncomputable def exS (G : Sig) : MS → En → Mem → Option R
  | .set i _ e, σ, M => (evE G e σ M).map fun p => .nx (σ.set i (some p.1)) p.2
  | .asg t e, σ, M => (evE G e σ M).bind fun p => (asgT t p.1 σ).map fun σ1 => .nx σ1 p.2
  | .setI o i e, σ, M => (evE G e σ M).bind fun v => (evE G o σ v.2).bind fun p => (evE G i σ p.2).bind fun q => (setT p.1 q.1 v.1 q.2).map fun M1 => .nx σ M1
  | .par xs es, σ, M => (evEs G es σ M).bind fun p => if p.1.length = xs.length then some (.nx (parE σ xs p.1) p.2) else none
  | .setA c o f e, σ, M => (evE G e σ M).bind fun v => (evE G o σ v.2).bind fun p => match p.1 with
    | .obj i => match p.2[i]? with
      | some (.ins c' fs) => if c' = c ∧ fs.length < 1000 then (G.cls.lookup c).bind fun C => if f ∈ C.attrs then some (.nx σ (p.2.set i (.ins c (putA f v.1 fs)))) else none else none
      | _ => none
    | _ => none
  | .aug i _ op e, σ, M => match σ[i]? with
    | some (some x) => (evE G e σ M).bind fun p => (augT op x p.1).map fun y => .nx (σ.set i (some y)) p.2
    | _ => none
  | .augI o i op e, σ, M => (evE G o σ M).bind fun p => (evE G i σ p.2).bind fun q => (ixT p.1 q.1 q.2).bind fun x => (evE G e σ q.2).bind fun y => (augT op x y.1).bind fun z =>
      (setT p.1 q.1 z y.2).map fun M1 => .nx σ M1
  | .ex e, σ, M => (evE G e σ M).map fun p => .nx σ p.2
  | .ret e, σ, M => (evE G e σ M).map fun p => .rt p.1 p.2
  | .retN, _, M => some (.rt .non M)
  | .ite c a b, σ, M => (tst (evE G c σ M)).bind fun p => if p.1 then exSs G a σ p.2 else exSs G b σ p.2
  | .whl c b, σ, M => whileC (fun σ M => tst (evE G c σ M)) (fun σ M => exSs G b σ M) σ M
  | .for t it b, σ, M => (evI G it σ M).bind fun p => forC p.1.2 (fun x σ M => (asgT t x σ).bind fun σ1 => exSs G b σ1 M) p.1.1 σ p.2
  | .brk, σ, M => some (.bk σ M)
  | .cnt, σ, M => some (.ct σ M)
  | .pas, σ, M => some (.nx σ M)
noncomputable def exSs (G : Sig) : List MS → En → Mem → Option R
  | [], σ, M => some (.nx σ M)
  | s :: ss, σ, M => match exS G s σ M with
    | some (.nx σ1 M1) => exSs G ss σ1 M1
    | r => r
end
/-- a def -/
structure MD where
  ps : List Str
  N : List Str
  body : List MS
  sl : Bool := true
def startE (N : List Str) (ts : List T) : En := ts.map some ++ List.replicate (N.length - ts.length) none
open Classical in
/-- behind a call: what was made for the answer alone is told by value -/
noncomputable def fin (sl : Bool) (M : Mem) (r : T) (M1 : Mem) : T × Mem :=
  if sl = true ∧ M1.take M.length = M then (match sealT M1 M.length 6 r with | some r' => (r', M) | none => (r, M1)) else (r, M1)
noncomputable def runD (G : Sig) (d : MD) : Fn := fun ts M =>
  if ts.length = d.ps.length then (exSs G d.body (startE d.N ts) M).bind fun r => match r with
    | .rt t M1 => some (fin d.sl M t M1)
    | .nx _ M1 => some (fin d.sl M .non M1)
    | _ => none
  else none
end Mi
end L2

/-! Mini: the operators are the model's. -/
namespace L2
namespace Mi
open PySem PySem.Spec PyProof.Rows

/-- what is wanted of a value and a memory -/
def Ok1 (K : KC) (φ ψ : List Addr) (H : Hp) (t : T) (M : Mem) (Q : VK) : Prop :=
  ∀ φ' H' v, Ext φ H φ' H' → RM K φ' ψ H' M → RT K φ' ψ H' t v → Q v H'
section
variable {K : KC} {φ φ' ψ : List Addr} {H H' : Hp} {M : Mem} {Q : VK} {t : T} {ts : List T} {vs : List V}
theorem Ok1.ext (o : Ok1 K φ ψ H t M Q) (x : Ext φ H φ' H') : Ok1 K φ' ψ H' t M Q := fun φ2 H2 v y => o φ2 H2 v (x.trans y)
theorem Ok1.here (o : Ok1 K φ ψ H t M Q) (r : RM K φ ψ H M) {v : V} (h : RT K φ ψ H t v) : Q v H := o φ H v .refl r h
theorem fre_new (r : RM K φ ψ H M) {p : Addr} (hp : H p = none) : Fre φ ψ p := ⟨r.fresh hp, fun hm => r.used p hm hp⟩
theorem Ok1.newTup (o : Ok1 K φ ψ H (.tup ts) M Q) (r : RM K φ ψ H M) (h : RTs K φ ψ H ts vs) {p : Addr} (hp : H p = none) : Q (.ref p) (upd H p (.tup vs)) := by
  have hf := fre_new r hp
  have x : Ext φ H φ (upd H p (.tup vs)) := .new hp hf.1
  exact o φ _ _ x (r.new hp) (.tup (.inl ⟨hf, upd_same⟩) (h.to x))
theorem Ok1.newL {tr : Bool} (o : Ok1 K φ ψ H (mkL tr ts M).1 (mkL tr ts M).2 Q) (r : RM K φ ψ H M) (h : RTs K φ ψ H ts vs) {p : Addr} (hp : H p = none) : Q (.ref p) (upd H p (.lst vs)) := by
  have hf := fre_new r hp
  cases tr with
  | false =>
    have x : Ext φ H φ (upd H p (.lst vs)) := .new hp hf.1
    exact o φ _ _ x (r.new hp) (.fl hf upd_same (h.to x))
  | true =>
    have x : Ext φ H (φ ++ [p]) (upd H p (.lst vs)) := .push hp
    refine o _ _ _ x (r.push hp ⟨vs, upd_same, h.to x⟩) (.obj ?_)
    rw [← r.len, List.getElem?_append_right (Nat.le_refl _), Nat.sub_self]
    rfl
theorem RM.obj (r : RM K φ ψ H M) {i : Nat} {o : O} {a : Addr} (h : φ[i]? = some a) (e : M[i]? = some o) : RO K φ ψ H a o := r.at_ i a o h e
theorem lof_obj {i : Nat} (e : lof M (.obj i) = some ts) : M[i]? = some (.lst ts) := by
  simp only [lof] at e
  split at e
  · rename_i us hus
    cases e
    exact hus
  · cases e
/-- what a list value is -/
theorem lof_ok (r : RM K φ ψ H M) {v : V} (h : RT K φ ψ H t v) (e : lof M t = some ts) : ∃ a vs, v = .ref a ∧ H a = some (.lst vs) ∧ RTs K φ ψ H ts vs := by
  cases h with
  | fl h1 h2 h3 => cases e; exact ⟨_, _, rfl, h2, h3⟩
  | obj h1 =>
    obtain ⟨vs, q1, q2⟩ := r.obj h1 (lof_obj e)
    exact ⟨_, vs, rfl, q1, q2⟩
  | _ => exact nomatch e
theorem lofS_ok (r : RM K φ ψ H M) {v : V} (h : RT K φ ψ H t v) (e : lofS M t = some ts) : ∃ a vs, v = .ref a ∧ SqL K.K H a vs ∧ RTs K φ ψ H ts vs := by
  unfold lofS at e
  split at e
  · cases e
    cases h with
    | sc h => exact ⟨_, _, rfl, h.sq, RTs.ints' _⟩
  · obtain ⟨a, vs, h1, h2, h3⟩ := lof_ok r h e
    exact ⟨a, vs, h1, .of h2, h3⟩
theorem sof_ok (r : RM K φ ψ H M) {v : V} (h : RT K φ ψ H t v) (e : sof M t = some ts) : ∃ a vs, v = .ref a ∧ RTs K φ ψ H ts vs ∧ ((SqL K.K H a vs ∧ ∀ us, t ≠ .tup us) ∨ (SqT K.K H a vs ∧ t = .tup ts)) := by
  unfold sof at e
  split at e
  · cases e
    cases h with
    | tup h1 h2 => exact ⟨_, _, rfl, h2, .inr ⟨h1.sq, rfl⟩⟩
  · rename_i hne
    obtain ⟨a, vs, h1, h2, h3⟩ := lofS_ok r h e
    exact ⟨a, vs, h1, h3, .inl ⟨h2, hne⟩⟩
end
theorem szl : sizeLine = 16777216 := sizeLine_eq
theorem mulOk.ok {i j : Int} (h : mulOk i j) : IntMulOk i j := by
  have b : ∀ x : Int, Builtin.Int.intBits x ≤ x.natAbs.log2 + 1 := fun x => by
    unfold Builtin.Int.intBits
    split <;> omega
  have h1 := b i
  have h2 := b j
  have h3 : i.natAbs.log2 + j.natAbs.log2 < 134000000 := h
  have e : bitsLine = 134217728 := by decide
  unfold IntMulOk
  intro z
  rw [Bool.and_eq_true] at z
  have z2 := z.2
  unfold Builtin.Int.intTooBig at z2
  have z3 := of_decide_eq_true z2
  rw [e] at z3
  omega
section
variable {X : Cx} {K : KC}
theorem op_mulM : OpR X (binaryOp .Mult) (rI mulOk fun i j => .int (i * j)) := opI fun _ _ _ _ _ _ _ hc q => mul_int q hc.ok
theorem op_divM : OpR X (binaryOp .FloorDiv) (rI (fun _ j => divOk j) fun i j => .int (i.fdiv j)) := opI fun i j _ _ _ _ _ hc q => floordiv_int hc.1 q (.inl (PyProof.noPylong_of_log2 hc.2))
/-! ### tuple * 0, tuple * 1 -/
theorem tuple_mulW1 (l : Addr) (items : Array Value) (n : Nat) (dd : Option Addr) (sl : Array (Option Value)) (x : Int) (u : Tok) (c1 : x = 1) :
    Meets (Builtin.«tuple.__mul__» ⟨[.ref l, .int x u], []⟩) (fun _ R s => s.heap.get? l = some { cls := .type "tuple", dict := dd, data := .seq items n, slots := sl } ∧
      R (.ok (.ret (Value.ref l))) s) :=
  .of_wp fun prog w A R s h => by
    obtain ⟨hp, g, d, tk, os⟩ := s
    obtain ⟨hl, h⟩ := h
    subst c1
    have f1 := AutoSeq1.idx_int
    wp_walk using wpAny_loadPart' hl
    repeat (first
      | (refine wpAny_ite_false (decide_eq_false (by decide)) ?_; wp_walk using wpAny_loadPart' hl)
      | (refine wpAny_ite_true (decide_eq_true (by simp)) ?_; wp_walk using wpAny_loadPart' hl))
    exact ⟨_, rfl, h⟩
theorem tuple_mulW0 (l : Addr) (items : Array Value) (n : Nat) (dd : Option Addr) (sl : Array (Option Value)) (x : Int) (u : Tok) (c1 : x = 0) (ci : items.isEmpty = false) :
    Meets (Builtin.«tuple.__mul__» ⟨[.ref l, .int x u], []⟩) (fun _ R s => s.heap.get? l = some { cls := .type "tuple", dict := dd, data := .seq items n, slots := sl } ∧
      R (.ok (.ret (Value.ref s.heap.objs.size))) { s with heap := s.heap.push { cls := Value.type "tuple", data := Data.seq #[] } }) :=
  .of_wp fun prog w A R s h => by
    obtain ⟨hp, g, d, tk, os⟩ := s
    obtain ⟨hl, h⟩ := h
    subst c1
    have f1 := AutoSeq1.idx_int
    wp_walk using wpAny_loadPart' hl
    repeat (first
      | (refine wpAny_ite_false (decide_eq_false (by decide)) ?_; wp_walk using wpAny_loadPart' hl)
      | (refine wpAny_ite_false (decide_eq_false (by rw [ci]; decide)) ?_; wp_walk using wpAny_loadPart' hl)
      | (refine wpAny_ite_true (decide_eq_true (by simp)) ?_; wp_walk using wpAny_loadPart' hl))
    exact ⟨_, rfl, h⟩
def rRep0 (K : PySem.W.Frag) : R2 := fun x y H Q => ∃ l xs, x = .ref l ∧ y = .int 0 ∧ SqT K H l xs ∧ xs ≠ [] ∧ ∀ p, H p = none → Q (.ref p) (upd H p (.tup []))
def rRep1 (K : PySem.W.Frag) : R2 := fun x y H Q => ∃ l xs, x = .ref l ∧ y = .int 1 ∧ SqT K H l xs ∧ Q (.ref l) H
theorem op_rep0 : OpR X (binaryOp .Mult) (rRep0 X.K) := by
  intro pins s σ H x y v u Q I rx ry h
  obtain ⟨l, xs, rfl, rfl, hT, hne, q⟩ := h
  cases rx
  obtain ⟨t, rfl⟩ := ry
  obtain ⟨its, r, ⟨⟨cls, dd, data, sl⟩, ho, hc, n, hd⟩, hs⟩ := I.tuple hT
  simp only at hc hd
  subst hc hd
  have hle : its.length = xs.length := r.length.symm
  have hi : its.toArray.isEmpty = false := by
    cases its with
    | nil => exact absurd (List.eq_nil_of_length_eq_zero (by simpa using hle.symm)) hne
    | cons a b => rfl
  refine wpAny_binaryOp_repeat_ref (T := "tuple") (U := "int") (by decide) ⟨_, ho, rfl⟩ (fun s' => typeIs_int s' 0 t) noFill_tuple_mul F.fills_int_mul F.slot_int_rmul repeat_tuple F.slot_int_index.lookup
    (call_meets F.slot_int_rmul (typeIs_int s 0 t) F.entry_int_rmul (F.args_int_rmul_2 _ _) (int_rmul_tuple 0 t l its.toArray n dd sl)
      ⟨ho, rfl, ⟨_, ho, rfl⟩, call_meets F.slot_tuple_mul ⟨_, ho, rfl⟩ F.entry_tuple_mul (F.args_tuple_mul_2 _ _) (tuple_mulW0 l its.toArray n dd sl 0 t rfl hi) ⟨ho, ?_⟩⟩)
  refine ⟨.ref s.heap.objs.size, _, I.laid (t' := s.toks) (o := .tup []) (fun b ob q => Heap.get?_push_of_some _ q) (Nat.le_refl _) ?_, rfl, q _ (I.hok.fresh (Nat.le_refl _))⟩
  exact ⟨Nat.zero_le _, [], .nil, IsTup.new _ _⟩
theorem op_rep1 : OpR X (binaryOp .Mult) (rRep1 X.K) := by
  intro pins s σ H x y v u Q I rx ry h
  obtain ⟨l, xs, rfl, rfl, hT, q⟩ := h
  cases rx
  obtain ⟨t, rfl⟩ := ry
  obtain ⟨its, r, ⟨⟨cls, dd, data, sl⟩, ho, hc, n, hd⟩, hs⟩ := I.tuple hT
  simp only at hc hd
  subst hc hd
  refine wpAny_binaryOp_repeat_ref (T := "tuple") (U := "int") (by decide) ⟨_, ho, rfl⟩ (fun s' => typeIs_int s' 1 t) noFill_tuple_mul F.fills_int_mul F.slot_int_rmul repeat_tuple F.slot_int_index.lookup
    (call_meets F.slot_int_rmul (typeIs_int s 1 t) F.entry_int_rmul (F.args_int_rmul_2 _ _) (int_rmul_tuple 1 t l its.toArray n dd sl)
      ⟨ho, rfl, ⟨_, ho, rfl⟩, call_meets F.slot_tuple_mul ⟨_, ho, rfl⟩ F.entry_tuple_mul (F.args_tuple_mul_2 _ _) (tuple_mulW1 l its.toArray n dd sl 1 t rfl) ⟨ho, ?_⟩⟩)
  exact ⟨.ref l, H, I, rfl, q⟩

/-! ### every operator -/
def rBin (K : KC) (op : Operator) (tr : Bool) : R2 := fun vx vy H Q =>
  ∃ φ ψ M x y t M', RM K φ ψ H M ∧ RT K φ ψ H x vx ∧ RT K φ ψ H y vy ∧ binT op tr x y M = some (t, M') ∧ Ok1 K φ ψ H t M' Q
theorem op_bin (hK : K.K = X.K) (op : Operator) (tr : Bool) : OpR X (binaryOp op) (rBin K op tr) := by
  intro pins s σ H vx vy v u Q I rx ry h
  obtain ⟨φ, ψ, M, x, y, t, M', rm, r1, r2, e, ok⟩ := h
  have sz := szl
  unfold binT at e
  split at e
  · cases e; cases r1; cases r2
    exact op_add pins s σ H _ _ v u Q I rx ry ⟨_, _, rfl, rfl, ok.here rm (.int _)⟩
  · cases e; cases r1; cases r2
    exact op_sub pins s σ H _ _ v u Q I rx ry ⟨_, _, rfl, rfl, ok.here rm (.int _)⟩
  · split at e
    · rename_i hm
      cases e; cases r1; cases r2
      exact op_mulM pins s σ H _ _ v u Q I rx ry ⟨_, _, rfl, rfl, hm, ok.here rm (.int _)⟩
    · cases e
  · split at e
    · rename_i hm
      cases e; cases r1; cases r2
      exact op_divM pins s σ H _ _ v u Q I rx ry ⟨_, _, rfl, rfl, hm, ok.here rm (.int _)⟩
    · cases e
  · split at e
    · rename_i hm
      cases e; cases r1; cases r2
      exact op_modN pins s σ H _ _ v u Q I rx ry ⟨_, _, rfl, rfl, hm, ok.here rm (.int _)⟩
    · cases e
  · split at e
    · rename_i hm
      cases e; cases r1; cases r2
      exact op_pow pins s σ H _ _ v u Q I rx ry ⟨_, _, rfl, rfl, hm, ok.here rm (.int _)⟩
    · cases e
  · split at e
    · rename_i hm
      cases e; cases r1; cases r2
      exact op_add_str pins s σ H _ _ v u Q I rx ry ⟨_, _, rfl, rfl, by omega, ok.here rm (.str _)⟩
    · cases e
  · split at e
    · rename_i a b hm
      cases e; cases r1; cases r2
      rename_i c1 us1 g1 z1 c2 us2 g2 z2
      have l1 := z1.length
      have l2 := z2.length
      refine op_catA pins s σ H _ _ v u Q I rx ry ⟨_, _, _, _, rfl, rfl, (hK ▸ g1.sq), (hK ▸ g2.sq), by omega, fun e0 => ?_, fun _ e0 => ?_, fun _ _ p hp => ?_⟩
      · subst e0
        cases z1
        exact ok.here rm (.tup g2 z2)
      · subst e0
        cases z2
        rw [List.append_nil] at ok
        exact ok.here rm (.tup g1 z1)
      · exact ok.newTup rm (z1.append z2) hp
    · cases e
  · split at e
    · rename_i a j hm
      obtain ⟨h0, h1, h2, h3⟩ := hm
      cases e; cases r1; cases r2
      rename_i c1 us1 g1 z1
      have l1 := z1.length
      have hne : us1 ≠ [] := fun z => by
        subst z
        cases z1
        exact h3 rfl
      by_cases j0 : j = 0
      · subst j0
        exact op_rep0 pins s σ H _ _ v u Q I rx ry ⟨_, _, rfl, rfl, (hK ▸ g1.sq), hne, fun p hp => ok.newTup rm (ts := []) .nil hp⟩
      · by_cases j1 : j = 1
        · subst j1
          refine op_rep1 pins s σ H _ _ v u Q I rx ry ⟨_, _, rfl, rfl, (hK ▸ g1.sq), ?_⟩
          have e1 : (List.replicate (1 : Int).toNat a).flatten = a := by simp
          rw [e1] at ok
          exact ok.here rm (.tup g1 z1)
        · exact op_repT pins s σ H _ _ v u Q I rx ry ⟨_, _, _, rfl, rfl, (hK ▸ g1.sq), hne, by omega, h1, by omega, fun p hp => ok.newTup rm (z1.rep _) hp⟩
    · cases e
  · obtain ⟨a, ea, e⟩ := Option.bind_eq_some_iff.mp e
    obtain ⟨b, eb, e⟩ := Option.bind_eq_some_iff.mp e
    split at e
    · rename_i hm
      obtain ⟨c1, us1, rfl, g1, z1⟩ := lof_ok rm r1 ea
      obtain ⟨c2, us2, rfl, g2, z2⟩ := lof_ok rm r2 eb
      have l1 := z1.length
      have l2 := z2.length
      obtain ⟨rfl, rfl⟩ := Prod.mk.inj (Option.some.inj e)
      exact op_cat pins s σ H _ _ v u Q I rx ry ⟨_, _, _, _, rfl, rfl, g1, g2, by omega, fun p hp => ok.newL rm (z1.append z2) hp⟩
    · cases e
  · obtain ⟨a, ea, e⟩ := Option.bind_eq_some_iff.mp e
    split at e
    · rename_i hm
      obtain ⟨c1, us1, rfl, g1, z1⟩ := lof_ok rm r1 ea
      have l1 := z1.length
      cases r2
      obtain ⟨rfl, rfl⟩ := Prod.mk.inj (Option.some.inj e)
      exact op_rep pins s σ H _ _ v u Q I rx ry ⟨_, _, _, rfl, rfl, g1, hm.1.1, hm.1.2, by rw [← l1, sz]; exact hm.2, fun p hp => ok.newL rm (z1.rep _) hp⟩
    · cases e
  · cases e
end
end Mi
end L2

/-! Mini: equality, membership, comparisons, truth. -/
namespace L2
namespace Mi
open PySem PySem.Spec PyProof.Rows

mutual
def toD : T → PyData
  | .non => .none
  | .bl b => .bool b
  | .int i => .int i
  | .str x => .str x
  | .tup ts => .tuple (toDs ts)
  | .fl ts => .list (toDs ts)
  | _ => .none
def toDs : List T → List PyData
  | [] => []
  | t :: ts => toD t :: toDs ts
end
mutual
theorem toD_eqv : ∀ (a b : T), okT a = true → okT b = true → PyData.eqv (toD a) (toD b) = eqT a b
  | .non, b, _, hb => by cases b <;> first | (exfalso; simp [okT] at hb; done) | rfl | simp [toD, PyData.eqv, eqT]
  | .bl x, b, _, hb => by cases b <;> first | rfl | simp [toD, PyData.eqv, eqT] | (simp [okT] at hb)
  | .int x, b, _, hb => by cases b <;> first | rfl | simp [toD, PyData.eqv, eqT] | (simp [okT] at hb)
  | .str x, b, _, hb => by cases b <;> first | rfl | simp [toD, PyData.eqv, eqT] | (simp [okT] at hb)
  | .tup xs, b, ha, hb => by
    cases b with
    | tup ys =>
      simp only [toD, PyData.eqv, eqT]
      simp only [okT] at ha hb
      exact toDs_eqv xs ys ha hb
    | _ => first | rfl | simp [toD, PyData.eqv, eqT] | (simp [okT] at hb)
  | .fl xs, b, ha, hb => by
    cases b with
    | fl ys =>
      simp only [toD, PyData.eqv, eqT]
      simp only [okT] at ha hb
      exact toDs_eqv xs ys ha hb
    | _ => first | rfl | simp [toD, PyData.eqv, eqT] | (simp [okT] at hb)
  | .fd _ _ _, _, ha, _ => by simp [okT] at ha
  | .sc _, _, ha, _ => by simp [okT] at ha
  | .obj _, _, ha, _ => by simp [okT] at ha
theorem toDs_eqv : ∀ (a b : List T), okTs a = true → okTs b = true → PyData.eqvAll (toDs a) (toDs b) = eqTs a b
  | [], [], _, _ => by simp [toDs, PyData.eqvAll, eqTs]
  | [], _ :: _, _, _ => by simp [toDs, PyData.eqvAll, eqTs]
  | _ :: _, [], _, _ => by simp [toDs, PyData.eqvAll, eqTs]
  | x :: xs, y :: ys, ha, hb => by
    simp only [okTs, Bool.and_eq_true] at ha hb
    simp only [toDs, PyData.eqvAll, eqTs]
    rw [toD_eqv x y ha.1 hb.1, toDs_eqv xs ys ha.2 hb.2]
end
mutual
theorem toD_lay : ∀ (a : T), okT a = true → (toD a).canLay0 = true
  | .non, _ => by simp [toD, PyData.canLay0]
  | .bl _, _ => by simp [toD, PyData.canLay0]
  | .int _, _ => by simp [toD, PyData.canLay0]
  | .str x, h => by simp only [okT] at h; simp [toD, PyData.canLay0, h]
  | .tup xs, h => by simp only [okT] at h; simp only [toD, PyData.canLay0]; exact toDs_lay xs h
  | .fl xs, h => by simp only [okT] at h; simp only [toD, PyData.canLay0]; exact toDs_lay xs h
  | .fd _ _ _, h => by simp [okT] at h
  | .sc _, h => by simp [okT] at h
  | .obj _, h => by simp [okT] at h
theorem toDs_lay : ∀ (a : List T), okTs a = true → PyData.canLayAll0 (toDs a) = true
  | [], _ => by simp [toDs, PyData.canLayAll0]
  | x :: xs, h => by
    simp only [okTs, Bool.and_eq_true] at h
    simp only [toDs, PyData.canLayAll0, Bool.and_eq_true]
    exact ⟨toD_lay x h.1, toDs_lay xs h.2⟩
end
mutual
theorem toD_dep : ∀ (a : T), okT a = true → (toD a).depth = depT a
  | .non, _ => by simp [toD, PyData.depth, depT]
  | .bl _, _ => by simp [toD, PyData.depth, depT]
  | .int _, _ => by simp [toD, PyData.depth, depT]
  | .str x, h => by simp [toD, PyData.depth, depT]
  | .tup xs, h => by simp only [okT] at h; simp only [toD, PyData.depth, depT]; rw [toDs_dep xs h]
  | .fl xs, h => by simp only [okT] at h; simp only [toD, PyData.depth, depT]; rw [toDs_dep xs h]
  | .fd _ _ _, h => by simp [okT] at h
  | .sc _, h => by simp [okT] at h
  | .obj _, h => by simp [okT] at h
theorem toDs_dep : ∀ (a : List T), okTs a = true → PyData.depthAll (toDs a) = depTs a
  | [], _ => by simp [toDs, PyData.depthAll, depTs]
  | x :: xs, h => by
    simp only [okTs, Bool.and_eq_true] at h
    simp only [toDs, PyData.depthAll, depTs]
    rw [toD_dep x h.1, toDs_dep xs h.2]
end
theorem toD_shaped {a : T} (h : okT a = true) (d : depT a ≤ 60) : SeqAt.shaped (toD a) = true := by
  show ((toD a).canLay0 && decide ((toD a).depth ≤ 64)) = true
  rw [toD_lay a h, toD_dep a h, Bool.true_and]
  exact decide_eq_true (by omega)
theorem toDs_shaped {a : List T} (h : okTs a = true) (d : depTs a ≤ 59) : SeqAt.shaped (.list (toDs a)) = true := by
  have h1 := toDs_lay a h
  have h2 := toDs_dep a h
  show ((PyData.list (toDs a)).canLay0 && decide ((PyData.list (toDs a)).depth ≤ 64)) = true
  rw [Bool.and_eq_true]
  exact ⟨by simp only [PyData.canLay0]; exact h1, decide_eq_true (by simp only [PyData.depth]; omega)⟩
theorem any_eqv : ∀ (ys : List T) (x : T), okTs ys = true → okT x = true → ((toDs ys).any fun z => PyData.eqv z (toD x)) = ys.any fun z => eqT z x
  | [], _, _, _ => rfl
  | y :: ys, x, h, hx => by
    simp only [okTs, Bool.and_eq_true] at h
    simp only [toDs, List.any_cons]
    rw [toD_eqv y x h.1 hx, any_eqv ys x h.2 hx]

section
variable {K : KC} {φ ψ : List Addr} {H : Hp} {M : Mem}
mutual
theorem RT.dp : ∀ (t : T) (v : V), RT K φ ψ H t v → okT t = true → Dp K.K H v (toD t)
  | .non, _, h, _ => by cases h; exact .non
  | .bl b, _, h, _ => by cases h; exact .bl b
  | .int b, _, h, _ => by cases h; exact .int b
  | .str b, _, h, _ => by cases h; exact .str b
  | .tup ts, _, h, k => by
    cases h with
    | tup h1 h2 => simp only [okT] at k; exact .tup h1.sq (RTs.dp ts _ h2 k)
  | .fl ts, _, h, k => by
    cases h with
    | fl h1 h2 h3 => simp only [okT] at k; exact .lst (.of h2) (RTs.dp ts _ h3 k)
  | .fd _ _ _, _, _, k => by simp [okT] at k
  | .sc _, _, _, k => by simp [okT] at k
  | .obj _, _, _, k => by simp [okT] at k
theorem RTs.dp : ∀ (ts : List T) (vs : List V), RTs K φ ψ H ts vs → okTs ts = true → DpAll K.K H vs (toDs ts)
  | [], _, h, _ => by cases h; exact .nil
  | t :: ts, _, h, k => by
    simp only [okTs, Bool.and_eq_true] at k
    cases h with
    | cons h1 h2 => exact .cons (RT.dp t _ h1 k.1) (RTs.dp ts _ h2 k.2)
end
theorem mapM_dp {f : T → Option T} (hf : ∀ t v a, RT K φ ψ H t v → f t = some a → okT a = true → Dp K.K H v (toD a)) : ∀ (ts : List T) (vs : List V) (as : List T), RTs K φ ψ H ts vs → ts.mapM f = some as → okTs as = true → DpAll K.K H vs (toDs as)
  | [], _, as, h, e, k => by
    cases h
    simp at e
    subst e
    exact .nil
  | t :: ts, _, as, h, e, k => by
    cases h with
    | cons h1 h2 =>
      rw [List.mapM_cons] at e
      obtain ⟨a, ea, e⟩ := Option.bind_eq_some_iff.mp e
      obtain ⟨r, er, e⟩ := Option.bind_eq_some_iff.mp e
      cases e
      simp only [okTs, Bool.and_eq_true] at k
      exact .cons (hf t _ a h1 ea k.1) (mapM_dp hf ts _ r h2 er k.2)
theorem seal_dp (r : RM K φ ψ H M) (n : Nat) : ∀ (f : Nat) (t : T) (v : V) (a : T), RT K φ ψ H t v → sealT M n f t = some a → okT a = true → Dp K.K H v (toD a)
  | 0, t, v, a, h, e, k => by
    unfold sealT at e
    split at e
    · cases e; exact RT.dp t v h k
    · cases e
  | f + 1, t, v, a, h, e, k => by
    unfold sealT at e
    split at e
    · cases e; exact RT.dp t v h k
    · split at e
      · rename_i i
        split at e
        · split at e
          · rename_i ts hts
            obtain ⟨as, ea, e⟩ := Option.map_eq_some_iff.mp e
            subst e
            cases h with
            | obj h1 =>
              obtain ⟨vs, q1, q2⟩ := r.obj h1 hts
              simp only [okT] at k
              exact .lst (.of q1) (mapM_dp (fun t v a h e k => seal_dp r n f t v a h e k) ts vs as q2 ea k)
          · obtain ⟨as, ea, e⟩ := Option.map_eq_some_iff.mp e
            subst e
            simp [okT] at k
          · cases e
        · cases e
      · obtain ⟨as, ea, e⟩ := Option.map_eq_some_iff.mp e
        subst e
        cases h with
        | tup h1 h2 =>
          simp only [okT] at k
          exact .tup h1.sq (mapM_dp (fun t v a h e k => seal_dp r n f t v a h e k) _ _ as h2 ea k)
      · obtain ⟨as, ea, e⟩ := Option.map_eq_some_iff.mp e
        subst e
        cases h with
        | fl h1 h2 h3 =>
          simp only [okT] at k
          exact .lst (.of h2) (mapM_dp (fun t v a h e k => seal_dp r n f t v a h e k) _ _ as h3 ea k)
      · obtain ⟨as, ea, e⟩ := Option.map_eq_some_iff.mp e
        subst e
        simp [okT] at k
      · cases e
theorem okTs_ints : ∀ ns : List Int, okTs (ns.map T.int) = true
  | [] => rfl
  | n :: ns => by simp only [List.map_cons, okTs, okT, Bool.true_and]; exact okTs_ints ns
theorem pureTs_ints : ∀ ns : List Int, pureTs (ns.map T.int) = true
  | [] => rfl
  | n :: ns => by simp only [List.map_cons, pureTs, pureT, Bool.true_and]; exact pureTs_ints ns
theorem seal_pure {n f : Nat} {t : T} (h : pureT t = true) : sealT M n f t = some t := by
  cases f with
  | zero => unfold sealT; rw [if_pos h]
  | succ f => unfold sealT; rw [if_pos h]
theorem scl_dp (r : RM K φ ψ H M) {t : T} {v : V} {a : T} (h : RT K φ ψ H t v) (e : sealT M 0 6 (scL t) = some a) (k : okT a = true) : Dp K.K H v (toD a) := by
  cases t with
  | sc ns =>
    cases h with
    | sc h =>
      have e2 : scL (.sc ns) = .fl (ns.map .int) := rfl
      rw [e2, seal_pure (by simp only [pureT]; exact pureTs_ints ns)] at e
      cases e
      refine .lst h.sq ?_
      exact RTs.dp (φ := φ) (ψ := ψ) _ _ (RTs.ints' ns) (okTs_ints ns)
  | _ => exact seal_dp r 0 6 _ v a h e k
end
/-! ### comparisons -/
theorem lkp_dK {kvs : List (Key × V)} {K : KC} {φ ψ : List Addr} {H : Hp} : ∀ {ts : List T} (k : Key), RTs K φ ψ H ts (kvs.map (·.2)) →
    (∀ t, lkp (kvs.map fun p => keyT p.1) ts (keyT k) = some t → ∃ v, valV kvs k = some v ∧ RT K φ ψ H t v) ∧ (lkp (kvs.map fun p => keyT p.1) ts (keyT k)).isSome = (valV kvs k).isSome := by
  induction kvs with
  | nil => intro ts k h; cases h; exact ⟨fun t e => by simp [lkp] at e, rfl⟩
  | cons p r ih =>
    intro ts k h
    cases h with
    | cons h1 h2 =>
      have key : eqT (keyT p.1) (keyT k) = decide (p.1 = k) := by
        cases hp : p.1 with
        | inl a => cases k with
          | inl b =>
            simp only [keyT, eqT]
            by_cases e : a = b
            · subst e; simp
            · rw [decide_eq_false (fun q => e (Sum.inl.inj q))]; simpa using e
          | inr b => simp [keyT, eqT]
        | inr a => cases k with
          | inl b => simp [keyT, eqT]
          | inr b =>
            simp only [keyT, eqT]
            by_cases e : a = b
            · subst e; simp
            · rw [decide_eq_false (fun q => e (Sum.inr.inj q))]; simpa using e
      simp only [List.map_cons, lkp, key]
      by_cases e : p.1 = k
      · rw [if_pos (by simpa using e), valV_pos e]
        exact ⟨fun t q => by cases q; exact ⟨_, rfl, h1⟩, rfl⟩
      · rw [if_neg (by simpa using e), valV_neg e]
        exact ih k h2
theorem keyT_inj {a b : Key} : eqT (keyT a) (keyT b) = decide (a = b) := by
  cases a with
  | inl x => cases b with
    | inl y =>
      simp only [keyT, eqT]
      by_cases e : x = y
      · subst e; simp
      · rw [decide_eq_false (fun q => e (Sum.inl.inj q))]; simpa using e
    | inr y => simp [keyT, eqT]
  | inr x => cases b with
    | inl y => simp [keyT, eqT]
    | inr y =>
      simp only [keyT, eqT]
      by_cases e : x = y
      · subst e; simp
      · rw [decide_eq_false (fun q => e (Sum.inr.inj q))]; simpa using e
theorem keyTs_inj : ∀ {a b : List Key}, eqTs (a.map keyT) (b.map keyT) = decide (a = b)
  | [], [] => by simp [eqTs]
  | [], _ :: _ => by simp [eqTs]
  | _ :: _, [] => by simp [eqTs]
  | x :: xs, y :: ys => by
    simp only [List.map_cons, eqTs, keyT_inj, keyTs_inj, List.cons.injEq, Bool.decide_and]
theorem keyTT_inj {a b : List Key} : eqT (keyTT a) (keyTT b) = decide (a = b) := by
  simp only [keyTT, eqT]
  exact keyTs_inj
theorem lkp_dT {kvs : List (List Key × V)} {K : KC} {φ ψ : List Addr} {H : Hp} : ∀ {ts : List T} (k : List Key), RTs K φ ψ H ts (kvs.map (·.2)) →
    (∀ t, lkp (kvs.map fun p => keyTT p.1) ts (keyTT k) = some t → ∃ v, valV kvs k = some v ∧ RT K φ ψ H t v) ∧ (lkp (kvs.map fun p => keyTT p.1) ts (keyTT k)).isSome = (valV kvs k).isSome := by
  induction kvs with
  | nil => intro ts k h; cases h; exact ⟨fun t e => by simp [lkp] at e, rfl⟩
  | cons p r ih =>
    intro ts k h
    cases h with
    | cons h1 h2 =>
      simp only [List.map_cons, lkp, keyTT_inj]
      by_cases e : p.1 = k
      · rw [if_pos (by simpa using e), valV_pos e]
        exact ⟨fun t q => by cases q; exact ⟨_, rfl, h1⟩, rfl⟩
      · rw [if_neg (by simpa using e), valV_neg e]
        exact ih k h2
end Mi
end L2

/-! Mini: comparisons, truth, subscripts, built-ins, methods are the model's. -/
namespace L2
namespace Mi
open PySem PySem.Spec PyProof.Rows

section
variable {K : KC} {φ ψ : List Addr} {H : Hp} {M : Mem}
theorem key_of_isKey {x : T} {v : V} (h : isKey x = true) (r : RT K φ ψ H x v) : ∃ k : Key, x = keyT k ∧ v = kV k := by
  cases r with
  | int i => exact ⟨.inl i, rfl, rfl⟩
  | str i => exact ⟨.inr i, rfl, rfl⟩
  | _ => cases h
theorem keys_of : ∀ {ts : List T} {vs : List V}, ts.all isKey = true → RTs K φ ψ H ts vs → ∃ ks : List Key, ts = ks.map keyT ∧ vs = ks.map kV
  | _, _, _, .nil => ⟨[], rfl, rfl⟩
  | _, _, h, .cons r t => by
    simp only [List.all_cons, Bool.and_eq_true] at h
    obtain ⟨k, e1, e2⟩ := key_of_isKey h.1 r
    obtain ⟨ks, e3, e4⟩ := keys_of h.2 t
    exact ⟨k :: ks, by rw [e1, e3]; rfl, by rw [e2, e4]; rfl⟩
/-- what a dict value is -/
theorem dof_ok (r : RM K φ ψ H M) {t : T} {v : V} {tk : Bool} {ks ts : List T} (h : RT K φ ψ H t v) (e : dof M t = some (tk, ks, ts)) : ∃ a, v = .ref a ∧
    ((tk = false ∧ ∃ kvs : List (Key × V), H a = some (.dK kvs) ∧ ks = kvs.map (fun p => keyT p.1) ∧ RTs K φ ψ H ts (kvs.map (·.2))) ∨
     (tk = true ∧ K.kt = false ∧ ∃ kvs : List (List Key × V), H a = some (.dT kvs) ∧ ks = kvs.map (fun p => keyTT p.1) ∧ RTs K φ ψ H ts (kvs.map (·.2)))) := by
  cases h with
  | fdK h1 h2 h3 h4 => cases e; exact ⟨_, rfl, .inl ⟨rfl, _, h2, h3, h4⟩⟩
  | fdT h0 h1 h2 h3 h4 => cases e; exact ⟨_, rfl, .inr ⟨rfl, h0, _, h2, h3, h4⟩⟩
  | @obj a i h1 =>
    simp only [dof] at e
    split at e
    · rename_i tk' ks' ts' hus
      cases e
      exact ⟨a, rfl, r.obj h1 hus⟩
    · cases e
  | _ => exact nomatch e
/-- a key looked up -/
theorem lkp_ok (r : RM K φ ψ H M) {t x : T} {v vx : V} {tk : Bool} {ks ts : List T} (h : RT K φ ψ H t v) (hx : RT K φ ψ H x vx) (e : dof M t = some (tk, ks, ts)) (k : isKeyT tk x = true) :
    ∃ a o, v = .ref a ∧ DGet H a vx o ∧ o.isSome = (lkp ks ts x).isSome ∧ ∀ u, lkp ks ts x = some u → ∃ w, o = some w ∧ RT K φ ψ H u w := by
  obtain ⟨a, rfl, ⟨rfl, kvs, h1, rfl, h3⟩ | ⟨rfl, hkt, kvs, h1, rfl, h3⟩⟩ := dof_ok r h e
  · have kx : isKey x = true := by
      cases x <;> first | exact k | (simp [isKeyT, isKey] at k)
    obtain ⟨key, rfl, rfl⟩ := key_of_isKey kx hx
    obtain ⟨q1, q2⟩ := lkp_dK key h3
    exact ⟨a, _, rfl, .k h1, q2.symm, q1⟩
  · cases hx with
    | @tup b vs us g1 g2 =>
      simp only [isKeyT, Bool.true_and] at k
      obtain ⟨key, rfl, rfl⟩ := keys_of k g2
      rcases g1 with ⟨_, g1⟩ | ⟨g1, _⟩
      · obtain ⟨q1, q2⟩ := lkp_dT key h3
        exact ⟨a, _, rfl, .t h1 g1, q2.symm, q1⟩
      · rw [hkt] at g1; cases g1
    | _ => simp [isKeyT, isKey] at k
end
theorem intsOf_ok : ∀ {ts : List T} {ns : List Int}, intsOf ts = some ns → ts = ns.map T.int
  | [], ns, h => by cases h; rfl
  | .int i :: ts, ns, h => by
    simp only [intsOf] at h
    obtain ⟨r, hr, e⟩ := Option.map_eq_some_iff.mp h
    subst e
    rw [intsOf_ok hr]; rfl
  | .non :: _, _, h => by cases h
  | .bl _ :: _, _, h => by cases h
  | .str _ :: _, _, h => by cases h
  | .tup _ :: _, _, h => by cases h
  | .fl _ :: _, _, h => by cases h
  | .fd _ _ _ :: _, _, h => by cases h
  | .sc _ :: _, _, h => by cases h
  | .obj _ :: _, _, h => by cases h
theorem blsOf_ok : ∀ {ts : List T} {ns : List Bool}, blsOf ts = some ns → ts = ns.map T.bl
  | [], ns, h => by cases h; rfl
  | .bl i :: ts, ns, h => by
    simp only [blsOf] at h
    obtain ⟨r, hr, e⟩ := Option.map_eq_some_iff.mp h
    subst e
    rw [blsOf_ok hr]; rfl
  | .non :: _, _, h => by cases h
  | .int _ :: _, _, h => by cases h
  | .str _ :: _, _, h => by cases h
  | .tup _ :: _, _, h => by cases h
  | .fl _ :: _, _, h => by cases h
  | .fd _ _ _ :: _, _, h => by cases h
  | .sc _ :: _, _, h => by cases h
  | .obj _ :: _, _, h => by cases h
section
variable {X : Cx} {K : KC}
theorem op_inT (hu : X.A.units + 65 < cLine) : OpR X (compareOp .In) (fun x y H Q => ∃ d ds, Dp X.K H x d ∧ Dp X.K H y (.tuple ds) ∧ SeqAt.shaped d = true ∧ SeqAt.shaped (.list ds) = true ∧ Q (.bl (ds.any fun z => PyData.eqv z d)) H) := by
  intro pins s σ H x y v u Q I rx ry h
  obtain ⟨d, ds, hd, he, sd, se, q⟩ := h
  obtain ⟨as, r1⟩ := Dp.reads I d x v hd rx
  obtain ⟨bs, r2⟩ := Dp.reads I (.tuple ds) y u he ry
  exact SeqAt.in_tuple_reads r2 r1 (SeqAt.canLay_of_shaped se) (SeqAt.canLay_of_shaped sd) (room_in_shaped sd hu) ⟨.bl _, H, I, rfl, q⟩
theorem op_notInT (hu : X.A.units + 65 < cLine) : OpR X (compareOp .NotIn) (fun x y H Q => ∃ d ds, Dp X.K H x d ∧ Dp X.K H y (.tuple ds) ∧ SeqAt.shaped d = true ∧ SeqAt.shaped (.list ds) = true ∧ Q (.bl (!ds.any fun z => PyData.eqv z d)) H) := by
  intro pins s σ H x y v u Q I rx ry h
  obtain ⟨d, ds, hd, he, sd, se, q⟩ := h
  obtain ⟨as, r1⟩ := Dp.reads I d x v hd rx
  obtain ⟨bs, r2⟩ := Dp.reads I (.tuple ds) y u he ry
  exact SeqAt.notIn_tuple_reads r2 r1 (SeqAt.canLay_of_shaped se) (SeqAt.canLay_of_shaped sd) (room_in_shaped sd hu) ⟨.bl _, H, I, rfl, q⟩
/-- in, by values: what both forms ask -/
theorem in_cases (hK : K.K = X.K) {φ ψ : List Addr} {H : Hp} {M : Mem} {x y : T} {vx vy : V} {c : Bool} (rm : RM K φ ψ H M) (r1 : RT K φ ψ H x vx) (r2 : RT K φ ψ H y vy) (e : cmpT.inT x y M = some c) :
    (∃ a o, vy = .ref a ∧ DGet H a vx o ∧ c = o.isSome) ∨ (∃ d ds, Dp X.K H vx d ∧ Dp X.K H vy (.tuple ds) ∧ SeqAt.shaped d = true ∧ SeqAt.shaped (.list ds) = true ∧ c = ds.any fun z => PyData.eqv z d) ∨
      ∃ d ds, Dp X.K H vx d ∧ Dp X.K H vy (.list ds) ∧ SeqAt.shaped d = true ∧ SeqAt.shaped (.list ds) = true ∧ c = ds.any fun z => PyData.eqv z d := by
  unfold cmpT.inT at e
  split at e
  · rename_i tk ks ts hd
    split at e
    · rename_i hk
      cases e
      obtain ⟨a, o, h1, h2, h3, _⟩ := lkp_ok rm r2 r1 hd hk
      exact .inl ⟨a, o, h1, h2, h3.symm⟩
    · cases e
  · split at e
    · rename_i ys _
      split at e
      · rename_i hc
        obtain ⟨h1, h2, h3, h4⟩ := hc
        cases e
        cases r2 with
        | tup g1 g2 =>
          refine .inr (.inl ⟨toD x, toDs ys, hK ▸ RT.dp x _ r1 h1, .tup (hK ▸ g1.sq) (hK ▸ RTs.dp ys _ g2 h2), toD_shaped h1 h3, toDs_shaped h2 h4, (any_eqv ys x h2 h1).symm⟩)
      · cases e
    · obtain ⟨ys, hy, e⟩ := Option.bind_eq_some_iff.mp e
      obtain ⟨zs, hz, e⟩ := Option.bind_eq_some_iff.mp e
      obtain ⟨x', hx, e⟩ := Option.bind_eq_some_iff.mp e
      split at e
      · rename_i hc
        obtain ⟨h1, h2, h3, h4⟩ := hc
        cases e
        obtain ⟨a, vs, rfl, g1, g2⟩ := lof_ok rm r2 hy
        refine .inr (.inr ⟨toD x', toDs zs, hK ▸ seal_dp rm 0 6 x vx x' r1 hx h1, ?_, toD_shaped h1 h3, toDs_shaped h2 h4, (any_eqv zs x' h2 h1).symm⟩)
        exact .lst (.of g1) (hK ▸ mapM_dp (fun t v a h e k => seal_dp rm 0 6 t v a h e k) ys vs zs g2 hz h2)
      · cases e
def rCmp (K : KC) (op : CmpOp) : R2 := fun vx vy H Q => ∃ φ ψ M x y c, RM K φ ψ H M ∧ RT K φ ψ H x vx ∧ RT K φ ψ H y vy ∧ cmpT op x y M = some c ∧ Q (.bl c) H
theorem non_iff {φ ψ : List Addr} {H : Hp} {x : T} {v : V} (r : RT K φ ψ H x v) : decide (v = .non) = isNo x := by
  cases r <;> simp [isNo]
theorem op_cmp (hK : K.K = X.K) (hu : X.A.units + 65 < cLine) (op : CmpOp) : OpR X (compareOp op) (rCmp K op) := by
  intro pins s σ H vx vy v u Q I rx ry h
  obtain ⟨φ, ψ, M, x, y, c, rm, r1, r2, e, q⟩ := h
  unfold cmpT at e
  cases op with
  | Eq =>
    simp only [eqv?] at e
    obtain ⟨a, ha, e⟩ := Option.bind_eq_some_iff.mp e
    obtain ⟨b, hb, e⟩ := Option.bind_eq_some_iff.mp e
    split at e
    · rename_i hc
      obtain ⟨h1, h2, h3, h4⟩ := hc
      cases e
      refine op_eqD (by omega) pins s σ H vx vy v u Q I rx ry ⟨toD a, toD b, hK ▸ scl_dp rm r1 ha h1, hK ▸ scl_dp rm r2 hb h2, toD_shaped h1 h3, toD_shaped h2 h4, ?_⟩
      rw [toD_eqv a b h1 h2]
      exact q
    · cases e
  | NotEq =>
    obtain ⟨c', e', rfl⟩ := Option.map_eq_some_iff.mp e
    clear e
    have e := e'
    clear e'
    simp only [eqv?] at e
    obtain ⟨a, ha, e⟩ := Option.bind_eq_some_iff.mp e
    obtain ⟨b, hb, e⟩ := Option.bind_eq_some_iff.mp e
    split at e
    · rename_i hc
      obtain ⟨h1, h2, h3, h4⟩ := hc
      cases e
      refine op_neD (by omega) pins s σ H vx vy v u Q I rx ry ⟨toD a, toD b, hK ▸ scl_dp rm r1 ha h1, hK ▸ scl_dp rm r2 hb h2, toD_shaped h1 h3, toD_shaped h2 h4, ?_⟩
      rw [toD_eqv a b h1 h2]
      exact q
    · cases e
  | Lt =>
    simp only at e
    split at e
    · cases e; cases r1; cases r2
      exact op_lt pins s σ H _ _ v u Q I rx ry ⟨_, _, rfl, rfl, q⟩
    · obtain ⟨a, ha, e⟩ := Option.bind_eq_some_iff.mp e
      obtain ⟨b, hb, e⟩ := Option.map_eq_some_iff.mp e
      subst e
      obtain rfl := intsOf_ok ha
      obtain rfl := intsOf_ok hb
      cases r1; cases r2
      rename_i c1 us1 g1 z1 c2 us2 g2 z2
      obtain rfl := z1.ints
      obtain rfl := z2.ints
      exact op_ltT (by omega) pins s σ H _ _ v u Q I rx ry ⟨_, _, _, _, rfl, rfl, hK ▸ g1.sq, hK ▸ g2.sq, q⟩
    · cases e
  | LtE =>
    simp only at e
    split at e
    · cases e; cases r1; cases r2
      exact op_le pins s σ H _ _ v u Q I rx ry ⟨_, _, rfl, rfl, q⟩
    · cases e
  | Gt =>
    simp only at e
    split at e
    · cases e; cases r1; cases r2
      exact op_gt pins s σ H _ _ v u Q I rx ry ⟨_, _, rfl, rfl, q⟩
    · cases e
  | GtE =>
    simp only at e
    split at e
    · cases e; cases r1; cases r2
      exact op_ge pins s σ H _ _ v u Q I rx ry ⟨_, _, rfl, rfl, q⟩
    · cases e
  | Is =>
    simp only at e
    split at e
    · cases e; cases r1; cases r2
      exact op_isBl pins s σ H _ _ v u Q I rx ry ⟨_, _, rfl, rfl, q⟩
    · cases e
      cases r2
      refine op_isN pins s σ H _ _ v u Q I rx ry ⟨rfl, ?_⟩
      rw [non_iff r1]
      exact q
    · cases e
  | IsNot =>
    simp only at e
    split at e
    · cases e; cases r1; cases r2
      exact op_notBl pins s σ H _ _ v u Q I rx ry ⟨_, _, rfl, rfl, q⟩
    · cases e
      cases r2
      refine op_notN pins s σ H _ _ v u Q I rx ry ⟨rfl, ?_⟩
      rw [non_iff r1]
      exact q
    · cases e
  | In =>
    simp only at e
    rcases in_cases (X := X) hK rm r1 r2 e with ⟨a, o, rfl, g, rfl⟩ | ⟨d, ds, h1, h2, h3, h4, rfl⟩ | ⟨d, ds, h1, h2, h3, h4, rfl⟩
    · cases (show u = Value.ref a from ry)
      exact d_in (by omega) I g rx fun s' I' => ⟨.bl o.isSome, H, I', rfl, q⟩
    · exact op_inT hu pins s σ H _ _ v u Q I rx ry ⟨d, ds, h1, h2, h3, h4, q⟩
    · exact op_inD hu pins s σ H _ _ v u Q I rx ry ⟨d, ds, h1, h2, h3, h4, q⟩
  | NotIn =>
    simp only at e
    obtain ⟨c', e', rfl⟩ := Option.map_eq_some_iff.mp e
    clear e
    have e := e'
    clear e'
    rcases in_cases (X := X) hK rm r1 r2 e with ⟨a, o, rfl, g, rfl⟩ | ⟨d, ds, h1, h2, h3, h4, rfl⟩ | ⟨d, ds, h1, h2, h3, h4, rfl⟩
    · cases (show u = Value.ref a from ry)
      exact d_notIn (by omega) I g rx fun s' I' => ⟨.bl (!o.isSome), H, I', rfl, q⟩
    · exact op_notInT hu pins s σ H _ _ v u Q I rx ry ⟨d, ds, h1, h2, h3, h4, q⟩
    · exact op_notInD hu pins s σ H _ _ v u Q I rx ry ⟨d, ds, h1, h2, h3, h4, q⟩
end
end Mi
end L2

/-! Mini: truth, subscripts, built-ins, methods of lists. -/
namespace L2
namespace Mi
open PySem PySem.Spec PyProof.Rows

section
variable {K : KC} {φ ψ : List Addr} {H : Hp}
theorem RTs.empty {ts : List T} {vs : List V} (h : RTs K φ ψ H ts vs) : ts.isEmpty = vs.isEmpty := by cases h <;> rfl
theorem RTs.cut {ts : List T} {vs : List V} (h : RTs K φ ψ H ts vs) (lo hi : Option Int) : RTs K φ ψ H (cutT ts lo hi) (cutV vs lo hi) := by
  unfold cutT cutV
  rw [h.length]
  exact (h.drop _).take _
theorem atI_ok {ts : List T} {vs : List V} {i : Int} {t : T} (h : RTs K φ ψ H ts vs) (e : atI ts i = some t) : ∃ v, atI vs i = some v ∧ RT K φ ψ H t v := by
  unfold atI at e ⊢
  obtain ⟨j, hj, e⟩ := Option.bind_eq_some_iff.mp e
  obtain ⟨v, h1, h2⟩ := h.get e
  exact ⟨v, Option.bind_eq_some_iff.mpr ⟨j, by rw [← h.length]; exact hj, h1⟩, h2⟩
theorem cutT_all {ts : List T} {lo hi : Option Int} (h : HT.sIx ts.length 0 lo = 0 ∧ HT.sIx ts.length ts.length hi = ts.length) : cutT ts lo hi = ts := by
  unfold cutT
  rw [h.1, h.2]
  simp
end
theorem maxL_mem : ∀ {ns : List Int}, ns ≠ [] → maxL ns ∈ ns ∧ ∀ y ∈ ns, y ≤ maxL ns
  | [], h => absurd rfl h
  | [x], _ => by simp [maxL]
  | x :: y :: r, _ => by
    obtain ⟨h1, h2⟩ := maxL_mem (ns := y :: r) (by simp)
    have e : maxL (x :: y :: r) = if x < maxL (y :: r) then maxL (y :: r) else x := rfl
    rw [e]
    by_cases h : x < maxL (y :: r)
    · rw [if_pos h]
      refine ⟨List.mem_cons_of_mem _ h1, fun z hz => ?_⟩
      rcases List.mem_cons.mp hz with q | q
      · rw [q]; omega
      · exact h2 z q
    · rw [if_neg h]
      refine ⟨List.mem_cons_self, fun z hz => ?_⟩
      rcases List.mem_cons.mp hz with q | q
      · rw [q]; exact Int.le_refl _
      · have := h2 z q; omega
theorem minL_mem : ∀ {ns : List Int}, ns ≠ [] → minL ns ∈ ns ∧ ∀ y ∈ ns, minL ns ≤ y
  | [], h => absurd rfl h
  | [x], _ => by simp [minL]
  | x :: y :: r, _ => by
    obtain ⟨h1, h2⟩ := minL_mem (ns := y :: r) (by simp)
    have e : minL (x :: y :: r) = if minL (y :: r) < x then minL (y :: r) else x := rfl
    rw [e]
    by_cases h : minL (y :: r) < x
    · rw [if_pos h]
      refine ⟨List.mem_cons_of_mem _ h1, fun z hz => ?_⟩
      rcases List.mem_cons.mp hz with q | q
      · rw [q]; omega
      · exact h2 z q
    · rw [if_neg h]
      refine ⟨List.mem_cons_self, fun z hz => ?_⟩
      rcases List.mem_cons.mp hz with q | q
      · rw [q]; exact Int.le_refl _
      · have := h2 z q; omega
theorem insI_perm (x : Int) : ∀ l : List Int, (insI x l).Perm (x :: l)
  | [] => .refl _
  | y :: l => by
    unfold insI
    split
    · exact .refl _
    · exact ((insI_perm x l).cons y).trans (.swap x y l)
theorem insI_up (x : Int) : ∀ l : List Int, l.Pairwise (· ≤ ·) → (insI x l).Pairwise (· ≤ ·)
  | [], _ => by simp [insI]
  | y :: l, h => by
    obtain ⟨h1, h2⟩ := List.pairwise_cons.mp h
    unfold insI
    split
    · rename_i hx
      refine List.pairwise_cons.mpr ⟨fun z hz => ?_, h⟩
      rcases List.mem_cons.mp hz with q | q
      · rw [q]; exact hx
      · have := h1 z q; omega
    · rename_i hx
      refine List.pairwise_cons.mpr ⟨fun z hz => ?_, insI_up x l h2⟩
      rcases List.mem_cons.mp ((insI_perm x l).mem_iff.mp hz) with q | q
      · rw [q]; omega
      · exact h1 z q
theorem sortI_perm : ∀ l : List Int, (sortI l).Perm l
  | [] => .refl _
  | x :: l => (insI_perm x _).trans ((sortI_perm l).cons x)
theorem sortI_up : ∀ l : List Int, (sortI l).Pairwise (· ≤ ·)
  | [] => .nil
  | x :: l => insI_up x _ (sortI_up l)
theorem up_same : ∀ {a b : List Int}, a.Perm b → a.Pairwise (· ≤ ·) → b.Pairwise (· ≤ ·) → a = b
  | [], b, h, _, _ => (List.Perm.nil_eq h)
  | x :: a, [], h, _, _ => by simpa using h.length_eq
  | x :: a, y :: b, h, ha, hb => by
    obtain ⟨ha1, ha2⟩ := List.pairwise_cons.mp ha
    obtain ⟨hb1, hb2⟩ := List.pairwise_cons.mp hb
    have e : x = y := by
      have hx : x ∈ y :: b := h.mem_iff.mp List.mem_cons_self
      have hy : y ∈ x :: a := h.mem_iff.mpr List.mem_cons_self
      rcases List.mem_cons.mp hx with q | q
      · exact q
      · rcases List.mem_cons.mp hy with p | p
        · exact p.symm
        · have := hb1 x q; have := ha1 y p; omega
    subst e
    rw [up_same (List.Perm.cons_inv h) ha2 hb2]
section
variable {X : Cx} {K : KC}
/-! ### truth -/
def rTru (K : KC) (x : V) (H : Hp) (Q : Bool → Hp → Prop) : Prop := ∃ φ ψ M t b, RM K φ ψ H M ∧ RT K φ ψ H t x ∧ truth M t = some b ∧ Q b H
theorem truV_of (hK : K.K = X.K) {φ ψ : List Addr} {H : Hp} {M : Mem} {t : T} {v : V} {b : Bool} (rm : RM K φ ψ H M) (r : RT K φ ψ H t v) (e : truth M t = some b) : TruV X.K v H b := by
  have sz := szl
  unfold truth at e
  split at e
  · cases e; cases r; exact rfl
  · cases e; cases r; exact rfl
  · cases e; cases r; exact rfl
  · split at e
    · cases e; cases r; exact ⟨by omega, rfl⟩
    · cases e
  · cases e
    cases r with
    | tup h1 h2 => exact .inr (.inl ⟨_, hK ▸ h1.sq, by rw [h2.empty]⟩)
  · obtain ⟨ts, h, rfl⟩ := Option.map_eq_some_iff.mp e
    obtain ⟨a, vs, rfl, h1, h2⟩ := lofS_ok rm r h
    exact .inl ⟨vs, hK ▸ h1, by rw [h2.empty]⟩
theorem op_tru (hK : K.K = X.K) : TruR X (rTru K) := by
  intro pins s σ H x v Q I rx h
  obtain ⟨φ, ψ, M, t, b, rm, r, e, q⟩ := h
  exact tru_ok pins s σ H x v Q I rx ⟨b, truV_of hK rm r e, q⟩
/-! ### subscripts -/
def rIxM (K : KC) : R2 := fun vx vy H Q => ∃ φ ψ M x y t, RM K φ ψ H M ∧ RT K φ ψ H x vx ∧ RT K φ ψ H y vy ∧ ixT x y M = some t ∧ ∀ v, RT K φ ψ H t v → Q v H
theorem op_ix (hK : K.K = X.K) (hu : X.A.units + 1 < cLine) : IxR X (rIxM K) := by
  intro value slice pins s σ H vx vy v u Q I rx ry h hs
  obtain ⟨φ, ψ, M, x, y, t, rm, r1, r2, e, q⟩ := h
  have sz := szl
  unfold ixT at e
  split at e
  · rename_i tk ks ts hd
    split at e
    · rename_i hk
      obtain ⟨a, o, rfl, g, h3, h4⟩ := lkp_ok rm r1 r2 hd hk
      obtain ⟨w, rfl, rw'⟩ := h4 t e
      cases (show v = Value.ref a from rx)
      exact tail_any (dict_typeIs I g) PySem.F.slot_dict_getitem.lookup (d_getItem hu I g ry fun w' s' I' r' => ⟨w, H, I', r', q w rw'⟩) hs
    · cases e
  · split at e
    · split at e
      · obtain ⟨c, hc, rfl⟩ := Option.map_eq_some_iff.mp e
        cases r1; cases r2
        exact ix_str value slice pins s σ H _ _ v u Q I rx ry ⟨_, _, c, rfl, rfl, by omega, hc, q _ (.str _)⟩ hs
      · cases e
    · obtain ⟨ts, ht, e⟩ := Option.bind_eq_some_iff.mp e
      obtain ⟨a, vs, rfl, h2, h3⟩ := sof_ok rm r1 ht
      cases r2
      obtain ⟨w, hw, rw'⟩ := atI_ok h2 e
      rcases h3 with ⟨h3, _⟩ | ⟨h3, _⟩
      · exact ix_list value slice pins s σ H _ _ v u Q I rx ry ⟨a, vs, _, w, rfl, rfl, hK ▸ h3, hw, q w rw'⟩ hs
      · exact ix_tup value slice pins s σ H _ _ v u Q I rx ry ⟨a, vs, _, w, rfl, rfl, hK ▸ h3, hw, q w rw'⟩ hs
    · cases e
theorem get_strM {pins : List (Addr × Obj)} {s : Shared} {σ : L2.St} {H : Hp} {Q : VK} {z : Str} {i : Int} {tk tk' : Tok} {c : Nat} (I : Inv X pins σ H s) (hz : z.length ≤ 16777216) (hc : atI z.cps.toList i = some c) (q : Q (.str ⟨#[c]⟩) H) :
    wpAny (model X.prog X.w) X.A (getItem (.str z tk) (.int i tk')) (EP X pins σ Q) X.xe s := by
  obtain ⟨j, h1, h2, h3, h4, h5⟩ := atI_get hc
  have hl : z.cps.toList.length = z.length := by simp [Str.length]
  rw [hl] at h1 h4 h5
  exact getItem_str (c := c) (by
    have e1 : decide (i < -(2 ^ 63 : Int)) = false := decide_eq_false (by omega)
    have e2 : decide (i ≥ 2 ^ 63) = false := decide_eq_false (by omega)
    rw [e1, e2, Bool.or_false]) (by rw [h1]; simpa using h2) ⟨.str ⟨#[c]⟩, H, I.tok _, ⟨_, rfl⟩, q⟩
theorem get_listM {pins : List (Addr × Obj)} {s : Shared} {σ : L2.St} {H : Hp} {Q : VK} {a : Addr} {vs : List V} {i : Int} {tk' : Tok} {w : V} (I : Inv X pins σ H s) (h3 : SqL X.K H a vs) (hw : atI vs i = some w) (q : Q w H) :
    wpAny (model X.prog X.w) X.A (getItem (.ref a) (.int i tk')) (EP X pins σ Q) X.xe s := by
  have sz := szl
  have hn := line63
  obtain ⟨j, h4, h5, h6, h7, h8⟩ := atI_get hw
  obtain ⟨its, r, pl, hz⟩ := I.list h3
  obtain ⟨z, ew, rz⟩ := r.get h5
  have hl := r.length
  have fin : EP X pins σ Q z s := ⟨w, H, I, rz, q⟩
  by_cases h0 : 0 ≤ i
  · have hj : i.toNat = j := by
      rw [seqIndex_of h0 h8] at h4
      exact Option.some.inj h4
    exact wpAny_getItem_list pl.isList h0 (by omega) (by rw [hj]; simpa using ew) fin
  · have hj : (i + (its.toArray.size : Int)).toNat = j := by
      rw [seqIndex_neg (by omega) h7] at h4
      rw [List.size_toArray, ← hl]
      exact Option.some.inj h4
    exact wpAny_getItem_list_neg pl.isList (by omega) (by rw [List.size_toArray] <;> omega) (by omega) (by rw [hj]; simpa using ew) fin
theorem get_tupM {pins : List (Addr × Obj)} {s : Shared} {σ : L2.St} {H : Hp} {Q : VK} {a : Addr} {vs : List V} {i : Int} {tk' : Tok} {w : V} (I : Inv X pins σ H s) (h3 : SqT X.K H a vs) (hw : atI vs i = some w) (q : Q w H) :
    wpAny (model X.prog X.w) X.A (getItem (.ref a) (.int i tk')) (EP X pins σ Q) X.xe s := by
  have sz := szl
  have hn := line63
  obtain ⟨j, h4, h5, h6, h7, h8⟩ := atI_get hw
  obtain ⟨its, r, pl, hz⟩ := I.tuple h3
  obtain ⟨z, ew, rz⟩ := r.get h5
  have hl := r.length
  exact getItem_tuple (j := j) pl (by omega) (by omega) (by rw [List.size_toArray, ← hl]; exact h4) (by simpa using ew) ⟨w, H, I, rz, q⟩
/-- o[i] by values, for augmented stores -/
theorem get_ix (hK : K.K = X.K) (hu : X.A.units + 1 < cLine) : PGet X (rIxM K) := by
  intro pins s σ H vx vy v u Q I rx ry h
  obtain ⟨φ, ψ, M, x, y, t, rm, r1, r2, e, q⟩ := h
  unfold ixT at e
  split at e
  · rename_i tk ks ts hd
    split at e
    · rename_i hk
      obtain ⟨a, o, rfl, g, h3, h4⟩ := lkp_ok rm r1 r2 hd hk
      obtain ⟨w, rfl, rw'⟩ := h4 t e
      cases (show v = Value.ref a from rx)
      exact d_getItem hu I g ry fun w' s' I' r' => ⟨w, H, I', r', q w rw'⟩
    · cases e
  · split at e
    · split at e
      · rename_i hz
        obtain ⟨c, hc, rfl⟩ := Option.map_eq_some_iff.mp e
        cases r1; cases r2
        obtain ⟨tk, rfl⟩ := rx
        obtain ⟨tk', rfl⟩ := ry
        exact get_strM I hz hc (q _ (.str _))
      · cases e
    · obtain ⟨ts, ht, e⟩ := Option.bind_eq_some_iff.mp e
      obtain ⟨a, vs, rfl, h2, h3⟩ := sof_ok rm r1 ht
      cases r2
      obtain ⟨w, hw, rw'⟩ := atI_ok h2 e
      obtain ⟨tk', rfl⟩ := ry
      cases (show v = Value.ref a from rx)
      rcases h3 with ⟨h3, _⟩ | ⟨h3, _⟩
      · exact get_listM I (hK ▸ h3) hw (q w rw')
      · exact get_tupM I (hK ▸ h3) hw (q w rw')
    · cases e
def rSlM (K : KC) (tr : Bool) : V → Option Int → Option Int → Hp → VK → Prop := fun vx lo hi H Q => ∃ φ ψ M x t M', RM K φ ψ H M ∧ RT K φ ψ H x vx ∧ slT tr x lo hi M = some (t, M') ∧ Ok1 K φ ψ H t M' Q
theorem op_sl (hK : K.K = X.K) (tr : Bool) : SlR X (rSlM K tr) := by
  intro pins s σ H vx v vl vu lo hi sl Q I rx hs pl pu h
  obtain ⟨φ, ψ, M, x, t, M', rm, r1, e, ok⟩ := h
  unfold slT at e
  split at e
  · rename_i ts
    cases e
    cases r1 with
    | tup h1 h2 =>
      have hl := h2.length
      refine sl_tupA pins s σ H _ v vl vu lo hi sl Q I rx hs pl pu ⟨_, _, rfl, hK ▸ h1.sq, fun hw => ?_, fun hw p hp => ?_⟩
      · rw [← hl] at hw
        rw [cutT_all hw] at ok
        exact ok.here rm (.tup h1 h2)
      · exact ok.newTup rm (h2.cut lo hi) hp
  · obtain ⟨ts, ht, e⟩ := Option.map_eq_some_iff.mp e
    obtain ⟨rfl, rfl⟩ := Prod.mk.inj e
    obtain ⟨a, vs, rfl, h1, h2⟩ := lofS_ok rm r1 ht
    exact sl_list pins s σ H _ v vl vu lo hi sl Q I rx hs pl pu ⟨a, vs, rfl, hK ▸ h1, fun p hp => ok.newL rm (h2.cut lo hi) hp⟩
/-! ### o[i] = v -/
/-- what is wanted of a memory -/
def OkM (K : KC) (φ ψ : List Addr) (H : Hp) (M : Mem) (Q : Hp → Prop) : Prop := ∀ φ' H', Ext φ H φ' H' → RM K φ' ψ H' M → Q H'
end
end Mi
end L2

/-! Mini: stores, built-ins, methods of lists. -/
namespace L2
namespace Mi
open PySem PySem.Spec PyProof.Rows

section
variable {K : KC} {φ ψ : List Addr} {H : Hp}
theorem any_keys {α : Type} [DecidableEq α] {f : α → T} (hf : ∀ a b, eqT (f a) (f b) = decide (a = b)) (kvs : List (α × V)) (k : α) : ((kvs.map fun p => f p.1).any fun x => eqT x (f k)) = kvs.any fun kv => decide (kv.1 = k) := by
  rw [List.any_map]
  congr 1
  funext p
  exact hf p.1 k
theorem put_vals {α : Type} [DecidableEq α] {f : α → T} (hf : ∀ a b, eqT (f a) (f b) = decide (a = b)) {t : T} {v : V} (k : α) (rv : RT K φ ψ H t v) : ∀ {kvs : List (α × V)} {ts : List T}, RTs K φ ψ H ts (kvs.map (·.2)) →
    RTs K φ ψ H (List.zipWith (fun x y => if eqT x (f k) then t else y) (kvs.map fun p => f p.1) ts) ((kvs.map (fun kv => if kv.1 = k then (kv.1, v) else kv)).map (·.2))
  | [], _, h => by cases h; exact .nil
  | p :: r, _, h => by
    cases h with
    | cons h1 h2 =>
      simp only [List.map_cons, List.zipWith_cons_cons]
      refine .cons ?_ (put_vals hf k rv h2)
      rw [hf]
      by_cases e : p.1 = k
      · rw [if_pos (by simpa using e), if_pos e]; exact rv
      · rw [if_neg (by simpa using e), if_neg e]; exact h1
theorem put_keys {α : Type} [DecidableEq α] {f : α → T} (k : α) (v : V) (kvs : List (α × V)) : ((kvs.map (fun kv => if kv.1 = k then (kv.1, v) else kv)).map fun p => f p.1) = kvs.map fun p => f p.1 := by
  rw [List.map_map]
  apply List.map_congr_left
  intro p _
  simp only [Function.comp]
  split <;> rfl
theorem putD_ok {α : Type} [DecidableEq α] {f : α → T} (hf : ∀ a b, eqT (f a) (f b) = decide (a = b)) {t : T} {v : V} (k : α) (rv : RT K φ ψ H t v) {kvs : List (α × V)} {ts : List T} (h : RTs K φ ψ H ts (kvs.map (·.2))) :
    (putD (kvs.map fun p => f p.1) ts (f k) t).1 = (putK kvs k v).map (fun p => f p.1) ∧ RTs K φ ψ H (putD (kvs.map fun p => f p.1) ts (f k) t).2 ((putK kvs k v).map (·.2)) := by
  unfold putD putK
  rw [any_keys hf]
  split
  · exact ⟨(put_keys k v kvs).symm, put_vals hf k rv h⟩
  · refine ⟨by simp, ?_⟩
    rw [List.map_append]
    exact h.append (.cons rv .nil)
end
section
variable {X : Cx} {K : KC}
def rSetM (K : KC) : TSet := fun vo vi vx H Q => ∃ φ ψ M o i x M', RM K φ ψ H M ∧ RT K φ ψ H o vo ∧ RT K φ ψ H i vi ∧ RT K φ ψ H x vx ∧ setT o i x M = some M' ∧ OkM K φ ψ H M' Q
theorem op_set (hK : K.K = X.K) (hu : X.A.units + 1 < cLine) : PSet X (rSetM K) := by
  intro pins s σ H vo vi vx ov iv u Q I ro ri rv h
  obtain ⟨φ, ψ, M, o, i, x, M', rm, r1, r2, r3, e, ok⟩ := h
  have sz := szl
  unfold setT at e
  split at e
  · cases r1 with
    | @obj a j ha =>
      split at e
      · rename_i ts hts
        split at e
        · obtain ⟨m, hm, rfl⟩ := Option.map_eq_some_iff.mp e
          cases r2
          obtain ⟨vs, h1, h2⟩ := rm.obj ha hts
          have x' : Ext φ H φ (upd H a (.lst (vs.set m vx))) := .write ha
          exact set_list pins s σ H _ _ vx ov iv u Q I ro ri rv ⟨a, vs, _, m, rfl, rfl, h1, by rw [← h2.length]; exact hm, ok φ _ x' (rm.write ha ⟨_, upd_same, (RTs.set r3 m h2).to x'⟩)⟩
        · cases e
      · rename_i tk ks ts hts
        split at e
        · rename_i hc
          obtain ⟨hk, hl⟩ := hc
          cases e
          rcases rm.obj ha hts with ⟨rfl, kvs, h1, rfl, h3⟩ | ⟨rfl, hkt, kvs, h1, rfl, h3⟩
          · have kx : isKey i = true := by
              cases i <;> first | exact hk | (simp [isKeyT, isKey] at hk)
            obtain ⟨key, rfl, rfl⟩ := key_of_isKey kx r2
            rw [List.length_map] at hl
            obtain ⟨p1, p2⟩ := putD_ok (fun a b => keyT_inj) key r3 h3
            have x' : Ext φ H φ (upd H a (.dK (putK kvs key vx))) := .write ha
            refine set_dict hu pins s σ H _ _ vx ov iv u Q I ro ri rv ⟨a, _, rfl, .k h1 (by omega), ok φ _ x' (rm.write ha ?_)⟩
            exact .inl ⟨rfl, _, upd_same, p1, p2.to x'⟩
          · cases r2 with
            | @tup b vs us g1 g2 =>
              simp only [isKeyT, Bool.true_and] at hk
              obtain ⟨key, rfl, rfl⟩ := keys_of hk g2
              rcases g1 with ⟨_, g1⟩ | ⟨g1, _⟩
              · rw [List.length_map] at hl
                obtain ⟨p1, p2⟩ := putD_ok (f := keyTT) (fun a b => keyTT_inj) key r3 h3
                have x' : Ext φ H φ (upd H a (.dT (putK kvs key vx))) := .write ha
                refine set_dict hu pins s σ H _ _ vx ov iv u Q I ro ri rv ⟨a, _, rfl, .t h1 g1 (by omega), ok φ _ x' (rm.write ha ?_)⟩
                exact .inr ⟨rfl, hkt, _, upd_same, p1, p2.to x'⟩
              · rw [hkt] at g1; cases g1
            | _ => simp [isKeyT, isKey] at hk
        · cases e
      · cases e
  · cases e
/-! ### built-ins -/
def biV : BI → Value
  | .len => .builtin "len"
  | .int => .type "int"
  | .abs => .builtin "abs"
  | .list _ => .type "list"
  | .tuple => .type "tuple"
  | .sum => .builtin "sum"
  | .all => .builtin "all"
  | .any => .builtin "any"
  | .max => .builtin "max"
  | .min => .builtin "min"
  | .sorted => .builtin "sorted"
def rBi (K : KC) (b : BI) : List V → Hp → VK → Prop := fun vs H Q => ∃ φ ψ M ts t M', RM K φ ψ H M ∧ RTs K φ ψ H ts vs ∧ biT b ts M = some (t, M') ∧ Ok1 K φ ψ H t M' Q
theorem op_bi (hK : K.K = X.K) (hc : X.calm = true) (b : BI) : CallR X (biV b) (rBi K b) := by
  intro pins s σ H vs us Q I rv h
  obtain ⟨φ, ψ, M, ts, t, M', rm, r, e, ok⟩ := h
  have sz := szl
  unfold biT at e
  split at e
  · -- len
    cases r with | cons r1 r2 =>
    cases r2
    rename_i v
    split at e
    · rename_i tk ks us' hd
      cases e
      obtain ⟨a, rfl, ⟨rfl, kvs, h1, rfl, h3⟩ | ⟨rfl, hkt, kvs, h1, rfl, h3⟩⟩ := dof_ok rm r1 hd
      · refine call_lenD pins s σ H _ us Q I rv ⟨a, kvs, rfl, h1, ?_⟩
        rw [List.length_map] at ok
        exact ok.here rm (.int _)
      · refine call_len_dT pins s σ H _ us Q I rv ⟨a, kvs, rfl, h1, ?_⟩
        rw [List.length_map] at ok
        exact ok.here rm (.int _)
    · obtain ⟨zs, hz, e⟩ := Option.map_eq_some_iff.mp e
      cases e
      obtain ⟨a, vs, rfl, h2, h3⟩ := sof_ok rm r1 hz
      rw [h2.length] at ok
      rcases h3 with ⟨h3, _⟩ | ⟨h3, _⟩
      · exact call_len_seq pins s σ H _ us Q I rv ⟨a, vs, rfl, .inl (hK ▸ h3), ok.here rm (.int _)⟩
      · exact call_len_seq pins s σ H _ us Q I rv ⟨a, vs, rfl, .inr (hK ▸ h3), ok.here rm (.int _)⟩
  · cases e
    cases r with | cons r1 r2 =>
    cases r2
    cases r1
    exact call_int1 pins s σ H _ us Q I rv (.inl ⟨_, rfl, ok.here rm (.int _)⟩)
  · cases e
    cases r with | cons r1 r2 =>
    cases r2
    cases r1
    exact call_int1 pins s σ H _ us Q I rv (.inr ⟨_, rfl, ok.here rm (.int _)⟩)
  · cases e
    cases r with | cons r1 r2 =>
    cases r2
    cases r1
    exact call_abs pins s σ H _ us Q I rv ⟨_, rfl, ok.here rm (.int _)⟩
  · -- list
    obtain ⟨zs, hz, e⟩ := Option.map_eq_some_iff.mp e
    obtain ⟨rfl, rfl⟩ := Prod.mk.inj e
    cases r with | cons r1 r2 =>
    cases r2
    obtain ⟨a, vs, rfl, h2, h3⟩ := sof_ok rm r1 hz
    rcases h3 with ⟨h3, _⟩ | ⟨h3, _⟩
    · exact call_list_of pins s σ H _ us Q I rv ⟨a, vs, rfl, .inl (hK ▸ h3), fun p hp => ok.newL rm h2 hp⟩
    · exact call_list_of pins s σ H _ us Q I rv ⟨a, vs, rfl, .inr (hK ▸ h3), fun p hp => ok.newL rm h2 hp⟩
  · -- tuple
    obtain ⟨zs, hz, e⟩ := Option.map_eq_some_iff.mp e
    cases e
    cases r with | cons r1 r2 =>
    cases r2
    obtain ⟨a, vs, rfl, h2, h3⟩ := sof_ok rm r1 hz
    rcases h3 with ⟨h3, _⟩ | ⟨h3, rfl⟩
    · exact call_tuple_of pins s σ H _ us Q I rv ⟨a, vs, rfl, .inl ⟨hK ▸ h3, fun p hp => ok.newTup rm h2 hp⟩⟩
    · exact call_tuple_of pins s σ H _ us Q I rv ⟨a, vs, rfl, .inr ⟨hK ▸ h3, ok.here rm r1⟩⟩
  · -- sum
    obtain ⟨zs, hz, e⟩ := Option.bind_eq_some_iff.mp e
    obtain ⟨ns, hn, e⟩ := Option.map_eq_some_iff.mp e
    cases e
    cases r with | cons r1 r2 =>
    cases r2
    obtain ⟨a, vs, rfl, h2, h3⟩ := lof_ok rm r1 hz
    obtain rfl := intsOf_ok hn
    obtain rfl := h3.ints
    exact cr_sum hc pins s σ H _ us Q I rv ⟨a, ns, rfl, .of h2, ok.here rm (.int _)⟩
  · obtain ⟨zs, hz, e⟩ := Option.bind_eq_some_iff.mp e
    obtain ⟨ns, hn, e⟩ := Option.map_eq_some_iff.mp e
    cases e
    cases r with | cons r1 r2 =>
    cases r2
    obtain ⟨a, vs, rfl, h2, h3⟩ := lof_ok rm r1 hz
    obtain rfl := blsOf_ok hn
    obtain rfl := h3.bls
    exact cr_all hc pins s σ H _ us Q I rv ⟨a, ns, rfl, .of h2, ok.here rm (.bl _)⟩
  · obtain ⟨zs, hz, e⟩ := Option.bind_eq_some_iff.mp e
    obtain ⟨ns, hn, e⟩ := Option.map_eq_some_iff.mp e
    cases e
    cases r with | cons r1 r2 =>
    cases r2
    obtain ⟨a, vs, rfl, h2, h3⟩ := lof_ok rm r1 hz
    obtain rfl := blsOf_ok hn
    obtain rfl := h3.bls
    exact cr_any hc pins s σ H _ us Q I rv ⟨a, ns, rfl, .of h2, ok.here rm (.bl _)⟩
  · cases e
    cases r with | cons r1 r2 =>
    cases r2 with | cons r2 r3 =>
    cases r3
    cases r1
    cases r2
    exact call_max2 hc pins s σ H _ us Q I rv ⟨_, _, rfl, ok.here rm (.int _)⟩
  · cases e
    cases r with | cons r1 r2 =>
    cases r2 with | cons r2 r3 =>
    cases r3
    cases r1
    cases r2
    exact call_min2 hc pins s σ H _ us Q I rv ⟨_, _, rfl, ok.here rm (.int _)⟩
  · obtain ⟨zs, hz, e⟩ := Option.bind_eq_some_iff.mp e
    obtain ⟨ns, hn, e⟩ := Option.bind_eq_some_iff.mp e
    split at e
    · cases e
    · rename_i hne
      cases e
      cases r with | cons r1 r2 =>
      cases r2
      obtain ⟨a, vs, rfl, h2, h3⟩ := lof_ok rm r1 hz
      obtain rfl := intsOf_ok hn
      obtain rfl := h3.ints
      obtain ⟨m1, m2⟩ := maxL_mem hne
      refine cr_max hc pins s σ H _ us Q I rv ⟨a, ns, rfl, .of h2, List.length_pos_iff.mpr hne, fun m hm hb => ?_⟩
      have e : m = maxL ns := by have := hb _ m1; have := m2 m hm; omega
      subst e
      exact ok.here rm (.int _)
  · obtain ⟨zs, hz, e⟩ := Option.bind_eq_some_iff.mp e
    obtain ⟨ns, hn, e⟩ := Option.bind_eq_some_iff.mp e
    split at e
    · cases e
    · rename_i hne
      cases e
      cases r with | cons r1 r2 =>
      cases r2
      obtain ⟨a, vs, rfl, h2, h3⟩ := lof_ok rm r1 hz
      obtain rfl := intsOf_ok hn
      obtain rfl := h3.ints
      obtain ⟨m1, m2⟩ := minL_mem hne
      refine cr_min hc pins s σ H _ us Q I rv ⟨a, ns, rfl, .of h2, List.length_pos_iff.mpr hne, fun m hm hb => ?_⟩
      have e : m = minL ns := by have := hb _ m1; have := m2 m hm; omega
      subst e
      exact ok.here rm (.int _)
  · obtain ⟨zs, hz, e⟩ := Option.bind_eq_some_iff.mp e
    obtain ⟨ns, hn, e⟩ := Option.bind_eq_some_iff.mp e
    split at e
    · rename_i h64
      cases e
      cases r with | cons r1 r2 =>
      cases r2
      obtain ⟨a, vs, rfl, h2, h3⟩ := lof_ok rm r1 hz
      obtain rfl := intsOf_ok hn
      obtain rfl := h3.ints
      refine cr_sorted pins s σ H _ us Q I rv ⟨a, ns, rfl, .of h2, h64, fun ns' p hp hu hpn => ?_⟩
      have e : ns' = sortI ns := up_same (hp.trans (sortI_perm ns).symm) hu (sortI_up ns)
      subst e
      exact ok.newL (tr := false) rm (RTs.ints' _) hpn
    · cases e
  · cases e
/-! ### isinstance -/
def isTy (ty : String) : Prop := ty ∈ ["int", "bool", "list", "tuple", "str"]
def rIsiM (K : KC) (ty : String) : List V → Hp → VK → Prop := fun vs H Q => ∃ φ ψ M x v b, vs = [v, .ty ty] ∧ RM K φ ψ H M ∧ RT K φ ψ H x v ∧ isiT M ty x = some b ∧ Q (.bl b) H
theorem kit_ty2 (K : PySem.W.Frag) {a : String} {b : String} (ha : a ∈ ["NoneType", "bool", "int", "str", "tuple", "list"]) (hb : isTy b) : PySem.W.kitOne K (.type a) (.type b) = some (a == b || (a == "bool" && b == "int")) := by
  unfold isTy at hb
  simp only [List.mem_cons, List.not_mem_nil, or_false] at ha hb
  rcases ha with rfl | rfl | rfl | rfl | rfl | rfl <;> rcases hb with rfl | rfl | rfl | rfl | rfl <;> rfl
theorem op_isi (hK : K.K = X.K) {ty : String} (ht : isTy ty) : CallR X (.builtin "isinstance") (rIsiM K ty) := by
  intro pins s σ H vs us Q I rv h
  obtain ⟨φ, ψ, M, x, v, b, rfl, rm, r, e, q⟩ := h
  have go : ∀ (n : String), n ∈ ["NoneType", "bool", "int", "str", "tuple", "list"] → TyX X.K H v (.type n) → b = (n == ty || (n == "bool" && ty == "int")) → wpAny (model X.prog X.w) X.A (call (.builtin "isinstance") us) (EP X pins σ Q) X.xe s := by
    intro n hn tx hb
    exact call_isi pins s σ H _ us Q I rv ⟨v, .ty ty, .type n, .type ty, b, rfl, .ty ty, tx, by rw [hb]; exact kit_ty2 _ hn ht, q⟩
  have ht' : ty = "int" ∨ ty = "bool" ∨ ty = "list" ∨ ty = "tuple" ∨ ty = "str" := by
    unfold isTy at ht
    simpa using ht
  unfold isiT at e
  split at e
  · cases e; cases r
    exact go "NoneType" (by simp) (.base .non) (by rcases ht' with rfl | rfl | rfl | rfl | rfl <;> rfl)
  · cases e; cases r
    exact go "bool" (by simp) (.base (.bl _)) (by rcases ht' with rfl | rfl | rfl | rfl | rfl <;> rfl)
  · cases e; cases r
    exact go "int" (by simp) (.base (.int _)) (by rcases ht' with rfl | rfl | rfl | rfl | rfl <;> rfl)
  · cases e; cases r
    exact go "str" (by simp) (.base (.str _)) (by rcases ht' with rfl | rfl | rfl | rfl | rfl <;> rfl)
  · cases e
    cases r with | tup h1 h2 =>
    refine go "tuple" (by simp) ?_ (by rcases ht' with rfl | rfl | rfl | rfl | rfl <;> rfl)
    rcases h1 with ⟨_, h1⟩ | ⟨_, o, its, n, h1, h3, _⟩
    · exact .base (.tup h1)
    · exact .kTuple (hK ▸ h1) h3
  · cases e
    cases r with | fl h0 h1 h2 =>
    exact go "list" (by simp) (.base (.lst h1)) (by rcases ht' with rfl | rfl | rfl | rfl | rfl <;> rfl)
  · split at e
    · rename_i ts hts
      cases e
      cases r with | obj ha =>
      obtain ⟨vs, h1, h2⟩ := rm.obj ha hts
      exact go "list" (by simp) (.base (.lst h1)) (by rcases ht' with rfl | rfl | rfl | rfl | rfl <;> rfl)
    · cases e
  · cases e
/-! ### methods of lists -/
def bmId : BM → String
  | .append => "list.append"
  | .extend => "list.extend"
  | .pop0 => "list.pop"
  | .pop => "list.pop"
  | .reverse => "list.reverse"
  | .remove => "list.remove"
def rBm (K : KC) (b : BM) : V → List V → Hp → VK → Prop := fun vo vs H Q => ∃ φ ψ M o xs t M', RM K φ ψ H M ∧ RT K φ ψ H o vo ∧ RTs K φ ψ H xs vs ∧ bmT b o xs M = some (t, M') ∧ Ok1 K φ ψ H t M' Q
theorem findIdx_ok {ns : List Int} {k : Int} (h : k ∈ ns) : ns[ns.findIdx fun x => x == k]? = some k ∧ ∀ m : Nat, m < (ns.findIdx fun x => x == k) → ns[m]? ≠ some k := by
  have hl : (ns.findIdx fun x => x == k) < ns.length := List.findIdx_lt_length_of_exists ⟨k, h, by simp⟩
  refine ⟨?_, fun m hm e => ?_⟩
  · have := List.findIdx_getElem (w := hl)
    rw [List.getElem?_eq_getElem hl]
    simpa using this
  · have h1 := List.not_of_lt_findIdx hm
    obtain ⟨h2, h3⟩ := List.getElem?_eq_some_iff.mp e
    rw [h3] at h1
    simp at h1
theorem op_bm (b : BM) : MtM X (bmId b) (rBm K b) := by
  intro pins s σ H vo vs v us Q I rv rvs h
  obtain ⟨φ, ψ, M, o, xs, t, M', rm, r, rs, e, ok⟩ := h
  have sz := szl
  unfold bmT at e
  split at e
  · rename_i i
    split at e
    · rename_i ts hts
      cases r with | @obj a _ ha =>
      obtain ⟨zs, h1, h2⟩ := rm.obj ha hts
      have hl := h2.length
      split at e
      · split at e
        · rename_i hlen
          cases e
          cases rs with | cons r1 r2 =>
          cases r2
          rename_i y
          have x' : Ext φ H φ (upd H a (.lst (zs ++ [y]))) := .write ha
          exact mt_append pins s σ H _ _ v us Q I rv rvs ⟨a, zs, y, rfl, rfl, h1, by omega, ok φ _ _ x' (rm.write ha ⟨_, upd_same, (h2.append (.cons r1 .nil)).to x'⟩) .non⟩
        · cases e
      · obtain ⟨us', hu, e⟩ := Option.bind_eq_some_iff.mp e
        split at e
        · rename_i hlen
          cases e
          cases rs with | cons r1 r2 =>
          cases r2
          obtain ⟨b, ws, rfl, g1, g2⟩ := lof_ok rm r1 hu
          have hl2 := g2.length
          have x' : Ext φ H φ (upd H a (.lst (zs ++ ws))) := .write ha
          exact mt_extend pins s σ H _ _ v us Q I rv rvs ⟨a, b, zs, ws, rfl, rfl, h1, g1, by omega, ok φ _ _ x' (rm.write ha ⟨_, upd_same, (h2.append g2).to x'⟩) .non⟩
        · cases e
      · obtain ⟨y, hy, e⟩ := Option.map_eq_some_iff.mp e
        cases e
        cases rs
        obtain ⟨w, hw, rw'⟩ := h2.get hy
        have x' : Ext φ H φ (upd H a (.lst zs.dropLast)) := .write ha
        have hd : RTs K φ ψ H ts.dropLast zs.dropLast := by
          rw [List.dropLast_eq_take, List.dropLast_eq_take, hl]
          exact h2.take _
        exact mt_pop pins s σ H _ _ v us Q I rv rvs ⟨a, zs, w, rfl, rfl, h1, by rw [← hl]; exact hw, ok φ _ _ x' (rm.write ha ⟨_, upd_same, hd.to x'⟩) (rw'.to x')⟩
      · split at e
        · rename_i hk
          obtain ⟨j, hj, e⟩ := Option.bind_eq_some_iff.mp e
          obtain ⟨y, hy, e⟩ := Option.map_eq_some_iff.mp e
          cases e
          cases rs with | cons r1 r2 =>
          cases r2; cases r1
          obtain ⟨w, hw, rw'⟩ := h2.get hy
          have x' : Ext φ H φ (upd H a (.lst (zs.eraseIdx j))) := .write ha
          exact mt_popAt pins s σ H _ _ v us Q I rv rvs ⟨a, zs, _, j, w, rfl, rfl, h1, hk.1, hk.2, by rw [← hl]; exact hj, hw, ok φ _ _ x' (rm.write ha ⟨_, upd_same, (h2.eraseIdx j).to x'⟩) (rw'.to x')⟩
        · cases e
      · cases e
        cases rs
        have x' : Ext φ H φ (upd H a (.lst zs.reverse)) := .write ha
        exact mt_reverse pins s σ H _ _ v us Q I rv rvs ⟨a, zs, rfl, rfl, h1, ok φ _ _ x' (rm.write ha ⟨_, upd_same, h2.reverse.to x'⟩) .non⟩
      · obtain ⟨ns, hn, e⟩ := Option.bind_eq_some_iff.mp e
        split at e
        · rename_i hk
          cases e
          cases rs with | cons r1 r2 =>
          cases r2; cases r1
          obtain rfl := intsOf_ok hn
          obtain rfl := h2.ints
          obtain ⟨f1, f2⟩ := findIdx_ok hk
          exact mt_remove pins s σ H _ _ v us Q I rv rvs ⟨a, ns, _, _, rfl, rfl, h1, f1, f2, ok φ _ _ (.write ha) (rm.write ha ⟨_, upd_same, RTs.ints' _⟩) .non⟩
        · cases e
      · cases e
    · cases e
  · cases e
end
end Mi
end L2

/-! Mini: enumerate and zip over lists and tuples in any mix. -/
namespace L2
namespace Mi
open PySem PySem.Spec PyProof.Rows

/-- a list or a tuple (true) -/
def SqB (K : PySem.W.Frag) : Bool → Hp → Addr → List V → Prop
  | false, H, a, xs => SqL K H a xs
  | true, H, a, xs => SqT K H a xs
def IsB : Bool → Heap → Addr → Array Value → Prop
  | false, h, a, its => h.IsList a its
  | true, h, a, its => h.IsTuple a its
def ItB : Bool → Heap → Addr → Addr → Nat → Prop
  | false, h, it, a, i => h.IsListIter it a i
  | true, h, it, a, i => h.IsTupleIter it a i
def objB : Bool → Addr → Obj
  | false, a => { cls := .type "list_iterator", data := .fields #[.ref a, .int 0 0] }
  | true, a => { cls := .type "tuple_iterator", data := .fields #[.ref a, .int 0 0] }
theorem sqB {X : Cx} {pins : List (Addr × Obj)} {σ : L2.St} {H : Hp} {s : Shared} {b : Bool} {a : Addr} {xs : List V} (I : Inv X pins σ H s) (h : SqB X.K b H a xs) :
    ∃ its : List Value, Vals xs its ∧ IsB b s.heap a its.toArray ∧ xs.length ≤ sizeLine := by
  cases b with
  | false => obtain ⟨its, r, p, z⟩ := I.list h; exact ⟨its, r, p.isList, z⟩
  | true => obtain ⟨its, r, p, z⟩ := I.tuple h; exact ⟨its, r, p, z⟩
theorem sqB_inj {X : Cx} {pins : List (Addr × Obj)} {σ : L2.St} {H : Hp} {s : Shared} {b : Bool} {a : Addr} {xs ys : List V} (I : Inv X pins σ H s) (h : SqB X.K b H a xs) (h' : SqB X.K b H a ys) : xs = ys := by
  cases b with
  | false => exact I.list_inj h h'
  | true => exact I.tuple_inj h h'
theorem drawsB {prog : Program} {w : World} {A : Around} (hh : A.handled = none) (b : Bool) (it l : Addr) (hne : l ≠ it) (items : Array Value) :
    Draws prog w A it [it, l] items.size (fun i v => items[i]? = some v) (fun i h => ItB b h it l i ∧ IsB b h l items) := by
  cases b with
  | false => exact .list hh it l hne items
  | true => exact .tuple hh it l hne items
theorem beginsB (b : Bool) (l : Addr) (items : Array Value) : Begins (.ref l) (objB b l) fun h => IsB b h l items := by
  cases b with
  | false => exact begins_list l items
  | true => exact begins_tuple l items
theorem itB_0 {b : Bool} {h : Heap} {it a : Addr} (e : h.get? it = some (objB b a)) : ItB b h it a 0 := by
  cases b with
  | false => exact ⟨_, e, rfl, rfl⟩
  | true => exact ⟨_, e, rfl, rfl⟩
theorem itB_at {b : Bool} {h h' : Heap} {it a : Addr} {i : Nat} (x : ItB b h it a i) (k : ∀ o, h.get? it = some o → h'.get? it = some o) : ItB b h' it a i := by
  cases b with
  | false => obtain ⟨o, e, r⟩ := x; exact ⟨o, k o e, r⟩
  | true => obtain ⟨o, e, r⟩ := x; exact ⟨o, k o e, r⟩
theorem itB_obj {b : Bool} {h : Heap} {it a : Addr} {i : Nat} (x : ItB b h it a i) : ∃ o, h.get? it = some o ∧ ∀ v, o.data ≠ .cell v := by
  cases b with
  | false => obtain ⟨o, e, c, d⟩ := x; exact ⟨o, e, fun v z => by rw [d] at z; cases z⟩
  | true => obtain ⟨o, e, c, d⟩ := x; exact ⟨o, e, fun v z => by rw [d] at z; cases z⟩
theorem isB_lt {b : Bool} {h : Heap} {a : Addr} {its : Array Value} (x : IsB b h a its) : a < h.objs.size := by
  cases b with
  | false => obtain ⟨o, e, _⟩ := x; exact Heap.lt_size e
  | true => obtain ⟨o, e, _⟩ := x; exact Heap.lt_size e

/-- an iterator of new tuples -/
def JT (go : Nat → Hp → Prop) (its : Nat → Hp → List V → Prop) (stop : Nat → Hp → Prop) : It :=
  ⟨go, fun i H v H' => ∃ T vs, v = .ref T ∧ H T = none ∧ H' = upd H T (.tup vs) ∧ its i H vs, stop⟩
theorem turn_T {P : Program} {w : World} {K : PySem.W.Frag} {elts : List Expr} {kk : Nat} {tpos : Pos} {I₀ : Addr} {fp wr : List Addr} {tn : Nat → Heap → Prop} {go : Nat → Hp → Prop} {its : Nat → Hp → List V → Prop} {stop : Nat → Hp → Prop}
    (hI : I₀ ∈ fp) (hw : ∀ b ∈ wr, b ∈ fp)
    (obj : ∀ i h, tn i h → ∀ b ∈ fp, ∃ o, h.get? b = some o ∧ ∀ v, o.data ≠ .cell v)
    (keep : ∀ i h h', tn i h → (∀ b ∈ fp, ∀ o, h.get? b = some o → h'.get? b = some o) → tn i h')
    (W : ∀ (X : Cx), X.prog = P → X.w = w → X.K = K → X.calm = true → ∀ (i : Nat) (pins : List (Addr × Obj)) (s : Shared) (σ : L2.St) (H : Hp), Inv X pins σ H s → tn i s.heap → (go i H ∨ stop i H) →
      ∃ n Pt St Mid fpW, WalksT P w X.A I₀ fpW wr n Pt St Mid ∧ St i s.heap ∧ (go i H → i < n ∧ ∀ vals, Pt i vals → ∃ vs, Vals vs vals.toList ∧ vs.length ≤ sizeLine ∧ its i H vs) ∧ (stop i H → i = n) ∧ ∀ h, St (i + 1) h → tn (i + 1) h)
    (self : ∀ (A : Around) (i : Nat) (s : Shared) (Q : Value → Shared → Prop) (E : Value → Shared → Prop), tn i s.heap → Q (.ref I₀) s → wpAny (model P w) A (pyIter (.ref I₀)) Q E s) :
    Turn P w K (.Tuple elts kk tpos) (JT go its stop) fp I₀ tn where
  mem := hI
  obj := obj
  keep := keep
  item := by
    intro X hP hw' hK hc i pins s σ H E I hf st hg
    obtain ⟨n, Pt, St, Mid, fpW, Wk, hst, h1, h2, h3⟩ := W X hP hw' hK hc i pins s σ H I st (.inl hg)
    subst hP hw' hK
    obtain ⟨hlt, hv⟩ := h1 hg
    refine Wk.item i s _ _ hlt hst fun T vals h' tk hP hnew hT hm hk => ⟨_, rfl, ?_⟩
    refine Wk.go elts kk tpos i T { s with heap := h', toks := tk } _ _ hm fun h'' hst'' hk'' => ?_
    obtain ⟨vs, rv, hz, hits⟩ := hv vals hP
    have hTw : T ∉ wr := Wk.apart i T h' hm
    obtain ⟨o, ho, hc', nn, hd⟩ := hT
    have hT2 : h''.get? T = some o := hk'' T o hTw ho
    have new : ObjOk X.prog X.w (upd H T (.tup vs)) h'' T (.tup vs) := ⟨hz, vals.toList, rv, o, hT2, hc', nn, by rw [hd]⟩
    have I1 : Inv X pins σ (upd H T (.tup vs)) { s with heap := h'', toks := tk } :=
      I.turnedNew (ch := wr) (fun b ob hb q => hk'' b ob hb (hk b ob hb q)) (fun b hb => hf b (hw b hb)) hnew new
    refine ⟨.ref T, _, I1, rfl, ⟨T, vs, rfl, I.hok.fresh hnew, rfl, hits⟩, h3 h'' hst'', fun b hb => ?_⟩
    obtain ⟨ob, hob, _⟩ := obj i s.heap st b hb
    have hb' : b < s.heap.objs.size := Heap.lt_size hob
    rw [upd_ne (Nat.ne_of_lt (Nat.lt_of_lt_of_le hb' hnew))]
    exact (hf b hb).1
  done := by
    intro X hP hw' hK hc i pins s σ H E I hf st hg
    obtain ⟨n, Pt, St, Mid, fpW, Wk, hst, h1, h2, h3⟩ := W X hP hw' hK hc i pins s σ H I st (.inr hg)
    subst hP hw' hK
    obtain rfl := h2 hg
    refine Wk.done s _ _ hst fun h' tk hk => ⟨rfl, ?_⟩
    exact I.step (g' := s.gens) (d' := s.drawn) (ch := wr) (fun b hb => ⟨(hf b (hw b hb)).2.2.2.1, (hf b (hw b hb)).2.1, (hf b (hw b hb)).2.2.2.2.1, (hf b (hw b hb)).2.2.2.2.2⟩) (fun b o _ _ hc e _ => hk b o hc e) (fun b o _ _ hc e _ => ⟨o.slots, hk b o hc e⟩)
      (fun b o _ e nn => nn) (fun b o hc e => ⟨o, hk b o hc e⟩) (fun b xs e => e) (fun b o u e => e) (fun b ps e => ⟨#[], by rw [e]; simp⟩) (fun m hm => by
        obtain ⟨o, es, ep, ho, r⟩ := hm
        exact ⟨o, es, ep, hk _ o (fun z => (hf _ (hw _ z)).2.1 rfl) ho, r⟩) (fun b u e => by
        have nit : ∀ b u, H b = some u → b ∉ wr := fun b u e z => by
          have q := (hf b (hw b z)).1
          rw [q] at e; cases e
        refine (I.hok b u e).stay (fun c v hc q => hk c v ?_ q) (fun c q => q) fun c xs q => q
        rcases hc with z | z
        · rw [z]; exact nit b u e
        · exact nit c _ z) I.bare
  self := self
/-! ### enumerate -/
def Jen (K : PySem.W.Frag) (b : Bool) (a : Addr) : It := JT (fun i H => ∃ xs, SqB K b H a xs ∧ i < xs.length) (fun i H vs => ∀ xs, SqB K b H a xs → ∃ x, xs[i]? = some x ∧ vs = [.int (i : Nat), x]) (fun i H => ∃ xs, SqB K b H a xs ∧ i = xs.length)
theorem two_le : 2 ≤ sizeLine := by rw [szl]; decide
theorem three_le : 3 ≤ sizeLine := by rw [szl]; decide
theorem turn_en {P : Program} {w : World} {K : PySem.W.Frag} {elts : List Expr} {kk : Nat} {tpos : Pos} (b : Bool) (a e it : Addr) (h1 : e ≠ it) (h2 : a ≠ e) (h3 : a ≠ it) :
    Turn P w K (.Tuple elts kk tpos) (Jen K b a) [e, it] e (fun i h => (∃ old, IsEnum h e it ((i : Nat) : Int) old) ∧ ItB b h it a i) := by
  refine turn_T (wr := [e, it]) (by simp) (fun b hb => hb) (fun i h st c hc => ?_) (fun i h h' st k => ?_) (fun X hP hw hK hc i pins s σ H I st hg => ?_) (fun A i s Q E st h => let ⟨⟨_, he⟩, _⟩ := st; wpAny_pyIter_enum he h)
  · obtain ⟨⟨old, he⟩, hi⟩ := st
    have hc' : c = e ∨ c = it := by simpa using hc
    rcases hc' with rfl | rfl
    · exact ⟨_, he, fun v q => nomatch q⟩
    · exact itB_obj hi
  · obtain ⟨⟨old, he⟩, hi⟩ := st
    exact ⟨⟨old, k e (by simp) _ he⟩, itB_at hi fun o q => k it (by simp) o q⟩
  · subst hP hw hK
    obtain ⟨⟨old, he⟩, hi⟩ := st
    have hx : ∃ xs, SqB X.K b H a xs := by rcases hg with ⟨xs, h, _⟩ | ⟨xs, h, _⟩ <;> exact ⟨xs, h⟩
    obtain ⟨xs, hx⟩ := hx
    obtain ⟨vs, rv, ib, hz⟩ := sqB I hx
    have hl := rv.length
    have D := drawsB (prog := X.prog) (w := X.w) (A := X.A.in1) (show X.A.in1.handled = none from I.ok.hd hc) b it a h3 vs.toArray
    refine ⟨_, _, _, _, _, WalksT.enumFrom 0 D e h1 (by simp only [List.mem_cons, List.not_mem_nil, or_false, not_or]; exact ⟨h1, Ne.symm h2⟩) (by simp), ⟨⟨old, by rw [Int.zero_add]; exact he⟩, hi, ib⟩, fun hg => ⟨?_, fun vals hv => ?_⟩, fun hg => ?_, fun h st => ?_⟩
    · obtain ⟨ys, hy, hlt⟩ := hg
      rw [sqB_inj I hy hx] at hlt
      simp only [List.size_toArray]
      omega
    · obtain ⟨t, x, hx1, rfl⟩ := hv
      have hx1 : vs.toArray[i]? = some x := hx1
      have hi1 : vs[i]? = some x := by simpa using hx1
      obtain ⟨hil, _⟩ := List.getElem?_eq_some_iff.mp hi1
      have hxl : i < xs.length := by omega
      obtain ⟨u, hu, ru⟩ := rv.get (List.getElem?_eq_getElem hxl)
      rw [hi1] at hu
      cases hu
      refine ⟨[.int (i : Nat), xs[i]], .cons ⟨t, by rw [Int.zero_add]⟩ (.cons ru .nil), two_le, fun ys hy => ?_⟩
      rw [sqB_inj I hy hx]
      exact ⟨xs[i], List.getElem?_eq_getElem hxl, rfl⟩
    · obtain ⟨ys, hy, rfl⟩ := hg
      rw [sqB_inj I hy hx]
      simp only [List.size_toArray]
      omega
    · obtain ⟨⟨old, he⟩, hi, _⟩ := st
      rw [Int.zero_add] at he
      exact ⟨⟨old, he⟩, hi⟩
theorem meets_enumerate_new1 {v : Value} {o : Obj} {H : Heap → Prop} (B : Begins v o H) :
    Meets (Builtin.«enumerate.__new__» ⟨[.type "enumerate", v], []⟩) (fun _ R s => H s.heap ∧
      R (.ok (.ret (.ref (s.heap.push o).objs.size))) { s with heap := (s.heap.push o).push { cls := .type "enumerate", data := .fields #[.none, .bool false, .ref s.heap.objs.size, rawInt 0, .none, .none] } }) :=
  .of_wp fun prog w A R s h => by
    obtain ⟨hp, g, d, tk, os⟩ := s; obtain ⟨h1, h⟩ := h
    have hsub := sub_enumerate
    have q1 : ∀ {A' : Around} {E : Value → Shared → Prop} {Q : Value → Shared → Prop}, Q (.ref hp.objs.size) ⟨hp.push o, g, d, tk, os⟩ → wpAny (model prog w) A' (pyIter v) Q E ⟨hp, g, d, tk, os⟩ :=
      fun q => B.iter prog w _ _ ⟨hp, g, d, tk, os⟩ _ h1 q
    wp_walk using q1
    refine wpAny_stack_any fun st => wpAny_pure ?_
    split
    · rename_i c _ _ _ _ _
      cases (c == Value.type "enumerate")
      · wp_walk using q1
        exact ⟨_, rfl, h⟩
      · wp_walk using q1
        exact ⟨_, rfl, h⟩
    · wp_walk using q1
      exact ⟨_, rfl, h⟩
theorem enum_begins1 {prog : Program} {w : World} {A : Around} {E : Value → Shared → Prop} {s : Shared} {v : Value} {o : Obj} {H : Heap → Prop} {Q : Value → Shared → Prop} (B : Begins v o H) (h1 : H s.heap)
    (h : ∀ h', IsEnum h' (s.heap.objs.size + 1) s.heap.objs.size 0 .none → h'.get? s.heap.objs.size = some o → h'.objs.size = s.heap.objs.size + 2 →
      (∀ b o, s.heap.get? b = some o → h'.get? b = some o) → Q (.ref (s.heap.objs.size + 1)) { s with heap := h' }) :
    wpAny (model prog w) A (call (.type "enumerate") [v]) Q E s := by
  refine callType_new F.called_enumerate (by decide) (F.typeCall_enumerate_1 _) (F.newCall_enumerate_1 _) (fun obj => F.args_object_init_2 obj _) F.entry_enumerate_new
    (meets_enumerate_new1 B) ⟨h1, ?_⟩
  have hz : (s.heap.push o).objs.size = s.heap.objs.size + 1 := Heap.size_push ..
  show _ ∧ _
  rw [hz]
  have he : IsEnum ((s.heap.push o).push { cls := .type "enumerate", data := .fields #[.none, .bool false, .ref s.heap.objs.size, rawInt 0, .none, .none] }) (s.heap.objs.size + 1) s.heap.objs.size 0 .none := by
    have := Heap.get?_push_size (s.heap.push o) (o := { cls := .type "enumerate", data := .fields #[.none, .bool false, .ref s.heap.objs.size, rawInt 0, .none, .none] }) rfl
    rw [hz] at this; exact this
  refine ⟨⟨_, he, rfl⟩, h _ he (Heap.get?_push_of_some _ (Heap.get?_push_size _ B.free)) (by rw [Heap.size_push, hz]) fun b o x => Heap.get?_push_of_some _ (Heap.get?_push_of_some _ x)⟩
def iEn (K : PySem.W.Frag) (ta : TA) : TI := fun σ H R => ta σ H fun vs H1 => ∃ a b xs, vs = [.ref a] ∧ SqB K b H1 a xs ∧ R (Jen K b a) H1
theorem pi_en {X : Cx} {e : Expr} {ta : TA} {p pos tpos : Pos} {elts : List Expr} {kk : Nat} (hg : Gl X "enumerate") (hm : X.mg "enumerate" = none) (ha : PA X [e] ta) (hst : starEach [e] X.env = [(false, eval e X.env)]) :
    PI X (.Tuple elts kk tpos) (.Call (.Name "enumerate" p) [e] [] pos) (iEn X.K ta) := by
  refine ⟨fun pins s σ H R I h => ?_⟩
  refine Call_ (ld_blt I hg hm boot_enumerate (PyProof.Rows.callWith_type1 (thn (ha.run pos pins s σ H _ I h) fun us s1 ⟨vs, H1, I1, r1, q1⟩ => ?_) hst rfl))
  obtain ⟨a, b, xs, ex, hq, q⟩ := q1
  subst ex
  cases r1 with | cons r rr =>
  cases rr
  cases r
  obtain ⟨its, rv, p', hz⟩ := sqB I1 hq
  refine enum_begins1 (beginsB b a its.toArray) p' fun h' he hit hsz hk => wpAny_pyIter_enum he ?_
  have I2 : Inv X pins σ H1 { s1 with heap := h' } := I1.kept (t' := s1.toks) hk
  have hlt := isB_lt p'
  refine ⟨s1.heap.objs.size + 1, [s1.heap.objs.size + 1, s1.heap.objs.size], _, _, H1, rfl, I2, turn_en b a (s1.heap.objs.size + 1) s1.heap.objs.size (Nat.succ_ne_self _) (Nat.ne_of_lt (Nat.lt_succ_of_lt hlt)) (Nat.ne_of_lt hlt), ⟨⟨.none, he⟩, itB_0 hit⟩, fun c hc => ?_, q⟩
  have e' : c = s1.heap.objs.size + 1 ∨ c = s1.heap.objs.size := by simpa using hc
  have hle : s1.heap.objs.size ≤ c := by
    rcases e' with z | z
    · rw [z]; exact Nat.le_add_right _ _
    · rw [z]; exact Nat.le_refl _
  exact I1.fpOk hle (I1.hok.fresh hle)
end Mi
end L2

/-! Mini: zip of two and of three. -/
namespace L2
namespace Mi
open PySem PySem.Spec PyProof.Rows

theorem notIn2 {x i a : Addr} (h1 : x ≠ i) (h2 : a ≠ x) : x ∉ [i, a] := by
  simp only [List.mem_cons, List.not_mem_nil, or_false, not_or]
  exact ⟨h1, Ne.symm h2⟩
def Jz2 (K : PySem.W.Frag) (b1 b2 : Bool) (a1 a2 : Addr) : It := JT (fun i H => ∃ xs ys, SqB K b1 H a1 xs ∧ SqB K b2 H a2 ys ∧ i < min xs.length ys.length)
  (fun i H vs => ∀ xs ys, SqB K b1 H a1 xs → SqB K b2 H a2 ys → ∃ x y, xs[i]? = some x ∧ ys[i]? = some y ∧ vs = [x, y]) (fun i H => ∃ xs ys, SqB K b1 H a1 xs ∧ SqB K b2 H a2 ys ∧ i = min xs.length ys.length)
structure Apart2 (z TI TO i1 i2 a1 a2 : Addr) : Prop where
  TIz : TI ≠ z
  TOz : TO ≠ z
  TITO : TI ≠ TO
  TIi1 : TI ≠ i1
  TIi2 : TI ≠ i2
  zi1 : z ≠ i1
  zi2 : z ≠ i2
  TOi1 : TO ≠ i1
  TOi2 : TO ≠ i2
  i12 : i1 ≠ i2
  a1z : a1 ≠ z
  a1T : a1 ≠ TO
  a1i1 : a1 ≠ i1
  a1i2 : a1 ≠ i2
  a2z : a2 ≠ z
  a2T : a2 ≠ TO
  a2i1 : a2 ≠ i1
  a2i2 : a2 ≠ i2
theorem Apart2.sep {z TI TO i1 i2 a1 a2 : Addr} (h : Apart2 z TI TO i1 i2 a1 a2) : ZipSep2 z TI TO i1 i2 [i1, a1] [i2, a2] :=
  ⟨h.TIz, h.TOz, h.TITO, h.TIi1, by simp, notIn2 h.zi1 h.a1z, notIn2 h.TOi1 h.a1T, h.TIi2, by simp, notIn2 h.zi2 h.a2z, notIn2 h.TOi2 h.a2T, notIn2 h.i12 h.a2i1, notIn2 (Ne.symm h.i12) h.a1i2⟩
theorem apart2 {N a1 a2 : Nat} (h1 : a1 < N) (h2 : a2 < N) : Apart2 (N + 4) (N + 2) (N + 3) N (N + 1) a1 a2 := by
  constructor <;> (show (_ : Nat) ≠ _) <;> omega
theorem turn_z2 {P : Program} {w : World} {K : PySem.W.Frag} {elts : List Expr} {kk : Nat} {tpos : Pos} (b1 b2 : Bool) {z TI TO i1 i2 a1 a2 : Addr} (D : Apart2 z TI TO i1 i2 a1 a2) :
    Turn P w K (.Tuple elts kk tpos) (Jz2 K b1 b2 a1 a2) [z, TI, TO, i1, i2] z
      (fun i h => IsZip h z TI TO .none ∧ IsTupOf2 h TI (.ref i1) (.ref i2) ∧ (∃ x1 x2, IsTupOf2 h TO x1 x2) ∧ ItB b1 h i1 a1 i ∧ ItB b2 h i2 a2 i) := by
  refine turn_T (wr := [z, TO, i1, i2]) (by simp) (fun b hb => by simp at hb ⊢; rcases hb with h | h | h | h <;> simp [h]) (fun i h st c hc => ?_) (fun i h h' st k => ?_) (fun X hP hw hK hc i pins s σ H I st hg => ?_) (fun A i s Q E st h => wpAny_pyIter_zip st.1 h)
  · obtain ⟨hz, ht, ⟨x1, x2, ho⟩, hi1, hi2⟩ := st
    have hc' : c = z ∨ c = TI ∨ c = TO ∨ c = i1 ∨ c = i2 := by simpa using hc
    rcases hc' with rfl | rfl | rfl | rfl | rfl
    · exact ⟨_, hz, fun v q => nomatch q⟩
    · exact ⟨_, ht, fun v q => nomatch q⟩
    · exact ⟨_, ho, fun v q => nomatch q⟩
    · exact itB_obj hi1
    · exact itB_obj hi2
  · obtain ⟨hz, ht, ⟨x1, x2, ho⟩, hi1, hi2⟩ := st
    exact ⟨k z (by simp) _ hz, k TI (by simp) _ ht, ⟨x1, x2, k TO (by simp) _ ho⟩, itB_at hi1 fun o q => k i1 (by simp) o q, itB_at hi2 fun o q => k i2 (by simp) o q⟩
  · subst hP hw hK
    obtain ⟨hz, ht, ho, hi1, hi2⟩ := st
    have hx : ∃ xs ys, SqB X.K b1 H a1 xs ∧ SqB X.K b2 H a2 ys := by rcases hg with ⟨xs, ys, h, h', _⟩ | ⟨xs, ys, h, h', _⟩ <;> exact ⟨xs, ys, h, h'⟩
    obtain ⟨xs, ys, hx, hy⟩ := hx
    obtain ⟨vs, rv, ib, hzz⟩ := sqB I hx
    obtain ⟨us, ru, ib2, hzz2⟩ := sqB I hy
    have hl := rv.length
    have hl2 := ru.length
    have hh : X.A.in1.handled = none := I.ok.hd hc
    have D1 := drawsB (prog := X.prog) (w := X.w) (A := X.A.in1) hh b1 i1 a1 D.a1i1 vs.toArray
    have D2 := drawsB (prog := X.prog) (w := X.w) (A := X.A.in1) hh b2 i2 a2 D.a2i2 us.toArray
    refine ⟨_, _, _, _, _, WalksT.zipD2 D.sep D1 D2, ⟨hz, ht, ho, ⟨hi1, ib⟩, hi2, ib2⟩, fun hg => ⟨?_, fun vals hv => ?_⟩, fun hg => ?_, fun h st => ?_⟩
    · obtain ⟨xs', ys', hx', hy', hlt⟩ := hg
      rw [sqB_inj I hx' hx, sqB_inj I hy' hy] at hlt
      simp only [List.size_toArray]
      omega
    · obtain ⟨x, y, hx1, hy1, rfl⟩ := hv
      have e1 : vs[i]? = some x := by simpa using hx1
      have e2 : us[i]? = some y := by simpa using hy1
      obtain ⟨l1, _⟩ := List.getElem?_eq_some_iff.mp e1
      obtain ⟨l2, _⟩ := List.getElem?_eq_some_iff.mp e2
      have m1 : i < xs.length := by omega
      have m2 : i < ys.length := by omega
      obtain ⟨u1, hu1, r1⟩ := rv.get (List.getElem?_eq_getElem m1)
      obtain ⟨u2, hu2, r2⟩ := ru.get (List.getElem?_eq_getElem m2)
      rw [e1] at hu1; cases hu1
      rw [e2] at hu2; cases hu2
      refine ⟨[xs[i], ys[i]], .cons r1 (.cons r2 .nil), two_le, fun xs' ys' hx' hy' => ?_⟩
      rw [sqB_inj I hx' hx, sqB_inj I hy' hy]
      exact ⟨_, _, List.getElem?_eq_getElem m1, List.getElem?_eq_getElem m2, rfl⟩
    · obtain ⟨xs', ys', hx', hy', rfl⟩ := hg
      rw [sqB_inj I hx' hx, sqB_inj I hy' hy]
      simp only [List.size_toArray]
      omega
    · obtain ⟨hz, ht, ho, ⟨hi1, _⟩, hi2, _⟩ := st
      exact ⟨hz, ht, ho, hi1, hi2⟩
def iZ2 (K : PySem.W.Frag) (ta : TA) : TI := fun σ H R => ta σ H fun vs H1 => ∃ a1 a2 b1 b2 xs ys, vs = [.ref a1, .ref a2] ∧ SqB K b1 H1 a1 xs ∧ SqB K b2 H1 a2 ys ∧ R (Jz2 K b1 b2 a1 a2) H1
theorem pi_z2 {X : Cx} {e e2 : Expr} {ta : TA} {p pos tpos : Pos} {elts : List Expr} {kk : Nat} (hg : Gl X "zip") (hm : X.mg "zip" = none) (ha : PA X [e, e2] ta)
    (hs : starEach [e, e2] X.env = (false, eval e X.env) :: starEach [e2] X.env) (hpl : (backTo pos (starEach [e2] X.env)).any (·.1) = false) :
    PI X (.Tuple elts kk tpos) (.Call (.Name "zip" p) [e, e2] [] pos) (iZ2 X.K ta) := by
  refine ⟨fun pins s σ H R I h => ?_⟩
  refine Call_ (ld_blt I hg hm PyProof.Rows.boot_zip (PyProof.Rows.callWith_type1 (thn (ha.run pos pins s σ H _ I h) fun us s1 ⟨vs, H1, I1, r1, q1⟩ => ?_) hs hpl))
  obtain ⟨a1, a2, b1, b2, xs, ys, ex, hqx, hqy, q⟩ := q1
  subst ex
  cases r1 with | cons r rr =>
  cases rr with | cons r' rr =>
  cases rr
  cases r
  cases r'
  obtain ⟨its, rv, p1, _⟩ := sqB I1 hqx
  obtain ⟨its2, rv2, p2, _⟩ := sqB I1 hqy
  refine zip_begins2 (beginsB b1 a1 its.toArray) (beginsB b2 a2 its2.toArray) p1 p2 fun h' hz hTI hTO h1 h2 hsz hk => wpAny_pyIter_zip hz ?_
  have I2 : Inv X pins σ H1 { s1 with heap := h' } := I1.kept (t' := s1.toks) hk
  refine ⟨s1.heap.objs.size + 4, [s1.heap.objs.size + 4, s1.heap.objs.size + 2, s1.heap.objs.size + 3, s1.heap.objs.size, s1.heap.objs.size + 1], _, _, H1, rfl, I2, turn_z2 b1 b2 (apart2 (isB_lt p1) (isB_lt p2)), ⟨hz, hTI, ⟨_, _, hTO⟩, itB_0 h1, itB_0 h2⟩, fun c hcm => ?_, q⟩
  have e' : c = s1.heap.objs.size + 4 ∨ c = s1.heap.objs.size + 2 ∨ c = s1.heap.objs.size + 3 ∨ c = s1.heap.objs.size ∨ c = s1.heap.objs.size + 1 := by simpa using hcm
  have hle : s1.heap.objs.size ≤ c := by
    rcases e' with z | z | z | z | z
    · rw [z]; exact Nat.le_add_right _ _
    · rw [z]; exact Nat.le_add_right _ _
    · rw [z]; exact Nat.le_add_right _ _
    · rw [z]; exact Nat.le_refl _
    · rw [z]; exact Nat.le_add_right _ _
  exact I1.fpOk hle (I1.hok.fresh hle)
end Mi
end L2

/-! Mini: what the model's text asks of the forms of expressions. -/
namespace L2
namespace Mi
open PySem PySem.Spec PyProof.Rows

def notStar : Expr → Bool
  | .Starred _ _ => false
  | _ => true
def notSup : Expr → Bool
  | .Call (.Name _ _) [] [] _ => false
  | _ => true
def notSl : Expr → Bool
  | .Slice _ _ _ _ => false
  | _ => true
def notComp : Expr → Bool
  | .ListComp _ _ _ _ => false
  | .SetComp _ _ _ _ => false
  | .DictComp _ _ _ _ _ => false
  | _ => true
def notSet : Expr → Bool
  | .Set _ _ _ => false
  | _ => true
def notTup : Expr → Bool
  | .Tuple _ _ _ => false
  | .List _ _ => false
  | _ => true
def isName : Expr → Bool
  | .Name _ _ => true
  | _ => false
theorem star_cons {e : Expr} {es : List Expr} {env : Env} (h : notStar e = true) : starEach (e :: es) env = (false, eval e env) :: starEach es env := by
  cases e <;> first | rfl | (simp [notStar] at h)
theorem assign_cons {e : Expr} {es : List Expr} {env : Env} (h : notStar e = true) : assignEach (e :: es) env = (false, assign e env) :: assignEach es env := by
  cases e <;> first | rfl | (simp [notStar] at h)
theorem star_map {env : Env} : ∀ {es : List Expr}, es.all notStar = true → starEach es env = es.map fun e => (false, eval e env)
  | [], _ => rfl
  | e :: es, h => by
    simp only [List.all_cons, Bool.and_eq_true] at h
    rw [star_cons h.1, star_map h.2]; rfl
theorem assign_map {env : Env} : ∀ {es : List Expr}, es.all notStar = true → assignEach es env = es.map fun e => (false, assign e env)
  | [], _ => rfl
  | e :: es, h => by
    simp only [List.all_cons, Bool.and_eq_true] at h
    rw [assign_cons h.1, assign_map h.2]; rfl
theorem back_any {env : Env} {pos : Pos} {es : List Expr} (h : es.all notStar = true) : (backTo pos (starEach es env)).any (·.1) = false := by
  rw [star_map h]
  unfold backTo
  rw [List.map_map, List.any_map]
  apply List.any_eq_false.mpr
  intro x _
  simp
theorem back_all {env : Env} {pos : Pos} {es : List Expr} (h : es.all notStar = true) : (backTo pos (starEach es env)).all (fun x => !x.1) = true := by
  rw [star_map h]
  unfold backTo
  rw [List.map_map, List.all_map]
  apply List.all_eq_true.mpr
  intro x _
  rfl
theorem back_few {env : Env} {pos : Pos} {es : List Expr} (h : es.all notStar = true) (hl : es.length < 29) : ((backTo pos (starEach es env)).all (fun x => !x.1) && (backToKw pos (keywordEach [] env)).all (fun x => x.1.isSome)
      && decide (es.length + ([] : List Keyword).length + (if ([] : List Keyword).isEmpty then 0 else 1) < 30)) = true := by
  rw [back_all h, Bool.true_and]
  have e : (backToKw pos (keywordEach [] env)).all (fun x => x.1.isSome) = true := rfl
  rw [e, Bool.true_and]
  exact decide_eq_true (by simp; omega)
theorem sup_base {o : Expr} {f : Str} {env : Env} {whole : Sem Value} (h : notSup o = true) : attributeBase o f env whole = whole := by
  unfold attributeBase
  split
  · simp [notSup] at h
  · rfl
theorem meth_eq {o : Expr} {m : Str} {apos pos : Pos} {args : List Expr} {env : Env} (h : notSup o = true) (hs : args.all notStar = true) (hl : args.length < 29) (hp : (apos.endLine == pos.line) = true) :
    eval (.Call (.Attribute o m apos) args [] pos) env = (do
      let ov ← eval o env
      standAt apos.atName
      let (f, first) ← holding [ov] (getMethod ov m (do return (← importBound o env).getD true))
      callWith pos f first (backTo pos (starEach args env)) (backToKw pos (keywordEach [] env))) := by
  have few : methodCallForm (args.length + ([] : List Keyword).length) (backTo pos (starEach args env)) (backToKw pos (keywordEach [] env)) = true := by
    have := back_few (env := env) (pos := pos) hs hl
    unfold methodCallForm
    exact this
  show (do
    let ov ← attributeBase o m env (eval o env)
    standAt apos.atName
    methodCall o m apos pos env ov (args.length + ([] : List Keyword).length) (backTo pos (starEach args env)) (backToKw pos (keywordEach [] env))) = _
  rw [sup_base h]
  congr 1
  funext ov
  congr 1
  funext u
  unfold methodCall
  rw [few]
  unfold calleeOf methodCallPos
  rw [hp]
  rfl
theorem plain_ix {b : Expr} (h : notSl b = true) : ∀ o i, subscripted b false o i = operate [o, i] (getItem o i) := by
  intro o i
  cases b <;> first | rfl | (simp [notSl] at h)
theorem aug_ix {i : Expr} (h : notSl i = true) : ∀ ov iv new, augStore i ov iv new = (do holding [new, ov, iv] (setItem ov iv new); release [new, ov, iv] []; pure .next) := by
  intro ov iv new
  cases i <;> first | rfl | (simp [notSl] at h)
theorem sub_assign {o i : Expr} {pos : Pos} {env : Env} (h : notSl i = true) : ∀ v, assign (.Subscript o i pos) env v = (do
      let ov ← holding [v] (eval o env)
      let iv ← holding [v, ov] (eval i env)
      standAt pos
      holding [v, ov, iv] (setItem ov iv v)
      release [v, ov, iv] []) := by
  intro v
  cases i <;> first | rfl | (simp [notSl] at h)
theorem sw_not {e : Expr} {t : Option Expr} {l : Nat} {env : Env} (h : notComp e = true) : swapsWith e t l env = pure false := by
  cases e <;> first | rfl | (simp [notComp] at h)
theorem sw_tgt {e t : Expr} {l : Nat} {env : Env} (h : isName t = false) : swapsWith e (some t) l env = pure false := by
  unfold swapsWith
  cases e <;> first
    | rfl
    | (cases t <;> first | rfl | (simp [isName] at h))
theorem fold_set {e : Expr} {env : Env} (h : notSet e = true) : ∀ x, foldedSetIterable e env x = pure x := by
  intro x
  cases e <;> first | rfl | (simp [notSet] at h)
theorem st_none {t e : Expr} {env : Env} (h : notTup t = true ∨ notTup e = true) : swappedStores [t] e env = pure none := by
  unfold swappedStores
  rcases h with h | h
  · cases t <;> first | rfl | (simp [notTup] at h)
  · cases e <;> first
      | (cases t <;> rfl)
      | (simp [notTup] at h)
theorem beh {op : CmpOp} {e : Expr} (h : notSet e = true) : behindInMarks op e = false := by
  cases e <;> first | rfl | (simp [notSet] at h)
theorem star_any {vs : List Expr} (h : vs.all notStar = true) : (vs.any fun | .Starred .. => true | _ => false) = false := by
  apply List.any_eq_false.mpr
  intro x hx
  have := List.all_eq_true.mp h x hx
  cases x <;> first | exact Bool.false_ne_true | (simp [notStar] at this)
theorem star_one : ∀ e : Expr, (match e with | .Starred _ _ => true | _ => false) = true → notStar e = false := by
  intro e h
  cases e <;> first | rfl | exact nomatch h
theorem sw2 {x y : Str} {a b : Expr} {px py p1 p2 : Pos} {k1 k2 : Nat} {env : Env} (hk : env.scope.kind = .function) (hx : env.scope.names.lookup x = some .local) (hy : env.scope.names.lookup y = some .local) (hl : py.line = px.line) (hne : x ≠ y)
    (hs : [a, b].all notStar = true) (h6 : [a, b].all (foldedForSure 8) = false) (h7 : [a, b].all (constantsAlone 8) = false) :
    swappedStores [.Tuple [.Name x px, .Name y py] k1 p1] (.Tuple [a, b] k2 p2) env = pure (some [x, y]) := by
  have hb : env.blockKind = .function := by unfold Env.blockKind; rw [hk]; rfl
  have hx' : env.kindOf x = some .local := hx
  have hy' : env.kindOf y = some .local := hy
  have e1 : (x == y) = false := beq_eq_false_iff_ne.mpr hne
  have e2 : (y == x) = false := beq_eq_false_iff_ne.mpr (Ne.symm hne)
  have h3 := star_any hs
  have lx : (Expr.Name x px).pos.line = px.line := rfl
  unfold swappedStores
  simp only [hb, h3, h6, h7, List.length_cons, List.length_nil, List.filterMap_cons, List.filterMap_nil, List.head?_cons, Option.map_some, Option.getD_some, hx', hy', lx, hl, beq_self_eq_true, Bool.and_self, if_true]
  simp [List.eraseDups_cons, e1, e2, hne]
  intro q
  exfalso
  simp only [List.all_cons, List.all_nil, Bool.and_true, Bool.and_eq_true] at hs
  rcases q with q | q
  · exact Bool.noConfusion ((star_one _ q).symm.trans hs.1)
  · exact Bool.noConfusion ((star_one _ q).symm.trans hs.2)
theorem sw3 {x y z : Str} {a b c : Expr} {px py pz p1 p2 : Pos} {k1 k2 : Nat} {env : Env} (hk : env.scope.kind = .function) (hx : env.scope.names.lookup x = some .local) (hy : env.scope.names.lookup y = some .local) (hz : env.scope.names.lookup z = some .local) (hl : py.line = px.line) (hl2 : pz.line = px.line)
    (hne : x ≠ y) (hne2 : x ≠ z) (hne3 : y ≠ z)
    (hs : [a, b, c].all notStar = true) (h6 : [a, b, c].all (foldedForSure 8) = false) (h7 : [a, b, c].all (constantsAlone 8) = false) :
    swappedStores [.Tuple [.Name x px, .Name y py, .Name z pz] k1 p1] (.Tuple [a, b, c] k2 p2) env = pure (some [x, y, z]) := by
  have hb : env.blockKind = .function := by unfold Env.blockKind; rw [hk]; rfl
  have hx' : env.kindOf x = some .local := hx
  have hy' : env.kindOf y = some .local := hy
  have hz' : env.kindOf z = some .local := hz
  have h3 := star_any hs
  have lx : (Expr.Name x px).pos.line = px.line := rfl
  have f1 := Ne.symm hne
  have f2 := Ne.symm hne2
  have f3 := Ne.symm hne3
  unfold swappedStores
  simp only [hb, h3, h6, h7, List.length_cons, List.length_nil, List.filterMap_cons, List.filterMap_nil, List.head?_cons, Option.map_some, Option.getD_some, hx', hy', hz', lx, hl, hl2, beq_self_eq_true, Bool.and_self, if_true]
  simp [List.eraseDups_cons, hne, hne2, hne3, f1, f2, f3]
  intro q
  exfalso
  simp only [List.all_cons, List.all_nil, Bool.and_true, Bool.and_eq_true] at hs
  rcases q with q | q | q
  · exact Bool.noConfusion ((star_one _ q).symm.trans hs.1)
  · exact Bool.noConfusion ((star_one _ q).symm.trans hs.2.1)
  · exact Bool.noConfusion ((star_one _ q).symm.trans hs.2.2)
end Mi
end L2

/-! Mini: readings, what a loop walks, the table of defs. -/
namespace L2
namespace Mi
open PySem PySem.Spec PyProof.Rows

theorem Tr.refl {φ ψ : List Addr} {H : Hp} : Tr φ ψ H φ ψ H := ⟨fun _ _ e => e, fun _ _ h e => ⟨h, e⟩⟩
theorem Tr.trans {φ φ1 φ2 ψ ψ1 ψ2 : List Addr} {H H1 H2 : Hp} (x : Tr φ ψ H φ1 ψ1 H1) (y : Tr φ1 ψ1 H1 φ2 ψ2 H2) : Tr φ ψ H φ2 ψ2 H2 :=
  ⟨fun i a e => y.get i a (x.get i a e), fun a o h e => let ⟨h1, e1⟩ := x.keep a o h e; y.keep a o h1 e1⟩

def OkB (K : KC) (φ ψ : List Addr) (H : Hp) (b : Bool) (M : Mem) (Q : Bool → Hp → Prop) : Prop := ∀ φ' H', Ext φ H φ' H' → RM K φ' ψ H' M → Q b H'
def OkL (K : KC) (φ ψ : List Addr) (H : Hp) (ts : List T) (M : Mem) (Q : List V → Hp → Prop) : Prop := ∀ φ' H' vs, Ext φ H φ' H' → RM K φ' ψ H' M → RTs K φ' ψ H' ts vs → Q vs H'
def Post (K : KC) (φ ψ : List Addr) (H : Hp) (D : Ends) : R → Prop
  | .nx env M => ∀ φ' H' σ', Ext φ H φ' H' → RM K φ' ψ H' M → RE K φ' ψ H' env σ' → D.nx σ' H'
  | .rt t M => ∀ φ' H' v, Ext φ H φ' H' → RM K φ' ψ H' M → RT K φ' ψ H' t v → D.rt v H'
  | .bk env M => ∀ φ' H' σ', Ext φ H φ' H' → RM K φ' ψ H' M → RE K φ' ψ H' env σ' → D.bk σ' H'
  | .ct env M => ∀ φ' H' σ', Ext φ H φ' H' → RM K φ' ψ H' M → RE K φ' ψ H' env σ' → D.ct σ' H'
theorem Post.ext {K : KC} {φ φ1 ψ : List Addr} {H H1 : Hp} {D : Ends} {r : R} (p : Post K φ ψ H D r) (x : Ext φ H φ1 H1) : Post K φ1 ψ H1 D r := by
  cases r <;> exact fun φ' H' v y => p φ' H' v (x.trans y)

/-! ### readings -/
def tE (G : Sig) (K : KC) (m : ME) : TE := fun σ H Q => ∃ φ ψ env M t M', RE K φ ψ H env σ ∧ RM K φ ψ H M ∧ evE G m env M = some (t, M') ∧ Ok1 K φ ψ H t M' Q
def tT (G : Sig) (K : KC) (m : ME) : TT := fun σ H Q => ∃ φ ψ env M b M', RE K φ ψ H env σ ∧ RM K φ ψ H M ∧ tst (evE G m env M) = some (b, M') ∧ OkB K φ ψ H b M' Q
def tEs (G : Sig) (K : KC) (ms : MEs) : TA := fun σ H Q => ∃ φ ψ env M ts M', RE K φ ψ H env σ ∧ RM K φ ψ H M ∧ evEs G ms env M = some (ts, M') ∧ OkL K φ ψ H ts M' Q
def tIf (G : Sig) (K : KC) (ms : MEs) : TT := fun σ H Q => ∃ φ ψ env M b M', RE K φ ψ H env σ ∧ RM K φ ψ H M ∧ evIf G ms env M = some (b, M') ∧ OkB K φ ψ H b M' Q
def tP (G : Sig) (K : KC) (m : ME) : TO := fun σ H Q => ∃ φ ψ env M o M', RE K φ ψ H env σ ∧ RM K φ ψ H M ∧ evP G m env M = some (o, M') ∧ ∀ φ' H', Ext φ H φ' H' → RM K φ' ψ H' M' → Q o H'
mutual
def slT' : MT → List Nat
  | .nm i _ => [i]
  | .tp ts => slTs ts
def slTs : MTs → List Nat
  | .nil => []
  | .cons t ts => slT' t ++ slTs ts
end
/-- the same but at these places -/
def Ag (js : List Nat) (σ σ' : L2.St) : Prop := σ'.length = σ.length ∧ ∀ j, j ∉ js → σ'[j]? = σ[j]?
theorem Ag.trans {js ks : List Nat} {a b c : L2.St} (h : Ag js a b) (h' : Ag ks b c) : Ag (js ++ ks) a c :=
  ⟨h'.1.trans h.1, fun j hj => by rw [List.mem_append, not_or] at hj; exact (h'.2 j hj.2).trans (h.2 j hj.1)⟩
theorem wipe_in {σ : L2.St} {j : Nat} : ∀ {vs : List Nat}, j ∈ vs → j < σ.length → (wipe σ vs)[j]? = some none
  | v :: vs, h, hl => by
    unfold wipe
    by_cases e : v = j
    · subst e; rw [List.getElem?_set_self (by rw [wipe_length]; exact hl)]
    · rw [List.getElem?_set_ne e]
      exact wipe_in (by rcases List.mem_cons.mp h with q | q; exact absurd q.symm e; exact q) hl
theorem Ag.wipe {js vs : List Nat} {a b : L2.St} (h : Ag js a b) (hs : ∀ j ∈ js, j ∈ vs) : wipe b vs = wipe a vs := by
  apply List.ext_getElem?
  intro j
  by_cases hj : j ∈ vs
  · by_cases hl : j < a.length
    · rw [wipe_in hj hl, wipe_in hj (by rw [h.1]; exact hl)]
    · rw [List.getElem?_eq_none (by rw [wipe_length, h.1]; omega), List.getElem?_eq_none (by rw [wipe_length]; omega)]
  · rw [wipe_out hj, wipe_out hj]
    exact h.2 j fun q => hj (hs j q)
theorem wipe_wipe {σ : L2.St} {vs : List Nat} : wipe (wipe σ vs) vs = wipe σ vs := by
  apply List.ext_getElem?
  intro j
  by_cases hj : j ∈ vs
  · by_cases hl : j < σ.length
    · rw [wipe_in hj hl, wipe_in hj (by rw [wipe_length]; exact hl)]
    · rw [List.getElem?_eq_none (by rw [wipe_length, wipe_length]; omega), List.getElem?_eq_none (by rw [wipe_length]; omega)]
  · rw [wipe_out hj]
def gM (K : KC) (m : MT) : TG := fun v σ H Q => ∃ φ ψ env M t env', RE K φ ψ H env σ ∧ RM K φ ψ H M ∧ RT K φ ψ H t v ∧ asgT m t env = some env' ∧ ∀ σ', RE K φ ψ H env' σ' → Ag (slT' m) σ σ' → Q σ' H
def gMs (K : KC) (m : MTs) : TGs := fun vs σ H Q => ∃ φ ψ env M ts env', RE K φ ψ H env σ ∧ RM K φ ψ H M ∧ RTs K φ ψ H ts vs ∧ asgTs m ts env = some env' ∧ ∀ σ', RE K φ ψ H env' σ' → Ag (slTs m) σ σ' → Q σ' H
def tS (G : Sig) (K : KC) (s : MS) : TS := fun D σ H => ∃ φ ψ env M r, RE K φ ψ H env σ ∧ RM K φ ψ H M ∧ exS G s env M = some r ∧ Post K φ ψ H D r
def tSs (G : Sig) (K : KC) (s : List MS) : TS := fun D σ H => ∃ φ ψ env M r, RE K φ ψ H env σ ∧ RM K φ ψ H M ∧ exSs G s env M = some r ∧ Post K φ ψ H D r

/-! ### weaker readings -/
section
variable {X : Cx}
theorem PE.imp {e : Expr} {t t' : TE} (h : PE X e t) (hi : ∀ σ H Q, t' σ H Q → t σ H Q) : PE X e t' := ⟨fun pins s σ H Q I q => h.run pins s σ H Q I (hi σ H Q q)⟩
theorem PT.imp {e : Expr} {t t' : TT} (h : PT X e t) (hi : ∀ σ H Q, t' σ H Q → t σ H Q) : PT X e t' := ⟨fun pins s σ H Q I q => h.run pins s σ H Q I (hi σ H Q q)⟩
theorem PA.imp {e : List Expr} {t t' : TA} (h : PA X e t) (hi : ∀ σ H Q, t' σ H Q → t σ H Q) : PA X e t' := ⟨fun pos pins s σ H Q I q => h.run pos pins s σ H Q I (hi σ H Q q)⟩
theorem PS.imp {e : Stmt} {t t' : TS} (h : PS X e t) (hi : ∀ D σ H, t' D σ H → t D σ H) : PS X e t' := ⟨fun pins s σ H D I q => h.run pins s σ H D I (hi D σ H q)⟩
theorem PSs.imp {e : List Stmt} {t t' : TS} (h : PSs X e t) (hi : ∀ D σ H, t' D σ H → t D σ H) : PSs X e t' := ⟨fun pins s σ H D I q => h.run pins s σ H D I (hi D σ H q)⟩
theorem PTs.imp {e : List Expr} {t t' : TT} (h : PTs X e t) (hi : ∀ σ H Q, t' σ H Q → t σ H Q) : PTs X e t' := ⟨fun pins s σ H Q I q => h.run pins s σ H Q I (hi σ H Q q)⟩
theorem PG.imp {e : Expr} {t t' : TG} (h : PG X e t) (hi : ∀ v σ H Q, t' v σ H Q → t v σ H Q) : PG X e t' := ⟨fun pins s σ H v u Q I r q => h.run pins s σ H v u Q I r (hi v σ H Q q)⟩
theorem PGs.imp {e : List Expr} {t t' : TGs} (h : PGs X e t) (hi : ∀ v σ H Q, t' v σ H Q → t v σ H Q) : PGs X e t' := ⟨fun pins s σ H v u Q I r q => h.run pins s σ H v u Q I r (hi v σ H Q q)⟩
theorem PI.imp {tg e : Expr} {t t' : TI} (h : PI X tg e t) (hi : ∀ σ H R, t' σ H R → t σ H R) : PI X tg e t' := ⟨fun pins s σ H R I q => h.run pins s σ H R I (hi σ H R q)⟩
theorem PO.imp {e : Option Expr} {t t' : TO} (h : PO X e t) (hi : ∀ σ H Q, t' σ H Q → t σ H Q) : PO X e t' := ⟨fun pins s σ H Q I q => h.run pins s σ H Q I (hi σ H Q q)⟩
end

/-! ### the source of a walk -/
def isTup : T → Bool
  | .tup _ => true
  | _ => false
/-- a source that stands while its guard holds -/
theorem src_ok {K : KC} {φ0 φ ψ0 ψ : List Addr} {H0 H : Hp} {M0 M : Mem} {t : T} {v : V} {ts : List T} {g : List (Nat × List T)} (h : RT K φ0 ψ0 H0 t v) (e : sof M0 t = some ts) (x : Tr φ0 ψ0 H0 φ ψ H) (rm : RM K φ ψ H M) (hg : Grd g M) (hsub : ∀ p ∈ grdOf t ts, p ∈ g) :
    ∃ a vs, v = .ref a ∧ SqB K.K (isTup t) H a vs ∧ RTs K φ ψ H ts vs := by
  have h' := RT.tr x t v h
  have e' : sof M t = some ts := by
    cases t with
    | obj i =>
      have q := hg (i, ts) (hsub _ (by simp [grdOf]))
      simp only [sof, lofS, lof]
      rw [q]
    | _ => exact e
  obtain ⟨a, vs, rfl, h1, h2⟩ := sof_ok rm h' e'
  refine ⟨a, vs, rfl, ?_, h1⟩
  rcases h2 with ⟨h2, hne⟩ | ⟨h2, rfl⟩
  · have : isTup t = false := by
      cases t <;> first | rfl | exact absurd rfl (hne _)
    rw [this]
    exact h2
  · exact h2
def Jsq (K : PySem.W.Frag) (b : Bool) (a : Addr) : It := match b with
  | false => Itl K a
  | true => Itt K a
structure WalkM (K : KC) (φ0 ψ0 : List Addr) (H0 : Hp) (items : List T) (g : List (Nat × List T)) (J : It) : Prop where
  goes : ∀ (i : Nat) φ ψ H M, i < items.length → Tr φ0 ψ0 H0 φ ψ H → RM K φ ψ H M → Grd g M → J.go i H
  stops : ∀ φ ψ H M, Tr φ0 ψ0 H0 φ ψ H → RM K φ ψ H M → Grd g M → J.stop items.length H
  yields : ∀ (i : Nat) φ ψ H M x H', i < items.length → Tr φ0 ψ0 H0 φ ψ H → RM K φ ψ H M → Grd g M → J.yld i H x H' → ∃ t, items[i]? = some t ∧ Ext φ H φ H' ∧ RM K φ ψ H' M ∧ RT K φ ψ H' t x
theorem walk_sq {K : KC} {φ0 ψ0 : List Addr} {H0 : Hp} {M0 : Mem} {t : T} {a : Addr} {ts : List T} (h : RT K φ0 ψ0 H0 t (.ref a)) (e : sof M0 t = some ts) : WalkM K φ0 ψ0 H0 ts (grdOf t ts) (Jsq K.K (isTup t) a) := by
  have key : ∀ φ ψ H M, Tr φ0 ψ0 H0 φ ψ H → RM K φ ψ H M → Grd (grdOf t ts) M → ∃ vs, SqB K.K (isTup t) H a vs ∧ RTs K φ ψ H ts vs := fun φ ψ H M x rm hg => by
    obtain ⟨a', vs, e1, h1, h2⟩ := src_ok h e x rm hg fun p hp => hp
    cases e1
    exact ⟨vs, h1, h2⟩
  refine ⟨fun i φ ψ H M hi x rm hg => ?_, fun φ ψ H M x rm hg => ?_, fun i φ ψ H M y H' hi x rm hg hy => ?_⟩
  · obtain ⟨vs, h1, h2⟩ := key φ ψ H M x rm hg
    obtain ⟨v, hv, _⟩ := h2.get (List.getElem?_eq_getElem hi)
    cases hb : isTup t with
    | false => rw [hb] at h1; exact ⟨vs, v, h1, hv⟩
    | true => rw [hb] at h1; exact ⟨vs, v, h1, hv⟩
  · obtain ⟨vs, h1, h2⟩ := key φ ψ H M x rm hg
    have hl := h2.length
    cases hb : isTup t with
    | false => rw [hb] at h1; exact ⟨vs, h1, by omega⟩
    | true => rw [hb] at h1; exact ⟨vs, h1, by omega⟩
  · obtain ⟨vs, h1, h2⟩ := key φ ψ H M x rm hg
    obtain ⟨v, hv, hr⟩ := h2.get (List.getElem?_eq_getElem hi)
    refine ⟨ts[i], List.getElem?_eq_getElem hi, ?_⟩
    cases hb : isTup t with
    | false =>
      rw [hb] at h1 hy
      obtain ⟨rfl, hy⟩ := hy
      have := hy vs h1
      rw [hv] at this; cases this
      exact ⟨.refl, rm, hr⟩
    | true =>
      rw [hb] at h1 hy
      obtain ⟨rfl, hy⟩ := hy
      have := hy vs h1
      rw [hv] at this; cases this
      exact ⟨.refl, rm, hr⟩
theorem rngL_len (lo hi : Int) : (rngL lo hi).length = (hi - lo).toNat := by unfold rngL; simp
theorem rngL_get {lo hi : Int} {i : Nat} (h : i < (rngL lo hi).length) : (rngL lo hi)[i]? = some (T.int (lo + (i : Nat))) := by
  rw [rngL_len] at h
  unfold rngL
  rw [List.getElem?_map, List.getElem?_range h]
  rfl
theorem walk_rng {K : KC} {φ0 ψ0 : List Addr} {H0 : Hp} (lo hi : Int) : WalkM K φ0 ψ0 H0 (rngL lo hi) [] (Itr lo (hi - lo).toNat) := by
  refine ⟨fun i φ ψ H M h _ _ _ => by rw [rngL_len] at h; exact h, fun φ ψ H M _ _ _ => by rw [rngL_len]; exact Nat.le_refl _, fun i φ ψ H M x H' h _ rm _ hy => ?_⟩
  obtain ⟨rfl, rfl⟩ := hy
  exact ⟨_, rngL_get h, .refl, rm, .int _⟩
theorem enumL_len : ∀ (k : Nat) (ts : List T), (enumL k ts).length = ts.length
  | _, [] => rfl
  | k, t :: ts => by simp [enumL, enumL_len (k + 1) ts]
theorem enumL_get : ∀ (k : Nat) (ts : List T) (i : Nat) (t : T), ts[i]? = some t → (enumL k ts)[i]? = some (.tup [.int ((k + i : Nat) : Int), t])
  | _, [], _, _, h => by simp at h
  | k, u :: ts, 0, t, h => by simp at h; subst h; rfl
  | k, u :: ts, i + 1, t, h => by
    have := enumL_get (k + 1) ts i t (by simpa using h)
    rw [show k + (i + 1) = k + 1 + i by omega]
    simpa [enumL] using this
theorem walk_en {K : KC} {φ0 ψ0 : List Addr} {H0 : Hp} {M0 : Mem} {t : T} {a : Addr} {ts : List T} (h : RT K φ0 ψ0 H0 t (.ref a)) (e : sof M0 t = some ts) : WalkM K φ0 ψ0 H0 (enumL 0 ts) (grdOf t ts) (Jen K.K (isTup t) a) := by
  have key : ∀ φ ψ H M, Tr φ0 ψ0 H0 φ ψ H → RM K φ ψ H M → Grd (grdOf t ts) M → ∃ vs, SqB K.K (isTup t) H a vs ∧ RTs K φ ψ H ts vs := fun φ ψ H M x rm hg => by
    obtain ⟨a', vs, e1, h1, h2⟩ := src_ok h e x rm hg fun p hp => hp
    cases e1
    exact ⟨vs, h1, h2⟩
  refine ⟨fun i φ ψ H M hi x rm hg => ?_, fun φ ψ H M x rm hg => ?_, fun i φ ψ H M y H' hi x rm hg hy => ?_⟩
  · obtain ⟨vs, h1, h2⟩ := key φ ψ H M x rm hg
    rw [enumL_len] at hi
    exact ⟨vs, h1, by rw [← h2.length]; exact hi⟩
  · obtain ⟨vs, h1, h2⟩ := key φ ψ H M x rm hg
    exact ⟨vs, h1, by rw [enumL_len]; exact h2.length⟩
  · obtain ⟨vs, h1, h2⟩ := key φ ψ H M x rm hg
    rw [enumL_len] at hi
    obtain ⟨v, hv, hr⟩ := h2.get (List.getElem?_eq_getElem hi)
    obtain ⟨p, us, rfl, hp, rfl, hits⟩ := hy
    obtain ⟨x', hx', rfl⟩ := hits vs h1
    rw [hv] at hx'; cases hx'
    have xx : Ext φ H φ (upd H p (.tup [.int (i : Nat), v])) := .new hp (rm.fresh hp)
    refine ⟨_, enumL_get 0 ts i _ (List.getElem?_eq_getElem hi), xx, rm.new hp, .tup (.inl ⟨fre_new rm hp, upd_same⟩) (.cons (by rw [Nat.zero_add]; exact .int _) (.cons (hr.to xx) .nil))⟩
theorem zip_get : ∀ (xs ys : List T) (i : Nat) (x y : T), xs[i]? = some x → ys[i]? = some y → (List.zipWith (fun x y => T.tup [x, y]) xs ys)[i]? = some (.tup [x, y])
  | xs, ys, i, x, y, h1, h2 => by rw [List.getElem?_zipWith, h1, h2]
theorem walk_z2 {K : KC} {φ0 ψ0 : List Addr} {H0 : Hp} {M0 M1 : Mem} {t u : T} {a b : Addr} {ts us : List T} (h : RT K φ0 ψ0 H0 t (.ref a)) (h' : RT K φ0 ψ0 H0 u (.ref b)) (e : sof M0 t = some ts) (e' : sof M1 u = some us) :
    WalkM K φ0 ψ0 H0 (List.zipWith (fun x y => T.tup [x, y]) ts us) (grdOf t ts ++ grdOf u us) (Jz2 K.K (isTup t) (isTup u) a b) := by
  have key : ∀ φ ψ H M, Tr φ0 ψ0 H0 φ ψ H → RM K φ ψ H M → Grd (grdOf t ts ++ grdOf u us) M → ∃ vs ws, SqB K.K (isTup t) H a vs ∧ RTs K φ ψ H ts vs ∧ SqB K.K (isTup u) H b ws ∧ RTs K φ ψ H us ws := fun φ ψ H M x rm hg => by
    obtain ⟨a', vs, e1, h1, h2⟩ := src_ok h e x rm hg fun p hp => List.mem_append_left _ hp
    obtain ⟨b', ws, e2, h3, h4⟩ := src_ok h' e' x rm hg fun p hp => List.mem_append_right _ hp
    cases e1
    cases e2
    exact ⟨vs, ws, h1, h2, h3, h4⟩
  have hl : (List.zipWith (fun x y => T.tup [x, y]) ts us).length = min ts.length us.length := List.length_zipWith
  refine ⟨fun i φ ψ H M hi x rm hg => ?_, fun φ ψ H M x rm hg => ?_, fun i φ ψ H M y H' hi x rm hg hy => ?_⟩
  · obtain ⟨vs, ws, h1, h2, h3, h4⟩ := key φ ψ H M x rm hg
    rw [hl] at hi
    exact ⟨vs, ws, h1, h3, by rw [← h2.length, ← h4.length]; exact hi⟩
  · obtain ⟨vs, ws, h1, h2, h3, h4⟩ := key φ ψ H M x rm hg
    exact ⟨vs, ws, h1, h3, by rw [hl, h2.length, h4.length]⟩
  · obtain ⟨vs, ws, h1, h2, h3, h4⟩ := key φ ψ H M x rm hg
    rw [hl] at hi
    have i1 : i < ts.length := by omega
    have i2 : i < us.length := by omega
    obtain ⟨v, hv, hr⟩ := h2.get (List.getElem?_eq_getElem i1)
    obtain ⟨w, hw, hr2⟩ := h4.get (List.getElem?_eq_getElem i2)
    obtain ⟨p, zs, rfl, hp, rfl, hits⟩ := hy
    obtain ⟨x', y', hx', hy', rfl⟩ := hits vs ws h1 h3
    rw [hv] at hx'; cases hx'
    rw [hw] at hy'; cases hy'
    have xx : Ext φ H φ (upd H p (.tup [v, w])) := .new hp (rm.fresh hp)
    exact ⟨_, zip_get ts us i _ _ (List.getElem?_eq_getElem i1) (List.getElem?_eq_getElem i2), xx, rm.new hp, .tup (.inl ⟨fre_new rm hp, upd_same⟩) (.cons (hr.to xx) (.cons (hr2.to xx) .nil))⟩
def iM (G : Sig) (K : KC) (m : MI) : TI := fun σ H R => ∃ φ ψ env M p M', RE K φ ψ H env σ ∧ RM K φ ψ H M ∧ evI G m env M = some (p, M') ∧ ∀ φ' H' J, Ext φ H φ' H' → RM K φ' ψ H' M' → WalkM K φ' ψ H' p.1 p.2 J → R J H'
/-- a list or a tuple walked -/
def iSq (K : PySem.W.Frag) (tl : TE) : TI := fun σ H R => tl σ H fun v H1 => ∃ b a xs, v = .ref a ∧ SqB K b H1 a xs ∧ R (Jsq K b a) H1
theorem pi_sq {X : Cx} {tg l : Expr} {tl : TE} (hl : PE X l tl) : PI X tg l (iSq X.K tl) := by
  refine ⟨fun pins s σ H R I h => ?_⟩
  refine thn (hl.run pins s σ H _ I h) fun v s1 ⟨x, H1, I1, r1, q1⟩ => ?_
  obtain ⟨b, a, xs, e, hq, q⟩ := q1
  subst e
  cases r1
  cases b with
  | false =>
    obtain ⟨its, rv, p, hz⟩ := I1.list hq
    refine wpAny_pyIter_list p.isList ?_
    refine ⟨s1.heap.objs.size, [s1.heap.objs.size], _, _, H1, rfl, I1.kept (t' := s1.toks) fun b o e => Heap.get?_push_of_some _ e, turn_list a _, ⟨_, Heap.get?_push_size _ rfl, rfl, rfl⟩, fun b hb => ?_, q⟩
    have e : b = s1.heap.objs.size := by simpa using hb
    subst e
    exact I1.fpOk (Nat.le_refl _) (I1.hok.fresh (Nat.le_refl _))
  | true =>
    obtain ⟨its, rv, p, hz⟩ := I1.tuple hq
    refine wpAny_pyIter_tuple (show s1.heap.IsTuple a its.toArray from p) ?_
    refine ⟨s1.heap.objs.size, [s1.heap.objs.size], _, _, H1, rfl, I1.kept (t' := s1.toks) fun b o e => Heap.get?_push_of_some _ e, turn_tuple a _, ⟨_, Heap.get?_push_size _ rfl, rfl, rfl⟩, fun b hb => ?_, q⟩
    have e : b = s1.heap.objs.size := by simpa using hb
    subst e
    exact I1.fpOk (Nat.le_refl _) (I1.hok.fresh (Nat.le_refl _))

/-! ### the table of defs -/
/-- what a def promises: what its function reckons -/
def spM (K : KC) (n : Nat) (F : Fn) : Sp := fun vs H Q _ => vs.length = n ∧ ∃ φ ψ M ts r M', RM K φ ψ H M ∧ RTs K φ ψ H ts vs ∧ F ts M = some (r, M') ∧ Ok1 K φ ψ H r M' Q
def bltNames : List Str := ["len", "int", "abs", "list", "tuple", "sum", "all", "any", "max", "min", "sorted", "isinstance", "range", "enumerate", "zip", "set", "dict", "str", "bool"]
structure Ent (K : KC) (k : Nat) (P : Program) (w : World) (KF : PySem.W.Frag) (mg : Str → Option Value) (base : Heap) (f : Addr) (F : Fn) : Prop where
  ex : ∃ (fd : FuncData) (ps : List Str), Binds KF fd ps [] ∧ (∀ ts M r, F ts M = some r → ts.length = ps.length) ∧ FnOk P w KF mg base CX0 k f fd ps (spM K ps.length F)
structure Tab (G : Sig) (K : KC) (k : Nat) (P : Program) (w : World) (KF : PySem.W.Frag) (mg : Str → Option Value) (base : Heap) : Prop where
  hK : K.K = KF
  kt : G.kt = K.kt
  fns : ∀ f F, G.fns.lookup f = some F → ∃ fa, mg f = some (.ref fa) ∧ PySem.W.keepIn KF (.ref fa) = true ∧ Ent K k P w KF mg base fa F
  glbs : ∀ x t, G.glbs.lookup x = some t → ∃ u v, mg x = some u ∧ RelV v u ∧ ∀ φ ψ H, RT K φ ψ H t v
  blt : ∀ x ∈ bltNames, mg x = none
  cls : ∀ c C, G.cls.lookup c = some C → Cls KF (K.ca c) ∧ mg c = some (.ref (K.ca c)) ∧ (∀ f ∈ C.attrs, NoAttr KF (K.ca c) f) ∧
    (∀ m F, C.meths.lookup m = some F → ∃ g, Meth KF (K.ca c) m g ∧ Ent K k P w KF mg base g F) ∧ ∀ F, C.init = some F → ∃ g, Mk KF (K.ca c) g ∧ Ent K k P w KF mg base g F
theorem Ent.mono {K : KC} {j k : Nat} {P : Program} {w : World} {KF : PySem.W.Frag} {mg : Str → Option Value} {base : Heap} {f : Addr} {F : Fn} (e : Ent K j P w KF mg base f F) (h : j ≤ k) : Ent K k P w KF mg base f F := by
  obtain ⟨fd, ps, b, a, F⟩ := e.ex
  exact ⟨fd, ps, b, a, F.mono h⟩
theorem Tab.mono {G : Sig} {K : KC} {j k : Nat} {P : Program} {w : World} {KF : PySem.W.Frag} {mg : Str → Option Value} {base : Heap} (t : Tab G K j P w KF mg base) (h : j ≤ k) : Tab G K k P w KF mg base := by
  refine ⟨t.hK, t.kt, fun f F e => ?_, t.glbs, t.blt, fun c C e => ?_⟩
  · obtain ⟨fa, h1, h2, h3⟩ := t.fns f F e
    exact ⟨fa, h1, h2, h3.mono h⟩
  · obtain ⟨h1, h2, h3, h4, h5⟩ := t.cls c C e
    refine ⟨h1, h2, h3, fun m F e2 => ?_, fun F e2 => ?_⟩
    · obtain ⟨g, q1, q2⟩ := h4 m F e2; exact ⟨g, q1, q2.mono h⟩
    · obtain ⟨g, q1, q2⟩ := h5 F e2; exact ⟨g, q1, q2.mono h⟩
structure GC (G : Sig) (K : KC) (k : Nat) (N : List Str) (sc : Scope) (ow : List Str) (X : Cx) : Prop where
  hc : X.calm = true
  hN : X.N = N
  nd : N.Nodup
  sc_ : X.env.scope = sc
  kd : sc.kind = .function
  nev : X.xe = fun _ _ => False
  st : ∀ x ∈ ow, Loc sc x ∧ (X.fn x = true ∨ sc.names.lookup x = some .local)
  room : Room (k + 1) X.A
  tab : Tab G K k X.prog X.w X.K X.mg X.base
def ownC (scope : Scope) (own : List (Str × Nat)) : Bool := own.all fun p => decide (scope.names.lookup p.1 = some .local) || decide (scope.names.lookup p.1 = some .cell)
section
variable {G : Sig} {K : KC} {k : Nat} {N : List Str} {sc : Scope} {ow : List Str} {X : Cx}
theorem GC.hK (g : GC G K k N sc ow X) : K.K = X.K := g.tab.hK
theorem GC.hu (g : GC G K k N sc ow X) : X.A.units + 65 < cLine := by have := g.room.un; omega
theorem GC.pas (g : GC G K k N sc ow X) : PassesOwn (model X.prog X.w) X.A X.env X.xe := by rw [g.nev]; exact .never
theorem GC.blk (g : GC G K k N sc ow X) {s : Shared} {H : Hp} {scope : Scope} {C : Addr} {cl : List (Str × Addr)} {fp : List Addr} {own : List (Str × Nat)} (hk : scope.kind = .function) (ho : ownC scope own = true) :
    GC G K k N (relS scope sc) (own.map (·.1)) (X.blk s H scope (compEnvC scope cl C X.env) fp) := by
  refine ⟨g.hc, g.hN, g.nd, ?_, hk, rfl, fun x hx => ?_, g.room, g.tab⟩
  · show relS scope X.env.scope = _
    rw [g.sc_]
  · obtain ⟨p, hp, rfl⟩ := List.mem_map.mp hx
    have q := List.all_eq_true.mp ho p hp
    simp only [Bool.or_eq_true, decide_eq_true_eq] at q
    rcases q with q | q
    · have := lookup_relS_keep (sc := sc) (by decide) q
      exact ⟨.inl this, .inr this⟩
    · have := lookup_relS_keep (sc := sc) (by decide) q
      refine ⟨.inr this, .inl ?_⟩
      show (scope.names.lookup p.1 == some .cell) = true
      rw [q]; rfl
end
end Mi
end L2

/-! Mini: does a term stand for an expression of the text. -/
namespace L2
namespace Mi
open PySem PySem.Spec PyProof.Rows

def nod (x : Str) : Bool := !(x == ("__debug__" : Str)) && !(x == ("__classdict__" : Str))
def visC (sc : Scope) (x : Str) : Bool := match sc.names.lookup x with
  | some .local => true
  | some .cell => true
  | some .free => true
  | _ => false
def glC (sc : Scope) (x : Str) : Bool := nod x && (match sc.names.lookup x with
  | some .globalImplicit => true
  | _ => false)
def biNm : BI → Str
  | .len => "len" | .int => "int" | .abs => "abs" | .list _ => "list" | .tuple => "tuple" | .sum => "sum" | .all => "all" | .any => "any" | .max => "max" | .min => "min" | .sorted => "sorted"
def bmNm : BM → Str
  | .append => "append" | .extend => "extend" | .pop0 => "pop" | .pop => "pop" | .reverse => "reverse" | .remove => "remove"
def bmAr : BM → Bool
  | .pop0 => true | .reverse => true | _ => false
/-- the test is plain: its value's truth -/
def plainT : Expr → Bool
  | .UnaryOp .Not _ _ => false
  | .BoolOp _ _ _ => false
  | .IfExp _ _ _ _ => false
  | .Compare _ _ _ _ => false
  | _ => true
mutual
def okT' (N ow : List Str) : MT → Expr → Bool
  | .nm i x, .Name y _ => decide (x = y) && decide (N[i]? = some y) && decide (y ∈ ow)
  | .tp ts, .Tuple es _ _ => okTs' N ow ts es
  | _, _ => false
def okTs' (N ow : List Str) : MTs → List Expr → Bool
  | .nil, [] => true
  | .cons t ts, e :: es => notStar e && okT' N ow t e && okTs' N ow ts es
  | _, _ => false
end
def isNoP : ME → Bool
  | .nopart => true
  | _ => false
def isBo : Expr → Bool
  | .BoolOp _ _ _ => true
  | _ => false
mutual
def okE (N : List Str) (sc : Scope) : ME → Expr → Bool
  | .var i x, .Name y _ => decide (x = y) && decide (N[i]? = some y) && visC sc y && nod y
  | .glb x, .Name y _ => decide (x = y) && glC sc y
  | .non, .Constant .none _ _ => true
  | .bl b, .Constant (.bool c) _ _ => b == c
  | .int i, .Constant (.int j) _ _ => decide (i = j)
  | .str x, .Constant (.str y) _ _ => decide (x = y)
  | .bin op _ a b, .BinOp x o y _ => decide (op = o) && okE N sc a x && okE N sc b y
  | .neg a, .UnaryOp .USub x _ => okE N sc a x
  | .not a, .UnaryOp .Not x _ => okE N sc a x
  | .one a, .BoolOp _ [x] _ => okE N sc a x
  | .and a b, .BoolOp .And (x :: y :: r) p => okE N sc a x && okE N sc b (.BoolOp .And (y :: r) p)
  | .or a b, .BoolOp .Or (x :: y :: r) p => okE N sc a x && okE N sc b (.BoolOp .Or (y :: r) p)
  | .cmp op a b, .Compare x [o] [y] _ => decide (op = o) && notSet y && okE N sc a x && okE N sc b y
  | .ife c a b, .IfExp x y z _ => okE N sc c x && okE N sc a y && okE N sc b z
  | .call f es, .Call (.Name x _) args [] _ => decide (f = x) && glC sc x && args.all notStar && okEs N sc es args
  | .bi b es, .Call (.Name x _) (e :: args) [] _ => decide (x = biNm b) && glC sc x && (e :: args).all notStar && okEs N sc es (e :: args)
  | .isi a ty, .Call (.Name x _) [e, .Name y _] [] _ => decide (x = "isinstance") && glC sc x && notStar e && decide (y = Str.ofString ty) && glC sc y && okE N sc a e &&
      (ty == "int" || ty == "bool" || ty == "list" || ty == "tuple" || ty == "str")
  | .mcall _ o m es, .Call (.Attribute x n ap) args [] p => decide (m = n) && notSup x && args.all notStar && decide (args.length < 29) && (ap.endLine == p.line) && okE N sc o x && okEs N sc es args
  | .bm b o es, .Call (.Attribute x n ap) args [] p => decide (n = bmNm b) && notSup x && args.all notStar && decide (args.length < 29) && (ap.endLine == p.line) && (args.isEmpty == bmAr b) && okE N sc o x && okEs N sc es args
  | .mk c es, .Call (.Name x _) args [] _ => decide (c = x) && glC sc x && args.all notStar && okEs N sc es args
  | .ix a b, .Subscript x y _ => notSl y && okE N sc a x && okE N sc b y
  | .slc _ a lo hi, .Subscript x (.Slice l h none _) _ => okE N sc a x && (match l with
    | none => isNoP lo
    | some e => !isNoP lo && okE N sc lo e) && (match h with
    | none => isNoP hi
    | some e => !isNoP hi && okE N sc hi e)
  | .rev _ a, .Subscript x (.Slice none none (some (.UnaryOp .USub (.Constant (.int 1) _ _) _)) _) _ => okE N sc a x
  | .att _ o f, .Attribute x g _ => decide (f = g) && notSup x && okE N sc o x
  | .tup es, .Tuple xs _ _ => xs.all notStar && okEs N sc es xs
  | .lst _ es, .List xs _ => xs.all notStar && okEs N sc es xs
  | .lc _ own tg it ifs elt, .ListComp x [⟨t, s, fs, 0⟩] scope _ => blkC N sc scope own && ownC scope own && notSet s && okI N sc it t s && okT' N (own.map (·.1)) tg t && (slT' tg).all (fun j => decide (j ∈ own.map (·.2))) &&
      okIf N (relS scope sc) ifs fs && okE N (relS scope sc) elt x
  | .lc2 _ own tg it ifs vs1 tg1 it1 ifs1 elt, .ListComp x [⟨t, s, fs, 0⟩, ⟨t1, s1, fs1, 0⟩] scope _ => blkC N sc scope own && ownC scope own && notSet s && notSet s1 && okI N sc it t s && okT' N (own.map (·.1)) tg t &&
      (slT' tg).all (fun j => decide (j ∈ own.map (·.2))) && okIf N (relS scope sc) ifs fs && vs1.all (fun j => decide (j ∈ own.map (·.2))) && okI N (relS scope sc) it1 t1 s1 && okT' N (own.map (·.1)) tg1 t1 &&
      (slT' tg1).all (fun j => decide (j ∈ vs1)) && okIf N (relS scope sc) ifs1 fs1 && okE N (relS scope sc) elt x
  | .dnew _, .Dict [] [] _ => true
  | .dc own tg it k v, .DictComp x y [⟨t, s, [], 0⟩] scope _ => blkC N sc scope own && ownC scope own && notSet s && okI N sc it t s && okT' N (own.map (·.1)) tg t && (slT' tg).all (fun j => decide (j ∈ own.map (·.2))) &&
      okE N (relS scope sc) k x && okE N (relS scope sc) v y
  | _, _ => false
def okEs (N : List Str) (sc : Scope) : MEs → List Expr → Bool
  | .nil, [] => true
  | .cons m ms, e :: es => notStar e && okE N sc m e && okEs N sc ms es
  | _, _ => false
def okIf (N : List Str) (sc : Scope) : MEs → List Expr → Bool
  | .nil, [] => true
  | .cons m .nil, [e] => okE N sc m e
  | _, _ => false
def okI (N : List Str) (sc : Scope) : MI → Expr → Expr → Bool
  | .over a, _, e => okE N sc a e
  | .rng1 a, _, .Call (.Name x _) [e] [] _ => decide (x = "range") && glC sc x && notStar e && okE N sc a e
  | .rng2 a b, _, .Call (.Name x _) [e, f] [] _ => decide (x = "range") && glC sc x && notStar e && notStar f && okE N sc a e && okE N sc b f
  | .enum a, .Tuple _ _ _, .Call (.Name x _) [e] [] _ => decide (x = "enumerate") && glC sc x && notStar e && okE N sc a e
  | .zip2 a b, .Tuple _ _ _, .Call (.Name x _) [e, f] [] _ => decide (x = "zip") && glC sc x && notStar e && notStar f && okE N sc a e && okE N sc b f
  | _, _, _ => false
end
def okP (N : List Str) (sc : Scope) (lo : ME) (l : Option Expr) : Bool := match l with
    | none => isNoP lo
    | some e => !isNoP lo && okE N sc lo e
end Mi
end L2

/-! Mini: terms are sound, one by one. -/
namespace L2
namespace Mi
open PySem PySem.Spec PyProof.Rows

theorem bnd {α β : Type} {x : Option α} {f : α → Option β} {b : β} (h : x.bind f = some b) : ∃ a, x = some a ∧ f a = some b := Option.bind_eq_some_iff.mp h
theorem mpd {α β : Type} {x : Option α} {f : α → β} {b : β} (h : x.map f = some b) : ∃ a, x = some a ∧ f a = b := Option.map_eq_some_iff.mp h
section
variable {X : Cx}
theorem PE.of {e : Expr} {t : TE} (h : ∀ σ H Q, t σ H Q → ∃ t', PE X e t' ∧ t' σ H Q) : PE X e t := ⟨fun pins s σ H Q I q => let ⟨_, p, q'⟩ := h σ H Q q; p.run pins s σ H Q I q'⟩
theorem PS.of {e : Stmt} {t : TS} (h : ∀ D σ H, t D σ H → ∃ t', PS X e t' ∧ t' D σ H) : PS X e t := ⟨fun pins s σ H Q I q => let ⟨_, p, q'⟩ := h Q σ H q; p.run pins s σ H Q I q'⟩
end
variable {G : Sig} {K : KC} {k : Nat}
def SE (G : Sig) (K : KC) (k : Nat) (m : ME) : Prop := ∀ (N : List Str) (sc : Scope) (ow : List Str) (X : Cx) (e : Expr), GC G K k N sc ow X → okE N sc m e = true → PE X e (tE G K m) ∧ PT X e (tT G K m) ∧ (isBo e = true → PW X e (tT G K m))
def SA (G : Sig) (K : KC) (k : Nat) (ms : MEs) : Prop := ∀ (N : List Str) (sc : Scope) (ow : List Str) (X : Cx) (es : List Expr), GC G K k N sc ow X → okEs N sc ms es = true → PA X es (tEs G K ms)
def SIf (G : Sig) (K : KC) (k : Nat) (ms : MEs) : Prop := ∀ (N : List Str) (sc : Scope) (ow : List Str) (X : Cx) (es : List Expr), GC G K k N sc ow X → okIf N sc ms es = true → PTs X es (tIf G K ms)
def SP_ (G : Sig) (K : KC) (k : Nat) (m : ME) : Prop := ∀ (N : List Str) (sc : Scope) (ow : List Str) (X : Cx) (e : Option Expr), GC G K k N sc ow X → okP N sc m e = true → PO X e (tP G K m)
def SI (G : Sig) (K : KC) (k : Nat) (m : MI) : Prop := ∀ (N : List Str) (sc : Scope) (ow : List Str) (X : Cx) (tg e : Expr), GC G K k N sc ow X → okI N sc m tg e = true → PI X tg e (iM G K m)
def SG (G : Sig) (K : KC) (k : Nat) (m : MT) : Prop := ∀ (N : List Str) (sc : Scope) (ow : List Str) (X : Cx) (e : Expr), GC G K k N sc ow X → okT' N ow m e = true → PG X e (gM K m)
def SGs (G : Sig) (K : KC) (k : Nat) (m : MTs) : Prop := ∀ (N : List Str) (sc : Scope) (ow : List Str) (X : Cx) (e : List Expr), GC G K k N sc ow X → okTs' N ow m e = true → PGs X e (gMs K m)

theorem plain_tr {e : Expr} (h : plainT e = true) (env : Env) : ∀ whole, isTrue e env whole = (do let v ← whole; standAt e.pos; holding [v] (truthy v)) := by
  intro wh
  cases e with
  | UnaryOp op x p => cases op <;> first | rfl | (simp [plainT] at h)
  | BoolOp _ _ _ => simp [plainT] at h
  | IfExp _ _ _ _ => simp [plainT] at h
  | Compare _ _ _ _ => simp [plainT] at h
  | _ => rfl
theorem pt_of {X : Cx} {e : Expr} {m : ME} (hK : K.K = X.K) (h : PE X e (tE G K m)) (hp : plainT e = true) : PT X e (tT G K m) := by
  refine PT.imp (pt_truth h (plain_tr hp _)) fun σ H Q ⟨φ, ψ, env, M, b, M', re, rm, ev, ok⟩ => ?_
  obtain ⟨p, e1, e2⟩ := bnd ev
  obtain ⟨c, e3, e4⟩ := mpd e2
  cases e4
  exact ⟨φ, ψ, env, M, p.1, p.2, re, rm, e1, fun φ' H' v x rm' rt => ⟨_, truV_of hK rm' rt e3, ok φ' H' x rm'⟩⟩
theorem se_of {X : Cx} {e : Expr} {m : ME} (hK : K.K = X.K) (h : PE X e (tE G K m)) (hp : plainT e = true) : PE X e (tE G K m) ∧ PT X e (tT G K m) ∧ (isBo e = true → PW X e (tT G K m)) :=
  ⟨h, pt_of hK h hp, fun hb => by cases e <;> first | exact absurd hp Bool.false_ne_true | exact absurd hb Bool.false_ne_true⟩
section
variable {φ ψ : List Addr} {H : Hp} {M : Mem} {Q : VK}
theorem ok_val {t : T} {v : V} (rm : RM K φ ψ H M) (ok : Ok1 K φ ψ H t M Q) (r : RT K φ ψ H t v) : Q v H := ok.here rm r
end
/-! ### leaves -/
theorem nod_of {x : Str} (h : nod x = true) : (x == ("__debug__" : Str)) = false ∧ (x == ("__classdict__" : Str)) = false := by
  unfold nod at h
  simp only [Bool.and_eq_true, Bool.not_eq_true'] at h
  exact h
theorem vis_of {sc : Scope} {x : Str} (h : visC sc x = true) : Vis sc x := by
  unfold visC at h
  split at h <;> first | exact .inl (by assumption) | exact .inr (.inl (by assumption)) | exact .inr (.inr (by assumption)) | cases h
theorem gl_of {N : List Str} {sc : Scope} {ow : List Str} {X : Cx} {x : Str} (g : GC G K k N sc ow X) (h : glC sc x = true) : Gl X x ∧ (x == ("__debug__" : Str)) = false := by
  unfold glC at h
  rw [Bool.and_eq_true] at h
  refine ⟨?_, (nod_of h.1).1⟩
  have h2 := h.2
  split at h2
  · show X.env.scope.names.lookup x = _
    rw [g.sc_]; assumption
  · cases h2
theorem s_var {i : Nat} {x : Str} : SE G K k (.var i x) := by
  intro N sc ow X e g h
  unfold okE at h
  split at h <;> (try cases h) <;> rename_i q <;> cases q
  simp only [Bool.and_eq_true, decide_eq_true_eq] at h
  obtain ⟨⟨⟨rfl, h1⟩, h2⟩, h3⟩ := h
  refine se_of g.hK (PE.imp (pe_var (by rw [g.hN]; exact h1) (by rw [g.sc_]; exact vis_of h2) (nod_of h3).1 (nod_of h3).2) fun σ H Q ⟨φ, ψ, env, M, t, M', re, rm, ev, ok⟩ => ?_) rfl
  rw [evE] at ev
  split at ev
  · rename_i u hu
    cases ev
    obtain ⟨v, h4, h5⟩ := re.at_ _ _ hu
    exact ⟨v, h4, ok.here rm h5⟩
  · cases ev
theorem s_glb {x : Str} : SE G K k (.glb x) := by
  intro N sc ow X e g h
  unfold okE at h
  split at h <;> (try cases h) <;> rename_i q <;> cases q
  simp only [Bool.and_eq_true, decide_eq_true_eq] at h
  obtain ⟨rfl, h1⟩ := h
  obtain ⟨h1, h2⟩ := gl_of g h1
  refine se_of g.hK (PE.of fun σ H Q ⟨φ, ψ, env, M, t, M', re, rm, ev, ok⟩ => ?_) rfl
  rw [evE] at ev
  obtain ⟨t, e1, e2⟩ := mpd ev
  cases e2
  obtain ⟨u, v, hm, hr, hT⟩ := g.tab.glbs _ _ e1
  exact ⟨_, pe_glob h1 hm hr h2, ok.here rm (hT φ ψ H)⟩
theorem s_non : SE G K k .non := by
  intro N sc ow X e g h
  unfold okE at h
  split at h <;> (try cases h) <;> rename_i q <;> cases q
  refine se_of g.hK (PE.imp pe_non fun σ H Q ⟨φ, ψ, env, M, t, M', re, rm, ev, ok⟩ => ?_) rfl
  rw [evE] at ev
  cases ev
  exact ok.here rm .non
theorem s_bl {b : Bool} : SE G K k (.bl b) := by
  intro N sc ow X e g h
  unfold okE at h
  split at h <;> (try cases h) <;> rename_i q <;> cases q
  have := eq_of_beq h
  subst this
  refine se_of g.hK (PE.imp pe_bl fun σ H Q ⟨φ, ψ, env, M, t, M', re, rm, ev, ok⟩ => ?_) rfl
  rw [evE] at ev
  cases ev
  exact ok.here rm (.bl _)
theorem s_int {i : Int} : SE G K k (.int i) := by
  intro N sc ow X e g h
  unfold okE at h
  split at h <;> (try cases h) <;> rename_i q <;> cases q
  have := of_decide_eq_true h
  subst this
  refine se_of g.hK (PE.imp pe_int fun σ H Q ⟨φ, ψ, env, M, t, M', re, rm, ev, ok⟩ => ?_) rfl
  rw [evE] at ev
  cases ev
  exact ok.here rm (.int _)
theorem s_str {i : Str} : SE G K k (.str i) := by
  intro N sc ow X e g h
  unfold okE at h
  split at h <;> (try cases h) <;> rename_i q <;> cases q
  have := of_decide_eq_true h
  subst this
  refine se_of g.hK (PE.imp pe_str fun σ H Q ⟨φ, ψ, env, M, t, M', re, rm, ev, ok⟩ => ?_) rfl
  rw [evE] at ev
  cases ev
  exact ok.here rm (.str _)
/-! ### operators -/
theorem s_bin {op : Operator} {tr : Bool} {a b : ME} (ha : SE G K k a) (hb : SE G K k b) : SE G K k (.bin op tr a b) := by
  intro N sc ow X e g h
  unfold okE at h
  split at h <;> (try cases h) <;> rename_i q <;> cases q
  simp only [Bool.and_eq_true, decide_eq_true_eq] at h
  obtain ⟨⟨rfl, h1⟩, h2⟩ := h
  refine se_of g.hK (PE.imp (pe_op (op_bin g.hK op tr) (ha N sc ow X _ g h1).1 (hb N sc ow X _ g h2).1) fun σ H Q ⟨φ, ψ, env, M, t, M', re, rm, ev, ok⟩ => ?_) rfl
  rw [evE] at ev
  obtain ⟨p, e1, ev⟩ := bnd ev
  obtain ⟨q, e2, ev⟩ := bnd ev
  refine ⟨φ, ψ, env, M, p.1, p.2, re, rm, e1, fun φ1 H1 v x1 rm1 r1 => ⟨φ1, ψ, env, p.2, q.1, q.2, re.ext x1, rm1, e2, fun φ2 H2 w x2 rm2 r2 => ?_⟩⟩
  exact ⟨φ2, ψ, q.2, p.1, q.1, t, M', rm2, r1.to x2, r2, ev, ok.ext (x1.trans x2)⟩
theorem s_neg {a : ME} (ha : SE G K k a) : SE G K k (.neg a) := by
  intro N sc ow X e g h
  unfold okE at h
  split at h <;> (try cases h) <;> rename_i q <;> cases q
  refine se_of g.hK (PE.imp (pe_un un_neg (ha N sc ow X _ g h).1) fun σ H Q ⟨φ, ψ, env, M, t, M', re, rm, ev, ok⟩ => ?_) rfl
  rw [evE] at ev
  obtain ⟨p, e1, ev⟩ := bnd ev
  split at ev
  · rename_i i hi
    cases ev
    refine ⟨φ, ψ, env, M, p.1, p.2, re, rm, e1, fun φ1 H1 v x1 rm1 r1 => ?_⟩
    rw [hi] at r1
    cases r1
    exact ⟨i, rfl, ok φ1 H1 _ x1 rm1 (.int _)⟩
  · cases ev
theorem pt_b {X : Cx} {e : Expr} {m : ME} {t : TE} (hm : ∀ env M b M', tst (evE G m env M) = some (b, M') → evE G m env M = some (.bl b, M')) (h : PT X e (tTest t)) (hi : ∀ σ H Q, tE G K m σ H Q → t σ H Q) : PT X e (tT G K m) := by
  refine PT.imp h fun σ H Q ⟨φ, ψ, env, M, b, M', re, rm, ev, ok⟩ => ?_
  refine hi σ H _ ⟨φ, ψ, env, M, .bl b, M', re, rm, hm _ _ _ _ ev, fun φ' H' v x rm' r => ?_⟩
  cases r
  exact ⟨b, rfl, ok φ' H' x rm'⟩
theorem s_not {a : ME} (ha : SE G K k a) : SE G K k (.not a) := by
  intro N sc ow X e g h
  unfold okE at h
  split at h <;> (try cases h) <;> rename_i q <;> cases q
  obtain ⟨p1, p2, p3⟩ := ha N sc ow X _ g h
  refine ⟨PE.imp (pe_notT p1) fun σ H Q ⟨φ, ψ, env, M, t, M', re, rm, ev, ok⟩ => ?_, PT.imp (pt_not p2) fun σ H Q ⟨φ, ψ, env, M, t, M', re, rm, ev, ok⟩ => ?_, fun h => nomatch h⟩
  · rw [evE] at ev
    obtain ⟨p, e1, ev⟩ := mpd ev
    cases ev
    obtain ⟨q, e5, e2⟩ := bnd e1
    obtain ⟨c, e3, e4⟩ := mpd e2
    cases e4
    exact ⟨φ, ψ, env, M, q.1, q.2, re, rm, e5, fun φ1 H1 v x1 rm1 r1 => ⟨c, truV_of g.hK rm1 r1 e3, ok φ1 H1 _ x1 rm1 (.bl _)⟩⟩
  · rw [evE] at ev
    obtain ⟨p, e1, ev⟩ := bnd ev
    obtain ⟨q, e2, e3⟩ := mpd e1
    cases e3
    obtain ⟨c, e4, e5⟩ := mpd ev
    cases e5
    cases e4
    exact ⟨φ, ψ, env, M, q.1, q.2, re, rm, e2, fun φ1 H1 x1 rm1 => ok φ1 H1 x1 rm1⟩
theorem s_one {a : ME} (ha : SE G K k a) : SE G K k (.one a) := by
  intro N sc ow X e g h
  unfold okE at h
  split at h <;> (try cases h) <;> rename_i q <;> cases q
  obtain ⟨p1, p2, p3⟩ := ha N sc ow X _ g h
  have e1 : ∀ env M, evE G (.one a) env M = evE G a env M := fun env M => by rw [evE]
  have i2 : ∀ σ H Q, tT G K (.one a) σ H Q → tT G K a σ H Q := fun σ H Q ⟨φ, ψ, env, M, t, M', re, rm, ev, ok⟩ => ⟨φ, ψ, env, M, t, M', re, rm, by rw [← e1]; exact ev, ok⟩
  have pw : ∀ op x pos, PT X x (tT G K a) → PW X (.BoolOp op [x] pos) (tT G K (.one a)) := fun op x pos p => by
    cases op with
    | And => exact ⟨fun wh pins s σ H Q I q => (pw_and1 p).run wh pins s σ H Q I (i2 _ _ _ q)⟩
    | Or => exact ⟨fun wh pins s σ H Q I q => (pw_or1 p).run wh pins s σ H Q I (i2 _ _ _ q)⟩
  exact ⟨PE.imp (pe_one p1) fun σ H Q ⟨φ, ψ, env, M, t, M', re, rm, ev, ok⟩ => ⟨φ, ψ, env, M, t, M', re, rm, by rw [← e1]; exact ev, ok⟩, (pw _ _ _ p2).pt, fun _ => pw _ _ _ p2⟩
theorem s_and {a b : ME} (ha : SE G K k a) (hb : SE G K k b) : SE G K k (.and a b) := by
  intro N sc ow X e g h
  unfold okE at h
  split at h <;> (try cases h) <;> rename_i q <;> cases q
  rw [Bool.and_eq_true] at h
  obtain ⟨p1, p2, p3⟩ := ha N sc ow X _ g h.1
  obtain ⟨q1, q2, q3⟩ := hb N sc ow X _ g h.2
  have pw : PW X _ (tT G K (.and a b)) := ⟨fun wh pins s σ H Q I q => (pw_and (pos := _) p2 (q3 rfl)).run wh pins s σ H Q I (by
    obtain ⟨φ, ψ, env, M, t, M', re, rm, ev, ok⟩ := q
    rw [evE] at ev
    obtain ⟨p, e1, ev⟩ := bnd ev
    obtain ⟨r, e2, e3⟩ := mpd ev
    cases e3
    obtain ⟨u, e4, e5⟩ := bnd e1
    obtain ⟨c, e6, e7⟩ := bnd e5
    refine ⟨φ, ψ, env, M, c, u.2, re, rm, by rw [e4]; show (truth u.2 u.1).map _ = _; rw [e6]; rfl, fun φ1 H1 x1 rm1 => ?_⟩
    cases c with
    | true =>
      rw [if_pos rfl] at e7
      show tT G K b σ H1 Q
      exact ⟨φ1, ψ, env, u.2, t, p.2, re.ext x1, rm1, by rw [e7]; show (truth p.2 p.1).map _ = _; rw [e2]; rfl, fun φ2 H2 x2 rm2 => ok φ2 H2 (x1.trans x2) rm2⟩
    | false =>
      rw [if_neg Bool.false_ne_true] at e7
      cases e7
      rw [e6] at e2
      cases e2
      exact ok φ1 H1 x1 rm1)⟩
  refine ⟨PE.imp (pe_andT p1 q1) fun σ H Q ⟨φ, ψ, env, M, t, M', re, rm, ev, ok⟩ => ?_, pw.pt, fun _ => pw⟩
  rw [evE] at ev
  obtain ⟨p, e1, ev⟩ := bnd ev
  obtain ⟨c, e2, ev⟩ := bnd ev
  refine ⟨φ, ψ, env, M, p.1, p.2, re, rm, e1, fun φ1 H1 v x1 rm1 r1 => ⟨c, truV_of g.hK rm1 r1 e2, ?_⟩⟩
  cases c with
  | true =>
    rw [if_pos rfl] at ev ⊢
    exact ⟨φ1, ψ, env, p.2, t, M', re.ext x1, rm1, ev, ok.ext x1⟩
  | false =>
    rw [if_neg Bool.false_ne_true] at ev ⊢
    cases ev
    exact ok φ1 H1 v x1 rm1 r1
theorem s_or {a b : ME} (ha : SE G K k a) (hb : SE G K k b) : SE G K k (.or a b) := by
  intro N sc ow X e g h
  unfold okE at h
  split at h <;> (try cases h) <;> rename_i q <;> cases q
  rw [Bool.and_eq_true] at h
  obtain ⟨p1, p2, p3⟩ := ha N sc ow X _ g h.1
  obtain ⟨q1, q2, q3⟩ := hb N sc ow X _ g h.2
  have pw : PW X _ (tT G K (.or a b)) := ⟨fun wh pins s σ H Q I q => (pw_or (pos := _) p2 (q3 rfl)).run wh pins s σ H Q I (by
    obtain ⟨φ, ψ, env, M, t, M', re, rm, ev, ok⟩ := q
    rw [evE] at ev
    obtain ⟨p, e1, ev⟩ := bnd ev
    obtain ⟨r, e2, e3⟩ := mpd ev
    cases e3
    obtain ⟨u, e4, e5⟩ := bnd e1
    obtain ⟨c, e6, e7⟩ := bnd e5
    refine ⟨φ, ψ, env, M, c, u.2, re, rm, by rw [e4]; show (truth u.2 u.1).map _ = _; rw [e6]; rfl, fun φ1 H1 x1 rm1 => ?_⟩
    cases c with
    | false =>
      rw [if_neg Bool.false_ne_true] at e7
      show tT G K b σ H1 Q
      exact ⟨φ1, ψ, env, u.2, t, p.2, re.ext x1, rm1, by rw [e7]; show (truth p.2 p.1).map _ = _; rw [e2]; rfl, fun φ2 H2 x2 rm2 => ok φ2 H2 (x1.trans x2) rm2⟩
    | true =>
      rw [if_pos rfl] at e7
      cases e7
      rw [e6] at e2
      cases e2
      exact ok φ1 H1 x1 rm1)⟩
  refine ⟨PE.imp (pe_orT p1 q1) fun σ H Q ⟨φ, ψ, env, M, t, M', re, rm, ev, ok⟩ => ?_, pw.pt, fun _ => pw⟩
  rw [evE] at ev
  obtain ⟨p, e1, ev⟩ := bnd ev
  obtain ⟨c, e2, ev⟩ := bnd ev
  refine ⟨φ, ψ, env, M, p.1, p.2, re, rm, e1, fun φ1 H1 v x1 rm1 r1 => ⟨c, truV_of g.hK rm1 r1 e2, ?_⟩⟩
  cases c with
  | false =>
    rw [if_neg Bool.false_ne_true] at ev ⊢
    exact ⟨φ1, ψ, env, p.2, t, M', re.ext x1, rm1, ev, ok.ext x1⟩
  | true =>
    rw [if_pos rfl] at ev ⊢
    cases ev
    exact ok φ1 H1 v x1 rm1 r1
theorem s_cmp {op : CmpOp} {a b : ME} (ha : SE G K k a) (hb : SE G K k b) : SE G K k (.cmp op a b) := by
  intro N sc ow X e g h
  unfold okE at h
  split at h <;> (try cases h) <;> rename_i q <;> cases q
  simp only [Bool.and_eq_true, decide_eq_true_eq] at h
  obtain ⟨⟨⟨rfl, h0⟩, h1⟩, h2⟩ := h
  have i1 : ∀ σ H Q, tE G K (.cmp op a b) σ H Q → tOp (rCmp K op) (tE G K a) (tE G K b) σ H Q := fun σ H Q ⟨φ, ψ, env, M, t, M', re, rm, ev, ok⟩ => by
    rw [evE] at ev
    obtain ⟨p, e1, ev⟩ := bnd ev
    obtain ⟨q, e2, ev⟩ := bnd ev
    obtain ⟨c, e3, ev⟩ := mpd ev
    cases ev
    exact ⟨φ, ψ, env, M, p.1, p.2, re, rm, e1, fun φ1 H1 v x1 rm1 r1 => ⟨φ1, ψ, env, p.2, q.1, q.2, re.ext x1, rm1, e2, fun φ2 H2 w x2 rm2 r2 =>
      ⟨φ2, ψ, q.2, p.1, q.1, c, rm2, r1.to x2, r2, e3, ok φ2 H2 _ (x1.trans x2) rm2 (.bl _)⟩⟩⟩
  refine ⟨PE.imp (pe_cmpR (op_cmp g.hK g.hu op) (ha N sc ow X _ g h1).1 (hb N sc ow X _ g h2).1 (beh h0)) i1, pt_b (fun env M b' M' ev => ?_) (pt_cmpR (op_cmp g.hK g.hu op) (ha N sc ow X _ g h1).1 (hb N sc ow X _ g h2).1 (beh h0)) i1, fun h => nomatch h⟩
  obtain ⟨p, e1, ev⟩ := bnd ev
  obtain ⟨c, e2, ev⟩ := mpd ev
  cases ev
  rw [e1]
  rw [evE] at e1
  obtain ⟨p', _, e1⟩ := bnd e1
  obtain ⟨q', _, e1⟩ := bnd e1
  obtain ⟨c', _, e1⟩ := mpd e1
  subst e1
  cases e2
  rfl
theorem pt_ifE {X : Cx} {c a b : Expr} {pos : Pos} {tc ta tb : TT} (hc : PT X c tc) (ha : PT X a ta) (hb : PT X b tb) : PT X (.IfExp c a b pos) (fun σ H Q => tc σ H fun d H1 => if d = true then ta σ H1 Q else tb σ H1 Q) := by
  refine ⟨fun pins s σ H Q I h => ?_⟩
  show wpAny _ _ (isTrue c X.env (eval c X.env) >>= fun d => if d = true then isTrue a X.env (eval a X.env) else isTrue b X.env (eval b X.env)) _ _ _
  refine wpAny_bind (thn (hc.run pins s σ H _ I h) fun d s1 ⟨H1, I1, q1⟩ => ?_)
  cases d with
  | true => exact ha.run pins s1 σ H1 Q I1 q1
  | false => exact hb.run pins s1 σ H1 Q I1 q1
theorem s_ife {c a b : ME} (hc : SE G K k c) (ha : SE G K k a) (hb : SE G K k b) : SE G K k (.ife c a b) := by
  intro N sc ow X e g h
  unfold okE at h
  split at h <;> (try cases h) <;> rename_i q <;> cases q
  simp only [Bool.and_eq_true] at h
  obtain ⟨⟨h0, h1⟩, h2⟩ := h
  obtain ⟨_, c2, _⟩ := hc N sc ow X _ g h0
  obtain ⟨a1, a2, _⟩ := ha N sc ow X _ g h1
  obtain ⟨b1, b2, _⟩ := hb N sc ow X _ g h2
  refine ⟨PE.imp (pe_ifExp c2 a1 b1) fun σ H Q ⟨φ, ψ, env, M, t, M', re, rm, ev, ok⟩ => ?_, PT.imp (pt_ifE c2 a2 b2) fun σ H Q ⟨φ, ψ, env, M, t, M', re, rm, ev, ok⟩ => ?_, fun h => nomatch h⟩
  · rw [evE] at ev
    obtain ⟨p, e1, ev⟩ := bnd ev
    refine ⟨φ, ψ, env, M, p.1, p.2, re, rm, e1, fun φ1 H1 x1 rm1 => ?_⟩
    split at ev
    · rename_i hp
      rw [if_pos hp]
      exact ⟨φ1, ψ, env, p.2, t, M', re.ext x1, rm1, ev, ok.ext x1⟩
    · rename_i hp
      rw [if_neg hp]
      exact ⟨φ1, ψ, env, p.2, t, M', re.ext x1, rm1, ev, ok.ext x1⟩
  · obtain ⟨r, ev, e9⟩ := bnd ev
    rw [evE] at ev
    obtain ⟨p, e1, ev⟩ := bnd ev
    refine ⟨φ, ψ, env, M, p.1, p.2, re, rm, e1, fun φ1 H1 x1 rm1 => ?_⟩
    split at ev
    · rename_i hp
      rw [if_pos hp]
      exact ⟨φ1, ψ, env, p.2, t, M', re.ext x1, rm1, by rw [ev]; exact e9, fun φ2 H2 x2 => ok φ2 H2 (x1.trans x2)⟩
    · rename_i hp
      rw [if_neg hp]
      exact ⟨φ1, ψ, env, p.2, t, M', re.ext x1, rm1, by rw [ev]; exact e9, fun φ2 H2 x2 => ok φ2 H2 (x1.trans x2)⟩
/-! ### lists of terms -/
theorem s_nil : SA G K k .nil := by
  intro N sc ow X es g h
  cases es with
  | cons _ _ => simp [okEs] at h
  | nil =>
    refine PA.imp pa_nil fun σ H Q ⟨φ, ψ, env, M, ts, M', re, rm, ev, ok⟩ => ?_
    rw [evEs] at ev
    cases ev
    exact ok φ H [] .refl rm .nil
theorem s_cons {e : ME} {es : MEs} (he : SE G K k e) (hs : SA G K k es) : SA G K k (.cons e es) := by
  intro N sc ow X xs g h
  cases xs with
  | nil => simp [okEs] at h
  | cons x xs =>
    simp only [okEs, Bool.and_eq_true] at h
    obtain ⟨⟨h0, h1⟩, h2⟩ := h
    refine PA.imp (pa_cons (he N sc ow X x g h1).1 (hs N sc ow X xs g h2) (star_cons h0)) fun σ H Q ⟨φ, ψ, env, M, ts, M', re, rm, ev, ok⟩ => ?_
    rw [evEs] at ev
    obtain ⟨p, e1, ev⟩ := bnd ev
    obtain ⟨q, e2, ev⟩ := mpd ev
    cases ev
    exact ⟨φ, ψ, env, M, p.1, p.2, re, rm, e1, fun φ1 H1 v x1 rm1 r1 => ⟨φ1, ψ, env, p.2, q.1, q.2, re.ext x1, rm1, e2, fun φ2 H2 vs x2 rm2 r2 =>
      ok φ2 H2 (v :: vs) (x1.trans x2) rm2 (.cons (r1.to x2) r2)⟩⟩
theorem s_if0 : SIf G K k .nil := by
  intro N sc ow X es g h
  cases es with
  | cons _ _ => simp [okIf] at h
  | nil =>
    refine PTs.imp pts_nil fun σ H Q ⟨φ, ψ, env, M, ts, M', re, rm, ev, ok⟩ => ?_
    rw [evIf] at ev
    cases ev
    exact ok φ H .refl rm
theorem s_if1 {e : ME} (he : SE G K k e) : SIf G K k (.cons e .nil) := by
  intro N sc ow X xs g h
  match xs, h with
  | [], h => simp [okIf] at h
  | x :: y :: r, h => simp [okIf] at h
  | [x], h =>
    simp only [okIf] at h
    refine PTs.imp (pts_one (he N sc ow X x g h).2.1) fun σ H Q ⟨φ, ψ, env, M, ts, M', re, rm, ev, ok⟩ => ?_
    rw [evIf] at ev
    exact ⟨φ, ψ, env, M, ts, M', re, rm, ev, ok⟩
theorem s_if2 {e e2 : ME} {es : MEs} : SIf G K k (.cons e (.cons e2 es)) := by
  intro N sc ow X xs g h
  simp [okIf] at h
end Mi
end L2

/-! Mini: calls, fields, displays are sound. -/
namespace L2
namespace Mi
open PySem PySem.Spec PyProof.Rows
variable {G : Sig} {K : KC} {k : Nat}
theorem gc_blt {N : List Str} {sc : Scope} {ow : List Str} {X : Cx} (g : GC G K k N sc ow X) {x : Str} (h : x ∈ bltNames) : X.mg x = none := g.tab.blt x h
theorem s_call {f : Str} {es : MEs} (hs : SA G K k es) : SE G K k (.call f es) := by
  intro N sc ow X e g h
  unfold okE at h
  split at h <;> (try cases h) <;> rename_i q <;> cases q
  simp only [Bool.and_eq_true, decide_eq_true_eq] at h
  obtain ⟨⟨⟨rfl, h0⟩, h1⟩, h2⟩ := h
  obtain ⟨hg, hd⟩ := gl_of g h0
  rename_i args p
  refine se_of g.hK (PE.of fun σ H Q ⟨φ, ψ, env, M, t, M', re, rm, ev, ok⟩ => ?_) rfl
  rw [evE] at ev
  obtain ⟨p, e1, ev⟩ := bnd ev
  obtain ⟨F, e2, ev⟩ := bnd ev
  obtain ⟨fa, m1, m2, E⟩ := g.tab.fns _ _ e2
  obtain ⟨fd, ps, hb, har, Fo⟩ := E.ex
  have pa := hs N sc ow X args g h2
  have rd : tCall (spM K ps.length F) [] E0 (tEs G K es) σ H Q := ⟨φ, ψ, env, M, p.1, p.2, re, rm, e1, fun φ1 H1 vs x1 rm1 r1 =>
    ⟨by rw [List.append_nil, ← r1.length]; exact har _ _ _ ev, φ1, ψ, p.2, p.1, t, M', rm1, by rw [List.append_nil]; exact r1, ev, ok.ext x1⟩⟩
  cases args with
  | nil =>
    cases es with
    | cons _ _ => simp [okEs] at h2
    | nil =>
      refine ⟨_, pe_call0 (E := E0) Fo (g.room.mono (Nat.le_succ _)) hg m1 m2 hb .nil pass0 hd, ?_⟩
      obtain ⟨φ', ψ', env', M1, ts', M1', re', rm', ev', ok'⟩ := rd
      rw [evEs] at ev'
      cases ev'
      exact ok' φ' H [] .refl rm' .nil
  | cons a as =>
    rw [List.all_cons, Bool.and_eq_true] at h1
    exact ⟨_, pe_call (E := E0) Fo (g.room.mono (Nat.le_succ _)) hg m1 m2 hb .nil pass0 pa hd (star_cons h1.1) (back_any h1.2), rd⟩
theorem s_bi {b : BI} {es : MEs} (hs : SA G K k es) : SE G K k (.bi b es) := by
  intro N sc ow X e g h
  unfold okE at h
  split at h <;> (try cases h) <;> rename_i q <;> cases q
  simp only [Bool.and_eq_true, decide_eq_true_eq] at h
  obtain ⟨⟨⟨rfl, h0⟩, h1⟩, h2⟩ := h
  obtain ⟨hg, hd⟩ := gl_of g h0
  have pa := hs N sc ow X _ g h2
  rw [List.all_cons, Bool.and_eq_true] at h1
  have hop := op_bi (X := X) g.hK g.hc b
  have i1 : ∀ σ H Q, tE G K (.bi b es) σ H Q → tCB (rBi K b) (tEs G K es) σ H Q := fun σ H Q ⟨φ, ψ, env, M, t, M', re, rm, ev, ok⟩ => by
    rw [evE] at ev
    obtain ⟨p, e1, ev⟩ := bnd ev
    exact ⟨φ, ψ, env, M, p.1, p.2, re, rm, e1, fun φ1 H1 vs x1 rm1 r1 => ⟨φ1, ψ, p.2, p.1, t, M', rm1, r1, ev, ok.ext x1⟩⟩
  have mm : ∀ {x : Str}, x ∈ bltNames → X.mg x = none := fun h => gc_blt g h
  refine se_of g.hK (PE.imp ?_ i1) rfl
  cases b with
  | len => exact pe_callB hop hg (mm (by decide)) (by decide) pa (by decide) hd (star_cons h1.1) (back_any h1.2)
  | int => exact pe_callTy hop hg (mm (by decide)) (by decide) pa (by decide) hd (star_cons h1.1) (back_any h1.2)
  | abs => exact pe_callB hop hg (mm (by decide)) (by decide) pa (by decide) hd (star_cons h1.1) (back_any h1.2)
  | list tr => cases tr <;> exact pe_callTy hop hg (mm (by decide)) (by decide) pa (by decide) hd (star_cons h1.1) (back_any h1.2)
  | tuple => exact pe_callTy hop hg (mm (by decide)) (by decide) pa (by decide) hd (star_cons h1.1) (back_any h1.2)
  | sum => exact pe_callB hop hg (mm (by decide)) (by decide) pa (by decide) hd (star_cons h1.1) (back_any h1.2)
  | all => exact pe_callB hop hg (mm (by decide)) (by decide) pa (by decide) hd (star_cons h1.1) (back_any h1.2)
  | any => exact pe_callB hop hg (mm (by decide)) (by decide) pa (by decide) hd (star_cons h1.1) (back_any h1.2)
  | max => exact pe_callB hop hg (mm (by decide)) (by decide) pa (by decide) hd (star_cons h1.1) (back_any h1.2)
  | min => exact pe_callB hop hg (mm (by decide)) (by decide) pa (by decide) hd (star_cons h1.1) (back_any h1.2)
  | sorted => exact pe_callB hop hg (mm (by decide)) (by decide) pa (by decide) hd (star_cons h1.1) (back_any h1.2)
theorem s_isi {a : ME} {ty : String} (ha : SE G K k a) : SE G K k (.isi a ty) := by
  intro N sc ow X e g h
  unfold okE at h
  split at h <;> (try cases h) <;> rename_i q <;> cases q
  simp only [Bool.and_eq_true, decide_eq_true_eq, Bool.or_eq_true, beq_iff_eq] at h
  obtain ⟨⟨⟨⟨⟨⟨rfl, h0⟩, h1⟩, rfl⟩, h2⟩, h3⟩, h4⟩ := h
  obtain ⟨hg, hd⟩ := gl_of g h0
  obtain ⟨hg2, hd2⟩ := gl_of g h2
  have ht : isTy ty ∧ (Str.ofString ty) ∈ bltNames ∧ bootBuiltins (Str.ofString ty) = some (.type ty) ∧ (Str.ofString ty ≠ "__name__") := by
    rcases h4 with (((rfl | rfl) | rfl) | rfl) | rfl <;> exact ⟨by unfold isTy; decide, by decide, by decide, by decide⟩
  have pt : ∀ po, PE X (.Name (Str.ofString ty) po) (tC (.ty ty)) := fun po => pe_bltn hg2 (gc_blt g ht.2.1) ht.2.2.1 rfl ht.2.2.2 hd2
  refine se_of g.hK (PE.imp (pe_callB (op_isi g.hK ht.1) hg (gc_blt g (by decide)) (by decide) (pa_cons (ha N sc ow X _ g h3).1 (pa_cons (pt _) pa_nil rfl) (star_cons h1)) (by decide) hd (star_cons h1) rfl)
    fun σ H Q ⟨φ, ψ, env, M, t, M', re, rm, ev, ok⟩ => ?_) rfl
  rw [evE] at ev
  obtain ⟨p, e1, ev⟩ := bnd ev
  obtain ⟨c, e2, ev⟩ := mpd ev
  cases ev
  exact ⟨φ, ψ, env, M, p.1, p.2, re, rm, e1, fun φ1 H1 v x1 rm1 r1 => ⟨φ1, ψ, p.2, p.1, v, c, rfl, rm1, r1, e2, ok φ1 H1 _ x1 rm1 (.bl _)⟩⟩
theorem RFs.none {φ ψ : List Addr} {H : Hp} {f : Str} : ∀ {fs : List (Str × T)} {gs : List (Str × V)}, RFs K φ ψ H fs gs → fs.lookup f = none → gs.lookup f = none
  | [], [], _, _ => rfl
  | (x, t) :: fs, (y, v) :: gs, ⟨e, r, h⟩, hn => by
    subst e
    rw [List.lookup_cons] at hn ⊢
    cases hx : (f == x) with
    | true => rw [hx] at hn; cases hn
    | false => rw [hx] at hn; exact RFs.none h hn
  | [], _ :: _, h, _ => h.elim
  | _ :: _, [], h, _ => h.elim
theorem RFs.some {φ ψ : List Addr} {H : Hp} {f : Str} {t : T} : ∀ {fs : List (Str × T)} {gs : List (Str × V)}, RFs K φ ψ H fs gs → fs.lookup f = some t → ∃ v, gs.lookup f = some v ∧ RT K φ ψ H t v
  | [], [], _, h => by cases h
  | (x, t) :: fs, (y, v) :: gs, ⟨e, r, h⟩, hn => by
    subst e
    rw [List.lookup_cons] at hn ⊢
    cases hx : (f == x) with
    | true => rw [hx] at hn; cases hn; exact ⟨v, rfl, r⟩
    | false => rw [hx] at hn; exact RFs.some h hn
  | [], _ :: _, h, _ => h.elim
  | _ :: _, [], h, _ => h.elim
theorem RFs.put {φ ψ : List Addr} {H : Hp} {f : Str} {t : T} {v : V} (r : RT K φ ψ H t v) : ∀ {fs : List (Str × T)} {gs : List (Str × V)}, RFs K φ ψ H fs gs → RFs K φ ψ H (putA f t fs) (putF f v gs)
  | [], [], _ => ⟨rfl, r, trivial⟩
  | (x, u) :: fs, (y, w) :: gs, ⟨e, q, h⟩ => by
    subst e
    unfold putA putF
    by_cases hx : x = f
    · rw [if_pos hx]
      rw [if_pos (by first | exact hx | exact hx.symm | exact beq_iff_eq.mpr hx | exact beq_iff_eq.mpr hx.symm)]
      first | exact ⟨rfl, r, h⟩ | exact ⟨hx, r, h⟩ | exact ⟨hx.symm, r, h⟩
    · rw [if_neg hx]
      rw [if_neg (by first | exact hx | exact fun z => hx z.symm | exact fun z => hx (beq_iff_eq.mp z) | exact fun z => hx (beq_iff_eq.mp z).symm)]
      exact ⟨rfl, q, RFs.put r h⟩
  | [], _ :: _, h => h.elim
  | _ :: _, [], h => h.elim
theorem RFs.length {φ ψ : List Addr} {H : Hp} : ∀ {fs : List (Str × T)} {gs : List (Str × V)}, RFs K φ ψ H fs gs → fs.length = gs.length
  | [], [], _ => rfl
  | (_, _) :: fs, (_, _) :: gs, ⟨_, _, h⟩ => by rw [List.length_cons, List.length_cons, RFs.length h]
  | [], _ :: _, h => h.elim
  | _ :: _, [], h => h.elim
/-- an object of a class -/
theorem ins_of {φ ψ : List Addr} {H : Hp} {M : Mem} {i : Nat} {c : Str} {fs : List (Str × T)} {v : V} (rm : RM K φ ψ H M) (r : RT K φ ψ H (.obj i) v) (e : M[i]? = some (.ins c fs)) : ∃ a dx gs, v = .ref a ∧ φ[i]? = some a ∧ H a = some (.ins (K.ca c) dx gs) ∧ RFs K φ ψ H fs gs := by
  cases r with
  | obj ha =>
    obtain ⟨dx, gs, h1, h2⟩ := rm.at_ _ _ _ ha e
    exact ⟨_, dx, gs, rfl, ha, h1, h2⟩
theorem s_mcall {c : Str} {o : ME} {m : Str} {es : MEs} (ho : SE G K k o) (hs : SA G K k es) : SE G K k (.mcall c o m es) := by
  intro N sc ow X e g h
  unfold okE at h
  split at h <;> (try cases h) <;> rename_i q <;> cases q
  simp only [Bool.and_eq_true, decide_eq_true_eq] at h
  obtain ⟨⟨⟨⟨⟨⟨rfl, h0⟩, h1⟩, h2⟩, h3⟩, h4⟩, h5⟩ := h
  rename_i x ap args p
  refine se_of g.hK (PE.of fun σ H Q ⟨φ, ψ, env, M, t, M', re, rm, ev, ok⟩ => ?_) rfl
  rw [evE] at ev
  obtain ⟨p, e1, ev⟩ := bnd ev
  split at ev
  case h_2 => cases ev
  rename_i i hi
  split at ev
  case h_2 => cases ev
  rename_i c' fs hM
  split at ev
  case isFalse => cases ev
  rename_i hc
  obtain ⟨rfl, hl⟩ := hc
  obtain ⟨q, e2, ev⟩ := bnd ev
  obtain ⟨C, e3, ev⟩ := bnd ev
  obtain ⟨F, e4, ev⟩ := bnd ev
  obtain ⟨c1, _, _, c4, _⟩ := g.tab.cls _ _ e3
  obtain ⟨ga, hm, E⟩ := c4 _ _ e4
  obtain ⟨fd, ps, hb, har, Fo⟩ := E.ex
  have pa := hs N sc ow X args g h5
  have po := (ho N sc ow X _ g h4).1
  have rd : tMeth (K.ca c') m (spM K ps.length F) [] E0 (tE G K o) (tEs G K es) σ H Q := by
    refine ⟨φ, ψ, env, M, p.1, p.2, re, rm, e1, fun φ1 H1 v x1 rm1 r1 => ?_⟩
    rw [hi] at r1
    obtain ⟨a, dx, gs, rfl, ha, hh, hf⟩ := ins_of rm1 r1 hM
    refine ⟨a, dx, gs, rfl, hh, hf.none hl, φ1, ψ, env, p.2, q.1, q.2, re.ext x1, rm1, e2, fun φ2 H2 vs x2 rm2 r2 => ?_⟩
    have rr : RTs K φ2 ψ H2 (p.1 :: q.1) (.ref a :: (vs ++ [])) := by
      rw [List.append_nil, hi]
      exact .cons (r1.to x2) r2
    exact ⟨by rw [← rr.length]; exact har _ _ _ ev, φ2, ψ, q.2, p.1 :: q.1, t, M', rm2, rr, ev, ok.ext (x1.trans x2)⟩
  cases args with
  | nil =>
    cases es with
    | cons _ _ => simp [okEs] at h5
    | nil =>
      refine ⟨_, pe_meth0 (E := E0) po c1 hm Fo (g.room.mono (Nat.le_succ _)) hb .nil pass0 (meth_eq h0 h1 h2 h3), ?_⟩
      obtain ⟨φ', ψ', env', M1, t1, M1', re', rm', ev', ok'⟩ := rd
      refine ⟨φ', ψ', env', M1, t1, M1', re', rm', ev', fun φ1 H1 v x1 rm1 r1 => ?_⟩
      obtain ⟨a, dx, gs, q1, q2, q3, q4⟩ := ok' φ1 H1 v x1 rm1 r1
      refine ⟨a, dx, gs, q1, q2, q3, ?_⟩
      obtain ⟨φ', ψ', env', M1, ts', M1', re', rm', ev', ok'⟩ := q4
      rw [evEs] at ev'
      cases ev'
      exact ok' φ' H1 [] .refl rm' .nil
  | cons a as =>
    have h1' := h1
    rw [List.all_cons, Bool.and_eq_true] at h1'
    exact ⟨_, pe_meth (E := E0) po c1 hm Fo (g.room.mono (Nat.le_succ _)) hb .nil pass0 pa (star_cons h1'.1) (back_any h1'.2) (meth_eq h0 h1 h2 h3), rd⟩
theorem s_mk {c : Str} {es : MEs} (hs : SA G K k es) : SE G K k (.mk c es) := by
  intro N sc ow X e g h
  unfold okE at h
  split at h <;> (try cases h) <;> rename_i q <;> cases q
  simp only [Bool.and_eq_true, decide_eq_true_eq] at h
  obtain ⟨⟨⟨rfl, h0⟩, h1⟩, h2⟩ := h
  obtain ⟨hg, hd⟩ := gl_of g h0
  rename_i args p
  refine se_of g.hK (PE.of fun σ H Q ⟨φ, ψ, env, M, t, M', re, rm, ev, ok⟩ => ?_) rfl
  rw [evE] at ev
  obtain ⟨p, e1, ev⟩ := bnd ev
  obtain ⟨C, e3, ev⟩ := bnd ev
  obtain ⟨F, e4, ev⟩ := bnd ev
  obtain ⟨r, e5, ev⟩ := bnd ev
  split at ev
  case h_2 => cases ev
  rename_i hr
  cases ev
  obtain ⟨c1, c2, _, _, c5⟩ := g.tab.cls _ _ e3
  obtain ⟨ga, hm, E⟩ := c5 _ e4
  obtain ⟨fd, ps, hb, har, Fo⟩ := E.ex
  have pa := hs N sc ow X args g h2
  have rd : tMake (K.ca c) (spM K ps.length F) [] E0 (tEs G K es) σ H Q := ⟨φ, ψ, env, M, p.1, p.2, re, rm, e1, fun φ1 H1 vs x1 rm1 r1 x dx hx hdx hne => by
    have n1 : Ext φ1 H1 φ1 (upd H1 dx (.own x)) := .new hdx (rm1.fresh hdx)
    have m1 : RM K φ1 ψ (upd H1 dx (.own x)) p.2 := rm1.new hdx
    have hx' : (upd H1 dx (.own x)) x = none := by rw [upd_ne (Ne.symm hne)]; exact hx
    have n2 : Ext φ1 (upd H1 dx (.own x)) (φ1 ++ [x]) (upd (upd H1 dx (.own x)) x (.ins (K.ca c) dx [])) := .push hx'
    have m2 : RM K (φ1 ++ [x]) ψ (upd (upd H1 dx (.own x)) x (.ins (K.ca c) dx [])) (p.2 ++ [.ins c []]) := m1.push hx' ⟨dx, [], upd_same, trivial⟩
    have hi : (φ1 ++ [x])[p.2.length]? = some x := by rw [← rm1.len, List.getElem?_append_right (Nat.le_refl _)]; simp
    have rr : RTs K (φ1 ++ [x]) ψ (upd (upd H1 dx (.own x)) x (.ins (K.ca c) dx [])) (.obj p.2.length :: p.1) (.ref x :: (vs ++ [])) := by
      rw [List.append_nil]
      exact .cons (.obj hi) (r1.to (n1.trans n2))
    refine ⟨by rw [← rr.length]; exact har _ _ _ e5, φ1 ++ [x], ψ, _, _, r.1, r.2, m2, rr, e5, fun φ2 H2 v x2 rm2 r2 => ?_⟩
    rw [hr] at r2
    cases r2
    exact ⟨rfl, ok φ2 H2 _ (x1.trans (n1.trans (n2.trans x2))) rm2 (.obj (x2.get hi))⟩⟩
  cases args with
  | nil =>
    cases es with
    | cons _ _ => simp [okEs] at h2
    | nil =>
      refine ⟨_, pe_make0 (E := E0) hm Fo g.room hg c2 hb .nil pass0 hd, ?_⟩
      obtain ⟨φ', ψ', env', M1, ts', M1', re', rm', ev', ok'⟩ := rd
      rw [evEs] at ev'
      cases ev'
      exact ok' φ' H [] .refl rm' .nil
  | cons a as =>
    rw [List.all_cons, Bool.and_eq_true] at h1
    exact ⟨_, pe_make (E := E0) hm Fo g.room hg c2 hb .nil pass0 pa hd (star_cons h1.1) (back_any h1.2), rd⟩
end Mi
end L2

/-! Mini: methods of lists, subscripts, displays, targets, sources are sound. -/
namespace L2
namespace Mi
open PySem PySem.Spec PyProof.Rows
variable {G : Sig} {K : KC} {k : Nat}
theorem tyV_list {X : Cx} {φ ψ : List Addr} {H : Hp} {M : Mem} {t : T} {ts : List T} {v : V} (hK : K.K = X.K) (rm : RM K φ ψ H M) (r : RT K φ ψ H t v) (e : lof M t = some ts) : tyV X.K "list" v H := by
  obtain ⟨a, vs, rfl, h1, h2⟩ := lof_ok rm r e
  exact .inl ⟨rfl, vs, SqL.of h1⟩
theorem s_bm {b : BM} {o : ME} {es : MEs} (ho : SE G K k o) (hs : SA G K k es) : SE G K k (.bm b o es) := by
  intro N sc ow X e g h
  unfold okE at h
  split at h <;> (try cases h) <;> rename_i q <;> cases q
  simp only [Bool.and_eq_true, decide_eq_true_eq] at h
  obtain ⟨⟨⟨⟨⟨⟨⟨rfl, h0⟩, h1⟩, h2⟩, h3⟩, h6⟩, h4⟩, h5⟩ := h
  rename_i x ap args p
  have pa := hs N sc ow X args g h5
  have po := (ho N sc ow X _ g h4).1
  have i1 : ∀ σ H Q, tE G K (.bm b o es) σ H Q → tBM X.K "list" (rBm K b) (tE G K o) (tEs G K es) σ H Q := fun σ H Q ⟨φ, ψ, env, M, t, M', re, rm, ev, ok⟩ => by
    rw [evE] at ev
    obtain ⟨p, e1, ev⟩ := bnd ev
    obtain ⟨ls, e2, ev⟩ := bnd ev
    obtain ⟨q, e3, ev⟩ := bnd ev
    exact ⟨φ, ψ, env, M, p.1, p.2, re, rm, e1, fun φ1 H1 v x1 rm1 r1 => ⟨tyV_list g.hK rm1 r1 e2, φ1, ψ, env, p.2, q.1, q.2, re.ext x1, rm1, e3, fun φ2 H2 vs x2 rm2 r2 =>
      ⟨φ2, ψ, q.2, p.1, q.1, t, M', rm2, r1.to x2, r2, ev, ok.ext (x1.trans x2)⟩⟩⟩
  have hm : MtR X (bmId b) (rBm K b) := op_bm (X := X) b
  refine se_of g.hK (PE.imp ?_ i1) rfl
  cases args with
  | nil =>
    have i2 : ∀ σ H Q, tBM X.K "list" (rBm K b) (tE G K o) (tEs G K es) σ H Q → tBM0 X.K "list" (rBm K b) (tE G K o) σ H Q := fun σ H Q ⟨φ, ψ, env, M, t, M', re, rm, ev, ok⟩ =>
      ⟨φ, ψ, env, M, t, M', re, rm, ev, fun φ1 H1 v x1 rm1 r1 => by
        obtain ⟨q1, q2⟩ := ok φ1 H1 v x1 rm1 r1
        refine ⟨q1, ?_⟩
        obtain ⟨φ', ψ', env', M1, ts', M1', re', rm', ev', ok'⟩ := q2
        cases es with
        | cons _ _ => simp [okEs] at h5
        | nil =>
          rw [evEs] at ev'
          cases ev'
          exact ok' φ' H1 [] .refl rm' .nil⟩
    cases b with
    | append => simp [bmAr] at h6
    | extend => simp [bmAr] at h6
    | pop => simp [bmAr] at h6
    | remove => simp [bmAr] at h6
    | pop0 => exact PE.imp (pe_bm0 PySem.F.plainAttrs_list PySem.F.slot_list_pop PySem.F.type_list_pop hm po (sup_base h0) h3) i2
    | reverse => exact PE.imp (pe_bm0 PySem.F.plainAttrs_list PySem.F.slot_list_reverse PySem.F.type_list_reverse hm po (sup_base h0) h3) i2
  | cons a as =>
    have h1' := h1
    rw [List.all_cons, Bool.and_eq_true] at h1'
    cases b with
    | append => exact pe_bm PySem.F.plainAttrs_list PySem.F.slot_list_append PySem.F.type_list_append hm po pa (sup_base h0) (back_few h1 h2) h3 (star_cons h1'.1) (back_any h1'.2)
    | extend => exact pe_bm PySem.F.plainAttrs_list PySem.F.slot_list_extend PySem.F.type_list_extend hm po pa (sup_base h0) (back_few h1 h2) h3 (star_cons h1'.1) (back_any h1'.2)
    | pop => exact pe_bm PySem.F.plainAttrs_list PySem.F.slot_list_pop PySem.F.type_list_pop hm po pa (sup_base h0) (back_few h1 h2) h3 (star_cons h1'.1) (back_any h1'.2)
    | remove => exact pe_bm PySem.F.plainAttrs_list PySem.F.slot_list_remove PySem.F.type_list_remove hm po pa (sup_base h0) (back_few h1 h2) h3 (star_cons h1'.1) (back_any h1'.2)
    | pop0 => simp [bmAr] at h6
    | reverse => simp [bmAr] at h6
theorem s_ix {a b : ME} (ha : SE G K k a) (hb : SE G K k b) : SE G K k (.ix a b) := by
  intro N sc ow X e g h
  unfold okE at h
  split at h <;> (try cases h) <;> rename_i q <;> cases q
  simp only [Bool.and_eq_true, decide_eq_true_eq] at h
  obtain ⟨⟨h0, h1⟩, h2⟩ := h
  have hu := g.hu
  refine se_of g.hK (PE.imp (pe_ix (op_ix g.hK (by omega)) (ha N sc ow X _ g h1).1 (hb N sc ow X _ g h2).1 (plain_ix h0)) fun σ H Q ⟨φ, ψ, env, M, t, M', re, rm, ev, ok⟩ => ?_) rfl
  rw [evE] at ev
  obtain ⟨p, e1, ev⟩ := bnd ev
  obtain ⟨q, e2, ev⟩ := bnd ev
  obtain ⟨u, e3, ev⟩ := mpd ev
  cases ev
  refine ⟨φ, ψ, env, M, p.1, p.2, re, rm, e1, fun φ1 H1 v x1 rm1 r1 => ⟨φ1, ψ, env, p.2, q.1, q.2, re.ext x1, rm1, e2, fun φ2 H2 w x2 rm2 r2 => ?_⟩⟩
  exact ⟨φ2, ψ, q.2, p.1, q.1, t, rm2, r1.to x2, r2, e3, fun v' r' => ok φ2 H2 v' (x1.trans x2) rm2 r'⟩
theorem evP_gen {x : Option (T × Mem)} {o : Option Int} {M' : Mem} (h : (x.bind fun p => match p.1 with
    | .int i => some (some i, p.2)
    | _ => none) = some (o, M')) : ∃ i, o = some i ∧ x = some (.int i, M') := by
  obtain ⟨p, e1, e2⟩ := bnd h
  split at e2
  · rename_i i hi
    cases e2
    refine ⟨i, rfl, ?_⟩
    rw [e1, ← hi]
  · cases e2
theorem evP_of {m : ME} {env : En} {M M' : Mem} {o : Option Int} (hn : isNoP m = false) (h : evP G m env M = some (o, M')) : ∃ i, o = some i ∧ evE G m env M = some (.int i, M') := by
  cases m with
  | nopart => cases hn
  | int i =>
    rw [evP] at h
    cases h
    exact ⟨i, rfl, by rw [evE]⟩
  | _ => unfold evP at h; exact evP_gen h
theorem s_pa (m : ME) (hm : SE G K k m) : SP_ G K k m := by
  intro N sc ow X e g h
  cases e with
  | none =>
    cases m with
    | nopart =>
      refine PO.imp po_none fun σ H Q ⟨φ, ψ, env, M, t, M', re, rm, ev, ok⟩ => ?_
      rw [evP] at ev
      cases ev
      exact ok φ H .refl rm
    | _ => exact absurd h Bool.false_ne_true
  | some x =>
    have h : (!isNoP m && okE N sc m x) = true := h
    rw [Bool.and_eq_true, Bool.not_eq_true'] at h
    refine PO.imp (po_some (hm N sc ow X x g h.2).1) fun σ H Q ⟨φ, ψ, env, M, t, M', re, rm, ev, ok⟩ => ?_
    obtain ⟨i, rfl, ev'⟩ := evP_of h.1 ev
    refine ⟨φ, ψ, env, M, .int i, M', re, rm, ev', fun φ1 H1 v x1 rm1 r1 => ?_⟩
    cases r1
    exact ⟨i, rfl, ok φ1 H1 x1 rm1⟩
theorem s_slc {tr : Bool} {a lo hi : ME} (ha : SE G K k a) (hl : SP_ G K k lo) (hh : SP_ G K k hi) : SE G K k (.slc tr a lo hi) := by
  intro N sc ow X e g h
  unfold okE at h
  split at h <;> (try cases h) <;> rename_i q <;> cases q
  simp only [Bool.and_eq_true, decide_eq_true_eq] at h
  obtain ⟨⟨h0, h1⟩, h2⟩ := h
  refine se_of g.hK (PE.imp (pe_slice (op_sl g.hK tr) (ha N sc ow X _ g h0).1 (hl N sc ow X _ g (show okP N sc lo _ = true from h1)) (hh N sc ow X _ g (show okP N sc hi _ = true from h2))) fun σ H Q ⟨φ, ψ, env, M, t, M', re, rm, ev, ok⟩ => ?_) rfl
  rw [evE] at ev
  obtain ⟨p, e1, ev⟩ := bnd ev
  obtain ⟨l, e2, ev⟩ := bnd ev
  obtain ⟨u, e3, ev⟩ := bnd ev
  refine ⟨φ, ψ, env, M, p.1, p.2, re, rm, e1, fun φ1 H1 v x1 rm1 r1 => ⟨φ1, ψ, env, p.2, l.1, l.2, re.ext x1, rm1, e2, fun φ2 H2 x2 rm2 => ⟨φ2, ψ, env, l.2, u.1, u.2, re.ext (x1.trans x2), rm2, e3, fun φ3 H3 x3 rm3 => ?_⟩⟩⟩
  exact ⟨φ3, ψ, u.2, p.1, t, M', rm3, r1.to (x2.trans x3), ev, ok.ext (x1.trans (x2.trans x3))⟩
theorem s_rev {tr : Bool} {a : ME} (ha : SE G K k a) : SE G K k (.rev tr a) := by
  intro N sc ow X e g h
  unfold okE at h
  split at h <;> (try cases h) <;> rename_i q <;> cases q
  refine se_of g.hK (PE.imp (pe_revL (ha N sc ow X _ g h).1) fun σ H Q ⟨φ, ψ, env, M, t, M', re, rm, ev, ok⟩ => ?_) rfl
  rw [evE] at ev
  obtain ⟨p, e1, ev⟩ := bnd ev
  obtain ⟨ts, e2, ev⟩ := mpd ev
  refine ⟨φ, ψ, env, M, p.1, p.2, re, rm, e1, fun φ1 H1 v x1 rm1 r1 => ?_⟩
  obtain ⟨l, vs, rfl, h3, h4⟩ := lofS_ok rm1 r1 e2
  refine ⟨l, vs, rfl, by rw [← g.hK]; exact h3, fun p' hp => ?_⟩
  have ok2 := ok.ext x1
  rw [show t = (t, M').1 from rfl, show M' = (t, M').2 from rfl, ← ev] at ok2
  exact ok2.newL rm1 h4.reverse hp
theorem s_att {c : Str} {o : ME} {f : Str} (ho : SE G K k o) : SE G K k (.att c o f) := by
  intro N sc ow X e g h
  unfold okE at h
  split at h <;> (try cases h) <;> rename_i q <;> cases q
  simp only [Bool.and_eq_true, decide_eq_true_eq] at h
  obtain ⟨⟨rfl, h0⟩, h1⟩ := h
  refine se_of g.hK (PE.imp (pe_fld (ho N sc ow X _ g h1).1 (sup_base h0)) fun σ H Q ⟨φ, ψ, env, M, t, M', re, rm, ev, ok⟩ => ?_) rfl
  rw [evE] at ev
  obtain ⟨p, e1, ev⟩ := bnd ev
  split at ev
  case h_2 => cases ev
  rename_i i hi
  split at ev
  case h_2 => cases ev
  rename_i c' fs hM
  split at ev
  case isFalse => cases ev
  rename_i hc
  subst hc
  obtain ⟨C, e3, ev⟩ := bnd ev
  split at ev
  case isFalse => cases ev
  rename_i hf
  obtain ⟨u, e4, ev⟩ := mpd ev
  cases ev
  obtain ⟨c1, _, c3, _, _⟩ := g.tab.cls _ _ e3
  refine ⟨φ, ψ, env, M, p.1, p.2, re, rm, e1, fun φ1 H1 v x1 rm1 r1 => ?_⟩
  rw [hi] at r1
  obtain ⟨a, dx, gs, rfl, ha, hh, hfs⟩ := ins_of rm1 r1 hM
  obtain ⟨w, hw, hr⟩ := hfs.some e4
  exact ⟨a, K.ca c', dx, gs, w, rfl, hh, c1, c3 _ hf, hw, ok φ1 H1 w x1 rm1 hr⟩
theorem s_tup {es : MEs} (hs : SA G K k es) : SE G K k (.tup es) := by
  intro N sc ow X e g h
  unfold okE at h
  split at h <;> (try cases h) <;> rename_i q <;> cases q
  simp only [Bool.and_eq_true, decide_eq_true_eq] at h
  refine se_of g.hK (PE.imp (pe_tup (hs N sc ow X _ g h.2)) fun σ H Q ⟨φ, ψ, env, M, t, M', re, rm, ev, ok⟩ => ?_) rfl
  rw [evE] at ev
  obtain ⟨p, e1, ev⟩ := bnd ev
  split at ev
  case isFalse => cases ev
  rename_i hl
  cases ev
  refine ⟨φ, ψ, env, M, p.1, p.2, re, rm, e1, fun φ1 H1 vs x1 rm1 r1 => ⟨by rw [← r1.length, szl]; exact hl, fun p' hp => (ok.ext x1).newTup rm1 r1 hp⟩⟩
theorem s_lst {tr : Bool} {es : MEs} (hs : SA G K k es) : SE G K k (.lst tr es) := by
  intro N sc ow X e g h
  unfold okE at h
  split at h <;> (try cases h) <;> rename_i q <;> cases q
  simp only [Bool.and_eq_true, decide_eq_true_eq] at h
  refine se_of g.hK (PE.imp (pe_lst (hs N sc ow X _ g h.2)) fun σ H Q ⟨φ, ψ, env, M, t, M', re, rm, ev, ok⟩ => ?_) rfl
  rw [evE] at ev
  obtain ⟨p, e1, ev⟩ := bnd ev
  split at ev
  case isFalse => cases ev
  rename_i hl
  have ev := Option.some.inj ev
  refine ⟨φ, ψ, env, M, p.1, p.2, re, rm, e1, fun φ1 H1 vs x1 rm1 r1 => ⟨by rw [← r1.length, szl]; exact hl, fun p' hp => ?_⟩⟩
  have ok2 := ok.ext x1
  rw [show t = (t, M').1 from rfl, show M' = (t, M').2 from rfl, ← ev] at ok2
  exact ok2.newL rm1 r1 hp
theorem s_dnew {tk : Bool} : SE G K k (.dnew tk) := by
  intro N sc ow X e g h
  unfold okE at h
  split at h <;> (try cases h) <;> rename_i q <;> cases q
  have key : ∀ σ H Q, tE G K (.dnew tk) σ H Q → ∀ p, H p = none → Q (.ref p) (upd H p (if tk = true then .dT [] else .dK [])) := fun σ H Q ⟨φ, ψ, env, M, t, M', re, rm, ev, ok⟩ p hp => by
    rw [evE] at ev
    split at ev
    case isTrue => cases ev
    rename_i hkt
    cases ev
    have hi : (φ ++ [p])[M.length]? = some p := by rw [← rm.len, List.getElem?_append_right (Nat.le_refl _)]; simp
    refine ok (φ ++ [p]) _ _ (.push hp) (rm.push hp ?_) (.obj hi)
    cases tk with
    | true =>
      refine .inr ⟨rfl, ?_, [], ?_, rfl, .nil⟩
      · rw [← g.tab.kt]
        cases hq : G.kt with
        | true => exact absurd ⟨rfl, hq⟩ hkt
        | false => rfl
      · rw [if_pos rfl]; exact upd_same
    | false => exact .inl ⟨rfl, [], by rw [if_neg Bool.false_ne_true]; exact upd_same, rfl, .nil⟩
  cases tk with
  | true => exact se_of g.hK (PE.imp pe_dnewT fun σ H Q q p hp => by have := key σ H Q q p hp; rwa [if_pos rfl] at this) rfl
  | false => exact se_of g.hK (PE.imp pe_dnewK fun σ H Q q p hp => by have := key σ H Q q p hp; rwa [if_neg Bool.false_ne_true] at this) rfl
/-! ### targets -/
theorem s_nm {i : Nat} {x : Str} : SG G K k (.nm i x) := by
  intro N sc ow X e g h
  unfold okT' at h
  split at h <;> (try cases h) <;> rename_i q <;> cases q
  simp only [Bool.and_eq_true, decide_eq_true_eq] at h
  obtain ⟨⟨rfl, h1⟩, h2⟩ := h
  obtain ⟨s1, s2⟩ := g.st _ h2
  refine PG.imp (pg_name (by rw [g.hN]; exact g.nd) (by rw [g.hN]; exact h1) (by rw [g.sc_]; exact s1) (by rw [g.sc_]; exact s2)) fun v σ H Q ⟨φ, ψ, env, M, t, env', re, rm, r, ev, ok⟩ => ?_
  rw [asgT] at ev
  cases ev
  exact ok _ (re.set r) ⟨by rw [List.length_set], fun j hj => by rw [List.getElem?_set_ne]; intro z; exact hj (by rw [slT']; exact List.mem_singleton.mpr z.symm)⟩
theorem asgs_len {N ow : List Str} {env : Env} : ∀ {ts : MTs} {es : List Expr}, okTs' N ow ts es = true → es.all notStar = true
  | .nil, [], _ => rfl
  | .cons t ts, e :: es, h => by
    simp only [okTs', Bool.and_eq_true] at h
    rw [List.all_cons, h.1.1, asgs_len (env := env) h.2]; rfl
  | .nil, _ :: _, h => by simp [okTs'] at h
  | .cons _ _, [], h => by simp [okTs'] at h
theorem asgs_n {N ow : List Str} {env env' : En} : ∀ {ts : MTs} {es : List Expr} {us : List T}, okTs' N ow ts es = true → asgTs ts us env = some env' → us.length = es.length
  | .nil, [], [], _, _ => rfl
  | .cons t ts, e :: es, u :: us, h, h2 => by
    simp only [okTs', Bool.and_eq_true] at h
    rw [asgTs] at h2
    obtain ⟨_, _, h3⟩ := bnd h2
    rw [List.length_cons, List.length_cons]
    have := asgs_n (env' := env') h.2 h3
    omega
  | .nil, _ :: _, _, h, _ => by simp [okTs'] at h
  | .cons _ _, [], _, h, _ => by simp [okTs'] at h
  | .nil, [], _ :: _, _, h => by simp [asgTs] at h
  | .cons _ _, _ :: _, [], _, h => by simp [asgTs] at h
theorem s_tp {ts : MTs} (hs : SGs G K k ts) : SG G K k (.tp ts) := by
  intro N sc ow X e g h
  unfold okT' at h
  split at h <;> (try cases h) <;> rename_i q <;> cases q
  have hst := asgs_len (env := X.env) h
  refine PG.imp (pg_tup (n := (assignEach _ X.env).length) g.hc (hs N sc ow X _ g h) rfl (by
    rw [assign_map hst]
    apply List.findIdx?_eq_none_iff.mpr
    intro x hx
    obtain ⟨y, _, rfl⟩ := List.mem_map.mp hx
    rfl)) fun v σ H Q ⟨φ, ψ, env, M, t, env', re, rm, r, ev, ok⟩ => ?_
  unfold asgT at ev
  split at ev
  case h_2 => cases ev
  rename_i us
  cases r with
  | tup h1 h2 =>
    refine ⟨_, _, rfl, by rw [← g.hK]; exact h1.sq, ?_, φ, ψ, env, M, us, env', re, rm, h2, ev, fun σ' h3 h4 => ok σ' h3 (by rw [slT']; exact h4)⟩
    rw [← h2.length, assign_map hst, List.length_map]
    exact asgs_n h ev
theorem s_tn : SGs G K k .nil := by
  intro N sc ow X es g h
  cases es with
  | cons _ _ => simp [okTs'] at h
  | nil =>
    refine PGs.imp pgs_nil fun vs σ H Q ⟨φ, ψ, env, M, ts, env', re, rm, r, ev, ok⟩ => ?_
    cases r with
    | cons _ _ => simp [asgTs] at ev
    | nil =>
      rw [asgTs] at ev
      cases ev
      exact ⟨rfl, ok σ re ⟨rfl, fun _ _ => rfl⟩⟩
theorem s_tc {t : MT} {ts : MTs} (ht : SG G K k t) (hs : SGs G K k ts) : SGs G K k (.cons t ts) := by
  intro N sc ow X es g h
  cases es with
  | nil => simp [okTs'] at h
  | cons e es =>
    simp only [okTs', Bool.and_eq_true] at h
    obtain ⟨⟨h0, h1⟩, h2⟩ := h
    refine PGs.imp (pgs_cons (ht N sc ow X e g h1) (hs N sc ow X es g h2) (by rw [assign_cons h0]; rfl)) fun vs σ H Q ⟨φ, ψ, env, M, us, env', re, rm, r, ev, ok⟩ => ?_
    cases r with
    | nil => simp [asgTs] at ev
    | cons r1 r2 =>
      rw [asgTs] at ev
      obtain ⟨env1, e1, ev⟩ := bnd ev
      exact ⟨_, _, rfl, φ, ψ, env, M, _, env1, re, rm, r1, e1, fun σ1 re1 a1 => ⟨φ, ψ, env1, M, _, env', re1, rm, r2, ev, fun σ2 re2 a2 => ok σ2 re2 (by rw [slTs]; exact a1.trans a2)⟩⟩
/-! ### sources -/
theorem sq_of {X : Cx} {φ ψ : List Addr} {H : Hp} {M : Mem} {t : T} {ts : List T} {v : V} (hK : K.K = X.K) (rm : RM K φ ψ H M) (r : RT K φ ψ H t v) (e : sof M t = some ts) : ∃ a vs, v = .ref a ∧ SqB X.K (isTup t) H a vs ∧ RTs K φ ψ H ts vs := by
  obtain ⟨a, vs, rfl, h1, h2⟩ := sof_ok rm r e
  refine ⟨a, vs, rfl, ?_, h1⟩
  rw [← hK]
  rcases h2 with ⟨h2, hne⟩ | ⟨h2, rfl⟩
  · have : isTup t = false := by
      cases t <;> first | rfl | exact absurd rfl (hne _)
    rw [this]
    exact h2
  · exact h2
theorem s_over {a : ME} (ha : SE G K k a) : SI G K k (.over a) := by
  intro N sc ow X tg e g h
  unfold okI at h
  refine PI.imp (pi_sq (ha N sc ow X e g h).1) fun σ H R ⟨φ, ψ, env, M, p, M', re, rm, ev, ok⟩ => ?_
  rw [evI] at ev
  obtain ⟨q, e1, ev⟩ := bnd ev
  obtain ⟨ts, e2, ev⟩ := mpd ev
  cases ev
  refine ⟨φ, ψ, env, M, q.1, q.2, re, rm, e1, fun φ1 H1 v x1 rm1 r1 => ?_⟩
  obtain ⟨a', vs, rfl, h1, h2⟩ := sq_of g.hK rm1 r1 e2
  refine ⟨isTup q.1, a', vs, rfl, h1, ok φ1 H1 _ x1 rm1 ?_⟩
  have := walk_sq (K := K) r1 e2
  rw [g.hK] at this
  exact this
theorem s_rng1 {a : ME} (ha : SE G K k a) : SI G K k (.rng1 a) := by
  intro N sc ow X tg e g h
  unfold okI at h
  split at h <;> (try cases h) <;> rename_i q <;> cases q
  simp only [Bool.and_eq_true, decide_eq_true_eq] at h
  obtain ⟨⟨⟨rfl, h0⟩, h1⟩, h2⟩ := h
  obtain ⟨hg, hd⟩ := gl_of g h0
  refine PI.imp (pi_range1 hg (gc_blt g (by decide)) (pa_cons (ha N sc ow X _ g h2).1 pa_nil (star_cons h1)) (star_cons h1)) fun σ H R ⟨φ, ψ, env, M, p, M', re, rm, ev, ok⟩ => ?_
  rw [evI] at ev
  obtain ⟨q, e1, ev⟩ := bnd ev
  split at ev
  case h_2 => cases ev
  rename_i j hj
  split at ev
  case isFalse => cases ev
  rename_i hr
  cases ev
  refine ⟨φ, ψ, env, M, q.1, q.2, re, rm, e1, fun φ1 H1 v x1 rm1 r1 => ?_⟩
  rw [hj] at r1
  cases r1
  refine ⟨j, rfl, hr.2.2.1, hr.2.2.2, ok φ1 H1 _ x1 rm1 ?_⟩
  have := walk_rng (K := K) (φ0 := φ1) (ψ0 := ψ) (H0 := H1) 0 j
  rwa [show (j - 0).toNat = j.toNat by rw [Int.sub_zero]] at this
theorem s_rng2 {a b : ME} (ha : SE G K k a) (hb : SE G K k b) : SI G K k (.rng2 a b) := by
  intro N sc ow X tg e g h
  unfold okI at h
  split at h <;> (try cases h) <;> rename_i q <;> cases q
  simp only [Bool.and_eq_true, decide_eq_true_eq] at h
  obtain ⟨⟨⟨⟨⟨rfl, h0⟩, h1⟩, h1'⟩, h2⟩, h3⟩ := h
  obtain ⟨hg, hd⟩ := gl_of g h0
  refine PI.imp (pi_range2 hg (gc_blt g (by decide)) (pa_cons (ha N sc ow X _ g h2).1 (pa_cons (hb N sc ow X _ g h3).1 pa_nil (star_cons h1')) (star_cons h1)) (by rw [star_cons h1, star_cons h1']; rfl) (star_cons h1')) fun σ H R ⟨φ, ψ, env, M, p, M', re, rm, ev, ok⟩ => ?_
  rw [evI] at ev
  obtain ⟨q, e1, ev⟩ := bnd ev
  obtain ⟨r, e2, ev⟩ := bnd ev
  split at ev
  case h_2 => cases ev
  rename_i i j hi hj
  split at ev
  case isFalse => cases ev
  rename_i hr
  cases ev
  refine ⟨φ, ψ, env, M, q.1, q.2, re, rm, e1, fun φ1 H1 v x1 rm1 r1 => ⟨φ1, ψ, env, q.2, r.1, r.2, re.ext x1, rm1, e2, fun φ2 H2 w x2 rm2 r2 => ?_⟩⟩
  rw [hi] at r1
  rw [hj] at r2
  cases r1
  cases r2
  exact ⟨i, j, rfl, hr, ok φ2 H2 _ (x1.trans x2) rm2 (walk_rng i j)⟩
theorem s_enum {a : ME} (ha : SE G K k a) : SI G K k (.enum a) := by
  intro N sc ow X tg e g h
  unfold okI at h
  split at h <;> (try cases h) <;> rename_i q <;> cases q
  simp only [Bool.and_eq_true, decide_eq_true_eq] at h
  obtain ⟨⟨⟨rfl, h0⟩, h1⟩, h2⟩ := h
  obtain ⟨hg, hd⟩ := gl_of g h0
  refine PI.imp (pi_en hg (gc_blt g (by decide)) (pa_cons (ha N sc ow X _ g h2).1 pa_nil (star_cons h1)) (star_cons h1)) fun σ H R ⟨φ, ψ, env, M, p, M', re, rm, ev, ok⟩ => ?_
  rw [evI] at ev
  obtain ⟨q, e1, ev⟩ := bnd ev
  obtain ⟨ts, e2, ev⟩ := mpd ev
  cases ev
  refine ⟨φ, ψ, env, M, q.1, q.2, re, rm, e1, fun φ1 H1 v x1 rm1 r1 => ?_⟩
  obtain ⟨a', vs, rfl, h3, h4⟩ := sq_of g.hK rm1 r1 e2
  refine ⟨a', isTup q.1, vs, rfl, h3, ok φ1 H1 _ x1 rm1 ?_⟩
  have := walk_en (K := K) r1 e2
  rw [g.hK] at this
  exact this
theorem s_zip2 {a b : ME} (ha : SE G K k a) (hb : SE G K k b) : SI G K k (.zip2 a b) := by
  intro N sc ow X tg e g h
  unfold okI at h
  split at h <;> (try cases h) <;> rename_i q <;> cases q
  simp only [Bool.and_eq_true, decide_eq_true_eq] at h
  obtain ⟨⟨⟨⟨⟨rfl, h0⟩, h1⟩, h1'⟩, h2⟩, h3⟩ := h
  obtain ⟨hg, hd⟩ := gl_of g h0
  refine PI.imp (pi_z2 hg (gc_blt g (by decide)) (pa_cons (ha N sc ow X _ g h2).1 (pa_cons (hb N sc ow X _ g h3).1 pa_nil (star_cons h1')) (star_cons h1)) (star_cons h1) (back_any (by rw [List.all_cons, h1']; rfl))) fun σ H R ⟨φ, ψ, env, M, p, M', re, rm, ev, ok⟩ => ?_
  rw [evI] at ev
  obtain ⟨q, e1, ev⟩ := bnd ev
  obtain ⟨r, e2, ev⟩ := bnd ev
  obtain ⟨xs, e3, ev⟩ := bnd ev
  obtain ⟨ys, e4, ev⟩ := mpd ev
  cases ev
  refine ⟨φ, ψ, env, M, q.1, q.2, re, rm, e1, fun φ1 H1 v x1 rm1 r1 => ⟨φ1, ψ, env, q.2, r.1, r.2, re.ext x1, rm1, e2, fun φ2 H2 w x2 rm2 r2 => ?_⟩⟩
  have r1' := r1.to x2
  obtain ⟨a', vs, rfl, h4, h5⟩ := sq_of g.hK rm2 r1' e3
  obtain ⟨b', us, rfl, h6, h7⟩ := sq_of g.hK rm2 r2 e4
  refine ⟨a', b', isTup q.1, isTup r.1, vs, us, rfl, h4, h6, ok φ2 H2 _ (x1.trans x2) rm2 ?_⟩
  have := walk_z2 (K := K) r1' r2 e3 e4
  rw [g.hK] at this
  exact this
end Mi
end L2

/-! Mini: comprehensions are sound. -/
namespace L2
namespace Mi
open PySem PySem.Spec PyProof.Rows
variable {G : Sig} {K : KC} {k : Nat}
/-- but for one address all that stood stands -/
structure XD (D : Addr) (φ : List Addr) (H : Hp) (φ' : List Addr) (H' : Hp) : Prop where
  pre : φ <+: φ'
  keep : ∀ a o, a ∉ φ → a ≠ D → H a = some o → a ∉ φ' ∧ H' a = some o
section
variable {D : Addr} {φ φ1 φ2 ψ : List Addr} {H H1 H2 : Hp}
theorem XD.refl : XD D φ H φ H := ⟨List.prefix_rfl, fun _ _ h _ e => ⟨h, e⟩⟩
theorem XD.trans (x : XD D φ H φ1 H1) (y : XD D φ1 H1 φ2 H2) : XD D φ H φ2 H2 :=
  ⟨x.pre.trans y.pre, fun a o h n e => let ⟨h1, e1⟩ := x.keep a o h n e; y.keep a o h1 n e1⟩
theorem XD.of (x : Ext φ H φ1 H1) : XD D φ H φ1 H1 := ⟨x.pre, fun a o h _ e => x.keep a o h e⟩
theorem XD.upd {o : HO} : XD D φ H φ (upd H D o) := ⟨List.prefix_rfl, fun a o h n e => ⟨h, by rw [upd_ne n]; exact e⟩⟩
theorem XD.get (x : XD D φ H φ1 H1) {i : Nat} {a : Addr} (e : φ[i]? = some a) : φ1[i]? = some a := by
  obtain ⟨r, rfl⟩ := x.pre
  obtain ⟨h, _⟩ := List.getElem?_eq_some_iff.mp e
  rw [List.getElem?_append_left h]
  exact e
theorem XD.tr (x : XD D φ H φ1 H1) (ψ : List Addr) : Tr φ (D :: ψ) H φ1 (D :: ψ) H1 :=
  ⟨fun _ _ e => x.get e, fun a o h e => by
    have n : a ≠ D := fun z => h.2 (by rw [z]; exact List.mem_cons_self)
    obtain ⟨h1, e1⟩ := x.keep a o h.1 n e
    exact ⟨⟨h1, h.2⟩, e1⟩⟩
/-- from ahead of D -/
theorem XD.ext {o : HO} (hD : H D = none) (x : XD D φ (L2.upd H D o) φ1 H1) : Ext φ H φ1 H1 :=
  ⟨x.pre, fun a u h e => x.keep a u h (ne_of_none e hD) (by rw [upd_ne (ne_of_none e hD)]; exact e)⟩
theorem XD.tr0 {o : HO} (hD : H D = none) (x : XD D φ (L2.upd H D o) φ1 H1) : Tr φ ψ H φ1 (D :: ψ) H1 :=
  ⟨fun _ _ e => x.get e, fun a u h e => by
    have n : a ≠ D := ne_of_none e hD
    obtain ⟨h1, e1⟩ := (x.ext hD).keep a u h.1 e
    exact ⟨⟨h1, fun hm => (List.mem_cons.mp hm).elim n h.2⟩, e1⟩⟩
end
theorem loop_ok {CD : List T → List Addr → Hp → Prop} {D : Addr} {ψ φ0 ψ0 φs : List Addr} {H0 Hs : Hp} {Ms Mend : Mem} {items acc0 out : List T} {g : List (Nat × List T)} {step : T → Mem → Option (List T × Mem)} {J : It} {body : V → Hp → (Hp → Prop) → Prop} {Fin : Hp → Prop}
    {Lim : List T → Prop} (hw : WalkM K φ0 ψ0 H0 items g J) (hT : ∀ φ H, XD D φs Hs φ H → Tr φ0 ψ0 H0 φ (D :: ψ) H)
    (hCD : ∀ acc φ H φ' H', D ∉ φ → CD acc φ H → Ext φ H φ' H' → CD acc φ' H') (rm : RM K φs (D :: ψ) Hs Ms) (hc : CD acc0 φs Hs) (hl : lcC g step items Ms = some (out, Mend))
    (hLim : ∀ a b, Lim (a ++ b) → Lim a) (hlim : Lim (acc0 ++ out))
    (hb : ∀ φ H M t x o M' acc Nx, XD D φs Hs φ H → RM K φ (D :: ψ) H M → CD acc φ H → RT K φ (D :: ψ) H t x → step t M = some (o, M') → Lim (acc ++ o) →
      (∀ φ' H', XD D φ H φ' H' → RM K φ' (D :: ψ) H' M' → CD (acc ++ o) φ' H' → Nx H') → body x H Nx)
    (hf : ∀ φ H, XD D φs Hs φ H → RM K φ (D :: ψ) H Mend → CD (acc0 ++ out) φ H → Fin H) :
    ∃ W : Nat → Nat → Hp → Prop, (∃ m, W 0 m Hs) ∧ ∀ i m H, W i m H → (J.stop i H ∧ Fin H) ∨ (J.go i H ∧ ∃ Nx : Hp → Prop, (∀ H', Nx H' → ∃ m', m' < m ∧ W (i + 1) m' H') ∧ ∀ x H', J.yld i H x H' → body x H' Nx) := by
  refine ⟨fun i m H => m = items.length - i ∧ i ≤ items.length ∧ ∃ φ M acc rest, XD D φs Hs φ H ∧ RM K φ (D :: ψ) H M ∧ CD acc φ H ∧ lcC g step (items.drop i) M = some (rest, Mend) ∧ acc ++ rest = acc0 ++ out,
    ⟨_, rfl, Nat.zero_le _, φs, Ms, acc0, out, .refl, rm, hc, hl, rfl⟩, ?_⟩
  rintro i m H ⟨rfl, hi, φ, M, acc, rest, x, rmi, hci, hli, ha⟩
  by_cases hlt : i < items.length
  · rw [List.drop_eq_getElem_cons hlt] at hli
    rw [lcC] at hli
    split at hli
    case isFalse => cases hli
    rename_i hg
    obtain ⟨p, e1, hli⟩ := bnd hli
    obtain ⟨q, e2, hli⟩ := mpd hli
    have e3 : p.1 ++ q.1 = rest := congrArg Prod.fst hli
    have e4 : q.2 = Mend := congrArg Prod.snd hli
    have e2 : lcC g step (items.drop (i + 1)) p.2 = some (q.1, Mend) := by rw [e2, ← e4]
    rw [← e3] at ha
    refine .inr ⟨hw.goes i φ (D :: ψ) H M hlt (hT φ H x) rmi hg, fun H' => ∃ φ', XD D φs Hs φ' H' ∧ RM K φ' (D :: ψ) H' p.2 ∧ CD (acc ++ p.1) φ' H', fun H' ⟨φ', y1, y2, y3⟩ => ?_, fun v H' hy => ?_⟩
    · exact ⟨items.length - (i + 1), by omega, rfl, hlt, φ', p.2, acc ++ p.1, q.1, y1, y2, y3, e2, by rw [List.append_assoc]; exact ha⟩
    · obtain ⟨t, ht, x2, rm2, rt⟩ := hw.yields i φ (D :: ψ) H M v H' hlt (hT φ H x) rmi hg hy
      rw [List.getElem?_eq_getElem hlt] at ht
      cases ht
      have hDφ : D ∉ φ := fun hm => rmi.ap D hm List.mem_cons_self
      refine hb φ H' M _ v p.1 p.2 acc _ (x.trans (.of x2)) rm2 (hCD _ _ _ _ _ hDφ hci x2) rt e1 (hLim _ q.1 (by rw [List.append_assoc, ha]; exact hlim)) fun φ' H'' y1 y2 y3 => ⟨φ', (x.trans (.of x2)).trans y1, y2, y3⟩
  · have e : i = items.length := by omega
    subst e
    rw [List.drop_length, lcC] at hli
    split at hli
    case isFalse => cases hli
    rename_i hg
    cases hli
    rw [List.append_nil] at ha
    subst ha
    exact .inl ⟨hw.stops φ (D :: ψ) H _ (hT φ H x) rmi hg, hf φ H x rmi hci⟩
/-- what a list at D holds so far -/
def CDl (K : KC) (ψ : List Addr) (D : Addr) (acc : List T) (φ : List Addr) (H : Hp) : Prop := ∃ accs, H D = some (.lst accs) ∧ RTs K φ (D :: ψ) H acc accs
theorem CDl.ext {ψ : List Addr} {D : Addr} {acc : List T} {φ φ' : List Addr} {H H' : Hp} (hD : D ∉ φ) (h : CDl K ψ D acc φ H) (x : Ext φ H φ' H') : CDl K ψ D acc φ' H' := by
  obtain ⟨accs, h1, h2⟩ := h
  exact ⟨accs, (x.keep D _ hD h1).2, h2.to x⟩
theorem CDl.put {ψ : List Addr} {D : Addr} {acc : List T} {accs : List V} {φ : List Addr} {H : Hp} {t : T} {v : V} (h1 : RTs K φ (D :: ψ) H acc accs) (r : RT K φ (D :: ψ) H t v) : CDl K ψ D (acc ++ [t]) φ (upd H D (.lst (accs ++ [v]))) :=
  ⟨accs ++ [v], upd_same, RTs.tr .resw _ _ (h1.append (.cons r .nil))⟩
def Lim0 (l : List T) : Prop := l.length ≤ 16777216
theorem lim0 : ∀ a b, Lim0 (a ++ b) → Lim0 a := fun a b h => by unfold Lim0 at h ⊢; rw [List.length_append] at h; omega
noncomputable def stepL (G : Sig) (tg : MT) (ifs : MEs) (elt : ME) (env : En) (t : T) (M : Mem) : Option (List T × Mem) :=
  (asgT tg t env).bind fun σ2 => (evIf G ifs σ2 M).bind fun c => if c.1 then (evE G elt σ2 c.2).map fun r => ([r.1], r.2) else some ([], c.2)
/-- one turn of a list's innermost clause -/
theorem turn_l {ψ : List Addr} {D : Addr} {tg : MT} {ifs : MEs} {elt : ME} {env : En} {σb : L2.St} {vs : List Nat} {φ : List Addr} {H : Hp} {M M' : Mem} {t : T} {x : V} {o acc : List T} {Nx : Hp → Prop}
    (re : RE K φ (D :: ψ) H env (wipe σb vs)) (hv : ∀ j ∈ slT' tg, j ∈ vs) (rm : RM K φ (D :: ψ) H M) (hc : CDl K ψ D acc φ H) (rt : RT K φ (D :: ψ) H t x) (hs : stepL G tg ifs elt env t M = some (o, M')) (hl : Lim0 (acc ++ o))
    (hN : ∀ φ' H', XD D φ H φ' H' → RM K φ' (D :: ψ) H' M' → CDl K ψ D (acc ++ o) φ' H' → Nx H') :
    gM K tg x (wipe σb vs) H fun σ2 H2 => wipe σ2 vs = wipe σb vs ∧ tIf G K ifs σ2 H2 fun b H3 => if b = true then tE G K elt σ2 H3 fun y H4 => ∃ acc, H4 D = some (.lst acc) ∧ acc.length < sizeLine ∧ Nx (upd H4 D (.lst (acc ++ [y]))) else Nx H3 := by
  obtain ⟨env2, e1, hs⟩ := bnd hs
  obtain ⟨c, e2, hs⟩ := bnd hs
  have hD : D ∉ φ := fun hm => rm.ap D hm List.mem_cons_self
  refine ⟨φ, D :: ψ, env, M, t, env2, re, rm, rt, e1, fun σ2 re2 ag => ⟨by rw [ag.wipe hv, wipe_wipe], φ, D :: ψ, env2, M, c.1, c.2, re2, rm, e2, fun φ1 H1 x1 rm1 => ?_⟩⟩
  by_cases hb : c.1 = true
  · rw [if_pos hb] at hs ⊢
    obtain ⟨r, e3, hs⟩ := mpd hs
    cases hs
    refine ⟨φ1, D :: ψ, env2, c.2, r.1, r.2, re2.ext x1, rm1, e3, fun φ2 H2 y x2 rm2 r2 => ?_⟩
    obtain ⟨accs, h1, h2⟩ := hc.ext hD (x1.trans x2)
    refine ⟨accs, h1, ?_, hN φ2 _ ((XD.of (x1.trans x2)).trans .upd) rm2.resw (.put h2 r2)⟩
    rw [← h2.length, szl]
    unfold Lim0 at hl
    rw [List.length_append, List.length_singleton] at hl
    omega
  · rw [if_neg hb] at hs ⊢
    cases hs
    exact hN φ1 H1 (.of x1) rm1 (by rw [List.append_nil]; exact hc.ext hD x1)
/-- the list is done -/
theorem lc_end {ψ φ φ1 φ2 : List Addr} {H H1 H2 : Hp} {D : Addr} {o : HO} {M1 M2 : Mem} {tr : Bool} {acc : List T} {Q : VK} (x1 : Ext φ H φ1 H1) (rm1 : RM K φ1 ψ H1 M1) (hD : H1 D = none) (xd : XD D φ1 (upd H1 D o) φ2 H2) (rm2 : RM K φ2 (D :: ψ) H2 M2)
    (hc : CDl K ψ D acc φ2 H2) (ok : Ok1 K φ ψ H (mkL tr acc M2).1 (mkL tr acc M2).2 Q) : Q (.ref D) H2 := by
  obtain ⟨accs, h1, h2⟩ := hc
  have nφ : D ∉ φ2 := fun hm => rm2.ap D hm List.mem_cons_self
  have nψ : D ∉ ψ := fun hm => rm1.used D hm hD
  have x2 : Ext φ1 H1 φ2 H2 := xd.ext hD
  cases tr with
  | false => exact ok φ2 H2 _ (x1.trans x2) rm2.unres (.fl ⟨nφ, nψ⟩ h1 (RTs.tr .unres _ _ h2))
  | true =>
    have ad : Tr φ2 (D :: ψ) H2 (φ2 ++ [D]) ψ H2 := ⟨fun i a e => by
        obtain ⟨h, _⟩ := List.getElem?_eq_some_iff.mp e
        rw [List.getElem?_append_left h]; exact e, fun a u h e => ⟨⟨fun hm => by
          rcases List.mem_append.mp hm with q | q
          · exact h.1 q
          · exact h.2 (by rw [List.mem_singleton.mp q]; exact List.mem_cons_self), fun hm => h.2 (List.mem_cons_of_mem _ hm)⟩, e⟩⟩
    have x3 : Ext φ1 H1 (φ2 ++ [D]) H2 := ⟨x2.pre.trans (List.prefix_append _ _), fun a u h e => by
      obtain ⟨q1, q2⟩ := x2.keep a u h e
      refine ⟨fun hm => ?_, q2⟩
      rcases List.mem_append.mp hm with q | q
      · exact q1 q
      · exact ne_of_none e hD (List.mem_singleton.mp q)⟩
    have hi : (φ2 ++ [D])[M2.length]? = some D := by rw [← rm2.len, List.getElem?_append_right (Nat.le_refl _)]; simp
    refine ok (φ2 ++ [D]) H2 _ (x1.trans x3) ⟨by show (φ2 ++ [D]).length = (M2 ++ [O.lst acc]).length; rw [List.length_append, List.length_append, rm2.len]; rfl, ?_, fun a ha hψ => ?_, fun a ha => rm2.used a (List.mem_cons_of_mem _ ha), fun i a u e1 e2 => ?_⟩ (.obj hi)
    · refine List.nodup_append.mpr ⟨rm2.nd, by simp, fun a ha b hb => ?_⟩
      have : b = D := by simpa using hb
      subst this
      exact fun e => nφ (e ▸ ha)
    · rcases List.mem_append.mp ha with q | q
      · exact rm2.ap a q (List.mem_cons_of_mem _ hψ)
      · exact nψ (by rw [List.mem_singleton.mp q] at hψ; exact hψ)
    · have e2 : (M2 ++ [O.lst acc])[i]? = some u := e2
      by_cases hii : i < φ2.length
      · rw [List.getElem?_append_left hii] at e1
        rw [List.getElem?_append_left (by rw [← rm2.len]; exact hii)] at e2
        exact (rm2.at_ i a u e1 e2).tr ad rfl
      · have hl := rm2.len
        rw [List.getElem?_append_right (by omega)] at e1
        rw [List.getElem?_append_right (by omega)] at e2
        by_cases h0 : i - φ2.length = 0
        · rw [h0] at e1
          rw [show i - M2.length = 0 by omega] at e2
          cases e1; cases e2
          exact ⟨accs, h1, RTs.tr ad _ _ h2⟩
        · rw [List.getElem?_eq_none (by simp; omega)] at e1
          cases e1
def stepEq (G : Sig) (tr : Bool) (own : List (Str × Nat)) (tg : MT) (it : MI) (ifs : MEs) (elt : ME) (σ : En) (M : Mem) : evE G (.lc tr own tg it ifs elt) σ M = (evI G it σ M).bind fun p =>
      (lcC p.1.2 (stepL G tg ifs elt (wipeE σ (own.map (·.2)))) p.1.1 p.2).bind fun q => if q.1.length ≤ 16777216 then some (mkL tr q.1 q.2) else none := by
  rw [evE]; rfl
theorem rd_lc {tr : Bool} {own : List (Str × Nat)} {tg : MT} {it : MI} {ifs : MEs} {elt : ME} (hv : ∀ j ∈ slT' tg, j ∈ own.map (·.2)) {σ : L2.St} {H : Hp} {Q : VK} (h : tE G K (.lc tr own tg it ifs elt) σ H Q) :
    tLc (iM G K it) (gM K tg) (tIf G K ifs) (tE G K elt) (own.map (·.2)) σ H Q := by
  obtain ⟨φ, ψ, env, M, t, M', re, rm, ev, ok⟩ := h
  rw [stepEq] at ev
  obtain ⟨p, e1, ev⟩ := bnd ev
  obtain ⟨q, e2, ev⟩ := bnd ev
  split at ev
  case isFalse => cases ev
  rename_i hl
  have ev := Option.some.inj ev
  refine ⟨φ, ψ, env, M, p.1, p.2, re, rm, e1, fun φ1 H1 J x1 rm1 hw D hD => ?_⟩
  have re1 : RE K φ1 (D :: ψ) (upd H1 D (.lst [])) (wipeE env (own.map (·.2))) (wipe σ (own.map (·.2))) := ((re.ext x1).tr (.resv hD)).wipe _
  refine loop_ok (CD := CDl K ψ D) (Lim := Lim0) (acc0 := []) hw (fun φ' H' x => x.tr0 hD) (fun acc φ H φ' H' hD h x => h.ext hD x) (rm1.resv hD) ⟨[], upd_same, .nil⟩ e2 lim0 (by rw [List.nil_append]; exact hl)
    (fun φ' H' M1 t' x o M2 acc Nx x2 rm2 hc rt hs hl hN => turn_l (re1.tr (x2.tr ψ)) hv rm2 hc rt hs hl hN) fun φ' H' x2 rm2 hc => ?_
  rw [List.nil_append] at hc
  refine lc_end x1 rm1 hD x2 rm2 hc (tr := tr) ?_
  rw [ev]
  exact ok
end Mi
end L2

/-! Mini: comprehensions are sound, by their forms. -/
namespace L2
namespace Mi
open PySem PySem.Spec PyProof.Rows
variable {G : Sig} {K : KC} {k : Nat}
theorem all_mem {js ks : List Nat} (h : (js.all fun j => decide (j ∈ ks)) = true) : ∀ j ∈ js, j ∈ ks := fun j hj => of_decide_eq_true (List.all_eq_true.mp h j hj)
theorem blk_kind {N : List Str} {sc scope : Scope} {own : List (Str × Nat)} (h : blkC N sc scope own = true) : scope.kind = .function := (blkOk_by h).kind
theorem s_lc {tr : Bool} {own : List (Str × Nat)} {tg : MT} {it : MI} {ifs : MEs} {elt : ME} (hi : SI G K k it) (hg : SG G K k tg) (hf : SIf G K k ifs) (he : SE G K k elt) : SE G K k (.lc tr own tg it ifs elt) := by
  intro N sc ow X e g h
  unfold okE at h
  split at h <;> (try cases h) <;> rename_i q <;> cases q
  simp only [Bool.and_eq_true] at h
  obtain ⟨⟨⟨⟨⟨⟨⟨h1, h2⟩, h3⟩, h4⟩, h5⟩, h6⟩, h7⟩, h8⟩ := h
  have hk := blk_kind h1
  exact se_of g.hK (PE.imp (pe_lc g.hc (by rw [g.hN]; exact g.nd) (hi N sc ow X _ _ g h4) (by rw [g.hN, g.sc_]; exact blkOk_by h1) (fun s H C cl fp => hg _ _ _ _ _ (g.blk hk h2) h5) (fun s H C cl fp => hf _ _ _ _ _ (g.blk hk h2) h7)
    (fun s H C cl fp => (he _ _ _ _ _ (g.blk hk h2) h8).1) (fold_set h3)) fun σ H Q q => rd_lc (all_mem h6) q) rfl
/-- the same as a store to a name on one line -/
theorem s_setlc {tr : Bool} {own : List (Str × Nat)} {tg : MT} {it : MI} {ifs : MEs} {elt : ME} (hi : SI G K k it) (hg : SG G K k tg) (hf : SIf G K k ifs) (he : SE G K k elt) {N : List Str} {sc : Scope} {ow : List Str} {X : Cx} {e : Expr} {i : Nat} {y : Str} {py spos : Pos} (g : GC G K k N sc ow X)
    (h : okE N sc (.lc tr own tg it ifs elt) e = true) (hy : N[i]? = some y) (hl : sc.names.lookup y = some .local) (hsw : swapsWith e (some (.Name y py)) spos.line X.env = pure true) :
    PS X (.Assign [.Name y py] e spos) (tAsg (tE G K (.lc tr own tg it ifs elt)) (gName i)) := by
  unfold okE at h
  split at h <;> (try cases h) <;> rename_i q <;> cases q
  simp only [Bool.and_eq_true] at h
  obtain ⟨⟨⟨⟨⟨⟨⟨h1, h2⟩, h3⟩, h4⟩, h5⟩, h6⟩, h7⟩, h8⟩ := h
  have hk := blk_kind h1
  exact PS.imp (ps_setLc g.hc (by rw [g.hN]; exact g.nd) (by rw [g.hN]; exact hy) (by rw [g.sc_]; exact hl) hsw (hi N sc ow X _ _ g h4) (by rw [g.hN, g.sc_]; exact blkOk_by h1) (fun s H C cl fp => hg _ _ _ _ _ (g.blk hk h2) h5) (fun s H C cl fp => hf _ _ _ _ _ (g.blk hk h2) h7)
    (fun s H C cl fp => (he _ _ _ _ _ (g.blk hk h2) h8).1) (fold_set h3)) fun D σ H q => rd_lc (all_mem h6) q
/-! ### two clauses -/
noncomputable def stepL2 (G : Sig) (tg : MT) (ifs : MEs) (vs1 : List Nat) (tg1 : MT) (it1 : MI) (ifs1 : MEs) (elt : ME) (env : En) (t : T) (M : Mem) : Option (List T × Mem) :=
  (asgT tg t env).bind fun σ2 => (evIf G ifs σ2 M).bind fun c => if c.1 then (evI G it1 σ2 c.2).bind fun p1 => lcC p1.1.2 (stepL G tg1 ifs1 elt (wipeE σ2 vs1)) p1.1.1 p1.2 else some ([], c.2)
theorem step2Eq (tr : Bool) (own : List (Str × Nat)) (tg : MT) (it : MI) (ifs : MEs) (vs1 : List Nat) (tg1 : MT) (it1 : MI) (ifs1 : MEs) (elt : ME) (σ : En) (M : Mem) : evE G (.lc2 tr own tg it ifs vs1 tg1 it1 ifs1 elt) σ M = (evI G it σ M).bind fun p =>
      (lcC p.1.2 (stepL2 G tg ifs vs1 tg1 it1 ifs1 elt (wipeE σ (own.map (·.2)))) p.1.1 p.2).bind fun q => if q.1.length ≤ 16777216 then some (mkL tr q.1 q.2) else none := by
  rw [evE]; rfl
theorem rd_lc2 {tr : Bool} {own : List (Str × Nat)} {tg tg1 : MT} {it it1 : MI} {ifs ifs1 : MEs} {elt : ME} {vs1 : List Nat} (hv : ∀ j ∈ slT' tg, j ∈ own.map (·.2)) (hv1 : ∀ j ∈ slT' tg1, j ∈ vs1) {σ : L2.St} {H : Hp} {Q : VK} (h : tE G K (.lc2 tr own tg it ifs vs1 tg1 it1 ifs1 elt) σ H Q) :
    tLc2 (iM G K it) (gM K tg) (tIf G K ifs) (iM G K it1) (gM K tg1) (tIf G K ifs1) (tE G K elt) (own.map (·.2)) vs1 σ H Q := by
  obtain ⟨φ, ψ, env, M, t, M', re, rm, ev, ok⟩ := h
  rw [step2Eq] at ev
  obtain ⟨p, e1, ev⟩ := bnd ev
  obtain ⟨q, e2, ev⟩ := bnd ev
  split at ev
  case isFalse => cases ev
  rename_i hl
  have ev := Option.some.inj ev
  refine ⟨φ, ψ, env, M, p.1, p.2, re, rm, e1, fun φ1 H1 J x1 rm1 hw D hD => ?_⟩
  have re1 : RE K φ1 (D :: ψ) (upd H1 D (.lst [])) (wipeE env (own.map (·.2))) (wipe σ (own.map (·.2))) := ((re.ext x1).tr (.resv hD)).wipe _
  refine loop_ok (CD := CDl K ψ D) (Lim := Lim0) (acc0 := []) hw (fun φ' H' x => x.tr0 hD) (fun acc φ H φ' H' hD h x => h.ext hD x) (rm1.resv hD) ⟨[], upd_same, .nil⟩ e2 lim0 (by rw [List.nil_append]; exact hl)
    (fun φ' H' M1 t' x o M2 acc Nx x2 rm2 hc rt hs hl hN => ?_) fun φ' H' x2 rm2 hc => ?_
  · obtain ⟨env2, e1, hs⟩ := bnd hs
    obtain ⟨c, e2, hs⟩ := bnd hs
    have hDn : D ∉ φ' := fun hm => rm2.ap D hm List.mem_cons_self
    refine ⟨φ', D :: ψ, _, M1, t', env2, re1.tr (x2.tr ψ), rm2, rt, e1, fun σ2 re2 ag => ⟨by rw [ag.wipe hv, wipe_wipe], φ', D :: ψ, env2, M1, c.1, c.2, re2, rm2, e2, fun φ3 H3 x3 rm3 => ?_⟩⟩
    by_cases hb : c.1 = true
    · rw [if_pos hb] at hs ⊢
      obtain ⟨p1, e3, hs⟩ := bnd hs
      refine ⟨φ3, D :: ψ, env2, c.2, p1.1, p1.2, re2.ext x3, rm3, e3, fun φ4 H4 J1 x4 rm4 hw1 => ?_⟩
      refine loop_ok (CD := CDl K ψ D) (Lim := Lim0) (acc0 := acc) (out := o) hw1 (fun φ' H' x => x.tr ψ) (fun acc φ H φ' H' hD h x => h.ext hD x) rm4 (hc.ext hDn (x3.trans x4)) hs lim0 hl
        (fun φ5 H5 M5 t5 x5 o5 M6 acc5 Nx5 y5 rm5 hc5 rt5 hs5 hl5 hN5 => ?_) fun φ5 H5 y5 rm5 hc5 => hN φ5 H5 ((XD.of (x3.trans x4)).trans y5) rm5 hc5
      exact turn_l ((((re2.ext x3).ext x4).tr (y5.tr ψ)).wipe vs1) hv1 rm5 hc5 rt5 hs5 hl5 hN5
    · rw [if_neg hb] at hs ⊢
      cases hs
      exact hN φ3 H3 (.of x3) rm3 (by rw [List.append_nil]; exact hc.ext hDn x3)
  · rw [List.nil_append] at hc
    refine lc_end x1 rm1 hD x2 rm2 hc (tr := tr) ?_
    rw [ev]
    exact ok
theorem s_lc2 {tr : Bool} {own : List (Str × Nat)} {tg tg1 : MT} {it it1 : MI} {ifs ifs1 : MEs} {elt : ME} {vs1 : List Nat} (hi : SI G K k it) (hg : SG G K k tg) (hf : SIf G K k ifs) (hi1 : SI G K k it1) (hg1 : SG G K k tg1) (hf1 : SIf G K k ifs1) (he : SE G K k elt) :
    SE G K k (.lc2 tr own tg it ifs vs1 tg1 it1 ifs1 elt) := by
  intro N sc ow X e g h
  unfold okE at h
  split at h <;> (try cases h) <;> rename_i q <;> cases q
  simp only [Bool.and_eq_true] at h
  obtain ⟨⟨⟨⟨⟨⟨⟨⟨⟨⟨⟨⟨⟨h1, h2⟩, h3⟩, h3'⟩, h4⟩, h5⟩, h6⟩, h7⟩, h9⟩, h10⟩, h11⟩, h12⟩, h13⟩, h8⟩ := h
  have hk := blk_kind h1
  exact se_of g.hK (PE.imp (pe_lc2 (vs1 := vs1) g.hc (by rw [g.hN]; exact g.nd) (hi N sc ow X _ _ g h4) (by rw [g.hN, g.sc_]; exact blkOk_by h1) (all_mem h9) (fun s H C cl fp => hg _ _ _ _ _ (g.blk hk h2) h5) (fun s H C cl fp => hf _ _ _ _ _ (g.blk hk h2) h7)
    (fun s H C cl fp => (he _ _ _ _ _ (g.blk hk h2) h8).1) (hs := fold_set h3) (hi1 := fun s H C cl fp => hi1 _ _ _ _ _ _ (g.blk hk h2) h10) (hg1 := fun s H C cl fp => hg1 _ _ _ _ _ (g.blk hk h2) h11) (ht1 := fun s H C cl fp => hf1 _ _ _ _ _ (g.blk hk h2) h13) (hs1 := fun env => fold_set h3')) fun σ H Q q => rd_lc2 (all_mem h6) (all_mem h12) q) rfl
theorem s_setlc2 {tr : Bool} {own : List (Str × Nat)} {tg tg1 : MT} {it it1 : MI} {ifs ifs1 : MEs} {elt : ME} {vs1 : List Nat} (hi : SI G K k it) (hg : SG G K k tg) (hf : SIf G K k ifs) (hi1 : SI G K k it1) (hg1 : SG G K k tg1) (hf1 : SIf G K k ifs1) (he : SE G K k elt)
    {N : List Str} {sc : Scope} {ow : List Str} {X : Cx} {e : Expr} {i : Nat} {y : Str} {py spos : Pos} (g : GC G K k N sc ow X)
    (h : okE N sc (.lc2 tr own tg it ifs vs1 tg1 it1 ifs1 elt) e = true) (hy : N[i]? = some y) (hl : sc.names.lookup y = some .local) (hsw : swapsWith e (some (.Name y py)) spos.line X.env = pure true) :
    PS X (.Assign [.Name y py] e spos) (tAsg (tE G K (.lc2 tr own tg it ifs vs1 tg1 it1 ifs1 elt)) (gName i)) := by
  unfold okE at h
  split at h <;> (try cases h) <;> rename_i q <;> cases q
  simp only [Bool.and_eq_true] at h
  obtain ⟨⟨⟨⟨⟨⟨⟨⟨⟨⟨⟨⟨⟨h1, h2⟩, h3⟩, h3'⟩, h4⟩, h5⟩, h6⟩, h7⟩, h9⟩, h10⟩, h11⟩, h12⟩, h13⟩, h8⟩ := h
  have hk := blk_kind h1
  exact PS.imp (ps_setLc2 (vs1 := vs1) g.hc (by rw [g.hN]; exact g.nd) (by rw [g.hN]; exact hy) (by rw [g.sc_]; exact hl) hsw (hi N sc ow X _ _ g h4) (by rw [g.hN, g.sc_]; exact blkOk_by h1) (all_mem h9) (fun s H C cl fp => hg _ _ _ _ _ (g.blk hk h2) h5) (fun s H C cl fp => hf _ _ _ _ _ (g.blk hk h2) h7)
    (fun s H C cl fp => (he _ _ _ _ _ (g.blk hk h2) h8).1) (hs := fold_set h3) (hi1 := fun s H C cl fp => hi1 _ _ _ _ _ _ (g.blk hk h2) h10) (hg1 := fun s H C cl fp => hg1 _ _ _ _ _ (g.blk hk h2) h11) (ht1 := fun s H C cl fp => hf1 _ _ _ _ _ (g.blk hk h2) h13) (hs1 := fun env => fold_set h3')) fun D σ H q => rd_lc2 (all_mem h6) (all_mem h12) q
end Mi
end L2

/-! Mini: dict comprehensions; do statements stand for the text. -/
namespace L2
namespace Mi
open PySem PySem.Spec PyProof.Rows
variable {G : Sig} {K : KC} {k : Nat}
/-! ### dict comprehensions -/
def CDd (K : KC) (ψ : List Addr) (D : Addr) (acc : List T) (φ : List Addr) (H : Hp) : Prop :=
  acc.length % 2 = 0 ∧ ∃ kvs : List (Key × V), H D = some (.dK kvs) ∧ (dcPut acc ([], [])).1 = kvs.map (fun p => keyT p.1) ∧ RTs K φ (D :: ψ) H (dcPut acc ([], [])).2 (kvs.map (·.2)) ∧ kvs.length ≤ acc.length
theorem CDd.ext {ψ : List Addr} {D : Addr} {acc : List T} {φ φ' : List Addr} {H H' : Hp} (hD : D ∉ φ) (h : CDd K ψ D acc φ H) (x : Ext φ H φ' H') : CDd K ψ D acc φ' H' := by
  obtain ⟨h0, kvs, h1, h2, h3, h4⟩ := h
  exact ⟨h0, kvs, (x.keep D _ hD h1).2, h2, h3.to x, h4⟩
theorem dcPut_app : ∀ (acc : List T) (a : List T × List T) (k v : T), acc.length % 2 = 0 → dcPut (acc ++ [k, v]) a = putD (dcPut acc a).1 (dcPut acc a).2 k v
  | [], a, k, v, _ => rfl
  | [x], a, k, v, h => by simp at h
  | x :: y :: r, a, k, v, h => by
    show dcPut (x :: y :: (r ++ [k, v])) a = _
    rw [dcPut, dcPut]
    exact dcPut_app r _ k v (by simp only [List.length_cons] at h; omega)
theorem putK_len {κ : Type} [DecidableEq κ] (kvs : List (κ × V)) (k : κ) (v : V) : (putK kvs k v).length ≤ kvs.length + 1 := by
  unfold putK
  split
  · rw [List.length_map]; omega
  · rw [List.length_append]; simp
def Lim1 (l : List T) : Prop := l.length ≤ 1000000
theorem lim1 : ∀ a b, Lim1 (a ++ b) → Lim1 a := fun a b h => by unfold Lim1 at h ⊢; rw [List.length_append] at h; omega
noncomputable def stepD (G : Sig) (tg : MT) (k v : ME) (env : En) (t : T) (M : Mem) : Option (List T × Mem) :=
  (asgT tg t env).bind fun σ2 => (evE G k σ2 M).bind fun a => (evE G v σ2 a.2).bind fun b => if isKey a.1 then some ([a.1, b.1], b.2) else none
theorem stepDEq (own : List (Str × Nat)) (tg : MT) (it : MI) (kx vx : ME) (σ : En) (M : Mem) : evE G (.dc own tg it kx vx) σ M = (evI G it σ M).bind fun p =>
      (lcC p.1.2 (stepD G tg kx vx (wipeE σ (own.map (·.2)))) p.1.1 p.2).bind fun q => if q.1.length ≤ 1000000 then some (.fd false (dcPut q.1 ([], [])).1 (dcPut q.1 ([], [])).2, q.2) else none := by
  rw [evE]; rfl
theorem rd_dc {own : List (Str × Nat)} {tg : MT} {it : MI} {kx vx : ME} (hv : ∀ j ∈ slT' tg, j ∈ own.map (·.2)) {σ : L2.St} {H : Hp} {Q : VK} (h : tE G K (.dc own tg it kx vx) σ H Q) :
    tDc (iM G K it) (gM K tg) tYes (tE G K kx) (tE G K vx) (own.map (·.2)) σ H Q := by
  obtain ⟨φ, ψ, env, M, t, M', re, rm, ev, ok⟩ := h
  rw [stepDEq] at ev
  obtain ⟨p, e1, ev⟩ := bnd ev
  obtain ⟨q, e2, ev⟩ := bnd ev
  split at ev
  case isFalse => cases ev
  rename_i hl
  have ev := Option.some.inj ev
  refine ⟨φ, ψ, env, M, p.1, p.2, re, rm, e1, fun φ1 H1 J x1 rm1 hw D hD => ?_⟩
  have re1 : RE K φ1 (D :: ψ) (upd H1 D (.dK [])) (wipeE env (own.map (·.2))) (wipe σ (own.map (·.2))) := ((re.ext x1).tr (.resv hD)).wipe _
  refine loop_ok (CD := CDd K ψ D) (Lim := Lim1) (acc0 := []) hw (fun φ' H' x => x.tr0 hD) (fun acc φ H φ' H' hD h x => h.ext hD x) (rm1.resv hD) ⟨rfl, [], upd_same, rfl, .nil, Nat.zero_le _⟩ e2 lim1 (by rw [List.nil_append]; exact hl)
    (fun φ' H' M1 t' x o M2 acc Nx x2 rm2 hc rt hs hl hN => ?_) fun φ' H' x2 rm2 hc => ?_
  · obtain ⟨env2, e1, hs⟩ := bnd hs
    obtain ⟨a, e2, hs⟩ := bnd hs
    obtain ⟨b, e3, hs⟩ := bnd hs
    split at hs
    case isFalse => cases hs
    rename_i hkey
    have hs := Option.some.inj hs
    have ho : o = [a.1, b.1] := (congrArg Prod.fst hs).symm
    have hM : b.2 = M2 := congrArg Prod.snd hs
    subst ho
    have hDn : D ∉ φ' := fun hm => rm2.ap D hm List.mem_cons_self
    refine ⟨φ', D :: ψ, _, M1, t', env2, re1.tr (x2.tr ψ), rm2, rt, e1, fun σ2 re2 ag => ⟨by rw [ag.wipe hv, wipe_wipe], ?_⟩⟩
    show tE G K kx σ2 H' _
    refine ⟨φ', D :: ψ, env2, M1, a.1, a.2, re2, rm2, e2, fun φ3 H3 y x3 rm3 r3 => ⟨φ3, D :: ψ, env2, a.2, b.1, b.2, re2.ext x3, rm3, e3, fun φ4 H4 z x4 rm4 r4 => ?_⟩⟩
    obtain ⟨ky, ek, ey⟩ := key_of_isKey hkey r3
    obtain ⟨h0, kvs, h1, h2, h3, h4⟩ := hc.ext hDn (x3.trans x4)
    refine ⟨kvs, ky, ey, h1, ?_, hN φ4 _ ((XD.of (x3.trans x4)).trans .upd) (hM ▸ rm4.resw) ?_⟩
    · rw [szl]
      unfold Lim1 at hl
      rw [List.length_append] at hl
      omega
    · obtain ⟨p1, p2⟩ := putD_ok (fun a b => keyT_inj) ky r4 h3
      rw [← h2, ← ek, ← dcPut_app acc _ _ _ h0] at p1 p2
      refine ⟨by rw [List.length_append]; show (acc.length + 2) % 2 = 0; omega, _, upd_same, p1, RTs.tr .resw _ _ p2, ?_⟩
      have := putK_len kvs ky z
      rw [List.length_append]
      show _ ≤ acc.length + 2
      omega
  · rw [List.nil_append] at hc
    obtain ⟨h0, kvs, h1, h2, h3, h4⟩ := hc
    have e4 : t = .fd false (dcPut q.1 ([], [])).1 (dcPut q.1 ([], [])).2 := (congrArg Prod.fst ev).symm
    have e5 : q.2 = M' := congrArg Prod.snd ev
    rw [e4, ← e5] at ok
    exact ok φ' H' _ (x1.trans (x2.ext hD)) rm2.unres (.fdK ⟨fun hm => rm2.ap D hm List.mem_cons_self, fun hm => rm1.used D hm hD⟩ h1 h2 (RTs.tr .unres _ _ h3))
theorem s_dc {own : List (Str × Nat)} {tg : MT} {it : MI} {kx vx : ME} (hi : SI G K k it) (hg : SG G K k tg) (hk' : SE G K k kx) (he : SE G K k vx) : SE G K k (.dc own tg it kx vx) := by
  intro N sc ow X e g h
  unfold okE at h
  split at h <;> (try cases h) <;> rename_i q <;> cases q
  simp only [Bool.and_eq_true] at h
  obtain ⟨⟨⟨⟨⟨⟨⟨h1, h2⟩, h3⟩, h4⟩, h5⟩, h6⟩, h7⟩, h8⟩ := h
  have hk := blk_kind h1
  exact se_of g.hK (PE.imp (pe_dc g.hc (by rw [g.hN]; exact g.nd) (hi N sc ow X _ _ g h4) (by rw [g.hN, g.sc_]; exact blkOk_by h1) (fun s H C cl fp => hg _ _ _ _ _ (g.blk hk h2) h5) (fun s H C cl fp => pts_nil)
    (fun s H C cl fp => (hk' _ _ _ _ _ (g.blk hk h2) h7).1) (fun s H C cl fp => (he _ _ _ _ _ (g.blk hk h2) h8).1) (fold_set h3)) fun σ H Q q => rd_dc (all_mem h6) q) rfl
theorem ps_setDc {X : Cx} {i : Nat} {y : Str} {py : Pos} {kx vx tg iter : Expr} {ifs : List Expr} {scope : Scope} {own : List (Str × Nat)} {pos spos : Pos} {wi : TI} {g : TG} {tt : TT} {tk tv : TE} (hc : X.calm = true) (hN : X.N.Nodup) (hy : X.N[i]? = some y) (hyl : X.env.scope.names.lookup y = some .local)
    (hsw : swapsWith (.DictComp kx vx [⟨tg, iter, ifs, 0⟩] scope pos) (some (.Name y py)) spos.line X.env = pure true) (hi : PI X tg iter wi) (ok : BlkOk X.N X.env.scope scope own)
    (hg : ∀ (s : Shared) (H : Hp) (C : Addr) (cl : List (Str × Addr)) (fp : List Addr), PG (X.blk s H scope (compEnvC scope cl C X.env) fp) tg g) (ht : ∀ (s : Shared) (H : Hp) (C : Addr) (cl : List (Str × Addr)) (fp : List Addr), PTs (X.blk s H scope (compEnvC scope cl C X.env) fp) ifs tt)
    (hk : ∀ (s : Shared) (H : Hp) (C : Addr) (cl : List (Str × Addr)) (fp : List Addr), PE (X.blk s H scope (compEnvC scope cl C X.env) fp) kx tk)
    (he : ∀ (s : Shared) (H : Hp) (C : Addr) (cl : List (Str × Addr)) (fp : List Addr), PE (X.blk s H scope (compEnvC scope cl C X.env) fp) vx tv) (hs : ∀ x, foldedSetIterable iter X.env x = pure x) :
    PS X (.Assign [.Name y py] (.DictComp kx vx [⟨tg, iter, ifs, 0⟩] scope pos) spos) (tAsg (tDc wi g tt tk tv (own.map (·.2))) (gName i)) := by
  refine ⟨fun pins s σ H D I h => ?_⟩
  rw [exec_Assign_Name_used _ _ _ _ hsw]
  refine wpAny_bind (wpAny_standAt (wpAny_bind ?_))
  show wpAny _ X.A (do let _ ← comprehension (.DictComp kx vx [⟨tg, iter, ifs, 0⟩] scope pos) scope X.env (firstIterPos [⟨tg, iter, ifs, 0⟩] pos) newDict false (eval iter X.env) (some (assign (.Name y py) X.env))) _ _ s
  have h : tDc wi g tt tk tv (own.map (·.2)) σ H (fun x H1 => gName i x σ H1 D.nx) := h
  refine wpAny_bind (thn (dc_core (Qf := fun _ s' => SP X pins D .next s') hc hN I hi ok hg ht hk he hs h fun L C s' m H' I' q hn f => ?_) fun _ s' hq => wpAny_pure (wpAny_pure hq))
  show wpAny _ _ (assign (.Name y py) X.env (.ref L)) _ _ _
  refine wpAny_assign_Name (store_ok2 (v := V.ref L) I' hN hy (.inl hyl) rfl (fun s2 I2 ⟨a, sb, ha⟩ => ?_) (.inr hyl))
  obtain ⟨f0, f1, f2, f3, f4, f5⟩ := f
  have haC : C ≠ a := by
    rcases ha with z | z
    · rw [z]; exact f1
    · exact fun e => f4 y a z e.symm
  refine ⟨m, hn.sameBut sb haC, fun h3 sb3 => ?_⟩
  exact ⟨_, H', I2.turned (t' := s2.toks) (fun b o hb e => (sb3.2 b hb).trans e) f0 f1 f3 f4 f5, q⟩
theorem s_setdc {own : List (Str × Nat)} {tg : MT} {it : MI} {kx vx : ME} (hi : SI G K k it) (hg : SG G K k tg) (hk' : SE G K k kx) (he : SE G K k vx) {N : List Str} {sc : Scope} {ow : List Str} {X : Cx} {e : Expr} {i : Nat} {y : Str} {py spos : Pos} (g : GC G K k N sc ow X)
    (h : okE N sc (.dc own tg it kx vx) e = true) (hy : N[i]? = some y) (hl : sc.names.lookup y = some .local) (hsw : swapsWith e (some (.Name y py)) spos.line X.env = pure true) :
    PS X (.Assign [.Name y py] e spos) (tAsg (tE G K (.dc own tg it kx vx)) (gName i)) := by
  unfold okE at h
  split at h <;> (try cases h) <;> rename_i q <;> cases q
  simp only [Bool.and_eq_true] at h
  obtain ⟨⟨⟨⟨⟨⟨⟨h1, h2⟩, h3⟩, h4⟩, h5⟩, h6⟩, h7⟩, h8⟩ := h
  have hk := blk_kind h1
  exact PS.imp (ps_setDc g.hc (by rw [g.hN]; exact g.nd) (by rw [g.hN]; exact hy) (by rw [g.sc_]; exact hl) hsw (hi N sc ow X _ _ g h4) (by rw [g.hN, g.sc_]; exact blkOk_by h1) (fun s H C cl fp => hg _ _ _ _ _ (g.blk hk h2) h5) (fun s H C cl fp => pts_nil)
    (fun s H C cl fp => (hk' _ _ _ _ _ (g.blk hk h2) h7).1) (fun s H C cl fp => (he _ _ _ _ _ (g.blk hk h2) h8).1) (fold_set h3)) fun D σ H q => rd_dc (all_mem h6) q
/-! ### all terms -/
mutual
theorem sE : ∀ m : ME, SE G K k m
  | .var _ _ => s_var
  | .glb _ => s_glb
  | .non => s_non
  | .bl _ => s_bl
  | .int _ => s_int
  | .str _ => s_str
  | .bin _ _ a b => s_bin (sE a) (sE b)
  | .neg a => s_neg (sE a)
  | .not a => s_not (sE a)
  | .one a => s_one (sE a)
  | .and a b => s_and (sE a) (sE b)
  | .or a b => s_or (sE a) (sE b)
  | .cmp _ a b => s_cmp (sE a) (sE b)
  | .ife c a b => s_ife (sE c) (sE a) (sE b)
  | .call _ es => s_call (sA es)
  | .bi _ es => s_bi (sA es)
  | .isi a _ => s_isi (sE a)
  | .mcall _ o _ es => s_mcall (sE o) (sA es)
  | .bm _ o es => s_bm (sE o) (sA es)
  | .mk _ es => s_mk (sA es)
  | .ix a b => s_ix (sE a) (sE b)
  | .slc _ a lo hi => s_slc (sE a) (s_pa lo (sE lo)) (s_pa hi (sE hi))
  | .nopart => fun _ _ _ _ _ _ h => by simp [okE] at h
  | .rev _ a => s_rev (sE a)
  | .att _ o _ => s_att (sE o)
  | .tup es => s_tup (sA es)
  | .lst _ es => s_lst (sA es)
  | .lc _ _ tg it ifs elt => s_lc (sI it) (sT tg) (sIf ifs) (sE elt)
  | .lc2 _ _ tg it ifs _ tg1 it1 ifs1 elt => s_lc2 (sI it) (sT tg) (sIf ifs) (sI it1) (sT tg1) (sIf ifs1) (sE elt)
  | .dnew _ => s_dnew
  | .dc _ tg it kx vx => s_dc (sI it) (sT tg) (sE kx) (sE vx)
  | .sset _ => fun _ _ _ _ _ _ h => by simp [okE] at h
theorem sA : ∀ ms : MEs, SA G K k ms
  | .nil => s_nil
  | .cons e es => s_cons (sE e) (sA es)
theorem sIf : ∀ ms : MEs, SIf G K k ms
  | .nil => s_if0
  | .cons e .nil => s_if1 (sE e)
  | .cons _ (.cons _ _) => s_if2
theorem sI : ∀ m : MI, SI G K k m
  | .over a => s_over (sE a)
  | .rng1 a => s_rng1 (sE a)
  | .rng2 a b => s_rng2 (sE a) (sE b)
  | .enum a => s_enum (sE a)
  | .zip2 a b => s_zip2 (sE a) (sE b)
  | .zip3 _ _ _ => fun _ _ _ _ _ _ _ h => by simp [okI] at h
theorem sT : ∀ m : MT, SG G K k m
  | .nm _ _ => s_nm
  | .tp ts => s_tp (sTs ts)
theorem sTs : ∀ m : MTs, SGs G K k m
  | .nil => s_tn
  | .cons t ts => s_tc (sT t) (sTs ts)
end
end Mi
end L2

/-! Mini: statements are sound. -/
namespace L2
namespace Mi
open PySem PySem.Spec PyProof.Rows
variable {G : Sig} {K : KC} {k : Nat}
def swC (sc : Scope) (t : Str) (pos : Pos) : Expr → Bool
  | .ListComp _ _ scope p => (sc.names.lookup t == some .local) && (pos.line == p.line) && !(scope.names.any fun (n, k) => n == t && (k == .local || k == .cell))
  | .DictComp _ _ _ scope p => (sc.names.lookup t == some .local) && (pos.line == p.line) && !(scope.names.any fun (n, k) => n == t && (k == .local || k == .cell))
  | .SetComp _ _ scope p => (sc.names.lookup t == some .local) && (pos.line == p.line) && !(scope.names.any fun (n, k) => n == t && (k == .local || k == .cell))
  | _ => false
theorem sw_eq {v : Expr} {t : Str} {pos : Pos} {l : Nat} {env : Env} (hk : env.scope.kind = .function) : swapsWith v (some (.Name t pos)) l env = pure (swC env.scope t pos v) := by
  have hb : env.blockKind = .function := by unfold Env.blockKind; rw [hk]; rfl
  cases v with
  | ListComp a b scope p => unfold swapsWith; simp only [hb, swC, Env.kindOf, Expr.pos]; rfl
  | DictComp a b c scope p => unfold swapsWith; simp only [hb, swC, Env.kindOf, Expr.pos]; rfl
  | SetComp a b scope p => unfold swapsWith; simp only [hb, swC, Env.kindOf, Expr.pos]; rfl
  | _ => rfl
def isLc : ME → Bool
  | .lc _ _ _ _ _ _ => true
  | .lc2 _ _ _ _ _ _ _ _ _ _ => true
  | .dc _ _ _ _ _ => true
  | _ => false
def locC (sc : Scope) (x : Str) : Bool := match sc.names.lookup x with
  | some .local => true
  | _ => false
mutual
def okS (N : List Str) (sc : Scope) (ow : List Str) : MS → Stmt → Bool
  | .set i x e, .Assign [.Name y py] v _ => decide (x = y) && decide (N[i]? = some y) && decide (y ∈ ow) && okE N sc e v && (if swC sc y py v = true then isLc e && locC sc y else true)
  | .asg t e, .Assign [tg] v _ => notStar tg && !isName tg && notTup v && okT' N ow t tg && okE N sc e v
  | .par [(i, x), (j, y)] es, .Assign [.Tuple [.Name x' px, .Name y' py] _ _] (.Tuple [a, b] _ _) _ => decide (x = x') && decide (y = y') && decide (N[i]? = some x) && decide (N[j]? = some y) && !decide (i = j) && !decide (x = y) && locC sc x && locC sc y &&
      decide (py.line = px.line) && [a, b].all notStar && !([a, b].all (foldedForSure 8)) && !([a, b].all (constantsAlone 8)) && okEs N sc es [a, b]
  | .par [(i, x), (j, y), (l, z)] es, .Assign [.Tuple [.Name x' px, .Name y' py, .Name z' pz] _ _] (.Tuple [a, b, c] _ _) _ => decide (x = x') && decide (y = y') && decide (z = z') && decide (N[i]? = some x) && decide (N[j]? = some y) && decide (N[l]? = some z) &&
      !decide (i = j) && !decide (i = l) && !decide (j = l) && !decide (x = y) && !decide (x = z) && !decide (y = z) && locC sc x && locC sc y && locC sc z &&
      decide (py.line = px.line) && decide (pz.line = px.line) && [a, b, c].all notStar && !([a, b, c].all (foldedForSure 8)) && !([a, b, c].all (constantsAlone 8)) && okEs N sc es [a, b, c]
  | .setI o i e, .Assign [.Subscript x y _] v _ => notSl y && okE N sc o x && okE N sc i y && okE N sc e v
  | .setA _ o f e, .Assign [.Attribute x g _] v _ => decide (f = g) && okE N sc o x && okE N sc e v
  | .aug i x op e, .AugAssign (.Name y _) o v _ => decide (x = y) && decide (N[i]? = some y) && decide (y ∈ ow) && decide (op = o) && (decide (op = .Add) || decide (op = .Sub)) && okE N sc e v
  | .augI o i op e, .AugAssign (.Subscript x y _) o' v _ => notSl y && decide (op = o') && (decide (op = .Add) || decide (op = .Sub)) && okE N sc o x && okE N sc i y && okE N sc e v
  | .ex e, .Expr v _ => notComp v && okE N sc e v
  | .ret e, .Return (some v) _ => okE N sc e v
  | .retN, .Return none _ => true
  | .ite c a b, .If x y z _ => okE N sc c x && okSs N sc ow a y && okSs N sc ow b z
  | .whl c b, .While x y [] _ => okE N sc c x && okSs N sc ow b y
  | .for t it b, .For tg x y [] _ => notSet x && okI N sc it tg x && okT' N ow t tg && okSs N sc ow b y
  | .brk, .Break _ => true
  | .cnt, .Continue _ => true
  | .pas, .Pass _ => true
  | _, _ => false
def okSs (N : List Str) (sc : Scope) (ow : List Str) : List MS → List Stmt → Bool
  | [], [] => true
  | s :: ss, t :: ts => okS N sc ow s t && okSs N sc ow ss ts
  | _, _ => false
end
def SSt (G : Sig) (K : KC) (k : Nat) (m : MS) : Prop := ∀ (N : List Str) (sc : Scope) (ow : List Str) (X : Cx) (e : Stmt), GC G K k N sc ow X → okS N sc ow m e = true → PS X e (tS G K m)
def SSs (G : Sig) (K : KC) (k : Nat) (m : List MS) : Prop := ∀ (N : List Str) (sc : Scope) (ow : List Str) (X : Cx) (e : List Stmt), GC G K k N sc ow X → okSs N sc ow m e = true → PSs X e (tSs G K m)
section
variable {N : List Str} {sc : Scope} {ow : List Str} {X : Cx}
theorem GC.n (g : GC G K k N sc ow X) : X.N.Nodup := by rw [g.hN]; exact g.nd
theorem GC.ix (g : GC G K k N sc ow X) {i : Nat} {x : Str} (h : N[i]? = some x) : X.N[i]? = some x := by rw [g.hN]; exact h
theorem GC.lo (g : GC G K k N sc ow X) {x : Str} (h : x ∈ ow) : Loc X.env.scope x := by rw [g.sc_]; exact (g.st x h).1
theorem GC.fn' (g : GC G K k N sc ow X) {x : Str} (h : x ∈ ow) : X.fn x = true ∨ X.env.scope.names.lookup x = some .local := by rw [g.sc_]; exact (g.st x h).2
theorem GC.kd' (g : GC G K k N sc ow X) : X.env.scope.kind = .function := by rw [g.sc_]; exact g.kd
theorem GC.lc (g : GC G K k N sc ow X) {x : Str} (h : locC sc x = true) : X.env.scope.names.lookup x = some .local := by
  rw [g.sc_]
  unfold locC at h
  split at h
  · assumption
  · cases h
end
theorem t_set {i : Nat} {x : Str} {e : ME} {D : Ends} {σ : L2.St} {H : Hp} (h : tS G K (.set i x e) D σ H) : tAsg (tE G K e) (gName i) D σ H := by
  obtain ⟨φ, ψ, env, M, r, re, rm, ev, po⟩ := h
  rw [exS] at ev
  obtain ⟨p, e1, ev⟩ := mpd ev
  cases ev
  exact ⟨φ, ψ, env, M, p.1, p.2, re, rm, e1, fun φ1 H1 v x1 rm1 r1 => po φ1 H1 _ x1 rm1 ((re.ext x1).set r1)⟩
theorem s_set {i : Nat} {x : Str} {e : ME} : SSt G K k (.set i x e) := by
  intro N sc ow X st g h
  unfold okS at h
  split at h <;> (try cases h) <;> rename_i q <;> cases q
  simp only [Bool.and_eq_true, decide_eq_true_eq] at h
  obtain ⟨⟨⟨⟨rfl, h1⟩, h2⟩, h3⟩, h4⟩ := h
  rename_i py v pos
  refine PS.imp ?_ fun D σ H => t_set
  have hsw : swapsWith v (some (.Name x py)) pos.line X.env = pure (swC sc x py v) := by rw [sw_eq g.kd', g.sc_]
  cases hb : swC sc x py v with
  | false =>
    rw [hb] at hsw
    exact ps_set g.n (g.ix h1) (g.lo h2) (sE e N sc ow X v g h3).1 hsw (g.fn' h2)
  | true =>
    rw [hb] at hsw
    rw [hb, if_pos rfl, Bool.and_eq_true] at h4
    have hl : sc.names.lookup x = some .local := by have := g.lc h4.2; rwa [g.sc_] at this
    cases e with
    | lc tr own tg it ifs elt => exact s_setlc (sI it) (sT tg) (sIf ifs) (sE elt) g h3 h1 hl hsw
    | lc2 tr own tg it ifs vs1 tg1 it1 ifs1 elt => exact s_setlc2 (sI it) (sT tg) (sIf ifs) (sI it1) (sT tg1) (sIf ifs1) (sE elt) g h3 h1 hl hsw
    | dc own tg it kx vx => exact s_setdc (sI it) (sT tg) (sE kx) (sE vx) g h3 h1 hl hsw
    | _ => exact absurd h4.1 Bool.false_ne_true
theorem s_asg {t : MT} {e : ME} : SSt G K k (.asg t e) := by
  intro N sc ow X st g h
  unfold okS at h
  split at h <;> (try cases h) <;> rename_i q <;> cases q
  simp only [Bool.and_eq_true, Bool.not_eq_true'] at h
  obtain ⟨⟨⟨⟨h0, h1⟩, h2⟩, h3⟩, h4⟩ := h
  refine PS.imp (ps_asg (sE e N sc ow X _ g h4).1 (sT t N sc ow X _ g h3) (sw_tgt h1) (st_none (.inr h2)) (by rw [assign_cons h0]; rfl)) fun D σ H ⟨φ, ψ, env, M, r, re, rm, ev, po⟩ => ?_
  rw [exS] at ev
  obtain ⟨p, e1, ev⟩ := bnd ev
  obtain ⟨env1, e2, ev⟩ := mpd ev
  cases ev
  exact ⟨φ, ψ, env, M, p.1, p.2, re, rm, e1, fun φ1 H1 v x1 rm1 r1 => ⟨φ1, ψ, env, p.2, p.1, env1, re.ext x1, rm1, r1, e2, fun σ' re' _ => po φ1 H1 σ' x1 rm1 re'⟩⟩
theorem s_par {xs : List (Nat × Str)} {es : MEs} : SSt G K k (.par xs es) := by
  intro N sc ow X st g h
  unfold okS at h
  split at h <;> (try cases h) <;> rename_i q <;> cases q
  · simp only [Bool.and_eq_true, decide_eq_true_eq, Bool.not_eq_true', decide_eq_false_iff_not] at h
    obtain ⟨⟨⟨⟨⟨⟨⟨⟨⟨⟨⟨⟨rfl, rfl⟩, h1⟩, h2⟩, h3⟩, h4⟩, h5⟩, h6⟩, h7⟩, h8⟩, h9⟩, h10⟩, h11⟩ := h
    refine PS.imp (ps_par g.hc g.n (g.ix h1) (g.ix h2) h3 (g.lc h5) (g.lc h6) (sA es N sc ow X _ g h11) (sw2 g.kd' (g.lc h5) (g.lc h6) h7 h4 h8 h9 h10)) fun D σ H ⟨φ, ψ, env, M, r, re, rm, ev, po⟩ => ?_
    rw [exS] at ev
    obtain ⟨p, e1, ev⟩ := bnd ev
    split at ev
    case isFalse => cases ev
    rename_i hl
    cases ev
    refine ⟨φ, ψ, env, M, p.1, p.2, re, rm, e1, fun φ1 H1 vs x1 rm1 r1 => ?_⟩
    generalize p.1 = us at *
    match us, vs, r1, hl with
    | [u, v], [a, b], .cons ra (.cons rb .nil), _ => exact ⟨a, b, rfl, po φ1 H1 _ x1 rm1 (((re.ext x1).set ra).set rb)⟩
  · simp only [Bool.and_eq_true, decide_eq_true_eq, Bool.not_eq_true', decide_eq_false_iff_not] at h
    obtain ⟨⟨⟨⟨⟨⟨⟨⟨⟨⟨⟨⟨⟨⟨⟨⟨⟨⟨⟨⟨rfl, rfl⟩, rfl⟩, h1⟩, h2⟩, h2'⟩, h3⟩, h3'⟩, h3''⟩, h4⟩, h4'⟩, h4''⟩, h5⟩, h6⟩, h6'⟩, h7⟩, h7'⟩, h8⟩, h9⟩, h10⟩, h11⟩ := h
    refine PS.imp (ps_par3 g.hc g.n (g.ix h1) (g.ix h2) (g.ix h2') h3 h3' h3'' (g.lc h5) (g.lc h6) (g.lc h6') (sA es N sc ow X _ g h11) (sw3 g.kd' (g.lc h5) (g.lc h6) (g.lc h6') h7 h7' h4 h4' h4'' h8 h9 h10)) fun D σ H ⟨φ, ψ, env, M, r, re, rm, ev, po⟩ => ?_
    rw [exS] at ev
    obtain ⟨p, e1, ev⟩ := bnd ev
    split at ev
    case isFalse => cases ev
    rename_i hl
    cases ev
    refine ⟨φ, ψ, env, M, p.1, p.2, re, rm, e1, fun φ1 H1 vs x1 rm1 r1 => ?_⟩
    generalize p.1 = us at *
    match us, vs, r1, hl with
    | [u, v, w], [a, b, c], .cons ra (.cons rb (.cons rc .nil)), _ => exact ⟨a, b, c, rfl, po φ1 H1 _ x1 rm1 ((((re.ext x1).set ra).set rb).set rc)⟩
theorem s_setI {o i e : ME} : SSt G K k (.setI o i e) := by
  intro N sc ow X st g h
  unfold okS at h
  split at h <;> (try cases h) <;> rename_i q <;> cases q
  simp only [Bool.and_eq_true] at h
  obtain ⟨⟨⟨h0, h1⟩, h2⟩, h3⟩ := h
  have hu := g.hu
  refine PS.imp (ps_asg (sE e N sc ow X _ g h3).1 (pg_sub (sE o N sc ow X _ g h1).1 (sE i N sc ow X _ g h2).1 (op_set g.hK (by omega)) (sub_assign h0)) (by rw [swapsWithSole]; exact sw_tgt rfl) (st_none (.inl rfl)) (by rw [assign_cons rfl]; rfl)) fun D σ H ⟨φ, ψ, env, M, r, re, rm, ev, po⟩ => ?_
  rw [exS] at ev
  obtain ⟨v, e1, ev⟩ := bnd ev
  obtain ⟨p, e2, ev⟩ := bnd ev
  obtain ⟨q, e3, ev⟩ := bnd ev
  obtain ⟨M1, e4, ev⟩ := mpd ev
  cases ev
  exact ⟨φ, ψ, env, M, v.1, v.2, re, rm, e1, fun φ1 H1 vv x1 rm1 r1 => ⟨φ1, ψ, env, v.2, p.1, p.2, re.ext x1, rm1, e2, fun φ2 H2 vo x2 rm2 r2 => ⟨φ2, ψ, env, p.2, q.1, q.2, re.ext (x1.trans x2), rm2, e3, fun φ3 H3 vi x3 rm3 r3 =>
    ⟨φ3, ψ, q.2, p.1, q.1, v.1, M1, rm3, r2.to x3, r3, r1.to (x2.trans x3), e4, fun φ4 H4 x4 rm4 => po φ4 H4 σ (x1.trans (x2.trans (x3.trans x4))) rm4 (re.ext (x1.trans (x2.trans (x3.trans x4))))⟩⟩⟩⟩
theorem s_setA {c : Str} {o : ME} {f : Str} {e : ME} : SSt G K k (.setA c o f e) := by
  intro N sc ow X st g h
  unfold okS at h
  split at h <;> (try cases h) <;> rename_i q <;> cases q
  simp only [Bool.and_eq_true, decide_eq_true_eq] at h
  obtain ⟨⟨rfl, h1⟩, h2⟩ := h
  refine PS.imp (ps_fld (sE o N sc ow X _ g h1).1 (sE e N sc ow X _ g h2).1 (sw_tgt rfl)) fun D σ H ⟨φ, ψ, env, M, r, re, rm, ev, po⟩ => ?_
  rw [exS] at ev
  obtain ⟨v, e1, ev⟩ := bnd ev
  obtain ⟨p, e2, ev⟩ := bnd ev
  split at ev
  case h_2 => cases ev
  rename_i i hi
  split at ev
  case h_2 => cases ev
  rename_i c' fs hM
  split at ev
  case isFalse => cases ev
  rename_i hc
  obtain ⟨rfl, hl⟩ := hc
  obtain ⟨C, e3, ev⟩ := bnd ev
  split at ev
  case isFalse => cases ev
  rename_i hf
  cases ev
  obtain ⟨c1, _, c3, _, _⟩ := g.tab.cls _ _ e3
  refine ⟨φ, ψ, env, M, v.1, v.2, re, rm, e1, fun φ1 H1 vv x1 rm1 r1 => ⟨φ1, ψ, env, v.2, p.1, p.2, re.ext x1, rm1, e2, fun φ2 H2 vo x2 rm2 r2 => ?_⟩⟩
  rw [hi] at r2
  obtain ⟨a, dx, gs, rfl, ha, hh, hfs⟩ := ins_of rm2 r2 hM
  have x3 : Ext φ2 H2 φ2 (upd H2 a (.ins (K.ca c') dx (putF f vv gs))) := .write ha
  refine ⟨a, K.ca c', dx, gs, rfl, hh, c1, c3 _ hf, by rw [← hfs.length]; exact hl, po φ2 _ σ (x1.trans (x2.trans x3)) (rm2.write ha ⟨dx, _, upd_same, (hfs.put (r1.to x2)).ext x3⟩) (re.ext (x1.trans (x2.trans x3)))⟩
theorem aug_ip {X : Cx} {op : Operator} (h : op = .Add ∨ op = .Sub) : PIp X op (fun x y H Q => ∃ a b c, x = .int a ∧ y = .int b ∧ augT op (.int a) (.int b) = some (.int c) ∧ Q (.int c) H) := by
  intro pins s σ H x y v u Q I r1 r2 ⟨a, b, c, e1, e2, e3, q⟩
  rcases h with rfl | rfl
  · cases e3
    exact ip_add pins s σ H x y v u Q I r1 r2 ⟨a, b, e1, e2, q⟩
  · cases e3
    exact ip_sub pins s σ H x y v u Q I r1 r2 ⟨a, b, e1, e2, q⟩
theorem augT_int {op : Operator} {x y z : T} (h : augT op x y = some z) : ∃ a b c, x = .int a ∧ y = .int b ∧ z = .int c ∧ augT op (.int a) (.int b) = some (.int c) := by
  unfold augT at h
  split at h
  · cases h; exact ⟨_, _, _, rfl, rfl, rfl, rfl⟩
  · cases h; exact ⟨_, _, _, rfl, rfl, rfl, rfl⟩
  · cases h
theorem s_aug {i : Nat} {x : Str} {op : Operator} {e : ME} : SSt G K k (.aug i x op e) := by
  intro N sc ow X st g h
  unfold okS at h
  split at h <;> (try cases h) <;> rename_i q <;> cases q
  simp only [Bool.and_eq_true, decide_eq_true_eq, Bool.or_eq_true] at h
  obtain ⟨⟨⟨⟨⟨rfl, h1⟩, h2⟩, rfl⟩, h3⟩, h4⟩ := h
  refine PS.imp (ps_aug g.n (g.ix h1) (g.lo h2) (sE e N sc ow X _ g h4).1 (aug_ip h3) (g.fn' h2)) fun D σ H ⟨φ, ψ, env, M, r, re, rm, ev, po⟩ => ?_
  rw [exS] at ev
  split at ev
  case h_2 => cases ev
  rename_i t ht
  obtain ⟨p, e1, ev⟩ := bnd ev
  obtain ⟨z, e2, ev⟩ := mpd ev
  cases ev
  obtain ⟨v, hv, rv⟩ := re.at_ _ _ ht
  obtain ⟨a, b, c, rfl, hb, rfl, e3⟩ := augT_int e2
  cases rv
  refine ⟨_, hv, φ, ψ, env, M, p.1, p.2, re, rm, e1, fun φ1 H1 vv x1 rm1 r1 => ?_⟩
  rw [hb] at r1
  cases r1
  exact ⟨a, b, c, rfl, rfl, e3, po φ1 H1 _ x1 rm1 ((re.ext x1).set (.int c))⟩
theorem s_augI {o i : ME} {op : Operator} {e : ME} : SSt G K k (.augI o i op e) := by
  intro N sc ow X st g h
  unfold okS at h
  split at h <;> (try cases h) <;> rename_i q <;> cases q
  simp only [Bool.and_eq_true, decide_eq_true_eq, Bool.or_eq_true] at h
  obtain ⟨⟨⟨⟨⟨h0, rfl⟩, h3⟩, h4⟩, h5⟩, h6⟩ := h
  have hu := g.hu
  refine PS.imp (ps_augS (sE o N sc ow X _ g h4).1 (sE i N sc ow X _ g h5).1 (get_ix g.hK (by omega)) (sE e N sc ow X _ g h6).1 (aug_ip h3) (op_set g.hK (by omega)) (aug_ix h0)) fun D σ H ⟨φ, ψ, env, M, r, re, rm, ev, po⟩ => ?_
  rw [exS] at ev
  obtain ⟨p, e1, ev⟩ := bnd ev
  obtain ⟨q, e2, ev⟩ := bnd ev
  obtain ⟨t, e3, ev⟩ := bnd ev
  obtain ⟨y, e4, ev⟩ := bnd ev
  obtain ⟨z, e5, ev⟩ := bnd ev
  obtain ⟨M1, e6, ev⟩ := mpd ev
  cases ev
  obtain ⟨a, b, c, rfl, hb, rfl, e7⟩ := augT_int e5
  refine ⟨φ, ψ, env, M, p.1, p.2, re, rm, e1, fun φ1 H1 vo x1 rm1 r1 => ⟨φ1, ψ, env, p.2, q.1, q.2, re.ext x1, rm1, e2, fun φ2 H2 vi x2 rm2 r2 => ⟨φ2, ψ, q.2, p.1, q.1, .int a, rm2, r1.to x2, r2, e3, fun v3 r3 => ?_⟩⟩⟩
  cases r3
  refine ⟨φ2, ψ, env, q.2, y.1, y.2, re.ext (x1.trans x2), rm2, e4, fun φ3 H3 vy x3 rm3 r3 => ?_⟩
  rw [hb] at r3
  cases r3
  exact ⟨a, b, c, rfl, rfl, e7, φ3, ψ, y.2, p.1, q.1, .int c, M1, rm3, r1.to (x2.trans x3), r2.to x3, .int c, e6, fun φ4 H4 x4 rm4 => po φ4 H4 σ (x1.trans (x2.trans (x3.trans x4))) rm4 (re.ext (x1.trans (x2.trans (x3.trans x4))))⟩
theorem s_ex {e : ME} : SSt G K k (.ex e) := by
  intro N sc ow X st g h
  unfold okS at h
  split at h <;> (try cases h) <;> rename_i q <;> cases q
  rw [Bool.and_eq_true] at h
  refine PS.imp (ps_expr (sE e N sc ow X _ g h.2).1 (sw_not h.1)) fun D σ H ⟨φ, ψ, env, M, r, re, rm, ev, po⟩ => ?_
  rw [exS] at ev
  obtain ⟨p, e1, ev⟩ := mpd ev
  cases ev
  exact ⟨φ, ψ, env, M, p.1, p.2, re, rm, e1, fun φ1 H1 v x1 rm1 r1 => po φ1 H1 σ x1 rm1 (re.ext x1)⟩
theorem s_ret {e : ME} : SSt G K k (.ret e) := by
  intro N sc ow X st g h
  unfold okS at h
  split at h <;> (try cases h) <;> rename_i q <;> cases q
  refine PS.imp (ps_ret (sE e N sc ow X _ g h).1) fun D σ H ⟨φ, ψ, env, M, r, re, rm, ev, po⟩ => ?_
  rw [exS] at ev
  obtain ⟨p, e1, ev⟩ := mpd ev
  cases ev
  exact ⟨φ, ψ, env, M, p.1, p.2, re, rm, e1, fun φ1 H1 v x1 rm1 r1 => po φ1 H1 v x1 rm1 r1⟩
theorem s_retN : SSt G K k .retN := by
  intro N sc ow X st g h
  unfold okS at h
  split at h <;> (try cases h) <;> rename_i q <;> cases q
  refine PS.imp ps_retN fun D σ H ⟨φ, ψ, env, M, r, re, rm, ev, po⟩ => ?_
  rw [exS] at ev
  cases ev
  exact po φ H _ .refl rm .non
theorem s_brk : SSt G K k .brk := by
  intro N sc ow X st g h
  unfold okS at h
  split at h <;> (try cases h) <;> rename_i q <;> cases q
  refine PS.imp ps_break fun D σ H ⟨φ, ψ, env, M, r, re, rm, ev, po⟩ => ?_
  rw [exS] at ev
  cases ev
  exact po φ H _ .refl rm re
theorem s_cnt : SSt G K k .cnt := by
  intro N sc ow X st g h
  unfold okS at h
  split at h <;> (try cases h) <;> rename_i q <;> cases q
  refine PS.imp ps_continue fun D σ H ⟨φ, ψ, env, M, r, re, rm, ev, po⟩ => ?_
  rw [exS] at ev
  cases ev
  exact po φ H _ .refl rm re
theorem s_pas : SSt G K k .pas := by
  intro N sc ow X st g h
  unfold okS at h
  split at h <;> (try cases h) <;> rename_i q <;> cases q
  refine PS.imp ps_pass fun D σ H ⟨φ, ψ, env, M, r, re, rm, ev, po⟩ => ?_
  rw [exS] at ev
  cases ev
  exact po φ H _ .refl rm re
theorem s_ite {c : ME} {a b : List MS} (ha : SSs G K k a) (hb : SSs G K k b) : SSt G K k (.ite c a b) := by
  intro N sc ow X st g h
  unfold okS at h
  split at h <;> (try cases h) <;> rename_i q <;> cases q
  simp only [Bool.and_eq_true] at h
  obtain ⟨⟨h0, h1⟩, h2⟩ := h
  refine PS.imp (ps_if (sE c N sc ow X _ g h0).2.1 (ha N sc ow X _ g h1) (hb N sc ow X _ g h2)) fun D σ H ⟨φ, ψ, env, M, r, re, rm, ev, po⟩ => ?_
  rw [exS] at ev
  obtain ⟨p, e1, ev⟩ := bnd ev
  refine ⟨φ, ψ, env, M, p.1, p.2, re, rm, e1, fun φ1 H1 x1 rm1 => ?_⟩
  split at ev
  · rename_i hp
    rw [if_pos hp]
    exact ⟨φ1, ψ, env, p.2, r, re.ext x1, rm1, ev, po.ext x1⟩
  · rename_i hp
    rw [if_neg hp]
    exact ⟨φ1, ψ, env, p.2, r, re.ext x1, rm1, ev, po.ext x1⟩
theorem s_whl {c : ME} {b : List MS} (hb : SSs G K k b) : SSt G K k (.whl c b) := by
  intro N sc ow X st g h
  unfold okS at h
  split at h <;> (try cases h) <;> rename_i q <;> cases q
  rw [Bool.and_eq_true] at h
  refine PS.imp (ps_while g.pas (sE c N sc ow X _ g h.1).2.1 (hb N sc ow X _ g h.2)) fun D σ H ⟨φ, ψ, env, M, r, re, rm, ev, po⟩ => ?_
  rw [exS] at ev
  obtain ⟨n, hn⟩ := of_whileC ev
  refine ⟨fun m σ H => ∃ φ env M, RE K φ ψ H env σ ∧ RM K φ ψ H M ∧ whileN (fun σ M => tst (evE G c σ M)) (fun σ M => exSs G b σ M) m env M = some r ∧ Post K φ ψ H D r, ⟨n, φ, env, M, re, rm, hn, po⟩, ?_⟩
  rintro m σ H ⟨φ, env, M, re, rm, hm, po⟩
  cases m with
  | zero => simp [whileN] at hm
  | succ m =>
    unfold whileN at hm
    cases hc : tst (evE G c env M) with
    | none => rw [hc] at hm; cases hm
    | some p =>
      obtain ⟨d, M1⟩ := p
      rw [hc] at hm
      refine ⟨φ, ψ, env, M, d, M1, re, rm, hc, fun φ1 H1 x1 rm1 => ?_⟩
      cases d with
      | false =>
        rw [if_neg Bool.false_ne_true]
        cases hm
        exact po φ1 H1 σ x1 rm1 (re.ext x1)
      | true =>
        rw [if_pos rfl]
        simp only at hm
        refine ⟨fun σ' H' => ∃ φ env M, RE K φ ψ H' env σ' ∧ RM K φ ψ H' M ∧ whileN (fun σ M => tst (evE G c σ M)) (fun σ M => exSs G b σ M) m env M = some r ∧ Post K φ ψ H' D r, fun σ' H' q => ⟨m, Nat.lt_succ_self _, q⟩, ?_⟩
        cases he : exSs G b env M1 with
        | none => rw [he] at hm; cases hm
        | some rr =>
          rw [he] at hm
          refine ⟨φ1, ψ, env, M1, rr, re.ext x1, rm1, he, ?_⟩
          cases rr with
          | nx e' m' => exact fun φ' H' σ' x' rm' re' => ⟨φ', e', m', re', rm', hm, po.ext (x1.trans x')⟩
          | ct e' m' => exact fun φ' H' σ' x' rm' re' => ⟨φ', e', m', re', rm', hm, po.ext (x1.trans x')⟩
          | bk e' m' =>
            cases hm
            exact fun φ' H' σ' x' rm' re' => po φ' H' σ' (x1.trans x') rm' re'
          | rt t m' =>
            cases hm
            exact fun φ' H' σ' x' rm' re' => po φ' H' σ' (x1.trans x') rm' re'
theorem s_for {t : MT} {it : MI} {b : List MS} (hb : SSs G K k b) : SSt G K k (.for t it b) := by
  intro N sc ow X st g h
  unfold okS at h
  split at h <;> (try cases h) <;> rename_i q <;> cases q
  simp only [Bool.and_eq_true] at h
  obtain ⟨⟨⟨h0, h1⟩, h2⟩, h3⟩ := h
  refine PS.imp (ps_for g.pas g.hc (sI it N sc ow X _ _ g h1) (sT t N sc ow X _ g h2) (hb N sc ow X _ g h3) (fold_set h0)) fun D σ H ⟨φ, ψ, env, M, r, re, rm, ev, po⟩ => ?_
  rw [exS] at ev
  obtain ⟨p, e1, ev⟩ := bnd ev
  refine ⟨φ, ψ, env, M, p.1, p.2, re, rm, e1, fun φ0 H0 J x0 rm0 hw => ?_⟩
  generalize hstep : (fun x σ M => (asgT t x σ).bind fun σ1 => exSs G b σ1 M) = step at ev
  refine ⟨fun i m σ H => m = p.1.1.length - i ∧ i ≤ p.1.1.length ∧ ∃ φ env M, Ext φ0 H0 φ H ∧ RE K φ ψ H env σ ∧ RM K φ ψ H M ∧ forC p.1.2 step (p.1.1.drop i) env M = some r ∧ Post K φ ψ H D r,
    ⟨_, rfl, Nat.zero_le _, φ0, env, p.2, .refl, re.ext x0, rm0, ev, po.ext x0⟩, ?_⟩
  rintro i m σ H ⟨rfl, hi, φ, env, M, x1, re, rm, hm, po⟩
  by_cases hlt : i < p.1.1.length
  · rw [List.drop_eq_getElem_cons hlt, forC] at hm
    split at hm
    case isFalse => cases hm
    rename_i hg
    refine .inr ⟨hw.goes i φ ψ H M hlt (x1.tr ψ) rm hg, fun σ' H' => ∃ φ env M, Ext φ0 H0 φ H' ∧ RE K φ ψ H' env σ' ∧ RM K φ ψ H' M ∧ forC p.1.2 step (p.1.1.drop (i + 1)) env M = some r ∧ Post K φ ψ H' D r,
      fun σ' H' q => ⟨p.1.1.length - (i + 1), by omega, rfl, hlt, q⟩, fun v H' hy => ?_⟩
    obtain ⟨u, hu, x2, rm2, rt⟩ := hw.yields i φ ψ H M v H' hlt (x1.tr ψ) rm hg hy
    rw [List.getElem?_eq_getElem hlt] at hu
    cases hu
    cases hs : step p.1.1[i] env M with
    | none => rw [hs] at hm; cases hm
    | some rr =>
      rw [hs] at hm
      rw [← hstep] at hs
      obtain ⟨env1, e2, e3⟩ := bnd hs
      refine ⟨φ, ψ, env, M, _, env1, re.ext x2, rm2, rt, e2, fun σ1 re1 _ => ⟨φ, ψ, env1, M, rr, re1, rm2, e3, ?_⟩⟩
      cases rr with
      | nx e' m' => exact fun φ' H' σ' x' rm' re' => ⟨φ', e', m', x1.trans (x2.trans x'), re', rm', hm, po.ext (x2.trans x')⟩
      | ct e' m' => exact fun φ' H' σ' x' rm' re' => ⟨φ', e', m', x1.trans (x2.trans x'), re', rm', hm, po.ext (x2.trans x')⟩
      | bk e' m' =>
        cases hm
        exact fun φ' H' σ' x' rm' re' => po φ' H' σ' (x2.trans x') rm' re'
      | rt t m' =>
        cases hm
        exact fun φ' H' σ' x' rm' re' => po φ' H' σ' (x2.trans x') rm' re'
  · have e : i = p.1.1.length := by omega
    subst e
    rw [List.drop_length, forC] at hm
    split at hm
    case isFalse => cases hm
    rename_i hg
    cases hm
    exact .inl ⟨hw.stops φ ψ H _ (x1.tr ψ) rm hg, po φ H σ .refl rm re⟩
theorem ss_nil : SSs G K k [] := by
  intro N sc ow X st g h
  cases st with
  | cons _ _ => simp [okSs] at h
  | nil =>
    refine PSs.imp pss_nil fun D σ H ⟨φ, ψ, env, M, r, re, rm, ev, po⟩ => ?_
    rw [exSs] at ev
    cases ev
    exact po φ H σ .refl rm re
theorem ss_cons {s : MS} {ss : List MS} (h1 : SSt G K k s) (h2 : SSs G K k ss) : SSs G K k (s :: ss) := by
  intro N sc ow X st g h
  cases st with
  | nil => simp [okSs] at h
  | cons t ts =>
    rw [okSs, Bool.and_eq_true] at h
    refine PSs.imp (pss_cons (h1 N sc ow X t g h.1) (h2 N sc ow X ts g h.2)) fun D σ H ⟨φ, ψ, env, M, r, re, rm, ev, po⟩ => ?_
    rw [exSs] at ev
    cases hs : exS G s env M with
    | none => rw [hs] at ev; cases ev
    | some rr =>
      rw [hs] at ev
      refine ⟨φ, ψ, env, M, rr, re, rm, hs, ?_⟩
      cases rr with
      | nx e' m' => exact fun φ' H' σ' x' rm' re' => ⟨φ', ψ, e', m', r, re', rm', ev, po.ext x'⟩
      | rt t m' => cases ev; exact po
      | bk t m' => cases ev; exact po
      | ct t m' => cases ev; exact po
mutual
theorem sS : ∀ m : MS, SSt G K k m
  | .set _ _ _ => s_set
  | .asg _ _ => s_asg
  | .par _ _ => s_par
  | .setI _ _ _ => s_setI
  | .setA _ _ _ _ => s_setA
  | .aug _ _ _ _ => s_aug
  | .augI _ _ _ _ => s_augI
  | .ex _ => s_ex
  | .ret _ => s_ret
  | .retN => s_retN
  | .ite _ a b => s_ite (sSs a) (sSs b)
  | .whl _ b => s_whl (sSs b)
  | .for _ _ b => s_for (sSs b)
  | .brk => s_brk
  | .cnt => s_cnt
  | .pas => s_pas
theorem sSs : ∀ m : List MS, SSs G K k m
  | [] => ss_nil
  | s :: ss => ss_cons (sS s) (sSs ss)
end
end Mi
end L2

/-! Mini: a def keeps its promise. -/
namespace L2
namespace Mi
open PySem PySem.Spec PyProof.Rows
variable {G : Sig} {K : KC} {k : Nat}
mutual
/-- the objects of ours within lie below n -/
def bndT (n : Nat) : T → Prop
  | .obj i => i < n
  | .tup ts => bndTs n ts
  | .fl ts => bndTs n ts
  | .fd _ ks ts => bndTs n ts
  | _ => True
def bndTs (n : Nat) : List T → Prop
  | [] => True
  | t :: ts => bndT n t ∧ bndTs n ts
end
mutual
theorem bnd_pure (n : Nat) : ∀ t : T, pureT t = true → bndT n t
  | .obj i, h => by simp [pureT] at h
  | .tup ts, h => by rw [bndT]; exact bnd_pures n ts (by simpa [pureT] using h)
  | .fl ts, h => by rw [bndT]; exact bnd_pures n ts (by simpa [pureT] using h)
  | .fd _ ks ts, h => by rw [bndT]; exact bnd_pures n ts (by simpa [pureT] using h)
  | .non, _ => by simp [bndT]
  | .bl _, _ => by simp [bndT]
  | .int _, _ => by simp [bndT]
  | .str _, _ => by simp [bndT]
  | .sc _, _ => by simp [bndT]
theorem bnd_pures (n : Nat) : ∀ ts : List T, pureTs ts = true → bndTs n ts
  | [], _ => by simp [bndTs]
  | t :: ts, h => by
    simp only [pureTs, Bool.and_eq_true] at h
    rw [bndTs]
    exact ⟨bnd_pure n t h.1, bnd_pures n ts h.2⟩
end
section
variable {φ φ' ψ : List Addr} {H : Hp} {M M' : Mem}
mutual
theorem RT.bnd : ∀ (t : T) (v : V), RT K φ ψ H t v → bndT φ.length t
  | .non, _, _ => by simp [bndT]
  | .bl _, _, _ => by simp [bndT]
  | .int _, _, _ => by simp [bndT]
  | .str _, _, _ => by simp [bndT]
  | .sc _, _, _ => by simp [bndT]
  | .obj i, _, h => by cases h with | obj h => rw [bndT]; exact (List.getElem?_eq_some_iff.mp h).1
  | .tup ts, _, h => by cases h with | tup _ h => rw [bndT]; exact RTs.bnd ts _ h
  | .fl ts, _, h => by cases h with | fl _ _ h => rw [bndT]; exact RTs.bnd ts _ h
  | .fd _ ks ts, _, h => by
    cases h with
    | fdK _ _ _ h => rw [bndT]; exact RTs.bnd ts _ h
    | fdT _ _ _ _ h => rw [bndT]; exact RTs.bnd ts _ h
theorem RTs.bnd : ∀ (ts : List T) (vs : List V), RTs K φ ψ H ts vs → bndTs φ.length ts
  | [], _, _ => by simp [bndTs]
  | t :: ts, _, h => by cases h with | cons h1 h2 => rw [bndTs]; exact ⟨RT.bnd t _ h1, RTs.bnd ts _ h2⟩
end
theorem Fre.down {a : Addr} (p : φ <+: φ') (h : Fre φ' ψ a) : Fre φ ψ a := ⟨fun hm => h.1 (p.subset hm), h.2⟩
theorem FzT.down {a : Addr} {vs : List V} (p : φ <+: φ') (h : FzT K φ' ψ H a vs) : FzT K φ ψ H a vs := h.elim (fun h => .inl ⟨h.1.down p, h.2⟩) .inr
theorem FzL.down {a : Addr} {vs : List V} (p : φ <+: φ') (h : FzL K φ' ψ H a vs) : FzL K φ ψ H a vs := h.elim (fun h => .inl ⟨h.1.down p, h.2⟩) .inr
mutual
theorem RT.down (p : φ <+: φ') : ∀ (t : T) (v : V), bndT φ.length t → RT K φ' ψ H t v → RT K φ ψ H t v
  | .non, _, _, h => by cases h; exact .non
  | .bl b, _, _, h => by cases h; exact .bl b
  | .int i, _, _, h => by cases h; exact .int i
  | .str s, _, _, h => by cases h; exact .str s
  | .tup ts, _, b, h => by
    rw [bndT] at b
    cases h with
    | tup h1 h2 => exact .tup (h1.down p) (RTs.down p ts _ b h2)
  | .fl ts, _, b, h => by
    rw [bndT] at b
    cases h with
    | fl h1 h2 h3 => exact .fl (h1.down p) h2 (RTs.down p ts _ b h3)
  | .fd tk ks ts, _, b, h => by
    rw [bndT] at b
    cases h with
    | fdK h1 h2 h3 h4 => exact .fdK (h1.down p) h2 h3 (RTs.down p ts _ b h4)
    | fdT h0 h1 h2 h3 h4 => exact .fdT h0 (h1.down p) h2 h3 (RTs.down p ts _ b h4)
  | .sc ns, _, _, h => by cases h with | sc h => exact .sc (h.down p)
  | .obj i, _, b, h => by
    rw [bndT] at b
    cases h with
    | obj h =>
      obtain ⟨r, rfl⟩ := p
      rw [List.getElem?_append_left b] at h
      exact .obj h
theorem RTs.down (p : φ <+: φ') : ∀ (ts : List T) (vs : List V), bndTs φ.length ts → RTs K φ' ψ H ts vs → RTs K φ ψ H ts vs
  | [], _, _, h => by cases h; exact .nil
  | t :: ts, _, b, h => by
    rw [bndTs] at b
    cases h with
    | cons h1 h2 => exact .cons (RT.down p t _ b.1 h1) (RTs.down p ts _ b.2 h2)
end
def bndF (n : Nat) : List (Str × T) → Prop
  | [] => True
  | (_, t) :: fs => bndT n t ∧ bndF n fs
theorem RFs.bnd : ∀ {fs : List (Str × T)} {gs : List (Str × V)}, RFs K φ ψ H fs gs → bndF φ.length fs
  | [], [], _ => trivial
  | (_, _) :: _, (_, _) :: _, ⟨_, r, h⟩ => ⟨RT.bnd _ _ r, RFs.bnd h⟩
  | [], _ :: _, h => h.elim
  | _ :: _, [], h => h.elim
theorem RFs.down (p : φ <+: φ') : ∀ {fs : List (Str × T)} {gs : List (Str × V)}, bndF φ.length fs → RFs K φ' ψ H fs gs → RFs K φ ψ H fs gs
  | [], [], _, _ => trivial
  | (_, _) :: _, (_, _) :: _, b, ⟨e, r, h⟩ => ⟨e, RT.down p _ _ b.1 r, RFs.down p b.2 h⟩
  | [], _ :: _, _, h => h.elim
  | _ :: _, [], _, h => h.elim
def bndO (n : Nat) : O → Prop
  | .lst ts => bndTs n ts
  | .dic _ _ ts => bndTs n ts
  | .ins _ fs => bndF n fs
theorem RO.bnd {a : Addr} {o : O} (h : RO K φ ψ H a o) : bndO φ.length o := by
  cases o with
  | lst ts => obtain ⟨vs, _, h⟩ := h; exact RTs.bnd _ _ h
  | dic tk ks ts =>
    rcases h with ⟨_, kvs, _, _, h⟩ | ⟨_, _, kvs, _, _, h⟩
    · exact RTs.bnd _ _ h
    · exact RTs.bnd _ _ h
  | ins c fs => obtain ⟨dx, gs, _, h⟩ := h; exact h.bnd
theorem RO.down {a : Addr} {o : O} (p : φ <+: φ') (b : bndO φ.length o) (h : RO K φ' ψ H a o) : RO K φ ψ H a o := by
  cases o with
  | lst ts => obtain ⟨vs, h1, h⟩ := h; exact ⟨vs, h1, RTs.down p _ _ b h⟩
  | dic tk ks ts =>
    rcases h with ⟨e, kvs, h1, h2, h⟩ | ⟨e, e', kvs, h1, h2, h⟩
    · exact .inl ⟨e, kvs, h1, h2, RTs.down p _ _ b h⟩
    · exact .inr ⟨e, e', kvs, h1, h2, RTs.down p _ _ b h⟩
  | ins c fs => obtain ⟨dx, gs, h1, h⟩ := h; exact ⟨dx, gs, h1, h.down p b⟩
/-- the part of the memory that was there -/
theorem RM.down {H0 : Hp} (r0 : RM K φ ψ H0 M) (r : RM K φ' ψ H M') (p : φ <+: φ') (e : M'.take M.length = M) : RM K φ ψ H M := by
  refine ⟨r0.len, r0.nd, r0.ap, r.used, fun i a o e1 e2 => ?_⟩
  have hi : i < φ.length := (List.getElem?_eq_some_iff.mp e1).1
  have e3 : φ'[i]? = some a := by obtain ⟨q, rfl⟩ := p; rw [List.getElem?_append_left hi]; exact e1
  have e4 : M'[i]? = some o := by
    rw [← e, List.getElem?_take] at e2
    split at e2
    · exact e2
    · cases e2
  exact RO.down p (r0.at_ i a o e1 e2).bnd (r.at_ i a o e3 e4)
theorem mapM_rt {n : Nat} {f : T → Option T} (p : φ <+: φ') (hf : ∀ t v a, RT K φ' ψ H t v → f t = some a → RT K φ ψ H a v) : ∀ (ts : List T) (vs : List V) (as : List T), RTs K φ' ψ H ts vs → ts.mapM f = some as → RTs K φ ψ H as vs
  | [], _, as, h, e => by
    cases h
    rw [List.mapM_nil] at e
    cases e
    exact .nil
  | t :: ts, _, as, h, e => by
    rw [List.mapM_cons] at e
    obtain ⟨a, ea, e⟩ := Option.bind_eq_some_iff.mp e
    obtain ⟨r, er, e⟩ := Option.bind_eq_some_iff.mp e
    cases e
    cases h with
    | cons h1 h2 => exact .cons (hf t _ a h1 ea) (mapM_rt (n := n) p hf ts _ r h2 er)
theorem seal_rt (r : RM K φ' ψ H M) (p : φ <+: φ') : ∀ (f : Nat) (t : T) (v : V) (a : T), RT K φ' ψ H t v → sealT M φ.length f t = some a → RT K φ ψ H a v
  | 0, t, v, a, h, e => by
    unfold sealT at e
    split at e
    · rename_i hp; cases e; exact RT.down p t v (bnd_pure _ t hp) h
    · cases e
  | f + 1, t, v, a, h, e => by
    unfold sealT at e
    split at e
    · rename_i hp; cases e; exact RT.down p t v (bnd_pure _ t hp) h
    · split at e
      · rename_i i
        split at e
        · rename_i hn
          cases h with
          | obj h1 =>
            rename_i a'
            have fre : Fre φ ψ a' := by
              refine ⟨fun hm => ?_, r.ap a' (List.mem_of_getElem? h1)⟩
              obtain ⟨j, hj⟩ := List.getElem?_of_mem hm
              have hjl : j < φ.length := (List.getElem?_eq_some_iff.mp hj).1
              have e3 : φ'[j]? = some a' := by obtain ⟨q, rfl⟩ := p; rw [List.getElem?_append_left hjl]; exact hj
              have := (List.getElem?_inj (List.getElem?_eq_some_iff.mp h1).1 r.nd).mp (h1.trans e3.symm)
              omega
            split at e
            · rename_i ts hts
              obtain ⟨as, ea, e⟩ := Option.map_eq_some_iff.mp e
              subst e
              obtain ⟨vs, q1, q2⟩ := r.obj h1 hts
              exact .fl fre q1 (mapM_rt (n := f) p (fun t v a h e => seal_rt r p f t v a h e) ts vs as q2 ea)
            · rename_i tk ks ts hts
              obtain ⟨as, ea, e⟩ := Option.map_eq_some_iff.mp e
              subst e
              rcases r.obj h1 hts with ⟨rfl, kvs, q1, q2, q3⟩ | ⟨rfl, q0, kvs, q1, q2, q3⟩
              · exact .fdK fre q1 q2 (mapM_rt (n := f) p (fun t v a h e => seal_rt r p f t v a h e) ts _ as q3 ea)
              · exact .fdT q0 fre q1 q2 (mapM_rt (n := f) p (fun t v a h e => seal_rt r p f t v a h e) ts _ as q3 ea)
            · cases e
        · cases e
      · obtain ⟨as, ea, e⟩ := Option.map_eq_some_iff.mp e
        subst e
        cases h with
        | tup h1 h2 => exact .tup (h1.down p) (mapM_rt (n := f) p (fun t v a h e => seal_rt r p f t v a h e) _ _ as h2 ea)
      · obtain ⟨as, ea, e⟩ := Option.map_eq_some_iff.mp e
        subst e
        cases h with
        | fl h1 h2 h3 => exact .fl (h1.down p) h2 (mapM_rt (n := f) p (fun t v a h e => seal_rt r p f t v a h e) _ _ as h3 ea)
      · obtain ⟨as, ea, e⟩ := Option.map_eq_some_iff.mp e
        subst e
        cases h with
        | fdK h1 h2 h3 h4 => exact .fdK (h1.down p) h2 h3 (mapM_rt (n := f) p (fun t v a h e => seal_rt r p f t v a h e) _ _ as h4 ea)
        | fdT h0 h1 h2 h3 h4 => exact .fdT h0 (h1.down p) h2 h3 (mapM_rt (n := f) p (fun t v a h e => seal_rt r p f t v a h e) _ _ as h4 ea)
      · cases e
end
theorem fin_ok {φ ψ : List Addr} {H : Hp} {M M1 : Mem} {t : T} {Q : VK} {sl : Bool} (rm : RM K φ ψ H M) (ok : Ok1 K φ ψ H (fin sl M t M1).1 (fin sl M t M1).2 Q) : Ok1 K φ ψ H t M1 Q := by
  intro φ' H' v x rm' rt
  unfold fin at ok
  split at ok
  · rename_i ht
    have ht := ht.2
    split at ok
    · rename_i r' hr
      rw [← rm.len] at hr
      have x' : Ext φ H φ H' := ⟨List.prefix_rfl, fun a o h e => ⟨h, (x.keep a o h e).2⟩⟩
      exact ok φ H' v x' (rm.down rm' x.pre ht) (seal_rt rm' x.pre 6 t v r' rt hr)
    · exact ok φ' H' v x rm' rt
  · exact ok φ' H' v x rm' rt
theorem start_re {φ ψ : List Addr} {H : Hp} {N : List Str} : ∀ {ts : List T} {vs : List V}, RTs K φ ψ H ts vs → RE K φ ψ H (startE N ts) (start N vs) := by
  intro ts vs h
  have hl := h.length
  refine ⟨by unfold startE start; rw [List.length_append, List.length_append, List.length_map, List.length_map, List.length_replicate, List.length_replicate, hl], fun i t e => ?_⟩
  unfold startE at e
  unfold start
  by_cases hi : i < ts.length
  · rw [List.getElem?_append_left (by rw [List.length_map]; exact hi), List.getElem?_map] at e
    rw [List.getElem?_append_left (by rw [List.length_map, ← hl]; exact hi), List.getElem?_map]
    obtain ⟨u, hu, e⟩ := Option.map_eq_some_iff.mp e
    cases e
    obtain ⟨v, hv, r⟩ := h.get hu
    exact ⟨v, by rw [hv]; rfl, r⟩
  · rw [List.getElem?_append_right (by rw [List.length_map]; omega)] at e
    obtain ⟨_, e⟩ := List.getElem?_eq_some_iff.mp e
    rw [List.getElem_replicate] at e
    cases e
def owC (sc : Scope) (ow : List Str) : Bool := ow.all fun x => decide (sc.names.lookup x = some .local) || decide (sc.names.lookup x = some .cell)
/-- a def of the text, by its term -/
theorem fn_mini {P : Program} {w : World} {KF : PySem.W.Frag} {mg : Str → Option Value} {base : Heap} {x qual : Str} {st : Stmt} {f : Addr} {fd : FuncData} {d : MD} {ow : List Str} (F : Fun KF x qual st f fd) (S : FnScope d.N d.ps (defScope st)) (ho : owC (defScope st) ow = true)
    (tab : Tab G K k P w KF mg base) (hm : okSs d.N (defScope st) ow d.body (defBody st) = true) : FnOk P w KF mg base CX0 (k + 2) f fd d.ps (spM K d.ps.length (runD G d)) := by
  refine Fun.ok (k := k + 1) (N := d.N) F S (fun vs H Q E h => h.1) fun cdv A outer s H vs Q E hr hsp => ?_
  obtain ⟨hl, φ, ψ, M, ts, r, M', rm, rts, ev, ok⟩ := hsp
  refine ⟨tSs G K d.body, sSs d.body d.N (defScope st) ow _ _ ⟨rfl, rfl, S.nd, rfl, S.kind, rfl, fun x hx => ⟨?_, .inl rfl⟩, hr, tab⟩ hm, ?_⟩
  · have q := List.all_eq_true.mp ho x hx
    simp only [Bool.or_eq_true, decide_eq_true_eq] at q
    exact q
  · unfold runD at ev
    split at ev
    case isFalse => cases ev
    obtain ⟨rr, e1, ev⟩ := bnd ev
    refine ⟨φ, ψ, startE d.N ts, M, rr, start_re rts, rm, e1, ?_⟩
    cases rr with
    | rt t M1 =>
      have ev := Option.some.inj ev
      rw [show r = (fin d.sl M t M1).1 by rw [ev], show M' = (fin d.sl M t M1).2 by rw [ev]] at ok
      exact fin_ok rm ok
    | nx e' M1 =>
      have ev := Option.some.inj ev
      rw [show r = (fin d.sl M .non M1).1 by rw [ev], show M' = (fin d.sl M .non M1).2 by rw [ev]] at ok
      exact fun φ' H' σ' x' rm' _ => fin_ok rm ok φ' H' .non x' rm' .non
    | bk e' M1 => cases ev
    | ct e' M1 => cases ev
theorem runD_len {d : MD} {ts : List T} {M : Mem} {r : T × Mem} (h : runD G d ts M = some r) : ts.length = d.ps.length := by
  unfold runD at h
  split at h
  · assumption
  · cases h
theorem ent_mini {P : Program} {w : World} {KF : PySem.W.Frag} {mg : Str → Option Value} {base : Heap} {x qual : Str} {st : Stmt} {f : Addr} {fd : FuncData} {d : MD} {ow : List Str} (F : Fun KF x qual st f fd) (S : FnScope d.N d.ps (defScope st)) (ho : owC (defScope st) ow = true)
    (hb : Binds KF fd d.ps []) (tab : Tab G K k P w KF mg base) (hm : okSs d.N (defScope st) ow d.body (defBody st) = true) : Ent K (k + 2) P w KF mg base f (runD G d) :=
  ⟨fd, d.ps, hb, fun _ _ _ h => runD_len h, fn_mini F S ho tab hm⟩
end Mi
end L2

/-! Mini: a whole text, its table, its end. -/
namespace L2
namespace Mi
open PySem PySem.Spec PyProof.Rows
/-- a def of the text: where it stands, its name, its qualified name, its statement, its term, the names that it stores -/
structure DI where
  at_ : Str × Option Str
  name : Str
  qual : Str
  st : Stmt
  d : MD
  ow : List Str
structure CI where
  name : Str
  attrs : List Str
  meths : List Str
  init : Bool
structure Prog where
  kt : Bool
  glbs : List (Str × List Int)
  ds : List DI
  cs : List CI
def DI.D (x : DI) : He.DefD := ⟨x.at_, x.name, x.qual, defArgs x.st, defBody x.st, defScope x.st, [], []⟩
def DI.ok (x : DI) : Bool := C8.scC x.d.N x.d.ps (defScope x.st) && owC (defScope x.st) x.ow && okSs x.d.N (defScope x.st) x.ow x.d.body (defBody x.st)
def noD : MD := ⟨[], [], [], true⟩
def Prog.at (P : Prog) (p : Str × Option Str) : Option DI := P.ds.find? fun x => decide (x.at_ = p)
noncomputable def Prog.fn (P : Prog) (G : Sig) (p : Str × Option Str) : Option Fn := (P.at p).map fun x => runD G x.d
def Prog.fns (P : Prog) : List DI := P.ds.filter fun x => decide (x.at_.2 = none)
noncomputable def Prog.cl (P : Prog) (G : Sig) (c : CI) : Cl :=
  ⟨c.attrs, if c.init then P.fn G (c.name, some "__init__") else none, (c.meths.filterMap fun m => (P.fn G (c.name, some m)).map fun F => (m, F))⟩
/-- what the defs reckon, n calls deep -/
noncomputable def Prog.G (P : Prog) : Nat → Sig
  | 0 => ⟨P.kt, [], P.glbs.map fun p => (p.1, .tup (p.2.map .int)), []⟩
  | n + 1 => ⟨P.kt, P.fns.map fun x => (x.at_.1, runD (P.G n) x.d), P.glbs.map fun p => (p.1, .tup (p.2.map .int)), P.cs.map fun c => (c.name, P.cl (P.G n) c)⟩
/-! ### the facts -/
def Prog.fa (P : Prog) : List He.Fa := P.fns.map (fun x => .glo x.at_.1) ++ (P.glbs.map (fun p => .glo p.1) ++ (bltNames.map (fun x => .free x) ++ P.cs.flatMap fun c =>
  .glo c.name :: .cls c.name :: (c.attrs.map (fun f => .noat c.name f) ++ (c.meths.map (fun m => .meth c.name m) ++ if c.init then [.mkr c.name] else []))))
def Prog.ob (P : Prog) (K : PySem.W.Frag) : He.AlD × Bool := (He.obsD P.fa (P.ds.map DI.D) K, P.glbs.all fun p => He.tupB K p.1 (p.2.map .int))
def Prog.hook (P : Prog) (n : Nat) : PySem.W.Hook where
  α := He.AlD × Bool
  obs := fun s => P.ob (He.frG s.heap.get? (He.asD s.heap.get? n))
  val := fun _ => (He.valD (P.ds.map DI.D), true)
  says := fun _ h => ∃ K : PySem.W.Frag, K.In h ∧ P.ob K = (He.valD (P.ds.map DI.D), true)
  of := fun _ _ e => ⟨_, He.frG_in, e⟩
  keeps := fun _ _ _ ⟨K, hK, c⟩ k => ⟨K, PySem.W.Frag.In.keeps hK k, c⟩
def Prog.obs (P : Prog) (n : Nat) (s : PySem.W.SharedT) : He.AlD × Bool := P.ob (He.frG (HandSHeadRun.getT s) (He.asD (HandSHeadRun.getT s) n))
theorem Prog.obs_eq (P : Prog) (n : Nat) (s : PySem.W.SharedT) : P.obs n s = (P.hook n).obs s.abs := by
  have e : HandSHeadRun.getT s = s.abs.heap.get? := funext (HandSHeadRun.getT_eq s)
  unfold Prog.obs
  rw [e]
  rfl
def BindD (x : DI) : Prop := ∀ (kV doc pm : Value) (an : Option Addr) (cdv ct : Value) (us : List Value), us.length = x.d.ps.length → bindArgs (PySem.W.fnOf x.name x.qual (defArgs x.st) (defBody x.st) (defScope x.st) .none kV doc pm an cdv ct) ⟨us, []⟩ = pure (x.d.ps.zip us)
def BindA : List DI → Prop
  | [] => True
  | x :: xs => BindD x ∧ BindA xs
def AllK : List DI → Prop
  | [] => True
  | x :: xs => x.ok = true ∧ AllK xs
theorem AllK.of : ∀ {xs : List DI}, AllK xs → ∀ x ∈ xs, x.ok = true
  | y :: ys, h, x, hm => by
    rcases List.mem_cons.mp hm with e | e
    · subst e; exact h.1
    · exact AllK.of h.2 x e
theorem BindA.of : ∀ {xs : List DI} {x : DI}, BindA xs → x ∈ xs → BindD x
  | y :: ys, x, h, hm => by
    rcases List.mem_cons.mp hm with e | e
    · subst e; exact h.1
    · exact BindA.of h.2 e
theorem fun_of {K : PySem.W.Frag} {x qual : Str} {st : Stmt} {f : Addr} {fd : FuncData} (F : FunD K x qual (defArgs st) (defBody st) (defScope st) [] [] f fd) : Fun K x qual st f fd := by
  have kp := F.kp
  obtain ⟨oc, od, dV, kV, doc, pm, an, cdv, ct, osl, rfl, lk, hcd, hD, hK⟩ := F.ex
  rcases hD with ⟨_, rfl⟩ | ⟨e, _⟩
  · exact fun_mk lk hcd kp
  · exact absurd rfl e
section
variable {P : Prog} {K : PySem.W.Frag} {h : Heap} {mg : Str → Option Value} {prog : Program} {w : World} {base : Heap}
theorem Prog.fact (c : P.ob K = (He.valD (P.ds.map DI.D), true)) {f : He.Fa} (hm : f ∈ P.fa) : f.ok K = true := by
  have c1 : He.obsD P.fa (P.ds.map DI.D) K = He.valD (P.ds.map DI.D) := congrArg (fun z => z.1) c
  have c2 := (He.ba (show ((P.fa.all fun f => f.ok K) && (P.ds.map DI.D).all fun d => d.ok K) = true from congrArg (fun z : He.AlD => z.1) c1)).1
  exact List.all_eq_true.mp c2 f hm
theorem Prog.def_ (c : P.ob K = (He.valD (P.ds.map DI.D), true)) {x : DI} (hm : x ∈ P.ds) : ∃ fd, Fun K x.name x.qual x.st (He.fAd K x.at_) fd ∧ FunD K x.name x.qual (defArgs x.st) (defBody x.st) (defScope x.st) [] [] (He.fAd K x.at_) fd := by
  have c1 : He.SaysD P.fa (P.ds.map DI.D) K := congrArg (fun z : He.AlD × Bool => z.1) c
  obtain ⟨i, hi⟩ := List.getElem?_of_mem hm
  obtain ⟨fd, F⟩ := c1.def_ i (d := x.D) (by rw [List.getElem?_map, hi]; rfl)
  exact ⟨fd, fun_of F, F⟩
theorem Prog.at_mem {p : Str × Option Str} {x : DI} (e : P.at p = some x) : x ∈ P.ds ∧ x.at_ = p := by
  unfold Prog.at at e
  have h1 := List.find?_some e
  exact ⟨List.mem_of_find?_eq_some e, of_decide_eq_true h1⟩
theorem DI.scope {x : DI} (h : x.ok = true) : FnScope x.d.N x.d.ps (defScope x.st) ∧ owC (defScope x.st) x.ow = true ∧ okSs x.d.N (defScope x.st) x.ow x.d.body (defBody x.st) = true := by
  unfold DI.ok at h
  simp only [Bool.and_eq_true] at h
  exact ⟨C8.fnScope_by h.1.1, h.1.2, h.2⟩
theorem Prog.tab0 (X : K.In h) (Gm : h.Ns mainGlobals mg) (c : P.ob K = (He.valD (P.ds.map DI.D), true)) (hkt : P.glbs = [] ∨ P.kt = true) : (∀ x t, (P.glbs.map fun p => (p.1, T.tup (p.2.map .int))).lookup x = some t → ∃ u v, mg x = some u ∧ RelV v u ∧ ∀ φ ψ H, RT ⟨K, P.kt, He.ga K⟩ φ ψ H t v) ∧ ∀ x ∈ bltNames, mg x = none := by
  refine ⟨fun x t e => ?_, fun x hx => He.free_ok X Gm (P.fact c (List.mem_append_right _ (List.mem_append_right _ (List.mem_append_left _ (List.mem_map.mpr ⟨x, hx, rfl⟩)))))⟩
  have hm := PySem.mem_of_lookup e
  obtain ⟨p, hp, e2⟩ := List.mem_map.mp hm
  cases e2
  have ct : P.glbs.all (fun p => He.tupB K p.1 (p.2.map .int)) = true := congrArg (fun z => z.2) c
  have hq := List.all_eq_true.mp ct p hp
  have hk : P.kt = true := by
    rcases hkt with z | z
    · rw [z] at hp; cases hp
    · exact z
  refine ⟨_, .ref (He.ga K p.1), He.glo_ok X Gm (P.fact c (List.mem_append_right _ (List.mem_append_left _ (List.mem_map.mpr ⟨p, hp, rfl⟩)))), rfl, fun φ ψ H => .tup (.inr ⟨hk, ?_⟩) (RTs.ints' _)⟩
  rcases He.tupB_ok hq (fun _ => none) with q | q
  · rcases q with q | ⟨o, q⟩
    · cases q
    · cases q
  · have e3 : (p.2.map He.Dv.int).map (He.Dv.v K) = p.2.map V.int := by rw [List.map_map]; rfl
    rw [e3] at q
    exact q
theorem lookup_map {α β : Type} {g : α → Str} {f : α → β} {x : Str} {y : β} {l : List α} (e : (l.map fun a => (g a, f a)).lookup x = some y) : ∃ a ∈ l, g a = x ∧ f a = y := by
  obtain ⟨a, ha, e⟩ := List.mem_map.mp (PySem.mem_of_lookup e)
  cases e
  exact ⟨a, ha, rfl, rfl⟩
/-- the table, n deep -/
theorem Prog.tab (X : K.In h) (Gm : h.Ns mainGlobals mg) (c : P.ob K = (He.valD (P.ds.map DI.D), true)) (hkt : P.glbs = [] ∨ P.kt = true) (hok : P.ds.all DI.ok = true) (hb : BindA P.ds) :
    ∀ n, Tab (P.G n) ⟨K, P.kt, He.ga K⟩ (2 * n) prog w K mg base := by
  intro n
  induction n with
  | zero => exact ⟨rfl, rfl, fun f F e => (nomatch e), (P.tab0 X Gm c hkt).1, (P.tab0 X Gm c hkt).2, fun f F e => (nomatch e)⟩
  | succ n t =>
    have ent : ∀ x ∈ P.ds, Ent ⟨K, P.kt, He.ga K⟩ (2 * n + 2) prog w K mg base (He.fAd K x.at_) (runD (P.G n) x.d) := fun x hx => by
      obtain ⟨fd, F, FD⟩ := P.def_ c hx
      obtain ⟨s1, s2, s3⟩ := DI.scope (List.all_eq_true.mp hok x hx)
      exact ent_mini F s1 s2 (FD.bindsN (hb.of hx)) t s3
    have entp : ∀ p F, P.fn (P.G n) p = some F → Ent ⟨K, P.kt, He.ga K⟩ (2 * n + 2) prog w K mg base (He.fAd K p) F := fun p F e => by
      obtain ⟨x, hx, e2⟩ := Option.map_eq_some_iff.mp e
      obtain ⟨hm, rfl⟩ := P.at_mem hx
      have e' : runD (P.G n) x.d = F := e2
      rw [← e']
      exact ent x hm
    refine ⟨rfl, rfl, fun f F e => ?_, (P.tab0 X Gm c hkt).1, (P.tab0 X Gm c hkt).2, fun cn C e => ?_⟩
    · obtain ⟨x, hx, rfl, rfl⟩ := lookup_map e
      have hx' := List.mem_filter.mp hx
      have ea : He.fAd K x.at_ = He.ga K x.at_.1 := by
        unfold He.fAd
        rw [of_decide_eq_true hx'.2]
      have en := ent x hx'.1
      rw [ea] at en
      obtain ⟨fd, F, FD⟩ := P.def_ c hx'.1
      have kp := F.kp
      rw [ea] at kp
      exact ⟨He.ga K x.at_.1, He.glo_ok X Gm (P.fact c (List.mem_append_left _ (List.mem_map.mpr ⟨x, hx, rfl⟩))), kp, en⟩
    · obtain ⟨ci, hc, rfl, rfl⟩ := lookup_map e
      have mem : ∀ f : He.Fa, f ∈ (He.Fa.glo ci.name :: .cls ci.name :: (ci.attrs.map (fun f => .noat ci.name f) ++ (ci.meths.map (fun m => .meth ci.name m) ++ if ci.init then [.mkr ci.name] else []))) → f.ok K = true := fun f hf =>
        P.fact c (List.mem_append_right _ (List.mem_append_right _ (List.mem_append_right _ (List.mem_flatMap.mpr ⟨ci, hc, hf⟩))))
      refine ⟨He.cls_ok (mem _ (by simp)), He.glo_ok X Gm (mem _ (by simp)), fun f hf => He.noat_ok (mem _ ?_), fun m F e2 => ?_, fun F e2 => ?_⟩
      · refine List.mem_cons_of_mem _ (List.mem_cons_of_mem _ (List.mem_append_left _ (List.mem_map.mpr ⟨f, hf, rfl⟩)))
      · obtain ⟨m', hm', e3⟩ := List.mem_filterMap.mp (PySem.mem_of_lookup e2)
        obtain ⟨F', eF, e4⟩ := Option.map_eq_some_iff.mp e3
        cases e4
        exact ⟨_, He.meth_ok (mem _ (List.mem_cons_of_mem _ (List.mem_cons_of_mem _ (List.mem_append_right _ (List.mem_append_left _ (List.mem_map.mpr ⟨_, hm', rfl⟩)))))), entp _ _ eF⟩
      · have e3 : (if ci.init = true then P.fn (P.G n) (ci.name, some "__init__") else none) = some F := e2
        split at e3
        · rename_i hi
          refine ⟨_, He.mkr_ok (mem _ (List.mem_cons_of_mem _ (List.mem_cons_of_mem _ (List.mem_append_right _ (List.mem_append_right _ ?_))))), entp _ _ e3⟩
          rw [if_pos hi]
          exact List.mem_singleton.mpr rfl
        · cases e3
end
theorem walk_mini {l : PySem.W.OpenLaw} {n k : Nat} {q : Program} {loose : List Str} {XP : (Str → Option Value) → Heap → Prop} {YP : World → Heap → Prop} {d : DefRec} {x : Str}
    (hn : l.most = some n) (hn2 : n ≤ sizeLine) (hdf : d.params.defaults = []) (hr : Room k callerA)
    (F : ∀ (w : World) (mg : Str → Option Value) (fa : Addr) (h : Heap), YP w h → h.Ns mainGlobals mg → mg d.name = some (.ref fa) →
      ∃ (K : PySem.W.Frag) (fd : FuncData) (sp : Sp), K.In h ∧ (∀ (s : Shared) (u : Value), BindsTo s fd ⟨[u], []⟩ [(x, u)]) ∧
        (∀ (H : Hp) (a : Addr) (ns : List Int), ns.length ≤ n → (∀ z ∈ ns, Builtin.Int.intBits z ≤ 1048576) → SqL K H a (ns.map V.int) → sp [.ref a] H (fun v _ => v = .bl true) fun _ _ _ => False) ∧
        ∀ base : Heap, K.In base → base.Ns mainGlobals mg → FnOk l.prog w K mg base CX0 k fa fd [x] sp) :
    PySem.W.WalkO q loose XP YP l.row.toRowW d [] (fun f vs => PySem.call f vs) := by
  refine Att.attach_callB hn hdf fun w s₀ s₁ mg mb fa o pm cd doc a vs ns G Y ho hd hcd hmg hobj hints hlen hbits hg => ?_
  obtain ⟨K, fd, sp, KX, hb, hsp, hF⟩ := F w mg fa _ Y G.T.g hmg
  exact law_call KX G.T.g G.T.b G.T.builtins G.T.nolimit hg hobj hints (Nat.le_trans hlen hn2) hr hF hb (fun H hO hS => hsp H a ns hlen hbits hS) fun H e s' hq => hq
/-- the law's own goal -/
def Prog.Goal (P : Prog) (n : Nat) (dl : MD) : Prop := ∀ ns : List Int, ns.length ≤ 63 → (∀ z ∈ ns, Builtin.Int.intBits z ≤ 1048576) → ∃ M, runD (P.G n) dl [.sc ns] [] = some (.bl true, M)
/-- the end -/
theorem mini_walk {l : PySem.W.OpenLaw} {q : Program} {loose : List Str} {d : DefRec} {P : Prog} {m n : Nat} {x : Str} {xl : DI} {XP : (Str → Option Value) → Heap → Prop} (hn : l.most = some 63) (hdf : d.params.defaults = []) (hd : d.name = ("law" : Str)) (hkt : P.glbs = [] ∨ P.kt = true) (hok : P.ds.all DI.ok = true) (hb : BindA P.ds)
    (hxl : P.at ("law", none) = some xl) (hps : xl.d.ps = [x]) (hroom : n ≤ 40) (goal : P.Goal n xl.d) : PySem.W.WalkO q loose XP (P.hook m).says l.row.toRowW d [] (fun f vs => PySem.call f vs) := by
  refine walk_mini (l := l) (n := 63) (k := 2 * n + 2) (x := x) hn (by rw [szl]; decide) hdf ⟨rfl, ?_, ?_⟩ fun w mg fa h Y Gm hmg => ?_
  · have : callerA.depth + 3 * 82 + 5 < recursionLimit := by decide
    omega
  · have : callerA.units + 16 * 82 + 200 < cLine := by decide
    omega
  · obtain ⟨K, KX, c⟩ := Y
    rw [hd] at hmg
    obtain ⟨hm, ha⟩ := P.at_mem hxl
    obtain ⟨fd, F, FD⟩ := P.def_ c hm
    have efa : fa = He.fAd K xl.at_ := by
      have hmem : xl ∈ P.fns := List.mem_filter.mpr ⟨hm, by rw [ha]; rfl⟩
      have g := He.glo_ok KX Gm (P.fact c (List.mem_append_left _ (List.mem_map.mpr ⟨xl, hmem, rfl⟩)))
      have e1 : xl.at_.1 = ("law" : Str) := by rw [ha]
      rw [e1, hmg] at g
      cases g
      unfold He.fAd
      rw [ha]
    subst efa
    obtain ⟨s1, s2, s3⟩ := DI.scope (List.all_eq_true.mp hok xl hm)
    refine ⟨K, fd, spM ⟨K, P.kt, He.ga K⟩ xl.d.ps.length (runD (P.G n) xl.d), KX, fun s u => ?_, fun H a ns h1 h2 hS => ?_, fun base hB hG => ?_⟩
    · have := FD.bindsA (hb.of hm) s [u] (by rw [hps]; rfl)
      rw [hps] at this
      exact this
    · obtain ⟨M', e⟩ := goal ns h1 h2
      refine ⟨by rw [hps]; rfl, [], [], [], [.sc ns], .bl true, M', ⟨rfl, List.nodup_nil, fun a h => (nomatch h), fun a h => (nomatch h), fun i a o e => by simp at e⟩, .cons (.sc ?_) .nil, e, fun φ' H' v _ _ r => ?_⟩
      · rcases hS with q | q
        · exact .inl ⟨⟨by simp, by simp⟩, q⟩
        · exact .inr q
      · cases r; rfl
    · have t := P.tab KX Gm c hkt hok hb (prog := l.prog) (w := w) (base := base) n
      rw [← hps]
      exact fn_mini F s1 s2 t s3
end Mi
end L2

/-! The defs of the laws as terms (printed by lib.py). -/
namespace L2
namespace Mi
namespace Lib
open PySem PySem.Spec PyProof.Rows
def common_divisor : MD := ⟨["a", "b"], ["a", "b"], [
  .par [(0, "a"), (1, "b")] (.cons (.bi .abs (.cons (.var 0 "a") .nil)) (.cons (.bi .abs (.cons (.var 1 "b") .nil)) .nil)),
  .whl (.var 1 "b") [
    .par [(0, "a"), (1, "b")] (.cons (.var 1 "b") (.cons (.bin .Mod false (.var 0 "a") (.var 1 "b")) .nil))],
  .ret (.var 0 "a")], true⟩
def divisor_of : MD := ⟨["integers"], ["integers", "found", "integer"], [
  .set 1 "found" (.int 0),
  .for (.nm 2 "integer") (.over (.var 0 "integers")) [
    .ite (.var 2 "integer") [
      .set 1 "found" (.call "common_divisor" (.cons (.var 1 "found") (.cons (.var 2 "integer") .nil))),
      .ite (.cmp .Eq (.var 1 "found") (.int 1)) [
        .brk] []] []],
  .ret (.var 1 "found")], true⟩
def number : MD := ⟨["n", "d"], ["n", "d", "divisor"], [
  .ite (.cmp .Lt (.var 1 "d") (.int 0)) [
    .par [(0, "n"), (1, "d")] (.cons (.neg (.var 0 "n")) (.cons (.neg (.var 1 "d")) .nil))] [],
  .set 2 "divisor" (.call "common_divisor" (.cons (.var 0 "n") (.cons (.var 1 "d") .nil))),
  .ret (.tup (.cons (.bin .FloorDiv false (.var 0 "n") (.var 2 "divisor")) (.cons (.bin .FloorDiv false (.var 1 "d") (.var 2 "divisor")) .nil)))], true⟩
def plus : MD := ⟨["a", "b"], ["a", "b"], [
  .ret (.call "number" (.cons (.bin .Add false (.bin .Mult false (.ix (.var 0 "a") (.int 0)) (.ix (.var 1 "b") (.int 1))) (.bin .Mult false (.ix (.var 1 "b") (.int 0)) (.ix (.var 0 "a") (.int 1)))) (.cons (.bin .Mult false (.ix (.var 0 "a") (.int 1)) (.ix (.var 1 "b") (.int 1))) .nil)))], true⟩
def minus : MD := ⟨["a", "b"], ["a", "b"], [
  .ret (.call "number" (.cons (.bin .Sub false (.bin .Mult false (.ix (.var 0 "a") (.int 0)) (.ix (.var 1 "b") (.int 1))) (.bin .Mult false (.ix (.var 1 "b") (.int 0)) (.ix (.var 0 "a") (.int 1)))) (.cons (.bin .Mult false (.ix (.var 0 "a") (.int 1)) (.ix (.var 1 "b") (.int 1))) .nil)))], true⟩
def times : MD := ⟨["a", "b"], ["a", "b"], [
  .ret (.call "number" (.cons (.bin .Mult false (.ix (.var 0 "a") (.int 0)) (.ix (.var 1 "b") (.int 0))) (.cons (.bin .Mult false (.ix (.var 0 "a") (.int 1)) (.ix (.var 1 "b") (.int 1))) .nil)))], true⟩
def over : MD := ⟨["a", "b"], ["a", "b"], [
  .ret (.call "number" (.cons (.bin .Mult false (.ix (.var 0 "a") (.int 0)) (.ix (.var 1 "b") (.int 1))) (.cons (.bin .Mult false (.ix (.var 0 "a") (.int 1)) (.ix (.var 1 "b") (.int 0))) .nil)))], true⟩
def less : MD := ⟨["a", "b"], ["a", "b"], [
  .ret (.cmp .Lt (.bin .Mult false (.ix (.var 0 "a") (.int 0)) (.ix (.var 1 "b") (.int 1))) (.bin .Mult false (.ix (.var 1 "b") (.int 0)) (.ix (.var 0 "a") (.int 1))))], true⟩
def sign : MD := ⟨["a"], ["a"], [
  .ret (.bin .Sub false (.bi .int (.cons (.cmp .Gt (.ix (.var 0 "a") (.int 0)) (.int 0)) .nil)) (.bi .int (.cons (.cmp .Lt (.ix (.var 0 "a") (.int 0)) (.int 0)) .nil)))], true⟩
def lowest : MD := ⟨["integers"], ["integers", "divisor", "integer"], [
  .set 1 "divisor" (.call "divisor_of" (.cons (.var 0 "integers") .nil)),
  .ite (.cmp .Lt (.var 1 "divisor") (.int 2)) [
    .ret (.bi (.list false) (.cons (.var 0 "integers") .nil))] [],
  .ret (.lc false [("integer", 2)] (.nm 2 "integer") (.over (.var 0 "integers")) .nil (.bin .FloorDiv false (.var 2 "integer") (.var 1 "divisor")))], true⟩
def brought : MD := ⟨["numbers"], ["numbers", "common", "part"], [
  .set 1 "common" (.int 1),
  .for (.nm 2 "part") (.over (.var 0 "numbers")) [
    .set 1 "common" (.bin .Mult false (.bin .FloorDiv false (.var 1 "common") (.call "common_divisor" (.cons (.var 1 "common") (.cons (.ix (.var 2 "part") (.int 1)) .nil)))) (.ix (.var 2 "part") (.int 1)))],
  .ret (.call "lowest" (.cons (.lc false [("part", 2)] (.nm 2 "part") (.over (.var 0 "numbers")) .nil (.bin .Mult false (.ix (.var 2 "part") (.int 0)) (.bin .FloorDiv false (.var 1 "common") (.ix (.var 2 "part") (.int 1))))) .nil))], true⟩
def _law_cell : MD := ⟨["_law_script", "_law_k"], ["_law_script", "_law_k"], [
  .ite (.cmp .Lt (.var 1 "_law_k") (.bi .len (.cons (.var 0 "_law_script") .nil))) [
    .ret (.ix (.var 0 "_law_script") (.var 1 "_law_k"))] [],
  .ret (.int 0)], true⟩
def _law_parts : MD := ⟨["_law_cell_here", "_law_sizes"], ["_law_cell_here", "_law_sizes", "_law_parts_here", "_law_left", "_law_k", "_law_mixed"], [
  .set 2 "_law_parts_here" (.lst true .nil),
  .set 3 "_law_left" (.bin .Sub false (.var 0 "_law_cell_here") (.bin .Pow false (.int 10) (.int 18))),
  .for (.nm 4 "_law_k") (.rng1 (.bi .len (.cons (.var 1 "_law_sizes") .nil))) [
    .ite (.cmp .GtE (.var 3 "_law_left") (.int 0)) [
      .ex (.bm .append (.var 2 "_law_parts_here") (.cons (.bin .Mod false (.bi .int (.cons (.var 3 "_law_left") .nil)) (.ix (.var 1 "_law_sizes") (.var 4 "_law_k"))) .nil)),
      .set 3 "_law_left" (.bin .FloorDiv false (.var 3 "_law_left") (.ix (.var 1 "_law_sizes") (.var 4 "_law_k")))] [
      .set 5 "_law_mixed" (.bin .Mod false (.bi .int (.cons (.bin .Add false (.bin .Add false (.bin .Mult false (.var 0 "_law_cell_here") (.int 48271)) (.bin .Mult false (.var 4 "_law_k") (.int 69621))) (.int 11)) .nil)) (.int 2147483647)),
      .set 5 "_law_mixed" (.bin .Mod false (.bi .int (.cons (.bin .Add false (.bin .Add false (.bin .Mult false (.var 5 "_law_mixed") (.var 5 "_law_mixed")) (.bin .Mult false (.int 16807) (.var 4 "_law_k"))) (.int 5)) .nil)) (.int 998244353)),
      .ex (.bm .append (.var 2 "_law_parts_here") (.cons (.bin .Mod false (.bi .int (.cons (.bin .FloorDiv false (.var 5 "_law_mixed") (.int 7)) .nil)) (.ix (.var 1 "_law_sizes") (.var 4 "_law_k"))) .nil))]],
  .ret (.var 2 "_law_parts_here")], true⟩
def _law_is_integer : MD := ⟨["_law_actual"], ["_law_actual"], [
  .ret (.and (.isi (.var 0 "_law_actual") "int") (.one (.not (.isi (.var 0 "_law_actual") "bool"))))], true⟩
def _law_divisor : MD := ⟨["_law_a", "_law_b"], ["_law_a", "_law_b", "_law_k"], [
  .set 0 "_law_a" (.bi .abs (.cons (.var 0 "_law_a") .nil)),
  .set 1 "_law_b" (.bi .abs (.cons (.var 1 "_law_b") .nil)),
  .for (.nm 2 "_law_k") (.rng1 (.int 4000)) [
    .ite (.cmp .Eq (.var 1 "_law_b") (.int 0)) [
      .ret (.var 0 "_law_a")] [],
    .par [(0, "_law_a"), (1, "_law_b")] (.cons (.var 1 "_law_b") (.cons (.bin .Mod false (.bi .int (.cons (.var 0 "_law_a") .nil)) (.var 1 "_law_b")) .nil))],
  .ret (.var 0 "_law_a")], true⟩
def _law_number : MD := ⟨["_law_n", "_law_d"], ["_law_n", "_law_d", "_law_divisor_here"], [
  .set 2 "_law_divisor_here" (.call "_law_divisor" (.cons (.var 0 "_law_n") (.cons (.var 1 "_law_d") .nil))),
  .ite (.cmp .Lt (.var 1 "_law_d") (.int 0)) [
    .set 2 "_law_divisor_here" (.neg (.var 2 "_law_divisor_here"))] [],
  .ret (.tup (.cons (.bin .FloorDiv false (.var 0 "_law_n") (.var 2 "_law_divisor_here")) (.cons (.bin .FloorDiv false (.var 1 "_law_d") (.var 2 "_law_divisor_here")) .nil)))], true⟩
def _law_plus : MD := ⟨["_law_a", "_law_b"], ["_law_a", "_law_b"], [
  .ret (.call "_law_number" (.cons (.bin .Add false (.bin .Mult false (.ix (.var 0 "_law_a") (.int 0)) (.ix (.var 1 "_law_b") (.int 1))) (.bin .Mult false (.ix (.var 1 "_law_b") (.int 0)) (.ix (.var 0 "_law_a") (.int 1)))) (.cons (.bin .Mult false (.ix (.var 0 "_law_a") (.int 1)) (.ix (.var 1 "_law_b") (.int 1))) .nil)))], true⟩
def _law_times : MD := ⟨["_law_a", "_law_b"], ["_law_a", "_law_b"], [
  .ret (.call "_law_number" (.cons (.bin .Mult false (.ix (.var 0 "_law_a") (.int 0)) (.ix (.var 1 "_law_b") (.int 0))) (.cons (.bin .Mult false (.ix (.var 0 "_law_a") (.int 1)) (.ix (.var 1 "_law_b") (.int 1))) .nil)))], true⟩
def _law_less : MD := ⟨["_law_a", "_law_b"], ["_law_a", "_law_b"], [
  .ret (.cmp .Lt (.bin .Mult false (.ix (.var 0 "_law_a") (.int 0)) (.ix (.var 1 "_law_b") (.int 1))) (.bin .Mult false (.ix (.var 1 "_law_b") (.int 0)) (.ix (.var 0 "_law_a") (.int 1))))], true⟩
def _law_total : MD := ⟨["_law_numbers"], ["_law_numbers", "_law_found", "_law_part"], [
  .set 1 "_law_found" (.tup (.cons (.int 0) (.cons (.int 1) .nil))),
  .for (.nm 2 "_law_part") (.over (.var 0 "_law_numbers")) [
    .set 1 "_law_found" (.call "_law_plus" (.cons (.var 1 "_law_found") (.cons (.var 2 "_law_part") .nil)))],
  .ret (.var 1 "_law_found")], true⟩
def _law_is_same : MD := ⟨["_law_actual", "_law_due"], ["_law_actual", "_law_due"], [
  .ite (.or (.not (.isi (.var 0 "_law_actual") "tuple")) (.one (.cmp .NotEq (.bi .len (.cons (.var 0 "_law_actual") .nil)) (.int 2)))) [
    .ret (.bl false)] [],
  .ret (.and (.call "_law_is_integer" (.cons (.ix (.var 0 "_law_actual") (.int 0)) .nil)) (.and (.call "_law_is_integer" (.cons (.ix (.var 0 "_law_actual") (.int 1)) .nil)) (.one (.cmp .Eq (.var 0 "_law_actual") (.var 1 "_law_due")))))], true⟩
def _law_pair : MD := ⟨["_law_parts_here", "_law_at"], ["_law_parts_here", "_law_at", "_law_size", "_law_n", "_law_d"], [
  .set 2 "_law_size" (.ix (.lst false (.cons (.int 7) (.cons (.int 40) (.cons (.bin .Pow false (.int 10) (.int 30)) .nil)))) (.ix (.var 0 "_law_parts_here") (.var 1 "_law_at"))),
  .set 3 "_law_n" (.bin .Sub false (.bin .Mod false (.ix (.var 0 "_law_parts_here") (.bin .Add false (.var 1 "_law_at") (.int 1))) (.var 2 "_law_size")) (.bin .FloorDiv false (.var 2 "_law_size") (.int 2))),
  .set 4 "_law_d" (.bin .Add false (.int 1) (.bin .Mod false (.ix (.var 0 "_law_parts_here") (.bin .Add false (.var 1 "_law_at") (.int 2))) (.var 2 "_law_size"))),
  .ret (.tup (.cons (.bin .Mult false (.var 3 "_law_n") (.bin .Add false (.int 1) (.ix (.var 0 "_law_parts_here") (.bin .Add false (.var 1 "_law_at") (.int 3))))) (.cons (.bin .Mult false (.bin .Mult false (.var 4 "_law_d") (.bin .Add false (.int 1) (.ix (.var 0 "_law_parts_here") (.bin .Add false (.var 1 "_law_at") (.int 3))))) (.ix (.lst false (.cons (.int 1) (.cons (.neg (.int 1)) .nil))) (.ix (.var 0 "_law_parts_here") (.bin .Add false (.var 1 "_law_at") (.int 4))))) .nil)))], true⟩
def _law_right_lists : MD := ⟨["_law_parts_here"], ["_law_parts_here", "_law_integers", "_law_divisor_here", "_law_part", "_law_due", "_law_kept", "_law_numbers", "_law_common", "_law_raised", "_law_k"], [
  .set 1 "_law_integers" (.lc false [("_law_k", 9)] (.nm 9 "_law_k") (.rng1 (.ix (.var 0 "_law_parts_here") (.int 8))) .nil (.bin .Sub false (.ix (.var 0 "_law_parts_here") (.var 9 "_law_k")) (.int 30))),
  .set 1 "_law_integers" (.lc false [("_law_part", 3)] (.nm 3 "_law_part") (.over (.var 1 "_law_integers")) .nil (.bin .Mult false (.bin .Mult false (.var 3 "_law_part") (.bin .Add false (.int 1) (.ix (.var 0 "_law_parts_here") (.int 9)))) (.ix (.lst false (.cons (.int 1) (.cons (.int 0) .nil))) (.bi .int (.cons (.cmp .Eq (.ix (.var 0 "_law_parts_here") (.int 10)) (.int 0)) .nil))))),
  .set 2 "_law_divisor_here" (.int 0),
  .for (.nm 3 "_law_part") (.over (.var 1 "_law_integers")) [
    .set 2 "_law_divisor_here" (.call "_law_divisor" (.cons (.var 2 "_law_divisor_here") (.cons (.var 3 "_law_part") .nil)))],
  .set 4 "_law_due" (.lc false [("_law_part", 3)] (.nm 3 "_law_part") (.over (.var 1 "_law_integers")) .nil (.bin .FloorDiv false (.var 3 "_law_part") (.bi .max (.cons (.int 1) (.cons (.var 2 "_law_divisor_here") .nil))))),
  .set 5 "_law_kept" (.bi (.list false) (.cons (.var 1 "_law_integers") .nil)),
  .ite (.or (.cmp .NotEq (.call "lowest" (.cons (.var 1 "_law_integers") .nil)) (.var 4 "_law_due")) (.or (.cmp .NotEq (.var 1 "_law_integers") (.var 5 "_law_kept")) (.one (.not (.isi (.call "lowest" (.cons (.var 1 "_law_integers") .nil)) "list"))))) [
    .ret (.bl false)] [],
  .set 6 "_law_numbers" (.lc false [("_law_k", 9)] (.nm 9 "_law_k") (.rng1 (.bin .Mod false (.bi .int (.cons (.ix (.var 0 "_law_parts_here") (.int 8)) .nil)) (.int 7))) .nil (.call "_law_number" (.cons (.bin .Sub false (.ix (.var 0 "_law_parts_here") (.var 9 "_law_k")) (.int 30)) (.cons (.bin .Add false (.int 1) (.bin .Mod false (.bi .int (.cons (.ix (.var 0 "_law_parts_here") (.bin .Add false (.var 9 "_law_k") (.int 1))) .nil)) (.int 9))) .nil)))),
  .set 7 "_law_common" (.int 1),
  .for (.nm 3 "_law_part") (.over (.var 6 "_law_numbers")) [
    .set 7 "_law_common" (.bin .Mult false (.bin .FloorDiv false (.var 7 "_law_common") (.call "_law_divisor" (.cons (.var 7 "_law_common") (.cons (.ix (.var 3 "_law_part") (.int 1)) .nil)))) (.ix (.var 3 "_law_part") (.int 1)))],
  .set 8 "_law_raised" (.lc false [("_law_part", 3)] (.nm 3 "_law_part") (.over (.var 6 "_law_numbers")) .nil (.bin .Mult false (.ix (.var 3 "_law_part") (.int 0)) (.bin .FloorDiv false (.var 7 "_law_common") (.ix (.var 3 "_law_part") (.int 1))))),
  .set 2 "_law_divisor_here" (.int 0),
  .for (.nm 3 "_law_part") (.over (.var 8 "_law_raised")) [
    .set 2 "_law_divisor_here" (.call "_law_divisor" (.cons (.var 2 "_law_divisor_here") (.cons (.var 3 "_law_part") .nil)))],
  .ret (.cmp .Eq (.call "brought" (.cons (.var 6 "_law_numbers") .nil)) (.lc false [("_law_part", 3)] (.nm 3 "_law_part") (.over (.var 8 "_law_raised")) .nil (.bin .FloorDiv false (.var 3 "_law_part") (.bi .max (.cons (.int 1) (.cons (.var 2 "_law_divisor_here") .nil))))))], true⟩
def law : MD := ⟨["_law_script"], ["_law_script", "_law_parts_here", "_law_a", "_law_b", "_law_first", "_law_second"], [
  .set 1 "_law_parts_here" (.call "_law_parts" (.cons (.call "_law_cell" (.cons (.var 0 "_law_script") (.cons (.int 0) .nil))) (.cons (.bin .Mult false (.lst false (.cons (.int 3) (.cons (.bin .Pow false (.int 10) (.int 30)) (.cons (.bin .Pow false (.int 10) (.int 30)) (.cons (.int 12) (.cons (.int 2) .nil)))))) (.int 2)) .nil))),
  .set 2 "_law_a" (.call "_law_pair" (.cons (.var 1 "_law_parts_here") (.cons (.int 0) .nil))),
  .set 3 "_law_b" (.call "_law_pair" (.cons (.var 1 "_law_parts_here") (.cons (.int 5) .nil))),
  .set 4 "_law_first" (.call "_law_number" (.cons (.ix (.var 2 "_law_a") (.int 0)) (.cons (.ix (.var 2 "_law_a") (.int 1)) .nil))),
  .set 5 "_law_second" (.call "_law_number" (.cons (.ix (.var 3 "_law_b") (.int 0)) (.cons (.ix (.var 3 "_law_b") (.int 1)) .nil))),
  .ite (.or (.not (.call "_law_is_same" (.cons (.call "number" (.cons (.ix (.var 2 "_law_a") (.int 0)) (.cons (.ix (.var 2 "_law_a") (.int 1)) .nil))) (.cons (.var 4 "_law_first") .nil)))) (.one (.not (.call "_law_is_same" (.cons (.call "number" (.cons (.ix (.var 3 "_law_b") (.int 0)) (.cons (.ix (.var 3 "_law_b") (.int 1)) .nil))) (.cons (.var 5 "_law_second") .nil)))))) [
    .ret (.bl false)] [],
  .ite (.not (.call "_law_is_same" (.cons (.call "plus" (.cons (.var 4 "_law_first") (.cons (.var 5 "_law_second") .nil))) (.cons (.call "_law_plus" (.cons (.var 4 "_law_first") (.cons (.var 5 "_law_second") .nil))) .nil)))) [
    .ret (.bl false)] [],
  .ite (.not (.call "_law_is_same" (.cons (.call "minus" (.cons (.var 4 "_law_first") (.cons (.var 5 "_law_second") .nil))) (.cons (.call "_law_plus" (.cons (.var 4 "_law_first") (.cons (.tup (.cons (.neg (.ix (.var 5 "_law_second") (.int 0))) (.cons (.ix (.var 5 "_law_second") (.int 1)) .nil))) .nil))) .nil)))) [
    .ret (.bl false)] [],
  .ite (.not (.call "_law_is_same" (.cons (.call "times" (.cons (.var 4 "_law_first") (.cons (.var 5 "_law_second") .nil))) (.cons (.call "_law_times" (.cons (.var 4 "_law_first") (.cons (.var 5 "_law_second") .nil))) .nil)))) [
    .ret (.bl false)] [],
  .ite (.and (.cmp .NotEq (.ix (.var 5 "_law_second") (.int 0)) (.int 0)) (.one (.not (.call "_law_is_same" (.cons (.call "over" (.cons (.var 4 "_law_first") (.cons (.var 5 "_law_second") .nil))) (.cons (.call "_law_times" (.cons (.var 4 "_law_first") (.cons (.call "_law_number" (.cons (.ix (.var 5 "_law_second") (.int 1)) (.cons (.ix (.var 5 "_law_second") (.int 0)) .nil))) .nil))) .nil)))))) [
    .ret (.bl false)] [],
  .ite (.or (.cmp .NotEq (.call "less" (.cons (.var 4 "_law_first") (.cons (.var 5 "_law_second") .nil))) (.call "_law_less" (.cons (.var 4 "_law_first") (.cons (.var 5 "_law_second") .nil)))) (.one (.cmp .IsNot (.call "less" (.cons (.var 4 "_law_first") (.cons (.var 4 "_law_first") .nil))) (.bl false)))) [
    .ret (.bl false)] [],
  .ite (.or (.cmp .NotEq (.call "sign" (.cons (.var 4 "_law_first") .nil)) (.bin .Sub false (.bi .int (.cons (.cmp .Gt (.ix (.var 4 "_law_first") (.int 0)) (.int 0)) .nil)) (.bi .int (.cons (.cmp .Lt (.ix (.var 4 "_law_first") (.int 0)) (.int 0)) .nil)))) (.one (.cmp .NotEq (.call "sign" (.cons (.tup (.cons (.int 0) (.cons (.int 1) .nil))) .nil)) (.int 0)))) [
    .ret (.bl false)] [],
  .ret (.call "_law_right_lists" (.cons (.call "_law_parts" (.cons (.call "_law_cell" (.cons (.var 0 "_law_script") (.cons (.int 1) .nil))) (.cons (.bin .Add false (.bin .Mult false (.lst false (.cons (.int 61) .nil)) (.int 8)) (.lst false (.cons (.int 9) (.cons (.int 12) (.cons (.int 4) .nil))))) .nil))) .nil))], true⟩
end Lib
end Mi
end L2

namespace K01
open PySem PySem.Spec PyProof.Rows L2 L2.Mi
def top (i : Nat) : Stmt := PySem.Challenge.pw_loadorloose_k01_numbers.main.body.getD i (.Pass ⟨0, 0, 0, 0⟩)
def sub (i j : Nat) : Stmt := (C8.clsBody (top i)).getD j (.Pass ⟨0, 0, 0, 0⟩)
def i_common_divisor : DI := ⟨("common_divisor", none), "common_divisor", "common_divisor", (top 1), Lib.common_divisor, ["a", "b"]⟩
theorem k_common_divisor : i_common_divisor.ok = true := by decide +kernel
theorem b_common_divisor : BindD i_common_divisor := fun _ _ _ _ _ _ us hl => match us, hl with | [_, _], _ => rfl
def i_divisor_of : DI := ⟨("divisor_of", none), "divisor_of", "divisor_of", (top 2), Lib.divisor_of, ["integers", "found", "integer"]⟩
theorem k_divisor_of : i_divisor_of.ok = true := by decide +kernel
theorem b_divisor_of : BindD i_divisor_of := fun _ _ _ _ _ _ us hl => match us, hl with | [_], _ => rfl
def i_number : DI := ⟨("number", none), "number", "number", (top 3), Lib.number, ["n", "d", "divisor"]⟩
theorem k_number : i_number.ok = true := by decide +kernel
theorem b_number : BindD i_number := fun _ _ _ _ _ _ us hl => match us, hl with | [_, _], _ => rfl
def i_plus : DI := ⟨("plus", none), "plus", "plus", (top 4), Lib.plus, ["a", "b"]⟩
theorem k_plus : i_plus.ok = true := by decide +kernel
theorem b_plus : BindD i_plus := fun _ _ _ _ _ _ us hl => match us, hl with | [_, _], _ => rfl
def i_minus : DI := ⟨("minus", none), "minus", "minus", (top 5), Lib.minus, ["a", "b"]⟩
theorem k_minus : i_minus.ok = true := by decide +kernel
theorem b_minus : BindD i_minus := fun _ _ _ _ _ _ us hl => match us, hl with | [_, _], _ => rfl
def i_times : DI := ⟨("times", none), "times", "times", (top 6), Lib.times, ["a", "b"]⟩
theorem k_times : i_times.ok = true := by decide +kernel
theorem b_times : BindD i_times := fun _ _ _ _ _ _ us hl => match us, hl with | [_, _], _ => rfl
def i_over : DI := ⟨("over", none), "over", "over", (top 7), Lib.over, ["a", "b"]⟩
theorem k_over : i_over.ok = true := by decide +kernel
theorem b_over : BindD i_over := fun _ _ _ _ _ _ us hl => match us, hl with | [_, _], _ => rfl
def i_less : DI := ⟨("less", none), "less", "less", (top 8), Lib.less, ["a", "b"]⟩
theorem k_less : i_less.ok = true := by decide +kernel
theorem b_less : BindD i_less := fun _ _ _ _ _ _ us hl => match us, hl with | [_, _], _ => rfl
def i_sign : DI := ⟨("sign", none), "sign", "sign", (top 9), Lib.sign, ["a"]⟩
theorem k_sign : i_sign.ok = true := by decide +kernel
theorem b_sign : BindD i_sign := fun _ _ _ _ _ _ us hl => match us, hl with | [_], _ => rfl
def i_lowest : DI := ⟨("lowest", none), "lowest", "lowest", (top 10), Lib.lowest, ["integers", "divisor"]⟩
theorem k_lowest : i_lowest.ok = true := by decide +kernel
theorem b_lowest : BindD i_lowest := fun _ _ _ _ _ _ us hl => match us, hl with | [_], _ => rfl
def i_brought : DI := ⟨("brought", none), "brought", "brought", (top 11), Lib.brought, ["numbers", "common", "part"]⟩
theorem k_brought : i_brought.ok = true := by decide +kernel
theorem b_brought : BindD i_brought := fun _ _ _ _ _ _ us hl => match us, hl with | [_], _ => rfl
def i__law_cell : DI := ⟨("_law_cell", none), "_law_cell", "_law_cell", (top 13), Lib._law_cell, ["_law_script", "_law_k"]⟩
theorem k__law_cell : i__law_cell.ok = true := by decide +kernel
theorem b__law_cell : BindD i__law_cell := fun _ _ _ _ _ _ us hl => match us, hl with | [_, _], _ => rfl
def i__law_parts : DI := ⟨("_law_parts", none), "_law_parts", "_law_parts", (top 14), Lib._law_parts, ["_law_cell_here", "_law_sizes", "_law_parts_here", "_law_left", "_law_k", "_law_mixed"]⟩
theorem k__law_parts : i__law_parts.ok = true := by decide +kernel
theorem b__law_parts : BindD i__law_parts := fun _ _ _ _ _ _ us hl => match us, hl with | [_, _], _ => rfl
def i__law_is_integer : DI := ⟨("_law_is_integer", none), "_law_is_integer", "_law_is_integer", (top 15), Lib._law_is_integer, ["_law_actual"]⟩
theorem k__law_is_integer : i__law_is_integer.ok = true := by decide +kernel
theorem b__law_is_integer : BindD i__law_is_integer := fun _ _ _ _ _ _ us hl => match us, hl with | [_], _ => rfl
def i__law_divisor : DI := ⟨("_law_divisor", none), "_law_divisor", "_law_divisor", (top 16), Lib._law_divisor, ["_law_a", "_law_b", "_law_k"]⟩
theorem k__law_divisor : i__law_divisor.ok = true := by decide +kernel
theorem b__law_divisor : BindD i__law_divisor := fun _ _ _ _ _ _ us hl => match us, hl with | [_, _], _ => rfl
def i__law_number : DI := ⟨("_law_number", none), "_law_number", "_law_number", (top 17), Lib._law_number, ["_law_n", "_law_d", "_law_divisor_here"]⟩
theorem k__law_number : i__law_number.ok = true := by decide +kernel
theorem b__law_number : BindD i__law_number := fun _ _ _ _ _ _ us hl => match us, hl with | [_, _], _ => rfl
def i__law_plus : DI := ⟨("_law_plus", none), "_law_plus", "_law_plus", (top 18), Lib._law_plus, ["_law_a", "_law_b"]⟩
theorem k__law_plus : i__law_plus.ok = true := by decide +kernel
theorem b__law_plus : BindD i__law_plus := fun _ _ _ _ _ _ us hl => match us, hl with | [_, _], _ => rfl
def i__law_times : DI := ⟨("_law_times", none), "_law_times", "_law_times", (top 19), Lib._law_times, ["_law_a", "_law_b"]⟩
theorem k__law_times : i__law_times.ok = true := by decide +kernel
theorem b__law_times : BindD i__law_times := fun _ _ _ _ _ _ us hl => match us, hl with | [_, _], _ => rfl
def i__law_less : DI := ⟨("_law_less", none), "_law_less", "_law_less", (top 20), Lib._law_less, ["_law_a", "_law_b"]⟩
theorem k__law_less : i__law_less.ok = true := by decide +kernel
theorem b__law_less : BindD i__law_less := fun _ _ _ _ _ _ us hl => match us, hl with | [_, _], _ => rfl
def i__law_total : DI := ⟨("_law_total", none), "_law_total", "_law_total", (top 21), Lib._law_total, ["_law_numbers", "_law_found", "_law_part"]⟩
theorem k__law_total : i__law_total.ok = true := by decide +kernel
theorem b__law_total : BindD i__law_total := fun _ _ _ _ _ _ us hl => match us, hl with | [_], _ => rfl
def i__law_is_same : DI := ⟨("_law_is_same", none), "_law_is_same", "_law_is_same", (top 22), Lib._law_is_same, ["_law_actual", "_law_due"]⟩
theorem k__law_is_same : i__law_is_same.ok = true := by decide +kernel
theorem b__law_is_same : BindD i__law_is_same := fun _ _ _ _ _ _ us hl => match us, hl with | [_, _], _ => rfl
def i__law_pair : DI := ⟨("_law_pair", none), "_law_pair", "_law_pair", (top 23), Lib._law_pair, ["_law_parts_here", "_law_at", "_law_size", "_law_n", "_law_d"]⟩
theorem k__law_pair : i__law_pair.ok = true := by decide +kernel
theorem b__law_pair : BindD i__law_pair := fun _ _ _ _ _ _ us hl => match us, hl with | [_, _], _ => rfl
def i__law_right_lists : DI := ⟨("_law_right_lists", none), "_law_right_lists", "_law_right_lists", (top 24), Lib._law_right_lists, ["_law_parts_here", "_law_integers", "_law_divisor_here", "_law_part", "_law_due", "_law_kept", "_law_numbers", "_law_common", "_law_raised"]⟩
theorem k__law_right_lists : i__law_right_lists.ok = true := by decide +kernel
theorem b__law_right_lists : BindD i__law_right_lists := fun _ _ _ _ _ _ us hl => match us, hl with | [_], _ => rfl
def i_law : DI := ⟨("law", none), "law", "law", (top 25), Lib.law, ["_law_script", "_law_parts_here", "_law_a", "_law_b", "_law_first", "_law_second"]⟩
theorem k_law : i_law.ok = true := by decide +kernel
theorem b_law : BindD i_law := fun _ _ _ _ _ _ us hl => match us, hl with | [_], _ => rfl
def Pr : Prog := ⟨false, [], [i_common_divisor, i_divisor_of, i_number, i_plus, i_minus, i_times, i_over, i_less, i_sign, i_lowest, i_brought, i__law_cell, i__law_parts, i__law_is_integer, i__law_divisor, i__law_number, i__law_plus, i__law_times, i__law_less, i__law_total, i__law_is_same, i__law_pair, i__law_right_lists, i_law], []⟩
theorem oks : Pr.ds.all DI.ok = true := List.all_eq_true.mpr (AllK.of ⟨k_common_divisor, k_divisor_of, k_number, k_plus, k_minus, k_times, k_over, k_less, k_sign, k_lowest, k_brought, k__law_cell, k__law_parts, k__law_is_integer, k__law_divisor, k__law_number, k__law_plus, k__law_times, k__law_less, k__law_total, k__law_is_same, k__law_pair, k__law_right_lists, k_law, trivial⟩)
theorem binds : BindA Pr.ds := ⟨b_common_divisor, b_divisor_of, b_number, b_plus, b_minus, b_times, b_over, b_less, b_sign, b_lowest, b_brought, b__law_cell, b__law_parts, b__law_is_integer, b__law_divisor, b__law_number, b__law_plus, b__law_times, b__law_less, b__law_total, b__law_is_same, b__law_pair, b__law_right_lists, b_law, trivial⟩
def nm0 : List Str := ["common_divisor", "divisor_of", "number", "plus", "minus", "times", "over", "less", "sign", "lowest", "brought", "_law_cell", "_law_parts", "_law_is_integer", "_law_divisor", "_law_number", "_law_plus", "_law_times", "_law_less", "_law_total", "_law_is_same", "_law_pair", "_law_right_lists"]
def names : List Str := nm0
abbrev R : PySem.W.OpenRow := PySem.W.OpenLaw.row PySem.Challenge.rw_loadorloose_k01_numbers
theorem run (w : World) : HandSHeadRun.RunEq R (PySem.W.view R.prog [25]) (Pr.hook 4) (Pr.obs 4) 4000 names w := by
  intro os
  kernel_rfl
theorem isLaw : Pr.at ("law", none) = some i_law := by rfl
theorem l_common_divisor (n : Nat) : (Pr.G (n + 1)).fns.lookup ("common_divisor" : Str) = some (runD (Pr.G n) Lib.common_divisor) := by rfl
theorem l_divisor_of (n : Nat) : (Pr.G (n + 1)).fns.lookup ("divisor_of" : Str) = some (runD (Pr.G n) Lib.divisor_of) := by rfl
theorem l_number (n : Nat) : (Pr.G (n + 1)).fns.lookup ("number" : Str) = some (runD (Pr.G n) Lib.number) := by rfl
theorem l_plus (n : Nat) : (Pr.G (n + 1)).fns.lookup ("plus" : Str) = some (runD (Pr.G n) Lib.plus) := by rfl
theorem l_minus (n : Nat) : (Pr.G (n + 1)).fns.lookup ("minus" : Str) = some (runD (Pr.G n) Lib.minus) := by rfl
theorem l_times (n : Nat) : (Pr.G (n + 1)).fns.lookup ("times" : Str) = some (runD (Pr.G n) Lib.times) := by rfl
theorem l_over (n : Nat) : (Pr.G (n + 1)).fns.lookup ("over" : Str) = some (runD (Pr.G n) Lib.over) := by rfl
theorem l_less (n : Nat) : (Pr.G (n + 1)).fns.lookup ("less" : Str) = some (runD (Pr.G n) Lib.less) := by rfl
theorem l_sign (n : Nat) : (Pr.G (n + 1)).fns.lookup ("sign" : Str) = some (runD (Pr.G n) Lib.sign) := by rfl
theorem l_lowest (n : Nat) : (Pr.G (n + 1)).fns.lookup ("lowest" : Str) = some (runD (Pr.G n) Lib.lowest) := by rfl
theorem l_brought (n : Nat) : (Pr.G (n + 1)).fns.lookup ("brought" : Str) = some (runD (Pr.G n) Lib.brought) := by rfl
theorem l__law_cell (n : Nat) : (Pr.G (n + 1)).fns.lookup ("_law_cell" : Str) = some (runD (Pr.G n) Lib._law_cell) := by rfl
theorem l__law_parts (n : Nat) : (Pr.G (n + 1)).fns.lookup ("_law_parts" : Str) = some (runD (Pr.G n) Lib._law_parts) := by rfl
theorem l__law_is_integer (n : Nat) : (Pr.G (n + 1)).fns.lookup ("_law_is_integer" : Str) = some (runD (Pr.G n) Lib._law_is_integer) := by rfl
theorem l__law_divisor (n : Nat) : (Pr.G (n + 1)).fns.lookup ("_law_divisor" : Str) = some (runD (Pr.G n) Lib._law_divisor) := by rfl
theorem l__law_number (n : Nat) : (Pr.G (n + 1)).fns.lookup ("_law_number" : Str) = some (runD (Pr.G n) Lib._law_number) := by rfl
theorem l__law_plus (n : Nat) : (Pr.G (n + 1)).fns.lookup ("_law_plus" : Str) = some (runD (Pr.G n) Lib._law_plus) := by rfl
theorem l__law_times (n : Nat) : (Pr.G (n + 1)).fns.lookup ("_law_times" : Str) = some (runD (Pr.G n) Lib._law_times) := by rfl
theorem l__law_less (n : Nat) : (Pr.G (n + 1)).fns.lookup ("_law_less" : Str) = some (runD (Pr.G n) Lib._law_less) := by rfl
theorem l__law_total (n : Nat) : (Pr.G (n + 1)).fns.lookup ("_law_total" : Str) = some (runD (Pr.G n) Lib._law_total) := by rfl
theorem l__law_is_same (n : Nat) : (Pr.G (n + 1)).fns.lookup ("_law_is_same" : Str) = some (runD (Pr.G n) Lib._law_is_same) := by rfl
theorem l__law_pair (n : Nat) : (Pr.G (n + 1)).fns.lookup ("_law_pair" : Str) = some (runD (Pr.G n) Lib._law_pair) := by rfl
theorem l__law_right_lists (n : Nat) : (Pr.G (n + 1)).fns.lookup ("_law_right_lists" : Str) = some (runD (Pr.G n) Lib._law_right_lists) := by rfl
theorem l_law (n : Nat) : (Pr.G (n + 1)).fns.lookup ("law" : Str) = some (runD (Pr.G n) Lib.law) := by rfl
end K01

/-! Mini: reckoning by simp. -/
namespace L2
namespace Mi
open PySem PySem.Spec PyProof.Rows
variable {G : Sig}
@[simp] theorem grd_nil (M : Mem) : Grd [] M = True := by simp [Grd]
theorem grd_one (i : Nat) (ts : List T) (M : Mem) : Grd [(i, ts)] M = (M[i]? = some (.lst ts)) := by simp [Grd]
/-- an answer without objects, nothing old changed -/
theorem fin_pure (M : Mem) (r : T) (M1 : List O) (h : pureT r = true) : fin true M r (M ++ M1) = (r, M) := by
  unfold fin
  rw [if_pos ⟨rfl, by simp⟩, seal_pure h]
theorem fin_pure0 (M : Mem) (r : T) (h : pureT r = true) : fin true M r M = (r, M) := by
  have := fin_pure M r [] h
  rwa [List.append_nil] at this
/-- a list of ours without objects within -/
theorem fin_obj (M : Mem) (ts : List T) (M1 : List O) (i : Nat) (hi : M.length ≤ i) (e : (M ++ M1)[i]? = some (.lst ts)) (h : pureTs ts = true) : fin true M (.obj i) (M ++ M1) = (.fl ts, M) := by
  have hm : ∀ ts : List T, pureTs ts = true → ts.mapM (sealT (M ++ M1) M.length 5) = some ts := by
    intro ts
    induction ts with
    | nil => intro _; rfl
    | cons t ts ih =>
      intro h
      simp only [pureTs, Bool.and_eq_true] at h
      rw [List.mapM_cons, seal_pure h.1, ih h.2]
      rfl
  unfold fin
  rw [if_pos ⟨rfl, by simp⟩]
  have : sealT (M ++ M1) M.length 6 (.obj i) = some (.fl ts) := by
    unfold sealT
    rw [if_neg (by simp [pureT])]
    simp only [if_pos hi, e]
    rw [hm ts h]
    rfl
  rw [this]
noncomputable def outD (sl : Bool) (M : Mem) : R → Option (T × Mem)
  | .rt t M1 => some (fin sl M t M1)
  | .nx _ M1 => some (fin sl M .non M1)
  | _ => none
theorem runD_def (d : MD) (ts : List T) (M : Mem) (h : ts.length = d.ps.length) : runD G d ts M = (exSs G d.body (startE d.N ts) M).bind (outD d.sl M) := by
  unfold runD
  rw [if_pos h]
  congr 1
/-- a body that answers -/
theorem run_rt {d : MD} {ts : List T} {M : Mem} {t : T} {M1 : Mem} (h : ts.length = d.ps.length) (e : exSs G d.body (startE d.N ts) M = some (.rt t M1)) : runD G d ts M = some (fin d.sl M t M1) := by
  rw [runD_def d ts M h, e]; rfl
theorem run_pure {d : MD} {ts : List T} {M : Mem} {t : T} {M1 : Mem} (h : ts.length = d.ps.length) (hs : d.sl = true) (hp : pureT t = true) (e : exSs G d.body (startE d.N ts) M = some (.rt t (M ++ M1))) : runD G d ts M = some (t, M) := by
  rw [run_rt h e, hs, fin_pure M t M1 hp]
theorem ixN_n {n i : Nat} (h : i < n) : ixN n (i : Int) = some i := by
  unfold ixN
  rw [if_pos (by omega), if_pos (by omega)]
  first | rfl | simp
theorem atI_n {α : Type} (ts : List α) (i : Nat) : atI ts (i : Int) = ts[i]? := by
  by_cases h : i < ts.length
  · unfold atI; rw [ixN_n h]; rfl
  · rw [List.getElem?_eq_none (by omega)]
    unfold atI ixN
    rw [if_pos (by omega), if_neg (by omega)]
    rfl
theorem atI_i {α : Type} (ts : List α) {i : Int} (h : 0 ≤ i) : atI ts i = ts[i.toNat]? := by
  rw [← atI_n, Int.toNat_of_nonneg h]
theorem rngL_lt {lo hi : Int} (h : lo < hi) : rngL lo hi = .int lo :: rngL (lo + 1) hi := by
  unfold rngL
  have e : (hi - lo).toNat = (hi - (lo + 1)).toNat + 1 := by omega
  rw [e, List.range_succ_eq_map, List.map_cons, List.map_map]
  congr 1
  · simp
  · apply List.map_congr_left
    intro i _
    show T.int _ = T.int _
    congr 1
    simp only [Nat.succ_eq_add_one]
    omega
theorem rngL_ge {lo hi : Int} (h : hi ≤ lo) : rngL lo hi = [] := by
  unfold rngL
  rw [show (hi - lo).toNat = 0 by omega]
  rfl
theorem rngOk_small {i j : Int} (h1 : 0 ≤ i) (h2 : i < 2 ^ 60) (h3 : 0 ≤ j) (h4 : j < 2 ^ 60) : rngOk i j := by unfold rngOk; omega
theorem log2_lt {j : Int} {k : Nat} (h : j.natAbs < 2 ^ k) (hk : 0 < k) : j.natAbs.log2 < k := by
  by_cases h0 : j.natAbs = 0
  · rw [h0]; simpa using hk
  · exact (Nat.log2_lt h0).mpr h
theorem divOk_of {j : Int} {k : Nat} (h0 : j ≠ 0) (h : j.natAbs < 2 ^ k) (hk : 0 < k) (hl : k ≤ 9000) : divOk j := ⟨h0, Nat.lt_of_lt_of_le (log2_lt h hk) hl⟩
theorem mulOk_of {i j : Int} {a b : Nat} (h1 : i.natAbs < 2 ^ a) (h2 : j.natAbs < 2 ^ b) (ha : 0 < a) (hb : 0 < b) (hl : a + b ≤ 134000000) : mulOk i j := by
  unfold mulOk
  have := log2_lt h1 ha
  have := log2_lt h2 hb
  omega
/-! ### equations for simp -/
noncomputable def nxt (G : Sig) (ss : List MS) : R → Option R
  | .nx σ M => exSs G ss σ M
  | r => some r
@[simp] theorem nxt_nx (ss : List MS) (σ : En) (M : Mem) : nxt G ss (.nx σ M) = exSs G ss σ M := rfl
@[simp] theorem nxt_rt (ss : List MS) (t : T) (M : Mem) : nxt G ss (.rt t M) = some (.rt t M) := rfl
@[simp] theorem nxt_bk (ss : List MS) (σ : En) (M : Mem) : nxt G ss (.bk σ M) = some (.bk σ M) := rfl
@[simp] theorem nxt_ct (ss : List MS) (σ : En) (M : Mem) : nxt G ss (.ct σ M) = some (.ct σ M) := rfl
@[simp] theorem xs_nil (σ : En) (M : Mem) : exSs G [] σ M = some (.nx σ M) := by rw [exSs]
@[simp] theorem xs_cons (s : MS) (ss : List MS) (σ : En) (M : Mem) : exSs G (s :: ss) σ M = (exS G s σ M).bind (nxt G ss) := by
  rw [exSs]
  cases h : exS G s σ M with
  | none => rfl
  | some r => cases r <;> rfl
@[simp] theorem x_set (i : Nat) (x : Str) (e : ME) (σ : En) (M : Mem) : exS G (.set i x e) σ M = (evE G e σ M).map fun p => .nx (σ.set i (some p.1)) p.2 := by rw [exS]
@[simp] theorem x_asg (t : MT) (e : ME) (σ : En) (M : Mem) : exS G (.asg t e) σ M = (evE G e σ M).bind fun p => (asgT t p.1 σ).map fun σ1 => .nx σ1 p.2 := by rw [exS]
@[simp] theorem x_setI (o i e : ME) (σ : En) (M : Mem) : exS G (.setI o i e) σ M = (evE G e σ M).bind fun v => (evE G o σ v.2).bind fun p => (evE G i σ p.2).bind fun q => (setT p.1 q.1 v.1 q.2).map fun M1 => .nx σ M1 := by rw [exS]
@[simp] theorem x_par (xs : List (Nat × Str)) (es : MEs) (σ : En) (M : Mem) : exS G (.par xs es) σ M = (evEs G es σ M).bind fun p => if p.1.length = xs.length then some (.nx (parE σ xs p.1) p.2) else none := by rw [exS]
@[simp] theorem x_aug (i : Nat) (x : Str) (op : Operator) (e : ME) (σ : En) (M : Mem) : exS G (.aug i x op e) σ M = (σ[i]?.bind id).bind fun x => (evE G e σ M).bind fun p => (augT op x p.1).map fun y => .nx (σ.set i (some y)) p.2 := by
  rw [exS]
  cases σ[i]? with
  | none => rfl
  | some o => cases o <;> rfl
@[simp] theorem x_augI (o i : ME) (op : Operator) (e : ME) (σ : En) (M : Mem) : exS G (.augI o i op e) σ M = (evE G o σ M).bind fun p => (evE G i σ p.2).bind fun q => (ixT p.1 q.1 q.2).bind fun x => (evE G e σ q.2).bind fun y => (augT op x y.1).bind fun z =>
      (setT p.1 q.1 z y.2).map fun M1 => .nx σ M1 := by rw [exS]
@[simp] theorem x_ex (e : ME) (σ : En) (M : Mem) : exS G (.ex e) σ M = (evE G e σ M).map fun p => .nx σ p.2 := by rw [exS]
@[simp] theorem x_ret (e : ME) (σ : En) (M : Mem) : exS G (.ret e) σ M = (evE G e σ M).map fun p => .rt p.1 p.2 := by rw [exS]
@[simp] theorem x_retN (σ : En) (M : Mem) : exS G .retN σ M = some (.rt .non M) := by rw [exS]
@[simp] theorem x_brk (σ : En) (M : Mem) : exS G .brk σ M = some (.bk σ M) := by rw [exS]
@[simp] theorem x_cnt (σ : En) (M : Mem) : exS G .cnt σ M = some (.ct σ M) := by rw [exS]
@[simp] theorem x_pas (σ : En) (M : Mem) : exS G .pas σ M = some (.nx σ M) := by rw [exS]
@[simp] theorem x_ite (c : ME) (a b : List MS) (σ : En) (M : Mem) : exS G (.ite c a b) σ M = (tst (evE G c σ M)).bind fun p => if p.1 = true then exSs G a σ p.2 else exSs G b σ p.2 := by rw [exS]
@[simp] theorem e_var (i : Nat) (x : Str) (σ : En) (M : Mem) : evE G (.var i x) σ M = (σ[i]?.bind id).map fun t => (t, M) := by
  rw [evE]
  cases σ[i]? with
  | none => rfl
  | some o => cases o <;> rfl
@[simp] theorem e_glb (x : Str) (σ : En) (M : Mem) : evE G (.glb x) σ M = (G.glbs.lookup x).map fun t => (t, M) := by rw [evE]
@[simp] theorem e_non (σ : En) (M : Mem) : evE G .non σ M = some (.non, M) := by rw [evE]
@[simp] theorem e_bl (b : Bool) (σ : En) (M : Mem) : evE G (.bl b) σ M = some (.bl b, M) := by rw [evE]
@[simp] theorem e_int (i : Int) (σ : En) (M : Mem) : evE G (.int i) σ M = some (.int i, M) := by rw [evE]
@[simp] theorem e_str (x : Str) (σ : En) (M : Mem) : evE G (.str x) σ M = some (.str x, M) := by rw [evE]
@[simp] theorem e_bin (op : Operator) (tr : Bool) (a b : ME) (σ : En) (M : Mem) : evE G (.bin op tr a b) σ M = (evE G a σ M).bind fun p => (evE G b σ p.2).bind fun q => binT op tr p.1 q.1 q.2 := by rw [evE]
def negT : T → Option T
  | .int i => some (.int (-i))
  | _ => none
@[simp] theorem neg_int (i : Int) : negT (.int i) = some (.int (-i)) := rfl
@[simp] theorem e_neg (a : ME) (σ : En) (M : Mem) : evE G (.neg a) σ M = (evE G a σ M).bind fun p => (negT p.1).map fun t => (t, p.2) := by
  rw [evE]
  congr 1
  funext p
  obtain ⟨t, m⟩ := p
  cases t <;> rfl
@[simp] theorem e_not (a : ME) (σ : En) (M : Mem) : evE G (.not a) σ M = (tst (evE G a σ M)).map fun p => (.bl (!p.1), p.2) := by rw [evE]
@[simp] theorem e_one (a : ME) (σ : En) (M : Mem) : evE G (.one a) σ M = evE G a σ M := by rw [evE]
@[simp] theorem e_and (a b : ME) (σ : En) (M : Mem) : evE G (.and a b) σ M = (evE G a σ M).bind fun p => (truth p.2 p.1).bind fun c => if c = true then evE G b σ p.2 else some p := by rw [evE]
@[simp] theorem e_or (a b : ME) (σ : En) (M : Mem) : evE G (.or a b) σ M = (evE G a σ M).bind fun p => (truth p.2 p.1).bind fun c => if c = true then some p else evE G b σ p.2 := by rw [evE]
@[simp] theorem e_cmp (op : CmpOp) (a b : ME) (σ : En) (M : Mem) : evE G (.cmp op a b) σ M = (evE G a σ M).bind fun p => (evE G b σ p.2).bind fun q => (cmpT op p.1 q.1 q.2).map fun c => (.bl c, q.2) := by rw [evE]
@[simp] theorem e_ife (c a b : ME) (σ : En) (M : Mem) : evE G (.ife c a b) σ M = (tst (evE G c σ M)).bind fun p => if p.1 = true then evE G a σ p.2 else evE G b σ p.2 := by rw [evE]
@[simp] theorem e_call (f : Str) (es : MEs) (σ : En) (M : Mem) : evE G (.call f es) σ M = (evEs G es σ M).bind fun p => (G.fns.lookup f).bind fun F => F p.1 p.2 := by rw [evE]
@[simp] theorem e_bi (b : BI) (es : MEs) (σ : En) (M : Mem) : evE G (.bi b es) σ M = (evEs G es σ M).bind fun p => biT b p.1 p.2 := by rw [evE]
@[simp] theorem e_isi (a : ME) (ty : String) (σ : En) (M : Mem) : evE G (.isi a ty) σ M = (evE G a σ M).bind fun p => (isiT p.2 ty p.1).map fun c => (.bl c, p.2) := by rw [evE]
@[simp] theorem e_bm (b : BM) (o : ME) (es : MEs) (σ : En) (M : Mem) : evE G (.bm b o es) σ M = (evE G o σ M).bind fun p => (lof p.2 p.1).bind fun _ => (evEs G es σ p.2).bind fun q => bmT b p.1 q.1 q.2 := by rw [evE]
@[simp] theorem e_ix (a b : ME) (σ : En) (M : Mem) : evE G (.ix a b) σ M = (evE G a σ M).bind fun p => (evE G b σ p.2).bind fun q => (ixT p.1 q.1 q.2).map fun t => (t, q.2) := by rw [evE]
@[simp] theorem e_slc (tr : Bool) (a lo hi : ME) (σ : En) (M : Mem) : evE G (.slc tr a lo hi) σ M = (evE G a σ M).bind fun p => (evP G lo σ p.2).bind fun l => (evP G hi σ l.2).bind fun h => slT tr p.1 l.1 h.1 h.2 := by rw [evE]
@[simp] theorem e_rev (tr : Bool) (a : ME) (σ : En) (M : Mem) : evE G (.rev tr a) σ M = (evE G a σ M).bind fun p => (lofS p.2 p.1).map fun ts => mkL tr ts.reverse p.2 := by rw [evE]
@[simp] theorem e_tup (es : MEs) (σ : En) (M : Mem) : evE G (.tup es) σ M = (evEs G es σ M).bind fun p => if p.1.length ≤ 16777216 then some (.tup p.1, p.2) else none := by rw [evE]
@[simp] theorem e_lst (tr : Bool) (es : MEs) (σ : En) (M : Mem) : evE G (.lst tr es) σ M = (evEs G es σ M).bind fun p => if p.1.length ≤ 16777216 then some (mkL tr p.1 p.2) else none := by rw [evE]
@[simp] theorem e_dnew (t : Bool) (σ : En) (M : Mem) : evE G (.dnew t) σ M = if t = true ∧ G.kt = true then none else some (.obj M.length, M ++ [.dic t [] []]) := by rw [evE]
@[simp] theorem p_no (σ : En) (M : Mem) : evP G .nopart σ M = some (none, M) := by rw [evP]
@[simp] theorem p_int (i : Int) (σ : En) (M : Mem) : evP G (.int i) σ M = some (some i, M) := by rw [evP]
def prtT : T → Option (Option Int)
  | .int i => some (some i)
  | _ => none
@[simp] theorem prt_int (i : Int) : prtT (.int i) = some (some i) := rfl
theorem p_gen {m : ME} (h : isNoP m = false) (σ : En) (M : Mem) : evP G m σ M = (evE G m σ M).bind fun p => (prtT p.1).map fun o => (o, p.2) := by
  have key : ∀ x : Option (T × Mem), (x.bind fun p => match p.1 with
    | .int i => some (some i, p.2)
    | _ => none) = x.bind fun p => (prtT p.1).map fun o => (o, p.2) := fun x => by
    congr 1
    funext p
    obtain ⟨t, m⟩ := p
    cases t <;> rfl
  cases m with
  | nopart => cases h
  | int i => rw [evP, evE]; rfl
  | _ => unfold evP; exact key _
@[simp] theorem p_var (i : Nat) (x : Str) (σ : En) (M : Mem) : evP G (.var i x) σ M = (evE G (.var i x) σ M).bind fun p => (prtT p.1).map fun o => (o, p.2) := p_gen rfl σ M
@[simp] theorem p_bin (op : Operator) (tr : Bool) (a b : ME) (σ : En) (M : Mem) : evP G (.bin op tr a b) σ M = (evE G (.bin op tr a b) σ M).bind fun p => (prtT p.1).map fun o => (o, p.2) := p_gen rfl σ M
@[simp] theorem p_bi (b : BI) (es : MEs) (σ : En) (M : Mem) : evP G (.bi b es) σ M = (evE G (.bi b es) σ M).bind fun p => (prtT p.1).map fun o => (o, p.2) := p_gen rfl σ M
@[simp] theorem p_ix (a b : ME) (σ : En) (M : Mem) : evP G (.ix a b) σ M = (evE G (.ix a b) σ M).bind fun p => (prtT p.1).map fun o => (o, p.2) := p_gen rfl σ M
@[simp] theorem p_neg (a : ME) (σ : En) (M : Mem) : evP G (.neg a) σ M = (evE G (.neg a) σ M).bind fun p => (prtT p.1).map fun o => (o, p.2) := p_gen rfl σ M
@[simp] theorem es_nil (σ : En) (M : Mem) : evEs G .nil σ M = some ([], M) := by rw [evEs]
@[simp] theorem es_cons (e : ME) (es : MEs) (σ : En) (M : Mem) : evEs G (.cons e es) σ M = (evE G e σ M).bind fun p => (evEs G es σ p.2).map fun q => (p.1 :: q.1, q.2) := by rw [evEs]
@[simp] theorem if_nil (σ : En) (M : Mem) : evIf G .nil σ M = some (true, M) := by rw [evIf]
@[simp] theorem if_one (e : ME) (σ : En) (M : Mem) : evIf G (.cons e .nil) σ M = tst (evE G e σ M) := by rw [evIf]
@[simp] theorem i_over (a : ME) (σ : En) (M : Mem) : evI G (.over a) σ M = (evE G a σ M).bind fun p => (sof p.2 p.1).map fun ts => ((ts, grdOf p.1 ts), p.2) := by rw [evI]
noncomputable def rg1 : T → Option Itm
  | .int j => if rngOk 0 j then some (rngL 0 j, []) else none
  | _ => none
@[simp] theorem rg1_int (j : Int) : rg1 (.int j) = if rngOk 0 j then some (rngL 0 j, []) else none := rfl
@[simp] theorem i_rng1 (a : ME) (σ : En) (M : Mem) : evI G (.rng1 a) σ M = (evE G a σ M).bind fun p => (rg1 p.1).map fun r => (r, p.2) := by
  rw [evI]
  congr 1
  funext p
  obtain ⟨t, m⟩ := p
  cases t <;> first
    | rfl
    | (simp only [rg1]; split <;> rfl)
noncomputable def rg2 : T → T → Option Itm
  | .int i, .int j => if rngOk i j then some (rngL i j, []) else none
  | _, _ => none
@[simp] theorem rg2_int (i j : Int) : rg2 (.int i) (.int j) = if rngOk i j then some (rngL i j, []) else none := rfl
@[simp] theorem i_rng2 (a b : ME) (σ : En) (M : Mem) : evI G (.rng2 a b) σ M = (evE G a σ M).bind fun p => (evE G b σ p.2).bind fun q => (rg2 p.1 q.1).map fun r => (r, q.2) := by
  rw [evI]
  congr 1
  funext p
  congr 1
  funext q
  obtain ⟨t, m⟩ := p
  obtain ⟨u, m'⟩ := q
  cases t <;> cases u <;> first
    | rfl
    | (simp only [rg2]; split <;> rfl)
@[simp] theorem i_enum (a : ME) (σ : En) (M : Mem) : evI G (.enum a) σ M = (evE G a σ M).bind fun p => (sof p.2 p.1).map fun ts => ((enumL 0 ts, grdOf p.1 ts), p.2) := by rw [evI]
@[simp] theorem i_zip2 (a b : ME) (σ : En) (M : Mem) : evI G (.zip2 a b) σ M = (evE G a σ M).bind fun p => (evE G b σ p.2).bind fun q => (sof q.2 p.1).bind fun xs => (sof q.2 q.1).map fun ys =>
      ((List.zipWith (fun x y => T.tup [x, y]) xs ys, grdOf p.1 xs ++ grdOf q.1 ys), q.2) := by rw [evI]
@[simp] theorem tst_some (t : T) (M : Mem) : tst (some (t, M)) = (truth M t).map fun b => (b, M) := rfl
@[simp] theorem tst_none : tst none = none := rfl
@[simp] theorem asg_nm (i : Nat) (x : Str) (t : T) (σ : En) : asgT (.nm i x) t σ = some (σ.set i (some t)) := by rw [asgT]
@[simp] theorem asg_tp (ts : MTs) (us : List T) (σ : En) : asgT (.tp ts) (.tup us) σ = asgTs ts us σ := by rw [asgT]
@[simp] theorem asgs_nil (σ : En) : asgTs .nil [] σ = some σ := by rw [asgTs]
@[simp] theorem asgs_cons (m : MT) (ms : MTs) (t : T) (ts : List T) (σ : En) : asgTs (.cons m ms) (t :: ts) σ = (asgT m t σ).bind fun σ1 => asgTs ms ts σ1 := by rw [asgTs]
@[simp] theorem at_0 {α : Type} (x : α) (xs : List α) : atI (x :: xs) 0 = some x := by rw [show (0 : Int) = ((0 : Nat) : Int) from rfl, atI_n]; rfl
@[simp] theorem at_1 {α : Type} (x y : α) (xs : List α) : atI (x :: y :: xs) 1 = some y := by rw [show (1 : Int) = ((1 : Nat) : Int) from rfl, atI_n]; rfl
@[simp] theorem at_2 {α : Type} (x y z : α) (xs : List α) : atI (x :: y :: z :: xs) 2 = some z := by rw [show (2 : Int) = ((2 : Nat) : Int) from rfl, atI_n]; rfl
@[simp] theorem at_3 {α : Type} (x y z w : α) (xs : List α) : atI (x :: y :: z :: w :: xs) 3 = some w := by rw [show (3 : Int) = ((3 : Nat) : Int) from rfl, atI_n]; rfl
@[simp] theorem ix_tup (ts : List T) (i : Int) (M : Mem) : ixT (.tup ts) (.int i) M = atI ts i := by simp [ixT, dof, sof]
@[simp] theorem ix_fl (ts : List T) (i : Int) (M : Mem) : ixT (.fl ts) (.int i) M = atI ts i := by simp [ixT, dof, sof, lofS, lof]
@[simp] theorem ix_sc (ns : List Int) (i : Int) (M : Mem) : ixT (.sc ns) (.int i) M = atI (ns.map T.int) i := by simp [ixT, dof, sof, lofS]
@[simp] theorem sof_tup (M : Mem) (ts : List T) : sof M (.tup ts) = some ts := rfl
@[simp] theorem sof_fl (M : Mem) (ts : List T) : sof M (.fl ts) = some ts := rfl
@[simp] theorem lof_fl (M : Mem) (ts : List T) : lof M (.fl ts) = some ts := rfl
@[simp] theorem grdOf_tup (ts us : List T) : grdOf (.tup ts) us = [] := rfl
@[simp] theorem grdOf_fl (ts us : List T) : grdOf (.fl ts) us = [] := rfl
@[simp] theorem grdOf_sc (ts : List Int) (us : List T) : grdOf (.sc ts) us = [] := rfl
theorem grd_sof {M : Mem} {t : T} {ts : List T} (h : sof M t = some ts) : Grd (grdOf t ts) M := by
  cases t with
  | obj i =>
    have := lof_obj (show lof M (.obj i) = some ts from h)
    show Grd [(i, ts)] M
    rw [grd_one]
    exact this
  | _ => exact (grd_nil M).symm ▸ trivial
@[simp] theorem mkL_f (ts : List T) (M : Mem) : mkL false ts M = (.fl ts, M) := rfl
@[simp] theorem mkL_t (ts : List T) (M : Mem) : mkL true ts M = (.obj M.length, M ++ [.lst ts]) := rfl
@[simp] theorem tr_int (M : Mem) (i : Int) : truth M (.int i) = some (i != 0) := rfl
@[simp] theorem tr_bl (M : Mem) (b : Bool) : truth M (.bl b) = some b := rfl
@[simp] theorem cmp_lt (i j : Int) (M : Mem) : cmpT .Lt (.int i) (.int j) M = some (decide (i < j)) := rfl
@[simp] theorem cmp_le (i j : Int) (M : Mem) : cmpT .LtE (.int i) (.int j) M = some (decide (i ≤ j)) := rfl
@[simp] theorem cmp_gt (i j : Int) (M : Mem) : cmpT .Gt (.int i) (.int j) M = some (decide (j < i)) := rfl
@[simp] theorem cmp_ge (i j : Int) (M : Mem) : cmpT .GtE (.int i) (.int j) M = some (decide (j ≤ i)) := rfl
@[simp] theorem eqv_int (i j : Int) (M : Mem) : eqv? M (.int i) (.int j) = some (decide (i = j)) := by
  simp [eqv?, scL, sealT, pureT, okT, depT, eqT]
  rfl
@[simp] theorem cmp_eq (i j : Int) (M : Mem) : cmpT .Eq (.int i) (.int j) M = some (decide (i = j)) := eqv_int i j M
@[simp] theorem cmp_ne (i j : Int) (M : Mem) : cmpT .NotEq (.int i) (.int j) M = some (!decide (i = j)) := by
  have : cmpT .NotEq (.int i) (.int j) M = (eqv? M (.int i) (.int j)).map not := rfl
  rw [this, eqv_int]; rfl
@[simp] theorem bin_add (tr : Bool) (i j : Int) (M : Mem) : binT .Add tr (.int i) (.int j) M = some (.int (i + j), M) := rfl
@[simp] theorem bin_sub (tr : Bool) (i j : Int) (M : Mem) : binT .Sub tr (.int i) (.int j) M = some (.int (i - j), M) := rfl
theorem bin_mul {i j : Int} (h : mulOk i j) (tr : Bool) (M : Mem) : binT .Mult tr (.int i) (.int j) M = some (.int (i * j), M) := by
  show (if mulOk i j then _ else _) = _
  rw [if_pos h]
theorem bin_div {i j : Int} (h : divOk j) (tr : Bool) (M : Mem) : binT .FloorDiv tr (.int i) (.int j) M = some (.int (i.fdiv j), M) := by
  show (if divOk j then _ else _) = _
  rw [if_pos h]
theorem bin_mod {i j : Int} (h : j ≠ 0) (tr : Bool) (M : Mem) : binT .Mod tr (.int i) (.int j) M = some (.int (i.fmod j), M) := by
  show (if j ≠ 0 then _ else _) = _
  rw [if_pos h]
/-- a bound by bits -/
def Sm (k : Nat) (x : Int) : Prop := x.natAbs < 2 ^ k
theorem Sm.mono {j k : Nat} {x : Int} (h : Sm j x) (hk : j ≤ k) : Sm k x := Nat.lt_of_lt_of_le h (Nat.pow_le_pow_right (by decide) hk)
theorem Sm.mul {j k : Nat} {x y : Int} (h : Sm j x) (h' : Sm k y) : Sm (j + k) (x * y) := by
  unfold Sm at *
  rw [Int.natAbs_mul, Nat.pow_add]
  exact Nat.mul_lt_mul'' h h'
theorem Sm.add {k : Nat} {x y : Int} (h : Sm k x) (h' : Sm k y) : Sm (k + 1) (x + y) := by
  unfold Sm at *
  have := Int.natAbs_add_le x y
  rw [Nat.pow_succ]
  omega
theorem Sm.neg {k : Nat} {x : Int} (h : Sm k x) : Sm k (-x) := by unfold Sm at *; rwa [Int.natAbs_neg]
theorem Sm.sub {k : Nat} {x y : Int} (h : Sm k x) (h' : Sm k y) : Sm (k + 1) (x - y) := by rw [Int.sub_eq_add_neg]; exact h.add h'.neg
theorem Sm.mulOk {j k : Nat} {x y : Int} (h : Sm j x) (h' : Sm k y) (hl : j + k ≤ 133999998) : mulOk x y := mulOk_of (a := j + 1) (b := k + 1) (h.mono (by omega)) (h'.mono (by omega)) (by omega) (by omega) (by omega)
theorem Sm.divOk {k : Nat} {x : Int} (h0 : x ≠ 0) (h : Sm k x) (hl : k ≤ 8999) : divOk x := divOk_of (k := k + 1) h0 (h.mono (by omega)) (by omega) (by omega)
theorem Sm.le {k : Nat} {x y : Int} (h : Sm k y) (hl : x.natAbs ≤ y.natAbs) : Sm k x := Nat.lt_of_le_of_lt hl h
instance (k : Nat) (x : Int) : Decidable (Sm k x) := by unfold Sm; infer_instance
theorem bi_len {M : Mem} {x : T} {ts : List T} (h : dof M x = none) (h2 : sof M x = some ts) : biT .len [x] M = some (.int (ts.length : Nat), M) := by
  unfold biT
  simp only [h, h2]
  rfl
theorem rg1_of {j : Int} (h : rngOk 0 j) : rg1 (.int j) = some (rngL 0 j, []) := by rw [rg1_int, if_pos h]
theorem rg2_of {i j : Int} (h : rngOk i j) : rg2 (.int i) (.int j) = some (rngL i j, []) := by rw [rg2_int, if_pos h]
/-! ### loops by name -/
noncomputable def whl (G : Sig) (c : ME) (b : List MS) (σ : En) (M : Mem) : Option R := whileC (fun σ M => tst (evE G c σ M)) (fun σ M => exSs G b σ M) σ M
noncomputable def fr (G : Sig) (t : MT) (b : List MS) (g : List (Nat × List T)) (xs : List T) (σ : En) (M : Mem) : Option R := forC g (fun x σ M => (asgT t x σ).bind fun σ1 => exSs G b σ1 M) xs σ M
noncomputable def lcr (G : Sig) (tg : MT) (ifs : MEs) (elt : ME) (σ : En) (g : List (Nat × List T)) (xs : List T) (M : Mem) : Option (List T × Mem) := lcC g (stepL G tg ifs elt σ) xs M
noncomputable def lcr2 (G : Sig) (tg : MT) (ifs : MEs) (vs1 : List Nat) (tg1 : MT) (it1 : MI) (ifs1 : MEs) (elt : ME) (σ : En) (g : List (Nat × List T)) (xs : List T) (M : Mem) : Option (List T × Mem) := lcC g (stepL2 G tg ifs vs1 tg1 it1 ifs1 elt σ) xs M
noncomputable def dcr (G : Sig) (tg : MT) (k v : ME) (σ : En) (g : List (Nat × List T)) (xs : List T) (M : Mem) : Option (List T × Mem) := lcC g (stepD G tg k v σ) xs M
@[simp high] theorem exS_whl (c : ME) (b : List MS) (σ : En) (M : Mem) : exS G (.whl c b) σ M = whl G c b σ M := by rw [exS]; rfl
@[simp high] theorem exS_for (t : MT) (it : MI) (b : List MS) (σ : En) (M : Mem) : exS G (.for t it b) σ M = (evI G it σ M).bind fun p => fr G t b p.1.2 p.1.1 σ p.2 := by rw [exS]; rfl
@[simp high] theorem evE_lc (tr : Bool) (own : List (Str × Nat)) (tg : MT) (it : MI) (ifs : MEs) (elt : ME) (σ : En) (M : Mem) : evE G (.lc tr own tg it ifs elt) σ M = (evI G it σ M).bind fun p =>
    (lcr G tg ifs elt (wipeE σ (own.map (·.2))) p.1.2 p.1.1 p.2).bind fun q => if q.1.length ≤ 16777216 then some (mkL tr q.1 q.2) else none := stepEq G tr own tg it ifs elt σ M
@[simp high] theorem evE_lc2 (tr : Bool) (own : List (Str × Nat)) (tg : MT) (it : MI) (ifs : MEs) (vs1 : List Nat) (tg1 : MT) (it1 : MI) (ifs1 : MEs) (elt : ME) (σ : En) (M : Mem) : evE G (.lc2 tr own tg it ifs vs1 tg1 it1 ifs1 elt) σ M = (evI G it σ M).bind fun p =>
    (lcr2 G tg ifs vs1 tg1 it1 ifs1 elt (wipeE σ (own.map (·.2))) p.1.2 p.1.1 p.2).bind fun q => if q.1.length ≤ 16777216 then some (mkL tr q.1 q.2) else none := step2Eq tr own tg it ifs vs1 tg1 it1 ifs1 elt σ M
@[simp high] theorem evE_dc (own : List (Str × Nat)) (tg : MT) (it : MI) (kx vx : ME) (σ : En) (M : Mem) : evE G (.dc own tg it kx vx) σ M = (evI G it σ M).bind fun p =>
    (dcr G tg kx vx (wipeE σ (own.map (·.2))) p.1.2 p.1.1 p.2).bind fun q => if q.1.length ≤ 1000000 then some (.fd false (dcPut q.1 ([], [])).1 (dcPut q.1 ([], [])).2, q.2) else none := stepDEq own tg it kx vx σ M
theorem whl_eq (c : ME) (b : List MS) (σ : En) (M : Mem) : whl G c b σ M = match tst (evE G c σ M) with
    | some (true, M1) => (match exSs G b σ M1 with
      | some (.nx σ' M') => whl G c b σ' M'
      | some (.ct σ' M') => whl G c b σ' M'
      | some (.bk σ' M') => some (.nx σ' M')
      | r => r)
    | some (false, M1) => some (.nx σ M1)
    | none => none := by unfold whl; rw [whileC_eq]; try rfl
/-- one turn -/
theorem whl_t {c : ME} {b : List MS} {σ σ' : En} {M M1 M' : Mem} (h : tst (evE G c σ M) = some (true, M1)) (h2 : exSs G b σ M1 = some (.nx σ' M')) : whl G c b σ M = whl G c b σ' M' := by rw [whl_eq, h]; simp only [h2]
theorem whl_f {c : ME} {b : List MS} {σ : En} {M M1 : Mem} (h : tst (evE G c σ M) = some (false, M1)) : whl G c b σ M = some (.nx σ M1) := by rw [whl_eq, h]
theorem fr_nil {t : MT} {b : List MS} {g : List (Nat × List T)} {σ : En} {M : Mem} (h : Grd g M) : fr G t b g [] σ M = some (.nx σ M) := by unfold fr; rw [forC, if_pos h]
theorem fr_nx {t : MT} {b : List MS} {g : List (Nat × List T)} {x : T} {xs : List T} {σ σ1 σ' : En} {M M' : Mem} (h : Grd g M) (h1 : asgT t x σ = some σ1) (h2 : exSs G b σ1 M = some (.nx σ' M')) : fr G t b g (x :: xs) σ M = fr G t b g xs σ' M' := by
  unfold fr; rw [forC, if_pos h, h1]; simp only [Option.bind_some, h2]
theorem fr_ct {t : MT} {b : List MS} {g : List (Nat × List T)} {x : T} {xs : List T} {σ σ1 σ' : En} {M M' : Mem} (h : Grd g M) (h1 : asgT t x σ = some σ1) (h2 : exSs G b σ1 M = some (.ct σ' M')) : fr G t b g (x :: xs) σ M = fr G t b g xs σ' M' := by
  unfold fr; rw [forC, if_pos h, h1]; simp only [Option.bind_some, h2]
theorem fr_bk {t : MT} {b : List MS} {g : List (Nat × List T)} {x : T} {xs : List T} {σ σ1 σ' : En} {M M' : Mem} (h : Grd g M) (h1 : asgT t x σ = some σ1) (h2 : exSs G b σ1 M = some (.bk σ' M')) : fr G t b g (x :: xs) σ M = some (.nx σ' M') := by
  unfold fr; rw [forC, if_pos h, h1]; simp only [Option.bind_some, h2]
theorem fr_rt {t : MT} {b : List MS} {g : List (Nat × List T)} {x : T} {xs : List T} {σ σ1 : En} {M M' : Mem} {u : T} (h : Grd g M) (h1 : asgT t x σ = some σ1) (h2 : exSs G b σ1 M = some (.rt u M')) : fr G t b g (x :: xs) σ M = some (.rt u M') := by
  unfold fr; rw [forC, if_pos h, h1]; simp only [Option.bind_some, h2]
theorem frn_nil {i : Nat} {n : Str} {b : List MS} {σ : En} {M : Mem} : fr G (.nm i n) b [] [] σ M = some (.nx σ M) := fr_nil (by simp)
theorem frn_nx {i : Nat} {n : Str} {b : List MS} {g : List (Nat × List T)} {x : T} {xs : List T} {σ : En} (σ' : En) {M : Mem} (M' : Mem) (h : Grd g M) (h2 : exSs G b (σ.set i (some x)) M = some (.nx σ' M')) : fr G (.nm i n) b g (x :: xs) σ M = fr G (.nm i n) b g xs σ' M' := fr_nx h (asg_nm ..) h2
theorem frn_ct {i : Nat} {n : Str} {b : List MS} {g : List (Nat × List T)} {x : T} {xs : List T} {σ : En} (σ' : En) {M : Mem} (M' : Mem) (h : Grd g M) (h2 : exSs G b (σ.set i (some x)) M = some (.ct σ' M')) : fr G (.nm i n) b g (x :: xs) σ M = fr G (.nm i n) b g xs σ' M' := fr_ct h (asg_nm ..) h2
theorem frn_bk {i : Nat} {n : Str} {b : List MS} {g : List (Nat × List T)} {x : T} {xs : List T} {σ : En} (σ' : En) {M : Mem} (M' : Mem) (h : Grd g M) (h2 : exSs G b (σ.set i (some x)) M = some (.bk σ' M')) : fr G (.nm i n) b g (x :: xs) σ M = some (.nx σ' M') := fr_bk h (asg_nm ..) h2
theorem frn_rt {i : Nat} {n : Str} {b : List MS} {g : List (Nat × List T)} {x : T} {xs : List T} {σ : En} {M : Mem} (u : T) (M' : Mem) (h : Grd g M) (h2 : exSs G b (σ.set i (some x)) M = some (.rt u M')) : fr G (.nm i n) b g (x :: xs) σ M = some (.rt u M') := fr_rt h (asg_nm ..) h2
theorem lcC_map {g : List (Nat × List T)} {step : T → Mem → Option (List T × Mem)} {f : T → List T} {M : Mem} (hg : Grd g M) : ∀ {xs : List T}, (∀ t ∈ xs, step t M = some (f t, M)) → lcC g step xs M = some (xs.flatMap f, M)
  | [], _ => by rw [lcC, if_pos hg]; rfl
  | x :: xs, h => by
    rw [lcC, if_pos hg, h x List.mem_cons_self]
    simp only [Option.bind_some]
    rw [lcC_map hg fun t ht => h t (List.mem_cons_of_mem _ ht)]
    rfl
theorem lcr_map {tg : MT} {ifs : MEs} {elt : ME} {σ : En} {g : List (Nat × List T)} {xs : List T} {M : Mem} (f : T → List T) (hg : Grd g M) (h : ∀ t ∈ xs, stepL G tg ifs elt σ t M = some (f t, M)) : lcr G tg ifs elt σ g xs M = some (xs.flatMap f, M) := lcC_map hg h
theorem lcr2_map {tg tg1 : MT} {ifs ifs1 : MEs} {it1 : MI} {vs1 : List Nat} {elt : ME} {σ : En} {g : List (Nat × List T)} {xs : List T} {M : Mem} (f : T → List T) (hg : Grd g M) (h : ∀ t ∈ xs, stepL2 G tg ifs vs1 tg1 it1 ifs1 elt σ t M = some (f t, M)) :
    lcr2 G tg ifs vs1 tg1 it1 ifs1 elt σ g xs M = some (xs.flatMap f, M) := lcC_map hg h
/-- over a list of known shape -/
theorem lcr_of {α : Type} {tg : MT} {ifs : MEs} {elt : ME} {σ : En} {g : List (Nat × List T)} {M : Mem} (c : α → T) (f : α → T) (hg : Grd g M) {xs : List α} (h : ∀ a ∈ xs, stepL G tg ifs elt σ (c a) M = some ([f a], M)) : lcr G tg ifs elt σ g (xs.map c) M = some (xs.map f, M) := by
  unfold lcr
  induction xs with
  | nil => rw [List.map_nil, lcC, if_pos hg]; rfl
  | cons x xs ih =>
    rw [List.map_cons, lcC, if_pos hg, h x List.mem_cons_self]
    simp only [Option.bind_some]
    rw [ih fun t ht => h t (List.mem_cons_of_mem _ ht)]
    rfl
/-- .. with a test -/
theorem lcr_if {α : Type} {tg : MT} {ifs : MEs} {elt : ME} {σ : En} {g : List (Nat × List T)} {M : Mem} (c : α → T) (p : α → Bool) (f : α → T) (hg : Grd g M) {xs : List α} (h : ∀ a ∈ xs, stepL G tg ifs elt σ (c a) M = some (if p a then [f a] else [], M)) :
    lcr G tg ifs elt σ g (xs.map c) M = some ((xs.filter p).map f, M) := by
  unfold lcr
  induction xs with
  | nil => rw [List.map_nil, lcC, if_pos hg]; rfl
  | cons x xs ih =>
    rw [List.map_cons, lcC, if_pos hg, h x List.mem_cons_self]
    simp only [Option.bind_some]
    rw [ih fun t ht => h t (List.mem_cons_of_mem _ ht)]
    by_cases hp : p x = true
    · rw [if_pos hp, List.filter_cons_of_pos hp]; rfl
    · rw [if_neg hp, List.filter_cons_of_neg hp]; rfl
/-! ### first trials -/
theorem sp_cell (ns : List Int) (k : Nat) (M : Mem) : runD G Lib._law_cell [.sc ns, .int k] M = some (.int (ns.getD k 0), M) := by
  by_cases h : k < ns.length
  · refine run_pure (M1 := []) rfl rfl rfl ?_
    rw [List.append_nil]
    simp [Lib._law_cell, exSs, exS, evE, evEs, startE, tst, truth, biT, dof, sof, lofS, cmpT, h, ixT, atI_n]
  · refine run_pure (M1 := []) rfl rfl rfl ?_
    rw [List.append_nil]
    simp [Lib._law_cell, exSs, exS, evE, evEs, startE, tst, truth, biT, dof, sof, lofS, cmpT, h, ixT, atI_n]
end Mi
end L2

/-! What the small defs on numbers reckon. -/
namespace L2
namespace Mi
open PySem PySem.Spec PyProof.Rows
variable {G : Sig}
def Knows (G : Sig) (f : Str) (S : Fn → Prop) : Prop := ∃ F, G.fns.lookup f = some F ∧ S F
/-! ### common divisors -/
def IsGcd (F : Fn) : Prop := ∀ (a b : Int) (M : Mem), F [.int a, .int b] M = some (.int (Int.gcd a b : Nat), M)
theorem abs_if (a : Int) : (if a < 0 then -a else a) = (a.natAbs : Int) := by split <;> omega
theorem fmod_nat (a b : Nat) : Int.fmod (a : Int) (b : Int) = ((a % b : Nat) : Int) := by
  rw [Int.fmod_eq_emod_of_nonneg _ (by omega)]; rfl
theorem gcd_loop (M : Mem) : ∀ (b a : Nat), whl G (.var 1 "b") [.par [(0, "a"), (1, "b")] (.cons (.var 1 "b") (.cons (.bin .Mod false (.var 0 "a") (.var 1 "b")) .nil))] [some (.int a), some (.int b)] M = some (.nx [some (.int (Nat.gcd a b : Nat)), some (.int (0 : Nat))] M) := by
  intro b
  induction b using Nat.strongRecOn with
  | ind b ih =>
    intro a
    by_cases hb : b = 0
    · subst hb
      rw [whl_f (M1 := M) (by simp [truth])]
      simp
    · have hlt : a % b < b := Nat.mod_lt _ (by omega)
      rw [whl_t (M1 := M) (σ' := [some (.int b), some (.int (a % b : Nat))]) (M' := M) (by simp [truth, hb]) (by simp [binT, parE, hb, fmod_nat])]
      rw [ih (a % b) hlt b, Nat.gcd_comm b, ← Nat.gcd_rec, Nat.gcd_comm]
theorem sp_common_divisor : IsGcd (runD G Lib.common_divisor) := by
  intro a b M
  refine run_pure (M1 := []) rfl rfl rfl ?_
  rw [List.append_nil]
  have := gcd_loop (G := G) M b.natAbs a.natAbs
  simp [Lib.common_divisor, startE, biT, abs_if, parE, this]
  rfl
/-! ### the law's own divisor -/
def IsGcdB (F : Fn) : Prop := ∀ (a b : Int) (M : Mem), b.natAbs < 2 ^ 1900 → F [.int a, .int b] M = some (.int (Int.gcd a b : Nat), M)
theorem lawdiv_loop (M : Mem) : ∀ (f : Nat) (xs : List T) (a b : Nat) (z : Option T), b < 2 ^ f → 2 * f + 1 ≤ xs.length → fr G (.nm 2 "_law_k") [
    .ite (.cmp .Eq (.var 1 "_law_b") (.int 0)) [
      .ret (.var 0 "_law_a")] [],
    .par [(0, "_law_a"), (1, "_law_b")] (.cons (.var 1 "_law_b") (.cons (.bin .Mod false (.bi .int (.cons (.var 0 "_law_a") .nil)) (.var 1 "_law_b")) .nil))] [] xs [some (.int a), some (.int b), z] M = some (.rt (.int (Nat.gcd a b : Nat)) M) := by
  have stop : ∀ (x : T) (xs : List T) (a : Nat) (z : Option T), fr G (.nm 2 "_law_k") [
    .ite (.cmp .Eq (.var 1 "_law_b") (.int 0)) [
      .ret (.var 0 "_law_a")] [],
    .par [(0, "_law_a"), (1, "_law_b")] (.cons (.var 1 "_law_b") (.cons (.bin .Mod false (.bi .int (.cons (.var 0 "_law_a") .nil)) (.var 1 "_law_b")) .nil))] [] (x :: xs) [some (.int a), some (.int (0 : Nat)), z] M = some (.rt (.int (a : Nat)) M) := fun x xs a z => by
    rw [frn_rt (.int a) M (by simp) (by simp [cmpT, truth, eqv?, scL, sealT, pureT, okT, depT, eqT])]
  have step : ∀ (x : T) (xs : List T) (a b : Nat) (z : Option T), b ≠ 0 → fr G (.nm 2 "_law_k") [
    .ite (.cmp .Eq (.var 1 "_law_b") (.int 0)) [
      .ret (.var 0 "_law_a")] [],
    .par [(0, "_law_a"), (1, "_law_b")] (.cons (.var 1 "_law_b") (.cons (.bin .Mod false (.bi .int (.cons (.var 0 "_law_a") .nil)) (.var 1 "_law_b")) .nil))] [] (x :: xs) [some (.int a), some (.int b), z] M = fr G (.nm 2 "_law_k") [
    .ite (.cmp .Eq (.var 1 "_law_b") (.int 0)) [
      .ret (.var 0 "_law_a")] [],
    .par [(0, "_law_a"), (1, "_law_b")] (.cons (.var 1 "_law_b") (.cons (.bin .Mod false (.bi .int (.cons (.var 0 "_law_a") .nil)) (.var 1 "_law_b")) .nil))] [] xs [some (.int b), some (.int (a % b : Nat)), some x] M := fun x xs a b z hb => by
    rw [frn_nx [some (.int b), some (.int (a % b : Nat)), some x] M (by simp) (by simp [cmpT, truth, eqv?, scL, sealT, pureT, okT, depT, eqT, hb, biT, binT, parE, fmod_nat])]
  intro f
  induction f with
  | zero =>
    intro xs a b z hb hl
    have : b = 0 := by simpa using hb
    subst this
    cases xs with
    | nil => simp at hl
    | cons x xs => rw [stop]; simp
  | succ f ih =>
    intro xs a b z hb hl
    match xs, hl with
    | x :: y :: xs, hl =>
      simp only [List.length_cons] at hl
      by_cases h0 : b = 0
      · subst h0; rw [stop]; simp
      · rw [step x _ a b z h0]
        have hr : a % b < b := Nat.mod_lt _ (by omega)
        by_cases h1 : a % b = 0
        · rw [h1, stop, Nat.gcd_comm, Nat.gcd_rec, h1]; simp
        · rw [step y xs b (a % b) _ h1]
          have hr2 : b % (a % b) < a % b := Nat.mod_lt _ (by omega)
          have hd : b % (a % b) + (a % b) ≤ b := by
            have := Nat.div_add_mod b (a % b)
            have hq : 1 ≤ b / (a % b) := Nat.div_pos (by omega) (by omega)
            have : (a % b) * 1 ≤ (a % b) * (b / (a % b)) := Nat.mul_le_mul_left _ hq
            omega
          have hp : 2 ^ (f + 1) = 2 * 2 ^ f := by rw [Nat.pow_succ]; omega
          rw [ih xs (a % b) (b % (a % b)) _ (by omega) (by omega)]
          congr 4
          rw [Nat.gcd_comm (a % b), ← Nat.gcd_rec, ← Nat.gcd_rec, Nat.gcd_comm]
theorem rngL_length (lo hi : Int) : (rngL lo hi).length = (hi - lo).toNat := rngL_len lo hi
theorem sp_law_divisor : IsGcdB (runD G Lib._law_divisor) := by
  intro a b M hb
  refine run_pure (M1 := []) rfl rfl rfl ?_
  rw [List.append_nil]
  have := lawdiv_loop (G := G) M 1900 (rngL 0 4000) a.natAbs b.natAbs none hb (by rw [rngL_length]; decide)
  simp [Lib._law_divisor, startE, biT, abs_if, rngOk, this]
  rfl
/-! ### numbers -/
abbrev Q2 := Int × Int
def numT (p : Q2) : T := .tup [.int p.1, .int p.2]
/-- brought to lowest terms, above a positive -/
def nrm (n d : Int) : Q2 := if d < 0 then (-n / (Int.gcd n d : Nat), -d / (Int.gcd n d : Nat)) else (n / (Int.gcd n d : Nat), d / (Int.gcd n d : Nat))
def IsNumber (F : Fn) : Prop := ∀ (n d : Int) (M : Mem), d ≠ 0 → Sm 8000 d → F [.int n, .int d] M = some (numT (nrm n d), M)
def IsNumberB (F : Fn) : Prop := ∀ (n d : Int) (M : Mem), d ≠ 0 → Sm 1900 d → F [.int n, .int d] M = some (numT (nrm n d), M)
theorem gcd_pos {n d : Int} (h : d ≠ 0) : 0 < Int.gcd n d := Nat.pos_of_ne_zero fun e => h (Int.gcd_eq_zero_iff.mp e).2
theorem gcd_sm {k : Nat} {n d : Int} (h : d ≠ 0) (hs : Sm k d) : Sm k (Int.gcd n d : Nat) := by
  unfold Sm at *
  have : Int.gcd n d ≤ d.natAbs := Int.gcd_le_natAbs_right n h
  simp only [Int.natAbs_natCast]
  omega
theorem fdiv_nat (n : Int) (g : Nat) : n.fdiv (g : Int) = n / (g : Int) := Int.fdiv_eq_ediv_of_nonneg _ (by omega)
theorem fdiv_negd {n : Int} {g : Nat} (h : (g : Int) ∣ n) (hg : 0 < g) : n.fdiv (-(g : Int)) = -n / (g : Int) := by
  obtain ⟨q, rfl⟩ := h
  have hg' : (g : Int) ≠ 0 := by omega
  rw [← Int.mul_neg, Int.mul_ediv_cancel_left _ hg', show (g : Int) * q = -(g : Int) * -q by rw [Int.neg_mul_neg], Int.mul_fdiv_cancel_left _ (by omega)]
theorem sp_number (h : Knows G "common_divisor" IsGcd) : IsNumber (runD G Lib.number) := by
  intro n d M hd hs
  obtain ⟨F, hl, hF⟩ := h
  refine run_pure (M1 := []) rfl rfl rfl ?_
  rw [List.append_nil]
  have g0 := gcd_pos (n := n) hd
  have gs := gcd_sm (n := n) hd hs
  have dv : divOk (Int.gcd n d : Nat) := Sm.divOk (by omega) gs (by decide)
  have f1 := hF n d M
  have f2 := hF (-n) (-d) M
  rw [Int.neg_gcd, Int.gcd_neg] at f2
  by_cases h0 : d < 0
  · simp [Lib.number, startE, h0, parE, hl, f2, bin_div dv, fdiv_nat, numT, nrm]
  · simp [Lib.number, startE, h0, parE, hl, f1, bin_div dv, fdiv_nat, numT, nrm]
theorem sp_law_number (h : Knows G "_law_divisor" IsGcdB) : IsNumberB (runD G Lib._law_number) := by
  intro n d M hd hs
  obtain ⟨F, hl, hF⟩ := h
  refine run_pure (M1 := []) rfl rfl rfl ?_
  rw [List.append_nil]
  have g0 := gcd_pos (n := n) hd
  have gs := gcd_sm (n := n) hd hs
  have dv : divOk (Int.gcd n d : Nat) := Sm.divOk (by omega) gs (by decide)
  have dv' : divOk (-(Int.gcd n d : Nat)) := Sm.divOk (by omega) gs.neg (by decide)
  have e1 : (n.fdiv (-(Int.gcd n d : Nat) : Int)) = -n / (Int.gcd n d : Nat) := fdiv_negd (Int.gcd_dvd_left ..) g0
  have e2 : (d.fdiv (-(Int.gcd n d : Nat) : Int)) = -d / (Int.gcd n d : Nat) := fdiv_negd (Int.gcd_dvd_right ..) g0
  have hF' := hF n d M hs
  by_cases h0 : d < 0
  · simp [Lib._law_number, startE, h0, parE, hl, hF', bin_div dv', e1, e2, numT, nrm]
  · simp [Lib._law_number, startE, h0, parE, hl, hF', bin_div dv, fdiv_nat, numT, nrm]
def SmQ (k : Nat) (p : Q2) : Prop := Sm k p.1 ∧ Sm k p.2
/-- two numbers in, one out -/
def IsOp (k : Nat) (f : Q2 → Q2 → Q2) (F : Fn) : Prop := ∀ (a b : Q2) (M : Mem), a.2 ≠ 0 → b.2 ≠ 0 → SmQ k a → SmQ k b → F [numT a, numT b] M = some (numT (f a b), M)
def addQ (a b : Q2) : Q2 := nrm (a.1 * b.2 + b.1 * a.2) (a.2 * b.2)
def subQ (a b : Q2) : Q2 := nrm (a.1 * b.2 - b.1 * a.2) (a.2 * b.2)
def mulQ (a b : Q2) : Q2 := nrm (a.1 * b.1) (a.2 * b.2)
def divQ (a b : Q2) : Q2 := nrm (a.1 * b.2) (a.2 * b.1)
section
variable {F : Fn} {k : Nat}
theorem sp_plus (h : Knows G "number" IsNumber) : IsOp 4000 addQ (runD G Lib.plus) := by
  intro a b M ha hb sa sb
  obtain ⟨F, hl, hF⟩ := h
  refine run_pure (M1 := []) rfl rfl rfl ?_
  rw [List.append_nil]
  have e := hF (a.1 * b.2 + b.1 * a.2) (a.2 * b.2) M (Int.mul_ne_zero ha hb) (sa.2.mul sb.2)
  simp [Lib.plus, startE, numT, bin_mul (sa.1.mulOk sb.2 (by decide)), bin_mul (sb.1.mulOk sa.2 (by decide)), bin_mul (sa.2.mulOk sb.2 (by decide)), hl, e, addQ]
theorem sp_minus (h : Knows G "number" IsNumber) : IsOp 4000 subQ (runD G Lib.minus) := by
  intro a b M ha hb sa sb
  obtain ⟨F, hl, hF⟩ := h
  refine run_pure (M1 := []) rfl rfl rfl ?_
  rw [List.append_nil]
  have e := hF (a.1 * b.2 - b.1 * a.2) (a.2 * b.2) M (Int.mul_ne_zero ha hb) (sa.2.mul sb.2)
  simp [Lib.minus, startE, numT, bin_mul (sa.1.mulOk sb.2 (by decide)), bin_mul (sb.1.mulOk sa.2 (by decide)), bin_mul (sa.2.mulOk sb.2 (by decide)), hl, e, subQ]
theorem sp_times (h : Knows G "number" IsNumber) : IsOp 4000 mulQ (runD G Lib.times) := by
  intro a b M ha hb sa sb
  obtain ⟨F, hl, hF⟩ := h
  refine run_pure (M1 := []) rfl rfl rfl ?_
  rw [List.append_nil]
  have e := hF (a.1 * b.1) (a.2 * b.2) M (Int.mul_ne_zero ha hb) (sa.2.mul sb.2)
  simp [Lib.times, startE, numT, bin_mul (sa.1.mulOk sb.1 (by decide)), bin_mul (sa.2.mulOk sb.2 (by decide)), hl, e, mulQ]
theorem sp_over (h : Knows G "number" IsNumber) (a b : Q2) (M : Mem) (ha : a.2 ≠ 0) (hb : b.1 ≠ 0) (sa : SmQ 4000 a) (sb : SmQ 4000 b) : runD G Lib.over [numT a, numT b] M = some (numT (divQ a b), M) := by
  obtain ⟨F, hl, hF⟩ := h
  refine run_pure (M1 := []) rfl rfl rfl ?_
  rw [List.append_nil]
  have e := hF (a.1 * b.2) (a.2 * b.1) M (Int.mul_ne_zero ha hb) (sa.2.mul sb.1)
  simp [Lib.over, startE, numT, bin_mul (sa.1.mulOk sb.2 (by decide)), bin_mul (sa.2.mulOk sb.1 (by decide)), hl, e, divQ]
def ltQ (a b : Q2) : Bool := decide (a.1 * b.2 < b.1 * a.2)
theorem sp_less (a b : Q2) (M : Mem) (sa : SmQ 4000 a) (sb : SmQ 4000 b) : runD G Lib.less [numT a, numT b] M = some (.bl (ltQ a b), M) := by
  refine run_pure (M1 := []) rfl rfl rfl ?_
  rw [List.append_nil]
  simp [Lib.less, startE, numT, bin_mul (sa.1.mulOk sb.2 (by decide)), bin_mul (sb.1.mulOk sa.2 (by decide)), ltQ]
def sgnQ (a : Q2) : Int := (if 0 < a.1 then 1 else 0) - (if a.1 < 0 then 1 else 0)
theorem sp_sign (a : Q2) (M : Mem) : runD G Lib.sign [numT a] M = some (.int (sgnQ a), M) := by
  refine run_pure (M1 := []) rfl rfl rfl ?_
  rw [List.append_nil]
  simp [Lib.sign, startE, numT, sgnQ, biT]
theorem sp_law_plus (h : Knows G "_law_number" IsNumberB) : IsOp 950 addQ (runD G Lib._law_plus) := by
  intro a b M ha hb sa sb
  obtain ⟨F, hl, hF⟩ := h
  refine run_pure (M1 := []) rfl rfl rfl ?_
  rw [List.append_nil]
  have e := hF (a.1 * b.2 + b.1 * a.2) (a.2 * b.2) M (Int.mul_ne_zero ha hb) (sa.2.mul sb.2)
  simp [Lib._law_plus, startE, numT, bin_mul (sa.1.mulOk sb.2 (by decide)), bin_mul (sb.1.mulOk sa.2 (by decide)), bin_mul (sa.2.mulOk sb.2 (by decide)), hl, e, addQ]
theorem sp_law_times (h : Knows G "_law_number" IsNumberB) : IsOp 950 mulQ (runD G Lib._law_times) := by
  intro a b M ha hb sa sb
  obtain ⟨F, hl, hF⟩ := h
  refine run_pure (M1 := []) rfl rfl rfl ?_
  rw [List.append_nil]
  have e := hF (a.1 * b.1) (a.2 * b.2) M (Int.mul_ne_zero ha hb) (sa.2.mul sb.2)
  simp [Lib._law_times, startE, numT, bin_mul (sa.1.mulOk sb.1 (by decide)), bin_mul (sa.2.mulOk sb.2 (by decide)), hl, e, mulQ]
theorem sp_law_less (a b : Q2) (M : Mem) (sa : SmQ 4000 a) (sb : SmQ 4000 b) : runD G Lib._law_less [numT a, numT b] M = some (.bl (ltQ a b), M) := by
  refine run_pure (M1 := []) rfl rfl rfl ?_
  rw [List.append_nil]
  simp [Lib._law_less, startE, numT, bin_mul (sa.1.mulOk sb.2 (by decide)), bin_mul (sb.1.mulOk sa.2 (by decide)), ltQ]
end
end Mi
end L2

/-! What the defs on lists of numbers reckon; the script's parts. -/
namespace L2
namespace Mi
open PySem PySem.Spec PyProof.Rows
variable {G : Sig}
/-! ### the divisor of many -/
def gcdF (g : Nat) (ns : List Int) : Nat := ns.foldl (fun g x => Int.gcd g x) g
def gcdL (ns : List Int) : Nat := gcdF 0 ns
theorem gcdF_one : ∀ ns : List Int, gcdF 1 ns = 1
  | [] => rfl
  | x :: ns => by
    show gcdF (Int.gcd (1 : Nat) x) ns = 1
    rw [show Int.gcd ((1 : Nat) : Int) x = 1 by simp]
    exact gcdF_one ns
theorem gcdF_dvd : ∀ (ns : List Int) (g : Nat), gcdF g ns ∣ g ∧ ∀ x ∈ ns, (gcdF g ns : Int) ∣ x
  | [], g => ⟨Nat.dvd_refl _, fun x h => (nomatch h)⟩
  | x :: ns, g => by
    obtain ⟨h1, h2⟩ := gcdF_dvd ns (Int.gcd g x)
    have e : gcdF g (x :: ns) = gcdF (Int.gcd g x) ns := rfl
    rw [e]
    have k1 : (Int.gcd g x : Nat) ∣ g := by
      have := Int.gcd_dvd_left (a := (g : Int)) (b := x)
      exact Int.natCast_dvd_natCast.mp this
    refine ⟨Nat.dvd_trans h1 k1, fun y hy => ?_⟩
    rcases List.mem_cons.mp hy with rfl | hy
    · exact Int.dvd_trans (Int.natCast_dvd_natCast.mpr h1) (Int.gcd_dvd_right ..)
    · exact h2 y hy
theorem gcdL_dvd {ns : List Int} {x : Int} (h : x ∈ ns) : (gcdL ns : Int) ∣ x := (gcdF_dvd ns 0).2 x h
theorem gcdL_zero {ns : List Int} (h : gcdL ns = 0) : ∀ x ∈ ns, x = 0 := fun x hx => by
  have := gcdL_dvd hx
  rw [h] at this
  exact Int.zero_dvd.mp (by simpa using this)
theorem gcdL_sm {k : Nat} {ns : List Int} (h : ∀ x ∈ ns, Sm k x) : Sm k (gcdL ns : Nat) := by
  by_cases h0 : gcdL ns = 0
  · rw [h0]; exact Nat.pow_pos (by decide)
  · have : ∃ x ∈ ns, x ≠ 0 := by
      by_cases q : ∃ x ∈ ns, x ≠ 0
      · exact q
      · exfalso
        apply h0
        have all0 : ∀ x ∈ ns, x = 0 := fun x hx => by
          by_cases z : x = 0
          · exact z
          · exact absurd ⟨x, hx, z⟩ q
        have : ∀ (l : List Int), (∀ x ∈ l, x = 0) → gcdF 0 l = 0 := by
          intro l
          induction l with
          | nil => intro _; rfl
          | cons y l ih =>
            intro hl
            show gcdF (Int.gcd (0 : Nat) y) l = 0
            rw [hl y List.mem_cons_self]
            exact ih fun z hz => hl z (List.mem_cons_of_mem _ hz)
        exact this ns all0
    obtain ⟨x, hx, hne⟩ := this
    have hd := gcdL_dvd hx
    have := Nat.le_of_dvd (by omega) (Int.natAbs_dvd_natAbs.mpr hd)
    exact (h x hx).le this
theorem divof_loop {t : T} {M : Mem} {gd : List (Nat × List T)} (hg : Grd gd M) (h : Knows G "common_divisor" IsGcd) : ∀ (ns : List Int) (g : Nat) (z : Option T), ∃ z', fr G (.nm 2 "integer") [
    .ite (.var 2 "integer") [
      .set 1 "found" (.call "common_divisor" (.cons (.var 1 "found") (.cons (.var 2 "integer") .nil))),
      .ite (.cmp .Eq (.var 1 "found") (.int 1)) [
        .brk] []] []] gd (ns.map T.int) [some t, some (.int g), z] M = some (.nx [some t, some (.int (gcdF g ns : Nat)), z'] M)
  | [], g, z => ⟨z, by rw [List.map_nil, fr_nil hg]; rfl⟩
  | x :: ns, g, z => by
    obtain ⟨F, hl, hF⟩ := h
    have e := hF g x M
    rw [List.map_cons]
    by_cases h0 : x = 0
    · obtain ⟨z', ih⟩ := divof_loop hg ⟨F, hl, hF⟩ ns g (some (.int x))
      refine ⟨z', ?_⟩
      rw [frn_nx [some t, some (.int g), some (.int x)] M hg (by simp [h0]), ih, h0]
      show some (R.nx [some t, some (T.int (gcdF g ns : Nat)), z'] M) = some (R.nx [some t, some (T.int (gcdF (Int.gcd g 0) ns : Nat)), z'] M)
      rw [show Int.gcd (g : Int) 0 = g by simp]
    · by_cases h1 : Int.gcd g x = 1
      · refine ⟨some (.int x), ?_⟩
        rw [frn_bk [some t, some (.int (1 : Nat)), some (.int x)] M hg (by simp [h0, hl, e, h1])]
        show _ = some (R.nx [some t, some (T.int (gcdF (Int.gcd g x) ns : Nat)), some (.int x)] M)
        rw [h1, gcdF_one]
      · obtain ⟨z', ih⟩ := divof_loop hg ⟨F, hl, hF⟩ ns (Int.gcd g x) (some (.int x))
        refine ⟨z', ?_⟩
        have h2 : ¬ ((Int.gcd g x : Nat) : Int) = 1 := by omega
        rw [frn_nx [some t, some (.int (Int.gcd g x : Nat)), some (.int x)] M hg (by simp [h0, hl, e, h2]), ih]
        rfl
def IsDivOf (F : Fn) : Prop := ∀ (t : T) (ns : List Int) (M : Mem), sof M t = some (ns.map T.int) → F [t] M = some (.int (gcdL ns : Nat), M)
theorem sp_divisor_of (h : Knows G "common_divisor" IsGcd) : IsDivOf (runD G Lib.divisor_of) := by
  intro t ns M hs
  refine run_pure (M1 := []) rfl rfl rfl ?_
  rw [List.append_nil]
  obtain ⟨z', e⟩ := divof_loop (t := t) (grd_sof hs) h ns 0 none
  rw [show ((0 : Nat) : Int) = 0 from rfl] at e
  simp [Lib.divisor_of, startE, hs, e]
  rfl
/-- divided by their divisor -/
def lowL (ns : List Int) : List Int := ns.map (· / (gcdL ns : Int))
theorem ediv_low {ns : List Int} (h : gcdL ns < 2) : lowL ns = ns := by
  unfold lowL
  conv => rhs; rw [← List.map_id ns]
  apply List.map_congr_left
  intro x hx
  by_cases h0 : gcdL ns = 0
  · rw [gcdL_zero h0 x hx]; simp
  · rw [show gcdL ns = 1 by omega]; simp
def ilT (ns : List Int) : T := .fl (ns.map T.int)
def IsLowest (F : Fn) : Prop := ∀ (t : T) (ns : List Int) (M : Mem), sof M t = some (ns.map T.int) → ns.length ≤ 16777216 → (∀ x ∈ ns, Sm 8900 x) → F [t] M = some (ilT (lowL ns), M)
theorem pureT_il (ns : List Int) : pureT (ilT ns) = true := by simp only [ilT, pureT]; exact pureTs_ints ns
theorem sp_lowest (h : Knows G "divisor_of" IsDivOf) : IsLowest (runD G Lib.lowest) := by
  intro t ns M hs hlen hsm
  obtain ⟨F, hl, hF⟩ := h
  have e := hF t ns M hs
  refine run_pure (M1 := []) rfl rfl (pureT_il _) ?_
  rw [List.append_nil]
  by_cases h2 : gcdL ns < 2
  · have h2' : ((gcdL ns : Nat) : Int) < 2 := by omega
    simp [Lib.lowest, startE, hl, e, h2', biT, hs, ediv_low h2, ilT]
  · have h2' : ¬ ((gcdL ns : Nat) : Int) < 2 := by omega
    have dv : divOk (gcdL ns : Nat) := Sm.divOk (by omega) (gcdL_sm hsm) (by decide)
    have lc := lcr_of (G := G) (tg := .nm 2 "integer") (ifs := .nil) (elt := .bin .FloorDiv false (.var 2 "integer") (.var 1 "divisor")) (σ := [some t, some (.int (gcdL ns : Nat)), none]) (M := M) (g := grdOf t (ns.map T.int)) T.int (fun x => .int (x / (gcdL ns : Int))) (grd_sof hs) (xs := ns)
      (fun x hx => by simp [stepL, bin_div dv, fdiv_nat])
    simp [Lib.lowest, startE, hl, e, h2', hs, wipeE, lc, hlen, ilT, lowL]
end Mi
end L2

/-! Brought to whole numbers; the script's parts. -/
namespace L2
namespace Mi
open PySem PySem.Spec PyProof.Rows
variable {G : Sig}
def lcmF (c : Int) (ps : List Q2) : Int := ps.foldl (fun c p => c / (Int.gcd c p.2 : Nat) * p.2) c
def lcmL (ps : List Q2) : Int := lcmF 1 ps
def LcmOk : Int → List Q2 → Prop
  | c, [] => 0 < c ∧ Sm 8000 c
  | c, p :: ps => 0 < c ∧ Sm 8000 c ∧ 0 < p.2 ∧ Sm 8000 p.2 ∧ LcmOk (c / (Int.gcd c p.2 : Nat) * p.2) ps
theorem lcm_step {c d : Int} (hc : 0 < c) (hd : 0 < d) : 0 < c / (Int.gcd c d : Nat) * d := by
  have g0 : 0 < Int.gcd c d := gcd_pos (by omega)
  have hdv : ((Int.gcd c d : Nat) : Int) ∣ c := Int.gcd_dvd_left ..
  have : 0 < c / (Int.gcd c d : Nat) := by
    obtain ⟨q, hq⟩ := hdv
    have hq0 : 0 < q := by
      rcases Int.lt_trichotomy q 0 with h | h | h
      · exfalso
        have : ((Int.gcd c d : Nat) : Int) * q < 0 := Int.mul_neg_of_pos_of_neg (by omega) h
        omega
      · subst h; omega
      · exact h
    have e : c / (Int.gcd c d : Nat) = q := Int.ediv_eq_of_eq_mul_right (by omega) hq
    rw [e]; exact hq0
  exact Int.mul_pos this hd
theorem lcm_sm {a b : Nat} {c d : Int} (hc : Sm a c) (hd : Sm b d) : Sm (a + b) (c / (Int.gcd c d : Nat) * d) := by
  refine Sm.mul (hc.le ?_) hd
  exact Int.natAbs_ediv_le_natAbs ..
theorem LcmOk.of {b : Nat} : ∀ {ps : List Q2} {c : Int} {a : Nat}, 0 < c → Sm a c → (∀ p ∈ ps, 0 < p.2 ∧ Sm b p.2) → b ≤ 8000 → a + b * ps.length ≤ 8000 → LcmOk c ps ∧ 0 < lcmF c ps ∧ Sm (a + b * ps.length) (lcmF c ps)
  | [], c, a, h0, hs, _, _, hl => ⟨⟨h0, hs.mono (by omega)⟩, h0, hs.mono (by omega)⟩
  | p :: ps, c, a, h0, hs, hp, hb, hl => by
    obtain ⟨p1, p2⟩ := hp p List.mem_cons_self
    rw [List.length_cons, Nat.mul_succ] at hl
    obtain ⟨q1, q2, q3⟩ := LcmOk.of (a := a + b) (lcm_step h0 p1) (lcm_sm hs p2) (fun x hx => hp x (List.mem_cons_of_mem _ hx)) hb (by omega)
    refine ⟨⟨h0, hs.mono (by omega), p1, p2.mono hb, q1⟩, q2, ?_⟩
    rw [List.length_cons, Nat.mul_succ]
    exact q3.mono (by omega)
def raised (ps : List Q2) : List Int := ps.map fun p => p.1 * (lcmL ps / p.2)
theorem brought_loop {t : T} {M : Mem} {gd : List (Nat × List T)} (hg : Grd gd M) (h : Knows G "common_divisor" IsGcd) : ∀ (ps : List Q2) (c : Int) (z : Option T), LcmOk c ps → ∃ z', fr G (.nm 2 "part") [
    .set 1 "common" (.bin .Mult false (.bin .FloorDiv false (.var 1 "common") (.call "common_divisor" (.cons (.var 1 "common") (.cons (.ix (.var 2 "part") (.int 1)) .nil)))) (.ix (.var 2 "part") (.int 1)))] gd (ps.map numT) [some t, some (.int c), z] M = some (.nx [some t, some (.int (lcmF c ps)), z'] M)
  | [], c, z, _ => ⟨z, by rw [List.map_nil, fr_nil hg]; rfl⟩
  | p :: ps, c, z, ok => by
    obtain ⟨F, hl, hF⟩ := h
    obtain ⟨c0, cs, p0, psm, ok⟩ := ok
    have e := hF c p.2 M
    have dv : divOk (Int.gcd c p.2 : Nat) := Sm.divOk (by have := gcd_pos (n := c) (d := p.2) (by omega); omega) (gcd_sm (by omega) psm) (by decide)
    have mo : mulOk (c / (Int.gcd c p.2 : Nat)) p.2 := Sm.mulOk (cs.le (Int.natAbs_ediv_le_natAbs ..)) psm (by decide)
    obtain ⟨z', ih⟩ := brought_loop hg ⟨F, hl, hF⟩ ps _ (some (numT p)) ok
    refine ⟨z', ?_⟩
    rw [List.map_cons, frn_nx [some t, some (.int (c / (Int.gcd c p.2 : Nat) * p.2)), some (numT p)] M hg (by simp [numT, hl, e, bin_div dv, fdiv_nat, bin_mul mo]), ih]
    rfl
theorem LcmOk.mem : ∀ {ps : List Q2} {c : Int}, LcmOk c ps → (∀ p ∈ ps, 0 < p.2 ∧ Sm 8000 p.2) ∧ Sm 8000 (lcmF c ps) ∧ 0 < lcmF c ps
  | [], c, h => ⟨fun p hp => (nomatch hp), h.2, h.1⟩
  | p :: ps, c, ⟨h1, h2, h3, h4, h5⟩ => by
    obtain ⟨q1, q2⟩ := LcmOk.mem h5
    refine ⟨fun x hx => ?_, q2⟩
    rcases List.mem_cons.mp hx with rfl | hx
    · exact ⟨h3, h4⟩
    · exact q1 x hx
def IsBrought (F : Fn) : Prop := ∀ (t : T) (ps : List Q2) (M : Mem), sof M t = some (ps.map numT) → LcmOk 1 ps → ps.length ≤ 16777216 → (∀ p ∈ ps, Sm 100000 p.1) → (∀ x ∈ raised ps, Sm 8900 x) → F [t] M = some (ilT (lowL (raised ps)), M)
theorem sp_brought (h : Knows G "common_divisor" IsGcd) (h2 : Knows G "lowest" IsLowest) : IsBrought (runD G Lib.brought) := by
  intro t ps M hs ok hlen hn hsm
  obtain ⟨F2, hl2, hF2⟩ := h2
  obtain ⟨m1, m2, m3⟩ := ok.mem
  obtain ⟨z', e⟩ := brought_loop (t := t) (grd_sof hs) h ps 1 none ok
  refine run_pure (M1 := []) rfl rfl (pureT_il _) ?_
  rw [List.append_nil]
  have lc := lcr_of (G := G) (tg := .nm 2 "part") (ifs := .nil) (elt := .bin .Mult false (.ix (.var 2 "part") (.int 0)) (.bin .FloorDiv false (.var 1 "common") (.ix (.var 2 "part") (.int 1)))) (σ := [some t, some (.int (lcmL ps)), none]) (M := M) (g := grdOf t (ps.map numT)) numT (fun p => .int (p.1 * (lcmL ps / p.2))) (grd_sof hs) (xs := ps)
      (fun p hp => by
        obtain ⟨q1, q2⟩ := m1 p hp
        have dv : divOk p.2 := Sm.divOk (by omega) q2 (by decide)
        have mo : mulOk p.1 (lcmL ps / p.2) := Sm.mulOk (hn p hp) (m2.le (Int.natAbs_ediv_le_natAbs ..)) (by decide)
        simp [stepL, numT, bin_div dv, Int.fdiv_eq_ediv_of_nonneg _ (Int.le_of_lt q1), bin_mul mo])
  have e2 := hF2 (ilT (raised ps)) (raised ps) M rfl (by simpa [raised] using hlen) hsm
  have e3 : T.fl (ps.map fun p => T.int (p.1 * (lcmL ps / p.2))) = ilT (raised ps) := by
    unfold ilT raised
    rw [List.map_map]; rfl
  have e' : fr G (.nm 2 "part") [
    .set 1 "common" (.bin .Mult false (.bin .FloorDiv false (.var 1 "common") (.call "common_divisor" (.cons (.var 1 "common") (.cons (.ix (.var 2 "part") (.int 1)) .nil)))) (.ix (.var 2 "part") (.int 1)))] (grdOf t (ps.map numT)) (ps.map numT) [some t, some (.int 1), none] M = some (.nx [some t, some (.int (lcmL ps)), z'] M) := e
  simp [Lib.brought, startE, hs, e', wipeE, lc, hlen, e3, hl2, e2]
/-! ### the script's parts -/
def mixP (cell : Int) (k : Nat) : Int :=
  let m := Int.fmod (cell * 48271 + (k : Int) * 69621 + 11) 2147483647
  Int.fdiv (Int.fmod (m * m + 16807 * (k : Int) + 5) 998244353) 7
def partsL (cell : Int) : Int → Nat → List Int → List Int
  | _, _, [] => []
  | left, k, s :: ss => if 0 ≤ left then left.fmod s :: partsL cell (left.fdiv s) (k + 1) ss else (mixP cell k).fmod s :: partsL cell left (k + 1) ss
def parts (cell : Int) (sizes : List Int) : List Int := partsL cell (cell - 1000000000000000000) 0 sizes
theorem partsL_len (cell : Int) : ∀ (ss : List Int) (l : Int) (k : Nat), (partsL cell l k ss).length = ss.length
  | [], _, _ => rfl
  | s :: ss, l, k => by
    unfold partsL
    split
    · rw [List.length_cons, List.length_cons, partsL_len cell ss]
    · rw [List.length_cons, List.length_cons, partsL_len cell ss]
theorem partsL_in (cell : Int) : ∀ (ss : List Int) (l : Int) (k : Nat), (∀ s ∈ ss, 0 < s) → ∀ (i : Nat) (p s : Int), (partsL cell l k ss)[i]? = some p → ss[i]? = some s → 0 ≤ p ∧ p < s
  | [], _, _, _, i, p, s, h, _ => by simp [partsL] at h
  | s :: ss, l, k, hp, i, p, s', h, h' => by
    have h0 := hp s List.mem_cons_self
    have key : ∀ x : Int, 0 ≤ x.fmod s ∧ x.fmod s < s := fun x => by rw [Int.fmod_eq_emod_of_nonneg _ (by omega)]; exact ⟨Int.emod_nonneg _ (by omega), Int.emod_lt_of_pos _ h0⟩
    unfold partsL at h
    split at h
    · cases i with
      | zero => simp at h h'; subst h h'; exact key _
      | succ i => exact partsL_in cell ss _ _ (fun x hx => hp x (List.mem_cons_of_mem _ hx)) i p s' (by simpa using h) (by simpa using h')
    · cases i with
      | zero => simp at h h'; subst h h'; exact key _
      | succ i => exact partsL_in cell ss _ _ (fun x hx => hp x (List.mem_cons_of_mem _ hx)) i p s' (by simpa using h) (by simpa using h')
theorem parts_len (cell : Int) (ss : List Int) : (parts cell ss).length = ss.length := partsL_len ..
/-- the i-th part -/
def prt (ps : List Int) (i : Nat) : Int := ps.getD i 0
theorem parts_at {cell : Int} {ss : List Int} {i : Nat} {s : Int} (hp : ∀ s ∈ ss, 0 < s) (h : ss[i]? = some s) : (parts cell ss)[i]? = some (prt (parts cell ss) i) ∧ 0 ≤ prt (parts cell ss) i ∧ prt (parts cell ss) i < s := by
  have hi : i < (parts cell ss).length := by rw [parts_len]; exact (List.getElem?_eq_some_iff.mp h).1
  have e : (parts cell ss)[i]? = some (prt (parts cell ss) i) := by
    unfold prt
    rw [List.getD_eq_getElem?_getD, List.getElem?_eq_getElem hi]; rfl
  exact ⟨e, partsL_in cell ss _ 0 hp i _ s e h⟩
theorem mixOk {c : Int} (h : Sm 2000000 c) : mulOk c 48271 := h.mulOk (k := 16) (by decide) (by decide)
theorem parts_loop {M : Mem} {cell : Int} {st : T} {sizes : List Int} {gd : List (Nat × List T)} (hs : sof M st = some (sizes.map T.int)) (hst : pureT st = true) (hcell : Sm 2000000 cell) (hpos : ∀ s ∈ sizes, 0 < s ∧ Sm 8000 s) (hlen : sizes.length ≤ 1000) :
    ∀ (ss : List Int) (dn : List Int) (left : Int) (acc : List Int) (z y : Option T), sizes = dn ++ ss → acc.length = dn.length → ∃ left' z' y', fr G (.nm 4 "_law_k") [
    .ite (.cmp .GtE (.var 3 "_law_left") (.int 0)) [
      .ex (.bm .append (.var 2 "_law_parts_here") (.cons (.bin .Mod false (.bi .int (.cons (.var 3 "_law_left") .nil)) (.ix (.var 1 "_law_sizes") (.var 4 "_law_k"))) .nil)),
      .set 3 "_law_left" (.bin .FloorDiv false (.var 3 "_law_left") (.ix (.var 1 "_law_sizes") (.var 4 "_law_k")))] [
      .set 5 "_law_mixed" (.bin .Mod false (.bi .int (.cons (.bin .Add false (.bin .Add false (.bin .Mult false (.var 0 "_law_cell_here") (.int 48271)) (.bin .Mult false (.var 4 "_law_k") (.int 69621))) (.int 11)) .nil)) (.int 2147483647)),
      .set 5 "_law_mixed" (.bin .Mod false (.bi .int (.cons (.bin .Add false (.bin .Add false (.bin .Mult false (.var 5 "_law_mixed") (.var 5 "_law_mixed")) (.bin .Mult false (.int 16807) (.var 4 "_law_k"))) (.int 5)) .nil)) (.int 998244353)),
      .ex (.bm .append (.var 2 "_law_parts_here") (.cons (.bin .Mod false (.bi .int (.cons (.bin .FloorDiv false (.var 5 "_law_mixed") (.int 7)) .nil)) (.ix (.var 1 "_law_sizes") (.var 4 "_law_k"))) .nil))]] [] (rngL (dn.length : Nat) ((dn.length + ss.length : Nat) : Int))
      [some (.int cell), some st, some (.obj M.length), some (.int left), z, y] (M ++ [.lst (acc.map T.int)]) = some (.nx [some (.int cell), some st, some (.obj M.length), some (.int left'), z', y'] (M ++ [.lst ((acc ++ partsL cell left dn.length ss).map T.int)]))
  | [], dn, left, acc, z, y, hd, ha => ⟨left, z, y, by
      rw [rngL_ge (by simp)]
      rw [frn_nil]
      simp [partsL]⟩
  | s :: ss, dn, left, acc, z, y, hd, ha => by
    obtain ⟨s0, s1⟩ := hpos s (by rw [hd]; simp)
    have hgo : (dn.length : Int) < ((dn.length + (s :: ss).length : Nat) : Int) := by simp only [List.length_cons]; omega
    rw [rngL_lt hgo]
    have hix : ∀ M1 : List O, ixT st (.int (dn.length : Nat)) (M ++ M1) = some (.int s) := fun M1 => by
      have hs' : sof (M ++ M1) st = some (sizes.map T.int) := by
        cases st with
        | obj i => simp [pureT] at hst
        | _ => exact hs
      have hd0 : dof (M ++ M1) st = none := by
        cases st with
        | obj i => simp [pureT] at hst
        | fd tk ks ts => simp [sof, lofS, lof] at hs
        | _ => rfl
      have hi : (sizes.map T.int)[dn.length]? = some (.int s) := by rw [hd]; simp
      have hx : (sof (M ++ M1) st).bind (fun ts => atI ts ((dn.length : Nat) : Int)) = some (.int s) := by
        rw [hs']
        show atI _ _ = _
        rw [atI_n, hi]
      unfold ixT
      rw [hd0]
      cases st with
      | str z => simp [sof, lofS, lof] at hs
      | _ => exact hx
    have hN : (dn.length : Int) + 1 = ((dn ++ [s]).length : Nat) := by simp
    have hM : ((dn.length + (s :: ss).length : Nat) : Int) = (((dn ++ [s]).length + ss.length : Nat) : Int) := by simp only [List.length_cons, List.length_append, List.length_nil]; omega
    have hal : acc.length < 16777216 := by
      have : dn.length ≤ 1000 := by rw [hd] at hlen; simp at hlen; omega
      omega
    have dvs : divOk s := Sm.divOk (by omega) s1 (by decide)
    have hk : Sm 16 (dn.length : Nat) := by
      have : dn.length ≤ 1000 := by rw [hd] at hlen; simp at hlen; omega
      unfold Sm; simp only [Int.natAbs_natCast]; omega
    by_cases h0 : 0 ≤ left
    · obtain ⟨l', z', y', ih⟩ := parts_loop hs hst hcell hpos hlen (gd := gd) ss (dn ++ [s]) (left.fdiv s) (acc ++ [left.fmod s]) (some (.int (dn.length : Nat))) y (by rw [hd]; simp) (by simp [ha])
      refine ⟨l', z', y', ?_⟩
      rw [frn_nx [some (.int cell), some st, some (.obj M.length), some (.int (left.fdiv s)), some (.int (dn.length : Nat)), y] (M ++ [.lst ((acc ++ [left.fmod s]).map T.int)]) (by simp)
        (by simp [h0, lof, biT, bmT, hix, bin_mod (show s ≠ 0 by omega), bin_div dvs, hal]), hN, hM, ih]
      congr 4
      rw [partsL, if_pos h0]
      simp
    · have hm0 : (0:Int) ≤ Int.fmod (cell * 48271 + (dn.length : Int) * 69621 + 11) 2147483647 ∧ Int.fmod (cell * 48271 + (dn.length : Int) * 69621 + 11) 2147483647 < 2147483647 := by
        rw [Int.fmod_eq_emod_of_nonneg _ (by decide)]; exact ⟨Int.emod_nonneg _ (by decide), Int.emod_lt_of_pos _ (by decide)⟩
      have m1 : Sm 31 (Int.fmod (cell * 48271 + (dn.length : Int) * 69621 + 11) 2147483647) := by unfold Sm; omega
      obtain ⟨l', z', y', ih⟩ := parts_loop hs hst hcell hpos hlen (gd := gd) ss (dn ++ [s]) left (acc ++ [(mixP cell dn.length).fmod s]) (some (.int (dn.length : Nat))) (some (.int (Int.fmod (Int.fmod (cell * 48271 + (dn.length : Int) * 69621 + 11) 2147483647 * Int.fmod (cell * 48271 + (dn.length : Int) * 69621 + 11) 2147483647 + 16807 * (dn.length : Int) + 5) 998244353))) (by rw [hd]; simp) (by simp [ha])
      refine ⟨l', z', y', ?_⟩
      have d7 : divOk 7 := by decide
      rw [frn_nx [some (.int cell), some st, some (.obj M.length), some (.int left), some (.int (dn.length : Nat)), some (.int (Int.fmod (Int.fmod (cell * 48271 + (dn.length : Int) * 69621 + 11) 2147483647 * Int.fmod (cell * 48271 + (dn.length : Int) * 69621 + 11) 2147483647 + 16807 * (dn.length : Int) + 5) 998244353))] (M ++ [.lst ((acc ++ [(mixP cell dn.length).fmod s]).map T.int)]) (by simp)
        (by simp [h0, lof, biT, bmT, hix, bin_mod (show s ≠ 0 by omega), bin_mod (show (2147483647 : Int) ≠ 0 by decide), bin_mod (show (998244353 : Int) ≠ 0 by decide), bin_div d7, bin_mul (mixOk hcell), bin_mul (hk.mulOk (k := 17) (y := 69621) (by decide) (by decide)), bin_mul (m1.mulOk m1 (by decide)), bin_mul (Sm.mulOk (x := 16807) (j := 15) (by decide) hk (by decide)), hal, mixP]), hN, hM, ih]
      congr 4
      rw [partsL, if_neg h0]
      simp
end Mi
end L2

/-! The script's parts, the law's small defs. -/
namespace L2
namespace Mi
open PySem PySem.Spec PyProof.Rows
variable {G : Sig}
theorem pow_10_18 (M : Mem) : binT .Pow false (.int 10) (.int 18) M = some (.int 1000000000000000000, M) := by
  have hp : powOk 10 18 := by unfold powOk; decide
  show (if powOk 10 18 then some (T.int ((10 : Int) ^ (18 : Int).toNat), M) else none) = _
  rw [if_pos hp]
  rfl
def IsParts (F : Fn) : Prop := ∀ (cell : Int) (st : T) (sizes : List Int) (M : Mem), sof M st = some (sizes.map T.int) → pureT st = true → Sm 2000000 cell → (∀ s ∈ sizes, 0 < s ∧ Sm 8000 s) → sizes.length ≤ 1000 → F [.int cell, st] M = some (ilT (parts cell sizes), M)
theorem sp_parts : IsParts (runD G Lib._law_parts) := by
  intro cell st sizes M hs hst hc hp hl
  obtain ⟨l', z', y', e⟩ := parts_loop (G := G) (gd := []) hs hst hc hp hl sizes [] (cell - 1000000000000000000) [] none none rfl rfl
  have hfin : fin true M (.obj M.length) (M ++ [.lst ((parts cell sizes).map T.int)]) = (ilT (parts cell sizes), M) := fin_obj M _ _ _ (Nat.le_refl _) (by simp) (pureTs_ints _)
  have hsof : sof (M ++ [O.lst []]) st = some (sizes.map T.int) := by
    cases st with
    | obj i => simp [pureT] at hst
    | _ => exact hs
  have hdof : dof (M ++ [O.lst []]) st = none := by
    cases st with
    | obj i => simp [pureT] at hst
    | fd tk ks ts => simp [sof, lofS, lof] at hs
    | _ => rfl
  have hro : rngOk 0 (sizes.length : Nat) := by unfold rngOk; omega
  have hb : exSs G Lib._law_parts.body (startE Lib._law_parts.N [.int cell, st]) M = some (.rt (.obj M.length) (M ++ [.lst ((parts cell sizes).map T.int)])) := by
    have hpow : binT .Pow false (.int 10) (.int 18) (M ++ [O.lst []]) = some (.int 1000000000000000000, M ++ [O.lst []]) := pow_10_18 _
    simp only [List.length_nil, Nat.zero_add, List.nil_append, List.map_nil] at e
    rw [show (((0 : Nat) : Int)) = 0 from rfl, show partsL cell (cell - 1000000000000000000) 0 sizes = parts cell sizes from rfl] at e
    have hbl := bi_len hdof hsof
    rw [List.length_map] at hbl
    have hrg := rg1_of hro
    simp [Lib._law_parts, startE, hpow, hbl, hrg, e]
  rw [run_rt rfl hb]
  exact congrArg some hfin
end Mi
end L2

/-! Equality of numbers and lists; the rest of k01's defs. -/
namespace L2
namespace Mi
open PySem PySem.Spec PyProof.Rows
variable {G : Sig}
theorem eqTs_ints : ∀ (a b : List Int), eqTs (a.map T.int) (b.map T.int) = decide (a = b)
  | [], [] => by simp [eqTs]
  | [], _ :: _ => by simp [eqTs]
  | _ :: _, [] => by simp [eqTs]
  | x :: a, y :: b => by
    simp only [List.map_cons, eqTs, eqT, eqTs_ints a b, List.cons.injEq, Bool.decide_and]
    rfl
theorem depTs_ints : ∀ a : List Int, depTs (a.map T.int) = 0
  | [] => rfl
  | x :: a => by simp [depTs, depT, depTs_ints a]
theorem eqv_il (a b : List Int) (M : Mem) : eqv? M (ilT a) (ilT b) = some (decide (a = b)) := by
  have h1 : ∀ a : List Int, sealT M 0 6 (scL (ilT a)) = some (ilT a) := fun a => seal_pure (pureT_il a)
  have h2 : ∀ a : List Int, okT (ilT a) = true := fun a => by simp only [ilT, okT]; exact okTs_ints a
  have h3 : ∀ a : List Int, depT (ilT a) ≤ 60 := fun a => by simp [ilT, depT, depTs_ints]
  unfold eqv?
  rw [h1, h1]
  simp only [Option.bind_some]
  rw [if_pos ⟨h2 a, h2 b, h3 a, h3 b⟩]
  simp only [ilT, eqT, eqTs_ints]
theorem eqv_num (p q : Q2) (M : Mem) : eqv? M (numT p) (numT q) = some (decide (p = q)) := by
  have e : eqT (numT p) (numT q) = decide (p = q) := by
    have := eqTs_ints [p.1, p.2] [q.1, q.2]
    simp only [List.map_cons, List.map_nil] at this
    show eqTs [T.int p.1, T.int p.2] [T.int q.1, T.int q.2] = _
    rw [this]
    obtain ⟨a, b⟩ := p
    obtain ⟨c, d⟩ := q
    simp
  unfold eqv?
  simp [scL, numT, sealT, pureT, pureTs, okT, okTs, depT, depTs]
  exact e
theorem cmpeq_of {x y : T} {M : Mem} {b : Bool} (h : eqv? M x y = some b) : cmpT .Eq x y M = some b := by unfold cmpT; exact h
theorem cmpne_of {x y : T} {M : Mem} {b : Bool} (h : eqv? M x y = some b) : cmpT .NotEq x y M = some (!b) := by
  have : cmpT .NotEq x y M = (eqv? M x y).map not := by unfold cmpT; rfl
  rw [this, h]; rfl
theorem sp_is_integer (i : Int) (M : Mem) : runD G Lib._law_is_integer [.int i] M = some (.bl true, M) := by
  refine run_pure (M1 := []) rfl rfl rfl ?_
  rw [List.append_nil]
  simp [Lib._law_is_integer, startE, isiT]
def IsSame (F : Fn) : Prop := ∀ (p q : Q2) (M : Mem), F [numT p, numT q] M = some (.bl (decide (p = q)), M)
theorem sp_is_same (h : Knows G "_law_is_integer" fun F => ∀ (i : Int) (M : Mem), F [.int i] M = some (.bl true, M)) : IsSame (runD G Lib._law_is_same) := by
  intro p q M
  obtain ⟨F, hl, hF⟩ := h
  refine run_pure (M1 := []) rfl rfl rfl ?_
  rw [List.append_nil]
  have e := cmpeq_of (eqv_num p q M)
  have i0 : ∀ i : Int, ixT (numT p) (.int i) M = atI [T.int p.1, T.int p.2] i := fun i => ix_tup _ _ _
  have l0 : biT .len [numT p] M = some (.int 2, M) := rfl
  have s0 : isiT M "tuple" (numT p) = some true := rfl
  simp [Lib._law_is_same, startE, e, i0, l0, s0, hl, hF]
/-! ### scaling -/
theorem nrm_scale {c n d : Int} (hc : c ≠ 0) (hd : d ≠ 0) : nrm (c * n) (c * d) = nrm n d := by
  have g0 := gcd_pos (n := n) hd
  have e : (Int.gcd (c * n) (c * d) : Int) = (c.natAbs : Int) * (Int.gcd n d : Nat) := by rw [Int.gcd_mul_left]; push_cast; rfl
  have key : ∀ x : Int, ((Int.gcd n d : Nat) : Int) ∣ x → (c * x) / ((c.natAbs : Int) * (Int.gcd n d : Nat)) = (if c < 0 then -x else x) / (Int.gcd n d : Nat) := fun x ⟨q, hq⟩ => by
    have hgne : ((Int.gcd n d : Nat) : Int) ≠ 0 := by omega
    have hcne : ((c.natAbs : Nat) : Int) ≠ 0 := by omega
    by_cases h : c < 0
    · rw [if_pos h]
      apply Int.ediv_eq_of_eq_mul_right (Int.mul_ne_zero hcne hgne)
      have : (-x) / ((Int.gcd n d : Nat) : Int) = -q := Int.ediv_eq_of_eq_mul_right hgne (by rw [hq, Int.mul_neg])
      rw [this, hq, show ((c.natAbs : Nat) : Int) = -c by omega, Int.neg_mul, Int.neg_mul_neg, Int.mul_assoc]
    · rw [if_neg h]
      apply Int.ediv_eq_of_eq_mul_right (Int.mul_ne_zero hcne hgne)
      have : x / ((Int.gcd n d : Nat) : Int) = q := Int.ediv_eq_of_eq_mul_right hgne hq
      rw [this, hq, show ((c.natAbs : Nat) : Int) = c by omega, Int.mul_assoc]
  have dn : ((Int.gcd n d : Nat) : Int) ∣ n := Int.gcd_dvd_left ..
  have dd : ((Int.gcd n d : Nat) : Int) ∣ d := Int.gcd_dvd_right ..
  have neg : ∀ x : Int, -(c * x) = c * -x := fun x => by rw [Int.mul_neg]
  unfold nrm
  rw [e]
  by_cases hcn : c < 0
  · by_cases hdn : d < 0
    · have hp : ¬ c * d < 0 := by
        have := Int.mul_pos_of_neg_of_neg hcn hdn; omega
      rw [if_neg hp, if_pos hdn, key n dn, key d dd, if_pos hcn, if_pos hcn]
    · have hp : c * d < 0 := Int.mul_neg_of_neg_of_pos hcn (by omega)
      rw [if_pos hp, if_neg hdn, neg, neg, key _ (Int.dvd_neg.mpr dn), key _ (Int.dvd_neg.mpr dd), if_pos hcn, if_pos hcn, Int.neg_neg, Int.neg_neg]
  · by_cases hdn : d < 0
    · have hp : c * d < 0 := Int.mul_neg_of_pos_of_neg (by omega) hdn
      rw [if_pos hp, if_pos hdn, neg, neg, key _ (Int.dvd_neg.mpr dn), key _ (Int.dvd_neg.mpr dd), if_neg hcn, if_neg hcn]
    · have hp : ¬ c * d < 0 := by
        have := Int.mul_pos (a := c) (b := d) (by omega) (by omega); omega
      rw [if_neg hp, if_neg hdn, key n dn, key d dd, if_neg hcn, if_neg hcn]
/-- nrm's own shape: a common factor taken out -/
theorem nrm_eq {n d : Int} (hd : d ≠ 0) : ∃ c : Int, c ≠ 0 ∧ n = c * (nrm n d).1 ∧ d = c * (nrm n d).2 ∧ 0 < (nrm n d).2 := by
  have g0 := gcd_pos (n := n) hd
  obtain ⟨a, ha⟩ : ((Int.gcd n d : Nat) : Int) ∣ n := Int.gcd_dvd_left ..
  obtain ⟨b, hb⟩ : ((Int.gcd n d : Nat) : Int) ∣ d := Int.gcd_dvd_right ..
  have hg : ((Int.gcd n d : Nat) : Int) ≠ 0 := by omega
  unfold nrm
  by_cases hdn : d < 0
  · rw [if_pos hdn]
    have e1 : -n / ((Int.gcd n d : Nat) : Int) = -a := Int.ediv_eq_of_eq_mul_right hg (by rw [Int.mul_neg, ← ha])
    have e2 : -d / ((Int.gcd n d : Nat) : Int) = -b := Int.ediv_eq_of_eq_mul_right hg (by rw [Int.mul_neg, ← hb])
    refine ⟨-((Int.gcd n d : Nat) : Int), by omega, ?_, ?_, ?_⟩
    · show n = _ * (-n / _); rw [e1, Int.neg_mul_neg]; exact ha
    · show d = _ * (-d / _); rw [e2, Int.neg_mul_neg]; exact hb
    · show 0 < -d / _; rw [e2]
      have : b < 0 := by
        rcases Int.lt_trichotomy b 0 with h | h | h
        · exact h
        · subst h; simp at hb; omega
        · have := Int.mul_pos (a := ((Int.gcd n d : Nat) : Int)) (b := b) (by omega) h; omega
      omega
  · rw [if_neg hdn]
    have e1 : n / ((Int.gcd n d : Nat) : Int) = a := Int.ediv_eq_of_eq_mul_right hg ha
    have e2 : d / ((Int.gcd n d : Nat) : Int) = b := Int.ediv_eq_of_eq_mul_right hg hb
    refine ⟨((Int.gcd n d : Nat) : Int), by omega, ?_, ?_, ?_⟩
    · show n = _ * (n / _); rw [e1]; exact ha
    · show d = _ * (d / _); rw [e2]; exact hb
    · show 0 < d / _; rw [e2]
      rcases Int.lt_trichotomy b 0 with h | h | h
      · have := Int.mul_neg_of_pos_of_neg (a := ((Int.gcd n d : Nat) : Int)) (b := b) (by omega) h; omega
      · subst h; simp at hb; omega
      · exact h
theorem nrm_sm {k : Nat} {n d : Int} (hd : d ≠ 0) (h1 : Sm k n) (h2 : Sm k d) : SmQ k (nrm n d) := by
  obtain ⟨c, hc, e1, e2, _⟩ := nrm_eq (n := n) hd
  have key : ∀ x y : Int, x = c * y → y.natAbs ≤ x.natAbs := fun x y e => by
    rw [e, Int.natAbs_mul]
    exact Nat.le_mul_of_pos_left _ (by omega)
  exact ⟨h1.le (key _ _ e1), h2.le (key _ _ e2)⟩
theorem nrm_pos {n d : Int} (hd : d ≠ 0) : 0 < (nrm n d).2 := (nrm_eq hd).choose_spec.2.2.2
theorem addQ_neg (a b : Q2) : subQ a b = addQ a (-b.1, b.2) := by
  unfold subQ addQ
  simp only
  rw [Int.neg_mul, ← Int.sub_eq_add_neg]
theorem divQ_mul {a b : Q2} (ha : a.2 ≠ 0) (hb : b.1 ≠ 0) : divQ a b = mulQ a (nrm b.2 b.1) := by
  obtain ⟨c, hc, e1, e2, hp⟩ := nrm_eq (n := b.2) hb
  unfold divQ mulQ
  have k1 : a.1 * b.2 = c * (a.1 * (nrm b.2 b.1).1) := by
    calc a.1 * b.2 = a.1 * (c * (nrm b.2 b.1).1) := by rw [← e1]
      _ = _ := by rw [← Int.mul_assoc, Int.mul_comm a.1 c, Int.mul_assoc]
  have k2 : a.2 * b.1 = c * (a.2 * (nrm b.2 b.1).2) := by
    calc a.2 * b.1 = a.2 * (c * (nrm b.2 b.1).2) := by rw [← e2]
      _ = _ := by rw [← Int.mul_assoc, Int.mul_comm a.2 c, Int.mul_assoc]
  rw [k1, k2]
  exact nrm_scale hc (Int.mul_ne_zero ha (by omega))
theorem ltQ_irr (a : Q2) : ltQ a a = false := by unfold ltQ; simp
end Mi
end L2

/-! k01 holds. -/
namespace K01
open PySem PySem.Spec PyProof.Rows L2 L2.Mi
variable {G : Sig}
theorem pow_10_30 (M : Mem) : binT .Pow false (.int 10) (.int 30) M = some (.int 1000000000000000000000000000000, M) := by
  have hp : powOk 10 30 := by unfold powOk; decide
  show (if powOk 10 30 then some (T.int ((10 : Int) ^ (30 : Int).toNat), M) else none) = _
  rw [if_pos hp]
  rfl
theorem sp_pair (ps : List Int) (a : Nat) (s0 n0 d0 m0 t0 : Int) (M : Mem) (h0 : ps[a]? = some s0) (h1 : ps[a + 1]? = some n0) (h2 : ps[a + 2]? = some d0) (h3 : ps[a + 3]? = some m0) (h4 : ps[a + 4]? = some t0)
    (b0 : 0 ≤ s0 ∧ s0 < 3) (b3 : 0 ≤ m0 ∧ m0 < 12) (b4 : 0 ≤ t0 ∧ t0 < 2) : ∃ p : Q2, p.2 ≠ 0 ∧ SmQ 220 p ∧ runD G Lib._law_pair [ilT ps, .int a] M = some (numT p, M) := by
  have i0 : atI (ps.map T.int) (a : Int) = some (.int s0) := by rw [atI_n, List.getElem?_map, h0]; rfl
  have i1 : atI (ps.map T.int) ((a : Int) + 1) = some (.int n0) := by rw [show (a : Int) + 1 = ((a + 1 : Nat) : Int) by omega, atI_n, List.getElem?_map, h1]; rfl
  have i2 : atI (ps.map T.int) ((a : Int) + 2) = some (.int d0) := by rw [show (a : Int) + 2 = ((a + 2 : Nat) : Int) by omega, atI_n, List.getElem?_map, h2]; rfl
  have i3 : atI (ps.map T.int) ((a : Int) + 3) = some (.int m0) := by rw [show (a : Int) + 3 = ((a + 3 : Nat) : Int) by omega, atI_n, List.getElem?_map, h3]; rfl
  have i4 : atI (ps.map T.int) ((a : Int) + 4) = some (.int t0) := by rw [show (a : Int) + 4 = ((a + 4 : Nat) : Int) by omega, atI_n, List.getElem?_map, h4]; rfl
  obtain ⟨z, hz, z0, z1⟩ : ∃ z : Int, atI [T.int 7, T.int 40, T.int 1000000000000000000000000000000] s0 = some (.int z) ∧ 0 < z ∧ z ≤ 1000000000000000000000000000000 := by
    have : s0 = 0 ∨ s0 = 1 ∨ s0 = 2 := by omega
    rcases this with rfl | rfl | rfl
    · exact ⟨7, by simp, by decide, by decide⟩
    · exact ⟨40, by simp, by decide, by decide⟩
    · exact ⟨1000000000000000000000000000000, by simp, by decide, by decide⟩
  obtain ⟨w, hw, w0⟩ : ∃ w : Int, atI [T.int 1, T.int (-1)] t0 = some (.int w) ∧ (w = 1 ∨ w = -1) := by
    have : t0 = 0 ∨ t0 = 1 := by omega
    rcases this with rfl | rfl
    · exact ⟨1, by simp, .inl rfl⟩
    · exact ⟨-1, by simp, .inr rfl⟩
  have zn : z ≠ 0 := by omega
  have r1 : 0 ≤ n0.fmod z ∧ n0.fmod z < z := by rw [Int.fmod_eq_emod_of_nonneg _ (by omega)]; exact ⟨Int.emod_nonneg _ zn, Int.emod_lt_of_pos _ z0⟩
  have r2 : 0 ≤ d0.fmod z ∧ d0.fmod z < z := by rw [Int.fmod_eq_emod_of_nonneg _ (by omega)]; exact ⟨Int.emod_nonneg _ zn, Int.emod_lt_of_pos _ z0⟩
  have r3 : 0 ≤ z.fdiv 2 ∧ z.fdiv 2 ≤ z := by rw [Int.fdiv_eq_ediv_of_nonneg _ (by decide)]; omega
  have c100 : (1000000000000000000000000000000 : Int) < 2 ^ 100 := by decide
  have s1 : Sm 100 (n0.fmod z - z.fdiv 2) := by unfold Sm; omega
  have s2 : Sm 101 (1 + d0.fmod z) := by unfold Sm; have : (2:Nat) ^ 101 = 2 * 2 ^ 100 := by decide
                                         omega
  have s3 : Sm 4 (1 + m0) := by unfold Sm; omega
  have s4 : Sm 1 w := by unfold Sm; omega
  have d2 : divOk 2 := by decide
  refine ⟨((n0.fmod z - z.fdiv 2) * (1 + m0), (1 + d0.fmod z) * (1 + m0) * w), ?_, ⟨(s1.mul s3).mono (by decide), ((s2.mul s3).mul s4).mono (by decide)⟩, ?_⟩
  · exact Int.mul_ne_zero (Int.mul_ne_zero (by omega) (by omega)) (by omega)
  · refine run_pure (M1 := []) rfl rfl rfl ?_
    rw [List.append_nil]
    have ixl : ∀ i : Int, ixT (ilT ps) (.int i) M = atI (ps.map T.int) i := fun i => ix_fl _ _ _
    simp [Lib._law_pair, startE, pow_10_30, ixl, i0, i1, i2, i3, i4, hz, hw, bin_mod zn, bin_div d2, bin_mul (s1.mulOk s3 (by decide)), bin_mul (s2.mulOk s3 (by decide)), bin_mul ((s2.mul s3).mulOk s4 (by decide)), numT]
/-! ### the lists -/
theorem lawdivs_loop {t : T} {M : Mem} (h : Knows G "_law_divisor" IsGcdB) {a0 b0 c0 d0 e0 f0 g0 h0 : Option T} : ∀ (ns : List Int) (g : Nat) (z : Option T), (∀ x ∈ ns, Sm 1900 x) → ∃ z', fr G (.nm 3 "_law_part") [
    .set 2 "_law_divisor_here" (.call "_law_divisor" (.cons (.var 2 "_law_divisor_here") (.cons (.var 3 "_law_part") .nil)))] [] (ns.map T.int) [a0, b0, some (.int g), z, c0, d0, e0, f0, g0, h0] M = some (.nx [a0, b0, some (.int (gcdF g ns : Nat)), z', c0, d0, e0, f0, g0, h0] M)
  | [], g, z, _ => ⟨z, by rw [List.map_nil, frn_nil]; rfl⟩
  | x :: ns, g, z, hs => by
    obtain ⟨F, hl, hF⟩ := h
    have e := hF g x M (hs x List.mem_cons_self)
    obtain ⟨z', ih⟩ := lawdivs_loop ⟨F, hl, hF⟩ ns (Int.gcd g x) (some (.int x)) (fun y hy => hs y (List.mem_cons_of_mem _ hy)) (t := t)
    refine ⟨z', ?_⟩
    rw [List.map_cons, frn_nx [a0, b0, some (.int (Int.gcd g x : Nat)), some (.int x), c0, d0, e0, f0, g0, h0] M (by simp) (by simp [hl, e]), ih]
    rfl
theorem lawlcm_loop {M : Mem} (h : Knows G "_law_divisor" IsGcdB) {a0 b0 c0 d0 e0 f0 g0 h0 : Option T} : ∀ (ps : List Q2) (c : Int) (z : Option T), LcmOk c ps → (∀ p ∈ ps, Sm 1900 p.2) → ∃ z', fr G (.nm 3 "_law_part") [
    .set 7 "_law_common" (.bin .Mult false (.bin .FloorDiv false (.var 7 "_law_common") (.call "_law_divisor" (.cons (.var 7 "_law_common") (.cons (.ix (.var 3 "_law_part") (.int 1)) .nil)))) (.ix (.var 3 "_law_part") (.int 1)))] [] (ps.map numT) [a0, b0, c0, z, d0, e0, f0, some (.int c), g0, h0] M = some (.nx [a0, b0, c0, z', d0, e0, f0, some (.int (lcmF c ps)), g0, h0] M)
  | [], c, z, _, _ => ⟨z, by rw [List.map_nil, frn_nil]; rfl⟩
  | p :: ps, c, z, ok, hs => by
    obtain ⟨F, hl, hF⟩ := h
    obtain ⟨c0', cs, p0, psm, ok⟩ := ok
    have e := hF c p.2 M (hs p List.mem_cons_self)
    have dv : divOk (Int.gcd c p.2 : Nat) := Sm.divOk (by have := gcd_pos (n := c) (d := p.2) (by omega); omega) (gcd_sm (by omega) psm) (by decide)
    have mo : mulOk (c / (Int.gcd c p.2 : Nat)) p.2 := Sm.mulOk (cs.le (Int.natAbs_ediv_le_natAbs ..)) psm (by decide)
    obtain ⟨z', ih⟩ := lawlcm_loop ⟨F, hl, hF⟩ ps _ (some (numT p)) ok (fun y hy => hs y (List.mem_cons_of_mem _ hy))
    refine ⟨z', ?_⟩
    rw [List.map_cons, frn_nx [a0, b0, c0, some (numT p), d0, e0, f0, some (.int (c / (Int.gcd c p.2 : Nat) * p.2)), g0, h0] M (by simp) (by simp [numT, hl, e, bin_div dv, fdiv_nat, bin_mul mo]), ih]
    rfl
theorem max_one (g : Nat) (ns : List Int) (h : g = gcdL ns) : ns.map (fun x => x.fdiv (if (g : Int) > 1 then (g : Int) else 1)) = lowL ns := by
  subst h
  by_cases h2 : gcdL ns < 2
  · rw [ediv_low h2, if_neg (by omega)]
    conv => rhs; rw [← List.map_id ns]
    apply List.map_congr_left
    intro x _
    simp
  · rw [if_pos (by omega)]
    unfold lowL
    apply List.map_congr_left
    intro x _
    exact fdiv_nat x _
theorem rngL_0 (n : Nat) : rngL 0 (n : Int) = (List.range n).map fun i : Nat => T.int (i : Int) := by
  unfold rngL
  rw [show ((n : Int) - 0).toNat = n by omega]
  apply List.map_congr_left
  intro i _
  rw [Int.zero_add]
theorem bi_max2 (i j : Int) (M : Mem) : biT .max [.int i, .int j] M = some (.int (if j > i then j else i), M) := rfl
theorem bi_int (i : Int) (M : Mem) : biT .int [.int i] M = some (.int i, M) := rfl
theorem bi_intb (b : Bool) (M : Mem) : biT .int [.bl b] M = some (.int (if b then 1 else 0), M) := rfl
theorem bi_list (ts : List T) (M : Mem) : biT (.list false) [.fl ts] M = some (.fl ts, M) := rfl
theorem isi_list (ts : List T) (M : Mem) : isiT M "list" (.fl ts) = some true := rfl
theorem raised_map (qs : List Q2) : (raised qs).map T.int = qs.map fun p => T.int (p.1 * (lcmL qs / p.2)) := by unfold raised; rw [List.map_map]; rfl
theorem il_fold (l : List Int) : T.fl (l.map T.int) = ilT l := rfl
theorem sof_il (M : Mem) (l : List Int) : sof M (ilT l) = some (l.map T.int) := rfl
theorem grd_il (l : List Int) (ts : List T) : grdOf (ilT l) ts = [] := rfl
theorem bi_list_il (l : List Int) (M : Mem) : biT (.list false) [ilT l] M = some (ilT l, M) := rfl
theorem isi_il (l : List Int) (M : Mem) : isiT M "list" (ilT l) = some true := rfl
theorem sp_lists (hd : Knows G "_law_divisor" IsGcdB) (hn : Knows G "_law_number" IsNumberB) (hlo : Knows G "lowest" IsLowest) (hbr : Knows G "brought" IsBrought) (ps : List Int) (M : Mem) (hlen : ps.length = 11)
    (h8 : 0 ≤ prt ps 8 ∧ prt ps 8 < 9) (h9 : 0 ≤ prt ps 9 ∧ prt ps 9 < 12) (hs : ∀ i, i < 8 → 0 ≤ prt ps i ∧ prt ps i < 61) : runD G Lib._law_right_lists [ilT ps] M = some (.bl true, M) := by
  obtain ⟨Fd, hld, hFd⟩ := hd
  obtain ⟨Fn, hln, hFn⟩ := hn
  obtain ⟨Fl, hll, hFl⟩ := hlo
  obtain ⟨Fb, hlb, hFb⟩ := hbr
  have ixl : ∀ (i : Int), ixT (ilT ps) (.int i) M = atI (ps.map T.int) i := fun i => ix_fl _ _ _
  have pat : ∀ i : Nat, i < 11 → atI (ps.map T.int) (i : Int) = some (.int (prt ps i)) := fun i hi => by
    rw [atI_n, List.getElem?_map]
    have : ps[i]? = some (prt ps i) := by
      unfold prt
      rw [List.getD_eq_getElem?_getD, List.getElem?_eq_getElem (by omega)]; rfl
    rw [this]; rfl
  obtain ⟨n, hn8⟩ : ∃ n : Nat, prt ps 8 = n := ⟨(prt ps 8).toNat, by omega⟩
  have hn9 : n < 9 := by omega
  have p8 : atI (ps.map T.int) 8 = some (.int (n : Int)) := hn8 ▸ pat 8 (by decide)
  have p9 : atI (ps.map T.int) 9 = some (.int (prt ps 9)) := pat 9 (by decide)
  have p10 : atI (ps.map T.int) 10 = some (.int (prt ps 10)) := pat 10 (by decide)
  have hro : rg1 (.int (n : Int)) = some ((List.range n).map fun i : Nat => T.int (i : Int), []) := by
    rw [rg1_of (by unfold rngOk; omega), rngL_0]
  -- the integers
  obtain ⟨w, hw, w0⟩ : ∃ w : Int, atI [T.int 1, T.int 0] (if prt ps 10 = 0 then 1 else 0) = some (.int w) ∧ Sm 1 w := by
    by_cases h : prt ps 10 = 0
    · exact ⟨0, by simp [h], by decide⟩
    · exact ⟨1, by simp [h], by decide⟩
  let ns0 : List Int := (List.range n).map fun i => prt ps i - 30
  let ns : List Int := ns0.map fun x => x * (1 + prt ps 9) * w
  have s0 : ∀ x ∈ ns0, Sm 7 x := fun x hx => by
    obtain ⟨i, hi, rfl⟩ := List.mem_map.mp hx
    have := hs i (by have := List.mem_range.mp hi; omega)
    unfold Sm; omega
  have s9 : Sm 5 (1 + prt ps 9) := by unfold Sm; omega
  have sns : ∀ x ∈ ns, Sm 20 x := fun x hx => by
    obtain ⟨y, hy, rfl⟩ := List.mem_map.mp hx
    exact (((s0 y hy).mul s9).mul w0).mono (by decide)
  have lns0 : ns0.length = n := by simp [ns0]
  have lns : ns.length = n := by simp [ns, lns0]
  have lc0 : ∀ σ : En, σ[0]? = some (some (ilT ps)) → σ.length = 10 → lcr G (.nm 9 "_law_k") .nil (.bin .Sub false (.ix (.var 0 "_law_parts_here") (.var 9 "_law_k")) (.int 30)) σ [] ((List.range n).map fun i : Nat => T.int (i : Int)) M = some (ns0.map T.int, M) := fun σ h0 hl => by
    rw [lcr_of (fun i : Nat => T.int (i : Int)) (fun i => .int (prt ps i - 30)) (by simp) (fun i hi => ?_)]
    · simp [ns0, Function.comp_def]
    · have h9' : (σ.set 9 (some (T.int (i : Int))))[9]? = some (some (T.int (i : Int))) := by rw [List.getElem?_set_self (by omega)]
      have h0' : (σ.set 9 (some (T.int (i : Int))))[0]? = some (some (ilT ps)) := by rw [List.getElem?_set_ne (by decide)]; exact h0
      have := pat i (by have := List.mem_range.mp hi; omega)
      simp [stepL, h0', h9', ixl, this]
  have lc1 : ∀ (σ : En), σ[0]? = some (some (ilT ps)) → σ.length = 10 → lcr G (.nm 3 "_law_part") .nil (.bin .Mult false (.bin .Mult false (.var 3 "_law_part") (.bin .Add false (.int 1) (.ix (.var 0 "_law_parts_here") (.int 9)))) (.ix (.lst false (.cons (.int 1) (.cons (.int 0) .nil))) (.bi .int (.cons (.cmp .Eq (.ix (.var 0 "_law_parts_here") (.int 10)) (.int 0)) .nil)))) σ [] (ns0.map T.int) M = some (ns.map T.int, M) := fun σ h0 hl => by
    rw [lcr_of T.int (fun x => .int (x * (1 + prt ps 9) * w)) (by simp) (fun x hx => ?_)]
    · simp [ns, Function.comp_def]
    · have h3' : (σ.set 3 (some (T.int x)))[3]? = some (some (T.int x)) := by rw [List.getElem?_set_self (by omega)]
      have h0' : (σ.set 3 (some (T.int x)))[0]? = some (some (ilT ps)) := by rw [List.getElem?_set_ne (by decide)]; exact h0
      simp only [stepL, asg_nm, Option.bind_some, if_nil, e_bin, e_var, h3', h0', id, Option.map_some, e_int, bin_add, e_ix, ixl, p9, bin_mul ((s0 x hx).mulOk s9 (by decide)), e_lst, es_cons, es_nil, mkL_f, e_bi, e_cmp, p10, cmp_eq, bi_intb, ix_fl]
      simp [ixl, p10, bi_intb, hw, bin_mul (((s0 x hx).mul s9).mulOk w0 (by decide))]
  have lc2 : ∀ (σ : En) (g : Nat) (xs : List Int), g = gcdL xs → (∀ x ∈ xs, Sm 1800 x) → σ[2]? = some (some (.int (g : Int))) → σ.length = 10 → lcr G (.nm 3 "_law_part") .nil (.bin .FloorDiv false (.var 3 "_law_part") (.bi .max (.cons (.int 1) (.cons (.var 2 "_law_divisor_here") .nil)))) σ [] (xs.map T.int) M = some ((lowL xs).map T.int, M) := fun σ g xs hg hsx h2 hl => by
    have hm : Sm 1900 (if (g : Int) > 1 then (g : Int) else 1) := by
      split
      · rw [hg]; exact (gcdL_sm hsx).mono (by decide)
      · decide
    have dv : divOk (if (g : Int) > 1 then (g : Int) else 1) := Sm.divOk (by split <;> omega) hm (by decide)
    rw [lcr_of T.int (fun x => .int (x.fdiv (if (g : Int) > 1 then (g : Int) else 1))) (by simp) (fun x hx => ?_)]
    · rw [← max_one g xs hg, List.map_map]; rfl
    · have h3' : (σ.set 3 (some (T.int x)))[3]? = some (some (T.int x)) := by rw [List.getElem?_set_self (by omega)]
      have h2' : (σ.set 3 (some (T.int x)))[2]? = some (some (.int (g : Int))) := by rw [List.getElem?_set_ne (by decide)]; exact h2
      simp only [stepL, asg_nm, Option.bind_some, if_nil, e_bin, e_var, h3', h2', id, Option.map_some, e_int, e_bi, es_cons, es_nil, bi_max2, bin_div dv, if_true]
  -- the numbers
  let m := n % 7
  let qs : List Q2 := (List.range m).map fun k => nrm (prt ps k - 30) (1 + (prt ps (k + 1)).fmod 9)
  have hm7 : m < 7 := Nat.mod_lt _ (by decide)
  have f9 : ∀ x : Int, 0 ≤ x.fmod 9 ∧ x.fmod 9 < 9 := fun x => by rw [Int.fmod_eq_emod_of_nonneg _ (by decide)]; exact ⟨Int.emod_nonneg _ (by decide), Int.emod_lt_of_pos _ (by decide)⟩
  have hr2 : rg1 (.int (Int.fmod (n : Int) 7)) = some ((List.range m).map fun i : Nat => T.int (i : Int), []) := by
    rw [show Int.fmod (n : Int) 7 = ((n % 7 : Nat) : Int) from fmod_nat n 7, rg1_of (by unfold rngOk; omega), rngL_0]
  have sq : ∀ p ∈ qs, 0 < p.2 ∧ SmQ 7 p := fun p hp => by
    obtain ⟨k, hk, rfl⟩ := List.mem_map.mp hp
    have hk' := List.mem_range.mp hk
    have a1 := hs k (by omega)
    have a2 := f9 (prt ps (k + 1))
    exact ⟨nrm_pos (by omega), nrm_sm (by omega) (by unfold Sm; omega) (by unfold Sm; omega)⟩
  have lq : qs.length = m := by simp [qs]
  have mm : 1 + 7 * qs.length ≤ 50 := by omega
  obtain ⟨ok, _, cs⟩ := LcmOk.of (a := 1) (b := 7) (ps := qs) (c := 1) (by decide) (by decide) (fun p hp => ⟨(sq p hp).1, (sq p hp).2.2⟩) (by decide) (by omega)
  have cs : Sm 50 (lcmL qs) := cs.mono mm
  have srs : ∀ x ∈ raised qs, Sm 60 x := fun x hx => by
    obtain ⟨p, hp, rfl⟩ := List.mem_map.mp hx
    exact ((sq p hp).2.1.mul (cs.le (Int.natAbs_ediv_le_natAbs ..))).mono (by decide)
  have lc3 : ∀ (σ : En), σ[0]? = some (some (ilT ps)) → σ.length = 10 → lcr G (.nm 9 "_law_k") .nil (.call "_law_number" (.cons (.bin .Sub false (.ix (.var 0 "_law_parts_here") (.var 9 "_law_k")) (.int 30)) (.cons (.bin .Add false (.int 1) (.bin .Mod false (.bi .int (.cons (.ix (.var 0 "_law_parts_here") (.bin .Add false (.var 9 "_law_k") (.int 1))) .nil)) (.int 9))) .nil))) σ [] ((List.range m).map fun i : Nat => T.int (i : Int)) M = some (qs.map numT, M) := fun σ h0 hl => by
    rw [lcr_of (fun i : Nat => T.int (i : Int)) (fun k => numT (nrm (prt ps k - 30) (1 + (prt ps (k + 1)).fmod 9))) (by simp) (fun i hi => ?_)]
    · simp [qs, Function.comp_def]
    · have hi' := List.mem_range.mp hi
      have h9' : (σ.set 9 (some (T.int (i : Int))))[9]? = some (some (T.int (i : Int))) := by rw [List.getElem?_set_self (by omega)]
      have h0' : (σ.set 9 (some (T.int (i : Int))))[0]? = some (some (ilT ps)) := by rw [List.getElem?_set_ne (by decide)]; exact h0
      have q1 := pat i (by omega)
      have q2 : atI (ps.map T.int) ((i : Int) + 1) = some (.int (prt ps (i + 1))) := pat (i + 1) (by omega)
      have a2 := f9 (prt ps (i + 1))
      have e := hFn (prt ps i - 30) (1 + (prt ps (i + 1)).fmod 9) M (by omega) (by unfold Sm; exact Nat.lt_of_lt_of_le (show _ < 2 ^ 4 by omega) (Nat.pow_le_pow_right (by decide) (by decide)))
      simp [stepL, h0', h9', ixl, q1, q2, bi_int, bin_mod (show (9 : Int) ≠ 0 by decide), hln, e]
  have lc4 : ∀ (σ : En), σ[7]? = some (some (.int (lcmL qs))) → σ.length = 10 → lcr G (.nm 3 "_law_part") .nil (.bin .Mult false (.ix (.var 3 "_law_part") (.int 0)) (.bin .FloorDiv false (.var 7 "_law_common") (.ix (.var 3 "_law_part") (.int 1)))) σ [] (qs.map numT) M = some ((raised qs).map T.int, M) := fun σ h7 hl => by
    rw [lcr_of numT (fun p => .int (p.1 * (lcmL qs / p.2))) (by simp) (fun p hp => ?_)]
    · rw [raised_map]
    · obtain ⟨q1, q2⟩ := sq p hp
      have h3' : (σ.set 3 (some (numT p)))[3]? = some (some (numT p)) := by rw [List.getElem?_set_self (by omega)]
      have h7' : (σ.set 3 (some (numT p)))[7]? = some (some (.int (lcmL qs))) := by rw [List.getElem?_set_ne (by decide)]; exact h7
      have dv : divOk p.2 := Sm.divOk (by omega) (q2.2.mono (k := 7) (by decide)) (by decide)
      have mo : mulOk p.1 (lcmL qs / p.2) := Sm.mulOk q2.1 (cs.le (Int.natAbs_ediv_le_natAbs ..)) (by decide)
      have ixn : ∀ i : Int, ixT (numT p) (.int i) M = atI [T.int p.1, T.int p.2] i := fun i => ix_tup _ _ _
      simp [stepL, h3', h7', ixn, bin_div dv, Int.fdiv_eq_ediv_of_nonneg _ (Int.le_of_lt q1), bin_mul mo]
  -- the run
  have hdv : Knows G "_law_divisor" IsGcdB := ⟨Fd, hld, hFd⟩
  obtain ⟨z1, e1⟩ := lawdivs_loop (G := G) (M := M) hdv (a0 := some (ilT ps)) (b0 := some (ilT ns)) (c0 := none) (d0 := none) (e0 := none) (f0 := none) (g0 := none) (h0 := none) (t := .non) ns 0 none (fun x hx => (sns x hx).mono (by decide))
  obtain ⟨z2, e2⟩ := lawlcm_loop (G := G) (M := M) hdv (a0 := some (ilT ps)) (b0 := some (ilT ns)) (c0 := some (.int (gcdL ns : Nat))) (d0 := some (ilT (lowL ns))) (e0 := some (ilT ns)) (f0 := some (.fl (qs.map numT))) (g0 := none) (h0 := none) qs 1 z1 ok (fun p hp => (sq p hp).2.2.mono (by decide))
  obtain ⟨z3, e3⟩ := lawdivs_loop (G := G) (M := M) hdv (a0 := some (ilT ps)) (b0 := some (ilT ns)) (c0 := some (ilT (lowL ns))) (d0 := some (ilT ns)) (e0 := some (.fl (qs.map numT))) (f0 := some (.int (lcmL qs))) (g0 := some (ilT (raised qs))) (h0 := none) (t := .non) (raised qs) 0 z2 (fun x hx => (srs x hx).mono (by decide))
  have lo1 := hFl (ilT ns) ns M rfl (by omega) (fun x hx => (sns x hx).mono (by decide))
  have br1 := hFb (.fl (qs.map numT)) qs M rfl ok (by omega) (fun p hp => (sq p hp).2.1.mono (by decide)) (fun x hx => (srs x hx).mono (by decide))
  have c1 := cmpne_of (eqv_il (lowL ns) (lowL ns) M)
  have c2 := cmpne_of (eqv_il ns ns M)
  have c3 := cmpeq_of (eqv_il (lowL (raised qs)) (lowL (raised qs)) M)
  have ll : (lowL ns).length = n := by simp [lowL, lns]
  have lr : (raised qs).length = m := by simp [raised, lq]
  refine run_pure (M1 := []) rfl rfl rfl ?_
  rw [List.append_nil]
  rw [show ((0 : Nat) : Int) = 0 from rfl] at e1 e3
  have l0 : ns0.length ≤ 16777216 := by omega
  have l1 : ns.length ≤ 16777216 := by omega
  have l2 : (lowL ns).length ≤ 16777216 := by omega
  have l3 : qs.length ≤ 16777216 := by omega
  have l4 : (raised qs).length ≤ 16777216 := by omega
  have l5 : (lowL (raised qs)).length ≤ 16777216 := by simp only [lowL, List.length_map]; omega
  generalize hL : lowL (raised qs) = lrq at *
  generalize hR : raised qs = rqs at *
  generalize hC : lcmL qs = cq at *
  generalize hN2 : lowL ns = lns2 at *
  clear_value qs ns ns0 m
  have f0 : lcmF 1 qs = cq := hC
  have g1 : gcdF 0 ns = gcdL ns := rfl
  have g3 : gcdF 0 rqs = gcdL rqs := rfl
  rw [g1] at e1
  rw [g3] at e3
  rw [f0] at e2
  have lc2a := fun σ => lc2 σ (gcdL ns) ns rfl (fun x hx => (sns x hx).mono (by decide))
  have lc2b := fun σ => lc2 σ (gcdL rqs) rqs rfl (fun x hx => (srs x hx).mono (by decide))
  rw [hN2] at lc2a
  rw [hL] at lc2b
  unfold Lib._law_right_lists
  simp only [startE, List.map_cons, List.map_nil, List.length_cons, List.length_nil]
  simp [ixl, p8, hro, wipeE, lc0, il_fold, sof_il, grd_il, lc1, l0, l1, e1, lc2a, l2, bi_list_il, hll, lo1, c1, c2, isi_il, bi_int, bin_mod (show (7 : Int) ≠ 0 by decide), hr2, lc3, l3, e2, lc4, l4, e3, hlb, br1, lc2b, l5, c3]
/-! ### the law -/
theorem bin_rep {ts : List T} {k : Nat} (h : ts.length * k ≤ 16777216) (hk : k < 1000) (M : Mem) : binT .Mult false (.fl ts) (.int (k : Int)) M = some (.fl (List.replicate k ts).flatten, M) := by
  have h63 : i63 (k : Int) := by unfold i63; omega
  show ((lof M (.fl ts)).bind fun a => if i63 (k : Int) ∧ a.length * (k : Int).toNat ≤ 16777216 then some (mkL false (List.replicate (k : Int).toNat a).flatten M) else none) = _
  rw [lof_fl]
  show (if i63 (k : Int) ∧ ts.length * (k : Int).toNat ≤ 16777216 then _ else _) = _
  rw [if_pos ⟨h63, by simpa using h⟩]
  simp
theorem bin_cat {ts us : List T} (h : ts.length + us.length ≤ 16777216) (M : Mem) : binT .Add false (.fl ts) (.fl us) M = some (.fl (ts ++ us), M) := by
  show ((lof M (.fl ts)).bind fun a => (lof M (.fl us)).bind fun b => if a.length + b.length ≤ 16777216 then some (mkL false (a ++ b) M) else none) = _
  rw [lof_fl, lof_fl]
  show (if ts.length + us.length ≤ 16777216 then _ else _) = _
  rw [if_pos h]
  rfl
theorem eqv_bl (a b : Bool) (M : Mem) : eqv? M (.bl a) (.bl b) = some (a == b) := by
  unfold eqv?
  simp [scL, sealT, pureT, okT, depT]
  cases a <;> cases b <;> rfl
theorem bits_sm {z : Int} (h : Builtin.Int.intBits z ≤ 1048576) : Sm 1048577 z := by
  unfold Builtin.Int.intBits at h
  unfold Sm
  by_cases h0 : z.natAbs = 0
  · rw [h0]; exact Nat.pow_pos (by decide)
  · have := Nat.lt_log2_self (n := z.natAbs)
    refine Nat.lt_of_lt_of_le this (Nat.pow_le_pow_right (by decide) ?_)
    first | omega | (simp_all; omega)
theorem kGcd (n : Nat) : Knows (Pr.G (n + 1)) "common_divisor" IsGcd := ⟨_, l_common_divisor n, sp_common_divisor⟩
theorem kNum (n : Nat) : Knows (Pr.G (n + 2)) "number" IsNumber := ⟨_, l_number (n + 1), sp_number (kGcd n)⟩
theorem kPlus (n : Nat) : Knows (Pr.G (n + 3)) "plus" (IsOp 4000 addQ) := ⟨_, l_plus (n + 2), sp_plus (kNum n)⟩
theorem kMinus (n : Nat) : Knows (Pr.G (n + 3)) "minus" (IsOp 4000 subQ) := ⟨_, l_minus (n + 2), sp_minus (kNum n)⟩
theorem kTimes (n : Nat) : Knows (Pr.G (n + 3)) "times" (IsOp 4000 mulQ) := ⟨_, l_times (n + 2), sp_times (kNum n)⟩
theorem kDivOf (n : Nat) : Knows (Pr.G (n + 2)) "divisor_of" IsDivOf := ⟨_, l_divisor_of (n + 1), sp_divisor_of (kGcd n)⟩
theorem kLow (n : Nat) : Knows (Pr.G (n + 3)) "lowest" IsLowest := ⟨_, l_lowest (n + 2), sp_lowest (kDivOf n)⟩
theorem kBr (n : Nat) : Knows (Pr.G (n + 4)) "brought" IsBrought := ⟨_, l_brought (n + 3), sp_brought (kGcd (n + 2)) (kLow n)⟩
theorem kLdiv (n : Nat) : Knows (Pr.G (n + 1)) "_law_divisor" IsGcdB := ⟨_, l__law_divisor n, sp_law_divisor⟩
theorem kLnum (n : Nat) : Knows (Pr.G (n + 2)) "_law_number" IsNumberB := ⟨_, l__law_number (n + 1), sp_law_number (kLdiv n)⟩
theorem kLplus (n : Nat) : Knows (Pr.G (n + 3)) "_law_plus" (IsOp 950 addQ) := ⟨_, l__law_plus (n + 2), sp_law_plus (kLnum n)⟩
theorem kLtimes (n : Nat) : Knows (Pr.G (n + 3)) "_law_times" (IsOp 950 mulQ) := ⟨_, l__law_times (n + 2), sp_law_times (kLnum n)⟩
theorem kInt (n : Nat) : Knows (Pr.G (n + 1)) "_law_is_integer" fun F => ∀ (i : Int) (M : Mem), F [.int i] M = some (.bl true, M) := ⟨_, l__law_is_integer n, sp_is_integer⟩
theorem kSame (n : Nat) : Knows (Pr.G (n + 2)) "_law_is_same" IsSame := ⟨_, l__law_is_same (n + 1), sp_is_same (kInt n)⟩
def sz1 : List Int := [3, 1000000000000000000000000000000, 1000000000000000000000000000000, 12, 2, 3, 1000000000000000000000000000000, 1000000000000000000000000000000, 12, 2]
def sz2 : List Int := [61, 61, 61, 61, 61, 61, 61, 61, 9, 12, 4]
theorem sz1_ok : ∀ s ∈ sz1, 0 < s ∧ Sm 8000 s := by
  have : ∀ s ∈ sz1, 0 < s ∧ s < 2 ^ 100 := by decide
  intro s hs
  obtain ⟨h1, h2⟩ := this s hs
  exact ⟨h1, Sm.mono (j := 100) (by unfold Sm; omega) (by decide)⟩
theorem sz2_ok : ∀ s ∈ sz2, 0 < s ∧ Sm 8000 s := by
  have : ∀ s ∈ sz2, 0 < s ∧ s < 100 := by decide
  intro s hs
  obtain ⟨h1, h2⟩ := this s hs
  exact ⟨h1, Sm.mono (j := 7) (by unfold Sm; omega) (by decide)⟩
theorem goal : Pr.Goal 12 Lib.law := by
  intro ns hlen hbits
  let M : Mem := []
  have cellSm : ∀ k, Sm 2000000 (ns.getD k 0) := fun k => by
    by_cases h : k < ns.length
    · rw [List.getD_eq_getElem?_getD, List.getElem?_eq_getElem h]
      exact (bits_sm (hbits _ (List.getElem_mem h))).mono (by decide)
    · rw [List.getD_eq_getElem?_getD, List.getElem?_eq_none (by omega)]
      exact Nat.pow_pos (by decide)
  have lcell := l__law_cell 11
  have lparts := l__law_parts 11
  have lpair := l__law_pair 11
  have llists := l__law_right_lists 11
  have lless := l_less 11
  have llless := l__law_less 11
  have lsign := l_sign 11
  have lover := l_over 11
  obtain ⟨Fs, lsame, hsame⟩ := kSame 10
  obtain ⟨Fn, lnum, hnum⟩ := kNum 10
  obtain ⟨Fln, llnum, hlnum⟩ := kLnum 10
  obtain ⟨Fp, lplus, hplus⟩ := kPlus 9
  obtain ⟨Flp, llplus, hlplus⟩ := kLplus 9
  obtain ⟨Fm, lminus, hminus⟩ := kMinus 9
  obtain ⟨Ft, ltimes, htimes⟩ := kTimes 9
  obtain ⟨Flt, lltimes, hltimes⟩ := kLtimes 9
  simp only [Nat.reduceAdd] at lcell lparts lpair llists lless llless lsign lover lsame lnum llnum lplus llplus lminus ltimes lltimes
  have cell0 : runD (Pr.G 11) Lib._law_cell [.sc ns, .int 0] M = some (.int (ns.getD 0 0), M) := sp_cell ns 0 M
  have cell1 : runD (Pr.G 11) Lib._law_cell [.sc ns, .int 1] M = some (.int (ns.getD 1 0), M) := sp_cell ns 1 M
  have cs0 := cellSm 0
  have cs1 := cellSm 1
  generalize ns.getD 0 0 = u0 at cell0 cs0
  generalize ns.getD 1 0 = u1 at cell1 cs1
  generalize hP : parts u0 sz1 = P
  generalize hQ : parts u1 sz2 = Q
  have parts1 : runD (Pr.G 11) Lib._law_parts [.int u0, ilT sz1] M = some (ilT P, M) := by rw [← hP]; exact sp_parts _ _ sz1 M rfl (pureT_il _) cs0 sz1_ok (by decide)
  have parts2 : runD (Pr.G 11) Lib._law_parts [.int u1, ilT sz2] M = some (ilT Q, M) := by rw [← hQ]; exact sp_parts _ _ sz2 M rfl (pureT_il _) cs1 sz2_ok (by decide)
  have pa := fun i s h => parts_at (cell := u0) (i := i) (s := s) (fun s hs => (sz1_ok s hs).1) h
  have pb := fun i s h => parts_at (cell := u1) (i := i) (s := s) (fun s hs => (sz2_ok s hs).1) h
  rw [hP] at pa
  rw [hQ] at pb
  have a0 := pa 0 3 rfl
  have a1 := pa 1 _ rfl
  have a2 := pa 2 _ rfl
  have a3 := pa 3 12 rfl
  have a4 := pa 4 2 rfl
  have a5 := pa 5 3 rfl
  have a6 := pa 6 _ rfl
  have a7 := pa 7 _ rfl
  have a8 := pa 8 12 rfl
  have a9 := pa 9 2 rfl
  obtain ⟨p, p0, ps, pair1⟩ := sp_pair (G := Pr.G 11) P 0 _ _ _ _ _ M a0.1 a1.1 a2.1 a3.1 a4.1 a0.2 a3.2 a4.2
  obtain ⟨q, q0, qs, pair2⟩ := sp_pair (G := Pr.G 11) P 5 _ _ _ _ _ M a5.1 a6.1 a7.1 a8.1 a9.1 a5.2 a8.2 a9.2
  have pair1 : runD (Pr.G 11) Lib._law_pair [ilT P, .int 0] M = some (numT p, M) := pair1
  have pair2 : runD (Pr.G 11) Lib._law_pair [ilT P, .int 5] M = some (numT q, M) := pair2
  -- first, second
  have n1 := hnum p.1 p.2 M p0 (ps.2.mono (by decide))
  have n2 := hnum q.1 q.2 M q0 (qs.2.mono (by decide))
  have m1 := hlnum p.1 p.2 M p0 (ps.2.mono (by decide))
  have m2 := hlnum q.1 q.2 M q0 (qs.2.mono (by decide))
  have fp := nrm_pos (n := p.1) p0
  have sp := nrm_pos (n := q.1) q0
  have fs := nrm_sm p0 ps.1 ps.2
  have ss := nrm_sm q0 qs.1 qs.2
  generalize hF : nrm p.1 p.2 = F at *
  generalize hS : nrm q.1 q.2 = S at *
  have F4 : SmQ 4000 F := ⟨fs.1.mono (by decide), fs.2.mono (by decide)⟩
  have S4 : SmQ 4000 S := ⟨ss.1.mono (by decide), ss.2.mono (by decide)⟩
  have F9 : SmQ 950 F := ⟨fs.1.mono (by decide), fs.2.mono (by decide)⟩
  have S9 : SmQ 950 S := ⟨ss.1.mono (by decide), ss.2.mono (by decide)⟩
  have o1 := hplus F S M (by omega) (by omega) F4 S4
  have o2 := hlplus F S M (by omega) (by omega) F9 S9
  have o3 := hminus F S M (by omega) (by omega) F4 S4
  have o4 := hlplus F (-S.1, S.2) M (by omega) (by show S.2 ≠ 0; omega) F9 ⟨S9.1.neg, S9.2⟩
  rw [← addQ_neg] at o4
  have o4 : Flp [numT F, .tup [.int (-S.1), .int S.2]] M = some (numT (subQ F S), M) := o4
  have o5 := htimes F S M (by omega) (by omega) F4 S4
  have o6 := hltimes F S M (by omega) (by omega) F9 S9
  have o7 := sp_less (G := Pr.G 11) F S M F4 S4
  have o8 := sp_law_less (G := Pr.G 11) F S M F4 S4
  have o9 := sp_less (G := Pr.G 11) F F M F4 F4
  rw [ltQ_irr] at o9
  have o10 := sp_sign (G := Pr.G 11) F M
  have o11 : runD (Pr.G 11) Lib.sign [.tup [.int 0, .int 1]] M = some (.int 0, M) := sp_sign (0, 1) M
  have lists : runD (Pr.G 11) Lib._law_right_lists [ilT Q] M = some (.bl true, M) := sp_lists (kLdiv 10) (kLnum 9) (kLow 8) (kBr 7) Q M (by rw [← hQ, parts_len]; rfl) (pb 8 9 rfl).2 (pb 9 12 rfl).2 (fun i hi => by
    have : sz2[i]? = some 61 := by
      match i, hi with
      | 0, _ => rfl
      | 1, _ => rfl
      | 2, _ => rfl
      | 3, _ => rfl
      | 4, _ => rfl
      | 5, _ => rfl
      | 6, _ => rfl
      | 7, _ => rfl
    exact (pb i 61 this).2)
  have same : ∀ x : Q2, Fs [numT x, numT x] M = some (.bl true, M) := fun x => by rw [hsame]; simp
  have ixn : ∀ (x : Q2) (i : Int), ixT (numT x) (.int i) M = atI [T.int x.1, T.int x.2] i := fun x i => ix_tup _ _ _
  have b1 := cmpne_of (eqv_bl (ltQ F S) (ltQ F S) M)
  have isn : cmpT .IsNot (.bl false) (.bl false) M = some false := by unfold cmpT; rfl
  have sg : sgnQ F = (if decide (0 < F.1) = true then 1 else 0) - (if decide (F.1 < 0) = true then 1 else 0) := by simp [sgnQ]
  have rep1 : binT .Mult false (.fl [T.int 3, T.int 1000000000000000000000000000000, T.int 1000000000000000000000000000000, T.int 12, T.int 2]) (.int 2) M = some (ilT sz1, M) := bin_rep (k := 2) (by decide) (by decide) M
  have rep2 : binT .Mult false (.fl [T.int 61]) (.int 8) M = some (.fl [T.int 61, T.int 61, T.int 61, T.int 61, T.int 61, T.int 61, T.int 61, T.int 61], M) := bin_rep (k := 8) (by decide) (by decide) M
  have cat2 : binT .Add false (.fl [T.int 61, T.int 61, T.int 61, T.int 61, T.int 61, T.int 61, T.int 61, T.int 61]) (.fl [T.int 9, T.int 12, T.int 4]) M = some (ilT sz2, M) := bin_cat (by decide) M
  have key : exSs (Pr.G 12) Lib.law.body (startE Lib.law.N [.sc ns]) M = some (.rt (.bl true) M) := by
    unfold Lib.law
    simp only [startE, List.map_cons, List.map_nil, List.length_cons, List.length_nil]
    by_cases hz : S.1 = 0
    · rw [hz, Int.neg_zero] at o4
      simp [lcell, cell0, pow_10_30, rep1, lparts, parts1, lpair, pair1, pair2, ixn, llnum, m1, m2, lnum, n1, n2, lsame, same, lplus, o1, llplus, o2, lminus, o3, o4, ltimes, o5, lltimes, o6, hz, lless, o7, llless, o8, b1, o9, isn, lsign, o10, o11, bi_intb, sg, cell1, rep2, cat2, parts2, llists, lists]
    · have o12 := sp_over (G := Pr.G 11) (kNum 9) F S M (by omega) hz F4 S4
      have o13 := hlnum S.2 S.1 M hz (ss.1.mono (by decide))
      have hp := nrm_pos (n := S.2) hz
      have hs := nrm_sm hz ss.2 ss.1
      have o14 := hltimes F (nrm S.2 S.1) M (by omega) (by omega) F9 ⟨hs.1.mono (by decide), hs.2.mono (by decide)⟩
      rw [← divQ_mul (by omega) hz] at o14
      simp [lcell, cell0, pow_10_30, rep1, lparts, parts1, lpair, pair1, pair2, ixn, llnum, m1, m2, lnum, n1, n2, lsame, same, lplus, o1, llplus, o2, lminus, o3, o4, ltimes, o5, lltimes, o6, hz, lover, o12, o13, o14, lless, o7, llless, o8, b1, o9, isn, lsign, o10, o11, bi_intb, sg, cell1, rep2, cat2, parts2, llists, lists]
  have := run_pure (d := Lib.law) (ts := [.sc ns]) (M := M) (M1 := []) rfl rfl (t := .bl true) rfl (by rw [List.append_nil]; exact key)
  exact ⟨M, this⟩
end K01

open PySem PySem.W PySem.Calls PyProof.Rows
set_option maxHeartbeats 0 in
theorem PySem.Challenge.cw_loadorloose_k01_numbers_holds : PySem.Challenge.rw_loadorloose_k01_numbers.Holds := by
  w_on; o_law
  refine HandSHeadRun.head_any (r := OpenLaw.row PySem.Challenge.rw_loadorloose_k01_numbers) (q := view (OpenLaw.row PySem.Challenge.rw_loadorloose_k01_numbers).prog [25]) (H := L2.Mi.Prog.hook K01.Pr 4) (ob := L2.Mi.Prog.obs K01.Pr 4) (M := 4000) (loose := K01.names) (d := HandSHeadRun.topDef (OpenLaw.row PySem.Challenge.rw_loadorloose_k01_numbers).prog 25) (kwd := []) (L2.Mi.Prog.obs_eq K01.Pr 4)
    (by kernel_rfl) (fun s => by kernel_rfl) K01.run (by kernel_rfl) (by kernel_rfl) (by kernel_rfl) (by rfl) (by first | assumption | decide +kernel) (by decide +kernel) ⟨rfl, rfl, rfl, rfl, rfl, by decide +kernel⟩ ?hw ?hc
  case hw => w_witness2
  case hc =>
    exact L2.Mi.mini_walk (l := PySem.Challenge.rw_loadorloose_k01_numbers) (P := K01.Pr) (n := 12) (x := "_law_script") (xl := K01.i_law) rfl (by kernel_rfl) (by kernel_rfl) (Or.inl rfl) K01.oks K01.binds K01.isLaw rfl (by decide) K01.goal


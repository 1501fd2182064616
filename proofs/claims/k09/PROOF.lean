import PyProof.Rows.All
import Wide.All
import OpenK.AllK
import Wide.FinOn
import HandS.ForMost
import HandS.Wide
import HandS.Flow
import HandS.Style
import HandS.TupAny
import HandS.TupMul
import HandS.IsInst
import HandS.SetFor
import HandS.DictComp
import KE.GoesNew
import HandS.Small
import HandS.Deep
import HandS.TupLen
import HandS.Strs
import HandS.Zip
import HandS.TupSets
import HandS.More
import HandS.Words
import HandS.WordsExc
import HandS.Defaults
import HandS.Head0
import HandS.Head1
import HandS.Head2
import HandS.HeadEnd
import HandS.EndBits
import HandS.HeadHook1
import HandS.HeadHook2
import HandS.Codes
import PySem.Challenge.RW_loadorloose_k09_motions_of_numbers
set_option Elab.async false
set_option linter.all false
set_option maxRecDepth 100000
set_option maxHeartbeats 4000000
set_option autoImplicit false
/-! Mini: values as trees, numbered memory, and how they lie in the abstract heap. -/
namespace L2
namespace Mi
open PySem PySem.Spec PyProof.Rows

inductive T where
  | non | bl (b : Bool) | int (i : Int) | str (x : Str)
  | tup (ts : List T) | fl (ts : List T) | fd (tk : Bool) (ks ts : List T) | sc (ns : List Int) | obj (i : Nat)

inductive O where
  | lst (ts : List T) | dic (tk : Bool) (ks ts : List T) | ins (c : Str) (fs : List (Str × T))

abbrev Mem := List O
abbrev En := List (Option T)

def keyT : Key → T
  | .inl i => .int i
  | .inr x => .str x
def keyTT (l : List Key) : T := .tup (l.map keyT)

/-- the written part; are there tuples in it that are used; where the classes stand -/
structure KC where
  K : PySem.W.Frag
  kt : Bool
  ca : Str → Addr
def KTp (K : PySem.W.Frag) (a : Addr) (xs : List V) : Prop :=
  ∃ (o : Obj) (its : Array Value) (n : Nat), K.lookup a = some o ∧ o.cls = .type "tuple" ∧ o.data = .seq its n ∧ its.size ≤ sizeLine ∧ Vals xs its.toList
def KLp (K : PySem.W.Frag) (a : Addr) (xs : List V) : Prop :=
  ∃ (o : Obj) (its : Array Value) (n : Nat), K.lookup a = some o ∧ o.cls = .type "list" ∧ o.dict = none ∧ o.data = .seq its n ∧ its.size ≤ sizeLine ∧ Vals xs its.toList
/-- not ours, not reserved -/
def Fre (φ ψ : List Addr) (a : Addr) : Prop := a ∉ φ ∧ a ∉ ψ
def FzT (K : KC) (φ ψ : List Addr) (H : Hp) (a : Addr) (vs : List V) : Prop := (Fre φ ψ a ∧ H a = some (.tup vs)) ∨ (K.kt = true ∧ KTp K.K a vs)
def FzL (K : KC) (φ ψ : List Addr) (H : Hp) (a : Addr) (vs : List V) : Prop := (Fre φ ψ a ∧ Rd H a (.lst vs)) ∨ KLp K.K a vs
theorem FzT.sq {K : KC} {φ ψ : List Addr} {H : Hp} {a : Addr} {vs : List V} (h : FzT K φ ψ H a vs) : SqT K.K H a vs := h.elim (fun h => .inl (.inl h.2)) fun h => .inr h.2
theorem FzL.sq {K : KC} {φ ψ : List Addr} {H : Hp} {a : Addr} {vs : List V} (h : FzL K φ ψ H a vs) : SqL K.K H a vs := h.elim (fun h => .inl h.2) .inr

mutual
inductive RT (K : KC) (φ ψ : List Addr) (H : Hp) : T → V → Prop
  | non : RT K φ ψ H .non .non
  | bl (b : Bool) : RT K φ ψ H (.bl b) (.bl b)
  | int (i : Int) : RT K φ ψ H (.int i) (.int i)
  | str (x : Str) : RT K φ ψ H (.str x) (.str x)
  | tup {a : Addr} {vs : List V} {ts : List T} : FzT K φ ψ H a vs → RTs K φ ψ H ts vs → RT K φ ψ H (.tup ts) (.ref a)
  | fl {a : Addr} {vs : List V} {ts : List T} : Fre φ ψ a → H a = some (.lst vs) → RTs K φ ψ H ts vs → RT K φ ψ H (.fl ts) (.ref a)
  | fdK {a : Addr} {kvs : List (Key × V)} {ks ts : List T} : Fre φ ψ a → H a = some (.dK kvs) → ks = kvs.map (fun p => keyT p.1) → RTs K φ ψ H ts (kvs.map (·.2)) → RT K φ ψ H (.fd false ks ts) (.ref a)
  | fdT {a : Addr} {kvs : List (List Key × V)} {ks ts : List T} : K.kt = false → Fre φ ψ a → H a = some (.dT kvs) → ks = kvs.map (fun p => keyTT p.1) → RTs K φ ψ H ts (kvs.map (·.2)) → RT K φ ψ H (.fd true ks ts) (.ref a)
  | sc {a : Addr} {ns : List Int} : FzL K φ ψ H a (ns.map V.int) → RT K φ ψ H (.sc ns) (.ref a)
  | obj {a : Addr} {i : Nat} : φ[i]? = some a → RT K φ ψ H (.obj i) (.ref a)
inductive RTs (K : KC) (φ ψ : List Addr) (H : Hp) : List T → List V → Prop
  | nil : RTs K φ ψ H [] []
  | cons {t : T} {v : V} {ts : List T} {vs : List V} : RT K φ ψ H t v → RTs K φ ψ H ts vs → RTs K φ ψ H (t :: ts) (v :: vs)
end

/-- what stood and is not ours stands; what is ours grows -/
structure Ext (φ : List Addr) (H : Hp) (φ' : List Addr) (H' : Hp) : Prop where
  pre : φ <+: φ'
  keep : ∀ a o, a ∉ φ → H a = some o → a ∉ φ' ∧ H' a = some o

theorem Ext.refl {φ : List Addr} {H : Hp} : Ext φ H φ H := ⟨List.prefix_rfl, fun _ _ h e => ⟨h, e⟩⟩
theorem Ext.trans {φ φ1 φ2 : List Addr} {H H1 H2 : Hp} (x : Ext φ H φ1 H1) (y : Ext φ1 H1 φ2 H2) : Ext φ H φ2 H2 :=
  ⟨x.pre.trans y.pre, fun a o h e => let ⟨h1, e1⟩ := x.keep a o h e; y.keep a o h1 e1⟩
theorem Ext.get {φ φ' : List Addr} {H H' : Hp} (x : Ext φ H φ' H') {i : Nat} {a : Addr} (e : φ[i]? = some a) : φ'[i]? = some a := by
  obtain ⟨r, rfl⟩ := x.pre
  obtain ⟨h, _⟩ := List.getElem?_eq_some_iff.mp e
  rw [List.getElem?_append_left h]
  exact e
/-- what is not ours and not reserved is carried over -/
structure Tr (φ ψ : List Addr) (H : Hp) (φ' ψ' : List Addr) (H' : Hp) : Prop where
  get : ∀ (i : Nat) (a : Addr), φ[i]? = some a → φ'[i]? = some a
  keep : ∀ a o, Fre φ ψ a → H a = some o → Fre φ' ψ' a ∧ H' a = some o
theorem Ext.tr {φ φ' : List Addr} {H H' : Hp} (x : Ext φ H φ' H') (ψ : List Addr) : Tr φ ψ H φ' ψ H' :=
  ⟨fun _ _ e => x.get e, fun a o h e => let ⟨h1, e1⟩ := x.keep a o h.1 e; ⟨⟨h1, h.2⟩, e1⟩⟩
/-- a new reserved address -/
theorem Tr.resv {φ ψ : List Addr} {H : Hp} {D : Addr} {o : HO} (hD : H D = none) : Tr φ ψ H φ (D :: ψ) (upd H D o) :=
  ⟨fun _ _ e => e, fun a u h e => by
    have ne : a ≠ D := ne_of_none e hD
    exact ⟨⟨h.1, fun hm => (List.mem_cons.mp hm).elim ne h.2⟩, by rw [upd_ne ne]; exact e⟩⟩
theorem Tr.unres {φ ψ : List Addr} {H : Hp} {D : Addr} : Tr φ (D :: ψ) H φ ψ H :=
  ⟨fun _ _ e => e, fun _ _ h e => ⟨⟨h.1, fun hm => h.2 (List.mem_cons_of_mem _ hm)⟩, e⟩⟩
/-- what stands at a reserved address is changed -/
theorem Tr.resw {φ ψ : List Addr} {H : Hp} {D : Addr} {o : HO} : Tr φ (D :: ψ) H φ (D :: ψ) (upd H D o) :=
  ⟨fun _ _ e => e, fun a u h e => ⟨h, by rw [upd_ne (fun z => h.2 (by rw [z]; exact List.mem_cons_self))]; exact e⟩⟩
section
variable {K : KC} {φ φ' ψ ψ' : List Addr} {H H' : Hp}
theorem FzT.tr {a : Addr} {vs : List V} (x : Tr φ ψ H φ' ψ' H') (h : FzT K φ ψ H a vs) : FzT K φ' ψ' H' a vs := by
  rcases h with ⟨h1, h2⟩ | h
  · obtain ⟨a1, a2⟩ := x.keep _ _ h1 h2; exact .inl ⟨a1, a2⟩
  · exact .inr h
theorem FzL.tr {a : Addr} {vs : List V} (x : Tr φ ψ H φ' ψ' H') (h : FzL K φ ψ H a vs) : FzL K φ' ψ' H' a vs := by
  rcases h with ⟨h1, h2⟩ | h
  · rcases h2 with h2 | ⟨o, h2⟩
    · obtain ⟨a1, a2⟩ := x.keep _ _ h1 h2; exact .inl ⟨a1, .inl a2⟩
    · obtain ⟨a1, a2⟩ := x.keep _ _ h1 h2; exact .inl ⟨a1, .inr ⟨o, a2⟩⟩
  · exact .inr h
mutual
theorem RT.tr (x : Tr φ ψ H φ' ψ' H') : ∀ (t : T) (v : V), RT K φ ψ H t v → RT K φ' ψ' H' t v
  | .non, _, h => by cases h; exact .non
  | .bl b, _, h => by cases h; exact .bl b
  | .int i, _, h => by cases h; exact .int i
  | .str s, _, h => by cases h; exact .str s
  | .tup ts, _, h => by
    cases h with
    | tup h1 h2 => exact .tup (h1.tr x) (RTs.tr x ts _ h2)
  | .fl ts, _, h => by
    cases h with
    | fl h1 h2 h3 => exact .fl (x.keep _ _ h1 h2).1 (x.keep _ _ h1 h2).2 (RTs.tr x ts _ h3)
  | .fd tk ks ts, _, h => by
    cases h with
    | fdK h1 h2 h3 h4 => exact .fdK (x.keep _ _ h1 h2).1 (x.keep _ _ h1 h2).2 h3 (RTs.tr x ts _ h4)
    | fdT h0 h1 h2 h3 h4 => exact .fdT h0 (x.keep _ _ h1 h2).1 (x.keep _ _ h1 h2).2 h3 (RTs.tr x ts _ h4)
  | .sc ns, _, h => by cases h with | sc h => exact .sc (h.tr x)
  | .obj i, _, h => by cases h with | obj h => exact .obj (x.get _ _ h)
theorem RTs.tr (x : Tr φ ψ H φ' ψ' H') : ∀ (ts : List T) (vs : List V), RTs K φ ψ H ts vs → RTs K φ' ψ' H' ts vs
  | [], _, h => by cases h; exact .nil
  | t :: ts, _, h => by
    cases h with
    | cons h1 h2 => exact .cons (RT.tr x t _ h1) (RTs.tr x ts _ h2)
end
end
section
variable {K : KC} {φ φ' ψ ψ' : List Addr} {H H' : Hp}
theorem RT.ext (x : Ext φ H φ' H') (t : T) (v : V) (h : RT K φ ψ H t v) : RT K φ' ψ H' t v := RT.tr (x.tr ψ) t v h
theorem RTs.ext (x : Ext φ H φ' H') (t : List T) (v : List V) (h : RTs K φ ψ H t v) : RTs K φ' ψ H' t v := RTs.tr (x.tr ψ) t v h
theorem RT.to {t : T} {v : V} (h : RT K φ ψ H t v) (x : Ext φ H φ' H') : RT K φ' ψ H' t v := RT.ext x t v h
theorem RTs.to {t : List T} {v : List V} (h : RTs K φ ψ H t v) (x : Ext φ H φ' H') : RTs K φ' ψ H' t v := RTs.ext x t v h
theorem RTs.length : ∀ {ts : List T} {vs : List V}, RTs K φ ψ H ts vs → ts.length = vs.length
  | _, _, .nil => rfl
  | _, _, .cons _ h => by rw [List.length_cons, List.length_cons, RTs.length h]
theorem RTs.get : ∀ {ts : List T} {vs : List V} {i : Nat} {t : T}, RTs K φ ψ H ts vs → ts[i]? = some t → ∃ v, vs[i]? = some v ∧ RT K φ ψ H t v
  | _, _, _, _, .nil, e => by simp at e
  | _, _, 0, _, .cons h _, e => by simp at e; subst e; exact ⟨_, rfl, h⟩
  | _, _, i + 1, t, .cons _ h, e => by
    obtain ⟨v, h1, h2⟩ := RTs.get (i := i) (t := t) h (by simpa using e)
    exact ⟨v, by simpa using h1, h2⟩
theorem RTs.getV : ∀ {ts : List T} {vs : List V} {i : Nat} {v : V}, RTs K φ ψ H ts vs → vs[i]? = some v → ∃ t, ts[i]? = some t ∧ RT K φ ψ H t v
  | _, _, _, _, .nil, e => by simp at e
  | _, _, 0, _, .cons h _, e => by simp at e; subst e; exact ⟨_, rfl, h⟩
  | _, _, i + 1, t, .cons _ h, e => by
    obtain ⟨v, h1, h2⟩ := RTs.getV (i := i) (v := t) h (by simpa using e)
    exact ⟨v, by simpa using h1, h2⟩
theorem RTs.append : ∀ {ts ts' : List T} {vs vs' : List V}, RTs K φ ψ H ts vs → RTs K φ ψ H ts' vs' → RTs K φ ψ H (ts ++ ts') (vs ++ vs')
  | _, _, _, _, .nil, s => s
  | _, _, _, _, .cons r t, s => .cons r (RTs.append t s)
theorem RTs.take : ∀ {ts : List T} {vs : List V} (n : Nat), RTs K φ ψ H ts vs → RTs K φ ψ H (ts.take n) (vs.take n)
  | _, _, 0, _ => .nil
  | _, _, _ + 1, .nil => .nil
  | _, _, n + 1, .cons r t => .cons r (RTs.take n t)
theorem RTs.drop : ∀ {ts : List T} {vs : List V} (n : Nat), RTs K φ ψ H ts vs → RTs K φ ψ H (ts.drop n) (vs.drop n)
  | _, _, 0, r => r
  | _, _, _ + 1, .nil => .nil
  | _, _, n + 1, .cons _ t => RTs.drop n t
theorem RTs.set {t : T} {v : V} (r : RT K φ ψ H t v) : ∀ {ts : List T} {vs : List V} (i : Nat), RTs K φ ψ H ts vs → RTs K φ ψ H (ts.set i t) (vs.set i v)
  | _, _, _, .nil => .nil
  | _, _, 0, .cons _ t => .cons r t
  | _, _, i + 1, .cons q t => .cons q (RTs.set r i t)
theorem RTs.reverse {ts : List T} {vs : List V} (h : RTs K φ ψ H ts vs) : RTs K φ ψ H ts.reverse vs.reverse := by
  induction ts generalizing vs with
  | nil => cases h; exact .nil
  | cons t ts ih =>
    cases h with
    | cons h1 h2 => rw [List.reverse_cons, List.reverse_cons]; exact (ih h2).append (.cons h1 .nil)
theorem RTs.eraseIdx : ∀ {ts : List T} {vs : List V} (i : Nat), RTs K φ ψ H ts vs → RTs K φ ψ H (ts.eraseIdx i) (vs.eraseIdx i)
  | _, _, _, .nil => .nil
  | _, _, 0, .cons _ t => t
  | _, _, i + 1, .cons q t => .cons q (RTs.eraseIdx i t)
theorem RTs.rep {ts : List T} {vs : List V} (h : RTs K φ ψ H ts vs) : ∀ k : Nat, RTs K φ ψ H (List.replicate k ts).flatten (List.replicate k vs).flatten
  | 0 => .nil
  | k + 1 => by
    rw [List.replicate_succ, List.replicate_succ, List.flatten_cons, List.flatten_cons]
    exact h.append (RTs.rep h k)
theorem RTs.ints : ∀ {ns : List Int} {vs : List V}, RTs K φ ψ H (ns.map T.int) vs → vs = ns.map V.int
  | [], _, h => by cases h; rfl
  | n :: ns, _, h => by
    cases h with
    | cons h1 h2 =>
      cases h1
      rw [RTs.ints h2]; rfl
theorem RTs.ints' : ∀ (ns : List Int), RTs K φ ψ H (ns.map T.int) (ns.map V.int)
  | [] => .nil
  | n :: ns => .cons (.int n) (RTs.ints' ns)
theorem RTs.bls : ∀ {bs : List Bool} {vs : List V}, RTs K φ ψ H (bs.map T.bl) vs → vs = bs.map V.bl
  | [], _, h => by cases h; rfl
  | n :: ns, _, h => by
    cases h with
    | cons h1 h2 =>
      cases h1
      rw [RTs.bls h2]; rfl
end

/-! ### memory -/
def RFs (K : KC) (φ ψ : List Addr) (H : Hp) : List (Str × T) → List (Str × V) → Prop
  | [], [] => True
  | (x, t) :: fs, (y, v) :: gs => x = y ∧ RT K φ ψ H t v ∧ RFs K φ ψ H fs gs
  | _, _ => False
/-- an object at an address; ca: where the classes stand -/
def RO (K : KC) (φ ψ : List Addr) (H : Hp) (a : Addr) : O → Prop
  | .lst ts => ∃ vs, H a = some (.lst vs) ∧ RTs K φ ψ H ts vs
  | .dic tk ks ts => (tk = false ∧ ∃ kvs : List (Key × V), H a = some (.dK kvs) ∧ ks = kvs.map (fun p => keyT p.1) ∧ RTs K φ ψ H ts (kvs.map (·.2))) ∨
      tk = true ∧ K.kt = false ∧ ∃ kvs : List (List Key × V), H a = some (.dT kvs) ∧ ks = kvs.map (fun p => keyTT p.1) ∧ RTs K φ ψ H ts (kvs.map (·.2))
  | .ins c fs => ∃ dx gs, H a = some (.ins (K.ca c) dx gs) ∧ RFs K φ ψ H fs gs
structure RM (K : KC) (φ ψ : List Addr) (H : Hp) (M : Mem) : Prop where
  len : φ.length = M.length
  nd : φ.Nodup
  ap : ∀ a ∈ φ, a ∉ ψ
  used : ∀ a ∈ ψ, H a ≠ none
  at_ : ∀ (i : Nat) (a : Addr) (o : O), φ[i]? = some a → M[i]? = some o → RO K φ ψ H a o
theorem RFs.tr {K : KC} {φ φ' ψ ψ' : List Addr} {H H' : Hp} (x : Tr φ ψ H φ' ψ' H') : ∀ {fs : List (Str × T)} {gs : List (Str × V)}, RFs K φ ψ H fs gs → RFs K φ' ψ' H' fs gs
  | [], [], _ => trivial
  | (_, _) :: _, (_, _) :: _, ⟨e, r, h⟩ => ⟨e, RT.tr x _ _ r, RFs.tr x h⟩
  | [], _ :: _, h => h.elim
  | _ :: _, [], h => h.elim
theorem RFs.ext {K : KC} {φ φ' ψ : List Addr} {H H' : Hp} (x : Ext φ H φ' H') {fs : List (Str × T)} {gs : List (Str × V)} (h : RFs K φ ψ H fs gs) : RFs K φ' ψ H' fs gs := h.tr (x.tr ψ)
/-! ### environments -/
structure RE (K : KC) (φ ψ : List Addr) (H : Hp) (env : En) (σ : L2.St) : Prop where
  len : env.length = σ.length
  at_ : ∀ (i : Nat) (t : T), env[i]? = some (some t) → ∃ v, σ[i]? = some (some v) ∧ RT K φ ψ H t v
section
variable {K : KC} {φ φ' ψ : List Addr} {H H' : Hp} {env : En} {σ : L2.St}
theorem RE.tr {ψ' : List Addr} (r : RE K φ ψ H env σ) (x : Tr φ ψ H φ' ψ' H') : RE K φ' ψ' H' env σ := ⟨r.len, fun i t e => let ⟨v, h1, h2⟩ := r.at_ i t e; ⟨v, h1, RT.tr x _ _ h2⟩⟩
theorem RE.ext (r : RE K φ ψ H env σ) (x : Ext φ H φ' H') : RE K φ' ψ H' env σ := ⟨r.len, fun i t e => let ⟨v, h1, h2⟩ := r.at_ i t e; ⟨v, h1, h2.to x⟩⟩
theorem RE.set {i : Nat} {t : T} {v : V} (r : RE K φ ψ H env σ) (h : RT K φ ψ H t v) : RE K φ ψ H (env.set i (some t)) (σ.set i (some v)) := by
  refine ⟨by rw [List.length_set, List.length_set, r.len], fun j u e => ?_⟩
  by_cases hj : i = j
  · subst hj
    by_cases hl : i < env.length
    · rw [List.getElem?_set_self hl] at e
      cases e
      exact ⟨v, by rw [List.getElem?_set_self (by rw [← r.len]; exact hl)], h⟩
    · rw [List.getElem?_eq_none (by rw [List.length_set]; omega)] at e
      cases e
  · rw [List.getElem?_set_ne hj] at e
    obtain ⟨w, h1, h2⟩ := r.at_ j u e
    exact ⟨w, by rw [List.getElem?_set_ne hj]; exact h1, h2⟩
def wipeE (env : En) : List Nat → En
  | [] => env
  | v :: vs => (wipeE env vs).set v none
theorem RE.clear {i : Nat} (r : RE K φ ψ H env σ) : RE K φ ψ H (env.set i none) (σ.set i none) := by
  refine ⟨by rw [List.length_set, List.length_set, r.len], fun j u e => ?_⟩
  by_cases hj : i = j
  · subst hj
    by_cases hl : i < env.length
    · rw [List.getElem?_set_self hl] at e
      cases e
    · rw [List.getElem?_eq_none (by rw [List.length_set]; omega)] at e
      cases e
  · rw [List.getElem?_set_ne hj] at e
    obtain ⟨w, h1, h2⟩ := r.at_ j u e
    exact ⟨w, by rw [List.getElem?_set_ne hj]; exact h1, h2⟩
theorem RE.wipe (r : RE K φ ψ H env σ) : ∀ vs : List Nat, RE K φ ψ H (wipeE env vs) (wipe σ vs)
  | [] => r
  | _ :: vs => (RE.wipe r vs).clear

/-- a new thing at p that is not ours (a tuple, a list that never changes) -/
theorem Ext.new {p : Addr} {o : HO} (hp : H p = none) (hf : p ∉ φ) : Ext φ H φ (upd H p o) :=
  ⟨List.prefix_rfl, fun a _ h e => ⟨h, by rw [upd_ne (ne_of_none e hp)]; exact e⟩⟩
theorem RM.fresh {M : Mem} (r : RM K φ ψ H M) {p : Addr} (hp : H p = none) : p ∉ φ := fun hm => by
  obtain ⟨i, hi, e⟩ := List.mem_iff_getElem.mp hm
  have e1 : φ[i]? = some p := List.getElem?_eq_some_iff.mpr ⟨hi, e⟩
  have hM : i < M.length := by rw [← r.len]; exact hi
  have q := r.at_ i p M[i] e1 (List.getElem?_eq_getElem hM)
  cases ho : M[i] with
  | lst ts => rw [ho] at q; obtain ⟨vs, h, _⟩ := q; rw [hp] at h; cases h
  | dic tk ks ts =>
    rw [ho] at q
    rcases q with ⟨_, kvs, h, _⟩ | ⟨_, _, kvs, h, _⟩
    · rw [hp] at h; cases h
    · rw [hp] at h; cases h
  | ins c fs => rw [ho] at q; obtain ⟨dx, gs, h, _⟩ := q; rw [hp] at h; cases h
/-- the memory under a change that keeps the contents of our objects -/
theorem RM.ext {M : Mem} (r : RM K φ ψ H M) (x : Ext φ H φ H') (hk : ∀ a ∈ φ, H' a = H a) : RM K φ ψ H' M := by
  refine ⟨r.len, r.nd, r.ap, fun a ha => ?_, fun i a o e1 e2 => ?_⟩
  · cases q : H a with
    | none => exact absurd q (r.used a ha)
    | some o => rw [(x.keep a o (fun z => r.ap a z ha) q).2]; exact fun z => nomatch z
  have ha : a ∈ φ := List.mem_of_getElem? e1
  have q := r.at_ i a o e1 e2
  cases o with
  | lst ts => obtain ⟨vs, h, h2⟩ := q; exact ⟨vs, by rw [hk a ha]; exact h, h2.to x⟩
  | dic tk ks ts =>
    rcases q with ⟨hk1, kvs, h, h1, h2⟩ | ⟨hk1, hk0, kvs, h, h1, h2⟩
    · exact .inl ⟨hk1, kvs, by rw [hk a ha]; exact h, h1, h2.to x⟩
    · exact .inr ⟨hk1, hk0, kvs, by rw [hk a ha]; exact h, h1, h2.to x⟩
  | ins c fs => obtain ⟨dx, gs, h, h2⟩ := q; exact ⟨dx, gs, by rw [hk a ha]; exact h, h2.ext x⟩
theorem RM.new {M : Mem} (r : RM K φ ψ H M) {p : Addr} {o : HO} (hp : H p = none) : RM K φ ψ (upd H p o) M :=
  r.ext (.new hp (r.fresh hp)) fun a ha => upd_ne fun e => r.fresh hp (e ▸ ha)
theorem RO.tr {ψ' : List Addr} {a : Addr} {o : O} (q : RO K φ ψ H a o) (x : Tr φ ψ H φ' ψ' H') (h : H' a = H a) : RO K φ' ψ' H' a o := by
  cases o with
  | lst ts => obtain ⟨vs, h1, h2⟩ := q; exact ⟨vs, by rw [h]; exact h1, RTs.tr x _ _ h2⟩
  | dic tk ks ts =>
    rcases q with ⟨hk1, kvs, h0, h1, h2⟩ | ⟨hk1, hk0, kvs, h0, h1, h2⟩
    · exact .inl ⟨hk1, kvs, by rw [h]; exact h0, h1, RTs.tr x _ _ h2⟩
    · exact .inr ⟨hk1, hk0, kvs, by rw [h]; exact h0, h1, RTs.tr x _ _ h2⟩
  | ins c fs => obtain ⟨dx, gs, h1, h2⟩ := q; exact ⟨dx, gs, by rw [h]; exact h1, h2.tr x⟩
/-- a reserved address: made, changed, given back -/
theorem RM.resv {M : Mem} (r : RM K φ ψ H M) {D : Addr} {o : HO} (hD : H D = none) : RM K φ (D :: ψ) (upd H D o) M := by
  have hf := r.fresh hD
  refine ⟨r.len, r.nd, fun a ha hm => ?_, fun a hm => ?_, fun i a u e1 e2 => (r.at_ i a u e1 e2).tr (.resv hD) (upd_ne fun z => hf (z ▸ List.mem_of_getElem? e1))⟩
  · rcases List.mem_cons.mp hm with q | q
    · exact hf (q ▸ ha)
    · exact r.ap a ha q
  · by_cases hap : a = D
    · subst hap; rw [upd_same]; exact fun z => nomatch z
    · rw [upd_ne hap]; exact r.used a ((List.mem_cons.mp hm).resolve_left hap)
theorem RM.resw {M : Mem} {D : Addr} {o : HO} (r : RM K φ (D :: ψ) H M) : RM K φ (D :: ψ) (upd H D o) M := by
  refine ⟨r.len, r.nd, r.ap, fun a hm => ?_, fun i a u e1 e2 => (r.at_ i a u e1 e2).tr .resw (upd_ne fun z => r.ap a (List.mem_of_getElem? e1) (by rw [z]; exact List.mem_cons_self))⟩
  by_cases hap : a = D
  · subst hap; rw [upd_same]; exact fun z => nomatch z
  · rw [upd_ne hap]; exact r.used a hm
theorem RM.unres {M : Mem} {D : Addr} (r : RM K φ (D :: ψ) H M) : RM K φ ψ H M :=
  ⟨r.len, r.nd, fun a ha hm => r.ap a ha (List.mem_cons_of_mem _ hm), fun a hm => r.used a (List.mem_cons_of_mem _ hm), fun i a u e1 e2 => (r.at_ i a u e1 e2).tr .unres rfl⟩
/-- a new object of ours -/
theorem Ext.push {p : Addr} {o : HO} (hp : H p = none) : Ext φ H (φ ++ [p]) (upd H p o) :=
  ⟨List.prefix_append _ _, fun a _ h e => by
    have ne : a ≠ p := ne_of_none e hp
    refine ⟨fun hm => ?_, by rw [upd_ne ne]; exact e⟩
    rcases List.mem_append.mp hm with q | q
    · exact h q
    · exact ne (by simpa using q)⟩
theorem RO.ext {a : Addr} {o : O} (q : RO K φ ψ H a o) (x : Ext φ H φ' H') (h : H' a = H a) : RO K φ' ψ H' a o := by
  cases o with
  | lst ts => obtain ⟨vs, h1, h2⟩ := q; exact ⟨vs, by rw [h]; exact h1, h2.to x⟩
  | dic tk ks ts =>
    rcases q with ⟨hk1, kvs, h0, h1, h2⟩ | ⟨hk1, hk0, kvs, h0, h1, h2⟩
    · exact .inl ⟨hk1, kvs, by rw [h]; exact h0, h1, h2.to x⟩
    · exact .inr ⟨hk1, hk0, kvs, by rw [h]; exact h0, h1, h2.to x⟩
  | ins c fs => obtain ⟨dx, gs, h1, h2⟩ := q; exact ⟨dx, gs, by rw [h]; exact h1, h2.ext x⟩
theorem RM.push {M : Mem} (r : RM K φ ψ H M) {p : Addr} {o : HO} {m : O} (hp : H p = none) (q : RO K (φ ++ [p]) ψ (upd H p o) p m) : RM K (φ ++ [p]) ψ (upd H p o) (M ++ [m]) := by
  have hf := r.fresh hp
  refine ⟨by simp [r.len], ?_, fun a ha hψ => ?_, fun a ha => ?_, fun i a u e1 e2 => ?_⟩
  rotate_left
  · rcases List.mem_append.mp ha with q | q
    · exact r.ap a q hψ
    · have : a = p := by simpa using q
      subst this
      exact r.used a hψ hp
  · by_cases hap : a = p
    · subst hap; rw [upd_same]; exact fun z => nomatch z
    · rw [upd_ne hap]; exact r.used a ha
  rotate_left
  · refine List.nodup_append.mpr ⟨r.nd, by simp, fun a ha b hb => ?_⟩
    have : b = p := by simpa using hb
    subst this
    exact fun e => hf (e ▸ ha)
  · by_cases hi : i < φ.length
    · rw [List.getElem?_append_left hi] at e1
      rw [List.getElem?_append_left (by rw [← r.len]; exact hi)] at e2
      have ha : a ∈ φ := List.mem_of_getElem? e1
      exact (r.at_ i a u e1 e2).ext (.push hp) (upd_ne fun e => hf (e ▸ ha))
    · have hl := r.len
      rw [List.getElem?_append_right (by omega)] at e1
      rw [List.getElem?_append_right (by omega)] at e2
      by_cases h0 : i - φ.length = 0
      · rw [h0] at e1
        rw [show i - M.length = 0 by omega] at e2
        cases e1; cases e2
        exact q
      · rw [List.getElem?_eq_none (by simp; omega)] at e1
        cases e1
/-- an object of ours changed -/
theorem Ext.write {i : Nat} {a : Addr} {o : HO} (e : φ[i]? = some a) : Ext φ H φ (upd H a o) :=
  ⟨List.prefix_rfl, fun b _ h e2 => ⟨h, by
    rw [upd_ne (fun z => h (by rw [z]; exact List.mem_of_getElem? e))]; exact e2⟩⟩
theorem RM.write {M : Mem} (r : RM K φ ψ H M) {i : Nat} {a : Addr} {o : HO} {m : O} (e : φ[i]? = some a) (q : RO K φ ψ (upd H a o) a m) : RM K φ ψ (upd H a o) (M.set i m) := by
  refine ⟨by rw [List.length_set]; exact r.len, r.nd, r.ap, fun b hb => ?_, fun j b u e1 e2 => ?_⟩
  · by_cases hba : b = a
    · subst hba; rw [upd_same]; exact fun z => nomatch z
    · rw [upd_ne hba]; exact r.used b hb
  by_cases hj : i = j
  · subst hj
    rw [e] at e1; cases e1
    obtain ⟨hi, _⟩ := List.getElem?_eq_some_iff.mp e
    rw [List.getElem?_set_self (by rw [← r.len]; exact hi)] at e2
    cases e2
    exact q
  · rw [List.getElem?_set_ne hj] at e2
    have ne : b ≠ a := fun z => by
      subst z
      exact hj ((List.getElem?_inj (List.getElem?_eq_some_iff.mp e).1 r.nd).mp (e.trans e1.symm))
    exact (r.at_ j b u e1 e2).ext (.write e) (upd_ne ne)
end
end Mi
end L2

/-! Mini: the terms and what they reckon. -/
namespace L2
namespace Mi
open PySem PySem.Spec PyProof.Rows

/-! ### what is equal -/
mutual
def eqT : T → T → Bool
  | .non, .non => true
  | .bl a, .bl b => a == b
  | .bl a, .int j => (if a then 1 else 0) == j
  | .int i, .bl b => i == (if b then 1 else 0)
  | .int i, .int j => i == j
  | .str x, .str y => x == y
  | .tup xs, .tup ys => eqTs xs ys
  | .fl xs, .fl ys => eqTs xs ys
  | _, _ => false
def eqTs : List T → List T → Bool
  | [], [] => true
  | x :: xs, y :: ys => eqT x y && eqTs xs ys
  | _, _ => false
end
mutual
/-- data without dicts and objects, texts of signs -/
def okT : T → Bool
  | .str x => PyData.strOk x
  | .tup xs => okTs xs
  | .fl xs => okTs xs
  | .non => true
  | .bl _ => true
  | .int _ => true
  | _ => false
def okTs : List T → Bool
  | [] => true
  | x :: xs => okT x && okTs xs
end
mutual
def depT : T → Nat
  | .tup xs => depTs xs + 1
  | .fl xs => depTs xs + 1
  | _ => 0
def depTs : List T → Nat
  | [] => 0
  | x :: xs => max (depT x) (depTs xs)
end
mutual
def pureT : T → Bool
  | .obj _ => false
  | .sc _ => true
  | .tup ts => pureTs ts
  | .fl ts => pureTs ts
  | .fd _ ks ts => pureTs ts
  | _ => true
def pureTs : List T → Bool
  | [] => true
  | t :: ts => pureT t && pureTs ts
end
/-- the same with the lists of ours (from n on) told as they stand -/
def sealT (M : Mem) (n : Nat) : Nat → T → Option T
  | 0, t => if pureT t then some t else none
  | f + 1, t => if pureT t then some t else match t with
    | .obj i => if n ≤ i then (match M[i]? with
      | some (.lst ts) => (ts.mapM (sealT M n f)).map .fl
      | some (.dic tk ks ts) => (ts.mapM (sealT M n f)).map (.fd tk ks)
      | _ => none) else none
    | .tup ts => (ts.mapM (sealT M n f)).map .tup
    | .fl ts => (ts.mapM (sealT M n f)).map .fl
    | .fd tk ks ts => (ts.mapM (sealT M n f)).map (.fd tk ks)
    | t => none
def scL : T → T
  | .sc ns => .fl (ns.map .int)
  | t => t
def eqv? (M : Mem) (x y : T) : Option Bool :=
  (sealT M 0 6 (scL x)).bind fun a => (sealT M 0 6 (scL y)).bind fun b =>
    if okT a = true ∧ okT b = true ∧ depT a ≤ 60 ∧ depT b ≤ 60 then some (eqT a b) else none

/-! ### lists, tuples, dicts by value -/
def lof (M : Mem) : T → Option (List T)
  | .fl ts => some ts
  | .obj i => match M[i]? with
    | some (.lst ts) => some ts
    | _ => none
  | _ => none
def tof : T → Option (List T)
  | .tup ts => some ts
  | _ => none
def lofS (M : Mem) (t : T) : Option (List T) := match t with
  | .sc ns => some (ns.map .int)
  | t => lof M t
def sof (M : Mem) (t : T) : Option (List T) := match t with
  | .tup ts => some ts
  | t => lofS M t
def dof (M : Mem) : T → Option (Bool × List T × List T)
  | .fd tk ks ts => some (tk, ks, ts)
  | .obj i => match M[i]? with
    | some (.dic tk ks ts) => some (tk, ks, ts)
    | _ => none
  | _ => none
/-- a new list -/
def mkL (tr : Bool) (ts : List T) (M : Mem) : T × Mem := if tr then (.obj M.length, M ++ [.lst ts]) else (.fl ts, M)
def lkp : List T → List T → T → Option T
  | k :: ks, v :: vs, t => if eqT k t then some v else lkp ks vs t
  | _, _, _ => none
def isKey : T → Bool
  | .int _ => true
  | .str _ => true
  | _ => false
def isKeyT (tk : Bool) : T → Bool
  | .tup ts => tk && ts.all isKey
  | t => !tk && isKey t
def putD (ks vs : List T) (t x : T) : List T × List T :=
  if (ks.any fun k => eqT k t) = true then (ks, List.zipWith (fun k v => if eqT k t then x else v) ks vs) else (ks ++ [t], vs ++ [x])

def truth (M : Mem) : T → Option Bool
  | .non => some false
  | .bl b => some b
  | .int i => some (i != 0)
  | .str x => if x.length ≤ 16777216 then some (((x.length : Nat) : Int) != 0) else none
  | .tup ts => some (!ts.isEmpty)
  | t => (lofS M t).map fun ts => !ts.isEmpty

/-! ### operators -/
def mulOk (i j : Int) : Prop := i.natAbs.log2 + j.natAbs.log2 < 134000000
instance (i j : Int) : Decidable (mulOk i j) := by unfold mulOk; infer_instance
def divOk (j : Int) : Prop := j ≠ 0
instance (j : Int) : Decidable (divOk j) := by unfold divOk; infer_instance
def powOk (i j : Int) : Prop := 0 ≤ j ∧ j ≤ 1000000 ∧ i.natAbs < 2 ^ 64
noncomputable instance (i j : Int) : Decidable (powOk i j) := Classical.propDecidable _
/-- within 63 bits -/
def i63 (j : Int) : Prop := -(2 ^ 63) ≤ j ∧ j < 2 ^ 63
noncomputable instance (j : Int) : Decidable (i63 j) := Classical.propDecidable _
noncomputable def binT (op : Operator) (tr : Bool) (x y : T) (M : Mem) : Option (T × Mem) :=
  match op, x, y with
  | .Add, .int i, .int j => some (.int (i + j), M)
  | .Sub, .int i, .int j => some (.int (i - j), M)
  | .Mult, .int i, .int j => if mulOk i j then some (.int (i * j), M) else none
  | .FloorDiv, .int i, .int j => if divOk j then some (.int (i.fdiv j), M) else none
  | .Mod, .int i, .int j => if j ≠ 0 then some (.int (i.fmod j), M) else none
  | .Pow, .int i, .int j => if powOk i j then some (.int (i ^ j.toNat), M) else none
  | .Add, .str a, .str b => if a.length + b.length ≤ 16777216 then some (.str (a ++ b), M) else none
  | .Add, .tup a, .tup b => if a.length + b.length ≤ 16777216 then some (.tup (a ++ b), M) else none
  | .Mult, .tup a, .int j => if 0 ≤ j ∧ j ≤ 1000 ∧ a.length ≤ 1000 ∧ a ≠ [] then some (.tup (List.replicate j.toNat a).flatten, M) else none
  | .Add, x, y => (lof M x).bind fun a => (lof M y).bind fun b => if a.length + b.length ≤ 16777216 then some (mkL tr (a ++ b) M) else none
  | .Mult, x, .int j => (lof M x).bind fun a => if i63 j ∧ a.length * j.toNat ≤ 16777216 then some (mkL tr (List.replicate j.toNat a).flatten M) else none
  | _, _, _ => none
/-- each once -/
def ddp {α : Type} [DecidableEq α] : List α → List α
  | [] => []
  | x :: l => if x ∈ l then ddp l else x :: ddp l
/-- the ints of a list of values -/
def intsOf : List T → Option (List Int)
  | [] => some []
  | .int i :: ts => (intsOf ts).map (i :: ·)
  | _ => none
/-- the tuples of ints of a list of values -/
def tupsOf : List T → Option (List (List Int))
  | [] => some []
  | .tup xs :: ts => (intsOf xs).bind fun ns => (tupsOf ts).map (ns :: ·)
  | _ => none
def blsOf : List T → Option (List Bool)
  | [] => some []
  | .bl i :: ts => (blsOf ts).map (i :: ·)
  | _ => none
def isNo : T → Bool
  | .non => true
  | _ => false
def lexLe (a b : List Int) : Bool := !HT.lexLt b a
def cmpT (op : CmpOp) (x y : T) (M : Mem) : Option Bool :=
  match op with
  | .Eq => eqv? M x y
  | .NotEq => (eqv? M x y).map not
  | .Lt => match x, y with
    | .int i, .int j => some (decide (i < j))
    | .tup a, .tup b => (intsOf a).bind fun a => (intsOf b).map fun b => HT.lexLt a b
    | _, _ => none
  | .LtE => match x, y with
    | .int i, .int j => some (decide (i ≤ j))
    | _, _ => none
  | .Gt => match x, y with
    | .int i, .int j => some (decide (j < i))
    | _, _ => none
  | .GtE => match x, y with
    | .int i, .int j => some (decide (j ≤ i))
    | _, _ => none
  | .Is => match x, y with
    | .bl a, .bl b => some (decide (a = b))
    | x, .non => some (isNo x)
    | _, _ => none
  | .IsNot => match x, y with
    | .bl a, .bl b => some (!decide (a = b))
    | x, .non => some (!isNo x)
    | _, _ => none
  | .In => inT x y M
  | .NotIn => (inT x y M).map not
where
  inT (x y : T) (M : Mem) : Option Bool :=
    match dof M y with
    | some (tk, ks, ts) => if isKeyT tk x then some (lkp ks ts x).isSome else none
    | none => match y with
      | .tup ys => if okT x = true ∧ okTs ys = true ∧ depT x ≤ 60 ∧ depTs ys ≤ 59 then some (ys.any fun z => eqT z x) else none
      | y => (lof M y).bind fun ys => (ys.mapM (sealT M 0 6)).bind fun ys => (sealT M 0 6 x).bind fun x =>
        if okT x = true ∧ okTs ys = true ∧ depT x ≤ 60 ∧ depTs ys ≤ 59 then some (ys.any fun z => eqT z x) else none

/-! ### built-ins -/
inductive BI where
  | len | int | abs | list (tr : Bool) | tuple | sum | all | any | max | min | sorted
  deriving DecidableEq
def maxL : List Int → Int
  | [] => 0
  | [x] => x
  | x :: xs => if x < maxL xs then maxL xs else x
def minL : List Int → Int
  | [] => 0
  | [x] => x
  | x :: xs => if minL xs < x then minL xs else x
def insI (x : Int) : List Int → List Int
  | [] => [x]
  | y :: ys => if x ≤ y then x :: y :: ys else y :: insI x ys
def sortI : List Int → List Int
  | [] => []
  | x :: xs => insI x (sortI xs)
def biT (b : BI) (xs : List T) (M : Mem) : Option (T × Mem) :=
  match b, xs with
  | .len, [x] => match dof M x with
    | some (_, ks, _) => some (.int (ks.length : Nat), M)
    | none => (sof M x).map fun ts => (.int (ts.length : Nat), M)
  | .int, [.int i] => some (.int i, M)
  | .int, [.bl b] => some (.int (if b then 1 else 0), M)
  | .abs, [.int i] => some (.int (if i < 0 then -i else i), M)
  | .list tr, [x] => (sof M x).map fun ts => mkL tr ts M
  | .tuple, [x] => (sof M x).map fun ts => (.tup ts, M)
  | .sum, [x] => (lof M x).bind fun ts => (intsOf ts).map fun ns => (.int ns.sum, M)
  | .all, [x] => (lof M x).bind fun ts => (blsOf ts).map fun bs => (.bl (bs.all id), M)
  | .any, [x] => (lof M x).bind fun ts => (blsOf ts).map fun bs => (.bl (bs.any id), M)
  | .max, [.int i, .int j] => some (.int (if j > i then j else i), M)
  | .min, [.int i, .int j] => some (.int (if j < i then j else i), M)
  | .max, [x] => (lof M x).bind fun ts => (intsOf ts).bind fun ns => if ns = [] then none else some (.int (maxL ns), M)
  | .min, [x] => (lof M x).bind fun ts => (intsOf ts).bind fun ns => if ns = [] then none else some (.int (minL ns), M)
  | .sorted, [x] => (lof M x).bind fun ts => (intsOf ts).bind fun ns => if ns.length < 64 then some (.fl ((sortI ns).map .int), M) else none
  | _, _ => none
def isiT (M : Mem) (ty : String) (x : T) : Option Bool :=
  match x with
  | .non => some false
  | .bl _ => some (ty == "bool" || ty == "int")
  | .int _ => some (ty == "int")
  | .str _ => some (ty == "str")
  | .tup _ => some (ty == "tuple")
  | .fl _ => some (ty == "list")
  | .obj i => match M[i]? with
    | some (.lst _) => some (ty == "list")
    | _ => none
  | _ => none
inductive BM where
  | append | extend | pop0 | pop | reverse | remove
  deriving DecidableEq
/-- a method of a list of ours -/
noncomputable def bmT (b : BM) (o : T) (xs : List T) (M : Mem) : Option (T × Mem) :=
  match o with
  | .obj i => match M[i]? with
    | some (.lst ts) => match b, xs with
      | .append, [x] => if ts.length < 16777216 then some (.non, M.set i (.lst (ts ++ [x]))) else none
      | .extend, [y] => (lof M y).bind fun zs => if ts.length + zs.length ≤ 16777216 then some (.non, M.set i (.lst (ts ++ zs))) else none
      | .pop0, [] => (ts[ts.length - 1]?).map fun y => (y, M.set i (.lst ts.dropLast))
      | .pop, [.int k] => if i63 k then (seqIndex? k ts.length).bind fun j => (ts[j]?).map fun y => (y, M.set i (.lst (ts.eraseIdx j))) else none
      | .reverse, [] => some (.non, M.set i (.lst ts.reverse))
      | .remove, [.int k] => (intsOf ts).bind fun ns => if k ∈ ns then some (.non, M.set i (.lst ((ns.eraseIdx (ns.findIdx fun x => x == k)).map .int))) else none
      | _, _ => none
    | _ => none
  | _ => none
def ixT (x y : T) (M : Mem) : Option T :=
  match dof M x with
  | some (tk, ks, ts) => if isKeyT tk y then lkp ks ts y else none
  | none => match x, y with
    | .str z, .int i => if z.length ≤ 16777216 then (atI z.cps.toList i).map fun c => .str ⟨#[c]⟩ else none
    | x, .int i => (sof M x).bind fun ts => atI ts i
    | _, _ => none
def cutT (ts : List T) (lo hi : Option Int) : List T := (ts.drop (HT.sIx ts.length 0 lo)).take (HT.sIx ts.length ts.length hi - HT.sIx ts.length 0 lo)
def slT (tr : Bool) (x : T) (lo hi : Option Int) (M : Mem) : Option (T × Mem) :=
  match x with
  | .tup ts => some (.tup (cutT ts lo hi), M)
  | x => (lofS M x).map fun ts => mkL tr (cutT ts lo hi) M
/-- o[i] = v, o a list or a dict of ours -/
def setT (o i v : T) (M : Mem) : Option Mem :=
  match o with
  | .obj a => match M[a]? with
    | some (.lst ts) => match i with
      | .int k => (ixN ts.length k).map fun j => M.set a (.lst (ts.set j v))
      | _ => none
    | some (.dic tk ks ts) => if isKeyT tk i = true ∧ ks.length < 16777216 then (let r := putD ks ts i v; some (M.set a (.dic tk r.1 r.2))) else none
    | _ => none
  | _ => none

/-! ### terms -/
mutual
inductive ME where
  | var (i : Nat) (x : Str) | glb (x : Str) | non | bl (b : Bool) | int (i : Int) | str (x : Str)
  | bin (op : Operator) (tr : Bool) (a b : ME) | neg (a : ME) | not (a : ME) | one (a : ME) | and (a b : ME) | or (a b : ME)
  | cmp (op : CmpOp) (a b : ME) | ife (c a b : ME)
  | call (f : Str) (es : MEs) | bi (b : BI) (es : MEs) | isi (a : ME) (ty : String) | mcall (c : Str) (o : ME) (m : Str) (es : MEs) | bm (b : BM) (o : ME) (es : MEs) | mk (c : Str) (es : MEs)
  | ix (a b : ME) | slc (tr : Bool) (a lo hi : ME) | nopart | rev (tr : Bool) (a : ME) | att (c : Str) (o : ME) (f : Str)
  | tup (es : MEs) | lst (tr : Bool) (es : MEs)
  | lc (tr : Bool) (own : List (Str × Nat)) (tg : MT) (it : MI) (ifs : MEs) (elt : ME)
  | lc2 (tr : Bool) (own : List (Str × Nat)) (tg : MT) (it : MI) (ifs : MEs) (vs1 : List Nat) (tg1 : MT) (it1 : MI) (ifs1 : MEs) (elt : ME)
  | dnew (t : Bool) | dc (own : List (Str × Nat)) (tg : MT) (it : MI) (k v : ME)
  | sset (a : ME) | lset (a : ME)
inductive MEs where
  | nil | cons (e : ME) (es : MEs)
inductive MI where
  | over (a : ME) | rng1 (a : ME) | rng2 (a b : ME) | enum (a : ME) | zip2 (a b : ME) | zip3 (a b c : ME)
inductive MT where
  | nm (i : Nat) (x : Str) | tp (ts : MTs)
inductive MTs where
  | nil | cons (t : MT) (ts : MTs)
end
inductive MS where
  | set (i : Nat) (x : Str) (e : ME)
  | asg (t : MT) (e : ME)
  | par (ts : List (Nat × Str)) (es : MEs) | setI (o i e : ME) | setA (c : Str) (o : ME) (f : Str) (e : ME)
  | aug (i : Nat) (x : Str) (op : Operator) (e : ME) | augI (o i : ME) (op : Operator) (e : ME)
  | ex (e : ME) | ret (e : ME) | retN
  | ite (c : ME) (a b : List MS) | whl (c : ME) (b : List MS) | for (t : MT) (it : MI) (b : List MS)
  | brk | cnt | pas

def dcPut : List T → List T × List T → List T × List T
  | k :: v :: r, a => dcPut r (putD a.1 a.2 k v)
  | _, a => a

/-! ### the program's defs and constants -/
abbrev Fn := List T → Mem → Option (T × Mem)
structure Cl where
  attrs : List Str
  init : Option Fn
  meths : List (Str × Fn)
structure Sig where
  kt : Bool
  fns : List (Str × Fn)
  glbs : List (Str × T)
  cls : List (Str × Cl)

mutual
def asgT : MT → T → En → Option En
  | .nm i _, t, σ => some (σ.set i (some t))
  | .tp ts, t, σ => match t with
    | .tup us => asgTs ts us σ
    | _ => none
def asgTs : MTs → List T → En → Option En
  | .nil, [], σ => some σ
  | .cons m ms, t :: ts, σ => (asgT m t σ).bind fun σ1 => asgTs ms ts σ1
  | _, _, _ => none
end
open Classical in
/-- a loop's list is as it was -/
def Grd (g : List (Nat × List T)) (M : Mem) : Prop := ∀ p ∈ g, M[p.1]? = some (.lst p.2)
open Classical in
/-- the items of a comprehension, in order -/
noncomputable def lcC (g : List (Nat × List T)) (step : T → Mem → Option (List T × Mem)) : List T → Mem → Option (List T × Mem)
  | [], M => if Grd g M then some ([], M) else none
  | t :: ts, M => if Grd g M then (step t M).bind fun p => (lcC g step ts p.2).map fun q => (p.1 ++ q.1, q.2) else none
def grdOf : T → List T → List (Nat × List T)
  | .obj i, ts => [(i, ts)]
  | _, _ => []
def rngL (lo hi : Int) : List T := (List.range (hi - lo).toNat).map fun i => T.int (lo + (i : Nat))
def rngOk (i j : Int) : Prop := -(2 ^ 62) ≤ i ∧ i < 2 ^ 62 ∧ -(2 ^ 62) ≤ j ∧ j < 2 ^ 62
noncomputable instance (i j : Int) : Decidable (rngOk i j) := Classical.propDecidable _
def enumL : Nat → List T → List T
  | _, [] => []
  | i, t :: ts => .tup [.int (i : Nat), t] :: enumL (i + 1) ts
def tst (x : Option (T × Mem)) : Option (Bool × Mem) := x.bind fun p => (truth p.2 p.1).map fun b => (b, p.2)
/-- what a for walks: items, guards -/
abbrev Itm := List T × List (Nat × List T)
open Classical in
mutual
noncomputable def evE (G : Sig) : ME → En → Mem → Option (T × Mem)
  | .var i _, σ, M => match σ[i]? with
    | some (some t) => some (t, M)
    | _ => none
  | .glb x, _, M => (G.glbs.lookup x).map fun t => (t, M)
  | .non, _, M => some (.non, M)
  | .bl b, _, M => some (.bl b, M)
  | .int i, _, M => some (.int i, M)
  | .str x, _, M => some (.str x, M)
  | .bin op tr a b, σ, M => (evE G a σ M).bind fun p => (evE G b σ p.2).bind fun q => binT op tr p.1 q.1 q.2
  | .neg a, σ, M => (evE G a σ M).bind fun p => match p.1 with
    | .int i => some (.int (-i), p.2)
    | _ => none
  | .not a, σ, M => (tst (evE G a σ M)).map fun p => (.bl (!p.1), p.2)
  | .one a, σ, M => evE G a σ M
  | .and a b, σ, M => (evE G a σ M).bind fun p => (truth p.2 p.1).bind fun c => if c then evE G b σ p.2 else some p
  | .or a b, σ, M => (evE G a σ M).bind fun p => (truth p.2 p.1).bind fun c => if c then some p else evE G b σ p.2
  | .cmp op a b, σ, M => (evE G a σ M).bind fun p => (evE G b σ p.2).bind fun q => (cmpT op p.1 q.1 q.2).map fun c => (.bl c, q.2)
  | .ife c a b, σ, M => (tst (evE G c σ M)).bind fun p => if p.1 then evE G a σ p.2 else evE G b σ p.2
  | .call f es, σ, M => (evEs G es σ M).bind fun p => (G.fns.lookup f).bind fun F => F p.1 p.2
  | .bi b es, σ, M => (evEs G es σ M).bind fun p => biT b p.1 p.2
  | .isi a ty, σ, M => (evE G a σ M).bind fun p => (isiT p.2 ty p.1).map fun c => (.bl c, p.2)
  | .mcall c o m es, σ, M => (evE G o σ M).bind fun p => match p.1 with
    | .obj i => match p.2[i]? with
      | some (.ins c' fs) => if c' = c ∧ fs.lookup m = none then (evEs G es σ p.2).bind fun q => (G.cls.lookup c).bind fun C => (C.meths.lookup m).bind fun F => F (p.1 :: q.1) q.2 else none
      | _ => none
    | _ => none
  | .bm b o es, σ, M => (evE G o σ M).bind fun p => (lof p.2 p.1).bind fun _ => (evEs G es σ p.2).bind fun q => bmT b p.1 q.1 q.2
  | .mk c es, σ, M => (evEs G es σ M).bind fun p => (G.cls.lookup c).bind fun C => C.init.bind fun F =>
      (F (.obj p.2.length :: p.1) (p.2 ++ [.ins c []])).bind fun r => match r.1 with
        | .non => some (.obj p.2.length, r.2)
        | _ => none
  | .ix a b, σ, M => (evE G a σ M).bind fun p => (evE G b σ p.2).bind fun q => (ixT p.1 q.1 q.2).map fun t => (t, q.2)
  | .slc tr a lo hi, σ, M => (evE G a σ M).bind fun p => (evP G lo σ p.2).bind fun l => (evP G hi σ l.2).bind fun h => slT tr p.1 l.1 h.1 h.2
  | .nopart, _, _ => none
  | .rev tr a, σ, M => (evE G a σ M).bind fun p => (lofS p.2 p.1).map fun ts => mkL tr ts.reverse p.2
  | .att c o f, σ, M => (evE G o σ M).bind fun p => match p.1 with
    | .obj i => match p.2[i]? with
      | some (.ins c' fs) => if c' = c then (G.cls.lookup c).bind fun C => if f ∈ C.attrs then (fs.lookup f).map fun t => (t, p.2) else none else none
      | _ => none
    | _ => none
  | .tup es, σ, M => (evEs G es σ M).bind fun p => if p.1.length ≤ 16777216 then some (.tup p.1, p.2) else none
  | .lst tr es, σ, M => (evEs G es σ M).bind fun p => if p.1.length ≤ 16777216 then some (mkL tr p.1 p.2) else none
  | .lc tr own tg it ifs elt, σ, M => (evI G it σ M).bind fun p =>
      (lcC p.1.2 (fun t M => (asgT tg t (wipeE σ (own.map (·.2)))).bind fun σ2 => (evIf G ifs σ2 M).bind fun c => if c.1 then (evE G elt σ2 c.2).map fun r => ([r.1], r.2) else some ([], c.2)) p.1.1 p.2).bind fun q =>
        if q.1.length ≤ 16777216 then some (mkL tr q.1 q.2) else none
  | .lc2 tr own tg it ifs vs1 tg1 it1 ifs1 elt, σ, M => (evI G it σ M).bind fun p =>
      (lcC p.1.2 (fun t M => (asgT tg t (wipeE σ (own.map (·.2)))).bind fun σ2 => (evIf G ifs σ2 M).bind fun c => if c.1 then (evI G it1 σ2 c.2).bind fun p1 =>
          lcC p1.1.2 (fun t M => (asgT tg1 t (wipeE σ2 vs1)).bind fun σ3 => (evIf G ifs1 σ3 M).bind fun c => if c.1 then (evE G elt σ3 c.2).map fun r => ([r.1], r.2) else some ([], c.2)) p1.1.1 p1.2
        else some ([], c.2)) p.1.1 p.2).bind fun q =>
        if q.1.length ≤ 16777216 then some (mkL tr q.1 q.2) else none
  | .dnew t, _, M => if t = true ∧ G.kt = true then none else some (.obj M.length, M ++ [.dic t [] []])
  | .dc own tg it k v, σ, M => (evI G it σ M).bind fun p =>
      (lcC p.1.2 (fun t M => (asgT tg t (wipeE σ (own.map (·.2)))).bind fun σ2 => (evE G k σ2 M).bind fun a => (evE G v σ2 a.2).bind fun b => if isKey a.1 then some ([a.1, b.1], b.2) else none) p.1.1 p.2).bind fun q =>
        let r := dcPut q.1 ([], [])
        if q.1.length ≤ 1000000 then some (.fd false r.1 r.2, q.2) else none
  | .sset a, σ, M => (evE G a σ M).bind fun p => (sof p.2 p.1).bind fun ts => (intsOf ts).bind fun ns => if ns.length < 64 then some (.fl ((sortI (ddp ns)).map .int), p.2) else none
  | .lset a, σ, M => (evE G a σ M).bind fun p => (sof p.2 p.1).bind fun ts => if ts.length < 64 then (match intsOf ts with
    | some ns => some (.int (ddp ns).length, p.2)
    | none => (tupsOf ts).map fun ks => (.int (ddp ks).length, p.2)) else none
noncomputable def evP (G : Sig) : ME → En → Mem → Option (Option Int × Mem)
  | .nopart, _, M => some (none, M)
  | .int i, _, M => some (some i, M)
  | e, σ, M => (evE G e σ M).bind fun p => match p.1 with
    | .int i => some (some i, p.2)
    | _ => none
noncomputable def evEs (G : Sig) : MEs → En → Mem → Option (List T × Mem)
  | .nil, _, M => some ([], M)
  | .cons e es, σ, M => (evE G e σ M).bind fun p => (evEs G es σ p.2).map fun q => (p.1 :: q.1, q.2)
noncomputable def evIf (G : Sig) : MEs → En → Mem → Option (Bool × Mem)
  | .nil, _, M => some (true, M)
  | .cons e .nil, σ, M => tst (evE G e σ M)
  | _, _, _ => none
noncomputable def evI (G : Sig) : MI → En → Mem → Option (Itm × Mem)
  | .over a, σ, M => (evE G a σ M).bind fun p => (sof p.2 p.1).map fun ts => ((ts, grdOf p.1 ts), p.2)
  | .rng1 a, σ, M => (evE G a σ M).bind fun p => match p.1 with
    | .int j => if rngOk 0 j then some ((rngL 0 j, []), p.2) else none
    | _ => none
  | .rng2 a b, σ, M => (evE G a σ M).bind fun p => (evE G b σ p.2).bind fun q => match p.1, q.1 with
    | .int i, .int j => if rngOk i j then some ((rngL i j, []), q.2) else none
    | _, _ => none
  | .enum a, σ, M => (evE G a σ M).bind fun p => (sof p.2 p.1).map fun ts => ((enumL 0 ts, grdOf p.1 ts), p.2)
  | .zip2 a b, σ, M => (evE G a σ M).bind fun p => (evE G b σ p.2).bind fun q => (sof q.2 p.1).bind fun xs => (sof q.2 q.1).map fun ys =>
      ((List.zipWith (fun x y => T.tup [x, y]) xs ys, grdOf p.1 xs ++ grdOf q.1 ys), q.2)
  | .zip3 a b c, σ, M => (evE G a σ M).bind fun p => (evE G b σ p.2).bind fun q => (evE G c σ q.2).bind fun r => (sof r.2 p.1).bind fun xs => (sof r.2 q.1).bind fun ys => (sof r.2 r.1).map fun zs =>
      ((List.zipWith (fun x (p : T × T) => T.tup [x, p.1, p.2]) xs (ys.zip zs), grdOf p.1 xs ++ grdOf q.1 ys ++ grdOf r.1 zs), r.2)
end
end Mi
end L2

/-! Mini: statements, loops, defs. -/
namespace L2
namespace Mi
open PySem PySem.Spec PyProof.Rows

inductive R where
  | nx (σ : En) (M : Mem) | rt (t : T) (M : Mem) | bk (σ : En) (M : Mem) | ct (σ : En) (M : Mem)

def whileN (c : En → Mem → Option (Bool × Mem)) (b : En → Mem → Option R) : Nat → En → Mem → Option R
  | 0, _, _ => none
  | n + 1, σ, M => match c σ M with
    | some (true, M1) => match b σ M1 with
      | some (.nx σ' M') => whileN c b n σ' M'
      | some (.ct σ' M') => whileN c b n σ' M'
      | some (.bk σ' M') => some (.nx σ' M')
      | r => r
    | some (false, M1) => some (.nx σ M1)
    | none => none
theorem whileN_mono {c : En → Mem → Option (Bool × Mem)} {b : En → Mem → Option R} : ∀ (n k : Nat) (σ : En) (M : Mem) (r : R), whileN c b n σ M = some r → n ≤ k → whileN c b k σ M = some r
  | 0, _, _, _, _, h, _ => by simp [whileN] at h
  | n + 1, 0, _, _, _, _, hk => by omega
  | n + 1, k + 1, σ, M, r, h, hk => by
    unfold whileN at h ⊢
    cases hc : c σ M with
    | none => rw [hc] at h; simp at h
    | some p =>
      obtain ⟨t, M1⟩ := p
      rw [hc] at h
      cases t with
      | false => exact h
      | true =>
        simp only at h ⊢
        cases hb : b σ M1 with
        | none => rw [hb] at h; exact h
        | some x =>
          rw [hb] at h
          cases x with
          | nx s m => exact whileN_mono n k s m r h (by omega)
          | ct s m => exact whileN_mono n k s m r h (by omega)
          | bk s m => exact h
          | rt t m => exact h
open Classical in
noncomputable def whileC (c : En → Mem → Option (Bool × Mem)) (b : En → Mem → Option R) (σ : En) (M : Mem) : Option R :=
  if h : ∃ n r, whileN c b n σ M = some r then some (choose (choose_spec h)) else none
theorem whileC_of {c : En → Mem → Option (Bool × Mem)} {b : En → Mem → Option R} {n : Nat} {σ : En} {M : Mem} {r : R} (h : whileN c b n σ M = some r) : whileC c b σ M = some r := by
  have hh : ∃ n r, whileN c b n σ M = some r := ⟨n, r, h⟩
  unfold whileC
  rw [dif_pos hh]
  have s := Classical.choose_spec (Classical.choose_spec hh)
  have h1 := whileN_mono _ (max n (Classical.choose hh)) _ _ _ h (Nat.le_max_left _ _)
  have h2 := whileN_mono _ (max n (Classical.choose hh)) _ _ _ s (Nat.le_max_right _ _)
  rw [h1] at h2
  exact h2.symm
theorem of_whileC {c : En → Mem → Option (Bool × Mem)} {b : En → Mem → Option R} {σ : En} {M : Mem} {r : R} (h : whileC c b σ M = some r) : ∃ n, whileN c b n σ M = some r := by
  unfold whileC at h
  split at h
  · rename_i hh
    have s := Classical.choose_spec (Classical.choose_spec hh)
    cases h
    exact ⟨_, s⟩
  · cases h
/-- one turn -/
theorem whileC_eq (c : En → Mem → Option (Bool × Mem)) (b : En → Mem → Option R) (σ : En) (M : Mem) :
    whileC c b σ M = match c σ M with
    | some (true, M1) => (match b σ M1 with
      | some (.nx σ' M') => whileC c b σ' M'
      | some (.ct σ' M') => whileC c b σ' M'
      | some (.bk σ' M') => some (.nx σ' M')
      | r => r)
    | some (false, M1) => some (.nx σ M1)
    | none => none := by
  have key : ∀ (x : Option R), (∀ r, x = some r → ∃ n, whileN c b n σ M = some r) → (∀ n r, whileN c b n σ M = some r → x = some r) → whileC c b σ M = x := by
    intro x h1 h2
    cases hx : x with
    | some r =>
      obtain ⟨n, hn⟩ := h1 r hx
      exact whileC_of hn
    | none =>
      cases hw : whileC c b σ M with
      | none => rfl
      | some r =>
        obtain ⟨n, hn⟩ := of_whileC hw
        have := h2 n r hn
        rw [hx] at this; cases this
  refine key _ (fun r h => ?_) (fun n r h => ?_)
  · cases hc : c σ M with
    | none => rw [hc] at h; cases h
    | some p =>
      obtain ⟨t, M1⟩ := p
      rw [hc] at h
      cases t with
      | false => exact ⟨1, by unfold whileN; rw [hc]; exact h⟩
      | true =>
        simp only at h
        cases hb : b σ M1 with
        | none => rw [hb] at h; cases h
        | some x =>
          rw [hb] at h
          cases x with
          | nx s m =>
            obtain ⟨n, hn⟩ := of_whileC h
            exact ⟨n + 1, by unfold whileN; rw [hc]; simp only [hb]; exact hn⟩
          | ct s m =>
            obtain ⟨n, hn⟩ := of_whileC h
            exact ⟨n + 1, by unfold whileN; rw [hc]; simp only [hb]; exact hn⟩
          | bk s m => exact ⟨1, by unfold whileN; rw [hc]; simp only [hb]; exact h⟩
          | rt t m => exact ⟨1, by unfold whileN; rw [hc]; simp only [hb]; exact h⟩
  · cases n with
    | zero => simp [whileN] at h
    | succ n =>
      unfold whileN at h
      cases hc : c σ M with
      | none => rw [hc] at h; cases h
      | some p =>
        obtain ⟨t, M1⟩ := p
        rw [hc] at h
        cases t with
        | false => exact h
        | true =>
          simp only at h ⊢
          cases hb : b σ M1 with
          | none => rw [hb] at h; exact h
          | some x =>
            rw [hb] at h
            cases x with
            | nx s m => exact whileC_of h
            | ct s m => exact whileC_of h
            | bk s m => exact h
            | rt t m => exact h
open Classical in
noncomputable def forC (g : List (Nat × List T)) (step : T → En → Mem → Option R) : List T → En → Mem → Option R
  | [], σ, M => if Grd g M then some (.nx σ M) else none
  | t :: ts, σ, M => if Grd g M then (match step t σ M with
    | some (.nx σ' M') => forC g step ts σ' M'
    | some (.ct σ' M') => forC g step ts σ' M'
    | some (.bk σ' M') => some (.nx σ' M')
    | r => r) else none
def putA (f : Str) (v : T) : List (Str × T) → List (Str × T)
  | [] => [(f, v)]
  | (g, x) :: r => if g = f then (g, v) :: r else (g, x) :: putA f v r
def parE (σ : En) : List (Nat × Str) → List T → En
  | (i, _) :: xs, t :: ts => parE (σ.set i (some t)) xs ts
  | _, _ => σ
def augT (op : Operator) (x y : T) : Option T :=
  match op, x, y with
  | .Add, .int i, .int j => some (.int (i + j))
  | .Sub, .int i, .int j => some (.int (i - j))
  | _, _, _ => none
mutual
noncomputable def exS (G : Sig) : MS → En → Mem → Option R
  | .set i _ e, σ, M => (evE G e σ M).map fun p => .nx (σ.set i (some p.1)) p.2
  | .asg t e, σ, M => (evE G e σ M).bind fun p => (asgT t p.1 σ).map fun σ1 => .nx σ1 p.2
  | .setI o i e, σ, M => (evE G e σ M).bind fun v => (evE G o σ v.2).bind fun p => (evE G i σ p.2).bind fun q => (setT p.1 q.1 v.1 q.2).map fun M1 => .nx σ M1
  | .par xs es, σ, M => (evEs G es σ M).bind fun p => if p.1.length = xs.length then some (.nx (parE σ xs p.1) p.2) else none
  | .setA c o f e, σ, M => (evE G e σ M).bind fun v => (evE G o σ v.2).bind fun p => match p.1 with
    | .obj i => match p.2[i]? with
      | some (.ins c' fs) => if c' = c ∧ fs.length < 1000 then (G.cls.lookup c).bind fun C => if f ∈ C.attrs then some (.nx σ (p.2.set i (.ins c (putA f v.1 fs)))) else none else none
      | _ => none
    | _ => none
  | .aug i _ op e, σ, M => match σ[i]? with
    | some (some x) => (evE G e σ M).bind fun p => (augT op x p.1).map fun y => .nx (σ.set i (some y)) p.2
    | _ => none
  | .augI o i op e, σ, M => (evE G o σ M).bind fun p => (evE G i σ p.2).bind fun q => (ixT p.1 q.1 q.2).bind fun x => (evE G e σ q.2).bind fun y => (augT op x y.1).bind fun z =>
      (setT p.1 q.1 z y.2).map fun M1 => .nx σ M1
  | .ex e, σ, M => (evE G e σ M).map fun p => .nx σ p.2
  | .ret e, σ, M => (evE G e σ M).map fun p => .rt p.1 p.2
  | .retN, _, M => some (.rt .non M)
  | .ite c a b, σ, M => (tst (evE G c σ M)).bind fun p => if p.1 then exSs G a σ p.2 else exSs G b σ p.2
  | .whl c b, σ, M => whileC (fun σ M => tst (evE G c σ M)) (fun σ M => exSs G b σ M) σ M
  | .for t it b, σ, M => (evI G it σ M).bind fun p => forC p.1.2 (fun x σ M => (asgT t x σ).bind fun σ1 => exSs G b σ1 M) p.1.1 σ p.2
  | .brk, σ, M => some (.bk σ M)
  | .cnt, σ, M => some (.ct σ M)
  | .pas, σ, M => some (.nx σ M)
noncomputable def exSs (G : Sig) : List MS → En → Mem → Option R
  | [], σ, M => some (.nx σ M)
  | s :: ss, σ, M => match exS G s σ M with
    | some (.nx σ1 M1) => exSs G ss σ1 M1
    | r => r
end
/-- a def -/
structure MD where
  ps : List Str
  N : List Str
  body : List MS
  sl : Bool := true
def startE (N : List Str) (ts : List T) : En := ts.map some ++ List.replicate (N.length - ts.length) none
open Classical in
/-- behind a call: what was made for the answer alone is told by value -/
noncomputable def fin (sl : Bool) (M : Mem) (r : T) (M1 : Mem) : T × Mem :=
  if sl = true ∧ M1.take M.length = M then (match sealT M1 M.length 6 r with | some r' => (r', M) | none => (r, M1)) else (r, M1)
noncomputable def runD (G : Sig) (d : MD) : Fn := fun ts M =>
  if ts.length = d.ps.length then (exSs G d.body (startE d.N ts) M).bind fun r => match r with
    | .rt t M1 => some (fin d.sl M t M1)
    | .nx _ M1 => some (fin d.sl M .non M1)
    | _ => none
  else none
end Mi
end L2

/-! Mini: the operators are the model's. -/
namespace L2
namespace Mi
open PySem PySem.Spec PyProof.Rows

/-- what is wanted of a value and a memory -/
def Ok1 (K : KC) (φ ψ : List Addr) (H : Hp) (t : T) (M : Mem) (Q : VK) : Prop :=
  ∀ φ' H' v, Ext φ H φ' H' → RM K φ' ψ H' M → RT K φ' ψ H' t v → Q v H'
section
variable {K : KC} {φ φ' ψ : List Addr} {H H' : Hp} {M : Mem} {Q : VK} {t : T} {ts : List T} {vs : List V}
theorem Ok1.ext (o : Ok1 K φ ψ H t M Q) (x : Ext φ H φ' H') : Ok1 K φ' ψ H' t M Q := fun φ2 H2 v y => o φ2 H2 v (x.trans y)
theorem Ok1.here (o : Ok1 K φ ψ H t M Q) (r : RM K φ ψ H M) {v : V} (h : RT K φ ψ H t v) : Q v H := o φ H v .refl r h
theorem fre_new (r : RM K φ ψ H M) {p : Addr} (hp : H p = none) : Fre φ ψ p := ⟨r.fresh hp, fun hm => r.used p hm hp⟩
theorem Ok1.newTup (o : Ok1 K φ ψ H (.tup ts) M Q) (r : RM K φ ψ H M) (h : RTs K φ ψ H ts vs) {p : Addr} (hp : H p = none) : Q (.ref p) (upd H p (.tup vs)) := by
  have hf := fre_new r hp
  have x : Ext φ H φ (upd H p (.tup vs)) := .new hp hf.1
  exact o φ _ _ x (r.new hp) (.tup (.inl ⟨hf, upd_same⟩) (h.to x))
theorem Ok1.newL {tr : Bool} (o : Ok1 K φ ψ H (mkL tr ts M).1 (mkL tr ts M).2 Q) (r : RM K φ ψ H M) (h : RTs K φ ψ H ts vs) {p : Addr} (hp : H p = none) : Q (.ref p) (upd H p (.lst vs)) := by
  have hf := fre_new r hp
  cases tr with
  | false =>
    have x : Ext φ H φ (upd H p (.lst vs)) := .new hp hf.1
    exact o φ _ _ x (r.new hp) (.fl hf upd_same (h.to x))
  | true =>
    have x : Ext φ H (φ ++ [p]) (upd H p (.lst vs)) := .push hp
    refine o _ _ _ x (r.push hp ⟨vs, upd_same, h.to x⟩) (.obj ?_)
    rw [← r.len, List.getElem?_append_right (Nat.le_refl _), Nat.sub_self]
    rfl
theorem RM.obj (r : RM K φ ψ H M) {i : Nat} {o : O} {a : Addr} (h : φ[i]? = some a) (e : M[i]? = some o) : RO K φ ψ H a o := r.at_ i a o h e
theorem lof_obj {i : Nat} (e : lof M (.obj i) = some ts) : M[i]? = some (.lst ts) := by
  simp only [lof] at e
  split at e
  · rename_i us hus
    cases e
    exact hus
  · cases e
/-- what a list value is -/
theorem lof_ok (r : RM K φ ψ H M) {v : V} (h : RT K φ ψ H t v) (e : lof M t = some ts) : ∃ a vs, v = .ref a ∧ H a = some (.lst vs) ∧ RTs K φ ψ H ts vs := by
  cases h with
  | fl h1 h2 h3 => cases e; exact ⟨_, _, rfl, h2, h3⟩
  | obj h1 =>
    obtain ⟨vs, q1, q2⟩ := r.obj h1 (lof_obj e)
    exact ⟨_, vs, rfl, q1, q2⟩
  | _ => exact nomatch e
theorem lofS_ok (r : RM K φ ψ H M) {v : V} (h : RT K φ ψ H t v) (e : lofS M t = some ts) : ∃ a vs, v = .ref a ∧ SqL K.K H a vs ∧ RTs K φ ψ H ts vs := by
  unfold lofS at e
  split at e
  · cases e
    cases h with
    | sc h => exact ⟨_, _, rfl, h.sq, RTs.ints' _⟩
  · obtain ⟨a, vs, h1, h2, h3⟩ := lof_ok r h e
    exact ⟨a, vs, h1, .of h2, h3⟩
theorem sof_ok (r : RM K φ ψ H M) {v : V} (h : RT K φ ψ H t v) (e : sof M t = some ts) : ∃ a vs, v = .ref a ∧ RTs K φ ψ H ts vs ∧ ((SqL K.K H a vs ∧ ∀ us, t ≠ .tup us) ∨ (SqT K.K H a vs ∧ t = .tup ts)) := by
  unfold sof at e
  split at e
  · cases e
    cases h with
    | tup h1 h2 => exact ⟨_, _, rfl, h2, .inr ⟨h1.sq, rfl⟩⟩
  · rename_i hne
    obtain ⟨a, vs, h1, h2, h3⟩ := lofS_ok r h e
    exact ⟨a, vs, h1, h3, .inl ⟨h2, hne⟩⟩
end
theorem szl : sizeLine = 16777216 := sizeLine_eq
theorem mulOk.ok {i j : Int} (h : mulOk i j) : IntMulOk i j := by
  have b : ∀ x : Int, Builtin.Int.intBits x ≤ x.natAbs.log2 + 1 := fun x => by
    unfold Builtin.Int.intBits
    split <;> omega
  have h1 := b i
  have h2 := b j
  have h3 : i.natAbs.log2 + j.natAbs.log2 < 134000000 := h
  have e : bitsLine = 134217728 := by decide
  unfold IntMulOk
  intro z
  rw [Bool.and_eq_true] at z
  have z2 := z.2
  unfold Builtin.Int.intTooBig at z2
  have z3 := of_decide_eq_true z2
  rw [e] at z3
  omega
section
variable {X : Cx} {K : KC}
theorem op_mulM : OpR X (binaryOp .Mult) (rI mulOk fun i j => .int (i * j)) := opI fun _ _ _ _ _ _ _ hc q => mul_int q hc.ok
/-- room for a division of any size -/
structure SeerX (X : Cx) : Prop where
  tree : X.prog.given.tree = none
  seer : X.base.NoSeer
  dep : X.A.depth + Builtin.pylongFrames < recursionLimit
  stk : ∃ e l, X.stack = e :: l ∧ e.scope.isGenerator = false ∧ e.scope.isCoroutine = false ∧ e.builtins = builtinsNs ∧ e.globals = mainGlobals
theorem op_divM (hS : SeerX X) : OpR X (binaryOp .FloorDiv) (rI (fun _ j => divOk j) fun i j => .int (i.fdiv j)) := by
  intro pins s σ H x y v u Q I rx ry h
  obtain ⟨i, j, rfl, rfl, hc, q⟩ := h
  obtain ⟨t, rfl⟩ := rx
  obtain ⟨t', rfl⟩ := ry
  obtain ⟨e, l, h1, h2, h3, h4, h5⟩ := hS.stk
  have kp : ∀ b o, X.base.get? b = some o → s.heap.get? b = some o := fun b o z => (I.env0.bs b o z).1
  exact floordiv_int hc ⟨.int _, H, I.tok _, ⟨_, rfl⟩, q⟩ (.inr (PylongRoom.of (I.env0.mod.nolimit.keeps kp) hS.dep (SeerAt.of (hS.seer.keeps kp) hS.tree (by rw [I.env0.frames, h1]) h2 h3 h4 h5)))
/-! ### tuple * 0, tuple * 1 -/
theorem tuple_mulW1 (l : Addr) (items : Array Value) (n : Nat) (dd : Option Addr) (sl : Array (Option Value)) (x : Int) (u : Tok) (c1 : x = 1) :
    Meets (Builtin.«tuple.__mul__» ⟨[.ref l, .int x u], []⟩) (fun _ R s => s.heap.get? l = some { cls := .type "tuple", dict := dd, data := .seq items n, slots := sl } ∧
      R (.ok (.ret (Value.ref l))) s) :=
  .of_wp fun prog w A R s h => by
    obtain ⟨hp, g, d, tk, os⟩ := s
    obtain ⟨hl, h⟩ := h
    subst c1
    have f1 := AutoSeq1.idx_int
    wp_walk using wpAny_loadPart' hl
    repeat (first
      | (refine wpAny_ite_false (decide_eq_false (by decide)) ?_; wp_walk using wpAny_loadPart' hl)
      | (refine wpAny_ite_true (decide_eq_true (by simp)) ?_; wp_walk using wpAny_loadPart' hl))
    exact ⟨_, rfl, h⟩
theorem tuple_mulW0 (l : Addr) (items : Array Value) (n : Nat) (dd : Option Addr) (sl : Array (Option Value)) (x : Int) (u : Tok) (c1 : x = 0) (ci : items.isEmpty = false) :
    Meets (Builtin.«tuple.__mul__» ⟨[.ref l, .int x u], []⟩) (fun _ R s => s.heap.get? l = some { cls := .type "tuple", dict := dd, data := .seq items n, slots := sl } ∧
      R (.ok (.ret (Value.ref s.heap.objs.size))) { s with heap := s.heap.push { cls := Value.type "tuple", data := Data.seq #[] } }) :=
  .of_wp fun prog w A R s h => by
    obtain ⟨hp, g, d, tk, os⟩ := s
    obtain ⟨hl, h⟩ := h
    subst c1
    have f1 := AutoSeq1.idx_int
    wp_walk using wpAny_loadPart' hl
    repeat (first
      | (refine wpAny_ite_false (decide_eq_false (by decide)) ?_; wp_walk using wpAny_loadPart' hl)
      | (refine wpAny_ite_false (decide_eq_false (by rw [ci]; decide)) ?_; wp_walk using wpAny_loadPart' hl)
      | (refine wpAny_ite_true (decide_eq_true (by simp)) ?_; wp_walk using wpAny_loadPart' hl))
    exact ⟨_, rfl, h⟩
def rRep0 (K : PySem.W.Frag) : R2 := fun x y H Q => ∃ l xs, x = .ref l ∧ y = .int 0 ∧ SqT K H l xs ∧ xs ≠ [] ∧ ∀ p, H p = none → Q (.ref p) (upd H p (.tup []))
def rRep1 (K : PySem.W.Frag) : R2 := fun x y H Q => ∃ l xs, x = .ref l ∧ y = .int 1 ∧ SqT K H l xs ∧ Q (.ref l) H
theorem op_rep0 : OpR X (binaryOp .Mult) (rRep0 X.K) := by
  intro pins s σ H x y v u Q I rx ry h
  obtain ⟨l, xs, rfl, rfl, hT, hne, q⟩ := h
  cases rx
  obtain ⟨t, rfl⟩ := ry
  obtain ⟨its, r, ⟨⟨cls, dd, data, sl⟩, ho, hc, n, hd⟩, hs⟩ := I.tuple hT
  simp only at hc hd
  subst hc hd
  have hle : its.length = xs.length := r.length.symm
  have hi : its.toArray.isEmpty = false := by
    cases its with
    | nil => exact absurd (List.eq_nil_of_length_eq_zero (by simpa using hle.symm)) hne
    | cons a b => rfl
  refine wpAny_binaryOp_repeat_ref (T := "tuple") (U := "int") (by decide) ⟨_, ho, rfl⟩ (fun s' => typeIs_int s' 0 t) noFill_tuple_mul F.fills_int_mul F.slot_int_rmul repeat_tuple F.slot_int_index.lookup
    (call_meets F.slot_int_rmul (typeIs_int s 0 t) F.entry_int_rmul (F.args_int_rmul_2 _ _) (int_rmul_tuple 0 t l its.toArray n dd sl)
      ⟨ho, rfl, ⟨_, ho, rfl⟩, call_meets F.slot_tuple_mul ⟨_, ho, rfl⟩ F.entry_tuple_mul (F.args_tuple_mul_2 _ _) (tuple_mulW0 l its.toArray n dd sl 0 t rfl hi) ⟨ho, ?_⟩⟩)
  refine ⟨.ref s.heap.objs.size, _, I.laid (t' := s.toks) (o := .tup []) (fun b ob q => Heap.get?_push_of_some _ q) (Nat.le_refl _) ?_, rfl, q _ (I.hok.fresh (Nat.le_refl _))⟩
  exact ⟨Nat.zero_le _, [], .nil, IsTup.new _ _⟩
theorem op_rep1 : OpR X (binaryOp .Mult) (rRep1 X.K) := by
  intro pins s σ H x y v u Q I rx ry h
  obtain ⟨l, xs, rfl, rfl, hT, q⟩ := h
  cases rx
  obtain ⟨t, rfl⟩ := ry
  obtain ⟨its, r, ⟨⟨cls, dd, data, sl⟩, ho, hc, n, hd⟩, hs⟩ := I.tuple hT
  simp only at hc hd
  subst hc hd
  refine wpAny_binaryOp_repeat_ref (T := "tuple") (U := "int") (by decide) ⟨_, ho, rfl⟩ (fun s' => typeIs_int s' 1 t) noFill_tuple_mul F.fills_int_mul F.slot_int_rmul repeat_tuple F.slot_int_index.lookup
    (call_meets F.slot_int_rmul (typeIs_int s 1 t) F.entry_int_rmul (F.args_int_rmul_2 _ _) (int_rmul_tuple 1 t l its.toArray n dd sl)
      ⟨ho, rfl, ⟨_, ho, rfl⟩, call_meets F.slot_tuple_mul ⟨_, ho, rfl⟩ F.entry_tuple_mul (F.args_tuple_mul_2 _ _) (tuple_mulW1 l its.toArray n dd sl 1 t rfl) ⟨ho, ?_⟩⟩)
  exact ⟨.ref l, H, I, rfl, q⟩

/-! ### every operator -/
def rBin (K : KC) (op : Operator) (tr : Bool) : R2 := fun vx vy H Q =>
  ∃ φ ψ M x y t M', RM K φ ψ H M ∧ RT K φ ψ H x vx ∧ RT K φ ψ H y vy ∧ binT op tr x y M = some (t, M') ∧ Ok1 K φ ψ H t M' Q
theorem op_bin (hK : K.K = X.K) (hS : SeerX X) (op : Operator) (tr : Bool) : OpR X (binaryOp op) (rBin K op tr) := by
  intro pins s σ H vx vy v u Q I rx ry h
  obtain ⟨φ, ψ, M, x, y, t, M', rm, r1, r2, e, ok⟩ := h
  have sz := szl
  unfold binT at e
  split at e
  · cases e; cases r1; cases r2
    exact op_add pins s σ H _ _ v u Q I rx ry ⟨_, _, rfl, rfl, ok.here rm (.int _)⟩
  · cases e; cases r1; cases r2
    exact op_sub pins s σ H _ _ v u Q I rx ry ⟨_, _, rfl, rfl, ok.here rm (.int _)⟩
  · split at e
    · rename_i hm
      cases e; cases r1; cases r2
      exact op_mulM pins s σ H _ _ v u Q I rx ry ⟨_, _, rfl, rfl, hm, ok.here rm (.int _)⟩
    · cases e
  · split at e
    · rename_i hm
      cases e; cases r1; cases r2
      exact op_divM hS pins s σ H _ _ v u Q I rx ry ⟨_, _, rfl, rfl, hm, ok.here rm (.int _)⟩
    · cases e
  · split at e
    · rename_i hm
      cases e; cases r1; cases r2
      exact op_modN pins s σ H _ _ v u Q I rx ry ⟨_, _, rfl, rfl, hm, ok.here rm (.int _)⟩
    · cases e
  · split at e
    · rename_i hm
      cases e; cases r1; cases r2
      exact op_pow pins s σ H _ _ v u Q I rx ry ⟨_, _, rfl, rfl, hm, ok.here rm (.int _)⟩
    · cases e
  · split at e
    · rename_i hm
      cases e; cases r1; cases r2
      exact op_add_str pins s σ H _ _ v u Q I rx ry ⟨_, _, rfl, rfl, by omega, ok.here rm (.str _)⟩
    · cases e
  · split at e
    · rename_i a b hm
      cases e; cases r1; cases r2
      rename_i c1 us1 g1 z1 c2 us2 g2 z2
      have l1 := z1.length
      have l2 := z2.length
      refine op_catA pins s σ H _ _ v u Q I rx ry ⟨_, _, _, _, rfl, rfl, (hK ▸ g1.sq), (hK ▸ g2.sq), by omega, fun e0 => ?_, fun _ e0 => ?_, fun _ _ p hp => ?_⟩
      · subst e0
        cases z1
        exact ok.here rm (.tup g2 z2)
      · subst e0
        cases z2
        rw [List.append_nil] at ok
        exact ok.here rm (.tup g1 z1)
      · exact ok.newTup rm (z1.append z2) hp
    · cases e
  · split at e
    · rename_i a j hm
      obtain ⟨h0, h1, h2, h3⟩ := hm
      cases e; cases r1; cases r2
      rename_i c1 us1 g1 z1
      have l1 := z1.length
      have hne : us1 ≠ [] := fun z => by
        subst z
        cases z1
        exact h3 rfl
      by_cases j0 : j = 0
      · subst j0
        exact op_rep0 pins s σ H _ _ v u Q I rx ry ⟨_, _, rfl, rfl, (hK ▸ g1.sq), hne, fun p hp => ok.newTup rm (ts := []) .nil hp⟩
      · by_cases j1 : j = 1
        · subst j1
          refine op_rep1 pins s σ H _ _ v u Q I rx ry ⟨_, _, rfl, rfl, (hK ▸ g1.sq), ?_⟩
          have e1 : (List.replicate (1 : Int).toNat a).flatten = a := by simp
          rw [e1] at ok
          exact ok.here rm (.tup g1 z1)
        · exact op_repT pins s σ H _ _ v u Q I rx ry ⟨_, _, _, rfl, rfl, (hK ▸ g1.sq), hne, by omega, h1, by omega, fun p hp => ok.newTup rm (z1.rep _) hp⟩
    · cases e
  · obtain ⟨a, ea, e⟩ := Option.bind_eq_some_iff.mp e
    obtain ⟨b, eb, e⟩ := Option.bind_eq_some_iff.mp e
    split at e
    · rename_i hm
      obtain ⟨c1, us1, rfl, g1, z1⟩ := lof_ok rm r1 ea
      obtain ⟨c2, us2, rfl, g2, z2⟩ := lof_ok rm r2 eb
      have l1 := z1.length
      have l2 := z2.length
      obtain ⟨rfl, rfl⟩ := Prod.mk.inj (Option.some.inj e)
      exact op_cat pins s σ H _ _ v u Q I rx ry ⟨_, _, _, _, rfl, rfl, g1, g2, by omega, fun p hp => ok.newL rm (z1.append z2) hp⟩
    · cases e
  · obtain ⟨a, ea, e⟩ := Option.bind_eq_some_iff.mp e
    split at e
    · rename_i hm
      obtain ⟨c1, us1, rfl, g1, z1⟩ := lof_ok rm r1 ea
      have l1 := z1.length
      cases r2
      obtain ⟨rfl, rfl⟩ := Prod.mk.inj (Option.some.inj e)
      exact op_rep pins s σ H _ _ v u Q I rx ry ⟨_, _, _, rfl, rfl, g1, hm.1.1, hm.1.2, by rw [← l1, sz]; exact hm.2, fun p hp => ok.newL rm (z1.rep _) hp⟩
    · cases e
  · cases e
end
end Mi
end L2

/-! Mini: equality, membership, comparisons, truth. -/
namespace L2
namespace Mi
open PySem PySem.Spec PyProof.Rows

mutual
def toD : T → PyData
  | .non => .none
  | .bl b => .bool b
  | .int i => .int i
  | .str x => .str x
  | .tup ts => .tuple (toDs ts)
  | .fl ts => .list (toDs ts)
  | _ => .none
def toDs : List T → List PyData
  | [] => []
  | t :: ts => toD t :: toDs ts
end
mutual
theorem toD_eqv : ∀ (a b : T), okT a = true → okT b = true → PyData.eqv (toD a) (toD b) = eqT a b
  | .non, b, _, hb => by cases b <;> first | (exfalso; simp [okT] at hb; done) | rfl | simp [toD, PyData.eqv, eqT]
  | .bl x, b, _, hb => by cases b <;> first | rfl | simp [toD, PyData.eqv, eqT] | (simp [okT] at hb)
  | .int x, b, _, hb => by cases b <;> first | rfl | simp [toD, PyData.eqv, eqT] | (simp [okT] at hb)
  | .str x, b, _, hb => by cases b <;> first | rfl | simp [toD, PyData.eqv, eqT] | (simp [okT] at hb)
  | .tup xs, b, ha, hb => by
    cases b with
    | tup ys =>
      simp only [toD, PyData.eqv, eqT]
      simp only [okT] at ha hb
      exact toDs_eqv xs ys ha hb
    | _ => first | rfl | simp [toD, PyData.eqv, eqT] | (simp [okT] at hb)
  | .fl xs, b, ha, hb => by
    cases b with
    | fl ys =>
      simp only [toD, PyData.eqv, eqT]
      simp only [okT] at ha hb
      exact toDs_eqv xs ys ha hb
    | _ => first | rfl | simp [toD, PyData.eqv, eqT] | (simp [okT] at hb)
  | .fd _ _ _, _, ha, _ => by simp [okT] at ha
  | .sc _, _, ha, _ => by simp [okT] at ha
  | .obj _, _, ha, _ => by simp [okT] at ha
theorem toDs_eqv : ∀ (a b : List T), okTs a = true → okTs b = true → PyData.eqvAll (toDs a) (toDs b) = eqTs a b
  | [], [], _, _ => by simp [toDs, PyData.eqvAll, eqTs]
  | [], _ :: _, _, _ => by simp [toDs, PyData.eqvAll, eqTs]
  | _ :: _, [], _, _ => by simp [toDs, PyData.eqvAll, eqTs]
  | x :: xs, y :: ys, ha, hb => by
    simp only [okTs, Bool.and_eq_true] at ha hb
    simp only [toDs, PyData.eqvAll, eqTs]
    rw [toD_eqv x y ha.1 hb.1, toDs_eqv xs ys ha.2 hb.2]
end
mutual
theorem toD_lay : ∀ (a : T), okT a = true → (toD a).canLay0 = true
  | .non, _ => by simp [toD, PyData.canLay0]
  | .bl _, _ => by simp [toD, PyData.canLay0]
  | .int _, _ => by simp [toD, PyData.canLay0]
  | .str x, h => by simp only [okT] at h; simp [toD, PyData.canLay0, h]
  | .tup xs, h => by simp only [okT] at h; simp only [toD, PyData.canLay0]; exact toDs_lay xs h
  | .fl xs, h => by simp only [okT] at h; simp only [toD, PyData.canLay0]; exact toDs_lay xs h
  | .fd _ _ _, h => by simp [okT] at h
  | .sc _, h => by simp [okT] at h
  | .obj _, h => by simp [okT] at h
theorem toDs_lay : ∀ (a : List T), okTs a = true → PyData.canLayAll0 (toDs a) = true
  | [], _ => by simp [toDs, PyData.canLayAll0]
  | x :: xs, h => by
    simp only [okTs, Bool.and_eq_true] at h
    simp only [toDs, PyData.canLayAll0, Bool.and_eq_true]
    exact ⟨toD_lay x h.1, toDs_lay xs h.2⟩
end
mutual
theorem toD_dep : ∀ (a : T), okT a = true → (toD a).depth = depT a
  | .non, _ => by simp [toD, PyData.depth, depT]
  | .bl _, _ => by simp [toD, PyData.depth, depT]
  | .int _, _ => by simp [toD, PyData.depth, depT]
  | .str x, h => by simp [toD, PyData.depth, depT]
  | .tup xs, h => by simp only [okT] at h; simp only [toD, PyData.depth, depT]; rw [toDs_dep xs h]
  | .fl xs, h => by simp only [okT] at h; simp only [toD, PyData.depth, depT]; rw [toDs_dep xs h]
  | .fd _ _ _, h => by simp [okT] at h
  | .sc _, h => by simp [okT] at h
  | .obj _, h => by simp [okT] at h
theorem toDs_dep : ∀ (a : List T), okTs a = true → PyData.depthAll (toDs a) = depTs a
  | [], _ => by simp [toDs, PyData.depthAll, depTs]
  | x :: xs, h => by
    simp only [okTs, Bool.and_eq_true] at h
    simp only [toDs, PyData.depthAll, depTs]
    rw [toD_dep x h.1, toDs_dep xs h.2]
end
theorem toD_shaped {a : T} (h : okT a = true) (d : depT a ≤ 60) : SeqAt.shaped (toD a) = true := by
  show ((toD a).canLay0 && decide ((toD a).depth ≤ 64)) = true
  rw [toD_lay a h, toD_dep a h, Bool.true_and]
  exact decide_eq_true (by omega)
theorem toDs_shaped {a : List T} (h : okTs a = true) (d : depTs a ≤ 59) : SeqAt.shaped (.list (toDs a)) = true := by
  have h1 := toDs_lay a h
  have h2 := toDs_dep a h
  show ((PyData.list (toDs a)).canLay0 && decide ((PyData.list (toDs a)).depth ≤ 64)) = true
  rw [Bool.and_eq_true]
  exact ⟨by simp only [PyData.canLay0]; exact h1, decide_eq_true (by simp only [PyData.depth]; omega)⟩
theorem any_eqv : ∀ (ys : List T) (x : T), okTs ys = true → okT x = true → ((toDs ys).any fun z => PyData.eqv z (toD x)) = ys.any fun z => eqT z x
  | [], _, _, _ => rfl
  | y :: ys, x, h, hx => by
    simp only [okTs, Bool.and_eq_true] at h
    simp only [toDs, List.any_cons]
    rw [toD_eqv y x h.1 hx, any_eqv ys x h.2 hx]

section
variable {K : KC} {φ ψ : List Addr} {H : Hp} {M : Mem}
mutual
theorem RT.dp : ∀ (t : T) (v : V), RT K φ ψ H t v → okT t = true → Dp K.K H v (toD t)
  | .non, _, h, _ => by cases h; exact .non
  | .bl b, _, h, _ => by cases h; exact .bl b
  | .int b, _, h, _ => by cases h; exact .int b
  | .str b, _, h, _ => by cases h; exact .str b
  | .tup ts, _, h, k => by
    cases h with
    | tup h1 h2 => simp only [okT] at k; exact .tup h1.sq (RTs.dp ts _ h2 k)
  | .fl ts, _, h, k => by
    cases h with
    | fl h1 h2 h3 => simp only [okT] at k; exact .lst (.of h2) (RTs.dp ts _ h3 k)
  | .fd _ _ _, _, _, k => by simp [okT] at k
  | .sc _, _, _, k => by simp [okT] at k
  | .obj _, _, _, k => by simp [okT] at k
theorem RTs.dp : ∀ (ts : List T) (vs : List V), RTs K φ ψ H ts vs → okTs ts = true → DpAll K.K H vs (toDs ts)
  | [], _, h, _ => by cases h; exact .nil
  | t :: ts, _, h, k => by
    simp only [okTs, Bool.and_eq_true] at k
    cases h with
    | cons h1 h2 => exact .cons (RT.dp t _ h1 k.1) (RTs.dp ts _ h2 k.2)
end
theorem mapM_dp {f : T → Option T} (hf : ∀ t v a, RT K φ ψ H t v → f t = some a → okT a = true → Dp K.K H v (toD a)) : ∀ (ts : List T) (vs : List V) (as : List T), RTs K φ ψ H ts vs → ts.mapM f = some as → okTs as = true → DpAll K.K H vs (toDs as)
  | [], _, as, h, e, k => by
    cases h
    simp at e
    subst e
    exact .nil
  | t :: ts, _, as, h, e, k => by
    cases h with
    | cons h1 h2 =>
      rw [List.mapM_cons] at e
      obtain ⟨a, ea, e⟩ := Option.bind_eq_some_iff.mp e
      obtain ⟨r, er, e⟩ := Option.bind_eq_some_iff.mp e
      cases e
      simp only [okTs, Bool.and_eq_true] at k
      exact .cons (hf t _ a h1 ea k.1) (mapM_dp hf ts _ r h2 er k.2)
theorem seal_dp (r : RM K φ ψ H M) (n : Nat) : ∀ (f : Nat) (t : T) (v : V) (a : T), RT K φ ψ H t v → sealT M n f t = some a → okT a = true → Dp K.K H v (toD a)
  | 0, t, v, a, h, e, k => by
    unfold sealT at e
    split at e
    · cases e; exact RT.dp t v h k
    · cases e
  | f + 1, t, v, a, h, e, k => by
    unfold sealT at e
    split at e
    · cases e; exact RT.dp t v h k
    · split at e
      · rename_i i
        split at e
        · split at e
          · rename_i ts hts
            obtain ⟨as, ea, e⟩ := Option.map_eq_some_iff.mp e
            subst e
            cases h with
            | obj h1 =>
              obtain ⟨vs, q1, q2⟩ := r.obj h1 hts
              simp only [okT] at k
              exact .lst (.of q1) (mapM_dp (fun t v a h e k => seal_dp r n f t v a h e k) ts vs as q2 ea k)
          · obtain ⟨as, ea, e⟩ := Option.map_eq_some_iff.mp e
            subst e
            simp [okT] at k
          · cases e
        · cases e
      · obtain ⟨as, ea, e⟩ := Option.map_eq_some_iff.mp e
        subst e
        cases h with
        | tup h1 h2 =>
          simp only [okT] at k
          exact .tup h1.sq (mapM_dp (fun t v a h e k => seal_dp r n f t v a h e k) _ _ as h2 ea k)
      · obtain ⟨as, ea, e⟩ := Option.map_eq_some_iff.mp e
        subst e
        cases h with
        | fl h1 h2 h3 =>
          simp only [okT] at k
          exact .lst (.of h2) (mapM_dp (fun t v a h e k => seal_dp r n f t v a h e k) _ _ as h3 ea k)
      · obtain ⟨as, ea, e⟩ := Option.map_eq_some_iff.mp e
        subst e
        simp [okT] at k
      · cases e
theorem okTs_ints : ∀ ns : List Int, okTs (ns.map T.int) = true
  | [] => rfl
  | n :: ns => by simp only [List.map_cons, okTs, okT, Bool.true_and]; exact okTs_ints ns
theorem pureTs_ints : ∀ ns : List Int, pureTs (ns.map T.int) = true
  | [] => rfl
  | n :: ns => by simp only [List.map_cons, pureTs, pureT, Bool.true_and]; exact pureTs_ints ns
theorem seal_pure {n f : Nat} {t : T} (h : pureT t = true) : sealT M n f t = some t := by
  cases f with
  | zero => unfold sealT; rw [if_pos h]
  | succ f => unfold sealT; rw [if_pos h]
theorem scl_dp (r : RM K φ ψ H M) {t : T} {v : V} {a : T} (h : RT K φ ψ H t v) (e : sealT M 0 6 (scL t) = some a) (k : okT a = true) : Dp K.K H v (toD a) := by
  cases t with
  | sc ns =>
    cases h with
    | sc h =>
      have e2 : scL (.sc ns) = .fl (ns.map .int) := rfl
      rw [e2, seal_pure (by simp only [pureT]; exact pureTs_ints ns)] at e
      cases e
      refine .lst h.sq ?_
      exact RTs.dp (φ := φ) (ψ := ψ) _ _ (RTs.ints' ns) (okTs_ints ns)
  | _ => exact seal_dp r 0 6 _ v a h e k
end
/-! ### comparisons -/
theorem lkp_dK {kvs : List (Key × V)} {K : KC} {φ ψ : List Addr} {H : Hp} : ∀ {ts : List T} (k : Key), RTs K φ ψ H ts (kvs.map (·.2)) →
    (∀ t, lkp (kvs.map fun p => keyT p.1) ts (keyT k) = some t → ∃ v, valV kvs k = some v ∧ RT K φ ψ H t v) ∧ (lkp (kvs.map fun p => keyT p.1) ts (keyT k)).isSome = (valV kvs k).isSome := by
  induction kvs with
  | nil => intro ts k h; cases h; exact ⟨fun t e => by simp [lkp] at e, rfl⟩
  | cons p r ih =>
    intro ts k h
    cases h with
    | cons h1 h2 =>
      have key : eqT (keyT p.1) (keyT k) = decide (p.1 = k) := by
        cases hp : p.1 with
        | inl a => cases k with
          | inl b =>
            simp only [keyT, eqT]
            by_cases e : a = b
            · subst e; simp
            · rw [decide_eq_false (fun q => e (Sum.inl.inj q))]; simpa using e
          | inr b => simp [keyT, eqT]
        | inr a => cases k with
          | inl b => simp [keyT, eqT]
          | inr b =>
            simp only [keyT, eqT]
            by_cases e : a = b
            · subst e; simp
            · rw [decide_eq_false (fun q => e (Sum.inr.inj q))]; simpa using e
      simp only [List.map_cons, lkp, key]
      by_cases e : p.1 = k
      · rw [if_pos (by simpa using e), valV_pos e]
        exact ⟨fun t q => by cases q; exact ⟨_, rfl, h1⟩, rfl⟩
      · rw [if_neg (by simpa using e), valV_neg e]
        exact ih k h2
theorem keyT_inj {a b : Key} : eqT (keyT a) (keyT b) = decide (a = b) := by
  cases a with
  | inl x => cases b with
    | inl y =>
      simp only [keyT, eqT]
      by_cases e : x = y
      · subst e; simp
      · rw [decide_eq_false (fun q => e (Sum.inl.inj q))]; simpa using e
    | inr y => simp [keyT, eqT]
  | inr x => cases b with
    | inl y => simp [keyT, eqT]
    | inr y =>
      simp only [keyT, eqT]
      by_cases e : x = y
      · subst e; simp
      · rw [decide_eq_false (fun q => e (Sum.inr.inj q))]; simpa using e
theorem keyTs_inj : ∀ {a b : List Key}, eqTs (a.map keyT) (b.map keyT) = decide (a = b)
  | [], [] => by simp [eqTs]
  | [], _ :: _ => by simp [eqTs]
  | _ :: _, [] => by simp [eqTs]
  | x :: xs, y :: ys => by
    simp only [List.map_cons, eqTs, keyT_inj, keyTs_inj, List.cons.injEq, Bool.decide_and]
theorem keyTT_inj {a b : List Key} : eqT (keyTT a) (keyTT b) = decide (a = b) := by
  simp only [keyTT, eqT]
  exact keyTs_inj
theorem lkp_dT {kvs : List (List Key × V)} {K : KC} {φ ψ : List Addr} {H : Hp} : ∀ {ts : List T} (k : List Key), RTs K φ ψ H ts (kvs.map (·.2)) →
    (∀ t, lkp (kvs.map fun p => keyTT p.1) ts (keyTT k) = some t → ∃ v, valV kvs k = some v ∧ RT K φ ψ H t v) ∧ (lkp (kvs.map fun p => keyTT p.1) ts (keyTT k)).isSome = (valV kvs k).isSome := by
  induction kvs with
  | nil => intro ts k h; cases h; exact ⟨fun t e => by simp [lkp] at e, rfl⟩
  | cons p r ih =>
    intro ts k h
    cases h with
    | cons h1 h2 =>
      simp only [List.map_cons, lkp, keyTT_inj]
      by_cases e : p.1 = k
      · rw [if_pos (by simpa using e), valV_pos e]
        exact ⟨fun t q => by cases q; exact ⟨_, rfl, h1⟩, rfl⟩
      · rw [if_neg (by simpa using e), valV_neg e]
        exact ih k h2
end Mi
end L2

/-! Mini: comparisons, truth, subscripts, built-ins, methods are the model's. -/
namespace L2
namespace Mi
open PySem PySem.Spec PyProof.Rows

section
variable {K : KC} {φ ψ : List Addr} {H : Hp} {M : Mem}
theorem key_of_isKey {x : T} {v : V} (h : isKey x = true) (r : RT K φ ψ H x v) : ∃ k : Key, x = keyT k ∧ v = kV k := by
  cases r with
  | int i => exact ⟨.inl i, rfl, rfl⟩
  | str i => exact ⟨.inr i, rfl, rfl⟩
  | _ => cases h
theorem keys_of : ∀ {ts : List T} {vs : List V}, ts.all isKey = true → RTs K φ ψ H ts vs → ∃ ks : List Key, ts = ks.map keyT ∧ vs = ks.map kV
  | _, _, _, .nil => ⟨[], rfl, rfl⟩
  | _, _, h, .cons r t => by
    simp only [List.all_cons, Bool.and_eq_true] at h
    obtain ⟨k, e1, e2⟩ := key_of_isKey h.1 r
    obtain ⟨ks, e3, e4⟩ := keys_of h.2 t
    exact ⟨k :: ks, by rw [e1, e3]; rfl, by rw [e2, e4]; rfl⟩
/-- what a dict value is -/
theorem dof_ok (r : RM K φ ψ H M) {t : T} {v : V} {tk : Bool} {ks ts : List T} (h : RT K φ ψ H t v) (e : dof M t = some (tk, ks, ts)) : ∃ a, v = .ref a ∧
    ((tk = false ∧ ∃ kvs : List (Key × V), H a = some (.dK kvs) ∧ ks = kvs.map (fun p => keyT p.1) ∧ RTs K φ ψ H ts (kvs.map (·.2))) ∨
     (tk = true ∧ K.kt = false ∧ ∃ kvs : List (List Key × V), H a = some (.dT kvs) ∧ ks = kvs.map (fun p => keyTT p.1) ∧ RTs K φ ψ H ts (kvs.map (·.2)))) := by
  cases h with
  | fdK h1 h2 h3 h4 => cases e; exact ⟨_, rfl, .inl ⟨rfl, _, h2, h3, h4⟩⟩
  | fdT h0 h1 h2 h3 h4 => cases e; exact ⟨_, rfl, .inr ⟨rfl, h0, _, h2, h3, h4⟩⟩
  | @obj a i h1 =>
    simp only [dof] at e
    split at e
    · rename_i tk' ks' ts' hus
      cases e
      exact ⟨a, rfl, r.obj h1 hus⟩
    · cases e
  | _ => exact nomatch e
/-- a key looked up -/
theorem lkp_ok (r : RM K φ ψ H M) {t x : T} {v vx : V} {tk : Bool} {ks ts : List T} (h : RT K φ ψ H t v) (hx : RT K φ ψ H x vx) (e : dof M t = some (tk, ks, ts)) (k : isKeyT tk x = true) :
    ∃ a o, v = .ref a ∧ DGet H a vx o ∧ o.isSome = (lkp ks ts x).isSome ∧ ∀ u, lkp ks ts x = some u → ∃ w, o = some w ∧ RT K φ ψ H u w := by
  obtain ⟨a, rfl, ⟨rfl, kvs, h1, rfl, h3⟩ | ⟨rfl, hkt, kvs, h1, rfl, h3⟩⟩ := dof_ok r h e
  · have kx : isKey x = true := by
      cases x <;> first | exact k | (simp [isKeyT, isKey] at k)
    obtain ⟨key, rfl, rfl⟩ := key_of_isKey kx hx
    obtain ⟨q1, q2⟩ := lkp_dK key h3
    exact ⟨a, _, rfl, .k h1, q2.symm, q1⟩
  · cases hx with
    | @tup b vs us g1 g2 =>
      simp only [isKeyT, Bool.true_and] at k
      obtain ⟨key, rfl, rfl⟩ := keys_of k g2
      rcases g1 with ⟨_, g1⟩ | ⟨g1, _⟩
      · obtain ⟨q1, q2⟩ := lkp_dT key h3
        exact ⟨a, _, rfl, .t h1 g1, q2.symm, q1⟩
      · rw [hkt] at g1; cases g1
    | _ => simp [isKeyT, isKey] at k
end
theorem intsOf_ok : ∀ {ts : List T} {ns : List Int}, intsOf ts = some ns → ts = ns.map T.int
  | [], ns, h => by cases h; rfl
  | .int i :: ts, ns, h => by
    simp only [intsOf] at h
    obtain ⟨r, hr, e⟩ := Option.map_eq_some_iff.mp h
    subst e
    rw [intsOf_ok hr]; rfl
  | .non :: _, _, h => by cases h
  | .bl _ :: _, _, h => by cases h
  | .str _ :: _, _, h => by cases h
  | .tup _ :: _, _, h => by cases h
  | .fl _ :: _, _, h => by cases h
  | .fd _ _ _ :: _, _, h => by cases h
  | .sc _ :: _, _, h => by cases h
  | .obj _ :: _, _, h => by cases h
theorem blsOf_ok : ∀ {ts : List T} {ns : List Bool}, blsOf ts = some ns → ts = ns.map T.bl
  | [], ns, h => by cases h; rfl
  | .bl i :: ts, ns, h => by
    simp only [blsOf] at h
    obtain ⟨r, hr, e⟩ := Option.map_eq_some_iff.mp h
    subst e
    rw [blsOf_ok hr]; rfl
  | .non :: _, _, h => by cases h
  | .int _ :: _, _, h => by cases h
  | .str _ :: _, _, h => by cases h
  | .tup _ :: _, _, h => by cases h
  | .fl _ :: _, _, h => by cases h
  | .fd _ _ _ :: _, _, h => by cases h
  | .sc _ :: _, _, h => by cases h
  | .obj _ :: _, _, h => by cases h
section
variable {X : Cx} {K : KC}
theorem op_inT (hu : X.A.units + 65 < cLine) : OpR X (compareOp .In) (fun x y H Q => ∃ d ds, Dp X.K H x d ∧ Dp X.K H y (.tuple ds) ∧ SeqAt.shaped d = true ∧ SeqAt.shaped (.list ds) = true ∧ Q (.bl (ds.any fun z => PyData.eqv z d)) H) := by
  intro pins s σ H x y v u Q I rx ry h
  obtain ⟨d, ds, hd, he, sd, se, q⟩ := h
  obtain ⟨as, r1⟩ := Dp.reads I d x v hd rx
  obtain ⟨bs, r2⟩ := Dp.reads I (.tuple ds) y u he ry
  exact SeqAt.in_tuple_reads r2 r1 (SeqAt.canLay_of_shaped se) (SeqAt.canLay_of_shaped sd) (room_in_shaped sd hu) ⟨.bl _, H, I, rfl, q⟩
theorem op_notInT (hu : X.A.units + 65 < cLine) : OpR X (compareOp .NotIn) (fun x y H Q => ∃ d ds, Dp X.K H x d ∧ Dp X.K H y (.tuple ds) ∧ SeqAt.shaped d = true ∧ SeqAt.shaped (.list ds) = true ∧ Q (.bl (!ds.any fun z => PyData.eqv z d)) H) := by
  intro pins s σ H x y v u Q I rx ry h
  obtain ⟨d, ds, hd, he, sd, se, q⟩ := h
  obtain ⟨as, r1⟩ := Dp.reads I d x v hd rx
  obtain ⟨bs, r2⟩ := Dp.reads I (.tuple ds) y u he ry
  exact SeqAt.notIn_tuple_reads r2 r1 (SeqAt.canLay_of_shaped se) (SeqAt.canLay_of_shaped sd) (room_in_shaped sd hu) ⟨.bl _, H, I, rfl, q⟩
/-- in, by values: what both forms ask -/
theorem in_cases (hK : K.K = X.K) {φ ψ : List Addr} {H : Hp} {M : Mem} {x y : T} {vx vy : V} {c : Bool} (rm : RM K φ ψ H M) (r1 : RT K φ ψ H x vx) (r2 : RT K φ ψ H y vy) (e : cmpT.inT x y M = some c) :
    (∃ a o, vy = .ref a ∧ DGet H a vx o ∧ c = o.isSome) ∨ (∃ d ds, Dp X.K H vx d ∧ Dp X.K H vy (.tuple ds) ∧ SeqAt.shaped d = true ∧ SeqAt.shaped (.list ds) = true ∧ c = ds.any fun z => PyData.eqv z d) ∨
      ∃ d ds, Dp X.K H vx d ∧ Dp X.K H vy (.list ds) ∧ SeqAt.shaped d = true ∧ SeqAt.shaped (.list ds) = true ∧ c = ds.any fun z => PyData.eqv z d := by
  unfold cmpT.inT at e
  split at e
  · rename_i tk ks ts hd
    split at e
    · rename_i hk
      cases e
      obtain ⟨a, o, h1, h2, h3, _⟩ := lkp_ok rm r2 r1 hd hk
      exact .inl ⟨a, o, h1, h2, h3.symm⟩
    · cases e
  · split at e
    · rename_i ys _
      split at e
      · rename_i hc
        obtain ⟨h1, h2, h3, h4⟩ := hc
        cases e
        cases r2 with
        | tup g1 g2 =>
          refine .inr (.inl ⟨toD x, toDs ys, hK ▸ RT.dp x _ r1 h1, .tup (hK ▸ g1.sq) (hK ▸ RTs.dp ys _ g2 h2), toD_shaped h1 h3, toDs_shaped h2 h4, (any_eqv ys x h2 h1).symm⟩)
      · cases e
    · obtain ⟨ys, hy, e⟩ := Option.bind_eq_some_iff.mp e
      obtain ⟨zs, hz, e⟩ := Option.bind_eq_some_iff.mp e
      obtain ⟨x', hx, e⟩ := Option.bind_eq_some_iff.mp e
      split at e
      · rename_i hc
        obtain ⟨h1, h2, h3, h4⟩ := hc
        cases e
        obtain ⟨a, vs, rfl, g1, g2⟩ := lof_ok rm r2 hy
        refine .inr (.inr ⟨toD x', toDs zs, hK ▸ seal_dp rm 0 6 x vx x' r1 hx h1, ?_, toD_shaped h1 h3, toDs_shaped h2 h4, (any_eqv zs x' h2 h1).symm⟩)
        exact .lst (.of g1) (hK ▸ mapM_dp (fun t v a h e k => seal_dp rm 0 6 t v a h e k) ys vs zs g2 hz h2)
      · cases e
def rCmp (K : KC) (op : CmpOp) : R2 := fun vx vy H Q => ∃ φ ψ M x y c, RM K φ ψ H M ∧ RT K φ ψ H x vx ∧ RT K φ ψ H y vy ∧ cmpT op x y M = some c ∧ Q (.bl c) H
theorem non_iff {φ ψ : List Addr} {H : Hp} {x : T} {v : V} (r : RT K φ ψ H x v) : decide (v = .non) = isNo x := by
  cases r <;> simp [isNo]
theorem op_cmp (hK : K.K = X.K) (hu : X.A.units + 65 < cLine) (op : CmpOp) : OpR X (compareOp op) (rCmp K op) := by
  intro pins s σ H vx vy v u Q I rx ry h
  obtain ⟨φ, ψ, M, x, y, c, rm, r1, r2, e, q⟩ := h
  unfold cmpT at e
  cases op with
  | Eq =>
    simp only [eqv?] at e
    obtain ⟨a, ha, e⟩ := Option.bind_eq_some_iff.mp e
    obtain ⟨b, hb, e⟩ := Option.bind_eq_some_iff.mp e
    split at e
    · rename_i hc
      obtain ⟨h1, h2, h3, h4⟩ := hc
      cases e
      refine op_eqD (by omega) pins s σ H vx vy v u Q I rx ry ⟨toD a, toD b, hK ▸ scl_dp rm r1 ha h1, hK ▸ scl_dp rm r2 hb h2, toD_shaped h1 h3, toD_shaped h2 h4, ?_⟩
      rw [toD_eqv a b h1 h2]
      exact q
    · cases e
  | NotEq =>
    obtain ⟨c', e', rfl⟩ := Option.map_eq_some_iff.mp e
    clear e
    have e := e'
    clear e'
    simp only [eqv?] at e
    obtain ⟨a, ha, e⟩ := Option.bind_eq_some_iff.mp e
    obtain ⟨b, hb, e⟩ := Option.bind_eq_some_iff.mp e
    split at e
    · rename_i hc
      obtain ⟨h1, h2, h3, h4⟩ := hc
      cases e
      refine op_neD (by omega) pins s σ H vx vy v u Q I rx ry ⟨toD a, toD b, hK ▸ scl_dp rm r1 ha h1, hK ▸ scl_dp rm r2 hb h2, toD_shaped h1 h3, toD_shaped h2 h4, ?_⟩
      rw [toD_eqv a b h1 h2]
      exact q
    · cases e
  | Lt =>
    simp only at e
    split at e
    · cases e; cases r1; cases r2
      exact op_lt pins s σ H _ _ v u Q I rx ry ⟨_, _, rfl, rfl, q⟩
    · obtain ⟨a, ha, e⟩ := Option.bind_eq_some_iff.mp e
      obtain ⟨b, hb, e⟩ := Option.map_eq_some_iff.mp e
      subst e
      obtain rfl := intsOf_ok ha
      obtain rfl := intsOf_ok hb
      cases r1; cases r2
      rename_i c1 us1 g1 z1 c2 us2 g2 z2
      obtain rfl := z1.ints
      obtain rfl := z2.ints
      exact op_ltT (by omega) pins s σ H _ _ v u Q I rx ry ⟨_, _, _, _, rfl, rfl, hK ▸ g1.sq, hK ▸ g2.sq, q⟩
    · cases e
  | LtE =>
    simp only at e
    split at e
    · cases e; cases r1; cases r2
      exact op_le pins s σ H _ _ v u Q I rx ry ⟨_, _, rfl, rfl, q⟩
    · cases e
  | Gt =>
    simp only at e
    split at e
    · cases e; cases r1; cases r2
      exact op_gt pins s σ H _ _ v u Q I rx ry ⟨_, _, rfl, rfl, q⟩
    · cases e
  | GtE =>
    simp only at e
    split at e
    · cases e; cases r1; cases r2
      exact op_ge pins s σ H _ _ v u Q I rx ry ⟨_, _, rfl, rfl, q⟩
    · cases e
  | Is =>
    simp only at e
    split at e
    · cases e; cases r1; cases r2
      exact op_isBl pins s σ H _ _ v u Q I rx ry ⟨_, _, rfl, rfl, q⟩
    · cases e
      cases r2
      refine op_isN pins s σ H _ _ v u Q I rx ry ⟨rfl, ?_⟩
      rw [non_iff r1]
      exact q
    · cases e
  | IsNot =>
    simp only at e
    split at e
    · cases e; cases r1; cases r2
      exact op_notBl pins s σ H _ _ v u Q I rx ry ⟨_, _, rfl, rfl, q⟩
    · cases e
      cases r2
      refine op_notN pins s σ H _ _ v u Q I rx ry ⟨rfl, ?_⟩
      rw [non_iff r1]
      exact q
    · cases e
  | In =>
    simp only at e
    rcases in_cases (X := X) hK rm r1 r2 e with ⟨a, o, rfl, g, rfl⟩ | ⟨d, ds, h1, h2, h3, h4, rfl⟩ | ⟨d, ds, h1, h2, h3, h4, rfl⟩
    · cases (show u = Value.ref a from ry)
      exact d_in (by omega) I g rx fun s' I' => ⟨.bl o.isSome, H, I', rfl, q⟩
    · exact op_inT hu pins s σ H _ _ v u Q I rx ry ⟨d, ds, h1, h2, h3, h4, q⟩
    · exact op_inD hu pins s σ H _ _ v u Q I rx ry ⟨d, ds, h1, h2, h3, h4, q⟩
  | NotIn =>
    simp only at e
    obtain ⟨c', e', rfl⟩ := Option.map_eq_some_iff.mp e
    clear e
    have e := e'
    clear e'
    rcases in_cases (X := X) hK rm r1 r2 e with ⟨a, o, rfl, g, rfl⟩ | ⟨d, ds, h1, h2, h3, h4, rfl⟩ | ⟨d, ds, h1, h2, h3, h4, rfl⟩
    · cases (show u = Value.ref a from ry)
      exact d_notIn (by omega) I g rx fun s' I' => ⟨.bl (!o.isSome), H, I', rfl, q⟩
    · exact op_notInT hu pins s σ H _ _ v u Q I rx ry ⟨d, ds, h1, h2, h3, h4, q⟩
    · exact op_notInD hu pins s σ H _ _ v u Q I rx ry ⟨d, ds, h1, h2, h3, h4, q⟩
end
end Mi
end L2

/-! Mini: truth, subscripts, built-ins, methods of lists. -/
namespace L2
namespace Mi
open PySem PySem.Spec PyProof.Rows

section
variable {K : KC} {φ ψ : List Addr} {H : Hp}
theorem RTs.empty {ts : List T} {vs : List V} (h : RTs K φ ψ H ts vs) : ts.isEmpty = vs.isEmpty := by cases h <;> rfl
theorem RTs.cut {ts : List T} {vs : List V} (h : RTs K φ ψ H ts vs) (lo hi : Option Int) : RTs K φ ψ H (cutT ts lo hi) (cutV vs lo hi) := by
  unfold cutT cutV
  rw [h.length]
  exact (h.drop _).take _
theorem atI_ok {ts : List T} {vs : List V} {i : Int} {t : T} (h : RTs K φ ψ H ts vs) (e : atI ts i = some t) : ∃ v, atI vs i = some v ∧ RT K φ ψ H t v := by
  unfold atI at e ⊢
  obtain ⟨j, hj, e⟩ := Option.bind_eq_some_iff.mp e
  obtain ⟨v, h1, h2⟩ := h.get e
  exact ⟨v, Option.bind_eq_some_iff.mpr ⟨j, by rw [← h.length]; exact hj, h1⟩, h2⟩
theorem cutT_all {ts : List T} {lo hi : Option Int} (h : HT.sIx ts.length 0 lo = 0 ∧ HT.sIx ts.length ts.length hi = ts.length) : cutT ts lo hi = ts := by
  unfold cutT
  rw [h.1, h.2]
  simp
end
theorem maxL_mem : ∀ {ns : List Int}, ns ≠ [] → maxL ns ∈ ns ∧ ∀ y ∈ ns, y ≤ maxL ns
  | [], h => absurd rfl h
  | [x], _ => by simp [maxL]
  | x :: y :: r, _ => by
    obtain ⟨h1, h2⟩ := maxL_mem (ns := y :: r) (by simp)
    have e : maxL (x :: y :: r) = if x < maxL (y :: r) then maxL (y :: r) else x := rfl
    rw [e]
    by_cases h : x < maxL (y :: r)
    · rw [if_pos h]
      refine ⟨List.mem_cons_of_mem _ h1, fun z hz => ?_⟩
      rcases List.mem_cons.mp hz with q | q
      · rw [q]; omega
      · exact h2 z q
    · rw [if_neg h]
      refine ⟨List.mem_cons_self, fun z hz => ?_⟩
      rcases List.mem_cons.mp hz with q | q
      · rw [q]; exact Int.le_refl _
      · have := h2 z q; omega
theorem minL_mem : ∀ {ns : List Int}, ns ≠ [] → minL ns ∈ ns ∧ ∀ y ∈ ns, minL ns ≤ y
  | [], h => absurd rfl h
  | [x], _ => by simp [minL]
  | x :: y :: r, _ => by
    obtain ⟨h1, h2⟩ := minL_mem (ns := y :: r) (by simp)
    have e : minL (x :: y :: r) = if minL (y :: r) < x then minL (y :: r) else x := rfl
    rw [e]
    by_cases h : minL (y :: r) < x
    · rw [if_pos h]
      refine ⟨List.mem_cons_of_mem _ h1, fun z hz => ?_⟩
      rcases List.mem_cons.mp hz with q | q
      · rw [q]; omega
      · exact h2 z q
    · rw [if_neg h]
      refine ⟨List.mem_cons_self, fun z hz => ?_⟩
      rcases List.mem_cons.mp hz with q | q
      · rw [q]; exact Int.le_refl _
      · have := h2 z q; omega
theorem insI_perm (x : Int) : ∀ l : List Int, (insI x l).Perm (x :: l)
  | [] => .refl _
  | y :: l => by
    unfold insI
    split
    · exact .refl _
    · exact ((insI_perm x l).cons y).trans (.swap x y l)
theorem insI_up (x : Int) : ∀ l : List Int, l.Pairwise (· ≤ ·) → (insI x l).Pairwise (· ≤ ·)
  | [], _ => by simp [insI]
  | y :: l, h => by
    obtain ⟨h1, h2⟩ := List.pairwise_cons.mp h
    unfold insI
    split
    · rename_i hx
      refine List.pairwise_cons.mpr ⟨fun z hz => ?_, h⟩
      rcases List.mem_cons.mp hz with q | q
      · rw [q]; exact hx
      · have := h1 z q; omega
    · rename_i hx
      refine List.pairwise_cons.mpr ⟨fun z hz => ?_, insI_up x l h2⟩
      rcases List.mem_cons.mp ((insI_perm x l).mem_iff.mp hz) with q | q
      · rw [q]; omega
      · exact h1 z q
theorem sortI_perm : ∀ l : List Int, (sortI l).Perm l
  | [] => .refl _
  | x :: l => (insI_perm x _).trans ((sortI_perm l).cons x)
theorem sortI_up : ∀ l : List Int, (sortI l).Pairwise (· ≤ ·)
  | [] => .nil
  | x :: l => insI_up x _ (sortI_up l)
theorem up_same : ∀ {a b : List Int}, a.Perm b → a.Pairwise (· ≤ ·) → b.Pairwise (· ≤ ·) → a = b
  | [], b, h, _, _ => (List.Perm.nil_eq h)
  | x :: a, [], h, _, _ => by simpa using h.length_eq
  | x :: a, y :: b, h, ha, hb => by
    obtain ⟨ha1, ha2⟩ := List.pairwise_cons.mp ha
    obtain ⟨hb1, hb2⟩ := List.pairwise_cons.mp hb
    have e : x = y := by
      have hx : x ∈ y :: b := h.mem_iff.mp List.mem_cons_self
      have hy : y ∈ x :: a := h.mem_iff.mpr List.mem_cons_self
      rcases List.mem_cons.mp hx with q | q
      · exact q
      · rcases List.mem_cons.mp hy with p | p
        · exact p.symm
        · have := hb1 x q; have := ha1 y p; omega
    subst e
    rw [up_same (List.Perm.cons_inv h) ha2 hb2]
section
variable {X : Cx} {K : KC}
/-! ### truth -/
def rTru (K : KC) (x : V) (H : Hp) (Q : Bool → Hp → Prop) : Prop := ∃ φ ψ M t b, RM K φ ψ H M ∧ RT K φ ψ H t x ∧ truth M t = some b ∧ Q b H
theorem truV_of (hK : K.K = X.K) {φ ψ : List Addr} {H : Hp} {M : Mem} {t : T} {v : V} {b : Bool} (rm : RM K φ ψ H M) (r : RT K φ ψ H t v) (e : truth M t = some b) : TruV X.K v H b := by
  have sz := szl
  unfold truth at e
  split at e
  · cases e; cases r; exact rfl
  · cases e; cases r; exact rfl
  · cases e; cases r; exact rfl
  · split at e
    · cases e; cases r; exact ⟨by omega, rfl⟩
    · cases e
  · cases e
    cases r with
    | tup h1 h2 => exact .inr (.inl ⟨_, hK ▸ h1.sq, by rw [h2.empty]⟩)
  · obtain ⟨ts, h, rfl⟩ := Option.map_eq_some_iff.mp e
    obtain ⟨a, vs, rfl, h1, h2⟩ := lofS_ok rm r h
    exact .inl ⟨vs, hK ▸ h1, by rw [h2.empty]⟩
theorem op_tru (hK : K.K = X.K) : TruR X (rTru K) := by
  intro pins s σ H x v Q I rx h
  obtain ⟨φ, ψ, M, t, b, rm, r, e, q⟩ := h
  exact tru_ok pins s σ H x v Q I rx ⟨b, truV_of hK rm r e, q⟩
/-! ### subscripts -/
def rIxM (K : KC) : R2 := fun vx vy H Q => ∃ φ ψ M x y t, RM K φ ψ H M ∧ RT K φ ψ H x vx ∧ RT K φ ψ H y vy ∧ ixT x y M = some t ∧ ∀ v, RT K φ ψ H t v → Q v H
theorem op_ix (hK : K.K = X.K) (hu : X.A.units + 1 < cLine) : IxR X (rIxM K) := by
  intro value slice pins s σ H vx vy v u Q I rx ry h hs
  obtain ⟨φ, ψ, M, x, y, t, rm, r1, r2, e, q⟩ := h
  have sz := szl
  unfold ixT at e
  split at e
  · rename_i tk ks ts hd
    split at e
    · rename_i hk
      obtain ⟨a, o, rfl, g, h3, h4⟩ := lkp_ok rm r1 r2 hd hk
      obtain ⟨w, rfl, rw'⟩ := h4 t e
      cases (show v = Value.ref a from rx)
      exact tail_any (dict_typeIs I g) PySem.F.slot_dict_getitem.lookup (d_getItem hu I g ry fun w' s' I' r' => ⟨w, H, I', r', q w rw'⟩) hs
    · cases e
  · split at e
    · split at e
      · obtain ⟨c, hc, rfl⟩ := Option.map_eq_some_iff.mp e
        cases r1; cases r2
        exact ix_str value slice pins s σ H _ _ v u Q I rx ry ⟨_, _, c, rfl, rfl, by omega, hc, q _ (.str _)⟩ hs
      · cases e
    · obtain ⟨ts, ht, e⟩ := Option.bind_eq_some_iff.mp e
      obtain ⟨a, vs, rfl, h2, h3⟩ := sof_ok rm r1 ht
      cases r2
      obtain ⟨w, hw, rw'⟩ := atI_ok h2 e
      rcases h3 with ⟨h3, _⟩ | ⟨h3, _⟩
      · exact ix_list value slice pins s σ H _ _ v u Q I rx ry ⟨a, vs, _, w, rfl, rfl, hK ▸ h3, hw, q w rw'⟩ hs
      · exact ix_tup value slice pins s σ H _ _ v u Q I rx ry ⟨a, vs, _, w, rfl, rfl, hK ▸ h3, hw, q w rw'⟩ hs
    · cases e
theorem get_strM {pins : List (Addr × Obj)} {s : Shared} {σ : L2.St} {H : Hp} {Q : VK} {z : Str} {i : Int} {tk tk' : Tok} {c : Nat} (I : Inv X pins σ H s) (hz : z.length ≤ 16777216) (hc : atI z.cps.toList i = some c) (q : Q (.str ⟨#[c]⟩) H) :
    wpAny (model X.prog X.w) X.A (getItem (.str z tk) (.int i tk')) (EP X pins σ Q) X.xe s := by
  obtain ⟨j, h1, h2, h3, h4, h5⟩ := atI_get hc
  have hl : z.cps.toList.length = z.length := by simp [Str.length]
  rw [hl] at h1 h4 h5
  exact getItem_str (c := c) (by
    have e1 : decide (i < -(2 ^ 63 : Int)) = false := decide_eq_false (by omega)
    have e2 : decide (i ≥ 2 ^ 63) = false := decide_eq_false (by omega)
    rw [e1, e2, Bool.or_false]) (by rw [h1]; simpa using h2) ⟨.str ⟨#[c]⟩, H, I.tok _, ⟨_, rfl⟩, q⟩
theorem get_listM {pins : List (Addr × Obj)} {s : Shared} {σ : L2.St} {H : Hp} {Q : VK} {a : Addr} {vs : List V} {i : Int} {tk' : Tok} {w : V} (I : Inv X pins σ H s) (h3 : SqL X.K H a vs) (hw : atI vs i = some w) (q : Q w H) :
    wpAny (model X.prog X.w) X.A (getItem (.ref a) (.int i tk')) (EP X pins σ Q) X.xe s := by
  have sz := szl
  have hn := line63
  obtain ⟨j, h4, h5, h6, h7, h8⟩ := atI_get hw
  obtain ⟨its, r, pl, hz⟩ := I.list h3
  obtain ⟨z, ew, rz⟩ := r.get h5
  have hl := r.length
  have fin : EP X pins σ Q z s := ⟨w, H, I, rz, q⟩
  by_cases h0 : 0 ≤ i
  · have hj : i.toNat = j := by
      rw [seqIndex_of h0 h8] at h4
      exact Option.some.inj h4
    exact wpAny_getItem_list pl.isList h0 (by omega) (by rw [hj]; simpa using ew) fin
  · have hj : (i + (its.toArray.size : Int)).toNat = j := by
      rw [seqIndex_neg (by omega) h7] at h4
      rw [List.size_toArray, ← hl]
      exact Option.some.inj h4
    exact wpAny_getItem_list_neg pl.isList (by omega) (by rw [List.size_toArray] <;> omega) (by omega) (by rw [hj]; simpa using ew) fin
theorem get_tupM {pins : List (Addr × Obj)} {s : Shared} {σ : L2.St} {H : Hp} {Q : VK} {a : Addr} {vs : List V} {i : Int} {tk' : Tok} {w : V} (I : Inv X pins σ H s) (h3 : SqT X.K H a vs) (hw : atI vs i = some w) (q : Q w H) :
    wpAny (model X.prog X.w) X.A (getItem (.ref a) (.int i tk')) (EP X pins σ Q) X.xe s := by
  have sz := szl
  have hn := line63
  obtain ⟨j, h4, h5, h6, h7, h8⟩ := atI_get hw
  obtain ⟨its, r, pl, hz⟩ := I.tuple h3
  obtain ⟨z, ew, rz⟩ := r.get h5
  have hl := r.length
  exact getItem_tuple (j := j) pl (by omega) (by omega) (by rw [List.size_toArray, ← hl]; exact h4) (by simpa using ew) ⟨w, H, I, rz, q⟩
/-- o[i] by values, for augmented stores -/
theorem get_ix (hK : K.K = X.K) (hu : X.A.units + 1 < cLine) : PGet X (rIxM K) := by
  intro pins s σ H vx vy v u Q I rx ry h
  obtain ⟨φ, ψ, M, x, y, t, rm, r1, r2, e, q⟩ := h
  unfold ixT at e
  split at e
  · rename_i tk ks ts hd
    split at e
    · rename_i hk
      obtain ⟨a, o, rfl, g, h3, h4⟩ := lkp_ok rm r1 r2 hd hk
      obtain ⟨w, rfl, rw'⟩ := h4 t e
      cases (show v = Value.ref a from rx)
      exact d_getItem hu I g ry fun w' s' I' r' => ⟨w, H, I', r', q w rw'⟩
    · cases e
  · split at e
    · split at e
      · rename_i hz
        obtain ⟨c, hc, rfl⟩ := Option.map_eq_some_iff.mp e
        cases r1; cases r2
        obtain ⟨tk, rfl⟩ := rx
        obtain ⟨tk', rfl⟩ := ry
        exact get_strM I hz hc (q _ (.str _))
      · cases e
    · obtain ⟨ts, ht, e⟩ := Option.bind_eq_some_iff.mp e
      obtain ⟨a, vs, rfl, h2, h3⟩ := sof_ok rm r1 ht
      cases r2
      obtain ⟨w, hw, rw'⟩ := atI_ok h2 e
      obtain ⟨tk', rfl⟩ := ry
      cases (show v = Value.ref a from rx)
      rcases h3 with ⟨h3, _⟩ | ⟨h3, _⟩
      · exact get_listM I (hK ▸ h3) hw (q w rw')
      · exact get_tupM I (hK ▸ h3) hw (q w rw')
    · cases e
def rSlM (K : KC) (tr : Bool) : V → Option Int → Option Int → Hp → VK → Prop := fun vx lo hi H Q => ∃ φ ψ M x t M', RM K φ ψ H M ∧ RT K φ ψ H x vx ∧ slT tr x lo hi M = some (t, M') ∧ Ok1 K φ ψ H t M' Q
theorem op_sl (hK : K.K = X.K) (tr : Bool) : SlR X (rSlM K tr) := by
  intro pins s σ H vx v vl vu lo hi sl Q I rx hs pl pu h
  obtain ⟨φ, ψ, M, x, t, M', rm, r1, e, ok⟩ := h
  unfold slT at e
  split at e
  · rename_i ts
    cases e
    cases r1 with
    | tup h1 h2 =>
      have hl := h2.length
      refine sl_tupA pins s σ H _ v vl vu lo hi sl Q I rx hs pl pu ⟨_, _, rfl, hK ▸ h1.sq, fun hw => ?_, fun hw p hp => ?_⟩
      · rw [← hl] at hw
        rw [cutT_all hw] at ok
        exact ok.here rm (.tup h1 h2)
      · exact ok.newTup rm (h2.cut lo hi) hp
  · obtain ⟨ts, ht, e⟩ := Option.map_eq_some_iff.mp e
    obtain ⟨rfl, rfl⟩ := Prod.mk.inj e
    obtain ⟨a, vs, rfl, h1, h2⟩ := lofS_ok rm r1 ht
    exact sl_list pins s σ H _ v vl vu lo hi sl Q I rx hs pl pu ⟨a, vs, rfl, hK ▸ h1, fun p hp => ok.newL rm (h2.cut lo hi) hp⟩
/-! ### o[i] = v -/
/-- what is wanted of a memory -/
def OkM (K : KC) (φ ψ : List Addr) (H : Hp) (M : Mem) (Q : Hp → Prop) : Prop := ∀ φ' H', Ext φ H φ' H' → RM K φ' ψ H' M → Q H'
end
end Mi
end L2

/-! Mini: stores, built-ins, methods of lists. -/
namespace L2
namespace Mi
open PySem PySem.Spec PyProof.Rows

section
variable {K : KC} {φ ψ : List Addr} {H : Hp}
theorem any_keys {α : Type} [DecidableEq α] {f : α → T} (hf : ∀ a b, eqT (f a) (f b) = decide (a = b)) (kvs : List (α × V)) (k : α) : ((kvs.map fun p => f p.1).any fun x => eqT x (f k)) = kvs.any fun kv => decide (kv.1 = k) := by
  rw [List.any_map]
  congr 1
  funext p
  exact hf p.1 k
theorem put_vals {α : Type} [DecidableEq α] {f : α → T} (hf : ∀ a b, eqT (f a) (f b) = decide (a = b)) {t : T} {v : V} (k : α) (rv : RT K φ ψ H t v) : ∀ {kvs : List (α × V)} {ts : List T}, RTs K φ ψ H ts (kvs.map (·.2)) →
    RTs K φ ψ H (List.zipWith (fun x y => if eqT x (f k) then t else y) (kvs.map fun p => f p.1) ts) ((kvs.map (fun kv => if kv.1 = k then (kv.1, v) else kv)).map (·.2))
  | [], _, h => by cases h; exact .nil
  | p :: r, _, h => by
    cases h with
    | cons h1 h2 =>
      simp only [List.map_cons, List.zipWith_cons_cons]
      refine .cons ?_ (put_vals hf k rv h2)
      rw [hf]
      by_cases e : p.1 = k
      · rw [if_pos (by simpa using e), if_pos e]; exact rv
      · rw [if_neg (by simpa using e), if_neg e]; exact h1
theorem put_keys {α : Type} [DecidableEq α] {f : α → T} (k : α) (v : V) (kvs : List (α × V)) : ((kvs.map (fun kv => if kv.1 = k then (kv.1, v) else kv)).map fun p => f p.1) = kvs.map fun p => f p.1 := by
  rw [List.map_map]
  apply List.map_congr_left
  intro p _
  simp only [Function.comp]
  split <;> rfl
theorem putD_ok {α : Type} [DecidableEq α] {f : α → T} (hf : ∀ a b, eqT (f a) (f b) = decide (a = b)) {t : T} {v : V} (k : α) (rv : RT K φ ψ H t v) {kvs : List (α × V)} {ts : List T} (h : RTs K φ ψ H ts (kvs.map (·.2))) :
    (putD (kvs.map fun p => f p.1) ts (f k) t).1 = (putK kvs k v).map (fun p => f p.1) ∧ RTs K φ ψ H (putD (kvs.map fun p => f p.1) ts (f k) t).2 ((putK kvs k v).map (·.2)) := by
  unfold putD putK
  rw [any_keys hf]
  split
  · exact ⟨(put_keys k v kvs).symm, put_vals hf k rv h⟩
  · refine ⟨by simp, ?_⟩
    rw [List.map_append]
    exact h.append (.cons rv .nil)
end
section
variable {X : Cx} {K : KC}
def rSetM (K : KC) : TSet := fun vo vi vx H Q => ∃ φ ψ M o i x M', RM K φ ψ H M ∧ RT K φ ψ H o vo ∧ RT K φ ψ H i vi ∧ RT K φ ψ H x vx ∧ setT o i x M = some M' ∧ OkM K φ ψ H M' Q
theorem op_set (hK : K.K = X.K) (hu : X.A.units + 1 < cLine) : PSet X (rSetM K) := by
  intro pins s σ H vo vi vx ov iv u Q I ro ri rv h
  obtain ⟨φ, ψ, M, o, i, x, M', rm, r1, r2, r3, e, ok⟩ := h
  have sz := szl
  unfold setT at e
  split at e
  · cases r1 with
    | @obj a j ha =>
      split at e
      · rename_i ts hts
        split at e
        · obtain ⟨m, hm, rfl⟩ := Option.map_eq_some_iff.mp e
          cases r2
          obtain ⟨vs, h1, h2⟩ := rm.obj ha hts
          have x' : Ext φ H φ (upd H a (.lst (vs.set m vx))) := .write ha
          exact set_list pins s σ H _ _ vx ov iv u Q I ro ri rv ⟨a, vs, _, m, rfl, rfl, h1, by rw [← h2.length]; exact hm, ok φ _ x' (rm.write ha ⟨_, upd_same, (RTs.set r3 m h2).to x'⟩)⟩
        · cases e
      · rename_i tk ks ts hts
        split at e
        · rename_i hc
          obtain ⟨hk, hl⟩ := hc
          cases e
          rcases rm.obj ha hts with ⟨rfl, kvs, h1, rfl, h3⟩ | ⟨rfl, hkt, kvs, h1, rfl, h3⟩
          · have kx : isKey i = true := by
              cases i <;> first | exact hk | (simp [isKeyT, isKey] at hk)
            obtain ⟨key, rfl, rfl⟩ := key_of_isKey kx r2
            rw [List.length_map] at hl
            obtain ⟨p1, p2⟩ := putD_ok (fun a b => keyT_inj) key r3 h3
            have x' : Ext φ H φ (upd H a (.dK (putK kvs key vx))) := .write ha
            refine set_dict hu pins s σ H _ _ vx ov iv u Q I ro ri rv ⟨a, _, rfl, .k h1 (by omega), ok φ _ x' (rm.write ha ?_)⟩
            exact .inl ⟨rfl, _, upd_same, p1, p2.to x'⟩
          · cases r2 with
            | @tup b vs us g1 g2 =>
              simp only [isKeyT, Bool.true_and] at hk
              obtain ⟨key, rfl, rfl⟩ := keys_of hk g2
              rcases g1 with ⟨_, g1⟩ | ⟨g1, _⟩
              · rw [List.length_map] at hl
                obtain ⟨p1, p2⟩ := putD_ok (f := keyTT) (fun a b => keyTT_inj) key r3 h3
                have x' : Ext φ H φ (upd H a (.dT (putK kvs key vx))) := .write ha
                refine set_dict hu pins s σ H _ _ vx ov iv u Q I ro ri rv ⟨a, _, rfl, .t h1 g1 (by omega), ok φ _ x' (rm.write ha ?_)⟩
                exact .inr ⟨rfl, hkt, _, upd_same, p1, p2.to x'⟩
              · rw [hkt] at g1; cases g1
            | _ => simp [isKeyT, isKey] at hk
        · cases e
      · cases e
  · cases e
/-! ### built-ins -/
def biV : BI → Value
  | .len => .builtin "len"
  | .int => .type "int"
  | .abs => .builtin "abs"
  | .list _ => .type "list"
  | .tuple => .type "tuple"
  | .sum => .builtin "sum"
  | .all => .builtin "all"
  | .any => .builtin "any"
  | .max => .builtin "max"
  | .min => .builtin "min"
  | .sorted => .builtin "sorted"
def rBi (K : KC) (b : BI) : List V → Hp → VK → Prop := fun vs H Q => ∃ φ ψ M ts t M', RM K φ ψ H M ∧ RTs K φ ψ H ts vs ∧ biT b ts M = some (t, M') ∧ Ok1 K φ ψ H t M' Q
theorem op_bi (hK : K.K = X.K) (hc : X.calm = true) (b : BI) : CallR X (biV b) (rBi K b) := by
  intro pins s σ H vs us Q I rv h
  obtain ⟨φ, ψ, M, ts, t, M', rm, r, e, ok⟩ := h
  have sz := szl
  unfold biT at e
  split at e
  · -- len
    cases r with | cons r1 r2 =>
    cases r2
    rename_i v
    split at e
    · rename_i tk ks us' hd
      cases e
      obtain ⟨a, rfl, ⟨rfl, kvs, h1, rfl, h3⟩ | ⟨rfl, hkt, kvs, h1, rfl, h3⟩⟩ := dof_ok rm r1 hd
      · refine call_lenD pins s σ H _ us Q I rv ⟨a, kvs, rfl, h1, ?_⟩
        rw [List.length_map] at ok
        exact ok.here rm (.int _)
      · refine call_len_dT pins s σ H _ us Q I rv ⟨a, kvs, rfl, h1, ?_⟩
        rw [List.length_map] at ok
        exact ok.here rm (.int _)
    · obtain ⟨zs, hz, e⟩ := Option.map_eq_some_iff.mp e
      cases e
      obtain ⟨a, vs, rfl, h2, h3⟩ := sof_ok rm r1 hz
      rw [h2.length] at ok
      rcases h3 with ⟨h3, _⟩ | ⟨h3, _⟩
      · exact call_len_seq pins s σ H _ us Q I rv ⟨a, vs, rfl, .inl (hK ▸ h3), ok.here rm (.int _)⟩
      · exact call_len_seq pins s σ H _ us Q I rv ⟨a, vs, rfl, .inr (hK ▸ h3), ok.here rm (.int _)⟩
  · cases e
    cases r with | cons r1 r2 =>
    cases r2
    cases r1
    exact call_int1 pins s σ H _ us Q I rv (.inl ⟨_, rfl, ok.here rm (.int _)⟩)
  · cases e
    cases r with | cons r1 r2 =>
    cases r2
    cases r1
    exact call_int1 pins s σ H _ us Q I rv (.inr ⟨_, rfl, ok.here rm (.int _)⟩)
  · cases e
    cases r with | cons r1 r2 =>
    cases r2
    cases r1
    exact call_abs pins s σ H _ us Q I rv ⟨_, rfl, ok.here rm (.int _)⟩
  · -- list
    obtain ⟨zs, hz, e⟩ := Option.map_eq_some_iff.mp e
    obtain ⟨rfl, rfl⟩ := Prod.mk.inj e
    cases r with | cons r1 r2 =>
    cases r2
    obtain ⟨a, vs, rfl, h2, h3⟩ := sof_ok rm r1 hz
    rcases h3 with ⟨h3, _⟩ | ⟨h3, _⟩
    · exact call_list_of pins s σ H _ us Q I rv ⟨a, vs, rfl, .inl (hK ▸ h3), fun p hp => ok.newL rm h2 hp⟩
    · exact call_list_of pins s σ H _ us Q I rv ⟨a, vs, rfl, .inr (hK ▸ h3), fun p hp => ok.newL rm h2 hp⟩
  · -- tuple
    obtain ⟨zs, hz, e⟩ := Option.map_eq_some_iff.mp e
    cases e
    cases r with | cons r1 r2 =>
    cases r2
    obtain ⟨a, vs, rfl, h2, h3⟩ := sof_ok rm r1 hz
    rcases h3 with ⟨h3, _⟩ | ⟨h3, rfl⟩
    · exact call_tuple_of pins s σ H _ us Q I rv ⟨a, vs, rfl, .inl ⟨hK ▸ h3, fun p hp => ok.newTup rm h2 hp⟩⟩
    · exact call_tuple_of pins s σ H _ us Q I rv ⟨a, vs, rfl, .inr ⟨hK ▸ h3, ok.here rm r1⟩⟩
  · -- sum
    obtain ⟨zs, hz, e⟩ := Option.bind_eq_some_iff.mp e
    obtain ⟨ns, hn, e⟩ := Option.map_eq_some_iff.mp e
    cases e
    cases r with | cons r1 r2 =>
    cases r2
    obtain ⟨a, vs, rfl, h2, h3⟩ := lof_ok rm r1 hz
    obtain rfl := intsOf_ok hn
    obtain rfl := h3.ints
    exact cr_sum hc pins s σ H _ us Q I rv ⟨a, ns, rfl, .of h2, ok.here rm (.int _)⟩
  · obtain ⟨zs, hz, e⟩ := Option.bind_eq_some_iff.mp e
    obtain ⟨ns, hn, e⟩ := Option.map_eq_some_iff.mp e
    cases e
    cases r with | cons r1 r2 =>
    cases r2
    obtain ⟨a, vs, rfl, h2, h3⟩ := lof_ok rm r1 hz
    obtain rfl := blsOf_ok hn
    obtain rfl := h3.bls
    exact cr_all hc pins s σ H _ us Q I rv ⟨a, ns, rfl, .of h2, ok.here rm (.bl _)⟩
  · obtain ⟨zs, hz, e⟩ := Option.bind_eq_some_iff.mp e
    obtain ⟨ns, hn, e⟩ := Option.map_eq_some_iff.mp e
    cases e
    cases r with | cons r1 r2 =>
    cases r2
    obtain ⟨a, vs, rfl, h2, h3⟩ := lof_ok rm r1 hz
    obtain rfl := blsOf_ok hn
    obtain rfl := h3.bls
    exact cr_any hc pins s σ H _ us Q I rv ⟨a, ns, rfl, .of h2, ok.here rm (.bl _)⟩
  · cases e
    cases r with | cons r1 r2 =>
    cases r2 with | cons r2 r3 =>
    cases r3
    cases r1
    cases r2
    exact call_max2 hc pins s σ H _ us Q I rv ⟨_, _, rfl, ok.here rm (.int _)⟩
  · cases e
    cases r with | cons r1 r2 =>
    cases r2 with | cons r2 r3 =>
    cases r3
    cases r1
    cases r2
    exact call_min2 hc pins s σ H _ us Q I rv ⟨_, _, rfl, ok.here rm (.int _)⟩
  · obtain ⟨zs, hz, e⟩ := Option.bind_eq_some_iff.mp e
    obtain ⟨ns, hn, e⟩ := Option.bind_eq_some_iff.mp e
    split at e
    · cases e
    · rename_i hne
      cases e
      cases r with | cons r1 r2 =>
      cases r2
      obtain ⟨a, vs, rfl, h2, h3⟩ := lof_ok rm r1 hz
      obtain rfl := intsOf_ok hn
      obtain rfl := h3.ints
      obtain ⟨m1, m2⟩ := maxL_mem hne
      refine cr_max hc pins s σ H _ us Q I rv ⟨a, ns, rfl, .of h2, List.length_pos_iff.mpr hne, fun m hm hb => ?_⟩
      have e : m = maxL ns := by have := hb _ m1; have := m2 m hm; omega
      subst e
      exact ok.here rm (.int _)
  · obtain ⟨zs, hz, e⟩ := Option.bind_eq_some_iff.mp e
    obtain ⟨ns, hn, e⟩ := Option.bind_eq_some_iff.mp e
    split at e
    · cases e
    · rename_i hne
      cases e
      cases r with | cons r1 r2 =>
      cases r2
      obtain ⟨a, vs, rfl, h2, h3⟩ := lof_ok rm r1 hz
      obtain rfl := intsOf_ok hn
      obtain rfl := h3.ints
      obtain ⟨m1, m2⟩ := minL_mem hne
      refine cr_min hc pins s σ H _ us Q I rv ⟨a, ns, rfl, .of h2, List.length_pos_iff.mpr hne, fun m hm hb => ?_⟩
      have e : m = minL ns := by have := hb _ m1; have := m2 m hm; omega
      subst e
      exact ok.here rm (.int _)
  · obtain ⟨zs, hz, e⟩ := Option.bind_eq_some_iff.mp e
    obtain ⟨ns, hn, e⟩ := Option.bind_eq_some_iff.mp e
    split at e
    · rename_i h64
      cases e
      cases r with | cons r1 r2 =>
      cases r2
      obtain ⟨a, vs, rfl, h2, h3⟩ := lof_ok rm r1 hz
      obtain rfl := intsOf_ok hn
      obtain rfl := h3.ints
      refine cr_sorted pins s σ H _ us Q I rv ⟨a, ns, rfl, .of h2, h64, fun ns' p hp hu hpn => ?_⟩
      have e : ns' = sortI ns := up_same (hp.trans (sortI_perm ns).symm) hu (sortI_up ns)
      subst e
      exact ok.newL (tr := false) rm (RTs.ints' _) hpn
    · cases e
  · cases e
/-! ### isinstance -/
def isTy (ty : String) : Prop := ty ∈ ["int", "bool", "list", "tuple", "str"]
def rIsiM (K : KC) (ty : String) : List V → Hp → VK → Prop := fun vs H Q => ∃ φ ψ M x v b, vs = [v, .ty ty] ∧ RM K φ ψ H M ∧ RT K φ ψ H x v ∧ isiT M ty x = some b ∧ Q (.bl b) H
theorem kit_ty2 (K : PySem.W.Frag) {a : String} {b : String} (ha : a ∈ ["NoneType", "bool", "int", "str", "tuple", "list"]) (hb : isTy b) : PySem.W.kitOne K (.type a) (.type b) = some (a == b || (a == "bool" && b == "int")) := by
  unfold isTy at hb
  simp only [List.mem_cons, List.not_mem_nil, or_false] at ha hb
  rcases ha with rfl | rfl | rfl | rfl | rfl | rfl <;> rcases hb with rfl | rfl | rfl | rfl | rfl <;> rfl
theorem op_isi (hK : K.K = X.K) {ty : String} (ht : isTy ty) : CallR X (.builtin "isinstance") (rIsiM K ty) := by
  intro pins s σ H vs us Q I rv h
  obtain ⟨φ, ψ, M, x, v, b, rfl, rm, r, e, q⟩ := h
  have go : ∀ (n : String), n ∈ ["NoneType", "bool", "int", "str", "tuple", "list"] → TyX X.K H v (.type n) → b = (n == ty || (n == "bool" && ty == "int")) → wpAny (model X.prog X.w) X.A (call (.builtin "isinstance") us) (EP X pins σ Q) X.xe s := by
    intro n hn tx hb
    exact call_isi pins s σ H _ us Q I rv ⟨v, .ty ty, .type n, .type ty, b, rfl, .ty ty, tx, by rw [hb]; exact kit_ty2 _ hn ht, q⟩
  have ht' : ty = "int" ∨ ty = "bool" ∨ ty = "list" ∨ ty = "tuple" ∨ ty = "str" := by
    unfold isTy at ht
    simpa using ht
  unfold isiT at e
  split at e
  · cases e; cases r
    exact go "NoneType" (by simp) (.base .non) (by rcases ht' with rfl | rfl | rfl | rfl | rfl <;> rfl)
  · cases e; cases r
    exact go "bool" (by simp) (.base (.bl _)) (by rcases ht' with rfl | rfl | rfl | rfl | rfl <;> rfl)
  · cases e; cases r
    exact go "int" (by simp) (.base (.int _)) (by rcases ht' with rfl | rfl | rfl | rfl | rfl <;> rfl)
  · cases e; cases r
    exact go "str" (by simp) (.base (.str _)) (by rcases ht' with rfl | rfl | rfl | rfl | rfl <;> rfl)
  · cases e
    cases r with | tup h1 h2 =>
    refine go "tuple" (by simp) ?_ (by rcases ht' with rfl | rfl | rfl | rfl | rfl <;> rfl)
    rcases h1 with ⟨_, h1⟩ | ⟨_, o, its, n, h1, h3, _⟩
    · exact .base (.tup h1)
    · exact .kTuple (hK ▸ h1) h3
  · cases e
    cases r with | fl h0 h1 h2 =>
    exact go "list" (by simp) (.base (.lst h1)) (by rcases ht' with rfl | rfl | rfl | rfl | rfl <;> rfl)
  · split at e
    · rename_i ts hts
      cases e
      cases r with | obj ha =>
      obtain ⟨vs, h1, h2⟩ := rm.obj ha hts
      exact go "list" (by simp) (.base (.lst h1)) (by rcases ht' with rfl | rfl | rfl | rfl | rfl <;> rfl)
    · cases e
  · cases e
/-! ### methods of lists -/
def bmId : BM → String
  | .append => "list.append"
  | .extend => "list.extend"
  | .pop0 => "list.pop"
  | .pop => "list.pop"
  | .reverse => "list.reverse"
  | .remove => "list.remove"
def rBm (K : KC) (b : BM) : V → List V → Hp → VK → Prop := fun vo vs H Q => ∃ φ ψ M o xs t M', RM K φ ψ H M ∧ RT K φ ψ H o vo ∧ RTs K φ ψ H xs vs ∧ bmT b o xs M = some (t, M') ∧ Ok1 K φ ψ H t M' Q
theorem findIdx_ok {ns : List Int} {k : Int} (h : k ∈ ns) : ns[ns.findIdx fun x => x == k]? = some k ∧ ∀ m : Nat, m < (ns.findIdx fun x => x == k) → ns[m]? ≠ some k := by
  have hl : (ns.findIdx fun x => x == k) < ns.length := List.findIdx_lt_length_of_exists ⟨k, h, by simp⟩
  refine ⟨?_, fun m hm e => ?_⟩
  · have := List.findIdx_getElem (w := hl)
    rw [List.getElem?_eq_getElem hl]
    simpa using this
  · have h1 := List.not_of_lt_findIdx hm
    obtain ⟨h2, h3⟩ := List.getElem?_eq_some_iff.mp e
    rw [h3] at h1
    simp at h1
theorem op_bm (b : BM) : MtM X (bmId b) (rBm K b) := by
  intro pins s σ H vo vs v us Q I rv rvs h
  obtain ⟨φ, ψ, M, o, xs, t, M', rm, r, rs, e, ok⟩ := h
  have sz := szl
  unfold bmT at e
  split at e
  · rename_i i
    split at e
    · rename_i ts hts
      cases r with | @obj a _ ha =>
      obtain ⟨zs, h1, h2⟩ := rm.obj ha hts
      have hl := h2.length
      split at e
      · split at e
        · rename_i hlen
          cases e
          cases rs with | cons r1 r2 =>
          cases r2
          rename_i y
          have x' : Ext φ H φ (upd H a (.lst (zs ++ [y]))) := .write ha
          exact mt_append pins s σ H _ _ v us Q I rv rvs ⟨a, zs, y, rfl, rfl, h1, by omega, ok φ _ _ x' (rm.write ha ⟨_, upd_same, (h2.append (.cons r1 .nil)).to x'⟩) .non⟩
        · cases e
      · obtain ⟨us', hu, e⟩ := Option.bind_eq_some_iff.mp e
        split at e
        · rename_i hlen
          cases e
          cases rs with | cons r1 r2 =>
          cases r2
          obtain ⟨b, ws, rfl, g1, g2⟩ := lof_ok rm r1 hu
          have hl2 := g2.length
          have x' : Ext φ H φ (upd H a (.lst (zs ++ ws))) := .write ha
          exact mt_extend pins s σ H _ _ v us Q I rv rvs ⟨a, b, zs, ws, rfl, rfl, h1, g1, by omega, ok φ _ _ x' (rm.write ha ⟨_, upd_same, (h2.append g2).to x'⟩) .non⟩
        · cases e
      · obtain ⟨y, hy, e⟩ := Option.map_eq_some_iff.mp e
        cases e
        cases rs
        obtain ⟨w, hw, rw'⟩ := h2.get hy
        have x' : Ext φ H φ (upd H a (.lst zs.dropLast)) := .write ha
        have hd : RTs K φ ψ H ts.dropLast zs.dropLast := by
          rw [List.dropLast_eq_take, List.dropLast_eq_take, hl]
          exact h2.take _
        exact mt_pop pins s σ H _ _ v us Q I rv rvs ⟨a, zs, w, rfl, rfl, h1, by rw [← hl]; exact hw, ok φ _ _ x' (rm.write ha ⟨_, upd_same, hd.to x'⟩) (rw'.to x')⟩
      · split at e
        · rename_i hk
          obtain ⟨j, hj, e⟩ := Option.bind_eq_some_iff.mp e
          obtain ⟨y, hy, e⟩ := Option.map_eq_some_iff.mp e
          cases e
          cases rs with | cons r1 r2 =>
          cases r2; cases r1
          obtain ⟨w, hw, rw'⟩ := h2.get hy
          have x' : Ext φ H φ (upd H a (.lst (zs.eraseIdx j))) := .write ha
          exact mt_popAt pins s σ H _ _ v us Q I rv rvs ⟨a, zs, _, j, w, rfl, rfl, h1, hk.1, hk.2, by rw [← hl]; exact hj, hw, ok φ _ _ x' (rm.write ha ⟨_, upd_same, (h2.eraseIdx j).to x'⟩) (rw'.to x')⟩
        · cases e
      · cases e
        cases rs
        have x' : Ext φ H φ (upd H a (.lst zs.reverse)) := .write ha
        exact mt_reverse pins s σ H _ _ v us Q I rv rvs ⟨a, zs, rfl, rfl, h1, ok φ _ _ x' (rm.write ha ⟨_, upd_same, h2.reverse.to x'⟩) .non⟩
      · obtain ⟨ns, hn, e⟩ := Option.bind_eq_some_iff.mp e
        split at e
        · rename_i hk
          cases e
          cases rs with | cons r1 r2 =>
          cases r2; cases r1
          obtain rfl := intsOf_ok hn
          obtain rfl := h2.ints
          obtain ⟨f1, f2⟩ := findIdx_ok hk
          exact mt_remove pins s σ H _ _ v us Q I rv rvs ⟨a, ns, _, _, rfl, rfl, h1, f1, f2, ok φ _ _ (.write ha) (rm.write ha ⟨_, upd_same, RTs.ints' _⟩) .non⟩
        · cases e
      · cases e
    · cases e
  · cases e
end
end Mi
end L2

/-! Mini: enumerate and zip over lists and tuples in any mix. -/
namespace L2
namespace Mi
open PySem PySem.Spec PyProof.Rows

/-- a list or a tuple (true) -/
def SqB (K : PySem.W.Frag) : Bool → Hp → Addr → List V → Prop
  | false, H, a, xs => SqL K H a xs
  | true, H, a, xs => SqT K H a xs
def IsB : Bool → Heap → Addr → Array Value → Prop
  | false, h, a, its => h.IsList a its
  | true, h, a, its => h.IsTuple a its
def ItB : Bool → Heap → Addr → Addr → Nat → Prop
  | false, h, it, a, i => h.IsListIter it a i
  | true, h, it, a, i => h.IsTupleIter it a i
def objB : Bool → Addr → Obj
  | false, a => { cls := .type "list_iterator", data := .fields #[.ref a, .int 0 0] }
  | true, a => { cls := .type "tuple_iterator", data := .fields #[.ref a, .int 0 0] }
theorem sqB {X : Cx} {pins : List (Addr × Obj)} {σ : L2.St} {H : Hp} {s : Shared} {b : Bool} {a : Addr} {xs : List V} (I : Inv X pins σ H s) (h : SqB X.K b H a xs) :
    ∃ its : List Value, Vals xs its ∧ IsB b s.heap a its.toArray ∧ xs.length ≤ sizeLine := by
  cases b with
  | false => obtain ⟨its, r, p, z⟩ := I.list h; exact ⟨its, r, p.isList, z⟩
  | true => obtain ⟨its, r, p, z⟩ := I.tuple h; exact ⟨its, r, p, z⟩
theorem sqB_inj {X : Cx} {pins : List (Addr × Obj)} {σ : L2.St} {H : Hp} {s : Shared} {b : Bool} {a : Addr} {xs ys : List V} (I : Inv X pins σ H s) (h : SqB X.K b H a xs) (h' : SqB X.K b H a ys) : xs = ys := by
  cases b with
  | false => exact I.list_inj h h'
  | true => exact I.tuple_inj h h'
theorem drawsB {prog : Program} {w : World} {A : Around} (hh : A.handled = none) (b : Bool) (it l : Addr) (hne : l ≠ it) (items : Array Value) :
    Draws prog w A it [it, l] items.size (fun i v => items[i]? = some v) (fun i h => ItB b h it l i ∧ IsB b h l items) := by
  cases b with
  | false => exact .list hh it l hne items
  | true => exact .tuple hh it l hne items
theorem beginsB (b : Bool) (l : Addr) (items : Array Value) : Begins (.ref l) (objB b l) fun h => IsB b h l items := by
  cases b with
  | false => exact begins_list l items
  | true => exact begins_tuple l items
theorem itB_0 {b : Bool} {h : Heap} {it a : Addr} (e : h.get? it = some (objB b a)) : ItB b h it a 0 := by
  cases b with
  | false => exact ⟨_, e, rfl, rfl⟩
  | true => exact ⟨_, e, rfl, rfl⟩
theorem itB_at {b : Bool} {h h' : Heap} {it a : Addr} {i : Nat} (x : ItB b h it a i) (k : ∀ o, h.get? it = some o → h'.get? it = some o) : ItB b h' it a i := by
  cases b with
  | false => obtain ⟨o, e, r⟩ := x; exact ⟨o, k o e, r⟩
  | true => obtain ⟨o, e, r⟩ := x; exact ⟨o, k o e, r⟩
theorem itB_obj {b : Bool} {h : Heap} {it a : Addr} {i : Nat} (x : ItB b h it a i) : ∃ o, h.get? it = some o ∧ ∀ v, o.data ≠ .cell v := by
  cases b with
  | false => obtain ⟨o, e, c, d⟩ := x; exact ⟨o, e, fun v z => by rw [d] at z; cases z⟩
  | true => obtain ⟨o, e, c, d⟩ := x; exact ⟨o, e, fun v z => by rw [d] at z; cases z⟩
theorem isB_lt {b : Bool} {h : Heap} {a : Addr} {its : Array Value} (x : IsB b h a its) : a < h.objs.size := by
  cases b with
  | false => obtain ⟨o, e, _⟩ := x; exact Heap.lt_size e
  | true => obtain ⟨o, e, _⟩ := x; exact Heap.lt_size e

/-- an iterator of new tuples -/
def JT (go : Nat → Hp → Prop) (its : Nat → Hp → List V → Prop) (stop : Nat → Hp → Prop) : It :=
  ⟨go, fun i H v H' => ∃ T vs, v = .ref T ∧ H T = none ∧ H' = upd H T (.tup vs) ∧ its i H vs, stop⟩
theorem turn_T {P : Program} {w : World} {K : PySem.W.Frag} {elts : List Expr} {kk : Nat} {tpos : Pos} {I₀ : Addr} {fp wr : List Addr} {tn : Nat → Heap → Prop} {go : Nat → Hp → Prop} {its : Nat → Hp → List V → Prop} {stop : Nat → Hp → Prop}
    (hI : I₀ ∈ fp) (hw : ∀ b ∈ wr, b ∈ fp)
    (obj : ∀ i h, tn i h → ∀ b ∈ fp, ∃ o, h.get? b = some o ∧ ∀ v, o.data ≠ .cell v)
    (keep : ∀ i h h', tn i h → (∀ b ∈ fp, ∀ o, h.get? b = some o → h'.get? b = some o) → tn i h')
    (W : ∀ (X : Cx), X.prog = P → X.w = w → X.K = K → X.calm = true → ∀ (i : Nat) (pins : List (Addr × Obj)) (s : Shared) (σ : L2.St) (H : Hp), Inv X pins σ H s → tn i s.heap → (go i H ∨ stop i H) →
      ∃ n Pt St Mid fpW, WalksT P w X.A I₀ fpW wr n Pt St Mid ∧ St i s.heap ∧ (go i H → i < n ∧ ∀ vals, Pt i vals → ∃ vs, Vals vs vals.toList ∧ vs.length ≤ sizeLine ∧ its i H vs) ∧ (stop i H → i = n) ∧ ∀ h, St (i + 1) h → tn (i + 1) h)
    (self : ∀ (A : Around) (i : Nat) (s : Shared) (Q : Value → Shared → Prop) (E : Value → Shared → Prop), tn i s.heap → Q (.ref I₀) s → wpAny (model P w) A (pyIter (.ref I₀)) Q E s) :
    Turn P w K (.Tuple elts kk tpos) (JT go its stop) fp I₀ tn where
  mem := hI
  obj := obj
  keep := keep
  item := by
    intro X hP hw' hK hc i pins s σ H E I hf st hg
    obtain ⟨n, Pt, St, Mid, fpW, Wk, hst, h1, h2, h3⟩ := W X hP hw' hK hc i pins s σ H I st (.inl hg)
    subst hP hw' hK
    obtain ⟨hlt, hv⟩ := h1 hg
    refine Wk.item i s _ _ hlt hst fun T vals h' tk hP hnew hT hm hk => ⟨_, rfl, ?_⟩
    refine Wk.go elts kk tpos i T { s with heap := h', toks := tk } _ _ hm fun h'' hst'' hk'' => ?_
    obtain ⟨vs, rv, hz, hits⟩ := hv vals hP
    have hTw : T ∉ wr := Wk.apart i T h' hm
    obtain ⟨o, ho, hc', nn, hd⟩ := hT
    have hT2 : h''.get? T = some o := hk'' T o hTw ho
    have new : ObjOk X.prog X.w (upd H T (.tup vs)) h'' T (.tup vs) := ⟨hz, vals.toList, rv, o, hT2, hc', nn, by rw [hd]⟩
    have I1 : Inv X pins σ (upd H T (.tup vs)) { s with heap := h'', toks := tk } :=
      I.turnedNew (ch := wr) (fun b ob hb q => hk'' b ob hb (hk b ob hb q)) (fun b hb => hf b (hw b hb)) hnew new
    refine ⟨.ref T, _, I1, rfl, ⟨T, vs, rfl, I.hok.fresh hnew, rfl, hits⟩, h3 h'' hst'', fun b hb => ?_⟩
    obtain ⟨ob, hob, _⟩ := obj i s.heap st b hb
    have hb' : b < s.heap.objs.size := Heap.lt_size hob
    rw [upd_ne (Nat.ne_of_lt (Nat.lt_of_lt_of_le hb' hnew))]
    exact (hf b hb).1
  done := by
    intro X hP hw' hK hc i pins s σ H E I hf st hg
    obtain ⟨n, Pt, St, Mid, fpW, Wk, hst, h1, h2, h3⟩ := W X hP hw' hK hc i pins s σ H I st (.inr hg)
    subst hP hw' hK
    obtain rfl := h2 hg
    refine Wk.done s _ _ hst fun h' tk hk => ⟨rfl, ?_⟩
    exact I.step (g' := s.gens) (d' := s.drawn) (ch := wr) (fun b hb => ⟨(hf b (hw b hb)).2.2.2.1, (hf b (hw b hb)).2.1, (hf b (hw b hb)).2.2.2.2.1, (hf b (hw b hb)).2.2.2.2.2⟩) (fun b o _ _ hc e _ => hk b o hc e) (fun b o _ _ hc e _ => ⟨o.slots, hk b o hc e⟩)
      (fun b o _ e nn => nn) (fun b o hc e => ⟨o, hk b o hc e⟩) (fun b xs e => e) (fun b o u e => e) (fun b ps e => ⟨#[], by rw [e]; simp⟩) (fun m hm => by
        obtain ⟨o, es, ep, ho, r⟩ := hm
        exact ⟨o, es, ep, hk _ o (fun z => (hf _ (hw _ z)).2.1 rfl) ho, r⟩) (fun b u e => by
        have nit : ∀ b u, H b = some u → b ∉ wr := fun b u e z => by
          have q := (hf b (hw b z)).1
          rw [q] at e; cases e
        refine (I.hok b u e).stay (fun c v hc q => hk c v ?_ q) (fun c q => q) fun c xs q => q
        rcases hc with z | z
        · rw [z]; exact nit b u e
        · exact nit c _ z) I.bare
  self := self
/-! ### enumerate -/
def Jen (K : PySem.W.Frag) (b : Bool) (a : Addr) : It := JT (fun i H => ∃ xs, SqB K b H a xs ∧ i < xs.length) (fun i H vs => ∀ xs, SqB K b H a xs → ∃ x, xs[i]? = some x ∧ vs = [.int (i : Nat), x]) (fun i H => ∃ xs, SqB K b H a xs ∧ i = xs.length)
theorem two_le : 2 ≤ sizeLine := by rw [szl]; decide
theorem three_le : 3 ≤ sizeLine := by rw [szl]; decide
theorem turn_en {P : Program} {w : World} {K : PySem.W.Frag} {elts : List Expr} {kk : Nat} {tpos : Pos} (b : Bool) (a e it : Addr) (h1 : e ≠ it) (h2 : a ≠ e) (h3 : a ≠ it) :
    Turn P w K (.Tuple elts kk tpos) (Jen K b a) [e, it] e (fun i h => (∃ old, IsEnum h e it ((i : Nat) : Int) old) ∧ ItB b h it a i) := by
  refine turn_T (wr := [e, it]) (by simp) (fun b hb => hb) (fun i h st c hc => ?_) (fun i h h' st k => ?_) (fun X hP hw hK hc i pins s σ H I st hg => ?_) (fun A i s Q E st h => let ⟨⟨_, he⟩, _⟩ := st; wpAny_pyIter_enum he h)
  · obtain ⟨⟨old, he⟩, hi⟩ := st
    have hc' : c = e ∨ c = it := by simpa using hc
    rcases hc' with rfl | rfl
    · exact ⟨_, he, fun v q => nomatch q⟩
    · exact itB_obj hi
  · obtain ⟨⟨old, he⟩, hi⟩ := st
    exact ⟨⟨old, k e (by simp) _ he⟩, itB_at hi fun o q => k it (by simp) o q⟩
  · subst hP hw hK
    obtain ⟨⟨old, he⟩, hi⟩ := st
    have hx : ∃ xs, SqB X.K b H a xs := by rcases hg with ⟨xs, h, _⟩ | ⟨xs, h, _⟩ <;> exact ⟨xs, h⟩
    obtain ⟨xs, hx⟩ := hx
    obtain ⟨vs, rv, ib, hz⟩ := sqB I hx
    have hl := rv.length
    have D := drawsB (prog := X.prog) (w := X.w) (A := X.A.in1) (show X.A.in1.handled = none from I.ok.hd hc) b it a h3 vs.toArray
    refine ⟨_, _, _, _, _, WalksT.enumFrom 0 D e h1 (by simp only [List.mem_cons, List.not_mem_nil, or_false, not_or]; exact ⟨h1, Ne.symm h2⟩) (by simp), ⟨⟨old, by rw [Int.zero_add]; exact he⟩, hi, ib⟩, fun hg => ⟨?_, fun vals hv => ?_⟩, fun hg => ?_, fun h st => ?_⟩
    · obtain ⟨ys, hy, hlt⟩ := hg
      rw [sqB_inj I hy hx] at hlt
      simp only [List.size_toArray]
      omega
    · obtain ⟨t, x, hx1, rfl⟩ := hv
      have hx1 : vs.toArray[i]? = some x := hx1
      have hi1 : vs[i]? = some x := by simpa using hx1
      obtain ⟨hil, _⟩ := List.getElem?_eq_some_iff.mp hi1
      have hxl : i < xs.length := by omega
      obtain ⟨u, hu, ru⟩ := rv.get (List.getElem?_eq_getElem hxl)
      rw [hi1] at hu
      cases hu
      refine ⟨[.int (i : Nat), xs[i]], .cons ⟨t, by rw [Int.zero_add]⟩ (.cons ru .nil), two_le, fun ys hy => ?_⟩
      rw [sqB_inj I hy hx]
      exact ⟨xs[i], List.getElem?_eq_getElem hxl, rfl⟩
    · obtain ⟨ys, hy, rfl⟩ := hg
      rw [sqB_inj I hy hx]
      simp only [List.size_toArray]
      omega
    · obtain ⟨⟨old, he⟩, hi, _⟩ := st
      rw [Int.zero_add] at he
      exact ⟨⟨old, he⟩, hi⟩
theorem meets_enumerate_new1 {v : Value} {o : Obj} {H : Heap → Prop} (B : Begins v o H) :
    Meets (Builtin.«enumerate.__new__» ⟨[.type "enumerate", v], []⟩) (fun _ R s => H s.heap ∧
      R (.ok (.ret (.ref (s.heap.push o).objs.size))) { s with heap := (s.heap.push o).push { cls := .type "enumerate", data := .fields #[.none, .bool false, .ref s.heap.objs.size, rawInt 0, .none, .none] } }) :=
  .of_wp fun prog w A R s h => by
    obtain ⟨hp, g, d, tk, os⟩ := s; obtain ⟨h1, h⟩ := h
    have hsub := sub_enumerate
    have q1 : ∀ {A' : Around} {E : Value → Shared → Prop} {Q : Value → Shared → Prop}, Q (.ref hp.objs.size) ⟨hp.push o, g, d, tk, os⟩ → wpAny (model prog w) A' (pyIter v) Q E ⟨hp, g, d, tk, os⟩ :=
      fun q => B.iter prog w _ _ ⟨hp, g, d, tk, os⟩ _ h1 q
    wp_walk using q1
    refine wpAny_stack_any fun st => wpAny_pure ?_
    split
    · rename_i c _ _ _ _ _
      cases (c == Value.type "enumerate")
      · wp_walk using q1
        exact ⟨_, rfl, h⟩
      · wp_walk using q1
        exact ⟨_, rfl, h⟩
    · wp_walk using q1
      exact ⟨_, rfl, h⟩
theorem enum_begins1 {prog : Program} {w : World} {A : Around} {E : Value → Shared → Prop} {s : Shared} {v : Value} {o : Obj} {H : Heap → Prop} {Q : Value → Shared → Prop} (B : Begins v o H) (h1 : H s.heap)
    (h : ∀ h', IsEnum h' (s.heap.objs.size + 1) s.heap.objs.size 0 .none → h'.get? s.heap.objs.size = some o → h'.objs.size = s.heap.objs.size + 2 →
      (∀ b o, s.heap.get? b = some o → h'.get? b = some o) → Q (.ref (s.heap.objs.size + 1)) { s with heap := h' }) :
    wpAny (model prog w) A (call (.type "enumerate") [v]) Q E s := by
  refine callType_new F.called_enumerate (by decide) (F.typeCall_enumerate_1 _) (F.newCall_enumerate_1 _) (fun obj => F.args_object_init_2 obj _) F.entry_enumerate_new
    (meets_enumerate_new1 B) ⟨h1, ?_⟩
  have hz : (s.heap.push o).objs.size = s.heap.objs.size + 1 := Heap.size_push ..
  show _ ∧ _
  rw [hz]
  have he : IsEnum ((s.heap.push o).push { cls := .type "enumerate", data := .fields #[.none, .bool false, .ref s.heap.objs.size, rawInt 0, .none, .none] }) (s.heap.objs.size + 1) s.heap.objs.size 0 .none := by
    have := Heap.get?_push_size (s.heap.push o) (o := { cls := .type "enumerate", data := .fields #[.none, .bool false, .ref s.heap.objs.size, rawInt 0, .none, .none] }) rfl
    rw [hz] at this; exact this
  refine ⟨⟨_, he, rfl⟩, h _ he (Heap.get?_push_of_some _ (Heap.get?_push_size _ B.free)) (by rw [Heap.size_push, hz]) fun b o x => Heap.get?_push_of_some _ (Heap.get?_push_of_some _ x)⟩
def iEn (K : PySem.W.Frag) (ta : TA) : TI := fun σ H R => ta σ H fun vs H1 => ∃ a b xs, vs = [.ref a] ∧ SqB K b H1 a xs ∧ R (Jen K b a) H1
theorem pi_en {X : Cx} {e : Expr} {ta : TA} {p pos tpos : Pos} {elts : List Expr} {kk : Nat} (hg : Gl X "enumerate") (hm : X.mg "enumerate" = none) (ha : PA X [e] ta) (hst : starEach [e] X.env = [(false, eval e X.env)]) :
    PI X (.Tuple elts kk tpos) (.Call (.Name "enumerate" p) [e] [] pos) (iEn X.K ta) := by
  refine ⟨fun pins s σ H R I h => ?_⟩
  refine Call_ (ld_blt I hg hm boot_enumerate (PyProof.Rows.callWith_type1 (thn (ha.run pos pins s σ H _ I h) fun us s1 ⟨vs, H1, I1, r1, q1⟩ => ?_) hst rfl))
  obtain ⟨a, b, xs, ex, hq, q⟩ := q1
  subst ex
  cases r1 with | cons r rr =>
  cases rr
  cases r
  obtain ⟨its, rv, p', hz⟩ := sqB I1 hq
  refine enum_begins1 (beginsB b a its.toArray) p' fun h' he hit hsz hk => wpAny_pyIter_enum he ?_
  have I2 : Inv X pins σ H1 { s1 with heap := h' } := I1.kept (t' := s1.toks) hk
  have hlt := isB_lt p'
  refine ⟨s1.heap.objs.size + 1, [s1.heap.objs.size + 1, s1.heap.objs.size], _, _, H1, rfl, I2, turn_en b a (s1.heap.objs.size + 1) s1.heap.objs.size (Nat.succ_ne_self _) (Nat.ne_of_lt (Nat.lt_succ_of_lt hlt)) (Nat.ne_of_lt hlt), ⟨⟨.none, he⟩, itB_0 hit⟩, fun c hc => ?_, q⟩
  have e' : c = s1.heap.objs.size + 1 ∨ c = s1.heap.objs.size := by simpa using hc
  have hle : s1.heap.objs.size ≤ c := by
    rcases e' with z | z
    · rw [z]; exact Nat.le_add_right _ _
    · rw [z]; exact Nat.le_refl _
  exact I1.fpOk hle (I1.hok.fresh hle)
end Mi
end L2

/-! Mini: zip of two and of three. -/
namespace L2
namespace Mi
open PySem PySem.Spec PyProof.Rows

theorem notIn2 {x i a : Addr} (h1 : x ≠ i) (h2 : a ≠ x) : x ∉ [i, a] := by
  simp only [List.mem_cons, List.not_mem_nil, or_false, not_or]
  exact ⟨h1, Ne.symm h2⟩
def Jz2 (K : PySem.W.Frag) (b1 b2 : Bool) (a1 a2 : Addr) : It := JT (fun i H => ∃ xs ys, SqB K b1 H a1 xs ∧ SqB K b2 H a2 ys ∧ i < min xs.length ys.length)
  (fun i H vs => ∀ xs ys, SqB K b1 H a1 xs → SqB K b2 H a2 ys → ∃ x y, xs[i]? = some x ∧ ys[i]? = some y ∧ vs = [x, y]) (fun i H => ∃ xs ys, SqB K b1 H a1 xs ∧ SqB K b2 H a2 ys ∧ i = min xs.length ys.length)
structure Apart2 (z TI TO i1 i2 a1 a2 : Addr) : Prop where
  TIz : TI ≠ z
  TOz : TO ≠ z
  TITO : TI ≠ TO
  TIi1 : TI ≠ i1
  TIi2 : TI ≠ i2
  zi1 : z ≠ i1
  zi2 : z ≠ i2
  TOi1 : TO ≠ i1
  TOi2 : TO ≠ i2
  i12 : i1 ≠ i2
  a1z : a1 ≠ z
  a1T : a1 ≠ TO
  a1i1 : a1 ≠ i1
  a1i2 : a1 ≠ i2
  a2z : a2 ≠ z
  a2T : a2 ≠ TO
  a2i1 : a2 ≠ i1
  a2i2 : a2 ≠ i2
theorem Apart2.sep {z TI TO i1 i2 a1 a2 : Addr} (h : Apart2 z TI TO i1 i2 a1 a2) : ZipSep2 z TI TO i1 i2 [i1, a1] [i2, a2] :=
  ⟨h.TIz, h.TOz, h.TITO, h.TIi1, by simp, notIn2 h.zi1 h.a1z, notIn2 h.TOi1 h.a1T, h.TIi2, by simp, notIn2 h.zi2 h.a2z, notIn2 h.TOi2 h.a2T, notIn2 h.i12 h.a2i1, notIn2 (Ne.symm h.i12) h.a1i2⟩
theorem apart2 {N a1 a2 : Nat} (h1 : a1 < N) (h2 : a2 < N) : Apart2 (N + 4) (N + 2) (N + 3) N (N + 1) a1 a2 := by
  constructor <;> (show (_ : Nat) ≠ _) <;> omega
theorem turn_z2 {P : Program} {w : World} {K : PySem.W.Frag} {elts : List Expr} {kk : Nat} {tpos : Pos} (b1 b2 : Bool) {z TI TO i1 i2 a1 a2 : Addr} (D : Apart2 z TI TO i1 i2 a1 a2) :
    Turn P w K (.Tuple elts kk tpos) (Jz2 K b1 b2 a1 a2) [z, TI, TO, i1, i2] z
      (fun i h => IsZip h z TI TO .none ∧ IsTupOf2 h TI (.ref i1) (.ref i2) ∧ (∃ x1 x2, IsTupOf2 h TO x1 x2) ∧ ItB b1 h i1 a1 i ∧ ItB b2 h i2 a2 i) := by
  refine turn_T (wr := [z, TO, i1, i2]) (by simp) (fun b hb => by simp at hb ⊢; rcases hb with h | h | h | h <;> simp [h]) (fun i h st c hc => ?_) (fun i h h' st k => ?_) (fun X hP hw hK hc i pins s σ H I st hg => ?_) (fun A i s Q E st h => wpAny_pyIter_zip st.1 h)
  · obtain ⟨hz, ht, ⟨x1, x2, ho⟩, hi1, hi2⟩ := st
    have hc' : c = z ∨ c = TI ∨ c = TO ∨ c = i1 ∨ c = i2 := by simpa using hc
    rcases hc' with rfl | rfl | rfl | rfl | rfl
    · exact ⟨_, hz, fun v q => nomatch q⟩
    · exact ⟨_, ht, fun v q => nomatch q⟩
    · exact ⟨_, ho, fun v q => nomatch q⟩
    · exact itB_obj hi1
    · exact itB_obj hi2
  · obtain ⟨hz, ht, ⟨x1, x2, ho⟩, hi1, hi2⟩ := st
    exact ⟨k z (by simp) _ hz, k TI (by simp) _ ht, ⟨x1, x2, k TO (by simp) _ ho⟩, itB_at hi1 fun o q => k i1 (by simp) o q, itB_at hi2 fun o q => k i2 (by simp) o q⟩
  · subst hP hw hK
    obtain ⟨hz, ht, ho, hi1, hi2⟩ := st
    have hx : ∃ xs ys, SqB X.K b1 H a1 xs ∧ SqB X.K b2 H a2 ys := by rcases hg with ⟨xs, ys, h, h', _⟩ | ⟨xs, ys, h, h', _⟩ <;> exact ⟨xs, ys, h, h'⟩
    obtain ⟨xs, ys, hx, hy⟩ := hx
    obtain ⟨vs, rv, ib, hzz⟩ := sqB I hx
    obtain ⟨us, ru, ib2, hzz2⟩ := sqB I hy
    have hl := rv.length
    have hl2 := ru.length
    have hh : X.A.in1.handled = none := I.ok.hd hc
    have D1 := drawsB (prog := X.prog) (w := X.w) (A := X.A.in1) hh b1 i1 a1 D.a1i1 vs.toArray
    have D2 := drawsB (prog := X.prog) (w := X.w) (A := X.A.in1) hh b2 i2 a2 D.a2i2 us.toArray
    refine ⟨_, _, _, _, _, WalksT.zipD2 D.sep D1 D2, ⟨hz, ht, ho, ⟨hi1, ib⟩, hi2, ib2⟩, fun hg => ⟨?_, fun vals hv => ?_⟩, fun hg => ?_, fun h st => ?_⟩
    · obtain ⟨xs', ys', hx', hy', hlt⟩ := hg
      rw [sqB_inj I hx' hx, sqB_inj I hy' hy] at hlt
      simp only [List.size_toArray]
      omega
    · obtain ⟨x, y, hx1, hy1, rfl⟩ := hv
      have e1 : vs[i]? = some x := by simpa using hx1
      have e2 : us[i]? = some y := by simpa using hy1
      obtain ⟨l1, _⟩ := List.getElem?_eq_some_iff.mp e1
      obtain ⟨l2, _⟩ := List.getElem?_eq_some_iff.mp e2
      have m1 : i < xs.length := by omega
      have m2 : i < ys.length := by omega
      obtain ⟨u1, hu1, r1⟩ := rv.get (List.getElem?_eq_getElem m1)
      obtain ⟨u2, hu2, r2⟩ := ru.get (List.getElem?_eq_getElem m2)
      rw [e1] at hu1; cases hu1
      rw [e2] at hu2; cases hu2
      refine ⟨[xs[i], ys[i]], .cons r1 (.cons r2 .nil), two_le, fun xs' ys' hx' hy' => ?_⟩
      rw [sqB_inj I hx' hx, sqB_inj I hy' hy]
      exact ⟨_, _, List.getElem?_eq_getElem m1, List.getElem?_eq_getElem m2, rfl⟩
    · obtain ⟨xs', ys', hx', hy', rfl⟩ := hg
      rw [sqB_inj I hx' hx, sqB_inj I hy' hy]
      simp only [List.size_toArray]
      omega
    · obtain ⟨hz, ht, ho, ⟨hi1, _⟩, hi2, _⟩ := st
      exact ⟨hz, ht, ho, hi1, hi2⟩
def iZ2 (K : PySem.W.Frag) (ta : TA) : TI := fun σ H R => ta σ H fun vs H1 => ∃ a1 a2 b1 b2 xs ys, vs = [.ref a1, .ref a2] ∧ SqB K b1 H1 a1 xs ∧ SqB K b2 H1 a2 ys ∧ R (Jz2 K b1 b2 a1 a2) H1
theorem pi_z2 {X : Cx} {e e2 : Expr} {ta : TA} {p pos tpos : Pos} {elts : List Expr} {kk : Nat} (hg : Gl X "zip") (hm : X.mg "zip" = none) (ha : PA X [e, e2] ta)
    (hs : starEach [e, e2] X.env = (false, eval e X.env) :: starEach [e2] X.env) (hpl : (backTo pos (starEach [e2] X.env)).any (·.1) = false) :
    PI X (.Tuple elts kk tpos) (.Call (.Name "zip" p) [e, e2] [] pos) (iZ2 X.K ta) := by
  refine ⟨fun pins s σ H R I h => ?_⟩
  refine Call_ (ld_blt I hg hm PyProof.Rows.boot_zip (PyProof.Rows.callWith_type1 (thn (ha.run pos pins s σ H _ I h) fun us s1 ⟨vs, H1, I1, r1, q1⟩ => ?_) hs hpl))
  obtain ⟨a1, a2, b1, b2, xs, ys, ex, hqx, hqy, q⟩ := q1
  subst ex
  cases r1 with | cons r rr =>
  cases rr with | cons r' rr =>
  cases rr
  cases r
  cases r'
  obtain ⟨its, rv, p1, _⟩ := sqB I1 hqx
  obtain ⟨its2, rv2, p2, _⟩ := sqB I1 hqy
  refine zip_begins2 (beginsB b1 a1 its.toArray) (beginsB b2 a2 its2.toArray) p1 p2 fun h' hz hTI hTO h1 h2 hsz hk => wpAny_pyIter_zip hz ?_
  have I2 : Inv X pins σ H1 { s1 with heap := h' } := I1.kept (t' := s1.toks) hk
  refine ⟨s1.heap.objs.size + 4, [s1.heap.objs.size + 4, s1.heap.objs.size + 2, s1.heap.objs.size + 3, s1.heap.objs.size, s1.heap.objs.size + 1], _, _, H1, rfl, I2, turn_z2 b1 b2 (apart2 (isB_lt p1) (isB_lt p2)), ⟨hz, hTI, ⟨_, _, hTO⟩, itB_0 h1, itB_0 h2⟩, fun c hcm => ?_, q⟩
  have e' : c = s1.heap.objs.size + 4 ∨ c = s1.heap.objs.size + 2 ∨ c = s1.heap.objs.size + 3 ∨ c = s1.heap.objs.size ∨ c = s1.heap.objs.size + 1 := by simpa using hcm
  have hle : s1.heap.objs.size ≤ c := by
    rcases e' with z | z | z | z | z
    · rw [z]; exact Nat.le_add_right _ _
    · rw [z]; exact Nat.le_add_right _ _
    · rw [z]; exact Nat.le_add_right _ _
    · rw [z]; exact Nat.le_refl _
    · rw [z]; exact Nat.le_add_right _ _
  exact I1.fpOk hle (I1.hok.fresh hle)
end Mi
end L2

/-! Mini: what the model's text asks of the forms of expressions. -/
namespace L2
namespace Mi
open PySem PySem.Spec PyProof.Rows

def notStar : Expr → Bool
  | .Starred _ _ => false
  | _ => true
def notSup : Expr → Bool
  | .Call (.Name _ _) [] [] _ => false
  | _ => true
def notSl : Expr → Bool
  | .Slice _ _ _ _ => false
  | _ => true
def notComp : Expr → Bool
  | .ListComp _ _ _ _ => false
  | .SetComp _ _ _ _ => false
  | .DictComp _ _ _ _ _ => false
  | _ => true
def notSet : Expr → Bool
  | .Set _ _ _ => false
  | _ => true
def notTup : Expr → Bool
  | .Tuple _ _ _ => false
  | .List _ _ => false
  | _ => true
def isName : Expr → Bool
  | .Name _ _ => true
  | _ => false
theorem star_cons {e : Expr} {es : List Expr} {env : Env} (h : notStar e = true) : starEach (e :: es) env = (false, eval e env) :: starEach es env := by
  cases e <;> first | rfl | (simp [notStar] at h)
theorem assign_cons {e : Expr} {es : List Expr} {env : Env} (h : notStar e = true) : assignEach (e :: es) env = (false, assign e env) :: assignEach es env := by
  cases e <;> first | rfl | (simp [notStar] at h)
theorem star_map {env : Env} : ∀ {es : List Expr}, es.all notStar = true → starEach es env = es.map fun e => (false, eval e env)
  | [], _ => rfl
  | e :: es, h => by
    simp only [List.all_cons, Bool.and_eq_true] at h
    rw [star_cons h.1, star_map h.2]; rfl
theorem assign_map {env : Env} : ∀ {es : List Expr}, es.all notStar = true → assignEach es env = es.map fun e => (false, assign e env)
  | [], _ => rfl
  | e :: es, h => by
    simp only [List.all_cons, Bool.and_eq_true] at h
    rw [assign_cons h.1, assign_map h.2]; rfl
theorem back_any {env : Env} {pos : Pos} {es : List Expr} (h : es.all notStar = true) : (backTo pos (starEach es env)).any (·.1) = false := by
  rw [star_map h]
  unfold backTo
  rw [List.map_map, List.any_map]
  apply List.any_eq_false.mpr
  intro x _
  simp
theorem back_all {env : Env} {pos : Pos} {es : List Expr} (h : es.all notStar = true) : (backTo pos (starEach es env)).all (fun x => !x.1) = true := by
  rw [star_map h]
  unfold backTo
  rw [List.map_map, List.all_map]
  apply List.all_eq_true.mpr
  intro x _
  rfl
theorem back_few {env : Env} {pos : Pos} {es : List Expr} (h : es.all notStar = true) (hl : es.length < 29) : ((backTo pos (starEach es env)).all (fun x => !x.1) && (backToKw pos (keywordEach [] env)).all (fun x => x.1.isSome)
      && decide (es.length + ([] : List Keyword).length + (if ([] : List Keyword).isEmpty then 0 else 1) < 30)) = true := by
  rw [back_all h, Bool.true_and]
  have e : (backToKw pos (keywordEach [] env)).all (fun x => x.1.isSome) = true := rfl
  rw [e, Bool.true_and]
  exact decide_eq_true (by simp; omega)
theorem sup_base {o : Expr} {f : Str} {env : Env} {whole : Sem Value} (h : notSup o = true) : attributeBase o f env whole = whole := by
  unfold attributeBase
  split
  · simp [notSup] at h
  · rfl
theorem meth_eq {o : Expr} {m : Str} {apos pos : Pos} {args : List Expr} {env : Env} (h : notSup o = true) (hs : args.all notStar = true) (hl : args.length < 29) (hp : (apos.endLine == pos.line) = true) :
    eval (.Call (.Attribute o m apos) args [] pos) env = (do
      let ov ← eval o env
      standAt apos.atName
      let (f, first) ← holding [ov] (getMethod ov m (do return (← importBound o env).getD true))
      callWith pos f first (backTo pos (starEach args env)) (backToKw pos (keywordEach [] env))) := by
  have few : methodCallForm (args.length + ([] : List Keyword).length) (backTo pos (starEach args env)) (backToKw pos (keywordEach [] env)) = true := by
    have := back_few (env := env) (pos := pos) hs hl
    unfold methodCallForm
    exact this
  show (do
    let ov ← attributeBase o m env (eval o env)
    standAt apos.atName
    methodCall o m apos pos env ov (args.length + ([] : List Keyword).length) (backTo pos (starEach args env)) (backToKw pos (keywordEach [] env))) = _
  rw [sup_base h]
  congr 1
  funext ov
  congr 1
  funext u
  unfold methodCall
  rw [few]
  unfold calleeOf methodCallPos
  rw [hp]
  rfl
theorem plain_ix {b : Expr} (h : notSl b = true) : ∀ o i, subscripted b false o i = operate [o, i] (getItem o i) := by
  intro o i
  cases b <;> first | rfl | (simp [notSl] at h)
theorem aug_ix {i : Expr} (h : notSl i = true) : ∀ ov iv new, augStore i ov iv new = (do holding [new, ov, iv] (setItem ov iv new); release [new, ov, iv] []; pure .next) := by
  intro ov iv new
  cases i <;> first | rfl | (simp [notSl] at h)
theorem sub_assign {o i : Expr} {pos : Pos} {env : Env} (h : notSl i = true) : ∀ v, assign (.Subscript o i pos) env v = (do
      let ov ← holding [v] (eval o env)
      let iv ← holding [v, ov] (eval i env)
      standAt pos
      holding [v, ov, iv] (setItem ov iv v)
      release [v, ov, iv] []) := by
  intro v
  cases i <;> first | rfl | (simp [notSl] at h)
theorem sw_not {e : Expr} {t : Option Expr} {l : Nat} {env : Env} (h : notComp e = true) : swapsWith e t l env = pure false := by
  cases e <;> first | rfl | (simp [notComp] at h)
theorem sw_tgt {e t : Expr} {l : Nat} {env : Env} (h : isName t = false) : swapsWith e (some t) l env = pure false := by
  unfold swapsWith
  cases e <;> first
    | rfl
    | (cases t <;> first | rfl | (simp [isName] at h))
theorem fold_set {e : Expr} {env : Env} (h : notSet e = true) : ∀ x, foldedSetIterable e env x = pure x := by
  intro x
  cases e <;> first | rfl | (simp [notSet] at h)
theorem st_none {t e : Expr} {env : Env} (h : notTup t = true ∨ notTup e = true) : swappedStores [t] e env = pure none := by
  unfold swappedStores
  rcases h with h | h
  · cases t <;> first | rfl | (simp [notTup] at h)
  · cases e <;> first
      | (cases t <;> rfl)
      | (simp [notTup] at h)
theorem beh {op : CmpOp} {e : Expr} (h : notSet e = true) : behindInMarks op e = false := by
  cases e <;> first | rfl | (simp [notSet] at h)
theorem star_any {vs : List Expr} (h : vs.all notStar = true) : (vs.any fun | .Starred .. => true | _ => false) = false := by
  apply List.any_eq_false.mpr
  intro x hx
  have := List.all_eq_true.mp h x hx
  cases x <;> first | exact Bool.false_ne_true | (simp [notStar] at this)
theorem star_one : ∀ e : Expr, (match e with | .Starred _ _ => true | _ => false) = true → notStar e = false := by
  intro e h
  cases e <;> first | rfl | exact nomatch h
theorem sw2 {x y : Str} {a b : Expr} {px py p1 p2 : Pos} {k1 k2 : Nat} {env : Env} (hk : env.scope.kind = .function) (hx : env.scope.names.lookup x = some .local) (hy : env.scope.names.lookup y = some .local) (hl : py.line = px.line) (hne : x ≠ y)
    (hs : [a, b].all notStar = true) (h6 : [a, b].all (foldedForSure 8) = false) (h7 : [a, b].all (constantsAlone 8) = false) :
    swappedStores [.Tuple [.Name x px, .Name y py] k1 p1] (.Tuple [a, b] k2 p2) env = pure (some [x, y]) := by
  have hb : env.blockKind = .function := by unfold Env.blockKind; rw [hk]; rfl
  have hx' : env.kindOf x = some .local := hx
  have hy' : env.kindOf y = some .local := hy
  have e1 : (x == y) = false := beq_eq_false_iff_ne.mpr hne
  have e2 : (y == x) = false := beq_eq_false_iff_ne.mpr (Ne.symm hne)
  have h3 := star_any hs
  have lx : (Expr.Name x px).pos.line = px.line := rfl
  unfold swappedStores
  simp only [hb, h3, h6, h7, List.length_cons, List.length_nil, List.filterMap_cons, List.filterMap_nil, List.head?_cons, Option.map_some, Option.getD_some, hx', hy', lx, hl, beq_self_eq_true, Bool.and_self, if_true]
  simp [List.eraseDups_cons, e1, e2, hne]
  intro q
  exfalso
  simp only [List.all_cons, List.all_nil, Bool.and_true, Bool.and_eq_true] at hs
  rcases q with q | q
  · exact Bool.noConfusion ((star_one _ q).symm.trans hs.1)
  · exact Bool.noConfusion ((star_one _ q).symm.trans hs.2)
theorem sw3 {x y z : Str} {a b c : Expr} {px py pz p1 p2 : Pos} {k1 k2 : Nat} {env : Env} (hk : env.scope.kind = .function) (hx : env.scope.names.lookup x = some .local) (hy : env.scope.names.lookup y = some .local) (hz : env.scope.names.lookup z = some .local) (hl : py.line = px.line) (hl2 : pz.line = px.line)
    (hne : x ≠ y) (hne2 : x ≠ z) (hne3 : y ≠ z)
    (hs : [a, b, c].all notStar = true) (h6 : [a, b, c].all (foldedForSure 8) = false) (h7 : [a, b, c].all (constantsAlone 8) = false) :
    swappedStores [.Tuple [.Name x px, .Name y py, .Name z pz] k1 p1] (.Tuple [a, b, c] k2 p2) env = pure (some [x, y, z]) := by
  have hb : env.blockKind = .function := by unfold Env.blockKind; rw [hk]; rfl
  have hx' : env.kindOf x = some .local := hx
  have hy' : env.kindOf y = some .local := hy
  have hz' : env.kindOf z = some .local := hz
  have h3 := star_any hs
  have lx : (Expr.Name x px).pos.line = px.line := rfl
  have f1 := Ne.symm hne
  have f2 := Ne.symm hne2
  have f3 := Ne.symm hne3
  unfold swappedStores
  simp only [hb, h3, h6, h7, List.length_cons, List.length_nil, List.filterMap_cons, List.filterMap_nil, List.head?_cons, Option.map_some, Option.getD_some, hx', hy', hz', lx, hl, hl2, beq_self_eq_true, Bool.and_self, if_true]
  simp [List.eraseDups_cons, hne, hne2, hne3, f1, f2, f3]
  intro q
  exfalso
  simp only [List.all_cons, List.all_nil, Bool.and_true, Bool.and_eq_true] at hs
  rcases q with q | q | q
  · exact Bool.noConfusion ((star_one _ q).symm.trans hs.1)
  · exact Bool.noConfusion ((star_one _ q).symm.trans hs.2.1)
  · exact Bool.noConfusion ((star_one _ q).symm.trans hs.2.2)
end Mi
end L2

/-! Mini: readings, what a loop walks, the table of defs. -/
namespace L2
namespace Mi
open PySem PySem.Spec PyProof.Rows

theorem Tr.refl {φ ψ : List Addr} {H : Hp} : Tr φ ψ H φ ψ H := ⟨fun _ _ e => e, fun _ _ h e => ⟨h, e⟩⟩
theorem Tr.trans {φ φ1 φ2 ψ ψ1 ψ2 : List Addr} {H H1 H2 : Hp} (x : Tr φ ψ H φ1 ψ1 H1) (y : Tr φ1 ψ1 H1 φ2 ψ2 H2) : Tr φ ψ H φ2 ψ2 H2 :=
  ⟨fun i a e => y.get i a (x.get i a e), fun a o h e => let ⟨h1, e1⟩ := x.keep a o h e; y.keep a o h1 e1⟩

def OkB (K : KC) (φ ψ : List Addr) (H : Hp) (b : Bool) (M : Mem) (Q : Bool → Hp → Prop) : Prop := ∀ φ' H', Ext φ H φ' H' → RM K φ' ψ H' M → Q b H'
def OkL (K : KC) (φ ψ : List Addr) (H : Hp) (ts : List T) (M : Mem) (Q : List V → Hp → Prop) : Prop := ∀ φ' H' vs, Ext φ H φ' H' → RM K φ' ψ H' M → RTs K φ' ψ H' ts vs → Q vs H'
def Post (K : KC) (φ ψ : List Addr) (H : Hp) (D : Ends) : R → Prop
  | .nx env M => ∀ φ' H' σ', Ext φ H φ' H' → RM K φ' ψ H' M → RE K φ' ψ H' env σ' → D.nx σ' H'
  | .rt t M => ∀ φ' H' v, Ext φ H φ' H' → RM K φ' ψ H' M → RT K φ' ψ H' t v → D.rt v H'
  | .bk env M => ∀ φ' H' σ', Ext φ H φ' H' → RM K φ' ψ H' M → RE K φ' ψ H' env σ' → D.bk σ' H'
  | .ct env M => ∀ φ' H' σ', Ext φ H φ' H' → RM K φ' ψ H' M → RE K φ' ψ H' env σ' → D.ct σ' H'
theorem Post.ext {K : KC} {φ φ1 ψ : List Addr} {H H1 : Hp} {D : Ends} {r : R} (p : Post K φ ψ H D r) (x : Ext φ H φ1 H1) : Post K φ1 ψ H1 D r := by
  cases r <;> exact fun φ' H' v y => p φ' H' v (x.trans y)

/-! ### readings -/
def tE (G : Sig) (K : KC) (m : ME) : TE := fun σ H Q => ∃ φ ψ env M t M', RE K φ ψ H env σ ∧ RM K φ ψ H M ∧ evE G m env M = some (t, M') ∧ Ok1 K φ ψ H t M' Q
def tT (G : Sig) (K : KC) (m : ME) : TT := fun σ H Q => ∃ φ ψ env M b M', RE K φ ψ H env σ ∧ RM K φ ψ H M ∧ tst (evE G m env M) = some (b, M') ∧ OkB K φ ψ H b M' Q
def tEs (G : Sig) (K : KC) (ms : MEs) : TA := fun σ H Q => ∃ φ ψ env M ts M', RE K φ ψ H env σ ∧ RM K φ ψ H M ∧ evEs G ms env M = some (ts, M') ∧ OkL K φ ψ H ts M' Q
def tIf (G : Sig) (K : KC) (ms : MEs) : TT := fun σ H Q => ∃ φ ψ env M b M', RE K φ ψ H env σ ∧ RM K φ ψ H M ∧ evIf G ms env M = some (b, M') ∧ OkB K φ ψ H b M' Q
def tP (G : Sig) (K : KC) (m : ME) : TO := fun σ H Q => ∃ φ ψ env M o M', RE K φ ψ H env σ ∧ RM K φ ψ H M ∧ evP G m env M = some (o, M') ∧ ∀ φ' H', Ext φ H φ' H' → RM K φ' ψ H' M' → Q o H'
mutual
def slT' : MT → List Nat
  | .nm i _ => [i]
  | .tp ts => slTs ts
def slTs : MTs → List Nat
  | .nil => []
  | .cons t ts => slT' t ++ slTs ts
end
/-- the same but at these places -/
def Ag (js : List Nat) (σ σ' : L2.St) : Prop := σ'.length = σ.length ∧ ∀ j, j ∉ js → σ'[j]? = σ[j]?
theorem Ag.trans {js ks : List Nat} {a b c : L2.St} (h : Ag js a b) (h' : Ag ks b c) : Ag (js ++ ks) a c :=
  ⟨h'.1.trans h.1, fun j hj => by rw [List.mem_append, not_or] at hj; exact (h'.2 j hj.2).trans (h.2 j hj.1)⟩
theorem wipe_in {σ : L2.St} {j : Nat} : ∀ {vs : List Nat}, j ∈ vs → j < σ.length → (wipe σ vs)[j]? = some none
  | v :: vs, h, hl => by
    unfold wipe
    by_cases e : v = j
    · subst e; rw [List.getElem?_set_self (by rw [wipe_length]; exact hl)]
    · rw [List.getElem?_set_ne e]
      exact wipe_in (by rcases List.mem_cons.mp h with q | q; exact absurd q.symm e; exact q) hl
theorem Ag.wipe {js vs : List Nat} {a b : L2.St} (h : Ag js a b) (hs : ∀ j ∈ js, j ∈ vs) : wipe b vs = wipe a vs := by
  apply List.ext_getElem?
  intro j
  by_cases hj : j ∈ vs
  · by_cases hl : j < a.length
    · rw [wipe_in hj hl, wipe_in hj (by rw [h.1]; exact hl)]
    · rw [List.getElem?_eq_none (by rw [wipe_length, h.1]; omega), List.getElem?_eq_none (by rw [wipe_length]; omega)]
  · rw [wipe_out hj, wipe_out hj]
    exact h.2 j fun q => hj (hs j q)
theorem wipe_wipe {σ : L2.St} {vs : List Nat} : wipe (wipe σ vs) vs = wipe σ vs := by
  apply List.ext_getElem?
  intro j
  by_cases hj : j ∈ vs
  · by_cases hl : j < σ.length
    · rw [wipe_in hj hl, wipe_in hj (by rw [wipe_length]; exact hl)]
    · rw [List.getElem?_eq_none (by rw [wipe_length, wipe_length]; omega), List.getElem?_eq_none (by rw [wipe_length]; omega)]
  · rw [wipe_out hj]
def gM (K : KC) (m : MT) : TG := fun v σ H Q => ∃ φ ψ env M t env', RE K φ ψ H env σ ∧ RM K φ ψ H M ∧ RT K φ ψ H t v ∧ asgT m t env = some env' ∧ ∀ σ', RE K φ ψ H env' σ' → Ag (slT' m) σ σ' → Q σ' H
def gMs (K : KC) (m : MTs) : TGs := fun vs σ H Q => ∃ φ ψ env M ts env', RE K φ ψ H env σ ∧ RM K φ ψ H M ∧ RTs K φ ψ H ts vs ∧ asgTs m ts env = some env' ∧ ∀ σ', RE K φ ψ H env' σ' → Ag (slTs m) σ σ' → Q σ' H
def tS (G : Sig) (K : KC) (s : MS) : TS := fun D σ H => ∃ φ ψ env M r, RE K φ ψ H env σ ∧ RM K φ ψ H M ∧ exS G s env M = some r ∧ Post K φ ψ H D r
def tSs (G : Sig) (K : KC) (s : List MS) : TS := fun D σ H => ∃ φ ψ env M r, RE K φ ψ H env σ ∧ RM K φ ψ H M ∧ exSs G s env M = some r ∧ Post K φ ψ H D r

/-! ### weaker readings -/
section
variable {X : Cx}
theorem PE.imp {e : Expr} {t t' : TE} (h : PE X e t) (hi : ∀ σ H Q, t' σ H Q → t σ H Q) : PE X e t' := ⟨fun pins s σ H Q I q => h.run pins s σ H Q I (hi σ H Q q)⟩
theorem PT.imp {e : Expr} {t t' : TT} (h : PT X e t) (hi : ∀ σ H Q, t' σ H Q → t σ H Q) : PT X e t' := ⟨fun pins s σ H Q I q => h.run pins s σ H Q I (hi σ H Q q)⟩
theorem PA.imp {e : List Expr} {t t' : TA} (h : PA X e t) (hi : ∀ σ H Q, t' σ H Q → t σ H Q) : PA X e t' := ⟨fun pos pins s σ H Q I q => h.run pos pins s σ H Q I (hi σ H Q q)⟩
theorem PS.imp {e : Stmt} {t t' : TS} (h : PS X e t) (hi : ∀ D σ H, t' D σ H → t D σ H) : PS X e t' := ⟨fun pins s σ H D I q => h.run pins s σ H D I (hi D σ H q)⟩
theorem PSs.imp {e : List Stmt} {t t' : TS} (h : PSs X e t) (hi : ∀ D σ H, t' D σ H → t D σ H) : PSs X e t' := ⟨fun pins s σ H D I q => h.run pins s σ H D I (hi D σ H q)⟩
theorem PTs.imp {e : List Expr} {t t' : TT} (h : PTs X e t) (hi : ∀ σ H Q, t' σ H Q → t σ H Q) : PTs X e t' := ⟨fun pins s σ H Q I q => h.run pins s σ H Q I (hi σ H Q q)⟩
theorem PG.imp {e : Expr} {t t' : TG} (h : PG X e t) (hi : ∀ v σ H Q, t' v σ H Q → t v σ H Q) : PG X e t' := ⟨fun pins s σ H v u Q I r q => h.run pins s σ H v u Q I r (hi v σ H Q q)⟩
theorem PGs.imp {e : List Expr} {t t' : TGs} (h : PGs X e t) (hi : ∀ v σ H Q, t' v σ H Q → t v σ H Q) : PGs X e t' := ⟨fun pins s σ H v u Q I r q => h.run pins s σ H v u Q I r (hi v σ H Q q)⟩
theorem PI.imp {tg e : Expr} {t t' : TI} (h : PI X tg e t) (hi : ∀ σ H R, t' σ H R → t σ H R) : PI X tg e t' := ⟨fun pins s σ H R I q => h.run pins s σ H R I (hi σ H R q)⟩
theorem PO.imp {e : Option Expr} {t t' : TO} (h : PO X e t) (hi : ∀ σ H Q, t' σ H Q → t σ H Q) : PO X e t' := ⟨fun pins s σ H Q I q => h.run pins s σ H Q I (hi σ H Q q)⟩
end

/-! ### the source of a walk -/
def isTup : T → Bool
  | .tup _ => true
  | _ => false
/-- a source that stands while its guard holds -/
theorem src_ok {K : KC} {φ0 φ ψ0 ψ : List Addr} {H0 H : Hp} {M0 M : Mem} {t : T} {v : V} {ts : List T} {g : List (Nat × List T)} (h : RT K φ0 ψ0 H0 t v) (e : sof M0 t = some ts) (x : Tr φ0 ψ0 H0 φ ψ H) (rm : RM K φ ψ H M) (hg : Grd g M) (hsub : ∀ p ∈ grdOf t ts, p ∈ g) :
    ∃ a vs, v = .ref a ∧ SqB K.K (isTup t) H a vs ∧ RTs K φ ψ H ts vs := by
  have h' := RT.tr x t v h
  have e' : sof M t = some ts := by
    cases t with
    | obj i =>
      have q := hg (i, ts) (hsub _ (by simp [grdOf]))
      simp only [sof, lofS, lof]
      rw [q]
    | _ => exact e
  obtain ⟨a, vs, rfl, h1, h2⟩ := sof_ok rm h' e'
  refine ⟨a, vs, rfl, ?_, h1⟩
  rcases h2 with ⟨h2, hne⟩ | ⟨h2, rfl⟩
  · have : isTup t = false := by
      cases t <;> first | rfl | exact absurd rfl (hne _)
    rw [this]
    exact h2
  · exact h2
def Jsq (K : PySem.W.Frag) (b : Bool) (a : Addr) : It := match b with
  | false => Itl K a
  | true => Itt K a
structure WalkM (K : KC) (φ0 ψ0 : List Addr) (H0 : Hp) (items : List T) (g : List (Nat × List T)) (J : It) : Prop where
  goes : ∀ (i : Nat) φ ψ H M, i < items.length → Tr φ0 ψ0 H0 φ ψ H → RM K φ ψ H M → Grd g M → J.go i H
  stops : ∀ φ ψ H M, Tr φ0 ψ0 H0 φ ψ H → RM K φ ψ H M → Grd g M → J.stop items.length H
  yields : ∀ (i : Nat) φ ψ H M x H', i < items.length → Tr φ0 ψ0 H0 φ ψ H → RM K φ ψ H M → Grd g M → J.yld i H x H' → ∃ t, items[i]? = some t ∧ Ext φ H φ H' ∧ RM K φ ψ H' M ∧ RT K φ ψ H' t x
theorem walk_sq {K : KC} {φ0 ψ0 : List Addr} {H0 : Hp} {M0 : Mem} {t : T} {a : Addr} {ts : List T} (h : RT K φ0 ψ0 H0 t (.ref a)) (e : sof M0 t = some ts) : WalkM K φ0 ψ0 H0 ts (grdOf t ts) (Jsq K.K (isTup t) a) := by
  have key : ∀ φ ψ H M, Tr φ0 ψ0 H0 φ ψ H → RM K φ ψ H M → Grd (grdOf t ts) M → ∃ vs, SqB K.K (isTup t) H a vs ∧ RTs K φ ψ H ts vs := fun φ ψ H M x rm hg => by
    obtain ⟨a', vs, e1, h1, h2⟩ := src_ok h e x rm hg fun p hp => hp
    cases e1
    exact ⟨vs, h1, h2⟩
  refine ⟨fun i φ ψ H M hi x rm hg => ?_, fun φ ψ H M x rm hg => ?_, fun i φ ψ H M y H' hi x rm hg hy => ?_⟩
  · obtain ⟨vs, h1, h2⟩ := key φ ψ H M x rm hg
    obtain ⟨v, hv, _⟩ := h2.get (List.getElem?_eq_getElem hi)
    cases hb : isTup t with
    | false => rw [hb] at h1; exact ⟨vs, v, h1, hv⟩
    | true => rw [hb] at h1; exact ⟨vs, v, h1, hv⟩
  · obtain ⟨vs, h1, h2⟩ := key φ ψ H M x rm hg
    have hl := h2.length
    cases hb : isTup t with
    | false => rw [hb] at h1; exact ⟨vs, h1, by omega⟩
    | true => rw [hb] at h1; exact ⟨vs, h1, by omega⟩
  · obtain ⟨vs, h1, h2⟩ := key φ ψ H M x rm hg
    obtain ⟨v, hv, hr⟩ := h2.get (List.getElem?_eq_getElem hi)
    refine ⟨ts[i], List.getElem?_eq_getElem hi, ?_⟩
    cases hb : isTup t with
    | false =>
      rw [hb] at h1 hy
      obtain ⟨rfl, hy⟩ := hy
      have := hy vs h1
      rw [hv] at this; cases this
      exact ⟨.refl, rm, hr⟩
    | true =>
      rw [hb] at h1 hy
      obtain ⟨rfl, hy⟩ := hy
      have := hy vs h1
      rw [hv] at this; cases this
      exact ⟨.refl, rm, hr⟩
theorem rngL_len (lo hi : Int) : (rngL lo hi).length = (hi - lo).toNat := by unfold rngL; simp
theorem rngL_get {lo hi : Int} {i : Nat} (h : i < (rngL lo hi).length) : (rngL lo hi)[i]? = some (T.int (lo + (i : Nat))) := by
  rw [rngL_len] at h
  unfold rngL
  rw [List.getElem?_map, List.getElem?_range h]
  rfl
theorem walk_rng {K : KC} {φ0 ψ0 : List Addr} {H0 : Hp} (lo hi : Int) : WalkM K φ0 ψ0 H0 (rngL lo hi) [] (Itr lo (hi - lo).toNat) := by
  refine ⟨fun i φ ψ H M h _ _ _ => by rw [rngL_len] at h; exact h, fun φ ψ H M _ _ _ => by rw [rngL_len]; exact Nat.le_refl _, fun i φ ψ H M x H' h _ rm _ hy => ?_⟩
  obtain ⟨rfl, rfl⟩ := hy
  exact ⟨_, rngL_get h, .refl, rm, .int _⟩
theorem enumL_len : ∀ (k : Nat) (ts : List T), (enumL k ts).length = ts.length
  | _, [] => rfl
  | k, t :: ts => by simp [enumL, enumL_len (k + 1) ts]
theorem enumL_get : ∀ (k : Nat) (ts : List T) (i : Nat) (t : T), ts[i]? = some t → (enumL k ts)[i]? = some (.tup [.int ((k + i : Nat) : Int), t])
  | _, [], _, _, h => by simp at h
  | k, u :: ts, 0, t, h => by simp at h; subst h; rfl
  | k, u :: ts, i + 1, t, h => by
    have := enumL_get (k + 1) ts i t (by simpa using h)
    rw [show k + (i + 1) = k + 1 + i by omega]
    simpa [enumL] using this
theorem walk_en {K : KC} {φ0 ψ0 : List Addr} {H0 : Hp} {M0 : Mem} {t : T} {a : Addr} {ts : List T} (h : RT K φ0 ψ0 H0 t (.ref a)) (e : sof M0 t = some ts) : WalkM K φ0 ψ0 H0 (enumL 0 ts) (grdOf t ts) (Jen K.K (isTup t) a) := by
  have key : ∀ φ ψ H M, Tr φ0 ψ0 H0 φ ψ H → RM K φ ψ H M → Grd (grdOf t ts) M → ∃ vs, SqB K.K (isTup t) H a vs ∧ RTs K φ ψ H ts vs := fun φ ψ H M x rm hg => by
    obtain ⟨a', vs, e1, h1, h2⟩ := src_ok h e x rm hg fun p hp => hp
    cases e1
    exact ⟨vs, h1, h2⟩
  refine ⟨fun i φ ψ H M hi x rm hg => ?_, fun φ ψ H M x rm hg => ?_, fun i φ ψ H M y H' hi x rm hg hy => ?_⟩
  · obtain ⟨vs, h1, h2⟩ := key φ ψ H M x rm hg
    rw [enumL_len] at hi
    exact ⟨vs, h1, by rw [← h2.length]; exact hi⟩
  · obtain ⟨vs, h1, h2⟩ := key φ ψ H M x rm hg
    exact ⟨vs, h1, by rw [enumL_len]; exact h2.length⟩
  · obtain ⟨vs, h1, h2⟩ := key φ ψ H M x rm hg
    rw [enumL_len] at hi
    obtain ⟨v, hv, hr⟩ := h2.get (List.getElem?_eq_getElem hi)
    obtain ⟨p, us, rfl, hp, rfl, hits⟩ := hy
    obtain ⟨x', hx', rfl⟩ := hits vs h1
    rw [hv] at hx'; cases hx'
    have xx : Ext φ H φ (upd H p (.tup [.int (i : Nat), v])) := .new hp (rm.fresh hp)
    refine ⟨_, enumL_get 0 ts i _ (List.getElem?_eq_getElem hi), xx, rm.new hp, .tup (.inl ⟨fre_new rm hp, upd_same⟩) (.cons (by rw [Nat.zero_add]; exact .int _) (.cons (hr.to xx) .nil))⟩
theorem zip_get : ∀ (xs ys : List T) (i : Nat) (x y : T), xs[i]? = some x → ys[i]? = some y → (List.zipWith (fun x y => T.tup [x, y]) xs ys)[i]? = some (.tup [x, y])
  | xs, ys, i, x, y, h1, h2 => by rw [List.getElem?_zipWith, h1, h2]
theorem walk_z2 {K : KC} {φ0 ψ0 : List Addr} {H0 : Hp} {M0 M1 : Mem} {t u : T} {a b : Addr} {ts us : List T} (h : RT K φ0 ψ0 H0 t (.ref a)) (h' : RT K φ0 ψ0 H0 u (.ref b)) (e : sof M0 t = some ts) (e' : sof M1 u = some us) :
    WalkM K φ0 ψ0 H0 (List.zipWith (fun x y => T.tup [x, y]) ts us) (grdOf t ts ++ grdOf u us) (Jz2 K.K (isTup t) (isTup u) a b) := by
  have key : ∀ φ ψ H M, Tr φ0 ψ0 H0 φ ψ H → RM K φ ψ H M → Grd (grdOf t ts ++ grdOf u us) M → ∃ vs ws, SqB K.K (isTup t) H a vs ∧ RTs K φ ψ H ts vs ∧ SqB K.K (isTup u) H b ws ∧ RTs K φ ψ H us ws := fun φ ψ H M x rm hg => by
    obtain ⟨a', vs, e1, h1, h2⟩ := src_ok h e x rm hg fun p hp => List.mem_append_left _ hp
    obtain ⟨b', ws, e2, h3, h4⟩ := src_ok h' e' x rm hg fun p hp => List.mem_append_right _ hp
    cases e1
    cases e2
    exact ⟨vs, ws, h1, h2, h3, h4⟩
  have hl : (List.zipWith (fun x y => T.tup [x, y]) ts us).length = min ts.length us.length := List.length_zipWith
  refine ⟨fun i φ ψ H M hi x rm hg => ?_, fun φ ψ H M x rm hg => ?_, fun i φ ψ H M y H' hi x rm hg hy => ?_⟩
  · obtain ⟨vs, ws, h1, h2, h3, h4⟩ := key φ ψ H M x rm hg
    rw [hl] at hi
    exact ⟨vs, ws, h1, h3, by rw [← h2.length, ← h4.length]; exact hi⟩
  · obtain ⟨vs, ws, h1, h2, h3, h4⟩ := key φ ψ H M x rm hg
    exact ⟨vs, ws, h1, h3, by rw [hl, h2.length, h4.length]⟩
  · obtain ⟨vs, ws, h1, h2, h3, h4⟩ := key φ ψ H M x rm hg
    rw [hl] at hi
    have i1 : i < ts.length := by omega
    have i2 : i < us.length := by omega
    obtain ⟨v, hv, hr⟩ := h2.get (List.getElem?_eq_getElem i1)
    obtain ⟨w, hw, hr2⟩ := h4.get (List.getElem?_eq_getElem i2)
    obtain ⟨p, zs, rfl, hp, rfl, hits⟩ := hy
    obtain ⟨x', y', hx', hy', rfl⟩ := hits vs ws h1 h3
    rw [hv] at hx'; cases hx'
    rw [hw] at hy'; cases hy'
    have xx : Ext φ H φ (upd H p (.tup [v, w])) := .new hp (rm.fresh hp)
    exact ⟨_, zip_get ts us i _ _ (List.getElem?_eq_getElem i1) (List.getElem?_eq_getElem i2), xx, rm.new hp, .tup (.inl ⟨fre_new rm hp, upd_same⟩) (.cons (hr.to xx) (.cons (hr2.to xx) .nil))⟩
def iM (G : Sig) (K : KC) (m : MI) : TI := fun σ H R => ∃ φ ψ env M p M', RE K φ ψ H env σ ∧ RM K φ ψ H M ∧ evI G m env M = some (p, M') ∧ ∀ φ' H' J, Ext φ H φ' H' → RM K φ' ψ H' M' → WalkM K φ' ψ H' p.1 p.2 J → R J H'
/-- a list or a tuple walked -/
def iSq (K : PySem.W.Frag) (tl : TE) : TI := fun σ H R => tl σ H fun v H1 => ∃ b a xs, v = .ref a ∧ SqB K b H1 a xs ∧ R (Jsq K b a) H1
theorem pi_sq {X : Cx} {tg l : Expr} {tl : TE} (hl : PE X l tl) : PI X tg l (iSq X.K tl) := by
  refine ⟨fun pins s σ H R I h => ?_⟩
  refine thn (hl.run pins s σ H _ I h) fun v s1 ⟨x, H1, I1, r1, q1⟩ => ?_
  obtain ⟨b, a, xs, e, hq, q⟩ := q1
  subst e
  cases r1
  cases b with
  | false =>
    obtain ⟨its, rv, p, hz⟩ := I1.list hq
    refine wpAny_pyIter_list p.isList ?_
    refine ⟨s1.heap.objs.size, [s1.heap.objs.size], _, _, H1, rfl, I1.kept (t' := s1.toks) fun b o e => Heap.get?_push_of_some _ e, turn_list a _, ⟨_, Heap.get?_push_size _ rfl, rfl, rfl⟩, fun b hb => ?_, q⟩
    have e : b = s1.heap.objs.size := by simpa using hb
    subst e
    exact I1.fpOk (Nat.le_refl _) (I1.hok.fresh (Nat.le_refl _))
  | true =>
    obtain ⟨its, rv, p, hz⟩ := I1.tuple hq
    refine wpAny_pyIter_tuple (show s1.heap.IsTuple a its.toArray from p) ?_
    refine ⟨s1.heap.objs.size, [s1.heap.objs.size], _, _, H1, rfl, I1.kept (t' := s1.toks) fun b o e => Heap.get?_push_of_some _ e, turn_tuple a _, ⟨_, Heap.get?_push_size _ rfl, rfl, rfl⟩, fun b hb => ?_, q⟩
    have e : b = s1.heap.objs.size := by simpa using hb
    subst e
    exact I1.fpOk (Nat.le_refl _) (I1.hok.fresh (Nat.le_refl _))

/-! ### the table of defs -/
/-- what a def promises: what its function reckons -/
def spM (K : KC) (n : Nat) (F : Fn) : Sp := fun vs H Q _ => vs.length = n ∧ ∃ φ ψ M ts r M', RM K φ ψ H M ∧ RTs K φ ψ H ts vs ∧ F ts M = some (r, M') ∧ Ok1 K φ ψ H r M' Q
def bltNames : List Str := ["len", "int", "abs", "list", "tuple", "sum", "all", "any", "max", "min", "sorted", "isinstance", "range", "enumerate", "zip", "set", "dict", "str", "bool"]
structure Ent (K : KC) (k : Nat) (P : Program) (w : World) (KF : PySem.W.Frag) (mg : Str → Option Value) (base : Heap) (f : Addr) (F : Fn) : Prop where
  ex : ∃ (fd : FuncData) (ps : List Str), Binds KF fd ps [] ∧ (∀ ts M r, F ts M = some r → ts.length = ps.length) ∧ FnOk P w KF mg base CX0 k f fd ps (spM K ps.length F)
structure Tab (G : Sig) (K : KC) (k : Nat) (P : Program) (w : World) (KF : PySem.W.Frag) (mg : Str → Option Value) (base : Heap) : Prop where
  hK : K.K = KF
  kt : G.kt = K.kt
  lv : 31 ≤ k
  seer : base.NoSeer
  tree : P.given.tree = none
  fns : ∀ f F, G.fns.lookup f = some F → ∃ fa, mg f = some (.ref fa) ∧ PySem.W.keepIn KF (.ref fa) = true ∧ Ent K k P w KF mg base fa F
  glbs : ∀ x t, G.glbs.lookup x = some t → ∃ u v, mg x = some u ∧ RelV v u ∧ ∀ φ ψ H, RT K φ ψ H t v
  blt : ∀ x ∈ bltNames, mg x = none
  cls : ∀ c C, G.cls.lookup c = some C → Cls KF (K.ca c) ∧ mg c = some (.ref (K.ca c)) ∧ (∀ f ∈ C.attrs, NoAttr KF (K.ca c) f) ∧
    (∀ m F, C.meths.lookup m = some F → ∃ g, Meth KF (K.ca c) m g ∧ Ent K k P w KF mg base g F) ∧ ∀ F, C.init = some F → ∃ g, Mk KF (K.ca c) g ∧ Ent K k P w KF mg base g F
theorem Ent.mono {K : KC} {j k : Nat} {P : Program} {w : World} {KF : PySem.W.Frag} {mg : Str → Option Value} {base : Heap} {f : Addr} {F : Fn} (e : Ent K j P w KF mg base f F) (h : j ≤ k) : Ent K k P w KF mg base f F := by
  obtain ⟨fd, ps, b, a, F⟩ := e.ex
  exact ⟨fd, ps, b, a, F.mono h⟩
theorem Tab.mono {G : Sig} {K : KC} {j k : Nat} {P : Program} {w : World} {KF : PySem.W.Frag} {mg : Str → Option Value} {base : Heap} (t : Tab G K j P w KF mg base) (h : j ≤ k) : Tab G K k P w KF mg base := by
  refine ⟨t.hK, t.kt, Nat.le_trans t.lv h, t.seer, t.tree, fun f F e => ?_, t.glbs, t.blt, fun c C e => ?_⟩
  · obtain ⟨fa, h1, h2, h3⟩ := t.fns f F e
    exact ⟨fa, h1, h2, h3.mono h⟩
  · obtain ⟨h1, h2, h3, h4, h5⟩ := t.cls c C e
    refine ⟨h1, h2, h3, fun m F e2 => ?_, fun F e2 => ?_⟩
    · obtain ⟨g, q1, q2⟩ := h4 m F e2; exact ⟨g, q1, q2.mono h⟩
    · obtain ⟨g, q1, q2⟩ := h5 F e2; exact ⟨g, q1, q2.mono h⟩
structure GC (G : Sig) (K : KC) (k : Nat) (N : List Str) (sc : Scope) (ow : List Str) (X : Cx) : Prop where
  hc : X.calm = true
  hN : X.N = N
  nd : N.Nodup
  sc_ : X.env.scope = sc
  kd : sc.kind = .function
  nev : X.xe = fun _ _ => False
  stk : ∃ e l, X.stack = e :: l ∧ e.scope.isGenerator = false ∧ e.scope.isCoroutine = false ∧ e.builtins = builtinsNs ∧ e.globals = mainGlobals
  st : ∀ x ∈ ow, Loc sc x ∧ (X.fn x = true ∨ sc.names.lookup x = some .local)
  room : Room (k + 1) X.A
  tab : Tab G K k X.prog X.w X.K X.mg X.base
def ownC (scope : Scope) (own : List (Str × Nat)) : Bool := own.all fun p => decide (scope.names.lookup p.1 = some .local) || decide (scope.names.lookup p.1 = some .cell)
section
variable {G : Sig} {K : KC} {k : Nat} {N : List Str} {sc : Scope} {ow : List Str} {X : Cx}
theorem GC.hK (g : GC G K k N sc ow X) : K.K = X.K := g.tab.hK
theorem GC.hu (g : GC G K k N sc ow X) : X.A.units + 65 < cLine := by have := g.room.un; omega
theorem GC.seer (g : GC G K k N sc ow X) : SeerX X := ⟨g.tab.tree, g.tab.seer, by
  have h1 := g.room.dp
  have h2 := g.tab.lv
  have h3 : Builtin.pylongFrames = 100 := rfl
  omega, g.stk⟩
theorem GC.pas (g : GC G K k N sc ow X) : PassesOwn (model X.prog X.w) X.A X.env X.xe := by rw [g.nev]; exact .never
theorem GC.blk (g : GC G K k N sc ow X) {s : Shared} {H : Hp} {scope : Scope} {C : Addr} {cl : List (Str × Addr)} {fp : List Addr} {own : List (Str × Nat)} (hk : scope.kind = .function) (ho : ownC scope own = true) :
    GC G K k N (relS scope sc) (own.map (·.1)) (X.blk s H scope (compEnvC scope cl C X.env) fp) := by
  refine ⟨g.hc, g.hN, g.nd, ?_, hk, rfl, g.stk, fun x hx => ?_, g.room, g.tab⟩
  · show relS scope X.env.scope = _
    rw [g.sc_]
  · obtain ⟨p, hp, rfl⟩ := List.mem_map.mp hx
    have q := List.all_eq_true.mp ho p hp
    simp only [Bool.or_eq_true, decide_eq_true_eq] at q
    rcases q with q | q
    · have := lookup_relS_keep (sc := sc) (by decide) q
      exact ⟨.inl this, .inr this⟩
    · have := lookup_relS_keep (sc := sc) (by decide) q
      refine ⟨.inr this, .inl ?_⟩
      show (scope.names.lookup p.1 == some .cell) = true
      rw [q]; rfl
end
end Mi
end L2

/-! Mini: does a term stand for an expression of the text. -/
namespace L2
namespace Mi
open PySem PySem.Spec PyProof.Rows

def nod (x : Str) : Bool := !(x == ("__debug__" : Str)) && !(x == ("__classdict__" : Str))
def visC (sc : Scope) (x : Str) : Bool := match sc.names.lookup x with
  | some .local => true
  | some .cell => true
  | some .free => true
  | _ => false
def glC (sc : Scope) (x : Str) : Bool := nod x && (match sc.names.lookup x with
  | some .globalImplicit => true
  | _ => false)
def biNm : BI → Str
  | .len => "len" | .int => "int" | .abs => "abs" | .list _ => "list" | .tuple => "tuple" | .sum => "sum" | .all => "all" | .any => "any" | .max => "max" | .min => "min" | .sorted => "sorted"
def bmNm : BM → Str
  | .append => "append" | .extend => "extend" | .pop0 => "pop" | .pop => "pop" | .reverse => "reverse" | .remove => "remove"
def bmAr : BM → Bool
  | .pop0 => true | .reverse => true | _ => false
/-- the test is plain: its value's truth -/
def plainT : Expr → Bool
  | .UnaryOp .Not _ _ => false
  | .BoolOp _ _ _ => false
  | .IfExp _ _ _ _ => false
  | .Compare _ _ _ _ => false
  | _ => true
mutual
def okT' (N ow : List Str) : MT → Expr → Bool
  | .nm i x, .Name y _ => decide (x = y) && decide (N[i]? = some y) && decide (y ∈ ow)
  | .tp ts, .Tuple es _ _ => okTs' N ow ts es
  | _, _ => false
def okTs' (N ow : List Str) : MTs → List Expr → Bool
  | .nil, [] => true
  | .cons t ts, e :: es => notStar e && okT' N ow t e && okTs' N ow ts es
  | _, _ => false
end
def isNoP : ME → Bool
  | .nopart => true
  | _ => false
def isBo : Expr → Bool
  | .BoolOp _ _ _ => true
  | _ => false
mutual
def okE (N : List Str) (sc : Scope) : ME → Expr → Bool
  | .var i x, .Name y _ => decide (x = y) && decide (N[i]? = some y) && visC sc y && nod y
  | .glb x, .Name y _ => decide (x = y) && glC sc y
  | .non, .Constant .none _ _ => true
  | .bl b, .Constant (.bool c) _ _ => b == c
  | .int i, .Constant (.int j) _ _ => decide (i = j)
  | .str x, .Constant (.str y) _ _ => decide (x = y)
  | .bin op _ a b, .BinOp x o y _ => decide (op = o) && okE N sc a x && okE N sc b y
  | .neg a, .UnaryOp .USub x _ => okE N sc a x
  | .not a, .UnaryOp .Not x _ => okE N sc a x
  | .one a, .BoolOp _ [x] _ => okE N sc a x
  | .and a b, .BoolOp .And (x :: y :: r) p => okE N sc a x && okE N sc b (.BoolOp .And (y :: r) p)
  | .or a b, .BoolOp .Or (x :: y :: r) p => okE N sc a x && okE N sc b (.BoolOp .Or (y :: r) p)
  | .cmp op a b, .Compare x [o] [y] _ => decide (op = o) && notSet y && okE N sc a x && okE N sc b y
  | .ife c a b, .IfExp x y z _ => okE N sc c x && okE N sc a y && okE N sc b z
  | .call f es, .Call (.Name x _) args [] _ => decide (f = x) && glC sc x && args.all notStar && okEs N sc es args
  | .bi b es, .Call (.Name x _) (e :: args) [] _ => decide (x = biNm b) && glC sc x && (e :: args).all notStar && okEs N sc es (e :: args)
  | .isi a ty, .Call (.Name x _) [e, .Name y _] [] _ => decide (x = "isinstance") && glC sc x && notStar e && decide (y = Str.ofString ty) && glC sc y && okE N sc a e &&
      (ty == "int" || ty == "bool" || ty == "list" || ty == "tuple" || ty == "str")
  | .mcall _ o m es, .Call (.Attribute x n ap) args [] p => decide (m = n) && notSup x && args.all notStar && decide (args.length < 29) && (ap.endLine == p.line) && okE N sc o x && okEs N sc es args
  | .bm b o es, .Call (.Attribute x n ap) args [] p => decide (n = bmNm b) && notSup x && args.all notStar && decide (args.length < 29) && (ap.endLine == p.line) && (args.isEmpty == bmAr b) && okE N sc o x && okEs N sc es args
  | .mk c es, .Call (.Name x _) args [] _ => decide (c = x) && glC sc x && args.all notStar && okEs N sc es args
  | .ix a b, .Subscript x y _ => notSl y && okE N sc a x && okE N sc b y
  | .slc _ a lo hi, .Subscript x (.Slice l h none _) _ => okE N sc a x && (match l with
    | none => isNoP lo
    | some e => !isNoP lo && okE N sc lo e) && (match h with
    | none => isNoP hi
    | some e => !isNoP hi && okE N sc hi e)
  | .rev _ a, .Subscript x (.Slice none none (some (.UnaryOp .USub (.Constant (.int 1) _ _) _)) _) _ => okE N sc a x
  | .att _ o f, .Attribute x g _ => decide (f = g) && notSup x && okE N sc o x
  | .tup es, .Tuple xs _ _ => xs.all notStar && okEs N sc es xs
  | .lst _ es, .List xs _ => xs.all notStar && okEs N sc es xs
  | .lc _ own tg it ifs elt, .ListComp x [⟨t, s, fs, 0⟩] scope _ => blkC N sc scope own && ownC scope own && notSet s && okI N sc it t s && okT' N (own.map (·.1)) tg t && (slT' tg).all (fun j => decide (j ∈ own.map (·.2))) &&
      okIf N (relS scope sc) ifs fs && okE N (relS scope sc) elt x
  | .lc2 _ own tg it ifs vs1 tg1 it1 ifs1 elt, .ListComp x [⟨t, s, fs, 0⟩, ⟨t1, s1, fs1, 0⟩] scope _ => blkC N sc scope own && ownC scope own && notSet s && notSet s1 && okI N sc it t s && okT' N (own.map (·.1)) tg t &&
      (slT' tg).all (fun j => decide (j ∈ own.map (·.2))) && okIf N (relS scope sc) ifs fs && vs1.all (fun j => decide (j ∈ own.map (·.2))) && okI N (relS scope sc) it1 t1 s1 && okT' N (own.map (·.1)) tg1 t1 &&
      (slT' tg1).all (fun j => decide (j ∈ vs1)) && okIf N (relS scope sc) ifs1 fs1 && okE N (relS scope sc) elt x
  | .dnew _, .Dict [] [] _ => true
  | .sset a, .Call (.Name x _) [.Call (.Name y _) [e] [] _] [] _ => decide (x = "sorted") && glC sc x && decide (y = "set") && glC sc y && notStar e && okE N sc a e
  | .lset a, .Call (.Name x _) [.Call (.Name y _) [e] [] _] [] _ => decide (x = "len") && glC sc x && decide (y = "set") && glC sc y && notStar e && okE N sc a e
  | .dc own tg it k v, .DictComp x y [⟨t, s, [], 0⟩] scope _ => blkC N sc scope own && ownC scope own && notSet s && okI N sc it t s && okT' N (own.map (·.1)) tg t && (slT' tg).all (fun j => decide (j ∈ own.map (·.2))) &&
      okE N (relS scope sc) k x && okE N (relS scope sc) v y
  | _, _ => false
def okEs (N : List Str) (sc : Scope) : MEs → List Expr → Bool
  | .nil, [] => true
  | .cons m ms, e :: es => notStar e && okE N sc m e && okEs N sc ms es
  | _, _ => false
def okIf (N : List Str) (sc : Scope) : MEs → List Expr → Bool
  | .nil, [] => true
  | .cons m .nil, [e] => okE N sc m e
  | _, _ => false
def okI (N : List Str) (sc : Scope) : MI → Expr → Expr → Bool
  | .over a, _, e => okE N sc a e
  | .rng1 a, _, .Call (.Name x _) [e] [] _ => decide (x = "range") && glC sc x && notStar e && okE N sc a e
  | .rng2 a b, _, .Call (.Name x _) [e, f] [] _ => decide (x = "range") && glC sc x && notStar e && notStar f && okE N sc a e && okE N sc b f
  | .enum a, .Tuple _ _ _, .Call (.Name x _) [e] [] _ => decide (x = "enumerate") && glC sc x && notStar e && okE N sc a e
  | .zip2 a b, .Tuple _ _ _, .Call (.Name x _) [e, f] [] _ => decide (x = "zip") && glC sc x && notStar e && notStar f && okE N sc a e && okE N sc b f
  | _, _, _ => false
end
def okP (N : List Str) (sc : Scope) (lo : ME) (l : Option Expr) : Bool := match l with
    | none => isNoP lo
    | some e => !isNoP lo && okE N sc lo e
end Mi
end L2

/-! Mini: terms are sound, one by one. -/
namespace L2
namespace Mi
open PySem PySem.Spec PyProof.Rows

theorem bnd {α β : Type} {x : Option α} {f : α → Option β} {b : β} (h : x.bind f = some b) : ∃ a, x = some a ∧ f a = some b := Option.bind_eq_some_iff.mp h
theorem mpd {α β : Type} {x : Option α} {f : α → β} {b : β} (h : x.map f = some b) : ∃ a, x = some a ∧ f a = b := Option.map_eq_some_iff.mp h
section
variable {X : Cx}
theorem PE.of {e : Expr} {t : TE} (h : ∀ σ H Q, t σ H Q → ∃ t', PE X e t' ∧ t' σ H Q) : PE X e t := ⟨fun pins s σ H Q I q => let ⟨_, p, q'⟩ := h σ H Q q; p.run pins s σ H Q I q'⟩
theorem PS.of {e : Stmt} {t : TS} (h : ∀ D σ H, t D σ H → ∃ t', PS X e t' ∧ t' D σ H) : PS X e t := ⟨fun pins s σ H Q I q => let ⟨_, p, q'⟩ := h Q σ H q; p.run pins s σ H Q I q'⟩
end
variable {G : Sig} {K : KC} {k : Nat}
def SE (G : Sig) (K : KC) (k : Nat) (m : ME) : Prop := ∀ (N : List Str) (sc : Scope) (ow : List Str) (X : Cx) (e : Expr), GC G K k N sc ow X → okE N sc m e = true → PE X e (tE G K m) ∧ PT X e (tT G K m) ∧ (isBo e = true → PW X e (tT G K m))
def SA (G : Sig) (K : KC) (k : Nat) (ms : MEs) : Prop := ∀ (N : List Str) (sc : Scope) (ow : List Str) (X : Cx) (es : List Expr), GC G K k N sc ow X → okEs N sc ms es = true → PA X es (tEs G K ms)
def SIf (G : Sig) (K : KC) (k : Nat) (ms : MEs) : Prop := ∀ (N : List Str) (sc : Scope) (ow : List Str) (X : Cx) (es : List Expr), GC G K k N sc ow X → okIf N sc ms es = true → PTs X es (tIf G K ms)
def SP_ (G : Sig) (K : KC) (k : Nat) (m : ME) : Prop := ∀ (N : List Str) (sc : Scope) (ow : List Str) (X : Cx) (e : Option Expr), GC G K k N sc ow X → okP N sc m e = true → PO X e (tP G K m)
def SI (G : Sig) (K : KC) (k : Nat) (m : MI) : Prop := ∀ (N : List Str) (sc : Scope) (ow : List Str) (X : Cx) (tg e : Expr), GC G K k N sc ow X → okI N sc m tg e = true → PI X tg e (iM G K m)
def SG (G : Sig) (K : KC) (k : Nat) (m : MT) : Prop := ∀ (N : List Str) (sc : Scope) (ow : List Str) (X : Cx) (e : Expr), GC G K k N sc ow X → okT' N ow m e = true → PG X e (gM K m)
def SGs (G : Sig) (K : KC) (k : Nat) (m : MTs) : Prop := ∀ (N : List Str) (sc : Scope) (ow : List Str) (X : Cx) (e : List Expr), GC G K k N sc ow X → okTs' N ow m e = true → PGs X e (gMs K m)

theorem plain_tr {e : Expr} (h : plainT e = true) (env : Env) : ∀ whole, isTrue e env whole = (do let v ← whole; standAt e.pos; holding [v] (truthy v)) := by
  intro wh
  cases e with
  | UnaryOp op x p => cases op <;> first | rfl | (simp [plainT] at h)
  | BoolOp _ _ _ => simp [plainT] at h
  | IfExp _ _ _ _ => simp [plainT] at h
  | Compare _ _ _ _ => simp [plainT] at h
  | _ => rfl
theorem pt_of {X : Cx} {e : Expr} {m : ME} (hK : K.K = X.K) (h : PE X e (tE G K m)) (hp : plainT e = true) : PT X e (tT G K m) := by
  refine PT.imp (pt_truth h (plain_tr hp _)) fun σ H Q ⟨φ, ψ, env, M, b, M', re, rm, ev, ok⟩ => ?_
  obtain ⟨p, e1, e2⟩ := bnd ev
  obtain ⟨c, e3, e4⟩ := mpd e2
  cases e4
  exact ⟨φ, ψ, env, M, p.1, p.2, re, rm, e1, fun φ' H' v x rm' rt => ⟨_, truV_of hK rm' rt e3, ok φ' H' x rm'⟩⟩
theorem se_of {X : Cx} {e : Expr} {m : ME} (hK : K.K = X.K) (h : PE X e (tE G K m)) (hp : plainT e = true) : PE X e (tE G K m) ∧ PT X e (tT G K m) ∧ (isBo e = true → PW X e (tT G K m)) :=
  ⟨h, pt_of hK h hp, fun hb => by cases e <;> first | exact absurd hp Bool.false_ne_true | exact absurd hb Bool.false_ne_true⟩
section
variable {φ ψ : List Addr} {H : Hp} {M : Mem} {Q : VK}
theorem ok_val {t : T} {v : V} (rm : RM K φ ψ H M) (ok : Ok1 K φ ψ H t M Q) (r : RT K φ ψ H t v) : Q v H := ok.here rm r
end
/-! ### leaves -/
theorem nod_of {x : Str} (h : nod x = true) : (x == ("__debug__" : Str)) = false ∧ (x == ("__classdict__" : Str)) = false := by
  unfold nod at h
  simp only [Bool.and_eq_true, Bool.not_eq_true'] at h
  exact h
theorem vis_of {sc : Scope} {x : Str} (h : visC sc x = true) : Vis sc x := by
  unfold visC at h
  split at h <;> first | exact .inl (by assumption) | exact .inr (.inl (by assumption)) | exact .inr (.inr (by assumption)) | cases h
theorem gl_of {N : List Str} {sc : Scope} {ow : List Str} {X : Cx} {x : Str} (g : GC G K k N sc ow X) (h : glC sc x = true) : Gl X x ∧ (x == ("__debug__" : Str)) = false := by
  unfold glC at h
  rw [Bool.and_eq_true] at h
  refine ⟨?_, (nod_of h.1).1⟩
  have h2 := h.2
  split at h2
  · show X.env.scope.names.lookup x = _
    rw [g.sc_]; assumption
  · cases h2
theorem s_var {i : Nat} {x : Str} : SE G K k (.var i x) := by
  intro N sc ow X e g h
  unfold okE at h
  split at h <;> (try cases h) <;> rename_i q <;> cases q
  simp only [Bool.and_eq_true, decide_eq_true_eq] at h
  obtain ⟨⟨⟨rfl, h1⟩, h2⟩, h3⟩ := h
  refine se_of g.hK (PE.imp (pe_var (by rw [g.hN]; exact h1) (by rw [g.sc_]; exact vis_of h2) (nod_of h3).1 (nod_of h3).2) fun σ H Q ⟨φ, ψ, env, M, t, M', re, rm, ev, ok⟩ => ?_) rfl
  rw [evE] at ev
  split at ev
  · rename_i u hu
    cases ev
    obtain ⟨v, h4, h5⟩ := re.at_ _ _ hu
    exact ⟨v, h4, ok.here rm h5⟩
  · cases ev
theorem s_glb {x : Str} : SE G K k (.glb x) := by
  intro N sc ow X e g h
  unfold okE at h
  split at h <;> (try cases h) <;> rename_i q <;> cases q
  simp only [Bool.and_eq_true, decide_eq_true_eq] at h
  obtain ⟨rfl, h1⟩ := h
  obtain ⟨h1, h2⟩ := gl_of g h1
  refine se_of g.hK (PE.of fun σ H Q ⟨φ, ψ, env, M, t, M', re, rm, ev, ok⟩ => ?_) rfl
  rw [evE] at ev
  obtain ⟨t, e1, e2⟩ := mpd ev
  cases e2
  obtain ⟨u, v, hm, hr, hT⟩ := g.tab.glbs _ _ e1
  exact ⟨_, pe_glob h1 hm hr h2, ok.here rm (hT φ ψ H)⟩
theorem s_non : SE G K k .non := by
  intro N sc ow X e g h
  unfold okE at h
  split at h <;> (try cases h) <;> rename_i q <;> cases q
  refine se_of g.hK (PE.imp pe_non fun σ H Q ⟨φ, ψ, env, M, t, M', re, rm, ev, ok⟩ => ?_) rfl
  rw [evE] at ev
  cases ev
  exact ok.here rm .non
theorem s_bl {b : Bool} : SE G K k (.bl b) := by
  intro N sc ow X e g h
  unfold okE at h
  split at h <;> (try cases h) <;> rename_i q <;> cases q
  have := eq_of_beq h
  subst this
  refine se_of g.hK (PE.imp pe_bl fun σ H Q ⟨φ, ψ, env, M, t, M', re, rm, ev, ok⟩ => ?_) rfl
  rw [evE] at ev
  cases ev
  exact ok.here rm (.bl _)
theorem s_int {i : Int} : SE G K k (.int i) := by
  intro N sc ow X e g h
  unfold okE at h
  split at h <;> (try cases h) <;> rename_i q <;> cases q
  have := of_decide_eq_true h
  subst this
  refine se_of g.hK (PE.imp pe_int fun σ H Q ⟨φ, ψ, env, M, t, M', re, rm, ev, ok⟩ => ?_) rfl
  rw [evE] at ev
  cases ev
  exact ok.here rm (.int _)
theorem s_str {i : Str} : SE G K k (.str i) := by
  intro N sc ow X e g h
  unfold okE at h
  split at h <;> (try cases h) <;> rename_i q <;> cases q
  have := of_decide_eq_true h
  subst this
  refine se_of g.hK (PE.imp pe_str fun σ H Q ⟨φ, ψ, env, M, t, M', re, rm, ev, ok⟩ => ?_) rfl
  rw [evE] at ev
  cases ev
  exact ok.here rm (.str _)
/-! ### operators -/
theorem s_bin {op : Operator} {tr : Bool} {a b : ME} (ha : SE G K k a) (hb : SE G K k b) : SE G K k (.bin op tr a b) := by
  intro N sc ow X e g h
  unfold okE at h
  split at h <;> (try cases h) <;> rename_i q <;> cases q
  simp only [Bool.and_eq_true, decide_eq_true_eq] at h
  obtain ⟨⟨rfl, h1⟩, h2⟩ := h
  refine se_of g.hK (PE.imp (pe_op (op_bin g.hK g.seer op tr) (ha N sc ow X _ g h1).1 (hb N sc ow X _ g h2).1) fun σ H Q ⟨φ, ψ, env, M, t, M', re, rm, ev, ok⟩ => ?_) rfl
  rw [evE] at ev
  obtain ⟨p, e1, ev⟩ := bnd ev
  obtain ⟨q, e2, ev⟩ := bnd ev
  refine ⟨φ, ψ, env, M, p.1, p.2, re, rm, e1, fun φ1 H1 v x1 rm1 r1 => ⟨φ1, ψ, env, p.2, q.1, q.2, re.ext x1, rm1, e2, fun φ2 H2 w x2 rm2 r2 => ?_⟩⟩
  exact ⟨φ2, ψ, q.2, p.1, q.1, t, M', rm2, r1.to x2, r2, ev, ok.ext (x1.trans x2)⟩
theorem s_neg {a : ME} (ha : SE G K k a) : SE G K k (.neg a) := by
  intro N sc ow X e g h
  unfold okE at h
  split at h <;> (try cases h) <;> rename_i q <;> cases q
  refine se_of g.hK (PE.imp (pe_un un_neg (ha N sc ow X _ g h).1) fun σ H Q ⟨φ, ψ, env, M, t, M', re, rm, ev, ok⟩ => ?_) rfl
  rw [evE] at ev
  obtain ⟨p, e1, ev⟩ := bnd ev
  split at ev
  · rename_i i hi
    cases ev
    refine ⟨φ, ψ, env, M, p.1, p.2, re, rm, e1, fun φ1 H1 v x1 rm1 r1 => ?_⟩
    rw [hi] at r1
    cases r1
    exact ⟨i, rfl, ok φ1 H1 _ x1 rm1 (.int _)⟩
  · cases ev
theorem pt_b {X : Cx} {e : Expr} {m : ME} {t : TE} (hm : ∀ env M b M', tst (evE G m env M) = some (b, M') → evE G m env M = some (.bl b, M')) (h : PT X e (tTest t)) (hi : ∀ σ H Q, tE G K m σ H Q → t σ H Q) : PT X e (tT G K m) := by
  refine PT.imp h fun σ H Q ⟨φ, ψ, env, M, b, M', re, rm, ev, ok⟩ => ?_
  refine hi σ H _ ⟨φ, ψ, env, M, .bl b, M', re, rm, hm _ _ _ _ ev, fun φ' H' v x rm' r => ?_⟩
  cases r
  exact ⟨b, rfl, ok φ' H' x rm'⟩
theorem s_not {a : ME} (ha : SE G K k a) : SE G K k (.not a) := by
  intro N sc ow X e g h
  unfold okE at h
  split at h <;> (try cases h) <;> rename_i q <;> cases q
  obtain ⟨p1, p2, p3⟩ := ha N sc ow X _ g h
  refine ⟨PE.imp (pe_notT p1) fun σ H Q ⟨φ, ψ, env, M, t, M', re, rm, ev, ok⟩ => ?_, PT.imp (pt_not p2) fun σ H Q ⟨φ, ψ, env, M, t, M', re, rm, ev, ok⟩ => ?_, fun h => nomatch h⟩
  · rw [evE] at ev
    obtain ⟨p, e1, ev⟩ := mpd ev
    cases ev
    obtain ⟨q, e5, e2⟩ := bnd e1
    obtain ⟨c, e3, e4⟩ := mpd e2
    cases e4
    exact ⟨φ, ψ, env, M, q.1, q.2, re, rm, e5, fun φ1 H1 v x1 rm1 r1 => ⟨c, truV_of g.hK rm1 r1 e3, ok φ1 H1 _ x1 rm1 (.bl _)⟩⟩
  · rw [evE] at ev
    obtain ⟨p, e1, ev⟩ := bnd ev
    obtain ⟨q, e2, e3⟩ := mpd e1
    cases e3
    obtain ⟨c, e4, e5⟩ := mpd ev
    cases e5
    cases e4
    exact ⟨φ, ψ, env, M, q.1, q.2, re, rm, e2, fun φ1 H1 x1 rm1 => ok φ1 H1 x1 rm1⟩
theorem s_one {a : ME} (ha : SE G K k a) : SE G K k (.one a) := by
  intro N sc ow X e g h
  unfold okE at h
  split at h <;> (try cases h) <;> rename_i q <;> cases q
  obtain ⟨p1, p2, p3⟩ := ha N sc ow X _ g h
  have e1 : ∀ env M, evE G (.one a) env M = evE G a env M := fun env M => by rw [evE]
  have i2 : ∀ σ H Q, tT G K (.one a) σ H Q → tT G K a σ H Q := fun σ H Q ⟨φ, ψ, env, M, t, M', re, rm, ev, ok⟩ => ⟨φ, ψ, env, M, t, M', re, rm, by rw [← e1]; exact ev, ok⟩
  have pw : ∀ op x pos, PT X x (tT G K a) → PW X (.BoolOp op [x] pos) (tT G K (.one a)) := fun op x pos p => by
    cases op with
    | And => exact ⟨fun wh pins s σ H Q I q => (pw_and1 p).run wh pins s σ H Q I (i2 _ _ _ q)⟩
    | Or => exact ⟨fun wh pins s σ H Q I q => (pw_or1 p).run wh pins s σ H Q I (i2 _ _ _ q)⟩
  exact ⟨PE.imp (pe_one p1) fun σ H Q ⟨φ, ψ, env, M, t, M', re, rm, ev, ok⟩ => ⟨φ, ψ, env, M, t, M', re, rm, by rw [← e1]; exact ev, ok⟩, (pw _ _ _ p2).pt, fun _ => pw _ _ _ p2⟩
theorem s_and {a b : ME} (ha : SE G K k a) (hb : SE G K k b) : SE G K k (.and a b) := by
  intro N sc ow X e g h
  unfold okE at h
  split at h <;> (try cases h) <;> rename_i q <;> cases q
  rw [Bool.and_eq_true] at h
  obtain ⟨p1, p2, p3⟩ := ha N sc ow X _ g h.1
  obtain ⟨q1, q2, q3⟩ := hb N sc ow X _ g h.2
  have pw : PW X _ (tT G K (.and a b)) := ⟨fun wh pins s σ H Q I q => (pw_and (pos := _) p2 (q3 rfl)).run wh pins s σ H Q I (by
    obtain ⟨φ, ψ, env, M, t, M', re, rm, ev, ok⟩ := q
    rw [evE] at ev
    obtain ⟨p, e1, ev⟩ := bnd ev
    obtain ⟨r, e2, e3⟩ := mpd ev
    cases e3
    obtain ⟨u, e4, e5⟩ := bnd e1
    obtain ⟨c, e6, e7⟩ := bnd e5
    refine ⟨φ, ψ, env, M, c, u.2, re, rm, by rw [e4]; show (truth u.2 u.1).map _ = _; rw [e6]; rfl, fun φ1 H1 x1 rm1 => ?_⟩
    cases c with
    | true =>
      rw [if_pos rfl] at e7
      show tT G K b σ H1 Q
      exact ⟨φ1, ψ, env, u.2, t, p.2, re.ext x1, rm1, by rw [e7]; show (truth p.2 p.1).map _ = _; rw [e2]; rfl, fun φ2 H2 x2 rm2 => ok φ2 H2 (x1.trans x2) rm2⟩
    | false =>
      rw [if_neg Bool.false_ne_true] at e7
      cases e7
      rw [e6] at e2
      cases e2
      exact ok φ1 H1 x1 rm1)⟩
  refine ⟨PE.imp (pe_andT p1 q1) fun σ H Q ⟨φ, ψ, env, M, t, M', re, rm, ev, ok⟩ => ?_, pw.pt, fun _ => pw⟩
  rw [evE] at ev
  obtain ⟨p, e1, ev⟩ := bnd ev
  obtain ⟨c, e2, ev⟩ := bnd ev
  refine ⟨φ, ψ, env, M, p.1, p.2, re, rm, e1, fun φ1 H1 v x1 rm1 r1 => ⟨c, truV_of g.hK rm1 r1 e2, ?_⟩⟩
  cases c with
  | true =>
    rw [if_pos rfl] at ev ⊢
    exact ⟨φ1, ψ, env, p.2, t, M', re.ext x1, rm1, ev, ok.ext x1⟩
  | false =>
    rw [if_neg Bool.false_ne_true] at ev ⊢
    cases ev
    exact ok φ1 H1 v x1 rm1 r1
theorem s_or {a b : ME} (ha : SE G K k a) (hb : SE G K k b) : SE G K k (.or a b) := by
  intro N sc ow X e g h
  unfold okE at h
  split at h <;> (try cases h) <;> rename_i q <;> cases q
  rw [Bool.and_eq_true] at h
  obtain ⟨p1, p2, p3⟩ := ha N sc ow X _ g h.1
  obtain ⟨q1, q2, q3⟩ := hb N sc ow X _ g h.2
  have pw : PW X _ (tT G K (.or a b)) := ⟨fun wh pins s σ H Q I q => (pw_or (pos := _) p2 (q3 rfl)).run wh pins s σ H Q I (by
    obtain ⟨φ, ψ, env, M, t, M', re, rm, ev, ok⟩ := q
    rw [evE] at ev
    obtain ⟨p, e1, ev⟩ := bnd ev
    obtain ⟨r, e2, e3⟩ := mpd ev
    cases e3
    obtain ⟨u, e4, e5⟩ := bnd e1
    obtain ⟨c, e6, e7⟩ := bnd e5
    refine ⟨φ, ψ, env, M, c, u.2, re, rm, by rw [e4]; show (truth u.2 u.1).map _ = _; rw [e6]; rfl, fun φ1 H1 x1 rm1 => ?_⟩
    cases c with
    | false =>
      rw [if_neg Bool.false_ne_true] at e7
      show tT G K b σ H1 Q
      exact ⟨φ1, ψ, env, u.2, t, p.2, re.ext x1, rm1, by rw [e7]; show (truth p.2 p.1).map _ = _; rw [e2]; rfl, fun φ2 H2 x2 rm2 => ok φ2 H2 (x1.trans x2) rm2⟩
    | true =>
      rw [if_pos rfl] at e7
      cases e7
      rw [e6] at e2
      cases e2
      exact ok φ1 H1 x1 rm1)⟩
  refine ⟨PE.imp (pe_orT p1 q1) fun σ H Q ⟨φ, ψ, env, M, t, M', re, rm, ev, ok⟩ => ?_, pw.pt, fun _ => pw⟩
  rw [evE] at ev
  obtain ⟨p, e1, ev⟩ := bnd ev
  obtain ⟨c, e2, ev⟩ := bnd ev
  refine ⟨φ, ψ, env, M, p.1, p.2, re, rm, e1, fun φ1 H1 v x1 rm1 r1 => ⟨c, truV_of g.hK rm1 r1 e2, ?_⟩⟩
  cases c with
  | false =>
    rw [if_neg Bool.false_ne_true] at ev ⊢
    exact ⟨φ1, ψ, env, p.2, t, M', re.ext x1, rm1, ev, ok.ext x1⟩
  | true =>
    rw [if_pos rfl] at ev ⊢
    cases ev
    exact ok φ1 H1 v x1 rm1 r1
theorem s_cmp {op : CmpOp} {a b : ME} (ha : SE G K k a) (hb : SE G K k b) : SE G K k (.cmp op a b) := by
  intro N sc ow X e g h
  unfold okE at h
  split at h <;> (try cases h) <;> rename_i q <;> cases q
  simp only [Bool.and_eq_true, decide_eq_true_eq] at h
  obtain ⟨⟨⟨rfl, h0⟩, h1⟩, h2⟩ := h
  have i1 : ∀ σ H Q, tE G K (.cmp op a b) σ H Q → tOp (rCmp K op) (tE G K a) (tE G K b) σ H Q := fun σ H Q ⟨φ, ψ, env, M, t, M', re, rm, ev, ok⟩ => by
    rw [evE] at ev
    obtain ⟨p, e1, ev⟩ := bnd ev
    obtain ⟨q, e2, ev⟩ := bnd ev
    obtain ⟨c, e3, ev⟩ := mpd ev
    cases ev
    exact ⟨φ, ψ, env, M, p.1, p.2, re, rm, e1, fun φ1 H1 v x1 rm1 r1 => ⟨φ1, ψ, env, p.2, q.1, q.2, re.ext x1, rm1, e2, fun φ2 H2 w x2 rm2 r2 =>
      ⟨φ2, ψ, q.2, p.1, q.1, c, rm2, r1.to x2, r2, e3, ok φ2 H2 _ (x1.trans x2) rm2 (.bl _)⟩⟩⟩
  refine ⟨PE.imp (pe_cmpR (op_cmp g.hK g.hu op) (ha N sc ow X _ g h1).1 (hb N sc ow X _ g h2).1 (beh h0)) i1, pt_b (fun env M b' M' ev => ?_) (pt_cmpR (op_cmp g.hK g.hu op) (ha N sc ow X _ g h1).1 (hb N sc ow X _ g h2).1 (beh h0)) i1, fun h => nomatch h⟩
  obtain ⟨p, e1, ev⟩ := bnd ev
  obtain ⟨c, e2, ev⟩ := mpd ev
  cases ev
  rw [e1]
  rw [evE] at e1
  obtain ⟨p', _, e1⟩ := bnd e1
  obtain ⟨q', _, e1⟩ := bnd e1
  obtain ⟨c', _, e1⟩ := mpd e1
  subst e1
  cases e2
  rfl
theorem pt_ifE {X : Cx} {c a b : Expr} {pos : Pos} {tc ta tb : TT} (hc : PT X c tc) (ha : PT X a ta) (hb : PT X b tb) : PT X (.IfExp c a b pos) (fun σ H Q => tc σ H fun d H1 => if d = true then ta σ H1 Q else tb σ H1 Q) := by
  refine ⟨fun pins s σ H Q I h => ?_⟩
  show wpAny _ _ (isTrue c X.env (eval c X.env) >>= fun d => if d = true then isTrue a X.env (eval a X.env) else isTrue b X.env (eval b X.env)) _ _ _
  refine wpAny_bind (thn (hc.run pins s σ H _ I h) fun d s1 ⟨H1, I1, q1⟩ => ?_)
  cases d with
  | true => exact ha.run pins s1 σ H1 Q I1 q1
  | false => exact hb.run pins s1 σ H1 Q I1 q1
theorem s_ife {c a b : ME} (hc : SE G K k c) (ha : SE G K k a) (hb : SE G K k b) : SE G K k (.ife c a b) := by
  intro N sc ow X e g h
  unfold okE at h
  split at h <;> (try cases h) <;> rename_i q <;> cases q
  simp only [Bool.and_eq_true] at h
  obtain ⟨⟨h0, h1⟩, h2⟩ := h
  obtain ⟨_, c2, _⟩ := hc N sc ow X _ g h0
  obtain ⟨a1, a2, _⟩ := ha N sc ow X _ g h1
  obtain ⟨b1, b2, _⟩ := hb N sc ow X _ g h2
  refine ⟨PE.imp (pe_ifExp c2 a1 b1) fun σ H Q ⟨φ, ψ, env, M, t, M', re, rm, ev, ok⟩ => ?_, PT.imp (pt_ifE c2 a2 b2) fun σ H Q ⟨φ, ψ, env, M, t, M', re, rm, ev, ok⟩ => ?_, fun h => nomatch h⟩
  · rw [evE] at ev
    obtain ⟨p, e1, ev⟩ := bnd ev
    refine ⟨φ, ψ, env, M, p.1, p.2, re, rm, e1, fun φ1 H1 x1 rm1 => ?_⟩
    split at ev
    · rename_i hp
      rw [if_pos hp]
      exact ⟨φ1, ψ, env, p.2, t, M', re.ext x1, rm1, ev, ok.ext x1⟩
    · rename_i hp
      rw [if_neg hp]
      exact ⟨φ1, ψ, env, p.2, t, M', re.ext x1, rm1, ev, ok.ext x1⟩
  · obtain ⟨r, ev, e9⟩ := bnd ev
    rw [evE] at ev
    obtain ⟨p, e1, ev⟩ := bnd ev
    refine ⟨φ, ψ, env, M, p.1, p.2, re, rm, e1, fun φ1 H1 x1 rm1 => ?_⟩
    split at ev
    · rename_i hp
      rw [if_pos hp]
      exact ⟨φ1, ψ, env, p.2, t, M', re.ext x1, rm1, by rw [ev]; exact e9, fun φ2 H2 x2 => ok φ2 H2 (x1.trans x2)⟩
    · rename_i hp
      rw [if_neg hp]
      exact ⟨φ1, ψ, env, p.2, t, M', re.ext x1, rm1, by rw [ev]; exact e9, fun φ2 H2 x2 => ok φ2 H2 (x1.trans x2)⟩
/-! ### lists of terms -/
theorem s_nil : SA G K k .nil := by
  intro N sc ow X es g h
  cases es with
  | cons _ _ => simp [okEs] at h
  | nil =>
    refine PA.imp pa_nil fun σ H Q ⟨φ, ψ, env, M, ts, M', re, rm, ev, ok⟩ => ?_
    rw [evEs] at ev
    cases ev
    exact ok φ H [] .refl rm .nil
theorem s_cons {e : ME} {es : MEs} (he : SE G K k e) (hs : SA G K k es) : SA G K k (.cons e es) := by
  intro N sc ow X xs g h
  cases xs with
  | nil => simp [okEs] at h
  | cons x xs =>
    simp only [okEs, Bool.and_eq_true] at h
    obtain ⟨⟨h0, h1⟩, h2⟩ := h
    refine PA.imp (pa_cons (he N sc ow X x g h1).1 (hs N sc ow X xs g h2) (star_cons h0)) fun σ H Q ⟨φ, ψ, env, M, ts, M', re, rm, ev, ok⟩ => ?_
    rw [evEs] at ev
    obtain ⟨p, e1, ev⟩ := bnd ev
    obtain ⟨q, e2, ev⟩ := mpd ev
    cases ev
    exact ⟨φ, ψ, env, M, p.1, p.2, re, rm, e1, fun φ1 H1 v x1 rm1 r1 => ⟨φ1, ψ, env, p.2, q.1, q.2, re.ext x1, rm1, e2, fun φ2 H2 vs x2 rm2 r2 =>
      ok φ2 H2 (v :: vs) (x1.trans x2) rm2 (.cons (r1.to x2) r2)⟩⟩
theorem s_if0 : SIf G K k .nil := by
  intro N sc ow X es g h
  cases es with
  | cons _ _ => simp [okIf] at h
  | nil =>
    refine PTs.imp pts_nil fun σ H Q ⟨φ, ψ, env, M, ts, M', re, rm, ev, ok⟩ => ?_
    rw [evIf] at ev
    cases ev
    exact ok φ H .refl rm
theorem s_if1 {e : ME} (he : SE G K k e) : SIf G K k (.cons e .nil) := by
  intro N sc ow X xs g h
  match xs, h with
  | [], h => simp [okIf] at h
  | x :: y :: r, h => simp [okIf] at h
  | [x], h =>
    simp only [okIf] at h
    refine PTs.imp (pts_one (he N sc ow X x g h).2.1) fun σ H Q ⟨φ, ψ, env, M, ts, M', re, rm, ev, ok⟩ => ?_
    rw [evIf] at ev
    exact ⟨φ, ψ, env, M, ts, M', re, rm, ev, ok⟩
theorem s_if2 {e e2 : ME} {es : MEs} : SIf G K k (.cons e (.cons e2 es)) := by
  intro N sc ow X xs g h
  simp [okIf] at h
end Mi
end L2

/-! Mini: calls, fields, displays are sound. -/
namespace L2
namespace Mi
open PySem PySem.Spec PyProof.Rows
variable {G : Sig} {K : KC} {k : Nat}
theorem gc_blt {N : List Str} {sc : Scope} {ow : List Str} {X : Cx} (g : GC G K k N sc ow X) {x : Str} (h : x ∈ bltNames) : X.mg x = none := g.tab.blt x h
theorem s_call {f : Str} {es : MEs} (hs : SA G K k es) : SE G K k (.call f es) := by
  intro N sc ow X e g h
  unfold okE at h
  split at h <;> (try cases h) <;> rename_i q <;> cases q
  simp only [Bool.and_eq_true, decide_eq_true_eq] at h
  obtain ⟨⟨⟨rfl, h0⟩, h1⟩, h2⟩ := h
  obtain ⟨hg, hd⟩ := gl_of g h0
  rename_i args p
  refine se_of g.hK (PE.of fun σ H Q ⟨φ, ψ, env, M, t, M', re, rm, ev, ok⟩ => ?_) rfl
  rw [evE] at ev
  obtain ⟨p, e1, ev⟩ := bnd ev
  obtain ⟨F, e2, ev⟩ := bnd ev
  obtain ⟨fa, m1, m2, E⟩ := g.tab.fns _ _ e2
  obtain ⟨fd, ps, hb, har, Fo⟩ := E.ex
  have pa := hs N sc ow X args g h2
  have rd : tCall (spM K ps.length F) [] E0 (tEs G K es) σ H Q := ⟨φ, ψ, env, M, p.1, p.2, re, rm, e1, fun φ1 H1 vs x1 rm1 r1 =>
    ⟨by rw [List.append_nil, ← r1.length]; exact har _ _ _ ev, φ1, ψ, p.2, p.1, t, M', rm1, by rw [List.append_nil]; exact r1, ev, ok.ext x1⟩⟩
  cases args with
  | nil =>
    cases es with
    | cons _ _ => simp [okEs] at h2
    | nil =>
      refine ⟨_, pe_call0 (E := E0) Fo (g.room.mono (Nat.le_succ _)) hg m1 m2 hb .nil pass0 hd, ?_⟩
      obtain ⟨φ', ψ', env', M1, ts', M1', re', rm', ev', ok'⟩ := rd
      rw [evEs] at ev'
      cases ev'
      exact ok' φ' H [] .refl rm' .nil
  | cons a as =>
    rw [List.all_cons, Bool.and_eq_true] at h1
    exact ⟨_, pe_call (E := E0) Fo (g.room.mono (Nat.le_succ _)) hg m1 m2 hb .nil pass0 pa hd (star_cons h1.1) (back_any h1.2), rd⟩
theorem s_bi {b : BI} {es : MEs} (hs : SA G K k es) : SE G K k (.bi b es) := by
  intro N sc ow X e g h
  unfold okE at h
  split at h <;> (try cases h) <;> rename_i q <;> cases q
  simp only [Bool.and_eq_true, decide_eq_true_eq] at h
  obtain ⟨⟨⟨rfl, h0⟩, h1⟩, h2⟩ := h
  obtain ⟨hg, hd⟩ := gl_of g h0
  have pa := hs N sc ow X _ g h2
  rw [List.all_cons, Bool.and_eq_true] at h1
  have hop := op_bi (X := X) g.hK g.hc b
  have i1 : ∀ σ H Q, tE G K (.bi b es) σ H Q → tCB (rBi K b) (tEs G K es) σ H Q := fun σ H Q ⟨φ, ψ, env, M, t, M', re, rm, ev, ok⟩ => by
    rw [evE] at ev
    obtain ⟨p, e1, ev⟩ := bnd ev
    exact ⟨φ, ψ, env, M, p.1, p.2, re, rm, e1, fun φ1 H1 vs x1 rm1 r1 => ⟨φ1, ψ, p.2, p.1, t, M', rm1, r1, ev, ok.ext x1⟩⟩
  have mm : ∀ {x : Str}, x ∈ bltNames → X.mg x = none := fun h => gc_blt g h
  refine se_of g.hK (PE.imp ?_ i1) rfl
  cases b with
  | len => exact pe_callB hop hg (mm (by decide)) (by decide) pa (by decide) hd (star_cons h1.1) (back_any h1.2)
  | int => exact pe_callTy hop hg (mm (by decide)) (by decide) pa (by decide) hd (star_cons h1.1) (back_any h1.2)
  | abs => exact pe_callB hop hg (mm (by decide)) (by decide) pa (by decide) hd (star_cons h1.1) (back_any h1.2)
  | list tr => cases tr <;> exact pe_callTy hop hg (mm (by decide)) (by decide) pa (by decide) hd (star_cons h1.1) (back_any h1.2)
  | tuple => exact pe_callTy hop hg (mm (by decide)) (by decide) pa (by decide) hd (star_cons h1.1) (back_any h1.2)
  | sum => exact pe_callB hop hg (mm (by decide)) (by decide) pa (by decide) hd (star_cons h1.1) (back_any h1.2)
  | all => exact pe_callB hop hg (mm (by decide)) (by decide) pa (by decide) hd (star_cons h1.1) (back_any h1.2)
  | any => exact pe_callB hop hg (mm (by decide)) (by decide) pa (by decide) hd (star_cons h1.1) (back_any h1.2)
  | max => exact pe_callB hop hg (mm (by decide)) (by decide) pa (by decide) hd (star_cons h1.1) (back_any h1.2)
  | min => exact pe_callB hop hg (mm (by decide)) (by decide) pa (by decide) hd (star_cons h1.1) (back_any h1.2)
  | sorted => exact pe_callB hop hg (mm (by decide)) (by decide) pa (by decide) hd (star_cons h1.1) (back_any h1.2)
theorem s_isi {a : ME} {ty : String} (ha : SE G K k a) : SE G K k (.isi a ty) := by
  intro N sc ow X e g h
  unfold okE at h
  split at h <;> (try cases h) <;> rename_i q <;> cases q
  simp only [Bool.and_eq_true, decide_eq_true_eq, Bool.or_eq_true, beq_iff_eq] at h
  obtain ⟨⟨⟨⟨⟨⟨rfl, h0⟩, h1⟩, rfl⟩, h2⟩, h3⟩, h4⟩ := h
  obtain ⟨hg, hd⟩ := gl_of g h0
  obtain ⟨hg2, hd2⟩ := gl_of g h2
  have ht : isTy ty ∧ (Str.ofString ty) ∈ bltNames ∧ bootBuiltins (Str.ofString ty) = some (.type ty) ∧ (Str.ofString ty ≠ "__name__") := by
    rcases h4 with (((rfl | rfl) | rfl) | rfl) | rfl <;> exact ⟨by unfold isTy; decide, by decide, by decide, by decide⟩
  have pt : ∀ po, PE X (.Name (Str.ofString ty) po) (tC (.ty ty)) := fun po => pe_bltn hg2 (gc_blt g ht.2.1) ht.2.2.1 rfl ht.2.2.2 hd2
  refine se_of g.hK (PE.imp (pe_callB (op_isi g.hK ht.1) hg (gc_blt g (by decide)) (by decide) (pa_cons (ha N sc ow X _ g h3).1 (pa_cons (pt _) pa_nil rfl) (star_cons h1)) (by decide) hd (star_cons h1) rfl)
    fun σ H Q ⟨φ, ψ, env, M, t, M', re, rm, ev, ok⟩ => ?_) rfl
  rw [evE] at ev
  obtain ⟨p, e1, ev⟩ := bnd ev
  obtain ⟨c, e2, ev⟩ := mpd ev
  cases ev
  exact ⟨φ, ψ, env, M, p.1, p.2, re, rm, e1, fun φ1 H1 v x1 rm1 r1 => ⟨φ1, ψ, p.2, p.1, v, c, rfl, rm1, r1, e2, ok φ1 H1 _ x1 rm1 (.bl _)⟩⟩
theorem RFs.none {φ ψ : List Addr} {H : Hp} {f : Str} : ∀ {fs : List (Str × T)} {gs : List (Str × V)}, RFs K φ ψ H fs gs → fs.lookup f = none → gs.lookup f = none
  | [], [], _, _ => rfl
  | (x, t) :: fs, (y, v) :: gs, ⟨e, r, h⟩, hn => by
    subst e
    rw [List.lookup_cons] at hn ⊢
    cases hx : (f == x) with
    | true => rw [hx] at hn; cases hn
    | false => rw [hx] at hn; exact RFs.none h hn
  | [], _ :: _, h, _ => h.elim
  | _ :: _, [], h, _ => h.elim
theorem RFs.some {φ ψ : List Addr} {H : Hp} {f : Str} {t : T} : ∀ {fs : List (Str × T)} {gs : List (Str × V)}, RFs K φ ψ H fs gs → fs.lookup f = some t → ∃ v, gs.lookup f = some v ∧ RT K φ ψ H t v
  | [], [], _, h => by cases h
  | (x, t) :: fs, (y, v) :: gs, ⟨e, r, h⟩, hn => by
    subst e
    rw [List.lookup_cons] at hn ⊢
    cases hx : (f == x) with
    | true => rw [hx] at hn; cases hn; exact ⟨v, rfl, r⟩
    | false => rw [hx] at hn; exact RFs.some h hn
  | [], _ :: _, h, _ => h.elim
  | _ :: _, [], h, _ => h.elim
theorem RFs.put {φ ψ : List Addr} {H : Hp} {f : Str} {t : T} {v : V} (r : RT K φ ψ H t v) : ∀ {fs : List (Str × T)} {gs : List (Str × V)}, RFs K φ ψ H fs gs → RFs K φ ψ H (putA f t fs) (putF f v gs)
  | [], [], _ => ⟨rfl, r, trivial⟩
  | (x, u) :: fs, (y, w) :: gs, ⟨e, q, h⟩ => by
    subst e
    unfold putA putF
    by_cases hx : x = f
    · rw [if_pos hx]
      rw [if_pos (by first | exact hx | exact hx.symm | exact beq_iff_eq.mpr hx | exact beq_iff_eq.mpr hx.symm)]
      first | exact ⟨rfl, r, h⟩ | exact ⟨hx, r, h⟩ | exact ⟨hx.symm, r, h⟩
    · rw [if_neg hx]
      rw [if_neg (by first | exact hx | exact fun z => hx z.symm | exact fun z => hx (beq_iff_eq.mp z) | exact fun z => hx (beq_iff_eq.mp z).symm)]
      exact ⟨rfl, q, RFs.put r h⟩
  | [], _ :: _, h => h.elim
  | _ :: _, [], h => h.elim
theorem RFs.length {φ ψ : List Addr} {H : Hp} : ∀ {fs : List (Str × T)} {gs : List (Str × V)}, RFs K φ ψ H fs gs → fs.length = gs.length
  | [], [], _ => rfl
  | (_, _) :: fs, (_, _) :: gs, ⟨_, _, h⟩ => by rw [List.length_cons, List.length_cons, RFs.length h]
  | [], _ :: _, h => h.elim
  | _ :: _, [], h => h.elim
/-- an object of a class -/
theorem ins_of {φ ψ : List Addr} {H : Hp} {M : Mem} {i : Nat} {c : Str} {fs : List (Str × T)} {v : V} (rm : RM K φ ψ H M) (r : RT K φ ψ H (.obj i) v) (e : M[i]? = some (.ins c fs)) : ∃ a dx gs, v = .ref a ∧ φ[i]? = some a ∧ H a = some (.ins (K.ca c) dx gs) ∧ RFs K φ ψ H fs gs := by
  cases r with
  | obj ha =>
    obtain ⟨dx, gs, h1, h2⟩ := rm.at_ _ _ _ ha e
    exact ⟨_, dx, gs, rfl, ha, h1, h2⟩
theorem s_mcall {c : Str} {o : ME} {m : Str} {es : MEs} (ho : SE G K k o) (hs : SA G K k es) : SE G K k (.mcall c o m es) := by
  intro N sc ow X e g h
  unfold okE at h
  split at h <;> (try cases h) <;> rename_i q <;> cases q
  simp only [Bool.and_eq_true, decide_eq_true_eq] at h
  obtain ⟨⟨⟨⟨⟨⟨rfl, h0⟩, h1⟩, h2⟩, h3⟩, h4⟩, h5⟩ := h
  rename_i x ap args p
  refine se_of g.hK (PE.of fun σ H Q ⟨φ, ψ, env, M, t, M', re, rm, ev, ok⟩ => ?_) rfl
  rw [evE] at ev
  obtain ⟨p, e1, ev⟩ := bnd ev
  split at ev
  case h_2 => cases ev
  rename_i i hi
  split at ev
  case h_2 => cases ev
  rename_i c' fs hM
  split at ev
  case isFalse => cases ev
  rename_i hc
  obtain ⟨rfl, hl⟩ := hc
  obtain ⟨q, e2, ev⟩ := bnd ev
  obtain ⟨C, e3, ev⟩ := bnd ev
  obtain ⟨F, e4, ev⟩ := bnd ev
  obtain ⟨c1, _, _, c4, _⟩ := g.tab.cls _ _ e3
  obtain ⟨ga, hm, E⟩ := c4 _ _ e4
  obtain ⟨fd, ps, hb, har, Fo⟩ := E.ex
  have pa := hs N sc ow X args g h5
  have po := (ho N sc ow X _ g h4).1
  have rd : tMeth (K.ca c') m (spM K ps.length F) [] E0 (tE G K o) (tEs G K es) σ H Q := by
    refine ⟨φ, ψ, env, M, p.1, p.2, re, rm, e1, fun φ1 H1 v x1 rm1 r1 => ?_⟩
    rw [hi] at r1
    obtain ⟨a, dx, gs, rfl, ha, hh, hf⟩ := ins_of rm1 r1 hM
    refine ⟨a, dx, gs, rfl, hh, hf.none hl, φ1, ψ, env, p.2, q.1, q.2, re.ext x1, rm1, e2, fun φ2 H2 vs x2 rm2 r2 => ?_⟩
    have rr : RTs K φ2 ψ H2 (p.1 :: q.1) (.ref a :: (vs ++ [])) := by
      rw [List.append_nil, hi]
      exact .cons (r1.to x2) r2
    exact ⟨by rw [← rr.length]; exact har _ _ _ ev, φ2, ψ, q.2, p.1 :: q.1, t, M', rm2, rr, ev, ok.ext (x1.trans x2)⟩
  cases args with
  | nil =>
    cases es with
    | cons _ _ => simp [okEs] at h5
    | nil =>
      refine ⟨_, pe_meth0 (E := E0) po c1 hm Fo (g.room.mono (Nat.le_succ _)) hb .nil pass0 (meth_eq h0 h1 h2 h3), ?_⟩
      obtain ⟨φ', ψ', env', M1, t1, M1', re', rm', ev', ok'⟩ := rd
      refine ⟨φ', ψ', env', M1, t1, M1', re', rm', ev', fun φ1 H1 v x1 rm1 r1 => ?_⟩
      obtain ⟨a, dx, gs, q1, q2, q3, q4⟩ := ok' φ1 H1 v x1 rm1 r1
      refine ⟨a, dx, gs, q1, q2, q3, ?_⟩
      obtain ⟨φ', ψ', env', M1, ts', M1', re', rm', ev', ok'⟩ := q4
      rw [evEs] at ev'
      cases ev'
      exact ok' φ' H1 [] .refl rm' .nil
  | cons a as =>
    have h1' := h1
    rw [List.all_cons, Bool.and_eq_true] at h1'
    exact ⟨_, pe_meth (E := E0) po c1 hm Fo (g.room.mono (Nat.le_succ _)) hb .nil pass0 pa (star_cons h1'.1) (back_any h1'.2) (meth_eq h0 h1 h2 h3), rd⟩
theorem s_mk {c : Str} {es : MEs} (hs : SA G K k es) : SE G K k (.mk c es) := by
  intro N sc ow X e g h
  unfold okE at h
  split at h <;> (try cases h) <;> rename_i q <;> cases q
  simp only [Bool.and_eq_true, decide_eq_true_eq] at h
  obtain ⟨⟨⟨rfl, h0⟩, h1⟩, h2⟩ := h
  obtain ⟨hg, hd⟩ := gl_of g h0
  rename_i args p
  refine se_of g.hK (PE.of fun σ H Q ⟨φ, ψ, env, M, t, M', re, rm, ev, ok⟩ => ?_) rfl
  rw [evE] at ev
  obtain ⟨p, e1, ev⟩ := bnd ev
  obtain ⟨C, e3, ev⟩ := bnd ev
  obtain ⟨F, e4, ev⟩ := bnd ev
  obtain ⟨r, e5, ev⟩ := bnd ev
  split at ev
  case h_2 => cases ev
  rename_i hr
  cases ev
  obtain ⟨c1, c2, _, _, c5⟩ := g.tab.cls _ _ e3
  obtain ⟨ga, hm, E⟩ := c5 _ e4
  obtain ⟨fd, ps, hb, har, Fo⟩ := E.ex
  have pa := hs N sc ow X args g h2
  have rd : tMake (K.ca c) (spM K ps.length F) [] E0 (tEs G K es) σ H Q := ⟨φ, ψ, env, M, p.1, p.2, re, rm, e1, fun φ1 H1 vs x1 rm1 r1 x dx hx hdx hne => by
    have n1 : Ext φ1 H1 φ1 (upd H1 dx (.own x)) := .new hdx (rm1.fresh hdx)
    have m1 : RM K φ1 ψ (upd H1 dx (.own x)) p.2 := rm1.new hdx
    have hx' : (upd H1 dx (.own x)) x = none := by rw [upd_ne (Ne.symm hne)]; exact hx
    have n2 : Ext φ1 (upd H1 dx (.own x)) (φ1 ++ [x]) (upd (upd H1 dx (.own x)) x (.ins (K.ca c) dx [])) := .push hx'
    have m2 : RM K (φ1 ++ [x]) ψ (upd (upd H1 dx (.own x)) x (.ins (K.ca c) dx [])) (p.2 ++ [.ins c []]) := m1.push hx' ⟨dx, [], upd_same, trivial⟩
    have hi : (φ1 ++ [x])[p.2.length]? = some x := by rw [← rm1.len, List.getElem?_append_right (Nat.le_refl _)]; simp
    have rr : RTs K (φ1 ++ [x]) ψ (upd (upd H1 dx (.own x)) x (.ins (K.ca c) dx [])) (.obj p.2.length :: p.1) (.ref x :: (vs ++ [])) := by
      rw [List.append_nil]
      exact .cons (.obj hi) (r1.to (n1.trans n2))
    refine ⟨by rw [← rr.length]; exact har _ _ _ e5, φ1 ++ [x], ψ, _, _, r.1, r.2, m2, rr, e5, fun φ2 H2 v x2 rm2 r2 => ?_⟩
    rw [hr] at r2
    cases r2
    exact ⟨rfl, ok φ2 H2 _ (x1.trans (n1.trans (n2.trans x2))) rm2 (.obj (x2.get hi))⟩⟩
  cases args with
  | nil =>
    cases es with
    | cons _ _ => simp [okEs] at h2
    | nil =>
      refine ⟨_, pe_make0 (E := E0) hm Fo g.room hg c2 hb .nil pass0 hd, ?_⟩
      obtain ⟨φ', ψ', env', M1, ts', M1', re', rm', ev', ok'⟩ := rd
      rw [evEs] at ev'
      cases ev'
      exact ok' φ' H [] .refl rm' .nil
  | cons a as =>
    rw [List.all_cons, Bool.and_eq_true] at h1
    exact ⟨_, pe_make (E := E0) hm Fo g.room hg c2 hb .nil pass0 pa hd (star_cons h1.1) (back_any h1.2), rd⟩
end Mi
end L2

/-! Mini: methods of lists, subscripts, displays, targets, sources are sound. -/
namespace L2
namespace Mi
open PySem PySem.Spec PyProof.Rows
variable {G : Sig} {K : KC} {k : Nat}
theorem tyV_list {X : Cx} {φ ψ : List Addr} {H : Hp} {M : Mem} {t : T} {ts : List T} {v : V} (hK : K.K = X.K) (rm : RM K φ ψ H M) (r : RT K φ ψ H t v) (e : lof M t = some ts) : tyV X.K "list" v H := by
  obtain ⟨a, vs, rfl, h1, h2⟩ := lof_ok rm r e
  exact .inl ⟨rfl, vs, SqL.of h1⟩
theorem s_bm {b : BM} {o : ME} {es : MEs} (ho : SE G K k o) (hs : SA G K k es) : SE G K k (.bm b o es) := by
  intro N sc ow X e g h
  unfold okE at h
  split at h <;> (try cases h) <;> rename_i q <;> cases q
  simp only [Bool.and_eq_true, decide_eq_true_eq] at h
  obtain ⟨⟨⟨⟨⟨⟨⟨rfl, h0⟩, h1⟩, h2⟩, h3⟩, h6⟩, h4⟩, h5⟩ := h
  rename_i x ap args p
  have pa := hs N sc ow X args g h5
  have po := (ho N sc ow X _ g h4).1
  have i1 : ∀ σ H Q, tE G K (.bm b o es) σ H Q → tBM X.K "list" (rBm K b) (tE G K o) (tEs G K es) σ H Q := fun σ H Q ⟨φ, ψ, env, M, t, M', re, rm, ev, ok⟩ => by
    rw [evE] at ev
    obtain ⟨p, e1, ev⟩ := bnd ev
    obtain ⟨ls, e2, ev⟩ := bnd ev
    obtain ⟨q, e3, ev⟩ := bnd ev
    exact ⟨φ, ψ, env, M, p.1, p.2, re, rm, e1, fun φ1 H1 v x1 rm1 r1 => ⟨tyV_list g.hK rm1 r1 e2, φ1, ψ, env, p.2, q.1, q.2, re.ext x1, rm1, e3, fun φ2 H2 vs x2 rm2 r2 =>
      ⟨φ2, ψ, q.2, p.1, q.1, t, M', rm2, r1.to x2, r2, ev, ok.ext (x1.trans x2)⟩⟩⟩
  have hm : MtR X (bmId b) (rBm K b) := op_bm (X := X) b
  refine se_of g.hK (PE.imp ?_ i1) rfl
  cases args with
  | nil =>
    have i2 : ∀ σ H Q, tBM X.K "list" (rBm K b) (tE G K o) (tEs G K es) σ H Q → tBM0 X.K "list" (rBm K b) (tE G K o) σ H Q := fun σ H Q ⟨φ, ψ, env, M, t, M', re, rm, ev, ok⟩ =>
      ⟨φ, ψ, env, M, t, M', re, rm, ev, fun φ1 H1 v x1 rm1 r1 => by
        obtain ⟨q1, q2⟩ := ok φ1 H1 v x1 rm1 r1
        refine ⟨q1, ?_⟩
        obtain ⟨φ', ψ', env', M1, ts', M1', re', rm', ev', ok'⟩ := q2
        cases es with
        | cons _ _ => simp [okEs] at h5
        | nil =>
          rw [evEs] at ev'
          cases ev'
          exact ok' φ' H1 [] .refl rm' .nil⟩
    cases b with
    | append => simp [bmAr] at h6
    | extend => simp [bmAr] at h6
    | pop => simp [bmAr] at h6
    | remove => simp [bmAr] at h6
    | pop0 => exact PE.imp (pe_bm0 PySem.F.plainAttrs_list PySem.F.slot_list_pop PySem.F.type_list_pop hm po (sup_base h0) h3) i2
    | reverse => exact PE.imp (pe_bm0 PySem.F.plainAttrs_list PySem.F.slot_list_reverse PySem.F.type_list_reverse hm po (sup_base h0) h3) i2
  | cons a as =>
    have h1' := h1
    rw [List.all_cons, Bool.and_eq_true] at h1'
    cases b with
    | append => exact pe_bm PySem.F.plainAttrs_list PySem.F.slot_list_append PySem.F.type_list_append hm po pa (sup_base h0) (back_few h1 h2) h3 (star_cons h1'.1) (back_any h1'.2)
    | extend => exact pe_bm PySem.F.plainAttrs_list PySem.F.slot_list_extend PySem.F.type_list_extend hm po pa (sup_base h0) (back_few h1 h2) h3 (star_cons h1'.1) (back_any h1'.2)
    | pop => exact pe_bm PySem.F.plainAttrs_list PySem.F.slot_list_pop PySem.F.type_list_pop hm po pa (sup_base h0) (back_few h1 h2) h3 (star_cons h1'.1) (back_any h1'.2)
    | remove => exact pe_bm PySem.F.plainAttrs_list PySem.F.slot_list_remove PySem.F.type_list_remove hm po pa (sup_base h0) (back_few h1 h2) h3 (star_cons h1'.1) (back_any h1'.2)
    | pop0 => simp [bmAr] at h6
    | reverse => simp [bmAr] at h6
theorem s_ix {a b : ME} (ha : SE G K k a) (hb : SE G K k b) : SE G K k (.ix a b) := by
  intro N sc ow X e g h
  unfold okE at h
  split at h <;> (try cases h) <;> rename_i q <;> cases q
  simp only [Bool.and_eq_true, decide_eq_true_eq] at h
  obtain ⟨⟨h0, h1⟩, h2⟩ := h
  have hu := g.hu
  refine se_of g.hK (PE.imp (pe_ix (op_ix g.hK (by omega)) (ha N sc ow X _ g h1).1 (hb N sc ow X _ g h2).1 (plain_ix h0)) fun σ H Q ⟨φ, ψ, env, M, t, M', re, rm, ev, ok⟩ => ?_) rfl
  rw [evE] at ev
  obtain ⟨p, e1, ev⟩ := bnd ev
  obtain ⟨q, e2, ev⟩ := bnd ev
  obtain ⟨u, e3, ev⟩ := mpd ev
  cases ev
  refine ⟨φ, ψ, env, M, p.1, p.2, re, rm, e1, fun φ1 H1 v x1 rm1 r1 => ⟨φ1, ψ, env, p.2, q.1, q.2, re.ext x1, rm1, e2, fun φ2 H2 w x2 rm2 r2 => ?_⟩⟩
  exact ⟨φ2, ψ, q.2, p.1, q.1, t, rm2, r1.to x2, r2, e3, fun v' r' => ok φ2 H2 v' (x1.trans x2) rm2 r'⟩
theorem evP_gen {x : Option (T × Mem)} {o : Option Int} {M' : Mem} (h : (x.bind fun p => match p.1 with
    | .int i => some (some i, p.2)
    | _ => none) = some (o, M')) : ∃ i, o = some i ∧ x = some (.int i, M') := by
  obtain ⟨p, e1, e2⟩ := bnd h
  split at e2
  · rename_i i hi
    cases e2
    refine ⟨i, rfl, ?_⟩
    rw [e1, ← hi]
  · cases e2
theorem evP_of {m : ME} {env : En} {M M' : Mem} {o : Option Int} (hn : isNoP m = false) (h : evP G m env M = some (o, M')) : ∃ i, o = some i ∧ evE G m env M = some (.int i, M') := by
  cases m with
  | nopart => cases hn
  | int i =>
    rw [evP] at h
    cases h
    exact ⟨i, rfl, by rw [evE]⟩
  | _ => unfold evP at h; exact evP_gen h
theorem s_pa (m : ME) (hm : SE G K k m) : SP_ G K k m := by
  intro N sc ow X e g h
  cases e with
  | none =>
    cases m with
    | nopart =>
      refine PO.imp po_none fun σ H Q ⟨φ, ψ, env, M, t, M', re, rm, ev, ok⟩ => ?_
      rw [evP] at ev
      cases ev
      exact ok φ H .refl rm
    | _ => exact absurd h Bool.false_ne_true
  | some x =>
    have h : (!isNoP m && okE N sc m x) = true := h
    rw [Bool.and_eq_true, Bool.not_eq_true'] at h
    refine PO.imp (po_some (hm N sc ow X x g h.2).1) fun σ H Q ⟨φ, ψ, env, M, t, M', re, rm, ev, ok⟩ => ?_
    obtain ⟨i, rfl, ev'⟩ := evP_of h.1 ev
    refine ⟨φ, ψ, env, M, .int i, M', re, rm, ev', fun φ1 H1 v x1 rm1 r1 => ?_⟩
    cases r1
    exact ⟨i, rfl, ok φ1 H1 x1 rm1⟩
theorem s_slc {tr : Bool} {a lo hi : ME} (ha : SE G K k a) (hl : SP_ G K k lo) (hh : SP_ G K k hi) : SE G K k (.slc tr a lo hi) := by
  intro N sc ow X e g h
  unfold okE at h
  split at h <;> (try cases h) <;> rename_i q <;> cases q
  simp only [Bool.and_eq_true, decide_eq_true_eq] at h
  obtain ⟨⟨h0, h1⟩, h2⟩ := h
  refine se_of g.hK (PE.imp (pe_slice (op_sl g.hK tr) (ha N sc ow X _ g h0).1 (hl N sc ow X _ g (show okP N sc lo _ = true from h1)) (hh N sc ow X _ g (show okP N sc hi _ = true from h2))) fun σ H Q ⟨φ, ψ, env, M, t, M', re, rm, ev, ok⟩ => ?_) rfl
  rw [evE] at ev
  obtain ⟨p, e1, ev⟩ := bnd ev
  obtain ⟨l, e2, ev⟩ := bnd ev
  obtain ⟨u, e3, ev⟩ := bnd ev
  refine ⟨φ, ψ, env, M, p.1, p.2, re, rm, e1, fun φ1 H1 v x1 rm1 r1 => ⟨φ1, ψ, env, p.2, l.1, l.2, re.ext x1, rm1, e2, fun φ2 H2 x2 rm2 => ⟨φ2, ψ, env, l.2, u.1, u.2, re.ext (x1.trans x2), rm2, e3, fun φ3 H3 x3 rm3 => ?_⟩⟩⟩
  exact ⟨φ3, ψ, u.2, p.1, t, M', rm3, r1.to (x2.trans x3), ev, ok.ext (x1.trans (x2.trans x3))⟩
theorem s_rev {tr : Bool} {a : ME} (ha : SE G K k a) : SE G K k (.rev tr a) := by
  intro N sc ow X e g h
  unfold okE at h
  split at h <;> (try cases h) <;> rename_i q <;> cases q
  refine se_of g.hK (PE.imp (pe_revL (ha N sc ow X _ g h).1) fun σ H Q ⟨φ, ψ, env, M, t, M', re, rm, ev, ok⟩ => ?_) rfl
  rw [evE] at ev
  obtain ⟨p, e1, ev⟩ := bnd ev
  obtain ⟨ts, e2, ev⟩ := mpd ev
  refine ⟨φ, ψ, env, M, p.1, p.2, re, rm, e1, fun φ1 H1 v x1 rm1 r1 => ?_⟩
  obtain ⟨l, vs, rfl, h3, h4⟩ := lofS_ok rm1 r1 e2
  refine ⟨l, vs, rfl, by rw [← g.hK]; exact h3, fun p' hp => ?_⟩
  have ok2 := ok.ext x1
  rw [show t = (t, M').1 from rfl, show M' = (t, M').2 from rfl, ← ev] at ok2
  exact ok2.newL rm1 h4.reverse hp
theorem s_att {c : Str} {o : ME} {f : Str} (ho : SE G K k o) : SE G K k (.att c o f) := by
  intro N sc ow X e g h
  unfold okE at h
  split at h <;> (try cases h) <;> rename_i q <;> cases q
  simp only [Bool.and_eq_true, decide_eq_true_eq] at h
  obtain ⟨⟨rfl, h0⟩, h1⟩ := h
  refine se_of g.hK (PE.imp (pe_fld (ho N sc ow X _ g h1).1 (sup_base h0)) fun σ H Q ⟨φ, ψ, env, M, t, M', re, rm, ev, ok⟩ => ?_) rfl
  rw [evE] at ev
  obtain ⟨p, e1, ev⟩ := bnd ev
  split at ev
  case h_2 => cases ev
  rename_i i hi
  split at ev
  case h_2 => cases ev
  rename_i c' fs hM
  split at ev
  case isFalse => cases ev
  rename_i hc
  subst hc
  obtain ⟨C, e3, ev⟩ := bnd ev
  split at ev
  case isFalse => cases ev
  rename_i hf
  obtain ⟨u, e4, ev⟩ := mpd ev
  cases ev
  obtain ⟨c1, _, c3, _, _⟩ := g.tab.cls _ _ e3
  refine ⟨φ, ψ, env, M, p.1, p.2, re, rm, e1, fun φ1 H1 v x1 rm1 r1 => ?_⟩
  rw [hi] at r1
  obtain ⟨a, dx, gs, rfl, ha, hh, hfs⟩ := ins_of rm1 r1 hM
  obtain ⟨w, hw, hr⟩ := hfs.some e4
  exact ⟨a, K.ca c', dx, gs, w, rfl, hh, c1, c3 _ hf, hw, ok φ1 H1 w x1 rm1 hr⟩
theorem s_tup {es : MEs} (hs : SA G K k es) : SE G K k (.tup es) := by
  intro N sc ow X e g h
  unfold okE at h
  split at h <;> (try cases h) <;> rename_i q <;> cases q
  simp only [Bool.and_eq_true, decide_eq_true_eq] at h
  refine se_of g.hK (PE.imp (pe_tup (hs N sc ow X _ g h.2)) fun σ H Q ⟨φ, ψ, env, M, t, M', re, rm, ev, ok⟩ => ?_) rfl
  rw [evE] at ev
  obtain ⟨p, e1, ev⟩ := bnd ev
  split at ev
  case isFalse => cases ev
  rename_i hl
  cases ev
  refine ⟨φ, ψ, env, M, p.1, p.2, re, rm, e1, fun φ1 H1 vs x1 rm1 r1 => ⟨by rw [← r1.length, szl]; exact hl, fun p' hp => (ok.ext x1).newTup rm1 r1 hp⟩⟩
theorem s_lst {tr : Bool} {es : MEs} (hs : SA G K k es) : SE G K k (.lst tr es) := by
  intro N sc ow X e g h
  unfold okE at h
  split at h <;> (try cases h) <;> rename_i q <;> cases q
  simp only [Bool.and_eq_true, decide_eq_true_eq] at h
  refine se_of g.hK (PE.imp (pe_lst (hs N sc ow X _ g h.2)) fun σ H Q ⟨φ, ψ, env, M, t, M', re, rm, ev, ok⟩ => ?_) rfl
  rw [evE] at ev
  obtain ⟨p, e1, ev⟩ := bnd ev
  split at ev
  case isFalse => cases ev
  rename_i hl
  have ev := Option.some.inj ev
  refine ⟨φ, ψ, env, M, p.1, p.2, re, rm, e1, fun φ1 H1 vs x1 rm1 r1 => ⟨by rw [← r1.length, szl]; exact hl, fun p' hp => ?_⟩⟩
  have ok2 := ok.ext x1
  rw [show t = (t, M').1 from rfl, show M' = (t, M').2 from rfl, ← ev] at ok2
  exact ok2.newL rm1 r1 hp
theorem s_dnew {tk : Bool} : SE G K k (.dnew tk) := by
  intro N sc ow X e g h
  unfold okE at h
  split at h <;> (try cases h) <;> rename_i q <;> cases q
  have key : ∀ σ H Q, tE G K (.dnew tk) σ H Q → ∀ p, H p = none → Q (.ref p) (upd H p (if tk = true then .dT [] else .dK [])) := fun σ H Q ⟨φ, ψ, env, M, t, M', re, rm, ev, ok⟩ p hp => by
    rw [evE] at ev
    split at ev
    case isTrue => cases ev
    rename_i hkt
    cases ev
    have hi : (φ ++ [p])[M.length]? = some p := by rw [← rm.len, List.getElem?_append_right (Nat.le_refl _)]; simp
    refine ok (φ ++ [p]) _ _ (.push hp) (rm.push hp ?_) (.obj hi)
    cases tk with
    | true =>
      refine .inr ⟨rfl, ?_, [], ?_, rfl, .nil⟩
      · rw [← g.tab.kt]
        cases hq : G.kt with
        | true => exact absurd ⟨rfl, hq⟩ hkt
        | false => rfl
      · rw [if_pos rfl]; exact upd_same
    | false => exact .inl ⟨rfl, [], by rw [if_neg Bool.false_ne_true]; exact upd_same, rfl, .nil⟩
  cases tk with
  | true => exact se_of g.hK (PE.imp pe_dnewT fun σ H Q q p hp => by have := key σ H Q q p hp; rwa [if_pos rfl] at this) rfl
  | false => exact se_of g.hK (PE.imp pe_dnewK fun σ H Q q p hp => by have := key σ H Q q p hp; rwa [if_neg Bool.false_ne_true] at this) rfl
/-! ### targets -/
theorem s_nm {i : Nat} {x : Str} : SG G K k (.nm i x) := by
  intro N sc ow X e g h
  unfold okT' at h
  split at h <;> (try cases h) <;> rename_i q <;> cases q
  simp only [Bool.and_eq_true, decide_eq_true_eq] at h
  obtain ⟨⟨rfl, h1⟩, h2⟩ := h
  obtain ⟨s1, s2⟩ := g.st _ h2
  refine PG.imp (pg_name (by rw [g.hN]; exact g.nd) (by rw [g.hN]; exact h1) (by rw [g.sc_]; exact s1) (by rw [g.sc_]; exact s2)) fun v σ H Q ⟨φ, ψ, env, M, t, env', re, rm, r, ev, ok⟩ => ?_
  rw [asgT] at ev
  cases ev
  exact ok _ (re.set r) ⟨by rw [List.length_set], fun j hj => by rw [List.getElem?_set_ne]; intro z; exact hj (by rw [slT']; exact List.mem_singleton.mpr z.symm)⟩
theorem asgs_len {N ow : List Str} {env : Env} : ∀ {ts : MTs} {es : List Expr}, okTs' N ow ts es = true → es.all notStar = true
  | .nil, [], _ => rfl
  | .cons t ts, e :: es, h => by
    simp only [okTs', Bool.and_eq_true] at h
    rw [List.all_cons, h.1.1, asgs_len (env := env) h.2]; rfl
  | .nil, _ :: _, h => by simp [okTs'] at h
  | .cons _ _, [], h => by simp [okTs'] at h
theorem asgs_n {N ow : List Str} {env env' : En} : ∀ {ts : MTs} {es : List Expr} {us : List T}, okTs' N ow ts es = true → asgTs ts us env = some env' → us.length = es.length
  | .nil, [], [], _, _ => rfl
  | .cons t ts, e :: es, u :: us, h, h2 => by
    simp only [okTs', Bool.and_eq_true] at h
    rw [asgTs] at h2
    obtain ⟨_, _, h3⟩ := bnd h2
    rw [List.length_cons, List.length_cons]
    have := asgs_n (env' := env') h.2 h3
    omega
  | .nil, _ :: _, _, h, _ => by simp [okTs'] at h
  | .cons _ _, [], _, h, _ => by simp [okTs'] at h
  | .nil, [], _ :: _, _, h => by simp [asgTs] at h
  | .cons _ _, _ :: _, [], _, h => by simp [asgTs] at h
theorem s_tp {ts : MTs} (hs : SGs G K k ts) : SG G K k (.tp ts) := by
  intro N sc ow X e g h
  unfold okT' at h
  split at h <;> (try cases h) <;> rename_i q <;> cases q
  have hst := asgs_len (env := X.env) h
  refine PG.imp (pg_tup (n := (assignEach _ X.env).length) g.hc (hs N sc ow X _ g h) rfl (by
    rw [assign_map hst]
    apply List.findIdx?_eq_none_iff.mpr
    intro x hx
    obtain ⟨y, _, rfl⟩ := List.mem_map.mp hx
    rfl)) fun v σ H Q ⟨φ, ψ, env, M, t, env', re, rm, r, ev, ok⟩ => ?_
  unfold asgT at ev
  split at ev
  case h_2 => cases ev
  rename_i us
  cases r with
  | tup h1 h2 =>
    refine ⟨_, _, rfl, by rw [← g.hK]; exact h1.sq, ?_, φ, ψ, env, M, us, env', re, rm, h2, ev, fun σ' h3 h4 => ok σ' h3 (by rw [slT']; exact h4)⟩
    rw [← h2.length, assign_map hst, List.length_map]
    exact asgs_n h ev
theorem s_tn : SGs G K k .nil := by
  intro N sc ow X es g h
  cases es with
  | cons _ _ => simp [okTs'] at h
  | nil =>
    refine PGs.imp pgs_nil fun vs σ H Q ⟨φ, ψ, env, M, ts, env', re, rm, r, ev, ok⟩ => ?_
    cases r with
    | cons _ _ => simp [asgTs] at ev
    | nil =>
      rw [asgTs] at ev
      cases ev
      exact ⟨rfl, ok σ re ⟨rfl, fun _ _ => rfl⟩⟩
theorem s_tc {t : MT} {ts : MTs} (ht : SG G K k t) (hs : SGs G K k ts) : SGs G K k (.cons t ts) := by
  intro N sc ow X es g h
  cases es with
  | nil => simp [okTs'] at h
  | cons e es =>
    simp only [okTs', Bool.and_eq_true] at h
    obtain ⟨⟨h0, h1⟩, h2⟩ := h
    refine PGs.imp (pgs_cons (ht N sc ow X e g h1) (hs N sc ow X es g h2) (by rw [assign_cons h0]; rfl)) fun vs σ H Q ⟨φ, ψ, env, M, us, env', re, rm, r, ev, ok⟩ => ?_
    cases r with
    | nil => simp [asgTs] at ev
    | cons r1 r2 =>
      rw [asgTs] at ev
      obtain ⟨env1, e1, ev⟩ := bnd ev
      exact ⟨_, _, rfl, φ, ψ, env, M, _, env1, re, rm, r1, e1, fun σ1 re1 a1 => ⟨φ, ψ, env1, M, _, env', re1, rm, r2, ev, fun σ2 re2 a2 => ok σ2 re2 (by rw [slTs]; exact a1.trans a2)⟩⟩
/-! ### sources -/
theorem sq_of {X : Cx} {φ ψ : List Addr} {H : Hp} {M : Mem} {t : T} {ts : List T} {v : V} (hK : K.K = X.K) (rm : RM K φ ψ H M) (r : RT K φ ψ H t v) (e : sof M t = some ts) : ∃ a vs, v = .ref a ∧ SqB X.K (isTup t) H a vs ∧ RTs K φ ψ H ts vs := by
  obtain ⟨a, vs, rfl, h1, h2⟩ := sof_ok rm r e
  refine ⟨a, vs, rfl, ?_, h1⟩
  rw [← hK]
  rcases h2 with ⟨h2, hne⟩ | ⟨h2, rfl⟩
  · have : isTup t = false := by
      cases t <;> first | rfl | exact absurd rfl (hne _)
    rw [this]
    exact h2
  · exact h2
theorem s_over {a : ME} (ha : SE G K k a) : SI G K k (.over a) := by
  intro N sc ow X tg e g h
  unfold okI at h
  refine PI.imp (pi_sq (ha N sc ow X e g h).1) fun σ H R ⟨φ, ψ, env, M, p, M', re, rm, ev, ok⟩ => ?_
  rw [evI] at ev
  obtain ⟨q, e1, ev⟩ := bnd ev
  obtain ⟨ts, e2, ev⟩ := mpd ev
  cases ev
  refine ⟨φ, ψ, env, M, q.1, q.2, re, rm, e1, fun φ1 H1 v x1 rm1 r1 => ?_⟩
  obtain ⟨a', vs, rfl, h1, h2⟩ := sq_of g.hK rm1 r1 e2
  refine ⟨isTup q.1, a', vs, rfl, h1, ok φ1 H1 _ x1 rm1 ?_⟩
  have := walk_sq (K := K) r1 e2
  rw [g.hK] at this
  exact this
theorem s_rng1 {a : ME} (ha : SE G K k a) : SI G K k (.rng1 a) := by
  intro N sc ow X tg e g h
  unfold okI at h
  split at h <;> (try cases h) <;> rename_i q <;> cases q
  simp only [Bool.and_eq_true, decide_eq_true_eq] at h
  obtain ⟨⟨⟨rfl, h0⟩, h1⟩, h2⟩ := h
  obtain ⟨hg, hd⟩ := gl_of g h0
  refine PI.imp (pi_range1 hg (gc_blt g (by decide)) (pa_cons (ha N sc ow X _ g h2).1 pa_nil (star_cons h1)) (star_cons h1)) fun σ H R ⟨φ, ψ, env, M, p, M', re, rm, ev, ok⟩ => ?_
  rw [evI] at ev
  obtain ⟨q, e1, ev⟩ := bnd ev
  split at ev
  case h_2 => cases ev
  rename_i j hj
  split at ev
  case isFalse => cases ev
  rename_i hr
  cases ev
  refine ⟨φ, ψ, env, M, q.1, q.2, re, rm, e1, fun φ1 H1 v x1 rm1 r1 => ?_⟩
  rw [hj] at r1
  cases r1
  refine ⟨j, rfl, hr.2.2.1, hr.2.2.2, ok φ1 H1 _ x1 rm1 ?_⟩
  have := walk_rng (K := K) (φ0 := φ1) (ψ0 := ψ) (H0 := H1) 0 j
  rwa [show (j - 0).toNat = j.toNat by rw [Int.sub_zero]] at this
theorem s_rng2 {a b : ME} (ha : SE G K k a) (hb : SE G K k b) : SI G K k (.rng2 a b) := by
  intro N sc ow X tg e g h
  unfold okI at h
  split at h <;> (try cases h) <;> rename_i q <;> cases q
  simp only [Bool.and_eq_true, decide_eq_true_eq] at h
  obtain ⟨⟨⟨⟨⟨rfl, h0⟩, h1⟩, h1'⟩, h2⟩, h3⟩ := h
  obtain ⟨hg, hd⟩ := gl_of g h0
  refine PI.imp (pi_range2 hg (gc_blt g (by decide)) (pa_cons (ha N sc ow X _ g h2).1 (pa_cons (hb N sc ow X _ g h3).1 pa_nil (star_cons h1')) (star_cons h1)) (by rw [star_cons h1, star_cons h1']; rfl) (star_cons h1')) fun σ H R ⟨φ, ψ, env, M, p, M', re, rm, ev, ok⟩ => ?_
  rw [evI] at ev
  obtain ⟨q, e1, ev⟩ := bnd ev
  obtain ⟨r, e2, ev⟩ := bnd ev
  split at ev
  case h_2 => cases ev
  rename_i i j hi hj
  split at ev
  case isFalse => cases ev
  rename_i hr
  cases ev
  refine ⟨φ, ψ, env, M, q.1, q.2, re, rm, e1, fun φ1 H1 v x1 rm1 r1 => ⟨φ1, ψ, env, q.2, r.1, r.2, re.ext x1, rm1, e2, fun φ2 H2 w x2 rm2 r2 => ?_⟩⟩
  rw [hi] at r1
  rw [hj] at r2
  cases r1
  cases r2
  exact ⟨i, j, rfl, hr, ok φ2 H2 _ (x1.trans x2) rm2 (walk_rng i j)⟩
theorem s_enum {a : ME} (ha : SE G K k a) : SI G K k (.enum a) := by
  intro N sc ow X tg e g h
  unfold okI at h
  split at h <;> (try cases h) <;> rename_i q <;> cases q
  simp only [Bool.and_eq_true, decide_eq_true_eq] at h
  obtain ⟨⟨⟨rfl, h0⟩, h1⟩, h2⟩ := h
  obtain ⟨hg, hd⟩ := gl_of g h0
  refine PI.imp (pi_en hg (gc_blt g (by decide)) (pa_cons (ha N sc ow X _ g h2).1 pa_nil (star_cons h1)) (star_cons h1)) fun σ H R ⟨φ, ψ, env, M, p, M', re, rm, ev, ok⟩ => ?_
  rw [evI] at ev
  obtain ⟨q, e1, ev⟩ := bnd ev
  obtain ⟨ts, e2, ev⟩ := mpd ev
  cases ev
  refine ⟨φ, ψ, env, M, q.1, q.2, re, rm, e1, fun φ1 H1 v x1 rm1 r1 => ?_⟩
  obtain ⟨a', vs, rfl, h3, h4⟩ := sq_of g.hK rm1 r1 e2
  refine ⟨a', isTup q.1, vs, rfl, h3, ok φ1 H1 _ x1 rm1 ?_⟩
  have := walk_en (K := K) r1 e2
  rw [g.hK] at this
  exact this
theorem s_zip2 {a b : ME} (ha : SE G K k a) (hb : SE G K k b) : SI G K k (.zip2 a b) := by
  intro N sc ow X tg e g h
  unfold okI at h
  split at h <;> (try cases h) <;> rename_i q <;> cases q
  simp only [Bool.and_eq_true, decide_eq_true_eq] at h
  obtain ⟨⟨⟨⟨⟨rfl, h0⟩, h1⟩, h1'⟩, h2⟩, h3⟩ := h
  obtain ⟨hg, hd⟩ := gl_of g h0
  refine PI.imp (pi_z2 hg (gc_blt g (by decide)) (pa_cons (ha N sc ow X _ g h2).1 (pa_cons (hb N sc ow X _ g h3).1 pa_nil (star_cons h1')) (star_cons h1)) (star_cons h1) (back_any (by rw [List.all_cons, h1']; rfl))) fun σ H R ⟨φ, ψ, env, M, p, M', re, rm, ev, ok⟩ => ?_
  rw [evI] at ev
  obtain ⟨q, e1, ev⟩ := bnd ev
  obtain ⟨r, e2, ev⟩ := bnd ev
  obtain ⟨xs, e3, ev⟩ := bnd ev
  obtain ⟨ys, e4, ev⟩ := mpd ev
  cases ev
  refine ⟨φ, ψ, env, M, q.1, q.2, re, rm, e1, fun φ1 H1 v x1 rm1 r1 => ⟨φ1, ψ, env, q.2, r.1, r.2, re.ext x1, rm1, e2, fun φ2 H2 w x2 rm2 r2 => ?_⟩⟩
  have r1' := r1.to x2
  obtain ⟨a', vs, rfl, h4, h5⟩ := sq_of g.hK rm2 r1' e3
  obtain ⟨b', us, rfl, h6, h7⟩ := sq_of g.hK rm2 r2 e4
  refine ⟨a', b', isTup q.1, isTup r.1, vs, us, rfl, h4, h6, ok φ2 H2 _ (x1.trans x2) rm2 ?_⟩
  have := walk_z2 (K := K) r1' r2 e3 e4
  rw [g.hK] at this
  exact this
end Mi
end L2

/-! Mini: comprehensions are sound. -/
namespace L2
namespace Mi
open PySem PySem.Spec PyProof.Rows
variable {G : Sig} {K : KC} {k : Nat}
/-- but for one address all that stood stands -/
structure XD (D : Addr) (φ : List Addr) (H : Hp) (φ' : List Addr) (H' : Hp) : Prop where
  pre : φ <+: φ'
  keep : ∀ a o, a ∉ φ → a ≠ D → H a = some o → a ∉ φ' ∧ H' a = some o
section
variable {D : Addr} {φ φ1 φ2 ψ : List Addr} {H H1 H2 : Hp}
theorem XD.refl : XD D φ H φ H := ⟨List.prefix_rfl, fun _ _ h _ e => ⟨h, e⟩⟩
theorem XD.trans (x : XD D φ H φ1 H1) (y : XD D φ1 H1 φ2 H2) : XD D φ H φ2 H2 :=
  ⟨x.pre.trans y.pre, fun a o h n e => let ⟨h1, e1⟩ := x.keep a o h n e; y.keep a o h1 n e1⟩
theorem XD.of (x : Ext φ H φ1 H1) : XD D φ H φ1 H1 := ⟨x.pre, fun a o h _ e => x.keep a o h e⟩
theorem XD.upd {o : HO} : XD D φ H φ (upd H D o) := ⟨List.prefix_rfl, fun a o h n e => ⟨h, by rw [upd_ne n]; exact e⟩⟩
theorem XD.get (x : XD D φ H φ1 H1) {i : Nat} {a : Addr} (e : φ[i]? = some a) : φ1[i]? = some a := by
  obtain ⟨r, rfl⟩ := x.pre
  obtain ⟨h, _⟩ := List.getElem?_eq_some_iff.mp e
  rw [List.getElem?_append_left h]
  exact e
theorem XD.tr (x : XD D φ H φ1 H1) (ψ : List Addr) : Tr φ (D :: ψ) H φ1 (D :: ψ) H1 :=
  ⟨fun _ _ e => x.get e, fun a o h e => by
    have n : a ≠ D := fun z => h.2 (by rw [z]; exact List.mem_cons_self)
    obtain ⟨h1, e1⟩ := x.keep a o h.1 n e
    exact ⟨⟨h1, h.2⟩, e1⟩⟩
/-- from ahead of D -/
theorem XD.ext {o : HO} (hD : H D = none) (x : XD D φ (L2.upd H D o) φ1 H1) : Ext φ H φ1 H1 :=
  ⟨x.pre, fun a u h e => x.keep a u h (ne_of_none e hD) (by rw [upd_ne (ne_of_none e hD)]; exact e)⟩
theorem XD.tr0 {o : HO} (hD : H D = none) (x : XD D φ (L2.upd H D o) φ1 H1) : Tr φ ψ H φ1 (D :: ψ) H1 :=
  ⟨fun _ _ e => x.get e, fun a u h e => by
    have n : a ≠ D := ne_of_none e hD
    obtain ⟨h1, e1⟩ := (x.ext hD).keep a u h.1 e
    exact ⟨⟨h1, fun hm => (List.mem_cons.mp hm).elim n h.2⟩, e1⟩⟩
end
theorem loop_ok {CD : List T → List Addr → Hp → Prop} {D : Addr} {ψ φ0 ψ0 φs : List Addr} {H0 Hs : Hp} {Ms Mend : Mem} {items acc0 out : List T} {g : List (Nat × List T)} {step : T → Mem → Option (List T × Mem)} {J : It} {body : V → Hp → (Hp → Prop) → Prop} {Fin : Hp → Prop}
    {Lim : List T → Prop} (hw : WalkM K φ0 ψ0 H0 items g J) (hT : ∀ φ H, XD D φs Hs φ H → Tr φ0 ψ0 H0 φ (D :: ψ) H)
    (hCD : ∀ acc φ H φ' H', D ∉ φ → CD acc φ H → Ext φ H φ' H' → CD acc φ' H') (rm : RM K φs (D :: ψ) Hs Ms) (hc : CD acc0 φs Hs) (hl : lcC g step items Ms = some (out, Mend))
    (hLim : ∀ a b, Lim (a ++ b) → Lim a) (hlim : Lim (acc0 ++ out))
    (hb : ∀ φ H M t x o M' acc Nx, XD D φs Hs φ H → RM K φ (D :: ψ) H M → CD acc φ H → RT K φ (D :: ψ) H t x → step t M = some (o, M') → Lim (acc ++ o) →
      (∀ φ' H', XD D φ H φ' H' → RM K φ' (D :: ψ) H' M' → CD (acc ++ o) φ' H' → Nx H') → body x H Nx)
    (hf : ∀ φ H, XD D φs Hs φ H → RM K φ (D :: ψ) H Mend → CD (acc0 ++ out) φ H → Fin H) :
    ∃ W : Nat → Nat → Hp → Prop, (∃ m, W 0 m Hs) ∧ ∀ i m H, W i m H → (J.stop i H ∧ Fin H) ∨ (J.go i H ∧ ∃ Nx : Hp → Prop, (∀ H', Nx H' → ∃ m', m' < m ∧ W (i + 1) m' H') ∧ ∀ x H', J.yld i H x H' → body x H' Nx) := by
  refine ⟨fun i m H => m = items.length - i ∧ i ≤ items.length ∧ ∃ φ M acc rest, XD D φs Hs φ H ∧ RM K φ (D :: ψ) H M ∧ CD acc φ H ∧ lcC g step (items.drop i) M = some (rest, Mend) ∧ acc ++ rest = acc0 ++ out,
    ⟨_, rfl, Nat.zero_le _, φs, Ms, acc0, out, .refl, rm, hc, hl, rfl⟩, ?_⟩
  rintro i m H ⟨rfl, hi, φ, M, acc, rest, x, rmi, hci, hli, ha⟩
  by_cases hlt : i < items.length
  · rw [List.drop_eq_getElem_cons hlt] at hli
    rw [lcC] at hli
    split at hli
    case isFalse => cases hli
    rename_i hg
    obtain ⟨p, e1, hli⟩ := bnd hli
    obtain ⟨q, e2, hli⟩ := mpd hli
    have e3 : p.1 ++ q.1 = rest := congrArg Prod.fst hli
    have e4 : q.2 = Mend := congrArg Prod.snd hli
    have e2 : lcC g step (items.drop (i + 1)) p.2 = some (q.1, Mend) := by rw [e2, ← e4]
    rw [← e3] at ha
    refine .inr ⟨hw.goes i φ (D :: ψ) H M hlt (hT φ H x) rmi hg, fun H' => ∃ φ', XD D φs Hs φ' H' ∧ RM K φ' (D :: ψ) H' p.2 ∧ CD (acc ++ p.1) φ' H', fun H' ⟨φ', y1, y2, y3⟩ => ?_, fun v H' hy => ?_⟩
    · exact ⟨items.length - (i + 1), by omega, rfl, hlt, φ', p.2, acc ++ p.1, q.1, y1, y2, y3, e2, by rw [List.append_assoc]; exact ha⟩
    · obtain ⟨t, ht, x2, rm2, rt⟩ := hw.yields i φ (D :: ψ) H M v H' hlt (hT φ H x) rmi hg hy
      rw [List.getElem?_eq_getElem hlt] at ht
      cases ht
      have hDφ : D ∉ φ := fun hm => rmi.ap D hm List.mem_cons_self
      refine hb φ H' M _ v p.1 p.2 acc _ (x.trans (.of x2)) rm2 (hCD _ _ _ _ _ hDφ hci x2) rt e1 (hLim _ q.1 (by rw [List.append_assoc, ha]; exact hlim)) fun φ' H'' y1 y2 y3 => ⟨φ', (x.trans (.of x2)).trans y1, y2, y3⟩
  · have e : i = items.length := by omega
    subst e
    rw [List.drop_length, lcC] at hli
    split at hli
    case isFalse => cases hli
    rename_i hg
    cases hli
    rw [List.append_nil] at ha
    subst ha
    exact .inl ⟨hw.stops φ (D :: ψ) H _ (hT φ H x) rmi hg, hf φ H x rmi hci⟩
/-- what a list at D holds so far -/
def CDl (K : KC) (ψ : List Addr) (D : Addr) (acc : List T) (φ : List Addr) (H : Hp) : Prop := ∃ accs, H D = some (.lst accs) ∧ RTs K φ (D :: ψ) H acc accs
theorem CDl.ext {ψ : List Addr} {D : Addr} {acc : List T} {φ φ' : List Addr} {H H' : Hp} (hD : D ∉ φ) (h : CDl K ψ D acc φ H) (x : Ext φ H φ' H') : CDl K ψ D acc φ' H' := by
  obtain ⟨accs, h1, h2⟩ := h
  exact ⟨accs, (x.keep D _ hD h1).2, h2.to x⟩
theorem CDl.put {ψ : List Addr} {D : Addr} {acc : List T} {accs : List V} {φ : List Addr} {H : Hp} {t : T} {v : V} (h1 : RTs K φ (D :: ψ) H acc accs) (r : RT K φ (D :: ψ) H t v) : CDl K ψ D (acc ++ [t]) φ (upd H D (.lst (accs ++ [v]))) :=
  ⟨accs ++ [v], upd_same, RTs.tr .resw _ _ (h1.append (.cons r .nil))⟩
def Lim0 (l : List T) : Prop := l.length ≤ 16777216
theorem lim0 : ∀ a b, Lim0 (a ++ b) → Lim0 a := fun a b h => by unfold Lim0 at h ⊢; rw [List.length_append] at h; omega
noncomputable def stepL (G : Sig) (tg : MT) (ifs : MEs) (elt : ME) (env : En) (t : T) (M : Mem) : Option (List T × Mem) :=
  (asgT tg t env).bind fun σ2 => (evIf G ifs σ2 M).bind fun c => if c.1 then (evE G elt σ2 c.2).map fun r => ([r.1], r.2) else some ([], c.2)
/-- one turn of a list's innermost clause -/
theorem turn_l {ψ : List Addr} {D : Addr} {tg : MT} {ifs : MEs} {elt : ME} {env : En} {σb : L2.St} {vs : List Nat} {φ : List Addr} {H : Hp} {M M' : Mem} {t : T} {x : V} {o acc : List T} {Nx : Hp → Prop}
    (re : RE K φ (D :: ψ) H env (wipe σb vs)) (hv : ∀ j ∈ slT' tg, j ∈ vs) (rm : RM K φ (D :: ψ) H M) (hc : CDl K ψ D acc φ H) (rt : RT K φ (D :: ψ) H t x) (hs : stepL G tg ifs elt env t M = some (o, M')) (hl : Lim0 (acc ++ o))
    (hN : ∀ φ' H', XD D φ H φ' H' → RM K φ' (D :: ψ) H' M' → CDl K ψ D (acc ++ o) φ' H' → Nx H') :
    gM K tg x (wipe σb vs) H fun σ2 H2 => wipe σ2 vs = wipe σb vs ∧ tIf G K ifs σ2 H2 fun b H3 => if b = true then tE G K elt σ2 H3 fun y H4 => ∃ acc, H4 D = some (.lst acc) ∧ acc.length < sizeLine ∧ Nx (upd H4 D (.lst (acc ++ [y]))) else Nx H3 := by
  obtain ⟨env2, e1, hs⟩ := bnd hs
  obtain ⟨c, e2, hs⟩ := bnd hs
  have hD : D ∉ φ := fun hm => rm.ap D hm List.mem_cons_self
  refine ⟨φ, D :: ψ, env, M, t, env2, re, rm, rt, e1, fun σ2 re2 ag => ⟨by rw [ag.wipe hv, wipe_wipe], φ, D :: ψ, env2, M, c.1, c.2, re2, rm, e2, fun φ1 H1 x1 rm1 => ?_⟩⟩
  by_cases hb : c.1 = true
  · rw [if_pos hb] at hs ⊢
    obtain ⟨r, e3, hs⟩ := mpd hs
    cases hs
    refine ⟨φ1, D :: ψ, env2, c.2, r.1, r.2, re2.ext x1, rm1, e3, fun φ2 H2 y x2 rm2 r2 => ?_⟩
    obtain ⟨accs, h1, h2⟩ := hc.ext hD (x1.trans x2)
    refine ⟨accs, h1, ?_, hN φ2 _ ((XD.of (x1.trans x2)).trans .upd) rm2.resw (.put h2 r2)⟩
    rw [← h2.length, szl]
    unfold Lim0 at hl
    rw [List.length_append, List.length_singleton] at hl
    omega
  · rw [if_neg hb] at hs ⊢
    cases hs
    exact hN φ1 H1 (.of x1) rm1 (by rw [List.append_nil]; exact hc.ext hD x1)
/-- the list is done -/
theorem lc_end {ψ φ φ1 φ2 : List Addr} {H H1 H2 : Hp} {D : Addr} {o : HO} {M1 M2 : Mem} {tr : Bool} {acc : List T} {Q : VK} (x1 : Ext φ H φ1 H1) (rm1 : RM K φ1 ψ H1 M1) (hD : H1 D = none) (xd : XD D φ1 (upd H1 D o) φ2 H2) (rm2 : RM K φ2 (D :: ψ) H2 M2)
    (hc : CDl K ψ D acc φ2 H2) (ok : Ok1 K φ ψ H (mkL tr acc M2).1 (mkL tr acc M2).2 Q) : Q (.ref D) H2 := by
  obtain ⟨accs, h1, h2⟩ := hc
  have nφ : D ∉ φ2 := fun hm => rm2.ap D hm List.mem_cons_self
  have nψ : D ∉ ψ := fun hm => rm1.used D hm hD
  have x2 : Ext φ1 H1 φ2 H2 := xd.ext hD
  cases tr with
  | false => exact ok φ2 H2 _ (x1.trans x2) rm2.unres (.fl ⟨nφ, nψ⟩ h1 (RTs.tr .unres _ _ h2))
  | true =>
    have ad : Tr φ2 (D :: ψ) H2 (φ2 ++ [D]) ψ H2 := ⟨fun i a e => by
        obtain ⟨h, _⟩ := List.getElem?_eq_some_iff.mp e
        rw [List.getElem?_append_left h]; exact e, fun a u h e => ⟨⟨fun hm => by
          rcases List.mem_append.mp hm with q | q
          · exact h.1 q
          · exact h.2 (by rw [List.mem_singleton.mp q]; exact List.mem_cons_self), fun hm => h.2 (List.mem_cons_of_mem _ hm)⟩, e⟩⟩
    have x3 : Ext φ1 H1 (φ2 ++ [D]) H2 := ⟨x2.pre.trans (List.prefix_append _ _), fun a u h e => by
      obtain ⟨q1, q2⟩ := x2.keep a u h e
      refine ⟨fun hm => ?_, q2⟩
      rcases List.mem_append.mp hm with q | q
      · exact q1 q
      · exact ne_of_none e hD (List.mem_singleton.mp q)⟩
    have hi : (φ2 ++ [D])[M2.length]? = some D := by rw [← rm2.len, List.getElem?_append_right (Nat.le_refl _)]; simp
    refine ok (φ2 ++ [D]) H2 _ (x1.trans x3) ⟨by show (φ2 ++ [D]).length = (M2 ++ [O.lst acc]).length; rw [List.length_append, List.length_append, rm2.len]; rfl, ?_, fun a ha hψ => ?_, fun a ha => rm2.used a (List.mem_cons_of_mem _ ha), fun i a u e1 e2 => ?_⟩ (.obj hi)
    · refine List.nodup_append.mpr ⟨rm2.nd, by simp, fun a ha b hb => ?_⟩
      have : b = D := by simpa using hb
      subst this
      exact fun e => nφ (e ▸ ha)
    · rcases List.mem_append.mp ha with q | q
      · exact rm2.ap a q (List.mem_cons_of_mem _ hψ)
      · exact nψ (by rw [List.mem_singleton.mp q] at hψ; exact hψ)
    · have e2 : (M2 ++ [O.lst acc])[i]? = some u := e2
      by_cases hii : i < φ2.length
      · rw [List.getElem?_append_left hii] at e1
        rw [List.getElem?_append_left (by rw [← rm2.len]; exact hii)] at e2
        exact (rm2.at_ i a u e1 e2).tr ad rfl
      · have hl := rm2.len
        rw [List.getElem?_append_right (by omega)] at e1
        rw [List.getElem?_append_right (by omega)] at e2
        by_cases h0 : i - φ2.length = 0
        · rw [h0] at e1
          rw [show i - M2.length = 0 by omega] at e2
          cases e1; cases e2
          exact ⟨accs, h1, RTs.tr ad _ _ h2⟩
        · rw [List.getElem?_eq_none (by simp; omega)] at e1
          cases e1
def stepEq (G : Sig) (tr : Bool) (own : List (Str × Nat)) (tg : MT) (it : MI) (ifs : MEs) (elt : ME) (σ : En) (M : Mem) : evE G (.lc tr own tg it ifs elt) σ M = (evI G it σ M).bind fun p =>
      (lcC p.1.2 (stepL G tg ifs elt (wipeE σ (own.map (·.2)))) p.1.1 p.2).bind fun q => if q.1.length ≤ 16777216 then some (mkL tr q.1 q.2) else none := by
  rw [evE]; rfl
theorem rd_lc {tr : Bool} {own : List (Str × Nat)} {tg : MT} {it : MI} {ifs : MEs} {elt : ME} (hv : ∀ j ∈ slT' tg, j ∈ own.map (·.2)) {σ : L2.St} {H : Hp} {Q : VK} (h : tE G K (.lc tr own tg it ifs elt) σ H Q) :
    tLc (iM G K it) (gM K tg) (tIf G K ifs) (tE G K elt) (own.map (·.2)) σ H Q := by
  obtain ⟨φ, ψ, env, M, t, M', re, rm, ev, ok⟩ := h
  rw [stepEq] at ev
  obtain ⟨p, e1, ev⟩ := bnd ev
  obtain ⟨q, e2, ev⟩ := bnd ev
  split at ev
  case isFalse => cases ev
  rename_i hl
  have ev := Option.some.inj ev
  refine ⟨φ, ψ, env, M, p.1, p.2, re, rm, e1, fun φ1 H1 J x1 rm1 hw D hD => ?_⟩
  have re1 : RE K φ1 (D :: ψ) (upd H1 D (.lst [])) (wipeE env (own.map (·.2))) (wipe σ (own.map (·.2))) := ((re.ext x1).tr (.resv hD)).wipe _
  refine loop_ok (CD := CDl K ψ D) (Lim := Lim0) (acc0 := []) hw (fun φ' H' x => x.tr0 hD) (fun acc φ H φ' H' hD h x => h.ext hD x) (rm1.resv hD) ⟨[], upd_same, .nil⟩ e2 lim0 (by rw [List.nil_append]; exact hl)
    (fun φ' H' M1 t' x o M2 acc Nx x2 rm2 hc rt hs hl hN => turn_l (re1.tr (x2.tr ψ)) hv rm2 hc rt hs hl hN) fun φ' H' x2 rm2 hc => ?_
  rw [List.nil_append] at hc
  refine lc_end x1 rm1 hD x2 rm2 hc (tr := tr) ?_
  rw [ev]
  exact ok
end Mi
end L2

/-! Mini: comprehensions are sound, by their forms. -/
namespace L2
namespace Mi
open PySem PySem.Spec PyProof.Rows
variable {G : Sig} {K : KC} {k : Nat}
theorem all_mem {js ks : List Nat} (h : (js.all fun j => decide (j ∈ ks)) = true) : ∀ j ∈ js, j ∈ ks := fun j hj => of_decide_eq_true (List.all_eq_true.mp h j hj)
theorem blk_kind {N : List Str} {sc scope : Scope} {own : List (Str × Nat)} (h : blkC N sc scope own = true) : scope.kind = .function := (blkOk_by h).kind
theorem s_lc {tr : Bool} {own : List (Str × Nat)} {tg : MT} {it : MI} {ifs : MEs} {elt : ME} (hi : SI G K k it) (hg : SG G K k tg) (hf : SIf G K k ifs) (he : SE G K k elt) : SE G K k (.lc tr own tg it ifs elt) := by
  intro N sc ow X e g h
  unfold okE at h
  split at h <;> (try cases h) <;> rename_i q <;> cases q
  simp only [Bool.and_eq_true] at h
  obtain ⟨⟨⟨⟨⟨⟨⟨h1, h2⟩, h3⟩, h4⟩, h5⟩, h6⟩, h7⟩, h8⟩ := h
  have hk := blk_kind h1
  exact se_of g.hK (PE.imp (pe_lc g.hc (by rw [g.hN]; exact g.nd) (hi N sc ow X _ _ g h4) (by rw [g.hN, g.sc_]; exact blkOk_by h1) (fun s H C cl fp => hg _ _ _ _ _ (g.blk hk h2) h5) (fun s H C cl fp => hf _ _ _ _ _ (g.blk hk h2) h7)
    (fun s H C cl fp => (he _ _ _ _ _ (g.blk hk h2) h8).1) (fold_set h3)) fun σ H Q q => rd_lc (all_mem h6) q) rfl
/-- the same as a store to a name on one line -/
theorem s_setlc {tr : Bool} {own : List (Str × Nat)} {tg : MT} {it : MI} {ifs : MEs} {elt : ME} (hi : SI G K k it) (hg : SG G K k tg) (hf : SIf G K k ifs) (he : SE G K k elt) {N : List Str} {sc : Scope} {ow : List Str} {X : Cx} {e : Expr} {i : Nat} {y : Str} {py spos : Pos} (g : GC G K k N sc ow X)
    (h : okE N sc (.lc tr own tg it ifs elt) e = true) (hy : N[i]? = some y) (hl : sc.names.lookup y = some .local) (hsw : swapsWith e (some (.Name y py)) spos.line X.env = pure true) :
    PS X (.Assign [.Name y py] e spos) (tAsg (tE G K (.lc tr own tg it ifs elt)) (gName i)) := by
  unfold okE at h
  split at h <;> (try cases h) <;> rename_i q <;> cases q
  simp only [Bool.and_eq_true] at h
  obtain ⟨⟨⟨⟨⟨⟨⟨h1, h2⟩, h3⟩, h4⟩, h5⟩, h6⟩, h7⟩, h8⟩ := h
  have hk := blk_kind h1
  exact PS.imp (ps_setLc g.hc (by rw [g.hN]; exact g.nd) (by rw [g.hN]; exact hy) (by rw [g.sc_]; exact hl) hsw (hi N sc ow X _ _ g h4) (by rw [g.hN, g.sc_]; exact blkOk_by h1) (fun s H C cl fp => hg _ _ _ _ _ (g.blk hk h2) h5) (fun s H C cl fp => hf _ _ _ _ _ (g.blk hk h2) h7)
    (fun s H C cl fp => (he _ _ _ _ _ (g.blk hk h2) h8).1) (fold_set h3)) fun D σ H q => rd_lc (all_mem h6) q
/-! ### two clauses -/
noncomputable def stepL2 (G : Sig) (tg : MT) (ifs : MEs) (vs1 : List Nat) (tg1 : MT) (it1 : MI) (ifs1 : MEs) (elt : ME) (env : En) (t : T) (M : Mem) : Option (List T × Mem) :=
  (asgT tg t env).bind fun σ2 => (evIf G ifs σ2 M).bind fun c => if c.1 then (evI G it1 σ2 c.2).bind fun p1 => lcC p1.1.2 (stepL G tg1 ifs1 elt (wipeE σ2 vs1)) p1.1.1 p1.2 else some ([], c.2)
theorem step2Eq (tr : Bool) (own : List (Str × Nat)) (tg : MT) (it : MI) (ifs : MEs) (vs1 : List Nat) (tg1 : MT) (it1 : MI) (ifs1 : MEs) (elt : ME) (σ : En) (M : Mem) : evE G (.lc2 tr own tg it ifs vs1 tg1 it1 ifs1 elt) σ M = (evI G it σ M).bind fun p =>
      (lcC p.1.2 (stepL2 G tg ifs vs1 tg1 it1 ifs1 elt (wipeE σ (own.map (·.2)))) p.1.1 p.2).bind fun q => if q.1.length ≤ 16777216 then some (mkL tr q.1 q.2) else none := by
  rw [evE]; rfl
theorem rd_lc2 {tr : Bool} {own : List (Str × Nat)} {tg tg1 : MT} {it it1 : MI} {ifs ifs1 : MEs} {elt : ME} {vs1 : List Nat} (hv : ∀ j ∈ slT' tg, j ∈ own.map (·.2)) (hv1 : ∀ j ∈ slT' tg1, j ∈ vs1) {σ : L2.St} {H : Hp} {Q : VK} (h : tE G K (.lc2 tr own tg it ifs vs1 tg1 it1 ifs1 elt) σ H Q) :
    tLc2 (iM G K it) (gM K tg) (tIf G K ifs) (iM G K it1) (gM K tg1) (tIf G K ifs1) (tE G K elt) (own.map (·.2)) vs1 σ H Q := by
  obtain ⟨φ, ψ, env, M, t, M', re, rm, ev, ok⟩ := h
  rw [step2Eq] at ev
  obtain ⟨p, e1, ev⟩ := bnd ev
  obtain ⟨q, e2, ev⟩ := bnd ev
  split at ev
  case isFalse => cases ev
  rename_i hl
  have ev := Option.some.inj ev
  refine ⟨φ, ψ, env, M, p.1, p.2, re, rm, e1, fun φ1 H1 J x1 rm1 hw D hD => ?_⟩
  have re1 : RE K φ1 (D :: ψ) (upd H1 D (.lst [])) (wipeE env (own.map (·.2))) (wipe σ (own.map (·.2))) := ((re.ext x1).tr (.resv hD)).wipe _
  refine loop_ok (CD := CDl K ψ D) (Lim := Lim0) (acc0 := []) hw (fun φ' H' x => x.tr0 hD) (fun acc φ H φ' H' hD h x => h.ext hD x) (rm1.resv hD) ⟨[], upd_same, .nil⟩ e2 lim0 (by rw [List.nil_append]; exact hl)
    (fun φ' H' M1 t' x o M2 acc Nx x2 rm2 hc rt hs hl hN => ?_) fun φ' H' x2 rm2 hc => ?_
  · obtain ⟨env2, e1, hs⟩ := bnd hs
    obtain ⟨c, e2, hs⟩ := bnd hs
    have hDn : D ∉ φ' := fun hm => rm2.ap D hm List.mem_cons_self
    refine ⟨φ', D :: ψ, _, M1, t', env2, re1.tr (x2.tr ψ), rm2, rt, e1, fun σ2 re2 ag => ⟨by rw [ag.wipe hv, wipe_wipe], φ', D :: ψ, env2, M1, c.1, c.2, re2, rm2, e2, fun φ3 H3 x3 rm3 => ?_⟩⟩
    by_cases hb : c.1 = true
    · rw [if_pos hb] at hs ⊢
      obtain ⟨p1, e3, hs⟩ := bnd hs
      refine ⟨φ3, D :: ψ, env2, c.2, p1.1, p1.2, re2.ext x3, rm3, e3, fun φ4 H4 J1 x4 rm4 hw1 => ?_⟩
      refine loop_ok (CD := CDl K ψ D) (Lim := Lim0) (acc0 := acc) (out := o) hw1 (fun φ' H' x => x.tr ψ) (fun acc φ H φ' H' hD h x => h.ext hD x) rm4 (hc.ext hDn (x3.trans x4)) hs lim0 hl
        (fun φ5 H5 M5 t5 x5 o5 M6 acc5 Nx5 y5 rm5 hc5 rt5 hs5 hl5 hN5 => ?_) fun φ5 H5 y5 rm5 hc5 => hN φ5 H5 ((XD.of (x3.trans x4)).trans y5) rm5 hc5
      exact turn_l ((((re2.ext x3).ext x4).tr (y5.tr ψ)).wipe vs1) hv1 rm5 hc5 rt5 hs5 hl5 hN5
    · rw [if_neg hb] at hs ⊢
      cases hs
      exact hN φ3 H3 (.of x3) rm3 (by rw [List.append_nil]; exact hc.ext hDn x3)
  · rw [List.nil_append] at hc
    refine lc_end x1 rm1 hD x2 rm2 hc (tr := tr) ?_
    rw [ev]
    exact ok
theorem s_lc2 {tr : Bool} {own : List (Str × Nat)} {tg tg1 : MT} {it it1 : MI} {ifs ifs1 : MEs} {elt : ME} {vs1 : List Nat} (hi : SI G K k it) (hg : SG G K k tg) (hf : SIf G K k ifs) (hi1 : SI G K k it1) (hg1 : SG G K k tg1) (hf1 : SIf G K k ifs1) (he : SE G K k elt) :
    SE G K k (.lc2 tr own tg it ifs vs1 tg1 it1 ifs1 elt) := by
  intro N sc ow X e g h
  unfold okE at h
  split at h <;> (try cases h) <;> rename_i q <;> cases q
  simp only [Bool.and_eq_true] at h
  obtain ⟨⟨⟨⟨⟨⟨⟨⟨⟨⟨⟨⟨⟨h1, h2⟩, h3⟩, h3'⟩, h4⟩, h5⟩, h6⟩, h7⟩, h9⟩, h10⟩, h11⟩, h12⟩, h13⟩, h8⟩ := h
  have hk := blk_kind h1
  exact se_of g.hK (PE.imp (pe_lc2 (vs1 := vs1) g.hc (by rw [g.hN]; exact g.nd) (hi N sc ow X _ _ g h4) (by rw [g.hN, g.sc_]; exact blkOk_by h1) (all_mem h9) (fun s H C cl fp => hg _ _ _ _ _ (g.blk hk h2) h5) (fun s H C cl fp => hf _ _ _ _ _ (g.blk hk h2) h7)
    (fun s H C cl fp => (he _ _ _ _ _ (g.blk hk h2) h8).1) (hs := fold_set h3) (hi1 := fun s H C cl fp => hi1 _ _ _ _ _ _ (g.blk hk h2) h10) (hg1 := fun s H C cl fp => hg1 _ _ _ _ _ (g.blk hk h2) h11) (ht1 := fun s H C cl fp => hf1 _ _ _ _ _ (g.blk hk h2) h13) (hs1 := fun env => fold_set h3')) fun σ H Q q => rd_lc2 (all_mem h6) (all_mem h12) q) rfl
theorem s_setlc2 {tr : Bool} {own : List (Str × Nat)} {tg tg1 : MT} {it it1 : MI} {ifs ifs1 : MEs} {elt : ME} {vs1 : List Nat} (hi : SI G K k it) (hg : SG G K k tg) (hf : SIf G K k ifs) (hi1 : SI G K k it1) (hg1 : SG G K k tg1) (hf1 : SIf G K k ifs1) (he : SE G K k elt)
    {N : List Str} {sc : Scope} {ow : List Str} {X : Cx} {e : Expr} {i : Nat} {y : Str} {py spos : Pos} (g : GC G K k N sc ow X)
    (h : okE N sc (.lc2 tr own tg it ifs vs1 tg1 it1 ifs1 elt) e = true) (hy : N[i]? = some y) (hl : sc.names.lookup y = some .local) (hsw : swapsWith e (some (.Name y py)) spos.line X.env = pure true) :
    PS X (.Assign [.Name y py] e spos) (tAsg (tE G K (.lc2 tr own tg it ifs vs1 tg1 it1 ifs1 elt)) (gName i)) := by
  unfold okE at h
  split at h <;> (try cases h) <;> rename_i q <;> cases q
  simp only [Bool.and_eq_true] at h
  obtain ⟨⟨⟨⟨⟨⟨⟨⟨⟨⟨⟨⟨⟨h1, h2⟩, h3⟩, h3'⟩, h4⟩, h5⟩, h6⟩, h7⟩, h9⟩, h10⟩, h11⟩, h12⟩, h13⟩, h8⟩ := h
  have hk := blk_kind h1
  exact PS.imp (ps_setLc2 (vs1 := vs1) g.hc (by rw [g.hN]; exact g.nd) (by rw [g.hN]; exact hy) (by rw [g.sc_]; exact hl) hsw (hi N sc ow X _ _ g h4) (by rw [g.hN, g.sc_]; exact blkOk_by h1) (all_mem h9) (fun s H C cl fp => hg _ _ _ _ _ (g.blk hk h2) h5) (fun s H C cl fp => hf _ _ _ _ _ (g.blk hk h2) h7)
    (fun s H C cl fp => (he _ _ _ _ _ (g.blk hk h2) h8).1) (hs := fold_set h3) (hi1 := fun s H C cl fp => hi1 _ _ _ _ _ _ (g.blk hk h2) h10) (hg1 := fun s H C cl fp => hg1 _ _ _ _ _ (g.blk hk h2) h11) (ht1 := fun s H C cl fp => hf1 _ _ _ _ _ (g.blk hk h2) h13) (hs1 := fun env => fold_set h3')) fun D σ H q => rd_lc2 (all_mem h6) (all_mem h12) q
end Mi
end L2

/-! Mini: sets of ints from lists. -/
namespace L2
open PySem PySem.Spec PyProof.Rows
section
variable {P : Program} {w : World} {A : Around} {E : Value → Shared → Prop} {s : Shared}
theorem call_set_listI {l : Addr} {items : Array Value} (ns : List Int) {Q : Value → Shared → Prop} (hh : A.handled = none) (hl : s.heap.IsList l items) (hit : IntsAre items.toList ns) (hb : ns.length + 1 < scanBound)
    (h : ∀ (h' : Heap) (tk c : Nat), SetR w h' s.heap.objs.size (fun j => decide (j ∈ ns)) c → c ≤ ns.length → (∀ b o, s.heap.get? b = some o → h'.get? b = some o) → Q (.ref s.heap.objs.size) { s with heap := h', toks := tk }) :
    wpAny (model P w) A (call (.type "set") [.ref l]) Q E s := by
  have hisz : items.size = ns.length := by
    have q := IntsAre.length hit
    rw [Array.length_toList] at q
    exact q
  obtain ⟨c, tl, hmro⟩ := F.called_set.mro
  have hmade := F.called_set.made
  have hsub := F.called_set.sub
  refine wpAny_call (codeAny_of_tree ?_)
  show wpAny _ _ (callAny (.type "set") _) _ _ _
  refine wpAny_pure ⟨Code.quiet_builtin _ (by decide +kernel), codeAny_builtin F.entry_type_call ?_⟩
  rw [Around.under_plain (weight_type_call_type "set" [.ref l] []) rfl]
  have h1 := F.called_set.notType
  have h2 := F.called_set.canCreate
  have hct := F.typeCall_set_1 (.ref l)
  repeat (any_goals (first | assumption | wp_step))

  refine codeAny_mono (code_set_led1 (.ref l) (E := E) (Q₁ := fun obj s₁ => obj = .ref s.heap.objs.size ∧ s₁ = { s with heap := s.heap.push { cls := .type "set", dict := none, data := .set #[] 0 (.fresh 0 0 (!w.params.followText "set-order")) } }) ⟨rfl, rfl⟩) fun r s₁ hr => ?_
  cases r with
  | error e => exact hr
  | ok fl =>
    cases fl with
    | ret obj =>
      obtain ⟨rfl, rfl⟩ := hr
      have hS : (s.heap.push { cls := .type "set", dict := none, data := .set #[] 0 (.fresh 0 0 (!w.params.followText "set-order")) }).get? s.heap.objs.size = some { cls := .type "set", dict := none, data := .set #[] 0 (.fresh 0 0 (!w.params.followText "set-order")) } := Heap.get?_push_size _ rfl
      have hT : Shared.TypeIs { s with heap := s.heap.push { cls := .type "set", dict := none, data := .set #[] 0 (.fresh 0 0 (!w.params.followText "set-order")) } } (.ref s.heap.objs.size) "set" := ⟨_, hS, rfl⟩
      have hli := F.called_set.init.lookup
      have hbi := F.called_set.init.bind (.ref s.heap.objs.size)
      repeat (any_goals (first | assumption | wp_step))

      refine codeAny_mono (codeAny_call_builtin (R := wants (fun r s₂ => r = .none ∧ ∃ h' tk c, s₂ = { s with heap := h', toks := tk } ∧ SetR w h' s.heap.objs.size (fun j => decide (j ∈ ns)) c ∧ c ≤ ns.length ∧
          (∀ b o, s.heap.get? b = some o → h'.get? b = some o)) E) F.called_set.init.plain F.entry_set_init (check_set_init_1 hT ?_)) fun r₂ s₂ hr₂ => ?_
      · obtain ⟨ol, hol, hcl, nl, hdl⟩ := hl
        obtain ⟨ocls, odict, odata, oslots⟩ := ol
        simp only at hcl hdl
        subst hcl; subst hdl
        have hol' : (s.heap.push { cls := .type "set", dict := none, data := .set #[] 0 (.fresh 0 0 (!w.params.followText "set-order")) }).get? l = some { cls := .type "list", dict := odict, data := .seq items nl, slots := oslots } := Heap.get?_push_of_some _ hol
        have hsls := F.sub_list_set
        have hslf := F.sub_list_frozenset
        have hne : (Value.type "list" == Value.type "dict") = false := by decide
        have hl1 : (s.heap.push { cls := .type "set", dict := none, data := .set #[] 0 (.fresh 0 0 (!w.params.followText "set-order")) }).IsList l items := ⟨_, hol', rfl, nl, rfl⟩
        unfold Builtin.«set.__init__» noKeywords Builtin.Frozenset.updateFrom
        generalize hPI : pyIter = PI
        wp_walk
        subst hPI

        refine wpAny_pyIter_list hl1 ?_
        refine wpAny_bind (wpAny_runValue ?_)
        have hlS : l < s.heap.objs.size := Heap.lt_size hol
        have hh3 : A.in1.in1.in1.handled = none := by simp [hh]
        have hz1 : (s.heap.push { cls := .type "set", dict := none, data := .set #[] 0 (.fresh 0 0 (!w.params.followText "set-order")) }).objs.size = s.heap.objs.size + 1 := Heap.size_push ..
        have hneI : l ≠ (s.heap.push { cls := .type "set", dict := none, data := .set #[] 0 (.fresh 0 0 (!w.params.followText "set-order")) }).objs.size := by
          rw [Heap.size_push]; exact Nat.ne_of_lt (Nat.lt_succ_of_lt hlS)
        have hSf : s.heap.objs.size ∉ [(s.heap.push { cls := .type "set", dict := none, data := .set #[] 0 (.fresh 0 0 (!w.params.followText "set-order")) }).objs.size, l] := by
          rw [Heap.size_push]; simp only [List.mem_cons, List.mem_singleton, List.not_mem_nil, or_false, not_or]
          exact ⟨Nat.ne_of_lt (Nat.lt_succ_self _), Nat.ne_of_gt hlS⟩
        have hval : ∀ (i : Nat) (v : Value), items[i]? = some v → ∃ k t, ns[i]? = some k ∧ v = .int k t := fun i v hv => by
          have hi : i < ns.length := by rw [← hisz]; exact (Array.getElem?_eq_some_iff.mp hv).1
          obtain ⟨t, e⟩ := PyProof.Rows.IntsAre.int_at hit i v (by rw [Array.getElem?_toList]; exact hv)
          refine ⟨ns[i], t, List.getElem?_eq_getElem hi, ?_⟩
          rw [e, List.getD_eq_getElem?_getD, List.getElem?_eq_getElem hi] <;> rfl
        refine set_update_ints ((Walks.list hh3 _ l hneI items).toS) s.heap.objs.size
          hSf ns hisz hb hval (items.size - 0) 0 _ (by omega) (Nat.zero_le _)
          ⟨⟨_, Heap.get?_push_size _ rfl, rfl, rfl⟩, (hl1.push _)⟩ ?hS0 ?hR
        case hS0 =>
          have hget : ((s.heap.push { cls := .type "set", dict := none, data := .set #[] 0 (.fresh 0 0 (!w.params.followText "set-order")) }).push { cls := .type "list_iterator", data := .fields #[.ref l, .int 0 0] }).get? s.heap.objs.size
              = some { cls := .type "set", dict := none, data := .set #[] 0 (.fresh 0 0 (!w.params.followText "set-order")) } := Heap.get?_push_of_some _ hS
          exact ⟨0, Nat.le_refl 0, setR_new_at hget⟩
        case hR =>
          intro s' c' hm hc' hS'
          obtain ⟨h', g2, d', tk', os'⟩ := s'
          have eg : g2 = s.gens := hm.gens
          have ed : d' = s.drawn := hm.drawn
          have eo : os' = s.os := hm.os
          subst eg; subst ed; subst eo
          show wpAny _ _ _ _ _ _
          refine wpAny_pure ?_
          show wpAny _ _ (ret Value.none) _ _ _
          rw [hisz] at hc'
          refine wpAny_pure ⟨rfl, h', tk', c', rfl, hS', hc', fun b o e => ?_⟩
          have hb0 : b < s.heap.objs.size := Heap.lt_size e
          have hb1 : b ≠ s.heap.objs.size := Nat.ne_of_lt hb0
          have hb2 : b ≠ (s.heap.push { cls := .type "set", dict := none, data := .set #[] 0 (.fresh 0 0 (!w.params.followText "set-order")) }).objs.size := by
            rw [Heap.size_push]; exact Nat.ne_of_lt (Nat.lt_succ_of_lt hb0)
          exact hm.heap b o (by simp only [List.mem_cons, List.mem_singleton, List.not_mem_nil, or_false, not_or]; exact ⟨hb1, hb2⟩) (Heap.get?_push_of_some _ (Heap.get?_push_of_some _ e))

      · cases r₂ with
        | error e => exact hr₂
        | ok fl₂ =>
          cases fl₂ with
          | ret r =>
            obtain ⟨rfl, h', tk, c', rfl, hS', hc', hk'⟩ := hr₂
            repeat (any_goals (first | assumption | wp_step))
            exact h _ _ _ hS' hc' hk'
          | _ => exact hr₂.elim
    | _ => exact hr.elim

end
namespace Mi
variable {X : Cx}
/-- set(xs), xs a list or a tuple of ints -/
def rSetI (K : PySem.W.Frag) (w : World) : List V → Hp → VK → Prop := fun vs H Q => ∃ (a : Addr) (ns : List Int), vs = [.ref a] ∧ (SqL K H a (ns.map V.int) ∨ SqT K H a (ns.map V.int)) ∧ ns.length + 1 < scanBound ∧
  ∀ p c, H p = none → c ≤ ns.length → Q (.ref p) (upd H p (SetO w p (fun j => decide (j ∈ ns)) c))
theorem cr_setI (hc : X.calm = true) : CallR X (.type "set") (rSetI X.K X.w) := by
  intro pins s σ H vs us Q I r h
  obtain ⟨a, ns, rfl, hq, hb, q⟩ := h
  rw [Vals.ref1 r]
  have key : ∀ (h' : Heap) (tk c : Nat), SetR X.w h' s.heap.objs.size (fun j => decide (j ∈ ns)) c → c ≤ ns.length → (∀ b o, s.heap.get? b = some o → h'.get? b = some o) → EP X pins σ Q (.ref s.heap.objs.size) { s with heap := h', toks := tk } := fun h' tk c R hl hk => by
    have hf : H s.heap.objs.size = none := I.hok.fresh (Nat.le_refl _)
    exact ⟨.ref _, _, I.laid (t' := tk) hk (Nat.le_refl _) (setO_new R), rfl, q _ c hf hl⟩
  rcases hq with hq | hq
  · obtain ⟨its, rv, p, hz⟩ := I.list hq
    exact call_set_listI ns (I.ok.hd hc) p.isList (by simpa using intsAre_of rv) hb key
  · obtain ⟨its, rv, p, hz⟩ := I.tuple hq
    exact call_set_tupI ns (I.ok.hd hc) p (by simpa using intsAre_of rv) hb key
end Mi
end L2

/-! Mini: sets of tuples of ints from tuples; how many a set has. -/
namespace L2
open PySem PySem.Spec PyProof.Rows
section
variable {P : Program} {w : World} {A : Around} {E : Value → Shared → Prop} {s : Shared}
theorem call_set_tupsT {l : Addr} {items : Array Value} (ks : List (Addr × List Int)) {Q : Value → Shared → Prop} (hh : A.handled = none) (hl : s.heap.IsTuple l items) (hit : items.toList = ks.map fun p => Value.ref p.1)
    (hk : ∀ p ∈ ks, IsT P w s.heap p.2 p.1) (hfew : ks.length < 64) (hu : A.units + 3 < cLine)
    (h : ∀ (h' : Heap) (tk : Nat) L es ep t, SetTR P w h' s.heap.objs.size L es ep t → Got ks ks.length L → (∀ b o, s.heap.get? b = some o → h'.get? b = some o) → Q (.ref s.heap.objs.size) { s with heap := h', toks := tk }) :
    wpAny (model P w) A (call (.type "set") [.ref l]) Q E s := by
  have hisz : items.size = ks.length := by
    have q := congrArg List.length hit
    rw [Array.length_toList, List.length_map] at q
    exact q
  obtain ⟨c, tl, hmro⟩ := F.called_set.mro
  have hmade := F.called_set.made
  have hsub := F.called_set.sub
  refine wpAny_call (codeAny_of_tree ?_)
  show wpAny _ _ (callAny (.type "set") _) _ _ _
  refine wpAny_pure ⟨Code.quiet_builtin _ (by decide +kernel), codeAny_builtin F.entry_type_call ?_⟩
  rw [Around.under_plain (weight_type_call_type "set" [.ref l] []) rfl]
  have h1 := F.called_set.notType
  have h2 := F.called_set.canCreate
  have hct := F.typeCall_set_1 (.ref l)
  repeat (any_goals (first | assumption | wp_step))

  refine codeAny_mono (code_set_led1 (.ref l) (E := E) (Q₁ := fun obj s₁ => obj = .ref s.heap.objs.size ∧ s₁ = { s with heap := s.heap.push { cls := .type "set", dict := none, data := .set #[] 0 (.fresh 0 0 (!w.params.followText "set-order")) } }) ⟨rfl, rfl⟩) fun r s₁ hr => ?_
  cases r with
  | error e => exact hr
  | ok fl =>
    cases fl with
    | ret obj =>
      obtain ⟨rfl, rfl⟩ := hr
      have hS : (s.heap.push { cls := .type "set", dict := none, data := .set #[] 0 (.fresh 0 0 (!w.params.followText "set-order")) }).get? s.heap.objs.size = some { cls := .type "set", dict := none, data := .set #[] 0 (.fresh 0 0 (!w.params.followText "set-order")) } := Heap.get?_push_size _ rfl
      have hT : Shared.TypeIs { s with heap := s.heap.push { cls := .type "set", dict := none, data := .set #[] 0 (.fresh 0 0 (!w.params.followText "set-order")) } } (.ref s.heap.objs.size) "set" := ⟨_, hS, rfl⟩
      have hli := F.called_set.init.lookup
      have hbi := F.called_set.init.bind (.ref s.heap.objs.size)
      repeat (any_goals (first | assumption | wp_step))

      refine codeAny_mono (codeAny_call_builtin (R := wants (fun r s₂ => r = .none ∧ ∃ h' tk L es ep t, s₂ = { s with heap := h', toks := tk } ∧ SetTR P w h' s.heap.objs.size L es ep t ∧ Got ks ks.length L ∧
          (∀ b o, s.heap.get? b = some o → h'.get? b = some o)) E) F.called_set.init.plain F.entry_set_init (check_set_init_1 hT ?_)) fun r₂ s₂ hr₂ => ?_
      · obtain ⟨ol, hol, hcl, nl, hdl⟩ := hl
        obtain ⟨ocls, odict, odata, oslots⟩ := ol
        simp only at hcl hdl
        subst hcl; subst hdl
        have hol' : (s.heap.push { cls := .type "set", dict := none, data := .set #[] 0 (.fresh 0 0 (!w.params.followText "set-order")) }).get? l = some { cls := .type "tuple", dict := odict, data := .seq items nl, slots := oslots } := Heap.get?_push_of_some _ hol
        have hsls := F.sub_tuple_set
        have hslf := F.sub_tuple_frozenset
        have hne : (Value.type "tuple" == Value.type "dict") = false := by decide
        have hl1 : (s.heap.push { cls := .type "set", dict := none, data := .set #[] 0 (.fresh 0 0 (!w.params.followText "set-order")) }).IsTuple l items := ⟨_, hol', rfl, nl, rfl⟩
        unfold Builtin.«set.__init__» noKeywords Builtin.Frozenset.updateFrom
        generalize hPI : pyIter = PI
        wp_walk
        subst hPI

        refine wpAny_pyIter_tuple hl1 ?_
        refine wpAny_bind (wpAny_runValue ?_)
        have hlS : l < s.heap.objs.size := Heap.lt_size hol
        have hh3 : A.in1.in1.in1.handled = none := by simp [hh]
        have hz1 : (s.heap.push { cls := .type "set", dict := none, data := .set #[] 0 (.fresh 0 0 (!w.params.followText "set-order")) }).objs.size = s.heap.objs.size + 1 := Heap.size_push ..
        have hneI : l ≠ (s.heap.push { cls := .type "set", dict := none, data := .set #[] 0 (.fresh 0 0 (!w.params.followText "set-order")) }).objs.size := by
          rw [Heap.size_push]; exact Nat.ne_of_lt (Nat.lt_succ_of_lt hlS)
        have hSf : s.heap.objs.size ∉ [(s.heap.push { cls := .type "set", dict := none, data := .set #[] 0 (.fresh 0 0 (!w.params.followText "set-order")) }).objs.size, l] := by
          rw [Heap.size_push]; simp only [List.mem_cons, List.mem_singleton, List.not_mem_nil, or_false, not_or]
          exact ⟨Nat.ne_of_lt (Nat.lt_succ_self _), Nat.ne_of_gt hlS⟩
        have hval : ∀ (i : Nat) (v : Value), items[i]? = some v → ∃ p, ks[i]? = some p ∧ v = .ref p.1 := fun i v hv => by
          have q : items.toList[i]? = some v := by rw [Array.getElem?_toList]; exact hv
          rw [hit, List.getElem?_map] at q
          cases hq : ks[i]? with
          | none => rw [hq] at q; cases q
          | some p =>
            rw [hq] at q
            exact ⟨p, rfl, (Option.some.inj q).symm⟩
        have none_of : ∀ b, s.heap.objs.size ≤ b → s.heap.get? b = none := fun b hb => by
          cases q : s.heap.get? b with
          | none => rfl
          | some o => exact absurd (Nat.lt_of_lt_of_le (Heap.lt_size q) hb) (Nat.lt_irrefl _)
        refine set_update_tups ((Walks.tuple hh3 _ l hneI items).toS) s.heap.objs.size
          hSf ks hisz hfew hval s.heap hk (none_of _ (Nat.le_refl _)) (fun b hb => none_of b (by
            rw [List.mem_singleton.mp hb, Heap.size_push]
            exact Nat.le_succ _)) hu (items.size - 0) 0 _ (by omega) (Nat.zero_le _)
          ⟨⟨_, Heap.get?_push_size _ rfl, rfl, rfl⟩, (hl1.push _)⟩ (fun b o e => Heap.get?_push_of_some _ (Heap.get?_push_of_some _ e)) ?hS0 ?hR
        case hS0 =>
          have hget : ((s.heap.push { cls := .type "set", dict := none, data := .set #[] 0 (.fresh 0 0 (!w.params.followText "set-order")) }).push { cls := .type "tuple_iterator", data := .fields #[.ref l, .int 0 0] }).get? s.heap.objs.size
              = some { cls := .type "set", dict := none, data := .set #[] 0 (.fresh 0 0 (!w.params.followText "set-order")) } := Heap.get?_push_of_some _ hS
          exact ⟨[], #[], 0, _, setTR_fresh hget, Got.zero ks⟩
        case hR =>
          intro s' L es ep t hm hS' g' hkp
          obtain ⟨h', g2, d', tk', os'⟩ := s'
          have eg : g2 = s.gens := hm.gens
          have ed : d' = s.drawn := hm.drawn
          have eo : os' = s.os := hm.os
          subst eg; subst ed; subst eo
          show wpAny _ _ _ _ _ _
          refine wpAny_pure ?_
          show wpAny _ _ (ret Value.none) _ _ _
          rw [hisz] at g'
          exact wpAny_pure ⟨rfl, h', tk', L, es, ep, t, rfl, hS', g', hkp⟩

      · cases r₂ with
        | error e => exact hr₂
        | ok fl₂ =>
          cases fl₂ with
          | ret r =>
            obtain ⟨rfl, h', tk, L, es, ep, t, rfl, hS', g', hk'⟩ := hr₂
            repeat (any_goals (first | assumption | wp_step))
            exact h _ _ _ _ _ _ hS' g' hk'
          | _ => exact hr₂.elim
    | _ => exact hr.elim

end
end L2


/-! Mini: how many a set has. -/
namespace L2
open PySem PySem.Spec PyProof.Rows
/-- each once -/
theorem once_len {α : Type} [DecidableEq α] {l m : List α} (h : l.Nodup) (h' : m.Nodup) (e : ∀ a, a ∈ l ↔ a ∈ m) : l.length = m.length := ((List.perm_ext_iff_of_nodup h h').mpr e).length_eq
namespace Mi
theorem ddp_mem {α : Type} [DecidableEq α] : ∀ {l : List α} {a : α}, a ∈ ddp l ↔ a ∈ l
  | [], a => Iff.rfl
  | x :: l, a => by
    unfold ddp
    split
    · rename_i h
      rw [ddp_mem, List.mem_cons]
      exact ⟨.inr, fun q => q.elim (fun e => e ▸ h) id⟩
    · rw [List.mem_cons, List.mem_cons, ddp_mem]
theorem ddp_nodup {α : Type} [DecidableEq α] : ∀ (l : List α), (ddp l).Nodup
  | [] => List.nodup_nil
  | x :: l => by
    unfold ddp
    split
    · exact ddp_nodup l
    · rename_i h
      exact List.nodup_cons.mpr ⟨fun q => h (ddp_mem.mp q), ddp_nodup l⟩
theorem ddp_len {α : Type} [DecidableEq α] : ∀ (l : List α), (ddp l).length ≤ l.length
  | [] => Nat.le_refl _
  | x :: l => by
    unfold ddp
    split
    · exact Nat.le_succ_of_le (ddp_len l)
    · exact Nat.succ_le_succ (ddp_len l)
variable {X : Cx}
/-- len(set(xs)) -/
def tLenSet (K : PySem.W.Frag) (ta : TE) : TE := fun σ H Q => ta σ H fun x H1 =>
  (∃ (l : Addr) (ns : List Int), x = V.ref l ∧ (SqL K H1 l (ns.map V.int) ∨ SqT K H1 l (ns.map V.int)) ∧ ns.length < 64 ∧ Q (.int (ddp ns).length) H1) ∨
  (∃ (l : Addr) (ks : List (Addr × List Int)), x = V.ref l ∧ (SqL K H1 l (ks.map fun p => V.ref p.1) ∨ SqT K H1 l (ks.map fun p => V.ref p.1)) ∧ (∀ p ∈ ks, SqT K H1 p.1 (p.2.map V.int)) ∧ ks.length < 64 ∧ Q (.int (ddp (ks.map (·.2))).length) H1)
theorem pe_lenSet {a : Expr} {ta : TE} {p p2 q pos : Pos} (hc : X.calm = true) (hu : X.A.units + 64 < cLine) (hg : Gl X "len") (hm : X.mg "len" = none) (hg2 : Gl X "set") (hm2 : X.mg "set" = none) (ha : PE X a ta)
    (na : starEach [a] X.env = (false, eval a X.env) :: starEach [] X.env := by rfl) : PE X (.Call (.Name "len" p) [.Call (.Name "set" p2) [a] [] q] [] pos) (tLenSet X.K ta) := by
  refine ⟨fun pins s σ H Q I h => ?_⟩
  refine Call_ (ld_blt I hg hm PySem.boot_len ?_)
  refine PyProof.Rows.callWith_builtin1 (PyProof.Rows.args_cons ?_ rfl) rfl rfl
  refine Call_ (ld_blt I hg2 hm2 PyProof.Rows.boot_set ?_)
  refine PyProof.Rows.callWith_type1 (PyProof.Rows.args_cons (thn (ha.run pins s σ H _ I h) fun v s1 ⟨x, H1, I1, r1, q1⟩ => PyProof.Rows.args_nil ?_) na) na rfl
  have hInts : ∀ (ns : List Int) (c : Nat) (h' : Heap) (tk : Nat) (l : Addr), ns.length < 64 → SetR X.w h' s1.heap.objs.size (fun j => decide (j ∈ ns)) c → (∀ b o, s1.heap.get? b = some o → h'.get? b = some o) → Q (.int (ddp ns).length) H1 → 
      wpAny (model X.prog X.w) X.A (call (.builtin "len") [.ref s1.heap.objs.size]) (EP X pins σ Q) X.xe { s1 with heap := h', toks := tk } := fun ns c h' tk l h64 hS hk q1 => by
    obtain ⟨o, es, ep, t, ho, hex, hd, g, nd, hm, hb, hf, hn, _⟩ := hS
    have I2 : Inv X pins σ H1 { s1 with heap := h', toks := tk } := I1.kept fun b o e => hk b o e
    have e1 : es.size = (ddp ns).length := by
      rw [← Array.length_toList, ← List.length_map (f := keyOf)]
      exact once_len nd (ddp_nodup ns) fun k => by rw [← hm k, ddp_mem, decide_eq_true_eq]
    have := ddp_len ns
    exact call_len_set ho hex hd hf (by omega) ⟨.int (ddp ns).length, H1, I2.tok _, ⟨_, by rw [e1]⟩, q1⟩
  have hTups : ∀ (ks : List (Addr × List Int)) (h' : Heap) (tk : Nat) (L : List (Addr × List Int)) (es : Array (Int × Value)) (ep : Nat) (t : SetTable), ks.length < 64 → SetTR X.prog X.w h' s1.heap.objs.size L es ep t → Got ks ks.length L →
      (∀ b o, s1.heap.get? b = some o → h'.get? b = some o) → Q (.int (ddp (ks.map (·.2))).length) H1 →
      wpAny (model X.prog X.w) X.A (call (.builtin "len") [.ref s1.heap.objs.size]) (EP X pins σ Q) X.xe { s1 with heap := h', toks := tk } := fun ks h' tk L es ep t h64 R g hk q1 => by
    obtain ⟨o, ho, hex, hd⟩ := R.ob
    have I2 : Inv X pins σ H1 { s1 with heap := h', toks := tk } := I1.kept fun b o e => hk b o e
    have e1 : es.size = (ddp (ks.map (·.2))).length := by
      rw [SetTR.size (s := { s1 with heap := h', toks := tk }) R, ← List.length_map (f := (·.2)) (as := L)]
      refine once_len R.nd (ddp_nodup _) fun k => ?_
      rw [ddp_mem]
      have tk : ks.take ks.length = ks := List.take_length
      constructor
      · intro hk
        obtain ⟨p, hp, e⟩ := List.mem_map.mp hk
        have := g.sub p hp
        rw [tk] at this
        exact List.mem_map.mpr ⟨p, this, e⟩
      · intro hk
        obtain ⟨p, hp, e⟩ := List.mem_map.mp hk
        rw [← e]
        exact g.all p (by rw [tk]; exact hp)
    have := ddp_len (ks.map (·.2))
    rw [List.length_map] at this
    exact call_len_set ho hex hd (SetTR.fits (s := { s1 with heap := h', toks := tk }) R) (by omega) ⟨.int (ddp (ks.map (·.2))).length, H1, I2.tok _, ⟨_, by rw [e1]⟩, q1⟩
  have sb : scanBound = scanBound := rfl
  rcases q1 with ⟨l, ns, rfl, hq, h1, q1⟩ | ⟨l, ks, rfl, hq, hk, h1, q1⟩
  · cases r1
    rcases hq with hq | hq
    · obtain ⟨its, r, pl, hz⟩ := I1.list hq
      exact call_set_listI ns (I1.ok.hd hc) pl.isList (by simpa using r.ints) (by unfold scanBound; omega) fun h' tk c hS hl hk => PyProof.Rows.args_nil (hInts ns c h' tk l h1 hS hk q1)
    · obtain ⟨its, r, pl, hz⟩ := I1.tuple hq
      exact call_set_tupI ns (I1.ok.hd hc) pl (by simpa using r.ints) (by unfold scanBound; omega) fun h' tk c hS hl hk => PyProof.Rows.args_nil (hInts ns c h' tk l h1 hS hk q1)
  · cases r1
    rcases hq with hq | hq
    · obtain ⟨its, r, pl, hz⟩ := I1.list hq
      exact call_set_tups (P := X.prog) (w := X.w) ks (I1.ok.hd hc) pl.isList (by simpa using refs_of_vals r) (fun p hp => I1.isT (hk p hp)) h1 (by omega) fun h' tk L es ep t R g k => PyProof.Rows.args_nil (hTups ks h' tk L es ep t h1 R g k q1)
    · obtain ⟨its, r, pl, hz⟩ := I1.tuple hq
      exact call_set_tupsT (P := X.prog) (w := X.w) ks (I1.ok.hd hc) pl (by simpa using refs_of_vals r) (fun p hp => I1.isT (hk p hp)) h1 (by omega) fun h' tk L es ep t R g k => PyProof.Rows.args_nil (hTups ks h' tk L es ep t h1 R g k q1)
end Mi
end L2

/-! Mini: sorted(set(xs)), len(set(xs)). -/
namespace L2
namespace Mi
open PySem PySem.Spec PyProof.Rows
variable {G : Sig} {K : KC} {k : Nat}
theorem tupsOf_ok {φ ψ : List Addr} {H : Hp} : ∀ {ts : List T} {ns : List (List Int)} {vs : List V}, tupsOf ts = some ns → RTs K φ ψ H ts vs →
    ∃ ks : List (Addr × List Int), vs = ks.map (fun p => V.ref p.1) ∧ ks.map (·.2) = ns ∧ ∀ p ∈ ks, SqT K.K H p.1 (p.2.map V.int)
  | [], ns, vs, h, r => by
    cases h; cases r
    exact ⟨[], rfl, rfl, fun _ h => by cases h⟩
  | .tup xs :: ts, ns, vs, h, r => by
    cases r with | cons r1 r2 =>
    unfold tupsOf at h
    obtain ⟨ms, h1, h'⟩ := Option.bind_eq_some_iff.mp h
    obtain ⟨ns', h2, h''⟩ := Option.map_eq_some_iff.mp h'
    obtain ⟨ks, e1, e2, e3⟩ := tupsOf_ok h2 r2
    cases r1 with | tup f r3 =>
    obtain rfl := intsOf_ok h1
    obtain rfl := r3.ints
    rename_i a
    refine ⟨(a, ms) :: ks, by rw [e1]; rfl, by rw [List.map_cons, e2]; exact h'', fun p hp => ?_⟩
    rcases List.mem_cons.mp hp with rfl | hp
    · exact f.sq
    · exact e3 p hp
  | .non :: ts, ns, vs, h, r => by simp [tupsOf] at h
  | .bl _ :: ts, ns, vs, h, r => by simp [tupsOf] at h
  | .int _ :: ts, ns, vs, h, r => by simp [tupsOf] at h
  | .str _ :: ts, ns, vs, h, r => by simp [tupsOf] at h
  | .fl _ :: ts, ns, vs, h, r => by simp [tupsOf] at h
  | .fd _ _ _ :: ts, ns, vs, h, r => by simp [tupsOf] at h
  | .sc _ :: ts, ns, vs, h, r => by simp [tupsOf] at h
  | .obj _ :: ts, ns, vs, h, r => by simp [tupsOf] at h
theorem lt_nodup {l : List Int} (h : l.Pairwise (· < ·)) : l.Nodup := h.imp fun h => by omega
theorem s_sset {a : ME} (ha : SE G K k a) : SE G K k (.sset a) := by
  intro N sc ow X e g h
  unfold okE at h
  split at h <;> (try cases h) <;> rename_i q <;> cases q
  simp only [Bool.and_eq_true, decide_eq_true_eq] at h
  obtain ⟨⟨⟨⟨⟨rfl, h0⟩, rfl⟩, h1⟩, h2⟩, h3⟩ := h
  obtain ⟨hg, hd⟩ := gl_of g h0
  obtain ⟨hg2, hd2⟩ := gl_of g h1
  refine se_of g.hK (PE.imp (pe_callB (cr_sortedSet g.hc) hg (gc_blt g (by decide)) (by decide) (pa_cons (pe_callTy (cr_setI g.hc) hg2 (gc_blt g (by decide)) (by decide) (pa_cons (ha N sc ow X _ g h3).1 pa_nil (star_cons h2)) (by decide) hd2 (star_cons h2) rfl) pa_nil rfl) (by decide) hd rfl rfl)
    fun σ H Q ⟨φ, ψ, env, M, t, M', re, rm, ev, ok⟩ => ?_) rfl
  rw [evE] at ev
  obtain ⟨p, e1, ev⟩ := bnd ev
  obtain ⟨ts, e2, ev⟩ := bnd ev
  obtain ⟨ns, e3, ev⟩ := bnd ev
  split at ev
  case isFalse => cases ev
  rename_i h64
  cases ev
  refine ⟨φ, ψ, env, M, p.1, p.2, re, rm, e1, fun φ1 H1 v x1 rm1 r1 => ?_⟩
  obtain ⟨l, vs, rfl, hr, hs⟩ := sof_ok rm1 r1 e2
  obtain rfl := intsOf_ok e3
  obtain rfl := hr.ints
  have hs' : SqL X.K H1 l (ns.map V.int) ∨ SqT X.K H1 l (ns.map V.int) := by
    rw [← g.hK]
    rcases hs with ⟨h, _⟩ | ⟨h, _⟩
    · exact .inl h
    · exact .inr h
  refine ⟨l, ns, rfl, hs', by unfold scanBound; omega, fun p' c hp hc => ?_⟩
  refine ⟨p', (fun j => decide (j ∈ ns)), c, rfl, upd_same, by omega, fun ns' q hlt hm hl hq => ?_⟩
  have e : ns' = sortI (ddp ns) := by
    refine up_same ?_ (hlt.imp fun h => Int.le_of_lt h) (sortI_up _)
    refine List.Perm.trans ?_ (sortI_perm _).symm
    refine (List.perm_ext_iff_of_nodup (lt_nodup hlt) (ddp_nodup ns)).mpr fun j => ?_
    rw [hm, ddp_mem, decide_eq_true_eq]
  subst e
  have x2 : Ext φ1 H1 φ1 (upd H1 p' (SetO X.w p' (fun j => decide (j ∈ ns)) c)) := .new hp (rm1.fresh hp)
  exact ((ok.ext x1).ext x2).newL (tr := false) (rm1.new hp) (RTs.ints' _) hq
theorem s_lset {a : ME} (ha : SE G K k a) : SE G K k (.lset a) := by
  intro N sc ow X e g h
  unfold okE at h
  split at h <;> (try cases h) <;> rename_i q <;> cases q
  simp only [Bool.and_eq_true, decide_eq_true_eq] at h
  obtain ⟨⟨⟨⟨⟨rfl, h0⟩, rfl⟩, h1⟩, h2⟩, h3⟩ := h
  obtain ⟨hg, hd⟩ := gl_of g h0
  obtain ⟨hg2, hd2⟩ := gl_of g h1
  refine se_of g.hK (PE.imp (pe_lenSet g.hc (by have := g.hu; omega) hg (gc_blt g (by decide)) hg2 (gc_blt g (by decide)) (ha N sc ow X _ g h3).1 (star_cons h2))
    fun σ H Q ⟨φ, ψ, env, M, t, M', re, rm, ev, ok⟩ => ?_) rfl
  rw [evE] at ev
  obtain ⟨p, e1, ev⟩ := bnd ev
  obtain ⟨ts, e2, ev⟩ := bnd ev
  split at ev
  case isFalse => cases ev
  rename_i h64
  refine ⟨φ, ψ, env, M, p.1, p.2, re, rm, e1, fun φ1 H1 v x1 rm1 r1 => ?_⟩
  obtain ⟨l, vs, rfl, hr, hs⟩ := sof_ok rm1 r1 e2
  have hs' : SqL X.K H1 l vs ∨ SqT X.K H1 l vs := by
    rw [← g.hK]
    rcases hs with ⟨h, _⟩ | ⟨h, _⟩
    · exact .inl h
    · exact .inr h
  split at ev
  · rename_i ns e3
    cases ev
    obtain rfl := intsOf_ok e3
    obtain rfl := hr.ints
    exact .inl ⟨l, ns, rfl, hs', by simpa using h64, (ok.ext x1).here rm1 (.int _)⟩
  · obtain ⟨ks, e3, ev⟩ := mpd ev
    cases ev
    obtain ⟨ks', rfl, e4, e5⟩ := tupsOf_ok e3 hr
    have hl := hr.length
    rw [List.length_map] at hl
    refine .inr ⟨l, ks', rfl, hs', fun p hp => by rw [← g.hK]; exact e5 p hp, by omega, ?_⟩
    rw [e4]
    exact (ok.ext x1).here rm1 (.int _)
end Mi
end L2

/-! Mini: dict comprehensions; do statements stand for the text. -/
namespace L2
namespace Mi
open PySem PySem.Spec PyProof.Rows
variable {G : Sig} {K : KC} {k : Nat}
/-! ### dict comprehensions -/
def CDd (K : KC) (ψ : List Addr) (D : Addr) (acc : List T) (φ : List Addr) (H : Hp) : Prop :=
  acc.length % 2 = 0 ∧ ∃ kvs : List (Key × V), H D = some (.dK kvs) ∧ (dcPut acc ([], [])).1 = kvs.map (fun p => keyT p.1) ∧ RTs K φ (D :: ψ) H (dcPut acc ([], [])).2 (kvs.map (·.2)) ∧ kvs.length ≤ acc.length
theorem CDd.ext {ψ : List Addr} {D : Addr} {acc : List T} {φ φ' : List Addr} {H H' : Hp} (hD : D ∉ φ) (h : CDd K ψ D acc φ H) (x : Ext φ H φ' H') : CDd K ψ D acc φ' H' := by
  obtain ⟨h0, kvs, h1, h2, h3, h4⟩ := h
  exact ⟨h0, kvs, (x.keep D _ hD h1).2, h2, h3.to x, h4⟩
theorem dcPut_app : ∀ (acc : List T) (a : List T × List T) (k v : T), acc.length % 2 = 0 → dcPut (acc ++ [k, v]) a = putD (dcPut acc a).1 (dcPut acc a).2 k v
  | [], a, k, v, _ => rfl
  | [x], a, k, v, h => by simp at h
  | x :: y :: r, a, k, v, h => by
    show dcPut (x :: y :: (r ++ [k, v])) a = _
    rw [dcPut, dcPut]
    exact dcPut_app r _ k v (by simp only [List.length_cons] at h; omega)
theorem putK_len {κ : Type} [DecidableEq κ] (kvs : List (κ × V)) (k : κ) (v : V) : (putK kvs k v).length ≤ kvs.length + 1 := by
  unfold putK
  split
  · rw [List.length_map]; omega
  · rw [List.length_append]; simp
def Lim1 (l : List T) : Prop := l.length ≤ 1000000
theorem lim1 : ∀ a b, Lim1 (a ++ b) → Lim1 a := fun a b h => by unfold Lim1 at h ⊢; rw [List.length_append] at h; omega
noncomputable def stepD (G : Sig) (tg : MT) (k v : ME) (env : En) (t : T) (M : Mem) : Option (List T × Mem) :=
  (asgT tg t env).bind fun σ2 => (evE G k σ2 M).bind fun a => (evE G v σ2 a.2).bind fun b => if isKey a.1 then some ([a.1, b.1], b.2) else none
theorem stepDEq (own : List (Str × Nat)) (tg : MT) (it : MI) (kx vx : ME) (σ : En) (M : Mem) : evE G (.dc own tg it kx vx) σ M = (evI G it σ M).bind fun p =>
      (lcC p.1.2 (stepD G tg kx vx (wipeE σ (own.map (·.2)))) p.1.1 p.2).bind fun q => if q.1.length ≤ 1000000 then some (.fd false (dcPut q.1 ([], [])).1 (dcPut q.1 ([], [])).2, q.2) else none := by
  rw [evE]; rfl
theorem rd_dc {own : List (Str × Nat)} {tg : MT} {it : MI} {kx vx : ME} (hv : ∀ j ∈ slT' tg, j ∈ own.map (·.2)) {σ : L2.St} {H : Hp} {Q : VK} (h : tE G K (.dc own tg it kx vx) σ H Q) :
    tDc (iM G K it) (gM K tg) tYes (tE G K kx) (tE G K vx) (own.map (·.2)) σ H Q := by
  obtain ⟨φ, ψ, env, M, t, M', re, rm, ev, ok⟩ := h
  rw [stepDEq] at ev
  obtain ⟨p, e1, ev⟩ := bnd ev
  obtain ⟨q, e2, ev⟩ := bnd ev
  split at ev
  case isFalse => cases ev
  rename_i hl
  have ev := Option.some.inj ev
  refine ⟨φ, ψ, env, M, p.1, p.2, re, rm, e1, fun φ1 H1 J x1 rm1 hw D hD => ?_⟩
  have re1 : RE K φ1 (D :: ψ) (upd H1 D (.dK [])) (wipeE env (own.map (·.2))) (wipe σ (own.map (·.2))) := ((re.ext x1).tr (.resv hD)).wipe _
  refine loop_ok (CD := CDd K ψ D) (Lim := Lim1) (acc0 := []) hw (fun φ' H' x => x.tr0 hD) (fun acc φ H φ' H' hD h x => h.ext hD x) (rm1.resv hD) ⟨rfl, [], upd_same, rfl, .nil, Nat.zero_le _⟩ e2 lim1 (by rw [List.nil_append]; exact hl)
    (fun φ' H' M1 t' x o M2 acc Nx x2 rm2 hc rt hs hl hN => ?_) fun φ' H' x2 rm2 hc => ?_
  · obtain ⟨env2, e1, hs⟩ := bnd hs
    obtain ⟨a, e2, hs⟩ := bnd hs
    obtain ⟨b, e3, hs⟩ := bnd hs
    split at hs
    case isFalse => cases hs
    rename_i hkey
    have hs := Option.some.inj hs
    have ho : o = [a.1, b.1] := (congrArg Prod.fst hs).symm
    have hM : b.2 = M2 := congrArg Prod.snd hs
    subst ho
    have hDn : D ∉ φ' := fun hm => rm2.ap D hm List.mem_cons_self
    refine ⟨φ', D :: ψ, _, M1, t', env2, re1.tr (x2.tr ψ), rm2, rt, e1, fun σ2 re2 ag => ⟨by rw [ag.wipe hv, wipe_wipe], ?_⟩⟩
    show tE G K kx σ2 H' _
    refine ⟨φ', D :: ψ, env2, M1, a.1, a.2, re2, rm2, e2, fun φ3 H3 y x3 rm3 r3 => ⟨φ3, D :: ψ, env2, a.2, b.1, b.2, re2.ext x3, rm3, e3, fun φ4 H4 z x4 rm4 r4 => ?_⟩⟩
    obtain ⟨ky, ek, ey⟩ := key_of_isKey hkey r3
    obtain ⟨h0, kvs, h1, h2, h3, h4⟩ := hc.ext hDn (x3.trans x4)
    refine ⟨kvs, ky, ey, h1, ?_, hN φ4 _ ((XD.of (x3.trans x4)).trans .upd) (hM ▸ rm4.resw) ?_⟩
    · rw [szl]
      unfold Lim1 at hl
      rw [List.length_append] at hl
      omega
    · obtain ⟨p1, p2⟩ := putD_ok (fun a b => keyT_inj) ky r4 h3
      rw [← h2, ← ek, ← dcPut_app acc _ _ _ h0] at p1 p2
      refine ⟨by rw [List.length_append]; show (acc.length + 2) % 2 = 0; omega, _, upd_same, p1, RTs.tr .resw _ _ p2, ?_⟩
      have := putK_len kvs ky z
      rw [List.length_append]
      show _ ≤ acc.length + 2
      omega
  · rw [List.nil_append] at hc
    obtain ⟨h0, kvs, h1, h2, h3, h4⟩ := hc
    have e4 : t = .fd false (dcPut q.1 ([], [])).1 (dcPut q.1 ([], [])).2 := (congrArg Prod.fst ev).symm
    have e5 : q.2 = M' := congrArg Prod.snd ev
    rw [e4, ← e5] at ok
    exact ok φ' H' _ (x1.trans (x2.ext hD)) rm2.unres (.fdK ⟨fun hm => rm2.ap D hm List.mem_cons_self, fun hm => rm1.used D hm hD⟩ h1 h2 (RTs.tr .unres _ _ h3))
theorem s_dc {own : List (Str × Nat)} {tg : MT} {it : MI} {kx vx : ME} (hi : SI G K k it) (hg : SG G K k tg) (hk' : SE G K k kx) (he : SE G K k vx) : SE G K k (.dc own tg it kx vx) := by
  intro N sc ow X e g h
  unfold okE at h
  split at h <;> (try cases h) <;> rename_i q <;> cases q
  simp only [Bool.and_eq_true] at h
  obtain ⟨⟨⟨⟨⟨⟨⟨h1, h2⟩, h3⟩, h4⟩, h5⟩, h6⟩, h7⟩, h8⟩ := h
  have hk := blk_kind h1
  exact se_of g.hK (PE.imp (pe_dc g.hc (by rw [g.hN]; exact g.nd) (hi N sc ow X _ _ g h4) (by rw [g.hN, g.sc_]; exact blkOk_by h1) (fun s H C cl fp => hg _ _ _ _ _ (g.blk hk h2) h5) (fun s H C cl fp => pts_nil)
    (fun s H C cl fp => (hk' _ _ _ _ _ (g.blk hk h2) h7).1) (fun s H C cl fp => (he _ _ _ _ _ (g.blk hk h2) h8).1) (fold_set h3)) fun σ H Q q => rd_dc (all_mem h6) q) rfl
theorem ps_setDc {X : Cx} {i : Nat} {y : Str} {py : Pos} {kx vx tg iter : Expr} {ifs : List Expr} {scope : Scope} {own : List (Str × Nat)} {pos spos : Pos} {wi : TI} {g : TG} {tt : TT} {tk tv : TE} (hc : X.calm = true) (hN : X.N.Nodup) (hy : X.N[i]? = some y) (hyl : X.env.scope.names.lookup y = some .local)
    (hsw : swapsWith (.DictComp kx vx [⟨tg, iter, ifs, 0⟩] scope pos) (some (.Name y py)) spos.line X.env = pure true) (hi : PI X tg iter wi) (ok : BlkOk X.N X.env.scope scope own)
    (hg : ∀ (s : Shared) (H : Hp) (C : Addr) (cl : List (Str × Addr)) (fp : List Addr), PG (X.blk s H scope (compEnvC scope cl C X.env) fp) tg g) (ht : ∀ (s : Shared) (H : Hp) (C : Addr) (cl : List (Str × Addr)) (fp : List Addr), PTs (X.blk s H scope (compEnvC scope cl C X.env) fp) ifs tt)
    (hk : ∀ (s : Shared) (H : Hp) (C : Addr) (cl : List (Str × Addr)) (fp : List Addr), PE (X.blk s H scope (compEnvC scope cl C X.env) fp) kx tk)
    (he : ∀ (s : Shared) (H : Hp) (C : Addr) (cl : List (Str × Addr)) (fp : List Addr), PE (X.blk s H scope (compEnvC scope cl C X.env) fp) vx tv) (hs : ∀ x, foldedSetIterable iter X.env x = pure x) :
    PS X (.Assign [.Name y py] (.DictComp kx vx [⟨tg, iter, ifs, 0⟩] scope pos) spos) (tAsg (tDc wi g tt tk tv (own.map (·.2))) (gName i)) := by
  refine ⟨fun pins s σ H D I h => ?_⟩
  rw [exec_Assign_Name_used _ _ _ _ hsw]
  refine wpAny_bind (wpAny_standAt (wpAny_bind ?_))
  show wpAny _ X.A (do let _ ← comprehension (.DictComp kx vx [⟨tg, iter, ifs, 0⟩] scope pos) scope X.env (firstIterPos [⟨tg, iter, ifs, 0⟩] pos) newDict false (eval iter X.env) (some (assign (.Name y py) X.env))) _ _ s
  have h : tDc wi g tt tk tv (own.map (·.2)) σ H (fun x H1 => gName i x σ H1 D.nx) := h
  refine wpAny_bind (thn (dc_core (Qf := fun _ s' => SP X pins D .next s') hc hN I hi ok hg ht hk he hs h fun L C s' m H' I' q hn f => ?_) fun _ s' hq => wpAny_pure (wpAny_pure hq))
  show wpAny _ _ (assign (.Name y py) X.env (.ref L)) _ _ _
  refine wpAny_assign_Name (store_ok2 (v := V.ref L) I' hN hy (.inl hyl) rfl (fun s2 I2 ⟨a, sb, ha⟩ => ?_) (.inr hyl))
  obtain ⟨f0, f1, f2, f3, f4, f5⟩ := f
  have haC : C ≠ a := by
    rcases ha with z | z
    · rw [z]; exact f1
    · exact fun e => f4 y a z e.symm
  refine ⟨m, hn.sameBut sb haC, fun h3 sb3 => ?_⟩
  exact ⟨_, H', I2.turned (t' := s2.toks) (fun b o hb e => (sb3.2 b hb).trans e) f0 f1 f3 f4 f5, q⟩
theorem s_setdc {own : List (Str × Nat)} {tg : MT} {it : MI} {kx vx : ME} (hi : SI G K k it) (hg : SG G K k tg) (hk' : SE G K k kx) (he : SE G K k vx) {N : List Str} {sc : Scope} {ow : List Str} {X : Cx} {e : Expr} {i : Nat} {y : Str} {py spos : Pos} (g : GC G K k N sc ow X)
    (h : okE N sc (.dc own tg it kx vx) e = true) (hy : N[i]? = some y) (hl : sc.names.lookup y = some .local) (hsw : swapsWith e (some (.Name y py)) spos.line X.env = pure true) :
    PS X (.Assign [.Name y py] e spos) (tAsg (tE G K (.dc own tg it kx vx)) (gName i)) := by
  unfold okE at h
  split at h <;> (try cases h) <;> rename_i q <;> cases q
  simp only [Bool.and_eq_true] at h
  obtain ⟨⟨⟨⟨⟨⟨⟨h1, h2⟩, h3⟩, h4⟩, h5⟩, h6⟩, h7⟩, h8⟩ := h
  have hk := blk_kind h1
  exact PS.imp (ps_setDc g.hc (by rw [g.hN]; exact g.nd) (by rw [g.hN]; exact hy) (by rw [g.sc_]; exact hl) hsw (hi N sc ow X _ _ g h4) (by rw [g.hN, g.sc_]; exact blkOk_by h1) (fun s H C cl fp => hg _ _ _ _ _ (g.blk hk h2) h5) (fun s H C cl fp => pts_nil)
    (fun s H C cl fp => (hk' _ _ _ _ _ (g.blk hk h2) h7).1) (fun s H C cl fp => (he _ _ _ _ _ (g.blk hk h2) h8).1) (fold_set h3)) fun D σ H q => rd_dc (all_mem h6) q
/-! ### all terms -/
mutual
theorem sE : ∀ m : ME, SE G K k m
  | .var _ _ => s_var
  | .glb _ => s_glb
  | .non => s_non
  | .bl _ => s_bl
  | .int _ => s_int
  | .str _ => s_str
  | .bin _ _ a b => s_bin (sE a) (sE b)
  | .neg a => s_neg (sE a)
  | .not a => s_not (sE a)
  | .one a => s_one (sE a)
  | .and a b => s_and (sE a) (sE b)
  | .or a b => s_or (sE a) (sE b)
  | .cmp _ a b => s_cmp (sE a) (sE b)
  | .ife c a b => s_ife (sE c) (sE a) (sE b)
  | .call _ es => s_call (sA es)
  | .bi _ es => s_bi (sA es)
  | .isi a _ => s_isi (sE a)
  | .mcall _ o _ es => s_mcall (sE o) (sA es)
  | .bm _ o es => s_bm (sE o) (sA es)
  | .mk _ es => s_mk (sA es)
  | .ix a b => s_ix (sE a) (sE b)
  | .slc _ a lo hi => s_slc (sE a) (s_pa lo (sE lo)) (s_pa hi (sE hi))
  | .nopart => fun _ _ _ _ _ _ h => by simp [okE] at h
  | .rev _ a => s_rev (sE a)
  | .att _ o _ => s_att (sE o)
  | .tup es => s_tup (sA es)
  | .lst _ es => s_lst (sA es)
  | .lc _ _ tg it ifs elt => s_lc (sI it) (sT tg) (sIf ifs) (sE elt)
  | .lc2 _ _ tg it ifs _ tg1 it1 ifs1 elt => s_lc2 (sI it) (sT tg) (sIf ifs) (sI it1) (sT tg1) (sIf ifs1) (sE elt)
  | .dnew _ => s_dnew
  | .dc _ tg it kx vx => s_dc (sI it) (sT tg) (sE kx) (sE vx)
  | .sset a => s_sset (sE a)
  | .lset a => s_lset (sE a)
theorem sA : ∀ ms : MEs, SA G K k ms
  | .nil => s_nil
  | .cons e es => s_cons (sE e) (sA es)
theorem sIf : ∀ ms : MEs, SIf G K k ms
  | .nil => s_if0
  | .cons e .nil => s_if1 (sE e)
  | .cons _ (.cons _ _) => s_if2
theorem sI : ∀ m : MI, SI G K k m
  | .over a => s_over (sE a)
  | .rng1 a => s_rng1 (sE a)
  | .rng2 a b => s_rng2 (sE a) (sE b)
  | .enum a => s_enum (sE a)
  | .zip2 a b => s_zip2 (sE a) (sE b)
  | .zip3 _ _ _ => fun _ _ _ _ _ _ _ h => by simp [okI] at h
theorem sT : ∀ m : MT, SG G K k m
  | .nm _ _ => s_nm
  | .tp ts => s_tp (sTs ts)
theorem sTs : ∀ m : MTs, SGs G K k m
  | .nil => s_tn
  | .cons t ts => s_tc (sT t) (sTs ts)
end
end Mi
end L2

/-! Mini: statements are sound. -/
namespace L2
namespace Mi
open PySem PySem.Spec PyProof.Rows
variable {G : Sig} {K : KC} {k : Nat}
def swC (sc : Scope) (t : Str) (pos : Pos) : Expr → Bool
  | .ListComp _ _ scope p => (sc.names.lookup t == some .local) && (pos.line == p.line) && !(scope.names.any fun (n, k) => n == t && (k == .local || k == .cell))
  | .DictComp _ _ _ scope p => (sc.names.lookup t == some .local) && (pos.line == p.line) && !(scope.names.any fun (n, k) => n == t && (k == .local || k == .cell))
  | .SetComp _ _ scope p => (sc.names.lookup t == some .local) && (pos.line == p.line) && !(scope.names.any fun (n, k) => n == t && (k == .local || k == .cell))
  | _ => false
theorem sw_eq {v : Expr} {t : Str} {pos : Pos} {l : Nat} {env : Env} (hk : env.scope.kind = .function) : swapsWith v (some (.Name t pos)) l env = pure (swC env.scope t pos v) := by
  have hb : env.blockKind = .function := by unfold Env.blockKind; rw [hk]; rfl
  cases v with
  | ListComp a b scope p => unfold swapsWith; simp only [hb, swC, Env.kindOf, Expr.pos]; rfl
  | DictComp a b c scope p => unfold swapsWith; simp only [hb, swC, Env.kindOf, Expr.pos]; rfl
  | SetComp a b scope p => unfold swapsWith; simp only [hb, swC, Env.kindOf, Expr.pos]; rfl
  | _ => rfl
def isLc : ME → Bool
  | .lc _ _ _ _ _ _ => true
  | .lc2 _ _ _ _ _ _ _ _ _ _ => true
  | .dc _ _ _ _ _ => true
  | _ => false
def locC (sc : Scope) (x : Str) : Bool := match sc.names.lookup x with
  | some .local => true
  | _ => false
/-- a tuple of targets that are not all plain locals: stored one by one -/
def cellT (sc : Scope) : Expr → Bool
  | .Tuple ts _ _ => ts.any fun e => match e with
    | .Name x _ => !locC sc x
    | _ => false
  | _ => false
theorem filterMap_lt {α β : Type} {f : α → Option β} : ∀ {l : List α} {a : α}, a ∈ l → f a = none → (l.filterMap f).length < l.length
  | x :: l, a, h, hf => by
    rcases List.mem_cons.mp h with rfl | h
    · rw [List.filterMap_cons_none hf, List.length_cons]
      have := List.length_filterMap_le f l
      omega
    · have := filterMap_lt h hf
      rw [List.filterMap_cons]
      cases f x with
      | none => simp only [List.length_cons]; omega
      | some y => simp only [List.length_cons]; omega
theorem st_cell {t e : Expr} {env : Env} (h : cellT env.scope t = true) : swappedStores [t] e env = pure none := by
  unfold swappedStores
  cases t with
  | Tuple ts k p =>
    cases e with
    | Tuple vs k2 p2 =>
      obtain ⟨x, hx, hn⟩ := List.any_eq_true.mp h
      simp only
      split
      · rfl
      · split
        · rfl
        · have hlt := filterMap_lt (f := fun e => match e with
            | .Name id pos => if (env.kindOf id == some .local && pos.line == (Option.map (fun x => x.pos.line) ts.head?).getD 0) = true then some id else none
            | _ => none) hx (by
            cases x with
            | Name y q =>
              simp only [Bool.not_eq_true'] at hn
              simp only
              rw [if_neg]
              intro hc
              rw [Bool.and_eq_true] at hc
              have h1 : env.scope.names.lookup y = some .local := by
                have := hc.1
                exact eq_of_beq this
              unfold locC at hn
              rw [h1] at hn
              cases hn
            | _ => rfl)
          split
          · rfl
          · rename_i hc
            exfalso
            apply hc
            rw [Bool.or_eq_true]
            left
            rw [bne_iff_ne]
            exact Nat.ne_of_lt hlt
    | _ => rfl
  | _ => cases h
mutual
def okS (N : List Str) (sc : Scope) (ow : List Str) : MS → Stmt → Bool
  | .set i x e, .Assign [.Name y py] v _ => decide (x = y) && decide (N[i]? = some y) && decide (y ∈ ow) && okE N sc e v && (if swC sc y py v = true then isLc e && locC sc y else true)
  | .asg t e, .Assign [tg] v _ => notStar tg && !isName tg && (notTup v || cellT sc tg) && okT' N ow t tg && okE N sc e v
  | .par [(i, x), (j, y)] es, .Assign [.Tuple [.Name x' px, .Name y' py] _ _] (.Tuple [a, b] _ _) _ => decide (x = x') && decide (y = y') && decide (N[i]? = some x) && decide (N[j]? = some y) && !decide (i = j) && !decide (x = y) && locC sc x && locC sc y &&
      decide (py.line = px.line) && [a, b].all notStar && !([a, b].all (foldedForSure 8)) && !([a, b].all (constantsAlone 8)) && okEs N sc es [a, b]
  | .par [(i, x), (j, y), (l, z)] es, .Assign [.Tuple [.Name x' px, .Name y' py, .Name z' pz] _ _] (.Tuple [a, b, c] _ _) _ => decide (x = x') && decide (y = y') && decide (z = z') && decide (N[i]? = some x) && decide (N[j]? = some y) && decide (N[l]? = some z) &&
      !decide (i = j) && !decide (i = l) && !decide (j = l) && !decide (x = y) && !decide (x = z) && !decide (y = z) && locC sc x && locC sc y && locC sc z &&
      decide (py.line = px.line) && decide (pz.line = px.line) && [a, b, c].all notStar && !([a, b, c].all (foldedForSure 8)) && !([a, b, c].all (constantsAlone 8)) && okEs N sc es [a, b, c]
  | .setI o i e, .Assign [.Subscript x y _] v _ => notSl y && okE N sc o x && okE N sc i y && okE N sc e v
  | .setA _ o f e, .Assign [.Attribute x g _] v _ => decide (f = g) && okE N sc o x && okE N sc e v
  | .aug i x op e, .AugAssign (.Name y _) o v _ => decide (x = y) && decide (N[i]? = some y) && decide (y ∈ ow) && decide (op = o) && (decide (op = .Add) || decide (op = .Sub)) && okE N sc e v
  | .augI o i op e, .AugAssign (.Subscript x y _) o' v _ => notSl y && decide (op = o') && (decide (op = .Add) || decide (op = .Sub)) && okE N sc o x && okE N sc i y && okE N sc e v
  | .ex e, .Expr v _ => notComp v && okE N sc e v
  | .ret e, .Return (some v) _ => okE N sc e v
  | .retN, .Return none _ => true
  | .ite c a b, .If x y z _ => okE N sc c x && okSs N sc ow a y && okSs N sc ow b z
  | .whl c b, .While x y [] _ => okE N sc c x && okSs N sc ow b y
  | .for t it b, .For tg x y [] _ => notSet x && okI N sc it tg x && okT' N ow t tg && okSs N sc ow b y
  | .brk, .Break _ => true
  | .cnt, .Continue _ => true
  | .pas, .Pass _ => true
  | _, _ => false
def okSs (N : List Str) (sc : Scope) (ow : List Str) : List MS → List Stmt → Bool
  | [], [] => true
  | s :: ss, t :: ts => okS N sc ow s t && okSs N sc ow ss ts
  | _, _ => false
end
def SSt (G : Sig) (K : KC) (k : Nat) (m : MS) : Prop := ∀ (N : List Str) (sc : Scope) (ow : List Str) (X : Cx) (e : Stmt), GC G K k N sc ow X → okS N sc ow m e = true → PS X e (tS G K m)
def SSs (G : Sig) (K : KC) (k : Nat) (m : List MS) : Prop := ∀ (N : List Str) (sc : Scope) (ow : List Str) (X : Cx) (e : List Stmt), GC G K k N sc ow X → okSs N sc ow m e = true → PSs X e (tSs G K m)
section
variable {N : List Str} {sc : Scope} {ow : List Str} {X : Cx}
theorem GC.n (g : GC G K k N sc ow X) : X.N.Nodup := by rw [g.hN]; exact g.nd
theorem GC.ix (g : GC G K k N sc ow X) {i : Nat} {x : Str} (h : N[i]? = some x) : X.N[i]? = some x := by rw [g.hN]; exact h
theorem GC.lo (g : GC G K k N sc ow X) {x : Str} (h : x ∈ ow) : Loc X.env.scope x := by rw [g.sc_]; exact (g.st x h).1
theorem GC.fn' (g : GC G K k N sc ow X) {x : Str} (h : x ∈ ow) : X.fn x = true ∨ X.env.scope.names.lookup x = some .local := by rw [g.sc_]; exact (g.st x h).2
theorem GC.kd' (g : GC G K k N sc ow X) : X.env.scope.kind = .function := by rw [g.sc_]; exact g.kd
theorem GC.lc (g : GC G K k N sc ow X) {x : Str} (h : locC sc x = true) : X.env.scope.names.lookup x = some .local := by
  rw [g.sc_]
  unfold locC at h
  split at h
  · assumption
  · cases h
end
theorem t_set {i : Nat} {x : Str} {e : ME} {D : Ends} {σ : L2.St} {H : Hp} (h : tS G K (.set i x e) D σ H) : tAsg (tE G K e) (gName i) D σ H := by
  obtain ⟨φ, ψ, env, M, r, re, rm, ev, po⟩ := h
  rw [exS] at ev
  obtain ⟨p, e1, ev⟩ := mpd ev
  cases ev
  exact ⟨φ, ψ, env, M, p.1, p.2, re, rm, e1, fun φ1 H1 v x1 rm1 r1 => po φ1 H1 _ x1 rm1 ((re.ext x1).set r1)⟩
theorem s_set {i : Nat} {x : Str} {e : ME} : SSt G K k (.set i x e) := by
  intro N sc ow X st g h
  unfold okS at h
  split at h <;> (try cases h) <;> rename_i q <;> cases q
  simp only [Bool.and_eq_true, decide_eq_true_eq] at h
  obtain ⟨⟨⟨⟨rfl, h1⟩, h2⟩, h3⟩, h4⟩ := h
  rename_i py v pos
  refine PS.imp ?_ fun D σ H => t_set
  have hsw : swapsWith v (some (.Name x py)) pos.line X.env = pure (swC sc x py v) := by rw [sw_eq g.kd', g.sc_]
  cases hb : swC sc x py v with
  | false =>
    rw [hb] at hsw
    exact ps_set g.n (g.ix h1) (g.lo h2) (sE e N sc ow X v g h3).1 hsw (g.fn' h2)
  | true =>
    rw [hb] at hsw
    rw [hb, if_pos rfl, Bool.and_eq_true] at h4
    have hl : sc.names.lookup x = some .local := by have := g.lc h4.2; rwa [g.sc_] at this
    cases e with
    | lc tr own tg it ifs elt => exact s_setlc (sI it) (sT tg) (sIf ifs) (sE elt) g h3 h1 hl hsw
    | lc2 tr own tg it ifs vs1 tg1 it1 ifs1 elt => exact s_setlc2 (sI it) (sT tg) (sIf ifs) (sI it1) (sT tg1) (sIf ifs1) (sE elt) g h3 h1 hl hsw
    | dc own tg it kx vx => exact s_setdc (sI it) (sT tg) (sE kx) (sE vx) g h3 h1 hl hsw
    | _ => exact absurd h4.1 Bool.false_ne_true
theorem s_asg {t : MT} {e : ME} : SSt G K k (.asg t e) := by
  intro N sc ow X st g h
  unfold okS at h
  split at h <;> (try cases h) <;> rename_i q <;> cases q
  simp only [Bool.and_eq_true, Bool.not_eq_true'] at h
  obtain ⟨⟨⟨⟨h0, h1⟩, h2⟩, h3⟩, h4⟩ := h
  refine PS.imp (ps_asg (sE e N sc ow X _ g h4).1 (sT t N sc ow X _ g h3) (sw_tgt h1) (by
    rcases (Bool.or_eq_true _ _).mp h2 with h2 | h2
    · exact st_none (.inr h2)
    · exact st_cell (by rw [g.sc_]; exact h2)) (by rw [assign_cons h0]; rfl)) fun D σ H ⟨φ, ψ, env, M, r, re, rm, ev, po⟩ => ?_
  rw [exS] at ev
  obtain ⟨p, e1, ev⟩ := bnd ev
  obtain ⟨env1, e2, ev⟩ := mpd ev
  cases ev
  exact ⟨φ, ψ, env, M, p.1, p.2, re, rm, e1, fun φ1 H1 v x1 rm1 r1 => ⟨φ1, ψ, env, p.2, p.1, env1, re.ext x1, rm1, r1, e2, fun σ' re' _ => po φ1 H1 σ' x1 rm1 re'⟩⟩
theorem s_par {xs : List (Nat × Str)} {es : MEs} : SSt G K k (.par xs es) := by
  intro N sc ow X st g h
  unfold okS at h
  split at h <;> (try cases h) <;> rename_i q <;> cases q
  · simp only [Bool.and_eq_true, decide_eq_true_eq, Bool.not_eq_true', decide_eq_false_iff_not] at h
    obtain ⟨⟨⟨⟨⟨⟨⟨⟨⟨⟨⟨⟨rfl, rfl⟩, h1⟩, h2⟩, h3⟩, h4⟩, h5⟩, h6⟩, h7⟩, h8⟩, h9⟩, h10⟩, h11⟩ := h
    refine PS.imp (ps_par g.hc g.n (g.ix h1) (g.ix h2) h3 (g.lc h5) (g.lc h6) (sA es N sc ow X _ g h11) (sw2 g.kd' (g.lc h5) (g.lc h6) h7 h4 h8 h9 h10)) fun D σ H ⟨φ, ψ, env, M, r, re, rm, ev, po⟩ => ?_
    rw [exS] at ev
    obtain ⟨p, e1, ev⟩ := bnd ev
    split at ev
    case isFalse => cases ev
    rename_i hl
    cases ev
    refine ⟨φ, ψ, env, M, p.1, p.2, re, rm, e1, fun φ1 H1 vs x1 rm1 r1 => ?_⟩
    generalize p.1 = us at *
    match us, vs, r1, hl with
    | [u, v], [a, b], .cons ra (.cons rb .nil), _ => exact ⟨a, b, rfl, po φ1 H1 _ x1 rm1 (((re.ext x1).set ra).set rb)⟩
  · simp only [Bool.and_eq_true, decide_eq_true_eq, Bool.not_eq_true', decide_eq_false_iff_not] at h
    obtain ⟨⟨⟨⟨⟨⟨⟨⟨⟨⟨⟨⟨⟨⟨⟨⟨⟨⟨⟨⟨rfl, rfl⟩, rfl⟩, h1⟩, h2⟩, h2'⟩, h3⟩, h3'⟩, h3''⟩, h4⟩, h4'⟩, h4''⟩, h5⟩, h6⟩, h6'⟩, h7⟩, h7'⟩, h8⟩, h9⟩, h10⟩, h11⟩ := h
    refine PS.imp (ps_par3 g.hc g.n (g.ix h1) (g.ix h2) (g.ix h2') h3 h3' h3'' (g.lc h5) (g.lc h6) (g.lc h6') (sA es N sc ow X _ g h11) (sw3 g.kd' (g.lc h5) (g.lc h6) (g.lc h6') h7 h7' h4 h4' h4'' h8 h9 h10)) fun D σ H ⟨φ, ψ, env, M, r, re, rm, ev, po⟩ => ?_
    rw [exS] at ev
    obtain ⟨p, e1, ev⟩ := bnd ev
    split at ev
    case isFalse => cases ev
    rename_i hl
    cases ev
    refine ⟨φ, ψ, env, M, p.1, p.2, re, rm, e1, fun φ1 H1 vs x1 rm1 r1 => ?_⟩
    generalize p.1 = us at *
    match us, vs, r1, hl with
    | [u, v, w], [a, b, c], .cons ra (.cons rb (.cons rc .nil)), _ => exact ⟨a, b, c, rfl, po φ1 H1 _ x1 rm1 ((((re.ext x1).set ra).set rb).set rc)⟩
theorem s_setI {o i e : ME} : SSt G K k (.setI o i e) := by
  intro N sc ow X st g h
  unfold okS at h
  split at h <;> (try cases h) <;> rename_i q <;> cases q
  simp only [Bool.and_eq_true] at h
  obtain ⟨⟨⟨h0, h1⟩, h2⟩, h3⟩ := h
  have hu := g.hu
  refine PS.imp (ps_asg (sE e N sc ow X _ g h3).1 (pg_sub (sE o N sc ow X _ g h1).1 (sE i N sc ow X _ g h2).1 (op_set g.hK (by omega)) (sub_assign h0)) (by rw [swapsWithSole]; exact sw_tgt rfl) (st_none (.inl rfl)) (by rw [assign_cons rfl]; rfl)) fun D σ H ⟨φ, ψ, env, M, r, re, rm, ev, po⟩ => ?_
  rw [exS] at ev
  obtain ⟨v, e1, ev⟩ := bnd ev
  obtain ⟨p, e2, ev⟩ := bnd ev
  obtain ⟨q, e3, ev⟩ := bnd ev
  obtain ⟨M1, e4, ev⟩ := mpd ev
  cases ev
  exact ⟨φ, ψ, env, M, v.1, v.2, re, rm, e1, fun φ1 H1 vv x1 rm1 r1 => ⟨φ1, ψ, env, v.2, p.1, p.2, re.ext x1, rm1, e2, fun φ2 H2 vo x2 rm2 r2 => ⟨φ2, ψ, env, p.2, q.1, q.2, re.ext (x1.trans x2), rm2, e3, fun φ3 H3 vi x3 rm3 r3 =>
    ⟨φ3, ψ, q.2, p.1, q.1, v.1, M1, rm3, r2.to x3, r3, r1.to (x2.trans x3), e4, fun φ4 H4 x4 rm4 => po φ4 H4 σ (x1.trans (x2.trans (x3.trans x4))) rm4 (re.ext (x1.trans (x2.trans (x3.trans x4))))⟩⟩⟩⟩
theorem s_setA {c : Str} {o : ME} {f : Str} {e : ME} : SSt G K k (.setA c o f e) := by
  intro N sc ow X st g h
  unfold okS at h
  split at h <;> (try cases h) <;> rename_i q <;> cases q
  simp only [Bool.and_eq_true, decide_eq_true_eq] at h
  obtain ⟨⟨rfl, h1⟩, h2⟩ := h
  refine PS.imp (ps_fld (sE o N sc ow X _ g h1).1 (sE e N sc ow X _ g h2).1 (sw_tgt rfl)) fun D σ H ⟨φ, ψ, env, M, r, re, rm, ev, po⟩ => ?_
  rw [exS] at ev
  obtain ⟨v, e1, ev⟩ := bnd ev
  obtain ⟨p, e2, ev⟩ := bnd ev
  split at ev
  case h_2 => cases ev
  rename_i i hi
  split at ev
  case h_2 => cases ev
  rename_i c' fs hM
  split at ev
  case isFalse => cases ev
  rename_i hc
  obtain ⟨rfl, hl⟩ := hc
  obtain ⟨C, e3, ev⟩ := bnd ev
  split at ev
  case isFalse => cases ev
  rename_i hf
  cases ev
  obtain ⟨c1, _, c3, _, _⟩ := g.tab.cls _ _ e3
  refine ⟨φ, ψ, env, M, v.1, v.2, re, rm, e1, fun φ1 H1 vv x1 rm1 r1 => ⟨φ1, ψ, env, v.2, p.1, p.2, re.ext x1, rm1, e2, fun φ2 H2 vo x2 rm2 r2 => ?_⟩⟩
  rw [hi] at r2
  obtain ⟨a, dx, gs, rfl, ha, hh, hfs⟩ := ins_of rm2 r2 hM
  have x3 : Ext φ2 H2 φ2 (upd H2 a (.ins (K.ca c') dx (putF f vv gs))) := .write ha
  refine ⟨a, K.ca c', dx, gs, rfl, hh, c1, c3 _ hf, by rw [← hfs.length]; exact hl, po φ2 _ σ (x1.trans (x2.trans x3)) (rm2.write ha ⟨dx, _, upd_same, (hfs.put (r1.to x2)).ext x3⟩) (re.ext (x1.trans (x2.trans x3)))⟩
theorem aug_ip {X : Cx} {op : Operator} (h : op = .Add ∨ op = .Sub) : PIp X op (fun x y H Q => ∃ a b c, x = .int a ∧ y = .int b ∧ augT op (.int a) (.int b) = some (.int c) ∧ Q (.int c) H) := by
  intro pins s σ H x y v u Q I r1 r2 ⟨a, b, c, e1, e2, e3, q⟩
  rcases h with rfl | rfl
  · cases e3
    exact ip_add pins s σ H x y v u Q I r1 r2 ⟨a, b, e1, e2, q⟩
  · cases e3
    exact ip_sub pins s σ H x y v u Q I r1 r2 ⟨a, b, e1, e2, q⟩
theorem augT_int {op : Operator} {x y z : T} (h : augT op x y = some z) : ∃ a b c, x = .int a ∧ y = .int b ∧ z = .int c ∧ augT op (.int a) (.int b) = some (.int c) := by
  unfold augT at h
  split at h
  · cases h; exact ⟨_, _, _, rfl, rfl, rfl, rfl⟩
  · cases h; exact ⟨_, _, _, rfl, rfl, rfl, rfl⟩
  · cases h
theorem s_aug {i : Nat} {x : Str} {op : Operator} {e : ME} : SSt G K k (.aug i x op e) := by
  intro N sc ow X st g h
  unfold okS at h
  split at h <;> (try cases h) <;> rename_i q <;> cases q
  simp only [Bool.and_eq_true, decide_eq_true_eq, Bool.or_eq_true] at h
  obtain ⟨⟨⟨⟨⟨rfl, h1⟩, h2⟩, rfl⟩, h3⟩, h4⟩ := h
  refine PS.imp (ps_aug g.n (g.ix h1) (g.lo h2) (sE e N sc ow X _ g h4).1 (aug_ip h3) (g.fn' h2)) fun D σ H ⟨φ, ψ, env, M, r, re, rm, ev, po⟩ => ?_
  rw [exS] at ev
  split at ev
  case h_2 => cases ev
  rename_i t ht
  obtain ⟨p, e1, ev⟩ := bnd ev
  obtain ⟨z, e2, ev⟩ := mpd ev
  cases ev
  obtain ⟨v, hv, rv⟩ := re.at_ _ _ ht
  obtain ⟨a, b, c, rfl, hb, rfl, e3⟩ := augT_int e2
  cases rv
  refine ⟨_, hv, φ, ψ, env, M, p.1, p.2, re, rm, e1, fun φ1 H1 vv x1 rm1 r1 => ?_⟩
  rw [hb] at r1
  cases r1
  exact ⟨a, b, c, rfl, rfl, e3, po φ1 H1 _ x1 rm1 ((re.ext x1).set (.int c))⟩
theorem s_augI {o i : ME} {op : Operator} {e : ME} : SSt G K k (.augI o i op e) := by
  intro N sc ow X st g h
  unfold okS at h
  split at h <;> (try cases h) <;> rename_i q <;> cases q
  simp only [Bool.and_eq_true, decide_eq_true_eq, Bool.or_eq_true] at h
  obtain ⟨⟨⟨⟨⟨h0, rfl⟩, h3⟩, h4⟩, h5⟩, h6⟩ := h
  have hu := g.hu
  refine PS.imp (ps_augS (sE o N sc ow X _ g h4).1 (sE i N sc ow X _ g h5).1 (get_ix g.hK (by omega)) (sE e N sc ow X _ g h6).1 (aug_ip h3) (op_set g.hK (by omega)) (aug_ix h0)) fun D σ H ⟨φ, ψ, env, M, r, re, rm, ev, po⟩ => ?_
  rw [exS] at ev
  obtain ⟨p, e1, ev⟩ := bnd ev
  obtain ⟨q, e2, ev⟩ := bnd ev
  obtain ⟨t, e3, ev⟩ := bnd ev
  obtain ⟨y, e4, ev⟩ := bnd ev
  obtain ⟨z, e5, ev⟩ := bnd ev
  obtain ⟨M1, e6, ev⟩ := mpd ev
  cases ev
  obtain ⟨a, b, c, rfl, hb, rfl, e7⟩ := augT_int e5
  refine ⟨φ, ψ, env, M, p.1, p.2, re, rm, e1, fun φ1 H1 vo x1 rm1 r1 => ⟨φ1, ψ, env, p.2, q.1, q.2, re.ext x1, rm1, e2, fun φ2 H2 vi x2 rm2 r2 => ⟨φ2, ψ, q.2, p.1, q.1, .int a, rm2, r1.to x2, r2, e3, fun v3 r3 => ?_⟩⟩⟩
  cases r3
  refine ⟨φ2, ψ, env, q.2, y.1, y.2, re.ext (x1.trans x2), rm2, e4, fun φ3 H3 vy x3 rm3 r3 => ?_⟩
  rw [hb] at r3
  cases r3
  exact ⟨a, b, c, rfl, rfl, e7, φ3, ψ, y.2, p.1, q.1, .int c, M1, rm3, r1.to (x2.trans x3), r2.to x3, .int c, e6, fun φ4 H4 x4 rm4 => po φ4 H4 σ (x1.trans (x2.trans (x3.trans x4))) rm4 (re.ext (x1.trans (x2.trans (x3.trans x4))))⟩
theorem s_ex {e : ME} : SSt G K k (.ex e) := by
  intro N sc ow X st g h
  unfold okS at h
  split at h <;> (try cases h) <;> rename_i q <;> cases q
  rw [Bool.and_eq_true] at h
  refine PS.imp (ps_expr (sE e N sc ow X _ g h.2).1 (sw_not h.1)) fun D σ H ⟨φ, ψ, env, M, r, re, rm, ev, po⟩ => ?_
  rw [exS] at ev
  obtain ⟨p, e1, ev⟩ := mpd ev
  cases ev
  exact ⟨φ, ψ, env, M, p.1, p.2, re, rm, e1, fun φ1 H1 v x1 rm1 r1 => po φ1 H1 σ x1 rm1 (re.ext x1)⟩
theorem s_ret {e : ME} : SSt G K k (.ret e) := by
  intro N sc ow X st g h
  unfold okS at h
  split at h <;> (try cases h) <;> rename_i q <;> cases q
  refine PS.imp (ps_ret (sE e N sc ow X _ g h).1) fun D σ H ⟨φ, ψ, env, M, r, re, rm, ev, po⟩ => ?_
  rw [exS] at ev
  obtain ⟨p, e1, ev⟩ := mpd ev
  cases ev
  exact ⟨φ, ψ, env, M, p.1, p.2, re, rm, e1, fun φ1 H1 v x1 rm1 r1 => po φ1 H1 v x1 rm1 r1⟩
theorem s_retN : SSt G K k .retN := by
  intro N sc ow X st g h
  unfold okS at h
  split at h <;> (try cases h) <;> rename_i q <;> cases q
  refine PS.imp ps_retN fun D σ H ⟨φ, ψ, env, M, r, re, rm, ev, po⟩ => ?_
  rw [exS] at ev
  cases ev
  exact po φ H _ .refl rm .non
theorem s_brk : SSt G K k .brk := by
  intro N sc ow X st g h
  unfold okS at h
  split at h <;> (try cases h) <;> rename_i q <;> cases q
  refine PS.imp ps_break fun D σ H ⟨φ, ψ, env, M, r, re, rm, ev, po⟩ => ?_
  rw [exS] at ev
  cases ev
  exact po φ H _ .refl rm re
theorem s_cnt : SSt G K k .cnt := by
  intro N sc ow X st g h
  unfold okS at h
  split at h <;> (try cases h) <;> rename_i q <;> cases q
  refine PS.imp ps_continue fun D σ H ⟨φ, ψ, env, M, r, re, rm, ev, po⟩ => ?_
  rw [exS] at ev
  cases ev
  exact po φ H _ .refl rm re
theorem s_pas : SSt G K k .pas := by
  intro N sc ow X st g h
  unfold okS at h
  split at h <;> (try cases h) <;> rename_i q <;> cases q
  refine PS.imp ps_pass fun D σ H ⟨φ, ψ, env, M, r, re, rm, ev, po⟩ => ?_
  rw [exS] at ev
  cases ev
  exact po φ H _ .refl rm re
theorem s_ite {c : ME} {a b : List MS} (ha : SSs G K k a) (hb : SSs G K k b) : SSt G K k (.ite c a b) := by
  intro N sc ow X st g h
  unfold okS at h
  split at h <;> (try cases h) <;> rename_i q <;> cases q
  simp only [Bool.and_eq_true] at h
  obtain ⟨⟨h0, h1⟩, h2⟩ := h
  refine PS.imp (ps_if (sE c N sc ow X _ g h0).2.1 (ha N sc ow X _ g h1) (hb N sc ow X _ g h2)) fun D σ H ⟨φ, ψ, env, M, r, re, rm, ev, po⟩ => ?_
  rw [exS] at ev
  obtain ⟨p, e1, ev⟩ := bnd ev
  refine ⟨φ, ψ, env, M, p.1, p.2, re, rm, e1, fun φ1 H1 x1 rm1 => ?_⟩
  split at ev
  · rename_i hp
    rw [if_pos hp]
    exact ⟨φ1, ψ, env, p.2, r, re.ext x1, rm1, ev, po.ext x1⟩
  · rename_i hp
    rw [if_neg hp]
    exact ⟨φ1, ψ, env, p.2, r, re.ext x1, rm1, ev, po.ext x1⟩
theorem s_whl {c : ME} {b : List MS} (hb : SSs G K k b) : SSt G K k (.whl c b) := by
  intro N sc ow X st g h
  unfold okS at h
  split at h <;> (try cases h) <;> rename_i q <;> cases q
  rw [Bool.and_eq_true] at h
  refine PS.imp (ps_while g.pas (sE c N sc ow X _ g h.1).2.1 (hb N sc ow X _ g h.2)) fun D σ H ⟨φ, ψ, env, M, r, re, rm, ev, po⟩ => ?_
  rw [exS] at ev
  obtain ⟨n, hn⟩ := of_whileC ev
  refine ⟨fun m σ H => ∃ φ env M, RE K φ ψ H env σ ∧ RM K φ ψ H M ∧ whileN (fun σ M => tst (evE G c σ M)) (fun σ M => exSs G b σ M) m env M = some r ∧ Post K φ ψ H D r, ⟨n, φ, env, M, re, rm, hn, po⟩, ?_⟩
  rintro m σ H ⟨φ, env, M, re, rm, hm, po⟩
  cases m with
  | zero => simp [whileN] at hm
  | succ m =>
    unfold whileN at hm
    cases hc : tst (evE G c env M) with
    | none => rw [hc] at hm; cases hm
    | some p =>
      obtain ⟨d, M1⟩ := p
      rw [hc] at hm
      refine ⟨φ, ψ, env, M, d, M1, re, rm, hc, fun φ1 H1 x1 rm1 => ?_⟩
      cases d with
      | false =>
        rw [if_neg Bool.false_ne_true]
        cases hm
        exact po φ1 H1 σ x1 rm1 (re.ext x1)
      | true =>
        rw [if_pos rfl]
        simp only at hm
        refine ⟨fun σ' H' => ∃ φ env M, RE K φ ψ H' env σ' ∧ RM K φ ψ H' M ∧ whileN (fun σ M => tst (evE G c σ M)) (fun σ M => exSs G b σ M) m env M = some r ∧ Post K φ ψ H' D r, fun σ' H' q => ⟨m, Nat.lt_succ_self _, q⟩, ?_⟩
        cases he : exSs G b env M1 with
        | none => rw [he] at hm; cases hm
        | some rr =>
          rw [he] at hm
          refine ⟨φ1, ψ, env, M1, rr, re.ext x1, rm1, he, ?_⟩
          cases rr with
          | nx e' m' => exact fun φ' H' σ' x' rm' re' => ⟨φ', e', m', re', rm', hm, po.ext (x1.trans x')⟩
          | ct e' m' => exact fun φ' H' σ' x' rm' re' => ⟨φ', e', m', re', rm', hm, po.ext (x1.trans x')⟩
          | bk e' m' =>
            cases hm
            exact fun φ' H' σ' x' rm' re' => po φ' H' σ' (x1.trans x') rm' re'
          | rt t m' =>
            cases hm
            exact fun φ' H' σ' x' rm' re' => po φ' H' σ' (x1.trans x') rm' re'
theorem s_for {t : MT} {it : MI} {b : List MS} (hb : SSs G K k b) : SSt G K k (.for t it b) := by
  intro N sc ow X st g h
  unfold okS at h
  split at h <;> (try cases h) <;> rename_i q <;> cases q
  simp only [Bool.and_eq_true] at h
  obtain ⟨⟨⟨h0, h1⟩, h2⟩, h3⟩ := h
  refine PS.imp (ps_for g.pas g.hc (sI it N sc ow X _ _ g h1) (sT t N sc ow X _ g h2) (hb N sc ow X _ g h3) (fold_set h0)) fun D σ H ⟨φ, ψ, env, M, r, re, rm, ev, po⟩ => ?_
  rw [exS] at ev
  obtain ⟨p, e1, ev⟩ := bnd ev
  refine ⟨φ, ψ, env, M, p.1, p.2, re, rm, e1, fun φ0 H0 J x0 rm0 hw => ?_⟩
  generalize hstep : (fun x σ M => (asgT t x σ).bind fun σ1 => exSs G b σ1 M) = step at ev
  refine ⟨fun i m σ H => m = p.1.1.length - i ∧ i ≤ p.1.1.length ∧ ∃ φ env M, Ext φ0 H0 φ H ∧ RE K φ ψ H env σ ∧ RM K φ ψ H M ∧ forC p.1.2 step (p.1.1.drop i) env M = some r ∧ Post K φ ψ H D r,
    ⟨_, rfl, Nat.zero_le _, φ0, env, p.2, .refl, re.ext x0, rm0, ev, po.ext x0⟩, ?_⟩
  rintro i m σ H ⟨rfl, hi, φ, env, M, x1, re, rm, hm, po⟩
  by_cases hlt : i < p.1.1.length
  · rw [List.drop_eq_getElem_cons hlt, forC] at hm
    split at hm
    case isFalse => cases hm
    rename_i hg
    refine .inr ⟨hw.goes i φ ψ H M hlt (x1.tr ψ) rm hg, fun σ' H' => ∃ φ env M, Ext φ0 H0 φ H' ∧ RE K φ ψ H' env σ' ∧ RM K φ ψ H' M ∧ forC p.1.2 step (p.1.1.drop (i + 1)) env M = some r ∧ Post K φ ψ H' D r,
      fun σ' H' q => ⟨p.1.1.length - (i + 1), by omega, rfl, hlt, q⟩, fun v H' hy => ?_⟩
    obtain ⟨u, hu, x2, rm2, rt⟩ := hw.yields i φ ψ H M v H' hlt (x1.tr ψ) rm hg hy
    rw [List.getElem?_eq_getElem hlt] at hu
    cases hu
    cases hs : step p.1.1[i] env M with
    | none => rw [hs] at hm; cases hm
    | some rr =>
      rw [hs] at hm
      rw [← hstep] at hs
      obtain ⟨env1, e2, e3⟩ := bnd hs
      refine ⟨φ, ψ, env, M, _, env1, re.ext x2, rm2, rt, e2, fun σ1 re1 _ => ⟨φ, ψ, env1, M, rr, re1, rm2, e3, ?_⟩⟩
      cases rr with
      | nx e' m' => exact fun φ' H' σ' x' rm' re' => ⟨φ', e', m', x1.trans (x2.trans x'), re', rm', hm, po.ext (x2.trans x')⟩
      | ct e' m' => exact fun φ' H' σ' x' rm' re' => ⟨φ', e', m', x1.trans (x2.trans x'), re', rm', hm, po.ext (x2.trans x')⟩
      | bk e' m' =>
        cases hm
        exact fun φ' H' σ' x' rm' re' => po φ' H' σ' (x2.trans x') rm' re'
      | rt t m' =>
        cases hm
        exact fun φ' H' σ' x' rm' re' => po φ' H' σ' (x2.trans x') rm' re'
  · have e : i = p.1.1.length := by omega
    subst e
    rw [List.drop_length, forC] at hm
    split at hm
    case isFalse => cases hm
    rename_i hg
    cases hm
    exact .inl ⟨hw.stops φ ψ H _ (x1.tr ψ) rm hg, po φ H σ .refl rm re⟩
theorem ss_nil : SSs G K k [] := by
  intro N sc ow X st g h
  cases st with
  | cons _ _ => simp [okSs] at h
  | nil =>
    refine PSs.imp pss_nil fun D σ H ⟨φ, ψ, env, M, r, re, rm, ev, po⟩ => ?_
    rw [exSs] at ev
    cases ev
    exact po φ H σ .refl rm re
theorem ss_cons {s : MS} {ss : List MS} (h1 : SSt G K k s) (h2 : SSs G K k ss) : SSs G K k (s :: ss) := by
  intro N sc ow X st g h
  cases st with
  | nil => simp [okSs] at h
  | cons t ts =>
    rw [okSs, Bool.and_eq_true] at h
    refine PSs.imp (pss_cons (h1 N sc ow X t g h.1) (h2 N sc ow X ts g h.2)) fun D σ H ⟨φ, ψ, env, M, r, re, rm, ev, po⟩ => ?_
    rw [exSs] at ev
    cases hs : exS G s env M with
    | none => rw [hs] at ev; cases ev
    | some rr =>
      rw [hs] at ev
      refine ⟨φ, ψ, env, M, rr, re, rm, hs, ?_⟩
      cases rr with
      | nx e' m' => exact fun φ' H' σ' x' rm' re' => ⟨φ', ψ, e', m', r, re', rm', ev, po.ext x'⟩
      | rt t m' => cases ev; exact po
      | bk t m' => cases ev; exact po
      | ct t m' => cases ev; exact po
mutual
theorem sS : ∀ m : MS, SSt G K k m
  | .set _ _ _ => s_set
  | .asg _ _ => s_asg
  | .par _ _ => s_par
  | .setI _ _ _ => s_setI
  | .setA _ _ _ _ => s_setA
  | .aug _ _ _ _ => s_aug
  | .augI _ _ _ _ => s_augI
  | .ex _ => s_ex
  | .ret _ => s_ret
  | .retN => s_retN
  | .ite _ a b => s_ite (sSs a) (sSs b)
  | .whl _ b => s_whl (sSs b)
  | .for _ _ b => s_for (sSs b)
  | .brk => s_brk
  | .cnt => s_cnt
  | .pas => s_pas
theorem sSs : ∀ m : List MS, SSs G K k m
  | [] => ss_nil
  | s :: ss => ss_cons (sS s) (sSs ss)
end
end Mi
end L2

/-! Mini: a def keeps its promise. -/
namespace L2
namespace Mi
open PySem PySem.Spec PyProof.Rows
variable {G : Sig} {K : KC} {k : Nat}
mutual
/-- the objects of ours within lie below n -/
def bndT (n : Nat) : T → Prop
  | .obj i => i < n
  | .tup ts => bndTs n ts
  | .fl ts => bndTs n ts
  | .fd _ ks ts => bndTs n ts
  | _ => True
def bndTs (n : Nat) : List T → Prop
  | [] => True
  | t :: ts => bndT n t ∧ bndTs n ts
end
mutual
theorem bnd_pure (n : Nat) : ∀ t : T, pureT t = true → bndT n t
  | .obj i, h => by simp [pureT] at h
  | .tup ts, h => by rw [bndT]; exact bnd_pures n ts (by simpa [pureT] using h)
  | .fl ts, h => by rw [bndT]; exact bnd_pures n ts (by simpa [pureT] using h)
  | .fd _ ks ts, h => by rw [bndT]; exact bnd_pures n ts (by simpa [pureT] using h)
  | .non, _ => by simp [bndT]
  | .bl _, _ => by simp [bndT]
  | .int _, _ => by simp [bndT]
  | .str _, _ => by simp [bndT]
  | .sc _, _ => by simp [bndT]
theorem bnd_pures (n : Nat) : ∀ ts : List T, pureTs ts = true → bndTs n ts
  | [], _ => by simp [bndTs]
  | t :: ts, h => by
    simp only [pureTs, Bool.and_eq_true] at h
    rw [bndTs]
    exact ⟨bnd_pure n t h.1, bnd_pures n ts h.2⟩
end
section
variable {φ φ' ψ : List Addr} {H : Hp} {M M' : Mem}
mutual
theorem RT.bnd : ∀ (t : T) (v : V), RT K φ ψ H t v → bndT φ.length t
  | .non, _, _ => by simp [bndT]
  | .bl _, _, _ => by simp [bndT]
  | .int _, _, _ => by simp [bndT]
  | .str _, _, _ => by simp [bndT]
  | .sc _, _, _ => by simp [bndT]
  | .obj i, _, h => by cases h with | obj h => rw [bndT]; exact (List.getElem?_eq_some_iff.mp h).1
  | .tup ts, _, h => by cases h with | tup _ h => rw [bndT]; exact RTs.bnd ts _ h
  | .fl ts, _, h => by cases h with | fl _ _ h => rw [bndT]; exact RTs.bnd ts _ h
  | .fd _ ks ts, _, h => by
    cases h with
    | fdK _ _ _ h => rw [bndT]; exact RTs.bnd ts _ h
    | fdT _ _ _ _ h => rw [bndT]; exact RTs.bnd ts _ h
theorem RTs.bnd : ∀ (ts : List T) (vs : List V), RTs K φ ψ H ts vs → bndTs φ.length ts
  | [], _, _ => by simp [bndTs]
  | t :: ts, _, h => by cases h with | cons h1 h2 => rw [bndTs]; exact ⟨RT.bnd t _ h1, RTs.bnd ts _ h2⟩
end
theorem Fre.down {a : Addr} (p : φ <+: φ') (h : Fre φ' ψ a) : Fre φ ψ a := ⟨fun hm => h.1 (p.subset hm), h.2⟩
theorem FzT.down {a : Addr} {vs : List V} (p : φ <+: φ') (h : FzT K φ' ψ H a vs) : FzT K φ ψ H a vs := h.elim (fun h => .inl ⟨h.1.down p, h.2⟩) .inr
theorem FzL.down {a : Addr} {vs : List V} (p : φ <+: φ') (h : FzL K φ' ψ H a vs) : FzL K φ ψ H a vs := h.elim (fun h => .inl ⟨h.1.down p, h.2⟩) .inr
mutual
theorem RT.down (p : φ <+: φ') : ∀ (t : T) (v : V), bndT φ.length t → RT K φ' ψ H t v → RT K φ ψ H t v
  | .non, _, _, h => by cases h; exact .non
  | .bl b, _, _, h => by cases h; exact .bl b
  | .int i, _, _, h => by cases h; exact .int i
  | .str s, _, _, h => by cases h; exact .str s
  | .tup ts, _, b, h => by
    rw [bndT] at b
    cases h with
    | tup h1 h2 => exact .tup (h1.down p) (RTs.down p ts _ b h2)
  | .fl ts, _, b, h => by
    rw [bndT] at b
    cases h with
    | fl h1 h2 h3 => exact .fl (h1.down p) h2 (RTs.down p ts _ b h3)
  | .fd tk ks ts, _, b, h => by
    rw [bndT] at b
    cases h with
    | fdK h1 h2 h3 h4 => exact .fdK (h1.down p) h2 h3 (RTs.down p ts _ b h4)
    | fdT h0 h1 h2 h3 h4 => exact .fdT h0 (h1.down p) h2 h3 (RTs.down p ts _ b h4)
  | .sc ns, _, _, h => by cases h with | sc h => exact .sc (h.down p)
  | .obj i, _, b, h => by
    rw [bndT] at b
    cases h with
    | obj h =>
      obtain ⟨r, rfl⟩ := p
      rw [List.getElem?_append_left b] at h
      exact .obj h
theorem RTs.down (p : φ <+: φ') : ∀ (ts : List T) (vs : List V), bndTs φ.length ts → RTs K φ' ψ H ts vs → RTs K φ ψ H ts vs
  | [], _, _, h => by cases h; exact .nil
  | t :: ts, _, b, h => by
    rw [bndTs] at b
    cases h with
    | cons h1 h2 => exact .cons (RT.down p t _ b.1 h1) (RTs.down p ts _ b.2 h2)
end
def bndF (n : Nat) : List (Str × T) → Prop
  | [] => True
  | (_, t) :: fs => bndT n t ∧ bndF n fs
theorem RFs.bnd : ∀ {fs : List (Str × T)} {gs : List (Str × V)}, RFs K φ ψ H fs gs → bndF φ.length fs
  | [], [], _ => trivial
  | (_, _) :: _, (_, _) :: _, ⟨_, r, h⟩ => ⟨RT.bnd _ _ r, RFs.bnd h⟩
  | [], _ :: _, h => h.elim
  | _ :: _, [], h => h.elim
theorem RFs.down (p : φ <+: φ') : ∀ {fs : List (Str × T)} {gs : List (Str × V)}, bndF φ.length fs → RFs K φ' ψ H fs gs → RFs K φ ψ H fs gs
  | [], [], _, _ => trivial
  | (_, _) :: _, (_, _) :: _, b, ⟨e, r, h⟩ => ⟨e, RT.down p _ _ b.1 r, RFs.down p b.2 h⟩
  | [], _ :: _, _, h => h.elim
  | _ :: _, [], _, h => h.elim
def bndO (n : Nat) : O → Prop
  | .lst ts => bndTs n ts
  | .dic _ _ ts => bndTs n ts
  | .ins _ fs => bndF n fs
theorem RO.bnd {a : Addr} {o : O} (h : RO K φ ψ H a o) : bndO φ.length o := by
  cases o with
  | lst ts => obtain ⟨vs, _, h⟩ := h; exact RTs.bnd _ _ h
  | dic tk ks ts =>
    rcases h with ⟨_, kvs, _, _, h⟩ | ⟨_, _, kvs, _, _, h⟩
    · exact RTs.bnd _ _ h
    · exact RTs.bnd _ _ h
  | ins c fs => obtain ⟨dx, gs, _, h⟩ := h; exact h.bnd
theorem RO.down {a : Addr} {o : O} (p : φ <+: φ') (b : bndO φ.length o) (h : RO K φ' ψ H a o) : RO K φ ψ H a o := by
  cases o with
  | lst ts => obtain ⟨vs, h1, h⟩ := h; exact ⟨vs, h1, RTs.down p _ _ b h⟩
  | dic tk ks ts =>
    rcases h with ⟨e, kvs, h1, h2, h⟩ | ⟨e, e', kvs, h1, h2, h⟩
    · exact .inl ⟨e, kvs, h1, h2, RTs.down p _ _ b h⟩
    · exact .inr ⟨e, e', kvs, h1, h2, RTs.down p _ _ b h⟩
  | ins c fs => obtain ⟨dx, gs, h1, h⟩ := h; exact ⟨dx, gs, h1, h.down p b⟩
/-- the part of the memory that was there -/
theorem RM.down {H0 : Hp} (r0 : RM K φ ψ H0 M) (r : RM K φ' ψ H M') (p : φ <+: φ') (e : M'.take M.length = M) : RM K φ ψ H M := by
  refine ⟨r0.len, r0.nd, r0.ap, r.used, fun i a o e1 e2 => ?_⟩
  have hi : i < φ.length := (List.getElem?_eq_some_iff.mp e1).1
  have e3 : φ'[i]? = some a := by obtain ⟨q, rfl⟩ := p; rw [List.getElem?_append_left hi]; exact e1
  have e4 : M'[i]? = some o := by
    rw [← e, List.getElem?_take] at e2
    split at e2
    · exact e2
    · cases e2
  exact RO.down p (r0.at_ i a o e1 e2).bnd (r.at_ i a o e3 e4)
theorem mapM_rt {n : Nat} {f : T → Option T} (p : φ <+: φ') (hf : ∀ t v a, RT K φ' ψ H t v → f t = some a → RT K φ ψ H a v) : ∀ (ts : List T) (vs : List V) (as : List T), RTs K φ' ψ H ts vs → ts.mapM f = some as → RTs K φ ψ H as vs
  | [], _, as, h, e => by
    cases h
    rw [List.mapM_nil] at e
    cases e
    exact .nil
  | t :: ts, _, as, h, e => by
    rw [List.mapM_cons] at e
    obtain ⟨a, ea, e⟩ := Option.bind_eq_some_iff.mp e
    obtain ⟨r, er, e⟩ := Option.bind_eq_some_iff.mp e
    cases e
    cases h with
    | cons h1 h2 => exact .cons (hf t _ a h1 ea) (mapM_rt (n := n) p hf ts _ r h2 er)
theorem seal_rt (r : RM K φ' ψ H M) (p : φ <+: φ') : ∀ (f : Nat) (t : T) (v : V) (a : T), RT K φ' ψ H t v → sealT M φ.length f t = some a → RT K φ ψ H a v
  | 0, t, v, a, h, e => by
    unfold sealT at e
    split at e
    · rename_i hp; cases e; exact RT.down p t v (bnd_pure _ t hp) h
    · cases e
  | f + 1, t, v, a, h, e => by
    unfold sealT at e
    split at e
    · rename_i hp; cases e; exact RT.down p t v (bnd_pure _ t hp) h
    · split at e
      · rename_i i
        split at e
        · rename_i hn
          cases h with
          | obj h1 =>
            rename_i a'
            have fre : Fre φ ψ a' := by
              refine ⟨fun hm => ?_, r.ap a' (List.mem_of_getElem? h1)⟩
              obtain ⟨j, hj⟩ := List.getElem?_of_mem hm
              have hjl : j < φ.length := (List.getElem?_eq_some_iff.mp hj).1
              have e3 : φ'[j]? = some a' := by obtain ⟨q, rfl⟩ := p; rw [List.getElem?_append_left hjl]; exact hj
              have := (List.getElem?_inj (List.getElem?_eq_some_iff.mp h1).1 r.nd).mp (h1.trans e3.symm)
              omega
            split at e
            · rename_i ts hts
              obtain ⟨as, ea, e⟩ := Option.map_eq_some_iff.mp e
              subst e
              obtain ⟨vs, q1, q2⟩ := r.obj h1 hts
              exact .fl fre q1 (mapM_rt (n := f) p (fun t v a h e => seal_rt r p f t v a h e) ts vs as q2 ea)
            · rename_i tk ks ts hts
              obtain ⟨as, ea, e⟩ := Option.map_eq_some_iff.mp e
              subst e
              rcases r.obj h1 hts with ⟨rfl, kvs, q1, q2, q3⟩ | ⟨rfl, q0, kvs, q1, q2, q3⟩
              · exact .fdK fre q1 q2 (mapM_rt (n := f) p (fun t v a h e => seal_rt r p f t v a h e) ts _ as q3 ea)
              · exact .fdT q0 fre q1 q2 (mapM_rt (n := f) p (fun t v a h e => seal_rt r p f t v a h e) ts _ as q3 ea)
            · cases e
        · cases e
      · obtain ⟨as, ea, e⟩ := Option.map_eq_some_iff.mp e
        subst e
        cases h with
        | tup h1 h2 => exact .tup (h1.down p) (mapM_rt (n := f) p (fun t v a h e => seal_rt r p f t v a h e) _ _ as h2 ea)
      · obtain ⟨as, ea, e⟩ := Option.map_eq_some_iff.mp e
        subst e
        cases h with
        | fl h1 h2 h3 => exact .fl (h1.down p) h2 (mapM_rt (n := f) p (fun t v a h e => seal_rt r p f t v a h e) _ _ as h3 ea)
      · obtain ⟨as, ea, e⟩ := Option.map_eq_some_iff.mp e
        subst e
        cases h with
        | fdK h1 h2 h3 h4 => exact .fdK (h1.down p) h2 h3 (mapM_rt (n := f) p (fun t v a h e => seal_rt r p f t v a h e) _ _ as h4 ea)
        | fdT h0 h1 h2 h3 h4 => exact .fdT h0 (h1.down p) h2 h3 (mapM_rt (n := f) p (fun t v a h e => seal_rt r p f t v a h e) _ _ as h4 ea)
      · cases e
end
theorem fin_ok {φ ψ : List Addr} {H : Hp} {M M1 : Mem} {t : T} {Q : VK} {sl : Bool} (rm : RM K φ ψ H M) (ok : Ok1 K φ ψ H (fin sl M t M1).1 (fin sl M t M1).2 Q) : Ok1 K φ ψ H t M1 Q := by
  intro φ' H' v x rm' rt
  unfold fin at ok
  split at ok
  · rename_i ht
    have ht := ht.2
    split at ok
    · rename_i r' hr
      rw [← rm.len] at hr
      have x' : Ext φ H φ H' := ⟨List.prefix_rfl, fun a o h e => ⟨h, (x.keep a o h e).2⟩⟩
      exact ok φ H' v x' (rm.down rm' x.pre ht) (seal_rt rm' x.pre 6 t v r' rt hr)
    · exact ok φ' H' v x rm' rt
  · exact ok φ' H' v x rm' rt
theorem start_re {φ ψ : List Addr} {H : Hp} {N : List Str} : ∀ {ts : List T} {vs : List V}, RTs K φ ψ H ts vs → RE K φ ψ H (startE N ts) (start N vs) := by
  intro ts vs h
  have hl := h.length
  refine ⟨by unfold startE start; rw [List.length_append, List.length_append, List.length_map, List.length_map, List.length_replicate, List.length_replicate, hl], fun i t e => ?_⟩
  unfold startE at e
  unfold start
  by_cases hi : i < ts.length
  · rw [List.getElem?_append_left (by rw [List.length_map]; exact hi), List.getElem?_map] at e
    rw [List.getElem?_append_left (by rw [List.length_map, ← hl]; exact hi), List.getElem?_map]
    obtain ⟨u, hu, e⟩ := Option.map_eq_some_iff.mp e
    cases e
    obtain ⟨v, hv, r⟩ := h.get hu
    exact ⟨v, by rw [hv]; rfl, r⟩
  · rw [List.getElem?_append_right (by rw [List.length_map]; omega)] at e
    obtain ⟨_, e⟩ := List.getElem?_eq_some_iff.mp e
    rw [List.getElem_replicate] at e
    cases e
def owC (sc : Scope) (ow : List Str) : Bool := ow.all fun x => decide (sc.names.lookup x = some .local) || decide (sc.names.lookup x = some .cell)
/-- a def of the text, by its term -/
theorem fn_mini {P : Program} {w : World} {KF : PySem.W.Frag} {mg : Str → Option Value} {base : Heap} {x qual : Str} {st : Stmt} {f : Addr} {fd : FuncData} {d : MD} {ow : List Str} (F : Fun KF x qual st f fd) (S : FnScope d.N d.ps (defScope st)) (ho : owC (defScope st) ow = true)
    (tab : Tab G K k P w KF mg base) (hm : okSs d.N (defScope st) ow d.body (defBody st) = true) : FnOk P w KF mg base CX0 (k + 2) f fd d.ps (spM K d.ps.length (runD G d)) := by
  refine Fun.ok (k := k + 1) (N := d.N) F S (fun vs H Q E h => h.1) fun cdv A outer s H vs Q E hr hsp => ?_
  obtain ⟨hl, φ, ψ, M, ts, r, M', rm, rts, ev, ok⟩ := hsp
  refine ⟨tSs G K d.body, sSs d.body d.N (defScope st) ow _ _ ⟨rfl, rfl, S.nd, rfl, S.kind, rfl, ⟨_, _, rfl, S.gen, S.co, rfl, rfl⟩, fun x hx => ⟨?_, .inl rfl⟩, hr, tab⟩ hm, ?_⟩
  · have q := List.all_eq_true.mp ho x hx
    simp only [Bool.or_eq_true, decide_eq_true_eq] at q
    exact q
  · unfold runD at ev
    split at ev
    case isFalse => cases ev
    obtain ⟨rr, e1, ev⟩ := bnd ev
    refine ⟨φ, ψ, startE d.N ts, M, rr, start_re rts, rm, e1, ?_⟩
    cases rr with
    | rt t M1 =>
      have ev := Option.some.inj ev
      rw [show r = (fin d.sl M t M1).1 by rw [ev], show M' = (fin d.sl M t M1).2 by rw [ev]] at ok
      exact fin_ok rm ok
    | nx e' M1 =>
      have ev := Option.some.inj ev
      rw [show r = (fin d.sl M .non M1).1 by rw [ev], show M' = (fin d.sl M .non M1).2 by rw [ev]] at ok
      exact fun φ' H' σ' x' rm' _ => fin_ok rm ok φ' H' .non x' rm' .non
    | bk e' M1 => cases ev
    | ct e' M1 => cases ev
theorem runD_len {d : MD} {ts : List T} {M : Mem} {r : T × Mem} (h : runD G d ts M = some r) : ts.length = d.ps.length := by
  unfold runD at h
  split at h
  · assumption
  · cases h
theorem ent_mini {P : Program} {w : World} {KF : PySem.W.Frag} {mg : Str → Option Value} {base : Heap} {x qual : Str} {st : Stmt} {f : Addr} {fd : FuncData} {d : MD} {ow : List Str} (F : Fun KF x qual st f fd) (S : FnScope d.N d.ps (defScope st)) (ho : owC (defScope st) ow = true)
    (hb : Binds KF fd d.ps []) (tab : Tab G K k P w KF mg base) (hm : okSs d.N (defScope st) ow d.body (defBody st) = true) : Ent K (k + 2) P w KF mg base f (runD G d) :=
  ⟨fd, d.ps, hb, fun _ _ _ h => runD_len h, fn_mini F S ho tab hm⟩
end Mi
end L2

/-! Mini: a whole text, its table, its end. -/
namespace L2
namespace Mi
open PySem PySem.Spec PyProof.Rows
/-- a def of the text: where it stands, its name, its qualified name, its statement, its term, the names that it stores -/
structure DI where
  at_ : Str × Option Str
  name : Str
  qual : Str
  st : Stmt
  d : MD
  ow : List Str
structure CI where
  name : Str
  attrs : List Str
  meths : List Str
  init : Bool
structure Prog where
  kt : Bool
  glbs : List (Str × List Int)
  ds : List DI
  cs : List CI
def DI.D (x : DI) : He.DefD := ⟨x.at_, x.name, x.qual, defArgs x.st, defBody x.st, defScope x.st, [], []⟩
def DI.ok (x : DI) : Bool := C8.scC x.d.N x.d.ps (defScope x.st) && owC (defScope x.st) x.ow && okSs x.d.N (defScope x.st) x.ow x.d.body (defBody x.st)
def noD : MD := ⟨[], [], [], true⟩
def Prog.at (P : Prog) (p : Str × Option Str) : Option DI := P.ds.find? fun x => decide (x.at_ = p)
noncomputable def Prog.fn (P : Prog) (G : Sig) (p : Str × Option Str) : Option Fn := (P.at p).map fun x => runD G x.d
def Prog.fns (P : Prog) : List DI := P.ds.filter fun x => decide (x.at_.2 = none)
noncomputable def Prog.cl (P : Prog) (G : Sig) (c : CI) : Cl :=
  ⟨c.attrs, if c.init then P.fn G (c.name, some "__init__") else none, (c.meths.filterMap fun m => (P.fn G (c.name, some m)).map fun F => (m, F))⟩
/-- what the defs reckon, n calls deep -/
noncomputable def Prog.G (P : Prog) : Nat → Sig
  | 0 => ⟨P.kt, [], P.glbs.map fun p => (p.1, .tup (p.2.map .int)), []⟩
  | n + 1 => ⟨P.kt, P.fns.map fun x => (x.at_.1, runD (P.G n) x.d), P.glbs.map fun p => (p.1, .tup (p.2.map .int)), P.cs.map fun c => (c.name, P.cl (P.G n) c)⟩
/-! ### the facts -/
def Prog.fa (P : Prog) : List He.Fa := P.fns.map (fun x => .glo x.at_.1) ++ (P.glbs.map (fun p => .glo p.1) ++ (bltNames.map (fun x => .free x) ++ P.cs.flatMap fun c =>
  .glo c.name :: .cls c.name :: (c.attrs.map (fun f => .noat c.name f) ++ (c.meths.map (fun m => .meth c.name m) ++ if c.init then [.mkr c.name] else []))))
def Prog.ob (P : Prog) (K : PySem.W.Frag) : He.AlD × Bool := (He.obsD P.fa (P.ds.map DI.D) K, P.glbs.all fun p => He.tupB K p.1 (p.2.map .int))
def Prog.hook (P : Prog) (n : Nat) : PySem.W.Hook where
  α := He.AlD × Bool
  obs := fun s => P.ob (He.frG s.heap.get? (He.asD s.heap.get? n))
  val := fun _ => (He.valD (P.ds.map DI.D), true)
  says := fun _ h => ∃ K : PySem.W.Frag, K.In h ∧ P.ob K = (He.valD (P.ds.map DI.D), true)
  of := fun _ _ e => ⟨_, He.frG_in, e⟩
  keeps := fun _ _ _ ⟨K, hK, c⟩ k => ⟨K, PySem.W.Frag.In.keeps hK k, c⟩
def Prog.obs (P : Prog) (n : Nat) (s : PySem.W.SharedT) : He.AlD × Bool := P.ob (He.frG (HandSHeadRun.getT s) (He.asD (HandSHeadRun.getT s) n))
theorem Prog.obs_eq (P : Prog) (n : Nat) (s : PySem.W.SharedT) : P.obs n s = (P.hook n).obs s.abs := by
  have e : HandSHeadRun.getT s = s.abs.heap.get? := funext (HandSHeadRun.getT_eq s)
  unfold Prog.obs
  rw [e]
  rfl
def BindD (x : DI) : Prop := ∀ (kV doc pm : Value) (an : Option Addr) (cdv ct : Value) (us : List Value), us.length = x.d.ps.length → bindArgs (PySem.W.fnOf x.name x.qual (defArgs x.st) (defBody x.st) (defScope x.st) .none kV doc pm an cdv ct) ⟨us, []⟩ = pure (x.d.ps.zip us)
def BindA : List DI → Prop
  | [] => True
  | x :: xs => BindD x ∧ BindA xs
def AllK : List DI → Prop
  | [] => True
  | x :: xs => x.ok = true ∧ AllK xs
theorem AllK.of : ∀ {xs : List DI}, AllK xs → ∀ x ∈ xs, x.ok = true
  | y :: ys, h, x, hm => by
    rcases List.mem_cons.mp hm with e | e
    · subst e; exact h.1
    · exact AllK.of h.2 x e
theorem BindA.of : ∀ {xs : List DI} {x : DI}, BindA xs → x ∈ xs → BindD x
  | y :: ys, x, h, hm => by
    rcases List.mem_cons.mp hm with e | e
    · subst e; exact h.1
    · exact BindA.of h.2 e
theorem fun_of {K : PySem.W.Frag} {x qual : Str} {st : Stmt} {f : Addr} {fd : FuncData} (F : FunD K x qual (defArgs st) (defBody st) (defScope st) [] [] f fd) : Fun K x qual st f fd := by
  have kp := F.kp
  obtain ⟨oc, od, dV, kV, doc, pm, an, cdv, ct, osl, rfl, lk, hcd, hD, hK⟩ := F.ex
  rcases hD with ⟨_, rfl⟩ | ⟨e, _⟩
  · exact fun_mk lk hcd kp
  · exact absurd rfl e
section
variable {P : Prog} {K : PySem.W.Frag} {h : Heap} {mg : Str → Option Value} {prog : Program} {w : World} {base : Heap}
theorem Prog.fact (c : P.ob K = (He.valD (P.ds.map DI.D), true)) {f : He.Fa} (hm : f ∈ P.fa) : f.ok K = true := by
  have c1 : He.obsD P.fa (P.ds.map DI.D) K = He.valD (P.ds.map DI.D) := congrArg (fun z => z.1) c
  have c2 := (He.ba (show ((P.fa.all fun f => f.ok K) && (P.ds.map DI.D).all fun d => d.ok K) = true from congrArg (fun z : He.AlD => z.1) c1)).1
  exact List.all_eq_true.mp c2 f hm
theorem Prog.def_ (c : P.ob K = (He.valD (P.ds.map DI.D), true)) {x : DI} (hm : x ∈ P.ds) : ∃ fd, Fun K x.name x.qual x.st (He.fAd K x.at_) fd ∧ FunD K x.name x.qual (defArgs x.st) (defBody x.st) (defScope x.st) [] [] (He.fAd K x.at_) fd := by
  have c1 : He.SaysD P.fa (P.ds.map DI.D) K := congrArg (fun z : He.AlD × Bool => z.1) c
  obtain ⟨i, hi⟩ := List.getElem?_of_mem hm
  obtain ⟨fd, F⟩ := c1.def_ i (d := x.D) (by rw [List.getElem?_map, hi]; rfl)
  exact ⟨fd, fun_of F, F⟩
theorem Prog.at_mem {p : Str × Option Str} {x : DI} (e : P.at p = some x) : x ∈ P.ds ∧ x.at_ = p := by
  unfold Prog.at at e
  have h1 := List.find?_some e
  exact ⟨List.mem_of_find?_eq_some e, of_decide_eq_true h1⟩
theorem DI.scope {x : DI} (h : x.ok = true) : FnScope x.d.N x.d.ps (defScope x.st) ∧ owC (defScope x.st) x.ow = true ∧ okSs x.d.N (defScope x.st) x.ow x.d.body (defBody x.st) = true := by
  unfold DI.ok at h
  simp only [Bool.and_eq_true] at h
  exact ⟨C8.fnScope_by h.1.1, h.1.2, h.2⟩
theorem Prog.tab0 (X : K.In h) (Gm : h.Ns mainGlobals mg) (c : P.ob K = (He.valD (P.ds.map DI.D), true)) (hkt : P.glbs = [] ∨ P.kt = true) : (∀ x t, (P.glbs.map fun p => (p.1, T.tup (p.2.map .int))).lookup x = some t → ∃ u v, mg x = some u ∧ RelV v u ∧ ∀ φ ψ H, RT ⟨K, P.kt, He.ga K⟩ φ ψ H t v) ∧ ∀ x ∈ bltNames, mg x = none := by
  refine ⟨fun x t e => ?_, fun x hx => He.free_ok X Gm (P.fact c (List.mem_append_right _ (List.mem_append_right _ (List.mem_append_left _ (List.mem_map.mpr ⟨x, hx, rfl⟩)))))⟩
  have hm := PySem.mem_of_lookup e
  obtain ⟨p, hp, e2⟩ := List.mem_map.mp hm
  cases e2
  have ct : P.glbs.all (fun p => He.tupB K p.1 (p.2.map .int)) = true := congrArg (fun z => z.2) c
  have hq := List.all_eq_true.mp ct p hp
  have hk : P.kt = true := by
    rcases hkt with z | z
    · rw [z] at hp; cases hp
    · exact z
  refine ⟨_, .ref (He.ga K p.1), He.glo_ok X Gm (P.fact c (List.mem_append_right _ (List.mem_append_left _ (List.mem_map.mpr ⟨p, hp, rfl⟩)))), rfl, fun φ ψ H => .tup (.inr ⟨hk, ?_⟩) (RTs.ints' _)⟩
  rcases He.tupB_ok hq (fun _ => none) with q | q
  · rcases q with q | ⟨o, q⟩
    · cases q
    · cases q
  · have e3 : (p.2.map He.Dv.int).map (He.Dv.v K) = p.2.map V.int := by rw [List.map_map]; rfl
    rw [e3] at q
    exact q
theorem lookup_map {α β : Type} {g : α → Str} {f : α → β} {x : Str} {y : β} {l : List α} (e : (l.map fun a => (g a, f a)).lookup x = some y) : ∃ a ∈ l, g a = x ∧ f a = y := by
  obtain ⟨a, ha, e⟩ := List.mem_map.mp (PySem.mem_of_lookup e)
  cases e
  exact ⟨a, ha, rfl, rfl⟩
/-- the table, n deep -/
theorem Prog.tab (X : K.In h) (Gm : h.Ns mainGlobals mg) (c : P.ob K = (He.valD (P.ds.map DI.D), true)) (hkt : P.glbs = [] ∨ P.kt = true) (hok : P.ds.all DI.ok = true) (hb : BindA P.ds) (hse : base.NoSeer) (htr : prog.given.tree = none) :
    ∀ n, Tab (P.G n) ⟨K, P.kt, He.ga K⟩ (2 * n + 31) prog w K mg base := by
  intro n
  induction n with
  | zero => exact ⟨rfl, rfl, Nat.le_refl _, hse, htr, fun f F e => (nomatch e), (P.tab0 X Gm c hkt).1, (P.tab0 X Gm c hkt).2, fun f F e => (nomatch e)⟩
  | succ n t =>
    have ent : ∀ x ∈ P.ds, Ent ⟨K, P.kt, He.ga K⟩ (2 * n + 31 + 2) prog w K mg base (He.fAd K x.at_) (runD (P.G n) x.d) := fun x hx => by
      obtain ⟨fd, F, FD⟩ := P.def_ c hx
      obtain ⟨s1, s2, s3⟩ := DI.scope (List.all_eq_true.mp hok x hx)
      exact ent_mini F s1 s2 (FD.bindsN (hb.of hx)) t s3
    have entp : ∀ p F, P.fn (P.G n) p = some F → Ent ⟨K, P.kt, He.ga K⟩ (2 * n + 31 + 2) prog w K mg base (He.fAd K p) F := fun p F e => by
      obtain ⟨x, hx, e2⟩ := Option.map_eq_some_iff.mp e
      obtain ⟨hm, rfl⟩ := P.at_mem hx
      have e' : runD (P.G n) x.d = F := e2
      rw [← e']
      exact ent x hm
    refine Tab.mono (k := 2 * (n + 1) + 31) (j := 2 * n + 31 + 2) ⟨rfl, rfl, by omega, hse, htr, fun f F e => ?_, (P.tab0 X Gm c hkt).1, (P.tab0 X Gm c hkt).2, fun cn C e => ?_⟩ (by omega)
    · obtain ⟨x, hx, rfl, rfl⟩ := lookup_map e
      have hx' := List.mem_filter.mp hx
      have ea : He.fAd K x.at_ = He.ga K x.at_.1 := by
        unfold He.fAd
        rw [of_decide_eq_true hx'.2]
      have en := ent x hx'.1
      rw [ea] at en
      obtain ⟨fd, F, FD⟩ := P.def_ c hx'.1
      have kp := F.kp
      rw [ea] at kp
      exact ⟨He.ga K x.at_.1, He.glo_ok X Gm (P.fact c (List.mem_append_left _ (List.mem_map.mpr ⟨x, hx, rfl⟩))), kp, en⟩
    · obtain ⟨ci, hc, rfl, rfl⟩ := lookup_map e
      have mem : ∀ f : He.Fa, f ∈ (He.Fa.glo ci.name :: .cls ci.name :: (ci.attrs.map (fun f => .noat ci.name f) ++ (ci.meths.map (fun m => .meth ci.name m) ++ if ci.init then [.mkr ci.name] else []))) → f.ok K = true := fun f hf =>
        P.fact c (List.mem_append_right _ (List.mem_append_right _ (List.mem_append_right _ (List.mem_flatMap.mpr ⟨ci, hc, hf⟩))))
      refine ⟨He.cls_ok (mem _ (by simp)), He.glo_ok X Gm (mem _ (by simp)), fun f hf => He.noat_ok (mem _ ?_), fun m F e2 => ?_, fun F e2 => ?_⟩
      · refine List.mem_cons_of_mem _ (List.mem_cons_of_mem _ (List.mem_append_left _ (List.mem_map.mpr ⟨f, hf, rfl⟩)))
      · obtain ⟨m', hm', e3⟩ := List.mem_filterMap.mp (PySem.mem_of_lookup e2)
        obtain ⟨F', eF, e4⟩ := Option.map_eq_some_iff.mp e3
        cases e4
        exact ⟨_, He.meth_ok (mem _ (List.mem_cons_of_mem _ (List.mem_cons_of_mem _ (List.mem_append_right _ (List.mem_append_left _ (List.mem_map.mpr ⟨_, hm', rfl⟩)))))), entp _ _ eF⟩
      · have e3 : (if ci.init = true then P.fn (P.G n) (ci.name, some "__init__") else none) = some F := e2
        split at e3
        · rename_i hi
          refine ⟨_, He.mkr_ok (mem _ (List.mem_cons_of_mem _ (List.mem_cons_of_mem _ (List.mem_append_right _ (List.mem_append_right _ ?_))))), entp _ _ e3⟩
          rw [if_pos hi]
          exact List.mem_singleton.mpr rfl
        · cases e3
end
/-- the head: the law's promise over a base that bears what the state behind the top bears -/
theorem call_mini {P : Program} {w : World} {K : PySem.W.Frag} {mg mb : Str → Option Value} {k : Nat} {fa a : Addr} {fd : FuncData} {x : Str} {sp : Sp} {s1 : Shared} {vs : List Value} {ns : List Int} (KX : K.In s1.heap) (gm : s1.heap.Ns mainGlobals mg) (gb : s1.heap.Ns builtinsNs mb) (hbb : ∀ y : Str, y ≠ "__name__" → mb y = bootBuiltins y)
    (lim : s1.heap.NoLimit) (see : s1.heap.NoSeer) (hg : s1.gens = #[]) (ha : s1.heap.get? a = some { cls := .type "list", data := .seq vs.toArray }) (hi : IntsAre vs ns) (hl : ns.length ≤ sizeLine) (hr : Room k callerA)
    (F : ∀ base : Heap, K.In base → base.Ns mainGlobals mg → base.NoSeer → FnOk P w K mg base CX0 k fa fd [x] sp) (hbind : ∀ (s : Shared) (u : Value), BindsTo s fd ⟨[u], []⟩ [(x, u)]) (hsp : ∀ H : Hp, SqL K H a (ns.map V.int) → sp [.ref a] H (fun v _ => v = .bl true) fun _ _ _ => False) :
    codeAny (model P w) callerA (.call (.ref fa) ⟨[.ref a], []⟩) (fun r s' => r = .ok (.ret (.bool true)) ∧ OldK s1.heap s'.heap ∧ s'.os = s1.os ∧ AllBare s'.gens) s1 := by
  have rv := vals_ints hi
  have lv := hi.length
  have main : ∀ H : Hp, (∀ b, H b = none ∨ ∃ o xs, H b = some (.frz o (.lst xs))) → SqL K H a (ns.map V.int) → HOk P w H s1.heap → (∀ b, H b ≠ none → b = a) → (H a ≠ none → K.lookup a = none) →
      codeAny (model P w) callerA (.call (.ref fa) ⟨[.ref a], []⟩) (fun r s' => r = .ok (.ret (.bool true)) ∧ OldK s1.heap s'.heap ∧ s'.os = s1.os ∧ AllBare s'.gens) s1 := fun H only hS hok hA hK => by
    have here : ∀ {b : Addr} {o : Obj}, s1.heap.get? b = some o → (∀ us n, o.data ≠ .seq us n) → (hidT s1.heap H).get? b = some o := fun {b o} e nd => by
      refine hidT_get e ?_
      cases q : H b with
      | none => rfl
      | some u =>
        have e' := hA b (by rw [q]; exact fun z => nomatch z)
        rw [e', ha] at e
        cases e
        exact absurd rfl (nd _ _)
    have ns' : ∀ {b : Addr} {m : Str → Option Value}, s1.heap.Ns b m → (hidT s1.heap H).Ns b m := fun {b m} ⟨o, es, ep, e, d, r⟩ => ⟨o, es, ep, here e (fun us n z => by rw [d] at z; cases z), d, r⟩
    have kb : K.In (hidT s1.heap H) := fun b o e => hidT_get (KX b o e) (by
      cases q : H b with
      | none => rfl
      | some u =>
        have e' := hA b (by rw [q]; exact fun z => nomatch z)
        rw [e'] at e q
        rw [hK (by rw [q]; exact fun z => nomatch z)] at e
        cases e)
    have sb : (hidT s1.heap H).NoSeer := by
      obtain ⟨mc, c1, c2⟩ := see.statics
      obtain ⟨mm, m1, m2⟩ := see.mods
      obtain ⟨mi, i1, i2⟩ := see.imp
      obtain ⟨mgg, bm, ob, n1, n2, n3, n4, n5⟩ := see.main
      refine ⟨⟨mc, ns' c1, c2⟩, ⟨mm, ns' m1, m2⟩, ⟨mi, ns' i1, i2⟩, mgg, bm, ob, ns' n1, n2, hidT_get n3 ?_, n4, n5⟩
      cases q : H bm with
      | none => rfl
      | some u =>
        have e' := hA bm (by rw [q]; exact fun z => nomatch z)
        rw [e', ha] at n3
        cases n3
        exact absurd (Value.type.inj n4) (by decide)
    have md : L2.Mod K mg (hidT s1.heap H) := ⟨kb, ns' gm, ⟨mb, ns' gb, hbb⟩, let ⟨mc, h1, h2⟩ := lim; ⟨mc, ns' h1, h2⟩⟩
    have e0 : Env0 P w K mg (hidT s1.heap H) callerA [] s1 H := ⟨rfl, md, fun b o e => of_hidT e, Nat.le_of_eq (hidT_size _ _), trivial, fun b hb => (nomatch hb), hok, .of_eq hg⟩
    refine codeAny_mono ((F _ kb (ns' gm) sb).run callerA [] s1 H ⟨[.ref a], []⟩ [.ref a] [.ref a] _ _ hr e0 (hbind s1 (.ref a)) (.cons rfl .nil) (hsp H hS)) fun r s' h => ?_
    match r, h with
    | .error e, h => exact False.elim h
    | .ok .next, h => exact False.elim h
    | .ok .brk, h => exact False.elim h
    | .ok .cont, h => exact False.elim h
    | .ok (.ret u), h =>
      obtain ⟨v, H', os, bare, un, hok', r', q⟩ := h
      have q' : v = .bl true := q
      subst q'
      obtain rfl : u = Value.bool true := r'
      refine ⟨rfl, OldK.of_keep fun b o e => ?_, os, bare⟩
      rcases only b with q | ⟨ob, xs, z⟩
      · exact un.keep b o e q (fun z => (nomatch z)) (fun z => (nomatch z))
      · obtain ⟨z1, _⟩ := hok b _ z
        obtain ⟨z2, _⟩ := hok' b _ (un.frzs b ob _ z)
        rw [e] at z1
        cases z1
        exact z2
  by_cases hk : ∃ o, K.lookup a = some o
  · obtain ⟨o, hk⟩ := hk
    have e := KX a o hk
    rw [ha] at e
    cases e
    exact main (fun _ => none) (fun _ => .inl rfl) (.inr ⟨_, vs.toArray, _, hk, rfl, rfl, rfl, by rw [List.size_toArray, lv]; exact hl, by simpa using rv⟩) (fun b u z => (nomatch z)) (fun b z => absurd rfl z) fun z => absurd rfl z
  · have hk' : K.lookup a = none := by
      cases q : K.lookup a with
      | none => rfl
      | some o => exact absurd ⟨o, q⟩ hk
    refine main (upd (fun _ => none) a (.frz { cls := .type "list", data := .seq vs.toArray } (.lst (ns.map V.int)))) (fun b => ?_) (.inl (.inr ⟨_, upd_same⟩)) (fun b u z => ?_) (fun b z => ?_) fun _ => hk'
    · by_cases hb : b = a
      · subst hb; exact .inr ⟨_, _, upd_same⟩
      · exact .inl (upd_ne hb)
    · by_cases hb : b = a
      · subst hb
        rw [upd_same] at z
        cases z
        exact ⟨ha, by rw [List.length_map]; exact hl, vs, _, rv, ha⟩
      · rw [upd_ne hb] at z; cases z
    · by_cases hb : b = a
      · exact hb
      · exact absurd (upd_ne hb) z
theorem walk_mini {l : PySem.W.OpenLaw} {n k : Nat} {q : Program} {loose : List Str} {XP : (Str → Option Value) → Heap → Prop} {YP : World → Heap → Prop} {d : DefRec} {x : Str}
    (hn : l.most = some n) (hn2 : n ≤ sizeLine) (hdf : d.params.defaults = []) (hr : Room k callerA) (him : PyProof.Rows.importsNone q = true)
    (F : ∀ (w : World) (mg : Str → Option Value) (fa : Addr) (h : Heap), YP w h → h.Ns mainGlobals mg → mg d.name = some (.ref fa) →
      ∃ (K : PySem.W.Frag) (fd : FuncData) (sp : Sp), K.In h ∧ (∀ (s : Shared) (u : Value), BindsTo s fd ⟨[u], []⟩ [(x, u)]) ∧
        (∀ (H : Hp) (a : Addr) (ns : List Int), ns.length ≤ n → (∀ z ∈ ns, Builtin.Int.intBits z ≤ 1048576) → SqL K H a (ns.map V.int) → sp [.ref a] H (fun v _ => v = .bl true) fun _ _ _ => False) ∧
        ∀ base : Heap, K.In base → base.Ns mainGlobals mg → base.NoSeer → FnOk l.prog w K mg base CX0 k fa fd [x] sp) :
    PySem.W.WalkO q loose XP YP l.row.toRowW d [] (fun f vs => PySem.call f vs) := by
  refine Att.attach_callB hn hdf fun w s₀ s₁ mg mb fa o pm cd doc a vs ns G Y ho hd hcd hmg hobj hints hlen hbits hg => ?_
  obtain ⟨K, fd, sp, KX, hb, hsp, hF⟩ := F w mg fa _ Y G.T.g hmg
  exact call_mini KX G.T.g G.T.b G.T.builtins G.T.nolimit (G.T.seer him) hg hobj hints (Nat.le_trans hlen hn2) hr hF hb fun H hS => hsp H a ns hlen hbits hS
/-- the law's own goal -/
def Prog.Goal (P : Prog) (n : Nat) (dl : MD) : Prop := ∀ ns : List Int, ns.length ≤ 63 → (∀ z ∈ ns, Builtin.Int.intBits z ≤ 1048576) → ∃ M, runD (P.G n) dl [.sc ns] [] = some (.bl true, M)
/-- the end -/
theorem mini_walk {l : PySem.W.OpenLaw} {q : Program} {loose : List Str} {d : DefRec} {P : Prog} {m n : Nat} {x : Str} {xl : DI} {XP : (Str → Option Value) → Heap → Prop} (hn : l.most = some 63) (hdf : d.params.defaults = []) (hd : d.name = ("law" : Str)) (hkt : P.glbs = [] ∨ P.kt = true) (hok : P.ds.all DI.ok = true) (hb : BindA P.ds)
    (hxl : P.at ("law", none) = some xl) (hps : xl.d.ps = [x]) (hroom : n ≤ 40) (him : PyProof.Rows.importsNone q = true) (htr : l.prog.given.tree = none) (goal : P.Goal n xl.d) : PySem.W.WalkO q loose XP (P.hook m).says l.row.toRowW d [] (fun f vs => PySem.call f vs) := by
  refine walk_mini (l := l) (n := 63) (k := 2 * n + 31 + 2) (x := x) hn (by rw [szl]; decide) hdf ⟨rfl, ?_, ?_⟩ him fun w mg fa h Y Gm hmg => ?_
  · have : callerA.depth + 3 * 113 + 5 < recursionLimit := by decide
    omega
  · have : callerA.units + 16 * 113 + 200 < cLine := by decide
    omega
  · obtain ⟨K, KX, c⟩ := Y
    rw [hd] at hmg
    obtain ⟨hm, ha⟩ := P.at_mem hxl
    obtain ⟨fd, F, FD⟩ := P.def_ c hm
    have efa : fa = He.fAd K xl.at_ := by
      have hmem : xl ∈ P.fns := List.mem_filter.mpr ⟨hm, by rw [ha]; rfl⟩
      have g := He.glo_ok KX Gm (P.fact c (List.mem_append_left _ (List.mem_map.mpr ⟨xl, hmem, rfl⟩)))
      have e1 : xl.at_.1 = ("law" : Str) := by rw [ha]
      rw [e1, hmg] at g
      cases g
      unfold He.fAd
      rw [ha]
    subst efa
    obtain ⟨s1, s2, s3⟩ := DI.scope (List.all_eq_true.mp hok xl hm)
    refine ⟨K, fd, spM ⟨K, P.kt, He.ga K⟩ xl.d.ps.length (runD (P.G n) xl.d), KX, fun s u => ?_, fun H a ns h1 h2 hS => ?_, fun base hB hG hse => ?_⟩
    · have := FD.bindsA (hb.of hm) s [u] (by rw [hps]; rfl)
      rw [hps] at this
      exact this
    · obtain ⟨M', e⟩ := goal ns h1 h2
      refine ⟨by rw [hps]; rfl, [], [], [], [.sc ns], .bl true, M', ⟨rfl, List.nodup_nil, fun a h => (nomatch h), fun a h => (nomatch h), fun i a o e => by simp at e⟩, .cons (.sc ?_) .nil, e, fun φ' H' v _ _ r => ?_⟩
      · rcases hS with q | q
        · exact .inl ⟨⟨by simp, by simp⟩, q⟩
        · exact .inr q
      · cases r; rfl
    · have t := P.tab KX Gm c hkt hok hb hse htr (prog := l.prog) (w := w) n
      rw [← hps]
      exact fn_mini F s1 s2 t s3
end Mi
end L2

/-! The defs of the laws as terms (printed by lib.py). -/
namespace L2
namespace Mi
namespace Lib
open PySem PySem.Spec PyProof.Rows
def common_divisor : MD := ⟨["a", "b"], ["a", "b"], [
  .par [(0, "a"), (1, "b")] (.cons (.bi .abs (.cons (.var 0 "a") .nil)) (.cons (.bi .abs (.cons (.var 1 "b") .nil)) .nil)),
  .whl (.var 1 "b") [
    .par [(0, "a"), (1, "b")] (.cons (.var 1 "b") (.cons (.bin .Mod false (.var 0 "a") (.var 1 "b")) .nil))],
  .ret (.var 0 "a")], true⟩
def divisor_of : MD := ⟨["integers"], ["integers", "found", "integer"], [
  .set 1 "found" (.int 0),
  .for (.nm 2 "integer") (.over (.var 0 "integers")) [
    .ite (.var 2 "integer") [
      .set 1 "found" (.call "common_divisor" (.cons (.var 1 "found") (.cons (.var 2 "integer") .nil))),
      .ite (.cmp .Eq (.var 1 "found") (.int 1)) [
        .brk] []] []],
  .ret (.var 1 "found")], true⟩
def number : MD := ⟨["n", "d"], ["n", "d", "divisor"], [
  .ite (.cmp .Lt (.var 1 "d") (.int 0)) [
    .par [(0, "n"), (1, "d")] (.cons (.neg (.var 0 "n")) (.cons (.neg (.var 1 "d")) .nil))] [],
  .set 2 "divisor" (.call "common_divisor" (.cons (.var 0 "n") (.cons (.var 1 "d") .nil))),
  .ret (.tup (.cons (.bin .FloorDiv false (.var 0 "n") (.var 2 "divisor")) (.cons (.bin .FloorDiv false (.var 1 "d") (.var 2 "divisor")) .nil)))], true⟩
def plus : MD := ⟨["a", "b"], ["a", "b"], [
  .ret (.call "number" (.cons (.bin .Add false (.bin .Mult false (.ix (.var 0 "a") (.int 0)) (.ix (.var 1 "b") (.int 1))) (.bin .Mult false (.ix (.var 1 "b") (.int 0)) (.ix (.var 0 "a") (.int 1)))) (.cons (.bin .Mult false (.ix (.var 0 "a") (.int 1)) (.ix (.var 1 "b") (.int 1))) .nil)))], true⟩
def minus : MD := ⟨["a", "b"], ["a", "b"], [
  .ret (.call "number" (.cons (.bin .Sub false (.bin .Mult false (.ix (.var 0 "a") (.int 0)) (.ix (.var 1 "b") (.int 1))) (.bin .Mult false (.ix (.var 1 "b") (.int 0)) (.ix (.var 0 "a") (.int 1)))) (.cons (.bin .Mult false (.ix (.var 0 "a") (.int 1)) (.ix (.var 1 "b") (.int 1))) .nil)))], true⟩
def times : MD := ⟨["a", "b"], ["a", "b"], [
  .ret (.call "number" (.cons (.bin .Mult false (.ix (.var 0 "a") (.int 0)) (.ix (.var 1 "b") (.int 0))) (.cons (.bin .Mult false (.ix (.var 0 "a") (.int 1)) (.ix (.var 1 "b") (.int 1))) .nil)))], true⟩
def over : MD := ⟨["a", "b"], ["a", "b"], [
  .ret (.call "number" (.cons (.bin .Mult false (.ix (.var 0 "a") (.int 0)) (.ix (.var 1 "b") (.int 1))) (.cons (.bin .Mult false (.ix (.var 0 "a") (.int 1)) (.ix (.var 1 "b") (.int 0))) .nil)))], true⟩
def less : MD := ⟨["a", "b"], ["a", "b"], [
  .ret (.cmp .Lt (.bin .Mult false (.ix (.var 0 "a") (.int 0)) (.ix (.var 1 "b") (.int 1))) (.bin .Mult false (.ix (.var 1 "b") (.int 0)) (.ix (.var 0 "a") (.int 1))))], true⟩
def sign : MD := ⟨["a"], ["a"], [
  .ret (.bin .Sub false (.bi .int (.cons (.cmp .Gt (.ix (.var 0 "a") (.int 0)) (.int 0)) .nil)) (.bi .int (.cons (.cmp .Lt (.ix (.var 0 "a") (.int 0)) (.int 0)) .nil)))], true⟩
def lowest : MD := ⟨["integers"], ["integers", "divisor", "integer"], [
  .set 1 "divisor" (.call "divisor_of" (.cons (.var 0 "integers") .nil)),
  .ite (.cmp .Lt (.var 1 "divisor") (.int 2)) [
    .ret (.bi (.list false) (.cons (.var 0 "integers") .nil))] [],
  .ret (.lc false [("integer", 2)] (.nm 2 "integer") (.over (.var 0 "integers")) .nil (.bin .FloorDiv false (.var 2 "integer") (.var 1 "divisor")))], true⟩
def brought : MD := ⟨["numbers"], ["numbers", "common", "part"], [
  .set 1 "common" (.int 1),
  .for (.nm 2 "part") (.over (.var 0 "numbers")) [
    .set 1 "common" (.bin .Mult false (.bin .FloorDiv false (.var 1 "common") (.call "common_divisor" (.cons (.var 1 "common") (.cons (.ix (.var 2 "part") (.int 1)) .nil)))) (.ix (.var 2 "part") (.int 1)))],
  .ret (.call "lowest" (.cons (.lc false [("part", 2)] (.nm 2 "part") (.over (.var 0 "numbers")) .nil (.bin .Mult false (.ix (.var 2 "part") (.int 0)) (.bin .FloorDiv false (.var 1 "common") (.ix (.var 2 "part") (.int 1))))) .nil))], true⟩
def _law_cell : MD := ⟨["_law_script", "_law_k"], ["_law_script", "_law_k"], [
  .ite (.cmp .Lt (.var 1 "_law_k") (.bi .len (.cons (.var 0 "_law_script") .nil))) [
    .ret (.ix (.var 0 "_law_script") (.var 1 "_law_k"))] [],
  .ret (.int 0)], true⟩
def _law_parts : MD := ⟨["_law_cell_here", "_law_sizes"], ["_law_cell_here", "_law_sizes", "_law_parts_here", "_law_left", "_law_k", "_law_mixed"], [
  .set 2 "_law_parts_here" (.lst true .nil),
  .set 3 "_law_left" (.bin .Sub false (.var 0 "_law_cell_here") (.bin .Pow false (.int 10) (.int 18))),
  .for (.nm 4 "_law_k") (.rng1 (.bi .len (.cons (.var 1 "_law_sizes") .nil))) [
    .ite (.cmp .GtE (.var 3 "_law_left") (.int 0)) [
      .ex (.bm .append (.var 2 "_law_parts_here") (.cons (.bin .Mod false (.bi .int (.cons (.var 3 "_law_left") .nil)) (.ix (.var 1 "_law_sizes") (.var 4 "_law_k"))) .nil)),
      .set 3 "_law_left" (.bin .FloorDiv false (.var 3 "_law_left") (.ix (.var 1 "_law_sizes") (.var 4 "_law_k")))] [
      .set 5 "_law_mixed" (.bin .Mod false (.bi .int (.cons (.bin .Add false (.bin .Add false (.bin .Mult false (.var 0 "_law_cell_here") (.int 48271)) (.bin .Mult false (.var 4 "_law_k") (.int 69621))) (.int 11)) .nil)) (.int 2147483647)),
      .set 5 "_law_mixed" (.bin .Mod false (.bi .int (.cons (.bin .Add false (.bin .Add false (.bin .Mult false (.var 5 "_law_mixed") (.var 5 "_law_mixed")) (.bin .Mult false (.int 16807) (.var 4 "_law_k"))) (.int 5)) .nil)) (.int 998244353)),
      .ex (.bm .append (.var 2 "_law_parts_here") (.cons (.bin .Mod false (.bi .int (.cons (.bin .FloorDiv false (.var 5 "_law_mixed") (.int 7)) .nil)) (.ix (.var 1 "_law_sizes") (.var 4 "_law_k"))) .nil))]],
  .ret (.var 2 "_law_parts_here")], true⟩
def _law_is_integer : MD := ⟨["_law_actual"], ["_law_actual"], [
  .ret (.and (.isi (.var 0 "_law_actual") "int") (.one (.not (.isi (.var 0 "_law_actual") "bool"))))], true⟩
def _law_divisor : MD := ⟨["_law_a", "_law_b"], ["_law_a", "_law_b", "_law_k"], [
  .set 0 "_law_a" (.bi .abs (.cons (.var 0 "_law_a") .nil)),
  .set 1 "_law_b" (.bi .abs (.cons (.var 1 "_law_b") .nil)),
  .for (.nm 2 "_law_k") (.rng1 (.int 4000)) [
    .ite (.cmp .Eq (.var 1 "_law_b") (.int 0)) [
      .ret (.var 0 "_law_a")] [],
    .par [(0, "_law_a"), (1, "_law_b")] (.cons (.var 1 "_law_b") (.cons (.bin .Mod false (.bi .int (.cons (.var 0 "_law_a") .nil)) (.var 1 "_law_b")) .nil))],
  .ret (.var 0 "_law_a")], true⟩
def _law_number : MD := ⟨["_law_n", "_law_d"], ["_law_n", "_law_d", "_law_divisor_here"], [
  .set 2 "_law_divisor_here" (.call "_law_divisor" (.cons (.var 0 "_law_n") (.cons (.var 1 "_law_d") .nil))),
  .ite (.cmp .Lt (.var 1 "_law_d") (.int 0)) [
    .set 2 "_law_divisor_here" (.neg (.var 2 "_law_divisor_here"))] [],
  .ret (.tup (.cons (.bin .FloorDiv false (.var 0 "_law_n") (.var 2 "_law_divisor_here")) (.cons (.bin .FloorDiv false (.var 1 "_law_d") (.var 2 "_law_divisor_here")) .nil)))], true⟩
def _law_plus : MD := ⟨["_law_a", "_law_b"], ["_law_a", "_law_b"], [
  .ret (.call "_law_number" (.cons (.bin .Add false (.bin .Mult false (.ix (.var 0 "_law_a") (.int 0)) (.ix (.var 1 "_law_b") (.int 1))) (.bin .Mult false (.ix (.var 1 "_law_b") (.int 0)) (.ix (.var 0 "_law_a") (.int 1)))) (.cons (.bin .Mult false (.ix (.var 0 "_law_a") (.int 1)) (.ix (.var 1 "_law_b") (.int 1))) .nil)))], true⟩
def _law_times : MD := ⟨["_law_a", "_law_b"], ["_law_a", "_law_b"], [
  .ret (.call "_law_number" (.cons (.bin .Mult false (.ix (.var 0 "_law_a") (.int 0)) (.ix (.var 1 "_law_b") (.int 0))) (.cons (.bin .Mult false (.ix (.var 0 "_law_a") (.int 1)) (.ix (.var 1 "_law_b") (.int 1))) .nil)))], true⟩
def _law_less : MD := ⟨["_law_a", "_law_b"], ["_law_a", "_law_b"], [
  .ret (.cmp .Lt (.bin .Mult false (.ix (.var 0 "_law_a") (.int 0)) (.ix (.var 1 "_law_b") (.int 1))) (.bin .Mult false (.ix (.var 1 "_law_b") (.int 0)) (.ix (.var 0 "_law_a") (.int 1))))], true⟩
def _law_total : MD := ⟨["_law_numbers"], ["_law_numbers", "_law_found", "_law_part"], [
  .set 1 "_law_found" (.tup (.cons (.int 0) (.cons (.int 1) .nil))),
  .for (.nm 2 "_law_part") (.over (.var 0 "_law_numbers")) [
    .set 1 "_law_found" (.call "_law_plus" (.cons (.var 1 "_law_found") (.cons (.var 2 "_law_part") .nil)))],
  .ret (.var 1 "_law_found")], true⟩
def _law_is_same : MD := ⟨["_law_actual", "_law_due"], ["_law_actual", "_law_due"], [
  .ite (.or (.not (.isi (.var 0 "_law_actual") "tuple")) (.one (.cmp .NotEq (.bi .len (.cons (.var 0 "_law_actual") .nil)) (.int 2)))) [
    .ret (.bl false)] [],
  .ret (.and (.call "_law_is_integer" (.cons (.ix (.var 0 "_law_actual") (.int 0)) .nil)) (.and (.call "_law_is_integer" (.cons (.ix (.var 0 "_law_actual") (.int 1)) .nil)) (.one (.cmp .Eq (.var 0 "_law_actual") (.var 1 "_law_due")))))], true⟩
def Table___init__ : MD := ⟨["self", "rows", "sides"], ["self", "rows", "sides", "at", "row", "further", "side", "other", "entry"], [
  .setA "Table" (.var 0 "self") "width" (.bi .len (.cons (.ix (.var 1 "rows") (.int 0)) .nil)),
  .setA "Table" (.var 0 "self") "signs" (.lc false [("side", 6)] (.nm 6 "side") (.over (.var 2 "sides")) .nil (.ife (.cmp .Lt (.var 6 "side") (.int 0)) (.neg (.int 1)) (.int 1))),
  .setA "Table" (.var 0 "self") "rows" (.lst true .nil),
  .for (.tp (.cons (.nm 3 "at") (.cons (.nm 4 "row") .nil))) (.enum (.var 1 "rows")) [
    .set 5 "further" (.lc false [("other", 7)] (.nm 7 "other") (.rng1 (.bi .len (.cons (.var 1 "rows") .nil))) .nil (.bi .int (.cons (.cmp .Eq (.var 3 "at") (.var 7 "other")) .nil))),
    .ex (.bm .append (.att "Table" (.var 0 "self") "rows") (.cons (.bin .Add false (.bin .Add false (.lc false [("entry", 8)] (.nm 8 "entry") (.over (.var 4 "row")) .nil (.bin .Mult false (.ix (.att "Table" (.var 0 "self") "signs") (.var 3 "at")) (.var 8 "entry"))) (.var 5 "further")) (.lst false (.cons (.bi .abs (.cons (.ix (.var 2 "sides") (.var 3 "at")) .nil)) .nil))) .nil))],
  .setA "Table" (.var 0 "self") "basis" (.lc true [("at", 3)] (.nm 3 "at") (.rng1 (.bi .len (.cons (.var 1 "rows") .nil))) .nil (.bin .Add false (.att "Table" (.var 0 "self") "width") (.var 3 "at"))),
  .setA "Table" (.var 0 "self") "scale" (.int 1),
  .setA "Table" (.var 0 "self") "top" (.lst false .nil)], true⟩
def Table_set_gains : MD := ⟨["self", "gains"], ["self", "gains", "top", "row", "column", "gain", "a", "b"], [
  .set 2 "top" (.bin .Add false (.lc false [("gain", 5)] (.nm 5 "gain") (.over (.var 1 "gains")) .nil (.bin .Mult false (.neg (.att "Table" (.var 0 "self") "scale")) (.var 5 "gain"))) (.lst false (.cons (.int 0) .nil))),
  .for (.tp (.cons (.nm 3 "row") (.cons (.nm 4 "column") .nil))) (.zip2 (.att "Table" (.var 0 "self") "rows") (.att "Table" (.var 0 "self") "basis")) [
    .set 5 "gain" (.ix (.var 1 "gains") (.var 4 "column")),
    .ite (.var 5 "gain") [
      .set 2 "top" (.lc false [("a", 6), ("b", 7)] (.tp (.cons (.nm 6 "a") (.cons (.nm 7 "b") .nil))) (.zip2 (.var 2 "top") (.var 3 "row")) .nil (.bin .Add false (.var 6 "a") (.bin .Mult false (.var 5 "gain") (.var 7 "b"))))] []],
  .setA "Table" (.var 0 "self") "top" (.var 2 "top")], true⟩
def Table_pivot : MD := ⟨["self", "at", "column"], ["self", "at", "column", "step", "other", "entry"], [
  .ite (.cmp .Lt (.ix (.ix (.att "Table" (.var 0 "self") "rows") (.var 1 "at")) (.var 2 "column")) (.int 0)) [
    .setI (.att "Table" (.var 0 "self") "rows") (.var 1 "at") (.lc false [("entry", 5)] (.nm 5 "entry") (.over (.ix (.att "Table" (.var 0 "self") "rows") (.var 1 "at"))) .nil (.neg (.var 5 "entry")))] [],
  .set 3 "step" (.ix (.att "Table" (.var 0 "self") "rows") (.var 1 "at")),
  .for (.nm 4 "other") (.rng1 (.bi .len (.cons (.att "Table" (.var 0 "self") "rows") .nil))) [
    .ite (.cmp .NotEq (.var 4 "other") (.var 1 "at")) [
      .setI (.att "Table" (.var 0 "self") "rows") (.var 4 "other") (.mcall "Table" (.var 0 "self") "_changed" (.cons (.ix (.att "Table" (.var 0 "self") "rows") (.var 4 "other")) (.cons (.var 3 "step") (.cons (.var 2 "column") .nil))))] []],
  .setA "Table" (.var 0 "self") "top" (.mcall "Table" (.var 0 "self") "_changed" (.cons (.att "Table" (.var 0 "self") "top") (.cons (.var 3 "step") (.cons (.var 2 "column") .nil)))),
  .setA "Table" (.var 0 "self") "scale" (.ix (.var 3 "step") (.var 2 "column")),
  .setI (.att "Table" (.var 0 "self") "basis") (.var 1 "at") (.var 2 "column")], true⟩
def Table__changed : MD := ⟨["self", "row", "step", "column"], ["self", "row", "step", "column", "a", "b", "scale", "x", "y"], [
  .asg (.tp (.cons (.nm 4 "a") (.cons (.nm 5 "b") (.cons (.nm 6 "scale") .nil)))) (.tup (.cons (.ix (.var 2 "step") (.var 3 "column")) (.cons (.ix (.var 1 "row") (.var 3 "column")) (.cons (.att "Table" (.var 0 "self") "scale") .nil)))),
  .ite (.cmp .Eq (.var 5 "b") (.int 0)) [
    .ret (.ife (.cmp .Eq (.var 4 "a") (.var 6 "scale")) (.var 1 "row") (.lc false [("x", 7)] (.nm 7 "x") (.over (.var 1 "row")) .nil (.bin .FloorDiv false (.bin .Mult false (.var 4 "a") (.var 7 "x")) (.var 6 "scale"))))] [],
  .ret (.lc false [("x", 7), ("y", 8)] (.tp (.cons (.nm 7 "x") (.cons (.nm 8 "y") .nil))) (.zip2 (.var 1 "row") (.var 2 "step")) .nil (.bin .FloorDiv false (.bin .Sub false (.bin .Mult false (.var 4 "a") (.var 7 "x")) (.bin .Mult false (.var 5 "b") (.var 8 "y"))) (.var 6 "scale")))], true⟩
def Table_leaving : MD := ⟨["self", "column"], ["self", "column", "best", "at", "row", "here", "there"], [
  .set 2 "best" .non,
  .for (.tp (.cons (.nm 3 "at") (.cons (.nm 4 "row") .nil))) (.enum (.att "Table" (.var 0 "self") "rows")) [
    .ite (.cmp .Gt (.ix (.var 4 "row") (.var 1 "column")) (.int 0)) [
      .ite (.cmp .Is (.var 2 "best") .non) [
        .set 2 "best" (.var 3 "at"),
        .cnt] [],
      .set 5 "here" (.bin .Mult false (.ix (.var 4 "row") (.neg (.int 1))) (.ix (.ix (.att "Table" (.var 0 "self") "rows") (.var 2 "best")) (.var 1 "column"))),
      .set 6 "there" (.bin .Mult false (.ix (.ix (.att "Table" (.var 0 "self") "rows") (.var 2 "best")) (.neg (.int 1))) (.ix (.var 4 "row") (.var 1 "column"))),
      .ite (.or (.cmp .Lt (.var 5 "here") (.var 6 "there")) (.one (.and (.cmp .Eq (.var 5 "here") (.var 6 "there")) (.one (.cmp .Lt (.ix (.att "Table" (.var 0 "self") "basis") (.var 3 "at")) (.ix (.att "Table" (.var 0 "self") "basis") (.var 2 "best"))))))) [
        .set 2 "best" (.var 3 "at")] []] []],
  .ret (.var 2 "best")], true⟩
def Table_climb : MD := ⟨["self"], ["self", "column", "at"], [
  .whl (.bl true) [
    .set 1 "column" (.mcall "Table" (.var 0 "self") "_rising" .nil),
    .ite (.cmp .Is (.var 1 "column") .non) [
      .ret .non] [],
    .set 2 "at" (.mcall "Table" (.var 0 "self") "leaving" (.cons (.var 1 "column") .nil)),
    .ite (.cmp .Is (.var 2 "at") .non) [
      .ret (.var 1 "column")] [],
    .ex (.mcall "Table" (.var 0 "self") "pivot" (.cons (.var 2 "at") (.cons (.var 1 "column") .nil)))]], true⟩
def Table__rising : MD := ⟨["self"], ["self", "column"], [
  .for (.nm 1 "column") (.rng1 (.att "Table" (.var 0 "self") "width")) [
    .ite (.cmp .Lt (.ix (.att "Table" (.var 0 "self") "top") (.var 1 "column")) (.int 0)) [
      .ret (.var 1 "column")] []],
  .ret .non], true⟩
def Table_settle : MD := ⟨["self"], ["self", "at", "column"], [
  .for (.nm 1 "at") (.rng1 (.bi .len (.cons (.att "Table" (.var 0 "self") "rows") .nil))) [
    .ite (.cmp .GtE (.ix (.att "Table" (.var 0 "self") "basis") (.var 1 "at")) (.att "Table" (.var 0 "self") "width")) [
      .for (.nm 2 "column") (.rng1 (.att "Table" (.var 0 "self") "width")) [
        .ite (.ix (.ix (.att "Table" (.var 0 "self") "rows") (.var 1 "at")) (.var 2 "column")) [
          .ex (.mcall "Table" (.var 0 "self") "pivot" (.cons (.var 1 "at") (.cons (.var 2 "column") .nil))),
          .brk] []]] []]], true⟩
def Table_tuple_here : MD := ⟨["self"], ["self", "found", "row", "column"], [
  .set 1 "found" (.bin .Mult true (.lst false (.cons (.glb "NOUGHT") .nil)) (.att "Table" (.var 0 "self") "width")),
  .for (.tp (.cons (.nm 2 "row") (.cons (.nm 3 "column") .nil))) (.zip2 (.att "Table" (.var 0 "self") "rows") (.att "Table" (.var 0 "self") "basis")) [
    .ite (.cmp .Lt (.var 3 "column") (.att "Table" (.var 0 "self") "width")) [
      .setI (.var 1 "found") (.var 3 "column") (.call "number" (.cons (.ix (.var 2 "row") (.neg (.int 1))) (.cons (.att "Table" (.var 0 "self") "scale") .nil)))] []],
  .ret (.bi .tuple (.cons (.var 1 "found") .nil))], true⟩
def Table_ray : MD := ⟨["self", "column"], ["self", "column", "found", "row", "other"], [
  .set 2 "found" (.bin .Mult true (.lst false (.cons (.glb "NOUGHT") .nil)) (.att "Table" (.var 0 "self") "width")),
  .setI (.var 2 "found") (.var 1 "column") (.tup (.cons (.int 1) (.cons (.int 1) .nil))),
  .for (.tp (.cons (.nm 3 "row") (.cons (.nm 4 "other") .nil))) (.zip2 (.att "Table" (.var 0 "self") "rows") (.att "Table" (.var 0 "self") "basis")) [
    .ite (.cmp .Lt (.var 4 "other") (.att "Table" (.var 0 "self") "width")) [
      .setI (.var 2 "found") (.var 4 "other") (.call "number" (.cons (.neg (.ix (.var 3 "row") (.var 1 "column"))) (.cons (.att "Table" (.var 0 "self") "scale") .nil)))] []],
  .ret (.bi .tuple (.cons (.var 2 "found") .nil))], true⟩
def Table_prices : MD := ⟨["self", "taken"], ["self", "taken", "found", "at", "way"], [
  .set 2 "found" (.lst true .nil),
  .for (.tp (.cons (.nm 3 "at") (.cons (.nm 4 "way") .nil))) (.enum (.att "Table" (.var 0 "self") "signs")) [
    .ex (.bm .append (.var 2 "found") (.cons (.call "number" (.cons (.bin .Mult false (.var 4 "way") (.bin .Sub false (.ix (.att "Table" (.var 0 "self") "top") (.bin .Add false (.att "Table" (.var 0 "self") "width") (.var 3 "at"))) (.bin .Mult false (.var 1 "taken") (.att "Table" (.var 0 "self") "scale")))) (.cons (.att "Table" (.var 0 "self") "scale") .nil))) .nil))],
  .ret (.bi .tuple (.cons (.var 2 "found") .nil))], true⟩
def without_rows : MD := ⟨["gains"], ["gains", "still", "column", "gain"], [
  .set 1 "still" (.bin .Mult false (.tup (.cons (.glb "NOUGHT") .nil)) (.bi .len (.cons (.var 0 "gains") .nil))),
  .for (.tp (.cons (.nm 2 "column") (.cons (.nm 3 "gain") .nil))) (.enum (.var 0 "gains")) [
    .ite (.cmp .Gt (.var 3 "gain") (.int 0)) [
      .ret (.tup (.cons (.str "any") (.cons (.var 1 "still") (.cons (.bin .Add false (.bin .Add false (.slc false (.var 1 "still") .nopart (.var 2 "column")) (.tup (.cons (.tup (.cons (.int 1) (.cons (.int 1) .nil))) .nil))) (.slc false (.var 1 "still") (.bin .Add false (.var 2 "column") (.int 1)) .nopart)) .nil))))] []],
  .ret (.tup (.cons (.str "most") (.cons (.var 1 "still") (.cons (.tup .nil) .nil))))], true⟩
def maximize : MD := ⟨["rows", "sides", "gains"], ["rows", "sides", "gains", "table", "column"], [
  .ite (.not (.var 0 "rows")) [
    .ret (.call "without_rows" (.cons (.var 2 "gains") .nil))] [],
  .set 3 "table" (.mk "Table" (.cons (.var 0 "rows") (.cons (.var 1 "sides") .nil))),
  .ex (.mcall "Table" (.var 3 "table") "set_gains" (.cons (.bin .Add false (.bin .Mult false (.lst false (.cons (.int 0) .nil)) (.att "Table" (.var 3 "table") "width")) (.bin .Mult false (.lst false (.cons (.neg (.int 1)) .nil)) (.bi .len (.cons (.var 0 "rows") .nil)))) .nil)),
  .ex (.mcall "Table" (.var 3 "table") "climb" .nil),
  .ite (.cmp .Lt (.ix (.att "Table" (.var 3 "table") "top") (.neg (.int 1))) (.int 0)) [
    .ret (.tup (.cons (.str "none") (.cons (.mcall "Table" (.var 3 "table") "prices" (.cons (.int 1) .nil)) .nil)))] [],
  .ex (.mcall "Table" (.var 3 "table") "settle" .nil),
  .ex (.mcall "Table" (.var 3 "table") "set_gains" (.cons (.bin .Add false (.bi (.list false) (.cons (.var 2 "gains") .nil)) (.bin .Mult false (.lst false (.cons (.int 0) .nil)) (.bi .len (.cons (.var 0 "rows") .nil)))) .nil)),
  .set 4 "column" (.mcall "Table" (.var 3 "table") "climb" .nil),
  .ite (.cmp .IsNot (.var 4 "column") .non) [
    .ret (.tup (.cons (.str "any") (.cons (.mcall "Table" (.var 3 "table") "tuple_here" .nil) (.cons (.mcall "Table" (.var 3 "table") "ray" (.cons (.var 4 "column") .nil)) .nil))))] [],
  .ret (.tup (.cons (.str "most") (.cons (.mcall "Table" (.var 3 "table") "tuple_here" .nil) (.cons (.mcall "Table" (.var 3 "table") "prices" (.cons (.int 0) .nil)) .nil))))], true⟩
def _law_is_number : MD := ⟨["_law_actual"], ["_law_actual"], [
  .ite (.or (.not (.isi (.var 0 "_law_actual") "tuple")) (.or (.cmp .NotEq (.bi .len (.cons (.var 0 "_law_actual") .nil)) (.int 2)) (.or (.not (.isi (.ix (.var 0 "_law_actual") (.int 0)) "int")) (.one (.not (.isi (.ix (.var 0 "_law_actual") (.int 1)) "int")))))) [
    .ret (.bl false)] [],
  .ret (.and (.cmp .Gt (.ix (.var 0 "_law_actual") (.int 1)) (.int 0)) (.one (.cmp .Eq (.call "_law_number" (.cons (.ix (.var 0 "_law_actual") (.int 0)) (.cons (.ix (.var 0 "_law_actual") (.int 1)) .nil))) (.var 0 "_law_actual"))))], true⟩
def _law_is_row : MD := ⟨["_law_actual", "_law_count"], ["_law_actual", "_law_count", "_law_part"], [
  .ite (.or (.not (.isi (.var 0 "_law_actual") "tuple")) (.one (.cmp .NotEq (.bi .len (.cons (.var 0 "_law_actual") .nil)) (.var 1 "_law_count")))) [
    .ret (.bl false)] [],
  .ret (.cmp .Eq (.bi .len (.cons (.lc false [("_law_part", 2)] (.nm 2 "_law_part") (.over (.var 0 "_law_actual")) (.cons (.not (.call "_law_is_number" (.cons (.var 2 "_law_part") .nil))) .nil) (.var 2 "_law_part")) .nil)) (.int 0))], true⟩
def _law_program : MD := ⟨["_law_script", "_law_most", "_law_width"], ["_law_script", "_law_most", "_law_width", "_law_parts_here", "_law_rows", "_law_sides", "_law_x", "_law_k", "_law_digits", "_law_row", "_law_side", "_law_gains", "_law_shift", "_law_j", "_law_gain"], [
  .set 3 "_law_parts_here" (.call "_law_parts" (.cons (.call "_law_cell" (.cons (.var 0 "_law_script") (.cons (.int 0) .nil))) (.cons (.lst false (.cons (.bin .Add false (.var 1 "_law_most") (.int 1)) (.cons (.int 4) (.cons (.int 4) (.cons (.int 7) .nil))))) .nil))),
  .set 4 "_law_rows" (.lst true .nil),
  .set 5 "_law_sides" (.lst true .nil),
  .set 6 "_law_x" (.call "_law_parts" (.cons (.call "_law_cell" (.cons (.var 0 "_law_script") (.cons (.int 1) .nil))) (.cons (.bin .Mult false (.lst false (.cons (.int 5) .nil)) (.var 2 "_law_width")) .nil))),
  .for (.nm 7 "_law_k") (.rng1 (.ix (.var 3 "_law_parts_here") (.int 0))) [
    .set 8 "_law_digits" (.call "_law_parts" (.cons (.bin .Add false (.call "_law_cell" (.cons (.var 0 "_law_script") (.cons (.bin .Add false (.int 2) (.var 7 "_law_k")) .nil))) (.bin .Mult false (.int 41) (.var 7 "_law_k"))) (.cons (.bin .Add false (.lst false (.cons (.int 6) (.cons (.int 9) (.cons (.int 4) .nil)))) (.bin .Mult false (.lst false (.cons (.int 13) .nil)) (.var 2 "_law_width"))) .nil))),
    .set 9 "_law_row" (.lc false [("_law_j", 13)] (.nm 13 "_law_j") (.rng1 (.var 2 "_law_width")) .nil (.ix (.lst false (.cons (.bin .Sub false (.ix (.var 8 "_law_digits") (.bin .Add false (.int 3) (.var 13 "_law_j"))) (.int 6)) (.cons (.bin .Sub false (.bin .FloorDiv false (.ix (.var 8 "_law_digits") (.bin .Add false (.int 3) (.var 13 "_law_j"))) (.int 3)) (.int 2)) (.cons (.bin .FloorDiv false (.ix (.var 8 "_law_digits") (.bin .Add false (.int 3) (.var 13 "_law_j"))) (.int 9)) .nil)))) (.bin .Mod false (.bi .int (.cons (.ix (.var 8 "_law_digits") (.int 2)) .nil)) (.int 3)))),
    .ite (.and (.cmp .Eq (.ix (.var 8 "_law_digits") (.int 0)) (.int 0)) (.one (.cmp .Gt (.var 7 "_law_k") (.int 0)))) [
      .set 9 "_law_row" (.lc false [("_law_j", 13)] (.nm 13 "_law_j") (.rng1 (.var 2 "_law_width")) .nil (.bin .Mult false (.ix (.ix (.var 4 "_law_rows") (.bin .Sub false (.var 7 "_law_k") (.int 1))) (.var 13 "_law_j")) (.bin .Sub false (.ix (.var 8 "_law_digits") (.int 1)) (.int 4))))] [],
    .ite (.cmp .Eq (.ix (.var 8 "_law_digits") (.int 0)) (.int 1)) [
      .set 9 "_law_row" (.bin .Mult false (.lst false (.cons (.int 0) .nil)) (.var 2 "_law_width"))] [],
    .set 10 "_law_side" (.bi .sum (.cons (.lc false [("_law_j", 13)] (.nm 13 "_law_j") (.rng1 (.var 2 "_law_width")) .nil (.bin .Mult false (.ix (.var 9 "_law_row") (.var 13 "_law_j")) (.ix (.var 6 "_law_x") (.var 13 "_law_j")))) .nil)),
    .ite (.cmp .Eq (.ix (.var 3 "_law_parts_here") (.int 1)) (.int 0)) [
      .set 10 "_law_side" (.bin .Sub false (.bin .Add false (.var 10 "_law_side") (.ix (.var 8 "_law_digits") (.int 1))) (.int 4))] [],
    .ex (.bm .append (.var 4 "_law_rows") (.cons (.bi .tuple (.cons (.var 9 "_law_row") .nil)) .nil)),
    .ex (.bm .append (.var 5 "_law_sides") (.cons (.var 10 "_law_side") .nil))],
  .set 11 "_law_gains" (.call "_law_parts" (.cons (.call "_law_cell" (.cons (.var 0 "_law_script") (.cons (.bin .Add false (.int 2) (.var 1 "_law_most")) .nil))) (.cons (.bin .Mult false (.lst false (.cons (.int 9) .nil)) (.var 2 "_law_width")) .nil))),
  .set 12 "_law_shift" (.ix (.lst false (.cons (.int 4) (.cons (.int 8) (.cons (.int 6) (.cons (.int 0) .nil))))) (.ix (.var 3 "_law_parts_here") (.int 2))),
  .ret (.tup (.cons (.var 4 "_law_rows") (.cons (.var 5 "_law_sides") (.cons (.bi .tuple (.cons (.lc false [("_law_gain", 14)] (.nm 14 "_law_gain") (.over (.var 11 "_law_gains")) .nil (.bin .Sub false (.var 14 "_law_gain") (.var 12 "_law_shift"))) .nil)) .nil))))], true⟩
def _law_with : MD := ⟨["_law_integers", "_law_x"], ["_law_integers", "_law_x", "_law_j"], [
  .ret (.call "_law_total" (.cons (.lc false [("_law_j", 2)] (.nm 2 "_law_j") (.rng1 (.bi .len (.cons (.var 1 "_law_x") .nil))) .nil (.call "_law_times" (.cons (.tup (.cons (.ix (.var 0 "_law_integers") (.var 2 "_law_j")) (.cons (.int 1) .nil))) (.cons (.ix (.var 1 "_law_x") (.var 2 "_law_j")) .nil)))) .nil))], true⟩
def _law_fit : MD := ⟨["_law_rows", "_law_sides", "_law_x"], ["_law_rows", "_law_sides", "_law_x", "_law_part", "_law_k"], [
  .ite (.cmp .Gt (.bi .len (.cons (.lc false [("_law_part", 3)] (.nm 3 "_law_part") (.over (.var 2 "_law_x")) (.cons (.cmp .Lt (.ix (.var 3 "_law_part") (.int 0)) (.int 0)) .nil) (.var 3 "_law_part")) .nil)) (.int 0)) [
    .ret (.bl false)] [],
  .ret (.cmp .Eq (.bi .len (.cons (.lc false [("_law_k", 4)] (.nm 4 "_law_k") (.rng1 (.bi .len (.cons (.var 0 "_law_rows") .nil))) (.cons (.cmp .NotEq (.call "_law_with" (.cons (.ix (.var 0 "_law_rows") (.var 4 "_law_k")) (.cons (.var 2 "_law_x") .nil))) (.tup (.cons (.ix (.var 1 "_law_sides") (.var 4 "_law_k")) (.cons (.int 1) .nil)))) .nil) (.var 4 "_law_k")) .nil)) (.int 0))], true⟩
def _law_columns : MD := ⟨["_law_rows", "_law_y", "_law_gains"], ["_law_rows", "_law_y", "_law_gains", "_law_j", "_law_row"], [
  .for (.nm 3 "_law_j") (.rng1 (.bi .len (.cons (.var 2 "_law_gains") .nil))) [
    .ite (.call "_law_less" (.cons (.call "_law_with" (.cons (.lc false [("_law_row", 4)] (.nm 4 "_law_row") (.over (.var 0 "_law_rows")) .nil (.ix (.var 4 "_law_row") (.var 3 "_law_j"))) (.cons (.var 1 "_law_y") .nil))) (.cons (.tup (.cons (.ix (.var 2 "_law_gains") (.var 3 "_law_j")) (.cons (.int 1) .nil))) .nil))) [
      .ret (.bl false)] []],
  .ret (.bl true)], true⟩
def _law_right_answer : MD := ⟨["_law_rows", "_law_sides", "_law_gains", "_law_answer"], ["_law_rows", "_law_sides", "_law_gains", "_law_answer"], [
  .ite (.or (.not (.isi (.var 3 "_law_answer") "tuple")) (.one (.cmp .Lt (.bi .len (.cons (.var 3 "_law_answer") .nil)) (.int 2)))) [
    .ret (.bl false)] [],
  .ite (.cmp .Eq (.ix (.var 3 "_law_answer") (.int 0)) (.str "none")) [
    .ite (.or (.cmp .NotEq (.bi .len (.cons (.var 3 "_law_answer") .nil)) (.int 2)) (.one (.not (.call "_law_is_row" (.cons (.ix (.var 3 "_law_answer") (.int 1)) (.cons (.bi .len (.cons (.var 0 "_law_rows") .nil)) .nil)))))) [
      .ret (.bl false)] [],
    .ret (.and (.call "_law_columns" (.cons (.var 0 "_law_rows") (.cons (.ix (.var 3 "_law_answer") (.int 1)) (.cons (.bin .Mult false (.lst false (.cons (.int 0) .nil)) (.bi .len (.cons (.var 2 "_law_gains") .nil))) .nil)))) (.one (.cmp .Lt (.ix (.call "_law_with" (.cons (.var 1 "_law_sides") (.cons (.ix (.var 3 "_law_answer") (.int 1)) .nil))) (.int 0)) (.int 0))))] [],
  .ite (.or (.cmp .NotEq (.bi .len (.cons (.var 3 "_law_answer") .nil)) (.int 3)) (.or (.not (.call "_law_is_row" (.cons (.ix (.var 3 "_law_answer") (.int 1)) (.cons (.bi .len (.cons (.var 2 "_law_gains") .nil)) .nil)))) (.one (.not (.call "_law_fit" (.cons (.var 0 "_law_rows") (.cons (.var 1 "_law_sides") (.cons (.ix (.var 3 "_law_answer") (.int 1)) .nil)))))))) [
    .ret (.bl false)] [],
  .ite (.cmp .Eq (.ix (.var 3 "_law_answer") (.int 0)) (.str "any")) [
    .ite (.or (.not (.call "_law_is_row" (.cons (.ix (.var 3 "_law_answer") (.int 2)) (.cons (.bi .len (.cons (.var 2 "_law_gains") .nil)) .nil)))) (.one (.not (.call "_law_fit" (.cons (.var 0 "_law_rows") (.cons (.bin .Mult false (.lst false (.cons (.int 0) .nil)) (.bi .len (.cons (.var 0 "_law_rows") .nil))) (.cons (.ix (.var 3 "_law_answer") (.int 2)) .nil))))))) [
      .ret (.bl false)] [],
    .ret (.cmp .Gt (.ix (.call "_law_with" (.cons (.var 2 "_law_gains") (.cons (.ix (.var 3 "_law_answer") (.int 2)) .nil))) (.int 0)) (.int 0))] [],
  .ite (.or (.cmp .NotEq (.ix (.var 3 "_law_answer") (.int 0)) (.str "most")) (.or (.not (.call "_law_is_row" (.cons (.ix (.var 3 "_law_answer") (.int 2)) (.cons (.bi .len (.cons (.var 0 "_law_rows") .nil)) .nil)))) (.one (.not (.call "_law_columns" (.cons (.var 0 "_law_rows") (.cons (.ix (.var 3 "_law_answer") (.int 2)) (.cons (.var 2 "_law_gains") .nil)))))))) [
    .ret (.bl false)] [],
  .ret (.cmp .Eq (.call "_law_with" (.cons (.var 2 "_law_gains") (.cons (.ix (.var 3 "_law_answer") (.int 1)) .nil))) (.call "_law_with" (.cons (.var 1 "_law_sides") (.cons (.ix (.var 3 "_law_answer") (.int 2)) .nil))))], true⟩
def product : MD := ⟨["integers", "numbers"], ["integers", "numbers", "found", "integer", "part"], [
  .set 2 "found" (.glb "NOUGHT"),
  .for (.tp (.cons (.nm 3 "integer") (.cons (.nm 4 "part") .nil))) (.zip2 (.var 0 "integers") (.var 1 "numbers")) [
    .ite (.and (.var 3 "integer") (.one (.ix (.var 4 "part") (.int 0)))) [
      .set 2 "found" (.call "plus" (.cons (.var 2 "found") (.cons (.call "times" (.cons (.tup (.cons (.var 3 "integer") (.cons (.int 1) .nil))) (.cons (.var 4 "part") .nil))) .nil)))] []],
  .ret (.var 2 "found")], true⟩
def is_fit : MD := ⟨["rows", "sides", "x"], ["rows", "sides", "x", "part", "row", "side"], [
  .ite (.bi .any (.cons (.lc false [("part", 3)] (.nm 3 "part") (.over (.var 2 "x")) .nil (.cmp .Lt (.call "sign" (.cons (.var 3 "part") .nil)) (.int 0))) .nil)) [
    .ret (.bl false)] [],
  .ret (.bi .all (.cons (.lc false [("row", 4), ("side", 5)] (.tp (.cons (.nm 4 "row") (.cons (.nm 5 "side") .nil))) (.zip2 (.var 0 "rows") (.var 1 "sides")) .nil (.cmp .Eq (.call "product" (.cons (.var 4 "row") (.cons (.var 2 "x") .nil))) (.tup (.cons (.var 5 "side") (.cons (.int 1) .nil))))) .nil))], true⟩
def columns_reach : MD := ⟨["rows", "y", "gains"], ["rows", "y", "gains", "column", "gain", "row"], [
  .for (.tp (.cons (.nm 3 "column") (.cons (.nm 4 "gain") .nil))) (.enum (.var 2 "gains")) [
    .ite (.call "less" (.cons (.call "product" (.cons (.lc false [("row", 5)] (.nm 5 "row") (.over (.var 0 "rows")) .nil (.ix (.var 5 "row") (.var 3 "column"))) (.cons (.var 1 "y") .nil))) (.cons (.tup (.cons (.var 4 "gain") (.cons (.int 1) .nil))) .nil))) [
      .ret (.bl false)] []],
  .ret (.bl true)], true⟩
def shows : MD := ⟨["rows", "sides", "gains", "answer"], ["rows", "sides", "gains", "answer", "word"], [
  .set 4 "word" (.ix (.var 3 "answer") (.int 0)),
  .ite (.cmp .Eq (.var 4 "word") (.str "none")) [
    .ret (.and (.call "columns_reach" (.cons (.var 0 "rows") (.cons (.ix (.var 3 "answer") (.int 1)) (.cons (.bin .Mult false (.lst false (.cons (.int 0) .nil)) (.bi .len (.cons (.var 2 "gains") .nil))) .nil)))) (.one (.cmp .Lt (.call "sign" (.cons (.call "product" (.cons (.var 1 "sides") (.cons (.ix (.var 3 "answer") (.int 1)) .nil))) .nil)) (.int 0))))] [],
  .ite (.not (.call "is_fit" (.cons (.var 0 "rows") (.cons (.var 1 "sides") (.cons (.ix (.var 3 "answer") (.int 1)) .nil))))) [
    .ret (.bl false)] [],
  .ite (.cmp .Eq (.var 4 "word") (.str "any")) [
    .ret (.and (.call "is_fit" (.cons (.var 0 "rows") (.cons (.bin .Mult false (.lst false (.cons (.int 0) .nil)) (.bi .len (.cons (.var 0 "rows") .nil))) (.cons (.ix (.var 3 "answer") (.int 2)) .nil)))) (.one (.cmp .Gt (.call "sign" (.cons (.call "product" (.cons (.var 2 "gains") (.cons (.ix (.var 3 "answer") (.int 2)) .nil))) .nil)) (.int 0))))] [],
  .ret (.and (.call "columns_reach" (.cons (.var 0 "rows") (.cons (.ix (.var 3 "answer") (.int 2)) (.cons (.var 2 "gains") .nil)))) (.one (.cmp .Eq (.call "product" (.cons (.var 2 "gains") (.cons (.ix (.var 3 "answer") (.int 1)) .nil))) (.call "product" (.cons (.var 1 "sides") (.cons (.ix (.var 3 "answer") (.int 2)) .nil))))))], true⟩
def _law_changed : MD := ⟨["_law_row", "_law_at", "_law_by"], ["_law_row", "_law_at", "_law_by", "_law_k"], [
  .ite (.cmp .Eq (.bi .len (.cons (.var 0 "_law_row") .nil)) (.int 0)) [
    .ret (.var 0 "_law_row")] [],
  .set 3 "_law_k" (.bin .Mod false (.bi .int (.cons (.var 1 "_law_at") .nil)) (.bi .len (.cons (.var 0 "_law_row") .nil))),
  .ret (.bin .Add false (.bin .Add false (.slc false (.var 0 "_law_row") .nopart (.var 3 "_law_k")) (.tup (.cons (.call "_law_plus" (.cons (.ix (.var 0 "_law_row") (.var 3 "_law_k")) (.cons (.tup (.cons (.var 2 "_law_by") (.cons (.bin .Add false (.int 1) (.bin .Mod false (.bi .int (.cons (.var 1 "_law_at") .nil)) (.int 3))) .nil))) .nil))) .nil))) (.slc false (.var 0 "_law_row") (.bin .Add false (.var 3 "_law_k") (.int 1)) .nopart))], true⟩
def _law_drawn : MD := ⟨["_law_parts_here", "_law_count"], ["_law_parts_here", "_law_count", "_law_k"], [
  .ret (.bi .tuple (.cons (.lc false [("_law_k", 2)] (.nm 2 "_law_k") (.rng1 (.var 1 "_law_count")) .nil (.call "_law_number" (.cons (.bin .Sub false (.ix (.var 0 "_law_parts_here") (.var 2 "_law_k")) (.int 2)) (.cons (.bin .Add false (.int 1) (.bin .FloorDiv false (.ix (.var 0 "_law_parts_here") (.bin .Add false (.var 2 "_law_k") (.int 1))) (.int 3))) .nil)))) .nil))], true⟩
def total : MD := ⟨["numbers"], ["numbers", "found", "part"], [
  .set 1 "found" (.glb "NOUGHT"),
  .for (.nm 2 "part") (.over (.var 0 "numbers")) [
    .set 1 "found" (.call "plus" (.cons (.var 1 "found") (.cons (.var 2 "part") .nil)))],
  .ret (.var 1 "found")], true⟩
def product_2 : MD := ⟨["v", "w"], ["v", "w"], [
  .ite (.isi (.ix (.var 1 "w") (.int 0)) "tuple") [
    .ret (.call "plus" (.cons (.call "times" (.cons (.tup (.cons (.ix (.var 0 "v") (.int 0)) (.cons (.int 1) .nil))) (.cons (.ix (.var 1 "w") (.int 0)) .nil))) (.cons (.call "times" (.cons (.tup (.cons (.ix (.var 0 "v") (.int 1)) (.cons (.int 1) .nil))) (.cons (.ix (.var 1 "w") (.int 1)) .nil))) .nil)))] [],
  .ret (.bin .Add false (.bin .Mult false (.ix (.var 0 "v") (.int 0)) (.ix (.var 1 "w") (.int 0))) (.bin .Mult false (.ix (.var 0 "v") (.int 1)) (.ix (.var 1 "w") (.int 1))))], true⟩
def taken_from : MD := ⟨["v", "w"], ["v", "w"], [
  .ite (.isi (.ix (.var 0 "v") (.int 0)) "tuple") [
    .ret (.tup (.cons (.call "plus" (.cons (.ix (.var 0 "v") (.int 0)) (.cons (.tup (.cons (.neg (.ix (.ix (.var 1 "w") (.int 0)) (.int 0))) (.cons (.ix (.ix (.var 1 "w") (.int 0)) (.int 1)) .nil))) .nil))) (.cons (.call "plus" (.cons (.ix (.var 0 "v") (.int 1)) (.cons (.tup (.cons (.neg (.ix (.ix (.var 1 "w") (.int 1)) (.int 0))) (.cons (.ix (.ix (.var 1 "w") (.int 1)) (.int 1)) .nil))) .nil))) .nil)))] [],
  .ret (.tup (.cons (.bin .Sub false (.ix (.var 0 "v") (.int 0)) (.ix (.var 1 "w") (.int 0))) (.cons (.bin .Sub false (.ix (.var 0 "v") (.int 1)) (.ix (.var 1 "w") (.int 1))) .nil)))], true⟩
def span : MD := ⟨["frame", "k"], ["frame", "k", "points", "members", "_"], [
  .asg (.tp (.cons (.nm 2 "points") (.cons (.nm 3 "members") (.cons (.nm 4 "_") .nil)))) (.var 0 "frame"),
  .ret (.call "taken_from" (.cons (.ix (.var 2 "points") (.ix (.ix (.var 3 "members") (.var 1 "k")) (.int 0))) (.cons (.ix (.var 2 "points") (.ix (.ix (.var 3 "members") (.var 1 "k")) (.int 1))) .nil)))], true⟩
def growth : MD := ⟨["frame", "k", "motion"], ["frame", "k", "motion", "i", "j"], [
  .asg (.tp (.cons (.nm 3 "i") (.cons (.nm 4 "j") .nil))) (.slc false (.ix (.ix (.var 0 "frame") (.int 1)) (.var 1 "k")) .nopart (.int 2)),
  .ret (.call "product" (.cons (.call "span" (.cons (.var 0 "frame") (.cons (.var 1 "k") .nil))) (.cons (.call "taken_from" (.cons (.ix (.var 2 "motion") (.var 3 "i")) (.cons (.ix (.var 2 "motion") (.var 4 "j")) .nil))) .nil)))], true⟩
def work : MD := ⟨["load", "motion"], ["load", "motion", "found", "force", "velocity"], [
  .set 2 "found" (.lc false [("force", 3), ("velocity", 4)] (.tp (.cons (.nm 3 "force") (.cons (.nm 4 "velocity") .nil))) (.zip2 (.var 0 "load") (.var 1 "motion")) .nil (.call "product" (.cons (.var 3 "force") (.cons (.var 4 "velocity") .nil)))),
  .ite (.and (.var 2 "found") (.one (.isi (.ix (.var 2 "found") (.int 0)) "tuple"))) [
    .ret (.call "total" (.cons (.var 2 "found") .nil))] [],
  .ret (.bi .sum (.cons (.var 2 "found") .nil))], true⟩
def is_allowed : MD := ⟨["frame", "motion"], ["frame", "motion", "k", "_", "pull", "push", "grown"], [
  .for (.tp (.cons (.nm 2 "k") (.cons (.tp (.cons (.nm 3 "_") (.cons (.nm 3 "_") (.cons (.nm 4 "pull") (.cons (.nm 5 "push") .nil))))) .nil))) (.enum (.ix (.var 0 "frame") (.int 1))) [
    .set 6 "grown" (.call "growth" (.cons (.var 0 "frame") (.cons (.var 2 "k") (.cons (.var 1 "motion") .nil)))),
    .ite (.or (.and (.cmp .Is (.var 4 "pull") .non) (.one (.cmp .Gt (.var 6 "grown") (.int 0)))) (.one (.and (.cmp .Is (.var 5 "push") .non) (.one (.cmp .Lt (.var 6 "grown") (.int 0)))))) [
      .ret (.bl false)] []],
  .ret (.bl true)], true⟩
def resistance : MD := ⟨["frame", "motion"], ["frame", "motion", "found", "k", "_", "pull", "push", "grown"], [
  .set 2 "found" (.int 0),
  .for (.tp (.cons (.nm 3 "k") (.cons (.tp (.cons (.nm 4 "_") (.cons (.nm 4 "_") (.cons (.nm 5 "pull") (.cons (.nm 6 "push") .nil))))) .nil))) (.enum (.ix (.var 0 "frame") (.int 1))) [
    .set 7 "grown" (.call "growth" (.cons (.var 0 "frame") (.cons (.var 3 "k") (.cons (.var 1 "motion") .nil)))),
    .ite (.cmp .Gt (.var 7 "grown") (.int 0)) [
      .aug 2 "found" .Add (.bin .Mult false (.var 5 "pull") (.var 7 "grown"))] [
      .ite (.cmp .Lt (.var 7 "grown") (.int 0)) [
        .aug 2 "found" .Sub (.bin .Mult false (.var 6 "push") (.var 7 "grown"))] []]],
  .ret (.var 2 "found")], true⟩
def _law_points : MD := ⟨["_law_script", "_law_n", "_law_size"], ["_law_script", "_law_n", "_law_size", "_law_points_here", "_law_k", "_law_parts_here"], [
  .set 3 "_law_points_here" (.lst true .nil),
  .for (.nm 4 "_law_k") (.rng1 (.var 1 "_law_n")) [
    .set 5 "_law_parts_here" (.call "_law_parts" (.cons (.bin .Add false (.call "_law_cell" (.cons (.var 0 "_law_script") (.cons (.bin .Add false (.int 3) (.var 4 "_law_k")) .nil))) (.bin .Mult false (.int 17) (.var 4 "_law_k"))) (.cons (.lst false (.cons (.var 2 "_law_size") (.cons (.var 2 "_law_size") .nil))) .nil))),
    .ex (.bm .append (.var 3 "_law_points_here") (.cons (.tup (.cons (.bin .Sub false (.ix (.var 5 "_law_parts_here") (.int 0)) (.int 1)) (.cons (.bin .Sub false (.ix (.var 5 "_law_parts_here") (.int 1)) (.int 1)) .nil))) .nil))],
  .ret (.bi .tuple (.cons (.var 3 "_law_points_here") .nil))], true⟩
def _law_limits : MD := ⟨["_law_digit", "_law_style"], ["_law_digit", "_law_style", "_law_limit", "_law_other", "_law_choice"], [
  .set 2 "_law_limit" (.bin .Add false (.int 1) (.bin .Mod false (.bin .FloorDiv false (.bi .int (.cons (.var 0 "_law_digit") .nil)) (.int 7)) (.int 9))),
  .ite (.cmp .Eq (.var 1 "_law_style") (.int 0)) [
    .ret (.tup (.cons .non (.cons .non .nil)))] [],
  .ite (.cmp .Eq (.var 1 "_law_style") (.int 1)) [
    .ret (.ix (.lst false (.cons (.tup (.cons .non (.cons .non .nil))) (.cons (.tup (.cons .non (.cons (.int 0) .nil))) (.cons (.tup (.cons (.int 0) (.cons .non .nil))) (.cons (.tup (.cons .non (.cons .non .nil))) .nil))))) (.bin .Mod false (.bi .int (.cons (.var 0 "_law_digit") .nil)) (.int 4)))] [],
  .ite (.cmp .Eq (.var 1 "_law_style") (.int 2)) [
    .set 3 "_law_other" (.bin .Add false (.int 1) (.bin .Mod false (.bin .FloorDiv false (.bi .int (.cons (.var 0 "_law_digit") .nil)) (.int 63)) (.int 9))),
    .set 4 "_law_choice" (.bin .Mod false (.bi .int (.cons (.var 0 "_law_digit") .nil)) (.int 7)),
    .ret (.ix (.lst false (.cons (.tup (.cons .non (.cons .non .nil))) (.cons (.tup (.cons .non (.cons (.int 0) .nil))) (.cons (.tup (.cons (.int 0) (.cons .non .nil))) (.cons (.tup (.cons (.var 2 "_law_limit") (.cons .non .nil))) (.cons (.tup (.cons .non (.cons (.var 2 "_law_limit") .nil))) (.cons (.tup (.cons (.var 2 "_law_limit") (.cons (.var 3 "_law_other") .nil))) (.cons (.tup (.cons (.int 0) (.cons (.var 2 "_law_limit") .nil))) .nil)))))))) (.var 4 "_law_choice"))] [],
  .ret (.tup (.cons (.var 2 "_law_limit") (.cons (.bin .Add false (.int 1) (.bin .Mod false (.bin .FloorDiv false (.bi .int (.cons (.var 0 "_law_digit") .nil)) (.int 63)) (.int 9))) .nil)))], true⟩
def _law_members : MD := ⟨["_law_script", "_law_points_here", "_law_style"], ["_law_script", "_law_points_here", "_law_style", "_law_n", "_law_draws", "_law_digits", "_law_members_here", "_law_at", "_law_i", "_law_j"], [
  .set 3 "_law_n" (.bi .len (.cons (.var 1 "_law_points_here") .nil)),
  .set 4 "_law_draws" (.call "_law_parts" (.cons (.call "_law_cell" (.cons (.var 0 "_law_script") (.cons (.int 1) .nil))) (.cons (.bin .Mult false (.lst false (.cons (.int 4) .nil)) (.int 28)) .nil))),
  .set 5 "_law_digits" (.call "_law_parts" (.cons (.call "_law_cell" (.cons (.var 0 "_law_script") (.cons (.int 2) .nil))) (.cons (.bin .Mult false (.lst false (.cons (.int 567) .nil)) (.int 28)) .nil))),
  .set 6 "_law_members_here" (.lst true .nil),
  .set 7 "_law_at" (.int 0),
  .for (.nm 8 "_law_i") (.rng1 (.var 3 "_law_n")) [
    .for (.nm 9 "_law_j") (.rng2 (.bin .Add false (.var 8 "_law_i") (.int 1)) (.var 3 "_law_n")) [
      .ite (.and (.cmp .NotEq (.ix (.var 1 "_law_points_here") (.var 8 "_law_i")) (.ix (.var 1 "_law_points_here") (.var 9 "_law_j"))) (.one (.cmp .Gt (.ix (.var 4 "_law_draws") (.var 7 "_law_at")) (.int 0)))) [
        .ex (.bm .append (.var 6 "_law_members_here") (.cons (.bin .Add false (.tup (.cons (.var 8 "_law_i") (.cons (.var 9 "_law_j") .nil))) (.call "_law_limits" (.cons (.ix (.var 5 "_law_digits") (.var 7 "_law_at")) (.cons (.var 2 "_law_style") .nil)))) .nil))] [],
      .set 7 "_law_at" (.bin .Add false (.var 7 "_law_at") (.int 1))]],
  .ret (.bi .tuple (.cons (.var 6 "_law_members_here") .nil))], true⟩
def _law_frame : MD := ⟨["_law_script", "_law_least", "_law_style", "_law_pinned"], ["_law_script", "_law_least", "_law_style", "_law_pinned", "_law_parts_here", "_law_n", "_law_points_here", "_law_pins"], [
  .set 4 "_law_parts_here" (.call "_law_parts" (.cons (.call "_law_cell" (.cons (.var 0 "_law_script") (.cons (.int 0) .nil))) (.cons (.lst false (.cons (.int 5) (.cons (.int 3) (.cons (.int 6) (.cons (.int 7) .nil))))) .nil))),
  .set 5 "_law_n" (.bin .Add false (.var 1 "_law_least") (.ix (.var 4 "_law_parts_here") (.int 0))),
  .set 6 "_law_points_here" (.call "_law_points" (.cons (.var 0 "_law_script") (.cons (.var 5 "_law_n") (.cons (.bin .Add false (.int 4) (.ix (.var 4 "_law_parts_here") (.int 1))) .nil)))),
  .set 7 "_law_pins" (.lst false .nil),
  .ite (.var 3 "_law_pinned") [
    .set 7 "_law_pins" (.sset (.lst false (.cons (.bin .Mod false (.bi .int (.cons (.ix (.var 4 "_law_parts_here") (.int 2)) .nil)) (.var 5 "_law_n")) (.cons (.bin .Mod false (.bi .int (.cons (.bin .Add false (.bin .Add false (.ix (.var 4 "_law_parts_here") (.int 2)) (.int 1)) (.ix (.var 4 "_law_parts_here") (.int 3))) .nil)) (.var 5 "_law_n")) .nil))))] [],
  .ret (.tup (.cons (.var 6 "_law_points_here") (.cons (.call "_law_members" (.cons (.var 0 "_law_script") (.cons (.var 6 "_law_points_here") (.cons (.var 2 "_law_style") .nil)))) (.cons (.bi .tuple (.cons (.var 7 "_law_pins") .nil)) .nil))))], true⟩
def _law_load : MD := ⟨["_law_script", "_law_n", "_law_size"], ["_law_script", "_law_n", "_law_size", "_law_digits", "_law_kept", "_law_load_here", "_law_k", "_law_force"], [
  .set 3 "_law_digits" (.call "_law_parts" (.cons (.call "_law_cell" (.cons (.var 0 "_law_script") (.cons (.int 11) .nil))) (.cons (.bin .Mult false (.lst false (.cons (.bin .Add false (.bin .Mult false (.int 2) (.var 2 "_law_size")) (.int 1)) .nil)) (.int 20)) .nil))),
  .set 4 "_law_kept" (.call "_law_parts" (.cons (.call "_law_cell" (.cons (.var 0 "_law_script") (.cons (.int 12) .nil))) (.cons (.bin .Mult false (.lst false (.cons (.int 3) .nil)) (.int 10)) .nil))),
  .set 5 "_law_load_here" (.lst true .nil),
  .for (.nm 6 "_law_k") (.rng1 (.var 1 "_law_n")) [
    .set 7 "_law_force" (.tup (.cons (.bin .Sub false (.ix (.var 3 "_law_digits") (.bin .Mult false (.int 2) (.var 6 "_law_k"))) (.var 2 "_law_size")) (.cons (.bin .Sub false (.ix (.var 3 "_law_digits") (.bin .Add false (.bin .Mult false (.int 2) (.var 6 "_law_k")) (.int 1))) (.var 2 "_law_size")) .nil))),
    .ex (.bm .append (.var 5 "_law_load_here") (.cons (.ix (.lst false (.cons (.var 7 "_law_force") (.cons (.tup (.cons (.int 0) (.cons (.int 0) .nil))) .nil))) (.bi .int (.cons (.cmp .Eq (.ix (.var 4 "_law_kept") (.var 6 "_law_k")) (.int 0)) .nil))) .nil))],
  .ret (.bi .tuple (.cons (.var 5 "_law_load_here") .nil))], true⟩
def _law_growth : MD := ⟨["_law_frame_here", "_law_k", "_law_motion"], ["_law_frame_here", "_law_k", "_law_motion", "_law_i", "_law_j", "_law_p", "_law_q", "_law_v", "_law_w"], [
  .asg (.tp (.cons (.nm 3 "_law_i") (.cons (.nm 4 "_law_j") .nil))) (.slc false (.ix (.ix (.var 0 "_law_frame_here") (.int 1)) (.var 1 "_law_k")) .nopart (.int 2)),
  .set 5 "_law_p" (.ix (.ix (.var 0 "_law_frame_here") (.int 0)) (.var 3 "_law_i")),
  .set 6 "_law_q" (.ix (.ix (.var 0 "_law_frame_here") (.int 0)) (.var 4 "_law_j")),
  .set 7 "_law_v" (.ix (.var 2 "_law_motion") (.var 3 "_law_i")),
  .set 8 "_law_w" (.ix (.var 2 "_law_motion") (.var 4 "_law_j")),
  .ret (.bin .Add false (.bin .Mult false (.bin .Sub false (.ix (.var 5 "_law_p") (.int 0)) (.ix (.var 6 "_law_q") (.int 0))) (.bin .Sub false (.ix (.var 7 "_law_v") (.int 0)) (.ix (.var 8 "_law_w") (.int 0)))) (.bin .Mult false (.bin .Sub false (.ix (.var 5 "_law_p") (.int 1)) (.ix (.var 6 "_law_q") (.int 1))) (.bin .Sub false (.ix (.var 7 "_law_v") (.int 1)) (.ix (.var 8 "_law_w") (.int 1)))))], true⟩
def _law_work : MD := ⟨["_law_load_here", "_law_motion"], ["_law_load_here", "_law_motion", "_law_k"], [
  .ret (.bi .sum (.cons (.lc false [("_law_k", 2)] (.nm 2 "_law_k") (.rng1 (.bi .len (.cons (.var 0 "_law_load_here") .nil))) .nil (.bin .Add false (.bin .Mult false (.ix (.ix (.var 0 "_law_load_here") (.var 2 "_law_k")) (.int 0)) (.ix (.ix (.var 1 "_law_motion") (.var 2 "_law_k")) (.int 0))) (.bin .Mult false (.ix (.ix (.var 0 "_law_load_here") (.var 2 "_law_k")) (.int 1)) (.ix (.ix (.var 1 "_law_motion") (.var 2 "_law_k")) (.int 1))))) .nil))], true⟩
def _law_allowed : MD := ⟨["_law_frame_here", "_law_motion"], ["_law_frame_here", "_law_motion", "_law_k", "_law_grown", "_law_pin"], [
  .for (.nm 2 "_law_k") (.rng1 (.bi .len (.cons (.ix (.var 0 "_law_frame_here") (.int 1)) .nil))) [
    .set 3 "_law_grown" (.call "_law_growth" (.cons (.var 0 "_law_frame_here") (.cons (.var 2 "_law_k") (.cons (.var 1 "_law_motion") .nil)))),
    .ite (.or (.and (.cmp .Is (.ix (.ix (.ix (.var 0 "_law_frame_here") (.int 1)) (.var 2 "_law_k")) (.int 2)) .non) (.one (.cmp .Gt (.var 3 "_law_grown") (.int 0)))) (.one (.and (.cmp .Is (.ix (.ix (.ix (.var 0 "_law_frame_here") (.int 1)) (.var 2 "_law_k")) (.int 3)) .non) (.one (.cmp .Lt (.var 3 "_law_grown") (.int 0)))))) [
      .ret (.bl false)] []],
  .ret (.cmp .Eq (.bi .len (.cons (.lc false [("_law_pin", 4)] (.nm 4 "_law_pin") (.over (.ix (.var 0 "_law_frame_here") (.int 2))) (.cons (.cmp .NotEq (.ix (.var 1 "_law_motion") (.var 4 "_law_pin")) (.tup (.cons (.int 0) (.cons (.int 0) .nil)))) .nil) (.var 4 "_law_pin")) .nil)) (.int 0))], true⟩
def _law_resistance : MD := ⟨["_law_frame_here", "_law_motion"], ["_law_frame_here", "_law_motion", "_law_found", "_law_k", "_law_grown"], [
  .set 2 "_law_found" (.int 0),
  .for (.nm 3 "_law_k") (.rng1 (.bi .len (.cons (.ix (.var 0 "_law_frame_here") (.int 1)) .nil))) [
    .set 4 "_law_grown" (.call "_law_growth" (.cons (.var 0 "_law_frame_here") (.cons (.var 3 "_law_k") (.cons (.var 1 "_law_motion") .nil)))),
    .ite (.cmp .Gt (.var 4 "_law_grown") (.int 0)) [
      .set 2 "_law_found" (.bin .Add false (.var 2 "_law_found") (.bin .Mult false (.ix (.ix (.ix (.var 0 "_law_frame_here") (.int 1)) (.var 3 "_law_k")) (.int 2)) (.var 4 "_law_grown")))] [],
    .ite (.cmp .Lt (.var 4 "_law_grown") (.int 0)) [
      .set 2 "_law_found" (.bin .Sub false (.var 2 "_law_found") (.bin .Mult false (.ix (.ix (.ix (.var 0 "_law_frame_here") (.int 1)) (.var 3 "_law_k")) (.int 3)) (.var 4 "_law_grown")))] []],
  .ret (.var 2 "_law_found")], true⟩
def law_9 : MD := ⟨["_law_script"], ["_law_script", "_law_frame_here", "_law_n", "_law_load_here", "_law_digits", "_law_numbers", "_law_motion", "_law_k", "_law_i", "_law_j", "_law_due", "_law_which", "_law_apart"], [
  .set 1 "_law_frame_here" (.call "_law_frame" (.cons (.var 0 "_law_script") (.cons (.int 2) (.cons (.int 2) (.cons (.bl false) .nil))))),
  .set 2 "_law_n" (.bi .len (.cons (.ix (.var 1 "_law_frame_here") (.int 0)) .nil)),
  .set 3 "_law_load_here" (.call "_law_load" (.cons (.var 0 "_law_script") (.cons (.var 2 "_law_n") (.cons (.int 9) .nil)))),
  .set 4 "_law_digits" (.call "_law_parts" (.cons (.call "_law_cell" (.cons (.var 0 "_law_script") (.cons (.int 13) .nil))) (.cons (.bin .Mult false (.lst false (.cons (.int 19) (.cons (.int 7) .nil))) (.int 14)) .nil))),
  .set 5 "_law_numbers" (.lc false [("_law_k", 7)] (.nm 7 "_law_k") (.rng1 (.bin .Mult false (.int 2) (.var 2 "_law_n"))) .nil (.call "_law_number" (.cons (.bin .Sub false (.ix (.var 4 "_law_digits") (.bin .Mult false (.int 2) (.var 7 "_law_k"))) (.int 9)) (.cons (.bin .Add false (.int 1) (.ix (.var 4 "_law_digits") (.bin .Add false (.bin .Mult false (.int 2) (.var 7 "_law_k")) (.int 1)))) .nil)))),
  .set 6 "_law_motion" (.bi .tuple (.cons (.lc false [("_law_k", 7)] (.nm 7 "_law_k") (.rng1 (.var 2 "_law_n")) .nil (.tup (.cons (.ix (.var 5 "_law_numbers") (.bin .Mult false (.int 2) (.var 7 "_law_k"))) (.cons (.ix (.var 5 "_law_numbers") (.bin .Add false (.bin .Mult false (.int 2) (.var 7 "_law_k")) (.int 1))) .nil)))) .nil)),
  .for (.nm 7 "_law_k") (.rng1 (.bi .len (.cons (.ix (.var 1 "_law_frame_here") (.int 1)) .nil))) [
    .asg (.tp (.cons (.nm 8 "_law_i") (.cons (.nm 9 "_law_j") .nil))) (.slc false (.ix (.ix (.var 1 "_law_frame_here") (.int 1)) (.var 7 "_law_k")) .nopart (.int 2)),
    .set 10 "_law_due" (.tup (.cons (.int 0) (.cons (.int 1) .nil))),
    .for (.nm 11 "_law_which") (.rng1 (.int 2)) [
      .set 12 "_law_apart" (.call "_law_plus" (.cons (.ix (.ix (.var 6 "_law_motion") (.var 8 "_law_i")) (.var 11 "_law_which")) (.cons (.tup (.cons (.neg (.ix (.ix (.ix (.var 6 "_law_motion") (.var 9 "_law_j")) (.var 11 "_law_which")) (.int 0))) (.cons (.ix (.ix (.ix (.var 6 "_law_motion") (.var 9 "_law_j")) (.var 11 "_law_which")) (.int 1)) .nil))) .nil))),
      .set 10 "_law_due" (.call "_law_plus" (.cons (.var 10 "_law_due") (.cons (.call "_law_times" (.cons (.tup (.cons (.bin .Sub false (.ix (.ix (.ix (.var 1 "_law_frame_here") (.int 0)) (.var 8 "_law_i")) (.var 11 "_law_which")) (.ix (.ix (.ix (.var 1 "_law_frame_here") (.int 0)) (.var 9 "_law_j")) (.var 11 "_law_which"))) (.cons (.int 1) .nil))) (.cons (.var 12 "_law_apart") .nil))) .nil)))],
    .ite (.or (.not (.call "_law_is_number" (.cons (.call "growth" (.cons (.var 1 "_law_frame_here") (.cons (.var 7 "_law_k") (.cons (.var 6 "_law_motion") .nil)))) .nil))) (.one (.cmp .NotEq (.call "growth" (.cons (.var 1 "_law_frame_here") (.cons (.var 7 "_law_k") (.cons (.var 6 "_law_motion") .nil)))) (.var 10 "_law_due")))) [
      .ret (.bl false)] []],
  .set 10 "_law_due" (.tup (.cons (.int 0) (.cons (.int 1) .nil))),
  .for (.nm 7 "_law_k") (.rng1 (.var 2 "_law_n")) [
    .for (.nm 11 "_law_which") (.rng1 (.int 2)) [
      .set 10 "_law_due" (.call "_law_plus" (.cons (.var 10 "_law_due") (.cons (.call "_law_times" (.cons (.tup (.cons (.ix (.ix (.var 3 "_law_load_here") (.var 7 "_law_k")) (.var 11 "_law_which")) (.cons (.int 1) .nil))) (.cons (.ix (.ix (.var 6 "_law_motion") (.var 7 "_law_k")) (.var 11 "_law_which")) .nil))) .nil)))]],
  .ret (.and (.call "_law_is_number" (.cons (.call "work" (.cons (.var 3 "_law_load_here") (.cons (.var 6 "_law_motion") .nil))) .nil)) (.one (.cmp .Eq (.call "work" (.cons (.var 3 "_law_load_here") (.cons (.var 6 "_law_motion") .nil))) (.var 10 "_law_due"))))], true⟩
def use : MD := ⟨["frame", "k", "motion"], ["frame", "k", "motion", "grown", "_", "pull", "push", "way"], [
  .set 3 "grown" (.call "growth" (.cons (.var 0 "frame") (.cons (.var 1 "k") (.cons (.var 2 "motion") .nil)))),
  .asg (.tp (.cons (.nm 4 "_") (.cons (.nm 4 "_") (.cons (.nm 5 "pull") (.cons (.nm 6 "push") .nil))))) (.ix (.ix (.var 0 "frame") (.int 1)) (.var 1 "k")),
  .ite (.isi (.var 3 "grown") "tuple") [
    .set 7 "way" (.call "sign" (.cons (.var 3 "grown") .nil)),
    .ite (.and (.cmp .Gt (.var 7 "way") (.int 0)) (.one (.cmp .NotEq (.var 5 "pull") (.int 0)))) [
      .ret (.var 3 "grown")] [],
    .ret (.ife (.and (.cmp .Lt (.var 7 "way") (.int 0)) (.one (.cmp .NotEq (.var 6 "push") (.int 0)))) (.tup (.cons (.neg (.ix (.var 3 "grown") (.int 0))) (.cons (.ix (.var 3 "grown") (.int 1)) .nil))) (.glb "NOUGHT"))] [],
  .ite (.and (.cmp .Gt (.var 3 "grown") (.int 0)) (.one (.cmp .NotEq (.var 5 "pull") (.int 0)))) [
    .ret (.var 3 "grown")] [],
  .ret (.ife (.and (.cmp .Lt (.var 3 "grown") (.int 0)) (.one (.cmp .NotEq (.var 6 "push") (.int 0)))) (.neg (.var 3 "grown")) (.int 0))], true⟩
def _law_use : MD := ⟨["_law_frame_here", "_law_k", "_law_motion"], ["_law_frame_here", "_law_k", "_law_motion", "_law_i", "_law_j", "_law_pull", "_law_push", "_law_grown", "_law_which", "_law_apart"], [
  .asg (.tp (.cons (.nm 3 "_law_i") (.cons (.nm 4 "_law_j") (.cons (.nm 5 "_law_pull") (.cons (.nm 6 "_law_push") .nil))))) (.ix (.ix (.var 0 "_law_frame_here") (.int 1)) (.var 1 "_law_k")),
  .set 7 "_law_grown" (.tup (.cons (.int 0) (.cons (.int 1) .nil))),
  .for (.nm 8 "_law_which") (.rng1 (.int 2)) [
    .set 9 "_law_apart" (.call "_law_plus" (.cons (.ix (.ix (.var 2 "_law_motion") (.var 3 "_law_i")) (.var 8 "_law_which")) (.cons (.tup (.cons (.neg (.ix (.ix (.ix (.var 2 "_law_motion") (.var 4 "_law_j")) (.var 8 "_law_which")) (.int 0))) (.cons (.ix (.ix (.ix (.var 2 "_law_motion") (.var 4 "_law_j")) (.var 8 "_law_which")) (.int 1)) .nil))) .nil))),
    .set 7 "_law_grown" (.call "_law_plus" (.cons (.var 7 "_law_grown") (.cons (.call "_law_times" (.cons (.tup (.cons (.bin .Sub false (.ix (.ix (.ix (.var 0 "_law_frame_here") (.int 0)) (.var 3 "_law_i")) (.var 8 "_law_which")) (.ix (.ix (.ix (.var 0 "_law_frame_here") (.int 0)) (.var 4 "_law_j")) (.var 8 "_law_which"))) (.cons (.int 1) .nil))) (.cons (.var 9 "_law_apart") .nil))) .nil)))],
  .ite (.and (.cmp .Gt (.ix (.var 7 "_law_grown") (.int 0)) (.int 0)) (.one (.cmp .NotEq (.var 5 "_law_pull") (.int 0)))) [
    .ret (.var 7 "_law_grown")] [],
  .ite (.and (.cmp .Lt (.ix (.var 7 "_law_grown") (.int 0)) (.int 0)) (.one (.cmp .NotEq (.var 6 "_law_push") (.int 0)))) [
    .ret (.tup (.cons (.neg (.ix (.var 7 "_law_grown") (.int 0))) (.cons (.ix (.var 7 "_law_grown") (.int 1)) .nil)))] [],
  .ret (.tup (.cons (.int 0) (.cons (.int 1) .nil)))], true⟩
def _law_numbered : MD := ⟨["_law_motion"], ["_law_motion", "_law_v"], [
  .ret (.bi .tuple (.cons (.lc false [("_law_v", 1)] (.nm 1 "_law_v") (.over (.var 0 "_law_motion")) .nil (.tup (.cons (.tup (.cons (.ix (.var 1 "_law_v") (.int 0)) (.cons (.int 1) .nil))) (.cons (.tup (.cons (.ix (.var 1 "_law_v") (.int 1)) (.cons (.int 1) .nil))) .nil)))) .nil))], true⟩
def two_places : MD := ⟨["points"], ["points", "joint", "point"], [
  .for (.tp (.cons (.nm 1 "joint") (.cons (.nm 2 "point") .nil))) (.enum (.var 0 "points")) [
    .ite (.cmp .NotEq (.var 2 "point") (.ix (.var 0 "points") (.int 0))) [
      .ret (.tup (.cons (.int 0) (.cons (.var 1 "joint") .nil)))] []],
  .ret .non], true⟩
def turned : MD := ⟨["v"], ["v"], [
  .ret (.tup (.cons (.neg (.ix (.var 0 "v") (.int 1))) (.cons (.ix (.var 0 "v") (.int 0)) .nil)))], true⟩
def is_rigid : MD := ⟨["points", "motion"], ["points", "motion", "pair", "i", "j", "reach", "size", "spin", "point", "velocity", "away", "moved"], [
  .set 2 "pair" (.call "two_places" (.cons (.var 0 "points") .nil)),
  .ite (.cmp .Is (.var 2 "pair") .non) [
    .ret (.bi .all (.cons (.lc false [("velocity", 9)] (.nm 9 "velocity") (.over (.var 1 "motion")) .nil (.cmp .Eq (.var 9 "velocity") (.ix (.var 1 "motion") (.int 0)))) .nil))] [],
  .asg (.tp (.cons (.nm 3 "i") (.cons (.nm 4 "j") .nil))) (.var 2 "pair"),
  .set 5 "reach" (.call "taken_from" (.cons (.ix (.var 0 "points") (.var 4 "j")) (.cons (.ix (.var 0 "points") (.var 3 "i")) .nil))),
  .set 6 "size" (.bin .Add false (.bin .Mult false (.ix (.var 5 "reach") (.int 0)) (.ix (.var 5 "reach") (.int 0))) (.bin .Mult false (.ix (.var 5 "reach") (.int 1)) (.ix (.var 5 "reach") (.int 1)))),
  .set 7 "spin" (.bin .Add false (.bin .Mult false (.ix (.call "turned" (.cons (.var 5 "reach") .nil)) (.int 0)) (.bin .Sub false (.ix (.ix (.var 1 "motion") (.var 4 "j")) (.int 0)) (.ix (.ix (.var 1 "motion") (.var 3 "i")) (.int 0)))) (.bin .Mult false (.ix (.call "turned" (.cons (.var 5 "reach") .nil)) (.int 1)) (.bin .Sub false (.ix (.ix (.var 1 "motion") (.var 4 "j")) (.int 1)) (.ix (.ix (.var 1 "motion") (.var 3 "i")) (.int 1))))),
  .for (.tp (.cons (.nm 8 "point") (.cons (.nm 9 "velocity") .nil))) (.zip2 (.var 0 "points") (.var 1 "motion")) [
    .set 10 "away" (.call "turned" (.cons (.call "taken_from" (.cons (.var 8 "point") (.cons (.ix (.var 0 "points") (.var 3 "i")) .nil))) .nil)),
    .set 11 "moved" (.call "taken_from" (.cons (.var 9 "velocity") (.cons (.ix (.var 1 "motion") (.var 3 "i")) .nil))),
    .ite (.or (.cmp .NotEq (.bin .Mult false (.var 6 "size") (.ix (.var 11 "moved") (.int 0))) (.bin .Mult false (.var 7 "spin") (.ix (.var 10 "away") (.int 0)))) (.one (.cmp .NotEq (.bin .Mult false (.var 6 "size") (.ix (.var 11 "moved") (.int 1))) (.bin .Mult false (.var 7 "spin") (.ix (.var 10 "away") (.int 1)))))) [
      .ret (.bl false)] []],
  .ret (.bl true)], true⟩
def _law_rigid : MD := ⟨["_law_points_here", "_law_motion"], ["_law_points_here", "_law_motion", "_law_pairs", "_law_i", "_law_j", "_law_d", "_law_w", "_law_spin", "_law_size", "_law_other", "_law_less_here"], [
  .set 2 "_law_pairs" (.lst true .nil),
  .for (.nm 3 "_law_i") (.rng1 (.bi .len (.cons (.var 0 "_law_points_here") .nil))) [
    .for (.nm 4 "_law_j") (.rng1 (.var 3 "_law_i")) [
      .set 5 "_law_d" (.tup (.cons (.bin .Sub false (.ix (.ix (.var 0 "_law_points_here") (.var 3 "_law_i")) (.int 0)) (.ix (.ix (.var 0 "_law_points_here") (.var 4 "_law_j")) (.int 0))) (.cons (.bin .Sub false (.ix (.ix (.var 0 "_law_points_here") (.var 3 "_law_i")) (.int 1)) (.ix (.ix (.var 0 "_law_points_here") (.var 4 "_law_j")) (.int 1))) .nil))),
      .set 6 "_law_w" (.tup (.cons (.bin .Sub false (.ix (.ix (.var 1 "_law_motion") (.var 3 "_law_i")) (.int 0)) (.ix (.ix (.var 1 "_law_motion") (.var 4 "_law_j")) (.int 0))) (.cons (.bin .Sub false (.ix (.ix (.var 1 "_law_motion") (.var 3 "_law_i")) (.int 1)) (.ix (.ix (.var 1 "_law_motion") (.var 4 "_law_j")) (.int 1))) .nil))),
      .ite (.or (.cmp .NotEq (.bin .Add false (.bin .Mult false (.ix (.var 5 "_law_d") (.int 0)) (.ix (.var 6 "_law_w") (.int 0))) (.bin .Mult false (.ix (.var 5 "_law_d") (.int 1)) (.ix (.var 6 "_law_w") (.int 1)))) (.int 0)) (.one (.and (.cmp .Eq (.var 5 "_law_d") (.tup (.cons (.int 0) (.cons (.int 0) .nil)))) (.one (.cmp .NotEq (.var 6 "_law_w") (.tup (.cons (.int 0) (.cons (.int 0) .nil)))))))) [
        .ret (.bl false)] [],
      .ex (.bm .append (.var 2 "_law_pairs") (.cons (.tup (.cons (.bin .Sub false (.bin .Mult false (.ix (.var 5 "_law_d") (.int 0)) (.ix (.var 6 "_law_w") (.int 1))) (.bin .Mult false (.ix (.var 5 "_law_d") (.int 1)) (.ix (.var 6 "_law_w") (.int 0)))) (.cons (.bin .Add false (.bin .Mult false (.ix (.var 5 "_law_d") (.int 0)) (.ix (.var 5 "_law_d") (.int 0))) (.bin .Mult false (.ix (.var 5 "_law_d") (.int 1)) (.ix (.var 5 "_law_d") (.int 1)))) .nil))) .nil))]],
  .for (.tp (.cons (.nm 7 "_law_spin") (.cons (.nm 8 "_law_size") .nil))) (.over (.var 2 "_law_pairs")) [
    .for (.tp (.cons (.nm 9 "_law_other") (.cons (.nm 10 "_law_less_here") .nil))) (.over (.var 2 "_law_pairs")) [
      .ite (.cmp .NotEq (.bin .Mult false (.var 7 "_law_spin") (.var 10 "_law_less_here")) (.bin .Mult false (.var 9 "_law_other") (.var 8 "_law_size"))) [
        .ret (.bl false)] []]],
  .ret (.bl true)], true⟩
end Lib
end Mi
end L2

namespace K09
open PySem PySem.Spec PyProof.Rows L2 L2.Mi
def top (i : Nat) : Stmt := PySem.Challenge.pw_loadorloose_k09_motions_of_numbers.main.body.getD i (.Pass ⟨0, 0, 0, 0⟩)
def sub (i j : Nat) : Stmt := (C8.clsBody (top i)).getD j (.Pass ⟨0, 0, 0, 0⟩)
def i_common_divisor : DI := ⟨("common_divisor", none), "common_divisor", "common_divisor", (top 2), Lib.common_divisor, ["a", "b"]⟩
theorem k_common_divisor : i_common_divisor.ok = true := by decide +kernel
theorem b_common_divisor : BindD i_common_divisor := fun _ _ _ _ _ _ us hl => match us, hl with | [_, _], _ => rfl
def i_number : DI := ⟨("number", none), "number", "number", (top 3), Lib.number, ["n", "d", "divisor"]⟩
theorem k_number : i_number.ok = true := by decide +kernel
theorem b_number : BindD i_number := fun _ _ _ _ _ _ us hl => match us, hl with | [_, _], _ => rfl
def i_plus : DI := ⟨("plus", none), "plus", "plus", (top 4), Lib.plus, ["a", "b"]⟩
theorem k_plus : i_plus.ok = true := by decide +kernel
theorem b_plus : BindD i_plus := fun _ _ _ _ _ _ us hl => match us, hl with | [_, _], _ => rfl
def i_times : DI := ⟨("times", none), "times", "times", (top 5), Lib.times, ["a", "b"]⟩
theorem k_times : i_times.ok = true := by decide +kernel
theorem b_times : BindD i_times := fun _ _ _ _ _ _ us hl => match us, hl with | [_, _], _ => rfl
def i_total : DI := ⟨("total", none), "total", "total", (top 6), Lib.total, ["numbers", "found", "part"]⟩
theorem k_total : i_total.ok = true := by decide +kernel
theorem b_total : BindD i_total := fun _ _ _ _ _ _ us hl => match us, hl with | [_], _ => rfl
def i_product : DI := ⟨("product", none), "product", "product", (top 8), Lib.product_2, ["v", "w"]⟩
theorem k_product : i_product.ok = true := by decide +kernel
theorem b_product : BindD i_product := fun _ _ _ _ _ _ us hl => match us, hl with | [_, _], _ => rfl
def i_taken_from : DI := ⟨("taken_from", none), "taken_from", "taken_from", (top 9), Lib.taken_from, ["v", "w"]⟩
theorem k_taken_from : i_taken_from.ok = true := by decide +kernel
theorem b_taken_from : BindD i_taken_from := fun _ _ _ _ _ _ us hl => match us, hl with | [_, _], _ => rfl
def i_span : DI := ⟨("span", none), "span", "span", (top 10), Lib.span, ["frame", "k", "points", "members", "_"]⟩
theorem k_span : i_span.ok = true := by decide +kernel
theorem b_span : BindD i_span := fun _ _ _ _ _ _ us hl => match us, hl with | [_, _], _ => rfl
def i_growth : DI := ⟨("growth", none), "growth", "growth", (top 11), Lib.growth, ["frame", "k", "motion", "i", "j"]⟩
theorem k_growth : i_growth.ok = true := by decide +kernel
theorem b_growth : BindD i_growth := fun _ _ _ _ _ _ us hl => match us, hl with | [_, _, _], _ => rfl
def i_work : DI := ⟨("work", none), "work", "work", (top 12), Lib.work, ["load", "motion", "found"]⟩
theorem k_work : i_work.ok = true := by decide +kernel
theorem b_work : BindD i_work := fun _ _ _ _ _ _ us hl => match us, hl with | [_, _], _ => rfl
def i__law_cell : DI := ⟨("_law_cell", none), "_law_cell", "_law_cell", (top 14), Lib._law_cell, ["_law_script", "_law_k"]⟩
theorem k__law_cell : i__law_cell.ok = true := by decide +kernel
theorem b__law_cell : BindD i__law_cell := fun _ _ _ _ _ _ us hl => match us, hl with | [_, _], _ => rfl
def i__law_parts : DI := ⟨("_law_parts", none), "_law_parts", "_law_parts", (top 15), Lib._law_parts, ["_law_cell_here", "_law_sizes", "_law_parts_here", "_law_left", "_law_k", "_law_mixed"]⟩
theorem k__law_parts : i__law_parts.ok = true := by decide +kernel
theorem b__law_parts : BindD i__law_parts := fun _ _ _ _ _ _ us hl => match us, hl with | [_, _], _ => rfl
def i__law_divisor : DI := ⟨("_law_divisor", none), "_law_divisor", "_law_divisor", (top 16), Lib._law_divisor, ["_law_a", "_law_b", "_law_k"]⟩
theorem k__law_divisor : i__law_divisor.ok = true := by decide +kernel
theorem b__law_divisor : BindD i__law_divisor := fun _ _ _ _ _ _ us hl => match us, hl with | [_, _], _ => rfl
def i__law_number : DI := ⟨("_law_number", none), "_law_number", "_law_number", (top 17), Lib._law_number, ["_law_n", "_law_d", "_law_divisor_here"]⟩
theorem k__law_number : i__law_number.ok = true := by decide +kernel
theorem b__law_number : BindD i__law_number := fun _ _ _ _ _ _ us hl => match us, hl with | [_, _], _ => rfl
def i__law_plus : DI := ⟨("_law_plus", none), "_law_plus", "_law_plus", (top 18), Lib._law_plus, ["_law_a", "_law_b"]⟩
theorem k__law_plus : i__law_plus.ok = true := by decide +kernel
theorem b__law_plus : BindD i__law_plus := fun _ _ _ _ _ _ us hl => match us, hl with | [_, _], _ => rfl
def i__law_times : DI := ⟨("_law_times", none), "_law_times", "_law_times", (top 19), Lib._law_times, ["_law_a", "_law_b"]⟩
theorem k__law_times : i__law_times.ok = true := by decide +kernel
theorem b__law_times : BindD i__law_times := fun _ _ _ _ _ _ us hl => match us, hl with | [_, _], _ => rfl
def i__law_less : DI := ⟨("_law_less", none), "_law_less", "_law_less", (top 20), Lib._law_less, ["_law_a", "_law_b"]⟩
theorem k__law_less : i__law_less.ok = true := by decide +kernel
theorem b__law_less : BindD i__law_less := fun _ _ _ _ _ _ us hl => match us, hl with | [_, _], _ => rfl
def i__law_total : DI := ⟨("_law_total", none), "_law_total", "_law_total", (top 21), Lib._law_total, ["_law_numbers", "_law_found", "_law_part"]⟩
theorem k__law_total : i__law_total.ok = true := by decide +kernel
theorem b__law_total : BindD i__law_total := fun _ _ _ _ _ _ us hl => match us, hl with | [_], _ => rfl
def i__law_is_number : DI := ⟨("_law_is_number", none), "_law_is_number", "_law_is_number", (top 22), Lib._law_is_number, ["_law_actual"]⟩
theorem k__law_is_number : i__law_is_number.ok = true := by decide +kernel
theorem b__law_is_number : BindD i__law_is_number := fun _ _ _ _ _ _ us hl => match us, hl with | [_], _ => rfl
def i__law_is_row : DI := ⟨("_law_is_row", none), "_law_is_row", "_law_is_row", (top 23), Lib._law_is_row, ["_law_actual", "_law_count"]⟩
theorem k__law_is_row : i__law_is_row.ok = true := by decide +kernel
theorem b__law_is_row : BindD i__law_is_row := fun _ _ _ _ _ _ us hl => match us, hl with | [_, _], _ => rfl
def i__law_points : DI := ⟨("_law_points", none), "_law_points", "_law_points", (top 24), Lib._law_points, ["_law_script", "_law_n", "_law_size", "_law_points_here", "_law_k", "_law_parts_here"]⟩
theorem k__law_points : i__law_points.ok = true := by decide +kernel
theorem b__law_points : BindD i__law_points := fun _ _ _ _ _ _ us hl => match us, hl with | [_, _, _], _ => rfl
def i__law_limits : DI := ⟨("_law_limits", none), "_law_limits", "_law_limits", (top 25), Lib._law_limits, ["_law_digit", "_law_style", "_law_limit", "_law_other", "_law_choice"]⟩
theorem k__law_limits : i__law_limits.ok = true := by decide +kernel
theorem b__law_limits : BindD i__law_limits := fun _ _ _ _ _ _ us hl => match us, hl with | [_, _], _ => rfl
def i__law_members : DI := ⟨("_law_members", none), "_law_members", "_law_members", (top 26), Lib._law_members, ["_law_script", "_law_points_here", "_law_style", "_law_n", "_law_draws", "_law_digits", "_law_members_here", "_law_at", "_law_i", "_law_j"]⟩
theorem k__law_members : i__law_members.ok = true := by decide +kernel
theorem b__law_members : BindD i__law_members := fun _ _ _ _ _ _ us hl => match us, hl with | [_, _, _], _ => rfl
def i__law_frame : DI := ⟨("_law_frame", none), "_law_frame", "_law_frame", (top 27), Lib._law_frame, ["_law_script", "_law_least", "_law_style", "_law_pinned", "_law_parts_here", "_law_n", "_law_points_here", "_law_pins"]⟩
theorem k__law_frame : i__law_frame.ok = true := by decide +kernel
theorem b__law_frame : BindD i__law_frame := fun _ _ _ _ _ _ us hl => match us, hl with | [_, _, _, _], _ => rfl
def i__law_load : DI := ⟨("_law_load", none), "_law_load", "_law_load", (top 28), Lib._law_load, ["_law_script", "_law_n", "_law_size", "_law_digits", "_law_kept", "_law_load_here", "_law_k", "_law_force"]⟩
theorem k__law_load : i__law_load.ok = true := by decide +kernel
theorem b__law_load : BindD i__law_load := fun _ _ _ _ _ _ us hl => match us, hl with | [_, _, _], _ => rfl
def i_law : DI := ⟨("law", none), "law", "law", (top 29), Lib.law_9, ["_law_script", "_law_frame_here", "_law_n", "_law_load_here", "_law_digits", "_law_numbers", "_law_motion", "_law_k", "_law_i", "_law_j", "_law_due", "_law_which", "_law_apart"]⟩
theorem k_law : i_law.ok = true := by decide +kernel
theorem b_law : BindD i_law := fun _ _ _ _ _ _ us hl => match us, hl with | [_], _ => rfl
def Pr : Prog := ⟨true, [("NOUGHT", [0, 1])], [i_common_divisor, i_number, i_plus, i_times, i_total, i_product, i_taken_from, i_span, i_growth, i_work, i__law_cell, i__law_parts, i__law_divisor, i__law_number, i__law_plus, i__law_times, i__law_less, i__law_total, i__law_is_number, i__law_is_row, i__law_points, i__law_limits, i__law_members, i__law_frame, i__law_load, i_law], []⟩
theorem oks : Pr.ds.all DI.ok = true := List.all_eq_true.mpr (AllK.of ⟨k_common_divisor, k_number, k_plus, k_times, k_total, k_product, k_taken_from, k_span, k_growth, k_work, k__law_cell, k__law_parts, k__law_divisor, k__law_number, k__law_plus, k__law_times, k__law_less, k__law_total, k__law_is_number, k__law_is_row, k__law_points, k__law_limits, k__law_members, k__law_frame, k__law_load, k_law, trivial⟩)
theorem binds : BindA Pr.ds := ⟨b_common_divisor, b_number, b_plus, b_times, b_total, b_product, b_taken_from, b_span, b_growth, b_work, b__law_cell, b__law_parts, b__law_divisor, b__law_number, b__law_plus, b__law_times, b__law_less, b__law_total, b__law_is_number, b__law_is_row, b__law_points, b__law_limits, b__law_members, b__law_frame, b__law_load, b_law, trivial⟩
def nm0 : List Str := ["common_divisor", "number", "plus", "times", "total", "product", "taken_from", "span", "growth", "work", "_law_cell", "_law_parts", "_law_divisor", "_law_number", "_law_plus", "_law_times", "_law_less", "_law_total", "_law_is_number", "_law_is_row"]
def nm1 : List Str := ["_law_points", "_law_limits", "_law_members", "_law_frame", "_law_load", "NOUGHT"]
def names : List Str := nm0 ++ nm1
abbrev R : PySem.W.OpenRow := PySem.W.OpenLaw.row PySem.Challenge.rw_loadorloose_k09_motions_of_numbers
theorem run (w : World) : HandSHeadRun.RunEq R (PySem.W.view R.prog [29]) (Pr.hook 4) (Pr.obs 4) 4000 names w := by
  intro os
  kernel_rfl
theorem isLaw : Pr.at ("law", none) = some i_law := by rfl
theorem l_common_divisor (n : Nat) : (Pr.G (n + 1)).fns.lookup ("common_divisor" : Str) = some (runD (Pr.G n) Lib.common_divisor) := by rfl
theorem l_number (n : Nat) : (Pr.G (n + 1)).fns.lookup ("number" : Str) = some (runD (Pr.G n) Lib.number) := by rfl
theorem l_plus (n : Nat) : (Pr.G (n + 1)).fns.lookup ("plus" : Str) = some (runD (Pr.G n) Lib.plus) := by rfl
theorem l_times (n : Nat) : (Pr.G (n + 1)).fns.lookup ("times" : Str) = some (runD (Pr.G n) Lib.times) := by rfl
theorem l_total (n : Nat) : (Pr.G (n + 1)).fns.lookup ("total" : Str) = some (runD (Pr.G n) Lib.total) := by rfl
theorem l_product (n : Nat) : (Pr.G (n + 1)).fns.lookup ("product" : Str) = some (runD (Pr.G n) Lib.product_2) := by rfl
theorem l_taken_from (n : Nat) : (Pr.G (n + 1)).fns.lookup ("taken_from" : Str) = some (runD (Pr.G n) Lib.taken_from) := by rfl
theorem l_span (n : Nat) : (Pr.G (n + 1)).fns.lookup ("span" : Str) = some (runD (Pr.G n) Lib.span) := by rfl
theorem l_growth (n : Nat) : (Pr.G (n + 1)).fns.lookup ("growth" : Str) = some (runD (Pr.G n) Lib.growth) := by rfl
theorem l_work (n : Nat) : (Pr.G (n + 1)).fns.lookup ("work" : Str) = some (runD (Pr.G n) Lib.work) := by rfl
theorem l__law_cell (n : Nat) : (Pr.G (n + 1)).fns.lookup ("_law_cell" : Str) = some (runD (Pr.G n) Lib._law_cell) := by rfl
theorem l__law_parts (n : Nat) : (Pr.G (n + 1)).fns.lookup ("_law_parts" : Str) = some (runD (Pr.G n) Lib._law_parts) := by rfl
theorem l__law_divisor (n : Nat) : (Pr.G (n + 1)).fns.lookup ("_law_divisor" : Str) = some (runD (Pr.G n) Lib._law_divisor) := by rfl
theorem l__law_number (n : Nat) : (Pr.G (n + 1)).fns.lookup ("_law_number" : Str) = some (runD (Pr.G n) Lib._law_number) := by rfl
theorem l__law_plus (n : Nat) : (Pr.G (n + 1)).fns.lookup ("_law_plus" : Str) = some (runD (Pr.G n) Lib._law_plus) := by rfl
theorem l__law_times (n : Nat) : (Pr.G (n + 1)).fns.lookup ("_law_times" : Str) = some (runD (Pr.G n) Lib._law_times) := by rfl
theorem l__law_less (n : Nat) : (Pr.G (n + 1)).fns.lookup ("_law_less" : Str) = some (runD (Pr.G n) Lib._law_less) := by rfl
theorem l__law_total (n : Nat) : (Pr.G (n + 1)).fns.lookup ("_law_total" : Str) = some (runD (Pr.G n) Lib._law_total) := by rfl
theorem l__law_is_number (n : Nat) : (Pr.G (n + 1)).fns.lookup ("_law_is_number" : Str) = some (runD (Pr.G n) Lib._law_is_number) := by rfl
theorem l__law_is_row (n : Nat) : (Pr.G (n + 1)).fns.lookup ("_law_is_row" : Str) = some (runD (Pr.G n) Lib._law_is_row) := by rfl
theorem l__law_points (n : Nat) : (Pr.G (n + 1)).fns.lookup ("_law_points" : Str) = some (runD (Pr.G n) Lib._law_points) := by rfl
theorem l__law_limits (n : Nat) : (Pr.G (n + 1)).fns.lookup ("_law_limits" : Str) = some (runD (Pr.G n) Lib._law_limits) := by rfl
theorem l__law_members (n : Nat) : (Pr.G (n + 1)).fns.lookup ("_law_members" : Str) = some (runD (Pr.G n) Lib._law_members) := by rfl
theorem l__law_frame (n : Nat) : (Pr.G (n + 1)).fns.lookup ("_law_frame" : Str) = some (runD (Pr.G n) Lib._law_frame) := by rfl
theorem l__law_load (n : Nat) : (Pr.G (n + 1)).fns.lookup ("_law_load" : Str) = some (runD (Pr.G n) Lib._law_load) := by rfl
theorem l_law (n : Nat) : (Pr.G (n + 1)).fns.lookup ("law" : Str) = some (runD (Pr.G n) Lib.law_9) := by rfl
end K09

/-! Mini: reckoning by simp. -/
namespace L2
namespace Mi
open PySem PySem.Spec PyProof.Rows
variable {G : Sig}
@[simp] theorem grd_nil (M : Mem) : Grd [] M = True := by simp [Grd]
theorem grd_one (i : Nat) (ts : List T) (M : Mem) : Grd [(i, ts)] M = (M[i]? = some (.lst ts)) := by simp [Grd]
/-- an answer without objects, nothing old changed -/
theorem fin_pure (M : Mem) (r : T) (M1 : List O) (h : pureT r = true) : fin true M r (M ++ M1) = (r, M) := by
  unfold fin
  rw [if_pos ⟨rfl, by simp⟩, seal_pure h]
theorem fin_pure0 (M : Mem) (r : T) (h : pureT r = true) : fin true M r M = (r, M) := by
  have := fin_pure M r [] h
  rwa [List.append_nil] at this
/-- a list of ours without objects within -/
theorem fin_obj (M : Mem) (ts : List T) (M1 : List O) (i : Nat) (hi : M.length ≤ i) (e : (M ++ M1)[i]? = some (.lst ts)) (h : pureTs ts = true) : fin true M (.obj i) (M ++ M1) = (.fl ts, M) := by
  have hm : ∀ ts : List T, pureTs ts = true → ts.mapM (sealT (M ++ M1) M.length 5) = some ts := by
    intro ts
    induction ts with
    | nil => intro _; rfl
    | cons t ts ih =>
      intro h
      simp only [pureTs, Bool.and_eq_true] at h
      rw [List.mapM_cons, seal_pure h.1, ih h.2]
      rfl
  unfold fin
  rw [if_pos ⟨rfl, by simp⟩]
  have : sealT (M ++ M1) M.length 6 (.obj i) = some (.fl ts) := by
    unfold sealT
    rw [if_neg (by simp [pureT])]
    simp only [if_pos hi, e]
    rw [hm ts h]
    rfl
  rw [this]
noncomputable def outD (sl : Bool) (M : Mem) : R → Option (T × Mem)
  | .rt t M1 => some (fin sl M t M1)
  | .nx _ M1 => some (fin sl M .non M1)
  | _ => none
theorem runD_def (d : MD) (ts : List T) (M : Mem) (h : ts.length = d.ps.length) : runD G d ts M = (exSs G d.body (startE d.N ts) M).bind (outD d.sl M) := by
  unfold runD
  rw [if_pos h]
  congr 1
/-- a body that answers -/
theorem run_rt {d : MD} {ts : List T} {M : Mem} {t : T} {M1 : Mem} (h : ts.length = d.ps.length) (e : exSs G d.body (startE d.N ts) M = some (.rt t M1)) : runD G d ts M = some (fin d.sl M t M1) := by
  rw [runD_def d ts M h, e]; rfl
theorem run_pure {d : MD} {ts : List T} {M : Mem} {t : T} {M1 : Mem} (h : ts.length = d.ps.length) (hs : d.sl = true) (hp : pureT t = true) (e : exSs G d.body (startE d.N ts) M = some (.rt t (M ++ M1))) : runD G d ts M = some (t, M) := by
  rw [run_rt h e, hs, fin_pure M t M1 hp]
theorem ixN_n {n i : Nat} (h : i < n) : ixN n (i : Int) = some i := by
  unfold ixN
  rw [if_pos (by omega), if_pos (by omega)]
  first | rfl | simp
theorem atI_n {α : Type} (ts : List α) (i : Nat) : atI ts (i : Int) = ts[i]? := by
  by_cases h : i < ts.length
  · unfold atI; rw [ixN_n h]; rfl
  · rw [List.getElem?_eq_none (by omega)]
    unfold atI ixN
    rw [if_pos (by omega), if_neg (by omega)]
    rfl
theorem atI_i {α : Type} (ts : List α) {i : Int} (h : 0 ≤ i) : atI ts i = ts[i.toNat]? := by
  rw [← atI_n, Int.toNat_of_nonneg h]
theorem rngL_lt {lo hi : Int} (h : lo < hi) : rngL lo hi = .int lo :: rngL (lo + 1) hi := by
  unfold rngL
  have e : (hi - lo).toNat = (hi - (lo + 1)).toNat + 1 := by omega
  rw [e, List.range_succ_eq_map, List.map_cons, List.map_map]
  congr 1
  · simp
  · apply List.map_congr_left
    intro i _
    show T.int _ = T.int _
    congr 1
    simp only [Nat.succ_eq_add_one]
    omega
theorem rngL_ge {lo hi : Int} (h : hi ≤ lo) : rngL lo hi = [] := by
  unfold rngL
  rw [show (hi - lo).toNat = 0 by omega]
  rfl
theorem rngOk_small {i j : Int} (h1 : 0 ≤ i) (h2 : i < 2 ^ 60) (h3 : 0 ≤ j) (h4 : j < 2 ^ 60) : rngOk i j := by unfold rngOk; omega
theorem log2_lt {j : Int} {k : Nat} (h : j.natAbs < 2 ^ k) (hk : 0 < k) : j.natAbs.log2 < k := by
  by_cases h0 : j.natAbs = 0
  · rw [h0]; simpa using hk
  · exact (Nat.log2_lt h0).mpr h
theorem divOk_of {j : Int} {k : Nat} (h0 : j ≠ 0) (h : j.natAbs < 2 ^ k) (hk : 0 < k) (hl : k ≤ 9000) : divOk j := h0
theorem mulOk_of {i j : Int} {a b : Nat} (h1 : i.natAbs < 2 ^ a) (h2 : j.natAbs < 2 ^ b) (ha : 0 < a) (hb : 0 < b) (hl : a + b ≤ 134000000) : mulOk i j := by
  unfold mulOk
  have := log2_lt h1 ha
  have := log2_lt h2 hb
  omega
/-! ### equations for simp -/
noncomputable def nxt (G : Sig) (ss : List MS) : R → Option R
  | .nx σ M => exSs G ss σ M
  | r => some r
@[simp] theorem nxt_nx (ss : List MS) (σ : En) (M : Mem) : nxt G ss (.nx σ M) = exSs G ss σ M := rfl
@[simp] theorem nxt_rt (ss : List MS) (t : T) (M : Mem) : nxt G ss (.rt t M) = some (.rt t M) := rfl
@[simp] theorem nxt_bk (ss : List MS) (σ : En) (M : Mem) : nxt G ss (.bk σ M) = some (.bk σ M) := rfl
@[simp] theorem nxt_ct (ss : List MS) (σ : En) (M : Mem) : nxt G ss (.ct σ M) = some (.ct σ M) := rfl
@[simp] theorem xs_nil (σ : En) (M : Mem) : exSs G [] σ M = some (.nx σ M) := by rw [exSs]
@[simp] theorem xs_cons (s : MS) (ss : List MS) (σ : En) (M : Mem) : exSs G (s :: ss) σ M = (exS G s σ M).bind (nxt G ss) := by
  rw [exSs]
  cases h : exS G s σ M with
  | none => rfl
  | some r => cases r <;> rfl
@[simp] theorem x_set (i : Nat) (x : Str) (e : ME) (σ : En) (M : Mem) : exS G (.set i x e) σ M = (evE G e σ M).map fun p => .nx (σ.set i (some p.1)) p.2 := by rw [exS]
@[simp] theorem x_asg (t : MT) (e : ME) (σ : En) (M : Mem) : exS G (.asg t e) σ M = (evE G e σ M).bind fun p => (asgT t p.1 σ).map fun σ1 => .nx σ1 p.2 := by rw [exS]
@[simp] theorem x_setI (o i e : ME) (σ : En) (M : Mem) : exS G (.setI o i e) σ M = (evE G e σ M).bind fun v => (evE G o σ v.2).bind fun p => (evE G i σ p.2).bind fun q => (setT p.1 q.1 v.1 q.2).map fun M1 => .nx σ M1 := by rw [exS]
@[simp] theorem x_par (xs : List (Nat × Str)) (es : MEs) (σ : En) (M : Mem) : exS G (.par xs es) σ M = (evEs G es σ M).bind fun p => if p.1.length = xs.length then some (.nx (parE σ xs p.1) p.2) else none := by rw [exS]
@[simp] theorem x_aug (i : Nat) (x : Str) (op : Operator) (e : ME) (σ : En) (M : Mem) : exS G (.aug i x op e) σ M = (σ[i]?.bind id).bind fun x => (evE G e σ M).bind fun p => (augT op x p.1).map fun y => .nx (σ.set i (some y)) p.2 := by
  rw [exS]
  cases σ[i]? with
  | none => rfl
  | some o => cases o <;> rfl
@[simp] theorem x_augI (o i : ME) (op : Operator) (e : ME) (σ : En) (M : Mem) : exS G (.augI o i op e) σ M = (evE G o σ M).bind fun p => (evE G i σ p.2).bind fun q => (ixT p.1 q.1 q.2).bind fun x => (evE G e σ q.2).bind fun y => (augT op x y.1).bind fun z =>
      (setT p.1 q.1 z y.2).map fun M1 => .nx σ M1 := by rw [exS]
@[simp] theorem x_ex (e : ME) (σ : En) (M : Mem) : exS G (.ex e) σ M = (evE G e σ M).map fun p => .nx σ p.2 := by rw [exS]
@[simp] theorem x_ret (e : ME) (σ : En) (M : Mem) : exS G (.ret e) σ M = (evE G e σ M).map fun p => .rt p.1 p.2 := by rw [exS]
@[simp] theorem x_retN (σ : En) (M : Mem) : exS G .retN σ M = some (.rt .non M) := by rw [exS]
@[simp] theorem x_brk (σ : En) (M : Mem) : exS G .brk σ M = some (.bk σ M) := by rw [exS]
@[simp] theorem x_cnt (σ : En) (M : Mem) : exS G .cnt σ M = some (.ct σ M) := by rw [exS]
@[simp] theorem x_pas (σ : En) (M : Mem) : exS G .pas σ M = some (.nx σ M) := by rw [exS]
@[simp] theorem x_ite (c : ME) (a b : List MS) (σ : En) (M : Mem) : exS G (.ite c a b) σ M = (tst (evE G c σ M)).bind fun p => if p.1 = true then exSs G a σ p.2 else exSs G b σ p.2 := by rw [exS]
@[simp] theorem e_var (i : Nat) (x : Str) (σ : En) (M : Mem) : evE G (.var i x) σ M = (σ[i]?.bind id).map fun t => (t, M) := by
  rw [evE]
  cases σ[i]? with
  | none => rfl
  | some o => cases o <;> rfl
@[simp] theorem e_glb (x : Str) (σ : En) (M : Mem) : evE G (.glb x) σ M = (G.glbs.lookup x).map fun t => (t, M) := by rw [evE]
@[simp] theorem e_non (σ : En) (M : Mem) : evE G .non σ M = some (.non, M) := by rw [evE]
@[simp] theorem e_bl (b : Bool) (σ : En) (M : Mem) : evE G (.bl b) σ M = some (.bl b, M) := by rw [evE]
@[simp] theorem e_int (i : Int) (σ : En) (M : Mem) : evE G (.int i) σ M = some (.int i, M) := by rw [evE]
@[simp] theorem e_str (x : Str) (σ : En) (M : Mem) : evE G (.str x) σ M = some (.str x, M) := by rw [evE]
@[simp] theorem e_bin (op : Operator) (tr : Bool) (a b : ME) (σ : En) (M : Mem) : evE G (.bin op tr a b) σ M = (evE G a σ M).bind fun p => (evE G b σ p.2).bind fun q => binT op tr p.1 q.1 q.2 := by rw [evE]
def negT : T → Option T
  | .int i => some (.int (-i))
  | _ => none
@[simp] theorem neg_int (i : Int) : negT (.int i) = some (.int (-i)) := rfl
@[simp] theorem e_neg (a : ME) (σ : En) (M : Mem) : evE G (.neg a) σ M = (evE G a σ M).bind fun p => (negT p.1).map fun t => (t, p.2) := by
  rw [evE]
  congr 1
  funext p
  obtain ⟨t, m⟩ := p
  cases t <;> rfl
@[simp] theorem e_not (a : ME) (σ : En) (M : Mem) : evE G (.not a) σ M = (tst (evE G a σ M)).map fun p => (.bl (!p.1), p.2) := by rw [evE]
@[simp] theorem e_one (a : ME) (σ : En) (M : Mem) : evE G (.one a) σ M = evE G a σ M := by rw [evE]
@[simp] theorem e_and (a b : ME) (σ : En) (M : Mem) : evE G (.and a b) σ M = (evE G a σ M).bind fun p => (truth p.2 p.1).bind fun c => if c = true then evE G b σ p.2 else some p := by rw [evE]
@[simp] theorem e_or (a b : ME) (σ : En) (M : Mem) : evE G (.or a b) σ M = (evE G a σ M).bind fun p => (truth p.2 p.1).bind fun c => if c = true then some p else evE G b σ p.2 := by rw [evE]
@[simp] theorem e_cmp (op : CmpOp) (a b : ME) (σ : En) (M : Mem) : evE G (.cmp op a b) σ M = (evE G a σ M).bind fun p => (evE G b σ p.2).bind fun q => (cmpT op p.1 q.1 q.2).map fun c => (.bl c, q.2) := by rw [evE]
@[simp] theorem e_ife (c a b : ME) (σ : En) (M : Mem) : evE G (.ife c a b) σ M = (tst (evE G c σ M)).bind fun p => if p.1 = true then evE G a σ p.2 else evE G b σ p.2 := by rw [evE]
@[simp] theorem e_call (f : Str) (es : MEs) (σ : En) (M : Mem) : evE G (.call f es) σ M = (evEs G es σ M).bind fun p => (G.fns.lookup f).bind fun F => F p.1 p.2 := by rw [evE]
@[simp] theorem e_bi (b : BI) (es : MEs) (σ : En) (M : Mem) : evE G (.bi b es) σ M = (evEs G es σ M).bind fun p => biT b p.1 p.2 := by rw [evE]
@[simp] theorem e_isi (a : ME) (ty : String) (σ : En) (M : Mem) : evE G (.isi a ty) σ M = (evE G a σ M).bind fun p => (isiT p.2 ty p.1).map fun c => (.bl c, p.2) := by rw [evE]
@[simp] theorem e_bm (b : BM) (o : ME) (es : MEs) (σ : En) (M : Mem) : evE G (.bm b o es) σ M = (evE G o σ M).bind fun p => (lof p.2 p.1).bind fun _ => (evEs G es σ p.2).bind fun q => bmT b p.1 q.1 q.2 := by rw [evE]
@[simp] theorem e_ix (a b : ME) (σ : En) (M : Mem) : evE G (.ix a b) σ M = (evE G a σ M).bind fun p => (evE G b σ p.2).bind fun q => (ixT p.1 q.1 q.2).map fun t => (t, q.2) := by rw [evE]
@[simp] theorem e_slc (tr : Bool) (a lo hi : ME) (σ : En) (M : Mem) : evE G (.slc tr a lo hi) σ M = (evE G a σ M).bind fun p => (evP G lo σ p.2).bind fun l => (evP G hi σ l.2).bind fun h => slT tr p.1 l.1 h.1 h.2 := by rw [evE]
@[simp] theorem e_rev (tr : Bool) (a : ME) (σ : En) (M : Mem) : evE G (.rev tr a) σ M = (evE G a σ M).bind fun p => (lofS p.2 p.1).map fun ts => mkL tr ts.reverse p.2 := by rw [evE]
@[simp] theorem e_tup (es : MEs) (σ : En) (M : Mem) : evE G (.tup es) σ M = (evEs G es σ M).bind fun p => if p.1.length ≤ 16777216 then some (.tup p.1, p.2) else none := by rw [evE]
@[simp] theorem e_lst (tr : Bool) (es : MEs) (σ : En) (M : Mem) : evE G (.lst tr es) σ M = (evEs G es σ M).bind fun p => if p.1.length ≤ 16777216 then some (mkL tr p.1 p.2) else none := by rw [evE]
@[simp] theorem e_dnew (t : Bool) (σ : En) (M : Mem) : evE G (.dnew t) σ M = if t = true ∧ G.kt = true then none else some (.obj M.length, M ++ [.dic t [] []]) := by rw [evE]
@[simp] theorem p_no (σ : En) (M : Mem) : evP G .nopart σ M = some (none, M) := by rw [evP]
@[simp] theorem p_int (i : Int) (σ : En) (M : Mem) : evP G (.int i) σ M = some (some i, M) := by rw [evP]
def prtT : T → Option (Option Int)
  | .int i => some (some i)
  | _ => none
@[simp] theorem prt_int (i : Int) : prtT (.int i) = some (some i) := rfl
theorem p_gen {m : ME} (h : isNoP m = false) (σ : En) (M : Mem) : evP G m σ M = (evE G m σ M).bind fun p => (prtT p.1).map fun o => (o, p.2) := by
  have key : ∀ x : Option (T × Mem), (x.bind fun p => match p.1 with
    | .int i => some (some i, p.2)
    | _ => none) = x.bind fun p => (prtT p.1).map fun o => (o, p.2) := fun x => by
    congr 1
    funext p
    obtain ⟨t, m⟩ := p
    cases t <;> rfl
  cases m with
  | nopart => cases h
  | int i => rw [evP, evE]; rfl
  | _ => unfold evP; exact key _
@[simp] theorem p_var (i : Nat) (x : Str) (σ : En) (M : Mem) : evP G (.var i x) σ M = (evE G (.var i x) σ M).bind fun p => (prtT p.1).map fun o => (o, p.2) := p_gen rfl σ M
@[simp] theorem p_bin (op : Operator) (tr : Bool) (a b : ME) (σ : En) (M : Mem) : evP G (.bin op tr a b) σ M = (evE G (.bin op tr a b) σ M).bind fun p => (prtT p.1).map fun o => (o, p.2) := p_gen rfl σ M
@[simp] theorem p_bi (b : BI) (es : MEs) (σ : En) (M : Mem) : evP G (.bi b es) σ M = (evE G (.bi b es) σ M).bind fun p => (prtT p.1).map fun o => (o, p.2) := p_gen rfl σ M
@[simp] theorem p_ix (a b : ME) (σ : En) (M : Mem) : evP G (.ix a b) σ M = (evE G (.ix a b) σ M).bind fun p => (prtT p.1).map fun o => (o, p.2) := p_gen rfl σ M
@[simp] theorem p_neg (a : ME) (σ : En) (M : Mem) : evP G (.neg a) σ M = (evE G (.neg a) σ M).bind fun p => (prtT p.1).map fun o => (o, p.2) := p_gen rfl σ M
@[simp] theorem es_nil (σ : En) (M : Mem) : evEs G .nil σ M = some ([], M) := by rw [evEs]
@[simp] theorem es_cons (e : ME) (es : MEs) (σ : En) (M : Mem) : evEs G (.cons e es) σ M = (evE G e σ M).bind fun p => (evEs G es σ p.2).map fun q => (p.1 :: q.1, q.2) := by rw [evEs]
@[simp] theorem if_nil (σ : En) (M : Mem) : evIf G .nil σ M = some (true, M) := by rw [evIf]
@[simp] theorem if_one (e : ME) (σ : En) (M : Mem) : evIf G (.cons e .nil) σ M = tst (evE G e σ M) := by rw [evIf]
@[simp] theorem i_over (a : ME) (σ : En) (M : Mem) : evI G (.over a) σ M = (evE G a σ M).bind fun p => (sof p.2 p.1).map fun ts => ((ts, grdOf p.1 ts), p.2) := by rw [evI]
noncomputable def rg1 : T → Option Itm
  | .int j => if rngOk 0 j then some (rngL 0 j, []) else none
  | _ => none
@[simp] theorem rg1_int (j : Int) : rg1 (.int j) = if rngOk 0 j then some (rngL 0 j, []) else none := rfl
@[simp] theorem i_rng1 (a : ME) (σ : En) (M : Mem) : evI G (.rng1 a) σ M = (evE G a σ M).bind fun p => (rg1 p.1).map fun r => (r, p.2) := by
  rw [evI]
  congr 1
  funext p
  obtain ⟨t, m⟩ := p
  cases t <;> first
    | rfl
    | (simp only [rg1]; split <;> rfl)
noncomputable def rg2 : T → T → Option Itm
  | .int i, .int j => if rngOk i j then some (rngL i j, []) else none
  | _, _ => none
@[simp] theorem rg2_int (i j : Int) : rg2 (.int i) (.int j) = if rngOk i j then some (rngL i j, []) else none := rfl
@[simp] theorem i_rng2 (a b : ME) (σ : En) (M : Mem) : evI G (.rng2 a b) σ M = (evE G a σ M).bind fun p => (evE G b σ p.2).bind fun q => (rg2 p.1 q.1).map fun r => (r, q.2) := by
  rw [evI]
  congr 1
  funext p
  congr 1
  funext q
  obtain ⟨t, m⟩ := p
  obtain ⟨u, m'⟩ := q
  cases t <;> cases u <;> first
    | rfl
    | (simp only [rg2]; split <;> rfl)
@[simp] theorem i_enum (a : ME) (σ : En) (M : Mem) : evI G (.enum a) σ M = (evE G a σ M).bind fun p => (sof p.2 p.1).map fun ts => ((enumL 0 ts, grdOf p.1 ts), p.2) := by rw [evI]
@[simp] theorem i_zip2 (a b : ME) (σ : En) (M : Mem) : evI G (.zip2 a b) σ M = (evE G a σ M).bind fun p => (evE G b σ p.2).bind fun q => (sof q.2 p.1).bind fun xs => (sof q.2 q.1).map fun ys =>
      ((List.zipWith (fun x y => T.tup [x, y]) xs ys, grdOf p.1 xs ++ grdOf q.1 ys), q.2) := by rw [evI]
@[simp] theorem tst_some (t : T) (M : Mem) : tst (some (t, M)) = (truth M t).map fun b => (b, M) := rfl
@[simp] theorem tst_none : tst none = none := rfl
@[simp] theorem asg_nm (i : Nat) (x : Str) (t : T) (σ : En) : asgT (.nm i x) t σ = some (σ.set i (some t)) := by rw [asgT]
@[simp] theorem asg_tp (ts : MTs) (us : List T) (σ : En) : asgT (.tp ts) (.tup us) σ = asgTs ts us σ := by rw [asgT]
@[simp] theorem asgs_nil (σ : En) : asgTs .nil [] σ = some σ := by rw [asgTs]
@[simp] theorem asgs_cons (m : MT) (ms : MTs) (t : T) (ts : List T) (σ : En) : asgTs (.cons m ms) (t :: ts) σ = (asgT m t σ).bind fun σ1 => asgTs ms ts σ1 := by rw [asgTs]
@[simp] theorem at_0 {α : Type} (x : α) (xs : List α) : atI (x :: xs) 0 = some x := by rw [show (0 : Int) = ((0 : Nat) : Int) from rfl, atI_n]; rfl
@[simp] theorem at_1 {α : Type} (x y : α) (xs : List α) : atI (x :: y :: xs) 1 = some y := by rw [show (1 : Int) = ((1 : Nat) : Int) from rfl, atI_n]; rfl
@[simp] theorem at_2 {α : Type} (x y z : α) (xs : List α) : atI (x :: y :: z :: xs) 2 = some z := by rw [show (2 : Int) = ((2 : Nat) : Int) from rfl, atI_n]; rfl
@[simp] theorem at_3 {α : Type} (x y z w : α) (xs : List α) : atI (x :: y :: z :: w :: xs) 3 = some w := by rw [show (3 : Int) = ((3 : Nat) : Int) from rfl, atI_n]; rfl
@[simp] theorem ix_tup (ts : List T) (i : Int) (M : Mem) : ixT (.tup ts) (.int i) M = atI ts i := by simp [ixT, dof, sof]
@[simp] theorem ix_fl (ts : List T) (i : Int) (M : Mem) : ixT (.fl ts) (.int i) M = atI ts i := by simp [ixT, dof, sof, lofS, lof]
@[simp] theorem ix_sc (ns : List Int) (i : Int) (M : Mem) : ixT (.sc ns) (.int i) M = atI (ns.map T.int) i := by simp [ixT, dof, sof, lofS]
@[simp] theorem sof_tup (M : Mem) (ts : List T) : sof M (.tup ts) = some ts := rfl
@[simp] theorem sof_fl (M : Mem) (ts : List T) : sof M (.fl ts) = some ts := rfl
@[simp] theorem lof_fl (M : Mem) (ts : List T) : lof M (.fl ts) = some ts := rfl
@[simp] theorem grdOf_tup (ts us : List T) : grdOf (.tup ts) us = [] := rfl
@[simp] theorem grdOf_fl (ts us : List T) : grdOf (.fl ts) us = [] := rfl
@[simp] theorem grdOf_sc (ts : List Int) (us : List T) : grdOf (.sc ts) us = [] := rfl
theorem grd_sof {M : Mem} {t : T} {ts : List T} (h : sof M t = some ts) : Grd (grdOf t ts) M := by
  cases t with
  | obj i =>
    have := lof_obj (show lof M (.obj i) = some ts from h)
    show Grd [(i, ts)] M
    rw [grd_one]
    exact this
  | _ => exact (grd_nil M).symm ▸ trivial
@[simp] theorem mkL_f (ts : List T) (M : Mem) : mkL false ts M = (.fl ts, M) := rfl
@[simp] theorem mkL_t (ts : List T) (M : Mem) : mkL true ts M = (.obj M.length, M ++ [.lst ts]) := rfl
@[simp] theorem tr_int (M : Mem) (i : Int) : truth M (.int i) = some (i != 0) := rfl
@[simp] theorem tr_bl (M : Mem) (b : Bool) : truth M (.bl b) = some b := rfl
@[simp] theorem cmp_lt (i j : Int) (M : Mem) : cmpT .Lt (.int i) (.int j) M = some (decide (i < j)) := rfl
@[simp] theorem cmp_le (i j : Int) (M : Mem) : cmpT .LtE (.int i) (.int j) M = some (decide (i ≤ j)) := rfl
@[simp] theorem cmp_gt (i j : Int) (M : Mem) : cmpT .Gt (.int i) (.int j) M = some (decide (j < i)) := rfl
@[simp] theorem cmp_ge (i j : Int) (M : Mem) : cmpT .GtE (.int i) (.int j) M = some (decide (j ≤ i)) := rfl
@[simp] theorem eqv_int (i j : Int) (M : Mem) : eqv? M (.int i) (.int j) = some (decide (i = j)) := by
  simp [eqv?, scL, sealT, pureT, okT, depT, eqT]
  rfl
@[simp] theorem cmp_eq (i j : Int) (M : Mem) : cmpT .Eq (.int i) (.int j) M = some (decide (i = j)) := eqv_int i j M
@[simp] theorem cmp_ne (i j : Int) (M : Mem) : cmpT .NotEq (.int i) (.int j) M = some (!decide (i = j)) := by
  have : cmpT .NotEq (.int i) (.int j) M = (eqv? M (.int i) (.int j)).map not := rfl
  rw [this, eqv_int]; rfl
@[simp] theorem bin_add (tr : Bool) (i j : Int) (M : Mem) : binT .Add tr (.int i) (.int j) M = some (.int (i + j), M) := rfl
@[simp] theorem bin_sub (tr : Bool) (i j : Int) (M : Mem) : binT .Sub tr (.int i) (.int j) M = some (.int (i - j), M) := rfl
theorem bin_mul {i j : Int} (h : mulOk i j) (tr : Bool) (M : Mem) : binT .Mult tr (.int i) (.int j) M = some (.int (i * j), M) := by
  show (if mulOk i j then _ else _) = _
  rw [if_pos h]
theorem bin_div {i j : Int} (h : divOk j) (tr : Bool) (M : Mem) : binT .FloorDiv tr (.int i) (.int j) M = some (.int (i.fdiv j), M) := by
  show (if divOk j then _ else _) = _
  rw [if_pos h]
theorem bin_mod {i j : Int} (h : j ≠ 0) (tr : Bool) (M : Mem) : binT .Mod tr (.int i) (.int j) M = some (.int (i.fmod j), M) := by
  show (if j ≠ 0 then _ else _) = _
  rw [if_pos h]
/-- a bound by bits -/
def Sm (k : Nat) (x : Int) : Prop := x.natAbs < 2 ^ k
theorem Sm.mono {j k : Nat} {x : Int} (h : Sm j x) (hk : j ≤ k) : Sm k x := Nat.lt_of_lt_of_le h (Nat.pow_le_pow_right (by decide) hk)
theorem Sm.mul {j k : Nat} {x y : Int} (h : Sm j x) (h' : Sm k y) : Sm (j + k) (x * y) := by
  unfold Sm at *
  rw [Int.natAbs_mul, Nat.pow_add]
  exact Nat.mul_lt_mul'' h h'
theorem Sm.add {k : Nat} {x y : Int} (h : Sm k x) (h' : Sm k y) : Sm (k + 1) (x + y) := by
  unfold Sm at *
  have := Int.natAbs_add_le x y
  rw [Nat.pow_succ]
  omega
theorem Sm.neg {k : Nat} {x : Int} (h : Sm k x) : Sm k (-x) := by unfold Sm at *; rwa [Int.natAbs_neg]
theorem Sm.sub {k : Nat} {x y : Int} (h : Sm k x) (h' : Sm k y) : Sm (k + 1) (x - y) := by rw [Int.sub_eq_add_neg]; exact h.add h'.neg
theorem Sm.mulOk {j k : Nat} {x y : Int} (h : Sm j x) (h' : Sm k y) (hl : j + k ≤ 133999998) : mulOk x y := mulOk_of (a := j + 1) (b := k + 1) (h.mono (by omega)) (h'.mono (by omega)) (by omega) (by omega) (by omega)
theorem Sm.divOk {k : Nat} {x : Int} (h0 : x ≠ 0) (h : Sm k x) (hl : k ≤ 8999) : divOk x := divOk_of (k := k + 1) h0 (h.mono (by omega)) (by omega) (by omega)
theorem Sm.le {k : Nat} {x y : Int} (h : Sm k y) (hl : x.natAbs ≤ y.natAbs) : Sm k x := Nat.lt_of_le_of_lt hl h
instance (k : Nat) (x : Int) : Decidable (Sm k x) := by unfold Sm; infer_instance
theorem bi_len {M : Mem} {x : T} {ts : List T} (h : dof M x = none) (h2 : sof M x = some ts) : biT .len [x] M = some (.int (ts.length : Nat), M) := by
  unfold biT
  simp only [h, h2]
  rfl
theorem rg1_of {j : Int} (h : rngOk 0 j) : rg1 (.int j) = some (rngL 0 j, []) := by rw [rg1_int, if_pos h]
theorem rg2_of {i j : Int} (h : rngOk i j) : rg2 (.int i) (.int j) = some (rngL i j, []) := by rw [rg2_int, if_pos h]
/-! ### loops by name -/
noncomputable def whl (G : Sig) (c : ME) (b : List MS) (σ : En) (M : Mem) : Option R := whileC (fun σ M => tst (evE G c σ M)) (fun σ M => exSs G b σ M) σ M
noncomputable def fr (G : Sig) (t : MT) (b : List MS) (g : List (Nat × List T)) (xs : List T) (σ : En) (M : Mem) : Option R := forC g (fun x σ M => (asgT t x σ).bind fun σ1 => exSs G b σ1 M) xs σ M
noncomputable def lcr (G : Sig) (tg : MT) (ifs : MEs) (elt : ME) (σ : En) (g : List (Nat × List T)) (xs : List T) (M : Mem) : Option (List T × Mem) := lcC g (stepL G tg ifs elt σ) xs M
noncomputable def lcr2 (G : Sig) (tg : MT) (ifs : MEs) (vs1 : List Nat) (tg1 : MT) (it1 : MI) (ifs1 : MEs) (elt : ME) (σ : En) (g : List (Nat × List T)) (xs : List T) (M : Mem) : Option (List T × Mem) := lcC g (stepL2 G tg ifs vs1 tg1 it1 ifs1 elt σ) xs M
noncomputable def dcr (G : Sig) (tg : MT) (k v : ME) (σ : En) (g : List (Nat × List T)) (xs : List T) (M : Mem) : Option (List T × Mem) := lcC g (stepD G tg k v σ) xs M
@[simp high] theorem exS_whl (c : ME) (b : List MS) (σ : En) (M : Mem) : exS G (.whl c b) σ M = whl G c b σ M := by rw [exS]; rfl
@[simp high] theorem exS_for (t : MT) (it : MI) (b : List MS) (σ : En) (M : Mem) : exS G (.for t it b) σ M = (evI G it σ M).bind fun p => fr G t b p.1.2 p.1.1 σ p.2 := by rw [exS]; rfl
@[simp high] theorem evE_lc (tr : Bool) (own : List (Str × Nat)) (tg : MT) (it : MI) (ifs : MEs) (elt : ME) (σ : En) (M : Mem) : evE G (.lc tr own tg it ifs elt) σ M = (evI G it σ M).bind fun p =>
    (lcr G tg ifs elt (wipeE σ (own.map (·.2))) p.1.2 p.1.1 p.2).bind fun q => if q.1.length ≤ 16777216 then some (mkL tr q.1 q.2) else none := stepEq G tr own tg it ifs elt σ M
@[simp high] theorem evE_lc2 (tr : Bool) (own : List (Str × Nat)) (tg : MT) (it : MI) (ifs : MEs) (vs1 : List Nat) (tg1 : MT) (it1 : MI) (ifs1 : MEs) (elt : ME) (σ : En) (M : Mem) : evE G (.lc2 tr own tg it ifs vs1 tg1 it1 ifs1 elt) σ M = (evI G it σ M).bind fun p =>
    (lcr2 G tg ifs vs1 tg1 it1 ifs1 elt (wipeE σ (own.map (·.2))) p.1.2 p.1.1 p.2).bind fun q => if q.1.length ≤ 16777216 then some (mkL tr q.1 q.2) else none := step2Eq tr own tg it ifs vs1 tg1 it1 ifs1 elt σ M
@[simp high] theorem evE_dc (own : List (Str × Nat)) (tg : MT) (it : MI) (kx vx : ME) (σ : En) (M : Mem) : evE G (.dc own tg it kx vx) σ M = (evI G it σ M).bind fun p =>
    (dcr G tg kx vx (wipeE σ (own.map (·.2))) p.1.2 p.1.1 p.2).bind fun q => if q.1.length ≤ 1000000 then some (.fd false (dcPut q.1 ([], [])).1 (dcPut q.1 ([], [])).2, q.2) else none := stepDEq own tg it kx vx σ M
theorem whl_eq (c : ME) (b : List MS) (σ : En) (M : Mem) : whl G c b σ M = match tst (evE G c σ M) with
    | some (true, M1) => (match exSs G b σ M1 with
      | some (.nx σ' M') => whl G c b σ' M'
      | some (.ct σ' M') => whl G c b σ' M'
      | some (.bk σ' M') => some (.nx σ' M')
      | r => r)
    | some (false, M1) => some (.nx σ M1)
    | none => none := by unfold whl; rw [whileC_eq]; try rfl
/-- one turn -/
theorem whl_t {c : ME} {b : List MS} {σ σ' : En} {M M1 M' : Mem} (h : tst (evE G c σ M) = some (true, M1)) (h2 : exSs G b σ M1 = some (.nx σ' M')) : whl G c b σ M = whl G c b σ' M' := by rw [whl_eq, h]; simp only [h2]
theorem whl_f {c : ME} {b : List MS} {σ : En} {M M1 : Mem} (h : tst (evE G c σ M) = some (false, M1)) : whl G c b σ M = some (.nx σ M1) := by rw [whl_eq, h]
theorem fr_nil {t : MT} {b : List MS} {g : List (Nat × List T)} {σ : En} {M : Mem} (h : Grd g M) : fr G t b g [] σ M = some (.nx σ M) := by unfold fr; rw [forC, if_pos h]
theorem fr_nx {t : MT} {b : List MS} {g : List (Nat × List T)} {x : T} {xs : List T} {σ σ1 σ' : En} {M M' : Mem} (h : Grd g M) (h1 : asgT t x σ = some σ1) (h2 : exSs G b σ1 M = some (.nx σ' M')) : fr G t b g (x :: xs) σ M = fr G t b g xs σ' M' := by
  unfold fr; rw [forC, if_pos h, h1]; simp only [Option.bind_some, h2]
theorem fr_ct {t : MT} {b : List MS} {g : List (Nat × List T)} {x : T} {xs : List T} {σ σ1 σ' : En} {M M' : Mem} (h : Grd g M) (h1 : asgT t x σ = some σ1) (h2 : exSs G b σ1 M = some (.ct σ' M')) : fr G t b g (x :: xs) σ M = fr G t b g xs σ' M' := by
  unfold fr; rw [forC, if_pos h, h1]; simp only [Option.bind_some, h2]
theorem fr_bk {t : MT} {b : List MS} {g : List (Nat × List T)} {x : T} {xs : List T} {σ σ1 σ' : En} {M M' : Mem} (h : Grd g M) (h1 : asgT t x σ = some σ1) (h2 : exSs G b σ1 M = some (.bk σ' M')) : fr G t b g (x :: xs) σ M = some (.nx σ' M') := by
  unfold fr; rw [forC, if_pos h, h1]; simp only [Option.bind_some, h2]
theorem fr_rt {t : MT} {b : List MS} {g : List (Nat × List T)} {x : T} {xs : List T} {σ σ1 : En} {M M' : Mem} {u : T} (h : Grd g M) (h1 : asgT t x σ = some σ1) (h2 : exSs G b σ1 M = some (.rt u M')) : fr G t b g (x :: xs) σ M = some (.rt u M') := by
  unfold fr; rw [forC, if_pos h, h1]; simp only [Option.bind_some, h2]
theorem frn_nil {i : Nat} {n : Str} {b : List MS} {σ : En} {M : Mem} : fr G (.nm i n) b [] [] σ M = some (.nx σ M) := fr_nil (by simp)
theorem frn_nx {i : Nat} {n : Str} {b : List MS} {g : List (Nat × List T)} {x : T} {xs : List T} {σ : En} (σ' : En) {M : Mem} (M' : Mem) (h : Grd g M) (h2 : exSs G b (σ.set i (some x)) M = some (.nx σ' M')) : fr G (.nm i n) b g (x :: xs) σ M = fr G (.nm i n) b g xs σ' M' := fr_nx h (asg_nm ..) h2
theorem frn_ct {i : Nat} {n : Str} {b : List MS} {g : List (Nat × List T)} {x : T} {xs : List T} {σ : En} (σ' : En) {M : Mem} (M' : Mem) (h : Grd g M) (h2 : exSs G b (σ.set i (some x)) M = some (.ct σ' M')) : fr G (.nm i n) b g (x :: xs) σ M = fr G (.nm i n) b g xs σ' M' := fr_ct h (asg_nm ..) h2
theorem frn_bk {i : Nat} {n : Str} {b : List MS} {g : List (Nat × List T)} {x : T} {xs : List T} {σ : En} (σ' : En) {M : Mem} (M' : Mem) (h : Grd g M) (h2 : exSs G b (σ.set i (some x)) M = some (.bk σ' M')) : fr G (.nm i n) b g (x :: xs) σ M = some (.nx σ' M') := fr_bk h (asg_nm ..) h2
theorem frn_rt {i : Nat} {n : Str} {b : List MS} {g : List (Nat × List T)} {x : T} {xs : List T} {σ : En} {M : Mem} (u : T) (M' : Mem) (h : Grd g M) (h2 : exSs G b (σ.set i (some x)) M = some (.rt u M')) : fr G (.nm i n) b g (x :: xs) σ M = some (.rt u M') := fr_rt h (asg_nm ..) h2
theorem lcC_map {g : List (Nat × List T)} {step : T → Mem → Option (List T × Mem)} {f : T → List T} {M : Mem} (hg : Grd g M) : ∀ {xs : List T}, (∀ t ∈ xs, step t M = some (f t, M)) → lcC g step xs M = some (xs.flatMap f, M)
  | [], _ => by rw [lcC, if_pos hg]; rfl
  | x :: xs, h => by
    rw [lcC, if_pos hg, h x List.mem_cons_self]
    simp only [Option.bind_some]
    rw [lcC_map hg fun t ht => h t (List.mem_cons_of_mem _ ht)]
    rfl
theorem lcr_map {tg : MT} {ifs : MEs} {elt : ME} {σ : En} {g : List (Nat × List T)} {xs : List T} {M : Mem} (f : T → List T) (hg : Grd g M) (h : ∀ t ∈ xs, stepL G tg ifs elt σ t M = some (f t, M)) : lcr G tg ifs elt σ g xs M = some (xs.flatMap f, M) := lcC_map hg h
theorem lcr2_map {tg tg1 : MT} {ifs ifs1 : MEs} {it1 : MI} {vs1 : List Nat} {elt : ME} {σ : En} {g : List (Nat × List T)} {xs : List T} {M : Mem} (f : T → List T) (hg : Grd g M) (h : ∀ t ∈ xs, stepL2 G tg ifs vs1 tg1 it1 ifs1 elt σ t M = some (f t, M)) :
    lcr2 G tg ifs vs1 tg1 it1 ifs1 elt σ g xs M = some (xs.flatMap f, M) := lcC_map hg h
/-- over a list of known shape -/
theorem lcr_of {α : Type} {tg : MT} {ifs : MEs} {elt : ME} {σ : En} {g : List (Nat × List T)} {M : Mem} (c : α → T) (f : α → T) (hg : Grd g M) {xs : List α} (h : ∀ a ∈ xs, stepL G tg ifs elt σ (c a) M = some ([f a], M)) : lcr G tg ifs elt σ g (xs.map c) M = some (xs.map f, M) := by
  unfold lcr
  induction xs with
  | nil => rw [List.map_nil, lcC, if_pos hg]; rfl
  | cons x xs ih =>
    rw [List.map_cons, lcC, if_pos hg, h x List.mem_cons_self]
    simp only [Option.bind_some]
    rw [ih fun t ht => h t (List.mem_cons_of_mem _ ht)]
    rfl
/-- .. with a test -/
theorem lcr_if {α : Type} {tg : MT} {ifs : MEs} {elt : ME} {σ : En} {g : List (Nat × List T)} {M : Mem} (c : α → T) (p : α → Bool) (f : α → T) (hg : Grd g M) {xs : List α} (h : ∀ a ∈ xs, stepL G tg ifs elt σ (c a) M = some (if p a then [f a] else [], M)) :
    lcr G tg ifs elt σ g (xs.map c) M = some ((xs.filter p).map f, M) := by
  unfold lcr
  induction xs with
  | nil => rw [List.map_nil, lcC, if_pos hg]; rfl
  | cons x xs ih =>
    rw [List.map_cons, lcC, if_pos hg, h x List.mem_cons_self]
    simp only [Option.bind_some]
    rw [ih fun t ht => h t (List.mem_cons_of_mem _ ht)]
    by_cases hp : p x = true
    · rw [if_pos hp, List.filter_cons_of_pos hp]; rfl
    · rw [if_neg hp, List.filter_cons_of_neg hp]; rfl
/-! ### first trials -/
theorem sp_cell (ns : List Int) (k : Nat) (M : Mem) : runD G Lib._law_cell [.sc ns, .int k] M = some (.int (ns.getD k 0), M) := by
  by_cases h : k < ns.length
  · refine run_pure (M1 := []) rfl rfl rfl ?_
    rw [List.append_nil]
    simp [Lib._law_cell, exSs, exS, evE, evEs, startE, tst, truth, biT, dof, sof, lofS, cmpT, h, ixT, atI_n]
  · refine run_pure (M1 := []) rfl rfl rfl ?_
    rw [List.append_nil]
    simp [Lib._law_cell, exSs, exS, evE, evEs, startE, tst, truth, biT, dof, sof, lofS, cmpT, h, ixT, atI_n]
end Mi
end L2

/-! Objects, and loops by invariants. -/
namespace L2
namespace Mi
open PySem PySem.Spec PyProof.Rows
variable {G : Sig}
/-! ### fields, methods, making -/
def attT (G : Sig) (c f : Str) (t : T) (M : Mem) : Option T := match t with
  | .obj i => match M[i]? with
    | some (.ins c' fs) => if c' = c then (G.cls.lookup c).bind fun C => if f ∈ C.attrs then fs.lookup f else none else none
    | _ => none
  | _ => none
@[simp] theorem e_att (c : Str) (o : ME) (f : Str) (σ : En) (M : Mem) : evE G (.att c o f) σ M = (evE G o σ M).bind fun p => (attT G c f p.1 p.2).map fun t => (t, p.2) := by
  rw [evE]
  congr 1
  funext p
  obtain ⟨t, m⟩ := p
  cases t with
  | obj i =>
    simp only [attT]
    cases m[i]? with
    | none => rfl
    | some o =>
      cases o with
      | ins c' fs =>
        simp only
        split
        · cases G.cls.lookup c with
          | none => rfl
          | some C =>
            simp only [Option.bind_some]
            split <;> rfl
        · rfl
      | _ => rfl
  | _ => rfl
def sattT (G : Sig) (c f : Str) (t v : T) (M : Mem) : Option Mem := match t with
  | .obj i => match M[i]? with
    | some (.ins c' fs) => if c' = c ∧ fs.length < 1000 then (G.cls.lookup c).bind fun C => if f ∈ C.attrs then some (M.set i (.ins c (putA f v fs))) else none else none
    | _ => none
  | _ => none
@[simp] theorem x_setA (c : Str) (o : ME) (f : Str) (e : ME) (σ : En) (M : Mem) : exS G (.setA c o f e) σ M = (evE G e σ M).bind fun v => (evE G o σ v.2).bind fun p => (sattT G c f p.1 v.1 p.2).map fun M1 => .nx σ M1 := by
  rw [exS]
  congr 1
  funext v
  congr 1
  funext p
  obtain ⟨t, m⟩ := p
  cases t with
  | obj i =>
    simp only [sattT]
    cases m[i]? with
    | none => rfl
    | some o =>
      cases o with
      | ins c' fs =>
        simp only
        split
        · cases G.cls.lookup c with
          | none => rfl
          | some C =>
            simp only [Option.bind_some]
            split <;> rfl
        · rfl
      | _ => rfl
  | _ => rfl
/-- is it an object of the class that may call m -/
def insOk (c m : Str) (t : T) (M : Mem) : Option Unit := match t with
  | .obj i => match M[i]? with
    | some (.ins c' fs) => if c' = c ∧ fs.lookup m = none then some () else none
    | _ => none
  | _ => none
@[simp] theorem e_mcall (c : Str) (o : ME) (m : Str) (es : MEs) (σ : En) (M : Mem) : evE G (.mcall c o m es) σ M = (evE G o σ M).bind fun p => (insOk c m p.1 p.2).bind fun _ => (evEs G es σ p.2).bind fun q => ((G.cls.lookup c).bind fun C => C.meths.lookup m).bind fun F => F (p.1 :: q.1) q.2 := by
  rw [evE]
  congr 1
  funext p
  obtain ⟨t, k⟩ := p
  cases t with
  | obj i =>
    simp only [insOk]
    cases k[i]? with
    | none => rfl
    | some o =>
      cases o with
      | ins c' fs =>
        simp only
        split
        · simp only [Option.bind_some]
          congr 1
          funext q
          cases G.cls.lookup c <;> rfl
        · rfl
      | _ => rfl
  | _ => rfl
def mkR (i : Nat) : Option (T × Mem) → Option (T × Mem)
  | some (.non, M) => some (.obj i, M)
  | _ => none
@[simp] theorem mkR_non (i : Nat) (M : Mem) : mkR i (some (.non, M)) = some (.obj i, M) := rfl
@[simp] theorem e_mk (c : Str) (es : MEs) (σ : En) (M : Mem) : evE G (.mk c es) σ M = (evEs G es σ M).bind fun p => ((G.cls.lookup c).bind fun C => C.init).bind fun F => mkR p.2.length (F (.obj p.2.length :: p.1) (p.2 ++ [.ins c []])) := by
  rw [evE]
  congr 1
  funext p
  cases G.cls.lookup c with
  | none => rfl
  | some C =>
    simp only [Option.bind_some]
    congr 1
    funext F
    cases F (.obj p.2.length :: p.1) (p.2 ++ [.ins c []]) with
    | none => rfl
    | some r =>
      obtain ⟨t, m⟩ := r
      cases t <;> rfl
/-- a class with its fields -/
def HasC (G : Sig) (c : Str) (as : List Str) : Prop := ∃ C, G.cls.lookup c = some C ∧ C.attrs = as
def KnowsM (G : Sig) (c m : Str) (S : Fn → Prop) : Prop := ∃ F, ((G.cls.lookup c).bind fun C => C.meths.lookup m) = some F ∧ S F
def KnowsI (G : Sig) (c : Str) (S : Fn → Prop) : Prop := ∃ F, ((G.cls.lookup c).bind fun C => C.init) = some F ∧ S F
theorem att_of {c f : Str} {as : List Str} {i : Nat} {fs : List (Str × T)} {M : Mem} (h : HasC G c as) (hf : f ∈ as) (hi : M[i]? = some (.ins c fs)) : attT G c f (.obj i) M = fs.lookup f := by
  obtain ⟨C, h1, rfl⟩ := h
  simp only [attT, hi, if_true, h1, Option.bind_some, if_pos hf]
theorem satt_of {c f : Str} {as : List Str} {i : Nat} {fs : List (Str × T)} {v : T} {M : Mem} (h : HasC G c as) (hf : f ∈ as) (hi : M[i]? = some (.ins c fs)) (hl : fs.length < 1000) : sattT G c f (.obj i) v M = some (M.set i (.ins c (putA f v fs))) := by
  obtain ⟨C, h1, rfl⟩ := h
  simp only [sattT, hi, hl, h1, Option.bind_some, if_pos hf, and_self, if_true]
theorem insOk_of {c m : Str} {i : Nat} {fs : List (Str × T)} {M : Mem} (hi : M[i]? = some (.ins c fs)) (h : fs.lookup m = none) : insOk c m (.obj i) M = some () := by
  simp only [insOk, hi, h, and_self, if_true]
/-- pairs -/
def zipT (xs ys : List T) : List T := List.zipWith (fun x y => T.tup [x, y]) xs ys
theorem zipT_get {xs ys : List T} {i : Nat} {z : T} (h : (zipT xs ys)[i]? = some z) : ∃ x y, xs[i]? = some x ∧ ys[i]? = some y ∧ z = .tup [x, y] := by
  unfold zipT at h
  rw [List.getElem?_zipWith] at h
  cases hx : xs[i]? with
  | none => simp [hx] at h
  | some x =>
    cases hy : ys[i]? with
    | none => simp [hx, hy] at h
    | some y => simp only [hx, hy, Option.some.injEq] at h; exact ⟨x, y, rfl, rfl, h.symm⟩
theorem zipT_len (xs ys : List T) : (zipT xs ys).length = min xs.length ys.length := by simp [zipT]
@[simp high] theorem i_zip2z (a b : ME) (σ : En) (M : Mem) : evI G (.zip2 a b) σ M = (evE G a σ M).bind fun p => (evE G b σ p.2).bind fun q => (sof q.2 p.1).bind fun xs => (sof q.2 q.1).map fun ys =>
      ((zipT xs ys, grdOf p.1 xs ++ grdOf q.1 ys), q.2) := by rw [evI]; rfl
theorem enum_get {ts : List T} {i : Nat} {z : T} (h : (enumL 0 ts)[i]? = some z) : ∃ t, ts[i]? = some t ∧ z = .tup [.int (i : Int), t] := by
  have hi : i < ts.length := by
    have := (List.getElem?_eq_some_iff.mp h).1
    rwa [enumL_len] at this
  refine ⟨ts[i], List.getElem?_eq_getElem hi, ?_⟩
  have := enumL_get 0 ts i _ (List.getElem?_eq_getElem hi)
  rw [h] at this
  rw [Nat.zero_add] at this
  exact Option.some.inj this
theorem rng_get {n : Nat} {i : Nat} {z : T} (h : (rngL 0 (n : Int))[i]? = some z) : i < n ∧ z = .int (i : Int) := by
  have hi := (List.getElem?_eq_some_iff.mp h).1
  have := rngL_get hi
  rw [h] at this
  rw [rngL_len] at hi
  refine ⟨by omega, ?_⟩
  rw [Int.zero_add] at this
  exact Option.some.inj this
/-! ### loops by invariants -/
theorem fr_inv {tg : MT} {b : List MS} {g : List (Nat × List T)} {xs : List T} {σ : En} {M : Mem} (I : Nat → En → Mem → Prop) (h0 : I 0 σ M) (hg : ∀ i σ M, I i σ M → Grd g M)
    (hs : ∀ i x σ M, xs[i]? = some x → I i σ M → ∃ σ1, asgT tg x σ = some σ1 ∧ ∃ σ' M', (exSs G b σ1 M = some (.nx σ' M') ∨ exSs G b σ1 M = some (.ct σ' M')) ∧ I (i + 1) σ' M') :
    ∃ σ' M', fr G tg b g xs σ M = some (.nx σ' M') ∧ I xs.length σ' M' := by
  induction xs generalizing I σ M with
  | nil => exact ⟨σ, M, fr_nil (hg _ _ _ h0), h0⟩
  | cons x xs ih =>
    obtain ⟨σ1, a1, σ2, M2, hx, I2⟩ := hs 0 x σ M rfl h0
    obtain ⟨σ', M', e, I'⟩ := ih (σ := σ2) (M := M2) (fun i => I (i + 1)) I2 (fun i => hg (i + 1)) (fun i y σ M hy => hs (i + 1) y σ M (by simpa using hy))
    refine ⟨σ', M', ?_, by simpa using I'⟩
    rcases hx with hx | hx
    · rw [fr_nx (hg _ _ _ h0) a1 hx, e]
    · rw [fr_ct (hg _ _ _ h0) a1 hx, e]
/-- .. that may end early: an answer or a break -/
theorem fr_inv2 {tg : MT} {b : List MS} {g : List (Nat × List T)} {xs : List T} {σ : En} {M : Mem} (I : Nat → En → Mem → Prop) (Q : R → Prop) (h0 : I 0 σ M) (hg : ∀ i σ M, I i σ M → Grd g M)
    (hs : ∀ i x σ M, xs[i]? = some x → I i σ M → ∃ σ1, asgT tg x σ = some σ1 ∧ ((∃ σ' M', (exSs G b σ1 M = some (.nx σ' M') ∨ exSs G b σ1 M = some (.ct σ' M')) ∧ I (i + 1) σ' M') ∨
      (∃ t M', exSs G b σ1 M = some (.rt t M') ∧ Q (.rt t M')) ∨ (∃ σ' M', exSs G b σ1 M = some (.bk σ' M') ∧ Q (.nx σ' M'))))
    (he : ∀ σ M, I xs.length σ M → Q (.nx σ M)) : ∃ r, fr G tg b g xs σ M = some r ∧ Q r := by
  induction xs generalizing I σ M with
  | nil => exact ⟨_, fr_nil (hg _ _ _ h0), he _ _ h0⟩
  | cons x xs ih =>
    obtain ⟨σ1, a1, hx⟩ := hs 0 x σ M rfl h0
    rcases hx with ⟨σ2, M2, hx, I2⟩ | ⟨t, M', hx, q⟩ | ⟨σ', M', hx, q⟩
    · obtain ⟨r, e, q⟩ := ih (σ := σ2) (M := M2) (fun i => I (i + 1)) I2 (fun i => hg (i + 1)) (fun i y σ M hy => hs (i + 1) y σ M (by simpa using hy)) (fun σ M h => he σ M (by simpa using h))
      refine ⟨r, ?_, q⟩
      rcases hx with hx | hx
      · rw [fr_nx (hg _ _ _ h0) a1 hx, e]
      · rw [fr_ct (hg _ _ _ h0) a1 hx, e]
    · exact ⟨_, fr_rt (hg _ _ _ h0) a1 hx, q⟩
    · exact ⟨_, fr_bk (hg _ _ _ h0) a1 hx, q⟩
/-- a comprehension over items known by their places -/
theorem lcr_ix {tg : MT} {ifs : MEs} {elt : ME} {σ : En} {g : List (Nat × List T)} {xs ys : List T} {M : Mem} (hg : Grd g M) (hl : ys.length = xs.length) (h : ∀ (i : Nat) x y, xs[i]? = some x → ys[i]? = some y → stepL G tg ifs elt σ x M = some ([y], M)) :
    lcr G tg ifs elt σ g xs M = some (ys, M) := by
  unfold lcr
  induction xs generalizing ys with
  | nil =>
    obtain rfl := List.length_eq_zero_iff.mp hl
    rw [lcC, if_pos hg]
  | cons x xs ih =>
    cases ys with
    | nil => simp at hl
    | cons y ys =>
      rw [lcC, if_pos hg, h 0 x y rfl rfl]
      simp only [Option.bind_some]
      rw [ih (ys := ys) (by simpa using hl) fun i a b ha hb => h (i + 1) a b (by simpa using ha) (by simpa using hb)]
      rfl
theorem grd_at {i : Nat} {ts : List T} {M : Mem} (h : M[i]? = some (.lst ts)) : Grd [(i, ts)] M := by rw [grd_one]; exact h
theorem sof_obj {i : Nat} {ts : List T} {M : Mem} (h : M[i]? = some (.lst ts)) : sof M (.obj i) = some ts := by simp only [sof, lofS, lof, h]
theorem lof_obj' {i : Nat} {ts : List T} {M : Mem} (h : M[i]? = some (.lst ts)) : lof M (.obj i) = some ts := by simp only [lof, h]
theorem ix_obj {i : Nat} {ts : List T} {M : Mem} {k : Int} (h : M[i]? = some (.lst ts)) : ixT (.obj i) (.int k) M = atI ts k := by simp only [ixT, dof, h, sof, lofS, lof, Option.bind_some]
theorem set_obj {i : Nat} {ts : List T} {M : Mem} {k : Nat} {v : T} (h : M[i]? = some (.lst ts)) (hk : k < ts.length) : setT (.obj i) (.int k) v M = some (M.set i (.lst (ts.set k v))) := by
  simp only [setT, h, ixN_n hk, Option.map_some]
theorem atI_last {α : Type} {ts : List α} (h : ts ≠ []) : atI ts (-1) = ts[ts.length - 1]? := by
  have hl : 0 < ts.length := List.length_pos_iff.mpr h
  unfold atI ixN
  rw [if_neg (by omega), if_pos (by omega)]
  simp only [Option.bind_some]
  congr 1
  first | omega | (show ((ts.length : Int) + -1).toNat = _; omega) | simp
end Mi
end L2

/-! What the small defs on numbers reckon. -/
namespace L2
namespace Mi
open PySem PySem.Spec PyProof.Rows
variable {G : Sig}
def Knows (G : Sig) (f : Str) (S : Fn → Prop) : Prop := ∃ F, G.fns.lookup f = some F ∧ S F
/-! ### common divisors -/
def IsGcd (F : Fn) : Prop := ∀ (a b : Int) (M : Mem), F [.int a, .int b] M = some (.int (Int.gcd a b : Nat), M)
theorem abs_if (a : Int) : (if a < 0 then -a else a) = (a.natAbs : Int) := by split <;> omega
theorem fmod_nat (a b : Nat) : Int.fmod (a : Int) (b : Int) = ((a % b : Nat) : Int) := by
  rw [Int.fmod_eq_emod_of_nonneg _ (by omega)]; rfl
theorem gcd_loop (M : Mem) : ∀ (b a : Nat), whl G (.var 1 "b") [.par [(0, "a"), (1, "b")] (.cons (.var 1 "b") (.cons (.bin .Mod false (.var 0 "a") (.var 1 "b")) .nil))] [some (.int a), some (.int b)] M = some (.nx [some (.int (Nat.gcd a b : Nat)), some (.int (0 : Nat))] M) := by
  intro b
  induction b using Nat.strongRecOn with
  | ind b ih =>
    intro a
    by_cases hb : b = 0
    · subst hb
      rw [whl_f (M1 := M) (by simp [truth])]
      simp
    · have hlt : a % b < b := Nat.mod_lt _ (by omega)
      rw [whl_t (M1 := M) (σ' := [some (.int b), some (.int (a % b : Nat))]) (M' := M) (by simp [truth, hb]) (by simp [binT, parE, hb, fmod_nat])]
      rw [ih (a % b) hlt b, Nat.gcd_comm b, ← Nat.gcd_rec, Nat.gcd_comm]
theorem sp_common_divisor : IsGcd (runD G Lib.common_divisor) := by
  intro a b M
  refine run_pure (M1 := []) rfl rfl rfl ?_
  rw [List.append_nil]
  have := gcd_loop (G := G) M b.natAbs a.natAbs
  simp [Lib.common_divisor, startE, biT, abs_if, parE, this]
  rfl
/-! ### the law's own divisor -/
def IsGcdB (F : Fn) : Prop := ∀ (a b : Int) (M : Mem), b.natAbs < 2 ^ 1900 → F [.int a, .int b] M = some (.int (Int.gcd a b : Nat), M)
theorem lawdiv_loop (M : Mem) : ∀ (f : Nat) (xs : List T) (a b : Nat) (z : Option T), b < 2 ^ f → 2 * f + 1 ≤ xs.length → fr G (.nm 2 "_law_k") [
    .ite (.cmp .Eq (.var 1 "_law_b") (.int 0)) [
      .ret (.var 0 "_law_a")] [],
    .par [(0, "_law_a"), (1, "_law_b")] (.cons (.var 1 "_law_b") (.cons (.bin .Mod false (.bi .int (.cons (.var 0 "_law_a") .nil)) (.var 1 "_law_b")) .nil))] [] xs [some (.int a), some (.int b), z] M = some (.rt (.int (Nat.gcd a b : Nat)) M) := by
  have stop : ∀ (x : T) (xs : List T) (a : Nat) (z : Option T), fr G (.nm 2 "_law_k") [
    .ite (.cmp .Eq (.var 1 "_law_b") (.int 0)) [
      .ret (.var 0 "_law_a")] [],
    .par [(0, "_law_a"), (1, "_law_b")] (.cons (.var 1 "_law_b") (.cons (.bin .Mod false (.bi .int (.cons (.var 0 "_law_a") .nil)) (.var 1 "_law_b")) .nil))] [] (x :: xs) [some (.int a), some (.int (0 : Nat)), z] M = some (.rt (.int (a : Nat)) M) := fun x xs a z => by
    rw [frn_rt (.int a) M (by simp) (by simp [cmpT, truth, eqv?, scL, sealT, pureT, okT, depT, eqT])]
  have step : ∀ (x : T) (xs : List T) (a b : Nat) (z : Option T), b ≠ 0 → fr G (.nm 2 "_law_k") [
    .ite (.cmp .Eq (.var 1 "_law_b") (.int 0)) [
      .ret (.var 0 "_law_a")] [],
    .par [(0, "_law_a"), (1, "_law_b")] (.cons (.var 1 "_law_b") (.cons (.bin .Mod false (.bi .int (.cons (.var 0 "_law_a") .nil)) (.var 1 "_law_b")) .nil))] [] (x :: xs) [some (.int a), some (.int b), z] M = fr G (.nm 2 "_law_k") [
    .ite (.cmp .Eq (.var 1 "_law_b") (.int 0)) [
      .ret (.var 0 "_law_a")] [],
    .par [(0, "_law_a"), (1, "_law_b")] (.cons (.var 1 "_law_b") (.cons (.bin .Mod false (.bi .int (.cons (.var 0 "_law_a") .nil)) (.var 1 "_law_b")) .nil))] [] xs [some (.int b), some (.int (a % b : Nat)), some x] M := fun x xs a b z hb => by
    rw [frn_nx [some (.int b), some (.int (a % b : Nat)), some x] M (by simp) (by simp [cmpT, truth, eqv?, scL, sealT, pureT, okT, depT, eqT, hb, biT, binT, parE, fmod_nat])]
  intro f
  induction f with
  | zero =>
    intro xs a b z hb hl
    have : b = 0 := by simpa using hb
    subst this
    cases xs with
    | nil => simp at hl
    | cons x xs => rw [stop]; simp
  | succ f ih =>
    intro xs a b z hb hl
    match xs, hl with
    | x :: y :: xs, hl =>
      simp only [List.length_cons] at hl
      by_cases h0 : b = 0
      · subst h0; rw [stop]; simp
      · rw [step x _ a b z h0]
        have hr : a % b < b := Nat.mod_lt _ (by omega)
        by_cases h1 : a % b = 0
        · rw [h1, stop, Nat.gcd_comm, Nat.gcd_rec, h1]; simp
        · rw [step y xs b (a % b) _ h1]
          have hr2 : b % (a % b) < a % b := Nat.mod_lt _ (by omega)
          have hd : b % (a % b) + (a % b) ≤ b := by
            have := Nat.div_add_mod b (a % b)
            have hq : 1 ≤ b / (a % b) := Nat.div_pos (by omega) (by omega)
            have : (a % b) * 1 ≤ (a % b) * (b / (a % b)) := Nat.mul_le_mul_left _ hq
            omega
          have hp : 2 ^ (f + 1) = 2 * 2 ^ f := by rw [Nat.pow_succ]; omega
          rw [ih xs (a % b) (b % (a % b)) _ (by omega) (by omega)]
          congr 4
          rw [Nat.gcd_comm (a % b), ← Nat.gcd_rec, ← Nat.gcd_rec, Nat.gcd_comm]
theorem rngL_length (lo hi : Int) : (rngL lo hi).length = (hi - lo).toNat := rngL_len lo hi
theorem sp_law_divisor : IsGcdB (runD G Lib._law_divisor) := by
  intro a b M hb
  refine run_pure (M1 := []) rfl rfl rfl ?_
  rw [List.append_nil]
  have := lawdiv_loop (G := G) M 1900 (rngL 0 4000) a.natAbs b.natAbs none hb (by rw [rngL_length]; decide)
  simp [Lib._law_divisor, startE, biT, abs_if, rngOk, this]
  rfl
/-! ### numbers -/
abbrev Q2 := Int × Int
def numT (p : Q2) : T := .tup [.int p.1, .int p.2]
/-- brought to lowest terms, above a positive -/
def nrm (n d : Int) : Q2 := if d < 0 then (-n / (Int.gcd n d : Nat), -d / (Int.gcd n d : Nat)) else (n / (Int.gcd n d : Nat), d / (Int.gcd n d : Nat))
def IsNumber (F : Fn) : Prop := ∀ (n d : Int) (M : Mem), d ≠ 0 → Sm 8000 d → F [.int n, .int d] M = some (numT (nrm n d), M)
def IsNumberB (F : Fn) : Prop := ∀ (n d : Int) (M : Mem), d ≠ 0 → Sm 1900 d → F [.int n, .int d] M = some (numT (nrm n d), M)
theorem gcd_pos {n d : Int} (h : d ≠ 0) : 0 < Int.gcd n d := Nat.pos_of_ne_zero fun e => h (Int.gcd_eq_zero_iff.mp e).2
theorem gcd_sm {k : Nat} {n d : Int} (h : d ≠ 0) (hs : Sm k d) : Sm k (Int.gcd n d : Nat) := by
  unfold Sm at *
  have : Int.gcd n d ≤ d.natAbs := Int.gcd_le_natAbs_right n h
  simp only [Int.natAbs_natCast]
  omega
theorem fdiv_nat (n : Int) (g : Nat) : n.fdiv (g : Int) = n / (g : Int) := Int.fdiv_eq_ediv_of_nonneg _ (by omega)
theorem fdiv_negd {n : Int} {g : Nat} (h : (g : Int) ∣ n) (hg : 0 < g) : n.fdiv (-(g : Int)) = -n / (g : Int) := by
  obtain ⟨q, rfl⟩ := h
  have hg' : (g : Int) ≠ 0 := by omega
  rw [← Int.mul_neg, Int.mul_ediv_cancel_left _ hg', show (g : Int) * q = -(g : Int) * -q by rw [Int.neg_mul_neg], Int.mul_fdiv_cancel_left _ (by omega)]
theorem sp_number (h : Knows G "common_divisor" IsGcd) : IsNumber (runD G Lib.number) := by
  intro n d M hd hs
  obtain ⟨F, hl, hF⟩ := h
  refine run_pure (M1 := []) rfl rfl rfl ?_
  rw [List.append_nil]
  have g0 := gcd_pos (n := n) hd
  have gs := gcd_sm (n := n) hd hs
  have dv : divOk (Int.gcd n d : Nat) := Sm.divOk (by omega) gs (by decide)
  have f1 := hF n d M
  have f2 := hF (-n) (-d) M
  rw [Int.neg_gcd, Int.gcd_neg] at f2
  by_cases h0 : d < 0
  · simp [Lib.number, startE, h0, parE, hl, f2, bin_div dv, fdiv_nat, numT, nrm]
  · simp [Lib.number, startE, h0, parE, hl, f1, bin_div dv, fdiv_nat, numT, nrm]
theorem sp_law_number (h : Knows G "_law_divisor" IsGcdB) : IsNumberB (runD G Lib._law_number) := by
  intro n d M hd hs
  obtain ⟨F, hl, hF⟩ := h
  refine run_pure (M1 := []) rfl rfl rfl ?_
  rw [List.append_nil]
  have g0 := gcd_pos (n := n) hd
  have gs := gcd_sm (n := n) hd hs
  have dv : divOk (Int.gcd n d : Nat) := Sm.divOk (by omega) gs (by decide)
  have dv' : divOk (-(Int.gcd n d : Nat)) := Sm.divOk (by omega) gs.neg (by decide)
  have e1 : (n.fdiv (-(Int.gcd n d : Nat) : Int)) = -n / (Int.gcd n d : Nat) := fdiv_negd (Int.gcd_dvd_left ..) g0
  have e2 : (d.fdiv (-(Int.gcd n d : Nat) : Int)) = -d / (Int.gcd n d : Nat) := fdiv_negd (Int.gcd_dvd_right ..) g0
  have hF' := hF n d M hs
  by_cases h0 : d < 0
  · simp [Lib._law_number, startE, h0, parE, hl, hF', bin_div dv', e1, e2, numT, nrm]
  · simp [Lib._law_number, startE, h0, parE, hl, hF', bin_div dv, fdiv_nat, numT, nrm]
def SmQ (k : Nat) (p : Q2) : Prop := Sm k p.1 ∧ Sm k p.2
/-- two numbers in, one out -/
def IsOp (k : Nat) (f : Q2 → Q2 → Q2) (F : Fn) : Prop := ∀ (a b : Q2) (M : Mem), a.2 ≠ 0 → b.2 ≠ 0 → SmQ k a → SmQ k b → F [numT a, numT b] M = some (numT (f a b), M)
def addQ (a b : Q2) : Q2 := nrm (a.1 * b.2 + b.1 * a.2) (a.2 * b.2)
def subQ (a b : Q2) : Q2 := nrm (a.1 * b.2 - b.1 * a.2) (a.2 * b.2)
def mulQ (a b : Q2) : Q2 := nrm (a.1 * b.1) (a.2 * b.2)
def divQ (a b : Q2) : Q2 := nrm (a.1 * b.2) (a.2 * b.1)
section
variable {F : Fn} {k : Nat}
theorem sp_plus (h : Knows G "number" IsNumber) : IsOp 4000 addQ (runD G Lib.plus) := by
  intro a b M ha hb sa sb
  obtain ⟨F, hl, hF⟩ := h
  refine run_pure (M1 := []) rfl rfl rfl ?_
  rw [List.append_nil]
  have e := hF (a.1 * b.2 + b.1 * a.2) (a.2 * b.2) M (Int.mul_ne_zero ha hb) (sa.2.mul sb.2)
  simp [Lib.plus, startE, numT, bin_mul (sa.1.mulOk sb.2 (by decide)), bin_mul (sb.1.mulOk sa.2 (by decide)), bin_mul (sa.2.mulOk sb.2 (by decide)), hl, e, addQ]
theorem sp_minus (h : Knows G "number" IsNumber) : IsOp 4000 subQ (runD G Lib.minus) := by
  intro a b M ha hb sa sb
  obtain ⟨F, hl, hF⟩ := h
  refine run_pure (M1 := []) rfl rfl rfl ?_
  rw [List.append_nil]
  have e := hF (a.1 * b.2 - b.1 * a.2) (a.2 * b.2) M (Int.mul_ne_zero ha hb) (sa.2.mul sb.2)
  simp [Lib.minus, startE, numT, bin_mul (sa.1.mulOk sb.2 (by decide)), bin_mul (sb.1.mulOk sa.2 (by decide)), bin_mul (sa.2.mulOk sb.2 (by decide)), hl, e, subQ]
theorem sp_times (h : Knows G "number" IsNumber) : IsOp 4000 mulQ (runD G Lib.times) := by
  intro a b M ha hb sa sb
  obtain ⟨F, hl, hF⟩ := h
  refine run_pure (M1 := []) rfl rfl rfl ?_
  rw [List.append_nil]
  have e := hF (a.1 * b.1) (a.2 * b.2) M (Int.mul_ne_zero ha hb) (sa.2.mul sb.2)
  simp [Lib.times, startE, numT, bin_mul (sa.1.mulOk sb.1 (by decide)), bin_mul (sa.2.mulOk sb.2 (by decide)), hl, e, mulQ]
theorem sp_over (h : Knows G "number" IsNumber) (a b : Q2) (M : Mem) (ha : a.2 ≠ 0) (hb : b.1 ≠ 0) (sa : SmQ 4000 a) (sb : SmQ 4000 b) : runD G Lib.over [numT a, numT b] M = some (numT (divQ a b), M) := by
  obtain ⟨F, hl, hF⟩ := h
  refine run_pure (M1 := []) rfl rfl rfl ?_
  rw [List.append_nil]
  have e := hF (a.1 * b.2) (a.2 * b.1) M (Int.mul_ne_zero ha hb) (sa.2.mul sb.1)
  simp [Lib.over, startE, numT, bin_mul (sa.1.mulOk sb.2 (by decide)), bin_mul (sa.2.mulOk sb.1 (by decide)), hl, e, divQ]
def ltQ (a b : Q2) : Bool := decide (a.1 * b.2 < b.1 * a.2)
theorem sp_less (a b : Q2) (M : Mem) (sa : SmQ 4000 a) (sb : SmQ 4000 b) : runD G Lib.less [numT a, numT b] M = some (.bl (ltQ a b), M) := by
  refine run_pure (M1 := []) rfl rfl rfl ?_
  rw [List.append_nil]
  simp [Lib.less, startE, numT, bin_mul (sa.1.mulOk sb.2 (by decide)), bin_mul (sb.1.mulOk sa.2 (by decide)), ltQ]
def sgnQ (a : Q2) : Int := (if 0 < a.1 then 1 else 0) - (if a.1 < 0 then 1 else 0)
theorem sp_sign (a : Q2) (M : Mem) : runD G Lib.sign [numT a] M = some (.int (sgnQ a), M) := by
  refine run_pure (M1 := []) rfl rfl rfl ?_
  rw [List.append_nil]
  simp [Lib.sign, startE, numT, sgnQ, biT]
theorem sp_law_plus (h : Knows G "_law_number" IsNumberB) : IsOp 950 addQ (runD G Lib._law_plus) := by
  intro a b M ha hb sa sb
  obtain ⟨F, hl, hF⟩ := h
  refine run_pure (M1 := []) rfl rfl rfl ?_
  rw [List.append_nil]
  have e := hF (a.1 * b.2 + b.1 * a.2) (a.2 * b.2) M (Int.mul_ne_zero ha hb) (sa.2.mul sb.2)
  simp [Lib._law_plus, startE, numT, bin_mul (sa.1.mulOk sb.2 (by decide)), bin_mul (sb.1.mulOk sa.2 (by decide)), bin_mul (sa.2.mulOk sb.2 (by decide)), hl, e, addQ]
theorem sp_law_times (h : Knows G "_law_number" IsNumberB) : IsOp 950 mulQ (runD G Lib._law_times) := by
  intro a b M ha hb sa sb
  obtain ⟨F, hl, hF⟩ := h
  refine run_pure (M1 := []) rfl rfl rfl ?_
  rw [List.append_nil]
  have e := hF (a.1 * b.1) (a.2 * b.2) M (Int.mul_ne_zero ha hb) (sa.2.mul sb.2)
  simp [Lib._law_times, startE, numT, bin_mul (sa.1.mulOk sb.1 (by decide)), bin_mul (sa.2.mulOk sb.2 (by decide)), hl, e, mulQ]
theorem sp_law_less (a b : Q2) (M : Mem) (sa : SmQ 4000 a) (sb : SmQ 4000 b) : runD G Lib._law_less [numT a, numT b] M = some (.bl (ltQ a b), M) := by
  refine run_pure (M1 := []) rfl rfl rfl ?_
  rw [List.append_nil]
  simp [Lib._law_less, startE, numT, bin_mul (sa.1.mulOk sb.2 (by decide)), bin_mul (sb.1.mulOk sa.2 (by decide)), ltQ]
end
end Mi
end L2

/-! What the defs on lists of numbers reckon; the script's parts. -/
namespace L2
namespace Mi
open PySem PySem.Spec PyProof.Rows
variable {G : Sig}
/-! ### the divisor of many -/
def gcdF (g : Nat) (ns : List Int) : Nat := ns.foldl (fun g x => Int.gcd g x) g
def gcdL (ns : List Int) : Nat := gcdF 0 ns
theorem gcdF_one : ∀ ns : List Int, gcdF 1 ns = 1
  | [] => rfl
  | x :: ns => by
    show gcdF (Int.gcd (1 : Nat) x) ns = 1
    rw [show Int.gcd ((1 : Nat) : Int) x = 1 by simp]
    exact gcdF_one ns
theorem gcdF_dvd : ∀ (ns : List Int) (g : Nat), gcdF g ns ∣ g ∧ ∀ x ∈ ns, (gcdF g ns : Int) ∣ x
  | [], g => ⟨Nat.dvd_refl _, fun x h => (nomatch h)⟩
  | x :: ns, g => by
    obtain ⟨h1, h2⟩ := gcdF_dvd ns (Int.gcd g x)
    have e : gcdF g (x :: ns) = gcdF (Int.gcd g x) ns := rfl
    rw [e]
    have k1 : (Int.gcd g x : Nat) ∣ g := by
      have := Int.gcd_dvd_left (a := (g : Int)) (b := x)
      exact Int.natCast_dvd_natCast.mp this
    refine ⟨Nat.dvd_trans h1 k1, fun y hy => ?_⟩
    rcases List.mem_cons.mp hy with rfl | hy
    · exact Int.dvd_trans (Int.natCast_dvd_natCast.mpr h1) (Int.gcd_dvd_right ..)
    · exact h2 y hy
theorem gcdL_dvd {ns : List Int} {x : Int} (h : x ∈ ns) : (gcdL ns : Int) ∣ x := (gcdF_dvd ns 0).2 x h
theorem gcdL_zero {ns : List Int} (h : gcdL ns = 0) : ∀ x ∈ ns, x = 0 := fun x hx => by
  have := gcdL_dvd hx
  rw [h] at this
  exact Int.zero_dvd.mp (by simpa using this)
theorem gcdL_sm {k : Nat} {ns : List Int} (h : ∀ x ∈ ns, Sm k x) : Sm k (gcdL ns : Nat) := by
  by_cases h0 : gcdL ns = 0
  · rw [h0]; exact Nat.pow_pos (by decide)
  · have : ∃ x ∈ ns, x ≠ 0 := by
      by_cases q : ∃ x ∈ ns, x ≠ 0
      · exact q
      · exfalso
        apply h0
        have all0 : ∀ x ∈ ns, x = 0 := fun x hx => by
          by_cases z : x = 0
          · exact z
          · exact absurd ⟨x, hx, z⟩ q
        have : ∀ (l : List Int), (∀ x ∈ l, x = 0) → gcdF 0 l = 0 := by
          intro l
          induction l with
          | nil => intro _; rfl
          | cons y l ih =>
            intro hl
            show gcdF (Int.gcd (0 : Nat) y) l = 0
            rw [hl y List.mem_cons_self]
            exact ih fun z hz => hl z (List.mem_cons_of_mem _ hz)
        exact this ns all0
    obtain ⟨x, hx, hne⟩ := this
    have hd := gcdL_dvd hx
    have := Nat.le_of_dvd (by omega) (Int.natAbs_dvd_natAbs.mpr hd)
    exact (h x hx).le this
theorem divof_loop {t : T} {M : Mem} {gd : List (Nat × List T)} (hg : Grd gd M) (h : Knows G "common_divisor" IsGcd) : ∀ (ns : List Int) (g : Nat) (z : Option T), ∃ z', fr G (.nm 2 "integer") [
    .ite (.var 2 "integer") [
      .set 1 "found" (.call "common_divisor" (.cons (.var 1 "found") (.cons (.var 2 "integer") .nil))),
      .ite (.cmp .Eq (.var 1 "found") (.int 1)) [
        .brk] []] []] gd (ns.map T.int) [some t, some (.int g), z] M = some (.nx [some t, some (.int (gcdF g ns : Nat)), z'] M)
  | [], g, z => ⟨z, by rw [List.map_nil, fr_nil hg]; rfl⟩
  | x :: ns, g, z => by
    obtain ⟨F, hl, hF⟩ := h
    have e := hF g x M
    rw [List.map_cons]
    by_cases h0 : x = 0
    · obtain ⟨z', ih⟩ := divof_loop hg ⟨F, hl, hF⟩ ns g (some (.int x))
      refine ⟨z', ?_⟩
      rw [frn_nx [some t, some (.int g), some (.int x)] M hg (by simp [h0]), ih, h0]
      show some (R.nx [some t, some (T.int (gcdF g ns : Nat)), z'] M) = some (R.nx [some t, some (T.int (gcdF (Int.gcd g 0) ns : Nat)), z'] M)
      rw [show Int.gcd (g : Int) 0 = g by simp]
    · by_cases h1 : Int.gcd g x = 1
      · refine ⟨some (.int x), ?_⟩
        rw [frn_bk [some t, some (.int (1 : Nat)), some (.int x)] M hg (by simp [h0, hl, e, h1])]
        show _ = some (R.nx [some t, some (T.int (gcdF (Int.gcd g x) ns : Nat)), some (.int x)] M)
        rw [h1, gcdF_one]
      · obtain ⟨z', ih⟩ := divof_loop hg ⟨F, hl, hF⟩ ns (Int.gcd g x) (some (.int x))
        refine ⟨z', ?_⟩
        have h2 : ¬ ((Int.gcd g x : Nat) : Int) = 1 := by omega
        rw [frn_nx [some t, some (.int (Int.gcd g x : Nat)), some (.int x)] M hg (by simp [h0, hl, e, h2]), ih]
        rfl
def IsDivOf (F : Fn) : Prop := ∀ (t : T) (ns : List Int) (M : Mem), sof M t = some (ns.map T.int) → F [t] M = some (.int (gcdL ns : Nat), M)
theorem sp_divisor_of (h : Knows G "common_divisor" IsGcd) : IsDivOf (runD G Lib.divisor_of) := by
  intro t ns M hs
  refine run_pure (M1 := []) rfl rfl rfl ?_
  rw [List.append_nil]
  obtain ⟨z', e⟩ := divof_loop (t := t) (grd_sof hs) h ns 0 none
  rw [show ((0 : Nat) : Int) = 0 from rfl] at e
  simp [Lib.divisor_of, startE, hs, e]
  rfl
/-- divided by their divisor -/
def lowL (ns : List Int) : List Int := ns.map (· / (gcdL ns : Int))
theorem ediv_low {ns : List Int} (h : gcdL ns < 2) : lowL ns = ns := by
  unfold lowL
  conv => rhs; rw [← List.map_id ns]
  apply List.map_congr_left
  intro x hx
  by_cases h0 : gcdL ns = 0
  · rw [gcdL_zero h0 x hx]; simp
  · rw [show gcdL ns = 1 by omega]; simp
def ilT (ns : List Int) : T := .fl (ns.map T.int)
def IsLowest (F : Fn) : Prop := ∀ (t : T) (ns : List Int) (M : Mem), sof M t = some (ns.map T.int) → ns.length ≤ 16777216 → (∀ x ∈ ns, Sm 8900 x) → F [t] M = some (ilT (lowL ns), M)
theorem pureT_il (ns : List Int) : pureT (ilT ns) = true := by simp only [ilT, pureT]; exact pureTs_ints ns
theorem sp_lowest (h : Knows G "divisor_of" IsDivOf) : IsLowest (runD G Lib.lowest) := by
  intro t ns M hs hlen hsm
  obtain ⟨F, hl, hF⟩ := h
  have e := hF t ns M hs
  refine run_pure (M1 := []) rfl rfl (pureT_il _) ?_
  rw [List.append_nil]
  by_cases h2 : gcdL ns < 2
  · have h2' : ((gcdL ns : Nat) : Int) < 2 := by omega
    simp [Lib.lowest, startE, hl, e, h2', biT, hs, ediv_low h2, ilT]
  · have h2' : ¬ ((gcdL ns : Nat) : Int) < 2 := by omega
    have dv : divOk (gcdL ns : Nat) := Sm.divOk (by omega) (gcdL_sm hsm) (by decide)
    have lc := lcr_of (G := G) (tg := .nm 2 "integer") (ifs := .nil) (elt := .bin .FloorDiv false (.var 2 "integer") (.var 1 "divisor")) (σ := [some t, some (.int (gcdL ns : Nat)), none]) (M := M) (g := grdOf t (ns.map T.int)) T.int (fun x => .int (x / (gcdL ns : Int))) (grd_sof hs) (xs := ns)
      (fun x hx => by simp [stepL, bin_div dv, fdiv_nat])
    simp [Lib.lowest, startE, hl, e, h2', hs, wipeE, lc, hlen, ilT, lowL]
end Mi
end L2

/-! Brought to whole numbers; the script's parts. -/
namespace L2
namespace Mi
open PySem PySem.Spec PyProof.Rows
variable {G : Sig}
def lcmF (c : Int) (ps : List Q2) : Int := ps.foldl (fun c p => c / (Int.gcd c p.2 : Nat) * p.2) c
def lcmL (ps : List Q2) : Int := lcmF 1 ps
def LcmOk : Int → List Q2 → Prop
  | c, [] => 0 < c ∧ Sm 8000 c
  | c, p :: ps => 0 < c ∧ Sm 8000 c ∧ 0 < p.2 ∧ Sm 8000 p.2 ∧ LcmOk (c / (Int.gcd c p.2 : Nat) * p.2) ps
theorem lcm_step {c d : Int} (hc : 0 < c) (hd : 0 < d) : 0 < c / (Int.gcd c d : Nat) * d := by
  have g0 : 0 < Int.gcd c d := gcd_pos (by omega)
  have hdv : ((Int.gcd c d : Nat) : Int) ∣ c := Int.gcd_dvd_left ..
  have : 0 < c / (Int.gcd c d : Nat) := by
    obtain ⟨q, hq⟩ := hdv
    have hq0 : 0 < q := by
      rcases Int.lt_trichotomy q 0 with h | h | h
      · exfalso
        have : ((Int.gcd c d : Nat) : Int) * q < 0 := Int.mul_neg_of_pos_of_neg (by omega) h
        omega
      · subst h; omega
      · exact h
    have e : c / (Int.gcd c d : Nat) = q := Int.ediv_eq_of_eq_mul_right (by omega) hq
    rw [e]; exact hq0
  exact Int.mul_pos this hd
theorem lcm_sm {a b : Nat} {c d : Int} (hc : Sm a c) (hd : Sm b d) : Sm (a + b) (c / (Int.gcd c d : Nat) * d) := by
  refine Sm.mul (hc.le ?_) hd
  exact Int.natAbs_ediv_le_natAbs ..
theorem LcmOk.of {b : Nat} : ∀ {ps : List Q2} {c : Int} {a : Nat}, 0 < c → Sm a c → (∀ p ∈ ps, 0 < p.2 ∧ Sm b p.2) → b ≤ 8000 → a + b * ps.length ≤ 8000 → LcmOk c ps ∧ 0 < lcmF c ps ∧ Sm (a + b * ps.length) (lcmF c ps)
  | [], c, a, h0, hs, _, _, hl => ⟨⟨h0, hs.mono (by omega)⟩, h0, hs.mono (by omega)⟩
  | p :: ps, c, a, h0, hs, hp, hb, hl => by
    obtain ⟨p1, p2⟩ := hp p List.mem_cons_self
    rw [List.length_cons, Nat.mul_succ] at hl
    obtain ⟨q1, q2, q3⟩ := LcmOk.of (a := a + b) (lcm_step h0 p1) (lcm_sm hs p2) (fun x hx => hp x (List.mem_cons_of_mem _ hx)) hb (by omega)
    refine ⟨⟨h0, hs.mono (by omega), p1, p2.mono hb, q1⟩, q2, ?_⟩
    rw [List.length_cons, Nat.mul_succ]
    exact q3.mono (by omega)
def raised (ps : List Q2) : List Int := ps.map fun p => p.1 * (lcmL ps / p.2)
theorem brought_loop {t : T} {M : Mem} {gd : List (Nat × List T)} (hg : Grd gd M) (h : Knows G "common_divisor" IsGcd) : ∀ (ps : List Q2) (c : Int) (z : Option T), LcmOk c ps → ∃ z', fr G (.nm 2 "part") [
    .set 1 "common" (.bin .Mult false (.bin .FloorDiv false (.var 1 "common") (.call "common_divisor" (.cons (.var 1 "common") (.cons (.ix (.var 2 "part") (.int 1)) .nil)))) (.ix (.var 2 "part") (.int 1)))] gd (ps.map numT) [some t, some (.int c), z] M = some (.nx [some t, some (.int (lcmF c ps)), z'] M)
  | [], c, z, _ => ⟨z, by rw [List.map_nil, fr_nil hg]; rfl⟩
  | p :: ps, c, z, ok => by
    obtain ⟨F, hl, hF⟩ := h
    obtain ⟨c0, cs, p0, psm, ok⟩ := ok
    have e := hF c p.2 M
    have dv : divOk (Int.gcd c p.2 : Nat) := Sm.divOk (by have := gcd_pos (n := c) (d := p.2) (by omega); omega) (gcd_sm (by omega) psm) (by decide)
    have mo : mulOk (c / (Int.gcd c p.2 : Nat)) p.2 := Sm.mulOk (cs.le (Int.natAbs_ediv_le_natAbs ..)) psm (by decide)
    obtain ⟨z', ih⟩ := brought_loop hg ⟨F, hl, hF⟩ ps _ (some (numT p)) ok
    refine ⟨z', ?_⟩
    rw [List.map_cons, frn_nx [some t, some (.int (c / (Int.gcd c p.2 : Nat) * p.2)), some (numT p)] M hg (by simp [numT, hl, e, bin_div dv, fdiv_nat, bin_mul mo]), ih]
    rfl
theorem LcmOk.mem : ∀ {ps : List Q2} {c : Int}, LcmOk c ps → (∀ p ∈ ps, 0 < p.2 ∧ Sm 8000 p.2) ∧ Sm 8000 (lcmF c ps) ∧ 0 < lcmF c ps
  | [], c, h => ⟨fun p hp => (nomatch hp), h.2, h.1⟩
  | p :: ps, c, ⟨h1, h2, h3, h4, h5⟩ => by
    obtain ⟨q1, q2⟩ := LcmOk.mem h5
    refine ⟨fun x hx => ?_, q2⟩
    rcases List.mem_cons.mp hx with rfl | hx
    · exact ⟨h3, h4⟩
    · exact q1 x hx
def IsBrought (F : Fn) : Prop := ∀ (t : T) (ps : List Q2) (M : Mem), sof M t = some (ps.map numT) → LcmOk 1 ps → ps.length ≤ 16777216 → (∀ p ∈ ps, Sm 100000 p.1) → (∀ x ∈ raised ps, Sm 8900 x) → F [t] M = some (ilT (lowL (raised ps)), M)
theorem sp_brought (h : Knows G "common_divisor" IsGcd) (h2 : Knows G "lowest" IsLowest) : IsBrought (runD G Lib.brought) := by
  intro t ps M hs ok hlen hn hsm
  obtain ⟨F2, hl2, hF2⟩ := h2
  obtain ⟨m1, m2, m3⟩ := ok.mem
  obtain ⟨z', e⟩ := brought_loop (t := t) (grd_sof hs) h ps 1 none ok
  refine run_pure (M1 := []) rfl rfl (pureT_il _) ?_
  rw [List.append_nil]
  have lc := lcr_of (G := G) (tg := .nm 2 "part") (ifs := .nil) (elt := .bin .Mult false (.ix (.var 2 "part") (.int 0)) (.bin .FloorDiv false (.var 1 "common") (.ix (.var 2 "part") (.int 1)))) (σ := [some t, some (.int (lcmL ps)), none]) (M := M) (g := grdOf t (ps.map numT)) numT (fun p => .int (p.1 * (lcmL ps / p.2))) (grd_sof hs) (xs := ps)
      (fun p hp => by
        obtain ⟨q1, q2⟩ := m1 p hp
        have dv : divOk p.2 := Sm.divOk (by omega) q2 (by decide)
        have mo : mulOk p.1 (lcmL ps / p.2) := Sm.mulOk (hn p hp) (m2.le (Int.natAbs_ediv_le_natAbs ..)) (by decide)
        simp [stepL, numT, bin_div dv, Int.fdiv_eq_ediv_of_nonneg _ (Int.le_of_lt q1), bin_mul mo])
  have e2 := hF2 (ilT (raised ps)) (raised ps) M rfl (by simpa [raised] using hlen) hsm
  have e3 : T.fl (ps.map fun p => T.int (p.1 * (lcmL ps / p.2))) = ilT (raised ps) := by
    unfold ilT raised
    rw [List.map_map]; rfl
  have e' : fr G (.nm 2 "part") [
    .set 1 "common" (.bin .Mult false (.bin .FloorDiv false (.var 1 "common") (.call "common_divisor" (.cons (.var 1 "common") (.cons (.ix (.var 2 "part") (.int 1)) .nil)))) (.ix (.var 2 "part") (.int 1)))] (grdOf t (ps.map numT)) (ps.map numT) [some t, some (.int 1), none] M = some (.nx [some t, some (.int (lcmL ps)), z'] M) := e
  simp [Lib.brought, startE, hs, e', wipeE, lc, hlen, e3, hl2, e2]
/-! ### the script's parts -/
def mixP (cell : Int) (k : Nat) : Int :=
  let m := Int.fmod (cell * 48271 + (k : Int) * 69621 + 11) 2147483647
  Int.fdiv (Int.fmod (m * m + 16807 * (k : Int) + 5) 998244353) 7
def partsL (cell : Int) : Int → Nat → List Int → List Int
  | _, _, [] => []
  | left, k, s :: ss => if 0 ≤ left then left.fmod s :: partsL cell (left.fdiv s) (k + 1) ss else (mixP cell k).fmod s :: partsL cell left (k + 1) ss
def parts (cell : Int) (sizes : List Int) : List Int := partsL cell (cell - 1000000000000000000) 0 sizes
theorem partsL_len (cell : Int) : ∀ (ss : List Int) (l : Int) (k : Nat), (partsL cell l k ss).length = ss.length
  | [], _, _ => rfl
  | s :: ss, l, k => by
    unfold partsL
    split
    · rw [List.length_cons, List.length_cons, partsL_len cell ss]
    · rw [List.length_cons, List.length_cons, partsL_len cell ss]
theorem partsL_in (cell : Int) : ∀ (ss : List Int) (l : Int) (k : Nat), (∀ s ∈ ss, 0 < s) → ∀ (i : Nat) (p s : Int), (partsL cell l k ss)[i]? = some p → ss[i]? = some s → 0 ≤ p ∧ p < s
  | [], _, _, _, i, p, s, h, _ => by simp [partsL] at h
  | s :: ss, l, k, hp, i, p, s', h, h' => by
    have h0 := hp s List.mem_cons_self
    have key : ∀ x : Int, 0 ≤ x.fmod s ∧ x.fmod s < s := fun x => by rw [Int.fmod_eq_emod_of_nonneg _ (by omega)]; exact ⟨Int.emod_nonneg _ (by omega), Int.emod_lt_of_pos _ h0⟩
    unfold partsL at h
    split at h
    · cases i with
      | zero => simp at h h'; subst h h'; exact key _
      | succ i => exact partsL_in cell ss _ _ (fun x hx => hp x (List.mem_cons_of_mem _ hx)) i p s' (by simpa using h) (by simpa using h')
    · cases i with
      | zero => simp at h h'; subst h h'; exact key _
      | succ i => exact partsL_in cell ss _ _ (fun x hx => hp x (List.mem_cons_of_mem _ hx)) i p s' (by simpa using h) (by simpa using h')
theorem parts_len (cell : Int) (ss : List Int) : (parts cell ss).length = ss.length := partsL_len ..
/-- the i-th part -/
def prt (ps : List Int) (i : Nat) : Int := ps.getD i 0
theorem parts_at {cell : Int} {ss : List Int} {i : Nat} {s : Int} (hp : ∀ s ∈ ss, 0 < s) (h : ss[i]? = some s) : (parts cell ss)[i]? = some (prt (parts cell ss) i) ∧ 0 ≤ prt (parts cell ss) i ∧ prt (parts cell ss) i < s := by
  have hi : i < (parts cell ss).length := by rw [parts_len]; exact (List.getElem?_eq_some_iff.mp h).1
  have e : (parts cell ss)[i]? = some (prt (parts cell ss) i) := by
    unfold prt
    rw [List.getD_eq_getElem?_getD, List.getElem?_eq_getElem hi]; rfl
  exact ⟨e, partsL_in cell ss _ 0 hp i _ s e h⟩
theorem mixOk {c : Int} (h : Sm 2000000 c) : mulOk c 48271 := h.mulOk (k := 16) (by decide) (by decide)
theorem parts_loop {M : Mem} {cell : Int} {st : T} {sizes : List Int} {gd : List (Nat × List T)} (hs : sof M st = some (sizes.map T.int)) (hst : pureT st = true) (hcell : Sm 2000000 cell) (hpos : ∀ s ∈ sizes, 0 < s ∧ Sm 8000 s) (hlen : sizes.length ≤ 1000) :
    ∀ (ss : List Int) (dn : List Int) (left : Int) (acc : List Int) (z y : Option T), sizes = dn ++ ss → acc.length = dn.length → ∃ left' z' y', fr G (.nm 4 "_law_k") [
    .ite (.cmp .GtE (.var 3 "_law_left") (.int 0)) [
      .ex (.bm .append (.var 2 "_law_parts_here") (.cons (.bin .Mod false (.bi .int (.cons (.var 3 "_law_left") .nil)) (.ix (.var 1 "_law_sizes") (.var 4 "_law_k"))) .nil)),
      .set 3 "_law_left" (.bin .FloorDiv false (.var 3 "_law_left") (.ix (.var 1 "_law_sizes") (.var 4 "_law_k")))] [
      .set 5 "_law_mixed" (.bin .Mod false (.bi .int (.cons (.bin .Add false (.bin .Add false (.bin .Mult false (.var 0 "_law_cell_here") (.int 48271)) (.bin .Mult false (.var 4 "_law_k") (.int 69621))) (.int 11)) .nil)) (.int 2147483647)),
      .set 5 "_law_mixed" (.bin .Mod false (.bi .int (.cons (.bin .Add false (.bin .Add false (.bin .Mult false (.var 5 "_law_mixed") (.var 5 "_law_mixed")) (.bin .Mult false (.int 16807) (.var 4 "_law_k"))) (.int 5)) .nil)) (.int 998244353)),
      .ex (.bm .append (.var 2 "_law_parts_here") (.cons (.bin .Mod false (.bi .int (.cons (.bin .FloorDiv false (.var 5 "_law_mixed") (.int 7)) .nil)) (.ix (.var 1 "_law_sizes") (.var 4 "_law_k"))) .nil))]] [] (rngL (dn.length : Nat) ((dn.length + ss.length : Nat) : Int))
      [some (.int cell), some st, some (.obj M.length), some (.int left), z, y] (M ++ [.lst (acc.map T.int)]) = some (.nx [some (.int cell), some st, some (.obj M.length), some (.int left'), z', y'] (M ++ [.lst ((acc ++ partsL cell left dn.length ss).map T.int)]))
  | [], dn, left, acc, z, y, hd, ha => ⟨left, z, y, by
      rw [rngL_ge (by simp)]
      rw [frn_nil]
      simp [partsL]⟩
  | s :: ss, dn, left, acc, z, y, hd, ha => by
    obtain ⟨s0, s1⟩ := hpos s (by rw [hd]; simp)
    have hgo : (dn.length : Int) < ((dn.length + (s :: ss).length : Nat) : Int) := by simp only [List.length_cons]; omega
    rw [rngL_lt hgo]
    have hix : ∀ M1 : List O, ixT st (.int (dn.length : Nat)) (M ++ M1) = some (.int s) := fun M1 => by
      have hs' : sof (M ++ M1) st = some (sizes.map T.int) := by
        cases st with
        | obj i => simp [pureT] at hst
        | _ => exact hs
      have hd0 : dof (M ++ M1) st = none := by
        cases st with
        | obj i => simp [pureT] at hst
        | fd tk ks ts => simp [sof, lofS, lof] at hs
        | _ => rfl
      have hi : (sizes.map T.int)[dn.length]? = some (.int s) := by rw [hd]; simp
      have hx : (sof (M ++ M1) st).bind (fun ts => atI ts ((dn.length : Nat) : Int)) = some (.int s) := by
        rw [hs']
        show atI _ _ = _
        rw [atI_n, hi]
      unfold ixT
      rw [hd0]
      cases st with
      | str z => simp [sof, lofS, lof] at hs
      | _ => exact hx
    have hN : (dn.length : Int) + 1 = ((dn ++ [s]).length : Nat) := by simp
    have hM : ((dn.length + (s :: ss).length : Nat) : Int) = (((dn ++ [s]).length + ss.length : Nat) : Int) := by simp only [List.length_cons, List.length_append, List.length_nil]; omega
    have hal : acc.length < 16777216 := by
      have : dn.length ≤ 1000 := by rw [hd] at hlen; simp at hlen; omega
      omega
    have dvs : divOk s := Sm.divOk (by omega) s1 (by decide)
    have hk : Sm 16 (dn.length : Nat) := by
      have : dn.length ≤ 1000 := by rw [hd] at hlen; simp at hlen; omega
      unfold Sm; simp only [Int.natAbs_natCast]; omega
    by_cases h0 : 0 ≤ left
    · obtain ⟨l', z', y', ih⟩ := parts_loop hs hst hcell hpos hlen (gd := gd) ss (dn ++ [s]) (left.fdiv s) (acc ++ [left.fmod s]) (some (.int (dn.length : Nat))) y (by rw [hd]; simp) (by simp [ha])
      refine ⟨l', z', y', ?_⟩
      rw [frn_nx [some (.int cell), some st, some (.obj M.length), some (.int (left.fdiv s)), some (.int (dn.length : Nat)), y] (M ++ [.lst ((acc ++ [left.fmod s]).map T.int)]) (by simp)
        (by simp [h0, lof, biT, bmT, hix, bin_mod (show s ≠ 0 by omega), bin_div dvs, hal]), hN, hM, ih]
      congr 4
      rw [partsL, if_pos h0]
      simp
    · have hm0 : (0:Int) ≤ Int.fmod (cell * 48271 + (dn.length : Int) * 69621 + 11) 2147483647 ∧ Int.fmod (cell * 48271 + (dn.length : Int) * 69621 + 11) 2147483647 < 2147483647 := by
        rw [Int.fmod_eq_emod_of_nonneg _ (by decide)]; exact ⟨Int.emod_nonneg _ (by decide), Int.emod_lt_of_pos _ (by decide)⟩
      have m1 : Sm 31 (Int.fmod (cell * 48271 + (dn.length : Int) * 69621 + 11) 2147483647) := by unfold Sm; omega
      obtain ⟨l', z', y', ih⟩ := parts_loop hs hst hcell hpos hlen (gd := gd) ss (dn ++ [s]) left (acc ++ [(mixP cell dn.length).fmod s]) (some (.int (dn.length : Nat))) (some (.int (Int.fmod (Int.fmod (cell * 48271 + (dn.length : Int) * 69621 + 11) 2147483647 * Int.fmod (cell * 48271 + (dn.length : Int) * 69621 + 11) 2147483647 + 16807 * (dn.length : Int) + 5) 998244353))) (by rw [hd]; simp) (by simp [ha])
      refine ⟨l', z', y', ?_⟩
      have d7 : divOk 7 := by decide
      rw [frn_nx [some (.int cell), some st, some (.obj M.length), some (.int left), some (.int (dn.length : Nat)), some (.int (Int.fmod (Int.fmod (cell * 48271 + (dn.length : Int) * 69621 + 11) 2147483647 * Int.fmod (cell * 48271 + (dn.length : Int) * 69621 + 11) 2147483647 + 16807 * (dn.length : Int) + 5) 998244353))] (M ++ [.lst ((acc ++ [(mixP cell dn.length).fmod s]).map T.int)]) (by simp)
        (by simp [h0, lof, biT, bmT, hix, bin_mod (show s ≠ 0 by omega), bin_mod (show (2147483647 : Int) ≠ 0 by decide), bin_mod (show (998244353 : Int) ≠ 0 by decide), bin_div d7, bin_mul (mixOk hcell), bin_mul (hk.mulOk (k := 17) (y := 69621) (by decide) (by decide)), bin_mul (m1.mulOk m1 (by decide)), bin_mul (Sm.mulOk (x := 16807) (j := 15) (by decide) hk (by decide)), hal, mixP]), hN, hM, ih]
      congr 4
      rw [partsL, if_neg h0]
      simp
end Mi
end L2

/-! The script's parts, the law's small defs. -/
namespace L2
namespace Mi
open PySem PySem.Spec PyProof.Rows
variable {G : Sig}
theorem pow_10_18 (M : Mem) : binT .Pow false (.int 10) (.int 18) M = some (.int 1000000000000000000, M) := by
  have hp : powOk 10 18 := by unfold powOk; decide
  show (if powOk 10 18 then some (T.int ((10 : Int) ^ (18 : Int).toNat), M) else none) = _
  rw [if_pos hp]
  rfl
def IsParts (F : Fn) : Prop := ∀ (cell : Int) (st : T) (sizes : List Int) (M : Mem), sof M st = some (sizes.map T.int) → pureT st = true → Sm 2000000 cell → (∀ s ∈ sizes, 0 < s ∧ Sm 8000 s) → sizes.length ≤ 1000 → F [.int cell, st] M = some (ilT (parts cell sizes), M)
theorem sp_parts : IsParts (runD G Lib._law_parts) := by
  intro cell st sizes M hs hst hc hp hl
  obtain ⟨l', z', y', e⟩ := parts_loop (G := G) (gd := []) hs hst hc hp hl sizes [] (cell - 1000000000000000000) [] none none rfl rfl
  have hfin : fin true M (.obj M.length) (M ++ [.lst ((parts cell sizes).map T.int)]) = (ilT (parts cell sizes), M) := fin_obj M _ _ _ (Nat.le_refl _) (by simp) (pureTs_ints _)
  have hsof : sof (M ++ [O.lst []]) st = some (sizes.map T.int) := by
    cases st with
    | obj i => simp [pureT] at hst
    | _ => exact hs
  have hdof : dof (M ++ [O.lst []]) st = none := by
    cases st with
    | obj i => simp [pureT] at hst
    | fd tk ks ts => simp [sof, lofS, lof] at hs
    | _ => rfl
  have hro : rngOk 0 (sizes.length : Nat) := by unfold rngOk; omega
  have hb : exSs G Lib._law_parts.body (startE Lib._law_parts.N [.int cell, st]) M = some (.rt (.obj M.length) (M ++ [.lst ((parts cell sizes).map T.int)])) := by
    have hpow : binT .Pow false (.int 10) (.int 18) (M ++ [O.lst []]) = some (.int 1000000000000000000, M ++ [O.lst []]) := pow_10_18 _
    simp only [List.length_nil, Nat.zero_add, List.nil_append, List.map_nil] at e
    rw [show (((0 : Nat) : Int)) = 0 from rfl, show partsL cell (cell - 1000000000000000000) 0 sizes = parts cell sizes from rfl] at e
    have hbl := bi_len hdof hsof
    rw [List.length_map] at hbl
    have hrg := rg1_of hro
    simp [Lib._law_parts, startE, hpow, hbl, hrg, e]
  rw [run_rt rfl hb]
  exact congrArg some hfin
end Mi
end L2

/-! Equality of numbers and lists; the rest of k01's defs. -/
namespace L2
namespace Mi
open PySem PySem.Spec PyProof.Rows
variable {G : Sig}
theorem eqTs_ints : ∀ (a b : List Int), eqTs (a.map T.int) (b.map T.int) = decide (a = b)
  | [], [] => by simp [eqTs]
  | [], _ :: _ => by simp [eqTs]
  | _ :: _, [] => by simp [eqTs]
  | x :: a, y :: b => by
    simp only [List.map_cons, eqTs, eqT, eqTs_ints a b, List.cons.injEq, Bool.decide_and]
    rfl
theorem depTs_ints : ∀ a : List Int, depTs (a.map T.int) = 0
  | [] => rfl
  | x :: a => by simp [depTs, depT, depTs_ints a]
theorem eqv_il (a b : List Int) (M : Mem) : eqv? M (ilT a) (ilT b) = some (decide (a = b)) := by
  have h1 : ∀ a : List Int, sealT M 0 6 (scL (ilT a)) = some (ilT a) := fun a => seal_pure (pureT_il a)
  have h2 : ∀ a : List Int, okT (ilT a) = true := fun a => by simp only [ilT, okT]; exact okTs_ints a
  have h3 : ∀ a : List Int, depT (ilT a) ≤ 60 := fun a => by simp [ilT, depT, depTs_ints]
  unfold eqv?
  rw [h1, h1]
  simp only [Option.bind_some]
  rw [if_pos ⟨h2 a, h2 b, h3 a, h3 b⟩]
  simp only [ilT, eqT, eqTs_ints]
theorem eqv_num (p q : Q2) (M : Mem) : eqv? M (numT p) (numT q) = some (decide (p = q)) := by
  have e : eqT (numT p) (numT q) = decide (p = q) := by
    have := eqTs_ints [p.1, p.2] [q.1, q.2]
    simp only [List.map_cons, List.map_nil] at this
    show eqTs [T.int p.1, T.int p.2] [T.int q.1, T.int q.2] = _
    rw [this]
    obtain ⟨a, b⟩ := p
    obtain ⟨c, d⟩ := q
    simp
  unfold eqv?
  simp [scL, numT, sealT, pureT, pureTs, okT, okTs, depT, depTs]
  exact e
theorem cmpeq_of {x y : T} {M : Mem} {b : Bool} (h : eqv? M x y = some b) : cmpT .Eq x y M = some b := by unfold cmpT; exact h
theorem cmpne_of {x y : T} {M : Mem} {b : Bool} (h : eqv? M x y = some b) : cmpT .NotEq x y M = some (!b) := by
  have : cmpT .NotEq x y M = (eqv? M x y).map not := by unfold cmpT; rfl
  rw [this, h]; rfl
theorem sp_is_integer (i : Int) (M : Mem) : runD G Lib._law_is_integer [.int i] M = some (.bl true, M) := by
  refine run_pure (M1 := []) rfl rfl rfl ?_
  rw [List.append_nil]
  simp [Lib._law_is_integer, startE, isiT]
def IsSame (F : Fn) : Prop := ∀ (p q : Q2) (M : Mem), F [numT p, numT q] M = some (.bl (decide (p = q)), M)
theorem sp_is_same (h : Knows G "_law_is_integer" fun F => ∀ (i : Int) (M : Mem), F [.int i] M = some (.bl true, M)) : IsSame (runD G Lib._law_is_same) := by
  intro p q M
  obtain ⟨F, hl, hF⟩ := h
  refine run_pure (M1 := []) rfl rfl rfl ?_
  rw [List.append_nil]
  have e := cmpeq_of (eqv_num p q M)
  have i0 : ∀ i : Int, ixT (numT p) (.int i) M = atI [T.int p.1, T.int p.2] i := fun i => ix_tup _ _ _
  have l0 : biT .len [numT p] M = some (.int 2, M) := rfl
  have s0 : isiT M "tuple" (numT p) = some true := rfl
  simp [Lib._law_is_same, startE, e, i0, l0, s0, hl, hF]
/-! ### scaling -/
theorem nrm_scale {c n d : Int} (hc : c ≠ 0) (hd : d ≠ 0) : nrm (c * n) (c * d) = nrm n d := by
  have g0 := gcd_pos (n := n) hd
  have e : (Int.gcd (c * n) (c * d) : Int) = (c.natAbs : Int) * (Int.gcd n d : Nat) := by rw [Int.gcd_mul_left]; push_cast; rfl
  have key : ∀ x : Int, ((Int.gcd n d : Nat) : Int) ∣ x → (c * x) / ((c.natAbs : Int) * (Int.gcd n d : Nat)) = (if c < 0 then -x else x) / (Int.gcd n d : Nat) := fun x ⟨q, hq⟩ => by
    have hgne : ((Int.gcd n d : Nat) : Int) ≠ 0 := by omega
    have hcne : ((c.natAbs : Nat) : Int) ≠ 0 := by omega
    by_cases h : c < 0
    · rw [if_pos h]
      apply Int.ediv_eq_of_eq_mul_right (Int.mul_ne_zero hcne hgne)
      have : (-x) / ((Int.gcd n d : Nat) : Int) = -q := Int.ediv_eq_of_eq_mul_right hgne (by rw [hq, Int.mul_neg])
      rw [this, hq, show ((c.natAbs : Nat) : Int) = -c by omega, Int.neg_mul, Int.neg_mul_neg, Int.mul_assoc]
    · rw [if_neg h]
      apply Int.ediv_eq_of_eq_mul_right (Int.mul_ne_zero hcne hgne)
      have : x / ((Int.gcd n d : Nat) : Int) = q := Int.ediv_eq_of_eq_mul_right hgne hq
      rw [this, hq, show ((c.natAbs : Nat) : Int) = c by omega, Int.mul_assoc]
  have dn : ((Int.gcd n d : Nat) : Int) ∣ n := Int.gcd_dvd_left ..
  have dd : ((Int.gcd n d : Nat) : Int) ∣ d := Int.gcd_dvd_right ..
  have neg : ∀ x : Int, -(c * x) = c * -x := fun x => by rw [Int.mul_neg]
  unfold nrm
  rw [e]
  by_cases hcn : c < 0
  · by_cases hdn : d < 0
    · have hp : ¬ c * d < 0 := by
        have := Int.mul_pos_of_neg_of_neg hcn hdn; omega
      rw [if_neg hp, if_pos hdn, key n dn, key d dd, if_pos hcn, if_pos hcn]
    · have hp : c * d < 0 := Int.mul_neg_of_neg_of_pos hcn (by omega)
      rw [if_pos hp, if_neg hdn, neg, neg, key _ (Int.dvd_neg.mpr dn), key _ (Int.dvd_neg.mpr dd), if_pos hcn, if_pos hcn, Int.neg_neg, Int.neg_neg]
  · by_cases hdn : d < 0
    · have hp : c * d < 0 := Int.mul_neg_of_pos_of_neg (by omega) hdn
      rw [if_pos hp, if_pos hdn, neg, neg, key _ (Int.dvd_neg.mpr dn), key _ (Int.dvd_neg.mpr dd), if_neg hcn, if_neg hcn]
    · have hp : ¬ c * d < 0 := by
        have := Int.mul_pos (a := c) (b := d) (by omega) (by omega); omega
      rw [if_neg hp, if_neg hdn, key n dn, key d dd, if_neg hcn, if_neg hcn]
/-- nrm's own shape: a common factor taken out -/
theorem nrm_eq {n d : Int} (hd : d ≠ 0) : ∃ c : Int, c ≠ 0 ∧ n = c * (nrm n d).1 ∧ d = c * (nrm n d).2 ∧ 0 < (nrm n d).2 := by
  have g0 := gcd_pos (n := n) hd
  obtain ⟨a, ha⟩ : ((Int.gcd n d : Nat) : Int) ∣ n := Int.gcd_dvd_left ..
  obtain ⟨b, hb⟩ : ((Int.gcd n d : Nat) : Int) ∣ d := Int.gcd_dvd_right ..
  have hg : ((Int.gcd n d : Nat) : Int) ≠ 0 := by omega
  unfold nrm
  by_cases hdn : d < 0
  · rw [if_pos hdn]
    have e1 : -n / ((Int.gcd n d : Nat) : Int) = -a := Int.ediv_eq_of_eq_mul_right hg (by rw [Int.mul_neg, ← ha])
    have e2 : -d / ((Int.gcd n d : Nat) : Int) = -b := Int.ediv_eq_of_eq_mul_right hg (by rw [Int.mul_neg, ← hb])
    refine ⟨-((Int.gcd n d : Nat) : Int), by omega, ?_, ?_, ?_⟩
    · show n = _ * (-n / _); rw [e1, Int.neg_mul_neg]; exact ha
    · show d = _ * (-d / _); rw [e2, Int.neg_mul_neg]; exact hb
    · show 0 < -d / _; rw [e2]
      have : b < 0 := by
        rcases Int.lt_trichotomy b 0 with h | h | h
        · exact h
        · subst h; simp at hb; omega
        · have := Int.mul_pos (a := ((Int.gcd n d : Nat) : Int)) (b := b) (by omega) h; omega
      omega
  · rw [if_neg hdn]
    have e1 : n / ((Int.gcd n d : Nat) : Int) = a := Int.ediv_eq_of_eq_mul_right hg ha
    have e2 : d / ((Int.gcd n d : Nat) : Int) = b := Int.ediv_eq_of_eq_mul_right hg hb
    refine ⟨((Int.gcd n d : Nat) : Int), by omega, ?_, ?_, ?_⟩
    · show n = _ * (n / _); rw [e1]; exact ha
    · show d = _ * (d / _); rw [e2]; exact hb
    · show 0 < d / _; rw [e2]
      rcases Int.lt_trichotomy b 0 with h | h | h
      · have := Int.mul_neg_of_pos_of_neg (a := ((Int.gcd n d : Nat) : Int)) (b := b) (by omega) h; omega
      · subst h; simp at hb; omega
      · exact h
theorem nrm_sm {k : Nat} {n d : Int} (hd : d ≠ 0) (h1 : Sm k n) (h2 : Sm k d) : SmQ k (nrm n d) := by
  obtain ⟨c, hc, e1, e2, _⟩ := nrm_eq (n := n) hd
  have key : ∀ x y : Int, x = c * y → y.natAbs ≤ x.natAbs := fun x y e => by
    rw [e, Int.natAbs_mul]
    exact Nat.le_mul_of_pos_left _ (by omega)
  exact ⟨h1.le (key _ _ e1), h2.le (key _ _ e2)⟩
theorem nrm_pos {n d : Int} (hd : d ≠ 0) : 0 < (nrm n d).2 := (nrm_eq hd).choose_spec.2.2.2
theorem addQ_neg (a b : Q2) : subQ a b = addQ a (-b.1, b.2) := by
  unfold subQ addQ
  simp only
  rw [Int.neg_mul, ← Int.sub_eq_add_neg]
theorem divQ_mul {a b : Q2} (ha : a.2 ≠ 0) (hb : b.1 ≠ 0) : divQ a b = mulQ a (nrm b.2 b.1) := by
  obtain ⟨c, hc, e1, e2, hp⟩ := nrm_eq (n := b.2) hb
  unfold divQ mulQ
  have k1 : a.1 * b.2 = c * (a.1 * (nrm b.2 b.1).1) := by
    calc a.1 * b.2 = a.1 * (c * (nrm b.2 b.1).1) := by rw [← e1]
      _ = _ := by rw [← Int.mul_assoc, Int.mul_comm a.1 c, Int.mul_assoc]
  have k2 : a.2 * b.1 = c * (a.2 * (nrm b.2 b.1).2) := by
    calc a.2 * b.1 = a.2 * (c * (nrm b.2 b.1).2) := by rw [← e2]
      _ = _ := by rw [← Int.mul_assoc, Int.mul_comm a.2 c, Int.mul_assoc]
  rw [k1, k2]
  exact nrm_scale hc (Int.mul_ne_zero ha (by omega))
theorem ltQ_irr (a : Q2) : ltQ a a = false := by unfold ltQ; simp
end Mi
end L2

/-! Numbers as rationals. -/
namespace L2
namespace Mi
open PySem PySem.Spec PyProof.Rows
variable {G : Sig}
def ratT (q : Rat) : T := .tup [.int q.num, .int (q.den : Int)]
theorem ratT_pure (q : Rat) : pureT (ratT q) = true := by simp [ratT, pureT, pureTs]
theorem nrm_rat {n d : Int} (hd : d ≠ 0) : numT (nrm n d) = ratT ((n : Rat) / (d : Rat)) := by
  unfold numT ratT
  rw [← Rat.divInt_eq_div, Rat.num_divInt, Rat.den_divInt, if_neg hd]
  have hg : 0 < Int.gcd n d := gcd_pos hd
  unfold nrm
  by_cases h : d < 0
  · rw [if_pos h, Int.sign_eq_neg_one_of_neg h, Int.gcd_comm d n]
    simp only [Int.neg_one_mul, Int.neg_mul, Int.one_mul]
    congr 3
    rw [show -d = (d.natAbs : Int) by omega]
    rfl
  · rw [if_neg h, Int.sign_eq_one_of_pos (by omega), Int.gcd_comm d n]
    simp only [Int.one_mul]
    congr 3
    rw [Int.natCast_ediv, Int.natAbs_of_nonneg (by omega)]
theorem rat_split (a : Rat) : a = (a.num : Rat) / ((a.den : Int) : Rat) := by
  rw [← Rat.divInt_eq_div]
  exact Rat.mk_eq_divInt (num := a.num) (den := a.den) (nz := a.den_nz) (c := a.reduced)
theorem den_ne (a : Rat) : ((a.den : Int) : Rat) ≠ 0 := by
  have := a.den_nz
  intro h
  have h2 : ((a.den : Int) : Rat) = ((0 : Int) : Rat) := h
  rw [Rat.intCast_inj] at h2
  omega
theorem den_pos (a : Rat) : (0 : Int) < (a.den : Int) := by have := a.den_pos; omega
theorem den_n0 (a : Rat) : (a.den : Int) ≠ 0 := by have := a.den_pos; omega
theorem cast_ne {d : Int} (h : d ≠ 0) : (d : Rat) ≠ 0 := by
  intro e
  have h2 : (d : Rat) = ((0 : Int) : Rat) := e
  rw [Rat.intCast_inj] at h2
  exact h h2
/-- sizes by bits -/
def Sq (k : Nat) (q : Rat) : Prop := Sm k q.num ∧ Sm k (q.den : Int)
theorem Sq.mono {j k : Nat} {x : Rat} (h : Sq j x) (hk : j ≤ k) : Sq k x := ⟨h.1.mono hk, h.2.mono hk⟩
theorem quo_num {n d : Int} (hd : d ≠ 0) : ((n : Rat) / (d : Rat)).num.natAbs ≤ n.natAbs ∧ ((n : Rat) / (d : Rat)).den ≤ d.natAbs := by
  rw [← Rat.divInt_eq_div, Rat.num_divInt, Rat.den_divInt, if_neg hd]
  refine ⟨?_, Nat.div_le_self _ _⟩
  refine Nat.le_trans (Int.natAbs_ediv_le_natAbs _ _) ?_
  rw [Int.natAbs_mul]
  have := Int.natAbs_sign d
  by_cases h : d = 0
  · exact absurd h hd
  · rw [Int.natAbs_sign_of_ne_zero h, Nat.one_mul]; exact Nat.le_refl _
theorem quo_sq {k : Nat} {n d : Int} (hd : d ≠ 0) (h1 : Sm k n) (h2 : Sm k d) : Sq k ((n : Rat) / (d : Rat)) := by
  obtain ⟨a, b⟩ := quo_num (n := n) hd
  refine ⟨h1.le a, ?_⟩
  unfold Sm at *
  simp only [Int.natAbs_natCast]
  omega
theorem add_quo (a b : Rat) : ((a.num * (b.den : Int) + b.num * (a.den : Int) : Int) : Rat) / (((a.den : Int) * (b.den : Int) : Int) : Rat) = a + b := by
  have ha := den_ne a
  have hb := den_ne b
  conv => rhs; rw [rat_split a, rat_split b]
  rw [Rat.intCast_add, Rat.intCast_mul, Rat.intCast_mul, Rat.intCast_mul]
  grind
theorem sub_quo (a b : Rat) : ((a.num * (b.den : Int) - b.num * (a.den : Int) : Int) : Rat) / (((a.den : Int) * (b.den : Int) : Int) : Rat) = a - b := by
  have ha := den_ne a
  have hb := den_ne b
  conv => rhs; rw [rat_split a, rat_split b]
  rw [Rat.intCast_sub, Rat.intCast_mul, Rat.intCast_mul, Rat.intCast_mul]
  grind
theorem mul_quo (a b : Rat) : ((a.num * b.num : Int) : Rat) / (((a.den : Int) * (b.den : Int) : Int) : Rat) = a * b := by
  have ha := den_ne a
  have hb := den_ne b
  conv => rhs; rw [rat_split a, rat_split b]
  rw [Rat.intCast_mul, Rat.intCast_mul]
  grind
theorem div_quo (a b : Rat) (h : b.num ≠ 0) : ((a.num * (b.den : Int) : Int) : Rat) / (((a.den : Int) * b.num : Int) : Rat) = a / b := by
  have ha := den_ne a
  have hb := den_ne b
  have hc := cast_ne h
  conv => rhs; rw [rat_split a, rat_split b]
  rw [Rat.intCast_mul, Rat.intCast_mul]
  grind
theorem Sq.add {j k : Nat} {a b : Rat} (h : Sq j a) (h' : Sq k b) : Sq (j + k + 1) (a + b) := by
  rw [← add_quo]
  exact quo_sq (Int.mul_ne_zero (den_n0 a) (den_n0 b)) ((h.1.mul h'.2).add ((h'.1.mul h.2).mono (by omega))) ((h.2.mul h'.2).mono (by omega))
theorem Sq.sub {j k : Nat} {a b : Rat} (h : Sq j a) (h' : Sq k b) : Sq (j + k + 1) (a - b) := by
  rw [← sub_quo]
  exact quo_sq (Int.mul_ne_zero (den_n0 a) (den_n0 b)) ((h.1.mul h'.2).sub ((h'.1.mul h.2).mono (by omega))) ((h.2.mul h'.2).mono (by omega))
theorem Sq.mul {j k : Nat} {a b : Rat} (h : Sq j a) (h' : Sq k b) : Sq (j + k) (a * b) := by
  rw [← mul_quo]
  exact quo_sq (Int.mul_ne_zero (den_n0 a) (den_n0 b)) (h.1.mul h'.1) (h.2.mul h'.2)
theorem Sq.neg {k : Nat} {a : Rat} (h : Sq k a) : Sq k (-a) := ⟨h.1.neg, h.2⟩
theorem Sq.int {k : Nat} {i : Int} (h : Sm k i) (hk : 0 < k) : Sq k (i : Rat) := ⟨h, by
  show Sm k ((1 : Nat) : Int)
  unfold Sm
  have : 2 ^ 1 ≤ 2 ^ k := Nat.pow_le_pow_right (by decide) hk
  simp only [Int.natAbs_natCast]
  omega⟩
theorem ratT_int (i : Int) : ratT (i : Rat) = .tup [.int i, .int 1] := rfl
theorem ratT_zero : ratT 0 = .tup [.int 0, .int 1] := rfl
theorem ratT_one : ratT 1 = .tup [.int 1, .int 1] := rfl
def IsNum (F : Fn) : Prop := ∀ (n d : Int) (M : Mem), d ≠ 0 → F [.int n, .int d] M = some (ratT ((n : Rat) / (d : Rat)), M)
theorem sp_num (h : Knows G "common_divisor" IsGcd) : IsNum (runD G Lib.number) := by
  intro n d M hd
  obtain ⟨F, hl, hF⟩ := h
  rw [← nrm_rat hd]
  refine run_pure (M1 := []) rfl rfl rfl ?_
  rw [List.append_nil]
  have g0 := gcd_pos (n := n) hd
  have dv : divOk (Int.gcd n d : Nat) := by unfold divOk; omega
  have f1 := hF n d M
  have f2 := hF (-n) (-d) M
  rw [Int.neg_gcd, Int.gcd_neg] at f2
  by_cases h0 : d < 0
  · simp [Lib.number, startE, h0, parE, hl, f2, bin_div dv, fdiv_nat, numT, nrm]
  · simp [Lib.number, startE, h0, parE, hl, f1, bin_div dv, fdiv_nat, numT, nrm]
/-- two numbers in, one out -/
def IsOpR (f : Rat → Rat → Rat) (F : Fn) : Prop := ∀ (a b : Rat) (M : Mem), Sq 60000000 a → Sq 60000000 b → F [ratT a, ratT b] M = some (ratT (f a b), M)
theorem sp_plusR (h : Knows G "number" IsNum) : IsOpR (· + ·) (runD G Lib.plus) := by
  intro a b M sa sb
  obtain ⟨F, hl, hF⟩ := h
  refine run_pure (M1 := []) rfl rfl (ratT_pure _) ?_
  rw [List.append_nil]
  have e := hF (a.num * (b.den : Int) + b.num * (a.den : Int)) ((a.den : Int) * (b.den : Int)) M (Int.mul_ne_zero (den_n0 a) (den_n0 b))
  rw [add_quo] at e
  unfold ratT at e ⊢
  simp [Lib.plus, startE, bin_mul (sa.1.mulOk sb.2 (by decide)), bin_mul (sb.1.mulOk sa.2 (by decide)), bin_mul (sa.2.mulOk sb.2 (by decide)), hl, e]
theorem sp_minusR (h : Knows G "number" IsNum) : IsOpR (· - ·) (runD G Lib.minus) := by
  intro a b M sa sb
  obtain ⟨F, hl, hF⟩ := h
  refine run_pure (M1 := []) rfl rfl (ratT_pure _) ?_
  rw [List.append_nil]
  have e := hF (a.num * (b.den : Int) - b.num * (a.den : Int)) ((a.den : Int) * (b.den : Int)) M (Int.mul_ne_zero (den_n0 a) (den_n0 b))
  rw [sub_quo] at e
  unfold ratT at e ⊢
  simp [Lib.minus, startE, bin_mul (sa.1.mulOk sb.2 (by decide)), bin_mul (sb.1.mulOk sa.2 (by decide)), bin_mul (sa.2.mulOk sb.2 (by decide)), hl, e]
theorem sp_timesR (h : Knows G "number" IsNum) : IsOpR (· * ·) (runD G Lib.times) := by
  intro a b M sa sb
  obtain ⟨F, hl, hF⟩ := h
  refine run_pure (M1 := []) rfl rfl (ratT_pure _) ?_
  rw [List.append_nil]
  have e := hF (a.num * b.num) ((a.den : Int) * (b.den : Int)) M (Int.mul_ne_zero (den_n0 a) (den_n0 b))
  rw [mul_quo] at e
  unfold ratT at e ⊢
  simp [Lib.times, startE, bin_mul (sa.1.mulOk sb.1 (by decide)), bin_mul (sa.2.mulOk sb.2 (by decide)), hl, e]
def IsOver (F : Fn) : Prop := ∀ (a b : Rat) (M : Mem), b ≠ 0 → Sq 60000000 a → Sq 60000000 b → F [ratT a, ratT b] M = some (ratT (a / b), M)
theorem num_n0 {b : Rat} (h : b ≠ 0) : b.num ≠ 0 := fun e => h (Rat.num_eq_zero.mp e)
theorem sp_overR (h : Knows G "number" IsNum) : IsOver (runD G Lib.over) := by
  intro a b M h0 sa sb
  obtain ⟨F, hl, hF⟩ := h
  refine run_pure (M1 := []) rfl rfl (ratT_pure _) ?_
  rw [List.append_nil]
  have e := hF (a.num * (b.den : Int)) ((a.den : Int) * b.num) M (Int.mul_ne_zero (den_n0 a) (num_n0 h0))
  rw [div_quo _ _ (num_n0 h0)] at e
  unfold ratT at e ⊢
  simp [Lib.over, startE, bin_mul (sa.1.mulOk sb.2 (by decide)), bin_mul (sa.2.mulOk sb.1 (by decide)), hl, e]
def IsLess (F : Fn) : Prop := ∀ (a b : Rat) (M : Mem), Sq 60000000 a → Sq 60000000 b → F [ratT a, ratT b] M = some (.bl (decide (a < b)), M)
theorem sp_lessR : IsLess (runD G Lib.less) := by
  intro a b M sa sb
  refine run_pure (M1 := []) rfl rfl rfl ?_
  rw [List.append_nil]
  unfold ratT
  simp [Lib.less, startE, bin_mul (sa.1.mulOk sb.2 (by decide)), bin_mul (sb.1.mulOk sa.2 (by decide)), Rat.lt_iff]
theorem sp_law_lessR : IsLess (runD G Lib._law_less) := by
  intro a b M sa sb
  refine run_pure (M1 := []) rfl rfl rfl ?_
  rw [List.append_nil]
  unfold ratT
  simp [Lib._law_less, startE, bin_mul (sa.1.mulOk sb.2 (by decide)), bin_mul (sb.1.mulOk sa.2 (by decide)), Rat.lt_iff]
def sgnR (a : Rat) : Int := (if 0 < a then 1 else 0) - (if a < 0 then 1 else 0)
def IsSign (F : Fn) : Prop := ∀ (a : Rat) (M : Mem), F [ratT a] M = some (.int (sgnR a), M)
theorem pos_num (a : Rat) : 0 < a ↔ 0 < a.num := by
  rw [Rat.lt_iff]; simp
theorem neg_num (a : Rat) : a < 0 ↔ a.num < 0 := by
  rw [Rat.lt_iff]; simp
theorem sp_signR : IsSign (runD G Lib.sign) := by
  intro a M
  refine run_pure (M1 := []) rfl rfl rfl ?_
  rw [List.append_nil]
  unfold ratT
  simp [Lib.sign, startE, sgnR, biT, pos_num, neg_num]
theorem eqv_rat (p q : Rat) (M : Mem) : eqv? M (ratT p) (ratT q) = some (decide (p = q)) := by
  have := eqv_num (p.num, (p.den : Int)) (q.num, (q.den : Int)) M
  have e : ((p.num, (p.den : Int)) = (q.num, (q.den : Int))) ↔ p = q := by
    constructor
    · intro h
      simp only [Prod.mk.injEq] at h
      exact Rat.ext h.1 (by omega)
    · rintro rfl; rfl
  simp only [e] at this
  exact this
/-! ### the law's own numbers -/
def IsLNum (F : Fn) : Prop := ∀ (n d : Int) (M : Mem), d ≠ 0 → Sm 1900 d → F [.int n, .int d] M = some (ratT ((n : Rat) / (d : Rat)), M)
theorem sp_lnum (h : Knows G "_law_divisor" IsGcdB) : IsLNum (runD G Lib._law_number) := by
  intro n d M hd hs
  rw [← nrm_rat hd]
  exact sp_law_number h n d M hd hs
def IsLOp (f : Rat → Rat → Rat) (F : Fn) : Prop := ∀ (a b : Rat) (M : Mem), Sq 60000000 a → Sq 60000000 b → Sm 1900 ((a.den : Int) * (b.den : Int)) → F [ratT a, ratT b] M = some (ratT (f a b), M)
theorem sp_lplus (h : Knows G "_law_number" IsLNum) : IsLOp (· + ·) (runD G Lib._law_plus) := by
  intro a b M sa sb sd
  obtain ⟨F, hl, hF⟩ := h
  refine run_pure (M1 := []) rfl rfl (ratT_pure _) ?_
  rw [List.append_nil]
  have e := hF (a.num * (b.den : Int) + b.num * (a.den : Int)) ((a.den : Int) * (b.den : Int)) M (Int.mul_ne_zero (den_n0 a) (den_n0 b)) sd
  rw [add_quo] at e
  unfold ratT at e ⊢
  simp [Lib._law_plus, startE, bin_mul (sa.1.mulOk sb.2 (by decide)), bin_mul (sb.1.mulOk sa.2 (by decide)), bin_mul (sa.2.mulOk sb.2 (by decide)), hl, e]
theorem sp_ltimes (h : Knows G "_law_number" IsLNum) : IsLOp (· * ·) (runD G Lib._law_times) := by
  intro a b M sa sb sd
  obtain ⟨F, hl, hF⟩ := h
  refine run_pure (M1 := []) rfl rfl (ratT_pure _) ?_
  rw [List.append_nil]
  have e := hF (a.num * b.num) ((a.den : Int) * (b.den : Int)) M (Int.mul_ne_zero (den_n0 a) (den_n0 b)) sd
  rw [mul_quo] at e
  unfold ratT at e ⊢
  simp [Lib._law_times, startE, bin_mul (sa.1.mulOk sb.1 (by decide)), bin_mul (sa.2.mulOk sb.2 (by decide)), hl, e]
end Mi
end L2

/-! The table of a program: what its methods reckon, the walk. -/
namespace L2
namespace Mi
open PySem PySem.Spec PyProof.Rows
variable {G : Sig}
structure TS where
  w : Nat
  signs : List Int
  rows : List (List Int)
  basis : List Nat
  scale : Int
  top : List Int
def nT (n : Nat) : T := .int (n : Int)
def TS.fs (s : TS) (n : Nat) : List (Str × T) := [("width", nT s.w), ("signs", ilT s.signs), ("rows", .obj (n + 1)), ("basis", .obj (n + 2)), ("scale", .int s.scale), ("top", ilT s.top)]
def TS.mem (s : TS) (n : Nat) : List O := [.ins "Table" (s.fs n), .lst (s.rows.map ilT), .lst (s.basis.map nT)]
def tabAs : List Str := ["width", "signs", "rows", "basis", "scale", "top"]
abbrev HasTab (G : Sig) : Prop := HasC G "Table" tabAs
/-- the table stands at n -/
structure At (s : TS) (n : Nat) (M : Mem) : Prop where
  o : M[n]? = some (.ins "Table" (s.fs n))
  r : M[n + 1]? = some (.lst (s.rows.map ilT))
  b : M[n + 2]? = some (.lst (s.basis.map nT))
theorem At.of (s : TS) (M0 : List O) (M1 : List O) : At s M0.length (M0 ++ (s.mem M0.length ++ M1)) := by
  refine ⟨?_, ?_, ?_⟩
  · rw [List.getElem?_append_right (by omega), Nat.sub_self]; rfl
  · rw [List.getElem?_append_right (by omega), Nat.add_sub_cancel_left]; rfl
  · rw [List.getElem?_append_right (by omega), Nat.add_sub_cancel_left]; rfl
theorem At.of0 (s : TS) (M0 : List O) : At s M0.length (M0 ++ s.mem M0.length) := by
  have := At.of s M0 []
  rwa [List.append_nil] at this
section
variable {s : TS} {n : Nat} {M : Mem}
theorem At.app (A : At s n M) (M1 : List O) : At s n (M ++ M1) := by
  have h : ∀ (i : Nat) (o : O), M[i]? = some o → (M ++ M1)[i]? = some o := fun i o h => by
    rw [List.getElem?_append_left (List.getElem?_eq_some_iff.mp h).1]; exact h
  exact ⟨h _ _ A.o, h _ _ A.r, h _ _ A.b⟩
theorem At.width (A : At s n M) (h : HasTab G) : attT G "Table" "width" (.obj n) M = some (nT s.w) := att_of h (by decide) A.o
theorem At.signs (A : At s n M) (h : HasTab G) : attT G "Table" "signs" (.obj n) M = some (ilT s.signs) := att_of h (by decide) A.o
theorem At.rows (A : At s n M) (h : HasTab G) : attT G "Table" "rows" (.obj n) M = some (.obj (n + 1)) := att_of h (by decide) A.o
theorem At.basis (A : At s n M) (h : HasTab G) : attT G "Table" "basis" (.obj n) M = some (.obj (n + 2)) := att_of h (by decide) A.o
theorem At.scale (A : At s n M) (h : HasTab G) : attT G "Table" "scale" (.obj n) M = some (.int s.scale) := att_of h (by decide) A.o
theorem At.top (A : At s n M) (h : HasTab G) : attT G "Table" "top" (.obj n) M = some (ilT s.top) := att_of h (by decide) A.o
end
/-! ### lists -/
def gt (l : List Int) (k : Nat) : Int := l.getD k 0
theorem at_il (ns : List Int) (k : Nat) (h : k < ns.length) : atI (ns.map T.int) (k : Int) = some (.int (gt ns k)) := by
  rw [atI_n, List.getElem?_map, gt, List.getD_eq_getElem?_getD, List.getElem?_eq_getElem h]; rfl
theorem ix_il (ns : List Int) (k : Nat) (M : Mem) (h : k < ns.length) : ixT (ilT ns) (nT k) M = some (.int (gt ns k)) := by
  unfold ilT nT; rw [ix_fl, at_il ns k h]
theorem ix_il_last (ns : List Int) (M : Mem) (h : ns ≠ []) : ixT (ilT ns) (.int (-1)) M = some (.int (gt ns (ns.length - 1))) := by
  have hl : 0 < ns.length := List.length_pos_iff.mpr h
  unfold ilT
  rw [ix_fl, atI_last (by simpa using h), List.length_map, List.getElem?_map, gt, List.getD_eq_getElem?_getD, List.getElem?_eq_getElem (by omega)]; rfl
@[simp] theorem fl_il (l : List Int) : T.fl (l.map T.int) = ilT l := rfl
@[simp] theorem sof_il (M : Mem) (l : List Int) : sof M (ilT l) = some (l.map T.int) := rfl
@[simp] theorem lof_il (M : Mem) (l : List Int) : lof M (ilT l) = some (l.map T.int) := rfl
@[simp] theorem grdOf_il (l : List Int) (us : List T) : grdOf (ilT l) us = [] := rfl
theorem fin_same {sl : Bool} {M M1 : Mem} {t : T} (hp : pureT t = true) (h : M1.length = M.length) : fin sl M t M1 = (t, M1) := by
  unfold fin
  split
  · rename_i hc
    have : M1 = M := by
      have := hc.2
      rwa [List.take_of_length_le (by omega)] at this
    rw [seal_pure hp, this]
  · rfl
theorem run_same {d : MD} {ts : List T} {M : Mem} {t : T} {M1 : Mem} (h : ts.length = d.ps.length) (hp : pureT t = true) (hl : M1.length = M.length) (e : exSs G d.body (startE d.N ts) M = some (.rt t M1)) : runD G d ts M = some (t, M1) := by
  rw [run_rt h e, fin_same hp hl]
theorem run_nx {d : MD} {ts : List T} {M : Mem} {σ : En} {M1 : Mem} (h : ts.length = d.ps.length) (hl : M1.length = M.length) (e : exSs G d.body (startE d.N ts) M = some (.nx σ M1)) : runD G d ts M = some (.non, M1) := by
  rw [runD_def d ts M h, e]
  show some (fin d.sl M .non M1) = _
  rw [fin_same rfl hl]
/-! ### _changed -/
def divs (a d : Int) (row : List Int) : List Int := row.map fun x => (a * x).fdiv d
def mixs (a b d : Int) (row step : List Int) : List Int := List.zipWith (fun x y => (a * x - b * y).fdiv d) row step
def chg (scale : Int) (row step : List Int) (c : Nat) : List Int :=
  if gt row c = 0 then (if gt step c = scale then row else divs (gt step c) scale row) else mixs (gt step c) (gt row c) scale row step
theorem divs_len (a d : Int) (row : List Int) : (divs a d row).length = row.length := by simp [divs]
theorem mixs_len (a b d : Int) (row step : List Int) : (mixs a b d row step).length = min row.length step.length := by simp [mixs]
def KB : Nat := 60000000
def Sma (l : List Int) : Prop := ∀ x ∈ l, Sm KB x
theorem Sma.at {l : List Int} (h : Sma l) (k : Nat) : Sm KB (gt l k) := by
  rw [gt, List.getD_eq_getElem?_getD]
  cases e : l[k]? with
  | none => show (0 : Int).natAbs < 2 ^ KB; exact Nat.pow_pos (by decide)
  | some x => exact h x (List.mem_of_getElem? e)
theorem mok {x y : Int} (h : Sm KB x) (h' : Sm KB y) : mulOk x y := Sm.mulOk h h' (by decide)
theorem fl_len {ts : List T} {n : Nat} (h : ts.length = n) (hn : n ≤ 16777216) : ts.length ≤ 16777216 := by omega
def IsChg (F : Fn) : Prop := ∀ (s : TS) (n : Nat) (M : Mem) (row step : List Int) (c : Nat), At s n M → row.length = step.length → c < row.length → row.length ≤ 16777216 → Sma row → Sma step → Sm KB s.scale → s.scale ≠ 0 →
  F [.obj n, ilT row, ilT step, nT c] M = some (ilT (chg s.scale row step c), M)
theorem sp_chg (hc : HasTab G) : IsChg (runD G Lib.Table__changed) := by
  intro s n M row step c A hl hcl hsz sr ss sk s0
  refine run_pure (M1 := []) rfl rfl (pureT_il _) ?_
  rw [List.append_nil]
  have e1 := ix_il row c M hcl
  have e2 := ix_il step c M (by omega)
  have e3 := A.scale hc
  have dv : divOk s.scale := s0
  have l1 : ∀ σ : En, σ[4]? = some (some (.int (gt step c))) → σ[6]? = some (some (.int s.scale)) → σ.length = 9 → lcr G (.nm 7 "x") .nil (.bin .FloorDiv false (.bin .Mult false (.var 4 "a") (.var 7 "x")) (.var 6 "scale")) σ [] (row.map T.int) M = some ((divs (gt step c) s.scale row).map T.int, M) := fun σ h4 h6 hl => by
    rw [lcr_of T.int (fun x => .int ((gt step c * x).fdiv s.scale)) (by simp) (fun x hx => ?_), divs, List.map_map]
    · rfl
    · have q7 : (σ.set 7 (some (T.int x)))[7]? = some (some (T.int x)) := by rw [List.getElem?_set_self (by omega)]
      have q4 : (σ.set 7 (some (T.int x)))[4]? = some (some (.int (gt step c))) := by rw [List.getElem?_set_ne (by decide)]; exact h4
      have q6 : (σ.set 7 (some (T.int x)))[6]? = some (some (.int s.scale)) := by rw [List.getElem?_set_ne (by decide)]; exact h6
      simp [stepL, q7, q4, q6, bin_mul (mok (ss.at c) (sr x hx)), bin_div dv]
  have l2 : ∀ σ : En, σ[4]? = some (some (.int (gt step c))) → σ[5]? = some (some (.int (gt row c))) → σ[6]? = some (some (.int s.scale)) → σ.length = 9 →
      lcr G (.tp (.cons (.nm 7 "x") (.cons (.nm 8 "y") .nil))) .nil (.bin .FloorDiv false (.bin .Sub false (.bin .Mult false (.var 4 "a") (.var 7 "x")) (.bin .Mult false (.var 5 "b") (.var 8 "y"))) (.var 6 "scale")) σ [] (zipT (row.map T.int) (step.map T.int)) M =
      some ((mixs (gt step c) (gt row c) s.scale row step).map T.int, M) := fun σ h4 h5 h6 hl' => by
    refine lcr_ix (by simp) (by simp [mixs, zipT_len]) fun i x y hx hy => ?_
    obtain ⟨x1, x2, h1, h2, rfl⟩ := zipT_get hx
    rw [List.getElem?_map] at h1 h2
    rw [mixs, List.getElem?_map, List.getElem?_zipWith] at hy
    cases hr : row[i]? with
    | none => simp [hr] at h1
    | some a =>
      cases hs : step[i]? with
      | none => simp [hs] at h2
      | some b =>
        simp only [hr, hs, Option.map_some, Option.some.injEq] at h1 h2 hy
        subst h1; subst h2; subst hy
        have q7 : ((σ.set 7 (some (T.int a))).set 8 (some (T.int b)))[7]? = some (some (T.int a)) := by rw [List.getElem?_set_ne (by decide), List.getElem?_set_self (by omega)]
        have q8 : ((σ.set 7 (some (T.int a))).set 8 (some (T.int b)))[8]? = some (some (T.int b)) := by rw [List.getElem?_set_self (by rw [List.length_set]; omega)]
        have q4 : ((σ.set 7 (some (T.int a))).set 8 (some (T.int b)))[4]? = some (some (.int (gt step c))) := by rw [List.getElem?_set_ne (by decide), List.getElem?_set_ne (by decide)]; exact h4
        have q5 : ((σ.set 7 (some (T.int a))).set 8 (some (T.int b)))[5]? = some (some (.int (gt row c))) := by rw [List.getElem?_set_ne (by decide), List.getElem?_set_ne (by decide)]; exact h5
        have q6 : ((σ.set 7 (some (T.int a))).set 8 (some (T.int b)))[6]? = some (some (.int s.scale)) := by rw [List.getElem?_set_ne (by decide), List.getElem?_set_ne (by decide)]; exact h6
        simp [stepL, q7, q8, q4, q5, q6, bin_mul (mok (ss.at c) (sr a (List.mem_of_getElem? hr))), bin_mul (mok (sr.at c) (ss b (List.mem_of_getElem? hs))), bin_div dv]
  have d1 := divs_len (gt step c) s.scale row
  have d2 := mixs_len (gt step c) (gt row c) s.scale row step
  unfold chg
  by_cases hb : gt row c = 0
  · rw [hb] at e1
    by_cases ha : gt step c = s.scale
    · rw [if_pos hb, if_pos ha]
      rw [ha] at e2
      simp [Lib.Table__changed, startE, e1, e2, e3, parE]
    · rw [if_pos hb, if_neg ha]
      have := l1 [some (.obj n), some (ilT row), some (ilT step), some (nT c), some (.int (gt step c)), some (.int 0), some (.int s.scale), none, none] rfl rfl rfl
      simp [Lib.Table__changed, startE, e1, e2, e3, parE, ha, wipeE, this, d1, hsz]
  · rw [if_neg hb]
    have := l2 [some (.obj n), some (ilT row), some (ilT step), some (nT c), some (.int (gt step c)), some (.int (gt row c)), some (.int s.scale), none, none] rfl rfl rfl rfl
    have hs2 : step.length ≤ 16777216 := by omega
    simp [Lib.Table__changed, startE, e1, e2, e3, parE, hb, wipeE, this, d2, hl, hs2]
end Mi
end L2

/-! Determinants by rows picked: signs, swaps of columns. -/
namespace L2
namespace Det
variable {α γ : Type}
/-- a row picked, with its sign, and the rest -/
def picks : List α → List (Int × α × List α)
  | [] => []
  | x :: xs => (1, x, xs) :: (picks xs).map fun p => (-p.1, p.2.1, x :: p.2.2)
/-- the sum over the picks -/
def psum (rs : List α) (f : α → List α → Int) : Int := ((picks rs).map fun p => p.1 * f p.2.1 p.2.2).sum
theorem psum_nil (f : α → List α → Int) : psum [] f = 0 := rfl
theorem sum_neg (l : List Int) : (l.map fun x => -x).sum = -l.sum := by
  induction l with
  | nil => rfl
  | cons x l ih => simp only [List.map_cons, List.sum_cons, ih]; omega
theorem psum_cons (x : α) (xs : List α) (f : α → List α → Int) : psum (x :: xs) f = f x xs - psum xs fun y ys => f y (x :: ys) := by
  show (List.map _ ((1, x, xs) :: (picks xs).map fun p => (-p.1, p.2.1, x :: p.2.2))).sum = f x xs - ((picks xs).map fun p => p.1 * f p.2.1 (x :: p.2.2)).sum
  simp only [List.map_cons, List.sum_cons, List.map_map, Int.one_mul]
  have : ((picks xs).map ((fun p : Int × α × List α => p.1 * f p.2.1 p.2.2) ∘ fun p => (-p.1, p.2.1, x :: p.2.2))) = ((picks xs).map fun p => p.1 * f p.2.1 (x :: p.2.2)).map fun z => -z := by
    rw [List.map_map]
    apply List.map_congr_left
    intro p _
    simp [Int.neg_mul]
  rw [this, sum_neg]
  omega
theorem psum_congr : ∀ {rs : List α} {f g : α → List α → Int}, (∀ y ys, f y ys = g y ys) → psum rs f = psum rs g := fun {rs f g} h => by
  have : f = g := funext fun y => funext fun ys => h y ys
  rw [this]
theorem psum_neg : ∀ (rs : List α) (f : α → List α → Int), psum rs (fun y ys => -f y ys) = -psum rs f
  | [], f => rfl
  | x :: xs, f => by rw [psum_cons, psum_cons, psum_neg xs]; omega
theorem psum_add : ∀ (rs : List α) (f g : α → List α → Int), psum rs (fun y ys => f y ys + g y ys) = psum rs f + psum rs g
  | [], f, g => rfl
  | x :: xs, f, g => by rw [psum_cons, psum_cons, psum_cons, psum_add xs]; omega
theorem psum_sub (rs : List α) (f g : α → List α → Int) : psum rs (fun y ys => f y ys - g y ys) = psum rs f - psum rs g := by
  have := psum_add rs f fun y ys => -g y ys
  rw [psum_neg] at this
  rw [psum_congr (fun y ys => Int.sub_eq_add_neg), this]; omega
theorem psum_mul (k : Int) : ∀ (rs : List α) (f : α → List α → Int), psum rs (fun y ys => k * f y ys) = k * psum rs f
  | [], f => by rw [psum_nil, psum_nil, Int.mul_zero]
  | x :: xs, f => by rw [psum_cons, psum_cons, psum_mul k xs, Int.mul_sub]
/-- two picks -/
def p2 (rs : List α) (f : α → α → List α → Int) : Int := psum rs fun y ys => psum ys fun z zs => f y z zs
theorem p2_cons (x : α) (xs : List α) (f : α → α → List α → Int) : p2 (x :: xs) f = psum xs (fun z zs => f x z zs) - psum xs (fun y ys => f y x ys) + p2 xs fun y z zs => f y z (x :: zs) := by
  unfold p2
  rw [psum_cons]
  have : psum xs (fun y ys => psum (x :: ys) fun z zs => f y z zs) = psum xs (fun y ys => f y x ys) - psum xs fun y ys => psum ys fun z zs => f y z (x :: zs) := by
    rw [← psum_sub]
    exact psum_congr fun y ys => psum_cons x ys _
  rw [this]
  show _ = _ - _ + psum xs fun y ys => psum ys fun z zs => f y z (x :: zs)
  omega
theorem p2_swap : ∀ (rs : List α) (f : α → α → List α → Int), p2 rs (fun y z zs => f z y zs) = -p2 rs f
  | [], f => rfl
  | x :: xs, f => by
    rw [p2_cons, p2_cons, p2_swap xs fun y z zs => f y z (x :: zs)]
    omega
/-- the determinant of the rows rs at the columns cs -/
def det (A : α → γ → Int) : List γ → List α → Int
  | [], _ => 1
  | c :: cs, rs => psum rs fun y ys => A y c * det A cs ys
theorem det_swap (A : α → γ → Int) (c d : γ) (cs : List γ) (rs : List α) : det A (d :: c :: cs) rs = -det A (c :: d :: cs) rs := by
  have e : ∀ c d : γ, det A (c :: d :: cs) rs = p2 rs fun y z zs => A y c * (A z d * det A cs zs) := fun c d => by
    unfold p2
    show psum rs _ = _
    exact psum_congr fun y ys => by rw [psum_mul]; rfl
  rw [e, e, ← p2_swap]
  unfold p2
  exact psum_congr fun y ys => psum_congr fun z zs => by
    show A y d * (A z c * det A cs zs) = A z c * (A y d * det A cs zs)
    rw [← Int.mul_assoc, ← Int.mul_assoc, Int.mul_comm (A y d)]
/-- two neighbours the same -/
theorem det_same (A : α → γ → Int) (c : γ) (cs : List γ) (rs : List α) : det A (c :: c :: cs) rs = 0 := by
  have := det_swap A c c cs rs
  omega
/-- a column that stands again -/
theorem det_again (A : α → γ → Int) : ∀ (cs : List γ) (c : γ) (rs : List α), c ∈ cs → det A (c :: cs) rs = 0
  | [], c, rs, h => by cases h
  | d :: cs, c, rs, h => by
    by_cases hd : c = d
    · subst hd; exact det_same A c cs rs
    · have hc : c ∈ cs := by rcases List.mem_cons.mp h with q | q; exact absurd q hd; exact q
      rw [det_swap A d c cs rs]
      have : det A (d :: c :: cs) rs = psum rs fun y ys => 0 := psum_congr fun y ys => by
        show A y d * det A (c :: cs) ys = 0
        rw [det_again A cs c ys hc, Int.mul_zero]
      rw [this]
      have z := psum_mul 0 rs fun (_ : α) (_ : List α) => (0 : Int)
      simp only [Int.zero_mul] at z
      rw [z]; rfl
end Det
end L2

/-! Finite sums of ints; more of determinants. -/
namespace L2
namespace Lp
def sI : Nat → (Nat → Int) → Int
  | 0, _ => 0
  | n + 1, f => sI n f + f n
theorem sI_congr {n : Nat} {f g : Nat → Int} (h : ∀ k, k < n → f k = g k) : sI n f = sI n g := by
  induction n with
  | zero => rfl
  | succ n ih => rw [sI, sI, ih fun k hk => h k (by omega), h n (by omega)]
theorem sI_zero {n : Nat} {f : Nat → Int} (h : ∀ k, k < n → f k = 0) : sI n f = 0 := by
  induction n with
  | zero => rfl
  | succ n ih => rw [sI, ih fun k hk => h k (by omega), h n (by omega)]; rfl
theorem sI_add (n : Nat) (f g : Nat → Int) : sI n (fun k => f k + g k) = sI n f + sI n g := by
  induction n with
  | zero => rfl
  | succ n ih => rw [sI, sI, sI, ih]; omega
theorem sI_neg (n : Nat) (f : Nat → Int) : sI n (fun k => -f k) = -sI n f := by
  induction n with
  | zero => rfl
  | succ n ih => rw [sI, sI, ih]; omega
theorem sI_sub (n : Nat) (f g : Nat → Int) : sI n (fun k => f k - g k) = sI n f - sI n g := by
  induction n with
  | zero => rfl
  | succ n ih => rw [sI, sI, sI, ih]; omega
theorem sI_mul (n : Nat) (c : Int) (f : Nat → Int) : sI n (fun k => c * f k) = c * sI n f := by
  induction n with
  | zero => simp [sI]
  | succ n ih => rw [sI, sI, ih, Int.mul_add]
theorem sI_mulr (n : Nat) (c : Int) (f : Nat → Int) : sI n (fun k => f k * c) = sI n f * c := by
  induction n with
  | zero => simp [sI]
  | succ n ih => rw [sI, sI, ih, Int.add_mul]
theorem sI_comm (n m : Nat) (f : Nat → Nat → Int) : sI n (fun i => sI m (f i)) = sI m (fun j => sI n (fun i => f i j)) := by
  induction n with
  | zero => exact (sI_zero fun _ _ => rfl).symm
  | succ n ih =>
    rw [sI, ih, ← sI_add]
    exact sI_congr fun k _ => rfl
theorem sI_one {n r : Nat} {f : Nat → Int} (hr : r < n) (h : ∀ k, k < n → k ≠ r → f k = 0) : sI n f = f r := by
  induction n with
  | zero => omega
  | succ n ih =>
    rw [sI]
    by_cases e : r = n
    · subst e; rw [sI_zero fun k hk => h k (by omega) (by omega)]; omega
    · rw [ih (by omega) fun k hk => h k (by omega), h n (by omega) (by omega)]; omega
theorem sI_pos {n : Nat} {f : Nat → Int} (h : 0 < sI n f) : ∃ k, k < n ∧ 0 < f k := by
  induction n with
  | zero => simp [sI] at h
  | succ n ih =>
    rw [sI] at h
    by_cases h1 : 0 < f n
    · exact ⟨n, by omega, h1⟩
    · obtain ⟨k, hk, h2⟩ := ih (by omega)
      exact ⟨k, by omega, h2⟩
theorem sI_nn {n : Nat} {f : Nat → Int} (h : ∀ k, k < n → 0 ≤ f k) : 0 ≤ sI n f := by
  induction n with
  | zero => simp [sI]
  | succ n ih => rw [sI]; have := ih fun k hk => h k (by omega); have := h n (by omega); omega
theorem sI_nn0 {n : Nat} {f : Nat → Int} (h : ∀ k, k < n → 0 ≤ f k) (h0 : sI n f ≤ 0) : ∀ k, k < n → f k = 0 := by
  induction n with
  | zero => intro k hk; omega
  | succ n ih =>
    rw [sI] at h0
    have h1 := sI_nn (n := n) (f := f) fun k hk => h k (by omega)
    have h2 := h n (by omega)
    intro k hk
    by_cases e : k = n
    · subst e; omega
    · exact ih (fun k hk => h k (by omega)) (by omega) k (by omega)
theorem sI_abs {n C : Nat} {f : Nat → Int} (h : ∀ k, k < n → (f k).natAbs ≤ C) : (sI n f).natAbs ≤ n * C := by
  induction n with
  | zero => simp [sI]
  | succ n ih =>
    rw [sI, Nat.succ_mul]
    have := ih fun k hk => h k (by omega)
    have := h n (by omega)
    have := Int.natAbs_add_le (sI n f) (f n)
    omega
end Lp
namespace Det
variable {α γ : Type}
/-- vectors as functions of the rows -/
abbrev Vc := Nat → Int
def dt (m : Nat) (cs : List Vc) : Int := det (fun (i : Nat) (v : Vc) => v i) cs (List.range m)
theorem det_cong (A : α → γ → Int) (c : γ) (cs cs' : List γ) (rs : List α) (s : Int) (h : ∀ ys, det A cs ys = s * det A cs' ys) : det A (c :: cs) rs = s * det A (c :: cs') rs := by
  show psum rs _ = s * psum rs _
  rw [← psum_mul]
  exact psum_congr fun y ys => by
    rw [h, ← Int.mul_assoc, ← Int.mul_assoc, Int.mul_comm s]
def sg : Nat → Int
  | 0 => 1
  | n + 1 => -sg n
theorem det_front (A : α → γ → Int) (c : γ) (l2 : List γ) : ∀ (l1 : List γ) (rs : List α), det A (l1 ++ c :: l2) rs = sg l1.length * det A (c :: (l1 ++ l2)) rs
  | [], rs => by simp [sg]
  | d :: l1, rs => by
    show det A (d :: (l1 ++ c :: l2)) rs = sg (l1.length + 1) * det A (c :: d :: (l1 ++ l2)) rs
    rw [det_cong A d (l1 ++ c :: l2) (c :: (l1 ++ l2)) rs (sg l1.length) fun ys => det_front A c l2 l1 ys, sg, det_swap, Int.mul_neg, Int.neg_mul]
theorem sg_sq (n : Nat) : sg n * sg n = 1 := by
  induction n with
  | zero => rfl
  | succ n ih => rw [sg, Int.neg_mul_neg]; exact ih
/-- the slot k made v -/
def slot (m : Nat) (B : List Vc) (k : Nat) (v : Vc) : Int := sg k * dt m (v :: B.eraseIdx k)
theorem dt_set (m : Nat) (B : List Vc) (k : Nat) (v : Vc) (h : k < B.length) : dt m (B.set k v) = slot m B k v := by
  unfold slot dt
  rw [List.set_eq_take_append_cons_drop, if_pos h, det_front, List.length_take, Nat.min_eq_left (by omega), List.eraseIdx_eq_take_drop_succ]
theorem dt_self (m : Nat) (B : List Vc) (k : Nat) (h : k < B.length) : slot m B k B[k] = dt m B := by
  rw [← dt_set m B k _ h, List.set_getElem_self]
theorem dt_other (m : Nat) (B : List Vc) (k l : Nat) (hk : k ≠ l) (h : l < B.length) : slot m B k B[l] = 0 := by
  unfold slot dt
  rw [det_again _ _ _ _ (List.mem_eraseIdx_iff_getElem.mpr ⟨l, h, fun e => hk e.symm, rfl⟩), Int.mul_zero]
theorem dt_lin (m : Nat) (cs : List Vc) (u v : Vc) (a b : Int) : dt m ((fun i => a * u i + b * v i) :: cs) = a * dt m (u :: cs) + b * dt m (v :: cs) := by
  unfold dt
  show psum _ _ = a * psum _ _ + b * psum _ _
  rw [← psum_mul, ← psum_mul, ← psum_add]
  exact psum_congr fun y ys => by rw [Int.add_mul, Int.mul_assoc, Int.mul_assoc]
theorem slot_lin (m : Nat) (B : List Vc) (k : Nat) (u v : Vc) (a b : Int) : slot m B k (fun i => a * u i + b * v i) = a * slot m B k u + b * slot m B k v := by
  unfold slot
  rw [dt_lin, Int.mul_add, ← Int.mul_assoc, ← Int.mul_assoc, ← Int.mul_assoc, ← Int.mul_assoc, Int.mul_comm a, Int.mul_comm b]
theorem psum_mem : ∀ {rs : List α} {f g : α → List α → Int}, (∀ y ∈ rs, ∀ ys, ys ⊆ rs → f y ys = g y ys) → psum rs f = psum rs g
  | [], _, _, _ => rfl
  | x :: xs, f, g, h => by
    rw [psum_cons, psum_cons, h x List.mem_cons_self xs (List.subset_cons_self x xs), psum_mem (f := fun y ys => f y (x :: ys)) (g := fun y ys => g y (x :: ys)) fun y hy ys hs =>
      h y (List.mem_cons_of_mem _ hy) (x :: ys) (List.cons_subset_cons x hs)]
/-- only the entries at the rows count -/
theorem det_rows (A A' : α → γ → Int) : ∀ (cs : List γ) (rs : List α), (∀ c ∈ cs, ∀ r ∈ rs, A r c = A' r c) → det A cs rs = det A' cs rs
  | [], _, _ => rfl
  | c :: cs, rs, h => by
    show psum rs _ = psum rs _
    exact psum_mem fun y hy ys hs => by
      rw [h c List.mem_cons_self y hy, det_rows A A' cs ys fun c hc r hr => h c (List.mem_cons_of_mem _ hc) r (hs hr)]
theorem dt_cong0 (m : Nat) (cs : List Vc) (u v : Vc) (h : ∀ i, i < m → u i = v i) : dt m (u :: cs) = dt m (v :: cs) := by
  unfold dt
  show psum _ _ = psum _ _
  exact psum_mem fun y hy ys _ => congrArg (· * det (fun (i : Nat) (v : Vc) => v i) cs ys) (h y (List.mem_range.mp hy))
theorem slot_cong (m : Nat) (B : List Vc) (k : Nat) (u v : Vc) (h : ∀ i, i < m → u i = v i) : slot m B k u = slot m B k v := by
  unfold slot; rw [dt_cong0 m _ u v h]
open Lp in
theorem slot_sum (m : Nat) (B : List Vc) (k : Nat) (f : Nat → Int) (u : Nat → Vc) : ∀ n, slot m B k (fun i => sI n fun l => f l * u l i) = sI n fun l => f l * slot m B k (u l)
  | 0 => by
    have := slot_lin m B k (fun _ => 0) (fun _ => 0) 0 0
    simpa [sI] using this
  | n + 1 => by
    have := slot_lin m B k (fun i => sI n fun l => f l * u l i) (u n) 1 (f n)
    rw [Int.one_mul, slot_sum m B k f u n] at this
    rw [sI, ← this]
    exact slot_cong m B k _ _ fun i _ => by rw [sI, Int.one_mul]
/-- two slots changed about -/
theorem slot_swap (m : Nat) (B : List Vc) (r k : Nat) (u v : Vc) (h : r ≠ k) (hr : r < B.length) (hk : k < B.length) : dt m ((B.set r u).set k v) = -dt m ((B.set r v).set k u) := by
  have e : ∀ u v, dt m ((B.set r u).set k v) = slot m (B.set r u) k v := fun u v => dt_set m _ k v (by rw [List.length_set]; exact hk)
  have e' : ∀ u v, dt m ((B.set r u).set k v) = slot m (B.set k v) r u := fun u v => by
    rw [List.set_comm _ _ h]
    exact dt_set m _ r u (by rw [List.length_set]; exact hr)
  have z : ∀ u, dt m ((B.set r u).set k u) = 0 := fun u => by
    rw [e]
    have := dt_other m (B.set r u) k r (fun q => h q.symm) (by rw [List.length_set]; exact hr)
    rwa [List.getElem_set_self] at this
  have a2 : ∀ u v w : Vc, dt m ((B.set r u).set k (fun i => 1 * v i + 1 * w i)) = dt m ((B.set r u).set k v) + dt m ((B.set r u).set k w) := fun u v w => by
    rw [e, slot_lin, e, e]; omega
  have a1 : ∀ u v w : Vc, dt m ((B.set r (fun i => 1 * u i + 1 * v i)).set k w) = dt m ((B.set r u).set k w) + dt m ((B.set r v).set k w) := fun u v w => by
    rw [e', slot_lin, e', e']; omega
  have := z (fun i => 1 * u i + 1 * v i)
  rw [a2, a1, a1, z, z] at this
  omega
/-- the unit vectors -/
def un (k : Nat) : Vc := fun i => if i = k then 1 else 0
theorem det_unit : ∀ (rs : List Nat), rs.Nodup → det (fun (i : Nat) (v : Vc) => v i) (rs.map un) rs = 1
  | [], _ => rfl
  | x :: xs, h => by
    obtain ⟨h1, h2⟩ := List.nodup_cons.mp h
    show psum (x :: xs) (fun y ys => un x y * det _ (xs.map un) ys) = 1
    rw [psum_cons, det_unit xs h2]
    have : psum xs (fun y ys => un x y * det (fun (i : Nat) (v : Vc) => v i) (xs.map un) (x :: ys)) = psum xs fun y ys => 0 := psum_mem fun y hy ys _ => by
      have : un x y = 0 := by
        unfold un
        rw [if_neg]
        intro e
        exact h1 (e ▸ hy)
      rw [this, Int.zero_mul]
    rw [this]
    have z := psum_mul 0 xs fun (_ : Nat) (_ : List Nat) => (0 : Int)
    simp only [Int.zero_mul] at z
    rw [z]
    simp [un]
theorem dt_unit (m : Nat) : dt m ((List.range m).map un) = 1 := det_unit _ List.nodup_range
theorem psum_abs {C : Nat} : ∀ {rs : List α} {f : α → List α → Int}, (∀ y ys, ys.length + 1 = rs.length → ys ⊆ rs → y ∈ rs → (f y ys).natAbs ≤ C) → (psum rs f).natAbs ≤ rs.length * C
  | [], _, _ => by simp [psum_nil]
  | x :: xs, f, h => by
    rw [psum_cons, List.length_cons, Nat.succ_mul]
    have h1 := h x xs (by simp) (List.subset_cons_self x xs) List.mem_cons_self
    have h2 := psum_abs (C := C) (rs := xs) (f := fun y ys => f y (x :: ys)) fun y ys hl hs hy => h y (x :: ys) (by simp; omega) (List.cons_subset_cons x hs) (List.mem_cons_of_mem _ hy)
    have := Int.natAbs_sub_le (f x xs) (psum xs fun y ys => f y (x :: ys))
    omega
theorem det_abs (A : α → γ → Int) (n C : Nat) : ∀ (cs : List γ) (rs : List α), rs.length ≤ n → (∀ c ∈ cs, ∀ r ∈ rs, (A r c).natAbs ≤ C) → (det A cs rs).natAbs ≤ (n * C) ^ cs.length
  | [], _, _, _ => by simp [det]
  | c :: cs, rs, hn, h => by
    show (psum rs _).natAbs ≤ _
    refine Nat.le_trans (psum_abs (C := C * (n * C) ^ cs.length) fun y ys hl hs hy => ?_) ?_
    · rw [Int.natAbs_mul]
      exact Nat.mul_le_mul (h c List.mem_cons_self y hy) (det_abs A n C cs ys (by omega) fun c hc r hr => h c (List.mem_cons_of_mem _ hc) r (hs hr))
    · rw [List.length_cons, Nat.pow_succ, Nat.mul_comm ((n * C) ^ cs.length), Nat.mul_assoc]
      exact Nat.mul_le_mul_right _ hn
end Det
end L2

/-! A tableau of integers: what every exchange keeps. -/
namespace L2
namespace Lp
open Det
structure St where
  b : Nat → Nat
  x : Nat → Nat → Int
  d : Int
variable {m N : Nat} {X0 : Nat → Nat → Int} {g : Nat → Int}
def col (X0 : Nat → Nat → Int) (j : Nat) : Vc := fun i => X0 i j
def Bs (m : Nat) (X0 : Nat → Nat → Int) (b : Nat → Nat) : List Vc := (List.range m).map fun k => col X0 (b k)
structure Inv (m N : Nat) (X0 : Nat → Nat → Int) (s : St) : Prop where
  dp : 0 < s.d
  det : ∃ e : Int, (e = 1 ∨ e = -1) ∧ dt m (Bs m X0 s.b) = e * s.d
  sys : ∀ i, i < m → ∀ j, j < N → s.d * X0 i j = sI m fun k => X0 i (s.b k) * s.x k j
  bl : ∀ k, k < m → s.b k < N
theorem Bs_len (b : Nat → Nat) : (Bs m X0 b).length = m := by simp [Bs]
theorem Bs_get (b : Nat → Nat) {k : Nat} (h : k < (Bs m X0 b).length) : (Bs m X0 b)[k] = col X0 (b k) := by simp [Bs]
theorem Bs_set (b : Nat → Nat) (r c : Nat) (h : r < m) : (Bs m X0 b).set r (col X0 c) = Bs m X0 fun k => if k = r then c else b k := by
  apply List.ext_getElem
  · simp [Bs]
  · intro k h1 h2
    simp only [Bs, List.getElem_set, List.getElem_map, List.getElem_range]
    by_cases e : r = k
    · subst e; simp
    · rw [if_neg e, if_neg fun q => e q.symm]
theorem slot_b {b : Nat → Nat} {k l : Nat} (hk : k < m) (hl : l < m) : slot m (Bs m X0 b) k (col X0 (b l)) = if l = k then dt m (Bs m X0 b) else 0 := by
  have h1 : l < (Bs m X0 b).length := by rw [Bs_len]; exact hl
  rw [← Bs_get b h1]
  by_cases e : l = k
  · subst e; rw [if_pos rfl, dt_self]
  · rw [if_neg e, dt_other _ _ _ _ (fun q => e q.symm)]
theorem e_sq {e : Int} (h : e = 1 ∨ e = -1) : e * e = 1 := by rcases h with rfl | rfl <;> rfl
theorem e_ab {e : Int} (h : e = 1 ∨ e = -1) : e.natAbs = 1 := by rcases h with rfl | rfl <;> rfl
variable {s : St}
/-- a column's slot -/
theorem Inv.slot_sys (I : Inv m N X0 s) (B : List Vc) (k : Nat) {j : Nat} (hj : j < N) : s.d * slot m B k (col X0 j) = sI m fun l => s.x l j * slot m B k (col X0 (s.b l)) := by
  have h1 := slot_lin m B k (col X0 j) (col X0 j) s.d 0
  have h2 : slot m B k (fun i => s.d * col X0 j i + 0 * col X0 j i) = slot m B k fun i => sI m fun l => s.x l j * col X0 (s.b l) i := slot_cong m B k _ _ fun i hi => by
    have := I.sys i hi j hj
    show s.d * X0 i j + 0 * X0 i j = sI m fun l => s.x l j * X0 i (s.b l)
    rw [this]
    rw [Int.zero_mul, Int.add_zero]
    exact sI_congr fun k _ => Int.mul_comm _ _
  rw [h2, slot_sum] at h1
  rw [h1]; omega
theorem Inv.cramer (I : Inv m N X0 s) {e : Int} (he : e = 1 ∨ e = -1) (hd : dt m (Bs m X0 s.b) = e * s.d) {k j : Nat} (hk : k < m) (hj : j < N) : s.x k j = e * slot m (Bs m X0 s.b) k (col X0 j) := by
  have h := I.slot_sys (Bs m X0 s.b) k hj
  rw [sI_one (r := k) hk fun l hl hne => by rw [slot_b hk hl, if_neg hne, Int.mul_zero], slot_b hk hk, if_pos rfl, hd] at h
  have dp := I.dp
  have : s.d * slot m (Bs m X0 s.b) k (col X0 j) = s.d * (s.x k j * e) := by rw [h]; grind
  have := Int.eq_of_mul_eq_mul_left (by omega) this
  rw [this, Int.mul_comm, Int.mul_assoc, e_sq he, Int.mul_one]
/-- the columns of the basis are unit columns -/
theorem Inv.unit (I : Inv m N X0 s) {k l : Nat} (hk : k < m) (hl : l < m) : s.x k (s.b l) = if l = k then s.d else 0 := by
  obtain ⟨e, he, hd⟩ := I.det
  rw [I.cramer he hd hk (I.bl l hl), slot_b hk hl]
  by_cases h : l = k
  · rw [if_pos h, if_pos h, hd, ← Int.mul_assoc, e_sq he, Int.one_mul]
  · rw [if_neg h, if_neg h, Int.mul_zero]
theorem Inv.inj (I : Inv m N X0 s) {k l : Nat} (hk : k < m) (hl : l < m) (h : s.b k = s.b l) : k = l := by
  have h1 := I.unit hk hk
  have h2 := I.unit hk hl
  rw [← h, h1, if_pos rfl] at h2
  by_cases e : l = k
  · exact e.symm
  · rw [if_neg e] at h2; have := I.dp; omega
/-- one exchange -/
structure Piv (m N : Nat) (s s' : St) (r c : Nat) (o : Int) : Prop where
  hr : r < m
  hc : c < N
  ho : o = 1 ∨ o = -1
  hp : 0 < o * s.x r c
  b : ∀ k, k < m → s'.b k = if k = r then c else s.b k
  d : s'.d = o * s.x r c
  xr : ∀ j, j < N → s'.x r j = o * s.x r j
  xk : ∀ k, k < m → k ≠ r → ∀ j, j < N → s'.x k j = (o * s.x r c * s.x k j - s.x k c * (o * s.x r j)).fdiv s.d
variable {s' : St} {r c : Nat} {o : Int}
theorem Bs_cong {b b' : Nat → Nat} (h : ∀ k, k < m → b k = b' k) : Bs m X0 b = Bs m X0 b' := by
  unfold Bs
  exact List.map_congr_left fun k hk => by rw [h k (List.mem_range.mp hk)]
theorem Inv.exact (I : Inv m N X0 s) (P : Piv m N s s' r c o) {k j : Nat} (hk : k < m) (hne : k ≠ r) (hj : j < N) : s.d * s'.x k j = o * s.x r c * s.x k j - s.x k c * (o * s.x r j) := by
  obtain ⟨e, he, hd⟩ := I.det
  have dp := I.dp
  have hr := P.hr
  have hB' : slot m (Bs m X0 s.b) r (col X0 c) = e * s.x r c := by
    rw [I.cramer he hd P.hr P.hc, ← Int.mul_assoc, e_sq he, Int.one_mul]
  let B' := (Bs m X0 s.b).set r (col X0 c)
  have lB : (Bs m X0 s.b).length = m := Bs_len _
  have lB' : B'.length = m := by simp [B', lB]
  have dB' : dt m B' = e * s.x r c := by rw [← hB']; exact dt_set m _ r _ (by omega)
  have h := I.slot_sys B' k hj
  have t0 : ∀ l, l < m → slot m B' k (col X0 (s.b l)) = (if l = k then e * s.x r c else 0) - (if l = r then e * s.x k c else 0) := fun l hl => by
    by_cases h1 : l = k
    · subst h1
      rw [if_pos rfl, if_neg hne, ← dt_set m B' l _ (by omega)]
      have : col X0 (s.b l) = B'[l]'(by omega) := by
        show _ = ((Bs m X0 s.b).set r (col X0 c))[l]'_
        rw [List.getElem_set_ne (fun q => hne q.symm), Bs_get]
      rw [this, List.set_getElem_self, dB']; omega
    · rw [if_neg h1]
      by_cases h2 : l = r
      · subst h2
        rw [if_pos rfl, ← dt_set m B' k _ (by omega)]
        show dt m (((Bs m X0 s.b).set l (col X0 c)).set k (col X0 (s.b l))) = _
        rw [slot_swap m _ l k _ _ h1 (by omega) (by omega)]
        have : (Bs m X0 s.b).set l (col X0 (s.b l)) = Bs m X0 s.b := by
          rw [← Bs_get (m := m) (X0 := X0) s.b (k := l) (by omega), List.set_getElem_self]
        rw [this, dt_set m _ k _ (by omega), I.cramer he hd hk P.hc, ← Int.mul_assoc, e_sq he]; omega
      · rw [if_neg h2]
        have : col X0 (s.b l) = B'[l]'(by omega) := by
          show _ = ((Bs m X0 s.b).set r (col X0 c))[l]'_
          rw [List.getElem_set_ne (fun q => h2 q.symm), Bs_get]
        rw [this, dt_other m B' k l (fun q => h1 q.symm) (by omega)]; rfl
  have h3 : (sI m fun l => s.x l j * slot m B' k (col X0 (s.b l))) = s.x k j * (e * s.x r c) - s.x r j * (e * s.x k c) := by
    have : (sI m fun l => s.x l j * slot m B' k (col X0 (s.b l))) = sI m fun l => (s.x l j * (if l = k then e * s.x r c else 0)) - s.x l j * (if l = r then e * s.x k c else 0) := sI_congr fun l hl => by rw [t0 l hl, Int.mul_sub]
    rw [this, sI_sub, sI_one (r := k) hk fun l _ hne => by rw [if_neg hne, Int.mul_zero], sI_one (r := r) P.hr fun l _ hne => by rw [if_neg hne, Int.mul_zero], if_pos rfl, if_pos rfl]
  rw [h3] at h
  have h4 : o * s.x r c * s.x k j - s.x k c * (o * s.x r j) = s.d * (o * e * slot m B' k (col X0 j)) := by
    have : s.d * (o * e * slot m B' k (col X0 j)) = o * e * (s.d * slot m B' k (col X0 j)) := by rw [Int.mul_left_comm]
    rw [this, h]
    have h5 := e_sq he
    grind
  rw [P.xk k hk hne j hj, h4, Int.mul_fdiv_cancel_left _ (by omega)]
theorem Inv.piv (I : Inv m N X0 s) (P : Piv m N s s' r c o) : Inv m N X0 s' := by
  have dp := I.dp
  obtain ⟨e, he, hd⟩ := I.det
  refine ⟨by rw [P.d]; exact P.hp, ⟨e * o, ?_, ?_⟩, fun i hi j hj => ?_, fun k hk => ?_⟩
  · rcases he with rfl | rfl <;> rcases P.ho with rfl | rfl <;> simp
  · rw [Bs_cong P.b, ← Bs_set s.b r c P.hr, dt_set m _ r _ (by rw [Bs_len]; exact P.hr), P.d]
    have h1 := I.cramer he hd P.hr P.hc
    have h2 := e_sq he
    have h3 := e_sq P.ho
    rw [h1]
    grind
  · refine Int.eq_of_mul_eq_mul_left (a := s.d) (by omega) ?_
    rw [← sI_mul]
    have hs := I.sys i hi
    have t0 : ∀ k, k < m → s.d * (X0 i (s'.b k) * s'.x k j) = o * s.x r c * (X0 i (s.b k) * s.x k j) - o * s.x r j * (X0 i (s.b k) * s.x k c) + (if k = r then s.d * X0 i c * (o * s.x r j) else 0) := fun k hk => by
      by_cases h : k = r
      · subst h
        rw [P.b k hk, if_pos rfl, P.xr j hj, if_pos rfl]
        grind
      · rw [P.b k hk, if_neg h, if_neg h]
        have := I.exact P hk h hj
        grind
    rw [sI_congr t0, sI_add, sI_sub, sI_mul, sI_mul, ← hs j hj, ← hs c P.hc, sI_one (r := r) P.hr fun l _ hne => by rw [if_neg hne], if_pos rfl, P.d]
    grind
  · rw [P.b k hk]
    split
    · exact P.hc
    · exact I.bl k hk
/-- the row of the gains -/
def Top (m N : Nat) (g : Nat → Int) (s : St) (t : Nat → Int) : Prop := ∀ j, j < N → t j = (sI m fun k => g (s.b k) * s.x k j) - g j * s.d
variable {t t' : Nat → Int}
theorem Top.exact (I : Inv m N X0 s) (P : Piv m N s s' r c o) (T : Top m N g s t) {j : Nat} (hj : j < N) : s.d * ((sI m fun k => g (s'.b k) * s'.x k j) - g j * s'.d) = o * s.x r c * t j - t c * (o * s.x r j) := by
  have t0 : ∀ k, k < m → s.d * (g (s'.b k) * s'.x k j) = o * s.x r c * (g (s.b k) * s.x k j) - o * s.x r j * (g (s.b k) * s.x k c) + (if k = r then s.d * g c * (o * s.x r j) else 0) := fun k hk => by
    by_cases h : k = r
    · subst h
      rw [P.b k hk, if_pos rfl, P.xr j hj, if_pos rfl]
      grind
    · rw [P.b k hk, if_neg h, if_neg h]
      have := I.exact P hk h hj
      grind
  rw [Int.mul_sub, ← sI_mul, sI_congr t0, sI_add, sI_sub, sI_mul, sI_mul, sI_one (r := r) (f := fun k => if k = r then s.d * g c * (o * s.x r j) else 0) P.hr (fun l _ hne => by rw [if_neg hne]), if_pos rfl, P.d]
  have h1 := T j hj
  have h2 := T c P.hc
  grind
theorem Top.piv (I : Inv m N X0 s) (P : Piv m N s s' r c o) (T : Top m N g s t) (h : ∀ j, j < N → t' j = (o * s.x r c * t j - t c * (o * s.x r j)).fdiv s.d) : Top m N g s' t' := fun j hj => by
  have dp := I.dp
  rw [h j hj, ← T.exact I P hj, Int.mul_fdiv_cancel_left _ (by omega)]
theorem Top.base (I : Inv m N X0 s) (T : Top m N g s t) {k : Nat} (hk : k < m) : t (s.b k) = 0 := by
  rw [T _ (I.bl k hk), sI_one (r := k) hk fun l hl hne => by rw [I.unit hl hk, if_neg (fun q => hne q.symm), Int.mul_zero], I.unit hk hk, if_pos rfl]; omega
/-- the same basis, the same tableau -/
theorem Inv.same (I : Inv m N X0 s) (I' : Inv m N X0 s') (h : ∀ k, k < m → s.b k = s'.b k) : s.d = s'.d ∧ ∀ k, k < m → ∀ j, j < N → s.x k j = s'.x k j := by
  obtain ⟨e, he, hd⟩ := I.det
  obtain ⟨e', he', hd'⟩ := I'.det
  have dp := I.dp
  have dp' := I'.dp
  have hB := Bs_cong (X0 := X0) h
  have h1 : e * s.d = e' * s'.d := by rw [← hd, ← hd', hB]
  have h2 : e = e' := by rcases he with rfl | rfl <;> rcases he' with rfl | rfl <;> omega
  subst h2
  refine ⟨by rcases he with rfl | rfl <;> omega, fun k hk j hj => ?_⟩
  rw [I.cramer he hd hk hj, I'.cramer he' hd' hk hj, hB]
/-- sizes -/
theorem Inv.abs (I : Inv m N X0 s) {C : Nat} (h : ∀ i, i < m → ∀ j, j < N → (X0 i j).natAbs ≤ C) : s.d.natAbs ≤ (m * C) ^ m ∧ ∀ k, k < m → ∀ j, j < N → (s.x k j).natAbs ≤ (m * C) ^ m := by
  obtain ⟨e, he, hd⟩ := I.det
  have key : ∀ b : Nat → Nat, (∀ k, k < m → b k < N) → (dt m (Bs m X0 b)).natAbs ≤ (m * C) ^ m := fun b hb => by
    have := det_abs (fun (i : Nat) (v : Vc) => v i) m C (Bs m X0 b) (List.range m) (by simp) fun c hc r hr => by
      obtain ⟨k, hk, rfl⟩ := List.mem_map.mp hc
      exact h r (List.mem_range.mp hr) (b k) (hb k (List.mem_range.mp hk))
    rwa [Bs_len] at this
  refine ⟨?_, fun k hk j hj => ?_⟩
  · have := key s.b I.bl
    rw [hd, Int.natAbs_mul, e_ab he, Nat.one_mul] at this
    exact this
  · rw [I.cramer he hd hk hj, Int.natAbs_mul, e_ab he, Nat.one_mul, ← dt_set m _ k _ (by rw [Bs_len]; exact hk), Bs_set _ _ _ hk]
    refine key _ fun l hl => ?_
    split
    · exact hj
    · exact I.bl l hl
/-- the start: unit columns -/
theorem Inv.start {w : Nat} (hN : w + m ≤ N) (hu : ∀ i, i < m → ∀ k, k < m → X0 i (w + k) = if i = k then 1 else 0) : Inv m N X0 ⟨fun k => w + k, X0, 1⟩ := by
  refine ⟨by show (0:Int) < 1; omega, ⟨1, .inl rfl, ?_⟩, fun i hi j hj => ?_, fun k hk => ?_⟩
  · rw [Int.one_mul]
    show dt m (Bs m X0 fun k => w + k) = 1
    rw [← dt_unit m]
    unfold dt
    have e : ∀ l : List Nat, (∀ k ∈ l, k < m) → Det.det (fun (i : Nat) (v : Vc) => v i) (l.map fun k => col X0 (w + k)) (List.range m) = Det.det (fun (i : Nat) (v : Vc) => v i) (l.map un) (List.range m) := by
      have key : ∀ (l : List Nat) (rs : List Nat), (∀ k ∈ l, k < m) → (∀ r ∈ rs, r < m) → Det.det (fun (i : Nat) (v : Vc) => v i) (l.map fun k => col X0 (w + k)) rs = Det.det (fun (i : Nat) (v : Vc) => v i) (l.map un) rs := by
        intro l
        induction l with
        | nil => intros; rfl
        | cons k l ih =>
          intro rs hl hr
          show psum rs _ = psum rs _
          exact psum_mem fun y hy ys hs => by
            rw [ih ys (fun k hk => hl k (List.mem_cons_of_mem _ hk)) fun r hr' => hr r (hs hr')]
            congr 1
            exact hu y (hr y hy) k (hl k List.mem_cons_self)
      exact fun l hl => key l _ hl fun r hr => List.mem_range.mp hr
    exact e _ fun k hk => List.mem_range.mp hk
  · show 1 * X0 i j = sI m fun k => X0 i (w + k) * X0 k j
    rw [sI_one (r := i) hi fun k hk hne => by rw [hu i hi k hk, if_neg (fun q => hne q.symm), Int.zero_mul], hu i hi i hi, if_pos rfl]
  · show w + k < N
    omega
/-- the multipliers of the rows -/
theorem Inv.mult (I : Inv m N X0 s) {w : Nat} (hN : w + m ≤ N) (hu : ∀ i, i < m → ∀ k, k < m → X0 i (w + k) = if i = k then 1 else 0) {k j : Nat} (hk : k < m) (hj : j < N) : s.x k j = sI m fun i => X0 i j * s.x k (w + i) := by
  obtain ⟨e, he, hd⟩ := I.det
  have h1 : slot m (Bs m X0 s.b) k (col X0 j) = sI m fun i => X0 i j * slot m (Bs m X0 s.b) k (col X0 (w + i)) := by
    rw [← slot_sum]
    refine slot_cong m _ k _ _ fun i hi => ?_
    show X0 i j = sI m fun l => X0 l j * X0 i (w + l)
    rw [sI_one (r := i) hi fun l hl hne => by rw [hu i hi l hl, if_neg (fun q => hne q.symm), Int.mul_zero], hu i hi i hi, if_pos rfl, Int.mul_one]
  rw [I.cramer he hd hk hj, h1, ← sI_mul]
  refine sI_congr fun i hi => ?_
  rw [I.cramer he hd hk (by omega), ← Int.mul_assoc, ← Int.mul_assoc, Int.mul_comm e]
end Lp
end L2

/-! The smallest column first: no endless climb. -/
namespace L2
namespace Lp
open Det
variable {m N : Nat} {X0 : Nat → Nat → Int} {g : Nat → Int}
/-- the gains' row of one tableau at another's column -/
theorem top_cross {w : Nat} {p q : St} {tp tq : Nat → Int} (hN : w + m ≤ N) (hu : ∀ i, i < m → ∀ k, k < m → X0 i (w + k) = if i = k then 1 else 0) (Ip : Inv m N X0 p) (Iq : Inv m N X0 q) (Tp : Top m N g p tp) (Tq : Top m N g q tq) {s : Nat} (hs : s < N) :
    tq s * p.d - (sI m fun k => tq (p.b k) * p.x k s) = q.d * tp s := by
  let u : Nat → Int := fun i => sI m fun k => g (q.b k) * q.x k (w + i)
  have h1 : ∀ j, j < N → tq j = (sI m fun i => u i * X0 i j) - g j * q.d := fun j hj => by
    rw [Tq j hj]
    congr 1
    have : (sI m fun k => g (q.b k) * q.x k j) = sI m fun k => sI m fun i => g (q.b k) * (X0 i j * q.x k (w + i)) := sI_congr fun k hk => by
      rw [Iq.mult hN hu hk hj, sI_mul]
    rw [this, sI_comm]
    refine sI_congr fun i hi => ?_
    rw [← sI_mulr]
    exact sI_congr fun k hk => by rw [Int.mul_comm (X0 i j), Int.mul_assoc]
  have h2 : (sI m fun k => tq (p.b k) * p.x k s) = (sI m fun i => u i * (p.d * X0 i s)) - q.d * sI m fun k => g (p.b k) * p.x k s := by
    have : (sI m fun k => tq (p.b k) * p.x k s) = sI m fun k => (sI m fun i => u i * (X0 i (p.b k) * p.x k s)) - q.d * (g (p.b k) * p.x k s) := sI_congr fun k hk => by
      rw [h1 _ (Ip.bl k hk), Int.sub_mul, ← sI_mulr]
      congr 1
      · exact sI_congr fun i _ => Int.mul_assoc ..
      · rw [Int.mul_comm (g (p.b k)), Int.mul_assoc]
    rw [this, sI_sub, sI_mul, sI_comm]
    congr 1
    refine sI_congr fun i hi => ?_
    rw [sI_mul, Ip.sys i hi s hs]
  have h3 : (sI m fun i => u i * (p.d * X0 i s)) = (sI m fun i => u i * X0 i s) * p.d := by
    rw [← sI_mulr]
    exact sI_congr fun i _ => by rw [Int.mul_comm p.d, Int.mul_assoc]
  rw [h1 s hs, h2, h3, Tp s hs]
  grind
/-- one climbing step; L is the column of the sides -/
structure Up (m N w L : Nat) (s s' : St) (t t' : Nat → Int) (r c : Nat) : Prop where
  P : Piv m N s s' r c 1
  cw : c < w
  neg : t c < 0
  first : ∀ j, j < c → 0 ≤ t j
  low : ∀ k, k < m → 0 < s.x k c → s.x r L * s.x k c ≤ s.x k L * s.x r c ∧ (s.x r L * s.x k c = s.x k L * s.x r c → s.b r ≤ s.b k)
  tt : ∀ j, j < N → t' j = (1 * s.x r c * t j - t c * (1 * s.x r j)).fdiv s.d
def Fea (m L : Nat) (s : St) : Prop := ∀ k, k < m → 0 ≤ s.x k L
variable {s s' : St} {t t' : Nat → Int} {r c w L : Nat}
theorem pos_of_mul {a b : Int} (ha : 0 < a) (h : 0 ≤ a * b) : 0 ≤ b := by
  by_cases hb : 0 ≤ b
  · exact hb
  · have := Int.mul_neg_of_pos_of_neg ha (by omega : b < 0); omega
theorem Up.fea (U : Up m N w L s s' t t' r c) (I : Inv m N X0 s) (hL : L < N) (F : Fea m L s) : Fea m L s' := fun k hk => by
  by_cases h : k = r
  · subst h; rw [U.P.xr L hL]; have := F k hk; omega
  · have e := I.exact U.P hk h hL
    refine pos_of_mul I.dp ?_
    rw [e, Int.one_mul, Int.one_mul]
    have hp := U.P.hp
    rw [Int.one_mul] at hp
    have hr := F r U.P.hr
    by_cases hc : 0 < s.x k c
    · have := (U.low k hk hc).1
      rw [Int.mul_comm (s.x k c), Int.mul_comm (s.x r c)]; omega
    · have h1 : 0 ≤ s.x r c * s.x k L := Int.mul_nonneg (by omega) (F k hk)
      have h2 : s.x k c * s.x r L ≤ 0 := Int.mul_nonpos_of_nonpos_of_nonneg (by omega) hr
      omega
/-- the gain grows -/
theorem Up.gain (U : Up m N w L s s' t t' r c) (I : Inv m N X0 s) (T : Top m N g s t) (hL : L < N) : t' L * s.d = t L * s'.d - t c * s.x r L := by
  have I' := I.piv U.P
  have h := T.exact I U.P hL
  have h2 := (T.piv I U.P U.tt) L hL
  rw [← h2] at h
  rw [U.P.d]
  have hd := I.dp
  grind
theorem cross_le {a b c da db dc : Int} (hb : 0 < db) (ha : 0 ≤ da) (hc : 0 ≤ dc) (h1 : a * db ≤ b * da) (h2 : b * dc ≤ c * db) : a * dc ≤ c * da := by
  have e1 := Int.mul_le_mul_of_nonneg_right h1 hc
  have e2 := Int.mul_le_mul_of_nonneg_right h2 ha
  have : (a * dc) * db ≤ (c * da) * db := by grind
  exact Int.le_of_mul_le_mul_right this hb
theorem cross_lt1 {a b c da db dc : Int} (hb : 0 < db) (ha : 0 ≤ da) (hc : 0 < dc) (h1 : a * db < b * da) (h2 : b * dc ≤ c * db) : a * dc < c * da := by
  have e1 := Int.mul_lt_mul_of_pos_right h1 hc
  have e2 := Int.mul_le_mul_of_nonneg_right h2 ha
  have : (a * dc) * db < (c * da) * db := by grind
  exact Int.lt_of_mul_lt_mul_right this (by omega)
theorem cross_lt2 {a b c da db dc : Int} (hb : 0 < db) (ha : 0 < da) (hc : 0 ≤ dc) (h1 : a * db ≤ b * da) (h2 : b * dc < c * db) : a * dc < c * da := by
  have e1 := Int.mul_le_mul_of_nonneg_right h1 hc
  have e2 := Int.mul_lt_mul_of_pos_right h2 ha
  have : (a * dc) * db < (c * da) * db := by grind
  exact Int.lt_of_mul_lt_mul_right this (by omega)
/-! ### pigeons -/
theorem pigeon : ∀ (K : Nat) (f : Nat → Nat), (∀ n, n ≤ K → f n < K) → ∃ i j, i < j ∧ j ≤ K ∧ f i = f j
  | 0, f, h => absurd (h 0 (Nat.le_refl 0)) (by omega)
  | K + 1, f, h => by
    by_cases hex : ∃ i, i ≤ K ∧ f i = f (K + 1)
    · obtain ⟨i, h1, h2⟩ := hex
      exact ⟨i, K + 1, by omega, Nat.le_refl _, h2⟩
    · have h' : ∀ n, n ≤ K → (if f n < f (K + 1) then f n else f n - 1) < K := fun n hn => by
        have h1 := h n (by omega)
        have h2 := h (K + 1) (Nat.le_refl _)
        have h3 : f n ≠ f (K + 1) := fun q => hex ⟨n, hn, q⟩
        split <;> omega
      obtain ⟨i, j, h1, h2, h3⟩ := pigeon K (fun n => if f n < f (K + 1) then f n else f n - 1) h'
      refine ⟨i, j, h1, by omega, ?_⟩
      have hi : f i ≠ f (K + 1) := fun q => hex ⟨i, by omega, q⟩
      have hj : f j ≠ f (K + 1) := fun q => hex ⟨j, by omega, q⟩
      split at h3 <;> split at h3 <;> omega
/-- a row of small numbers as one number -/
def code (K : Nat) (f : Nat → Nat) : Nat → Nat
  | 0 => 0
  | n + 1 => code K f n * K + f n
theorem code_lt {K : Nat} {f : Nat → Nat} : ∀ {n : Nat}, (∀ k, k < n → f k < K) → code K f n < K ^ n
  | 0, _ => by simp [code]
  | n + 1, h => by
    have h1 := code_lt (n := n) fun k hk => h k (by omega)
    have h2 := h n (by omega)
    rw [code, Nat.pow_succ]
    have : (code K f n + 1) * K ≤ K ^ n * K := Nat.mul_le_mul_right _ h1
    rw [Nat.add_mul] at this
    omega
theorem code_inj {K : Nat} {f f' : Nat → Nat} : ∀ {n : Nat}, (∀ k, k < n → f k < K) → (∀ k, k < n → f' k < K) → code K f n = code K f' n → ∀ k, k < n → f k = f' k
  | 0, _, _, _ => fun k hk => by omega
  | n + 1, h, h', e => by
    rw [code, code] at e
    have h2 := h n (by omega)
    have h2' := h' n (by omega)
    have hK : 0 < K := by omega
    have e1 : code K f n = code K f' n := by
      have := congrArg (· / K) e
      simpa [Nat.add_comm, Nat.add_mul_div_right _ _ hK, Nat.div_eq_of_lt h2, Nat.div_eq_of_lt h2'] using this
    have e2 : f n = f' n := by rw [e1] at e; omega
    intro k hk
    by_cases hkn : k = n
    · subst hkn; exact e2
    · exact code_inj (fun k hk => h k (by omega)) (fun k hk => h' k (by omega)) e1 k (by omega)
/-- the greatest of some -/
theorem greatest (f : Nat → Nat) (i : Nat) : ∀ j, i < j → ∃ q, i ≤ q ∧ q < j ∧ ∀ u, i ≤ u → u < j → f u ≤ f q
  | 0, h => by omega
  | j + 1, h => by
    by_cases hi : i = j
    · subst hi
      exact ⟨i, Nat.le_refl _, by omega, fun u h1 h2 => by rw [show u = i by omega]; exact Nat.le_refl _⟩
    · obtain ⟨q, h1, h2, h3⟩ := greatest f i j (by omega)
      by_cases hq : f j ≤ f q
      · exact ⟨q, h1, by omega, fun u a b => by
          by_cases e : u = j
          · subst e; exact hq
          · exact h3 u a (by omega)⟩
      · exact ⟨j, by omega, by omega, fun u a b => by
          by_cases e : u = j
          · subst e; exact Nat.le_refl _
          · have := h3 u a (by omega); omega⟩
/-! ### a round of exchanges -/
section
variable (S : Nat → St) (T : Nat → Nat → Int) (r c : Nat → Nat)
def In (m : Nat) (S : Nat → St) (n v : Nat) : Prop := ∃ k, k < m ∧ (S n).b k = v
variable {S T r c}
theorem enter_up (P : ∀ n, Piv m N (S n) (S (n + 1)) (r n) (c n) 1) {v a : Nat} : ∀ b, a ≤ b → In m S b v → ¬In m S a v → ∃ u, a ≤ u ∧ u < b ∧ c u = v
  | 0, h, hb, ha => by rw [show a = 0 by omega] at ha; exact absurd hb ha
  | b + 1, h, hb, ha => by
    by_cases e : a = b + 1
    · subst e; exact absurd hb ha
    · by_cases hb' : In m S b v
      · obtain ⟨u, h1, h2, h3⟩ := enter_up P b (by omega) hb' ha
        exact ⟨u, h1, by omega, h3⟩
      · refine ⟨b, by omega, by omega, ?_⟩
        obtain ⟨k, hk, e⟩ := hb
        rw [(P b).b k hk] at e
        split at e
        · exact e
        · exact absurd ⟨k, hk, e⟩ hb'
theorem leave_up (P : ∀ n, Piv m N (S n) (S (n + 1)) (r n) (c n) 1) {v a : Nat} : ∀ b, a ≤ b → In m S a v → ¬In m S b v → ∃ u, a ≤ u ∧ u < b ∧ (S u).b (r u) = v
  | 0, h, ha, hb => by rw [show a = 0 by omega] at ha; exact absurd ha hb
  | b + 1, h, ha, hb => by
    by_cases e : a = b + 1
    · subst e; exact absurd ha hb
    · by_cases hb' : In m S b v
      · refine ⟨b, by omega, by omega, ?_⟩
        obtain ⟨k, hk, e⟩ := hb'
        by_cases hkr : k = r b
        · subst hkr; exact e
        · exact absurd ⟨k, hk, by rw [(P b).b k hk, if_neg hkr]; exact e⟩ hb
      · obtain ⟨u, h1, h2, h3⟩ := leave_up P b (by omega) ha hb'
        exact ⟨u, h1, by omega, h3⟩
theorem no_climb (hL : L < N) (hN : w + m ≤ N) (hu : ∀ i, i < m → ∀ k, k < m → X0 i (w + k) = if i = k then 1 else 0) (I0 : Inv m N X0 (S 0)) (T0 : Top m N g (S 0) (T 0)) (F0 : Fea m L (S 0))
    (U : ∀ n, Up m N w L (S n) (S (n + 1)) (T n) (T (n + 1)) (r n) (c n)) : False := by
  have P : ∀ n, Piv m N (S n) (S (n + 1)) (r n) (c n) 1 := fun n => (U n).P
  have I : ∀ n, Inv m N X0 (S n) := fun n => by
    induction n with
    | zero => exact I0
    | succ n ih => exact ih.piv (P n)
  have TT : ∀ n, Top m N g (S n) (T n) := fun n => by
    induction n with
    | zero => exact T0
    | succ n ih => exact ih.piv (I n) (P n) (U n).tt
  have F : ∀ n, Fea m L (S n) := fun n => by
    induction n with
    | zero => exact F0
    | succ n ih => exact (U n).fea (I n) hL ih
  obtain ⟨i, j, hij, _, hc⟩ := pigeon (N ^ m) (fun n => code N (S n).b m) fun n _ => code_lt (I n).bl
  have hb : ∀ k, k < m → (S i).b k = (S j).b k := code_inj (I i).bl (I j).bl hc
  obtain ⟨hd, hx⟩ := (I i).same (I j) hb
  have inij : ∀ v, In m S i v ↔ In m S j v := fun v => ⟨fun ⟨k, hk, e⟩ => ⟨k, hk, by rw [← hb k hk]; exact e⟩, fun ⟨k, hk, e⟩ => ⟨k, hk, by rw [hb k hk]; exact e⟩⟩
  have hTL : T i L = T j L := by
    rw [TT i L hL, TT j L hL, hd]
    congr 1
    exact sI_congr fun k hk => by rw [hb k hk, hx k hk L hL]
  -- no gain on the way
  have mono : ∀ n, T n L * (S (n + 1)).d ≤ T (n + 1) L * (S n).d := fun n => by
    have := (U n).gain (I n) (TT n) hL
    have h1 := F n (r n) (P n).hr
    have h2 : T n (c n) * (S n).x (r n) L ≤ 0 := Int.mul_nonpos_of_nonpos_of_nonneg (by have := (U n).neg; omega) h1
    omega
  have chain : ∀ a b, a ≤ b → T a L * (S b).d ≤ T b L * (S a).d := fun a b h => by
    induction b with
    | zero => rw [show a = 0 by omega]; exact Int.le_refl _
    | succ b ih =>
      by_cases e : a = b + 1
      · subst e; exact Int.le_refl _
      · exact cross_le (I b).dp (Int.le_of_lt (I a).dp) (Int.le_of_lt (I (b + 1)).dp) (ih (by omega)) (mono b)
  have flat : ∀ u, i ≤ u → u < j → (S u).x (r u) L = 0 := fun u h1 h2 => by
    have h0 := F u (r u) (P u).hr
    by_cases hz : (S u).x (r u) L = 0
    · exact hz
    · exfalso
      have g1 := (U u).gain (I u) (TT u) hL
      have g2 : T u (c u) * (S u).x (r u) L < 0 := Int.mul_neg_of_neg_of_pos (U u).neg (by omega)
      have l1 : T i L * (S (u + 1)).d < T (u + 1) L * (S i).d := cross_lt2 (I u).dp (I i).dp (Int.le_of_lt (I (u + 1)).dp) (chain i u h1) (by omega)
      have l2 := cross_lt1 (I (u + 1)).dp (Int.le_of_lt (I i).dp) (I j).dp l1 (chain (u + 1) j (by omega))
      rw [hTL, hd] at l2
      exact absurd l2 (Int.lt_irrefl _)
  -- what is zero stays zero
  let Z : Nat → Nat → Prop := fun n v => ∀ k, k < m → (S n).b k = v → (S n).x k L = 0
  have zz : ∀ u, i ≤ u → u < j → ∀ v, Z u v ↔ Z (u + 1) v := fun u h1 h2 v => by
    have fl := flat u h1 h2
    have hp := (P u).hp
    have dd := (I u).dp
    have ex : ∀ k, k < m → k ≠ r u → (S u).d * (S (u + 1)).x k L = (S u).x (r u) (c u) * (S u).x k L := fun k hk hne => by
      have := (I u).exact (P u) hk hne hL
      rw [fl] at this
      rw [this]; grind
    constructor
    · intro h k hk e
      by_cases hkr : k = r u
      · subst hkr; rw [(P u).xr L hL, fl]; rfl
      · rw [(P u).b k hk, if_neg hkr] at e
        have := ex k hk hkr
        rw [h k hk e, Int.mul_zero] at this
        rcases Int.mul_eq_zero.mp this with q | q
        · omega
        · exact q
    · intro h k hk e
      by_cases hkr : k = r u
      · subst hkr; exact fl
      · have := ex k hk hkr
        rw [h k hk (by rw [(P u).b k hk, if_neg hkr]; exact e), Int.mul_zero] at this
        rcases Int.mul_eq_zero.mp this.symm with q | q
        · rw [q] at hp; simp at hp
        · exact q
  have zij : ∀ v a b, i ≤ a → a ≤ b → b ≤ j → (Z a v ↔ Z b v) := fun v a b h1 h2 h3 => by
    induction b with
    | zero => rw [show a = 0 by omega]
    | succ b ih =>
      by_cases e : a = b + 1
      · subst e; exact Iff.rfl
      · exact (ih (by omega) (by omega)).trans (zz b (by omega) (by omega) v)
  have zall : ∀ v a b, i ≤ a → a ≤ j → i ≤ b → b ≤ j → Z a v → Z b v := fun v a b h1 h2 h3 h4 h => by
    by_cases hab : a ≤ b
    · exact (zij v a b h1 hab h4).mp h
    · exact (zij v b a h3 (by omega) h2).mpr h
  have enter : ∀ v a b, i ≤ a → a ≤ j → i ≤ b → b ≤ j → In m S a v → ¬In m S b v → ∃ u, i ≤ u ∧ u < j ∧ c u = v := fun v a b h1 h2 h3 h4 ha hb => by
    by_cases hab : b ≤ a
    · obtain ⟨u, q1, q2, q3⟩ := enter_up P a hab ha hb
      exact ⟨u, by omega, by omega, q3⟩
    · by_cases hi : In m S i v
      · obtain ⟨u, q1, q2, q3⟩ := enter_up P j h4 ((inij v).mp hi) hb
        exact ⟨u, by omega, by omega, q3⟩
      · obtain ⟨u, q1, q2, q3⟩ := enter_up P a h1 ha hi
        exact ⟨u, by omega, by omega, q3⟩
  have leave : ∀ v a b, i ≤ a → a ≤ j → i ≤ b → b ≤ j → In m S a v → ¬In m S b v → ∃ u, i ≤ u ∧ u < j ∧ (S u).b (r u) = v := fun v a b h1 h2 h3 h4 ha hb => by
    by_cases hab : a ≤ b
    · obtain ⟨u, q1, q2, q3⟩ := leave_up P b hab ha hb
      exact ⟨u, by omega, by omega, q3⟩
    · by_cases hi : In m S i v
      · obtain ⟨u, q1, q2, q3⟩ := leave_up P b h3 hi hb
        exact ⟨u, by omega, by omega, q3⟩
      · obtain ⟨u, q1, q2, q3⟩ := leave_up P j h2 ha (fun q => hi ((inij v).mpr q))
        exact ⟨u, by omega, by omega, q3⟩
  have out_of : ∀ n v, T n v ≠ 0 → ¬In m S n v := fun n v h ⟨k, hk, e⟩ => h (by rw [← e]; exact (TT n).base (I n) hk)
  -- the greatest one that enters
  obtain ⟨q, q1, q2, qm⟩ := greatest c i j hij
  have tq : T q (c q) < 0 := (U q).neg
  have tout : ¬In m S q (c q) := out_of q _ (by omega)
  have tin : In m S (q + 1) (c q) := ⟨r q, (P q).hr, by rw [(P q).b _ (P q).hr, if_pos rfl]⟩
  obtain ⟨p, p1, p2, pe⟩ := leave (c q) (q + 1) q (by omega) (by omega) q1 (by omega) tin tout
  have hsN : c p < N := (P p).hc
  have hst : c p < c q := by
    have h1 := qm p p1 p2
    have h2 : ¬In m S p (c p) := out_of p _ (by have := (U p).neg; omega)
    have h3 : c p ≠ c q := fun e => h2 ⟨r p, (P p).hr, by rw [pe, e]⟩
    omega
  have cr := top_cross hN hu (I p) (I q) (TT p) (TT q) hsN
  have neg1 : (S q).d * T p (c p) < 0 := Int.mul_neg_of_pos_of_neg (I q).dp (U p).neg
  have nn : 0 ≤ T q (c p) * (S p).d := Int.mul_nonneg ((U q).first _ hst) (Int.le_of_lt (I p).dp)
  obtain ⟨k, hk, kp⟩ := sI_pos (n := m) (f := fun k => T q ((S p).b k) * (S p).x k (c p)) (by omega)
  have hne : T q ((S p).b k) ≠ 0 := fun e => by simp only [e, Int.zero_mul] at kp; omega
  obtain ⟨u, u1, u2, ue⟩ := enter ((S p).b k) p q p1 (by omega) q1 (by omega) ⟨k, hk, rfl⟩ (out_of q _ hne)
  have hle : (S p).b k ≤ c q := by rw [← ue]; exact qm u u1 u2
  have hpp := (P p).hp
  rw [Int.one_mul] at hpp
  by_cases hkr : (S p).b k = c q
  · have : k = r p := (I p).inj hk (P p).hr (by rw [hkr, pe])
    subst this
    rw [hkr] at kp
    have := Int.mul_neg_of_neg_of_pos tq hpp
    omega
  · have hpos : 0 ≤ T q ((S p).b k) := (U q).first _ (by omega)
    have xp : 0 < (S p).x k (c p) := by
      by_cases h : 0 < (S p).x k (c p)
      · exact h
      · have := Int.mul_nonpos_of_nonneg_of_nonpos hpos (by omega : (S p).x k (c p) ≤ 0); omega
    have z0 : (S p).x k L = 0 := zall ((S p).b k) q p q1 (by omega) p1 (by omega) (fun l hl e => absurd ⟨l, hl, e⟩ (out_of q _ hne)) k hk rfl
    have := ((U p).low k hk xp).2 (by rw [flat p p1 p2, z0]; omega)
    rw [pe] at this
    omega
end
end Lp
end L2

/-! The table: rising, leaving, the exchange. -/
namespace L2
namespace Mi
open PySem PySem.Spec PyProof.Rows
open L2.Lp (sI)
variable {G : Sig}
/-! ### sequences of any kind -/
theorem dof_sof {M : Mem} {x : T} {ts : List T} (h : sof M x = some ts) : dof M x = none := by
  cases x with
  | obj i =>
    have := lof_obj (show lof M (.obj i) = some ts from h)
    simp only [dof, this]
  | fd => cases h
  | _ => rfl
theorem ix_sof {M : Mem} {x : T} {ts : List T} (h : sof M x = some ts) (k : Int) : ixT x (.int k) M = atI ts k := by
  have hd := dof_sof h
  cases x with
  | str z => cases h
  | _ => simp only [ixT, hd, h, Option.bind_some]
theorem len_sof {M : Mem} {x : T} {ts : List T} (h : sof M x = some ts) : biT .len [x] M = some (nT ts.length, M) := bi_len (dof_sof h) h
theorem getE_app {M M1 : List O} {i : Nat} {o : O} (h : M[i]? = some o) : (M ++ M1)[i]? = some o := by
  rw [List.getElem?_append_left (List.getElem?_eq_some_iff.mp h).1]; exact h
theorem sof_app {M : Mem} {x : T} {ts : List T} (h : sof M x = some ts) (M1 : List O) : sof (M ++ M1) x = some ts := by
  cases x with
  | obj i =>
    have := lof_obj (show lof M (.obj i) = some ts from h)
    exact sof_obj (getE_app this)
  | _ => exact h
theorem sof_grd {M : Mem} {x : T} {ts : List T} (h : sof M x = some ts) : Grd (grdOf x ts) M := grd_sof h
@[simp] theorem grdOf_obj (i : Nat) (ts : List T) : grdOf (.obj i) ts = [(i, ts)] := rfl
def tlT (l : List Int) : T := .tup (l.map T.int)
@[simp] theorem sof_tl (M : Mem) (l : List Int) : sof M (tlT l) = some (l.map T.int) := rfl
@[simp] theorem grdOf_tl (l : List Int) (us : List T) : grdOf (tlT l) us = [] := rfl
@[simp] theorem int_nT (k : Nat) : T.int (k : Int) = nT k := rfl
@[simp] theorem cmp_lt_nT (a b : Nat) (M : Mem) : cmpT .Lt (nT a) (nT b) M = some (decide (a < b)) := by
  have : decide ((a : Int) < (b : Int)) = decide (a < b) := by simp
  rw [← this]; rfl
@[simp] theorem cmp_ge_nT (a b : Nat) (M : Mem) : cmpT .GtE (nT a) (nT b) M = some (decide (b ≤ a)) := by
  have : decide ((b : Int) ≤ (a : Int)) = decide (b ≤ a) := by simp
  rw [← this]; rfl
@[simp] theorem cmp_ne_nT (a b : Nat) (M : Mem) : cmpT .NotEq (nT a) (nT b) M = some (!decide (a = b)) := by
  have : decide ((a : Int) = (b : Int)) = decide (a = b) := by simp [Int.natCast_inj]
  unfold nT
  rw [cmp_ne, this]
@[simp] theorem cmp_eq_nT (a b : Nat) (M : Mem) : cmpT .Eq (nT a) (nT b) M = some (decide (a = b)) := by
  have : decide ((a : Int) = (b : Int)) = decide (a = b) := by simp [Int.natCast_inj]
  unfold nT
  rw [cmp_eq, this]
@[simp] theorem bin_add_nT (a b : Nat) (tr : Bool) (M : Mem) : binT .Add tr (nT a) (nT b) M = some (nT (a + b), M) := by
  unfold nT; rw [bin_add]; congr
def optT : Option Nat → T
  | none => .non
  | some k => nT k
@[simp] theorem cmp_is_opt (o : Option Nat) (M : Mem) : cmpT .Is (optT o) .non M = some o.isNone := by cases o <;> rfl
@[simp] theorem cmp_isn_opt (o : Option Nat) (M : Mem) : cmpT .IsNot (optT o) .non M = some o.isSome := by cases o <;> rfl
@[simp] theorem cmp_is_nT (k : Nat) (M : Mem) : cmpT .Is (nT k) .non M = some false := rfl
@[simp] theorem cmp_isn_nT (k : Nat) (M : Mem) : cmpT .IsNot (nT k) .non M = some true := rfl
@[simp] theorem cmp_is_nn (M : Mem) : cmpT .Is .non .non M = some true := rfl
@[simp] theorem cmp_isn_nn (M : Mem) : cmpT .IsNot .non .non M = some false := rfl
theorem optT_pure (o : Option Nat) : pureT (optT o) = true := by cases o <;> rfl
theorem rg1_n {n : Nat} (h : n < 2 ^ 60) : rg1 (nT n) = some (rngL 0 (n : Int), []) := rg1_of (rngOk_small (by omega) (by omega) (by omega) (by omega))
theorem map_get {α : Type} {f : α → T} {l : List α} {i : Nat} {z : T} (h : (l.map f)[i]? = some z) : ∃ a, l[i]? = some a ∧ z = f a := by
  rw [List.getElem?_map] at h
  cases hl : l[i]? with
  | none => simp [hl] at h
  | some a => simp only [hl, Option.map_some, Option.some.injEq] at h; exact ⟨a, rfl, h.symm⟩
def TS.row (s : TS) (k : Nat) : List Int := s.rows.getD k []
def TS.x (s : TS) (k j : Nat) : Int := gt (s.row k) j
def TS.b (s : TS) (k : Nat) : Nat := s.basis.getD k 0
theorem TS.row_of {s : TS} {k : Nat} {r : List Int} (h : s.rows[k]? = some r) : s.row k = r := by rw [TS.row, List.getD_eq_getElem?_getD, h]; rfl
theorem TS.rows_row {s : TS} {k : Nat} (h : k < s.rows.length) : s.rows[k]? = some (s.row k) := by rw [TS.row, List.getD_eq_getElem?_getD, List.getElem?_eq_getElem h]; rfl
theorem TS.basis_b {s : TS} {k : Nat} (h : k < s.basis.length) : s.basis[k]? = some (s.b k) := by rw [TS.b, List.getD_eq_getElem?_getD, List.getElem?_eq_getElem h]; rfl
theorem TS.b_of {s : TS} {k c : Nat} (h : s.basis[k]? = some c) : s.b k = c := by rw [TS.b, List.getD_eq_getElem?_getD, h]; rfl
/-- the shape: m rows of N entries, all small -/
structure Shp (s : TS) (m N : Nat) : Prop where
  rl : s.rows.length = m
  rw_ : ∀ r ∈ s.rows, r.length = N
  bl : s.basis.length = m
  sr : ∀ r ∈ s.rows, Sma r
  ss : Sm KB s.scale
  s0 : s.scale ≠ 0
  wN : s.w < N
  mN : m < 2 ^ 20
  NN : N < 2 ^ 20
section
variable {s : TS} {n m N : Nat} {M : Mem}
theorem Shp.len (S : Shp s m N) {k : Nat} (h : k < m) : (s.row k).length = N := S.rw_ _ (List.mem_of_getElem? (TS.rows_row (by rw [S.rl]; exact h)))
theorem Shp.sma (S : Shp s m N) {k : Nat} (h : k < m) : Sma (s.row k) := S.sr _ (List.mem_of_getElem? (TS.rows_row (by rw [S.rl]; exact h)))
theorem Shp.sx (S : Shp s m N) {k : Nat} (h : k < m) (j : Nat) : Sm KB (s.x k j) := (S.sma h).at j
theorem At.row (A : At s n M) (S : Shp s m N) {k : Nat} (h : k < m) : ixT (.obj (n + 1)) (nT k) M = some (ilT (s.row k)) := by
  unfold nT
  rw [ix_obj A.r, atI_n, List.getElem?_map, TS.rows_row (by rw [S.rl]; exact h)]; rfl
theorem At.bas (A : At s n M) (S : Shp s m N) {k : Nat} (h : k < m) : ixT (.obj (n + 2)) (nT k) M = some (nT (s.b k)) := by
  unfold nT
  rw [ix_obj A.b, atI_n, List.getElem?_map, TS.basis_b (by rw [S.bl]; exact h)]; rfl
theorem Shp.ent (S : Shp s m N) {k j : Nat} (h : k < m) (hj : j < N) : ixT (ilT (s.row k)) (nT j) M = some (.int (s.x k j)) := ix_il _ _ _ (by rw [S.len h]; exact hj)
theorem Shp.last (S : Shp s m N) {k : Nat} (h : k < m) : ixT (ilT (s.row k)) (.int (-1)) M = some (.int (s.x k (N - 1))) := by
  have hl := S.len h
  have := S.wN
  rw [ix_il_last _ _ (fun e => by rw [e] at hl; simp at hl; omega), hl]; rfl
end
/-! ### rising -/
def RisesTo (s : TS) : Option Nat → Prop
  | none => ∀ j, j < s.w → 0 ≤ gt s.top j
  | some c => c < s.w ∧ gt s.top c < 0 ∧ ∀ j, j < c → 0 ≤ gt s.top j
def IsRising (F : Fn) : Prop := ∀ (s : TS) (n : Nat) (M : Mem), At s n M → s.w ≤ s.top.length → s.w < 2 ^ 60 → ∃ o, F [.obj n] M = some (optT o, M) ∧ RisesTo s o
theorem sp_rising (hc : HasTab G) : IsRising (runD G Lib.Table__rising) := by
  intro s n M A hl hw
  have e1 := A.width hc
  have e2 := A.top hc
  obtain ⟨r, hr, q⟩ := fr_inv2 (G := G) (tg := .nm 1 "column") (b := [.ite (.cmp .Lt (.ix (.att "Table" (.var 0 "self") "top") (.var 1 "column")) (.int 0)) [.ret (.var 1 "column")] []]) (g := []) (xs := rngL 0 (s.w : Int)) (σ := [some (.obj n), none]) (M := M)
    (fun i σ M' => M' = M ∧ (∃ z, σ = [some (.obj n), z]) ∧ ∀ j, j < i → 0 ≤ gt s.top j)
    (fun r => (∃ c, r = .rt (nT c) M ∧ RisesTo s (some c)) ∨ (∃ z, r = .nx [some (.obj n), z] M ∧ RisesTo s none)) ⟨rfl, ⟨_, rfl⟩, fun j h => by omega⟩ (fun _ _ _ _ => by simp) (fun i x σ M' hx ⟨hM, ⟨z, hz⟩, hj⟩ => by
      subst hM; subst hz
      obtain ⟨hi, rfl⟩ := rng_get hx
      refine ⟨_, asg_nm .., ?_⟩
      have e3 := ix_il s.top i M' (by omega)
      by_cases h : gt s.top i < 0
      · exact .inr (.inl ⟨nT i, M', by simp [e2, e3, h], .inl ⟨i, rfl, hi, h, hj⟩⟩)
      · refine .inl ⟨_, M', .inl (by simp [e2, e3, h]; first | rfl | exact ⟨rfl, rfl⟩ | exact ⟨rfl, rfl, rfl⟩), rfl, ⟨_, rfl⟩, fun j hj' => ?_⟩
        by_cases e : j = i
        · subst e; omega
        · exact hj j (by omega)) (fun σ M' ⟨hM, ⟨z, hz⟩, hj⟩ => by
      subst hM; subst hz
      exact .inr ⟨z, rfl, fun j h => hj j (by rw [rngL_len]; omega)⟩)
  rcases q with ⟨c, rfl, q⟩ | ⟨z, rfl, q⟩
  · refine ⟨some c, run_same rfl rfl rfl ?_, q⟩
    simp [Lib.Table__rising, startE, e1, rg1_n hw, hr]
    rfl
  · refine ⟨none, run_same rfl rfl rfl ?_, q⟩
    simp [Lib.Table__rising, startE, e1, rg1_n hw, hr]
    rfl
/-! ### leaving -/
def LeavesTo (s : TS) (c L i : Nat) : Option Nat → Prop
  | none => ∀ k, k < i → ¬0 < s.x k c
  | some r => r < i ∧ 0 < s.x r c ∧ ∀ k, k < i → 0 < s.x k c → s.x r L * s.x k c ≤ s.x k L * s.x r c ∧ (s.x r L * s.x k c = s.x k L * s.x r c → s.b r ≤ s.b k)
def IsLeaving (F : Fn) : Prop := ∀ (s : TS) (n m N : Nat) (M : Mem) (c : Nat), At s n M → Shp s m N → c < N → ∃ o, F [.obj n, nT c] M = some (optT o, M) ∧ LeavesTo s c (N - 1) m o
theorem leaves_new {s : TS} {c L i r : Nat} (h : LeavesTo s c L i (some r)) (hp : 0 < s.x i c) (hlt : s.x i L * s.x r c < s.x r L * s.x i c ∨ s.x i L * s.x r c = s.x r L * s.x i c ∧ s.b i < s.b r) : LeavesTo s c L (i + 1) (some i) := by
  obtain ⟨h1, h2, h3⟩ := h
  refine ⟨by omega, hp, fun k hk hkp => ?_⟩
  by_cases e : k = i
  · subst e; exact ⟨Int.le_refl _, fun _ => Nat.le_refl _⟩
  · obtain ⟨g1, g2⟩ := h3 k (by omega) hkp
    -- all over positive things
    have a1 : (s.x i L * s.x k c) * s.x r c ≤ (s.x k L * s.x i c) * s.x r c ∧ ((s.x i L * s.x k c) * s.x r c = (s.x k L * s.x i c) * s.x r c → s.x i L * s.x r c = s.x r L * s.x i c ∧ s.x r L * s.x k c = s.x k L * s.x r c) := by
      have m1 : (s.x i L * s.x r c) * s.x k c ≤ (s.x r L * s.x i c) * s.x k c := Int.mul_le_mul_of_nonneg_right (by rcases hlt with q | q <;> omega) (by omega)
      have m2 : (s.x r L * s.x k c) * s.x i c ≤ (s.x k L * s.x r c) * s.x i c := Int.mul_le_mul_of_nonneg_right g1 (by omega)
      have i1 : (s.x i L * s.x k c) * s.x r c = (s.x i L * s.x r c) * s.x k c := by grind
      have i2 : (s.x k L * s.x i c) * s.x r c = (s.x k L * s.x r c) * s.x i c := by grind
      have i3 : (s.x r L * s.x k c) * s.x i c = (s.x r L * s.x i c) * s.x k c := by grind
      refine ⟨by omega, fun e => ⟨?_, ?_⟩⟩
      · exact Int.eq_of_mul_eq_mul_right (a := s.x k c) (by omega) (by omega)
      · exact Int.eq_of_mul_eq_mul_right (a := s.x i c) (by omega) (by omega)
    refine ⟨Int.le_of_mul_le_mul_right a1.1 h2, fun e => ?_⟩
    obtain ⟨b1, b2⟩ := a1.2 (by rw [e])
    have := g2 b2
    rcases hlt with q | q
    · omega
    · omega
theorem leaves_old {s : TS} {c L i r : Nat} (h : LeavesTo s c L i (some r)) (hp : 0 < s.x i c) (hlt : ¬(s.x i L * s.x r c < s.x r L * s.x i c ∨ s.x i L * s.x r c = s.x r L * s.x i c ∧ s.b i < s.b r)) : LeavesTo s c L (i + 1) (some r) := by
  obtain ⟨h1, h2, h3⟩ := h
  refine ⟨by omega, h2, fun k hk hkp => ?_⟩
  by_cases e : k = i
  · subst e; exact ⟨by omega, fun e => by omega⟩
  · exact h3 k (by omega) hkp
theorem sp_leaving (hc : HasTab G) : IsLeaving (runD G Lib.Table_leaving) := by
  intro s n m N M c A S hcN
  have e1 := A.rows hc
  have e2 := A.basis hc
  have hm := S.mN
  obtain ⟨σ', M', hr, hM, best, z3, z4, z5, z6, hz, q⟩ := fr_inv (G := G) (tg := .tp (.cons (.nm 3 "at") (.cons (.nm 4 "row") .nil))) (b := [
    .ite (.cmp .Gt (.ix (.var 4 "row") (.var 1 "column")) (.int 0)) [
      .ite (.cmp .Is (.var 2 "best") .non) [
        .set 2 "best" (.var 3 "at"),
        .cnt] [],
      .set 5 "here" (.bin .Mult false (.ix (.var 4 "row") (.neg (.int 1))) (.ix (.ix (.att "Table" (.var 0 "self") "rows") (.var 2 "best")) (.var 1 "column"))),
      .set 6 "there" (.bin .Mult false (.ix (.ix (.att "Table" (.var 0 "self") "rows") (.var 2 "best")) (.neg (.int 1))) (.ix (.var 4 "row") (.var 1 "column"))),
      .ite (.or (.cmp .Lt (.var 5 "here") (.var 6 "there")) (.one (.and (.cmp .Eq (.var 5 "here") (.var 6 "there")) (.one (.cmp .Lt (.ix (.att "Table" (.var 0 "self") "basis") (.var 3 "at")) (.ix (.att "Table" (.var 0 "self") "basis") (.var 2 "best"))))))) [
        .set 2 "best" (.var 3 "at")] []] []]) (g := [(n + 1, s.rows.map ilT)]) (xs := enumL 0 (s.rows.map ilT)) (σ := [some (.obj n), some (nT c), some .non, none, none, none, none]) (M := M)
    (fun i σ M' => M' = M ∧ ∃ best z3 z4 z5 z6, σ = [some (.obj n), some (nT c), some (optT best), z3, z4, z5, z6] ∧ LeavesTo s c (N - 1) i best)
    ⟨rfl, none, _, _, _, _, rfl, fun k h => by omega⟩ (fun i σ M' h => by rw [h.1]; exact grd_at A.r) (fun i x σ M' hx ⟨hM, best, z3, z4, z5, z6, hz, q⟩ => by
      subst hM; subst hz
      obtain ⟨t, ht, rfl⟩ := enum_get hx
      obtain ⟨row, hrow, rfl⟩ := map_get ht
      have hi : i < m := by rw [← S.rl]; exact (List.getElem?_eq_some_iff.mp hrow).1
      have er := TS.row_of hrow
      subst er
      have x1 := S.ent (M := M') hi hcN
      have x2 := S.last (M := M') hi
      refine ⟨[some (.obj n), some (nT c), some (optT best), some (nT i), some (ilT (s.row i)), z5, z6], by simp, ?_⟩
      by_cases hp : 0 < s.x i c
      · cases best with
        | none =>
          refine ⟨[some (.obj n), some (nT c), some (optT (some i)), some (nT i), some (ilT (s.row i)), z5, z6], M', .inr (by simp [x1, hp, optT]), rfl, some i, _, _, _, _, rfl, by omega, hp, fun k hk hkp => ?_⟩
          by_cases e : k = i
          · subst e; exact ⟨Int.le_refl _, fun _ => Nat.le_refl _⟩
          · exact absurd hkp (q k (by omega))
        | some r =>
          have hrm : r < m := by have := q.1; omega
          have y0 := A.row S hrm
          have y1 := S.ent (M := M') hrm hcN
          have y2 := S.last (M := M') hrm
          have b1 := A.bas S hi
          have b2 := A.bas S hrm
          have m1 := bin_mul (mok (S.sx hi (N - 1)) (S.sx hrm c)) false M'
          have m2 := bin_mul (mok (S.sx hrm (N - 1)) (S.sx hi c)) false M'
          by_cases hlt : s.x i (N - 1) * s.x r c < s.x r (N - 1) * s.x i c ∨ s.x i (N - 1) * s.x r c = s.x r (N - 1) * s.x i c ∧ s.b i < s.b r
          · refine ⟨[some (.obj n), some (nT c), some (optT (some i)), some (nT i), some (ilT (s.row i)), some (.int (s.x i (N - 1) * s.x r c)), some (.int (s.x r (N - 1) * s.x i c))], M', .inl ?_, rfl, some i, _, _, _, _, rfl, leaves_new q hp hlt⟩
            by_cases h1 : s.x i (N - 1) * s.x r c < s.x r (N - 1) * s.x i c
            · simp [x1, x2, hp, optT, e1, y0, y1, y2, m1, m2, h1]
            · have h2 : s.x i (N - 1) * s.x r c = s.x r (N - 1) * s.x i c ∧ s.b i < s.b r := hlt.resolve_left h1
              simp [x1, x2, hp, optT, e1, e2, y0, y1, y2, m1, m2, h2, b1, b2]
          · refine ⟨[some (.obj n), some (nT c), some (optT (some r)), some (nT i), some (ilT (s.row i)), some (.int (s.x i (N - 1) * s.x r c)), some (.int (s.x r (N - 1) * s.x i c))], M', .inl ?_, rfl, some r, _, _, _, _, rfl, leaves_old q hp hlt⟩
            have h1 : ¬s.x i (N - 1) * s.x r c < s.x r (N - 1) * s.x i c := fun h => hlt (.inl h)
            by_cases h2 : s.x i (N - 1) * s.x r c = s.x r (N - 1) * s.x i c
            · have h3 : ¬s.b i < s.b r := fun h => hlt (.inr ⟨h2, h⟩)
              simp [x1, x2, hp, optT, e1, e2, y0, y1, y2, m1, m2, h2, h3, b1, b2]
            · simp [x1, x2, hp, optT, e1, e2, y0, y1, y2, m1, m2, h1, h2, b1, b2]
      · refine ⟨[some (.obj n), some (nT c), some (optT best), some (nT i), some (ilT (s.row i)), z5, z6], M', .inl (by simp [x1, hp]), rfl, best, _, _, _, _, rfl, ?_⟩
        cases best with
        | none =>
          intro k hk
          by_cases e : k = i
          · subst e; exact hp
          · exact q k (by omega)
        | some r =>
          refine ⟨by have := q.1; omega, q.2.1, fun k hk hkp => ?_⟩
          by_cases e : k = i
          · subst e; exact absurd hkp hp
          · exact q.2.2 k (by omega) hkp)
  subst hM; subst hz
  rw [enumL_len, List.length_map, S.rl] at q
  refine ⟨best, run_same rfl (optT_pure _) rfl ?_, q⟩
  simp [Lib.Table_leaving, startE, e1, sof_obj A.r, hr]
end Mi
end L2

/-! The table: the exchange, the row of the gains. -/
namespace L2
namespace Mi
open PySem PySem.Spec PyProof.Rows
open L2.Lp (sI)
variable {G : Sig}
def ngs (l : List Int) : List Int := l.map fun x => -x
def stp (s : TS) (r c : Nat) : List Int := if s.x r c < 0 then ngs (s.row r) else s.row r
def midr (s : TS) (st : List Int) (r c i : Nat) : List (List Int) := (List.range s.rows.length).map fun k => if k = r then st else if k < i then chg s.scale (s.row k) st c else s.row k
def TS.piv (s : TS) (r c : Nat) : TS := { s with rows := midr s (stp s r c) r c s.rows.length, top := chg s.scale s.top (stp s r c) c, scale := gt (stp s r c) c, basis := s.basis.set r c }
theorem midr_get {s : TS} {st : List Int} {r c i k : Nat} (h : k < s.rows.length) : (midr s st r c i)[k]? = some (if k = r then st else if k < i then chg s.scale (s.row k) st c else s.row k) := by
  unfold midr
  rw [List.getElem?_map, List.getElem?_range h]; rfl
theorem midr_len (s : TS) (st : List Int) (r c i : Nat) : (midr s st r c i).length = s.rows.length := by simp [midr]
theorem midr_pos {s : TS} {r c : Nat} : midr s (s.row r) r c 0 = s.rows := by
  apply List.ext_getElem?
  intro k
  by_cases h : k < s.rows.length
  · rw [midr_get h, TS.rows_row h]
    by_cases e : k = r
    · rw [if_pos e, e]
    · rw [if_neg e, if_neg (by omega)]
  · rw [List.getElem?_eq_none (by rw [midr_len]; omega), List.getElem?_eq_none (by omega)]
theorem midr_neg {s : TS} {r c : Nat} (st : List Int) : s.rows.set r st = midr s st r c 0 := by
  apply List.ext_getElem?
  intro k
  by_cases h : k < s.rows.length
  · rw [midr_get h]
    by_cases e : k = r
    · rw [if_pos e, e, List.getElem?_set_self (by omega)]
    · rw [if_neg e, if_neg (by omega), List.getElem?_set_ne (fun q => e q.symm), TS.rows_row h]
  · rw [List.getElem?_eq_none (by rw [List.length_set]; omega), List.getElem?_eq_none (by rw [midr_len]; omega)]
theorem midr_step {s : TS} {st : List Int} {r c i : Nat} (h : i ≠ r) (hi : i < s.rows.length) : (midr s st r c i).set i (chg s.scale (s.row i) st c) = midr s st r c (i + 1) := by
  apply List.ext_getElem?
  intro k
  by_cases hk : k < s.rows.length
  · rw [midr_get hk]
    by_cases e : k = i
    · subst e
      rw [List.getElem?_set_self (by rw [midr_len]; omega), if_neg h, if_pos (by omega)]
    · rw [List.getElem?_set_ne (fun q => e q.symm), midr_get hk]
      by_cases e2 : k = r
      · rw [if_pos e2, if_pos e2]
      · rw [if_neg e2, if_neg e2]
        by_cases e3 : k < i
        · rw [if_pos e3, if_pos (by omega)]
        · rw [if_neg e3, if_neg (by omega)]
  · rw [List.getElem?_eq_none (by rw [List.length_set, midr_len]; omega), List.getElem?_eq_none (by rw [midr_len]; omega)]
theorem midr_same {s : TS} {st : List Int} {r c : Nat} : midr s st r c r = midr s st r c (r + 1) := by
  apply List.ext_getElem?
  intro k
  by_cases hk : k < s.rows.length
  · rw [midr_get hk, midr_get hk]
    by_cases e2 : k = r
    · rw [if_pos e2, if_pos e2]
    · rw [if_neg e2, if_neg e2]
      by_cases e3 : k < r
      · rw [if_pos e3, if_pos (by omega)]
      · rw [if_neg e3, if_neg (by omega)]
  · rw [List.getElem?_eq_none (by rw [midr_len]; omega), List.getElem?_eq_none (by rw [midr_len]; omega)]
/-! ### the memory -/
section
variable {s : TS} {M0 : List O}
theorem set_app (M0 L : List O) (i : Nat) (o : O) : (M0 ++ L).set (M0.length + i) o = M0 ++ L.set i o := by
  rw [List.set_append_right _ _ (by omega), Nat.add_sub_cancel_left]
theorem upd_rows (rows : List (List Int)) : (M0 ++ s.mem M0.length).set (M0.length + 1) (.lst (rows.map ilT)) = M0 ++ ({ s with rows := rows } : TS).mem M0.length := by rw [set_app]; rfl
theorem upd_basis (b : List Nat) : (M0 ++ s.mem M0.length).set (M0.length + 2) (.lst (b.map nT)) = M0 ++ ({ s with basis := b } : TS).mem M0.length := by rw [set_app]; rfl
theorem upd_top (t : List Int) : (M0 ++ s.mem M0.length).set M0.length (.ins "Table" (putA "top" (ilT t) (s.fs M0.length))) = M0 ++ ({ s with top := t } : TS).mem M0.length := by
  have := set_app M0 (s.mem M0.length) 0 (.ins "Table" (putA "top" (ilT t) (s.fs M0.length)))
  rw [Nat.add_zero] at this
  rw [this]; rfl
theorem upd_scale (d : Int) : (M0 ++ s.mem M0.length).set M0.length (.ins "Table" (putA "scale" (.int d) (s.fs M0.length))) = M0 ++ ({ s with scale := d } : TS).mem M0.length := by
  have := set_app M0 (s.mem M0.length) 0 (.ins "Table" (putA "scale" (.int d) (s.fs M0.length)))
  rw [Nat.add_zero] at this
  rw [this]; rfl
theorem At.sTop (h : HasTab G) (t : List Int) : sattT G "Table" "top" (.obj M0.length) (ilT t) (M0 ++ s.mem M0.length) = some (M0 ++ ({ s with top := t } : TS).mem M0.length) := by
  rw [satt_of h (by decide) (At.of0 s M0).o (by simp [TS.fs]), upd_top]
theorem At.sScale (h : HasTab G) (d : Int) : sattT G "Table" "scale" (.obj M0.length) (.int d) (M0 ++ s.mem M0.length) = some (M0 ++ ({ s with scale := d } : TS).mem M0.length) := by
  rw [satt_of h (by decide) (At.of0 s M0).o (by simp [TS.fs]), upd_scale]
theorem set_rows (k : Nat) (r : List Int) (h : k < s.rows.length) : setT (.obj (M0.length + 1)) (nT k) (ilT r) (M0 ++ s.mem M0.length) = some (M0 ++ ({ s with rows := s.rows.set k r } : TS).mem M0.length) := by
  unfold nT
  rw [set_obj (At.of0 s M0).r (by simpa using h), ← List.map_set, upd_rows]
theorem set_basis (k c : Nat) (h : k < s.basis.length) : setT (.obj (M0.length + 2)) (nT k) (nT c) (M0 ++ s.mem M0.length) = some (M0 ++ ({ s with basis := s.basis.set k c } : TS).mem M0.length) := by
  have : setT (.obj (M0.length + 2)) (.int (k : Int)) (nT c) (M0 ++ s.mem M0.length) = _ := set_obj (At.of0 s M0).b (by simpa using h)
  rw [← List.map_set, upd_basis] at this
  exact this
theorem lookup_no {α : Type} {m : Str} : ∀ {fs : List (Str × α)}, m ∉ fs.map (·.1) → fs.lookup m = none
  | [], _ => rfl
  | (k, v) :: fs, h => by
    rw [List.map_cons, List.mem_cons, not_or] at h
    rw [List.lookup_cons, show (m == k) = false from beq_eq_false_iff_ne.mpr h.1]
    exact lookup_no h.2
theorem insOk_tab {m : Str} (h : m ∉ tabAs) : insOk "Table" m (.obj M0.length) (M0 ++ s.mem M0.length) = some () := insOk_of (At.of0 s M0).o (lookup_no h)
end
theorem gt_ngs (l : List Int) (k : Nat) : gt (ngs l) k = -gt l k := by
  unfold gt ngs
  rw [List.getD_eq_getElem?_getD, List.getD_eq_getElem?_getD, List.getElem?_map]
  cases l[k]? <;> simp
theorem sma_ngs {l : List Int} (h : Sma l) : Sma (ngs l) := fun x hx => by
  obtain ⟨y, hy, rfl⟩ := List.mem_map.mp hx
  exact Sm.neg (h y hy)
def IsPivot (F : Fn) : Prop := ∀ (s : TS) (M0 : List O) (m N r c : Nat), Shp s m N → s.top.length = N → Sma s.top → r < m → c < N → F [.obj M0.length, nT r, nT c] (M0 ++ s.mem M0.length) = some (.non, M0 ++ (s.piv r c).mem M0.length)
theorem sp_pivot (hc : HasTab G) (hch : KnowsM G "Table" "_changed" IsChg) : IsPivot (runD G Lib.Table_pivot) := by
  intro s M0 m N r c S htl hts hr hcN
  obtain ⟨F, hl, hF⟩ := hch
  have hm := S.mN
  have hN := S.NN
  have rl := S.rl
  have A := At.of0 s M0
  generalize hst : stp s r c = st
  have lst : st.length = N := by
    rw [← hst, stp]
    split
    · simp [ngs, S.len hr]
    · exact S.len hr
  have sst : Sma st := by
    rw [← hst, stp]
    split
    · exact sma_ngs (S.sma hr)
    · exact S.sma hr
  -- the first statement
  have first : exS G (.ite (.cmp .Lt (.ix (.ix (.att "Table" (.var 0 "self") "rows") (.var 1 "at")) (.var 2 "column")) (.int 0)) [
    .setI (.att "Table" (.var 0 "self") "rows") (.var 1 "at") (.lc false [("entry", 5)] (.nm 5 "entry") (.over (.ix (.att "Table" (.var 0 "self") "rows") (.var 1 "at"))) .nil (.neg (.var 5 "entry")))] []) [some (.obj M0.length), some (nT r), some (nT c), none, none, none] (M0 ++ s.mem M0.length) =
      some (.nx [some (.obj M0.length), some (nT r), some (nT c), none, none, none] (M0 ++ ({ s with rows := midr s st r c 0 } : TS).mem M0.length)) := by
    have e1 := A.rows hc
    have e2 := A.row S hr
    have e3 := S.ent (M := M0 ++ s.mem M0.length) hr hcN
    by_cases hneg : s.x r c < 0
    · have h1 : st = ngs (s.row r) := by rw [← hst, stp, if_pos hneg]
      have l1 : lcr G (.nm 5 "entry") .nil (.neg (.var 5 "entry")) [some (.obj M0.length), some (nT r), some (nT c), none, none, none] [] ((s.row r).map T.int) (M0 ++ s.mem M0.length) = some (st.map T.int, M0 ++ s.mem M0.length) := by
        rw [lcr_of T.int (fun x => .int (-x)) (by simp) (fun x hx => by simp [stepL]), h1, ngs, List.map_map]; rfl
      have l2 := set_rows (s := s) (M0 := M0) r st (by omega)
      rw [midr_neg (c := c) st] at l2
      have hN2 : N ≤ 16777216 := by omega
      simp [e1, e2, e3, hneg, wipeE, l1, l2, lst, hN2]
    · have h1 : st = s.row r := by rw [← hst, stp, if_neg hneg]
      rw [h1, midr_pos]
      simp [e1, e2, e3, hneg]
  -- the loop
  obtain ⟨σ', M', hr', hM, z, hz⟩ := fr_inv (G := G) (tg := .nm 4 "other") (b := [
    .ite (.cmp .NotEq (.var 4 "other") (.var 1 "at")) [
      .setI (.att "Table" (.var 0 "self") "rows") (.var 4 "other") (.mcall "Table" (.var 0 "self") "_changed" (.cons (.ix (.att "Table" (.var 0 "self") "rows") (.var 4 "other")) (.cons (.var 3 "step") (.cons (.var 2 "column") .nil))))] []]) (g := []) (xs := rngL 0 (m : Int))
    (σ := [some (.obj M0.length), some (nT r), some (nT c), some (ilT st), none, none]) (M := M0 ++ ({ s with rows := midr s st r c 0 } : TS).mem M0.length)
    (fun i σ M' => M' = M0 ++ ({ s with rows := midr s st r c i } : TS).mem M0.length ∧ ∃ z, σ = [some (.obj M0.length), some (nT r), some (nT c), some (ilT st), z, none])
    ⟨rfl, _, rfl⟩ (fun _ _ _ _ => by simp) (fun i x σ M' hx ⟨hM, z, hz⟩ => by
      subst hM; subst hz
      obtain ⟨hi, rfl⟩ := rng_get hx
      refine ⟨_, asg_nm .., [some (.obj M0.length), some (nT r), some (nT c), some (ilT st), some (nT i), none], M0 ++ ({ s with rows := midr s st r c (i + 1) } : TS).mem M0.length, .inl ?_, rfl, _, rfl⟩
      by_cases h : i = r
      · subst h
        rw [← midr_same]
        simp
      · have A1 := At.of0 ({ s with rows := midr s st r c i } : TS) M0
        have e1 := A1.rows hc
        have e2 : ixT (.obj (M0.length + 1)) (nT i) (M0 ++ ({ s with rows := midr s st r c i } : TS).mem M0.length) = some (ilT (s.row i)) := by
          unfold nT
          rw [ix_obj A1.r, atI_n, List.getElem?_map, midr_get (by omega), if_neg h, if_neg (by omega)]; rfl
        have e3 := hF ({ s with rows := midr s st r c i } : TS) M0.length _ (s.row i) st c A1 (by rw [S.len hi, lst]) (by rw [S.len hi]; exact hcN) (by rw [S.len hi]; omega) (S.sma hi) sst S.ss S.s0
        have e4 := set_rows (s := ({ s with rows := midr s st r c i } : TS)) (M0 := M0) i (chg s.scale (s.row i) st c) (by show i < (midr s st r c i).length; rw [midr_len]; omega)
        have e5 : ({ s with rows := (midr s st r c i).set i (chg s.scale (s.row i) st c) } : TS) = ({ s with rows := midr s st r c (i + 1) } : TS) := by rw [midr_step h (by omega)]
        simp only [e5] at e4
        have e6 := insOk_tab (s := ({ s with rows := midr s st r c i } : TS)) (M0 := M0) (m := "_changed") (by decide)
        simp [h, e1, e2, e6, hl, e3, e4])
  subst hz
  rw [rngL_len, show ((m : Int) - 0).toNat = m by omega] at hM
  subst hM
  refine run_nx rfl (σ := [some (.obj M0.length), some (nT r), some (nT c), some (ilT st), z, none]) (by simp [TS.mem]) ?_
  have A0 := At.of0 ({ s with rows := midr s st r c 0 } : TS) M0
  have f1 := A0.rows hc
  have f2 : ixT (.obj (M0.length + 1)) (nT r) (M0 ++ ({ s with rows := midr s st r c 0 } : TS).mem M0.length) = some (ilT st) := by
    unfold nT
    rw [ix_obj A0.r, atI_n, List.getElem?_map, midr_get (by omega), if_pos rfl]; rfl
  have f3 : biT .len [.obj (M0.length + 1)] (M0 ++ ({ s with rows := midr s st r c 0 } : TS).mem M0.length) = some (nT m, M0 ++ ({ s with rows := midr s st r c 0 } : TS).mem M0.length) := by
    rw [len_sof (sof_obj A0.r), List.length_map]
    show some (nT (midr s st r c 0).length, _) = _
    rw [midr_len, rl]
  have A2 := At.of0 ({ s with rows := midr s st r c m } : TS) M0
  have g1 := A2.top hc
  have g2 := hF ({ s with rows := midr s st r c m } : TS) M0.length _ s.top st c A2 (by rw [htl, lst]) (by omega) (by omega) hts sst S.ss S.s0
  have g3 := At.sTop (s := ({ s with rows := midr s st r c m } : TS)) (M0 := M0) hc (chg s.scale s.top st c)
  have g4 := ix_il st c (M0 ++ ({ s with rows := midr s st r c m, top := chg s.scale s.top st c } : TS).mem M0.length) (by omega)
  have g5 := At.sScale (s := ({ s with rows := midr s st r c m, top := chg s.scale s.top st c } : TS)) (M0 := M0) hc (gt st c)
  have g6 := (At.of0 ({ s with rows := midr s st r c m, top := chg s.scale s.top st c, scale := gt st c } : TS) M0).basis hc
  have g7 := set_basis (s := ({ s with rows := midr s st r c m, top := chg s.scale s.top st c, scale := gt st c } : TS)) (M0 := M0) r c (by show r < s.basis.length; rw [S.bl]; exact hr)
  have g8 := insOk_tab (s := ({ s with rows := midr s st r c m } : TS)) (M0 := M0) (m := "_changed") (by decide)
  have g9 : s.piv r c = ({ s with rows := midr s st r c m, top := chg s.scale s.top st c, scale := gt st c, basis := s.basis.set r c } : TS) := by rw [TS.piv, hst, rl]
  rw [g9]
  have rm := rg1_n (n := m) (by omega)
  simp only [Lib.Table_pivot, startE, List.map_cons, List.map_nil, List.length_cons, List.length_nil, xs_cons]
  simp [first, f1, f2, f3, rm, hr', g1, g2, g3, g4, g5, g6, g7, g8, hl]
end Mi
end L2

/-! The table: the gains, the start. -/
namespace L2
namespace Mi
open PySem PySem.Spec PyProof.Rows
variable {G : Sig}
theorem bin_cat {ts us : List T} (h : ts.length + us.length ≤ 16777216) (M : Mem) : binT .Add false (.fl ts) (.fl us) M = some (.fl (ts ++ us), M) := by
  show ((lof M (.fl ts)).bind fun a => (lof M (.fl us)).bind fun b => if a.length + b.length ≤ 16777216 then some (mkL false (a ++ b) M) else none) = _
  rw [lof_fl, lof_fl]
  show (if ts.length + us.length ≤ 16777216 then _ else _) = _
  rw [if_pos h]
  rfl
theorem bin_il (a b : List Int) (M : Mem) (h : a.length + b.length ≤ 16777216) : binT .Add false (ilT a) (ilT b) M = some (ilT (a ++ b), M) := by
  unfold ilT
  rw [bin_cat (by simpa using h), List.map_append]
theorem bin_rep (tr : Bool) {ts : List T} {k : Nat} (h : ts.length * k ≤ 16777216) (hk : k < 2 ^ 60) (M : Mem) : binT .Mult tr (.fl ts) (nT k) M = some (mkL tr (List.replicate k ts).flatten M) := by
  have h63 : i63 (k : Int) := by unfold i63; omega
  show ((lof M (.fl ts)).bind fun a => if i63 (k : Int) ∧ a.length * (k : Int).toNat ≤ 16777216 then some (mkL tr (List.replicate (k : Int).toNat a).flatten M) else none) = _
  rw [lof_fl]
  show (if i63 (k : Int) ∧ ts.length * (k : Int).toNat ≤ 16777216 then _ else _) = _
  rw [if_pos ⟨h63, by simpa using h⟩]
  simp
@[simp] theorem bi_intb (b : Bool) (M : Mem) : biT .int [.bl b] M = some (.int (if b = true then 1 else 0), M) := rfl
@[simp] theorem bi_inti (i : Int) (M : Mem) : biT .int [.int i] M = some (.int i, M) := rfl
@[simp] theorem bi_abs (i : Int) (M : Mem) : biT .abs [.int i] M = some (.int (i.natAbs : Int), M) := by
  rw [← abs_if]; rfl
theorem bm_append {i : Nat} {ts : List T} {x : T} {M : Mem} (h : M[i]? = some (.lst ts)) (hl : ts.length < 16777216) : bmT .append (.obj i) [x] M = some (.non, M.set i (.lst (ts ++ [x]))) := by
  simp only [bmT, h, if_pos hl]
theorem gt_append (a b : List Int) (k : Nat) : gt (a ++ b) k = if k < a.length then gt a k else gt b (k - a.length) := by
  unfold gt
  rw [List.getD_eq_getElem?_getD, List.getD_eq_getElem?_getD, List.getD_eq_getElem?_getD]
  split
  · rw [List.getElem?_append_left (by assumption)]
  · rw [List.getElem?_append_right (by omega)]
theorem gt_map (f : Int → Int) (l : List Int) (k : Nat) (h : k < l.length) : gt (l.map f) k = f (gt l k) := by
  unfold gt
  rw [List.getD_eq_getElem?_getD, List.getD_eq_getElem?_getD, List.getElem?_map, List.getElem?_eq_getElem h]; rfl
theorem gt_out (l : List Int) (k : Nat) (h : l.length ≤ k) : gt l k = 0 := by
  unfold gt
  rw [List.getD_eq_getElem?_getD, List.getElem?_eq_none h]; rfl
theorem gt_range (f : Nat → Int) (n k : Nat) (h : k < n) : gt ((List.range n).map f) k = f k := by
  unfold gt
  rw [List.getD_eq_getElem?_getD, List.getElem?_map, List.getElem?_range h]; rfl
def scl (a : Int) (l : List Int) : List Int := l.map fun x => a * x
theorem scl_len (a : Int) (l : List Int) : (scl a l).length = l.length := by simp [scl]
theorem gt_scl (a : Int) (l : List Int) (k : Nat) : gt (scl a l) k = a * gt l k := by
  by_cases h : k < l.length
  · exact gt_map _ l k h
  · rw [gt_out _ _ (by rw [scl_len]; omega), gt_out _ _ (by omega), Int.mul_zero]
/-! ### set_gains -/
def addm (t : List Int) (g : Int) (row : List Int) : List Int := List.zipWith (fun a b => a + g * b) t row
theorem addm_len (t : List Int) (g : Int) (row : List Int) : (addm t g row).length = min t.length row.length := by simp [addm]
theorem gt_addm {t row : List Int} (g : Int) {j : Nat} (h1 : j < t.length) (h2 : j < row.length) : gt (addm t g row) j = gt t j + g * gt row j := by
  unfold gt addm
  rw [List.getD_eq_getElem?_getD, List.getD_eq_getElem?_getD, List.getD_eq_getElem?_getD, List.getElem?_zipWith, List.getElem?_eq_getElem h1, List.getElem?_eq_getElem h2]; rfl
def IsGains (F : Fn) : Prop := ∀ (s : TS) (M0 : List O) (m N : Nat) (gs : List Int), Shp s m N → gs.length + 1 = N → Sma gs → (∀ k, k < m → s.b k < gs.length) →
  ∃ t, F [.obj M0.length, ilT gs] (M0 ++ s.mem M0.length) = some (.non, M0 ++ ({ s with top := t } : TS).mem M0.length) ∧ t.length = N ∧ ∀ j, j < N → gt t j = Lp.sI m (fun k => gt gs (s.b k) * s.x k j) - gt gs j * s.scale
theorem sp_gains (hc : HasTab G) : IsGains (runD G Lib.Table_set_gains) := by
  intro s M0 m N gs S hgl hgs hb
  have A := At.of0 s M0
  have rl := S.rl
  have hN := S.NN
  have hm := S.mN
  generalize hM : M0 ++ s.mem M0.length = M at A
  have f1 := A.scale hc
  have f2 := A.rows hc
  have f3 := A.basis hc
  have l1 : lcr G (.nm 5 "gain") .nil (.bin .Mult false (.neg (.att "Table" (.var 0 "self") "scale")) (.var 5 "gain")) [some (.obj M0.length), some (ilT gs), none, none, none, none, none, none] [] (gs.map T.int) M = some ((scl (-s.scale) gs).map T.int, M) := by
    rw [lcr_of T.int (fun x => .int (-s.scale * x)) (by simp) (fun x hx => ?_), scl, List.map_map]
    · rfl
    · simp [stepL, f1, bin_mul (mok (Sm.neg S.ss) (hgs x hx))]
  have l2 := bin_il (scl (-s.scale) gs) [0] M (by rw [scl_len]; simp; omega)
  obtain ⟨σ', M', hr, hM', t, z3, z4, z5, hz, ht, q⟩ := fr_inv (G := G) (tg := .tp (.cons (.nm 3 "row") (.cons (.nm 4 "column") .nil))) (b := [
    .set 5 "gain" (.ix (.var 1 "gains") (.var 4 "column")),
    .ite (.var 5 "gain") [
      .set 2 "top" (.lc false [("a", 6), ("b", 7)] (.tp (.cons (.nm 6 "a") (.cons (.nm 7 "b") .nil))) (.zip2 (.var 2 "top") (.var 3 "row")) .nil (.bin .Add false (.var 6 "a") (.bin .Mult false (.var 5 "gain") (.var 7 "b"))))] []]) (g := [(M0.length + 1, s.rows.map ilT), (M0.length + 2, s.basis.map nT)]) (xs := zipT (s.rows.map ilT) (s.basis.map nT))
    (σ := [some (.obj M0.length), some (ilT gs), some (ilT (scl (-s.scale) gs ++ [0])), none, none, none, none, none]) (M := M)
    (fun i σ M' => M' = M ∧ ∃ t z3 z4 z5, σ = [some (.obj M0.length), some (ilT gs), some (ilT t), z3, z4, z5, none, none] ∧ t.length = N ∧ ∀ j, j < N → gt t j = Lp.sI i (fun k => gt gs (s.b k) * s.x k j) - gt gs j * s.scale)
    ⟨rfl, _, _, _, _, rfl, by simp [scl_len]; omega, fun j hj => by
      rw [gt_append, scl_len]
      split
      · rw [gt_scl, Lp.sI, Int.neg_mul, Int.mul_comm]; omega
      · rw [gt_out gs j (by omega), show j - gs.length = 0 by omega, Lp.sI]; simp [gt]⟩
    (fun i σ M' h => by
      rw [h.1]
      intro p hp
      rcases List.mem_cons.mp hp with rfl | hp
      · exact A.r
      · rw [List.mem_singleton.mp hp]; exact A.b)
    (fun i x σ M' hx ⟨hM', t, z3, z4, z5, hz, ht, q⟩ => by
      subst hM'; subst hz
      obtain ⟨x1, x2, h1, h2, rfl⟩ := zipT_get hx
      obtain ⟨row, hrow, rfl⟩ := map_get h1
      obtain ⟨c, hcc, rfl⟩ := map_get h2
      have hi : i < m := by rw [← rl]; exact (List.getElem?_eq_some_iff.mp hrow).1
      have er := TS.row_of hrow
      have eb := TS.b_of hcc
      subst er; subst eb
      refine ⟨[some (.obj M0.length), some (ilT gs), some (ilT t), some (ilT (s.row i)), some (nT (s.b i)), z5, none, none], by simp, ?_⟩
      have e1 := ix_il gs (s.b i) M' (hb i hi)
      have hlen := S.len hi
      by_cases h0 : gt gs (s.b i) = 0
      · refine ⟨[some (.obj M0.length), some (ilT gs), some (ilT t), some (ilT (s.row i)), some (nT (s.b i)), some (.int 0), none, none], M', .inl (by simp [e1, h0]), rfl, _, _, _, _, rfl, ht, fun j hj => ?_⟩
        rw [q j hj, Lp.sI, h0]; omega
      · have l3 : lcr G (.tp (.cons (.nm 6 "a") (.cons (.nm 7 "b") .nil))) .nil (.bin .Add false (.var 6 "a") (.bin .Mult false (.var 5 "gain") (.var 7 "b"))) [some (.obj M0.length), some (ilT gs), some (ilT t), some (ilT (s.row i)), some (nT (s.b i)), some (.int (gt gs (s.b i))), none, none] [] (zipT (t.map T.int) ((s.row i).map T.int)) M' = some ((addm t (gt gs (s.b i)) (s.row i)).map T.int, M') := by
          refine lcr_ix (by simp) (by simp [addm, zipT_len]) fun k x y hx hy => ?_
          obtain ⟨y1, y2, h1, h2, rfl⟩ := zipT_get hx
          obtain ⟨a, ha, rfl⟩ := map_get h1
          obtain ⟨b, hb', rfl⟩ := map_get h2
          rw [addm, List.getElem?_map, List.getElem?_zipWith, ha, hb'] at hy
          simp only [Option.map_some, Option.some.injEq] at hy
          subst hy
          simp [stepL, bin_mul (mok (hgs.at (s.b i)) (S.sma hi b (List.mem_of_getElem? hb')))]
        have hl2 := addm_len t (gt gs (s.b i)) (s.row i)
        refine ⟨[some (.obj M0.length), some (ilT gs), some (ilT (addm t (gt gs (s.b i)) (s.row i))), some (ilT (s.row i)), some (nT (s.b i)), some (.int (gt gs (s.b i))), none, none], M', .inl ?_, rfl, _, _, _, _, rfl, by omega, fun j hj => ?_⟩
        · have hl3 : (addm t (gt gs (s.b i)) (s.row i)).length ≤ 16777216 := by omega
          simp [e1, h0, wipeE, l3, hl3]
        · rw [gt_addm _ (by omega) (by omega), q j hj, Lp.sI]
          show _ = _ + gt gs (s.b i) * gt (s.row i) j - _
          omega)
  subst hM'; subst hz
  rw [zipT_len, List.length_map, List.length_map, rl, S.bl, Nat.min_self] at q
  refine ⟨t, ?_, ht, q⟩
  have l4 := At.sTop (s := s) (M0 := M0) hc t
  rw [hM] at l4
  refine run_nx rfl (σ := [some (.obj M0.length), some (ilT gs), some (ilT t), z3, z4, z5, none, none]) (by rw [← hM]; simp [TS.mem]) ?_
  have s1 := sof_obj A.r
  have s2 := sof_obj A.b
  have l5 : T.fl [T.int 0] = ilT [0] := rfl
  have hz1 : (scl (-s.scale) gs).length ≤ 16777216 := by rw [scl_len]; omega
  simp [Lib.Table_set_gains, startE, wipeE, l1, l5, l2, hz1, f2, f3, s1, s2, hr, l4]
end Mi
end L2

/-! The table: what is kept, the climb, the settling. -/
namespace L2
namespace Mi
open PySem PySem.Spec PyProof.Rows
variable {G : Sig}
def TS.st (s : TS) : Lp.St := ⟨s.b, s.x, s.scale⟩
structure Sys (X0 : Nat → Nat → Int) (m N w : Nat) (g : Nat → Int) : Prop where
  m20 : m < 2 ^ 20
  N20 : N < 2 ^ 20
  wN : w + m < N
  uni : ∀ i, i < m → ∀ k, k < m → X0 i (w + k) = if i = k then 1 else 0
  siz : ∃ C Cg : Nat, (∀ i, i < m → ∀ j, j < N → (X0 i j).natAbs ≤ C) ∧ (∀ j, j < N → (g j).natAbs ≤ Cg) ∧ (m * C) ^ m < 2 ^ KB ∧ (m * (Cg * (m * C) ^ m)) + Cg * (m * C) ^ m < 2 ^ KB
structure Gd (X0 : Nat → Nat → Int) (m N : Nat) (g : Nat → Int) (s : TS) : Prop where
  S : Shp s m N
  I : Lp.Inv m N X0 s.st
  tl : s.top.length = N
  T : Lp.Top m N g s.st (gt s.top)
  ts : Sma s.top
variable {X0 : Nat → Nat → Int} {m N w : Nat} {g : Nat → Int} {s : TS}
theorem mem_gt {l : List Int} {x : Int} (h : x ∈ l) : ∃ j, j < l.length ∧ gt l j = x := by
  obtain ⟨j, hj, e⟩ := List.mem_iff_getElem.mp h
  exact ⟨j, hj, by rw [gt, List.getD_eq_getElem?_getD, List.getElem?_eq_getElem hj]; exact e⟩
/-- sizes come from the system -/
theorem gd_of (Y : Sys X0 m N w g) (rl : s.rows.length = m) (rw_ : ∀ r ∈ s.rows, r.length = N) (bl : s.basis.length = m) (wN : s.w < N) (I : Lp.Inv m N X0 s.st) (tl : s.top.length = N) (T : Lp.Top m N g s.st (gt s.top)) : Gd X0 m N g s := by
  obtain ⟨C, Cg, h1, h2, h3, h4⟩ := Y.siz
  obtain ⟨a1, a2⟩ := I.abs h1
  have hx : ∀ k, k < m → ∀ j, j < N → Sm KB (s.x k j) := fun k hk j hj => Nat.lt_of_le_of_lt (a2 k hk j hj) h3
  refine ⟨⟨rl, rw_, bl, fun r hr x hx' => ?_, Nat.lt_of_le_of_lt a1 h3, fun e => by have := I.dp; have e' : s.st.d = 0 := e; omega, wN, Y.m20, Y.N20⟩, I, tl, T, fun x hx' => ?_⟩
  · obtain ⟨k, hk, e⟩ := List.mem_iff_getElem.mp hr
    obtain ⟨j, hj, e2⟩ := mem_gt hx'
    have := hx k (by omega) j (by rw [← rw_ r hr]; exact hj)
    have e3 : s.row k = r := TS.row_of (by rw [List.getElem?_eq_getElem hk, e])
    rw [TS.x, e3, e2] at this
    exact this
  · obtain ⟨j, hj, e2⟩ := mem_gt hx'
    rw [tl] at hj
    have := T j hj
    rw [← e2, this]
    show Int.natAbs _ < _
    refine Nat.lt_of_le_of_lt (Int.natAbs_sub_le _ _) (Nat.lt_of_le_of_lt (Nat.add_le_add (Lp.sI_abs (C := Cg * (m * C) ^ m) fun k hk => ?_) ?_) h4)
    · rw [Int.natAbs_mul]
      exact Nat.mul_le_mul (h2 _ (I.bl k hk)) (a2 k hk j hj)
    · rw [Int.natAbs_mul]
      exact Nat.mul_le_mul (h2 j hj) a1
theorem gt_chg {sc : Int} {row step : List Int} {c j : Nat} (h0 : sc ≠ 0) (h1 : j < row.length) (h2 : j < step.length) : gt (chg sc row step c) j = (gt step c * gt row j - gt row c * gt step j).fdiv sc := by
  unfold chg
  by_cases hb : gt row c = 0
  · rw [if_pos hb, hb, Int.zero_mul, Int.sub_zero]
    by_cases ha : gt step c = sc
    · rw [if_pos ha, ha, Int.mul_fdiv_cancel_left _ h0]
    · rw [if_neg ha, divs, gt_map _ _ _ h1]
  · rw [if_neg hb, mixs]
    unfold gt
    rw [List.getD_eq_getElem?_getD, List.getElem?_zipWith, List.getD_eq_getElem?_getD, List.getD_eq_getElem?_getD, List.getD_eq_getElem?_getD, List.getD_eq_getElem?_getD, List.getElem?_eq_getElem h1, List.getElem?_eq_getElem h2]; rfl
theorem chg_len {sc : Int} {row step : List Int} {c : Nat} (h : row.length = step.length) : (chg sc row step c).length = row.length := by
  unfold chg
  split
  · split
    · rfl
    · exact divs_len ..
  · rw [mixs_len]; omega
theorem stp_len (S : Shp s m N) {r c : Nat} (hr : r < m) : (stp s r c).length = N := by
  unfold stp
  split
  · simp [ngs, S.len hr]
  · exact S.len hr
theorem gt_stp (s : TS) (r c j : Nat) : gt (stp s r c) j = (if s.x r c < 0 then -1 else 1) * s.x r j := by
  unfold stp
  split
  · rw [gt_ngs]; show -s.x r j = _; omega
  · show s.x r j = _; omega
theorem piv_row (S : Shp s m N) {r c k : Nat} (hk : k < m) : (s.piv r c).row k = if k = r then stp s r c else chg s.scale (s.row k) (stp s r c) c := by
  rw [TS.row, List.getD_eq_getElem?_getD]
  show ((midr s (stp s r c) r c s.rows.length)[k]?).getD [] = _
  rw [midr_get (by rw [S.rl]; exact hk)]
  by_cases e : k = r
  · rw [if_pos e, if_pos e]; rfl
  · rw [if_neg e, if_neg e, if_pos (by rw [S.rl]; exact hk)]; rfl
theorem piv_Piv (Q : Gd X0 m N g s) {r c : Nat} (hr : r < m) (hc : c < N) (h : s.x r c ≠ 0) : Lp.Piv m N s.st (s.piv r c).st r c (if s.x r c < 0 then -1 else 1) := by
  have S := Q.S
  refine ⟨hr, hc, by split <;> simp, by show 0 < _ * s.x r c; split <;> omega, fun k hk => ?_, gt_stp s r c c, fun j hj => ?_, fun k hk hne j hj => ?_⟩
  · show (s.basis.set r c).getD k 0 = if k = r then c else s.b k
    rw [List.getD_eq_getElem?_getD]
    by_cases e : k = r
    · subst e; rw [List.getElem?_set_self (by rw [S.bl]; exact hk), if_pos rfl]; rfl
    · rw [List.getElem?_set_ne (fun q => e q.symm), if_neg e, TS.b, List.getD_eq_getElem?_getD]
  · show gt ((s.piv r c).row r) j = _
    rw [piv_row S hr, if_pos rfl, gt_stp]; rfl
  · show gt ((s.piv r c).row k) j = _
    rw [piv_row S hk, if_neg hne, gt_chg S.s0 (by rw [S.len hk]; exact hj) (by rw [stp_len S hr]; exact hj), gt_stp, gt_stp]; rfl
theorem Gd.piv (Y : Sys X0 m N w g) (Q : Gd X0 m N g s) {r c : Nat} (hr : r < m) (hc : c < N) (h : s.x r c ≠ 0) : Gd X0 m N g (s.piv r c) := by
  have S := Q.S
  have P := piv_Piv Q hr hc h
  refine gd_of Y ?_ (fun row hrow => ?_) ?_ S.wN (Q.I.piv P) ?_ (Q.T.piv Q.I P fun j hj => ?_)
  · show (midr s (stp s r c) r c s.rows.length).length = m
    rw [midr_len, S.rl]
  · obtain ⟨k, hk, e⟩ := List.mem_iff_getElem.mp hrow
    have hk' : k < m := by
      have : k < (midr s (stp s r c) r c s.rows.length).length := hk
      rwa [midr_len, S.rl] at this
    have e3 : (s.piv r c).row k = row := TS.row_of (by rw [List.getElem?_eq_getElem hk, e])
    rw [← e3, piv_row S hk']
    split
    · exact stp_len S hr
    · rw [chg_len (by rw [S.len hk', stp_len S hr]), S.len hk']
  · show (s.basis.set r c).length = m
    rw [List.length_set, S.bl]
  · show (chg s.scale s.top (stp s r c) c).length = N
    rw [chg_len (by rw [Q.tl, stp_len S hr]), Q.tl]
  · show gt (chg s.scale s.top (stp s r c) c) j = _
    rw [gt_chg S.s0 (by rw [Q.tl]; exact hj) (by rw [stp_len S hr]; exact hj), gt_stp, gt_stp]; rfl
/-! ### the climb -/
theorem whl_rt {c : ME} {b : List MS} {σ : En} {M M1 M' : Mem} {t : T} (h : tst (evE G c σ M) = some (true, M1)) (h2 : exSs G b σ M1 = some (.rt t M')) : whl G c b σ M = some (.rt t M') := by rw [whl_eq, h]; simp only [h2]
/-- the end of a climb -/
def Ends (s : TS) (m : Nat) : Option Nat → Prop
  | none => ∀ j, j < s.w → 0 ≤ gt s.top j
  | some c => c < s.w ∧ gt s.top c < 0 ∧ ∀ k, k < m → s.x k c ≤ 0
def Same (s s' : TS) : Prop := s'.w = s.w ∧ s'.signs = s.signs
/-- one step of the climb -/
def Step (m N : Nat) (s s' : TS) : Prop := ∃ r c, RisesTo s (some c) ∧ LeavesTo s c (N - 1) m (some r) ∧ s' = s.piv r c
theorem Step.up (Y : Sys X0 m N w g) {s s' : TS} (Q : Gd X0 m N g s) (hw : s.w = w) {r c : Nat} (h1 : RisesTo s (some c)) (h2 : LeavesTo s c (N - 1) m (some r)) : Lp.Up m N w (N - 1) s.st (s.piv r c).st (gt s.top) (gt (s.piv r c).top) r c := by
  have S := Q.S
  obtain ⟨a1, a2, a3⟩ := h1
  obtain ⟨b1, b2, b3⟩ := h2
  have hc : c < N := by have := Y.wN; omega
  have P := piv_Piv Q b1 hc (by omega)
  rw [if_neg (by omega)] at P
  refine ⟨P, by omega, a2, a3, fun k hk hp => b3 k hk hp, fun j hj => ?_⟩
  show gt (chg s.scale s.top (stp s r c) c) j = _
  rw [gt_chg S.s0 (by rw [Q.tl]; exact hj) (by rw [stp_len S b1]; exact hj), gt_stp, gt_stp, if_neg (by omega)]; rfl
def IsClimb (F : Fn) : Prop := ∀ (X0 : Nat → Nat → Int) (m N w : Nat) (g : Nat → Int) (P : TS → Prop) (s : TS) (M0 : List O), Sys X0 m N w g → Gd X0 m N g s → s.w = w → Lp.Fea m (N - 1) s.st → P s →
  (∀ s s', Gd X0 m N g s → Lp.Fea m (N - 1) s.st → s.w = w → P s → Step m N s s' → P s') →
  ∃ o s', F [.obj M0.length] (M0 ++ s.mem M0.length) = some (optT o, M0 ++ s'.mem M0.length) ∧ Gd X0 m N g s' ∧ Lp.Fea m (N - 1) s'.st ∧ Same s s' ∧ P s' ∧ Ends s' m o
theorem sp_climb (hr : KnowsM G "Table" "_rising" IsRising) (hl : KnowsM G "Table" "leaving" IsLeaving) (hp : KnowsM G "Table" "pivot" IsPivot) : IsClimb (runD G Lib.Table_climb) := by
  intro X0 m N w g P s M0 Y Q hw F Ps hP
  obtain ⟨F1, l1, k1⟩ := hr
  obtain ⟨F2, l2, k2⟩ := hl
  obtain ⟨F3, l3, k3⟩ := hp
  have wN := Y.wN
  have N20 := Y.N20
  let body : List MS := [
    .set 1 "column" (.mcall "Table" (.var 0 "self") "_rising" .nil),
    .ite (.cmp .Is (.var 1 "column") .non) [
      .ret .non] [],
    .set 2 "at" (.mcall "Table" (.var 0 "self") "leaving" (.cons (.var 1 "column") .nil)),
    .ite (.cmp .Is (.var 2 "at") .non) [
      .ret (.var 1 "column")] [],
    .ex (.mcall "Table" (.var 0 "self") "pivot" (.cons (.var 2 "at") (.cons (.var 1 "column") .nil)))]
  let Good : TS → Prop := fun s1 => Gd X0 m N g s1 ∧ s1.w = w ∧ Lp.Fea m (N - 1) s1.st ∧ P s1 ∧ Same s s1
  let Fin : TS → Prop := fun s1 => ∀ z1 z2, ∃ o s', whl G (.bl true) body [some (.obj M0.length), z1, z2] (M0 ++ s1.mem M0.length) = some (.rt (optT o) (M0 ++ s'.mem M0.length)) ∧ Good s' ∧ Ends s' m o
  have turn : ∀ s1, Good s1 → Fin s1 ∨ ∃ r c, RisesTo s1 (some c) ∧ LeavesTo s1 c (N - 1) m (some r) ∧ (Fin (s1.piv r c) → Fin s1) := by
    intro s1 ⟨q1, q2, q3, q4, q5⟩
    have A := At.of0 s1 M0
    obtain ⟨o, e1, h1⟩ := k1 s1 M0.length _ A (by rw [q1.tl]; omega) (by omega)
    have i1 := insOk_tab (s := s1) (M0 := M0) (m := "_rising") (by decide)
    have i2 := insOk_tab (s := s1) (M0 := M0) (m := "leaving") (by decide)
    have i3 := insOk_tab (s := s1) (M0 := M0) (m := "pivot") (by decide)
    cases o with
    | none =>
      refine .inl fun z1 z2 => ⟨none, s1, whl_rt (M1 := M0 ++ s1.mem M0.length) (by simp) ?_, ⟨q1, q2, q3, q4, q5⟩, h1⟩
      have e1' : F1 [T.obj M0.length] (M0 ++ s1.mem M0.length) = some (.non, M0 ++ s1.mem M0.length) := e1
      simp [body, i1, l1, e1', optT]
    | some c =>
      have hc : c < N := by have := h1.1; omega
      obtain ⟨o2, e2, h2⟩ := k2 s1 M0.length m N _ c A q1.S hc
      have e1' : F1 [T.obj M0.length] (M0 ++ s1.mem M0.length) = some (nT c, M0 ++ s1.mem M0.length) := e1
      cases o2 with
      | none =>
        refine .inl fun z1 z2 => ⟨some c, s1, whl_rt (M1 := M0 ++ s1.mem M0.length) (by simp) ?_, ⟨q1, q2, q3, q4, q5⟩, h1.1, h1.2.1, fun k hk => by have := h2 k hk; omega⟩
        have e2' : F2 [T.obj M0.length, nT c] (M0 ++ s1.mem M0.length) = some (.non, M0 ++ s1.mem M0.length) := e2
        simp [body, i1, l1, e1', i2, l2, e2', optT]
      | some r =>
        refine .inr ⟨r, c, h1, h2, fun hf z1 z2 => ?_⟩
        have e2' : F2 [T.obj M0.length, nT c] (M0 ++ s1.mem M0.length) = some (nT r, M0 ++ s1.mem M0.length) := e2
        have e3 := k3 s1 M0 m N r c q1.S q1.tl q1.ts h2.1 hc
        obtain ⟨o', s', e4, h4⟩ := hf (some (nT c)) (some (nT r))
        refine ⟨o', s', ?_, h4⟩
        rw [whl_t (M1 := M0 ++ s1.mem M0.length) (σ' := [some (.obj M0.length), some (nT c), some (nT r)]) (M' := M0 ++ (s1.piv r c).mem M0.length) (by simp) (by simp [body, i1, l1, e1', i2, l2, e2', i3, l3, e3]), e4]
  have good_step : ∀ s1 r c, Good s1 → RisesTo s1 (some c) → LeavesTo s1 c (N - 1) m (some r) → Good (s1.piv r c) := by
    intro s1 r c ⟨q1, q2, q3, q4, q5⟩ h1 h2
    have hc : c < N := by have := h1.1; omega
    have U := Step.up (s' := s1) Y q1 q2 h1 h2
    exact ⟨q1.piv Y h2.1 hc (by have := h2.2.1; omega), q2, U.fea q1.I (by omega) q3, hP s1 _ q1 q3 q2 q4 ⟨r, c, h1, h2, rfl⟩, q5.1, q5.2⟩
  have fin : Fin s := by
    refine Classical.byContradiction fun hn => ?_
    let Bad : TS → Prop := fun s1 => Good s1 ∧ ¬Fin s1
    have nx : ∀ b : {s1 // Bad s1}, ∃ b' : {s1 // Bad s1}, ∃ rc : Nat × Nat, RisesTo b.1 (some rc.2) ∧ LeavesTo b.1 rc.2 (N - 1) m (some rc.1) ∧ b'.1 = b.1.piv rc.1 rc.2 := by
      intro ⟨s1, hg, hb⟩
      rcases turn s1 hg with h | ⟨r, c, h1, h2, h3⟩
      · exact absurd h hb
      · exact ⟨⟨s1.piv r c, good_step s1 r c hg h1 h2, fun h => hb (h3 h)⟩, (r, c), h1, h2, rfl⟩
    let b0 : {s1 // Bad s1} := ⟨s, ⟨Q, hw, F, Ps, rfl, rfl⟩, hn⟩
    let f : Nat → {s1 // Bad s1} := fun n => Nat.rec b0 (fun _ b => Classical.choose (nx b)) n
    have hf : ∀ n, ∃ rc : Nat × Nat, RisesTo (f n).1 (some rc.2) ∧ LeavesTo (f n).1 rc.2 (N - 1) m (some rc.1) ∧ (f (n + 1)).1 = (f n).1.piv rc.1 rc.2 := fun n => Classical.choose_spec (nx (f n))
    let rc : Nat → Nat × Nat := fun n => Classical.choose (hf n)
    have hrc : ∀ n, RisesTo (f n).1 (some (rc n).2) ∧ LeavesTo (f n).1 (rc n).2 (N - 1) m (some (rc n).1) ∧ (f (n + 1)).1 = (f n).1.piv (rc n).1 (rc n).2 := fun n => Classical.choose_spec (hf n)
    refine Lp.no_climb (S := fun n => (f n).1.st) (T := fun n => gt (f n).1.top) (r := fun n => (rc n).1) (c := fun n => (rc n).2) (m := m) (N := N) (w := w) (L := N - 1) (X0 := X0) (g := g) (by omega) (by omega) Y.uni Q.I Q.T F fun n => ?_
    obtain ⟨h1, h2, h3⟩ := hrc n
    have := Step.up (s' := s) Y (f n).2.1.1 (f n).2.1.2.1 h1 h2
    show Lp.Up m N w (N - 1) (f n).1.st (f (n + 1)).1.st (gt (f n).1.top) (gt (f (n + 1)).1.top) _ _
    rw [h3]
    exact this
  obtain ⟨o, s', e, ⟨q1, q2, q3, q4, q5⟩, h⟩ := fin none none
  refine ⟨o, s', run_same rfl (optT_pure _) (by simp [TS.mem]) ?_, q1, q3, q5, q4, h⟩
  have e' : exS G (.whl (.bl true) body) [some (T.obj M0.length), none, none] (M0 ++ s.mem M0.length) = some (.rt (optT o) (M0 ++ s'.mem M0.length)) := by rw [exS_whl, e]
  show exSs G [.whl (.bl true) body] [some (T.obj M0.length), none, none] (M0 ++ s.mem M0.length) = _
  rw [xs_cons, e']; rfl
end Mi
end L2

/-! The table: the settling, the start. -/
namespace L2
namespace Mi
open PySem PySem.Spec PyProof.Rows
variable {G : Sig}
variable {X0 : Nat → Nat → Int} {m N w : Nat} {g : Nat → Int} {s : TS}
/-! ### settle -/
def Zer (s : TS) (m w L : Nat) : Prop := ∀ k, k < m → s.b k < w + m ∧ (w ≤ s.b k → s.x k L = 0)
def IsSettle (F : Fn) : Prop := ∀ (X0 : Nat → Nat → Int) (m N w : Nat) (g : Nat → Int) (s : TS) (M0 : List O), Sys X0 m N w g → Gd X0 m N g s → s.w = w → Lp.Fea m (N - 1) s.st → Zer s m w (N - 1) →
  ∃ s', F [.obj M0.length] (M0 ++ s.mem M0.length) = some (.non, M0 ++ s'.mem M0.length) ∧ Gd X0 m N g s' ∧ Lp.Fea m (N - 1) s'.st ∧ Same s s' ∧ Zer s' m w (N - 1) ∧ ∀ k, k < m → w ≤ s'.b k → ∀ j, j < w → s'.x k j = 0
theorem piv_x (Q : Gd X0 m N g s) {r c k j : Nat} (hr : r < m) (hc : c < N) (h : s.x r c ≠ 0) (hk : k < m) (hne : k ≠ r) (hj : j < N) : s.scale * (s.piv r c).x k j = (if s.x r c < 0 then -1 else 1) * s.x r c * s.x k j - s.x k c * ((if s.x r c < 0 then -1 else 1) * s.x r j) :=
  Q.I.exact (piv_Piv Q hr hc h) hk hne hj
theorem piv_xr (Q : Gd X0 m N g s) {r c j : Nat} (hr : r < m) (hc : c < N) (h : s.x r c ≠ 0) (hj : j < N) : (s.piv r c).x r j = (if s.x r c < 0 then -1 else 1) * s.x r j := (piv_Piv Q hr hc h).xr j hj
theorem piv_b (Q : Gd X0 m N g s) {r c k : Nat} (hr : r < m) (hc : c < N) (h : s.x r c ≠ 0) (hk : k < m) : (s.piv r c).b k = if k = r then c else s.b k := (piv_Piv Q hr hc h).b k hk
theorem Gd.d0 (Q : Gd X0 m N g s) : s.scale ≠ 0 := Q.S.s0
/-- a row with noughts at both keeps its nought -/
theorem piv_zero (Q : Gd X0 m N g s) {r c k j : Nat} (hr : r < m) (hc : c < N) (h : s.x r c ≠ 0) (hk : k < m) (hne : k ≠ r) (hj : j < N) (h1 : s.x k c = 0 ∨ s.x r j = 0) (h2 : s.x k j = 0) : (s.piv r c).x k j = 0 := by
  have e := piv_x Q hr hc h hk hne hj
  have d0 := Q.d0
  rw [h2, Int.mul_zero] at e
  have : s.x k c * ((if s.x r c < 0 then -1 else 1) * s.x r j) = 0 := by rcases h1 with q | q <;> rw [q] <;> simp
  rw [this] at e
  rcases Int.mul_eq_zero.mp (e.trans (by omega : (0 : Int) - 0 = 0)) with q | q
  · exact absurd q d0
  · exact q
theorem settle_step (Y : Sys X0 m N w g) (Q : Gd X0 m N g s) (F : Lp.Fea m (N - 1) s.st) (Z : Zer s m w (N - 1)) {r c : Nat} (hr : r < m) (hcw : c < w) (h : s.x r c ≠ 0) (hrz : s.x r (N - 1) = 0) :
    Gd X0 m N g (s.piv r c) ∧ Lp.Fea m (N - 1) (s.piv r c).st ∧ Zer (s.piv r c) m w (N - 1) := by
  have wN := Y.wN
  have hc : c < N := by omega
  have hL : N - 1 < N := by omega
  refine ⟨Q.piv Y hr hc h, fun k hk => ?_, fun k hk => ?_⟩
  · show 0 ≤ (s.piv r c).x k (N - 1)
    by_cases e : k = r
    · subst e; rw [piv_xr Q hr hc h hL, hrz]; split <;> omega
    · have e1 := piv_x Q hr hc h hk e hL
      rw [hrz, Int.mul_zero, Int.mul_zero, Int.sub_zero] at e1
      have hd := Q.I.dp
      have hF := F k hk
      refine Lp.pos_of_mul (a := s.scale) hd ?_
      rw [e1]
      refine Int.mul_nonneg ?_ hF
      split <;> omega
  · rw [piv_b Q hr hc h hk]
    by_cases e : k = r
    · rw [if_pos e]; exact ⟨by omega, fun hb => by omega⟩
    · rw [if_neg e]
      exact ⟨(Z k hk).1, fun hb => piv_zero Q hr hc h hk e hL (.inr hrz) ((Z k hk).2 hb)⟩
theorem sp_settle (hc : HasTab G) (hp : KnowsM G "Table" "pivot" IsPivot) : IsSettle (runD G Lib.Table_settle) := by
  intro X0 m N w g s M0 Y Q hw F Z
  obtain ⟨F3, l3, k3⟩ := hp
  have wN := Y.wN
  have N20 := Y.N20
  have m20 := Y.m20
  obtain ⟨σ', M', hr, s', hM, z1, z2, hz, q1, q2, q3, q4, q5⟩ := fr_inv (G := G) (tg := .nm 1 "at") (b := [
    .ite (.cmp .GtE (.ix (.att "Table" (.var 0 "self") "basis") (.var 1 "at")) (.att "Table" (.var 0 "self") "width")) [
      .for (.nm 2 "column") (.rng1 (.att "Table" (.var 0 "self") "width")) [
        .ite (.ix (.ix (.att "Table" (.var 0 "self") "rows") (.var 1 "at")) (.var 2 "column")) [
          .ex (.mcall "Table" (.var 0 "self") "pivot" (.cons (.var 1 "at") (.cons (.var 2 "column") .nil))),
          .brk] []]] []]) (g := []) (xs := rngL 0 (m : Int)) (σ := [some (.obj M0.length), none, none]) (M := M0 ++ s.mem M0.length)
    (fun i σ M' => ∃ s1, M' = M0 ++ s1.mem M0.length ∧ ∃ z1 z2, σ = [some (.obj M0.length), z1, z2] ∧ Gd X0 m N g s1 ∧ Lp.Fea m (N - 1) s1.st ∧ Same s s1 ∧ Zer s1 m w (N - 1) ∧ ∀ k, k < i → k < m → w ≤ s1.b k → ∀ j, j < w → s1.x k j = 0)
    ⟨s, rfl, _, _, rfl, Q, F, ⟨rfl, rfl⟩, Z, fun k h => by omega⟩ (fun _ _ _ _ => by simp) (fun i x σ M' hx ⟨s1, hM, z1, z2, hz, q1, q2, q3, q4, q5⟩ => by
      subst hM; subst hz
      obtain ⟨hi, rfl⟩ := rng_get hx
      refine ⟨_, asg_nm .., ?_⟩
      have A := At.of0 s1 M0
      have e1 := A.basis hc
      have e2 := A.bas q1.S hi
      have e3 := A.width hc
      have e4 := A.rows hc
      have e5 := A.row q1.S hi
      have w1 : s1.w = w := by rw [q3.1]; exact hw
      rw [w1] at e3
      by_cases hb : w ≤ s1.b i
      · obtain ⟨r, hr, q⟩ := fr_inv2 (G := G) (tg := .nm 2 "column") (b := [
          .ite (.ix (.ix (.att "Table" (.var 0 "self") "rows") (.var 1 "at")) (.var 2 "column")) [
            .ex (.mcall "Table" (.var 0 "self") "pivot" (.cons (.var 1 "at") (.cons (.var 2 "column") .nil))),
            .brk] []]) (g := []) (xs := rngL 0 (w : Int)) (σ := [some (.obj M0.length), some (nT i), z2]) (M := M0 ++ s1.mem M0.length)
          (fun j σ M' => M' = M0 ++ s1.mem M0.length ∧ (∃ z, σ = [some (.obj M0.length), some (nT i), z]) ∧ ∀ j', j' < j → s1.x i j' = 0)
          (fun r => (∃ c, r = .nx [some (.obj M0.length), some (nT i), some (nT c)] (M0 ++ (s1.piv i c).mem M0.length) ∧ c < w ∧ s1.x i c ≠ 0) ∨ (∃ z, r = .nx [some (.obj M0.length), some (nT i), z] (M0 ++ s1.mem M0.length) ∧ ∀ j, j < w → s1.x i j = 0))
          ⟨rfl, ⟨_, rfl⟩, fun j h => by omega⟩ (fun _ _ _ _ => by simp) (fun c x σ M' hx ⟨hM, ⟨z, hz⟩, hj⟩ => by
            subst hM; subst hz
            obtain ⟨hcw, rfl⟩ := rng_get hx
            refine ⟨_, asg_nm .., ?_⟩
            have e6 := q1.S.ent (M := M0 ++ s1.mem M0.length) hi (show c < N by omega)
            by_cases h0 : s1.x i c = 0
            · refine .inl ⟨[some (.obj M0.length), some (nT i), some (nT c)], _, .inl (by simp [e4, e5, e6, h0]), rfl, ⟨_, rfl⟩, fun j' hj' => ?_⟩
              by_cases e : j' = c
              · subst e; exact h0
              · exact hj j' (by omega)
            · have e7 := k3 s1 M0 m N i c q1.S q1.tl q1.ts hi (by omega)
              have i3 := insOk_tab (s := s1) (M0 := M0) (m := "pivot") (by decide)
              exact .inr (.inr ⟨[some (.obj M0.length), some (nT i), some (nT c)], M0 ++ (s1.piv i c).mem M0.length, by simp [e4, e5, e6, h0, i3, l3, e7], .inl ⟨c, rfl, hcw, h0⟩⟩)) (fun σ M' ⟨hM, ⟨z, hz⟩, hj⟩ => by
            subst hM; subst hz
            exact .inr ⟨z, rfl, fun j h => hj j (by rw [rngL_len]; omega)⟩)
        have rw1 := rg1_n (n := w) (by omega)
        rcases q with ⟨c, rfl, hcw, h0⟩ | ⟨z, rfl, h0⟩
        · obtain ⟨p1, p2, p3⟩ := settle_step Y q1 q2 q4 hi hcw h0 ((q4 i hi).2 hb)
          refine ⟨[some (.obj M0.length), some (nT i), some (nT c)], M0 ++ (s1.piv i c).mem M0.length, .inl (by simp [e1, e2, e3, hb, rw1, hr]), s1.piv i c, rfl, _, _, rfl, p1, p2, q3, p3, fun k hk hkm hbk j hj => ?_⟩
          rw [piv_b q1 hi (by omega) h0 hkm] at hbk
          by_cases e : k = i
          · rw [if_pos e] at hbk; omega
          · rw [if_neg e] at hbk
            exact piv_zero q1 hi (by omega) h0 hkm e (by omega) (.inl (q5 k (by omega) hkm hbk c hcw)) (q5 k (by omega) hkm hbk j hj)
        · refine ⟨[some (.obj M0.length), some (nT i), z], M0 ++ s1.mem M0.length, .inl (by simp [e1, e2, e3, hb, rw1, hr]), s1, rfl, _, _, rfl, q1, q2, q3, q4, fun k hk hkm hbk j hj => ?_⟩
          by_cases e : k = i
          · subst e; exact h0 j hj
          · exact q5 k (by omega) hkm hbk j hj
      · refine ⟨[some (.obj M0.length), some (nT i), z2], M0 ++ s1.mem M0.length, .inl (by simp [e1, e2, e3, hb]), s1, rfl, _, _, rfl, q1, q2, q3, q4, fun k hk hkm hbk j hj => ?_⟩
        by_cases e : k = i
        · subst e; exact absurd hbk hb
        · exact q5 k (by omega) hkm hbk j hj)
  subst hM; subst hz
  rw [rngL_len] at q5
  refine ⟨s', ?_, q1, q2, q3, q4, fun k hk => q5 k (by omega) hk⟩
  have A := At.of0 s M0
  have f1 := A.rows hc
  have f2 : biT .len [.obj (M0.length + 1)] (M0 ++ s.mem M0.length) = some (nT m, M0 ++ s.mem M0.length) := by
    rw [len_sof (sof_obj A.r), List.length_map, Q.S.rl]
  have rw2 := rg1_n (n := m) (by omega)
  refine run_nx rfl (σ := [some (.obj M0.length), z1, z2]) (by simp [TS.mem]) ?_
  simp [Lib.Table_settle, startE, f1, f2, rw2, hr]
end Mi
end L2

/-! The table: how it begins. -/
namespace L2
namespace Mi
open PySem PySem.Spec PyProof.Rows
variable {G : Sig}
def sgs (sides : List Int) : List Int := sides.map fun x => if x < 0 then -1 else 1
def unl (m k : Nat) : List Int := (List.range m).map fun i => if k = i then 1 else 0
def irow (rows : List (List Int)) (sides : List Int) (k : Nat) : List Int := scl (gt (sgs sides) k) (rows.getD k []) ++ unl rows.length k ++ [((gt sides k).natAbs : Int)]
def ini (rows : List (List Int)) (sides : List Int) (w : Nat) : TS := ⟨w, sgs sides, (List.range rows.length).map (irow rows sides), (List.range rows.length).map fun k => w + k, 1, []⟩
theorem att_app {f : Str} {as : List Str} {M0 L : List O} {fs : List (Str × T)} {c : Str} (h : HasC G c as) (hf : f ∈ as) : attT G c f (.obj M0.length) (M0 ++ (.ins c fs :: L)) = fs.lookup f := att_of h hf (by rw [List.getElem?_append_right (by omega), Nat.sub_self]; rfl)
theorem satt_app {f : Str} {as : List Str} {M0 L : List O} {fs : List (Str × T)} {c : Str} {v : T} (h : HasC G c as) (hf : f ∈ as) (hl : fs.length < 1000) : sattT G c f (.obj M0.length) v (M0 ++ (.ins c fs :: L)) = some (M0 ++ (.ins c (putA f v fs) :: L)) := by
  rw [satt_of h hf (by rw [List.getElem?_append_right (by omega), Nat.sub_self]; rfl) hl]
  have := set_app M0 (.ins c fs :: L) 0 (.ins c (putA f v fs))
  rw [Nat.add_zero] at this
  rw [this]; rfl
def IsInit (F : Fn) : Prop := ∀ (rowsT sidesT : T) (rows : List (List Int)) (sides : List Int) (w : Nat) (M0 : List O), sof M0 rowsT = some (rows.map tlT) → sof M0 sidesT = some (sides.map T.int) → rows ≠ [] → sides.length = rows.length → (∀ r ∈ rows, r.length = w) → rows.length + w < 2 ^ 19 → (∀ r ∈ rows, Sma r) →
  F [.obj M0.length, rowsT, sidesT] (M0 ++ [.ins "Table" []]) = some (.non, M0 ++ (ini rows sides w).mem M0.length)
theorem sm_one : Sm KB 1 := Sm.mono (j := 1) (by unfold Sm; decide) (by decide)
theorem sma_sgs (l : List Int) : Sma (sgs l) := fun x hx => by
  obtain ⟨y, _, rfl⟩ := List.mem_map.mp hx
  split
  · exact Sm.neg sm_one
  · exact sm_one
theorem run_nx2 {d : MD} {ts : List T} {M : Mem} {σ : En} {M1 : Mem} (h : ts.length = d.ps.length) (hl : M1.take M.length ≠ M) (e : exSs G d.body (startE d.N ts) M = some (.nx σ M1)) : runD G d ts M = some (.non, M1) := by
  rw [runD_def d ts M h, e]
  show some (fin d.sl M .non M1) = _
  unfold fin
  rw [if_neg fun q => hl q.2]
theorem sp_init (hc : HasTab G) : IsInit (runD G Lib.Table___init__) := by
  intro rowsT sidesT rows sides w M0 hr hs hne hsl hw hsz hsm
  have hm0 : 0 < rows.length := List.length_pos_iff.mpr hne
  generalize hm : rows.length = m at *
  let fs1 : List (Str × T) := [("width", nT w)]
  let fs2 : List (Str × T) := [("width", nT w), ("signs", ilT (sgs sides))]
  let fs3 : List (Str × T) := [("width", nT w), ("signs", ilT (sgs sides)), ("rows", .obj (M0.length + 1))]
  have row0 : rows[0]? = some rows[0] := List.getElem?_eq_getElem (by omega)
  have a1 : ixT rowsT (.int 0) (M0 ++ [.ins "Table" []]) = some (tlT rows[0]) := by
    rw [ix_sof (sof_app hr _), show (0 : Int) = ((0 : Nat) : Int) from rfl, atI_n, List.getElem?_map, row0]; rfl
  have a2 : biT .len [tlT rows[0]] (M0 ++ [.ins "Table" []]) = some (nT w, M0 ++ [.ins "Table" []]) := by
    rw [len_sof (sof_tl _ _), List.length_map, hw _ (List.getElem_mem ..)]
  have a3 : sattT G "Table" "width" (.obj M0.length) (nT w) (M0 ++ [.ins "Table" []]) = some (M0 ++ [.ins "Table" fs1]) := satt_app hc (by decide) (by simp)
  have s1 : ∀ L, sof (M0 ++ L) sidesT = some (sides.map T.int) := fun L => sof_app hs L
  have r1 : ∀ L, sof (M0 ++ L) rowsT = some (rows.map tlT) := fun L => sof_app hr L
  have ls : lcr G (.nm 6 "side") .nil (.ife (.cmp .Lt (.var 6 "side") (.int 0)) (.neg (.int 1)) (.int 1)) [some (.obj M0.length), some rowsT, some sidesT, none, none, none, none, none, none] (grdOf sidesT (sides.map T.int)) (sides.map T.int) (M0 ++ [.ins "Table" fs1]) = some ((sgs sides).map T.int, M0 ++ [.ins "Table" fs1]) := by
    rw [lcr_of T.int (fun x => .int (if x < 0 then -1 else 1)) (sof_grd (s1 _)) (fun x hx => ?_), sgs, List.map_map]
    · rfl
    · by_cases h : x < 0 <;> simp [stepL, h]
  have a4 : sattT G "Table" "signs" (.obj M0.length) (ilT (sgs sides)) (M0 ++ [.ins "Table" fs1]) = some (M0 ++ [.ins "Table" fs2]) := satt_app hc (by decide) (by simp [fs1])
  have a5 : sattT G "Table" "rows" (.obj M0.length) (.obj (M0.length + 1)) (M0 ++ [.ins "Table" fs2, .lst []]) = some (M0 ++ [.ins "Table" fs3, .lst []]) := satt_app hc (by decide) (by simp [fs2])
  have lsg : (sgs sides).length = m := by simp [sgs, hsl]
  -- the rows
  obtain ⟨σ', M', hfr, hM, z3, z4, z5, hz⟩ := fr_inv (G := G) (tg := .tp (.cons (.nm 3 "at") (.cons (.nm 4 "row") .nil))) (b := [
    .set 5 "further" (.lc false [("other", 7)] (.nm 7 "other") (.rng1 (.bi .len (.cons (.var 1 "rows") .nil))) .nil (.bi .int (.cons (.cmp .Eq (.var 3 "at") (.var 7 "other")) .nil))),
    .ex (.bm .append (.att "Table" (.var 0 "self") "rows") (.cons (.bin .Add false (.bin .Add false (.lc false [("entry", 8)] (.nm 8 "entry") (.over (.var 4 "row")) .nil (.bin .Mult false (.ix (.att "Table" (.var 0 "self") "signs") (.var 3 "at")) (.var 8 "entry"))) (.var 5 "further")) (.lst false (.cons (.bi .abs (.cons (.ix (.var 2 "sides") (.var 3 "at")) .nil)) .nil))) .nil))]) (g := grdOf rowsT (rows.map tlT)) (xs := enumL 0 (rows.map tlT))
    (σ := [some (.obj M0.length), some rowsT, some sidesT, none, none, none, none, none, none]) (M := M0 ++ [.ins "Table" fs3, .lst []])
    (fun i σ M' => M' = M0 ++ [.ins "Table" fs3, .lst (((List.range i).map (irow rows sides)).map ilT)] ∧ ∃ z3 z4 z5, σ = [some (.obj M0.length), some rowsT, some sidesT, z3, z4, z5, none, none, none])
    ⟨rfl, _, _, _, rfl⟩ (fun i σ M' h => by rw [h.1]; exact sof_grd (r1 _)) (fun i x σ M' hx ⟨hM, z3, z4, z5, hz⟩ => by
      subst hz
      obtain ⟨t, ht, rfl⟩ := enum_get hx
      obtain ⟨row, hrow, rfl⟩ := map_get ht
      have hi : i < m := by rw [← hm]; exact (List.getElem?_eq_some_iff.mp hrow).1
      have hrm : row ∈ rows := List.mem_of_getElem? hrow
      have hrl := hw row hrm
      have erow : rows.getD i [] = row := by rw [List.getD_eq_getElem?_getD, hrow]; rfl
      refine ⟨[some (.obj M0.length), some rowsT, some sidesT, some (nT i), some (tlT row), z5, none, none, none], by simp, [some (.obj M0.length), some rowsT, some sidesT, some (nT i), some (tlT row), some (ilT (unl m i)), none, none, none], _, .inl ?_, rfl, _, _, _, rfl⟩
      have hq : ∃ L, M' = M0 ++ L := ⟨_, hM⟩
      obtain ⟨L, hL⟩ := hq
      have b1 : biT .len [rowsT] M' = some (nT m, M') := by rw [hL, len_sof (r1 _), List.length_map, hm]
      have b2 := rg1_n (n := m) (by omega)
      have l1 : lcr G (.nm 7 "other") .nil (.bi .int (.cons (.cmp .Eq (.var 3 "at") (.var 7 "other")) .nil)) [some (.obj M0.length), some rowsT, some sidesT, some (nT i), some (tlT row), z5, none, none, none] [] (rngL 0 (m : Int)) M' = some ((unl m i).map T.int, M') := by
        refine lcr_ix (by simp) (by simp [unl, rngL_len]) fun k x y hx hy => ?_
        obtain ⟨hk, rfl⟩ := rng_get hx
        obtain ⟨v, hv, rfl⟩ := map_get hy
        rw [unl, List.getElem?_map, List.getElem?_range hk] at hv
        simp only [Option.map_some, Option.some.injEq] at hv
        subst hv
        simp [stepL]
      have lu : (unl m i).length = m := by simp [unl]
      have c1 : attT G "Table" "signs" (.obj M0.length) M' = some (ilT (sgs sides)) := by rw [hM, att_app hc (by decide)]; rfl
      have c2 : attT G "Table" "rows" (.obj M0.length) M' = some (.obj (M0.length + 1)) := by rw [hM, att_app hc (by decide)]; rfl
      have c3 := ix_il (sgs sides) i M' (by omega)
      have l2 : lcr G (.nm 8 "entry") .nil (.bin .Mult false (.ix (.att "Table" (.var 0 "self") "signs") (.var 3 "at")) (.var 8 "entry")) [some (.obj M0.length), some rowsT, some sidesT, some (nT i), some (tlT row), some (ilT (unl m i)), none, none, none] [] (row.map T.int) M' = some ((scl (gt (sgs sides) i) row).map T.int, M') := by
        rw [lcr_of T.int (fun x => .int (gt (sgs sides) i * x)) (by simp) (fun x hx => ?_), scl, List.map_map]
        · rfl
        · simp [stepL, c1, c3, bin_mul (mok ((sma_sgs sides).at i) (hsm row hrm x hx))]
      have ls2 := scl_len (gt (sgs sides) i) row
      have b3 := bin_il (scl (gt (sgs sides) i) row) (unl m i) M' (by omega)
      have b4 := bin_il (scl (gt (sgs sides) i) row ++ unl m i) [((gt sides i).natAbs : Int)] M' (by simp; omega)
      have b5 : ixT sidesT (nT i) M' = some (.int (gt sides i)) := by
        unfold nT
        rw [hL, ix_sof (s1 _), at_il _ _ (by omega)]
      have b6 : T.fl [nT (gt sides i).natAbs] = ilT [((gt sides i).natAbs : Int)] := rfl
      have b7 : M'[M0.length + 1]? = some (.lst (((List.range i).map (irow rows sides)).map ilT)) := by rw [hM, List.getElem?_append_right (by omega), Nat.add_sub_cancel_left]; rfl
      have b8 := bm_append (x := ilT (irow rows sides i)) b7 (by simp; omega)
      have b9 : irow rows sides i = scl (gt (sgs sides) i) row ++ unl m i ++ [((gt sides i).natAbs : Int)] := by rw [irow, erow, hm]
      rw [← b9] at b4
      have b10 : M'.set (M0.length + 1) (.lst (((List.range i).map (irow rows sides)).map ilT ++ [ilT (irow rows sides i)])) = M0 ++ [.ins "Table" fs3, .lst (((List.range (i + 1)).map (irow rows sides)).map ilT)] := by
        rw [hM, set_app, List.range_succ, List.map_append, List.map_append]; rfl
      have hl16 : row.length ≤ 16777216 := by omega
      have hm16 : m ≤ 16777216 := by omega
      have b11 := lof_obj' b7
      rw [b10] at b8
      simp [wipeE, b1, b2, l1, lu, hm16, c1, c2, l2, ls2, hl16, b3, b5, b6, b4, b11, b8])
  subst hz
  rw [enumL_len, List.length_map, hm] at hM
  have b1 : biT .len [rowsT] M' = some (nT m, M') := by rw [hM, len_sof (r1 _), List.length_map, hm]
  have b2 := rg1_n (n := m) (by omega)
  have c1 : attT G "Table" "width" (.obj M0.length) M' = some (nT w) := by rw [hM, att_app hc (by decide)]; rfl
  have l1 : lcr G (.nm 3 "at") .nil (.bin .Add false (.att "Table" (.var 0 "self") "width") (.var 3 "at")) [some (.obj M0.length), some rowsT, some sidesT, none, z4, z5, none, none, none] [] (rngL 0 (m : Int)) M' = some (((List.range m).map fun k => w + k).map nT, M') := by
    refine lcr_ix (by simp) (by simp [rngL_len]) fun k x y hx hy => ?_
    obtain ⟨hk, rfl⟩ := rng_get hx
    obtain ⟨v, hv, rfl⟩ := map_get hy
    rw [List.getElem?_map, List.getElem?_range hk] at hv
    simp only [Option.map_some, Option.some.injEq] at hv
    subst hv
    simp [stepL, c1]
  generalize hbs : ((List.range m).map fun k => w + k) = bs at l1
  have lb : bs.length ≤ 16777216 := by rw [← hbs]; simp; omega
  have lM : M'.length = M0.length + 2 := by rw [hM]; simp
  let fs4 : List (Str × T) := [("width", nT w), ("signs", ilT (sgs sides)), ("rows", .obj (M0.length + 1)), ("basis", .obj (M0.length + 2))]
  let fs5 : List (Str × T) := [("width", nT w), ("signs", ilT (sgs sides)), ("rows", .obj (M0.length + 1)), ("basis", .obj (M0.length + 2)), ("scale", .int 1)]
  have d1 : sattT G "Table" "basis" (.obj M0.length) (.obj (M0.length + 2)) (M' ++ [.lst (bs.map nT)]) = some (M0 ++ [.ins "Table" fs4, .lst (((List.range m).map (irow rows sides)).map ilT), .lst (bs.map nT)]) := by
    rw [hM, List.append_assoc]
    exact satt_app hc (by decide) (by simp [fs3])
  have d2 : sattT G "Table" "scale" (.obj M0.length) (.int 1) (M0 ++ [.ins "Table" fs4, .lst (((List.range m).map (irow rows sides)).map ilT), .lst (bs.map nT)]) = some (M0 ++ [.ins "Table" fs5, .lst (((List.range m).map (irow rows sides)).map ilT), .lst (bs.map nT)]) := satt_app hc (by decide) (by simp [fs4])
  have d3 : sattT G "Table" "top" (.obj M0.length) (ilT []) (M0 ++ [.ins "Table" fs5, .lst (((List.range m).map (irow rows sides)).map ilT), .lst (bs.map nT)]) = some (M0 ++ (ini rows sides w).mem M0.length) := by
    rw [satt_app hc (by decide) (by simp [fs5]), ← hbs, ← hm]; rfl
  have d4 : T.fl [] = ilT [] := rfl
  generalize ((List.range m).map (irow rows sides)).map ilT = RR at d1 d2 d3
  have hs16 : (sgs sides).length ≤ 16777216 := by omega
  refine run_nx2 rfl (σ := [some (.obj M0.length), some rowsT, some sidesT, z3, z4, z5, none, none, none]) (fun e => by
    have := congrArg (fun l : List O => l[M0.length]?) e
    simp [TS.mem, List.take_append, TS.fs] at this) ?_
  simp [Lib.Table___init__, startE, a1, a2, a3, s1, wipeE, ls, hs16, a4, a5, r1, hfr, b1, b2, l1, lb, lM, d1, d2, d4, d3]
end Mi
end L2

/-! The table: what it tells. -/
namespace L2
namespace Mi
open PySem PySem.Spec PyProof.Rows
variable {G : Sig}
def tupQ (qs : List Rat) : T := .tup (qs.map ratT)
theorem pure_map {α : Type} {f : α → T} (h : ∀ a, pureT (f a) = true) : ∀ l : List α, pureTs (l.map f) = true
  | [] => rfl
  | a :: l => by rw [List.map_cons, pureTs, h a, pure_map h l]; rfl
theorem pure_tupQ (qs : List Rat) : pureT (tupQ qs) = true := by
  show pureTs (qs.map ratT) = true
  exact pure_map ratT_pure qs
def HasN (G : Sig) : Prop := G.glbs.lookup ("NOUGHT" : Str) = some (ratT 0)
def gq (l : List Rat) (k : Nat) : Rat := l.getD k 0
theorem gq_set (l : List Rat) (k j : Nat) (q : Rat) (h : k < l.length) : gq (l.set k q) j = if j = k then q else gq l j := by
  unfold gq
  rw [List.getD_eq_getElem?_getD, List.getD_eq_getElem?_getD]
  by_cases e : j = k
  · subst e; rw [if_pos rfl, List.getElem?_set_self h]; rfl
  · rw [if_neg e, List.getElem?_set_ne (fun z => e z.symm)]
theorem gq_rep (n : Nat) (q : Rat) (k : Nat) (h : k < n) : gq (List.replicate n q) k = q := by
  unfold gq
  rw [List.getD_eq_getElem?_getD, List.getElem?_replicate, if_pos h]; rfl
theorem gq_range (f : Nat → Rat) (n k : Nat) (h : k < n) : gq ((List.range n).map f) k = f k := by
  unfold gq
  rw [List.getD_eq_getElem?_getD, List.getElem?_map, List.getElem?_range h]; rfl
theorem lst_last (M : List O) (o : O) : (M ++ [o])[M.length]? = some o := by rw [List.getElem?_append_right (by omega), Nat.sub_self]; rfl
theorem lst_set (M : List O) (o o' : O) : (M ++ [o]).set M.length o' = M ++ [o'] := by rw [List.set_append_right _ _ (by omega), Nat.sub_self]; rfl
theorem setq (M : List O) (qs : List Rat) (k : Nat) (q : Rat) (h : k < qs.length) : setT (.obj M.length) (nT k) (ratT q) (M ++ [.lst (qs.map ratT)]) = some (M ++ [.lst ((qs.set k q).map ratT)]) := by
  unfold nT
  rw [set_obj (lst_last M _) (by simpa using h), lst_set, List.map_set]
theorem rep_fl (x : T) (n : Nat) : (List.replicate n [x]).flatten = List.replicate n x := by
  induction n with
  | zero => rfl
  | succ n ih => rw [List.replicate_succ, List.flatten_cons, ih]; rfl
variable {m N : Nat}
/-- the value of a column -/
def ValAt (s : TS) (i : Nat) (f : Nat → Rat) (b0 : Nat → Rat) (qs : List Rat) : Prop := qs.length = s.w ∧ ∀ j, j < s.w → (∀ k, k < i → s.b k = j → gq qs j = f k) ∧ ((∀ k, k < i → s.b k ≠ j) → gq qs j = b0 j)
def Inj (s : TS) (m : Nat) : Prop := ∀ k l, k < m → l < m → s.b k = s.b l → k = l
def IsHere (F : Fn) : Prop := ∀ (s : TS) (n m N : Nat) (M : Mem), At s n M → Shp s m N → Inj s m → ∃ qs, F [.obj n] M = some (tupQ qs, M) ∧ ValAt s m (fun k => (s.x k (N - 1) : Rat) / (s.scale : Rat)) (fun _ => 0) qs
theorem val_step {s : TS} {i : Nat} {f b0 : Nat → Rat} {qs : List Rat} (h : ValAt s i f b0 qs) (hb : s.b i < s.w) (hinj : ∀ k, k < i → s.b k ≠ s.b i) : ValAt s (i + 1) f b0 (qs.set (s.b i) (f i)) := by
  refine ⟨by rw [List.length_set]; exact h.1, fun j hj => ?_⟩
  rw [gq_set _ _ _ _ (by rw [h.1]; exact hb)]
  by_cases e : j = s.b i
  · subst e
    rw [if_pos rfl]
    refine ⟨fun k hk hkb => ?_, fun hn => absurd rfl (hn i (by omega))⟩
    by_cases ek : k = i
    · rw [ek]
    · exact absurd hkb (hinj k (by omega))
  · rw [if_neg e]
    refine ⟨fun k hk hkb => ?_, fun hn => (h.2 j hj).2 fun k hk => hn k (by omega)⟩
    by_cases ek : k = i
    · subst ek; exact absurd hkb.symm e
    · exact (h.2 j hj).1 k (by omega) hkb
theorem val_skip {s : TS} {i : Nat} {f b0 : Nat → Rat} {qs : List Rat} (h : ValAt s i f b0 qs) (hb : ¬s.b i < s.w) : ValAt s (i + 1) f b0 qs := by
  refine ⟨h.1, fun j hj => ⟨fun k hk hkb => ?_, fun hn => (h.2 j hj).2 fun k hk => hn k (by omega)⟩⟩
  by_cases ek : k = i
  · subst ek; omega
  · exact (h.2 j hj).1 k (by omega) hkb
theorem sp_here (hc : HasTab G) (hn : HasN G) (hnum : Knows G "number" IsNum) : IsHere (runD G Lib.Table_tuple_here) := by
  intro s n m N M A S hinj
  obtain ⟨F, l1, k1⟩ := hnum
  have rl := S.rl
  have wN := S.wN
  have NN := S.NN
  have M1 : ∀ L, At s n (M ++ L) := fun L => A.app L
  obtain ⟨σ', M', hr, qs, hM, z2, z3, hz, hv⟩ := fr_inv (G := G) (tg := .tp (.cons (.nm 2 "row") (.cons (.nm 3 "column") .nil))) (b := [
    .ite (.cmp .Lt (.var 3 "column") (.att "Table" (.var 0 "self") "width")) [
      .setI (.var 1 "found") (.var 3 "column") (.call "number" (.cons (.ix (.var 2 "row") (.neg (.int 1))) (.cons (.att "Table" (.var 0 "self") "scale") .nil)))] []]) (g := [(n + 1, s.rows.map ilT), (n + 2, s.basis.map nT)]) (xs := zipT (s.rows.map ilT) (s.basis.map nT))
    (σ := [some (.obj n), some (.obj M.length), none, none]) (M := M ++ [.lst ((List.replicate s.w 0).map ratT)])
    (fun i σ M' => ∃ qs, M' = M ++ [.lst (qs.map ratT)] ∧ ∃ z2 z3, σ = [some (.obj n), some (.obj M.length), z2, z3] ∧ ValAt s i (fun k => (s.x k (N - 1) : Rat) / (s.scale : Rat)) (fun _ => 0) qs)
    ⟨_, rfl, _, _, rfl, by simp, fun j hj => ⟨fun k h => by omega, fun _ => gq_rep _ _ _ hj⟩⟩
    (fun i σ M' h => by
      obtain ⟨qs, h, _⟩ := h
      rw [h]
      intro p hp
      rcases List.mem_cons.mp hp with rfl | hp
      · exact (M1 _).r
      · rw [List.mem_singleton.mp hp]; exact (M1 _).b)
    (fun i x σ M' hx ⟨qs, hM, z2, z3, hz, hv⟩ => by
      subst hM; subst hz
      obtain ⟨x1, x2, h1, h2, rfl⟩ := zipT_get hx
      obtain ⟨row, hrow, rfl⟩ := map_get h1
      obtain ⟨c, hcc, rfl⟩ := map_get h2
      have hi : i < m := by rw [← rl]; exact (List.getElem?_eq_some_iff.mp hrow).1
      have er := TS.row_of hrow
      have eb := TS.b_of hcc
      subst er; subst eb
      refine ⟨[some (.obj n), some (.obj M.length), some (ilT (s.row i)), some (nT (s.b i))], by simp, ?_⟩
      have e1 := (M1 [.lst (qs.map ratT)]).width hc
      have e2 := (M1 [.lst (qs.map ratT)]).scale hc
      have e3 := S.last (M := M ++ [.lst (qs.map ratT)]) hi
      have e4 := k1 (s.x i (N - 1)) s.scale (M ++ [.lst (qs.map ratT)]) S.s0
      by_cases hb : s.b i < s.w
      · have e5 := setq M qs (s.b i) ((s.x i (N - 1) : Rat) / (s.scale : Rat)) (by rw [hv.1]; exact hb)
        exact ⟨[some (.obj n), some (.obj M.length), some (ilT (s.row i)), some (nT (s.b i))], M ++ [.lst ((qs.set (s.b i) ((s.x i (N - 1) : Rat) / (s.scale : Rat))).map ratT)], .inl (by simp [e1, e2, e3, hb, l1, e4, e5]), _, rfl, _, _, rfl, val_step hv hb fun k hk e => by have := hinj k i (by omega) hi e; omega⟩
      · exact ⟨[some (.obj n), some (.obj M.length), some (ilT (s.row i)), some (nT (s.b i))], _, .inl (by simp [e1, hb]), _, rfl, _, _, rfl, val_skip hv hb⟩)
  subst hM; subst hz
  rw [zipT_len, List.length_map, List.length_map, rl, S.bl, Nat.min_self] at hv
  refine ⟨qs, run_pure (M1 := [.lst (qs.map ratT)]) rfl rfl (pure_tupQ _) ?_, hv⟩
  have e1 := A.width hc
  have e2 := (M1 [.lst ((List.replicate s.w 0).map ratT)]).rows hc
  have e3 := (M1 [.lst ((List.replicate s.w 0).map ratT)]).basis hc
  have b1 := bin_rep true (ts := [ratT 0]) (k := s.w) (by simp; omega) (by omega) M
  rw [rep_fl, ← List.map_replicate] at b1
  have b1' : binT .Mult true (.fl [ratT 0]) (nT s.w) M = some (.obj M.length, M ++ [.lst ((List.replicate s.w 0).map ratT)]) := b1
  have s1 := sof_obj (M1 [.lst ((List.replicate s.w 0).map ratT)]).r
  have s2 := sof_obj (M1 [.lst ((List.replicate s.w 0).map ratT)]).b
  have s3 : sof (M ++ [.lst (qs.map ratT)]) (.obj M.length) = some (qs.map ratT) := sof_obj (lst_last M _)
  have b2 : biT .tuple [.obj M.length] (M ++ [.lst (qs.map ratT)]) = some (tupQ qs, M ++ [.lst (qs.map ratT)]) := by
    show (sof _ _).map _ = _
    rw [s3]; rfl
  generalize (List.replicate s.w (0 : Rat)).map ratT = RR at *
  have hn' : G.glbs.lookup (Str.ofString "NOUGHT") = some (ratT 0) := hn
  simp [Lib.Table_tuple_here, startE, hn', e1, b1', e2, e3, s1, s2, hr, b2]
def IsRay (F : Fn) : Prop := ∀ (s : TS) (n m N : Nat) (M : Mem) (c : Nat), At s n M → Shp s m N → Inj s m → c < s.w → (∀ k, k < m → s.b k ≠ c) → ∃ qs, F [.obj n, nT c] M = some (tupQ qs, M) ∧ ValAt s m (fun k => ((-s.x k c : Int) : Rat) / (s.scale : Rat)) (fun j => if j = c then 1 else 0) qs
theorem sp_ray (hc : HasTab G) (hn : HasN G) (hnum : Knows G "number" IsNum) : IsRay (runD G Lib.Table_ray) := by
  intro s n m N M c A S hinj hcw hcb
  obtain ⟨F, l1, k1⟩ := hnum
  have rl := S.rl
  have wN := S.wN
  have NN := S.NN
  have M1 : ∀ L, At s n (M ++ L) := fun L => A.app L
  obtain ⟨σ', M', hr, qs, hM, z2, z3, hz, hv⟩ := fr_inv (G := G) (tg := .tp (.cons (.nm 3 "row") (.cons (.nm 4 "other") .nil))) (b := [
    .ite (.cmp .Lt (.var 4 "other") (.att "Table" (.var 0 "self") "width")) [
      .setI (.var 2 "found") (.var 4 "other") (.call "number" (.cons (.neg (.ix (.var 3 "row") (.var 1 "column"))) (.cons (.att "Table" (.var 0 "self") "scale") .nil)))] []]) (g := [(n + 1, s.rows.map ilT), (n + 2, s.basis.map nT)]) (xs := zipT (s.rows.map ilT) (s.basis.map nT))
    (σ := [some (.obj n), some (nT c), some (.obj M.length), none, none]) (M := M ++ [.lst (((List.replicate s.w 0).set c 1).map ratT)])
    (fun i σ M' => ∃ qs, M' = M ++ [.lst (qs.map ratT)] ∧ ∃ z2 z3, σ = [some (.obj n), some (nT c), some (.obj M.length), z2, z3] ∧ ValAt s i (fun k => ((-s.x k c : Int) : Rat) / (s.scale : Rat)) (fun j => if j = c then 1 else 0) qs)
    ⟨_, rfl, _, _, rfl, by simp, fun j hj => ⟨fun k h => by omega, fun _ => by
      rw [gq_set _ _ _ _ (by simpa using hcw), gq_rep _ _ _ hj]⟩⟩
    (fun i σ M' h => by
      obtain ⟨qs, h, _⟩ := h
      rw [h]
      intro p hp
      rcases List.mem_cons.mp hp with rfl | hp
      · exact (M1 _).r
      · rw [List.mem_singleton.mp hp]; exact (M1 _).b)
    (fun i x σ M' hx ⟨qs, hM, z2, z3, hz, hv⟩ => by
      subst hM; subst hz
      obtain ⟨x1, x2, h1, h2, rfl⟩ := zipT_get hx
      obtain ⟨row, hrow, rfl⟩ := map_get h1
      obtain ⟨c', hcc, rfl⟩ := map_get h2
      have hi : i < m := by rw [← rl]; exact (List.getElem?_eq_some_iff.mp hrow).1
      have er := TS.row_of hrow
      have eb := TS.b_of hcc
      subst er; subst eb
      refine ⟨[some (.obj n), some (nT c), some (.obj M.length), some (ilT (s.row i)), some (nT (s.b i))], by simp, ?_⟩
      have e1 := (M1 [.lst (qs.map ratT)]).width hc
      have e2 := (M1 [.lst (qs.map ratT)]).scale hc
      have e3 := S.ent (M := M ++ [.lst (qs.map ratT)]) hi (show c < N by omega)
      have e4 := k1 (-s.x i c) s.scale (M ++ [.lst (qs.map ratT)]) S.s0
      by_cases hb : s.b i < s.w
      · have e5 := setq M qs (s.b i) (((-s.x i c : Int) : Rat) / (s.scale : Rat)) (by rw [hv.1]; exact hb)
        exact ⟨[some (.obj n), some (nT c), some (.obj M.length), some (ilT (s.row i)), some (nT (s.b i))], M ++ [.lst ((qs.set (s.b i) (((-s.x i c : Int) : Rat) / (s.scale : Rat))).map ratT)], .inl (by simp only [xs_cons, x_ite, x_setI]; simp [e1, e2, e3, hb, l1, -Rat.intCast_neg, e4, e5]), _, rfl, _, _, rfl, val_step hv hb fun k hk e => by have := hinj k i (by omega) hi e; omega⟩
      · exact ⟨[some (.obj n), some (nT c), some (.obj M.length), some (ilT (s.row i)), some (nT (s.b i))], _, .inl (by simp [e1, hb]), _, rfl, _, _, rfl, val_skip hv hb⟩)
  subst hM; subst hz
  rw [zipT_len, List.length_map, List.length_map, rl, S.bl, Nat.min_self] at hv
  refine ⟨qs, run_pure (M1 := [.lst (qs.map ratT)]) rfl rfl (pure_tupQ _) ?_, hv⟩
  have e1 := A.width hc
  have b1 := bin_rep true (ts := [ratT 0]) (k := s.w) (by simp; omega) (by omega) M
  rw [rep_fl, ← List.map_replicate] at b1
  have b1' : binT .Mult true (.fl [ratT 0]) (nT s.w) M = some (.obj M.length, M ++ [.lst ((List.replicate s.w 0).map ratT)]) := b1
  have b3 := setq M (List.replicate s.w 0) c 1 (by simpa using hcw)
  rw [ratT_one] at b3
  generalize hRR : (List.replicate s.w (0 : Rat)).map ratT = RR at *
  generalize hSS : ((List.replicate s.w (0 : Rat)).set c 1).map ratT = SS at *
  have e2 := (M1 [.lst SS]).rows hc
  have e3 := (M1 [.lst SS]).basis hc
  have s1 := sof_obj (M1 [.lst SS]).r
  have s2 := sof_obj (M1 [.lst SS]).b
  have s3 : sof (M ++ [.lst (qs.map ratT)]) (.obj M.length) = some (qs.map ratT) := sof_obj (lst_last M _)
  have b2 : biT .tuple [.obj M.length] (M ++ [.lst (qs.map ratT)]) = some (tupQ qs, M ++ [.lst (qs.map ratT)]) := by
    show (sof _ _).map _ = _
    rw [s3]; rfl
  have hn' : G.glbs.lookup (Str.ofString "NOUGHT") = some (ratT 0) := hn
  simp [Lib.Table_ray, startE, hn', e1, b1', b3, e2, e3, s1, s2, hr, b2]
def priceL (s : TS) (m : Nat) (taken : Int) : List Rat := (List.range m).map fun i => ((gt s.signs i * (gt s.top (s.w + i) - taken * s.scale) : Int) : Rat) / (s.scale : Rat)
def IsPrices (F : Fn) : Prop := ∀ (s : TS) (n m N : Nat) (M : Mem) (taken : Int), At s n M → Shp s m N → s.top.length = N → s.w + m ≤ N → s.signs.length = m → Sma s.signs → Sma s.top → Sm 1000 taken → F [.obj n, .int taken] M = some (tupQ (priceL s m taken), M)
theorem sp_prices (hc : HasTab G) (hnum : Knows G "number" IsNum) : IsPrices (runD G Lib.Table_prices) := by
  intro s n m N M taken A S htl hwm hsl hss hts htk
  obtain ⟨F, l1, k1⟩ := hnum
  have NN := S.NN
  have M1 : ∀ L, At s n (M ++ L) := fun L => A.app L
  let f : Nat → Rat := fun i => ((gt s.signs i * (gt s.top (s.w + i) - taken * s.scale) : Int) : Rat) / (s.scale : Rat)
  obtain ⟨σ', M', hr, hM, z3, z4, hz⟩ := fr_inv (G := G) (tg := .tp (.cons (.nm 3 "at") (.cons (.nm 4 "way") .nil))) (b := [
    .ex (.bm .append (.var 2 "found") (.cons (.call "number" (.cons (.bin .Mult false (.var 4 "way") (.bin .Sub false (.ix (.att "Table" (.var 0 "self") "top") (.bin .Add false (.att "Table" (.var 0 "self") "width") (.var 3 "at"))) (.bin .Mult false (.var 1 "taken") (.att "Table" (.var 0 "self") "scale")))) (.cons (.att "Table" (.var 0 "self") "scale") .nil))) .nil))]) (g := []) (xs := enumL 0 (s.signs.map T.int))
    (σ := [some (.obj n), some (.int taken), some (.obj M.length), none, none]) (M := M ++ [.lst []])
    (fun i σ M' => M' = M ++ [.lst (((List.range i).map f).map ratT)] ∧ ∃ z3 z4, σ = [some (.obj n), some (.int taken), some (.obj M.length), z3, z4])
    ⟨rfl, _, _, rfl⟩ (fun _ _ _ _ => by simp) (fun i x σ M' hx ⟨hM, z3, z4, hz⟩ => by
      subst hz
      obtain ⟨t, ht, rfl⟩ := enum_get hx
      obtain ⟨v, hv, rfl⟩ := map_get ht
      have hi : i < m := by rw [← hsl]; exact (List.getElem?_eq_some_iff.mp hv).1
      have ev : v = gt s.signs i := by unfold gt; rw [List.getD_eq_getElem?_getD, hv]; rfl
      subst ev
      refine ⟨[some (.obj n), some (.int taken), some (.obj M.length), some (nT i), some (.int (gt s.signs i))], by simp, [some (.obj n), some (.int taken), some (.obj M.length), some (nT i), some (.int (gt s.signs i))], _, .inl ?_, rfl, _, _, rfl⟩
      have A' : At s n M' := by rw [hM]; exact M1 _
      have e1 := A'.width hc
      have e2 := A'.scale hc
      have e3 := A'.top hc
      have e4 := ix_il s.top (s.w + i) M' (by omega)
      have e5 := k1 (gt s.signs i * (gt s.top (s.w + i) - taken * s.scale)) s.scale M' S.s0
      have m1 : mulOk taken s.scale := Sm.mulOk htk S.ss (by decide)
      have m2 : mulOk (gt s.signs i) (gt s.top (s.w + i) - taken * s.scale) := Sm.mulOk (hss.at i) (Sm.sub (k := KB + 1000) ((hts.at _).mono (by decide)) ((Sm.mul htk S.ss).mono (by decide))) (by decide)
      have b7 : M'[M.length]? = some (.lst (((List.range i).map f).map ratT)) := by rw [hM]; exact lst_last M _
      have b8 := bm_append (x := ratT (f i)) b7 (by simp; omega)
      have b9 : M'.set M.length (.lst (((List.range i).map f).map ratT ++ [ratT (f i)])) = M ++ [.lst (((List.range (i + 1)).map f).map ratT)] := by
        rw [hM, lst_set, List.range_succ, List.map_append, List.map_append]; rfl
      rw [b9] at b8
      have b11 := lof_obj' b7
      have e5' : F [.int (gt s.signs i * (gt s.top (s.w + i) - taken * s.scale)), .int s.scale] M' = some (ratT (f i), M') := e5
      simp only [xs_cons, xs_nil, x_ex, e_bm, e_var]
      simp [e1, e2, e3, e4, bin_mul m1, bin_mul m2, l1, e5', b11, b8])
  subst hM; subst hz
  rw [enumL_len, List.length_map, hsl] at hr
  refine run_pure (M1 := [.lst ((priceL s m taken).map ratT)]) rfl rfl (pure_tupQ _) ?_
  have e1 := (M1 [.lst []]).signs hc
  have s3 : sof (M ++ [.lst ((priceL s m taken).map ratT)]) (.obj M.length) = some ((priceL s m taken).map ratT) := sof_obj (lst_last M _)
  have b2 : biT .tuple [.obj M.length] (M ++ [.lst ((priceL s m taken).map ratT)]) = some (tupQ (priceL s m taken), M ++ [.lst ((priceL s m taken).map ratT)]) := by
    show (sof _ _).map _ = _
    rw [s3]; rfl
  have hr' : fr G (.tp (.cons (.nm 3 "at") (.cons (.nm 4 "way") .nil))) _ [] (enumL 0 (s.signs.map T.int)) [some (.obj n), some (.int taken), some (.obj M.length), none, none] (M ++ [.lst []]) = some (.nx [some (.obj n), some (.int taken), some (.obj M.length), z3, z4] (M ++ [.lst ((priceL s m taken).map ratT)])) := hr
  generalize (priceL s m taken).map ratT = RR at *
  simp [Lib.Table_prices, startE, e1, hr', b2]
end Mi
end L2

/-! What a right answer of a program is; the last table gives one. -/
namespace L2
namespace Mi
/-! ### sums of rationals -/
def sR : Nat → (Nat → Rat) → Rat
  | 0, _ => 0
  | n + 1, f => sR n f + f n
theorem sR_congr {n : Nat} {f g : Nat → Rat} (h : ∀ k, k < n → f k = g k) : sR n f = sR n g := by
  induction n with
  | zero => rfl
  | succ n ih => rw [sR, sR, ih fun k hk => h k (by omega), h n (by omega)]
theorem sR_zero {n : Nat} {f : Nat → Rat} (h : ∀ k, k < n → f k = 0) : sR n f = 0 := by
  induction n with
  | zero => rfl
  | succ n ih => rw [sR, ih fun k hk => h k (by omega), h n (by omega), Rat.add_zero]
theorem sR_add (n : Nat) (f g : Nat → Rat) : sR n (fun k => f k + g k) = sR n f + sR n g := by
  induction n with
  | zero => exact (Rat.zero_add 0).symm
  | succ n ih => rw [sR, sR, sR, ih]; grind
theorem sR_mul (n : Nat) (c : Rat) (f : Nat → Rat) : sR n (fun k => c * f k) = c * sR n f := by
  induction n with
  | zero => simp [sR]
  | succ n ih => rw [sR, sR, ih]; grind
theorem sR_mulr (n : Nat) (c : Rat) (f : Nat → Rat) : sR n (fun k => f k * c) = sR n f * c := by
  induction n with
  | zero => simp [sR]
  | succ n ih => rw [sR, sR, ih]; grind
theorem sR_comm (n m : Nat) (f : Nat → Nat → Rat) : sR n (fun i => sR m (f i)) = sR m (fun j => sR n (fun i => f i j)) := by
  induction n with
  | zero => exact (sR_zero fun _ _ => rfl).symm
  | succ n ih =>
    rw [sR, ih, ← sR_add]
    exact sR_congr fun k _ => rfl
theorem sR_one {n r : Nat} {f : Nat → Rat} (hr : r < n) (h : ∀ k, k < n → k ≠ r → f k = 0) : sR n f = f r := by
  induction n with
  | zero => omega
  | succ n ih =>
    rw [sR]
    by_cases e : r = n
    · subst e; rw [sR_zero fun k hk => h k (by omega) (by omega), Rat.zero_add]
    · rw [ih (by omega) fun k hk => h k (by omega), h n (by omega) (by omega), Rat.add_zero]
theorem sR_int (n : Nat) (f : Nat → Int) : ((Lp.sI n f : Int) : Rat) = sR n fun k => (f k : Rat) := by
  induction n with
  | zero => rfl
  | succ n ih => rw [Lp.sI, sR, Rat.intCast_add, ih]
def dotQ (as : List Int) (qs : List Rat) : Rat := (List.zipWith (fun (a : Int) q => (a : Rat) * q) as qs).sum
theorem sum_sR : ∀ (l : List Rat), l.sum = sR l.length (gq l) := by
  have key : ∀ (l : List Rat) (x : Rat), sR (l.length + 1) (gq (x :: l)) = x + sR l.length (gq l) := by
    intro l x
    have h : ∀ n, sR (n + 1) (gq (x :: l)) = x + sR n (gq l) := by
      intro n
      induction n with
      | zero => simp [sR, gq, Rat.zero_add, Rat.add_zero]
      | succ n ih => rw [sR, ih, sR, Rat.add_assoc]; rfl
    exact h _
  intro l
  induction l with
  | nil => rfl
  | cons x l ih => rw [List.sum_cons, List.length_cons, key, ih]
theorem dotQ_sR (as : List Int) (qs : List Rat) (n : Nat) (h1 : as.length = n) (h2 : qs.length = n) : dotQ as qs = sR n fun j => (gt as j : Rat) * gq qs j := by
  unfold dotQ
  rw [sum_sR, List.length_zipWith, h1, h2, Nat.min_self]
  refine sR_congr fun k hk => ?_
  unfold gq gt
  rw [List.getD_eq_getElem?_getD, List.getElem?_zipWith, List.getD_eq_getElem?_getD, List.getD_eq_getElem?_getD, List.getElem?_eq_getElem (by omega), List.getElem?_eq_getElem (by omega)]; rfl
/-! ### answers -/
inductive Ans where
  | none (y : List Rat) | any (x r : List Rat) | most (x y : List Rat)
def Ans.nums : Ans → List Rat
  | .none y => y
  | .any x r => x ++ r
  | .most x y => x ++ y
def colL (rows : List (List Int)) (j : Nat) : List Int := rows.map fun r => gt r j
def Fit (rows : List (List Int)) (sides : List Int) (x : List Rat) : Prop := (∀ q ∈ x, 0 ≤ q) ∧ ∀ i, i < rows.length → dotQ (rows.getD i []) x = (gt sides i : Rat)
def Reach (rows : List (List Int)) (y : List Rat) (gains : List Int) : Prop := ∀ j, j < gains.length → (gt gains j : Rat) ≤ dotQ (colL rows j) y
def Right (rows : List (List Int)) (sides gains : List Int) : Ans → Prop
  | .none y => y.length = rows.length ∧ Reach rows y (List.replicate gains.length 0) ∧ dotQ sides y < 0
  | .any x r => x.length = gains.length ∧ r.length = gains.length ∧ Fit rows sides x ∧ Fit rows (List.replicate rows.length 0) r ∧ 0 < dotQ gains r
  | .most x y => x.length = gains.length ∧ y.length = rows.length ∧ Fit rows sides x ∧ Reach rows y gains ∧ dotQ gains x = dotQ sides y
/-- all over one divisor -/
def Over (D B : Nat) (qs : List Rat) : Prop := ∀ q ∈ qs, ∃ z : Int, q = (z : Rat) / ((D : Int) : Rat) ∧ z.natAbs ≤ B
/-! ### the last table -/
section
variable {rows : List (List Int)} {sides : List Int} {w m : Nat}
theorem unl_len (m k : Nat) : (unl m k).length = m := by simp [unl]
def X0 (rows : List (List Int)) (sides : List Int) (i j : Nat) : Int := gt (irow rows sides i) j
theorem X0_a (hm : rows.length = m) (hw : ∀ r ∈ rows, r.length = w) {i j : Nat} (hi : i < m) (hj : j < w) : X0 rows sides i j = gt (sgs sides) i * gt (rows.getD i []) j := by
  have hr : (rows.getD i []).length = w := by
    rw [List.getD_eq_getElem?_getD, List.getElem?_eq_getElem (by omega)]
    exact hw _ (List.getElem_mem ..)
  unfold X0 irow
  rw [gt_append, if_pos (by rw [List.length_append, scl_len, unl_len]; omega), gt_append, if_pos (by rw [scl_len]; omega), gt_scl]
theorem X0_u (hm : rows.length = m) (hw : ∀ r ∈ rows, r.length = w) {i k : Nat} (hi : i < m) (hk : k < m) : X0 rows sides i (w + k) = if i = k then 1 else 0 := by
  have hr : (rows.getD i []).length = w := by
    rw [List.getD_eq_getElem?_getD, List.getElem?_eq_getElem (by omega)]
    exact hw _ (List.getElem_mem ..)
  unfold X0 irow
  rw [gt_append, if_pos (by rw [List.length_append, scl_len, unl_len]; omega), gt_append, if_neg (by rw [scl_len]; omega), scl_len, hr, unl, gt_range _ _ _ (by omega), Nat.add_sub_cancel_left]
theorem X0_s (hm : rows.length = m) (hw : ∀ r ∈ rows, r.length = w) {i : Nat} (hi : i < m) : X0 rows sides i (w + m) = ((gt sides i).natAbs : Int) := by
  have hr : (rows.getD i []).length = w := by
    rw [List.getD_eq_getElem?_getD, List.getElem?_eq_getElem (by omega)]
    exact hw _ (List.getElem_mem ..)
  have h1 : (scl (gt (sgs sides) i) (rows.getD i []) ++ unl rows.length i).length = w + m := by rw [List.length_append, scl_len, unl_len]; omega
  unfold X0 irow
  rw [gt_append, if_neg (by omega), h1, Nat.sub_self]; rfl
theorem sg_mul (hs : sides.length = m) {i : Nat} (hi : i < m) : gt (sgs sides) i * gt sides i = ((gt sides i).natAbs : Int) ∧ (gt (sgs sides) i = 1 ∨ gt (sgs sides) i = -1) := by
  rw [sgs, gt_map _ _ _ (by omega)]
  split
  · exact ⟨by omega, .inr rfl⟩
  · exact ⟨by omega, .inl rfl⟩
variable {g : Nat → Int} {s : TS}
/-- a column with the values -/
theorem sum_val {i : Nat} {f b0 : Nat → Rat} {qs : List Rat} (hinj : Inj s m) (h : ValAt s m f b0 qs) (a : Nat → Rat) :
    (sR s.w fun j => a j * gq qs j) = (sR m fun k => if s.b k < s.w then a (s.b k) * f k else 0) + sR s.w fun j => (if (∃ k, k < m ∧ s.b k = j) then 0 else a j * b0 j) := by
  have h1 : ∀ j, j < s.w → a j * gq qs j = (sR m fun k => if s.b k = j then a j * f k else 0) + (if (∃ k, k < m ∧ s.b k = j) then 0 else a j * b0 j) := fun j hj => by
    by_cases e : ∃ k, k < m ∧ s.b k = j
    · obtain ⟨k, hk, hb⟩ := e
      rw [if_pos ⟨k, hk, hb⟩, sR_one (r := k) hk fun l hl hne => if_neg fun q => hne (hinj l k hl hk (by rw [q, hb])), if_pos hb, (h.2 j hj).1 k hk hb, Rat.add_zero]
    · rw [if_neg e, sR_zero fun k hk => if_neg fun q => e ⟨k, hk, q⟩, (h.2 j hj).2 fun k hk q => e ⟨k, hk, q⟩, Rat.zero_add]
  rw [sR_congr h1, sR_add, sR_comm]
  congr 1
  refine sR_congr fun k hk => ?_
  by_cases hb : s.b k < s.w
  · rw [if_pos hb, sR_one (r := s.b k) hb fun j hj hne => if_neg fun q => hne q.symm, if_pos rfl]
  · rw [if_neg hb, sR_zero fun j hj => if_neg (by omega)]
variable {N : Nat}
theorem Gd.inj {X : Nat → Nat → Int} (Q : Gd X m N g s) : Inj s m := fun k l hk hl h => Q.I.inj hk hl h
theorem cast_d {d : Int} (h : 0 < d) : (0 : Rat) < (d : Rat) := by
  have : ((0 : Int) : Rat) < (d : Rat) := Rat.intCast_lt_intCast.mpr h
  exact this
theorem div_nn {z d : Int} (hd : 0 < d) (hz : 0 ≤ z) : (0 : Rat) ≤ (z : Rat) / (d : Rat) := by
  have h1 : (0 : Rat) ≤ (z : Rat) := Rat.intCast_nonneg.mpr hz
  rw [Rat.div_def]
  exact Rat.mul_nonneg h1 (Rat.le_of_lt (Rat.inv_pos.mpr (cast_d hd)))
theorem div_lt0 {z d : Int} (hd : 0 < d) (hz : z < 0) : (z : Rat) / (d : Rat) < 0 := by
  have h := div_nn (z := -z) hd (by omega)
  have hd' := cast_d hd
  have hz' : (z : Rat) ≠ 0 := cast_ne (by omega)
  have e : ((-z : Int) : Rat) / (d : Rat) = -((z : Rat) / (d : Rat)) := by rw [Rat.intCast_neg]; grind
  rw [e] at h
  have hne : (z : Rat) / (d : Rat) ≠ 0 := by
    intro q
    have hd'' := Rat.ne_of_gt hd'
    have : (z : Rat) = (z : Rat) / (d : Rat) * (d : Rat) := by grind
    rw [q, Rat.zero_mul] at this
    exact hz' this
  grind
theorem mul_sg {a : Int} (h : a = 1 ∨ a = -1) : (a : Rat) * (a : Rat) = 1 := by rw [← Rat.intCast_mul]; rcases h with rfl | rfl <;> rfl
/-- the multipliers and the columns -/
theorem mult_top {X : Nat → Nat → Int} (Q : Gd X m N g s) (hN : w + m ≤ N) (hu : ∀ i, i < m → ∀ k, k < m → X i (w + k) = if i = k then 1 else 0) {j : Nat} (hj : j < N) :
    (Lp.sI m fun i => X i j * (gt s.top (w + i) + g (w + i) * s.scale)) = gt s.top j + g j * s.scale := by
  have h1 : ∀ l, l < N → gt s.top l + g l * s.scale = Lp.sI m fun k => g (s.b k) * s.x k l := fun l hl => by
    have := Q.T l hl
    have this' : gt s.top l = (Lp.sI m fun k => g (s.b k) * s.x k l) - g l * s.scale := this
    rw [this']; omega
  rw [h1 j hj, Lp.sI_congr fun i hi => by rw [h1 (w + i) (by omega), ← Lp.sI_mul], Lp.sI_comm]
  refine Lp.sI_congr fun k hk => ?_
  have := Q.I.mult hN hu hk hj
  have this' : s.x k j = Lp.sI m fun i => X i j * s.x k (w + i) := this
  rw [this', ← Lp.sI_mul]
  exact Lp.sI_congr fun i hi => by rw [← Int.mul_assoc, ← Int.mul_assoc, Int.mul_comm (X i j)]
variable (hm : rows.length = m) (hw : ∀ r ∈ rows, r.length = w) (hs : sides.length = m)
include hm hw hs
/-- what the prices give with a column -/
theorem price_col (Q : Gd (X0 rows sides) m (w + m + 1) g s) (hsw : s.w = w) (hsg : s.signs = sgs sides) {taken : Int} (hg : ∀ i, i < m → g (w + i) = -taken) {j : Nat} (hj : j < w) :
    dotQ (colL rows j) (priceL s m taken) = ((gt s.top j + g j * s.scale : Int) : Rat) / (s.scale : Rat) := by
  have hd := cast_d Q.I.dp
  have hd0 : (s.scale : Rat) ≠ 0 := Rat.ne_of_gt hd
  rw [dotQ_sR _ _ m (by simp [colL, hm]) (by simp [priceL]), ← mult_top Q (by omega) (fun i hi k hk => X0_u hm hw hi hk) (by omega : j < w + m + 1), sR_int, Rat.div_def, ← sR_mulr]
  refine sR_congr fun i hi => ?_
  have e1 : gt (colL rows j) i = gt (rows.getD i []) j := by
    unfold colL gt
    rw [List.getD_eq_getElem?_getD, List.getElem?_map, List.getD_eq_getElem?_getD, List.getD_eq_getElem?_getD, List.getElem?_eq_getElem (by omega)]
    simp
  rw [priceL, gq_range _ _ _ hi, e1, hsg, hsw, X0_a hm hw hi hj, hg i hi, Rat.div_def]
  have : gt s.top (w + i) - taken * s.scale = gt s.top (w + i) + -taken * s.scale := by rw [Int.neg_mul]; omega
  rw [this]
  simp only [Rat.intCast_mul]
  grind
theorem price_side (Q : Gd (X0 rows sides) m (w + m + 1) g s) (hsw : s.w = w) (hsg : s.signs = sgs sides) {taken : Int} (hg : ∀ i, i < m → g (w + i) = -taken) :
    dotQ sides (priceL s m taken) = ((gt s.top (w + m) + g (w + m) * s.scale : Int) : Rat) / (s.scale : Rat) := by
  rw [dotQ_sR _ _ m hs (by simp [priceL]), ← mult_top Q (by omega) (fun i hi k hk => X0_u hm hw hi hk) (by omega : w + m < w + m + 1), sR_int, Rat.div_def, ← sR_mulr]
  refine sR_congr fun i hi => ?_
  rw [priceL, gq_range _ _ _ hi, hsg, hsw, X0_s hm hw hi, hg i hi, Rat.div_def, ← (sg_mul hs hi).1]
  have : gt s.top (w + i) - taken * s.scale = gt s.top (w + i) + -taken * s.scale := by rw [Int.neg_mul]; omega
  rw [this]
  simp only [Rat.intCast_mul]
  grind
/-- the rows with the values -/
theorem here_row (Q : Gd (X0 rows sides) m (w + m + 1) g s) (hsw : s.w = w) (hz : ∀ k, k < m → w ≤ s.b k → s.x k (w + m) = 0) {qs : List Rat} (hv : ValAt s m (fun k => (s.x k (w + m) : Rat) / (s.scale : Rat)) (fun _ => 0) qs) {i : Nat} (hi : i < m) :
    dotQ (rows.getD i []) qs = (gt sides i : Rat) := by
  have hd := cast_d Q.I.dp
  have hd0 : (s.scale : Rat) ≠ 0 := Rat.ne_of_gt hd
  have hr : (rows.getD i []).length = w := by
    rw [List.getD_eq_getElem?_getD, List.getElem?_eq_getElem (by omega)]
    exact hw _ (List.getElem_mem ..)
  have h1 := sum_val (i := i) Q.inj hv fun j => (gt (rows.getD i []) j : Rat)
  rw [hsw] at h1
  rw [dotQ_sR _ _ w hr (by rw [hv.1, hsw]), h1, sR_zero (n := w) fun j hj => by split <;> simp, Rat.add_zero]
  have h2 := Q.I.sys i hi (w + m) (by omega)
  rw [X0_s hm hw hi, ← (sg_mul hs hi).1] at h2
  have h3 : ((_ : Int) : Rat) = ((_ : Int) : Rat) := congrArg (fun z : Int => (z : Rat)) h2
  rw [sR_int] at h3
  have sq := mul_sg (sg_mul hs hi).2
  have h4 : (sR m fun k => ((X0 rows sides i (s.st.b k) * s.st.x k (w + m) : Int) : Rat)) = ((gt (sgs sides) i : Int) : Rat) * (s.scale : Rat) * sR m fun k => if s.b k < w then (gt (rows.getD i []) (s.b k) : Rat) * ((s.x k (w + m) : Rat) / (s.scale : Rat)) else 0 := by
    rw [← sR_mul]
    refine sR_congr fun k hk => ?_
    show ((X0 rows sides i (s.b k) * s.x k (w + m) : Int) : Rat) = _
    by_cases hb : s.b k < w
    · rw [if_pos hb, X0_a hm hw hi hb]
      simp only [Rat.intCast_mul]
      grind
    · rw [if_neg hb, hz k hk (by omega)]; simp
  rw [h4] at h3
  have h5 : ((s.st.d * (gt (sgs sides) i * gt sides i) : Int) : Rat) = (s.scale : Rat) * ((gt (sgs sides) i : Int) : Rat) * (gt sides i : Rat) := by
    show ((s.scale * (gt (sgs sides) i * gt sides i) : Int) : Rat) = _
    simp only [Rat.intCast_mul]; grind
  rw [h5] at h3
  generalize (sR m fun k => if s.b k < w then (gt (rows.getD i []) (s.b k) : Rat) * ((s.x k (w + m) : Rat) / (s.scale : Rat)) else 0) = S at *
  generalize ((gt (sgs sides) i : Int) : Rat) = e at *
  generalize (gt sides i : Rat) = b at *
  generalize (s.scale : Rat) = d at *
  have h6 : d * (e * e) * b = d * (e * e) * S := by grind
  rw [sq, Rat.mul_one] at h6
  have h7 : d⁻¹ * (d * b) = d⁻¹ * (d * S) := by rw [h6]
  grind
theorem ray_row (Q : Gd (X0 rows sides) m (w + m + 1) g s) (hsw : s.w = w) {c : Nat} (hcw : c < w) (hcb : ∀ k, k < m → s.b k ≠ c) (hz : ∀ k, k < m → w ≤ s.b k → s.x k c = 0) {qs : List Rat} (hv : ValAt s m (fun k => ((-s.x k c : Int) : Rat) / (s.scale : Rat)) (fun j => if j = c then 1 else 0) qs) {i : Nat} (hi : i < m) :
    dotQ (rows.getD i []) qs = 0 := by
  have hd := cast_d Q.I.dp
  have hd0 : (s.scale : Rat) ≠ 0 := Rat.ne_of_gt hd
  have hr : (rows.getD i []).length = w := by
    rw [List.getD_eq_getElem?_getD, List.getElem?_eq_getElem (by omega)]
    exact hw _ (List.getElem_mem ..)
  have h1 := sum_val (i := i) Q.inj hv fun j => (gt (rows.getD i []) j : Rat)
  rw [hsw] at h1
  have hc0 : ¬∃ k, k < m ∧ s.b k = c := fun ⟨k, hk, e⟩ => hcb k hk e
  rw [dotQ_sR _ _ w hr (by rw [hv.1, hsw]), h1, sR_one (n := w) (r := c) hcw fun j hj hne => by rw [if_neg hne, Rat.mul_zero]; simp, if_neg hc0, if_pos rfl, Rat.mul_one]
  have h2 := Q.I.sys i hi c (by omega)
  rw [X0_a hm hw hi hcw] at h2
  have h3 : ((_ : Int) : Rat) = ((_ : Int) : Rat) := congrArg (fun z : Int => (z : Rat)) h2
  rw [sR_int] at h3
  have sq := mul_sg (sg_mul hs hi).2
  have h4 : (sR m fun k => ((X0 rows sides i (s.st.b k) * s.st.x k c : Int) : Rat)) = -((gt (sgs sides) i : Int) : Rat) * (s.scale : Rat) * sR m fun k => if s.b k < w then (gt (rows.getD i []) (s.b k) : Rat) * (((-s.x k c : Int) : Rat) / (s.scale : Rat)) else 0 := by
    rw [← sR_mul]
    refine sR_congr fun k hk => ?_
    show ((X0 rows sides i (s.b k) * s.x k c : Int) : Rat) = _
    by_cases hb : s.b k < w
    · rw [if_pos hb, X0_a hm hw hi hb, Rat.intCast_neg]
      simp only [Rat.intCast_mul]
      grind
    · rw [if_neg hb, hz k hk (by omega)]; simp
  rw [h4] at h3
  have h5 : ((s.st.d * (gt (sgs sides) i * gt (rows.getD i []) c) : Int) : Rat) = (s.scale : Rat) * ((gt (sgs sides) i : Int) : Rat) * (gt (rows.getD i []) c : Rat) := by
    show ((s.scale * (gt (sgs sides) i * gt (rows.getD i []) c) : Int) : Rat) = _
    simp only [Rat.intCast_mul]; grind
  rw [h5] at h3
  generalize (sR m fun k => if s.b k < w then (gt (rows.getD i []) (s.b k) : Rat) * (((-s.x k c : Int) : Rat) / (s.scale : Rat)) else 0) = S at *
  generalize ((gt (sgs sides) i : Int) : Rat) = e at *
  generalize (gt (rows.getD i []) c : Rat) = b at *
  generalize (s.scale : Rat) = d at *
  have h6 : d * (e * e) * b = -(d * (e * e) * S) := by grind
  rw [sq, Rat.mul_one] at h6
  have h7 : d⁻¹ * (d * b) = d⁻¹ * -(d * S) := by rw [h6]
  grind
end
end Mi
end L2

/-! maximize tells a right answer. -/
namespace L2
namespace Mi
open PySem PySem.Spec PyProof.Rows
variable {G : Sig}
def ansT : Ans → T
  | .none y => .tup [.str "none", tupQ y]
  | .any x r => .tup [.str "any", tupQ x, tupQ r]
  | .most x y => .tup [.str "most", tupQ x, tupQ y]
theorem pure_ansT (a : Ans) : pureT (ansT a) = true := by
  cases a <;> simp [ansT, pureT, pureTs, pure_tupQ]
theorem truth_sof {M : Mem} {x : T} {ts : List T} (h : sof M x = some ts) : truth M x = some (!ts.isEmpty) := by
  cases x with
  | tup => cases h; rfl
  | obj i =>
    have : lofS M (.obj i) = some ts := h
    simp only [truth, this]; rfl
  | fl => cases h; rfl
  | sc => cases h; rfl
  | _ => cases h
theorem cut_lo (ts : List T) (k : Nat) : cutT ts none (some (k : Int)) = ts.take k := by
  unfold cutT
  rw [HT.sIx_none, HT.sIx_nat, List.drop_zero, Nat.sub_zero]
  by_cases h : k ≤ ts.length
  · rw [Nat.min_eq_left h]
  · rw [Nat.min_eq_right (by omega), List.take_of_length_le (Nat.le_refl _), List.take_of_length_le (by omega)]
theorem cut_hi (ts : List T) (k : Nat) : cutT ts (some (k : Int)) none = ts.drop k := by
  unfold cutT
  rw [HT.sIx_none, HT.sIx_nat]
  by_cases h : k ≤ ts.length
  · rw [Nat.min_eq_left h, List.take_of_length_le (by rw [List.length_drop]; exact Nat.le_refl _)]
  · rw [Nat.min_eq_right (by omega), Nat.sub_self, List.take_zero, List.drop_eq_nil_of_le (by omega)]
theorem tup_rep (x : T) (n : Nat) (M : Mem) (h : n ≤ 1000) : binT .Mult false (.tup [x]) (nT n) M = some (.tup (List.replicate n x), M) := by
  show (if 0 ≤ (n : Int) ∧ (n : Int) ≤ 1000 ∧ [x].length ≤ 1000 ∧ [x] ≠ [] then some (T.tup (List.replicate (n : Int).toNat [x]).flatten, M) else none) = _
  rw [if_pos ⟨by omega, by omega, by simp, by simp⟩, Int.toNat_natCast, rep_fl]
theorem tup_cat (a b : List T) (M : Mem) (h : a.length + b.length ≤ 16777216) : binT .Add false (.tup a) (.tup b) M = some (.tup (a ++ b), M) := by
  show (if a.length + b.length ≤ 16777216 then some (T.tup (a ++ b), M) else none) = _
  rw [if_pos h]
/-! ### without rows -/
def IsWR (F : Fn) : Prop := ∀ (gainsT : T) (gains : List Int) (M : Mem), sof M gainsT = some (gains.map T.int) → gains.length ≤ 1000 → ∃ a, F [gainsT] M = some (ansT a, M) ∧ Right [] [] gains a ∧ ∀ q ∈ a.nums, q = 0 ∨ q = 1
theorem dotQ_zero (as : List Int) : ∀ n, dotQ as (List.replicate n 0) = 0 := by
  induction as with
  | nil => intro n; simp [dotQ]
  | cons a as ih =>
    intro n
    cases n with
    | zero => simp [dotQ]
    | succ n =>
      have := ih n
      unfold dotQ at this ⊢
      rw [List.replicate_succ, List.zipWith_cons_cons, List.sum_cons, this, Rat.mul_zero, Rat.zero_add]
theorem dotQ_nil (qs : List Rat) : dotQ [] qs = 0 := by simp [dotQ]
theorem dotQ_nil2 (as : List Int) : dotQ as [] = 0 := by simp [dotQ]
theorem dotQ_unit {as : List Int} {n c : Nat} (hl : as.length = n) (hc : c < n) : dotQ as ((List.replicate n 0).set c 1) = (gt as c : Rat) := by
  rw [dotQ_sR _ _ n hl (by simp), sR_one (r := c) hc fun k hk hne => by rw [gq_set _ _ _ _ (by simpa using hc), if_neg hne, gq_rep _ _ _ hk, Rat.mul_zero], gq_set _ _ _ _ (by simpa using hc), if_pos rfl, Rat.mul_one]
theorem sp_wr (hn : HasN G) : IsWR (runD G Lib.without_rows) := by
  intro gainsT gains M hg h1000
  have b1 : biT .len [gainsT] M = some (nT gains.length, M) := by rw [len_sof hg, List.length_map]
  have b2 := tup_rep (ratT 0) gains.length M h1000
  have hst : T.tup (List.replicate gains.length (ratT 0)) = tupQ (List.replicate gains.length 0) := by unfold tupQ; rw [List.map_replicate]
  rw [hst] at b2
  have hn' : G.glbs.lookup (Str.ofString "NOUGHT") = some (ratT 0) := hn
  obtain ⟨r, hr, q⟩ := fr_inv2 (G := G) (tg := .tp (.cons (.nm 2 "column") (.cons (.nm 3 "gain") .nil))) (b := [
    .ite (.cmp .Gt (.var 3 "gain") (.int 0)) [
      .ret (.tup (.cons (.str "any") (.cons (.var 1 "still") (.cons (.bin .Add false (.bin .Add false (.slc false (.var 1 "still") .nopart (.var 2 "column")) (.tup (.cons (.tup (.cons (.int 1) (.cons (.int 1) .nil))) .nil))) (.slc false (.var 1 "still") (.bin .Add false (.var 2 "column") (.int 1)) .nopart)) .nil))))] []]) (g := grdOf gainsT (gains.map T.int)) (xs := enumL 0 (gains.map T.int))
    (σ := [some gainsT, some (tupQ (List.replicate gains.length 0)), none, none]) (M := M)
    (fun i σ M' => M' = M ∧ (∃ z1 z2, σ = [some gainsT, some (tupQ (List.replicate gains.length 0)), z1, z2]) ∧ ∀ j, j < i → gt gains j ≤ 0)
    (fun r => (∃ c, r = .rt (ansT (.any (List.replicate gains.length 0) ((List.replicate gains.length 0).set c 1))) M ∧ c < gains.length ∧ 0 < gt gains c) ∨ (∃ z1 z2, r = .nx [some gainsT, some (tupQ (List.replicate gains.length 0)), z1, z2] M ∧ ∀ j, j < gains.length → gt gains j ≤ 0))
    ⟨rfl, ⟨_, _, rfl⟩, fun j h => by omega⟩ (fun i σ M' h => by rw [h.1]; exact sof_grd hg) (fun i x σ M' hx ⟨hM, ⟨z1, z2, hz⟩, hj⟩ => by
      subst hM; subst hz
      obtain ⟨t, ht, rfl⟩ := enum_get hx
      obtain ⟨v, hv, rfl⟩ := map_get ht
      have hi : i < gains.length := (List.getElem?_eq_some_iff.mp hv).1
      have ev : v = gt gains i := by unfold gt; rw [List.getD_eq_getElem?_getD, hv]; rfl
      subst ev
      refine ⟨[some gainsT, some (tupQ (List.replicate gains.length 0)), some (nT i), some (.int (gt gains i))], by simp, ?_⟩
      by_cases h : 0 < gt gains i
      · refine .inr (.inl ⟨_, M', ?_, .inl ⟨i, rfl, hi, h⟩⟩)
        have c1 : slT false (tupQ (List.replicate gains.length 0)) none (some (i : Int)) M' = some (tupQ (List.replicate i 0), M') := by
          show some (T.tup (cutT _ _ _), M') = _
          rw [cut_lo, ← List.map_take, List.take_replicate, Nat.min_eq_left (by omega)]; rfl
        have c2 : slT false (tupQ (List.replicate gains.length 0)) (some ((i : Int) + 1)) none M' = some (tupQ (List.replicate (gains.length - (i + 1)) 0), M') := by
          show some (T.tup (cutT _ _ _), M') = _
          rw [show (i : Int) + 1 = ((i + 1 : Nat) : Int) by omega, cut_hi, ← List.map_drop, List.drop_replicate]; rfl
        have c3 : binT .Add false (tupQ (List.replicate i 0)) (.tup [.tup [.int 1, .int 1]]) M' = some (tupQ (List.replicate i 0 ++ [1]), M') := by
          unfold tupQ
          rw [tup_cat _ _ _ (by simp; omega), List.map_append]; rfl
        have c4 : binT .Add false (tupQ (List.replicate i 0 ++ [1])) (tupQ (List.replicate (gains.length - (i + 1)) 0)) M' = some (tupQ ((List.replicate gains.length 0).set i 1), M') := by
          unfold tupQ
          rw [tup_cat _ _ _ (by simp; omega), ← List.map_append]
          congr 4
          rw [List.set_eq_take_append_cons_drop, if_pos (by simpa using hi), List.take_replicate, List.drop_replicate, Nat.min_eq_left (by omega)]
          simp
        have c0 : prtT (nT i) = some (some (i : Int)) := rfl
        have c5 : binT .Add false (nT i) (.int 1) M' = some (.int ((i : Int) + 1), M') := rfl
        simp only [xs_cons, x_ite, e_cmp, e_var, e_int, x_ret, e_tup, es_cons, es_nil, e_bin, e_slc, p_no, p_var, p_bin, e_str]
        simp [h, c0, c1, c2, c3, c4, c5, ansT]
      · refine .inl ⟨[some gainsT, some (tupQ (List.replicate gains.length 0)), some (nT i), some (.int (gt gains i))], M', .inl (by simp [h]), rfl, ⟨_, _, rfl⟩, fun j hj' => ?_⟩
        by_cases e : j = i
        · subst e; omega
        · exact hj j (by omega)) (fun σ M' ⟨hM, ⟨z1, z2, hz⟩, hj⟩ => by
      subst hM; subst hz
      exact .inr ⟨z1, z2, rfl, fun j h => hj j (by rw [enumL_len, List.length_map]; exact h)⟩)
  have fit0 : ∀ (sides : List Int) (x : List Rat), (∀ q ∈ x, (0 : Rat) ≤ q) → Fit [] sides x := fun sides x h => ⟨h, fun i hi => by simp at hi⟩
  have z0 : ∀ q ∈ List.replicate gains.length (0 : Rat), (0 : Rat) ≤ q := fun q hq => by rw [(List.mem_replicate.mp hq).2]; exact Rat.le_refl
  rcases q with ⟨c, rfl, hc, hp⟩ | ⟨z1, z2, rfl, hj⟩
  · have m1 : ∀ q ∈ (List.replicate gains.length (0 : Rat)).set c 1, q = 0 ∨ q = 1 := fun q hq => by
      rcases List.mem_or_eq_of_mem_set hq with h | h
      · exact .inl (List.mem_replicate.mp h).2
      · exact .inr h
    refine ⟨.any (List.replicate gains.length 0) ((List.replicate gains.length 0).set c 1), run_same rfl (pure_ansT _) rfl ?_, ⟨by simp, by simp, fit0 _ _ z0, fit0 _ _ fun q hq => ?_, ?_⟩, fun q hq => ?_⟩
    · simp [Lib.without_rows, startE, hn', b1, b2, hg, hr]
    · rcases m1 q hq with rfl | rfl
      · exact Rat.le_refl
      · decide +kernel
    · rw [dotQ_unit rfl hc]
      exact cast_d hp
    · rcases List.mem_append.mp hq with h | h
      · exact .inl (List.mem_replicate.mp h).2
      · exact m1 q h
  · refine ⟨.most (List.replicate gains.length 0) [], run_same rfl (pure_ansT _) rfl ?_, ⟨by simp, rfl, fit0 _ _ z0, fun j hj' => ?_, ?_⟩, fun q hq => ?_⟩
    · have : ansT (.most (List.replicate gains.length 0) []) = .tup [.str "most", tupQ (List.replicate gains.length 0), .tup []] := rfl
      rw [this]
      simp [Lib.without_rows, startE, hn', b1, b2, hg, hr]
    · rw [dotQ_nil2]
      have h1 := hj j hj'
      have h2 : ((gt gains j : Int) : Rat) ≤ ((0 : Int) : Rat) := Rat.intCast_le_intCast.mpr h1
      exact h2
    · rw [dotQ_zero, dotQ_nil]
    · rcases List.mem_append.mp hq with h | h
      · exact .inl (List.mem_replicate.mp h).2
      · cases h
end Mi
end L2

/-! maximize: all joined. -/
namespace L2
namespace Mi
open PySem PySem.Spec PyProof.Rows
variable {G : Sig}
structure MaxIn (rows : List (List Int)) (sides gains : List Int) (C Cg : Nat) : Prop where
  sl : sides.length = rows.length
  rw_ : ∀ r ∈ rows, r.length = gains.length
  few : rows.length + gains.length < 1000
  cr : ∀ r ∈ rows, ∀ x ∈ r, x.natAbs ≤ C
  cs : ∀ x ∈ sides, x.natAbs ≤ C
  c1 : 1 ≤ C
  cg : ∀ x ∈ gains, x.natAbs ≤ Cg
  g1 : 1 ≤ Cg
  big : (rows.length + 1) * (Cg * (rows.length * C) ^ rows.length) < 2 ^ KB
theorem Inv_congr {m N : Nat} {X : Nat → Nat → Int} {s s' : Lp.St} (I : Lp.Inv m N X s) (hb : ∀ k, k < m → s.b k = s'.b k) (hd : s.d = s'.d) (hx : ∀ k, k < m → ∀ j, j < N → s.x k j = s'.x k j) : Lp.Inv m N X s' := by
  obtain ⟨e, he, h⟩ := I.det
  refine ⟨by rw [← hd]; exact I.dp, ⟨e, he, by rw [← Lp.Bs_cong hb, ← hd]; exact h⟩, fun i hi j hj => ?_, fun k hk => by rw [← hb k hk]; exact I.bl k hk⟩
  rw [← hd, I.sys i hi j hj]
  exact Lp.sI_congr fun k hk => by rw [hb k hk, hx k hk j hj]
theorem gt_le {l : List Int} {C : Nat} (h : ∀ x ∈ l, x.natAbs ≤ C) (k : Nat) : (gt l k).natAbs ≤ C := by
  unfold gt
  rw [List.getD_eq_getElem?_getD]
  cases e : l[k]? with
  | none => simp
  | some x => exact h x (List.mem_of_getElem? e)
section
variable {rows : List (List Int)} {sides gains : List Int} {C Cg : Nat}
theorem MaxIn.ini (I : MaxIn rows sides gains C Cg) {i j : Nat} (hi : i < rows.length) : (X0 rows sides i j).natAbs ≤ C := by
  have hr : ∀ x ∈ rows.getD i [], x.natAbs ≤ C := by
    rw [List.getD_eq_getElem?_getD, List.getElem?_eq_getElem hi]
    exact I.cr _ (List.getElem_mem ..)
  have c1 := I.c1
  unfold X0
  refine gt_le (fun x hx => ?_) j
  unfold irow at hx
  rcases List.mem_append.mp hx with hx | hx
  · rcases List.mem_append.mp hx with hx | hx
    · obtain ⟨y, hy, rfl⟩ := List.mem_map.mp hx
      have := (sg_mul (m := rows.length) I.sl hi).2
      rw [Int.natAbs_mul, Lp.e_ab this, Nat.one_mul]
      exact hr y hy
    · obtain ⟨y, hy, rfl⟩ := List.mem_map.mp hx
      split <;> simp <;> omega
  · rw [List.mem_singleton.mp hx]
    simp only [Int.natAbs_natCast]
    exact gt_le I.cs i
theorem MaxIn.C_small (I : MaxIn rows sides gains C Cg) (h : rows ≠ []) : C < 2 ^ KB ∧ Cg < 2 ^ KB ∧ (rows.length * C) ^ rows.length < 2 ^ KB := by
  have hm : 0 < rows.length := List.length_pos_iff.mpr h
  have b := I.big
  have c1 := I.c1
  have g1 := I.g1
  have hmC : C ≤ rows.length * C := Nat.le_mul_of_pos_left C hm
  have h1 : C ≤ (rows.length * C) ^ rows.length := Nat.le_trans hmC (Nat.le_self_pow (by omega) _)
  have h2 : (rows.length * C) ^ rows.length ≤ Cg * (rows.length * C) ^ rows.length := Nat.le_mul_of_pos_left _ g1
  have h3 : Cg * (rows.length * C) ^ rows.length ≤ (rows.length + 1) * (Cg * (rows.length * C) ^ rows.length) := Nat.le_mul_of_pos_left _ (by omega)
  have h4 : Cg ≤ Cg * (rows.length * C) ^ rows.length := Nat.le_mul_of_pos_right _ (Nat.lt_of_lt_of_le c1 h1)
  omega
theorem MaxIn.sys (I : MaxIn rows sides gains C Cg) (h : rows ≠ []) {g : Nat → Int} (hg : ∀ j, (g j).natAbs ≤ Cg) : Sys (X0 rows sides) rows.length (gains.length + rows.length + 1) gains.length g := by
  have hf := I.few
  refine ⟨by omega, by omega, by omega, fun i hi k hk => X0_u rfl I.rw_ hi hk, C, Cg, fun i hi j _ => I.ini hi, fun j _ => hg j, (I.C_small h).2.2, ?_⟩
  have := I.big
  rw [Nat.add_mul, Nat.one_mul] at this
  exact this
theorem sma_le {l : List Int} (h : ∀ x ∈ l, x.natAbs ≤ C) (hC : C < 2 ^ KB) : Sma l := fun x hx => Nat.lt_of_le_of_lt (h x hx) hC
end
/-- the answer's numbers over one divisor -/
theorem over_price {X : Nat → Nat → Int} {m N w : Nat} {g : Nat → Int} {s : TS} {B : Nat} (Q : Gd X m N g s) {taken : Int} (hB : ∀ i, i < m → (gt s.top (s.w + i) - taken * s.scale).natAbs ≤ B) (hsg : ∀ i, (gt s.signs i).natAbs ≤ 1) : Over s.scale.natAbs B (priceL s m taken) := by
  intro q hq
  obtain ⟨i, hi, rfl⟩ := List.mem_map.mp hq
  have hd := Q.I.dp
  have hd' : (0 : Int) < s.scale := hd
  refine ⟨_, by rw [Int.natAbs_of_nonneg (by omega)], ?_⟩
  rw [Int.natAbs_mul]
  have h1 := hsg i
  have h2 := hB i (List.mem_range.mp hi)
  have : (gt s.signs i).natAbs * (gt s.top (s.w + i) - taken * s.scale).natAbs ≤ 1 * B := Nat.mul_le_mul h1 h2
  omega
theorem over_val {X : Nat → Nat → Int} {m N : Nat} {g : Nat → Int} {s : TS} {B : Nat} (Q : Gd X m N g s) {z b0 : Nat → Int} {qs : List Rat} (hv : ValAt s m (fun k => (z k : Rat) / (s.scale : Rat)) (fun j => (b0 j : Rat)) qs) (hz : ∀ k, k < m → (z k).natAbs ≤ B) (hb : ∀ j, (b0 j).natAbs ≤ 1) (hBd : s.scale.natAbs ≤ B) : Over s.scale.natAbs B qs := by
  intro q hq
  have hd : (0 : Int) < s.scale := Q.I.dp
  have hd0 : (s.scale : Rat) ≠ 0 := Rat.ne_of_gt (cast_d hd)
  obtain ⟨j, hj, e⟩ := List.mem_iff_getElem.mp hq
  have eq : gq qs j = q := by unfold gq; rw [List.getD_eq_getElem?_getD, List.getElem?_eq_getElem hj, ← e]; rfl
  rw [hv.1] at hj
  rw [Int.natAbs_of_nonneg (by omega)]
  by_cases h : ∃ k, k < m ∧ s.b k = j
  · obtain ⟨k, hk, hb⟩ := h
    exact ⟨z k, by rw [← eq, (hv.2 j hj).1 k hk hb], hz k hk⟩
  · refine ⟨b0 j * s.scale, ?_, ?_⟩
    · rw [← eq, (hv.2 j hj).2 fun k hk q => h ⟨k, hk, q⟩, Rat.intCast_mul]; grind
    · rw [Int.natAbs_mul]
      have := Nat.mul_le_mul (hb j) hBd
      omega
/-- shape behind the start -/
theorem ini_row {rows : List (List Int)} {sides : List Int} {w k : Nat} (hk : k < rows.length) : (ini rows sides w).row k = irow rows sides k := by
  rw [TS.row, List.getD_eq_getElem?_getD]
  show (((List.range rows.length).map (irow rows sides))[k]?).getD [] = _
  rw [List.getElem?_map, List.getElem?_range hk]; rfl
theorem ini_b {rows : List (List Int)} {sides : List Int} {w k : Nat} (hk : k < rows.length) : (ini rows sides w).b k = w + k := by
  rw [TS.b, List.getD_eq_getElem?_getD]
  show (((List.range rows.length).map fun k => w + k)[k]?).getD 0 = _
  rw [List.getElem?_map, List.getElem?_range hk]; rfl
theorem irow_len {rows : List (List Int)} {sides : List Int} {w k : Nat} (hw : ∀ r ∈ rows, r.length = w) (hk : k < rows.length) : (irow rows sides k).length = w + rows.length + 1 := by
  have hr : (rows.getD k []).length = w := by
    rw [List.getD_eq_getElem?_getD, List.getElem?_eq_getElem hk]
    exact hw _ (List.getElem_mem ..)
  unfold irow
  rw [List.length_append, List.length_append, scl_len, unl_len, hr]; rfl
/-- the gains of the first and of the second climb -/
def g1 (w m : Nat) : List Int := List.replicate w 0 ++ List.replicate m (-1)
def g2 (gains : List Int) (m : Nat) : List Int := gains ++ List.replicate m 0
theorem gt_rep (n : Nat) (x : Int) (k : Nat) : gt (List.replicate n x) k = if k < n then x else 0 := by
  unfold gt
  rw [List.getD_eq_getElem?_getD, List.getElem?_replicate]
  split <;> rfl
theorem g1_lo {w m j : Nat} (h : j < w) : gt (g1 w m) j = 0 := by
  unfold g1
  rw [gt_append, if_pos (by simpa using h), gt_rep, if_pos h]
theorem g1_hi {w m j : Nat} (h : j < m) : gt (g1 w m) (w + j) = -1 := by
  unfold g1
  rw [gt_append, if_neg (by simp), List.length_replicate, Nat.add_sub_cancel_left, gt_rep, if_pos h]
theorem g1_out {w m : Nat} : gt (g1 w m) (w + m) = 0 := gt_out _ _ (by simp [g1])
theorem g1_abs {w m : Nat} (j : Nat) : (gt (g1 w m) j).natAbs ≤ 1 := gt_le (fun x hx => by
  rcases List.mem_append.mp hx with h | h <;> rw [(List.mem_replicate.mp h).2] <;> simp) j
theorem g2_lo {gains : List Int} {m j : Nat} (h : j < gains.length) : gt (g2 gains m) j = gt gains j := by
  unfold g2
  rw [gt_append, if_pos h]
theorem g2_hi {gains : List Int} {m j : Nat} (h : gains.length ≤ j) : gt (g2 gains m) j = 0 := by
  unfold g2
  rw [gt_append, if_neg (by omega), gt_rep]
  split <;> rfl
theorem g2_abs {gains : List Int} {m Cg : Nat} (hc : ∀ x ∈ gains, x.natAbs ≤ Cg) (j : Nat) : (gt (g2 gains m) j).natAbs ≤ Cg := gt_le (fun x hx => by
  rcases List.mem_append.mp hx with h | h
  · exact hc x h
  · rw [(List.mem_replicate.mp h).2]; simp) j
/-- the gains' row is set anew -/
theorem regain {X : Nat → Nat → Int} {m N w : Nat} {g g' : Nat → Int} {s : TS} {t : List Int} (Y : Sys X m N w g') (S : Shp s m N) (I : Lp.Inv m N X s.st) (htl : t.length = N) (ht : ∀ j, j < N → gt t j = Lp.sI m (fun k => g' (s.b k) * s.x k j) - g' j * s.scale) : Gd X m N g' { s with top := t } :=
  gd_of Y S.rl S.rw_ S.bl S.wN I htl fun j hj => ht j hj
/-- what the second climb keeps -/
def Kp (s : TS) (m w L : Nat) : Prop := ∀ k, k < m → s.b k < w + m ∧ (w ≤ s.b k → (∀ j, j < w → s.x k j = 0) ∧ s.x k L = 0)
theorem kp_step {X : Nat → Nat → Int} {m N w : Nat} {g : Nat → Int} (Y : Sys X m N w g) {s s' : TS} (Q : Gd X m N g s) (hw : s.w = w) (K : Kp s m w (N - 1)) (h : Step m N s s') : Kp s' m w (N - 1) := by
  obtain ⟨r, c, h1, h2, rfl⟩ := h
  have wN := Y.wN
  have hc : c < w := by have := h1.1; omega
  have hcN : c < N := by omega
  have hr := h2.1
  have hp := h2.2.1
  have hbr : s.b r < w := by
    by_cases h : w ≤ s.b r
    · have := ((K r hr).2 h).1 c hc; omega
    · omega
  intro k hk
  rw [piv_b Q hr hcN (by omega) hk]
  by_cases e : k = r
  · rw [if_pos e]; exact ⟨by omega, fun q => by omega⟩
  · rw [if_neg e]
    refine ⟨(K k hk).1, fun q => ?_⟩
    obtain ⟨a1, a2⟩ := (K k hk).2 q
    exact ⟨fun j hj => piv_zero Q hr hcN (by omega) hk e (by omega) (.inl (a1 c hc)) (a1 j hj), piv_zero Q hr hcN (by omega) hk e (by omega) (.inl (a1 c hc)) a2⟩
theorem bd_step {X : Nat → Nat → Int} {m N w : Nat} {g : Nat → Int} (Y : Sys X m N w g) {s s' : TS} (Q : Gd X m N g s) (hw : s.w = w) (K : ∀ k, k < m → s.b k < w + m) (h : Step m N s s') : ∀ k, k < m → s'.b k < w + m := by
  obtain ⟨r, c, h1, h2, rfl⟩ := h
  have wN := Y.wN
  have hc : c < w := by have := h1.1; omega
  intro k hk
  rw [piv_b Q h2.1 (by omega) (by have := h2.2.1; omega) hk]
  split
  · omega
  · exact K k hk
end Mi
end L2

/-! maximize. -/
namespace L2
namespace Mi
open PySem PySem.Spec PyProof.Rows
variable {G : Sig}
def bigN (m C Cg : Nat) : Nat := (m + 1) * (Cg * (m * C) ^ m)
def IsMax (F : Fn) : Prop := ∀ (rowsT sidesT gainsT : T) (rows : List (List Int)) (sides gains : List Int) (M : Mem) (C Cg : Nat), sof M rowsT = some (rows.map tlT) → sof M sidesT = some (sides.map T.int) → sof M gainsT = some (gains.map T.int) → MaxIn rows sides gains C Cg →
  ∃ a, F [rowsT, sidesT, gainsT] M = some (ansT a, M) ∧ Right rows sides gains a ∧ ∃ D, 0 < D ∧ D ≤ (rows.length * C) ^ rows.length ∧ Over D (bigN rows.length C Cg) a.nums
/-- the plain end of the first climb -/
theorem end1 {rows : List (List Int)} {sides : List Int} {w m : Nat} {s : TS} (hm : rows.length = m) (hw : ∀ r ∈ rows, r.length = w) (Q : Gd (X0 rows sides) m (w + m + 1) (gt (g1 w m)) s) (hb : ∀ k, k < m → s.b k < w + m) (F : Lp.Fea m (w + m) s.st) :
    (∀ c, c < w → (∀ k, k < m → s.x k c ≤ 0) → 0 ≤ gt s.top c) ∧ (0 ≤ gt s.top (w + m) → Zer s m w (w + m)) := by
  have hg : ∀ k, k < m → gt (g1 w m) (s.b k) = if s.b k < w then 0 else -1 := fun k hk => by
    split
    · exact g1_lo (by assumption)
    · have := hb k hk
      rw [show s.b k = w + (s.b k - w) by omega]
      exact g1_hi (by omega)
  refine ⟨fun c hc hx => ?_, fun ht k hk => ⟨hb k hk, fun hbk => ?_⟩⟩
  · have := Q.T c (by omega)
    rw [g1_lo hc, Int.zero_mul] at this
    rw [this]
    have : 0 ≤ Lp.sI m fun k => gt (g1 w m) (s.b k) * s.x k c := Lp.sI_nn fun k hk => by
      rw [hg k hk]
      have := hx k hk
      split <;> omega
    have e : (Lp.sI m fun k => gt (g1 w m) (s.st.b k) * s.st.x k c) = Lp.sI m fun k => gt (g1 w m) (s.b k) * s.x k c := rfl
    omega
  · have h1 := Q.T (w + m) (by omega)
    rw [g1_out, Int.zero_mul] at h1
    have e : (Lp.sI m fun k => gt (g1 w m) (s.st.b k) * s.st.x k (w + m)) = Lp.sI m fun k => gt (g1 w m) (s.b k) * s.x k (w + m) := rfl
    have h2 := Lp.sI_nn0 (n := m) (f := fun k => -(gt (g1 w m) (s.b k) * s.x k (w + m))) (fun k hk => by
      show 0 ≤ -(gt (g1 w m) (s.b k) * s.x k (w + m))
      rw [hg k hk]
      have := F k hk
      have this' : 0 ≤ s.x k (w + m) := this
      split <;> omega) (by rw [Lp.sI_neg]; omega) k hk
    have h2' : -(gt (g1 w m) (s.b k) * s.x k (w + m)) = 0 := h2
    rw [hg k hk, if_neg (by omega)] at h2'
    omega
theorem sp_max (hc : HasTab G) (hn : HasN G) (hwr : Knows G "without_rows" IsWR) (hi : KnowsI G "Table" IsInit) (hsg : KnowsM G "Table" "set_gains" IsGains) (hcl : KnowsM G "Table" "climb" IsClimb) (hse : KnowsM G "Table" "settle" IsSettle)
    (hpr : KnowsM G "Table" "prices" IsPrices) (hth : KnowsM G "Table" "tuple_here" IsHere) (hra : KnowsM G "Table" "ray" IsRay) : IsMax (runD G Lib.maximize) := by
  intro rowsT sidesT gainsT rows sides gains M0 C Cg hr hs hg I
  obtain ⟨Fw, lw, kw⟩ := hwr
  obtain ⟨Fi, li, ki⟩ := hi
  obtain ⟨Fg, lg, kg⟩ := hsg
  obtain ⟨Fc, lc, kc⟩ := hcl
  obtain ⟨Fs, ls, ks⟩ := hse
  obtain ⟨Fp, lp, kp⟩ := hpr
  obtain ⟨Fh, lh, kh⟩ := hth
  obtain ⟨Fr, lr, kr⟩ := hra
  have hf := I.few
  have tr := truth_sof hr
  by_cases hne : rows = []
  · subst hne
    obtain ⟨a, e, q, z⟩ := kw gainsT gains M0 hg (by omega)
    have hs0 : sides = [] := List.length_eq_zero_iff.mp (by rw [I.sl]; rfl)
    subst hs0
    refine ⟨a, run_same rfl (pure_ansT _) rfl ?_, q, 1, by omega, by simp, fun q hq => ?_⟩
    · have tr' : truth M0 rowsT = some false := tr
      simp [Lib.maximize, startE, tr', lw, e]
    · have g1 := I.g1
      have hB : 1 ≤ bigN 0 C Cg := by unfold bigN; simp; omega
      rcases z q hq with rfl | rfl
      · exact ⟨0, by decide +kernel, by simp⟩
      · exact ⟨1, by decide +kernel, hB⟩
  have hm0 : 0 < rows.length := List.length_pos_iff.mpr hne
  have sm := I.C_small hne
  generalize hm : rows.length = m at *
  generalize hwe : gains.length = w at *
  have rwl : ∀ r ∈ rows, r.length = w := fun r h => by rw [← hwe]; exact I.rw_ r h
  have ssl : sides.length = m := by rw [← hm]; exact I.sl
  have tr' : truth M0 rowsT = some true := by
    rw [tr]
    cases rows with
    | nil => exact absurd rfl hne
    | cons r rs => rfl
  have smr : ∀ r ∈ rows, Sma r := fun r h => sma_le (I.cr r h) sm.1
  -- the start
  have e1 := ki rowsT sidesT rows sides w M0 hr hs hne (by rw [ssl, hm]) rwl (by omega) smr
  generalize hs0 : ini rows sides w = s0 at e1
  have A0 := At.of0 s0 M0
  have w0 : s0.w = w := by rw [← hs0]; rfl
  have sg0 : s0.signs = sgs sides := by rw [← hs0]; rfl
  have Y1 : Sys (X0 rows sides) m (w + m + 1) w (gt (g1 w m)) := by
    have := I.sys hne (g := gt (g1 w m)) fun j => Nat.le_trans (g1_abs j) I.g1
    rw [hm, hwe] at this
    exact this
  have Y2 : Sys (X0 rows sides) m (w + m + 1) w (gt (g2 gains m)) := by
    have := I.sys hne (g := gt (g2 gains m)) fun j => g2_abs I.cg j
    rw [hm, hwe] at this
    exact this
  have b0 : ∀ k, k < m → s0.b k = w + k := fun k hk => by rw [← hs0]; exact ini_b (by omega)
  have x0 : ∀ k, k < m → ∀ j, s0.x k j = X0 rows sides k j := fun k hk j => by rw [← hs0, TS.x, ini_row (by omega)]; rfl
  have In0 : Lp.Inv m (w + m + 1) (X0 rows sides) s0.st := Inv_congr (Lp.Inv.start (w := w) (by omega) Y1.uni) (fun k hk => (b0 k hk).symm) (by rw [← hs0]; rfl) fun k hk j hj => (x0 k hk j).symm
  have S0 : Shp s0 m (w + m + 1) := by
    refine ⟨by rw [← hs0]; show (List.map _ _).length = m; simp [hm], fun r h => ?_, by rw [← hs0]; show (List.map _ _).length = m; simp [hm], fun r h => ?_, by rw [← hs0]; exact sm_one, by rw [← hs0]; show (1 : Int) ≠ 0; decide, by omega, by omega, by omega⟩
    · rw [← hs0] at h
      obtain ⟨k, hk, rfl⟩ := List.mem_map.mp h
      rw [irow_len rwl (List.mem_range.mp hk), hm]
    · rw [← hs0] at h
      obtain ⟨k, hk, rfl⟩ := List.mem_map.mp h
      refine sma_le (C := C) (fun x hx => ?_) sm.1
      obtain ⟨j, _, rfl⟩ := mem_gt hx
      exact I.ini (List.mem_range.mp hk)
  have hg1l : (g1 w m).length + 1 = w + m + 1 := by simp [g1]
  have hg1s : Sma (g1 w m) := fun x hx => by
    rcases List.mem_append.mp hx with h | h <;> rw [(List.mem_replicate.mp h).2]
    · show (0 : Int).natAbs < _; exact Nat.pow_pos (by decide)
    · exact Sm.neg sm_one
  obtain ⟨t1, e2, tl1, ht1⟩ := kg s0 M0 m (w + m + 1) (g1 w m) S0 hg1l hg1s (fun k hk => by rw [b0 k hk]; omega)
  generalize hs1 : ({ s0 with top := t1 } : TS) = s1 at e2
  have Q1 : Gd (X0 rows sides) m (w + m + 1) (gt (g1 w m)) s1 := by rw [← hs1]; exact regain (g := fun _ => 0) Y1 S0 In0 tl1 ht1
  have w1 : s1.w = w := by rw [← hs1]; exact w0
  have sg1 : s1.signs = sgs sides := by rw [← hs1]; exact sg0
  have F1 : Lp.Fea m (w + m + 1 - 1) s1.st := fun k hk => by
    show 0 ≤ s1.x k (w + m)
    have : s1.x k (w + m) = X0 rows sides k (w + m) := by rw [← hs1]; exact x0 k hk _
    rw [this, X0_s hm rwl hk]; omega
  have B1 : ∀ k, k < m → s1.b k < w + m := fun k hk => by
    have : s1.b k = w + k := by rw [← hs1]; exact b0 k hk
    omega
  -- the first climb
  obtain ⟨o1, s2, e3, Q2, F2, sa2, B2, En2⟩ := kc (X0 rows sides) m (w + m + 1) w (gt (g1 w m)) (fun s => ∀ k, k < m → s.b k < w + m) s1 M0 Y1 Q1 w1 F1 B1 fun s s' q1 q2 q3 q4 q5 => bd_step Y1 q1 q3 q4 q5
  rw [Nat.add_sub_cancel] at F2
  have w2 : s2.w = w := by rw [sa2.1, w1]
  have sg2 : s2.signs = sgs sides := by rw [sa2.2, sg1]
  obtain ⟨n1, n2⟩ := end1 hm rwl Q2 B2 F2
  have ho1 : o1 = none := by
    cases o1 with
    | none => rfl
    | some c =>
      obtain ⟨a1, a2, a3⟩ := En2
      have := n1 c (by omega) a3
      omega
  subst ho1
  have top2 : ∀ j, j < w → 0 ≤ gt s2.top j := fun j hj => En2 j (by omega)
  -- the text up to here
  have f1 : biT .len [rowsT] (M0 ++ s0.mem M0.length) = some (nT m, M0 ++ s0.mem M0.length) := by rw [len_sof (sof_app hr _), List.length_map, hm]
  have f2 := A0.width hc
  rw [w0] at f2
  have f3 : binT .Mult false (.fl [.int 0]) (nT w) (M0 ++ s0.mem M0.length) = some (ilT (List.replicate w 0), M0 ++ s0.mem M0.length) := by
    rw [bin_rep false (by simp; omega) (by omega), rep_fl]
    show some (T.fl _, _) = _
    rw [← List.map_replicate]; rfl
  have f4 : binT .Mult false (.fl [.int (-1)]) (nT m) (M0 ++ s0.mem M0.length) = some (ilT (List.replicate m (-1)), M0 ++ s0.mem M0.length) := by
    rw [bin_rep false (by simp; omega) (by omega), rep_fl]
    show some (T.fl _, _) = _
    rw [← List.map_replicate]; rfl
  have f5 : binT .Add false (ilT (List.replicate w 0)) (ilT (List.replicate m (-1))) (M0 ++ s0.mem M0.length) = some (ilT (g1 w m), M0 ++ s0.mem M0.length) := bin_il _ _ _ (by simp; omega)
  have i0 := insOk_tab (s := s0) (M0 := M0) (m := "set_gains") (by decide)
  have i1 := insOk_tab (s := s1) (M0 := M0) (m := "climb") (by decide)
  have e3' : Fc [.obj M0.length] (M0 ++ s1.mem M0.length) = some (.non, M0 ++ s2.mem M0.length) := e3
  have A2 := At.of0 s2 M0
  have g1' := A2.top hc
  have g2' : ixT (ilT s2.top) (.int (-1)) (M0 ++ s2.mem M0.length) = some (.int (gt s2.top (w + m))) := by
    rw [ix_il_last _ _ (fun e => by have := Q2.tl; rw [e] at this; simp at this), Q2.tl]; rfl
  have Z2 : ∀ {q : Rat} {D B : Nat} {qs : List Rat}, True := trivial
  have finL : ∀ (s : TS) (L : List O) (t : T), pureT t = true → fin true M0 t (M0 ++ L) = (t, M0) := fun s L t h => fin_pure M0 t L h
  obtain ⟨dA, xA⟩ := Q2.I.abs (C := C) (fun i hi j _ => I.ini (by omega))
  have tAb : ∀ {g : Nat → Int} {s : TS}, Gd (X0 rows sides) m (w + m + 1) g s → ∀ {c : Nat}, (∀ j, (g j).natAbs ≤ c) → c ≤ Cg → ∀ l, l < w + m + 1 → (gt s.top l + g l * s.scale).natAbs ≤ bigN m C Cg := fun {g s} Q {c} hgc hcc l hl => by
    have h1 := Q.T l hl
    have h1' : gt s.top l + g l * s.scale = Lp.sI m fun k => g (s.b k) * s.x k l := by
      have : gt s.top l = (Lp.sI m fun k => g (s.b k) * s.x k l) - g l * s.scale := h1
      omega
    obtain ⟨_, xB⟩ := Q.I.abs (C := C) (fun i hi j _ => I.ini (by omega))
    rw [h1']
    refine Nat.le_trans (Lp.sI_abs (C := Cg * (m * C) ^ m) fun k hk => ?_) (Nat.mul_le_mul_right _ (by omega))
    rw [Int.natAbs_mul]
    exact Nat.mul_le_mul (Nat.le_trans (hgc _) hcc) (xB k hk l hl)
  have big1 : (m * C) ^ m ≤ bigN m C Cg := Nat.le_trans (Nat.le_mul_of_pos_left _ I.g1) (Nat.le_mul_of_pos_left _ (by omega))
  have sgA : ∀ {s : TS}, s.signs = sgs sides → ∀ i, (gt s.signs i).natAbs ≤ 1 := fun h i => by
    rw [h]
    exact gt_le (fun x hx => by obtain ⟨y, _, rfl⟩ := List.mem_map.mp hx; split <;> simp) i
  have sgL : (sgs sides).length = m := by simp [sgs, ssl]
  by_cases hneg : gt s2.top (w + m) < 0
  · -- nothing is fit
    have i2 := insOk_tab (s := s2) (M0 := M0) (m := "prices") (by decide)
    have e4 := kp s2 M0.length m (w + m + 1) _ 1 A2 Q2.S Q2.tl (by omega) (by rw [sg2, sgL]) (by rw [sg2]; exact sma_sgs _) Q2.ts (by decide)
    have hgm : ∀ i, i < m → gt (g1 w m) (w + i) = -1 := fun i hi => g1_hi hi
    refine ⟨.none (priceL s2 m 1), ?_, ⟨by simp [priceL, hm], fun j hj => ?_, ?_⟩, s2.scale.natAbs, ?_, dA, ?_⟩
    · have := run_pure (d := Lib.maximize) (G := G) (ts := [rowsT, sidesT, gainsT]) (M := M0) (M1 := s2.mem M0.length) rfl rfl (pure_ansT (.none (priceL s2 m 1))) ?_
      · exact this
      · have : ansT (.none (priceL s2 m 1)) = .tup [.str "none", tupQ (priceL s2 m 1)] := rfl
        rw [this]
        simp [Lib.maximize, startE, tr', li, e1, i0, f1, f2, f3, f4, f5, lg, e2, i1, lc, e3', g1', g2', hneg, i2, lp, e4]
    · have hj' : j < w := by simpa [hwe] using hj
      rw [price_col hm rwl ssl Q2 w2 sg2 hgm hj', gt_rep, g1_lo hj', Int.zero_mul, Int.add_zero]
      have h1 : ((if j < gains.length then (0 : Int) else 0 : Int) : Rat) = 0 := by split <;> rfl
      rw [h1]
      exact div_nn Q2.I.dp (top2 j hj')
    · rw [price_side hm rwl ssl Q2 w2 sg2 hgm, g1_out, Int.zero_mul, Int.add_zero]
      exact div_lt0 Q2.I.dp hneg
    · have : (0 : Int) < s2.scale := Q2.I.dp
      omega
    · refine over_price (w := 0) Q2 (fun i hi => ?_) (sgA sg2)
      rw [w2]
      have := tAb Q2 (c := 1) g1_abs I.g1 (w + i) (by omega)
      rw [hgm i hi] at this
      have e : gt s2.top (w + i) - 1 * s2.scale = gt s2.top (w + i) + -1 * s2.scale := by omega
      rw [e]; exact this
  -- settled
  obtain ⟨s3, e4, Q3, F3, sa3, Z3, D3⟩ := ks (X0 rows sides) m (w + m + 1) w (gt (g1 w m)) s2 M0 Y1 Q2 w2 (by rw [Nat.add_sub_cancel]; exact F2) (by rw [Nat.add_sub_cancel]; exact n2 (by omega))
  rw [Nat.add_sub_cancel] at F3 Z3
  have w3 : s3.w = w := by rw [sa3.1, w2]
  have sg3 : s3.signs = sgs sides := by rw [sa3.2, sg2]
  have hg2l : (g2 gains m).length + 1 = w + m + 1 := by simp [g2, hwe]
  have hg2s : Sma (g2 gains m) := fun x hx => by
    rcases List.mem_append.mp hx with h | h
    · exact Nat.lt_of_le_of_lt (I.cg x h) sm.2.1
    · rw [(List.mem_replicate.mp h).2]; show (0 : Int).natAbs < _; exact Nat.pow_pos (by decide)
  obtain ⟨t2, e5, tl2, ht2⟩ := kg s3 M0 m (w + m + 1) (g2 gains m) Q3.S hg2l hg2s (fun k hk => by have := (Z3 k hk).1; omega)
  generalize hs4 : ({ s3 with top := t2 } : TS) = s4 at e5
  have Q4 : Gd (X0 rows sides) m (w + m + 1) (gt (g2 gains m)) s4 := by rw [← hs4]; exact regain (g := fun _ => 0) Y2 Q3.S Q3.I tl2 ht2
  have w4 : s4.w = w := by rw [← hs4]; exact w3
  have sg4 : s4.signs = sgs sides := by rw [← hs4]; exact sg3
  have K4 : Kp s4 m w (w + m + 1 - 1) := by
    rw [← hs4, Nat.add_sub_cancel]
    exact fun k hk => ⟨(Z3 k hk).1, fun h => ⟨D3 k hk h, (Z3 k hk).2 h⟩⟩
  have F4 : Lp.Fea m (w + m + 1 - 1) s4.st := by rw [← hs4]; exact F3
  obtain ⟨o2, s5, e6, Q5, F5, sa5, K5, En5⟩ := kc (X0 rows sides) m (w + m + 1) w (gt (g2 gains m)) (fun s => Kp s m w (w + m + 1 - 1)) s4 M0 Y2 Q4 w4 F4 K4 fun s s' q1 q2 q3 q4 q5 => kp_step Y2 q1 q3 q4 q5
  rw [Nat.add_sub_cancel] at F5 K5
  have w5 : s5.w = w := by rw [sa5.1, w4]
  have sg5 : s5.signs = sgs sides := by rw [sa5.2, sg4]
  have A3 := At.of0 s3 M0
  have A5 := At.of0 s5 M0
  have i3 := insOk_tab (s := s2) (M0 := M0) (m := "settle") (by decide)
  have i4 := insOk_tab (s := s3) (M0 := M0) (m := "set_gains") (by decide)
  have i5 := insOk_tab (s := s4) (M0 := M0) (m := "climb") (by decide)
  have i6 := insOk_tab (s := s5) (M0 := M0) (m := "tuple_here") (by decide)
  have i7 := insOk_tab (s := s5) (M0 := M0) (m := "ray") (by decide)
  have i8 := insOk_tab (s := s5) (M0 := M0) (m := "prices") (by decide)
  have f6 : biT .len [rowsT] (M0 ++ s3.mem M0.length) = some (nT m, M0 ++ s3.mem M0.length) := by rw [len_sof (sof_app hr _), List.length_map, hm]
  have f7 : biT (.list false) [gainsT] (M0 ++ s3.mem M0.length) = some (ilT gains, M0 ++ s3.mem M0.length) := by
    show (sof _ _).map _ = _
    rw [sof_app hg]; rfl
  have f8 : binT .Mult false (.fl [.int 0]) (nT m) (M0 ++ s3.mem M0.length) = some (ilT (List.replicate m 0), M0 ++ s3.mem M0.length) := by
    rw [bin_rep false (by simp; omega) (by omega), rep_fl]
    show some (T.fl _, _) = _
    rw [← List.map_replicate]; rfl
  have f9 : binT .Add false (ilT gains) (ilT (List.replicate m 0)) (M0 ++ s3.mem M0.length) = some (ilT (g2 gains m), M0 ++ s3.mem M0.length) := bin_il _ _ _ (by simp; omega)
  obtain ⟨qx, e7, vx⟩ := kh s5 M0.length m (w + m + 1) _ A5 Q5.S Q5.inj
  rw [Nat.add_sub_cancel] at vx
  have d5 : (0 : Int) < s5.scale := Q5.I.dp
  have d5' := cast_d d5
  have d50 : (s5.scale : Rat) ≠ 0 := Rat.ne_of_gt d5'
  obtain ⟨dB, xB⟩ := Q5.I.abs (C := C) (fun i hi j _ => I.ini (by omega))
  have zx : ∀ k, k < m → w ≤ s5.b k → s5.x k (w + m) = 0 := fun k hk h => ((K5 k hk).2 h).2
  have qxl : qx.length = gains.length := by rw [vx.1, w5, hwe]
  have fitx : Fit rows sides qx := by
    refine ⟨fun q hq => ?_, fun i hi => here_row hm rwl ssl Q5 w5 zx vx (by omega)⟩
    obtain ⟨j, hj, e⟩ := List.mem_iff_getElem.mp hq
    have eq : gq qx j = q := by unfold gq; rw [List.getD_eq_getElem?_getD, List.getElem?_eq_getElem hj, ← e]; rfl
    rw [vx.1] at hj
    rw [← eq]
    by_cases h : ∃ k, k < m ∧ s5.b k = j
    · obtain ⟨k, hk, hb⟩ := h
      rw [(vx.2 j hj).1 k hk hb]
      exact div_nn d5 (F5 k hk)
    · rw [(vx.2 j hj).2 fun k hk q => h ⟨k, hk, q⟩]
      exact Rat.le_refl
  have ovx : Over s5.scale.natAbs (bigN m C Cg) qx := over_val (z := fun k => s5.x k (w + m)) (b0 := fun _ => 0) Q5 vx (fun k hk => Nat.le_trans (xB k hk _ (by omega)) big1) (fun _ => by simp) (Nat.le_trans dB big1)
  cases o2 with
  | some c =>
    obtain ⟨a1, a2, a3⟩ := En5
    have hcw : c < w := by omega
    have hcb : ∀ k, k < m → s5.b k ≠ c := fun k hk e => by
      have := Q5.T.base Q5.I hk
      have this' : gt s5.top (s5.b k) = 0 := this
      rw [e] at this'; omega
    obtain ⟨qr, e8, vr⟩ := kr s5 M0.length m (w + m + 1) _ c A5 Q5.S Q5.inj (by omega) hcb
    have zc : ∀ k, k < m → w ≤ s5.b k → s5.x k c = 0 := fun k hk h => ((K5 k hk).2 h).1 c hcw
    have vr' : ValAt s5 m (fun k => ((-s5.x k c : Int) : Rat) / (s5.scale : Rat)) (fun j => ((if j = c then 1 else 0 : Int) : Rat)) qr := by
      refine ⟨vr.1, fun j hj => ⟨(vr.2 j hj).1, fun h => ?_⟩⟩
      rw [(vr.2 j hj).2 h]
      show (if j = c then (1 : Rat) else 0) = ((if j = c then 1 else 0 : Int) : Rat)
      split <;> rfl
    have e6' : Fc [.obj M0.length] (M0 ++ s4.mem M0.length) = some (nT c, M0 ++ s5.mem M0.length) := e6
    refine ⟨.any qx qr, ?_, ⟨qxl, by rw [vr.1, w5, hwe], fitx, ⟨fun q hq => ?_, fun i hi => ?_⟩, ?_⟩, s5.scale.natAbs, by omega, dB, fun q hq => ?_⟩
    · refine run_pure (d := Lib.maximize) (G := G) (ts := [rowsT, sidesT, gainsT]) (M := M0) (M1 := s5.mem M0.length) rfl rfl (pure_ansT _) ?_
      have : ansT (.any qx qr) = .tup [.str "any", tupQ qx, tupQ qr] := rfl
      rw [this]
      simp [Lib.maximize, startE, tr', li, e1, i0, f1, f2, f3, f4, f5, lg, e2, i1, lc, e3', g1', g2', hneg, i3, ls, e4, i4, f6, f7, f8, f9, e5, i5, e6', i6, lh, e7, i7, lr, e8]
    · obtain ⟨j, hj, e⟩ := List.mem_iff_getElem.mp hq
      have eq : gq qr j = q := by unfold gq; rw [List.getD_eq_getElem?_getD, List.getElem?_eq_getElem hj, ← e]; rfl
      rw [vr.1] at hj
      rw [← eq]
      by_cases h : ∃ k, k < m ∧ s5.b k = j
      · obtain ⟨k, hk, hb⟩ := h
        rw [(vr.2 j hj).1 k hk hb]
        exact div_nn d5 (by have := a3 k hk; omega)
      · rw [(vr.2 j hj).2 fun k hk q => h ⟨k, hk, q⟩]
        show (0 : Rat) ≤ if j = c then 1 else 0
        split
        · decide +kernel
        · exact Rat.le_refl
    · rw [ray_row hm rwl ssl Q5 w5 hcw hcb zc vr (by omega), gt_rep]
      split <;> rfl
    · have hsum := sum_val (i := 0) Q5.inj vr fun j => (gt gains j : Rat)
      rw [w5] at hsum
      have hc0 : ¬∃ k, k < m ∧ s5.b k = c := fun ⟨k, hk, e⟩ => hcb k hk e
      rw [dotQ_sR _ _ w hwe (by rw [vr.1, w5]), hsum, sR_one (n := w) (r := c) hcw fun j hj hne => by rw [if_neg hne, Rat.mul_zero]; simp, if_neg hc0, if_pos rfl, Rat.mul_one]
      have h1 := Q5.T c (by omega)
      have h1' : gt s5.top c = (Lp.sI m fun k => gt (g2 gains m) (s5.b k) * s5.x k c) - gt (g2 gains m) c * s5.scale := h1
      rw [g2_lo (by omega)] at h1'
      have h2 : (sR m fun k => if s5.b k < w then (gt gains (s5.b k) : Rat) * (((-s5.x k c : Int) : Rat) / (s5.scale : Rat)) else 0) = -(((Lp.sI m fun k => gt (g2 gains m) (s5.b k) * s5.x k c : Int) : Rat) / (s5.scale : Rat)) := by
        have : -(((Lp.sI m fun k => gt (g2 gains m) (s5.b k) * s5.x k c : Int) : Rat) / (s5.scale : Rat)) = ((Lp.sI m fun k => gt (g2 gains m) (s5.b k) * s5.x k c : Int) : Rat) * (-(s5.scale : Rat)⁻¹) := by grind
        rw [this, sR_int, ← sR_mulr]
        refine sR_congr fun k hk => ?_
        by_cases hb : s5.b k < w
        · rw [if_pos hb, g2_lo (by omega), Rat.intCast_neg, Rat.intCast_mul]; grind
        · rw [if_neg hb, zc k hk (by omega), Int.mul_zero]; grind
      rw [h2]
      have h3 : (gt gains c : Rat) + -(((Lp.sI m fun k => gt (g2 gains m) (s5.b k) * s5.x k c : Int) : Rat) / (s5.scale : Rat)) = -((gt s5.top c : Rat) / (s5.scale : Rat)) := by
        rw [h1', Rat.intCast_sub, Rat.intCast_mul]; grind
      have h4 := div_lt0 d5 a2
      have h5 : (sR m fun k => if s5.b k < w then (gt gains (s5.b k) : Rat) * (((-s5.x k c : Int) : Rat) / (s5.scale : Rat)) else 0) + (gt gains c : Rat) = -((gt s5.top c : Rat) / (s5.scale : Rat)) := by rw [h2, ← h3]; grind
      rw [h2] at h5
      rw [h5]
      grind
    · rcases List.mem_append.mp hq with h | h
      · exact ovx q h
      · exact over_val (z := fun k => -s5.x k c) (b0 := fun j => if j = c then 1 else 0) Q5 vr' (fun k hk => by rw [Int.natAbs_neg]; exact Nat.le_trans (xB k hk _ (by omega)) big1) (fun j => by split <;> simp) (Nat.le_trans dB big1) q h
  | none =>
    have e6' : Fc [.obj M0.length] (M0 ++ s4.mem M0.length) = some (.non, M0 ++ s5.mem M0.length) := e6
    have hgm : ∀ i, i < m → gt (g2 gains m) (w + i) = -0 := fun i hi => g2_hi (by omega)
    have e8 := kp s5 M0.length m (w + m + 1) _ 0 A5 Q5.S Q5.tl (by omega) (by rw [sg5, sgL]) (by rw [sg5]; exact sma_sgs _) Q5.ts (by decide)
    refine ⟨.most qx (priceL s5 m 0), ?_, ⟨qxl, by simp [priceL, hm], fitx, fun j hj => ?_, ?_⟩, s5.scale.natAbs, by omega, dB, fun q hq => ?_⟩
    · refine run_pure (d := Lib.maximize) (G := G) (ts := [rowsT, sidesT, gainsT]) (M := M0) (M1 := s5.mem M0.length) rfl rfl (pure_ansT _) ?_
      have : ansT (.most qx (priceL s5 m 0)) = .tup [.str "most", tupQ qx, tupQ (priceL s5 m 0)] := rfl
      rw [this]
      simp [Lib.maximize, startE, tr', li, e1, i0, f1, f2, f3, f4, f5, lg, e2, i1, lc, e3', g1', g2', hneg, i3, ls, e4, i4, f6, f7, f8, f9, e5, i5, e6', i6, lh, e7, i8, lp, e8]
    · rw [price_col hm rwl ssl Q5 w5 sg5 hgm (by omega), g2_lo hj, Rat.intCast_add, Rat.intCast_mul]
      have h1 := div_nn d5 (En5 j (by omega))
      have : ((gt s5.top j : Rat) + (gt gains j : Rat) * (s5.scale : Rat)) / (s5.scale : Rat) = (gt s5.top j : Rat) / (s5.scale : Rat) + (gt gains j : Rat) := by grind
      rw [this]
      grind
    · rw [price_side hm rwl ssl Q5 w5 sg5 hgm, g2_hi (by omega), Int.zero_mul, Int.add_zero]
      have hsum := sum_val (i := 0) Q5.inj vx fun j => (gt gains j : Rat)
      rw [w5] at hsum
      rw [dotQ_sR _ _ w hwe (by rw [vx.1, w5]), hsum, sR_zero (n := w) fun j hj => by split <;> simp, Rat.add_zero]
      have h1 := Q5.T (w + m) (by omega)
      have h1' : gt s5.top (w + m) = (Lp.sI m fun k => gt (g2 gains m) (s5.b k) * s5.x k (w + m)) - gt (g2 gains m) (w + m) * s5.scale := h1
      rw [g2_hi (by omega), Int.zero_mul, Int.sub_zero] at h1'
      rw [h1', sR_int, Rat.div_def, ← sR_mulr]
      refine sR_congr fun k hk => ?_
      by_cases hb : s5.b k < w
      · rw [if_pos hb, g2_lo (by omega), Rat.intCast_mul]; grind
      · rw [if_neg hb, zx k hk (by omega), Int.mul_zero]; simp
    · rcases List.mem_append.mp hq with h | h
      · exact ovx q h
      · refine over_price (w := 0) Q5 (fun i hi => ?_) (sgA sg5) q h
        rw [w5]
        have := tAb Q5 (c := Cg) (g2_abs I.cg) (Nat.le_refl _) (w + i) (by omega)
        rw [hgm i hi] at this
        have e : gt s5.top (w + i) - 0 * s5.scale = gt s5.top (w + i) + -0 * s5.scale := by omega
        rw [e]; exact this
end Mi
end L2

/-! The law's own judging of answers of programs. -/
namespace L2
namespace Mi
open PySem PySem.Spec PyProof.Rows
variable {G : Sig}
def InD (D B : Nat) (q : Rat) : Prop := ∃ z : Int, q = (z : Rat) / ((D : Int) : Rat) ∧ z.natAbs ≤ B
section
variable {D B B' : Nat} {q r : Rat}
theorem InD.sz (h : InD D B q) (hD : 0 < D) : q.num.natAbs ≤ B ∧ q.den ≤ D := by
  obtain ⟨z, rfl, hz⟩ := h
  have := quo_num (n := z) (d := (D : Int)) (by omega)
  refine ⟨Nat.le_trans this.1 hz, by simpa using this.2⟩
theorem InD.add (h : InD D B q) (h' : InD D B' r) : InD D (B + B') (q + r) := by
  obtain ⟨z, rfl, hz⟩ := h
  obtain ⟨y, rfl, hy⟩ := h'
  refine ⟨z + y, ?_, Nat.le_trans (Int.natAbs_add_le _ _) (Nat.add_le_add hz hy)⟩
  rw [Rat.intCast_add]; grind
theorem InD.mul (h : InD D B q) {A : Nat} {a : Int} (ha : a.natAbs ≤ A) : InD D (A * B) ((a : Rat) * q) := by
  obtain ⟨z, rfl, hz⟩ := h
  refine ⟨a * z, ?_, by rw [Int.natAbs_mul]; exact Nat.mul_le_mul ha hz⟩
  rw [Rat.intCast_mul]; grind
theorem InD.mono (h : InD D B q) (hB : B ≤ B') : InD D B' q := by
  obtain ⟨z, e, hz⟩ := h; exact ⟨z, e, by omega⟩
theorem InD.zero (hD : 0 < D) : InD D B 0 := ⟨0, by
  have : ((D : Int) : Rat) ≠ 0 := cast_ne (by omega)
  have h0 : ((0 : Int) : Rat) = 0 := rfl
  rw [h0]; grind, by simp⟩
theorem InD.sq (h : InD D B q) (hD : 0 < D) {k : Nat} (h1 : D < 2 ^ k) (h2 : B < 2 ^ k) : Sq k q := by
  obtain ⟨a, b⟩ := h.sz hD
  refine ⟨Nat.lt_of_le_of_lt a h2, ?_⟩
  unfold Sm
  simp only [Int.natAbs_natCast]
  omega
theorem Over.at (h : Over D B [q]) : InD D B q := h q List.mem_cons_self
end
/-- the sizes that the law's numbers can have -/
structure LOk (D B : Nat) : Prop where
  d0 : 0 < D
  dd : D * D < 2 ^ 1900
  bb : B < 2 ^ 50000000
theorem LOk.dl {D B : Nat} (h : LOk D B) : D < 2 ^ 60000000 :=
  Nat.lt_of_le_of_lt (Nat.le_mul_of_pos_left _ h.d0) (Nat.lt_of_lt_of_le h.dd (Nat.pow_le_pow_right (by decide) (by decide)))
theorem LOk.sq {D B : Nat} (h : LOk D B) {q : Rat} (hq : InD D B q) : Sq 60000000 q := hq.sq h.d0 h.dl (Nat.lt_of_lt_of_le h.bb (Nat.pow_le_pow_right (by decide) (by decide)))
theorem LOk.dens {D B : Nat} (h : LOk D B) {B1 B2 : Nat} {q r : Rat} (hq : InD D B1 q) (hr : InD D B2 r) : Sm 1900 ((q.den : Int) * (r.den : Int)) := by
  have h1 := (hq.sz h.d0).2
  have h2 := (hr.sz h.d0).2
  unfold Sm
  rw [Int.natAbs_mul]
  simp only [Int.natAbs_natCast]
  exact Nat.lt_of_le_of_lt (Nat.mul_le_mul h1 h2) h.dd
def IsLTotal (F : Fn) : Prop := ∀ (t : T) (qs : List Rat) (M : Mem) (D B : Nat), sof M t = some (qs.map ratT) → (∀ q ∈ qs, InD D B q) → LOk D (qs.length * B) → F [t] M = some (ratT qs.sum, M)
theorem sum_take (l : List Rat) (i : Nat) (q : Rat) (h : l[i]? = some q) : (l.take (i + 1)).sum = (l.take i).sum + q := by
  rw [List.take_succ, h, List.sum_append]
  show _ + (q + 0) = _
  rw [Rat.add_zero]
theorem sp_ltotal (h : Knows G "_law_plus" (IsLOp (· + ·))) : IsLTotal (runD G Lib._law_total) := by
  intro t qs M D B ht hq hL
  obtain ⟨F, l1, k1⟩ := h
  obtain ⟨σ', M', hr, hM, z2, hz, hin⟩ := fr_inv (G := G) (tg := .nm 2 "_law_part") (b := [
    .set 1 "_law_found" (.call "_law_plus" (.cons (.var 1 "_law_found") (.cons (.var 2 "_law_part") .nil)))]) (g := grdOf t (qs.map ratT)) (xs := qs.map ratT) (σ := [some t, some (ratT 0), none]) (M := M)
    (fun i σ M' => M' = M ∧ ∃ z2, σ = [some t, some (ratT (qs.take i).sum), z2] ∧ (i ≤ qs.length → InD D (i * B) (qs.take i).sum))
    ⟨rfl, _, rfl, fun _ => by rw [List.take_zero]; exact .zero hL.d0⟩ (fun i σ M' h => by rw [h.1]; exact sof_grd ht) (fun i x σ M' hx ⟨hM, z2, hz, hin⟩ => by
      subst hM; subst hz
      obtain ⟨q, hqi, rfl⟩ := map_get hx
      have hi := (List.getElem?_eq_some_iff.mp hqi).1
      have q1 := hq q (List.mem_of_getElem? hqi)
      have s1 := hin (by omega)
      have hle : i * B ≤ qs.length * B := Nat.mul_le_mul_right _ (by omega)
      have hle2 : B ≤ qs.length * B := Nat.le_mul_of_pos_left _ (by omega)
      have e := k1 (qs.take i).sum q M' (hL.sq (s1.mono hle)) (hL.sq (q1.mono hle2)) (hL.dens s1 q1)
      have e' := sum_take qs i q hqi
      refine ⟨_, asg_nm .., [some t, some (ratT (qs.take (i + 1)).sum), some (ratT q)], M', .inl (by rw [e']; simp [l1, e]), rfl, _, rfl, fun _ => ?_⟩
      rw [e', Nat.succ_mul]
      exact s1.add q1)
  subst hM; subst hz
  rw [List.length_map, List.take_length] at hr
  refine run_same rfl (ratT_pure _) rfl ?_
  have z0 : T.tup [T.int 0, T.int 1] = ratT 0 := rfl
  simp [Lib._law_total, startE, z0, ht, hr]
@[simp] theorem isi_tup (ts : List T) (M : Mem) : isiT M "tuple" (.tup ts) = some true := rfl
@[simp] theorem isi_int (i : Int) (M : Mem) : isiT M "int" (.int i) = some true := rfl
@[simp] theorem isi_nT (i : Nat) (M : Mem) : isiT M "int" (nT i) = some true := rfl
@[simp] theorem cmp_gt_n0 (a : Nat) (M : Mem) : cmpT .Gt (nT a) (.int 0) M = some (decide (0 < a)) := by
  have : decide ((0 : Int) < (a : Int)) = decide (0 < a) := by simp
  rw [← this]; rfl
def IsLNumP (F : Fn) : Prop := ∀ (q : Rat) (M : Mem), Sm 1900 (q.den : Int) → F [ratT q] M = some (.bl true, M)
theorem sp_lisnum (h : Knows G "_law_number" IsLNum) : IsLNumP (runD G Lib._law_is_number) := by
  intro q M hq
  obtain ⟨F, l1, k1⟩ := h
  have e := k1 q.num q.den M (den_n0 q) hq
  rw [← rat_split] at e
  have c : cmpT .Eq (ratT q) (ratT q) M = some true := by
    rw [cmpeq_of (eqv_rat q q M)]; simp
  have hd := den_pos q
  refine run_same rfl rfl rfl ?_
  have b1 : biT .len [ratT q] M = some (.int 2, M) := rfl
  have i1 : isiT M "tuple" (ratT q) = some true := rfl
  have x0 : ixT (ratT q) (.int 0) M = some (.int q.num) := by unfold ratT; rw [ix_tup, at_0]
  have x1 : ixT (ratT q) (.int 1) M = some (nT q.den) := by unfold ratT; rw [ix_tup, at_1]; rfl
  have e' : F [.int q.num, nT q.den] M = some (ratT q, M) := e
  have hd' : 0 < q.den := q.den_pos
  simp [Lib._law_is_number, startE, i1, b1, x0, x1, l1, e', c, hd']
end Mi
end L2

/-! The law's own judging: rows, sums, fits, columns. -/
namespace L2
namespace Mi
open PySem PySem.Spec PyProof.Rows
variable {G : Sig}
theorem rngL_map (n : Nat) : rngL 0 (n : Int) = (List.range n).map nT := by
  unfold rngL
  rw [show ((n : Int) - 0).toNat = n by omega]
  apply List.map_congr_left
  intro i _
  rw [Int.zero_add]; rfl
@[simp] theorem sof_tupQ (M : Mem) (qs : List Rat) : sof M (tupQ qs) = some (qs.map ratT) := rfl
@[simp] theorem grdOf_tupQ (qs : List Rat) (us : List T) : grdOf (tupQ qs) us = [] := rfl
@[simp] theorem isi_tupQ (qs : List Rat) (M : Mem) : isiT M "tuple" (tupQ qs) = some true := rfl
@[simp] theorem cmp_eq_n0 (a : Nat) (M : Mem) : cmpT .Eq (nT a) (.int 0) M = some (decide (a = 0)) := cmp_eq_nT a 0 M
def IsLRow (F : Fn) : Prop := ∀ (qs : List Rat) (n : Nat) (M : Mem), (∀ q ∈ qs, Sm 1900 (q.den : Int)) → qs.length ≤ 16777216 → F [tupQ qs, nT n] M = some (.bl (decide (qs.length = n)), M)
theorem sp_lrow (h : Knows G "_law_is_number" IsLNumP) : IsLRow (runD G Lib._law_is_row) := by
  intro qs n M hq hl
  obtain ⟨F, l1, k1⟩ := h
  refine run_same rfl rfl rfl ?_
  have b1 : biT .len [tupQ qs] M = some (nT qs.length, M) := by rw [len_sof (sof_tupQ M qs), List.length_map]
  have lc : lcr G (.nm 2 "_law_part") (.cons (.not (.call "_law_is_number" (.cons (.var 2 "_law_part") .nil))) .nil) (.var 2 "_law_part") [some (tupQ qs), some (nT n), none] [] (qs.map ratT) M = some ([], M) := by
    have := lcr_if (G := G) (tg := .nm 2 "_law_part") (ifs := .cons (.not (.call "_law_is_number" (.cons (.var 2 "_law_part") .nil))) .nil) (elt := .var 2 "_law_part") (σ := [some (tupQ qs), some (nT n), none]) (g := []) (M := M) ratT (fun _ => false) ratT (by simp) (xs := qs) (fun q hq' => by simp [stepL, l1, k1 q M (hq q hq')])
    rw [this]; simp
  have b2 : biT .len [T.fl []] M = some (nT 0, M) := rfl
  by_cases h : qs.length = n
  · simp [Lib._law_is_row, startE, b1, h, wipeE, lc, b2]
  · simp [Lib._law_is_row, startE, b1, h]
def IsLWith (F : Fn) : Prop := ∀ (isT xT : T) (is : List Int) (qs : List Rat) (M : Mem) (D A B : Nat), sof M isT = some (is.map T.int) → sof M xT = some (qs.map ratT) → qs.length ≤ is.length → qs.length < 2 ^ 20 → (∀ a ∈ is, a.natAbs ≤ A) → (∀ q ∈ qs, InD D B q) → 1 ≤ A → 1 ≤ B → LOk D (qs.length * (A * B)) →
  F [isT, xT] M = some (ratT (dotQ is qs), M)
theorem sp_lwith (ht : Knows G "_law_times" (IsLOp (· * ·))) (hto : Knows G "_law_total" IsLTotal) : IsLWith (runD G Lib._law_with) := by
  intro isT xT is qs M D A B hi hx hl h20 ha hq hA hB hL
  obtain ⟨F1, l1, k1⟩ := ht
  obtain ⟨F2, l2, k2⟩ := hto
  refine run_same rfl (ratT_pure _) rfl ?_
  have b1 : biT .len [xT] M = some (nT qs.length, M) := by rw [len_sof hx, List.length_map]
  have b2 := rg1_n (n := qs.length) (by omega)
  let zs : List Rat := List.zipWith (fun (a : Int) q => (a : Rat) * q) is qs
  have lz : zs.length = qs.length := by simp [zs]; omega
  have lc : lcr G (.nm 2 "_law_j") .nil (.call "_law_times" (.cons (.tup (.cons (.ix (.var 0 "_law_integers") (.var 2 "_law_j")) (.cons (.int 1) .nil))) (.cons (.ix (.var 1 "_law_x") (.var 2 "_law_j")) .nil))) [some isT, some xT, none] [] (rngL 0 (qs.length : Int)) M = some (zs.map ratT, M) := by
    refine lcr_ix (by simp) (by rw [List.length_map, lz, rngL_len]; omega) fun j x y hx' hy => ?_
    obtain ⟨hj, rfl⟩ := rng_get hx'
    obtain ⟨v, hv, rfl⟩ := map_get hy
    have i1 : ixT isT (nT j) M = some (.int (is[j]'(by omega))) := by
      unfold nT
      rw [ix_sof hi, atI_n, List.getElem?_map, List.getElem?_eq_getElem (by omega)]; rfl
    have i2 : ixT xT (nT j) M = some (ratT qs[j]) := by
      unfold nT
      rw [ix_sof hx, atI_n, List.getElem?_map, List.getElem?_eq_getElem hj]; rfl
    have hv' : v = ((is[j]'(by omega) : Int) : Rat) * qs[j] := by
      have : zs[j]? = some (((is[j]'(by omega) : Int) : Rat) * qs[j]) := by
        simp only [zs, List.getElem?_zipWith, List.getElem?_eq_getElem (show j < is.length by omega), List.getElem?_eq_getElem hj]
      rw [this] at hv
      exact (Option.some.inj hv).symm
    have q1 := hq qs[j] (List.getElem_mem ..)
    have a1 := ha (is[j]'(by omega)) (List.getElem_mem ..)
    have hn : 1 ≤ qs.length := by omega
    have hAB : B ≤ qs.length * (A * B) := Nat.le_trans (Nat.le_mul_of_pos_left _ hA) (Nat.le_mul_of_pos_left _ hn)
    have hAA : A ≤ qs.length * (A * B) := Nat.le_trans (Nat.le_mul_of_pos_right _ hB) (Nat.le_mul_of_pos_left _ hn)
    have s1 : Sq 60000000 ((is[j]'(by omega) : Int) : Rat) := Sq.int (Nat.lt_of_le_of_lt (Nat.le_trans a1 hAA) (Nat.lt_of_lt_of_le hL.bb (Nat.pow_le_pow_right (by decide) (by decide)))) (by decide)
    have e := k1 ((is[j]'(by omega) : Int) : Rat) qs[j] M s1 (hL.sq (q1.mono hAB)) (by
      have := (q1.sz hL.d0).2
      show Sm 1900 (((1 : Nat) : Int) * (qs[j].den : Int))
      rw [show ((1 : Nat) : Int) = 1 from rfl, Int.one_mul]
      unfold Sm
      simp only [Int.natAbs_natCast]
      exact Nat.lt_of_le_of_lt (Nat.le_trans this (Nat.le_mul_of_pos_left _ hL.d0)) hL.dd)
    rw [ratT_int] at e
    rw [hv']
    simp [stepL, i1, i2, l1, e]
  have e2 := k2 (.fl (zs.map ratT)) zs M D (A * B) rfl (fun z hz => by
    obtain ⟨j, hj, e⟩ := List.mem_iff_getElem.mp hz
    have : zs[j] = ((is[j]'(by simp [zs] at hj; omega) : Int) : Rat) * (qs[j]'(by simp [zs] at hj; omega)) := by simp [zs]
    rw [← e, this]
    exact (hq _ (List.getElem_mem ..)).mul (ha _ (List.getElem_mem ..))) (by rw [lz]; exact hL)
  have hz16 : zs.length ≤ 16777216 := by omega
  have hd : zs.sum = dotQ is qs := rfl
  generalize zs = Z at *
  simp [Lib._law_with, startE, b1, b2, wipeE, lc, hz16, l2, e2, hd]
/-- what the law's sums ask of sizes: w columns, m rows -/
structure LSz (rows : List (List Int)) (sides gains : List Int) (D A B : Nat) : Prop where
  rw_ : ∀ r ∈ rows, r.length = gains.length
  sl : sides.length = rows.length
  few : rows.length + gains.length < 2 ^ 18
  ra : ∀ r ∈ rows, ∀ x ∈ r, x.natAbs ≤ A
  sa : ∀ x ∈ sides, x.natAbs ≤ A
  ga : ∀ x ∈ gains, x.natAbs ≤ A
  a1 : 1 ≤ A
  b1 : 1 ≤ B
  ok : LOk D ((rows.length + gains.length) * (A * B))
theorem LSz.lok {rows : List (List Int)} {sides gains : List Int} {D A B n : Nat} (L : LSz rows sides gains D A B) (h : n ≤ rows.length + gains.length) : LOk D (n * (A * B)) := ⟨L.ok.d0, L.ok.dd, Nat.lt_of_le_of_lt (Nat.mul_le_mul_right _ h) L.ok.bb⟩
def IsLFit (F : Fn) : Prop := ∀ (rowsT sidesT xT : T) (rows : List (List Int)) (sides gains : List Int) (qs : List Rat) (M : Mem) (D A B : Nat), sof M rowsT = some (rows.map tlT) → sof M sidesT = some (sides.map T.int) → sof M xT = some (qs.map ratT) → LSz rows sides gains D A B → qs.length = gains.length → (∀ q ∈ qs, InD D B q) →
  ∃ b, F [rowsT, sidesT, xT] M = some (.bl b, M) ∧ (b = true ↔ Fit rows sides qs)
theorem len_fl (ts : List T) (M : Mem) : biT .len [.fl ts] M = some (nT ts.length, M) := len_sof rfl
theorem sp_lfit (hw : Knows G "_law_with" IsLWith) : IsLFit (runD G Lib._law_fit) := by
  intro rowsT sidesT xT rows sides gains qs M D A B hr hs hx L hql hq
  obtain ⟨F, l1, k1⟩ := hw
  have few := L.few
  have lc1 : lcr G (.nm 3 "_law_part") (.cons (.cmp .Lt (.ix (.var 3 "_law_part") (.int 0)) (.int 0)) .nil) (.var 3 "_law_part") [some rowsT, some sidesT, some xT, none, none] (grdOf xT (qs.map ratT)) (qs.map ratT) M = some ((qs.filter fun q => decide (q < 0)).map ratT, M) :=
    lcr_if ratT (fun q => decide (q < 0)) ratT (sof_grd hx) (xs := qs) (fun q _ => by
      have x0 : ixT (ratT q) (.int 0) M = some (.int q.num) := by unfold ratT; rw [ix_tup, at_0]
      have hn : decide (q < 0) = decide (q.num < 0) := by rw [decide_eq_decide]; exact neg_num q
      by_cases h : q.num < 0 <;> simp [stepL, x0, hn, h])
  generalize hN : qs.filter (fun q => decide (q < 0)) = N at lc1
  have hNl : N.length ≤ 16777216 := by
    rw [← hN]; exact Nat.le_trans (List.length_filter_le _ _) (by omega)
  by_cases hneg : ∀ q ∈ qs, 0 ≤ q
  · have hN0 : N = [] := by
      rw [← hN, List.filter_eq_nil_iff]
      intro q hq'
      have := hneg q hq'
      simp only [decide_eq_true_eq]
      exact Rat.not_lt.mpr this
    subst hN0
    have b1 : biT .len [rowsT] M = some (nT rows.length, M) := by rw [len_sof hr, List.length_map]
    have b2 := rg1_n (n := rows.length) (by omega)
    let p : Nat → Bool := fun k => !decide (dotQ (rows.getD k []) qs = (gt sides k : Rat))
    have lc2 : lcr G (.nm 4 "_law_k") (.cons (.cmp .NotEq (.call "_law_with" (.cons (.ix (.var 0 "_law_rows") (.var 4 "_law_k")) (.cons (.var 2 "_law_x") .nil))) (.tup (.cons (.ix (.var 1 "_law_sides") (.var 4 "_law_k")) (.cons (.int 1) .nil)))) .nil) (.var 4 "_law_k") [some rowsT, some sidesT, some xT, none, none] [] (rngL 0 (rows.length : Int)) M = some (((List.range rows.length).filter p).map nT, M) := by
      rw [rngL_map]
      refine lcr_if nT p nT (by simp) fun k hk => ?_
      have hk' := List.mem_range.mp hk
      have erow : rows[k]? = some (rows.getD k []) := by rw [List.getD_eq_getElem?_getD, List.getElem?_eq_getElem hk']; rfl
      have hrm := List.mem_of_getElem? erow
      have i1 : ixT rowsT (nT k) M = some (tlT (rows.getD k [])) := by
        unfold nT
        rw [ix_sof hr, atI_n, List.getElem?_map, erow]; rfl
      have i2 : ixT sidesT (nT k) M = some (.int (gt sides k)) := by
        unfold nT
        rw [ix_sof hs, at_il _ _ (by rw [L.sl]; exact hk')]
      have e := k1 (tlT (rows.getD k [])) xT (rows.getD k []) qs M D A B rfl hx (by rw [L.rw_ _ hrm, hql]; exact Nat.le_refl _) (by omega) (L.ra _ hrm) hq L.a1 L.b1 (L.lok (by omega))
      have c : cmpT .NotEq (ratT (dotQ (rows.getD k []) qs)) (.tup [.int (gt sides k), .int 1]) M = some (p k) := by
        rw [← ratT_int, cmpne_of (eqv_rat _ _ M)]
      generalize rows.getD k [] = row at *
      cases hp : p k <;> simp [stepL, i1, i2, l1, e, c, hp]
    generalize hP : (List.range rows.length).filter p = P at lc2
    have hPl : P.length ≤ 16777216 := by
      rw [← hP]; exact Nat.le_trans (List.length_filter_le _ _) (by simp; omega)
    refine ⟨decide (P.length = 0), run_same rfl rfl rfl ?_, ?_⟩
    · simp [Lib._law_fit, startE, hx, wipeE, lc1, len_fl, b1, b2, lc2, hPl]
    · rw [decide_eq_true_eq, List.length_eq_zero_iff, ← hP, List.filter_eq_nil_iff]
      constructor
      · intro h
        refine ⟨hneg, fun i hi => ?_⟩
        have := h i (List.mem_range.mpr hi)
        simpa [p] using this
      · intro h k hk
        have := h.2 k (List.mem_range.mp hk)
        simp only [p, this, decide_true, Bool.not_true]; decide
  · have hN1 : 0 < N.length := by
      rw [List.length_pos_iff, ← hN]
      intro h
      apply hneg
      intro q hq'
      have := (List.filter_eq_nil_iff.mp h) q hq'
      simp only [decide_eq_true_eq] at this
      exact Rat.not_lt.mp this
    refine ⟨false, run_same rfl rfl rfl ?_, by simp; exact fun h => hneg h.1⟩
    simp [Lib._law_fit, startE, hx, wipeE, lc1, len_fl, hNl, hN1]
def IsLCols (F : Fn) : Prop := ∀ (rowsT yT gainsT : T) (rows : List (List Int)) (sides gains gs : List Int) (qs : List Rat) (M : Mem) (D A B : Nat), sof M rowsT = some (rows.map tlT) → sof M gainsT = some (gs.map T.int) → sof M yT = some (qs.map ratT) → LSz rows sides gains D A B → gs.length = gains.length → (∀ x ∈ gs, x.natAbs ≤ A) → qs.length = rows.length → (∀ q ∈ qs, InD D B q) →
  ∃ b, F [rowsT, yT, gainsT] M = some (.bl b, M) ∧ (b = true ↔ Reach rows qs gs)
theorem dot_in {D A B : Nat} (hD : 0 < D) {is : List Int} {qs : List Rat} (ha : ∀ a ∈ is, a.natAbs ≤ A) (hq : ∀ q ∈ qs, InD D B q) : InD D (qs.length * (A * B)) (dotQ is qs) := by
  unfold dotQ
  induction qs generalizing is with
  | nil => simp; exact .zero hD
  | cons q qs ih =>
    cases is with
    | nil => simp; exact .zero hD
    | cons a is =>
      rw [List.zipWith_cons_cons, List.sum_cons, List.length_cons, Nat.succ_mul, Nat.add_comm]
      exact ((hq q List.mem_cons_self).mul (ha a List.mem_cons_self)).add (ih (fun a h => ha a (List.mem_cons_of_mem _ h)) fun q h => hq q (List.mem_cons_of_mem _ h))
theorem col_abs {rows : List (List Int)} {A j : Nat} (h : ∀ r ∈ rows, ∀ x ∈ r, x.natAbs ≤ A) : ∀ x ∈ colL rows j, x.natAbs ≤ A := fun x hx => by
  obtain ⟨r, hr, rfl⟩ := List.mem_map.mp hx
  exact gt_le (h r hr) j
theorem sp_lcols (hw : Knows G "_law_with" IsLWith) (hle : Knows G "_law_less" IsLess) : IsLCols (runD G Lib._law_columns) := by
  intro rowsT yT gainsT rows sides gains gs qs M D A B hr hg hy L hgl hga hql hq
  obtain ⟨F, l1, k1⟩ := hw
  obtain ⟨F2, l2, k2⟩ := hle
  have few := L.few
  obtain ⟨r, hfr, q⟩ := fr_inv2 (G := G) (tg := .nm 3 "_law_j") (b := [
    .ite (.call "_law_less" (.cons (.call "_law_with" (.cons (.lc false [("_law_row", 4)] (.nm 4 "_law_row") (.over (.var 0 "_law_rows")) .nil (.ix (.var 4 "_law_row") (.var 3 "_law_j"))) (.cons (.var 1 "_law_y") .nil))) (.cons (.tup (.cons (.ix (.var 2 "_law_gains") (.var 3 "_law_j")) (.cons (.int 1) .nil))) .nil))) [
      .ret (.bl false)] []]) (g := []) (xs := rngL 0 (gs.length : Int)) (σ := [some rowsT, some yT, some gainsT, none, none]) (M := M)
    (fun i σ M' => M' = M ∧ (∃ z, σ = [some rowsT, some yT, some gainsT, z, none]) ∧ ∀ j, j < i → (gt gs j : Rat) ≤ dotQ (colL rows j) qs)
    (fun r => (r = .rt (.bl false) M ∧ ¬Reach rows qs gs) ∨ (∃ z, r = .nx [some rowsT, some yT, some gainsT, z, none] M ∧ Reach rows qs gs))
    ⟨rfl, ⟨_, rfl⟩, fun j h => by omega⟩ (fun _ _ _ _ => by simp) (fun j x σ M' hx ⟨hM, ⟨z, hz⟩, hj⟩ => by
      subst hM; subst hz
      obtain ⟨hjl, rfl⟩ := rng_get hx
      refine ⟨_, asg_nm .., ?_⟩
      have lc : lcr G (.nm 4 "_law_row") .nil (.ix (.var 4 "_law_row") (.var 3 "_law_j")) [some rowsT, some yT, some gainsT, some (nT j), none] (grdOf rowsT (rows.map tlT)) (rows.map tlT) M' = some ((colL rows j).map T.int, M') := by
        rw [lcr_of tlT (fun r => .int (gt r j)) (sof_grd hr) (fun r hr' => ?_), colL, List.map_map]
        · rfl
        · have i1 : ixT (tlT r) (nT j) M' = some (.int (gt r j)) := by
            unfold nT
            rw [ix_sof (sof_tl M' r), at_il _ _ (by rw [L.rw_ r hr']; omega)]
          simp [stepL, i1]
      have cl : (colL rows j).length = rows.length := by simp [colL]
      have e := k1 (ilT (colL rows j)) yT (colL rows j) qs M' D A B rfl hy (by omega) (by omega) (col_abs L.ra) hq L.a1 L.b1 (L.lok (by omega))
      have i2 : ixT gainsT (nT j) M' = some (.int (gt gs j)) := by
        unfold nT
        rw [ix_sof hg, at_il _ _ hjl]
      have din := dot_in L.ok.d0 (col_abs (j := j) L.ra) hq
      have hn1 : 1 ≤ rows.length + gains.length := by omega
      have hAA : A ≤ (rows.length + gains.length) * (A * B) := Nat.le_trans (Nat.le_mul_of_pos_right _ L.b1) (Nat.le_mul_of_pos_left _ hn1)
      have ga : (gt gs j).natAbs ≤ A := gt_le hga j
      have e2 := k2 (dotQ (colL rows j) qs) (gt gs j : Rat) M' (L.ok.sq (din.mono (Nat.mul_le_mul_right _ (by omega)))) (Sq.int (Nat.lt_of_le_of_lt (Nat.le_trans ga hAA) (Nat.lt_of_lt_of_le L.ok.bb (Nat.pow_le_pow_right (by decide) (by decide)))) (by decide))
      rw [ratT_int] at e2
      have c16 : rows.length ≤ 16777216 := by omega
      generalize hc : colL rows j = cj at *
      by_cases h : dotQ cj qs < (gt gs j : Rat)
      · refine .inr (.inl ⟨.bl false, M', ?_, .inl ⟨rfl, fun hR => ?_⟩⟩)
        · simp [hr, wipeE, lc, cl, c16, l1, e, i2, l2, e2, h]
        · have := hR j hjl
          rw [hc] at this
          exact absurd h (Rat.not_lt.mpr this)
      · refine .inl ⟨[some rowsT, some yT, some gainsT, some (nT j), none], M', .inl (by simp [hr, wipeE, lc, cl, c16, l1, e, i2, l2, e2, h]), rfl, ⟨_, rfl⟩, fun j' hj' => ?_⟩
        by_cases ej : j' = j
        · subst ej; rw [hc]; exact Rat.not_lt.mp h
        · exact hj j' (by omega)) (fun σ M' ⟨hM, ⟨z, hz⟩, hj⟩ => by
      subst hM; subst hz
      exact .inr ⟨z, rfl, fun j h => hj j (by rw [rngL_len]; omega)⟩)
  have b1 : biT .len [gainsT] M = some (nT gs.length, M) := by rw [len_sof hg, List.length_map]
  have b2 := rg1_n (n := gs.length) (by omega)
  rcases q with ⟨rfl, q⟩ | ⟨z, rfl, q⟩
  · refine ⟨false, run_same rfl rfl rfl ?_, by simp [q]⟩
    simp [Lib._law_columns, startE, b1, b2, hfr]
  · refine ⟨true, run_same rfl rfl rfl ?_, by simp [q]⟩
    simp [Lib._law_columns, startE, b1, b2, hfr]
end Mi
end L2

/-! The law's own judging: right answers. -/
namespace L2
namespace Mi
open PySem PySem.Spec PyProof.Rows
variable {G : Sig}
theorem eqv_str (a b : Str) (c : Bool) (M : Mem) (ha : PyData.strOk a = true) (hb : PyData.strOk b = true) (h : (a == b) = c) : eqv? M (.str a) (.str b) = some c := by
  subst h
  simp [eqv?, scL, sealT, pureT, okT, depT, eqT, ha, hb]
theorem str_nn (M : Mem) : cmpT .Eq (.str "none") (.str "none") M = some true := cmpeq_of (eqv_str _ _ _ M (by decide +kernel) (by decide +kernel) (by decide +kernel))
theorem str_an (M : Mem) : cmpT .Eq (.str "any") (.str "none") M = some false := cmpeq_of (eqv_str _ _ _ M (by decide +kernel) (by decide +kernel) (by decide +kernel))
theorem str_mn (M : Mem) : cmpT .Eq (.str "most") (.str "none") M = some false := cmpeq_of (eqv_str _ _ _ M (by decide +kernel) (by decide +kernel) (by decide +kernel))
theorem str_aa (M : Mem) : cmpT .Eq (.str "any") (.str "any") M = some true := cmpeq_of (eqv_str _ _ _ M (by decide +kernel) (by decide +kernel) (by decide +kernel))
theorem str_ma (M : Mem) : cmpT .Eq (.str "most") (.str "any") M = some false := cmpeq_of (eqv_str _ _ _ M (by decide +kernel) (by decide +kernel) (by decide +kernel))
theorem str_mm (M : Mem) : cmpT .NotEq (.str "most") (.str "most") M = some false := cmpne_of (b := true) (eqv_str _ _ _ M (by decide +kernel) (by decide +kernel) (by decide +kernel))
def IsLRight (F : Fn) : Prop := ∀ (rowsT sidesT gainsT : T) (rows : List (List Int)) (sides gains : List Int) (a : Ans) (M : Mem) (D A B : Nat), sof M rowsT = some (rows.map tlT) → sof M sidesT = some (sides.map T.int) → sof M gainsT = some (gains.map T.int) → LSz rows sides gains D A B → (∀ q ∈ a.nums, InD D B q) → a.nums.length < 2 ^ 18 →
  ∃ b, F [rowsT, sidesT, gainsT, ansT a] M = some (.bl b, M) ∧ (b = true ↔ Right rows sides gains a)
theorem rep_il (n : Nat) (x : Int) (M : Mem) (h : n < 2 ^ 20) : binT .Mult false (.fl [.int x]) (nT n) M = some (ilT (List.replicate n x), M) := by
  rw [bin_rep false (by simp; omega) (by omega), rep_fl]
  show some (T.fl _, _) = _
  rw [← List.map_replicate]; rfl
theorem rat_num_lt (q : Rat) (M : Mem) : ∃ b, ((ixT (ratT q) (.int 0) M).bind fun x => cmpT .Lt x (.int 0) M) = some b ∧ (b = true ↔ q < 0) := ⟨decide (q.num < 0), by unfold ratT; rw [ix_tup, at_0]; rfl, by rw [decide_eq_true_eq]; exact (neg_num q).symm⟩
theorem x0_rat (q : Rat) (M : Mem) : ixT (ratT q) (.int 0) M = some (.int q.num) := by unfold ratT; rw [ix_tup, at_0]
theorem sp_lright (hrow : Knows G "_law_is_row" IsLRow) (hcol : Knows G "_law_columns" IsLCols) (hw : Knows G "_law_with" IsLWith) (hfit : Knows G "_law_fit" IsLFit) : IsLRight (runD G Lib._law_right_answer) := by
  intro rowsT sidesT gainsT rows sides gains a M D A B hr hs hg L hq hnl
  obtain ⟨Fr, lr, kr⟩ := hrow
  obtain ⟨Fc, lc, kc⟩ := hcol
  obtain ⟨Fw, lw, kw⟩ := hw
  obtain ⟨Ff, lf, kf⟩ := hfit
  have few := L.few
  have b1 : biT .len [rowsT] M = some (nT rows.length, M) := by rw [len_sof hr, List.length_map]
  have b2 : biT .len [gainsT] M = some (nT gains.length, M) := by rw [len_sof hg, List.length_map]
  have z1 := rep_il gains.length 0 M (by omega)
  have z2 := rep_il rows.length 0 M (by omega)
  have rep0 : ∀ n, ∀ x ∈ List.replicate n (0 : Int), x.natAbs ≤ A := fun n x hx => by rw [(List.mem_replicate.mp hx).2]; simp
  have dens : ∀ q, InD D B q → Sm 1900 (q.den : Int) := fun q h => by
    have := (h.sz L.ok.d0).2
    unfold Sm
    simp only [Int.natAbs_natCast]
    exact Nat.lt_of_le_of_lt (Nat.le_trans this (Nat.le_mul_of_pos_left _ L.ok.d0)) L.ok.dd
  have L0 : ∀ n, n = rows.length → LSz rows (List.replicate n 0) gains D A B := fun n h => ⟨L.rw_, by simp [h], L.few, L.ra, rep0 n, L.ga, L.a1, L.b1, L.ok⟩
  cases a with
  | none y =>
    have hy : ∀ q ∈ y, InD D B q := hq
    have hyl : y.length < 2 ^ 18 := hnl
    have e1 := kr y rows.length M (fun q h => dens q (hy q h)) (by omega)
    have t1 : biT .len [ansT (.none y)] M = some (.int 2, M) := rfl
    have t0 : ixT (ansT (.none y)) (.int 0) M = some (.str "none") := by unfold ansT; rw [ix_tup, at_0]
    have tt : ixT (ansT (.none y)) (.int 1) M = some (tupQ y) := by unfold ansT; rw [ix_tup, at_1]
    have it : isiT M "tuple" (ansT (.none y)) = some true := rfl
    by_cases hl : y.length = rows.length
    · obtain ⟨c, e2, h2⟩ := kc rowsT (tupQ y) (ilT (List.replicate gains.length 0)) rows sides gains (List.replicate gains.length 0) y M D A B hr rfl rfl L (by simp) (rep0 _) hl hy
      have e3 := kw sidesT (tupQ y) sides y M D A B hs rfl (by rw [L.sl, hl]; exact Nat.le_refl _) (by omega) L.sa hy L.a1 L.b1 (L.lok (by omega))
      have x0 := x0_rat (dotQ sides y) M
      refine ⟨c && decide ((dotQ sides y).num < 0), run_same rfl rfl rfl ?_, ?_⟩
      · cases c <;> simp [Lib._law_right_answer, startE, it, t1, t0, str_nn, tt, b1, lr, e1, hl, b2, z1, lc, e2, lw, e3, x0]
      · rw [Bool.and_eq_true, h2, decide_eq_true_eq, ← neg_num]
        exact ⟨fun h => ⟨hl, h.1, h.2⟩, fun h => ⟨h.2.1, h.2.2⟩⟩
    · refine ⟨false, run_same rfl rfl rfl ?_, by simp; exact fun h => hl h.1⟩
      simp [Lib._law_right_answer, startE, it, t1, t0, str_nn, tt, b1, lr, e1, hl]
  | any x r =>
    have hx : ∀ q ∈ x, InD D B q := fun q h => hq q (List.mem_append_left _ h)
    have hrr : ∀ q ∈ r, InD D B q := fun q h => hq q (List.mem_append_right _ h)
    have hxl : x.length + r.length < 2 ^ 18 := by simpa [Ans.nums] using hnl
    have e1 := kr x gains.length M (fun q h => dens q (hx q h)) (by omega)
    have e1' := kr r gains.length M (fun q h => dens q (hrr q h)) (by omega)
    have t1 : biT .len [ansT (.any x r)] M = some (.int 3, M) := rfl
    have t0 : ixT (ansT (.any x r)) (.int 0) M = some (.str "any") := by unfold ansT; rw [ix_tup, at_0]
    have tt : ixT (ansT (.any x r)) (.int 1) M = some (tupQ x) := by unfold ansT; rw [ix_tup, at_1]
    have tt2 : ixT (ansT (.any x r)) (.int 2) M = some (tupQ r) := by unfold ansT; rw [ix_tup, at_2]
    have it : isiT M "tuple" (ansT (.any x r)) = some true := rfl
    by_cases hl : x.length = gains.length
    · obtain ⟨c, e2, h2⟩ := kf rowsT sidesT (tupQ x) rows sides gains x M D A B hr hs rfl L hl hx
      cases c with
      | false =>
        refine ⟨false, run_same rfl rfl rfl ?_, ?_⟩
        · simp [Lib._law_right_answer, startE, it, t1, t0, str_an, tt, b1, b2, lr, e1, hl, lf, e2]
        · simp at h2 ⊢; exact fun h => h2 h.2.2.1
      | true =>
        have h2' := h2.mp rfl
        by_cases hl2 : r.length = gains.length
        · obtain ⟨c2, e3, h3⟩ := kf rowsT (ilT (List.replicate rows.length 0)) (tupQ r) rows (List.replicate rows.length 0) gains r M D A B hr rfl rfl (L0 _ rfl) hl2 hrr
          cases c2 with
          | false =>
            refine ⟨false, run_same rfl rfl rfl ?_, ?_⟩
            · simp [Lib._law_right_answer, startE, it, t1, t0, str_an, str_aa, tt, tt2, b1, b2, lr, e1, e1', hl, hl2, lf, e2, z2, e3]
            · simp at h3 ⊢; exact fun h => h3 h.2.2.2.1
          | true =>
            have h3' := h3.mp rfl
            have e4 := kw gainsT (tupQ r) gains r M D A B hg rfl (by omega) (by omega) L.ga hrr L.a1 L.b1 (L.lok (by omega))
            have x0 := x0_rat (dotQ gains r) M
            refine ⟨decide (0 < (dotQ gains r).num), run_same rfl rfl rfl ?_, ?_⟩
            · simp [Lib._law_right_answer, startE, it, t1, t0, str_an, str_aa, tt, tt2, b1, b2, lr, e1, e1', hl, hl2, lf, e2, z2, e3, lw, e4, x0]
            · rw [decide_eq_true_eq, ← pos_num]
              exact ⟨fun h => ⟨hl, hl2, h2', h3', h⟩, fun h => h.2.2.2.2⟩
        · refine ⟨false, run_same rfl rfl rfl ?_, by simp; exact fun h => hl2 h.2.1⟩
          simp [Lib._law_right_answer, startE, it, t1, t0, str_an, str_aa, tt, tt2, b1, b2, lr, e1, e1', hl, hl2, lf, e2]
    · refine ⟨false, run_same rfl rfl rfl ?_, by simp; exact fun h => hl h.1⟩
      simp [Lib._law_right_answer, startE, it, t1, t0, str_an, tt, b1, b2, lr, e1, hl]
  | most x y =>
    have hx : ∀ q ∈ x, InD D B q := fun q h => hq q (List.mem_append_left _ h)
    have hrr : ∀ q ∈ y, InD D B q := fun q h => hq q (List.mem_append_right _ h)
    have hxl : x.length + y.length < 2 ^ 18 := by simpa [Ans.nums] using hnl
    have e1 := kr x gains.length M (fun q h => dens q (hx q h)) (by omega)
    have e1' := kr y rows.length M (fun q h => dens q (hrr q h)) (by omega)
    have t1 : biT .len [ansT (.most x y)] M = some (.int 3, M) := rfl
    have t0 : ixT (ansT (.most x y)) (.int 0) M = some (.str "most") := by unfold ansT; rw [ix_tup, at_0]
    have tt : ixT (ansT (.most x y)) (.int 1) M = some (tupQ x) := by unfold ansT; rw [ix_tup, at_1]
    have tt2 : ixT (ansT (.most x y)) (.int 2) M = some (tupQ y) := by unfold ansT; rw [ix_tup, at_2]
    have it : isiT M "tuple" (ansT (.most x y)) = some true := rfl
    by_cases hl : x.length = gains.length
    · obtain ⟨c, e2, h2⟩ := kf rowsT sidesT (tupQ x) rows sides gains x M D A B hr hs rfl L hl hx
      cases c with
      | false =>
        refine ⟨false, run_same rfl rfl rfl ?_, ?_⟩
        · simp [Lib._law_right_answer, startE, it, t1, t0, str_mn, tt, b1, b2, lr, e1, hl, lf, e2]
        · simp at h2 ⊢; exact fun h => h2 h.2.2.1
      | true =>
        have h2' := h2.mp rfl
        by_cases hl2 : y.length = rows.length
        · obtain ⟨c2, e3, h3⟩ := kc rowsT (tupQ y) gainsT rows sides gains gains y M D A B hr hg rfl L rfl L.ga hl2 hrr
          cases c2 with
          | false =>
            refine ⟨false, run_same rfl rfl rfl ?_, ?_⟩
            · simp [Lib._law_right_answer, startE, it, t1, t0, str_mn, str_ma, str_mm, tt, tt2, b1, b2, lr, e1, e1', hl, hl2, lf, e2, lc, e3]
            · simp at h3 ⊢; exact fun h => h3 h.2.2.2.1
          | true =>
            have h3' := h3.mp rfl
            have e4 := kw gainsT (tupQ x) gains x M D A B hg rfl (by omega) (by omega) L.ga hx L.a1 L.b1 (L.lok (by omega))
            have e5 := kw sidesT (tupQ y) sides y M D A B hs rfl (by rw [L.sl, hl2]; exact Nat.le_refl _) (by omega) L.sa hrr L.a1 L.b1 (L.lok (by omega))
            have c := cmpeq_of (eqv_rat (dotQ gains x) (dotQ sides y) M)
            refine ⟨decide (dotQ gains x = dotQ sides y), run_same rfl rfl rfl ?_, ?_⟩
            · simp [Lib._law_right_answer, startE, it, t1, t0, str_mn, str_ma, str_mm, tt, tt2, b1, b2, lr, e1, e1', hl, hl2, lf, e2, lc, e3, lw, e4, e5, c]
            · rw [decide_eq_true_eq]
              exact ⟨fun h => ⟨hl, hl2, h2', h3', h⟩, fun h => h.2.2.2.2⟩
        · refine ⟨false, run_same rfl rfl rfl ?_, by simp; exact fun h => hl2 h.2.1⟩
          simp [Lib._law_right_answer, startE, it, t1, t0, str_mn, str_ma, str_mm, tt, tt2, b1, b2, lr, e1, e1', hl, hl2, lf, e2]
    · refine ⟨false, run_same rfl rfl rfl ?_, by simp; exact fun h => hl h.1⟩
      simp [Lib._law_right_answer, startE, it, t1, t0, str_mn, tt, b1, b2, lr, e1, hl]
end Mi
end L2

/-! The law's programs. -/
namespace L2
namespace Mi
open PySem PySem.Spec PyProof.Rows
variable {G : Sig}
def IsCell (F : Fn) : Prop := ∀ (ns : List Int) (k : Nat) (M : Mem), F [.sc ns, nT k] M = some (.int (gt ns k), M)
theorem sp_cellN : IsCell (runD G Lib._law_cell) := fun ns k M => sp_cell ns k M
theorem pos_of_all {ss : List Int} (h : ∀ s ∈ ss, 0 < s) (cell : Int) (i : Nat) : 0 ≤ gt (parts cell ss) i ∧ (i < ss.length → gt (parts cell ss) i < gt ss i) := by
  by_cases hi : i < ss.length
  · have := parts_at (cell := cell) (i := i) (s := ss[i]) h (List.getElem?_eq_getElem hi)
    have e : gt ss i = ss[i] := by unfold gt; rw [List.getD_eq_getElem?_getD, List.getElem?_eq_getElem hi]; rfl
    exact ⟨this.2.1, fun _ => by rw [e]; exact this.2.2⟩
  · rw [gt_out _ _ (by rw [parts_len]; omega)]
    exact ⟨Int.le_refl _, fun h => absurd h hi⟩
theorem sum_le {l : List Int} {B : Nat} (h : ∀ x ∈ l, x.natAbs ≤ B) : l.sum.natAbs ≤ l.length * B := by
  induction l with
  | nil => simp
  | cons x l ih =>
    rw [List.sum_cons, List.length_cons, Nat.succ_mul]
    have h1 := ih fun y hy => h y (List.mem_cons_of_mem _ hy)
    have h2 := h x List.mem_cons_self
    have := Int.natAbs_add_le x l.sum
    omega
theorem xs_go {s : MS} {ss : List MS} {σ σ1 : En} {M M1 : Mem} (h : exS G s σ M = some (.nx σ1 M1)) : exSs G (s :: ss) σ M = exSs G ss σ1 M1 := by rw [xs_cons, h]; rfl
theorem intsOf_map : ∀ l : List Int, intsOf (l.map T.int) = some l
  | [] => rfl
  | x :: l => by rw [List.map_cons, intsOf, intsOf_map l]; rfl
theorem bi_sum (l : List Int) (M : Mem) : biT .sum [ilT l] M = some (.int l.sum, M) := by
  unfold ilT
  show ((lof M (.fl (l.map T.int))).bind fun ts => (intsOf ts).map fun ns => (T.int ns.sum, M)) = _
  rw [lof_fl]
  simp only [Option.bind_some]
  rw [intsOf_map]; rfl
theorem bi_tup (l : List Int) (M : Mem) : biT .tuple [ilT l] M = some (tlT l, M) := rfl
def pick3 (s a b c : Int) : Int := if s = 0 then a else if s = 1 then b else c
theorem at_pick {s a b c : Int} (h0 : 0 ≤ s) (h1 : s < 3) : atI [T.int a, T.int b, T.int c] s = some (.int (pick3 s a b c)) := by
  have : s = 0 ∨ s = 1 ∨ s = 2 := by omega
  rcases this with rfl | rfl | rfl <;> simp [pick3]
def rowA (dg : List Int) (w : Nat) : List Int := (List.range w).map fun j => pick3 ((gt dg 2).fmod 3) (gt dg (3 + j) - 6) ((gt dg (3 + j)).fdiv 3 - 2) ((gt dg (3 + j)).fdiv 9)
def dots (a b : List Int) (w : Nat) : List Int := (List.range w).map fun j => gt a j * gt b j
def lsz (w : Nat) : List Int := [6, 9, 4] ++ List.replicate w 13
theorem mem_range_map {f : Nat → Int} {w : Nat} {x : Int} (h : x ∈ (List.range w).map f) : ∃ j, j < w ∧ f j = x := by
  obtain ⟨j, hj, e⟩ := List.mem_map.mp h
  exact ⟨j, List.mem_range.mp hj, e⟩
structure ProgOk (rows : List (List Int)) (sides : List Int) (w : Nat) : Prop where
  sl : sides.length = rows.length
  r : ∀ k r, rows[k]? = some r → r.length = w ∧ ∀ x ∈ r, x.natAbs ≤ 6 * 4 ^ k
  s : ∀ k x, sides[k]? = some x → x.natAbs ≤ 600 * 4 ^ k
theorem ProgOk.snoc {rows : List (List Int)} {sides : List Int} {w : Nat} (P : ProgOk rows sides w) {r : List Int} {x : Int} (h1 : r.length = w) (h2 : ∀ x ∈ r, x.natAbs ≤ 6 * 4 ^ rows.length) (h3 : x.natAbs ≤ 600 * 4 ^ rows.length) : ProgOk (rows ++ [r]) (sides ++ [x]) w := by
  refine ⟨by simp [P.sl], fun k r' h => ?_, fun k x' h => ?_⟩
  · by_cases hk : k < rows.length
    · rw [List.getElem?_append_left hk] at h; exact P.r k r' h
    · rw [List.getElem?_append_right (by omega)] at h
      by_cases e : k = rows.length
      · subst e; rw [Nat.sub_self] at h; cases h; exact ⟨h1, h2⟩
      · rw [List.getElem?_eq_none (by simp; omega)] at h; cases h
  · by_cases hk : k < sides.length
    · rw [List.getElem?_append_left hk] at h; exact P.s k x' h
    · rw [List.getElem?_append_right (by omega)] at h
      by_cases e : k = sides.length
      · subst e; rw [Nat.sub_self] at h; cases h; rw [P.sl]; exact h3
      · rw [List.getElem?_eq_none (by simp; omega)] at h; cases h
theorem seal_lst {M : Mem} {n f i : Nat} {ts : List T} (hi : n ≤ i) (e : M[i]? = some (.lst ts)) (h : pureTs ts = true) : sealT M n (f + 1) (.obj i) = some (.fl ts) := by
  have hm : ∀ ts : List T, pureTs ts = true → ts.mapM (sealT M n f) = some ts := by
    intro ts
    induction ts with
    | nil => intro _; rfl
    | cons t ts ih =>
      intro h
      simp only [pureTs, Bool.and_eq_true] at h
      rw [List.mapM_cons, seal_pure h.1, ih h.2]
      rfl
  unfold sealT
  rw [if_neg (by simp [pureT])]
  simp only [if_pos hi, e]
  rw [hm ts h]
  rfl
def IsLProg (F : Fn) : Prop := ∀ (ns : List Int) (most w : Nat) (M : Mem), (∀ k, Sm 1100000 (gt ns k)) → most ≤ 12 → 1 ≤ w → w ≤ 24 →
  ∃ rows sides gains, F [.sc ns, nT most, nT w] M = some (.tup [.fl (rows.map tlT), ilT sides, tlT gains], M) ∧ rows.length ≤ most ∧ ProgOk rows sides w ∧ gains.length = w ∧ ∀ x ∈ gains, x.natAbs ≤ 8
theorem il_set (M : Mem) (ts : List T) (o : O) (x : T) : (M ++ [.lst ts, o]).set M.length (.lst (ts ++ [x])) = M ++ [.lst (ts ++ [x]), o] := by
  rw [List.set_append_right _ _ (by omega), Nat.sub_self]; rfl
theorem il_set1 (M : Mem) (ts : List T) (o : O) (x : T) : (M ++ [o, .lst ts]).set (M.length + 1) (.lst (ts ++ [x])) = M ++ [o, .lst (ts ++ [x])] := by
  rw [List.set_append_right _ _ (by omega), Nat.add_sub_cancel_left]; rfl
theorem sp_lprog (hcell : Knows G "_law_cell" IsCell) (hparts : Knows G "_law_parts" IsParts) : IsLProg (runD G Lib._law_program) := by
  intro ns most w M hns hmost hw1 hw
  obtain ⟨Fc, lc, kc⟩ := hcell
  obtain ⟨Fp, lp, kp⟩ := hparts
  -- parts
  let z0 : List Int := [(most : Int) + 1, 4, 4, 7]
  have p0 : ∀ s ∈ z0, 0 < s ∧ Sm 8000 s := fun s hs => by
    have : 2 ^ 4 ≤ 2 ^ 8000 := Nat.pow_le_pow_right (by decide) (by decide)
    have hb : s = (most : Int) + 1 ∨ s = 4 ∨ s = 4 ∨ s = 7 := by simpa [z0] using hs
    refine ⟨by omega, Nat.lt_of_lt_of_le (show s.natAbs < 2 ^ 4 by omega) this⟩
  have e0 := kp (gt ns 0) (ilT z0) z0 M rfl (pureT_il _) ((hns 0).mono (by decide)) p0 (by simp [z0])
  generalize hP : parts (gt ns 0) z0 = P at e0
  have hPb := pos_of_all (ss := z0) (fun s h => (p0 s h).1) (gt ns 0)
  rw [hP] at hPb
  have hPl : P.length = 4 := by rw [← hP, parts_len]; rfl
  obtain ⟨n, hn, hnm⟩ : ∃ n : Nat, gt P 0 = n ∧ n ≤ most := ⟨(gt P 0).toNat, by have := (hPb 0).1; omega, by
    have h1 := (hPb 0).1
    have h2 := (hPb 0).2 (by simp [z0])
    have : gt z0 0 = (most : Int) + 1 := rfl
    omega⟩
  let z1 : List Int := List.replicate w 5
  have p1 : ∀ s ∈ z1, 0 < s ∧ Sm 8000 s := fun s hs => by rw [(List.mem_replicate.mp hs).2]; exact ⟨by decide, Sm.mono (j := 3) (by unfold Sm; decide) (by decide)⟩
  have e1 := kp (gt ns 1) (ilT z1) z1 M rfl (pureT_il _) ((hns 1).mono (by decide)) p1 (by simp [z1]; omega)
  have e1 : ∀ L, Fp [.int (gt ns 1), ilT z1] (M ++ L) = some (ilT (parts (gt ns 1) z1), M ++ L) := fun L => kp (gt ns 1) (ilT z1) z1 _ rfl (pureT_il _) ((hns 1).mono (by decide)) p1 (by simp [z1]; omega)
  generalize hX : parts (gt ns 1) z1 = X at e1
  have hXb : ∀ i, (gt X i).natAbs ≤ 4 := fun i => by
    have := pos_of_all (ss := z1) (fun s h => (p1 s h).1) (gt ns 1) i
    rw [hX] at this
    by_cases hi : i < w
    · have h2 := this.2 (by simpa [z1] using hi)
      have : gt z1 i = 5 := by simp only [z1]; rw [gt_rep, if_pos hi]
      omega
    · rw [gt_out _ _ (by rw [← hX, parts_len]; simp [z1]; omega)]; decide
  have hXl : X.length = w := by rw [← hX, parts_len]; simp [z1]
  have p2 : ∀ s ∈ lsz w, 0 < s ∧ Sm 8000 s := fun s hs => by
    have hb : s = 6 ∨ s = 9 ∨ s = 4 ∨ s = 13 := by
      rcases List.mem_append.mp hs with h | h
      · have : s = 6 ∨ s = 9 ∨ s = 4 := by simpa using h
        omega
      · have := (List.mem_replicate.mp h).2; omega
    refine ⟨by omega, Sm.mono (j := 4) (by unfold Sm; omega) (by decide)⟩
  have i4 : binT .Mult false (.fl [.int 5]) (nT w) M = some (ilT z1, M) := rep_il w 5 M (by omega)
  have i4' : ∀ L, binT .Mult false (.fl [.int 5]) (nT w) (M ++ L) = some (ilT z1, M ++ L) := fun L => rep_il w 5 _ (by omega)
  have c0 : ∀ M', Fc [.sc ns, .int 0] M' = some (.int (gt ns 0), M') := fun M' => kc ns 0 M'
  have c1 : ∀ M', Fc [.sc ns, .int 1] M' = some (.int (gt ns 1), M') := fun M' => kc ns 1 M'
  have m1 : binT .Add false (nT most) (.int 1) M = some (.int ((most : Int) + 1), M) := rfl
  have z0T : T.fl [.int ((most : Int) + 1), .int 4, .int 4, .int 7] = ilT z0 := rfl
  have rgw := rg1_n (n := w) (by omega)
  have rgn := rg1_n (n := n) (by omega)
  -- the loop
  obtain ⟨σ', M', hfr, rows, sides, hM, z7, z8, z9, z10, hz, hrl, hok⟩ := fr_inv (G := G) (tg := .nm 7 "_law_k") (b := [
    .set 8 "_law_digits" (.call "_law_parts" (.cons (.bin .Add false (.call "_law_cell" (.cons (.var 0 "_law_script") (.cons (.bin .Add false (.int 2) (.var 7 "_law_k")) .nil))) (.bin .Mult false (.int 41) (.var 7 "_law_k"))) (.cons (.bin .Add false (.lst false (.cons (.int 6) (.cons (.int 9) (.cons (.int 4) .nil)))) (.bin .Mult false (.lst false (.cons (.int 13) .nil)) (.var 2 "_law_width"))) .nil))),
    .set 9 "_law_row" (.lc false [("_law_j", 13)] (.nm 13 "_law_j") (.rng1 (.var 2 "_law_width")) .nil (.ix (.lst false (.cons (.bin .Sub false (.ix (.var 8 "_law_digits") (.bin .Add false (.int 3) (.var 13 "_law_j"))) (.int 6)) (.cons (.bin .Sub false (.bin .FloorDiv false (.ix (.var 8 "_law_digits") (.bin .Add false (.int 3) (.var 13 "_law_j"))) (.int 3)) (.int 2)) (.cons (.bin .FloorDiv false (.ix (.var 8 "_law_digits") (.bin .Add false (.int 3) (.var 13 "_law_j"))) (.int 9)) .nil)))) (.bin .Mod false (.bi .int (.cons (.ix (.var 8 "_law_digits") (.int 2)) .nil)) (.int 3)))),
    .ite (.and (.cmp .Eq (.ix (.var 8 "_law_digits") (.int 0)) (.int 0)) (.one (.cmp .Gt (.var 7 "_law_k") (.int 0)))) [
      .set 9 "_law_row" (.lc false [("_law_j", 13)] (.nm 13 "_law_j") (.rng1 (.var 2 "_law_width")) .nil (.bin .Mult false (.ix (.ix (.var 4 "_law_rows") (.bin .Sub false (.var 7 "_law_k") (.int 1))) (.var 13 "_law_j")) (.bin .Sub false (.ix (.var 8 "_law_digits") (.int 1)) (.int 4))))] [],
    .ite (.cmp .Eq (.ix (.var 8 "_law_digits") (.int 0)) (.int 1)) [
      .set 9 "_law_row" (.bin .Mult false (.lst false (.cons (.int 0) .nil)) (.var 2 "_law_width"))] [],
    .set 10 "_law_side" (.bi .sum (.cons (.lc false [("_law_j", 13)] (.nm 13 "_law_j") (.rng1 (.var 2 "_law_width")) .nil (.bin .Mult false (.ix (.var 9 "_law_row") (.var 13 "_law_j")) (.ix (.var 6 "_law_x") (.var 13 "_law_j")))) .nil)),
    .ite (.cmp .Eq (.ix (.var 3 "_law_parts_here") (.int 1)) (.int 0)) [
      .set 10 "_law_side" (.bin .Sub false (.bin .Add false (.var 10 "_law_side") (.ix (.var 8 "_law_digits") (.int 1))) (.int 4))] [],
    .ex (.bm .append (.var 4 "_law_rows") (.cons (.bi .tuple (.cons (.var 9 "_law_row") .nil)) .nil)),
    .ex (.bm .append (.var 5 "_law_sides") (.cons (.var 10 "_law_side") .nil))]) (g := []) (xs := rngL 0 (n : Int))
    (σ := [some (.sc ns), some (nT most), some (nT w), some (ilT P), some (.obj M.length), some (.obj (M.length + 1)), some (ilT X), none, none, none, none, none, none, none, none]) (M := M ++ [.lst [], .lst []])
    (fun i σ M' => ∃ rows sides, M' = M ++ [.lst (rows.map tlT), .lst (sides.map T.int)] ∧ ∃ z7 z8 z9 z10, σ = [some (.sc ns), some (nT most), some (nT w), some (ilT P), some (.obj M.length), some (.obj (M.length + 1)), some (ilT X), z7, z8, z9, z10, none, none, none, none] ∧ rows.length = i ∧ ProgOk rows sides w)
    ⟨[], [], rfl, _, _, _, _, rfl, rfl, rfl, fun k r h => by simp at h, fun k x h => by simp at h⟩ (fun _ _ _ _ => by simp) (fun i x σ M' hx ⟨rows, sides, hM, z7, z8, z9, z10, hz, hrl, hok⟩ => by
      subst hz
      obtain ⟨hi, rfl⟩ := rng_get hx
      refine ⟨_, asg_nm .., ?_⟩
      have i12 : i < 12 := by omega
      -- digits
      have q1 : binT .Add false (.int 2) (nT i) M' = some (nT (2 + i), M') := by unfold nT; rw [bin_add]; rfl
      have q2 := kc ns (2 + i) M'
      have q3 : binT .Mult false (.int 41) (nT i) M' = some (.int (41 * (i : Int)), M') := bin_mul (Sm.mulOk (j := 6) (k := 6) (by unfold Sm; decide) (by unfold Sm; omega) (by decide)) false M'
      have q4 : binT .Add false (.int (gt ns (2 + i))) (.int (41 * (i : Int))) M' = some (.int (gt ns (2 + i) + 41 * (i : Int)), M') := rfl
      have q5 := rep_il w 13 M' (by omega)
      have q6 := bin_il [6, 9, 4] (List.replicate w 13) M' (by simp; omega)
      have q7 : T.fl [.int 6, .int 9, .int 4] = ilT [6, 9, 4] := rfl
      have q8 := kp (gt ns (2 + i) + 41 * (i : Int)) (ilT (lsz w)) (lsz w) M' rfl (pureT_il _) (Sm.mono (j := 1100001) ((hns (2 + i)).add (Sm.mono (j := 10) (by unfold Sm; omega) (by decide))) (by decide)) p2 (by simp [lsz]; omega)
      have hDb := pos_of_all (ss := lsz w) (fun s h => (p2 s h).1) (gt ns (2 + i) + 41 * (i : Int))
      generalize hD : parts (gt ns (2 + i) + 41 * (i : Int)) (lsz w) = Dg at q8 hDb
      have hDl : Dg.length = w + 3 := by rw [← hD, parts_len]; simp [lsz]
      have q6' : binT .Add false (ilT [6, 9, 4]) (ilT (List.replicate w 13)) M' = some (ilT (lsz w), M') := q6
      have d0 : ixT (ilT Dg) (.int 0) M' = some (.int (gt Dg 0)) := ix_il Dg 0 M' (by omega)
      have d1 : ixT (ilT Dg) (.int 1) M' = some (.int (gt Dg 1)) := ix_il Dg 1 M' (by omega)
      have d2 : ixT (ilT Dg) (.int 2) M' = some (.int (gt Dg 2)) := ix_il Dg 2 M' (by omega)
      have b1 : (gt Dg 1 - 4).natAbs ≤ 4 := by
        have h1 := (hDb 1).1
        have h2 := (hDb 1).2 (by simp [lsz])
        have : gt (lsz w) 1 = 9 := by simp [lsz, gt]
        omega
      have bj : ∀ j, j < w → 0 ≤ gt Dg (3 + j) ∧ gt Dg (3 + j) < 13 := fun j hj => by
        have h2 := (hDb (3 + j)).2 (by simp [lsz]; omega)
        have : gt (lsz w) (3 + j) = 13 := by
          unfold lsz
          rw [gt_append, if_neg (by simp), show 3 + j - ([6, 9, 4] : List Int).length = j by simp, gt_rep, if_pos hj]
        exact ⟨(hDb (3 + j)).1, by omega⟩
      have f3 : 0 ≤ (gt Dg 2).fmod 3 ∧ (gt Dg 2).fmod 3 < 3 := by
        rw [Int.fmod_eq_emod_of_nonneg _ (by decide)]
        exact ⟨Int.emod_nonneg _ (by decide), Int.emod_lt_of_pos _ (by decide)⟩
      -- the first row
      have l1 : lcr G (.nm 13 "_law_j") .nil (.ix (.lst false (.cons (.bin .Sub false (.ix (.var 8 "_law_digits") (.bin .Add false (.int 3) (.var 13 "_law_j"))) (.int 6)) (.cons (.bin .Sub false (.bin .FloorDiv false (.ix (.var 8 "_law_digits") (.bin .Add false (.int 3) (.var 13 "_law_j"))) (.int 3)) (.int 2)) (.cons (.bin .FloorDiv false (.ix (.var 8 "_law_digits") (.bin .Add false (.int 3) (.var 13 "_law_j"))) (.int 9)) .nil)))) (.bin .Mod false (.bi .int (.cons (.ix (.var 8 "_law_digits") (.int 2)) .nil)) (.int 3)))
          [some (.sc ns), some (nT most), some (nT w), some (ilT P), some (.obj M.length), some (.obj (M.length + 1)), some (ilT X), some (nT i), some (ilT Dg), z9, z10, none, none, none, none] [] (rngL 0 (w : Int)) M' = some ((rowA Dg w).map T.int, M') := by
        rw [rngL_map, rowA, List.map_map]
        refine lcr_of nT _ (by simp) fun j hj => ?_
        have hj' := List.mem_range.mp hj
        have a1 : binT .Add false (.int 3) (nT j) M' = some (nT (3 + j), M') := by unfold nT; rw [bin_add]; rfl
        have a2 := ix_il Dg (3 + j) M' (by omega)
        have a3 := at_pick (a := gt Dg (3 + j) - 6) (b := (gt Dg (3 + j)).fdiv 3 - 2) (c := (gt Dg (3 + j)).fdiv 9) f3.1 f3.2
        simp [stepL, a1, a2, d2, bin_div (show divOk 3 by decide), bin_div (show divOk 9 by decide), bin_mod (show (3 : Int) ≠ 0 by decide), a3]
      have r1l : (rowA Dg w).length = w := by simp [rowA]
      have r1b : ∀ x ∈ rowA Dg w, x.natAbs ≤ 6 := fun x hx => by
        obtain ⟨j, hj, rfl⟩ := mem_range_map hx
        have := bj j hj
        rw [Int.fdiv_eq_ediv_of_nonneg _ (by decide), Int.fdiv_eq_ediv_of_nonneg _ (by decide)]
        unfold pick3
        split
        · omega
        · split <;> omega
      -- the row at last
      have h4i : 1 ≤ 4 ^ i := Nat.pow_pos (by decide)
      have rlen : rows.length = i := hrl
      have atR : M'[M.length]? = some (.lst (rows.map tlT)) := by rw [hM, List.getElem?_append_right (by omega), Nat.sub_self]; rfl
      have atS : M'[M.length + 1]? = some (.lst (sides.map T.int)) := by rw [hM, List.getElem?_append_right (by omega), Nat.add_sub_cancel_left]; rfl
      have key : ∃ row : List Int, row.length = w ∧ (∀ x ∈ row, x.natAbs ≤ 6 * 4 ^ i) ∧ ∀ rest : List MS, (exSs G (
          .ite (.and (.cmp .Eq (.ix (.var 8 "_law_digits") (.int 0)) (.int 0)) (.one (.cmp .Gt (.var 7 "_law_k") (.int 0)))) [
            .set 9 "_law_row" (.lc false [("_law_j", 13)] (.nm 13 "_law_j") (.rng1 (.var 2 "_law_width")) .nil (.bin .Mult false (.ix (.ix (.var 4 "_law_rows") (.bin .Sub false (.var 7 "_law_k") (.int 1))) (.var 13 "_law_j")) (.bin .Sub false (.ix (.var 8 "_law_digits") (.int 1)) (.int 4))))] [] ::
          .ite (.cmp .Eq (.ix (.var 8 "_law_digits") (.int 0)) (.int 1)) [
            .set 9 "_law_row" (.bin .Mult false (.lst false (.cons (.int 0) .nil)) (.var 2 "_law_width"))] [] :: rest)
          [some (.sc ns), some (nT most), some (nT w), some (ilT P), some (.obj M.length), some (.obj (M.length + 1)), some (ilT X), some (nT i), some (ilT Dg), some (ilT (rowA Dg w)), z10, none, none, none, none] M') =
          exSs G rest [some (.sc ns), some (nT most), some (nT w), some (ilT P), some (.obj M.length), some (.obj (M.length + 1)), some (ilT X), some (nT i), some (ilT Dg), some (ilT row), z10, none, none, none, none] M' := by
        by_cases h0 : gt Dg 0 = 0
        · by_cases hi0 : 0 < i
          · have hp : rows[i - 1]? = some rows[i - 1] := List.getElem?_eq_getElem (by omega)
            obtain ⟨pl, pb⟩ := hok.r _ _ hp
            generalize hpr : rows[i - 1] = pr at *
            let nr : List Int := (List.range w).map fun j => gt pr j * (gt Dg 1 - 4)
            have e4 : (4 : Nat) ^ i = 4 * 4 ^ (i - 1) := by
              conv => lhs; rw [show i = (i - 1) + 1 by omega]
              rw [Nat.pow_succ]; omega
            have h4b : (4 : Nat) ^ (i - 1) ≤ 4 ^ 11 := Nat.pow_le_pow_right (by decide) (by omega)
            have l2 : lcr G (.nm 13 "_law_j") .nil (.bin .Mult false (.ix (.ix (.var 4 "_law_rows") (.bin .Sub false (.var 7 "_law_k") (.int 1))) (.var 13 "_law_j")) (.bin .Sub false (.ix (.var 8 "_law_digits") (.int 1)) (.int 4)))
                [some (.sc ns), some (nT most), some (nT w), some (ilT P), some (.obj M.length), some (.obj (M.length + 1)), some (ilT X), some (nT i), some (ilT Dg), some (ilT (rowA Dg w)), z10, none, none, none, none] [] (rngL 0 (w : Int)) M' = some (nr.map T.int, M') := by
              rw [rngL_map]
              show _ = some (((List.range w).map _).map T.int, M')
              rw [List.map_map]
              refine lcr_of nT _ (by simp) fun j hj => ?_
              have hj' := List.mem_range.mp hj
              have a1 : binT .Sub false (nT i) (.int 1) M' = some (nT (i - 1), M') := by unfold nT; rw [bin_sub]; congr 3; omega
              have a2 : ixT (.obj M.length) (nT (i - 1)) M' = some (tlT pr) := by
                unfold nT
                rw [ix_obj atR, atI_n, List.getElem?_map, hp]; rfl
              have a3 : ixT (tlT pr) (nT j) M' = some (.int (gt pr j)) := by
                unfold nT
                rw [ix_sof (sof_tl M' pr), at_il _ _ (by omega)]
              have a4 : mulOk (gt pr j) (gt Dg 1 - 4) := Sm.mulOk (j := 30) (k := 3) (by have := gt_le pb j; unfold Sm; omega) (by unfold Sm; omega) (by decide)
              simp [stepL, a1, a2, a3, d1, bin_mul a4]
            have nl : nr.length = w := by simp [nr]
            refine ⟨nr, nl, fun x hx => ?_, fun rest => ?_⟩
            · obtain ⟨j, hj, rfl⟩ := mem_range_map hx
              rw [Int.natAbs_mul, e4]
              have := Nat.mul_le_mul (gt_le pb j) b1
              omega
            · have hw16 : w ≤ 16777216 := by omega
              rw [h0] at d0
              simp [d0, hi0, rgw, wipeE, l2, nl, hw16]
          · refine ⟨rowA Dg w, r1l, fun x hx => by have := r1b x hx; omega, fun rest => ?_⟩
            rw [h0] at d0
            simp [d0, hi0]
        · by_cases h1 : gt Dg 0 = 1
          · refine ⟨List.replicate w 0, by simp, fun x hx => by rw [(List.mem_replicate.mp hx).2]; simp, fun rest => ?_⟩
            have a1 := rep_il w 0 M' (by omega)
            rw [h1] at d0
            simp [d0, a1]
          · refine ⟨rowA Dg w, r1l, fun x hx => by have := r1b x hx; omega, fun rest => ?_⟩
            simp [d0, h0, h1]
      obtain ⟨row, rl, rb, key⟩ := key
      -- the side
      have h4b : (4 : Nat) ^ i ≤ 4 ^ 11 := Nat.pow_le_pow_right (by decide) (by omega)
      have l3 : lcr G (.nm 13 "_law_j") .nil (.bin .Mult false (.ix (.var 9 "_law_row") (.var 13 "_law_j")) (.ix (.var 6 "_law_x") (.var 13 "_law_j")))
          [some (.sc ns), some (nT most), some (nT w), some (ilT P), some (.obj M.length), some (.obj (M.length + 1)), some (ilT X), some (nT i), some (ilT Dg), some (ilT row), z10, none, none, none, none] [] (rngL 0 (w : Int)) M' = some ((dots row X w).map T.int, M') := by
        rw [rngL_map, dots, List.map_map]
        refine lcr_of nT _ (by simp) fun j hj => ?_
        have hj' := List.mem_range.mp hj
        have a1 := ix_il row j M' (by omega)
        have a2 := ix_il X j M' (by omega)
        have a4 : mulOk (gt row j) (gt X j) := Sm.mulOk (j := 30) (k := 3) (by have := gt_le rb j; unfold Sm; omega) (by have := hXb j; unfold Sm; omega) (by decide)
        simp [stepL, a1, a2, bin_mul a4]
      have dl : (dots row X w).length = w := by simp [dots]
      have db : (dots row X w).sum.natAbs ≤ w * (24 * 4 ^ i) := by
        have := sum_le (l := dots row X w) (B := 24 * 4 ^ i) fun x hx => by
          obtain ⟨j, hj, rfl⟩ := mem_range_map hx
          rw [Int.natAbs_mul]
          have := Nat.mul_le_mul (gt_le rb j) (hXb j)
          omega
        rwa [dl] at this
      have db' : (dots row X w).sum.natAbs ≤ 576 * 4 ^ i := by
        have : w * (24 * 4 ^ i) ≤ 24 * (24 * 4 ^ i) := Nat.mul_le_mul_right _ hw
        omega
      have pp1 : ixT (ilT P) (.int 1) M' = some (.int (gt P 1)) := ix_il P 1 M' (by omega)
      obtain ⟨sd, sdb, key2⟩ : ∃ sd : Int, sd.natAbs ≤ 600 * 4 ^ i ∧ ∀ rest : List MS, (exSs G (.ite (.cmp .Eq (.ix (.var 3 "_law_parts_here") (.int 1)) (.int 0)) [
          .set 10 "_law_side" (.bin .Sub false (.bin .Add false (.var 10 "_law_side") (.ix (.var 8 "_law_digits") (.int 1))) (.int 4))] [] :: rest)
          [some (.sc ns), some (nT most), some (nT w), some (ilT P), some (.obj M.length), some (.obj (M.length + 1)), some (ilT X), some (nT i), some (ilT Dg), some (ilT row), some (.int (dots row X w).sum), none, none, none, none] M') =
          exSs G rest [some (.sc ns), some (nT most), some (nT w), some (ilT P), some (.obj M.length), some (.obj (M.length + 1)), some (ilT X), some (nT i), some (ilT Dg), some (ilT row), some (.int sd), none, none, none, none] M' := by
        by_cases h : gt P 1 = 0
        · refine ⟨(dots row X w).sum + gt Dg 1 - 4, by omega, fun rest => ?_⟩
          rw [h] at pp1
          simp [pp1, d1]
        · exact ⟨(dots row X w).sum, by omega, fun rest => by simp [pp1, h]⟩
      have ap1 := bm_append (x := tlT row) atR (by simp; omega)
      rw [hM, il_set] at ap1
      have atS' : (M ++ [.lst (rows.map tlT ++ [tlT row]), .lst (sides.map T.int)])[M.length + 1]? = some (.lst (sides.map T.int)) := by rw [List.getElem?_append_right (by omega), Nat.add_sub_cancel_left]; rfl
      have ap2 := bm_append (x := .int sd) atS' (by simp; rw [hok.sl]; omega)
      rw [il_set1] at ap2
      have lf1 := lof_obj' atR
      have lf2 := lof_obj' atS'
      have bs := bi_sum (dots row X w) M'
      have bt := bi_tup row M'
      refine ⟨[some (.sc ns), some (nT most), some (nT w), some (ilT P), some (.obj M.length), some (.obj (M.length + 1)), some (ilT X), some (nT i), some (ilT Dg), some (ilT row), some (.int sd), none, none, none, none], M ++ [.lst (rows.map tlT ++ [tlT row]), .lst (sides.map T.int ++ [.int sd])], .inl ?_, rows ++ [row], sides ++ [sd], by simp, _, _, _, _, rfl, by simp [hrl], hok.snoc rl (by rw [rlen]; exact rb) (by rw [rlen]; exact sdb)⟩
      have hw16 : w ≤ 16777216 := by omega
      rw [← hM] at ap1
      refine (xs_go (σ1 := [some (.sc ns), some (nT most), some (nT w), some (ilT P), some (.obj M.length), some (.obj (M.length + 1)), some (ilT X), some (nT i), some (ilT Dg), z9, z10, none, none, none, none]) (M1 := M') (by simp [lc, lp, q1, q2, q3, q4, q5, q7, q6', q8])).trans ?_
      refine (xs_go (σ1 := [some (.sc ns), some (nT most), some (nT w), some (ilT P), some (.obj M.length), some (.obj (M.length + 1)), some (ilT X), some (nT i), some (ilT Dg), some (ilT (rowA Dg w)), z10, none, none, none, none]) (M1 := M') (by simp [rgw, wipeE, l1, r1l, hw16])).trans ?_
      refine (key _).trans ?_
      refine (xs_go (σ1 := [some (.sc ns), some (nT most), some (nT w), some (ilT P), some (.obj M.length), some (.obj (M.length + 1)), some (ilT X), some (nT i), some (ilT Dg), some (ilT row), some (.int (dots row X w).sum), none, none, none, none]) (M1 := M') (by simp [rgw, wipeE, l3, dl, hw16, bs])).trans ?_
      refine (key2 _).trans ?_
      simp [bt, lf1, ap1, lf2, ap2])
  subst hz
  rw [rngL_len, show ((n : Int) - 0).toNat = n by omega] at hrl
  let z3 : List Int := List.replicate w 9
  have p3 : ∀ s ∈ z3, 0 < s ∧ Sm 8000 s := fun s hs => by rw [(List.mem_replicate.mp hs).2]; exact ⟨by decide, Sm.mono (j := 4) (by unfold Sm; decide) (by decide)⟩
  have g1 : binT .Add false (.int 2) (nT most) M' = some (nT (2 + most), M') := by unfold nT; rw [bin_add]; rfl
  have g2 := kc ns (2 + most) M'
  have g3 : binT .Mult false (.fl [.int 9]) (nT w) M' = some (ilT z3, M') := rep_il w 9 M' (by omega)
  have g4 := kp (gt ns (2 + most)) (ilT z3) z3 M' rfl (pureT_il _) ((hns (2 + most)).mono (by decide)) p3 (by simp [z3]; omega)
  have hGb := pos_of_all (ss := z3) (fun s h => (p3 s h).1) (gt ns (2 + most))
  have hGl : (parts (gt ns (2 + most)) z3).length = w := by rw [parts_len]; simp [z3]
  generalize parts (gt ns (2 + most)) z3 = Gp at g4 hGb hGl
  have g5 : ixT (ilT P) (.int 2) M' = some (.int (gt P 2)) := ix_il P 2 M' (by omega)
  obtain ⟨sh, g6, hsh⟩ : ∃ sh : Int, atI [T.int 4, T.int 8, T.int 6, T.int 0] (gt P 2) = some (.int sh) ∧ 0 ≤ sh ∧ sh ≤ 8 := by
    have h1 := (hPb 2).1
    have h2 := (hPb 2).2 (by simp [z0])
    have h3 : gt z0 2 = 4 := rfl
    have : gt P 2 = 0 ∨ gt P 2 = 1 ∨ gt P 2 = 2 ∨ gt P 2 = 3 := by omega
    rcases this with h | h | h | h <;> rw [h]
    · exact ⟨4, by simp, by decide, by decide⟩
    · exact ⟨8, by simp, by decide, by decide⟩
    · exact ⟨6, by simp, by decide, by decide⟩
    · exact ⟨0, by simp, by decide, by decide⟩
  let gl : List Int := Gp.map fun g => g - sh
  have gll : gl.length = w := by simp [gl, hGl]
  have l4 : lcr G (.nm 14 "_law_gain") .nil (.bin .Sub false (.var 14 "_law_gain") (.var 12 "_law_shift")) [some (.sc ns), some (nT most), some (nT w), some (ilT P), some (.obj M.length), some (.obj (M.length + 1)), some (ilT X), z7, z8, z9, z10, some (ilT Gp), some (.int sh), none, none] [] (Gp.map T.int) M' = some (gl.map T.int, M') := by
    rw [lcr_of T.int (fun x => .int (x - sh)) (by simp) (fun x hx => by simp [stepL])]
    show _ = some ((Gp.map _).map T.int, M')
    rw [List.map_map]; rfl
  have glb : ∀ x ∈ gl, x.natAbs ≤ 8 := fun x hx => by
    obtain ⟨y, hy, rfl⟩ := List.mem_map.mp hx
    obtain ⟨j, hj, rfl⟩ := mem_gt hy
    have h1 := (hGb j).1
    have h2 := (hGb j).2 (by simp [z3]; omega)
    have h3 : gt z3 j = 9 := by simp only [z3]; rw [gt_rep, if_pos (by omega)]
    omega
  refine ⟨rows, sides, gl, ?_, by omega, hok, gll, glb⟩
  have bt := bi_tup gl M'
  have w16 : w ≤ 16777216 := by omega
  have pp0 : ixT (ilT P) (.int 0) (M ++ [.lst [], .lst []]) = some (nT n) := by
    have := ix_il P 0 (M ++ [.lst [], .lst []]) (by omega)
    rw [hn] at this
    exact this
  have run : exSs G Lib._law_program.body (startE Lib._law_program.N [.sc ns, nT most, nT w]) M = some (.rt (.tup [.obj M.length, .obj (M.length + 1), tlT gl]) M') := by
    unfold Lib._law_program
    simp only [startE, List.map_cons, List.map_nil, List.length_cons, List.length_nil]
    refine (xs_go (σ1 := [some (.sc ns), some (nT most), some (nT w), some (ilT P), none, none, none, none, none, none, none, none, none, none, none]) (M1 := M) (by simp [lc, c0, m1, z0T, lp, e0])).trans ?_
    refine (xs_go (σ1 := [some (.sc ns), some (nT most), some (nT w), some (ilT P), some (.obj M.length), none, none, none, none, none, none, none, none, none, none]) (M1 := M ++ [.lst []]) (by simp)).trans ?_
    refine (xs_go (σ1 := [some (.sc ns), some (nT most), some (nT w), some (ilT P), some (.obj M.length), some (.obj (M.length + 1)), none, none, none, none, none, none, none, none, none]) (M1 := M ++ [.lst [], .lst []]) (by simp)).trans ?_
    refine (xs_go (σ1 := [some (.sc ns), some (nT most), some (nT w), some (ilT P), some (.obj M.length), some (.obj (M.length + 1)), some (ilT X), none, none, none, none, none, none, none, none]) (M1 := M ++ [.lst [], .lst []]) (by simp [lc, c1, i4', lp, e1])).trans ?_
    refine (xs_go (σ1 := [some (.sc ns), some (nT most), some (nT w), some (ilT P), some (.obj M.length), some (.obj (M.length + 1)), some (ilT X), z7, z8, z9, z10, none, none, none, none]) (M1 := M') (by simp [pp0, rgn, hfr])).trans ?_
    simp [lc, g1, g2, g3, lp, g4, g5, g6, wipeE, l4, gll, w16, bt]
  have pr : pureTs (rows.map tlT) = true := pure_map (fun l => by show pureTs (l.map T.int) = true; exact pureTs_ints l) rows
  have ps : pureTs (sides.map T.int) = true := pureTs_ints sides
  have s1 := seal_lst (n := M.length) (f := 4) (Nat.le_refl _) (show M'[M.length]? = some (.lst (rows.map tlT)) by rw [hM, List.getElem?_append_right (by omega), Nat.sub_self]; rfl) pr
  have s2 := seal_lst (n := M.length) (f := 4) (i := M.length + 1) (by omega) (show M'[M.length + 1]? = some (.lst (sides.map T.int)) by rw [hM, List.getElem?_append_right (by omega), Nat.add_sub_cancel_left]; rfl) ps
  have s3 : sealT M' M.length 5 (tlT gl) = some (tlT gl) := seal_pure (by show pureTs (gl.map T.int) = true; exact pureTs_ints gl)
  rw [run_rt (by rfl) run]
  have htk : M'.take M.length = M := by rw [hM]; simp
  unfold fin
  rw [if_pos ⟨rfl, htk⟩]
  have : sealT M' M.length 6 (.tup [.obj M.length, .obj (M.length + 1), tlT gl]) = some (.tup [.fl (rows.map tlT), ilT sides, tlT gl]) := by
    unfold sealT
    rw [if_neg (by simp [pureT, pureTs])]
    simp only [List.mapM_cons, List.mapM_nil, s1, s2, s3]
    rfl
  rw [this]
end Mi
end L2

/-! maximize before the law's judging. -/
namespace L2
namespace Mi
open PySem PySem.Spec PyProof.Rows
variable {G : Sig}
mutual
theorem eqT_refl : ∀ t : T, okT t = true → eqT t t = true
  | .non, _ => rfl
  | .bl b, _ => by simp [eqT]
  | .int i, _ => by simp [eqT]
  | .str x, _ => by simp [eqT]
  | .tup xs, h => eqTs_refl xs h
  | .fl xs, h => eqTs_refl xs h
  | .fd _ _ _, h => by simp [okT] at h
  | .sc _, h => by simp [okT] at h
  | .obj _, h => by simp [okT] at h
theorem eqTs_refl : ∀ t : List T, okTs t = true → eqTs t t = true
  | [], _ => rfl
  | x :: xs, h => by
    simp only [okTs, Bool.and_eq_true] at h
    simp only [eqTs, Bool.and_eq_true]
    exact ⟨eqT_refl x h.1, eqTs_refl xs h.2⟩
end
mutual
theorem okT_pure : ∀ t : T, okT t = true → pureT t = true
  | .non, _ => rfl
  | .bl b, _ => rfl
  | .int i, _ => rfl
  | .str x, _ => rfl
  | .tup xs, h => okTs_pure xs h
  | .fl xs, h => okTs_pure xs h
  | .fd _ _ _, h => by simp [okT] at h
  | .sc _, h => by simp [okT] at h
  | .obj _, h => by simp [okT] at h
theorem okTs_pure : ∀ t : List T, okTs t = true → pureTs t = true
  | [], _ => rfl
  | x :: xs, h => by
    simp only [okTs, Bool.and_eq_true] at h
    simp only [pureTs, Bool.and_eq_true]
    exact ⟨okT_pure x h.1, okTs_pure xs h.2⟩
end
theorem scL_ok {t : T} (h : okT t = true) : scL t = t := by
  cases t <;> first | rfl | (simp [okT] at h)
theorem eqv_ok {x y : T} (M : Mem) (h1 : okT x = true) (h2 : okT y = true) (d1 : depT x ≤ 60) (d2 : depT y ≤ 60) : eqv? M x y = some (eqT x y) := by
  unfold eqv?
  rw [scL_ok h1, scL_ok h2, seal_pure (okT_pure x h1), seal_pure (okT_pure y h2)]
  simp only [Option.bind_some]
  rw [if_pos ⟨h1, h2, d1, d2⟩]
theorem eqv_self {x : T} (M : Mem) (h : okT x = true) (hd : depT x ≤ 60) : eqv? M x x = some true := by
  rw [eqv_ok M h h hd hd, eqT_refl x h]
theorem okTs_map {α : Type} {f : α → T} (h : ∀ a, okT (f a) = true) : ∀ l : List α, okTs (l.map f) = true
  | [] => rfl
  | a :: l => by rw [List.map_cons, okTs, h a, okTs_map h l]; rfl
theorem depTs_map {α : Type} {f : α → T} {d : Nat} (h : ∀ a, depT (f a) ≤ d) : ∀ l : List α, depTs (l.map f) ≤ d
  | [] => Nat.zero_le _
  | a :: l => by
    rw [List.map_cons, depTs]
    have := h a
    have := depTs_map h l
    omega
theorem okT_tl (l : List Int) : okT (tlT l) = true := okTs_map (fun _ => rfl) l
theorem okT_il (l : List Int) : okT (ilT l) = true := okTs_map (fun _ => rfl) l
theorem depT_tl (l : List Int) : depT (tlT l) ≤ 1 := by
  show depTs (l.map T.int) + 1 ≤ 1
  have := depTs_map (f := T.int) (d := 0) (fun _ => Nat.le_refl _) l
  omega
theorem depT_il (l : List Int) : depT (ilT l) ≤ 1 := by
  show depTs (l.map T.int) + 1 ≤ 1
  have := depTs_map (f := T.int) (d := 0) (fun _ => Nat.le_refl _) l
  omega
/-- maximize and the law agree when sizes do not matter -/
structure Siz (rows : List (List Int)) (sides gains : List Int) (C Cg E : Nat) : Prop where
  i : MaxIn rows sides gains C Cg
  gC : Cg ≤ C
  e1 : (rows.length * C) ^ rows.length ≤ 2 ^ E
  e2 : E ≤ 949
  e3 : C ≤ 2 ^ 1000000
theorem Siz.lsz {rows : List (List Int)} {sides gains : List Int} {C Cg E D : Nat} (Z : Siz rows sides gains C Cg E) (hD : 0 < D) (hD2 : D ≤ (rows.length * C) ^ rows.length) : LSz rows sides gains D C (bigN rows.length C Cg) := by
  have I := Z.i
  have f := I.few
  have dE : D ≤ 2 ^ E := Nat.le_trans hD2 Z.e1
  have hb : bigN rows.length C Cg ≤ 2 ^ 10 * (2 ^ 1000000 * 2 ^ E) := Nat.mul_le_mul (by omega) (Nat.mul_le_mul (Nat.le_trans Z.gC Z.e3) Z.e1)
  refine ⟨I.rw_, I.sl, by omega, I.cr, I.cs, fun x h => Nat.le_trans (I.cg x h) Z.gC, I.c1, ?_, hD, ?_, ?_⟩
  · have h1 : 1 ≤ (rows.length * C) ^ rows.length := Nat.lt_of_lt_of_le hD hD2
    have h2 : 1 ≤ Cg * (rows.length * C) ^ rows.length := Nat.le_trans (Nat.mul_le_mul I.g1 h1) (Nat.le_refl _)
    exact Nat.le_trans (Nat.mul_le_mul (show 1 ≤ rows.length + 1 by omega) h2) (Nat.le_refl _)
  · refine Nat.lt_of_le_of_lt (Nat.mul_le_mul dE dE) ?_
    rw [← Nat.pow_add]
    exact Nat.pow_lt_pow_right (by decide) (by have := Z.e2; omega)
  · refine Nat.lt_of_le_of_lt (Nat.mul_le_mul (show rows.length + gains.length ≤ 2 ^ 10 by omega) (Nat.mul_le_mul Z.e3 hb)) ?_
    rw [← Nat.pow_add, ← Nat.pow_add, ← Nat.pow_add, ← Nat.pow_add]
    exact Nat.pow_lt_pow_right (by decide) (by have := Z.e2; omega)
theorem nums_len {rows : List (List Int)} {sides gains : List Int} {a : Ans} (h : Right rows sides gains a) : a.nums.length ≤ rows.length + gains.length + gains.length := by
  cases a with
  | none y => have := h.1; simp [Ans.nums]; omega
  | any x r => have h1 := h.1; have h2 := h.2.1; simp [Ans.nums]; omega
  | most x y => have h1 := h.1; have h2 := h.2.1; simp [Ans.nums]; omega
/-- what maximize tells is what the law calls right -/
theorem max_law {Fm Fr : Fn} (hm : IsMax Fm) (hr : IsLRight Fr) {rowsT sidesT gainsT : T} {rows : List (List Int)} {sides gains : List Int} {M : Mem} {C Cg E : Nat} (h1 : sof M rowsT = some (rows.map tlT)) (h2 : sof M sidesT = some (sides.map T.int)) (h3 : sof M gainsT = some (gains.map T.int)) (Z : Siz rows sides gains C Cg E) :
    ∃ a, Fm [rowsT, sidesT, gainsT] M = some (ansT a, M) ∧ Fr [rowsT, sidesT, gainsT, ansT a] M = some (.bl true, M) ∧ Right rows sides gains a := by
  obtain ⟨a, e1, R, D, d0, dB, ov⟩ := hm rowsT sidesT gainsT rows sides gains M C Cg h1 h2 h3 Z.i
  obtain ⟨b, e2, hb⟩ := hr rowsT sidesT gainsT rows sides gains a M D C (bigN rows.length C Cg) h1 h2 h3 (Z.lsz d0 dB) ov (by have := nums_len R; have := Z.i.few; omega)
  have : b = true := hb.mpr R
  subst this
  exact ⟨a, e1, e2, R⟩
/-- sizes of the drawn programs -/
theorem prog_siz {rows : List (List Int)} {sides gains : List Int} {w : Nat} (P : ProgOk rows sides w) (hl : rows.length ≤ 12) (hw : w ≤ 24) (hg : gains.length = w) (hgb : ∀ x ∈ gains, x.natAbs ≤ 8) : Siz rows sides gains (600 * 4 ^ 12) 8 444 := by
  have hk : ∀ k, k < rows.length → (4 : Nat) ^ k ≤ 4 ^ 12 := fun k h => Nat.pow_le_pow_right (by decide) (by omega)
  have hp : (rows.length * (600 * 4 ^ 12)) ^ rows.length ≤ 2 ^ 444 := by
    have h1 : rows.length * (600 * 4 ^ 12) ≤ 2 ^ 37 := by omega
    refine Nat.le_trans (Nat.pow_le_pow_left h1 _) ?_
    rw [← Nat.pow_mul]
    exact Nat.pow_le_pow_right (by decide) (by omega)
  refine ⟨⟨P.sl, fun r h => ?_, by omega, fun r h x hx => ?_, fun x hx => ?_, by decide, hgb, by decide, ?_⟩, by decide, hp, by decide, ?_⟩
  · obtain ⟨k, hk, e⟩ := List.mem_iff_getElem.mp h
    rw [hg]
    exact (P.r k r (by rw [List.getElem?_eq_getElem hk, e])).1
  · obtain ⟨k, hk', e⟩ := List.mem_iff_getElem.mp h
    have := (P.r k r (by rw [List.getElem?_eq_getElem hk', e])).2 x hx
    have := hk k hk'
    omega
  · obtain ⟨k, hk', e⟩ := List.mem_iff_getElem.mp hx
    have := P.s k x (by rw [List.getElem?_eq_getElem hk', e])
    have := hk k (by rw [← P.sl]; exact hk')
    omega
  · refine Nat.lt_of_le_of_lt (Nat.mul_le_mul (show rows.length + 1 ≤ 2 ^ 4 by omega) (Nat.mul_le_mul (show 8 ≤ 2 ^ 3 by decide) hp)) ?_
    rw [← Nat.pow_add, ← Nat.pow_add]
    exact Nat.pow_lt_pow_right (by decide) (by decide)
  · exact Nat.le_trans (show 600 * 4 ^ 12 ≤ 2 ^ 34 by decide) (Nat.pow_le_pow_right (by decide) (by decide))
theorem bits_sm {z : Int} (h : Builtin.Int.intBits z ≤ 1048576) : Sm 1048577 z := by
  unfold Builtin.Int.intBits at h
  unfold Sm
  by_cases h0 : z.natAbs = 0
  · rw [h0]; exact Nat.pow_pos (by decide)
  · have := Nat.lt_log2_self (n := z.natAbs)
    refine Nat.lt_of_lt_of_le this (Nat.pow_le_pow_right (by decide) ?_)
    first | omega | (simp_all; omega)
theorem cell_sm {ns : List Int} (hb : ∀ z ∈ ns, Builtin.Int.intBits z ≤ 1048576) (k : Nat) : Sm 1100000 (gt ns k) := by
  unfold gt
  by_cases h : k < ns.length
  · rw [List.getD_eq_getElem?_getD, List.getElem?_eq_getElem h]
    exact (bits_sm (hb _ (List.getElem_mem h))).mono (by decide)
  · rw [List.getD_eq_getElem?_getD, List.getElem?_eq_none (by omega)]
    exact Nat.pow_pos (by decide)
end Mi
end L2

/-! The program's judging of answers of programs. -/
namespace L2
namespace Mi
open PySem PySem.Spec PyProof.Rows
variable {G : Sig}
structure POk (D B : Nat) : Prop where
  d0 : 0 < D
  dd : D < 2 ^ 20000000
  bb : B < 2 ^ 20000000
theorem POk.sq {D B B' : Nat} (h : POk D B) {q : Rat} (hq : InD D B' q) (hB : B' ≤ B) : Sq 20000000 q := hq.sq h.d0 h.dd (Nat.lt_of_le_of_lt hB h.bb)
def IsProduct (F : Fn) : Prop := ∀ (isT xT : T) (is : List Int) (qs : List Rat) (M : Mem) (D A B : Nat), sof M isT = some (is.map T.int) → sof M xT = some (qs.map ratT) → (∀ a ∈ is, a.natAbs ≤ A) → (∀ q ∈ qs, InD D B q) → 1 ≤ A → 1 ≤ B → POk D ((qs.length + 1) * (A * B)) →
  F [isT, xT] M = some (ratT (dotQ is qs), M)
theorem sp_product (hn : HasN G) (hp : Knows G "plus" (IsOpR (· + ·))) (ht : Knows G "times" (IsOpR (· * ·))) : IsProduct (runD G Lib.product) := by
  intro isT xT is qs M D A B hi hx ha hq hA hB hO
  obtain ⟨F1, l1, k1⟩ := hp
  obtain ⟨F2, l2, k2⟩ := ht
  let zs : List Rat := List.zipWith (fun (a : Int) q => (a : Rat) * q) is qs
  have hzl : zs.length ≤ qs.length := by simp [zs]; omega
  have hn' : G.glbs.lookup (Str.ofString "NOUGHT") = some (ratT 0) := hn
  have hzip : (zipT (is.map T.int) (qs.map ratT)).length = zs.length := by rw [zipT_len]; simp [zs]
  obtain ⟨σ', M', hfr, hM, z3, z4, hz, hin⟩ := fr_inv (G := G) (tg := .tp (.cons (.nm 3 "integer") (.cons (.nm 4 "part") .nil))) (b := [
    .ite (.and (.var 3 "integer") (.one (.ix (.var 4 "part") (.int 0)))) [
      .set 2 "found" (.call "plus" (.cons (.var 2 "found") (.cons (.call "times" (.cons (.tup (.cons (.var 3 "integer") (.cons (.int 1) .nil))) (.cons (.var 4 "part") .nil))) .nil)))] []]) (g := grdOf isT (is.map T.int) ++ grdOf xT (qs.map ratT)) (xs := zipT (is.map T.int) (qs.map ratT))
    (σ := [some isT, some xT, some (ratT 0), none, none]) (M := M)
    (fun i σ M' => M' = M ∧ ∃ z3 z4, σ = [some isT, some xT, some (ratT (zs.take i).sum), z3, z4] ∧ (i ≤ zs.length → InD D (i * (A * B)) (zs.take i).sum))
    ⟨rfl, _, _, rfl, fun _ => by rw [List.take_zero]; exact .zero hO.d0⟩ (fun i σ M' h => by
      rw [h.1]
      intro p hp
      rcases List.mem_append.mp hp with hp | hp
      · exact sof_grd hi p hp
      · exact sof_grd hx p hp) (fun i x σ M' hx' ⟨hM, z3, z4, hz, hin⟩ => by
      subst hM; subst hz
      have hil : i < zs.length := by
        have := (List.getElem?_eq_some_iff.mp hx').1
        rwa [hzip] at this
      obtain ⟨x1, x2, h1, h2, rfl⟩ := zipT_get hx'
      obtain ⟨a, hai, rfl⟩ := map_get h1
      obtain ⟨q, hqi, rfl⟩ := map_get h2
      have zi : zs[i]? = some ((a : Rat) * q) := by simp only [zs, List.getElem?_zipWith, hai, hqi]
      have q1 := hq q (List.mem_of_getElem? hqi)
      have a1 := ha a (List.mem_of_getElem? hai)
      have s1 := hin (by omega)
      have m1 := q1.mul a1
      have hn1 : i + 1 ≤ qs.length + 1 := by omega
      have hAB : A * B ≤ (qs.length + 1) * (A * B) := Nat.le_mul_of_pos_left _ (by omega)
      have hiAB : i * (A * B) ≤ (qs.length + 1) * (A * B) := Nat.mul_le_mul_right _ (by omega)
      have hAA : A ≤ (qs.length + 1) * (A * B) := Nat.le_trans (Nat.le_mul_of_pos_right _ hB) hAB
      have hBB : B ≤ (qs.length + 1) * (A * B) := Nat.le_trans (Nat.le_mul_of_pos_left _ hA) hAB
      have e' := sum_take zs i _ zi
      have x0 := x0_rat q M'
      refine ⟨[some isT, some xT, some (ratT (zs.take i).sum), some (.int a), some (ratT q)], by simp, [some isT, some xT, some (ratT (zs.take (i + 1)).sum), some (.int a), some (ratT q)], M', .inl ?_, rfl, _, _, rfl, fun _ => by rw [e', Nat.succ_mul]; exact s1.add m1⟩
      by_cases h0 : a = 0
      · subst h0
        have : (zs.take (i + 1)).sum = (zs.take i).sum := by
          rw [e']
          have : ((0 : Int) : Rat) * q = 0 := by rw [show ((0 : Int) : Rat) = 0 from rfl, Rat.zero_mul]
          rw [this, Rat.add_zero]
        rw [this]
        simp
      · by_cases hq0 : q.num = 0
        · have hq00 : q = 0 := Rat.num_eq_zero.mp hq0
          have : (zs.take (i + 1)).sum = (zs.take i).sum := by
            rw [e', hq00, Rat.mul_zero, Rat.add_zero]
          rw [this]
          rw [hq0] at x0
          simp [h0, x0]
        · have e2 := k2 (a : Rat) q M' (Sq.mono (j := 20000000) (Sq.int (Nat.lt_of_le_of_lt (Nat.le_trans a1 hAA) hO.bb) (by decide)) (by decide)) (Sq.mono (hO.sq q1 hBB) (by decide))
          rw [ratT_int] at e2
          have e3 := k1 (zs.take i).sum ((a : Rat) * q) M' (Sq.mono (hO.sq s1 hiAB) (by decide)) (Sq.mono (hO.sq m1 hAB) (by decide))
          rw [e']
          generalize (zs.take i).sum = S at *
          simp [h0, x0, hq0, l2, e2, l1, e3])
  subst hM; subst hz
  rw [hzip, List.take_length] at hfr
  refine run_same rfl (ratT_pure _) rfl ?_
  have hd : zs.sum = dotQ is qs := rfl
  rw [hd] at hfr
  simp [Lib.product, startE, hn', hi, hx, hfr]
theorem LSz.pok {rows : List (List Int)} {sides gains : List Int} {D A B n : Nat} (L : LSz rows sides gains D A B) (h : n ≤ rows.length + gains.length) (hb : (rows.length + gains.length + 1) * (A * B) < 2 ^ 20000000) : POk D ((n + 1) * (A * B)) :=
  ⟨L.ok.d0, Nat.lt_of_le_of_lt (Nat.le_mul_of_pos_left _ L.ok.d0) (Nat.lt_of_lt_of_le L.ok.dd (Nat.pow_le_pow_right (by decide) (by decide))), Nat.lt_of_le_of_lt (Nat.mul_le_mul_right _ (by omega)) hb⟩
def PB (rows : List (List Int)) (gains : List Int) (A B : Nat) : Prop := (rows.length + gains.length + 1) * (A * B) < 2 ^ 20000000
theorem blsOf_map : ∀ l : List Bool, blsOf (l.map T.bl) = some l
  | [] => rfl
  | x :: l => by rw [List.map_cons, blsOf, blsOf_map l]; rfl
theorem bi_any (l : List Bool) (M : Mem) : biT .any [.fl (l.map T.bl)] M = some (.bl (l.any id), M) := by
  show ((lof M (.fl (l.map T.bl))).bind fun ts => (blsOf ts).map fun bs => (T.bl (bs.any id), M)) = _
  rw [lof_fl]
  simp only [Option.bind_some]
  rw [blsOf_map]; rfl
theorem bi_all (l : List Bool) (M : Mem) : biT .all [.fl (l.map T.bl)] M = some (.bl (l.all id), M) := by
  show ((lof M (.fl (l.map T.bl))).bind fun ts => (blsOf ts).map fun bs => (T.bl (bs.all id), M)) = _
  rw [lof_fl]
  simp only [Option.bind_some]
  rw [blsOf_map]; rfl
theorem sgn_neg (q : Rat) : decide (sgnR q < 0) = decide (q < 0) := by
  rw [decide_eq_decide]
  unfold sgnR
  have p := pos_num q
  have n := neg_num q
  by_cases h1 : 0 < q
  · have h2 : ¬q < 0 := fun h => by rw [p] at h1; rw [n] at h; omega
    simp [h1, h2]
  · by_cases h2 : q < 0
    · simp [h1, h2]
    · simp [h1, h2]
theorem sgn_pos (q : Rat) : decide (0 < sgnR q) = decide (0 < q) := by
  rw [decide_eq_decide]
  unfold sgnR
  have p := pos_num q
  have n := neg_num q
  by_cases h1 : 0 < q
  · have h2 : ¬q < 0 := fun h => by rw [p] at h1; rw [n] at h; omega
    simp [h1, h2]
  · by_cases h2 : q < 0
    · simp [h1, h2]
    · simp [h1, h2]
def IsPFit (F : Fn) : Prop := ∀ (rowsT sidesT xT : T) (rows : List (List Int)) (sides gains : List Int) (qs : List Rat) (M : Mem) (D A B : Nat), sof M rowsT = some (rows.map tlT) → sof M sidesT = some (sides.map T.int) → sof M xT = some (qs.map ratT) → LSz rows sides gains D A B → PB rows gains A B → qs.length = gains.length → (∀ q ∈ qs, InD D B q) →
  ∃ b, F [rowsT, sidesT, xT] M = some (.bl b, M) ∧ (b = true ↔ Fit rows sides qs)
theorem sp_isfit (hp : Knows G "product" IsProduct) (hs' : Knows G "sign" IsSign) : IsPFit (runD G Lib.is_fit) := by
  intro rowsT sidesT xT rows sides gains qs M D A B hr hs hx L hb hql hq
  obtain ⟨F, l1, k1⟩ := hp
  obtain ⟨F2, l2, k2⟩ := hs'
  have few := L.few
  let n1 : List Bool := qs.map fun q => decide (q < 0)
  have lc1 : lcr G (.nm 3 "part") .nil (.cmp .Lt (.call "sign" (.cons (.var 3 "part") .nil)) (.int 0)) [some rowsT, some sidesT, some xT, none, none, none] (grdOf xT (qs.map ratT)) (qs.map ratT) M = some (n1.map T.bl, M) := by
    rw [lcr_of ratT (fun q => .bl (decide (q < 0))) (sof_grd hx) (fun q _ => by
      have e := k2 q M
      have c := sgn_neg q
      simp [stepL, l2, e, c])]
    show _ = some ((qs.map _).map T.bl, M)
    rw [List.map_map]; rfl
  have ln1 : n1.length ≤ 16777216 := by simp [n1]; omega
  have a1 := bi_any n1 M
  have n1h : n1.any id = true ↔ ¬∀ q ∈ qs, 0 ≤ q := by
    simp only [n1, List.any_map, List.any_eq_true, Function.comp, id, decide_eq_true_eq]
    constructor
    · rintro ⟨q, hq', h⟩ hall
      exact absurd h (Rat.not_lt.mpr (hall q hq'))
    · intro h
      refine Classical.byContradiction fun hn => h fun q hq' => Rat.not_lt.mp fun hl => hn ⟨q, hq', hl⟩
  let n2 : List Bool := List.zipWith (fun r s => decide (dotQ r qs = ((s : Int) : Rat))) rows sides
  have lc2 : lcr G (.tp (.cons (.nm 4 "row") (.cons (.nm 5 "side") .nil))) .nil (.cmp .Eq (.call "product" (.cons (.var 4 "row") (.cons (.var 2 "x") .nil))) (.tup (.cons (.var 5 "side") (.cons (.int 1) .nil)))) [some rowsT, some sidesT, some xT, none, none, none] (grdOf rowsT (rows.map tlT) ++ grdOf sidesT (sides.map T.int)) (zipT (rows.map tlT) (sides.map T.int)) M = some (n2.map T.bl, M) := by
    refine lcr_ix (fun p hp => by
      rcases List.mem_append.mp hp with hp | hp
      · exact sof_grd hr p hp
      · exact sof_grd hs p hp) (by simp [n2, zipT_len]) fun i x y hx' hy => ?_
    obtain ⟨x1, x2, h1, h2, rfl⟩ := zipT_get hx'
    obtain ⟨r, hri, rfl⟩ := map_get h1
    obtain ⟨s, hsi, rfl⟩ := map_get h2
    obtain ⟨v, hv, rfl⟩ := map_get hy
    simp only [n2, List.getElem?_zipWith, hri, hsi, Option.some.injEq] at hv
    have hrm := List.mem_of_getElem? hri
    have e := k1 (tlT r) xT r qs M D A B rfl hx (L.ra r hrm) hq L.a1 L.b1 (L.pok (by omega) hb)
    have c : cmpT .Eq (ratT (dotQ r qs)) (.tup [.int s, .int 1]) M = some v := by
      rw [← ratT_int, cmpeq_of (eqv_rat _ _ M), hv]
    simp [stepL, l1, e, c]
  have ln2 : n2.length ≤ 16777216 := by simp [n2]; omega
  have a2 := bi_all n2 M
  have n2h : n2.all id = true ↔ ∀ i, i < rows.length → dotQ (rows.getD i []) qs = (gt sides i : Rat) := by
    have hl2 : n2.length = rows.length := by simp [n2, L.sl]
    have at2 : ∀ i (h : i < rows.length), n2[i]? = some (decide (dotQ (rows.getD i []) qs = (gt sides i : Rat))) := fun i h => by
      have hs3 : i < sides.length := by rw [L.sl]; exact h
      simp only [n2, List.getElem?_zipWith, List.getElem?_eq_getElem h, List.getElem?_eq_getElem hs3]
      unfold gt
      rw [List.getD_eq_getElem?_getD, List.getD_eq_getElem?_getD, List.getElem?_eq_getElem h, List.getElem?_eq_getElem hs3]; rfl
    rw [List.all_eq_true]
    constructor
    · intro h i hi
      have := h _ (List.mem_of_getElem? (at2 i hi))
      simpa using this
    · intro h b hb'
      obtain ⟨i, hi, e⟩ := List.mem_iff_getElem.mp hb'
      have h2 := at2 i (by omega)
      rw [List.getElem?_eq_getElem hi, e, Option.some.injEq] at h2
      rw [h2, h i (by omega)]; simp
  generalize n1 = N1 at *
  generalize n2 = N2 at *
  by_cases h : N1.any id = true
  · refine ⟨false, run_same rfl rfl rfl ?_, by simp; exact fun hf => n1h.mp h hf.1⟩
    rw [h] at a1
    simp [Lib.is_fit, startE, hx, wipeE, lc1, ln1, a1]
  · refine ⟨N2.all id, run_same rfl rfl rfl ?_, ?_⟩
    · rw [Bool.not_eq_true] at h
      rw [h] at a1
      simp only [Lib.is_fit]
      simp [startE, hx, hr, hs, wipeE, lc1, ln1, a1]
      simp [startE, hx, hr, hs, wipeE, lc2, ln2, a2]
    · rw [n2h]
      exact ⟨fun h2 => ⟨Classical.byContradiction fun hn => h (n1h.mpr hn), h2⟩, fun h2 => h2.2⟩
def IsPCols (F : Fn) : Prop := ∀ (rowsT yT gainsT : T) (rows : List (List Int)) (sides gains gs : List Int) (qs : List Rat) (M : Mem) (D A B : Nat), sof M rowsT = some (rows.map tlT) → sof M gainsT = some (gs.map T.int) → sof M yT = some (qs.map ratT) → LSz rows sides gains D A B → PB rows gains A B → gs.length = gains.length → (∀ x ∈ gs, x.natAbs ≤ A) → qs.length = rows.length → (∀ q ∈ qs, InD D B q) →
  ∃ b, F [rowsT, yT, gainsT] M = some (.bl b, M) ∧ (b = true ↔ Reach rows qs gs)
theorem sp_pcols (hw : Knows G "product" IsProduct) (hle : Knows G "less" IsLess) : IsPCols (runD G Lib.columns_reach) := by
  intro rowsT yT gainsT rows sides gains gs qs M D A B hr hg hy L hb hgl hga hql hq
  obtain ⟨F, l1, k1⟩ := hw
  obtain ⟨F2, l2, k2⟩ := hle
  have few := L.few
  obtain ⟨r, hfr, q⟩ := fr_inv2 (G := G) (tg := .tp (.cons (.nm 3 "column") (.cons (.nm 4 "gain") .nil))) (b := [
    .ite (.call "less" (.cons (.call "product" (.cons (.lc false [("row", 5)] (.nm 5 "row") (.over (.var 0 "rows")) .nil (.ix (.var 5 "row") (.var 3 "column"))) (.cons (.var 1 "y") .nil))) (.cons (.tup (.cons (.var 4 "gain") (.cons (.int 1) .nil))) .nil))) [
      .ret (.bl false)] []]) (g := grdOf gainsT (gs.map T.int)) (xs := enumL 0 (gs.map T.int)) (σ := [some rowsT, some yT, some gainsT, none, none, none]) (M := M)
    (fun i σ M' => M' = M ∧ (∃ z z', σ = [some rowsT, some yT, some gainsT, z, z', none]) ∧ ∀ j, j < i → (gt gs j : Rat) ≤ dotQ (colL rows j) qs)
    (fun r => (r = .rt (.bl false) M ∧ ¬Reach rows qs gs) ∨ (∃ z z', r = .nx [some rowsT, some yT, some gainsT, z, z', none] M ∧ Reach rows qs gs))
    ⟨rfl, ⟨_, _, rfl⟩, fun j h => by omega⟩ (fun i σ M' h => by rw [h.1]; exact sof_grd hg) (fun j x σ M' hx ⟨hM, ⟨z, z', hz⟩, hj⟩ => by
      subst hM; subst hz
      obtain ⟨t, ht, rfl⟩ := enum_get hx
      obtain ⟨v, hv, rfl⟩ := map_get ht
      have hjl : j < gs.length := (List.getElem?_eq_some_iff.mp hv).1
      have ev : v = gt gs j := by unfold gt; rw [List.getD_eq_getElem?_getD, hv]; rfl
      subst ev
      refine ⟨[some rowsT, some yT, some gainsT, some (nT j), some (.int (gt gs j)), none], by simp, ?_⟩
      have lc : lcr G (.nm 5 "row") .nil (.ix (.var 5 "row") (.var 3 "column")) [some rowsT, some yT, some gainsT, some (nT j), some (.int (gt gs j)), none] (grdOf rowsT (rows.map tlT)) (rows.map tlT) M' = some ((colL rows j).map T.int, M') := by
        rw [lcr_of tlT (fun r => .int (gt r j)) (sof_grd hr) (fun r hr' => ?_), colL, List.map_map]
        · rfl
        · have i1 : ixT (tlT r) (nT j) M' = some (.int (gt r j)) := by
            unfold nT
            rw [ix_sof (sof_tl M' r), at_il _ _ (by rw [L.rw_ r hr']; omega)]
          simp [stepL, i1]
      have cl : (colL rows j).length = rows.length := by simp [colL]
      have e := k1 (ilT (colL rows j)) yT (colL rows j) qs M' D A B rfl hy (col_abs L.ra) hq L.a1 L.b1 (L.pok (by omega) hb)
      have din := dot_in L.ok.d0 (col_abs (j := j) L.ra) hq
      have hn1 : 1 ≤ rows.length + gains.length := by omega
      have hAA : A ≤ (rows.length + gains.length) * (A * B) := Nat.le_trans (Nat.le_mul_of_pos_right _ L.b1) (Nat.le_mul_of_pos_left _ hn1)
      have ga : (gt gs j).natAbs ≤ A := gt_le hga j
      have e2 := k2 (dotQ (colL rows j) qs) (gt gs j : Rat) M' (L.ok.sq (din.mono (Nat.mul_le_mul_right _ (by omega)))) (Sq.int (Nat.lt_of_le_of_lt (Nat.le_trans ga hAA) (Nat.lt_of_lt_of_le L.ok.bb (Nat.pow_le_pow_right (by decide) (by decide)))) (by decide))
      rw [ratT_int] at e2
      have c16 : rows.length ≤ 16777216 := by omega
      generalize hc : colL rows j = cj at *
      by_cases h : dotQ cj qs < (gt gs j : Rat)
      · refine .inr (.inl ⟨.bl false, M', ?_, .inl ⟨rfl, fun hR => ?_⟩⟩)
        · simp [hr, wipeE, lc, cl, c16, l1, e, l2, e2, h]
        · have := hR j hjl
          rw [hc] at this
          exact absurd h (Rat.not_lt.mpr this)
      · refine .inl ⟨[some rowsT, some yT, some gainsT, some (nT j), some (.int (gt gs j)), none], M', .inl (by simp [hr, wipeE, lc, cl, c16, l1, e, l2, e2, h]), rfl, ⟨_, _, rfl⟩, fun j' hj' => ?_⟩
        by_cases ej : j' = j
        · subst ej; rw [hc]; exact Rat.not_lt.mp h
        · exact hj j' (by omega)) (fun σ M' ⟨hM, ⟨z, z', hz⟩, hj⟩ => by
      subst hM; subst hz
      exact .inr ⟨z, z', rfl, fun j h => hj j (by rw [enumL_len, List.length_map]; omega)⟩)
  rcases q with ⟨rfl, q⟩ | ⟨z, z', rfl, q⟩
  · refine ⟨false, run_same rfl rfl rfl ?_, by simp [q]⟩
    simp [Lib.columns_reach, startE, hg, hfr]
  · refine ⟨true, run_same rfl rfl rfl ?_, by simp [q]⟩
    simp [Lib.columns_reach, startE, hg, hfr]
/-- of the right lengths -/
def LenOk (rows : List (List Int)) (gains : List Int) : Ans → Prop
  | .none y => y.length = rows.length
  | .any x r => x.length = gains.length ∧ r.length = gains.length
  | .most x y => x.length = gains.length ∧ y.length = rows.length
def IsShows (F : Fn) : Prop := ∀ (rowsT sidesT gainsT : T) (rows : List (List Int)) (sides gains : List Int) (a : Ans) (M : Mem) (D A B : Nat), sof M rowsT = some (rows.map tlT) → sof M sidesT = some (sides.map T.int) → sof M gainsT = some (gains.map T.int) → LSz rows sides gains D A B → PB rows gains A B → (∀ q ∈ a.nums, InD D B q) → LenOk rows gains a →
  ∃ b, F [rowsT, sidesT, gainsT, ansT a] M = some (.bl b, M) ∧ (b = true ↔ Right rows sides gains a)
theorem sp_shows (hcol : Knows G "columns_reach" IsPCols) (hw : Knows G "product" IsProduct) (hfit : Knows G "is_fit" IsPFit) (hsg : Knows G "sign" IsSign) : IsShows (runD G Lib.shows) := by
  intro rowsT sidesT gainsT rows sides gains a M D A B hr hs hg L hb hq hlo
  obtain ⟨Fc, lc, kc⟩ := hcol
  obtain ⟨Fw, lw, kw⟩ := hw
  obtain ⟨Ff, lf, kf⟩ := hfit
  obtain ⟨Fs, ls, ks⟩ := hsg
  have few := L.few
  have b1 : biT .len [rowsT] M = some (nT rows.length, M) := by rw [len_sof hr, List.length_map]
  have b2 : biT .len [gainsT] M = some (nT gains.length, M) := by rw [len_sof hg, List.length_map]
  have z1 := rep_il gains.length 0 M (by omega)
  have z2 := rep_il rows.length 0 M (by omega)
  have rep0 : ∀ n, ∀ x ∈ List.replicate n (0 : Int), x.natAbs ≤ A := fun n x hx => by rw [(List.mem_replicate.mp hx).2]; simp
  have L0 : ∀ n, n = rows.length → LSz rows (List.replicate n 0) gains D A B := fun n h => ⟨L.rw_, by simp [h], L.few, L.ra, rep0 n, L.ga, L.a1, L.b1, L.ok⟩
  cases a with
  | none y =>
    have hy : ∀ q ∈ y, InD D B q := hq
    have hl : y.length = rows.length := hlo
    have t0 : ixT (ansT (.none y)) (.int 0) M = some (.str "none") := by unfold ansT; rw [ix_tup, at_0]
    have tt : ixT (ansT (.none y)) (.int 1) M = some (tupQ y) := by unfold ansT; rw [ix_tup, at_1]
    obtain ⟨c, e2, h2⟩ := kc rowsT (tupQ y) (ilT (List.replicate gains.length 0)) rows sides gains (List.replicate gains.length 0) y M D A B hr rfl rfl L hb (by simp) (rep0 _) hl hy
    have e3 := kw sidesT (tupQ y) sides y M D A B hs rfl L.sa hy L.a1 L.b1 (L.pok (by omega) hb)
    have e4 := ks (dotQ sides y) M
    have c4 := sgn_neg (dotQ sides y)
    refine ⟨c && decide (dotQ sides y < 0), run_same rfl rfl rfl ?_, ?_⟩
    · cases c <;> simp [Lib.shows, startE, t0, str_nn, tt, b2, z1, lc, e2, lw, e3, ls, e4, c4]
    · rw [Bool.and_eq_true, h2, decide_eq_true_eq]
      exact ⟨fun h => ⟨hl, h.1, h.2⟩, fun h => ⟨h.2.1, h.2.2⟩⟩
  | any x r =>
    have hx : ∀ q ∈ x, InD D B q := fun q h => hq q (List.mem_append_left _ h)
    have hrr : ∀ q ∈ r, InD D B q := fun q h => hq q (List.mem_append_right _ h)
    obtain ⟨hl, hl2⟩ := hlo
    have t0 : ixT (ansT (.any x r)) (.int 0) M = some (.str "any") := by unfold ansT; rw [ix_tup, at_0]
    have tt : ixT (ansT (.any x r)) (.int 1) M = some (tupQ x) := by unfold ansT; rw [ix_tup, at_1]
    have tt2 : ixT (ansT (.any x r)) (.int 2) M = some (tupQ r) := by unfold ansT; rw [ix_tup, at_2]
    obtain ⟨c, e2, h2⟩ := kf rowsT sidesT (tupQ x) rows sides gains x M D A B hr hs rfl L hb hl hx
    cases c with
    | false =>
      refine ⟨false, run_same rfl rfl rfl ?_, ?_⟩
      · simp [Lib.shows, startE, t0, str_an, tt, lf, e2]
      · simp at h2 ⊢; exact fun h => h2 h.2.2.1
    | true =>
      have h2' := h2.mp rfl
      obtain ⟨c2, e3, h3⟩ := kf rowsT (ilT (List.replicate rows.length 0)) (tupQ r) rows (List.replicate rows.length 0) gains r M D A B hr rfl rfl (L0 _ rfl) hb hl2 hrr
      have e4 := kw gainsT (tupQ r) gains r M D A B hg rfl L.ga hrr L.a1 L.b1 (L.pok (by omega) hb)
      have e5 := ks (dotQ gains r) M
      have c5 := sgn_pos (dotQ gains r)
      refine ⟨c2 && decide (0 < dotQ gains r), run_same rfl rfl rfl ?_, ?_⟩
      · cases c2 <;> simp [Lib.shows, startE, t0, str_an, str_aa, tt, tt2, b1, lf, e2, z2, e3, lw, e4, ls, e5, c5]
      · rw [Bool.and_eq_true, h3, decide_eq_true_eq]
        exact ⟨fun h => ⟨hl, hl2, h2', h.1, h.2⟩, fun h => ⟨h.2.2.2.1, h.2.2.2.2⟩⟩
  | most x y =>
    have hx : ∀ q ∈ x, InD D B q := fun q h => hq q (List.mem_append_left _ h)
    have hrr : ∀ q ∈ y, InD D B q := fun q h => hq q (List.mem_append_right _ h)
    obtain ⟨hl, hl2⟩ := hlo
    have t0 : ixT (ansT (.most x y)) (.int 0) M = some (.str "most") := by unfold ansT; rw [ix_tup, at_0]
    have tt : ixT (ansT (.most x y)) (.int 1) M = some (tupQ x) := by unfold ansT; rw [ix_tup, at_1]
    have tt2 : ixT (ansT (.most x y)) (.int 2) M = some (tupQ y) := by unfold ansT; rw [ix_tup, at_2]
    obtain ⟨c, e2, h2⟩ := kf rowsT sidesT (tupQ x) rows sides gains x M D A B hr hs rfl L hb hl hx
    cases c with
    | false =>
      refine ⟨false, run_same rfl rfl rfl ?_, ?_⟩
      · simp [Lib.shows, startE, t0, str_mn, tt, lf, e2]
      · simp at h2 ⊢; exact fun h => h2 h.2.2.1
    | true =>
      have h2' := h2.mp rfl
      obtain ⟨c2, e3, h3⟩ := kc rowsT (tupQ y) gainsT rows sides gains gains y M D A B hr hg rfl L hb rfl L.ga hl2 hrr
      have e4 := kw gainsT (tupQ x) gains x M D A B hg rfl L.ga hx L.a1 L.b1 (L.pok (by omega) hb)
      have e5 := kw sidesT (tupQ y) sides y M D A B hs rfl L.sa hrr L.a1 L.b1 (L.pok (by omega) hb)
      have c := cmpeq_of (eqv_rat (dotQ gains x) (dotQ sides y) M)
      refine ⟨c2 && decide (dotQ gains x = dotQ sides y), run_same rfl rfl rfl ?_, ?_⟩
      · cases c2 <;> simp [Lib.shows, startE, t0, str_mn, str_ma, tt, tt2, lf, e2, lc, e3, lw, e4, e5, c]
      · rw [Bool.and_eq_true, h3, decide_eq_true_eq]
        exact ⟨fun h => ⟨hl, hl2, h2', h.1, h.2⟩, fun h => ⟨h.2.2.2.1, h.2.2.2.2⟩⟩
end Mi
end L2

/-! Answers that the law changes or draws. -/
namespace L2
namespace Mi
open PySem PySem.Spec PyProof.Rows
variable {G : Sig}
def IsLPlusRaw (F : Fn) : Prop := ∀ (a : Rat) (n : Int) (d : Nat) (M : Mem), 0 < d → Sq 60000000 a → Sm 1000 n → Sm 1000 (d : Int) → Sm 1900 ((a.den : Int) * (d : Int)) → F [ratT a, .tup [.int n, nT d]] M = some (ratT (a + (n : Rat) / ((d : Int) : Rat)), M)
theorem sp_lplus_raw (h : Knows G "_law_number" IsLNum) : IsLPlusRaw (runD G Lib._law_plus) := by
  intro a n d M hd sa sn sd sm
  obtain ⟨F, hl, hF⟩ := h
  refine run_pure (M1 := []) rfl rfl (ratT_pure _) ?_
  rw [List.append_nil]
  have e := hF (a.num * (d : Int) + n * (a.den : Int)) ((a.den : Int) * (d : Int)) M (Int.mul_ne_zero (den_n0 a) (by omega)) sm
  have ev : ((a.num * (d : Int) + n * (a.den : Int) : Int) : Rat) / (((a.den : Int) * (d : Int) : Int) : Rat) = a + (n : Rat) / ((d : Int) : Rat) := by
    have ha := den_ne a
    have hb : ((d : Int) : Rat) ≠ 0 := cast_ne (by omega)
    conv => rhs; rw [rat_split a]
    rw [Rat.intCast_add, Rat.intCast_mul, Rat.intCast_mul, Rat.intCast_mul]
    grind
  rw [ev] at e
  have m1 : mulOk a.num (d : Int) := Sm.mulOk sa.1 sd (by decide)
  have m2 : mulOk n (a.den : Int) := Sm.mulOk sn sa.2 (by decide)
  have m3 : mulOk (a.den : Int) (d : Int) := Sm.mulOk sa.2 sd (by decide)
  have x0 := x0_rat a M
  have x1 : ixT (ratT a) (.int 1) M = some (.int (a.den : Int)) := by unfold ratT; rw [ix_tup, at_1]
  have y1 : atI [T.int n, nT d] 1 = some (.int (d : Int)) := by rw [at_1]; rfl
  have b1 := bin_mul m1 false M
  have b2 := bin_mul m2 false M
  have b3 := bin_mul m3 false M
  simp only [Lib._law_plus, startE, List.map_cons, List.map_nil, List.length_cons, List.length_nil, xs_cons, xs_nil, x_ret, e_call, es_cons, es_nil, e_bin, e_ix, e_var, e_int, List.getElem?_cons_zero, List.getElem?_cons_succ, Option.bind_some, id, Option.map_some, x0, x1, ix_tup, at_0, y1, b1, b2, b3, hl, List.cons_append, List.nil_append, bin_add, e, nxt_rt, List.replicate, Nat.sub_self]
/-- all of them over 6 D -/
theorem InD.six {D B : Nat} {q : Rat} (h : InD D B q) (hD : 0 < D) : InD (6 * D) (6 * B) q := by
  obtain ⟨z, rfl, hz⟩ := h
  refine ⟨6 * z, ?_, by rw [Int.natAbs_mul]; exact Nat.mul_le_mul (by decide) hz⟩
  have h1 : ((D : Int) : Rat) ≠ 0 := cast_ne (by omega)
  have h2 : (((6 * D : Nat) : Int) : Rat) = 6 * ((D : Int) : Rat) := by rw [Int.natCast_mul, Rat.intCast_mul]; rfl
  have h3 : ((6 * z : Int) : Rat) = 6 * (z : Rat) := by rw [Rat.intCast_mul]; rfl
  rw [h2, h3]; grind
theorem inD_small {D d : Nat} {n : Int} (hD : 0 < D) (hd : d = 1 ∨ d = 2 ∨ d = 3) {A : Nat} (hn : n.natAbs ≤ A) : InD (6 * D) (A * (6 * D)) ((n : Rat) / ((d : Int) : Rat)) := by
  have h1 : ((D : Int) : Rat) ≠ 0 := cast_ne (by omega)
  have h2 : (((6 * D : Nat) : Int) : Rat) = 6 * ((D : Int) : Rat) := by rw [Int.natCast_mul, Rat.intCast_mul]; rfl
  rcases hd with rfl | rfl | rfl
  · refine ⟨n * (6 * D : Nat), ?_, by rw [Int.natAbs_mul]; simp only [Int.natAbs_natCast]; exact Nat.mul_le_mul_right _ hn⟩
    rw [Rat.intCast_mul, h2]
    have : ((((1 : Nat) : Int)) : Rat) = 1 := rfl
    rw [this]; grind
  · refine ⟨n * (3 * D : Nat), ?_, by rw [Int.natAbs_mul]; simp only [Int.natAbs_natCast]; exact Nat.mul_le_mul hn (by omega)⟩
    have h3 : (((3 * D : Nat) : Int) : Rat) = 3 * ((D : Int) : Rat) := by rw [Int.natCast_mul, Rat.intCast_mul]; rfl
    rw [Rat.intCast_mul, h2, h3]
    have : ((((2 : Nat) : Int)) : Rat) = 2 := rfl
    rw [this]; grind
  · refine ⟨n * (2 * D : Nat), ?_, by rw [Int.natAbs_mul]; simp only [Int.natAbs_natCast]; exact Nat.mul_le_mul hn (by omega)⟩
    have h3 : (((2 * D : Nat) : Int) : Rat) = 2 * ((D : Int) : Rat) := by rw [Int.natCast_mul, Rat.intCast_mul]; rfl
    rw [Rat.intCast_mul, h2, h3]
    have : ((((3 : Nat) : Int)) : Rat) = 3 := rfl
    rw [this]; grind
def chB (D B : Nat) : Nat := 6 * B + 30 * (6 * D)
@[simp] theorem bin_mod_nT (a b : Nat) (hb : 0 < b) (tr : Bool) (M : Mem) : binT .Mod tr (nT a) (nT b) M = some (nT (a % b), M) := by
  unfold nT
  rw [bin_mod (by omega), fmod_nat]
def IsLChanged (F : Fn) : Prop := ∀ (qs : List Rat) (at_ : Nat) (by_ : Int) (M : Mem) (D B : Nat), by_.natAbs ≤ 30 → qs.length < 1000 → 0 < D → D * 3 < 2 ^ 1900 → B < 2 ^ 50000000 → (∀ q ∈ qs, InD D B q) →
  ∃ qs', F [tupQ qs, nT at_, .int by_] M = some (tupQ qs', M) ∧ qs'.length = qs.length ∧ ∀ q ∈ qs', InD (6 * D) (chB D B) q
theorem sp_lchanged (h : Knows G "_law_plus" IsLPlusRaw) : IsLChanged (runD G Lib._law_changed) := by
  intro qs at_ by_ M D B hby hl hD hD2 hB hq
  obtain ⟨F, l1, k1⟩ := h
  have b1 : biT .len [tupQ qs] M = some (nT qs.length, M) := by rw [len_sof (sof_tupQ M qs), List.length_map]
  by_cases h0 : qs.length = 0
  · refine ⟨qs, run_same rfl (pure_tupQ _) rfl ?_, rfl, fun q hq' => by have := List.length_eq_zero_iff.mp h0; subst this; cases hq'⟩
    simp [Lib._law_changed, startE, b1, h0]
  · let k := at_ % qs.length
    have hk : k < qs.length := Nat.mod_lt _ (by omega)
    let d := 1 + at_ % 3
    have hd : d = 1 ∨ d = 2 ∨ d = 3 := by
      have := Nat.mod_lt at_ (show 0 < 3 by decide)
      simp only [d]; omega
    have q1 := hq qs[k] (List.getElem_mem ..)
    have sz := q1.sz hD
    have sq1 : Sq 60000000 qs[k] := q1.sq hD (Nat.lt_of_le_of_lt (show D ≤ D * 3 by omega) (Nat.lt_of_lt_of_le hD2 (Nat.pow_le_pow_right (by decide) (by decide)))) (Nat.lt_of_lt_of_le hB (Nat.pow_le_pow_right (by decide) (by decide)))
    have e := k1 qs[k] by_ d M (by omega) sq1 (Sm.mono (j := 5) (by unfold Sm; omega) (by decide)) (Sm.mono (j := 3) (by unfold Sm; omega) (by decide)) (by
      unfold Sm
      rw [Int.natAbs_mul]
      simp only [Int.natAbs_natCast]
      exact Nat.lt_of_le_of_lt (Nat.mul_le_mul sz.2 (by omega)) hD2)
    refine ⟨qs.set k (qs[k] + (by_ : Rat) / ((d : Int) : Rat)), run_same rfl (pure_tupQ _) rfl ?_, by simp, fun q hq' => ?_⟩
    · have m1 := bin_mod_nT at_ qs.length (by omega) false M
      have m2 : binT .Mod false (nT at_) (.int 3) M = some (nT (at_ % 3), M) := bin_mod_nT at_ 3 (by decide) false M
      have m3 : binT .Add false (.int 1) (nT (at_ % 3)) M = some (nT d, M) := by unfold nT; rw [bin_add]; congr
      have x1 : ixT (tupQ qs) (nT k) M = some (ratT qs[k]) := by
        unfold nT
        rw [ix_sof (sof_tupQ M qs), atI_n, List.getElem?_map, List.getElem?_eq_getElem hk]; rfl
      have c1 : slT false (tupQ qs) none (some (k : Int)) M = some (tupQ (qs.take k), M) := by
        show some (T.tup (cutT _ _ _), M) = _
        rw [cut_lo, ← List.map_take]; rfl
      have c2 : slT false (tupQ qs) (some ((k : Int) + 1)) none M = some (tupQ (qs.drop (k + 1)), M) := by
        show some (T.tup (cutT _ _ _), M) = _
        rw [show (k : Int) + 1 = ((k + 1 : Nat) : Int) by omega, cut_hi, ← List.map_drop]; rfl
      have c3 : binT .Add false (tupQ (qs.take k)) (.tup [ratT (qs[k] + (by_ : Rat) / ((d : Int) : Rat))]) M = some (tupQ (qs.take k ++ [qs[k] + (by_ : Rat) / ((d : Int) : Rat)]), M) := by
        unfold tupQ
        rw [tup_cat _ _ _ (by simp; omega), List.map_append]; rfl
      have c4 : binT .Add false (tupQ (qs.take k ++ [qs[k] + (by_ : Rat) / ((d : Int) : Rat)])) (tupQ (qs.drop (k + 1))) M = some (tupQ (qs.set k (qs[k] + (by_ : Rat) / ((d : Int) : Rat))), M) := by
        unfold tupQ
        rw [tup_cat _ _ _ (by simp; omega), ← List.map_append]
        congr 4
        rw [List.set_eq_take_append_cons_drop, if_pos hk]
        simp
      have c0 : prtT (nT k) = some (some (k : Int)) := rfl
      have c5 : binT .Add false (nT k) (.int 1) M = some (.int ((k : Int) + 1), M) := rfl
      have ii : biT .int [nT at_] M = some (nT at_, M) := rfl
      generalize hv : qs[k] + (by_ : Rat) / ((d : Int) : Rat) = v at *
      generalize qs[k] = q0 at *
      have m1' : binT .Mod false (nT at_) (nT qs.length) M = some (nT k, M) := m1
      have dd : at_ % qs.length = k := rfl
      generalize k = kk at *
      refine (xs_go (σ1 := [some (tupQ qs), some (nT at_), some (.int by_), none]) (M1 := M) (by simp [startE, b1, h0]; rfl)).trans ?_
      refine (xs_go (σ1 := [some (tupQ qs), some (nT at_), some (.int by_), some (nT kk)]) (M1 := M) (by simp [ii, b1, m1'])).trans ?_
      simp [c1, c2, c3, c4, c0, c5, x1, ii, m2, m3, l1, e]
    · rcases List.mem_or_eq_of_mem_set hq' with h | h
      · exact (hq q h).six hD |>.mono (by unfold chB; omega)
      · rw [h]
        exact (((q1.six hD).add (inD_small hD hd hby))).mono (by unfold chB; omega)
def IsLDrawn (F : Fn) : Prop := ∀ (ps : List Int) (n : Nat) (M : Mem) (D B : Nat), n < 1000 → n < ps.length → 0 < D → (∀ k, 0 ≤ gt ps k ∧ gt ps k < 6) →
  ∃ qs, F [ilT ps, nT n] M = some (tupQ qs, M) ∧ qs.length = n ∧ ∀ q ∈ qs, InD (6 * D) (chB D B) q
theorem sp_ldrawn (h : Knows G "_law_number" IsLNum) : IsLDrawn (runD G Lib._law_drawn) := by
  intro ps n M D B hn hl hD hb
  obtain ⟨F, l1, k1⟩ := h
  let dn : Nat → Nat := fun k => 1 + (gt ps (k + 1)).toNat / 3
  have hdn : ∀ k, dn k = 1 ∨ dn k = 2 ∨ dn k = 3 := fun k => by
    have := hb (k + 1)
    simp only [dn]; omega
  let qs : List Rat := (List.range n).map fun k => ((gt ps k - 2 : Int) : Rat) / ((dn k : Int) : Rat)
  have lc : lcr G (.nm 2 "_law_k") .nil (.call "_law_number" (.cons (.bin .Sub false (.ix (.var 0 "_law_parts_here") (.var 2 "_law_k")) (.int 2)) (.cons (.bin .Add false (.int 1) (.bin .FloorDiv false (.ix (.var 0 "_law_parts_here") (.bin .Add false (.var 2 "_law_k") (.int 1))) (.int 3))) .nil))) [some (ilT ps), some (nT n), none] [] (rngL 0 (n : Int)) M = some (qs.map ratT, M) := by
    rw [rngL_map]
    show _ = some (((List.range n).map _).map ratT, M)
    rw [List.map_map]
    refine lcr_of nT _ (by simp) fun k hk => ?_
    have hk' := List.mem_range.mp hk
    have x1 := ix_il ps k M (by omega)
    have a1 : binT .Add false (nT k) (.int 1) M = some (nT (k + 1), M) := rfl
    have x2 := ix_il ps (k + 1) M (by omega)
    have hd1 : (gt ps (k + 1)).fdiv 3 = (((gt ps (k + 1)).toNat / 3 : Nat) : Int) := by
      have := hb (k + 1)
      rw [Int.fdiv_eq_ediv_of_nonneg _ (by decide)]
      omega
    have a2 : binT .Add false (.int 1) (.int ((gt ps (k + 1)).fdiv 3)) M = some (.int (dn k : Int), M) := by rw [bin_add, hd1]; simp only [dn]; congr
    have e := k1 (gt ps k - 2) (dn k : Int) M (by have := hdn k; omega) (Sm.mono (j := 3) (by have := hdn k; unfold Sm; omega) (by decide))
    have e' : F [.int (gt ps k - 2), nT (dn k)] M = some (ratT (((gt ps k - 2 : Int) : Rat) / ((dn k : Int) : Rat)), M) := e
    have a2' : binT .Add false (.int 1) (.int ((gt ps (k + 1)).fdiv 3)) M = some (nT (dn k), M) := a2
    have d3 := bin_div (i := gt ps (k + 1)) (show divOk 3 by decide) false M
    show stepL G _ _ _ _ (nT k) M = some ([ratT (((gt ps k - 2 : Int) : Rat) / ((dn k : Int) : Rat))], M)
    generalize ratT (((gt ps k - 2 : Int) : Rat) / ((dn k : Int) : Rat)) = RR at *
    simp [stepL, x1, a1, x2, d3, a2', l1, e']
  have ql : qs.length = n := by simp [qs]
  have qb : ∀ q ∈ qs, InD (6 * D) (chB D B) q := fun q hq => by
    obtain ⟨k, hk, rfl⟩ := List.mem_map.mp hq
    have := hb k
    exact (inD_small (A := 4) hD (hdn k) (by omega)).mono (by unfold chB; omega)
  have bt : biT .tuple [.fl (qs.map ratT)] M = some (tupQ qs, M) := rfl
  have rg := rg1_n (n := n) (by omega)
  generalize qs = Q at *
  refine ⟨Q, run_same rfl (pure_tupQ _) rfl ?_, ql, qb⟩
  have hq16 : Q.length ≤ 16777216 := by omega
  simp [Lib._law_drawn, startE, rg, wipeE, lc, hq16, bt]
end Mi
end L2

/-! Frames: as values; the law's frames and loads. -/
namespace L2
namespace Mi
open PySem PySem.Spec PyProof.Rows
variable {G : Sig}
abbrev Vec := Int × Int
structure Mb where
  i : Nat
  j : Nat
  pull : Option Int
  push : Option Int
structure Fm where
  pts : List Vec
  mbs : List Mb
  pins : List Nat
def vT (p : Vec) : T := .tup [.int p.1, .int p.2]
def oT : Option Int → T
  | none => .non
  | some x => .int x
def mT (m : Mb) : T := .tup [nT m.i, nT m.j, oT m.pull, oT m.push]
def vsT (l : List Vec) : T := .tup (l.map vT)
def fmT (f : Fm) : T := .tup [vsT f.pts, .tup (f.mbs.map mT), .tup (f.pins.map nT)]
def gv (l : List Vec) (k : Nat) : Vec := l.getD k (0, 0)
theorem vT_pure (p : Vec) : pureT (vT p) = true := rfl
theorem oT_pure (o : Option Int) : pureT (oT o) = true := by cases o <;> rfl
theorem mT_pure (m : Mb) : pureT (mT m) = true := by
  show (pureT (nT m.i) && (pureT (nT m.j) && (pureT (oT m.pull) && (pureT (oT m.push) && true)))) = true
  rw [oT_pure, oT_pure]; rfl
theorem vsT_pure (l : List Vec) : pureT (vsT l) = true := pure_map vT_pure l
theorem nT_pure (n : Nat) : pureT (nT n) = true := rfl
theorem fmT_pure (f : Fm) : pureT (fmT f) = true := by
  show pureTs [_, _, _] = true
  simp only [pureTs, Bool.and_eq_true, and_true]
  exact ⟨vsT_pure _, pure_map mT_pure _, pure_map nT_pure _⟩
@[simp] theorem sof_vs (M : Mem) (l : List Vec) : sof M (vsT l) = some (l.map vT) := rfl
@[simp] theorem grdOf_vs (l : List Vec) (us : List T) : grdOf (vsT l) us = [] := rfl
theorem ix_vs {l : List Vec} {k : Nat} (h : k < l.length) (M : Mem) : ixT (vsT l) (nT k) M = some (vT (gv l k)) := by
  unfold nT
  rw [ix_sof (sof_vs M l), atI_n, List.getElem?_map, gv, List.getD_eq_getElem?_getD, List.getElem?_eq_getElem h]; rfl
@[simp] theorem ix_v0 (p : Vec) (M : Mem) : ixT (vT p) (.int 0) M = some (.int p.1) := by unfold vT; rw [ix_tup, at_0]
@[simp] theorem ix_v1 (p : Vec) (M : Mem) : ixT (vT p) (.int 1) M = some (.int p.2) := by unfold vT; rw [ix_tup, at_1]
theorem eqv_v (p q : Vec) (M : Mem) : eqv? M (vT p) (vT q) = some (decide (p = q)) := by
  have e := eqv_ok M (x := vT p) (y := vT q) rfl rfl (by simp [vT, depT, depTs]) (by simp [vT, depT, depTs])
  rw [e]
  obtain ⟨a, b⟩ := p
  obtain ⟨c, d⟩ := q
  simp only [vT, eqT, eqTs, Bool.and_true, Prod.mk.injEq, Option.some.injEq]
  by_cases h1 : a = c <;> by_cases h2 : b = d <;> simp [h1, h2]
def LimOk (o : Option Int) : Prop := ∀ x, o = some x → 0 ≤ x ∧ x ≤ 9
structure FmOk (f : Fm) (n C : Nat) : Prop where
  np : f.pts.length = n
  pc : ∀ p ∈ f.pts, p.1.natAbs ≤ C ∧ p.2.natAbs ≤ C
  mb : ∀ m ∈ f.mbs, m.i < m.j ∧ m.j < n ∧ gv f.pts m.i ≠ gv f.pts m.j
  lim : ∀ m ∈ f.mbs, LimOk m.pull ∧ LimOk m.push
  few : f.mbs.length ≤ 28
  pn : ∀ p ∈ f.pins, p < n
  ps : f.pins.Pairwise (· < ·)
/-! ### points -/
def IsLPoints (F : Fn) : Prop := ∀ (ns : List Int) (n size : Nat) (M : Mem), (∀ k, Sm 1100000 (gt ns k)) → n ≤ 100 → 1 ≤ size → size ≤ 100 → ∃ l, F [.sc ns, nT n, nT size] M = some (vsT l, M) ∧ l.length = n ∧ ∀ p ∈ l, p.1.natAbs ≤ size ∧ p.2.natAbs ≤ size
theorem add_int_nT (a : Nat) (k : Nat) (tr : Bool) (M : Mem) : binT .Add tr (.int (a : Int)) (nT k) M = some (nT (a + k), M) := by unfold nT; rw [bin_add]; rfl
theorem mul_nT (a b : Nat) (h : a < 2 ^ 60) (h' : b < 2 ^ 60) (tr : Bool) (M : Mem) : binT .Mult tr (nT a) (nT b) M = some (nT (a * b), M) := by
  unfold nT
  rw [bin_mul (Sm.mulOk (j := 60) (k := 60) (by unfold Sm; omega) (by unfold Sm; omega) (by decide))]
  congr
theorem sp_lpoints (hcell : Knows G "_law_cell" IsCell) (hparts : Knows G "_law_parts" IsParts) : IsLPoints (runD G Lib._law_points) := by
  intro ns n size M hns hn hs1 hs
  obtain ⟨Fc, lc, kc⟩ := hcell
  obtain ⟨Fp, lp, kp⟩ := hparts
  have pz : ∀ s ∈ [(size : Int), (size : Int)], 0 < s ∧ Sm 8000 s := fun s h => by
    have : s = size ∨ s = size := by simpa using h
    exact ⟨by omega, Sm.mono (j := 7) (by unfold Sm; omega) (by decide)⟩
  obtain ⟨σ', M', hfr, l, hM, z4, z5, hz, hl, hb⟩ := fr_inv (G := G) (tg := .nm 4 "_law_k") (b := [
    .set 5 "_law_parts_here" (.call "_law_parts" (.cons (.bin .Add false (.call "_law_cell" (.cons (.var 0 "_law_script") (.cons (.bin .Add false (.int 3) (.var 4 "_law_k")) .nil))) (.bin .Mult false (.int 17) (.var 4 "_law_k"))) (.cons (.lst false (.cons (.var 2 "_law_size") (.cons (.var 2 "_law_size") .nil))) .nil))),
    .ex (.bm .append (.var 3 "_law_points_here") (.cons (.tup (.cons (.bin .Sub false (.ix (.var 5 "_law_parts_here") (.int 0)) (.int 1)) (.cons (.bin .Sub false (.ix (.var 5 "_law_parts_here") (.int 1)) (.int 1)) .nil))) .nil))]) (g := []) (xs := rngL 0 (n : Int))
    (σ := [some (.sc ns), some (nT n), some (nT size), some (.obj M.length), none, none]) (M := M ++ [.lst []])
    (fun i σ M' => ∃ l : List Vec, M' = M ++ [.lst (l.map vT)] ∧ ∃ z4 z5, σ = [some (.sc ns), some (nT n), some (nT size), some (.obj M.length), z4, z5] ∧ l.length = i ∧ ∀ p ∈ l, p.1.natAbs ≤ size ∧ p.2.natAbs ≤ size)
    ⟨[], rfl, _, _, rfl, rfl, fun p h => by cases h⟩ (fun _ _ _ _ => by simp) (fun i x σ M' hx ⟨l, hM, z4, z5, hz, hl, hb⟩ => by
      subst hz
      obtain ⟨hi, rfl⟩ := rng_get hx
      refine ⟨_, asg_nm .., ?_⟩
      have q1 : binT .Add false (.int 3) (nT i) M' = some (nT (3 + i), M') := add_int_nT 3 i false M'
      have q2 := kc ns (3 + i) M'
      have q3 : binT .Mult false (.int 17) (nT i) M' = some (.int (17 * (i : Int)), M') := bin_mul (Sm.mulOk (j := 6) (k := 7) (by unfold Sm; decide) (by unfold Sm; omega) (by decide)) false M'
      have q4 : binT .Add false (.int (gt ns (3 + i))) (.int (17 * (i : Int))) M' = some (.int (gt ns (3 + i) + 17 * (i : Int)), M') := rfl
      have q5 := kp (gt ns (3 + i) + 17 * (i : Int)) (ilT [(size : Int), (size : Int)]) [(size : Int), (size : Int)] M' rfl (pureT_il _) (Sm.mono (j := 1100001) ((hns (3 + i)).add (Sm.mono (j := 11) (by unfold Sm; omega) (by decide))) (by decide)) pz (by simp)
      have hDb := pos_of_all (ss := [(size : Int), (size : Int)]) (fun s h => (pz s h).1) (gt ns (3 + i) + 17 * (i : Int))
      have hDl : (parts (gt ns (3 + i) + 17 * (i : Int)) [(size : Int), (size : Int)]).length = 2 := by rw [parts_len]; rfl
      generalize parts (gt ns (3 + i) + 17 * (i : Int)) [(size : Int), (size : Int)] = Dg at q5 hDb hDl
      have q6 : T.fl [nT size, nT size] = ilT [(size : Int), (size : Int)] := rfl
      have d0 : ixT (ilT Dg) (.int 0) M' = some (.int (gt Dg 0)) := ix_il Dg 0 M' (by omega)
      have d1 : ixT (ilT Dg) (.int 1) M' = some (.int (gt Dg 1)) := ix_il Dg 1 M' (by omega)
      have b0 := (hDb 0).2 (by simp)
      have b1 := (hDb 1).2 (by simp)
      have c0 := (hDb 0).1
      have c1 := (hDb 1).1
      have g0 : gt [(size : Int), (size : Int)] 0 = size := rfl
      have g1 : gt [(size : Int), (size : Int)] 1 = size := rfl
      have at_ : M'[M.length]? = some (.lst (l.map vT)) := by rw [hM]; exact lst_last M _
      have ap := bm_append (x := vT (gt Dg 0 - 1, gt Dg 1 - 1)) at_ (by simp; omega)
      have ap2 : M'.set M.length (.lst (l.map vT ++ [vT (gt Dg 0 - 1, gt Dg 1 - 1)])) = M ++ [.lst ((l ++ [(gt Dg 0 - 1, gt Dg 1 - 1)]).map vT)] := by rw [hM, lst_set, List.map_append]; rfl
      rw [ap2] at ap
      have ap' : bmT .append (.obj M.length) [.tup [.int (gt Dg 0 - 1), .int (gt Dg 1 - 1)]] M' = _ := ap
      have lf := lof_obj' at_
      refine ⟨[some (.sc ns), some (nT n), some (nT size), some (.obj M.length), some (nT i), some (ilT Dg)], M ++ [.lst ((l ++ [(gt Dg 0 - 1, gt Dg 1 - 1)]).map vT)], .inl ?_, l ++ [(gt Dg 0 - 1, gt Dg 1 - 1)], rfl, _, _, rfl, by simp [hl], fun p hp => ?_⟩
      · generalize (l ++ [(gt Dg 0 - 1, gt Dg 1 - 1)]).map vT = RR at *
        simp [lc, lp, q1, q2, q3, q4, q5, q6, d0, d1, lf, ap']
      · rcases List.mem_append.mp hp with h | h
        · exact hb p h
        · rw [List.mem_singleton.mp h]
          constructor <;> simp only <;> omega)
  subst hM; subst hz
  rw [rngL_len] at hl
  refine ⟨l, ?_, by omega, hb⟩
  have rg := rg1_n (n := n) (by omega)
  have s3 : sof (M ++ [.lst (l.map vT)]) (.obj M.length) = some (l.map vT) := sof_obj (lst_last M _)
  have bt : biT .tuple [.obj M.length] (M ++ [.lst (l.map vT)]) = some (vsT l, M ++ [.lst (l.map vT)]) := by
    show (sof _ _).map _ = _
    rw [s3]; rfl
  refine run_pure (M1 := [.lst (l.map vT)]) rfl rfl (vsT_pure _) ?_
  generalize l.map vT = RR at *
  simp [Lib._law_points, startE, rg, hfr, bt]
/-! ### limits -/
/-- bar, cable, strut -/
def Bcs (a b : Option Int) : Prop := (a = none ∧ b = none) ∨ (a = none ∧ b = some 0) ∨ (a = some 0 ∧ b = none)
def IsLLimits (F : Fn) : Prop := ∀ (dg : Int) (style : Nat) (M : Mem), 0 ≤ dg → dg < 567 → ∃ a b, F [.int dg, nT style] M = some (.tup [oT a, oT b], M) ∧ LimOk a ∧ LimOk b ∧ (style = 0 → a = none ∧ b = none) ∧ (style = 1 → Bcs a b) ∧ (3 ≤ style → a ≠ none ∧ b ≠ none)
theorem limOk_none : LimOk none := fun x h => by cases h
theorem limOk_some {x : Int} (h0 : 0 ≤ x) (h9 : x ≤ 9) : LimOk (some x) := fun y h => by cases h; exact ⟨h0, h9⟩
theorem sp_llimits : IsLLimits (runD G Lib._law_limits) := by
  intro dg style M h0 h567
  have f7 : dg.fdiv 7 = dg / 7 := Int.fdiv_eq_ediv_of_nonneg _ (by decide)
  have f63 : dg.fdiv 63 = dg / 63 := Int.fdiv_eq_ediv_of_nonneg _ (by decide)
  have e1 : (dg.fdiv 7).fmod 9 = dg / 7 % 9 := by rw [f7, Int.fmod_eq_emod_of_nonneg _ (by decide)]
  have e2 : (dg.fdiv 63).fmod 9 = dg / 63 % 9 := by rw [f63, Int.fmod_eq_emod_of_nonneg _ (by decide)]
  have d7 := bin_div (i := dg) (show divOk 7 by decide) false M
  have d63 := bin_div (i := dg) (show divOk 63 by decide) false M
  have m9a := bin_mod (i := dg.fdiv 7) (show (9 : Int) ≠ 0 by decide) false M
  have m9b := bin_mod (i := dg.fdiv 63) (show (9 : Int) ≠ 0 by decide) false M
  rw [e1] at m9a
  rw [e2] at m9b
  have m4 := bin_mod (i := dg) (show (4 : Int) ≠ 0 by decide) false M
  have m7 := bin_mod (i := dg) (show (7 : Int) ≠ 0 by decide) false M
  have e4 : dg.fmod 4 = dg % 4 := Int.fmod_eq_emod_of_nonneg _ (by decide)
  have e7 : dg.fmod 7 = dg % 7 := Int.fmod_eq_emod_of_nonneg _ (by decide)
  rw [e4] at m4
  rw [e7] at m7
  generalize hA : 1 + dg / 7 % 9 = A
  generalize hB : 1 + dg / 63 % 9 = B
  have a1 : 1 ≤ A ∧ A ≤ 9 := by omega
  have b1 : 1 ≤ B ∧ B ≤ 9 := by omega
  by_cases s0 : style = 0
  · subst s0
    refine ⟨none, none, run_same rfl rfl rfl ?_, limOk_none, limOk_none, fun _ => ⟨rfl, rfl⟩, fun h => by omega, fun h => by omega⟩
    simp [Lib._law_limits, startE, d7, m9a, oT]
  · by_cases s1 : style = 1
    · subst s1
      have c1 : cmpT .Eq (nT 1) (.int 1) M = some true := by rw [show (T.int 1) = nT 1 from rfl, cmp_eq_nT]; rfl
      have : dg % 4 = 0 ∨ dg % 4 = 1 ∨ dg % 4 = 2 ∨ dg % 4 = 3 := by omega
      rcases this with h | h | h | h <;> rw [h] at m4
      · refine ⟨none, none, run_same rfl rfl rfl ?_, limOk_none, limOk_none, fun h => by omega, fun _ => .inl ⟨rfl, rfl⟩, fun h => by omega⟩
        simp [Lib._law_limits, startE, d7, m9a, oT, m4, c1]
      · refine ⟨none, some 0, run_same rfl rfl rfl ?_, limOk_none, limOk_some (by decide) (by decide), fun h => by omega, fun _ => .inr (.inl ⟨rfl, rfl⟩), fun h => by omega⟩
        simp [Lib._law_limits, startE, d7, m9a, oT, m4, c1]
      · refine ⟨some 0, none, run_same rfl rfl rfl ?_, limOk_some (by decide) (by decide), limOk_none, fun h => by omega, fun _ => .inr (.inr ⟨rfl, rfl⟩), fun h => by omega⟩
        simp [Lib._law_limits, startE, d7, m9a, oT, m4, c1]
      · refine ⟨none, none, run_same rfl rfl rfl ?_, limOk_none, limOk_none, fun h => by omega, fun _ => .inl ⟨rfl, rfl⟩, fun h => by omega⟩
        simp [Lib._law_limits, startE, d7, m9a, oT, m4, c1]
    · have c1 : cmpT .Eq (nT style) (.int 1) M = some false := by rw [show (T.int 1) = nT 1 from rfl, cmp_eq_nT]; simp [s1]
      by_cases s2 : style = 2
      · subst s2
        have c2 : cmpT .Eq (nT 2) (.int 2) M = some true := by rw [show (T.int 2) = nT 2 from rfl, cmp_eq_nT]; rfl
        have key : ∀ (a b : Option Int), LimOk a → LimOk b → atI [T.tup [.non, .non], .tup [.non, .int 0], .tup [.int 0, .non], .tup [.int A, .non], .tup [.non, .int A], .tup [.int A, .int B], .tup [.int 0, .int A]] (dg % 7) = some (.tup [oT a, oT b]) →
            ∃ a b, runD G Lib._law_limits [.int dg, nT 2] M = some (.tup [oT a, oT b], M) ∧ LimOk a ∧ LimOk b ∧ (2 = 0 → a = none ∧ b = none) ∧ (2 = 1 → Bcs a b) ∧ (3 ≤ 2 → a ≠ none ∧ b ≠ none) := fun a b ha hb hat => by
          refine ⟨a, b, run_same rfl (by simp [pureT, pureTs, oT_pure]) rfl ?_, ha, hb, fun h => by omega, fun h => by omega, fun h => by omega⟩
          simp [Lib._law_limits, startE, d7, d63, m9a, m9b, m7, c1, c2, hA, hB, hat]
        have at4 : ∀ (x y z w v : T) (xs : List T), atI (x :: y :: z :: w :: v :: xs) 4 = some v := fun x y z w v xs => by rw [show (4 : Int) = ((4 : Nat) : Int) from rfl, atI_n]; rfl
        have at5 : ∀ (x y z w v u : T) (xs : List T), atI (x :: y :: z :: w :: v :: u :: xs) 5 = some u := fun x y z w v u xs => by rw [show (5 : Int) = ((5 : Nat) : Int) from rfl, atI_n]; rfl
        have at6 : ∀ (x y z w v u t : T) (xs : List T), atI (x :: y :: z :: w :: v :: u :: t :: xs) 6 = some t := fun x y z w v u t xs => by rw [show (6 : Int) = ((6 : Nat) : Int) from rfl, atI_n]; rfl
        have : dg % 7 = 0 ∨ dg % 7 = 1 ∨ dg % 7 = 2 ∨ dg % 7 = 3 ∨ dg % 7 = 4 ∨ dg % 7 = 5 ∨ dg % 7 = 6 := by omega
        have oA : LimOk (some A) := limOk_some (by omega) (by omega)
        have oB : LimOk (some B) := limOk_some (by omega) (by omega)
        have o0 : LimOk (some 0) := limOk_some (by decide) (by decide)
        rcases this with h | h | h | h | h | h | h
        · exact key none none limOk_none limOk_none (by rw [h, at_0]; rfl)
        · exact key none (some 0) limOk_none o0 (by rw [h, at_1]; rfl)
        · exact key (some 0) none o0 limOk_none (by rw [h, at_2]; rfl)
        · exact key (some A) none oA limOk_none (by rw [h, at_3]; rfl)
        · exact key none (some A) limOk_none oA (by rw [h, at4]; rfl)
        · exact key (some A) (some B) oA oB (by rw [h, at5]; rfl)
        · exact key (some 0) (some A) o0 oA (by rw [h, at6]; rfl)
      · have c2 : cmpT .Eq (nT style) (.int 2) M = some false := by rw [show (T.int 2) = nT 2 from rfl, cmp_eq_nT]; simp [s2]
        refine ⟨some A, some B, run_same rfl rfl rfl ?_, limOk_some (by omega) (by omega), limOk_some (by omega) (by omega), fun h => by omega, fun h => by omega, fun _ => ⟨by simp, by simp⟩⟩
        simp [Lib._law_limits, startE, d7, d63, m9a, m9b, s0, c1, c2, hA, hB, oT]
end Mi
end L2

/-! The law's frames and loads: members, pins, loads. -/
namespace L2
namespace Mi
open PySem PySem.Spec PyProof.Rows
variable {G : Sig}
@[simp] theorem e_sset (a : ME) (σ : En) (M : Mem) : evE G (.sset a) σ M = (evE G a σ M).bind fun p => (sof p.2 p.1).bind fun ts => (intsOf ts).bind fun ns => if ns.length < 64 then some (.fl ((sortI (ddp ns)).map .int), p.2) else none := by rw [evE]
def triA (n : Nat) : Nat → Nat
  | 0 => 0
  | i + 1 => triA n i + (n - 1 - i)
theorem triA_le : ∀ n, n < 9 → ∀ i, i < 9 → triA n i ≤ 28 := by decide
/-- the members, made from some pairs -/
def MbOk (pts : List Vec) (style : Nat) (m : Mb) : Prop := m.i < m.j ∧ m.j < pts.length ∧ gv pts m.i ≠ gv pts m.j ∧ LimOk m.pull ∧ LimOk m.push ∧ (style = 0 → m.pull = none ∧ m.push = none) ∧ (style = 1 → Bcs m.pull m.push) ∧ (3 ≤ style → m.pull ≠ none ∧ m.push ≠ none)
/-- ascending by the two joints -/
def MLt (a b : Mb) : Prop := a.i < b.i ∨ a.i = b.i ∧ a.j < b.j
def IsLMembers (F : Fn) : Prop := ∀ (ns : List Int) (pts : List Vec) (style : Nat) (M : Mem), (∀ k, Sm 1100000 (gt ns k)) → pts.length ≤ 8 → ∃ l : List Mb, F [.sc ns, vsT pts, nT style] M = some (.tup (l.map mT), M) ∧ (∀ m ∈ l, MbOk pts style m) ∧ l.length ≤ 28 ∧ l.Pairwise MLt
theorem rg2_n {a b : Nat} (h : a < 2 ^ 60) (h' : b < 2 ^ 60) : rg2 (nT a) (nT b) = some (rngL (a : Int) (b : Int), []) := rg2_of (rngOk_small (by omega) (by omega) (by omega) (by omega))
theorem rng2_get {a b i : Nat} {z : T} (h : (rngL (a : Int) (b : Int))[i]? = some z) : a + i < b ∧ z = nT (a + i) := by
  have hi := (List.getElem?_eq_some_iff.mp h).1
  have := rngL_get hi
  rw [h] at this
  rw [rngL_len] at hi
  refine ⟨by omega, ?_⟩
  rw [Option.some.inj this]; rfl
theorem sp_lmembers (hcell : Knows G "_law_cell" IsCell) (hparts : Knows G "_law_parts" IsParts) (hlim : Knows G "_law_limits" IsLLimits) : IsLMembers (runD G Lib._law_members) := by
  intro ns pts style M hns hn8
  obtain ⟨Fc, lc, kc⟩ := hcell
  obtain ⟨Fp, lp, kp⟩ := hparts
  obtain ⟨Fl, ll, kl⟩ := hlim
  generalize hn : pts.length = n at hn8
  let z1 : List Int := List.replicate 28 4
  let z2 : List Int := List.replicate 28 567
  have p1 : ∀ s ∈ z1, 0 < s ∧ Sm 8000 s := fun s hs => by rw [(List.mem_replicate.mp hs).2]; exact ⟨by decide, Sm.mono (j := 3) (by unfold Sm; decide) (by decide)⟩
  have p2 : ∀ s ∈ z2, 0 < s ∧ Sm 8000 s := fun s hs => by rw [(List.mem_replicate.mp hs).2]; exact ⟨by decide, Sm.mono (j := 10) (by unfold Sm; decide) (by decide)⟩
  have c1 : Fc [.sc ns, .int 1] M = some (.int (gt ns 1), M) := kc ns 1 M
  have c2 : Fc [.sc ns, .int 2] M = some (.int (gt ns 2), M) := kc ns 2 M
  have e1 := kp (gt ns 1) (ilT z1) z1 M rfl (pureT_il _) ((hns 1).mono (by decide)) p1 (by simp [z1])
  have e2 := kp (gt ns 2) (ilT z2) z2 M rfl (pureT_il _) ((hns 2).mono (by decide)) p2 (by simp [z2])
  have hDl : (parts (gt ns 1) z1).length = 28 := by rw [parts_len]; simp [z1]
  have hEl : (parts (gt ns 2) z2).length = 28 := by rw [parts_len]; simp [z2]
  have hEb : ∀ k, k < 28 → 0 ≤ gt (parts (gt ns 2) z2) k ∧ gt (parts (gt ns 2) z2) k < 567 := fun k hk => by
    have := pos_of_all (ss := z2) (fun s h => (p2 s h).1) (gt ns 2) k
    have h2 := this.2 (by simpa [z2] using hk)
    have h3 : gt z2 k = 567 := by simp only [z2]; rw [gt_rep, if_pos hk]
    exact ⟨this.1, by omega⟩
  generalize parts (gt ns 1) z1 = Dr at e1 hDl
  generalize parts (gt ns 2) z2 = Dg at e2 hEl hEb
  have z1T : binT .Mult false (.fl [.int 4]) (.int 28) M = some (ilT z1, M) := rep_il 28 4 M (by decide)
  have z2T : binT .Mult false (.fl [.int 567]) (.int 28) M = some (ilT z2, M) := rep_il 28 567 M (by decide)
  let E : Nat → Option T → Option T → En := fun a z8 z9 => [some (.sc ns), some (vsT pts), some (nT style), some (nT n), some (ilT Dr), some (ilT Dg), some (.obj M.length), some (nT a), z8, z9]
  obtain ⟨σ', M', hfr, l, hM, z8, z9, hz, hok, hll, hpw, _⟩ := fr_inv (G := G) (tg := .nm 8 "_law_i") (b := [
    .for (.nm 9 "_law_j") (.rng2 (.bin .Add false (.var 8 "_law_i") (.int 1)) (.var 3 "_law_n")) [
      .ite (.and (.cmp .NotEq (.ix (.var 1 "_law_points_here") (.var 8 "_law_i")) (.ix (.var 1 "_law_points_here") (.var 9 "_law_j"))) (.one (.cmp .Gt (.ix (.var 4 "_law_draws") (.var 7 "_law_at")) (.int 0)))) [
        .ex (.bm .append (.var 6 "_law_members_here") (.cons (.bin .Add false (.tup (.cons (.var 8 "_law_i") (.cons (.var 9 "_law_j") .nil))) (.call "_law_limits" (.cons (.ix (.var 5 "_law_digits") (.var 7 "_law_at")) (.cons (.var 2 "_law_style") .nil)))) .nil))] [],
      .set 7 "_law_at" (.bin .Add false (.var 7 "_law_at") (.int 1))]]) (g := []) (xs := rngL 0 (n : Int))
    (σ := E 0 none none) (M := M ++ [.lst []])
    (fun i σ M' => ∃ l : List Mb, M' = M ++ [.lst (l.map mT)] ∧ ∃ z8 z9, σ = E (triA n i) z8 z9 ∧ (∀ m ∈ l, MbOk pts style m) ∧ l.length ≤ triA n i ∧ l.Pairwise MLt ∧ ∀ m ∈ l, m.i < i)
    ⟨[], rfl, _, _, rfl, fun m h => (nomatch h), Nat.le_refl _, .nil, fun m h => nomatch h⟩ (fun _ _ _ _ => by simp) (fun i x σ M' hx ⟨l, hM, z8, z9, hz, hok, hll, hpw, hlt⟩ => by
      subst hz
      obtain ⟨hi, rfl⟩ := rng_get hx
      refine ⟨_, asg_nm .., ?_⟩
      have hAi := triA_le n (by omega) (i + 1) (by omega)
      have hA1 : triA n (i + 1) = triA n i + (n - 1 - i) := rfl
      obtain ⟨σ2, M2, hf2, l2, hM2, z10, hz2, hok2, hll2, hpw2, hlt2⟩ := fr_inv (G := G) (tg := .nm 9 "_law_j") (b := [
          .ite (.and (.cmp .NotEq (.ix (.var 1 "_law_points_here") (.var 8 "_law_i")) (.ix (.var 1 "_law_points_here") (.var 9 "_law_j"))) (.one (.cmp .Gt (.ix (.var 4 "_law_draws") (.var 7 "_law_at")) (.int 0)))) [
            .ex (.bm .append (.var 6 "_law_members_here") (.cons (.bin .Add false (.tup (.cons (.var 8 "_law_i") (.cons (.var 9 "_law_j") .nil))) (.call "_law_limits" (.cons (.ix (.var 5 "_law_digits") (.var 7 "_law_at")) (.cons (.var 2 "_law_style") .nil)))) .nil))] [],
          .set 7 "_law_at" (.bin .Add false (.var 7 "_law_at") (.int 1))]) (g := []) (xs := rngL ((i + 1 : Nat) : Int) (n : Int)) (σ := E (triA n i) (some (nT i)) z9) (M := M')
        (fun k σ M2 => ∃ l2 : List Mb, M2 = M ++ [.lst (l2.map mT)] ∧ ∃ z10, σ = E (triA n i + k) (some (nT i)) z10 ∧ (∀ m ∈ l2, MbOk pts style m) ∧ l2.length ≤ triA n i + k ∧ l2.Pairwise MLt ∧ ∀ m ∈ l2, m.i < i ∨ m.i = i ∧ m.j < i + 1 + k)
        ⟨l, hM, _, rfl, hok, hll, hpw, fun m h => .inl (hlt m h)⟩ (fun _ _ _ _ => by simp) (fun k x σ M2 hx ⟨l2, hM2, z10, hz2, hok2, hll2, hpw2, hlt2⟩ => by
          subst hz2
          obtain ⟨hk, rfl⟩ := rng2_get hx
          refine ⟨_, asg_nm .., ?_⟩
          have hj : i + 1 + k < n := hk
          have hat : triA n i + k < 28 := by omega
          have x1 := ix_vs (l := pts) (k := i) (by omega) M2
          have x2 := ix_vs (l := pts) (k := i + 1 + k) (by omega) M2
          have x3 := ix_il Dr (triA n i + k) M2 (by omega)
          have x4 := ix_il Dg (triA n i + k) M2 (by omega)
          have cne := cmpne_of (eqv_v (gv pts i) (gv pts (i + 1 + k)) M2)
          have adv : binT .Add false (nT (triA n i + k)) (.int 1) M2 = some (nT (triA n i + (k + 1)), M2) := by unfold nT; rw [bin_add]; congr
          by_cases hne : gv pts i = gv pts (i + 1 + k)
          · refine ⟨E (triA n i + (k + 1)) (some (nT i)) (some (nT (i + 1 + k))), M2, .inl ?_, l2, hM2, _, rfl, hok2, by omega, hpw2, fun m h => by
              rcases hlt2 m h with q | q
              · exact .inl q
              · exact .inr ⟨q.1, by omega⟩⟩
            rw [decide_eq_true hne] at cne
            simp [E, x1, x2, cne, adv]
          · rw [decide_eq_false hne] at cne
            by_cases hd : 0 < gt Dr (triA n i + k)
            · obtain ⟨a, b, w1, w2, w3, w4, w5, w6⟩ := kl (gt Dg (triA n i + k)) style M2 (hEb _ hat).1 (hEb _ hat).2
              have at2 : M2[M.length]? = some (.lst (l2.map mT)) := by rw [hM2]; exact lst_last M _
              have ap := bm_append (x := mT (Mb.mk i (i + 1 + k) a b)) at2 (by simp; omega)
              have ap2 : M2.set M.length (.lst (l2.map mT ++ [mT (Mb.mk i (i + 1 + k) a b)])) = M ++ [.lst ((l2 ++ [Mb.mk i (i + 1 + k) a b]).map mT)] := by rw [hM2, lst_set, List.map_append]; rfl
              rw [ap2] at ap
              have lf := lof_obj' at2
              have tc : binT .Add false (.tup [nT i, nT (i + 1 + k)]) (.tup [oT a, oT b]) M2 = some (mT (Mb.mk i (i + 1 + k) a b), M2) := tup_cat _ _ M2 (by simp)
              have adv' : ∀ M3, binT .Add false (nT (triA n i + k)) (.int 1) M3 = some (nT (triA n i + (k + 1)), M3) := fun M3 => by unfold nT; rw [bin_add]; congr
              refine ⟨E (triA n i + (k + 1)) (some (nT i)) (some (nT (i + 1 + k))), M ++ [.lst ((l2 ++ [Mb.mk i (i + 1 + k) a b]).map mT)], .inl ?_, l2 ++ [Mb.mk i (i + 1 + k) a b], rfl, _, rfl, fun m hm => ?_, by simp; omega, ?_, fun m hm => ?_⟩
              · generalize (l2 ++ [Mb.mk i (i + 1 + k) a b]).map mT = RR at *
                simp [E, x1, x2, cne, x3, hd, x4, lf, ll, w1, tc, ap, adv']
              · rcases List.mem_append.mp hm with h | h
                · exact hok2 m h
                · rw [List.mem_singleton.mp h]
                  exact ⟨by show i < i + 1 + k; omega, by show i + 1 + k < pts.length; omega, hne, w2, w3, w4, w5, w6⟩
              · refine List.pairwise_append.mpr ⟨hpw2, List.pairwise_singleton .., fun m hm q hq => ?_⟩
                rw [List.mem_singleton.mp hq]
                rcases hlt2 m hm with h | h
                · exact .inl h
                · exact .inr ⟨h.1, h.2⟩
              · rcases List.mem_append.mp hm with h | h
                · rcases hlt2 m h with q | q
                  · exact .inl q
                  · exact .inr ⟨q.1, by omega⟩
                · rw [List.mem_singleton.mp h]
                  exact .inr ⟨rfl, by show i + 1 + k < _; omega⟩
            · refine ⟨E (triA n i + (k + 1)) (some (nT i)) (some (nT (i + 1 + k))), M2, .inl ?_, l2, hM2, _, rfl, hok2, by omega, hpw2, fun m h => by
              rcases hlt2 m h with q | q
              · exact .inl q
              · exact .inr ⟨q.1, by omega⟩⟩
              simp [E, x1, x2, cne, x3, hd, adv])
      rw [rngL_len, show ((n : Int) - ((i + 1 : Nat) : Int)).toNat = n - 1 - i by omega] at hz2 hll2
      subst hz2
      have a1 : binT .Add false (nT i) (.int 1) M' = some (nT (i + 1), M') := rfl
      have rg2 := rg2_n (a := i + 1) (b := n) (by omega) (by omega)
      refine ⟨E (triA n (i + 1)) (some (nT i)) z10, M2, .inl ?_, l2, hM2, _, _, rfl, hok2, hll2, hpw2, fun m h => by rcases hlt2 m h with q | q <;> omega⟩
      have hf2' := hf2
      simp only [E] at hf2' ⊢
      rw [← hA1] at hf2'
      generalize rngL ((i + 1 : Nat) : Int) (n : Int) = XX at rg2 hf2'
      simp [a1, rg2, hf2'])
  subst hM; subst hz
  rw [rngL_len] at hll
  have hA := triA_le n (by omega) n (by omega)
  refine ⟨l, ?_, hok, by rw [show ((n : Int) - 0).toNat = n by omega] at hll; omega, hpw⟩
  have rg := rg1_n (n := n) (by omega)
  have s3 : sof (M ++ [.lst (l.map mT)]) (.obj M.length) = some (l.map mT) := sof_obj (lst_last M _)
  have bt : biT .tuple [.obj M.length] (M ++ [.lst (l.map mT)]) = some (.tup (l.map mT), M ++ [.lst (l.map mT)]) := by
    show (sof _ _).map _ = _
    rw [s3]; rfl
  have b0 : biT .len [vsT pts] M = some (nT n, M) := by rw [len_sof (sof_vs M pts), List.length_map, hn]
  have ht0 : triA n 0 = 0 := rfl
  have hfr' := hfr
  simp only [E] at hfr'
  refine run_pure (M1 := [.lst (l.map mT)]) rfl rfl (pure_map mT_pure l) ?_
  generalize l.map mT = RR at *
  have n0 : nT 0 = T.int 0 := rfl
  rw [n0] at hfr'
  simp [Lib._law_members, startE, b0, lc, c1, c2, z1T, z2T, lp, e1, e2, rg, hfr', bt]
/-! ### the frame -/
theorem pins_ok (a b n : Nat) (ha : a < n) (hb : b < n) : ∃ p : List Nat, sortI (ddp [(a : Int), (b : Int)]) = p.map (fun k : Nat => (k : Int)) ∧ (∀ x ∈ p, x < n) ∧ p.Pairwise (· < ·) ∧ 0 < p.length ∧ p.length ≤ 2 := by
  by_cases h : a = b
  · subst h
    exact ⟨[a], by simp [ddp, sortI, insI], by simpa using ha, List.pairwise_singleton .., by simp, by simp⟩
  · have hne : ¬((a : Int) = (b : Int)) := by omega
    by_cases hl : a < b
    · refine ⟨[a, b], ?_, by simp; omega, by simpa using hl, by simp, by simp⟩
      have : (a : Int) ≤ (b : Int) := by omega
      simp [ddp, sortI, insI, hne, this]
    · refine ⟨[b, a], ?_, by simp; omega, by simp; omega, by simp, by simp⟩
      have : ¬((a : Int) ≤ (b : Int)) := by omega
      simp [ddp, sortI, insI, hne, this]
/-- what a law's frame is like -/
structure LFm (f : Fm) (least style : Nat) (pinned : Bool) : Prop where
  n1 : least ≤ f.pts.length
  n2 : f.pts.length ≤ least + 4
  pc : ∀ p ∈ f.pts, p.1.natAbs ≤ 6 ∧ p.2.natAbs ≤ 6
  mb : ∀ m ∈ f.mbs, MbOk f.pts style m
  few : f.mbs.length ≤ 28
  pw : f.mbs.Pairwise MLt
  pn : ∀ p ∈ f.pins, p < f.pts.length
  ps : f.pins.Pairwise (· < ·)
  pl : f.pins.length ≤ 2
  pf : pinned = false → f.pins = []
def IsLFrame (F : Fn) : Prop := ∀ (ns : List Int) (least style : Nat) (pinned : Bool) (M : Mem), (∀ k, Sm 1100000 (gt ns k)) → 1 ≤ least → least ≤ 4 → ∃ f, F [.sc ns, nT least, nT style, .bl pinned] M = some (fmT f, M) ∧ LFm f least style pinned
theorem sp_lframe (hcell : Knows G "_law_cell" IsCell) (hparts : Knows G "_law_parts" IsParts) (hpts : Knows G "_law_points" IsLPoints) (hmb : Knows G "_law_members" IsLMembers) : IsLFrame (runD G Lib._law_frame) := by
  intro ns least style pinned M hns hl1 hl4
  obtain ⟨Fc, lc, kc⟩ := hcell
  obtain ⟨Fp, lp, kp⟩ := hparts
  obtain ⟨Fq, lq, kq⟩ := hpts
  obtain ⟨Fm, lm, km⟩ := hmb
  let z0 : List Int := [5, 3, 6, 7]
  have p0 : ∀ s ∈ z0, 0 < s ∧ Sm 8000 s := fun s hs => by
    have hb : s = 5 ∨ s = 3 ∨ s = 6 ∨ s = 7 := by simpa [z0] using hs
    exact ⟨by omega, Sm.mono (j := 3) (by unfold Sm; omega) (by decide)⟩
  have c0 : Fc [.sc ns, .int 0] M = some (.int (gt ns 0), M) := kc ns 0 M
  have e0 := kp (gt ns 0) (ilT z0) z0 M rfl (pureT_il _) ((hns 0).mono (by decide)) p0 (by simp [z0])
  have hb := pos_of_all (ss := z0) (fun s h => (p0 s h).1) (gt ns 0)
  have hPl : (parts (gt ns 0) z0).length = 4 := by rw [parts_len]; rfl
  generalize parts (gt ns 0) z0 = P at e0 hb hPl
  have z0T : T.fl [.int 5, .int 3, .int 6, .int 7] = ilT z0 := rfl
  have bd : ∀ k, k < 4 → ∃ v : Nat, gt P k = v ∧ (v : Int) < gt z0 k := fun k hk => ⟨(gt P k).toNat, by have := (hb k).1; omega, by have h1 := (hb k).1; have h2 := (hb k).2 (by simpa [z0] using hk); omega⟩
  obtain ⟨v0, h0, l0⟩ := bd 0 (by decide)
  obtain ⟨v1, h1, l1⟩ := bd 1 (by decide)
  obtain ⟨v2, h2, l2⟩ := bd 2 (by decide)
  obtain ⟨v3, h3, l3⟩ := bd 3 (by decide)
  have l0 : v0 < 5 := by have : gt z0 0 = 5 := rfl; omega
  have l1 : v1 < 3 := by have : gt z0 1 = 3 := rfl; omega
  have l2 : v2 < 6 := by have : gt z0 2 = 6 := rfl; omega
  have l3 : v3 < 7 := by have : gt z0 3 = 7 := rfl; omega
  have i0 : ixT (ilT P) (.int 0) M = some (nT v0) := by have := ix_il P 0 M (by omega); rw [h0] at this; exact this
  have i1 : ixT (ilT P) (.int 1) M = some (nT v1) := by have := ix_il P 1 M (by omega); rw [h1] at this; exact this
  have i2 : ixT (ilT P) (.int 2) M = some (nT v2) := by have := ix_il P 2 M (by omega); rw [h2] at this; exact this
  have i3 : ixT (ilT P) (.int 3) M = some (nT v3) := by have := ix_il P 3 M (by omega); rw [h3] at this; exact this
  obtain ⟨pts, eq, pl, pb⟩ := kq ns (least + v0) (4 + v1) M hns (by omega) (by omega) (by omega)
  obtain ⟨mbs, em, mok, mfew, mpw⟩ := km ns pts style M hns (by omega)
  have s4 : binT .Add false (.int 4) (nT v1) M = some (nT (4 + v1), M) := add_int_nT 4 v1 false M
  have pb6 : ∀ p ∈ pts, p.1.natAbs ≤ 6 ∧ p.2.natAbs ≤ 6 := fun p hp => by have := pb p hp; omega
  cases pinned with
  | false =>
    refine ⟨⟨pts, mbs, []⟩, run_same rfl (fmT_pure _) rfl ?_, ⟨by show least ≤ pts.length; omega, by show pts.length ≤ _; omega, pb6, mok, mfew, mpw, fun p h => (nomatch h), .nil, by simp, fun _ => rfl⟩⟩
    have : fmT ⟨pts, mbs, []⟩ = .tup [vsT pts, .tup (mbs.map mT), .tup []] := rfl
    rw [this]
    generalize mbs.map mT = RR at *
    have bt : biT .tuple [T.fl []] M = some (.tup [], M) := rfl
    simp [Lib._law_frame, startE, lc, c0, z0T, lp, e0, i0, i1, s4, lq, eq, lm, em, bt]
  | true =>
    let n := least + v0
    have hn : 0 < n := by simp only [n]; omega
    obtain ⟨pins, ep, pn, ps, pl0, pl2⟩ := pins_ok (v2 % n) ((v2 + 1 + v3) % n) n (Nat.mod_lt _ hn) (Nat.mod_lt _ hn)
    have pl' : pts.length = n := pl
    refine ⟨⟨pts, mbs, pins⟩, run_same rfl (fmT_pure _) rfl ?_, ⟨by show least ≤ pts.length; omega, by show pts.length ≤ _; omega, pb6, mok, mfew, mpw, fun p h => by show p < pts.length; rw [pl']; exact pn p h, ps, pl2, fun h => by cases h⟩⟩
    have : fmT ⟨pts, mbs, pins⟩ = .tup [vsT pts, .tup (mbs.map mT), .tup (pins.map nT)] := rfl
    rw [this]
    have m1 := bin_mod_nT v2 n hn false M
    have m2 := bin_mod_nT (v2 + 1 + v3) n hn false M
    have a1 : binT .Add false (nT v2) (.int 1) M = some (nT (v2 + 1), M) := rfl
    have io : intsOf [nT (v2 % n), nT ((v2 + 1 + v3) % n)] = some [((v2 % n : Nat) : Int), (((v2 + 1 + v3) % n : Nat) : Int)] := rfl
    have ii : ∀ k, biT .int [nT k] M = some (nT k, M) := fun k => rfl
    have bt : biT .tuple [T.fl ((sortI (ddp [((v2 % n : Nat) : Int), (((v2 + 1 + v3) % n : Nat) : Int)])).map T.int)] M = some (.tup (pins.map nT), M) := by
      rw [ep]
      show some (T.tup ((pins.map fun k : Nat => (k : Int)).map T.int), M) = _
      rw [List.map_map]; rfl
    rw [fl_il] at bt
    have an : binT .Add false (nT least) (nT v0) M = some (nT n, M) := bin_add_nT least v0 false M
    have eq' : Fq [.sc ns, nT n, nT (4 + v1)] M = some (vsT pts, M) := eq
    generalize mbs.map mT = RR at *
    generalize n = nn at *
    generalize v2 % nn = A at *
    generalize (v2 + 1 + v3) % nn = B at *
    simp [Lib._law_frame, startE, lc, c0, z0T, lp, e0, i0, i1, i2, i3, s4, lq, an, eq', lm, em, a1, ii, m1, m2, io, bt]
/-! ### the load -/
def lsT (l : List Vec) : T := vsT l
def IsLLoad (F : Fn) : Prop := ∀ (ns : List Int) (n size : Nat) (M : Mem), (∀ k, Sm 1100000 (gt ns k)) → n ≤ 10 → 1 ≤ size → size ≤ 1000 → ∃ l, F [.sc ns, nT n, nT size] M = some (vsT l, M) ∧ l.length = n ∧ ∀ p ∈ l, p.1.natAbs ≤ size ∧ p.2.natAbs ≤ size
theorem sp_lload (hcell : Knows G "_law_cell" IsCell) (hparts : Knows G "_law_parts" IsParts) : IsLLoad (runD G Lib._law_load) := by
  intro ns n size M hns hn hs1 hs
  obtain ⟨Fc, lc, kc⟩ := hcell
  obtain ⟨Fp, lp, kp⟩ := hparts
  let z1 : List Int := List.replicate 20 (2 * (size : Int) + 1)
  let z2 : List Int := List.replicate 10 3
  have p1 : ∀ s ∈ z1, 0 < s ∧ Sm 8000 s := fun s hs' => by rw [(List.mem_replicate.mp hs').2]; exact ⟨by omega, Sm.mono (j := 12) (by unfold Sm; omega) (by decide)⟩
  have p2 : ∀ s ∈ z2, 0 < s ∧ Sm 8000 s := fun s hs => by rw [(List.mem_replicate.mp hs).2]; exact ⟨by decide, Sm.mono (j := 3) (by unfold Sm; decide) (by decide)⟩
  have c1 : Fc [.sc ns, .int 11] M = some (.int (gt ns 11), M) := kc ns 11 M
  have c2 : Fc [.sc ns, .int 12] M = some (.int (gt ns 12), M) := kc ns 12 M
  have e1 := kp (gt ns 11) (ilT z1) z1 M rfl (pureT_il _) ((hns 11).mono (by decide)) p1 (by simp [z1])
  have e2 := kp (gt ns 12) (ilT z2) z2 M rfl (pureT_il _) ((hns 12).mono (by decide)) p2 (by simp [z2])
  have hDl : (parts (gt ns 11) z1).length = 20 := by rw [parts_len]; simp [z1]
  have hEl : (parts (gt ns 12) z2).length = 10 := by rw [parts_len]; simp [z2]
  have hDb : ∀ k, k < 20 → (gt (parts (gt ns 11) z1) k - (size : Int)).natAbs ≤ size := fun k hk => by
    have := pos_of_all (ss := z1) (fun s h => (p1 s h).1) (gt ns 11) k
    have h2 := this.2 (by simpa [z1] using hk)
    have h3 : gt z1 k = 2 * (size : Int) + 1 := by simp only [z1]; rw [gt_rep, if_pos hk]
    omega
  generalize parts (gt ns 11) z1 = Dg at e1 hDl hDb
  generalize parts (gt ns 12) z2 = Kp at e2 hEl
  have t1 : binT .Mult false (.int 2) (nT size) M = some (.int (2 * (size : Int)), M) := bin_mul (Sm.mulOk (j := 3) (k := 11) (by unfold Sm; decide) (by unfold Sm; omega) (by decide)) false M
  have t2 : binT .Mult false (.fl [.int (2 * (size : Int) + 1)]) (.int 20) M = some (ilT z1, M) := rep_il 20 (2 * (size : Int) + 1) M (by decide)
  have t3 : binT .Mult false (.fl [.int 3]) (.int 10) M = some (ilT z2, M) := rep_il 10 3 M (by decide)
  obtain ⟨σ', M', hfr, l, hM, z6, z7, hz, hl, hb⟩ := fr_inv (G := G) (tg := .nm 6 "_law_k") (b := [
    .set 7 "_law_force" (.tup (.cons (.bin .Sub false (.ix (.var 3 "_law_digits") (.bin .Mult false (.int 2) (.var 6 "_law_k"))) (.var 2 "_law_size")) (.cons (.bin .Sub false (.ix (.var 3 "_law_digits") (.bin .Add false (.bin .Mult false (.int 2) (.var 6 "_law_k")) (.int 1))) (.var 2 "_law_size")) .nil))),
    .ex (.bm .append (.var 5 "_law_load_here") (.cons (.ix (.lst false (.cons (.var 7 "_law_force") (.cons (.tup (.cons (.int 0) (.cons (.int 0) .nil))) .nil))) (.bi .int (.cons (.cmp .Eq (.ix (.var 4 "_law_kept") (.var 6 "_law_k")) (.int 0)) .nil))) .nil))]) (g := []) (xs := rngL 0 (n : Int))
    (σ := [some (.sc ns), some (nT n), some (nT size), some (ilT Dg), some (ilT Kp), some (.obj M.length), none, none]) (M := M ++ [.lst []])
    (fun i σ M' => ∃ l : List Vec, M' = M ++ [.lst (l.map vT)] ∧ ∃ z6 z7, σ = [some (.sc ns), some (nT n), some (nT size), some (ilT Dg), some (ilT Kp), some (.obj M.length), z6, z7] ∧ l.length = i ∧ ∀ p ∈ l, p.1.natAbs ≤ size ∧ p.2.natAbs ≤ size)
    ⟨[], rfl, _, _, rfl, rfl, fun p h => by cases h⟩ (fun _ _ _ _ => by simp) (fun i x σ M' hx ⟨l, hM, z6, z7, hz, hl, hb⟩ => by
      subst hz
      obtain ⟨hi, rfl⟩ := rng_get hx
      refine ⟨_, asg_nm .., ?_⟩
      have q1 : binT .Mult false (.int 2) (nT i) M' = some (nT (2 * i), M') := mul_nT 2 i (by decide) (by omega) false M'
      have q2 : binT .Add false (nT (2 * i)) (.int 1) M' = some (nT (2 * i + 1), M') := rfl
      have x1 := ix_il Dg (2 * i) M' (by omega)
      have x2 := ix_il Dg (2 * i + 1) M' (by omega)
      have x3 := ix_il Kp i M' (by omega)
      have b1 := hDb (2 * i) (by omega)
      have b2 := hDb (2 * i + 1) (by omega)
      have s1 : binT .Sub false (.int (gt Dg (2 * i))) (nT size) M' = some (.int (gt Dg (2 * i) - (size : Int)), M') := rfl
      have s2 : binT .Sub false (.int (gt Dg (2 * i + 1))) (nT size) M' = some (.int (gt Dg (2 * i + 1) - (size : Int)), M') := rfl
      obtain ⟨v, hv, vb⟩ : ∃ v : Vec, atI [T.tup [.int (gt Dg (2 * i) - (size : Int)), .int (gt Dg (2 * i + 1) - (size : Int))], .tup [.int 0, .int 0]] (if gt Kp i = 0 then 1 else 0) = some (vT v) ∧ v.1.natAbs ≤ size ∧ v.2.natAbs ≤ size := by
        by_cases h : gt Kp i = 0
        · exact ⟨(0, 0), by rw [if_pos h, at_1]; rfl, by simp, by simp⟩
        · exact ⟨(gt Dg (2 * i) - (size : Int), gt Dg (2 * i + 1) - (size : Int)), by rw [if_neg h, at_0]; rfl, b1, b2⟩
      have at_ : M'[M.length]? = some (.lst (l.map vT)) := by rw [hM]; exact lst_last M _
      have ap := bm_append (x := vT v) at_ (by simp; omega)
      have ap2 : M'.set M.length (.lst (l.map vT ++ [vT v])) = M ++ [.lst ((l ++ [v]).map vT)] := by rw [hM, lst_set, List.map_append]; rfl
      rw [ap2] at ap
      have lf := lof_obj' at_
      refine ⟨[some (.sc ns), some (nT n), some (nT size), some (ilT Dg), some (ilT Kp), some (.obj M.length), some (nT i), some (.tup [.int (gt Dg (2 * i) - (size : Int)), .int (gt Dg (2 * i + 1) - (size : Int))])], M ++ [.lst ((l ++ [v]).map vT)], .inl ?_, l ++ [v], rfl, _, _, rfl, by simp [hl], fun p hp => ?_⟩
      · generalize (l ++ [v]).map vT = RR at *
        by_cases h : gt Kp i = 0
        · rw [if_pos h] at hv
          rw [h] at x3
          simp [q1, q2, x1, x2, x3, s1, s2, lf]
          rw [at_1] at hv
          rw [← Option.some.inj hv] at ap
          simp [ap]
        · rw [if_neg h, at_0] at hv
          rw [← Option.some.inj hv] at ap
          simp [q1, q2, x1, x2, x3, s1, s2, lf, h, ap]
      · rcases List.mem_append.mp hp with h | h
        · exact hb p h
        · rw [List.mem_singleton.mp h]; exact vb)
  subst hM; subst hz
  rw [rngL_len] at hl
  refine ⟨l, ?_, by omega, hb⟩
  have rg := rg1_n (n := n) (by omega)
  have s3 : sof (M ++ [.lst (l.map vT)]) (.obj M.length) = some (l.map vT) := sof_obj (lst_last M _)
  have bt : biT .tuple [.obj M.length] (M ++ [.lst (l.map vT)]) = some (vsT l, M ++ [.lst (l.map vT)]) := by
    show (sof _ _).map _ = _
    rw [s3]; rfl
  refine run_pure (M1 := [.lst (l.map vT)]) rfl rfl (vsT_pure _) ?_
  generalize l.map vT = RR at *
  simp [Lib._law_load, startE, lc, c1, c2, t1, t2, t3, lp, e1, e2, rg, hfr, bt]
end Mi
end L2

/-! Frames: growths, work, resistance, for vectors. -/
namespace L2
namespace Mi
open PySem PySem.Spec PyProof.Rows
variable {G : Sig}
def KF : Nat := 1000000
def vsub (p q : Vec) : Vec := (p.1 - q.1, p.2 - q.2)
def dotv (p q : Vec) : Int := p.1 * q.1 + p.2 * q.2
def gm (f : Fm) (k : Nat) : Mb := f.mbs.getD k ⟨0, 0, none, none⟩
def spanV (f : Fm) (k : Nat) : Vec := vsub (gv f.pts (gm f k).i) (gv f.pts (gm f k).j)
def gro (f : Fm) (k : Nat) (mo : List Vec) : Int := dotv (spanV f k) (vsub (gv mo (gm f k).i) (gv mo (gm f k).j))
def SmV (k : Nat) (p : Vec) : Prop := Sm k p.1 ∧ Sm k p.2
def SmL (k : Nat) (o : Option Int) : Prop := ∀ x, o = some x → Sm k x
structure FW (f : Fm) (n : Nat) : Prop where
  pl : f.pts.length = n
  n3 : n < 1000
  ml : f.mbs.length < 1000
  mj : ∀ m ∈ f.mbs, m.i < n ∧ m.j < n
  pn : ∀ p ∈ f.pins, p < n
  pnl : f.pins.length < 1000
  sp : ∀ p ∈ f.pts, SmV KF p
  sl : ∀ m ∈ f.mbs, SmL KF m.pull ∧ SmL KF m.push
structure MW (mo : List Vec) (n : Nat) : Prop where
  ml : mo.length = n
  sm : ∀ p ∈ mo, SmV KF p
theorem sm_zero (k : Nat) : Sm k 0 := Nat.pow_pos (by decide)
theorem smv_gv {l : List Vec} {k : Nat} (h : ∀ p ∈ l, SmV k p) (i : Nat) : SmV k (gv l i) := by
  unfold gv
  rw [List.getD_eq_getElem?_getD]
  cases e : l[i]? with
  | none => exact ⟨sm_zero _, sm_zero _⟩
  | some p => exact h p (List.mem_of_getElem? e)
section
variable {f : Fm} {n k : Nat} {mo : List Vec}
theorem gm_mem (h : k < f.mbs.length) : gm f k ∈ f.mbs := by
  unfold gm
  rw [List.getD_eq_getElem?_getD, List.getElem?_eq_getElem h]
  exact List.getElem_mem ..
theorem gm_at (h : k < f.mbs.length) : f.mbs[k]? = some (gm f k) := by
  unfold gm
  rw [List.getD_eq_getElem?_getD, List.getElem?_eq_getElem h]; rfl
theorem gm_of {m : Mb} (h : f.mbs[k]? = some m) : gm f k = m := by
  unfold gm
  rw [List.getD_eq_getElem?_getD, h]; rfl
theorem SmV.sub {j : Nat} {p q : Vec} (h : SmV j p) (h' : SmV j q) : SmV (j + 1) (vsub p q) := ⟨h.1.sub h'.1, h.2.sub h'.2⟩
theorem dot_sm {j k : Nat} {p q : Vec} (h : SmV j p) (h' : SmV k q) : Sm (j + k + 1) (dotv p q) := (h.1.mul h'.1).add (h.2.mul h'.2)
theorem FW.span (W : FW f n) (k : Nat) : SmV (KF + 1) (spanV f k) := (smv_gv W.sp _).sub (smv_gv W.sp _)
theorem gro_sm (W : FW f n) (V : MW mo n) (k : Nat) : Sm (2 * KF + 3) (gro f k mo) := (dot_sm (W.span k) ((smv_gv V.sm _).sub (smv_gv V.sm _))).mono (by unfold KF; decide)
end
@[simp] theorem sof_tup' (M : Mem) (l : List Mb) : sof M (.tup (l.map mT)) = some (l.map mT) := rfl
@[simp] theorem ix_f0 (f : Fm) (M : Mem) : ixT (fmT f) (.int 0) M = some (vsT f.pts) := by unfold fmT; rw [ix_tup, at_0]
@[simp] theorem ix_f1 (f : Fm) (M : Mem) : ixT (fmT f) (.int 1) M = some (.tup (f.mbs.map mT)) := by unfold fmT; rw [ix_tup, at_1]
@[simp] theorem ix_f2 (f : Fm) (M : Mem) : ixT (fmT f) (.int 2) M = some (.tup (f.pins.map nT)) := by unfold fmT; rw [ix_tup, at_2]
theorem ix_mb {f : Fm} {k : Nat} (h : k < f.mbs.length) (M : Mem) : ixT (.tup (f.mbs.map mT)) (nT k) M = some (mT (gm f k)) := by
  unfold nT
  rw [ix_sof (sof_tup M _), atI_n, List.getElem?_map, gm_at h]; rfl
@[simp] theorem ix_m0 (m : Mb) (M : Mem) : ixT (mT m) (.int 0) M = some (nT m.i) := by unfold mT; rw [ix_tup, at_0]
@[simp] theorem ix_m1 (m : Mb) (M : Mem) : ixT (mT m) (.int 1) M = some (nT m.j) := by unfold mT; rw [ix_tup, at_1]
@[simp] theorem ix_m2 (m : Mb) (M : Mem) : ixT (mT m) (.int 2) M = some (oT m.pull) := by unfold mT; rw [ix_tup, at_2]
@[simp] theorem ix_m3 (m : Mb) (M : Mem) : ixT (mT m) (.int 3) M = some (oT m.push) := by unfold mT; rw [ix_tup, at_3]
@[simp] theorem isi_tup_int (i : Int) (M : Mem) : isiT M "tuple" (.int i) = some false := rfl
@[simp] theorem isi_tup_nT (i : Nat) (M : Mem) : isiT M "tuple" (nT i) = some false := rfl
theorem sl_m2 (m : Mb) (M : Mem) : slT false (mT m) none (some 2) M = some (.tup [nT m.i, nT m.j], M) := by
  show some (T.tup (cutT _ none (some ((2 : Nat) : Int))), M) = _
  rw [cut_lo]; rfl
@[simp] theorem cmp_is_oT (o : Option Int) (M : Mem) : cmpT .Is (oT o) .non M = some o.isNone := by cases o <;> rfl
@[simp] theorem cmp_isn_oT (o : Option Int) (M : Mem) : cmpT .IsNot (oT o) .non M = some o.isSome := by cases o <;> rfl
/-! ### the program -/
def IsTakenV (F : Fn) : Prop := ∀ (p q : Vec) (M : Mem), F [vT p, vT q] M = some (vT (vsub p q), M)
theorem sp_takenV : IsTakenV (runD G Lib.taken_from) := by
  intro p q M
  refine run_same rfl (vT_pure _) rfl ?_
  have : vT (vsub p q) = .tup [.int (p.1 - q.1), .int (p.2 - q.2)] := rfl
  rw [this]
  simp [Lib.taken_from, startE]
def IsSpanV (F : Fn) : Prop := ∀ (f : Fm) (n k : Nat) (M : Mem), FW f n → k < f.mbs.length → F [fmT f, nT k] M = some (vT (spanV f k), M)
theorem sp_spanV (h : Knows G "taken_from" IsTakenV) : IsSpanV (runD G Lib.span) := by
  intro f n k M W hk
  obtain ⟨F, l1, k1⟩ := h
  obtain ⟨hi, hj⟩ := W.mj _ (gm_mem hk)
  have pl := W.pl
  have x1 := ix_mb hk M
  have x2 := ix_vs (l := f.pts) (k := (gm f k).i) (by omega) M
  have x3 := ix_vs (l := f.pts) (k := (gm f k).j) (by omega) M
  have e := k1 (gv f.pts (gm f k).i) (gv f.pts (gm f k).j) M
  refine run_same rfl (vT_pure _) rfl ?_
  unfold spanV
  have fe : fmT f = .tup [vsT f.pts, .tup (f.mbs.map mT), .tup (f.pins.map nT)] := rfl
  generalize T.tup (f.mbs.map mT) = MM at *
  generalize T.tup (f.pins.map nT) = PP at *
  rw [fe]
  simp [Lib.span, startE, x1, x2, x3, l1, e]
def IsProdV (F : Fn) : Prop := ∀ (p q : Vec) (j k : Nat) (M : Mem), SmV j p → SmV k q → j + k ≤ 100000000 → F [vT p, vT q] M = some (.int (dotv p q), M)
theorem sp_prodV : IsProdV (runD G Lib.product_2) := by
  intro p q j k M hp hq hl
  have m1 := bin_mul (hp.1.mulOk hq.1 (by omega)) false M
  have m2 := bin_mul (hp.2.mulOk hq.2 (by omega)) false M
  refine run_same rfl rfl rfl ?_
  unfold dotv
  simp [Lib.product_2, startE, m1, m2]
def IsGrowV (F : Fn) : Prop := ∀ (f : Fm) (n k : Nat) (mo : List Vec) (M : Mem), FW f n → MW mo n → k < f.mbs.length → F [fmT f, nT k, vsT mo] M = some (.int (gro f k mo), M)
theorem sp_growV (hp : Knows G "product" IsProdV) (hs : Knows G "span" IsSpanV) (ht : Knows G "taken_from" IsTakenV) : IsGrowV (runD G Lib.growth) := by
  intro f n k mo M W V hk
  obtain ⟨F1, l1, k1⟩ := hp
  obtain ⟨F2, l2, k2⟩ := hs
  obtain ⟨F3, l3, k3⟩ := ht
  obtain ⟨hi, hj⟩ := W.mj _ (gm_mem hk)
  have ml := V.ml
  have x1 := ix_mb hk M
  have s1 := sl_m2 (gm f k) M
  have x2 := ix_vs (l := mo) (k := (gm f k).i) (by omega) M
  have x3 := ix_vs (l := mo) (k := (gm f k).j) (by omega) M
  have e2 := k2 f n k M W hk
  have e3 := k3 (gv mo (gm f k).i) (gv mo (gm f k).j) M
  have e1 := k1 (spanV f k) (vsub (gv mo (gm f k).i) (gv mo (gm f k).j)) _ _ M (W.span k) ((smv_gv V.sm _).sub (smv_gv V.sm _)) (by unfold KF; decide)
  refine run_same rfl rfl rfl ?_
  unfold gro
  generalize vsub (gv mo (gm f k).i) (gv mo (gm f k).j) = d at *
  have f1 := ix_f1 f M
  generalize T.tup (f.mbs.map mT) = MM at *
  simp [Lib.growth, startE, f1, x1, s1, x2, x3, l2, e2, l3, e3, l1, e1]
def workL (lo mo : List Vec) : Int := (List.zipWith dotv lo mo).sum
def IsWorkV (F : Fn) : Prop := ∀ (lo mo : List Vec) (n : Nat) (M : Mem), lo.length = n → MW mo n → n < 1000 → (∀ p ∈ lo, SmV KF p) → F [vsT lo, vsT mo] M = some (.int (workL lo mo), M)
theorem sp_workV (hp : Knows G "product" IsProdV) : IsWorkV (runD G Lib.work) := by
  intro lo mo n M hl V hn sl
  obtain ⟨F1, l1, k1⟩ := hp
  let zs : List Int := List.zipWith dotv lo mo
  have zl : zs.length = n := by simp [zs, hl, V.ml]
  have lc : lcr G (.tp (.cons (.nm 3 "force") (.cons (.nm 4 "velocity") .nil))) .nil (.call "product" (.cons (.var 3 "force") (.cons (.var 4 "velocity") .nil))) [some (vsT lo), some (vsT mo), none, none, none] [] (zipT (lo.map vT) (mo.map vT)) M = some (zs.map T.int, M) := by
    refine lcr_ix (by simp) (by simp [zipT_len, zs]) fun i x y hx hy => ?_
    obtain ⟨x1, x2, h1, h2, rfl⟩ := zipT_get hx
    obtain ⟨p, hp, rfl⟩ := map_get h1
    obtain ⟨q, hq, rfl⟩ := map_get h2
    obtain ⟨v, hv, rfl⟩ := map_get hy
    simp only [zs, List.getElem?_zipWith, hp, hq, Option.some.injEq] at hv
    subst hv
    have e := k1 p q _ _ M (sl p (List.mem_of_getElem? hp)) (V.sm q (List.mem_of_getElem? hq)) (by unfold KF; decide)
    simp [stepL, l1, e]
  have hs : zs.sum = workL lo mo := rfl
  have bs := bi_sum zs M
  have tr : truth M (ilT zs) = some (!zs.isEmpty) := by
    rw [truth_sof (sof_il M zs)]
    cases zs <;> rfl
  refine run_same rfl rfl rfl ?_
  have z16 : zs.length ≤ 16777216 := by omega
  rw [← hs]
  by_cases h0 : zs = []
  · rw [h0] at lc bs tr
    have lc' : lcr G (.tp (.cons (.nm 3 "force") (.cons (.nm 4 "velocity") .nil))) .nil (.call "product" (.cons (.var 3 "force") (.cons (.var 4 "velocity") .nil))) [some (vsT lo), some (vsT mo), none, none, none] [] (zipT (lo.map vT) (mo.map vT)) M = some ([], M) := lc
    rw [h0]
    have f0 : T.fl [] = ilT [] := rfl
    simp only [Lib.work]
    simp [startE, wipeE, lc', f0, tr]
    simp [bs]
  · have x0 := ix_il zs 0 M (List.length_pos_iff.mpr h0)
    have x0' : ixT (ilT zs) (.int 0) M = some (.int (gt zs 0)) := x0
    have tr' : truth M (ilT zs) = some true := by
      rw [tr]
      cases hz : zs with
      | nil => exact absurd hz h0
      | cons => rfl
    generalize zs = Z at *
    simp only [Lib.work]
    simp [startE, wipeE, lc, z16, tr', x0', bs]
/-- allowed by the members -/
def AllowM (f : Fm) (mo : List Vec) (k : Nat) : Prop := ((gm f k).pull = none → gro f k mo ≤ 0) ∧ ((gm f k).push = none → 0 ≤ gro f k mo)
def Allow (f : Fm) (mo : List Vec) : Prop := ∀ k, k < f.mbs.length → AllowM f mo k
def IsAllowP (F : Fn) : Prop := ∀ (f : Fm) (n : Nat) (mo : List Vec) (M : Mem), FW f n → MW mo n → ∃ b, F [fmT f, vsT mo] M = some (.bl b, M) ∧ (b = true ↔ Allow f mo)
theorem sp_allowP (hg : Knows G "growth" IsGrowV) : IsAllowP (runD G Lib.is_allowed) := by
  intro f n mo M W V
  obtain ⟨F1, l1, k1⟩ := hg
  obtain ⟨r, hfr, q⟩ := fr_inv2 (G := G) (tg := .tp (.cons (.nm 2 "k") (.cons (.tp (.cons (.nm 3 "_") (.cons (.nm 3 "_") (.cons (.nm 4 "pull") (.cons (.nm 5 "push") .nil))))) .nil))) (b := [
    .set 6 "grown" (.call "growth" (.cons (.var 0 "frame") (.cons (.var 2 "k") (.cons (.var 1 "motion") .nil)))),
    .ite (.or (.and (.cmp .Is (.var 4 "pull") .non) (.one (.cmp .Gt (.var 6 "grown") (.int 0)))) (.one (.and (.cmp .Is (.var 5 "push") .non) (.one (.cmp .Lt (.var 6 "grown") (.int 0)))))) [
      .ret (.bl false)] []]) (g := []) (xs := enumL 0 (f.mbs.map mT)) (σ := [some (fmT f), some (vsT mo), none, none, none, none, none]) (M := M)
    (fun i σ M' => M' = M ∧ (∃ z2 z3 z4 z5 z6, σ = [some (fmT f), some (vsT mo), z2, z3, z4, z5, z6]) ∧ ∀ k, k < i → AllowM f mo k)
    (fun r => (r = .rt (.bl false) M ∧ ¬Allow f mo) ∨ (∃ z2 z3 z4 z5 z6, r = .nx [some (fmT f), some (vsT mo), z2, z3, z4, z5, z6] M ∧ Allow f mo))
    ⟨rfl, ⟨_, _, _, _, _, rfl⟩, fun k h => by omega⟩ (fun _ _ _ _ => by simp) (fun k x σ M' hx ⟨hM, ⟨z2, z3, z4, z5, z6, hz⟩, hj⟩ => by
      subst hM; subst hz
      obtain ⟨t, ht, rfl⟩ := enum_get hx
      obtain ⟨m, hm, rfl⟩ := map_get ht
      have hk : k < f.mbs.length := (List.getElem?_eq_some_iff.mp hm).1
      have em := gm_of hm
      refine ⟨[some (fmT f), some (vsT mo), some (nT k), some (nT m.j), some (oT m.pull), some (oT m.push), z6], by simp [mT], ?_⟩
      have e := k1 f n k mo M' W V hk
      have hA : AllowM f mo k ↔ (m.pull = none → gro f k mo ≤ 0) ∧ (m.push = none → 0 ≤ gro f k mo) := by unfold AllowM; rw [em]
      by_cases h : AllowM f mo k
      · refine .inl ⟨[some (fmT f), some (vsT mo), some (nT k), some (nT m.j), some (oT m.pull), some (oT m.push), some (.int (gro f k mo))], M', .inl ?_, rfl, ⟨_, _, _, _, _, rfl⟩, fun k' hk' => ?_⟩
        · obtain ⟨h1, h2⟩ := hA.mp h
          generalize gro f k mo = g at *
          cases hp : m.pull with
          | none =>
            have a1 : ¬0 < g := by have := h1 hp; omega
            cases hq : m.push with
            | none =>
              have a2 : ¬g < 0 := by have := h2 hq; omega
              simp [l1, e, a1, a2]
            | some y => simp [l1, e, a1]
          | some x =>
            cases hq : m.push with
            | none =>
              have a2 : ¬g < 0 := by have := h2 hq; omega
              simp [l1, e, a2]
            | some y => simp [l1, e]
        · by_cases ek : k' = k
          · rw [ek]; exact h
          · exact hj k' (by omega)
      · refine .inr (.inl ⟨.bl false, M', ?_, .inl ⟨rfl, fun hall => h (hall k hk)⟩⟩)
        have h' : ¬((m.pull = none → gro f k mo ≤ 0) ∧ (m.push = none → 0 ≤ gro f k mo)) := fun q => h (hA.mpr q)
        generalize gro f k mo = g at *
        cases hp : m.pull with
        | none =>
          by_cases a1 : 0 < g
          · simp [l1, e, a1]
          · cases hq : m.push with
            | none =>
              have a2 : g < 0 := by
                refine Classical.byContradiction fun hn => h' ⟨fun _ => by omega, fun _ => by omega⟩
              simp [l1, e, a1, a2]
            | some y => exact absurd ⟨fun _ => by omega, fun q => (by rw [hq] at q; cases q)⟩ h'
        | some x =>
          cases hq : m.push with
          | none =>
            have a2 : g < 0 := by
              refine Classical.byContradiction fun hn => h' ⟨fun q => (by rw [hp] at q; cases q), fun _ => by omega⟩
            simp [l1, e, a2]
          | some y => exact absurd ⟨fun q => (by rw [hp] at q; cases q), fun q => (by rw [hq] at q; cases q)⟩ h') (fun σ M' ⟨hM, ⟨z2, z3, z4, z5, z6, hz⟩, hj⟩ => by
      subst hM; subst hz
      exact .inr ⟨z2, z3, z4, z5, z6, rfl, fun k hk => hj k (by rw [enumL_len, List.length_map]; exact hk)⟩)
  have s1 : sof M (.tup (f.mbs.map mT)) = some (f.mbs.map mT) := rfl
  have g1 : grdOf (.tup (f.mbs.map mT)) (f.mbs.map mT) = [] := rfl
  have f1 := ix_f1 f M
  generalize T.tup (f.mbs.map mT) = MM at *
  rcases q with ⟨rfl, q⟩ | ⟨z2, z3, z4, z5, z6, rfl, q⟩
  · refine ⟨false, run_same rfl rfl rfl ?_, by simp [q]⟩
    simp [Lib.is_allowed, startE, f1, s1, g1, hfr]
  · refine ⟨true, run_same rfl rfl rfl ?_, by simp [q]⟩
    simp [Lib.is_allowed, startE, f1, s1, g1, hfr]
/-- what a member resists -/
def resM (f : Fm) (mo : List Vec) (k : Nat) : Int := if 0 < gro f k mo then (gm f k).pull.getD 0 * gro f k mo else if gro f k mo < 0 then -((gm f k).push.getD 0 * gro f k mo) else 0
def resist (f : Fm) (mo : List Vec) : Int := Lp.sI f.mbs.length (resM f mo)
theorem smL_getD {k : Nat} {o : Option Int} (h : SmL k o) : Sm k (o.getD 0) := by
  cases o with
  | none => exact sm_zero _
  | some x => exact h x rfl
def IsResistP (F : Fn) : Prop := ∀ (f : Fm) (n : Nat) (mo : List Vec) (M : Mem), FW f n → MW mo n → Allow f mo → F [fmT f, vsT mo] M = some (.int (resist f mo), M)
theorem sp_resistP (hg : Knows G "growth" IsGrowV) : IsResistP (runD G Lib.resistance) := by
  intro f n mo M W V hA
  obtain ⟨F1, l1, k1⟩ := hg
  obtain ⟨σ', M', hfr, hM, z3, z4, z5, z6, z7, hz⟩ := fr_inv (G := G) (tg := .tp (.cons (.nm 3 "k") (.cons (.tp (.cons (.nm 4 "_") (.cons (.nm 4 "_") (.cons (.nm 5 "pull") (.cons (.nm 6 "push") .nil))))) .nil))) (b := [
    .set 7 "grown" (.call "growth" (.cons (.var 0 "frame") (.cons (.var 3 "k") (.cons (.var 1 "motion") .nil)))),
    .ite (.cmp .Gt (.var 7 "grown") (.int 0)) [
      .aug 2 "found" .Add (.bin .Mult false (.var 5 "pull") (.var 7 "grown"))] [
      .ite (.cmp .Lt (.var 7 "grown") (.int 0)) [
        .aug 2 "found" .Sub (.bin .Mult false (.var 6 "push") (.var 7 "grown"))] []]]) (g := []) (xs := enumL 0 (f.mbs.map mT)) (σ := [some (fmT f), some (vsT mo), some (.int 0), none, none, none, none, none]) (M := M)
    (fun i σ M' => M' = M ∧ ∃ z3 z4 z5 z6 z7, σ = [some (fmT f), some (vsT mo), some (.int (Lp.sI i (resM f mo))), z3, z4, z5, z6, z7])
    ⟨rfl, _, _, _, _, _, rfl⟩ (fun _ _ _ _ => by simp) (fun k x σ M' hx ⟨hM, z3, z4, z5, z6, z7, hz⟩ => by
      subst hM; subst hz
      obtain ⟨t, ht, rfl⟩ := enum_get hx
      obtain ⟨m, hm, rfl⟩ := map_get ht
      have hk : k < f.mbs.length := (List.getElem?_eq_some_iff.mp hm).1
      have em := gm_of hm
      refine ⟨[some (fmT f), some (vsT mo), some (.int (Lp.sI k (resM f mo))), some (nT k), some (nT m.j), some (oT m.pull), some (oT m.push), z7], by simp [mT], [some (fmT f), some (vsT mo), some (.int (Lp.sI (k + 1) (resM f mo))), some (nT k), some (nT m.j), some (oT m.pull), some (oT m.push), some (.int (gro f k mo))], M', .inl ?_, rfl, _, _, _, _, _, rfl⟩
      have e := k1 f n k mo M' W V hk
      have gs := gro_sm W V k
      obtain ⟨a1, a2⟩ := hA k hk
      rw [em] at a1 a2
      obtain ⟨s1, s2⟩ := W.sl m (List.mem_of_getElem? hm)
      have hs : Lp.sI (k + 1) (resM f mo) = Lp.sI k (resM f mo) + resM f mo k := rfl
      have hr : resM f mo k = if 0 < gro f k mo then m.pull.getD 0 * gro f k mo else if gro f k mo < 0 then -(m.push.getD 0 * gro f k mo) else 0 := by unfold resM; rw [em]
      rw [hs, hr]
      have augA : ∀ a b : Int, augT .Add (.int a) (.int b) = some (.int (a + b)) := fun _ _ => rfl
      have augS : ∀ a b : Int, augT .Sub (.int a) (.int b) = some (.int (a - b)) := fun _ _ => rfl
      generalize gro f k mo = g at *
      generalize Lp.sI k (resM f mo) = S at *
      by_cases h1 : 0 < g
      · cases hp : m.pull with
        | none => have := a1 hp; omega
        | some x =>
          have mo' : mulOk x g := Sm.mulOk (s1 x hp) gs (by unfold KF; decide)
          have bm := bin_mul mo' false M'
          have ox : oT (some x) = .int x := rfl
          rw [if_pos h1]
          simp [l1, e, h1, ox, bm, augA]
      · by_cases h2 : g < 0
        · cases hp : m.push with
          | none => have := a2 hp; omega
          | some x =>
            have mo' : mulOk x g := Sm.mulOk (s2 x hp) gs (by unfold KF; decide)
            have bm := bin_mul mo' false M'
            have ox : oT (some x) = .int x := rfl
            rw [if_neg h1, if_pos h2]
            have e2 : S + -((some x).getD 0 * g) = S - x * g := by show S + -(x * g) = _; omega
            rw [e2]
            simp [l1, e, h1, h2, ox, bm, augS]
        · rw [if_neg h1, if_neg h2, Int.add_zero]
          simp [l1, e, h1, h2])
  rw [hM] at hfr
  subst hz
  rw [enumL_len, List.length_map] at hfr
  have s1 : sof M (.tup (f.mbs.map mT)) = some (f.mbs.map mT) := rfl
  have g1 : grdOf (.tup (f.mbs.map mT)) (f.mbs.map mT) = [] := rfl
  have f1 := ix_f1 f M
  have hres : Lp.sI f.mbs.length (resM f mo) = resist f mo := rfl
  rw [hres] at hfr
  generalize T.tup (f.mbs.map mT) = MM at *
  refine run_same rfl rfl rfl ?_
  simp [Lib.resistance, startE, f1, s1, g1, hfr]
end Mi
end L2

/-! The law's own growths, work and resistance, for vectors. -/
namespace L2
namespace Mi
open PySem PySem.Spec PyProof.Rows
variable {G : Sig}
@[simp] theorem eqv_vT (p q : Vec) (M : Mem) : eqv? M (vT p) (vT q) = some (decide (p = q)) := eqv_v p q M
theorem cmp_ne_v (p q : Vec) (M : Mem) : cmpT .NotEq (vT p) (vT q) M = some (!decide (p = q)) := by
  show (eqv? M (vT p) (vT q)).map not = _
  rw [eqv_v]; rfl
theorem vT_zero : T.tup [.int 0, .int 0] = vT (0, 0) := rfl
theorem eqT_nT (a b : Nat) : eqT (nT a) (nT b) = decide (a = b) := by
  have h := eqv_int (a : Int) (b : Int) []
  have h2 : eqv? [] (T.int (a : Int)) (.int (b : Int)) = some (eqT (nT a) (nT b)) := by
    unfold eqv?
    rfl
  rw [h2] at h
  rw [Option.some.inj h]
  by_cases e : a = b
  · simp [e]
  · simp only [e, decide_false, decide_eq_false_iff_not]; omega
theorem okTs_nT (l : List Nat) : okTs (l.map nT) = true := by
  induction l with
  | nil => rfl
  | cons x l ih => exact (by rw [List.map_cons, okTs, ih]; rfl)
theorem depTs_nT (l : List Nat) : depTs (l.map nT) ≤ 59 := by
  induction l with
  | nil => exact Nat.zero_le _
  | cons x l ih =>
    rw [List.map_cons, depTs]
    have : depT (nT x) = 0 := rfl
    omega
theorem cmp_in_n (k : Nat) (l : List Nat) (M : Mem) : cmpT .In (nT k) (.tup (l.map nT)) M = some (decide (k ∈ l)) := by
  have e0 : cmpT .In (nT k) (.tup (l.map nT)) M = cmpT.inT (nT k) (.tup (l.map nT)) M := rfl
  rw [e0]
  have e : cmpT.inT (nT k) (.tup (l.map nT)) M = if okT (nT k) = true ∧ okTs (l.map nT) = true ∧ depT (nT k) ≤ 60 ∧ depTs (l.map nT) ≤ 59 then some ((l.map nT).any fun z => eqT z (nT k)) else none := rfl
  rw [e, if_pos ⟨rfl, okTs_nT l, Nat.zero_le _, depTs_nT l⟩, List.any_map]
  congr 1
  rw [Bool.eq_iff_iff]
  simp only [List.any_eq_true, Function.comp, eqT_nT, decide_eq_true_eq]
  exact ⟨fun ⟨x, hx, h⟩ => h ▸ hx, fun h => ⟨k, h, rfl⟩⟩
def IsLGrowV (F : Fn) : Prop := ∀ (f : Fm) (n k : Nat) (mo : List Vec) (M : Mem), FW f n → MW mo n → k < f.mbs.length → F [fmT f, nT k, vsT mo] M = some (.int (gro f k mo), M)
theorem sp_lgrowV : IsLGrowV (runD G Lib._law_growth) := by
  intro f n k mo M W V hk
  obtain ⟨hi, hj⟩ := W.mj _ (gm_mem hk)
  have ml := V.ml
  have pl := W.pl
  have x1 := ix_mb hk M
  have s1 := sl_m2 (gm f k) M
  have x2 := ix_vs (l := mo) (k := (gm f k).i) (by omega) M
  have x3 := ix_vs (l := mo) (k := (gm f k).j) (by omega) M
  have x4 := ix_vs (l := f.pts) (k := (gm f k).i) (by omega) M
  have x5 := ix_vs (l := f.pts) (k := (gm f k).j) (by omega) M
  have sp := W.span k
  have sv : SmV (KF + 1) (vsub (gv mo (gm f k).i) (gv mo (gm f k).j)) := (smv_gv V.sm _).sub (smv_gv V.sm _)
  have m1 := bin_mul (sp.1.mulOk sv.1 (by unfold KF; decide)) false M
  have m2 := bin_mul (sp.2.mulOk sv.2 (by unfold KF; decide)) false M
  unfold spanV vsub at m1 m2
  refine run_same rfl rfl rfl ?_
  have f1 := ix_f1 f M
  have f0 := ix_f0 f M
  have hg : gro f k mo = (((gv f.pts (gm f k).i).1 - (gv f.pts (gm f k).j).1) * ((gv mo (gm f k).i).1 - (gv mo (gm f k).j).1)) + (((gv f.pts (gm f k).i).2 - (gv f.pts (gm f k).j).2) * ((gv mo (gm f k).i).2 - (gv mo (gm f k).j).2)) := rfl
  rw [hg]
  generalize T.tup (f.mbs.map mT) = MM at *
  simp only at m1 m2
  simp [Lib._law_growth, startE, f0, f1, x1, s1, x2, x3, x4, x5, m1, m2]
def IsLWorkV (F : Fn) : Prop := ∀ (lo mo : List Vec) (n : Nat) (M : Mem), lo.length = n → MW mo n → n < 1000 → (∀ p ∈ lo, SmV KF p) → F [vsT lo, vsT mo] M = some (.int (workL lo mo), M)
theorem sp_lworkV : IsLWorkV (runD G Lib._law_work) := by
  intro lo mo n M hl V hn sl
  let zs : List Int := List.zipWith dotv lo mo
  have zl : zs.length = n := by simp [zs, hl, V.ml]
  have lc : lcr G (.nm 2 "_law_k") .nil (.bin .Add false (.bin .Mult false (.ix (.ix (.var 0 "_law_load_here") (.var 2 "_law_k")) (.int 0)) (.ix (.ix (.var 1 "_law_motion") (.var 2 "_law_k")) (.int 0))) (.bin .Mult false (.ix (.ix (.var 0 "_law_load_here") (.var 2 "_law_k")) (.int 1)) (.ix (.ix (.var 1 "_law_motion") (.var 2 "_law_k")) (.int 1)))) [some (vsT lo), some (vsT mo), none] [] (rngL 0 (n : Int)) M = some (zs.map T.int, M) := by
    refine lcr_ix (by simp) (by rw [rngL_len]; simp [zl]) fun i x y hx hy => ?_
    obtain ⟨hi, rfl⟩ := rng_get hx
    obtain ⟨v, hv, rfl⟩ := map_get hy
    have x1 := ix_vs (l := lo) (k := i) (by omega) M
    have x2 := ix_vs (l := mo) (k := i) (by rw [V.ml]; omega) M
    have e1 : lo[i]? = some (gv lo i) := by
      unfold gv; rw [List.getD_eq_getElem?_getD, List.getElem?_eq_getElem (by omega)]; rfl
    have e2 : mo[i]? = some (gv mo i) := by
      unfold gv; rw [List.getD_eq_getElem?_getD, List.getElem?_eq_getElem (by rw [V.ml]; omega)]; rfl
    simp only [zs, List.getElem?_zipWith, e1, e2, Option.some.injEq] at hv
    subst hv
    have s1 := smv_gv sl i
    have s2 := smv_gv V.sm i
    have m1 := bin_mul (s1.1.mulOk s2.1 (by unfold KF; decide)) false M
    have m2 := bin_mul (s1.2.mulOk s2.2 (by unfold KF; decide)) false M
    unfold dotv
    simp [stepL, x1, x2, m1, m2]
  have hs : zs.sum = workL lo mo := rfl
  have bs := bi_sum zs M
  refine run_same rfl rfl rfl ?_
  have z16 : zs.length ≤ 16777216 := by omega
  have rg := rg1_n (n := n) (by omega)
  have ln : biT .len [vsT lo] M = some (nT n, M) := by rw [len_sof (sof_vs M lo), List.length_map, hl]
  rw [← hs]
  generalize zs = Z at *
  simp only [Lib._law_work]
  simp [startE, wipeE, ln, rg, lc, z16, bs]
def IsLAllow (F : Fn) : Prop := ∀ (f : Fm) (n : Nat) (mo : List Vec) (M : Mem), FW f n → MW mo n → ∃ b, F [fmT f, vsT mo] M = some (.bl b, M) ∧ (b = true ↔ Allow f mo ∧ ∀ p ∈ f.pins, gv mo p = (0, 0))
theorem sp_lallow (hg : Knows G "_law_growth" IsLGrowV) : IsLAllow (runD G Lib._law_allowed) := by
  intro f n mo M W V
  obtain ⟨F1, l1, k1⟩ := hg
  have mlen : f.mbs.length < 1000 := W.ml
  have f1 := ix_f1 f M
  have f2 := ix_f2 f M
  obtain ⟨r, hfr, q⟩ := fr_inv2 (G := G) (tg := .nm 2 "_law_k") (b := [
    .set 3 "_law_grown" (.call "_law_growth" (.cons (.var 0 "_law_frame_here") (.cons (.var 2 "_law_k") (.cons (.var 1 "_law_motion") .nil)))),
    .ite (.or (.and (.cmp .Is (.ix (.ix (.ix (.var 0 "_law_frame_here") (.int 1)) (.var 2 "_law_k")) (.int 2)) .non) (.one (.cmp .Gt (.var 3 "_law_grown") (.int 0)))) (.one (.and (.cmp .Is (.ix (.ix (.ix (.var 0 "_law_frame_here") (.int 1)) (.var 2 "_law_k")) (.int 3)) .non) (.one (.cmp .Lt (.var 3 "_law_grown") (.int 0)))))) [
      .ret (.bl false)] []]) (g := []) (xs := rngL 0 (f.mbs.length : Int)) (σ := [some (fmT f), some (vsT mo), none, none, none]) (M := M)
    (fun i σ M' => M' = M ∧ (∃ z2 z3, σ = [some (fmT f), some (vsT mo), z2, z3, none]) ∧ ∀ k, k < i → AllowM f mo k)
    (fun r => (r = .rt (.bl false) M ∧ ¬Allow f mo) ∨ (∃ z2 z3, r = .nx [some (fmT f), some (vsT mo), z2, z3, none] M ∧ Allow f mo))
    ⟨rfl, ⟨_, _, rfl⟩, fun k h => by omega⟩ (fun _ _ _ _ => by simp) (fun k x σ M' hx ⟨hM, ⟨z2, z3, hz⟩, hj⟩ => by
      subst hM; subst hz
      obtain ⟨hk, rfl⟩ := rng_get hx
      refine ⟨_, asg_nm .., ?_⟩
      have x1 := ix_mb hk M'
      have e := k1 f n k mo M' W V hk
      have hA : AllowM f mo k ↔ ((gm f k).pull = none → gro f k mo ≤ 0) ∧ ((gm f k).push = none → 0 ≤ gro f k mo) := Iff.rfl
      have x2 := ix_m2 (gm f k) M'
      have x3 := ix_m3 (gm f k) M'
      have c1 := cmp_is_oT (gm f k).pull M'
      have c2 := cmp_is_oT (gm f k).push M'
      by_cases h : AllowM f mo k
      · refine .inl ⟨[some (fmT f), some (vsT mo), some (nT k), some (.int (gro f k mo)), none], M', .inl ?_, rfl, ⟨_, _, rfl⟩, fun k' hk' => ?_⟩
        · obtain ⟨h1, h2⟩ := hA.mp h
          generalize gro f k mo = g at *
          cases hp : (gm f k).pull with
          | none =>
            have a1 : ¬0 < g := by have := h1 hp; omega
            rw [hp] at c1 x2
            cases hq : (gm f k).push with
            | none =>
              have a2 : ¬g < 0 := by have := h2 hq; omega
              rw [hq] at c2 x3
              simp [f1, x1, x2, x3, l1, e, c1, c2, a1, a2]
            | some y => rw [hq] at c2 x3; simp [f1, x1, x2, x3, l1, e, c1, c2, a1]
          | some x =>
            rw [hp] at c1 x2
            cases hq : (gm f k).push with
            | none =>
              have a2 : ¬g < 0 := by have := h2 hq; omega
              rw [hq] at c2 x3
              simp [f1, x1, x2, x3, l1, e, c1, c2, a2]
            | some y => rw [hq] at c2 x3; simp [f1, x1, x2, x3, l1, e, c1, c2]
        · rcases Nat.lt_succ_iff_lt_or_eq.mp hk' with h' | h'
          · exact hj k' h'
          · exact h' ▸ h
      · refine .inr (.inl ⟨.bl false, M', ?_, .inl ⟨rfl, fun q => h (q k hk)⟩⟩)
        have h' : ¬(((gm f k).pull = none → gro f k mo ≤ 0) ∧ ((gm f k).push = none → 0 ≤ gro f k mo)) := fun q => h (hA.mpr q)
        generalize gro f k mo = g at *
        cases hp : (gm f k).pull with
        | none =>
          rw [hp] at c1 x2
          by_cases a1 : 0 < g
          · simp [f1, x1, x2, x3, l1, e, c1, c2, a1]
          · cases hq : (gm f k).push with
            | none =>
              have a2 : g < 0 := by
                refine Classical.byContradiction fun hn => h' ⟨fun _ => by omega, fun _ => by omega⟩
              rw [hq] at c2 x3
              simp [f1, x1, x2, x3, l1, e, c1, c2, a1, a2]
            | some y => exact absurd ⟨fun _ => by omega, fun q => (by rw [hq] at q; cases q)⟩ h'
        | some x =>
          rw [hp] at c1 x2
          cases hq : (gm f k).push with
          | none =>
            have a2 : g < 0 := by
              refine Classical.byContradiction fun hn => h' ⟨fun q => (by rw [hp] at q; cases q), fun _ => by omega⟩
            rw [hq] at c2 x3
            simp [f1, x1, x2, x3, l1, e, c1, c2, a2]
          | some y => exact absurd ⟨fun q => (by rw [hp] at q; cases q), fun q => (by rw [hq] at q; cases q)⟩ h') (fun σ M' ⟨hM, ⟨z2, z3, hz⟩, hj⟩ => by
      subst hM; subst hz
      exact .inr ⟨z2, z3, rfl, fun k hk => hj k (by rw [rngL_len]; omega)⟩)
  have ln : biT .len [T.tup (f.mbs.map mT)] M = some (nT f.mbs.length, M) := by rw [len_sof (sof_tup' M f.mbs), List.length_map]
  have rg := rg1_n (n := f.mbs.length) (by omega)
  have sp : sof M (.tup (f.pins.map nT)) = some (f.pins.map nT) := rfl
  have gp : grdOf (.tup (f.pins.map nT)) (f.pins.map nT) = [] := rfl
  have pll := W.pnl
  let vs : List Nat := f.pins.filter fun p => !decide (gv mo p = (0, 0))
  have lc : ∀ z2 z3 : Option T, lcr G (.nm 4 "_law_pin") (.cons (.cmp .NotEq (.ix (.var 1 "_law_motion") (.var 4 "_law_pin")) (.tup (.cons (.int 0) (.cons (.int 0) .nil)))) .nil) (.var 4 "_law_pin") [some (fmT f), some (vsT mo), z2, z3, none] [] (f.pins.map nT) M = some (vs.map nT, M) := fun z2 z3 => by
    have key : ∀ ps : List Nat, (∀ p ∈ ps, p < n) → lcr G (.nm 4 "_law_pin") (.cons (.cmp .NotEq (.ix (.var 1 "_law_motion") (.var 4 "_law_pin")) (.tup (.cons (.int 0) (.cons (.int 0) .nil)))) .nil) (.var 4 "_law_pin") [some (fmT f), some (vsT mo), z2, z3, none] [] (ps.map nT) M = some ((ps.filter fun p => !decide (gv mo p = (0, 0))).map nT, M) := fun ps hps =>
      lcr_if nT (fun p => !decide (gv mo p = (0, 0))) nT (by simp) fun p hp => by
        have x1 := ix_vs (l := mo) (k := p) (by rw [V.ml]; exact hps p hp) M
        have c1 := cmp_ne_v (gv mo p) (0, 0) M
        rw [← vT_zero] at c1
        simp [stepL, x1, c1]
        split <;> rfl
    exact key f.pins W.pn
  have vl : vs.length ≤ 1000 := Nat.le_trans (List.length_filter_le _ _) (by omega)
  have lv : biT .len [.fl (vs.map nT)] M = some (nT vs.length, M) := by rw [len_fl, List.length_map]
  have hv : vs.length = 0 ↔ ∀ p ∈ f.pins, gv mo p = (0, 0) := by
    rw [List.length_eq_zero_iff]
    simp only [vs, List.filter_eq_nil_iff, Bool.not_eq_true', decide_eq_false_iff_not, Classical.not_not]
  have cz : cmpT .Eq (nT vs.length) (.int 0) M = some (decide (vs.length = 0)) := cmp_eq_nT _ 0 M
  generalize vs = VS at *
  generalize T.tup (f.mbs.map mT) = MM at *
  rcases q with ⟨rfl, q⟩ | ⟨z2, z3, rfl, q⟩
  · refine ⟨false, run_same rfl rfl rfl ?_, by simp [q]⟩
    simp [Lib._law_allowed, startE, f1, ln, rg, hfr]
  · refine ⟨decide (VS.length = 0), run_same rfl rfl rfl ?_, by simp [q, hv]⟩
    have lc' := lc z2 z3
    have v16 : (VS.map nT).length ≤ 16777216 := by rw [List.length_map]; omega
    generalize f.pins.map nT = PP at *
    generalize VS.map nT = VV at *
    simp [Lib._law_allowed, startE, wipeE, f1, f2, ln, rg, hfr, sp, gp, lc', v16, lv, cz]
def IsLResist (F : Fn) : Prop := ∀ (f : Fm) (n : Nat) (mo : List Vec) (M : Mem), FW f n → MW mo n → Allow f mo → F [fmT f, vsT mo] M = some (.int (resist f mo), M)
theorem sp_lresist (hg : Knows G "_law_growth" IsLGrowV) : IsLResist (runD G Lib._law_resistance) := by
  intro f n mo M W V hA
  obtain ⟨F1, l1, k1⟩ := hg
  have mlen : f.mbs.length < 1000 := W.ml
  have f1 := ix_f1 f M
  obtain ⟨σ', M', hfr, hM, z3, z4, hz⟩ := fr_inv (G := G) (tg := .nm 3 "_law_k") (b := [
    .set 4 "_law_grown" (.call "_law_growth" (.cons (.var 0 "_law_frame_here") (.cons (.var 3 "_law_k") (.cons (.var 1 "_law_motion") .nil)))),
    .ite (.cmp .Gt (.var 4 "_law_grown") (.int 0)) [
      .set 2 "_law_found" (.bin .Add false (.var 2 "_law_found") (.bin .Mult false (.ix (.ix (.ix (.var 0 "_law_frame_here") (.int 1)) (.var 3 "_law_k")) (.int 2)) (.var 4 "_law_grown")))] [],
    .ite (.cmp .Lt (.var 4 "_law_grown") (.int 0)) [
      .set 2 "_law_found" (.bin .Sub false (.var 2 "_law_found") (.bin .Mult false (.ix (.ix (.ix (.var 0 "_law_frame_here") (.int 1)) (.var 3 "_law_k")) (.int 3)) (.var 4 "_law_grown")))] []]) (g := []) (xs := rngL 0 (f.mbs.length : Int)) (σ := [some (fmT f), some (vsT mo), some (.int 0), none, none]) (M := M)
    (fun i σ M' => M' = M ∧ ∃ z3 z4, σ = [some (fmT f), some (vsT mo), some (.int (Lp.sI i (resM f mo))), z3, z4])
    ⟨rfl, _, _, rfl⟩ (fun _ _ _ _ => by simp) (fun k x σ M' hx ⟨hM, z3, z4, hz⟩ => by
      subst hM; subst hz
      obtain ⟨hk, rfl⟩ := rng_get hx
      refine ⟨_, asg_nm .., [some (fmT f), some (vsT mo), some (.int (Lp.sI (k + 1) (resM f mo))), some (nT k), some (.int (gro f k mo))], M', .inl ?_, rfl, _, _, rfl⟩
      have x1 := ix_mb hk M'
      have e := k1 f n k mo M' W V hk
      have gs := gro_sm W V k
      obtain ⟨a1, a2⟩ := hA k hk
      obtain ⟨s1, s2⟩ := W.sl _ (gm_mem hk)
      have hs : Lp.sI (k + 1) (resM f mo) = Lp.sI k (resM f mo) + resM f mo k := rfl
      have hr : resM f mo k = if 0 < gro f k mo then (gm f k).pull.getD 0 * gro f k mo else if gro f k mo < 0 then -((gm f k).push.getD 0 * gro f k mo) else 0 := rfl
      rw [hs, hr]
      have x2 := ix_m2 (gm f k) M'
      have x3 := ix_m3 (gm f k) M'
      generalize gro f k mo = g at *
      generalize Lp.sI k (resM f mo) = S at *
      by_cases h1 : 0 < g
      · have h2 : ¬g < 0 := by omega
        cases hp : (gm f k).pull with
        | none => have := a1 hp; omega
        | some x =>
          have mo' : mulOk x g := Sm.mulOk (s1 x hp) gs (by unfold KF; decide)
          have bm := bin_mul mo' false M'
          have ox : oT (some x) = .int x := rfl
          rw [hp, ox] at x2
          rw [if_pos h1]
          simp [f1, x1, x2, l1, e, h1, h2, bm]
      · by_cases h2 : g < 0
        · cases hp : (gm f k).push with
          | none => have := a2 hp; omega
          | some x =>
            have mo' : mulOk x g := Sm.mulOk (s2 x hp) gs (by unfold KF; decide)
            have bm := bin_mul mo' false M'
            have ox : oT (some x) = .int x := rfl
            rw [hp, ox] at x3
            rw [if_neg h1, if_pos h2]
            have e2 : S + -((some x).getD 0 * g) = S - x * g := by show S + -(x * g) = _; omega
            rw [e2]
            simp [f1, x1, x3, l1, e, h1, h2, bm]
        · rw [if_neg h1, if_neg h2, Int.add_zero]
          simp [f1, x1, l1, e, h1, h2])
  rw [hM] at hfr
  subst hz
  rw [rngL_len] at hfr
  simp only [Int.sub_zero, Int.toNat_natCast] at hfr
  have hres : Lp.sI f.mbs.length (resM f mo) = resist f mo := rfl
  rw [hres] at hfr
  have ln : biT .len [T.tup (f.mbs.map mT)] M = some (nT f.mbs.length, M) := by rw [len_sof (sof_tup' M f.mbs), List.length_map]
  have rg := rg1_n (n := f.mbs.length) (by omega)
  generalize T.tup (f.mbs.map mT) = MM at *
  refine run_same rfl rfl rfl ?_
  simp [Lib._law_resistance, startE, f1, ln, rg, hfr]
def IsLIntI (F : Fn) : Prop := ∀ (i : Int) (M : Mem), F [.int i] M = some (.bl true, M)
theorem sp_lintI : IsLIntI (runD G Lib._law_is_integer) := by
  intro i M
  have h1 : isiT M "int" (.int i) = some true := rfl
  have h2 : isiT M "bool" (.int i) = some false := rfl
  refine run_same rfl rfl rfl ?_
  simp [Lib._law_is_integer, startE, h1, h2]
end Mi
end L2
namespace L2
namespace Mi
theorem sm_le {k : Nat} {x : Int} (h : x.natAbs < 2 ^ 10) (hk : 10 ≤ k) : Sm k x := Sm.mono (j := 10) (by unfold Sm; omega) hk
theorem LFm.fw {f : Fm} {least style : Nat} {pinned : Bool} (L : LFm f least style pinned) (h : least ≤ 4) : FW f f.pts.length := by
  have n2 := L.n2
  have few := L.few
  refine ⟨rfl, by omega, by omega, fun m hm => ?_, L.pn, by have := L.pl; omega, fun p hp => ?_, fun m hm => ?_⟩
  · obtain ⟨h1, h2, _⟩ := L.mb m hm
    exact ⟨by omega, h2⟩
  · obtain ⟨h1, h2⟩ := L.pc p hp
    exact ⟨sm_le (by omega) (by unfold KF; decide), sm_le (by omega) (by unfold KF; decide)⟩
  · obtain ⟨_, _, _, h4, h5, _⟩ := L.mb m hm
    exact ⟨fun x e => by have := h4 x e; exact sm_le (by omega) (by unfold KF; decide), fun x e => by have := h5 x e; exact sm_le (by omega) (by unfold KF; decide)⟩
end Mi
end L2

/-! Rigid motions. -/
namespace L2
namespace Mi
open PySem PySem.Spec PyProof.Rows
variable {G : Sig}
def trn (p : Vec) : Vec := (-p.2, p.1)
def crs (p q : Vec) : Int := p.1 * q.2 - p.2 * q.1
def dP (pts : List Vec) (i j : Nat) : Vec := vsub (gv pts i) (gv pts j)
/-- the law's word for it -/
def RigP (pts mo : List Vec) (i j : Nat) : Prop := dotv (dP pts i j) (dP mo i j) = 0 ∧ (dP pts i j = (0, 0) → dP mo i j = (0, 0))
def RigC (pts mo : List Vec) (i j a b : Nat) : Prop := crs (dP pts i j) (dP mo i j) * dotv (dP pts a b) (dP pts a b) = crs (dP pts a b) (dP mo a b) * dotv (dP pts i j) (dP pts i j)
def Rigid (pts mo : List Vec) : Prop := (∀ i j, j < i → i < pts.length → RigP pts mo i j) ∧ ∀ i j a b, j < i → i < pts.length → b < a → a < pts.length → RigC pts mo i j a b
theorem dP_swap (l : List Vec) (i j : Nat) : dP l j i = (-(dP l i j).1, -(dP l i j).2) := by
  unfold dP vsub
  simp only [Prod.mk.injEq]
  omega
theorem rigP_all {pts mo : List Vec} (h : Rigid pts mo) {i j : Nat} (hi : i < pts.length) (hj : j < pts.length) : RigP pts mo i j := by
  rcases Nat.lt_trichotomy j i with h' | h' | h'
  · exact h.1 i j h' hi
  · subst h'
    have e : ∀ l : List Vec, dP l j j = (0, 0) := fun l => by unfold dP vsub; simp
    unfold RigP
    rw [e, e]
    exact ⟨rfl, fun _ => rfl⟩
  · obtain ⟨h1, h2⟩ := h.1 j i h' hj
    unfold RigP
    rw [dP_swap pts j i, dP_swap mo j i]
    refine ⟨by unfold dotv at *; simp only at *; rw [Int.neg_mul_neg, Int.neg_mul_neg]; exact h1, fun e => ?_⟩
    have e' : dP pts j i = (0, 0) := by
      injection e with e1 e2
      exact Prod.ext (by show (dP pts j i).1 = 0; omega) (by show (dP pts j i).2 = 0; omega)
    rw [h2 e']; rfl
theorem crs_neg (p q : Vec) : crs (-p.1, -p.2) (-q.1, -q.2) = crs p q := by
  unfold crs; simp only; rw [Int.neg_mul_neg, Int.neg_mul_neg]
theorem dot_neg (p : Vec) : dotv (-p.1, -p.2) (-p.1, -p.2) = dotv p p := by
  unfold dotv; simp only; rw [Int.neg_mul_neg, Int.neg_mul_neg]
theorem rigC_swap {pts mo : List Vec} {i j a b : Nat} (h : RigC pts mo i j a b) : RigC pts mo j i a b := by
  unfold RigC at *
  rw [dP_swap pts i j, dP_swap mo i j, crs_neg, dot_neg]; exact h
theorem rigC_self (pts mo : List Vec) (i a b : Nat) : RigC pts mo i i a b := by
  have e : ∀ l : List Vec, dP l i i = (0, 0) := fun l => by unfold dP vsub; simp
  unfold RigC
  rw [e, e]; simp [crs, dotv]
theorem rigC_all {pts mo : List Vec} (h : Rigid pts mo) {i j a b : Nat} (hi : i < pts.length) (hj : j < pts.length) (ha : a < pts.length) (hb : b < pts.length) : RigC pts mo i j a b := by
  have key : ∀ i j a b, j < i → i < pts.length → a < pts.length → b < pts.length → RigC pts mo i j a b := by
    intro i j a b h1 h2 h3 h4
    rcases Nat.lt_trichotomy b a with h' | h' | h'
    · exact h.2 i j a b h1 h2 h' h3
    · subst h'; exact (rigC_self pts mo b i j).symm
    · exact (rigC_swap (h.2 i j b a h1 h2 h' h4).symm).symm
  rcases Nat.lt_trichotomy j i with h' | h' | h'
  · exact key i j a b h' hi ha hb
  · subst h'; exact rigC_self ..
  · exact rigC_swap (key j i a b h' hj ha hb)
theorem sq_pos {x y : Int} (h : ¬(x = 0 ∧ y = 0)) : 0 < x * x + y * y := by
  have a : 0 ≤ x * x := by rcases Int.le_total 0 x with h | h; exact Int.mul_nonneg h h; exact Int.mul_nonneg_of_nonpos_of_nonpos h h
  have b : 0 ≤ y * y := by rcases Int.le_total 0 y with h | h; exact Int.mul_nonneg h h; exact Int.mul_nonneg_of_nonpos_of_nonpos h h
  have c : x ≠ 0 → 0 < x * x := fun h => by
    rcases Int.lt_or_gt_of_ne h with h | h
    · exact Int.mul_pos_of_neg_of_neg h h
    · exact Int.mul_pos h h
  have d : y ≠ 0 → 0 < y * y := fun h => by
    rcases Int.lt_or_gt_of_ne h with h | h
    · exact Int.mul_pos_of_neg_of_neg h h
    · exact Int.mul_pos h h
  by_cases hx : x = 0
  · have := d (fun e => h ⟨hx, e⟩); omega
  · have := c hx; omega
theorem vz {p : Vec} : p = (0, 0) ↔ p.1 = 0 ∧ p.2 = 0 := ⟨fun h => by rw [h]; exact ⟨rfl, rfl⟩, fun h => Prod.ext h.1 h.2⟩
/-- one spin for all -/
def Spun (S W d w : Int × Int) : Prop := True
theorem dP_tri (l : List Vec) (i j k : Nat) : dP l i j = vsub (dP l i k) (dP l j k) := by
  unfold dP vsub; simp only [Prod.mk.injEq]; omega
/-- the program's word for it -/
theorem rig_spin {pts mo : List Vec} {c : Nat} (hn : 0 < pts.length) (hc : c < pts.length) (hne : gv pts c ≠ gv pts 0) :
    Rigid pts mo ↔ ∀ k, k < pts.length → dotv (dP pts c 0) (dP pts c 0) * (dP mo k 0).1 = dotv (trn (dP pts c 0)) (dP mo c 0) * (trn (dP pts k 0)).1 ∧ dotv (dP pts c 0) (dP pts c 0) * (dP mo k 0).2 = dotv (trn (dP pts c 0)) (dP mo c 0) * (trn (dP pts k 0)).2 := by
  have hS : 0 < dotv (dP pts c 0) (dP pts c 0) := by
    unfold dotv
    refine sq_pos fun h => hne ?_
    have h1 : (gv pts c).1 - (gv pts 0).1 = 0 := h.1
    have h2 : (gv pts c).2 - (gv pts 0).2 = 0 := h.2
    exact Prod.ext (by omega) (by omega)
  constructor
  · intro R k hk
    obtain ⟨p1, p2⟩ := rigP_all R hk hn
    have hC := rigC_all R hk hn hc hn
    unfold RigC at hC
    generalize hd : dP pts k 0 = d at *
    generalize hw : dP mo k 0 = w at *
    have hsp : dotv (trn (dP pts c 0)) (dP mo c 0) = crs (dP pts c 0) (dP mo c 0) := by unfold dotv trn crs; simp only; grind
    rw [hsp]
    generalize dotv (dP pts c 0) (dP pts c 0) = S at *
    generalize crs (dP pts c 0) (dP mo c 0) = W at *
    by_cases h0 : d = (0, 0)
    · rw [p2 h0, h0]; simp [trn]
    · have hd2 : 0 < dotv d d := sq_pos fun h => h0 (vz.mpr h)
      have e1 : dotv d d * w.1 = crs d w * (trn d).1 := by unfold dotv crs trn at *; simp only at *; grind
      have e2 : dotv d d * w.2 = crs d w * (trn d).2 := by unfold dotv crs trn at *; simp only at *; grind
      have f1 : dotv d d * (S * w.1) = dotv d d * (W * (trn d).1) := by grind
      have f2 : dotv d d * (S * w.2) = dotv d d * (W * (trn d).2) := by grind
      exact ⟨Int.eq_of_mul_eq_mul_left (by omega) f1, Int.eq_of_mul_eq_mul_left (by omega) f2⟩
  · intro H
    generalize dotv (dP pts c 0) (dP pts c 0) = S at *
    generalize dotv (trn (dP pts c 0)) (dP mo c 0) = W at *
    have key : ∀ i j, i < pts.length → j < pts.length → S * (dP mo i j).1 = W * (-(dP pts i j).2) ∧ S * (dP mo i j).2 = W * (dP pts i j).1 := by
      intro i j hi hj
      obtain ⟨a1, a2⟩ := H i hi
      obtain ⟨b1, b2⟩ := H j hj
      rw [dP_tri mo i j 0, dP_tri pts i j 0]
      unfold vsub trn at *
      simp only at *
      constructor <;> grind
    refine ⟨fun i j hj hi => ?_, fun i j a b hj hi hb ha => ?_⟩
    · obtain ⟨a1, a2⟩ := key i j hi (by omega)
      unfold RigP
      generalize dP pts i j = d at *
      generalize dP mo i j = w at *
      refine ⟨Int.eq_of_mul_eq_mul_left (a := S) (by omega) ?_, fun h => ?_⟩
      · unfold dotv; grind
      · rw [h] at a1 a2
        simp only [Int.neg_zero, Int.mul_zero] at a1 a2
        exact vz.mpr ⟨(Int.mul_eq_zero.mp a1).resolve_left (by omega), (Int.mul_eq_zero.mp a2).resolve_left (by omega)⟩
    · obtain ⟨a1, a2⟩ := key i j hi (by omega)
      obtain ⟨b1, b2⟩ := key a b ha (by omega)
      unfold RigC
      generalize dP pts i j = d at *
      generalize dP mo i j = w at *
      generalize dP pts a b = d' at *
      generalize dP mo a b = w' at *
      have e1 : S * crs d w = W * dotv d d := by unfold crs dotv; grind
      have e2 : S * crs d' w' = W * dotv d' d' := by unfold crs dotv; grind
      refine Int.eq_of_mul_eq_mul_left (a := S) (by omega) ?_
      grind
/-- all at one place -/
theorem rig_one {pts mo : List Vec} (hn : 0 < pts.length) (h : ∀ k, k < pts.length → gv pts k = gv pts 0) : Rigid pts mo ↔ ∀ k, k < pts.length → gv mo k = gv mo 0 := by
  have hd : ∀ i j, i < pts.length → j < pts.length → dP pts i j = (0, 0) := fun i j hi hj => by
    unfold dP; rw [h i hi, h j hj]; unfold vsub; simp
  constructor
  · intro R k hk
    have := (rigP_all R hk hn).2 (hd k 0 hk hn)
    obtain ⟨h1, h2⟩ := vz.mp this
    have h1 : (gv mo k).1 - (gv mo 0).1 = 0 := h1
    have h2 : (gv mo k).2 - (gv mo 0).2 = 0 := h2
    exact Prod.ext (by omega) (by omega)
  · intro H
    have hw : ∀ i j, i < pts.length → j < pts.length → dP mo i j = (0, 0) := fun i j hi hj => by
      unfold dP; rw [H i hi, H j hj]; unfold vsub; simp
    refine ⟨fun i j hj hi => ?_, fun i j a b hj hi hb ha => ?_⟩
    · unfold RigP; rw [hd i j hi (by omega), hw i j hi (by omega)]; exact ⟨rfl, fun _ => rfl⟩
    · unfold RigC; rw [hd i j hi (by omega), hd a b ha (by omega)]; simp [dotv]
def ptwT : Option Nat → T
  | none => .non
  | some j => .tup [.int 0, nT j]
def IsTwoPl (F : Fn) : Prop := ∀ (pts : List Vec) (M : Mem), 0 < pts.length → pts.length < 1000 → ∃ o, F [vsT pts] M = some (ptwT o, M) ∧ (o = none → ∀ k, k < pts.length → gv pts k = gv pts 0) ∧ ∀ j, o = some j → j < pts.length ∧ gv pts j ≠ gv pts 0
theorem gv_of {l : List Vec} {k : Nat} {v : Vec} (h : l[k]? = some v) : gv l k = v := by
  unfold gv; rw [List.getD_eq_getElem?_getD, h]; rfl
theorem sp_two : IsTwoPl (runD G Lib.two_places) := by
  intro pts M h0 h1
  have x0 := ix_vs (l := pts) (k := 0) h0 M
  have x0' : ixT (vsT pts) (.int 0) M = some (vT (gv pts 0)) := x0
  obtain ⟨r, hfr, q⟩ := fr_inv2 (G := G) (tg := .tp (.cons (.nm 1 "joint") (.cons (.nm 2 "point") .nil))) (b := [
    .ite (.cmp .NotEq (.var 2 "point") (.ix (.var 0 "points") (.int 0))) [
      .ret (.tup (.cons (.int 0) (.cons (.var 1 "joint") .nil)))] []]) (g := []) (xs := enumL 0 (pts.map vT)) (σ := [some (vsT pts), none, none]) (M := M)
    (fun i σ M' => M' = M ∧ (∃ z1 z2, σ = [some (vsT pts), z1, z2]) ∧ ∀ k, k < i → gv pts k = gv pts 0)
    (fun r => (∃ j, r = .rt (ptwT (some j)) M ∧ j < pts.length ∧ gv pts j ≠ gv pts 0) ∨ (∃ z1 z2, r = .nx [some (vsT pts), z1, z2] M ∧ ∀ k, k < pts.length → gv pts k = gv pts 0))
    ⟨rfl, ⟨_, _, rfl⟩, fun k h => by omega⟩ (fun _ _ _ _ => by simp) (fun k x σ M' hx ⟨hM, ⟨z1, z2, hz⟩, hj⟩ => by
      subst hM; subst hz
      obtain ⟨t, ht, rfl⟩ := enum_get hx
      obtain ⟨v, hv, rfl⟩ := map_get ht
      have hk : k < pts.length := (List.getElem?_eq_some_iff.mp hv).1
      have ev := gv_of hv
      refine ⟨[some (vsT pts), some (nT k), some (vT v)], by simp, ?_⟩
      have c := cmp_ne_v v (gv pts 0) M'
      by_cases h : v = gv pts 0
      · refine .inl ⟨[some (vsT pts), some (nT k), some (vT v)], M', .inl ?_, rfl, ⟨_, _, rfl⟩, fun k' hk' => ?_⟩
        · rw [h] at c ⊢
          simp [x0', c]
        · rcases Nat.lt_succ_iff_lt_or_eq.mp hk' with h' | h'
          · exact hj k' h'
          · rw [h', ev]; exact h
      · refine .inr (.inl ⟨ptwT (some k), M', ?_, .inl ⟨k, rfl, hk, by rw [ev]; exact h⟩⟩)
        simp [x0', c, h, ptwT]) (fun σ M' ⟨hM, ⟨z1, z2, hz⟩, hj⟩ => by
      subst hM; subst hz
      exact .inr ⟨z1, z2, rfl, fun k hk => hj k (by rw [enumL_len, List.length_map]; exact hk)⟩)
  rcases q with ⟨j, rfl, q1, q2⟩ | ⟨z1, z2, rfl, q⟩
  · refine ⟨some j, run_same rfl rfl rfl ?_, nofun, fun j' e => by cases e; exact ⟨q1, q2⟩⟩
    simp [Lib.two_places, startE, hfr]
  · refine ⟨none, run_same rfl rfl rfl ?_, fun _ => q, nofun⟩
    simp [Lib.two_places, startE, hfr, ptwT]
def IsTurned (F : Fn) : Prop := ∀ (p : Vec) (M : Mem), F [vT p] M = some (vT (trn p), M)
theorem sp_turned : IsTurned (runD G Lib.turned) := by
  intro p M
  refine run_same rfl (vT_pure _) rfl ?_
  have : vT (trn p) = .tup [.int (-p.2), .int p.1] := rfl
  rw [this]
  simp [Lib.turned, startE]
def IsRigid (F : Fn) : Prop := ∀ (pts mo : List Vec) (n : Nat) (M : Mem), MW pts n → MW mo n → 0 < n → n < 1000 → ∃ b, F [vsT pts, vsT mo] M = some (.bl b, M) ∧ (b = true ↔ Rigid pts mo)
@[simp] theorem cmp_is_tup (ts : List T) (M : Mem) : cmpT .Is (.tup ts) .non M = some false := rfl
theorem xs_append (a b : List MS) (σ : En) (M : Mem) : exSs G (a ++ b) σ M = (exSs G a σ M).bind (nxt G b) := by
  induction a generalizing σ M with
  | nil => simp
  | cons s ss ih =>
    rw [List.cons_append, xs_cons, xs_cons]
    cases exS G s σ M with
    | none => rfl
    | some r =>
      cases r with
      | nx σ1 M1 => exact ih σ1 M1
      | _ => rfl
theorem MW.gl {mo : List Vec} {n k : Nat} (V : MW mo n) (h : k < n) (M : Mem) : ixT (vsT mo) (nT k) M = some (vT (gv mo k)) := ix_vs (by rw [V.ml]; exact h) M
theorem MW.dP {mo : List Vec} {n : Nat} (V : MW mo n) (i j : Nat) : SmV (KF + 1) (dP mo i j) := (smv_gv V.sm _).sub (smv_gv V.sm _)
theorem trn_sm {k : Nat} {p : Vec} (h : SmV k p) : SmV k (trn p) := ⟨h.2.neg, h.1⟩
theorem sp_isrigid (h2 : Knows G "two_places" IsTwoPl) (ht : Knows G "taken_from" IsTakenV) (hu : Knows G "turned" IsTurned) : IsRigid (runD G Lib.is_rigid) := by
  intro pts mo n M P V h0 hn
  obtain ⟨F2, l2, k2⟩ := h2
  obtain ⟨Ft, lt, kt⟩ := ht
  obtain ⟨Fu, lu, ku⟩ := hu
  have pl := P.ml
  have ml := V.ml
  obtain ⟨o, e2, o1, o2⟩ := k2 pts M (by omega) (by omega)
  have x0 : ∀ M' : Mem, ixT (vsT pts) (.int 0) M' = some (vT (gv pts 0)) := fun M' => P.gl h0 M'
  have m0 : ∀ M' : Mem, ixT (vsT mo) (.int 0) M' = some (vT (gv mo 0)) := fun M' => V.gl h0 M'
  cases o with
  | none =>
    have R := rig_one (mo := mo) (by omega) (o1 rfl)
    let bs : List Bool := mo.map fun v => decide (v = gv mo 0)
    have lc : lcr G (.nm 9 "velocity") .nil (.cmp .Eq (.var 9 "velocity") (.ix (.var 1 "motion") (.int 0))) [some (vsT pts), some (vsT mo), some .non, none, none, none, none, none, none, none, none, none] [] (mo.map vT) M = some (bs.map T.bl, M) := by
      rw [lcr_of vT (fun v => .bl (decide (v = gv mo 0))) (by simp) (fun v hv => by
        have c : cmpT .Eq (vT v) (vT (gv mo 0)) M = some (decide (v = gv mo 0)) := eqv_v v _ M
        simp [stepL, m0, c])]
      show _ = some ((mo.map _).map T.bl, M)
      rw [List.map_map]; rfl
    have bl16 : bs.length ≤ 16777216 := by simp [bs]; omega
    have ba := bi_all bs M
    have hb : bs.all id = true ↔ Rigid pts mo := by
      rw [R]
      simp only [bs, List.all_map, List.all_eq_true, Function.comp, id, decide_eq_true_eq]
      refine ⟨fun h k hk => h _ ?_, fun h v hv => ?_⟩
      · unfold gv; rw [List.getD_eq_getElem?_getD, List.getElem?_eq_getElem (by omega)]
        exact List.getElem_mem ..
      · obtain ⟨k, hk, rfl⟩ := List.getElem_of_mem hv
        have := h k (by omega)
        unfold gv at this ⊢
        rw [List.getD_eq_getElem?_getD, List.getElem?_eq_getElem hk] at this
        exact this
    refine ⟨bs.all id, run_same rfl rfl rfl ?_, hb⟩
    generalize bs = B at *
    have e2' : F2 [vsT pts] M = some (.non, M) := e2
    generalize hR : mo.map vT = RR at lc
    have sv : sof M (vsT mo) = some RR := by rw [← hR]; rfl
    simp [Lib.is_rigid, startE, wipeE, l2, e2', -sof_vs, sv, lc, bl16, ba]
  | some c =>
    obtain ⟨hc, hne⟩ := o2 c rfl
    have R := rig_spin (mo := mo) (by omega) hc hne
    have hc' : c < n := by omega
    let S : Int := dotv (dP pts c 0) (dP pts c 0)
    let W : Int := dotv (trn (dP pts c 0)) (dP mo c 0)
    have sS : Sm (2 * KF + 3) S := (dot_sm (P.dP c 0) (P.dP c 0)).mono (by unfold KF; decide)
    have sW : Sm (2 * KF + 3) W := (dot_sm (trn_sm (P.dP c 0)) (V.dP c 0)).mono (by unfold KF; decide)
    have t1 := kt (gv pts c) (gv pts 0) M
    have u1 := ku (dP pts c 0) M
    have dp : vsub (gv pts c) (gv pts 0) = dP pts c 0 := rfl
    rw [dp] at t1
    have b1 := bin_mul ((P.dP c 0).1.mulOk (P.dP c 0).1 (by unfold KF; decide)) false M
    have b2 := bin_mul ((P.dP c 0).2.mulOk (P.dP c 0).2 (by unfold KF; decide)) false M
    have b3 := bin_mul ((trn_sm (P.dP c 0)).1.mulOk (V.dP c 0).1 (by unfold KF; decide)) false M
    have b4 := bin_mul ((trn_sm (P.dP c 0)).2.mulOk (V.dP c 0).2 (by unfold KF; decide)) false M
    have xc := P.gl hc' M
    have mc := V.gl hc' M
    let E : Option T → Option T → Option T → Option T → En := fun z8 z9 z10 z11 => [some (vsT pts), some (vsT mo), some (.tup [.int 0, nT c]), some (.int 0), some (nT c), some (vT (dP pts c 0)), some (.int S), some (.int W), z8, z9, z10, z11]
    obtain ⟨r, hfr, q⟩ := fr_inv2 (G := G) (tg := .tp (.cons (.nm 8 "point") (.cons (.nm 9 "velocity") .nil))) (b := [
      .set 10 "away" (.call "turned" (.cons (.call "taken_from" (.cons (.var 8 "point") (.cons (.ix (.var 0 "points") (.var 3 "i")) .nil))) .nil)),
      .set 11 "moved" (.call "taken_from" (.cons (.var 9 "velocity") (.cons (.ix (.var 1 "motion") (.var 3 "i")) .nil))),
      .ite (.or (.cmp .NotEq (.bin .Mult false (.var 6 "size") (.ix (.var 11 "moved") (.int 0))) (.bin .Mult false (.var 7 "spin") (.ix (.var 10 "away") (.int 0)))) (.one (.cmp .NotEq (.bin .Mult false (.var 6 "size") (.ix (.var 11 "moved") (.int 1))) (.bin .Mult false (.var 7 "spin") (.ix (.var 10 "away") (.int 1)))))) [
        .ret (.bl false)] []]) (g := []) (xs := zipT (pts.map vT) (mo.map vT)) (σ := E none none none none) (M := M)
      (fun i σ M' => M' = M ∧ (∃ z8 z9 z10 z11, σ = E z8 z9 z10 z11) ∧ ∀ k, k < i → S * (dP mo k 0).1 = W * (trn (dP pts k 0)).1 ∧ S * (dP mo k 0).2 = W * (trn (dP pts k 0)).2)
      (fun r => (r = .rt (.bl false) M ∧ ¬Rigid pts mo) ∨ (∃ z8 z9 z10 z11, r = .nx (E z8 z9 z10 z11) M ∧ Rigid pts mo))
      ⟨rfl, ⟨_, _, _, _, rfl⟩, fun k h => by omega⟩ (fun _ _ _ _ => by simp) (fun k x σ M' hx ⟨hM, ⟨z8, z9, z10, z11, hz⟩, hj⟩ => by
        subst hM; subst hz
        obtain ⟨y1, y2, h1, h2, rfl⟩ := zipT_get hx
        obtain ⟨p, hp, rfl⟩ := map_get h1
        obtain ⟨v, hv, rfl⟩ := map_get h2
        have hk : k < pts.length := (List.getElem?_eq_some_iff.mp hp).1
        have ep := gv_of hp
        have ev := gv_of hv
        refine ⟨E (some (vT p)) (some (vT v)) z10 z11, by simp [E], ?_⟩
        have a1 := kt p (gv pts 0) M'
        have a2 := ku (vsub p (gv pts 0)) M'
        have a3 := kt v (gv mo 0) M'
        rw [show vsub p (gv pts 0) = dP pts k 0 by unfold dP; rw [ep]] at a1 a2
        rw [show vsub v (gv mo 0) = dP mo k 0 by unfold dP; rw [ev]] at a3
        have c1 := bin_mul (sS.mulOk (V.dP k 0).1 (by unfold KF; decide)) false M'
        have c2 := bin_mul (sS.mulOk (V.dP k 0).2 (by unfold KF; decide)) false M'
        have c3 := bin_mul (sW.mulOk (trn_sm (P.dP k 0)).1 (by unfold KF; decide)) false M'
        have c4 := bin_mul (sW.mulOk (trn_sm (P.dP k 0)).2 (by unfold KF; decide)) false M'
        have X0 := x0 M'
        have M0 := m0 M'
        generalize hd : dP pts k 0 = d at *
        generalize hw : dP mo k 0 = w at *
        by_cases h : S * w.1 = W * (trn d).1 ∧ S * w.2 = W * (trn d).2
        · refine .inl ⟨E (some (vT p)) (some (vT v)) (some (vT (trn d))) (some (vT w)), M', .inl ?_, rfl, ⟨_, _, _, _, rfl⟩, fun k' hk' => ?_⟩
          · simp [E, X0, M0, lt, a1, lu, a2, a3, c1, c2, c3, c4, h.1, h.2]
          · rcases Nat.lt_succ_iff_lt_or_eq.mp hk' with h' | h'
            · exact hj k' h'
            · rw [h', hd, hw]; exact h
        · refine .inr (.inl ⟨.bl false, M', ?_, .inl ⟨rfl, fun q => h ?_⟩⟩)
          · by_cases hA : S * w.1 = W * (trn d).1
            · have hB : ¬S * w.2 = W * (trn d).2 := fun e => h ⟨hA, e⟩
              simp [E, X0, M0, lt, a1, lu, a2, a3, c1, c2, c3, c4, hA, hB]
            · simp [E, X0, M0, lt, a1, lu, a2, a3, c1, c2, c3, c4, hA]
          · have := R.mp q k hk
            rw [hd, hw] at this
            exact this) (fun σ M' ⟨hM, ⟨z8, z9, z10, z11, hz⟩, hj⟩ => by
        subst hM; subst hz
        refine .inr ⟨z8, z9, z10, z11, rfl, R.mpr fun k hk => hj k ?_⟩
        rw [zipT_len]; simp; omega)
    have e2' : F2 [vsT pts] M = some (.tup [.int 0, nT c], M) := e2
    have X0 := x0 M
    have M0 := m0 M
    have d1 : (gv mo c).1 - (gv mo 0).1 = (dP mo c 0).1 := rfl
    have d2 : (gv mo c).2 - (gv mo 0).2 = (dP mo c 0).2 := rfl
    have hS : (dP pts c 0).1 * (dP pts c 0).1 + (dP pts c 0).2 * (dP pts c 0).2 = S := rfl
    have hW : (trn (dP pts c 0)).1 * (dP mo c 0).1 + (trn (dP pts c 0)).2 * (dP mo c 0).2 = W := rfl
    simp only [E] at hfr q
    have zz := i_zip2z (G := G) (a := .var 0 "points") (b := .var 1 "motion")
    generalize hXX : zipT (pts.map vT) (mo.map vT) = XX at *
    generalize dP pts c 0 = d at *
    generalize dP mo c 0 = w at *
    generalize S = S' at *
    generalize W = W' at *
    rcases q with ⟨rfl, q⟩ | ⟨z8, z9, z10, z11, rfl, q⟩
    · refine ⟨false, run_same rfl rfl rfl ?_, by simp [q]⟩
      simp [Lib.is_rigid, startE, l2, e2', lt, t1, lu, u1, X0, M0, xc, mc, b1, b2, d1, d2, b3, b4, hS, hW, zz, hXX, hfr]
    · refine ⟨true, run_same rfl rfl rfl ?_, by simp [q]⟩
      simp [Lib.is_rigid, startE, l2, e2', lt, t1, lu, u1, X0, M0, xc, mc, b1, b2, d1, d2, b3, b4, hS, hW, zz, hXX, hfr]
/-! ### the law's word -/
def prT (q : Int × Int) : T := .tup [.int q.1, .int q.2]
def prV (pts mo : List Vec) (i j : Nat) : Int × Int := (crs (dP pts i j) (dP mo i j), dotv (dP pts i j) (dP pts i j))
def IsLRigid (F : Fn) : Prop := ∀ (pts mo : List Vec) (n a : Nat) (M : Mem), MW pts n → MW mo n → n < 1000 → M[a]? = some (.lst (mo.map vT)) → ∃ b, F [vsT pts, .obj a] M = some (.bl b, M) ∧ (b = true ↔ Rigid pts mo)
theorem ix_ov {mo : List Vec} {n k a : Nat} {M : Mem} (V : MW mo n) (h : k < n) (ha : M[a]? = some (.lst (mo.map vT))) : ixT (.obj a) (nT k) M = some (vT (gv mo k)) := by
  unfold nT
  rw [ix_obj ha, atI_n, List.getElem?_map]
  have : mo[k]? = some (gv mo k) := by
    unfold gv; rw [List.getD_eq_getElem?_getD, List.getElem?_eq_getElem (by rw [V.ml]; exact h)]; rfl
  rw [this]; rfl
theorem sp_lrigid : IsLRigid (runD G Lib._law_rigid) := by
  intro pts mo n a M P V hn ha
  have pl := P.ml
  have hal : a < M.length := (List.getElem?_eq_some_iff.mp ha).1
  have get_a : ∀ l : List (Int × Int), (M ++ [O.lst (l.map prT)])[a]? = some (.lst (mo.map vT)) := fun l => by rw [List.getElem?_append_left hal]; exact ha
  -- the pairs so far
  let In : List (Int × Int) → Nat → Nat → Prop := fun l i j => l.length ≤ 1000 * i + j ∧ ∀ q, q ∈ l ↔ ∃ c d, d < c ∧ (c < i ∨ c = i ∧ d < j) ∧ q = prV pts mo c d
  let Ok : Nat → Nat → Prop := fun i j => ∀ c d, d < c → (c < i ∨ c = i ∧ d < j) → RigP pts mo c d
  let E : Option T → Option T → Option T → Option T → En := fun z3 z4 z5 z6 => [some (vsT pts), some (.obj a), some (.obj M.length), z3, z4, z5, z6, none, none, none, none]
  let inner : List MS := [
      .set 5 "_law_d" (.tup (.cons (.bin .Sub false (.ix (.ix (.var 0 "_law_points_here") (.var 3 "_law_i")) (.int 0)) (.ix (.ix (.var 0 "_law_points_here") (.var 4 "_law_j")) (.int 0))) (.cons (.bin .Sub false (.ix (.ix (.var 0 "_law_points_here") (.var 3 "_law_i")) (.int 1)) (.ix (.ix (.var 0 "_law_points_here") (.var 4 "_law_j")) (.int 1))) .nil))),
      .set 6 "_law_w" (.tup (.cons (.bin .Sub false (.ix (.ix (.var 1 "_law_motion") (.var 3 "_law_i")) (.int 0)) (.ix (.ix (.var 1 "_law_motion") (.var 4 "_law_j")) (.int 0))) (.cons (.bin .Sub false (.ix (.ix (.var 1 "_law_motion") (.var 3 "_law_i")) (.int 1)) (.ix (.ix (.var 1 "_law_motion") (.var 4 "_law_j")) (.int 1))) .nil))),
      .ite (.or (.cmp .NotEq (.bin .Add false (.bin .Mult false (.ix (.var 5 "_law_d") (.int 0)) (.ix (.var 6 "_law_w") (.int 0))) (.bin .Mult false (.ix (.var 5 "_law_d") (.int 1)) (.ix (.var 6 "_law_w") (.int 1)))) (.int 0)) (.one (.and (.cmp .Eq (.var 5 "_law_d") (.tup (.cons (.int 0) (.cons (.int 0) .nil)))) (.one (.cmp .NotEq (.var 6 "_law_w") (.tup (.cons (.int 0) (.cons (.int 0) .nil)))))))) [
        .ret (.bl false)] [],
      .ex (.bm .append (.var 2 "_law_pairs") (.cons (.tup (.cons (.bin .Sub false (.bin .Mult false (.ix (.var 5 "_law_d") (.int 0)) (.ix (.var 6 "_law_w") (.int 1))) (.bin .Mult false (.ix (.var 5 "_law_d") (.int 1)) (.ix (.var 6 "_law_w") (.int 0)))) (.cons (.bin .Add false (.bin .Mult false (.ix (.var 5 "_law_d") (.int 0)) (.ix (.var 5 "_law_d") (.int 0))) (.bin .Mult false (.ix (.var 5 "_law_d") (.int 1)) (.ix (.var 5 "_law_d") (.int 1)))) .nil))) .nil))]
  have hin : ∀ (i : Nat) (l : List (Int × Int)) (z4 z5 z6 : Option T), i < n → In l i 0 → Ok i 0 → ∃ r, fr G (.nm 4 "_law_j") inner [] (rngL 0 (i : Int)) (E (some (nT i)) z4 z5 z6) (M ++ [.lst (l.map prT)]) = some r ∧
      ((∃ M1, r = .rt (.bl false) (M ++ M1) ∧ ¬Rigid pts mo) ∨ (∃ z4 z5 z6 l', r = .nx (E (some (nT i)) z4 z5 z6) (M ++ [.lst (l'.map prT)]) ∧ In l' i i ∧ Ok i i)) := by
    intro i l z4 z5 z6 hi hI hO
    refine fr_inv2 (G := G) (fun j σ M' => ∃ l', M' = M ++ [.lst (l'.map prT)] ∧ (∃ z4 z5 z6, σ = E (some (nT i)) z4 z5 z6) ∧ In l' i j ∧ Ok i j) _
      ⟨l, rfl, ⟨_, _, _, rfl⟩, hI, hO⟩ (fun _ _ _ _ => by simp) (fun j x σ M' hx ⟨l', hM, ⟨z4, z5, z6, hz⟩, hI, hO⟩ => ?_) (fun σ M' ⟨l', hM, ⟨z4, z5, z6, hz⟩, hI, hO⟩ => ?_)
    · subst hz
      obtain ⟨hj, rfl⟩ := rng_get hx
      refine ⟨_, asg_nm .., ?_⟩
      have x1 := P.gl hi M'
      have x2 := P.gl (show j < n by omega) M'
      have ga : M'[a]? = some (.lst (mo.map vT)) := by rw [hM]; exact get_a l'
      have y1 := ix_ov V hi ga
      have y2 := ix_ov V (show j < n by omega) ga
      have e1 : (gv pts i).1 - (gv pts j).1 = (dP pts i j).1 := rfl
      have e2 : (gv pts i).2 - (gv pts j).2 = (dP pts i j).2 := rfl
      have e3 : (gv mo i).1 - (gv mo j).1 = (dP mo i j).1 := rfl
      have e4 : (gv mo i).2 - (gv mo j).2 = (dP mo i j).2 := rfl
      have sd := P.dP i j
      have sw := V.dP i j
      have hR : RigP pts mo i j ↔ (dP pts i j).1 * (dP mo i j).1 + (dP pts i j).2 * (dP mo i j).2 = 0 ∧ (dP pts i j = (0, 0) → dP mo i j = (0, 0)) := Iff.rfl
      have hpr : prV pts mo i j = ((dP pts i j).1 * (dP mo i j).2 - (dP pts i j).2 * (dP mo i j).1, (dP pts i j).1 * (dP pts i j).1 + (dP pts i j).2 * (dP pts i j).2) := rfl
      generalize hd : dP pts i j = d at *
      generalize hw : dP mo i j = w at *
      have b1 := bin_mul (sd.1.mulOk sw.1 (by unfold KF; decide)) false M'
      have b2 := bin_mul (sd.2.mulOk sw.2 (by unfold KF; decide)) false M'
      have b3 := bin_mul (sd.1.mulOk sw.2 (by unfold KF; decide)) false M'
      have b4 := bin_mul (sd.2.mulOk sw.1 (by unfold KF; decide)) false M'
      have b5 := bin_mul (sd.1.mulOk sd.1 (by unfold KF; decide)) false M'
      have b6 := bin_mul (sd.2.mulOk sd.2 (by unfold KF; decide)) false M'
      have td : T.tup [.int d.1, .int d.2] = vT d := rfl
      have tw : T.tup [.int w.1, .int w.2] = vT w := rfl
      have c1 : cmpT .Eq (vT d) (vT (0, 0)) M' = some (decide (d = (0, 0))) := eqv_v d _ M'
      have c2 := cmp_ne_v w (0, 0) M'
      have at_ : M'[M.length]? = some (.lst (l'.map prT)) := by rw [hM]; exact lst_last M _
      have lf := lof_obj' at_
      have ap := bm_append (x := prT (prV pts mo i j)) at_ (by have := hI.1; simp; omega)
      have ap2 : M'.set M.length (.lst (l'.map prT ++ [prT (prV pts mo i j)])) = M ++ [.lst ((l' ++ [prV pts mo i j]).map prT)] := by rw [hM, lst_set, List.map_append]; rfl
      rw [ap2] at ap
      by_cases h : RigP pts mo i j
      · obtain ⟨h1, h2⟩ := hR.mp h
        refine .inl ⟨E (some (nT i)) (some (nT j)) (some (vT d)) (some (vT w)), M ++ [.lst ((l' ++ [prV pts mo i j]).map prT)], .inl ?_, l' ++ [prV pts mo i j], rfl, ⟨_, _, _, rfl⟩, ⟨by have := hI.1; simp; omega, fun q => ?_⟩, fun c d' hcd hlt => ?_⟩
        · have tq : prT (prV pts mo i j) = T.tup [.int (d.1 * w.2 - d.2 * w.1), .int (d.1 * d.1 + d.2 * d.2)] := by rw [hpr]; rfl
          generalize (l' ++ [prV pts mo i j]).map prT = RR at *
          rw [tq] at ap
          by_cases hz : d = (0, 0)
          · have hw0 := h2 hz
            have c1' : cmpT .Eq (vT d) (vT (0, 0)) M' = some true := by rw [c1]; simp [hz]
            have c2' : cmpT .NotEq (vT w) (vT (0, 0)) M' = some false := by rw [c2]; simp [hw0]
            simp [inner, E, x1, x2, y1, y2, e1, e2, e3, e4, b1, b2, h1, td, tw, vT_zero, c1', c2', lf, b3, b4, b5, b6, ap]
          · simp [inner, E, x1, x2, y1, y2, e1, e2, e3, e4, b1, b2, h1, td, tw, vT_zero, c1, hz, lf, b3, b4, b5, b6, ap]
        · rw [List.mem_append, hI.2, List.mem_singleton]
          constructor
          · rintro (⟨c, d', h1, h2, h3⟩ | rfl)
            · exact ⟨c, d', h1, by omega, h3⟩
            · exact ⟨i, j, by omega, by omega, rfl⟩
          · rintro ⟨c, d', h1, h2, h3⟩
            by_cases hcj : c = i ∧ d' = j
            · obtain ⟨rfl, rfl⟩ := hcj; exact .inr h3
            · exact .inl ⟨c, d', h1, by omega, h3⟩
        · by_cases hcj : c = i ∧ d' = j
          · obtain ⟨rfl, rfl⟩ := hcj; exact h
          · exact hO c d' hcd (by omega)
      · refine .inr (.inl ⟨.bl false, M', ?_, .inl ⟨_, by rw [hM], fun q => h (q.1 i j (by omega) (by omega))⟩⟩)
        have h' : ¬(d.1 * w.1 + d.2 * w.2 = 0 ∧ (d = (0, 0) → w = (0, 0))) := fun q => h (hR.mpr q)
        by_cases h1 : d.1 * w.1 + d.2 * w.2 = 0
        · have hz : d = (0, 0) := Classical.byContradiction fun e => h' ⟨h1, fun q => absurd q e⟩
          have hw0 : ¬w = (0, 0) := fun e => h' ⟨h1, fun _ => e⟩
          have c1' : cmpT .Eq (vT d) (vT (0, 0)) M' = some true := by rw [c1]; simp [hz]
          have c2' : cmpT .NotEq (vT w) (vT (0, 0)) M' = some true := by rw [c2]; simp [hw0]
          simp [inner, E, x1, x2, y1, y2, e1, e2, e3, e4, b1, b2, h1, td, tw, vT_zero, c1', c2']
        · simp [inner, E, x1, x2, y1, y2, e1, e2, e3, e4, b1, b2, h1, td, tw]
    · subst hz
      rw [rngL_len] at hI hO
      have e : ((i : Int) - 0).toNat = i := by omega
      rw [e] at hI hO
      exact .inr ⟨z4, z5, z6, l', by rw [hM], hI, hO⟩
  obtain ⟨r, hfr, q⟩ := fr_inv2 (G := G) (tg := .nm 3 "_law_i") (b := [.for (.nm 4 "_law_j") (.rng1 (.var 3 "_law_i")) inner]) (g := []) (xs := rngL 0 (n : Int)) (σ := E none none none none) (M := M ++ [.lst []])
    (fun i σ M' => ∃ l', M' = M ++ [.lst (l'.map prT)] ∧ (∃ z3 z4 z5 z6, σ = E z3 z4 z5 z6) ∧ In l' i 0 ∧ Ok i 0)
    (fun r => (∃ M1, r = .rt (.bl false) (M ++ M1) ∧ ¬Rigid pts mo) ∨ (∃ z3 z4 z5 z6 l', r = .nx (E z3 z4 z5 z6) (M ++ [.lst (l'.map prT)]) ∧ In l' n 0 ∧ Ok n 0))
    ⟨[], rfl, ⟨_, _, _, _, rfl⟩, ⟨by simp, fun q => by simp⟩, fun c d h1 h2 => by omega⟩ (fun _ _ _ _ => by simp) (fun i x σ M' hx ⟨l', hM, ⟨z3, z4, z5, z6, hz⟩, hI, hO⟩ => by
      subst hz
      obtain ⟨hi, rfl⟩ := rng_get hx
      refine ⟨_, asg_nm .., ?_⟩
      have rg := rg1_n (n := i) (by omega)
      obtain ⟨r, hfr, q⟩ := hin i l' z4 z5 z6 hi hI hO
      rw [← hM] at hfr
      rcases q with ⟨M1, rfl, q⟩ | ⟨z4', z5', z6', l2, rfl, hI2, hO2⟩
      · refine .inr (.inl ⟨.bl false, M ++ M1, ?_, .inl ⟨M1, rfl, q⟩⟩)
        simp only [E] at hfr
        generalize inner = inn at *
        simp [E, rg, hfr]
      · refine .inl ⟨E (some (nT i)) z4' z5' z6', M ++ [.lst (l2.map prT)], .inl ?_, l2, rfl, ⟨_, _, _, _, rfl⟩, ⟨by have := hI2.1; omega, fun q => ?_⟩, fun c d h1 h2 => hO2 c d h1 (by omega)⟩
        · simp only [E] at hfr
          generalize inner = inn at *
          simp [E, rg, hfr]
        · rw [hI2.2]
          exact ⟨fun ⟨c, d, h1, h2, h3⟩ => ⟨c, d, h1, by omega, h3⟩, fun ⟨c, d, h1, h2, h3⟩ => ⟨c, d, h1, by omega, h3⟩⟩) (fun σ M' ⟨l', hM, ⟨z3, z4, z5, z6, hz⟩, hI, hO⟩ => by
      subst hz
      rw [rngL_len] at hI hO
      have e : ((n : Int) - 0).toNat = n := by omega
      rw [e] at hI hO
      exact .inr ⟨z3, z4, z5, z6, l', by rw [hM], hI, hO⟩)
  have ln : ∀ M' : Mem, biT .len [vsT pts] M' = some (nT n, M') := fun M' => by rw [len_sof (sof_vs M' pts), List.length_map, pl]
  have rg := rg1_n (n := n) (by omega)
  rcases q with ⟨M1, rfl, q⟩ | ⟨z3, z4, z5, z6, l, rfl, hI, hO⟩
  · refine ⟨false, run_pure (M1 := M1) rfl rfl rfl ?_, by simp [q]⟩
    simp only [E, inner] at hfr
    simp [Lib._law_rigid, startE, ln, rg, hfr]
  · -- all pairs against all pairs
    have hmem : ∀ q ∈ l, Sm (2 * KF + 3) q.1 ∧ Sm (2 * KF + 3) q.2 := fun q hq => by
      obtain ⟨c, d, _, _, rfl⟩ := (hI.2 q).mp hq
      have sd := P.dP c d
      have sw := V.dP c d
      exact ⟨(Sm.sub (sd.1.mul sw.2) (sd.2.mul sw.1)).mono (by unfold KF; decide), (dot_sm sd sd).mono (by unfold KF; decide)⟩
    have hRig : Rigid pts mo ↔ ∀ x ∈ l, ∀ y ∈ l, x.1 * y.2 = y.1 * x.2 := by
      constructor
      · intro R x hx y hy
        obtain ⟨c, d, h1, h2, rfl⟩ := (hI.2 x).mp hx
        obtain ⟨c', d', h3, h4, rfl⟩ := (hI.2 y).mp hy
        exact R.2 c d c' d' h1 (by omega) h3 (by omega)
      · intro H
        refine ⟨fun i j h1 h2 => hO i j h1 (by omega), fun i j a b h1 h2 h3 h4 => ?_⟩
        exact H _ ((hI.2 _).mpr ⟨i, j, h1, by omega, rfl⟩) _ ((hI.2 _).mpr ⟨a, b, h3, by omega, rfl⟩)
    let M2 : Mem := M ++ [.lst (l.map prT)]
    have gM : M2[M.length]? = some (.lst (l.map prT)) := lst_last M _
    have sM : sof M2 (.obj M.length) = some (l.map prT) := sof_obj gM
    let E2 : Option T → Option T → Option T → Option T → En := fun z7 z8 z9 z10 => [some (vsT pts), some (.obj a), some (.obj M.length), z3, z4, z5, z6, z7, z8, z9, z10]
    let body2 : List MS := [.ite (.cmp .NotEq (.bin .Mult false (.var 7 "_law_spin") (.var 10 "_law_less_here")) (.bin .Mult false (.var 9 "_law_other") (.var 8 "_law_size"))) [
        .ret (.bl false)] []]
    have hin2 : ∀ (x : Int × Int) (z9 z10 : Option T), x ∈ l → ∃ r, fr G (.tp (.cons (.nm 9 "_law_other") (.cons (.nm 10 "_law_less_here") .nil))) body2 [(M.length, l.map prT)] (l.map prT) (E2 (some (.int x.1)) (some (.int x.2)) z9 z10) M2 = some r ∧
        ((r = .rt (.bl false) M2 ∧ ¬Rigid pts mo) ∨ (∃ z9 z10, r = .nx (E2 (some (.int x.1)) (some (.int x.2)) z9 z10) M2 ∧ ∀ y ∈ l, x.1 * y.2 = y.1 * x.2)) := by
      intro x z9 z10 hx
      refine fr_inv2 (G := G) (fun j σ M' => M' = M2 ∧ (∃ z9 z10, σ = E2 (some (.int x.1)) (some (.int x.2)) z9 z10) ∧ ∀ k y, k < j → l[k]? = some y → x.1 * y.2 = y.1 * x.2) _
        ⟨rfl, ⟨_, _, rfl⟩, fun k y h => by omega⟩ (fun _ σ M' h => by rw [h.1]; exact grd_at gM) (fun j t σ M' ht ⟨hM, ⟨z9, z10, hz⟩, hj⟩ => ?_) (fun σ M' ⟨hM, ⟨z9, z10, hz⟩, hj⟩ => ?_)
      · subst hM; subst hz
        obtain ⟨y, hy, rfl⟩ := map_get ht
        have hyl := List.mem_of_getElem? hy
        refine ⟨E2 (some (.int x.1)) (some (.int x.2)) (some (.int y.1)) (some (.int y.2)), by simp [prT, E2], ?_⟩
        obtain ⟨s1, s2⟩ := hmem x hx
        obtain ⟨s3, s4⟩ := hmem y hyl
        have b1 := bin_mul (s1.mulOk s4 (by unfold KF; decide)) false M2
        have b2 := bin_mul (s3.mulOk s2 (by unfold KF; decide)) false M2
        by_cases h : x.1 * y.2 = y.1 * x.2
        · refine .inl ⟨E2 (some (.int x.1)) (some (.int x.2)) (some (.int y.1)) (some (.int y.2)), M2, .inl ?_, rfl, ⟨_, _, rfl⟩, fun k y' hk hy' => ?_⟩
          · generalize M2 = MM at *
            simp [body2, E2, b1, b2, h]
          · rcases Nat.lt_succ_iff_lt_or_eq.mp hk with h' | h'
            · exact hj k y' h' hy'
            · rw [h', hy] at hy'; rw [← Option.some.inj hy']; exact h
        · refine .inr (.inl ⟨.bl false, M2, ?_, .inl ⟨rfl, fun q => h (hRig.mp q x hx y hyl)⟩⟩)
          generalize M2 = MM at *
          simp [body2, E2, b1, b2, h]
      · subst hM; subst hz
        refine .inr ⟨z9, z10, rfl, fun y hy => ?_⟩
        obtain ⟨k, hk, rfl⟩ := List.getElem_of_mem hy
        exact hj k _ (by rw [List.length_map]; exact hk) (List.getElem?_eq_getElem hk)
    obtain ⟨r2, hfr2, q2⟩ := fr_inv2 (G := G) (tg := .tp (.cons (.nm 7 "_law_spin") (.cons (.nm 8 "_law_size") .nil))) (b := [.for (.tp (.cons (.nm 9 "_law_other") (.cons (.nm 10 "_law_less_here") .nil))) (.over (.var 2 "_law_pairs")) body2]) (g := [(M.length, l.map prT)]) (xs := l.map prT) (σ := E2 none none none none) (M := M2)
      (fun j σ M' => M' = M2 ∧ (∃ z7 z8 z9 z10, σ = E2 z7 z8 z9 z10) ∧ ∀ k x, k < j → l[k]? = some x → ∀ y ∈ l, x.1 * y.2 = y.1 * x.2)
      (fun r => (r = .rt (.bl false) M2 ∧ ¬Rigid pts mo) ∨ (∃ z7 z8 z9 z10, r = .nx (E2 z7 z8 z9 z10) M2 ∧ Rigid pts mo))
      ⟨rfl, ⟨_, _, _, _, rfl⟩, fun k y h => by omega⟩ (fun _ σ M' h => by rw [h.1]; exact grd_at gM) (fun j t σ M' ht ⟨hM, ⟨z7, z8, z9, z10, hz⟩, hj⟩ => by
        subst hM; subst hz
        obtain ⟨x, hx, rfl⟩ := map_get ht
        have hxl := List.mem_of_getElem? hx
        refine ⟨E2 (some (.int x.1)) (some (.int x.2)) z9 z10, by simp [prT, E2], ?_⟩
        obtain ⟨r, hf, q⟩ := hin2 x z9 z10 hxl
        have go : grdOf (.obj M.length) (l.map prT) = [(M.length, l.map prT)] := rfl
        simp only [E2] at hf
        generalize body2 = bb at *
        generalize hMM : M2 = MM at *
        generalize l.map prT = LL at *
        rcases q with ⟨rfl, q⟩ | ⟨z9', z10', rfl, q⟩
        · refine .inr (.inl ⟨.bl false, MM, ?_, .inl ⟨rfl, q⟩⟩)
          simp [E2, sM, go, hf]
        · refine .inl ⟨E2 (some (.int x.1)) (some (.int x.2)) z9' z10', MM, .inl ?_, rfl, ⟨_, _, _, _, rfl⟩, fun k y' hk hy' => ?_⟩
          · simp [E2, sM, go, hf]
          · rcases Nat.lt_succ_iff_lt_or_eq.mp hk with h' | h'
            · exact hj k y' h' hy'
            · rw [h', hx] at hy'; rw [← Option.some.inj hy']; exact q) (fun σ M' ⟨hM, ⟨z7, z8, z9, z10, hz⟩, hj⟩ => by
        subst hM; subst hz
        refine .inr ⟨z7, z8, z9, z10, rfl, hRig.mpr fun x hx => ?_⟩
        obtain ⟨k, hk, rfl⟩ := List.getElem_of_mem hx
        exact hj k _ (by rw [List.length_map]; exact hk) (List.getElem?_eq_getElem hk))
    have go : grdOf (.obj M.length) (l.map prT) = [(M.length, l.map prT)] := rfl
    have ln2 := ln M
    have h1 : exSs G (Lib._law_rigid.body.take 2) (startE Lib._law_rigid.N [vsT pts, .obj a]) M = some (.nx (E2 none none none none) M2) := by
      simp only [E, inner] at hfr
      generalize hMM : M ++ [O.lst (l.map prT)] = MM at *
      have e2 : M2 = MM := hMM
      simp [Lib._law_rigid, startE, ln, rg, hfr, E2, e2]
    have h2 : ∀ b, (r2 = .rt (.bl false) M2 ∧ b = false ∨ ∃ z7 z8 z9 z10, r2 = .nx (E2 z7 z8 z9 z10) M2 ∧ b = true) → exSs G (Lib._law_rigid.body.drop 2) (E2 none none none none) M2 = some (.rt (.bl b) M2) := by
      intro b hb
      simp only [E2, body2] at hfr2
      generalize hMM : M2 = MM at *
      generalize l.map prT = LL at *
      rcases hb with ⟨rfl, rfl⟩ | ⟨z7, z8, z9, z10, rfl, rfl⟩
      · simp [Lib._law_rigid, E2, sM, go, hfr2]
      · simp [Lib._law_rigid, E2, sM, go, hfr2]
    have join : ∀ b, exSs G (Lib._law_rigid.body.drop 2) (E2 none none none none) M2 = some (.rt (.bl b) M2) → exSs G Lib._law_rigid.body (startE Lib._law_rigid.N [vsT pts, .obj a]) M = some (.rt (.bl b) M2) := by
      intro b hb
      have sp : Lib._law_rigid.body = Lib._law_rigid.body.take 2 ++ Lib._law_rigid.body.drop 2 := (List.take_append_drop 2 _).symm
      rw [sp, xs_append, h1]
      exact hb
    rcases q2 with ⟨e, q⟩ | ⟨z7, z8, z9, z10, e, q⟩
    · exact ⟨false, run_pure (M1 := [.lst (l.map prT)]) rfl rfl rfl (join false (h2 false (.inl ⟨e, rfl⟩))), by simp [q]⟩
    · exact ⟨true, run_pure (M1 := [.lst (l.map prT)]) rfl rfl rfl (join true (h2 true (.inr ⟨_, _, _, _, e, rfl⟩))), by simp [q]⟩
end Mi
end L2

/-! Motions of numbers. -/
namespace L2
namespace Mi
open PySem PySem.Spec PyProof.Rows
variable {G : Sig}
abbrev NV := Rat × Rat
def nvT (p : NV) : T := .tup [ratT p.1, ratT p.2]
def nvsT (l : List NV) : T := .tup (l.map nvT)
def gn (l : List NV) (k : Nat) : NV := l.getD k (0, 0)
def nsub (p q : NV) : NV := (p.1 - q.1, p.2 - q.2)
def dotN (p : Vec) (q : NV) : Rat := (p.1 : Rat) * q.1 + (p.2 : Rat) * q.2
def groN (f : Fm) (k : Nat) (mo : List NV) : Rat := dotN (spanV f k) (nsub (gn mo (gm f k).i) (gn mo (gm f k).j))
def SqV (k : Nat) (p : NV) : Prop := Sq k p.1 ∧ Sq k p.2
structure NW (mo : List NV) (n K : Nat) : Prop where
  ml : mo.length = n
  sm : ∀ p ∈ mo, SqV K p
theorem nvT_pure (p : NV) : pureT (nvT p) = true := by simp [nvT, pureT, pureTs, ratT_pure]
theorem nvsT_pure (l : List NV) : pureT (nvsT l) = true := pure_map nvT_pure l
@[simp] theorem sof_nvs (M : Mem) (l : List NV) : sof M (nvsT l) = some (l.map nvT) := rfl
@[simp] theorem grdOf_nvs (l : List NV) (us : List T) : grdOf (nvsT l) us = [] := rfl
@[simp] theorem ix_n0 (p : NV) (M : Mem) : ixT (nvT p) (.int 0) M = some (ratT p.1) := by unfold nvT; rw [ix_tup, at_0]
@[simp] theorem ix_n1 (p : NV) (M : Mem) : ixT (nvT p) (.int 1) M = some (ratT p.2) := by unfold nvT; rw [ix_tup, at_1]
@[simp] theorem ix_r0 (q : Rat) (M : Mem) : ixT (ratT q) (.int 0) M = some (.int q.num) := by unfold ratT; rw [ix_tup, at_0]
@[simp] theorem ix_r1 (q : Rat) (M : Mem) : ixT (ratT q) (.int 1) M = some (.int (q.den : Int)) := by unfold ratT; rw [ix_tup, at_1]
@[simp] theorem isi_rat (q : Rat) (M : Mem) : isiT M "tuple" (ratT q) = some true := rfl
theorem ix_nvs {l : List NV} {k : Nat} (h : k < l.length) (M : Mem) : ixT (nvsT l) (nT k) M = some (nvT (gn l k)) := by
  unfold nvsT nT gn
  rw [ix_tup, atI_n, List.getElem?_map, List.getD_eq_getElem?_getD, List.getElem?_eq_getElem h]; rfl
theorem neg_rat (q : Rat) : T.tup [.int (-q.num), nT q.den] = ratT (-q) := rfl
theorem neg_rat' (q : Rat) : T.tup [.int (-q.num), .int (q.den : Int)] = ratT (-q) := rfl
theorem int_rat (i : Int) : T.tup [.int i, .int 1] = ratT (i : Rat) := rfl
theorem sqv_gn {l : List NV} {K : Nat} (hK : 0 < K) (h : ∀ p ∈ l, SqV K p) (i : Nat) : SqV K (gn l i) := by
  unfold gn
  rw [List.getD_eq_getElem?_getD]
  cases e : l[i]? with
  | none =>
    have z : Sq K 0 := ⟨sm_zero _, by show Sm K (1 : Int); unfold Sm; exact Nat.one_lt_two_pow (by omega)⟩
    exact ⟨z, z⟩
  | some p => exact h p (List.mem_of_getElem? e)
theorem SqV.sub {j k : Nat} {p q : NV} (h : SqV j p) (h' : SqV k q) : SqV (j + k + 1) (nsub p q) := ⟨h.1.sub h'.1, h.2.sub h'.2⟩
theorem SqV.mono {j k : Nat} {p : NV} (h : SqV j p) (hk : j ≤ k) : SqV k p := ⟨h.1.mono hk, h.2.mono hk⟩
theorem sm_sq {k : Nat} {x : Int} (h : Sm k x) (hk : 0 < k) : Sq k (x : Rat) := Sq.int h hk
def IsTakenN (F : Fn) : Prop := ∀ (p q : NV) (j : Nat) (M : Mem), SqV j p → SqV j q → j ≤ 20000000 → F [nvT p, nvT q] M = some (nvT (nsub p q), M)
theorem sp_takenN (h : Knows G "plus" (IsOpR (· + ·))) : IsTakenN (runD G Lib.taken_from) := by
  intro p q j M hp hq hj
  obtain ⟨F, l1, k1⟩ := h
  have e1 : F [ratT p.1, ratT (-q.1)] M = some (ratT (p.1 + -q.1), M) := k1 p.1 (-q.1) M (hp.1.mono (by omega)) (hq.1.neg.mono (by omega))
  have e2 : F [ratT p.2, ratT (-q.2)] M = some (ratT (p.2 + -q.2), M) := k1 p.2 (-q.2) M (hp.2.mono (by omega)) (hq.2.neg.mono (by omega))
  rw [← Rat.sub_eq_add_neg] at e1 e2
  refine run_same rfl (nvT_pure _) rfl ?_
  have : nvT (nsub p q) = .tup [ratT (p.1 - q.1), ratT (p.2 - q.2)] := rfl
  rw [this]
  have n1 := neg_rat q.1
  have n2 := neg_rat q.2
  simp [Lib.taken_from, startE, n1, n2, l1, e1, e2]
def IsProdN (F : Fn) : Prop := ∀ (p : Vec) (q : NV) (j k : Nat) (M : Mem), 0 < j → SmV j p → SqV k q → j + k ≤ 20000000 → F [vT p, nvT q] M = some (ratT (dotN p q), M)
theorem sp_prodN (hp : Knows G "plus" (IsOpR (· + ·))) (ht : Knows G "times" (IsOpR (· * ·))) : IsProdN (runD G Lib.product_2) := by
  intro p q j k M hj sp sq hl
  obtain ⟨F1, l1, k1⟩ := hp
  obtain ⟨F2, l2, k2⟩ := ht
  have a1 := k2 (p.1 : Rat) q.1 M ((sm_sq sp.1 hj).mono (by omega)) (sq.1.mono (by omega))
  have a2 := k2 (p.2 : Rat) q.2 M ((sm_sq sp.2 hj).mono (by omega)) (sq.2.mono (by omega))
  have a3 := k1 ((p.1 : Rat) * q.1) ((p.2 : Rat) * q.2) M (((sm_sq sp.1 hj).mul sq.1).mono (by omega)) (((sm_sq sp.2 hj).mul sq.2).mono (by omega))
  refine run_same rfl (ratT_pure _) rfl ?_
  unfold dotN
  have n1 := int_rat p.1
  have n2 := int_rat p.2
  simp [Lib.product_2, startE, n1, n2, l1, l2, a1, a2, a3]
theorem spanV_sm {f : Fm} {n : Nat} (W : FW f n) (k : Nat) : SmV (KF + 1) (spanV f k) := W.span k
def IsGrowN (F : Fn) : Prop := ∀ (f : Fm) (n k K : Nat) (mo : List NV) (M : Mem), FW f n → 0 < K → K ≤ 5000000 → NW mo n K → k < f.mbs.length → F [fmT f, nT k, nvsT mo] M = some (ratT (groN f k mo), M)
theorem dotN_sq {j k : Nat} {p : Vec} {q : NV} (hj : 0 < j) (sp : SmV j p) (sq : SqV k q) : Sq (2 * (j + k) + 1) (dotN p q) := (Sq.add ((sm_sq sp.1 hj).mul sq.1) ((sm_sq sp.2 hj).mul sq.2)).mono (by omega)
theorem groN_sq {f : Fm} {n k K : Nat} {mo : List NV} (W : FW f n) (hK : 0 < K) (V : NW mo n K) : Sq (4 * K + 2 * KF + 5) (groN f k mo) :=
  (dotN_sq (by omega) (W.span k) ((sqv_gn hK V.sm _).sub (sqv_gn hK V.sm _))).mono (by omega)
theorem sp_growN (hp : Knows G "product" IsProdN) (hs : Knows G "span" IsSpanV) (ht : Knows G "taken_from" IsTakenN) : IsGrowN (runD G Lib.growth) := by
  intro f n k K mo M W hK hK2 V hk
  obtain ⟨F1, l1, k1⟩ := hp
  obtain ⟨F2, l2, k2⟩ := hs
  obtain ⟨F3, l3, k3⟩ := ht
  obtain ⟨hi, hj⟩ := W.mj _ (gm_mem hk)
  have ml := V.ml
  have x1 := ix_mb hk M
  have s1 := sl_m2 (gm f k) M
  have x2 := ix_nvs (l := mo) (k := (gm f k).i) (by omega) M
  have x3 := ix_nvs (l := mo) (k := (gm f k).j) (by omega) M
  have e2 := k2 f n k M W hk
  have e3 := k3 (gn mo (gm f k).i) (gn mo (gm f k).j) K M (sqv_gn hK V.sm _) (sqv_gn hK V.sm _) (by omega)
  have e1 := k1 (spanV f k) (nsub (gn mo (gm f k).i) (gn mo (gm f k).j)) _ _ M (by omega) (W.span k) ((sqv_gn hK V.sm _).sub (sqv_gn hK V.sm _)) (by unfold KF; omega)
  refine run_same rfl (ratT_pure _) rfl ?_
  unfold groN
  generalize nsub (gn mo (gm f k).i) (gn mo (gm f k).j) = d at *
  have f1 := ix_f1 f M
  generalize T.tup (f.mbs.map mT) = MM at *
  simp [Lib.growth, startE, f1, x1, s1, x2, x3, l2, e2, l3, e3, l1, e1]
def IsTotal (F : Fn) : Prop := ∀ (t : T) (qs : List Rat) (K : Nat) (M : Mem), sof M t = some (qs.map ratT) → (∀ q ∈ qs, Sq K q) → (qs.length + 1) * (K + 1) ≤ 50000000 → F [t] M = some (ratT qs.sum, M)
theorem sp_total (hN : HasN G) (h : Knows G "plus" (IsOpR (· + ·))) : IsTotal (runD G Lib.total) := by
  intro t qs K M ht hq hL
  obtain ⟨F, l1, k1⟩ := h
  obtain ⟨σ', M', hr, hM, z2, hz, hin⟩ := fr_inv (G := G) (tg := .nm 2 "part") (b := [
    .set 1 "found" (.call "plus" (.cons (.var 1 "found") (.cons (.var 2 "part") .nil)))]) (g := grdOf t (qs.map ratT)) (xs := qs.map ratT) (σ := [some t, some (ratT 0), none]) (M := M)
    (fun i σ M' => M' = M ∧ ∃ z2, σ = [some t, some (ratT (qs.take i).sum), z2] ∧ (i ≤ qs.length → Sq (i * (K + 1) + 1) (qs.take i).sum))
    ⟨rfl, _, rfl, fun _ => by rw [List.take_zero]; exact ⟨sm_zero _, by show Sm _ (1 : Int); unfold Sm; exact Nat.one_lt_two_pow (by omega)⟩⟩ (fun i σ M' h => by rw [h.1]; exact sof_grd ht) (fun i x σ M' hx ⟨hM, z2, hz, hin⟩ => by
      subst hM; subst hz
      obtain ⟨q, hqi, rfl⟩ := map_get hx
      have hi := (List.getElem?_eq_some_iff.mp hqi).1
      have q1 := hq q (List.mem_of_getElem? hqi)
      have s1 := hin (by omega)
      have hle : i * (K + 1) ≤ (qs.length + 1) * (K + 1) := Nat.mul_le_mul_right _ (by omega)
      have hle2 : K + 1 ≤ (qs.length + 1) * (K + 1) := Nat.le_mul_of_pos_left _ (by omega)
      have e := k1 (qs.take i).sum q M' (s1.mono (by omega)) (q1.mono (by omega))
      have e' := sum_take qs i q hqi
      refine ⟨_, asg_nm .., [some t, some (ratT (qs.take (i + 1)).sum), some (ratT q)], M', .inl (by rw [e']; simp [l1, e]), rfl, _, rfl, fun _ => ?_⟩
      rw [e', Nat.succ_mul]
      exact (s1.add q1).mono (by omega))
  rw [hM] at hr
  subst hz
  rw [List.length_map, List.take_length] at hr
  refine run_same rfl (ratT_pure _) rfl ?_
  unfold HasN at hN
  simp [Lib.total, startE, hN, ht, hr]
def workN (lo : List Vec) (mo : List NV) : Rat := (List.zipWith dotN lo mo).sum
def IsWorkN (F : Fn) : Prop := ∀ (lo : List Vec) (mo : List NV) (n K : Nat) (M : Mem), lo.length = n → NW mo n K → 0 < n → n < 10 → 0 < K → K ≤ 1000000 → (∀ p ∈ lo, SmV 1000 p) → F [vsT lo, nvsT mo] M = some (ratT (workN lo mo), M)
theorem sp_workN (hp : Knows G "product" IsProdN) (ht : Knows G "total" IsTotal) : IsWorkN (runD G Lib.work) := by
  intro lo mo n K M hl V h0 hn hK hK2 sl
  obtain ⟨F1, l1, k1⟩ := hp
  obtain ⟨F2, l2, k2⟩ := ht
  let zs : List Rat := List.zipWith dotN lo mo
  have zl : zs.length = n := by simp [zs, hl, V.ml]
  have lc : lcr G (.tp (.cons (.nm 3 "force") (.cons (.nm 4 "velocity") .nil))) .nil (.call "product" (.cons (.var 3 "force") (.cons (.var 4 "velocity") .nil))) [some (vsT lo), some (nvsT mo), none, none, none] [] (zipT (lo.map vT) (mo.map nvT)) M = some (zs.map ratT, M) := by
    refine lcr_ix (by simp) (by simp [zipT_len, zs]) fun i x y hx hy => ?_
    obtain ⟨x1, x2, h1, h2, rfl⟩ := zipT_get hx
    obtain ⟨p, hp, rfl⟩ := map_get h1
    obtain ⟨q, hq, rfl⟩ := map_get h2
    obtain ⟨v, hv, rfl⟩ := map_get hy
    simp only [zs, List.getElem?_zipWith, hp, hq, Option.some.injEq] at hv
    subst hv
    have e := k1 p q _ _ M (by decide) (sl p (List.mem_of_getElem? hp)) (V.sm q (List.mem_of_getElem? hq)) (by omega)
    simp [stepL, l1, e]
  have zs_sq : ∀ q ∈ zs, Sq (2 * (1000 + K) + 1) q := fun q hq => by
    obtain ⟨i, hi, rfl⟩ := List.getElem_of_mem hq
    simp only [zs, List.getElem_zipWith]
    exact dotN_sq (by decide) (sl _ (List.getElem_mem ..)) (V.sm _ (List.getElem_mem ..))
  have e2 := k2 (.fl (zs.map ratT)) zs _ M rfl zs_sq (by
    have : (zs.length + 1) * (2 * (1000 + K) + 1 + 1) ≤ 10 * (2 * (1000 + K) + 1 + 1) := Nat.mul_le_mul_right _ (by omega)
    omega)
  have hs : zs.sum = workN lo mo := rfl
  refine run_same rfl (ratT_pure _) rfl ?_
  rw [← hs]
  have z16 : zs.length ≤ 16777216 := by omega
  have tr : truth M (.fl (zs.map ratT)) = some true := by
    rw [truth_sof (sof_fl M _)]
    cases hz : zs with
    | nil => rw [hz] at zl; simp at zl; omega
    | cons => rfl
  have x0 : atI (zs.map ratT) 0 = some (ratT (zs.getD 0 0)) := by
    have := atI_n (zs.map ratT) 0
    show atI _ ((0 : Nat) : Int) = _
    rw [this, List.getElem?_map, List.getD_eq_getElem?_getD, List.getElem?_eq_getElem (by omega)]; rfl
  simp only [Lib.work]
  generalize hR : zs.map ratT = R at *
  have R16 : R.length ≤ 16777216 := by rw [← hR, List.length_map]; exact z16
  simp [startE, wipeE, lc, R16, tr, x0, l2, e2]
end Mi
end L2

/-! Uses. -/
namespace L2
namespace Mi
open PySem PySem.Spec PyProof.Rows
variable {G : Sig}
def nz (o : Option Int) : Bool := !decide (o = some 0)
theorem cmp_ne_oT (o : Option Int) (M : Mem) : cmpT .NotEq (oT o) (.int 0) M = some (nz o) := by
  unfold nz
  cases o with
  | none => rfl
  | some x =>
    have : oT (some x) = .int x := rfl
    rw [this, cmp_ne]; simp
theorem InD.neg {D B : Nat} {q : Rat} (h : InD D B q) : InD D B (-q) := by
  obtain ⟨z, rfl, hz⟩ := h
  refine ⟨-z, ?_, by rw [Int.natAbs_neg]; exact hz⟩
  rw [Rat.intCast_neg]; grind
structure ND (mo : List NV) (n D B : Nat) : Prop where
  ml : mo.length = n
  sm : ∀ p ∈ mo, InD D B p.1 ∧ InD D B p.2
theorem ND.at {mo : List NV} {n D B : Nat} (V : ND mo n D B) (hD : 0 < D) (i : Nat) : InD D B (gn mo i).1 ∧ InD D B (gn mo i).2 := by
  unfold gn
  rw [List.getD_eq_getElem?_getD]
  cases e : mo[i]? with
  | none => exact ⟨InD.zero hD, InD.zero hD⟩
  | some p => exact V.sm p (List.mem_of_getElem? e)
def useR (f : Fm) (k : Nat) (g : Rat) : Rat := if 0 < g ∧ nz (gm f k).pull = true then g else if g < 0 ∧ nz (gm f k).push = true then -g else 0
def useN (f : Fm) (k : Nat) (mo : List NV) : Rat := useR f k (groN f k mo)
def useV (f : Fm) (k : Nat) (mo : List Vec) : Int := if 0 < gro f k mo ∧ nz (gm f k).pull = true then gro f k mo else if gro f k mo < 0 ∧ nz (gm f k).push = true then -gro f k mo else 0
def IsUseV (F : Fn) : Prop := ∀ (f : Fm) (n k : Nat) (mo : List Vec) (M : Mem), FW f n → MW mo n → k < f.mbs.length → F [fmT f, nT k, vsT mo] M = some (.int (useV f k mo), M)
theorem mT_asg4 (m : Mb) : mT m = .tup [nT m.i, nT m.j, oT m.pull, oT m.push] := rfl
theorem sp_useV (hg : Knows G "growth" IsGrowV) : IsUseV (runD G Lib.use) := by
  intro f n k mo M W V hk
  obtain ⟨F, l1, k1⟩ := hg
  have e := k1 f n k mo M W V hk
  have f1 := ix_f1 f M
  have x1 := ix_mb hk M
  have c1 := cmp_ne_oT (gm f k).pull M
  have c2 := cmp_ne_oT (gm f k).push M
  have hu : useV f k mo = if 0 < gro f k mo ∧ nz (gm f k).pull = true then gro f k mo else if gro f k mo < 0 ∧ nz (gm f k).push = true then -gro f k mo else 0 := rfl
  refine run_same rfl rfl rfl ?_
  rw [hu]
  have m4 := mT_asg4 (gm f k)
  have ti : isiT M "tuple" (.int (gro f k mo)) = some false := rfl
  generalize mT (gm f k) = mm at *
  generalize T.tup (f.mbs.map mT) = MM at *
  generalize gro f k mo = g at *
  subst m4
  by_cases h1 : 0 < g
  · by_cases h2 : nz (gm f k).pull = false
    · have h3 : ¬g < 0 := by omega
      simp [Lib.use, startE, l1, e, f1, x1, ti, h1, c1, h2, h3]
    · simp [Lib.use, startE, l1, e, f1, x1, ti, h1, c1, h2]
  · by_cases h3 : g < 0
    · by_cases h4 : nz (gm f k).push = false
      · simp [Lib.use, startE, l1, e, f1, x1, ti, h1, c1, c2, h3, h4]
      · simp [Lib.use, startE, l1, e, f1, x1, ti, h1, c1, c2, h3, h4]
    · simp [Lib.use, startE, l1, e, f1, x1, ti, h1, c1, c2, h3]
theorem sgn_posI (a : Rat) : 0 < sgnR a ↔ 0 < a := by
  unfold sgnR
  by_cases h : 0 < a
  · have h2 : ¬a < 0 := by grind
    rw [if_pos h, if_neg h2]; simp [h]
  · by_cases h2 : a < 0
    · rw [if_neg h, if_pos h2]; simp [h]
    · rw [if_neg h, if_neg h2]; simp [h]
theorem sgn_negI (a : Rat) : sgnR a < 0 ↔ a < 0 := by
  unfold sgnR
  by_cases h : 0 < a
  · have h2 : ¬a < 0 := by grind
    rw [if_pos h, if_neg h2]; simp [h2]
  · by_cases h2 : a < 0
    · rw [if_neg h, if_pos h2]; simp [h2]
    · rw [if_neg h, if_neg h2]; simp [h2]
def IsUseN (F : Fn) : Prop := ∀ (f : Fm) (n k K : Nat) (mo : List NV) (M : Mem), FW f n → 0 < K → K ≤ 5000000 → NW mo n K → k < f.mbs.length → F [fmT f, nT k, nvsT mo] M = some (ratT (useN f k mo), M)
theorem sp_useN (hN : HasN G) (hg : Knows G "growth" IsGrowN) (hs : Knows G "sign" IsSign) : IsUseN (runD G Lib.use) := by
  intro f n k K mo M W hK hK2 V hk
  obtain ⟨F, l1, k1⟩ := hg
  obtain ⟨F2, l2, k2⟩ := hs
  have e := k1 f n k K mo M W hK hK2 V hk
  have e2 := k2 (groN f k mo) M
  have f1 := ix_f1 f M
  have x1 := ix_mb hk M
  have c1 := cmp_ne_oT (gm f k).pull M
  have c2 := cmp_ne_oT (gm f k).push M
  refine run_same rfl (ratT_pure _) rfl ?_
  unfold useN useR
  have m4 := mT_asg4 (gm f k)
  have p1 := sgn_posI (groN f k mo)
  have p2 := sgn_negI (groN f k mo)
  unfold HasN at hN
  generalize mT (gm f k) = mm at *
  generalize T.tup (f.mbs.map mT) = MM at *
  generalize groN f k mo = g at *
  generalize sgnR g = s at *
  subst m4
  have ng := neg_rat g
  by_cases h1 : 0 < g
  · have s1 := p1.mpr h1
    by_cases h2 : nz (gm f k).pull = false
    · have h3 : ¬g < 0 := by grind
      have s3 : ¬s < 0 := by omega
      simp [Lib.use, startE, l1, e, l2, e2, f1, x1, s1, s3, c1, h1, h2, h3, hN]
    · simp [Lib.use, startE, l1, e, l2, e2, f1, x1, s1, c1, h1, h2]
  · have s1 : ¬0 < s := fun h => h1 (p1.mp h)
    by_cases h3 : g < 0
    · have s3 := p2.mpr h3
      by_cases h4 : nz (gm f k).push = false
      · simp [Lib.use, startE, l1, e, l2, e2, f1, x1, s1, s3, c1, c2, h1, h3, h4, hN]
      · simp [Lib.use, startE, l1, e, l2, e2, f1, x1, s1, s3, c1, c2, h1, h3, h4, ng]
    · have s3 : ¬s < 0 := fun h => h3 (p2.mp h)
      simp [Lib.use, startE, l1, e, l2, e2, f1, x1, s1, s3, c1, c2, h1, h3, hN]
/-! ### the law's -/
theorem rng2L : rngL 0 2 = [T.int 0, .int 1] := by
  unfold rngL; rfl
theorem fr_two {i : Nat} {nm : Str} {b : List MS} {σ σ1 σ2 : En} {M : Mem} (h1 : exSs G b (σ.set i (some (.int 0))) M = some (.nx σ1 M)) (h2 : exSs G b (σ1.set i (some (.int 1))) M = some (.nx σ2 M)) : fr G (.nm i nm) b [] (rngL 0 2) σ M = some (.nx σ2 M) := by
  rw [rng2L, frn_nx σ1 M (by simp) h1, frn_nx σ2 M (by simp) h2, frn_nil]
@[simp] theorem rngOk02 : rngOk 0 2 := rngOk_small (by decide) (by decide) (by decide) (by decide)
theorem pw4 (k : Nat) : 2 ^ (k + 4) = 2 ^ (k + 2) * 4 := by
  rw [Nat.pow_add, Nat.pow_add]; omega
def IsLUse (F : Fn) : Prop := ∀ (f : Fm) (n k D B : Nat) (mo : List NV) (M : Mem), FW f n → ND mo n D B → LOk D (2 ^ (KF + 4) * B + 1) → k < f.mbs.length → F [fmT f, nT k, nvsT mo] M = some (ratT (useN f k mo), M)
theorem span_natAbs {f : Fm} {n : Nat} (W : FW f n) (k : Nat) : (spanV f k).1.natAbs ≤ 2 ^ (KF + 1) ∧ (spanV f k).2.natAbs ≤ 2 ^ (KF + 1) := by
  obtain ⟨h1, h2⟩ := W.span k
  unfold Sm at h1 h2
  exact ⟨Nat.le_of_lt h1, Nat.le_of_lt h2⟩
theorem one_sq {k : Nat} {q : Rat} {D : Nat} (h : InD D 0 q) : True := trivial
theorem lden {D B : Nat} (hL : LOk D B) {B1 : Nat} {q : Rat} (hq : InD D B1 q) (i : Int) : Sm 1900 (((i : Rat).den : Int) * (q.den : Int)) := by
  have h2 := (hq.sz hL.d0).2
  have hd : ((i : Rat).den : Int) = 1 := rfl
  rw [hd, Int.one_mul]
  have := hL.dd
  have := Nat.le_mul_of_pos_left D hL.d0
  unfold Sm
  simp only [Int.natAbs_natCast]
  omega
theorem sp_luse (hp : Knows G "_law_plus" (IsLOp (· + ·))) (ht : Knows G "_law_times" (IsLOp (· * ·))) : IsLUse (runD G Lib._law_use) := by
  intro f n k D B mo M W V hL hk
  obtain ⟨F1, l1, k1⟩ := hp
  obtain ⟨F2, l2, k2⟩ := ht
  obtain ⟨hi, hj⟩ := W.mj _ (gm_mem hk)
  have ml := V.ml
  have pl := W.pl
  have hD := hL.d0
  have f1 := ix_f1 f M
  have f0 := ix_f0 f M
  have x1 := ix_mb hk M
  have m4 := mT_asg4 (gm f k)
  have xi := ix_nvs (l := mo) (k := (gm f k).i) (by omega) M
  have xj := ix_nvs (l := mo) (k := (gm f k).j) (by omega) M
  have pi := ix_vs (l := f.pts) (k := (gm f k).i) (by omega) M
  have pj := ix_vs (l := f.pts) (k := (gm f k).j) (by omega) M
  obtain ⟨Vi1, Vi2⟩ := V.at hD (gm f k).i
  obtain ⟨Vj1, Vj2⟩ := V.at hD (gm f k).j
  obtain ⟨sp1, sp2⟩ := span_natAbs W k
  have s1 : (gv f.pts (gm f k).i).1 - (gv f.pts (gm f k).j).1 = (spanV f k).1 := rfl
  have s2 : (gv f.pts (gm f k).i).2 - (gv f.pts (gm f k).j).2 = (spanV f k).2 := rfl
  have hu : useN f k mo = useR f k (((spanV f k).1 : Rat) * ((gn mo (gm f k).i).1 - (gn mo (gm f k).j).1) + ((spanV f k).2 : Rat) * ((gn mo (gm f k).i).2 - (gn mo (gm f k).j).2)) := rfl
  have spq1 : Sq 60000000 ((spanV f k).1 : Rat) := (sm_sq (W.span k).1 (by decide)).mono (by unfold KF; decide)
  have spq2 : Sq 60000000 ((spanV f k).2 : Rat) := (sm_sq (W.span k).2 (by decide)).mono (by unfold KF; decide)
  generalize gn mo (gm f k).i = u at *
  generalize gn mo (gm f k).j = v at *
  generalize spanV f k = S at *
  have big : ∀ a b : Nat, a ≤ 2 ^ (KF + 4) → a * B ≤ 2 ^ (KF + 4) * B + 1 := fun a _ h => Nat.le_succ_of_le (Nat.mul_le_mul_right _ h)
  have p3 : 2 ^ (KF + 1) * 2 = 2 ^ (KF + 2) := by rw [← Nat.pow_succ]
  have p4 : 2 ^ (KF + 2) ≤ 2 ^ (KF + 4) := Nat.pow_le_pow_right (by decide) (by omega)
  have p5 : 2 ^ (KF + 2) + 2 ^ (KF + 2) ≤ 2 ^ (KF + 4) := by
    rw [pw4]; omega
  have p6 : 4 ≤ 2 ^ (KF + 4) := Nat.le_trans (show 4 ≤ 2 ^ 4 by decide) (Nat.pow_le_pow_right (by decide) (by omega))
  have d1 : InD D (B + B) (u.1 - v.1) := by rw [Rat.sub_eq_add_neg]; exact Vi1.add Vj1.neg
  have d2 : InD D (B + B) (u.2 - v.2) := by rw [Rat.sub_eq_add_neg]; exact Vi2.add Vj2.neg
  have t1 : InD D (2 ^ (KF + 2) * B) ((S.1 : Rat) * (u.1 - v.1)) := (d1.mul sp1).mono (by rw [show B + B = 2 * B by omega, ← Nat.mul_assoc, p3]; exact Nat.le_refl _)
  have t2 : InD D (2 ^ (KF + 2) * B) ((S.2 : Rat) * (u.2 - v.2)) := (d2.mul sp2).mono (by rw [show B + B = 2 * B by omega, ← Nat.mul_assoc, p3]; exact Nat.le_refl _)
  have g1 := t1.add t2
  have bB : B ≤ 2 ^ (KF + 4) * B + 1 := by have := big 1 0 (by omega); omega
  have bBB : B + B ≤ 2 ^ (KF + 4) * B + 1 := by have := big 2 0 (by omega); omega
  have bT : 2 ^ (KF + 2) * B ≤ 2 ^ (KF + 4) * B + 1 := big _ 0 p4
  have bG : 2 ^ (KF + 2) * B + 2 ^ (KF + 2) * B ≤ 2 ^ (KF + 4) * B + 1 := by rw [← Nat.add_mul]; exact big _ 0 p5
  generalize 2 ^ (KF + 4) * B + 1 = BB at *
  have a1 : F1 [ratT u.1, ratT (-v.1)] M = some (ratT (u.1 - v.1), M) := by
    rw [Rat.sub_eq_add_neg]
    exact k1 u.1 (-v.1) M (hL.sq (Vi1.mono bB)) (hL.sq (Vj1.neg.mono bB)) (hL.dens Vi1 Vj1.neg)
  have a2 : F1 [ratT u.2, ratT (-v.2)] M = some (ratT (u.2 - v.2), M) := by
    rw [Rat.sub_eq_add_neg]
    exact k1 u.2 (-v.2) M (hL.sq (Vi2.mono bB)) (hL.sq (Vj2.neg.mono bB)) (hL.dens Vi2 Vj2.neg)
  have b1 : F2 [ratT (S.1 : Rat), ratT (u.1 - v.1)] M = some (ratT ((S.1 : Rat) * (u.1 - v.1)), M) := k2 _ _ M spq1 (hL.sq (d1.mono bBB)) (lden hL d1 _)
  have b2 : F2 [ratT (S.2 : Rat), ratT (u.2 - v.2)] M = some (ratT ((S.2 : Rat) * (u.2 - v.2)), M) := k2 _ _ M spq2 (hL.sq (d2.mono bBB)) (lden hL d2 _)
  have c1 : F1 [ratT 0, ratT ((S.1 : Rat) * (u.1 - v.1))] M = some (ratT ((S.1 : Rat) * (u.1 - v.1)), M) := by
    have := k1 0 ((S.1 : Rat) * (u.1 - v.1)) M (hL.sq (InD.zero hD)) (hL.sq (t1.mono bT)) (hL.dens (InD.zero (B := 0) hD) t1)
    simp only [Rat.zero_add] at this
    exact this
  have c2 : F1 [ratT ((S.1 : Rat) * (u.1 - v.1)), ratT ((S.2 : Rat) * (u.2 - v.2))] M = some (ratT ((S.1 : Rat) * (u.1 - v.1) + (S.2 : Rat) * (u.2 - v.2)), M) := k1 _ _ M (hL.sq (t1.mono bT)) (hL.sq (t2.mono bT)) (hL.dens t1 t2)
  rw [hu]
  refine run_same rfl (ratT_pure _) rfl ?_
  have n1 := neg_rat v.1
  have n2 := neg_rat v.2
  have i1 := int_rat S.1
  have i2 := int_rat S.2
  let body : List MS := [
    .set 9 "_law_apart" (.call "_law_plus" (.cons (.ix (.ix (.var 2 "_law_motion") (.var 3 "_law_i")) (.var 8 "_law_which")) (.cons (.tup (.cons (.neg (.ix (.ix (.ix (.var 2 "_law_motion") (.var 4 "_law_j")) (.var 8 "_law_which")) (.int 0))) (.cons (.ix (.ix (.ix (.var 2 "_law_motion") (.var 4 "_law_j")) (.var 8 "_law_which")) (.int 1)) .nil))) .nil))),
    .set 7 "_law_grown" (.call "_law_plus" (.cons (.var 7 "_law_grown") (.cons (.call "_law_times" (.cons (.tup (.cons (.bin .Sub false (.ix (.ix (.ix (.var 0 "_law_frame_here") (.int 0)) (.var 3 "_law_i")) (.var 8 "_law_which")) (.ix (.ix (.ix (.var 0 "_law_frame_here") (.int 0)) (.var 4 "_law_j")) (.var 8 "_law_which"))) (.cons (.int 1) .nil))) (.cons (.var 9 "_law_apart") .nil))) .nil)))]
  let E : Rat → Option T → Option T → En := fun g z8 z9 => [some (fmT f), some (nT k), some (nvsT mo), some (nT (gm f k).i), some (nT (gm f k).j), some (oT (gm f k).pull), some (oT (gm f k).push), some (ratT g), z8, z9]
  have hfr : fr G (.nm 8 "_law_which") body [] (rngL 0 2) (E 0 none none) M = some (.nx (E ((S.1 : Rat) * (u.1 - v.1) + (S.2 : Rat) * (u.2 - v.2)) (some (.int 1)) (some (ratT (u.2 - v.2)))) M) := by
    refine fr_two (σ1 := E ((S.1 : Rat) * (u.1 - v.1)) (some (.int 0)) (some (ratT (u.1 - v.1)))) ?_ ?_
    · simp [body, E, xi, xj, n1, l1, a1, f0, pi, pj, s1, i1, l2, b1, c1]
    · simp [body, E, xi, xj, n2, l1, a2, f0, pi, pj, s2, i2, l2, b2, c2]
  have q1 := cmp_ne_oT (gm f k).pull M
  have q2 := cmp_ne_oT (gm f k).push M
  have z0 : T.tup [T.int 0, T.int 1] = ratT 0 := rfl
  simp only [body, E] at hfr
  unfold useR
  generalize (S.1 : Rat) * (u.1 - v.1) + (S.2 : Rat) * (u.2 - v.2) = g at *
  have pn := pos_num g
  have nn := neg_num g
  have ng := neg_rat g
  generalize mT (gm f k) = mm at *
  generalize T.tup (f.mbs.map mT) = MM at *
  subst m4
  by_cases h1 : 0 < g
  · have s1 := pn.mp h1
    by_cases h2 : nz (gm f k).pull = false
    · have h3 : ¬g < 0 := by grind
      have s3 : ¬g.num < 0 := by omega
      simp [Lib._law_use, startE, f1, x1, z0, hfr, s1, s3, h1, h2, h3, q1]
    · simp [Lib._law_use, startE, f1, x1, z0, hfr, s1, h1, h2, q1]
  · have s1 : ¬0 < g.num := fun h => h1 (pn.mpr h)
    by_cases h3 : g < 0
    · have s3 := nn.mp h3
      by_cases h4 : nz (gm f k).push = false
      · simp [Lib._law_use, startE, f1, x1, z0, hfr, s1, s3, h1, h3, h4, q1, q2]
      · simp [Lib._law_use, startE, f1, x1, z0, hfr, s1, s3, h1, h3, h4, q1, q2, ng]
    · have s3 : ¬g.num < 0 := fun h => h3 (nn.mpr h)
      simp [Lib._law_use, startE, f1, x1, z0, hfr, s1, s3, h1, h3, q1, q2]
def numd (mo : List Vec) : List NV := mo.map fun p => ((p.1 : Rat), (p.2 : Rat))
def IsLNumd (F : Fn) : Prop := ∀ (mo : List Vec) (M : Mem), mo.length ≤ 1000 → F [vsT mo] M = some (nvsT (numd mo), M)
theorem sp_lnumd : IsLNumd (runD G Lib._law_numbered) := by
  intro mo M hl
  have lc : lcr G (.nm 1 "_law_v") .nil (.tup (.cons (.tup (.cons (.ix (.var 1 "_law_v") (.int 0)) (.cons (.int 1) .nil))) (.cons (.tup (.cons (.ix (.var 1 "_law_v") (.int 1)) (.cons (.int 1) .nil))) .nil))) [some (vsT mo), none] [] (mo.map vT) M = some ((numd mo).map nvT, M) := by
    rw [lcr_of vT (fun p => nvT ((p.1 : Rat), (p.2 : Rat))) (by simp) (fun p hp => by
      have e : nvT ((p.1 : Rat), (p.2 : Rat)) = .tup [.tup [.int p.1, .int 1], .tup [.int p.2, .int 1]] := rfl
      simp [stepL, e])]
    simp only [numd, List.map_map]; rfl
  refine run_same rfl (nvsT_pure _) rfl ?_
  have nl : (numd mo).length ≤ 16777216 := by simp [numd]; omega
  have bt : biT .tuple [.fl ((numd mo).map nvT)] M = some (nvsT (numd mo), M) := rfl
  generalize hR : (numd mo).map nvT = R at *
  have Rl : R.length ≤ 16777216 := by rw [← hR, List.length_map]; exact nl
  generalize hQ : mo.map vT = Q at *
  have sv : sof M (vsT mo) = some Q := by rw [← hQ]; rfl
  simp [Lib._law_numbered, startE, wipeE, -sof_vs, sv, lc, Rl, bt]
theorem gn_numd (mo : List Vec) (k : Nat) : gn (numd mo) k = (((gv mo k).1 : Rat), ((gv mo k).2 : Rat)) := by
  unfold gn gv numd
  rw [List.getD_eq_getElem?_getD, List.getD_eq_getElem?_getD, List.getElem?_map]
  cases mo[k]? <;> rfl
theorem groN_numd (f : Fm) (k : Nat) (mo : List Vec) : groN f k (numd mo) = (gro f k mo : Rat) := by
  unfold groN gro dotN dotv nsub vsub
  rw [gn_numd, gn_numd]
  simp only
  rw [Rat.intCast_add, Rat.intCast_mul, Rat.intCast_mul, Rat.intCast_sub, Rat.intCast_sub]
theorem useN_numd (f : Fm) (k : Nat) (mo : List Vec) : useN f k (numd mo) = (useV f k mo : Rat) := by
  unfold useN useR useV
  rw [groN_numd]
  have h1 : (0 : Rat) < (gro f k mo : Rat) ↔ 0 < gro f k mo := Rat.intCast_pos
  have h2 : (gro f k mo : Rat) < 0 ↔ gro f k mo < 0 := Rat.intCast_neg_iff
  by_cases a : 0 < gro f k mo ∧ nz (gm f k).pull = true
  · rw [if_pos ⟨h1.mpr a.1, a.2⟩, if_pos a]
  · rw [if_neg (fun h => a ⟨h1.mp h.1, h.2⟩), if_neg a]
    by_cases b : gro f k mo < 0 ∧ nz (gm f k).push = true
    · rw [if_pos ⟨h2.mpr b.1, b.2⟩, if_pos b, Rat.intCast_neg]
    · rw [if_neg (fun h => b ⟨h2.mp h.1, h.2⟩), if_neg b]; rfl
end Mi
end L2

/-! What a law reckons of a growth of numbers, step by step. -/
namespace L2
namespace Mi
open PySem PySem.Spec PyProof.Rows
variable {G : Sig}
structure LG (F1 F2 : Fn) (S : Vec) (u v : NV) (D B : Nat) (M : Mem) : Prop where
  a1 : F1 [ratT u.1, ratT (-v.1)] M = some (ratT (u.1 - v.1), M)
  a2 : F1 [ratT u.2, ratT (-v.2)] M = some (ratT (u.2 - v.2), M)
  b1 : F2 [ratT (S.1 : Rat), ratT (u.1 - v.1)] M = some (ratT ((S.1 : Rat) * (u.1 - v.1)), M)
  b2 : F2 [ratT (S.2 : Rat), ratT (u.2 - v.2)] M = some (ratT ((S.2 : Rat) * (u.2 - v.2)), M)
  c1 : F1 [ratT 0, ratT ((S.1 : Rat) * (u.1 - v.1))] M = some (ratT ((S.1 : Rat) * (u.1 - v.1)), M)
  c2 : F1 [ratT ((S.1 : Rat) * (u.1 - v.1)), ratT ((S.2 : Rat) * (u.2 - v.2))] M = some (ratT ((S.1 : Rat) * (u.1 - v.1) + (S.2 : Rat) * (u.2 - v.2)), M)
  t : InD D (2 ^ (KF + 4) * B + 1) (dotN S (nsub u v))
theorem lgrow_facts {F1 F2 : Fn} {f : Fm} {n k D B : Nat} {mo : List NV} (k1 : IsLOp (· + ·) F1) (k2 : IsLOp (· * ·) F2) (W : FW f n) (V : ND mo n D B) (hL : LOk D (2 ^ (KF + 4) * B + 1)) (M : Mem) : LG F1 F2 (spanV f k) (gn mo (gm f k).i) (gn mo (gm f k).j) D B M := by
  have hD := hL.d0
  obtain ⟨Vi1, Vi2⟩ := V.at hD (gm f k).i
  obtain ⟨Vj1, Vj2⟩ := V.at hD (gm f k).j
  obtain ⟨sp1, sp2⟩ := span_natAbs W k
  have spq1 : Sq 60000000 ((spanV f k).1 : Rat) := (sm_sq (W.span k).1 (by decide)).mono (by unfold KF; decide)
  have spq2 : Sq 60000000 ((spanV f k).2 : Rat) := (sm_sq (W.span k).2 (by decide)).mono (by unfold KF; decide)
  generalize gn mo (gm f k).i = u at *
  generalize gn mo (gm f k).j = v at *
  generalize spanV f k = S at *
  have big : ∀ a b : Nat, a ≤ 2 ^ (KF + 4) → a * B ≤ 2 ^ (KF + 4) * B + 1 := fun a _ h => Nat.le_succ_of_le (Nat.mul_le_mul_right _ h)
  have p3 : 2 ^ (KF + 1) * 2 = 2 ^ (KF + 2) := by rw [← Nat.pow_succ]
  have p4 : 2 ^ (KF + 2) ≤ 2 ^ (KF + 4) := Nat.pow_le_pow_right (by decide) (by omega)
  have p5 : 2 ^ (KF + 2) + 2 ^ (KF + 2) ≤ 2 ^ (KF + 4) := by rw [pw4]; omega
  have p6 : 4 ≤ 2 ^ (KF + 4) := Nat.le_trans (show 4 ≤ 2 ^ 4 by decide) (Nat.pow_le_pow_right (by decide) (by omega))
  have d1 : InD D (B + B) (u.1 - v.1) := by rw [Rat.sub_eq_add_neg]; exact Vi1.add Vj1.neg
  have d2 : InD D (B + B) (u.2 - v.2) := by rw [Rat.sub_eq_add_neg]; exact Vi2.add Vj2.neg
  have t1 : InD D (2 ^ (KF + 2) * B) ((S.1 : Rat) * (u.1 - v.1)) := (d1.mul sp1).mono (by rw [show B + B = 2 * B by omega, ← Nat.mul_assoc, p3]; exact Nat.le_refl _)
  have t2 : InD D (2 ^ (KF + 2) * B) ((S.2 : Rat) * (u.2 - v.2)) := (d2.mul sp2).mono (by rw [show B + B = 2 * B by omega, ← Nat.mul_assoc, p3]; exact Nat.le_refl _)
  have g1 := t1.add t2
  have bB : B ≤ 2 ^ (KF + 4) * B + 1 := by have := big 1 0 (by omega); omega
  have bBB : B + B ≤ 2 ^ (KF + 4) * B + 1 := by have := big 2 0 (by omega); omega
  have bT : 2 ^ (KF + 2) * B ≤ 2 ^ (KF + 4) * B + 1 := big _ 0 p4
  have bG : 2 ^ (KF + 2) * B + 2 ^ (KF + 2) * B ≤ 2 ^ (KF + 4) * B + 1 := by rw [← Nat.add_mul]; exact big _ 0 p5
  generalize hBB : 2 ^ (KF + 4) * B + 1 = BB at *
  have a1 : F1 [ratT u.1, ratT (-v.1)] M = some (ratT (u.1 - v.1), M) := by
    rw [Rat.sub_eq_add_neg]
    exact k1 u.1 (-v.1) M (hL.sq (Vi1.mono bB)) (hL.sq (Vj1.neg.mono bB)) (hL.dens Vi1 Vj1.neg)
  have a2 : F1 [ratT u.2, ratT (-v.2)] M = some (ratT (u.2 - v.2), M) := by
    rw [Rat.sub_eq_add_neg]
    exact k1 u.2 (-v.2) M (hL.sq (Vi2.mono bB)) (hL.sq (Vj2.neg.mono bB)) (hL.dens Vi2 Vj2.neg)
  have b1 : F2 [ratT (S.1 : Rat), ratT (u.1 - v.1)] M = some (ratT ((S.1 : Rat) * (u.1 - v.1)), M) := k2 _ _ M spq1 (hL.sq (d1.mono bBB)) (lden hL d1 _)
  have b2 : F2 [ratT (S.2 : Rat), ratT (u.2 - v.2)] M = some (ratT ((S.2 : Rat) * (u.2 - v.2)), M) := k2 _ _ M spq2 (hL.sq (d2.mono bBB)) (lden hL d2 _)
  have c1 : F1 [ratT 0, ratT ((S.1 : Rat) * (u.1 - v.1))] M = some (ratT ((S.1 : Rat) * (u.1 - v.1)), M) := by
    have := k1 0 ((S.1 : Rat) * (u.1 - v.1)) M (hL.sq (InD.zero hD)) (hL.sq (t1.mono bT)) (hL.dens (InD.zero (B := 0) hD) t1)
    simp only [Rat.zero_add] at this
    exact this
  have c2 : F1 [ratT ((S.1 : Rat) * (u.1 - v.1)), ratT ((S.2 : Rat) * (u.2 - v.2))] M = some (ratT ((S.1 : Rat) * (u.1 - v.1) + (S.2 : Rat) * (u.2 - v.2)), M) := k1 _ _ M (hL.sq (t1.mono bT)) (hL.sq (t2.mono bT)) (hL.dens t1 t2)
  exact ⟨a1, a2, b1, b2, c1, c2, hBB ▸ g1.mono bG⟩
theorem inD_of_le {D m : Nat} {x : Int} {d : Nat} (hd : 0 < d) (h : D = d * m) (hD : 0 < D) {A : Nat} (hx : x.natAbs ≤ A) : InD D (A * D) ((x : Rat) / ((d : Int) : Rat)) := by
  have h1 : ((d : Int) : Rat) ≠ 0 := cast_ne (by omega)
  have hm : 0 < m := by
    rcases Nat.eq_zero_or_pos m with e | e
    · rw [e] at h; omega
    · exact e
  have h2 : ((m : Int) : Rat) ≠ 0 := cast_ne (by omega)
  refine ⟨x * m, ?_, ?_⟩
  · rw [h, Int.natCast_mul, Rat.intCast_mul, Rat.intCast_mul]
    grind
  · rw [Int.natAbs_mul]
    have : (m : Int).natAbs ≤ D := by
      simp only [Int.natAbs_natCast]
      rw [h]; exact Nat.le_mul_of_pos_left _ hd
    exact Nat.mul_le_mul hx this
theorem dvd420 {d : Nat} (h1 : 1 ≤ d) (h7 : d ≤ 7) : ∃ m, 420 = d * m := by
  have : d = 1 ∨ d = 2 ∨ d = 3 ∨ d = 4 ∨ d = 5 ∨ d = 6 ∨ d = 7 := by omega
  rcases this with rfl | rfl | rfl | rfl | rfl | rfl | rfl
  · exact ⟨420, rfl⟩
  · exact ⟨210, rfl⟩
  · exact ⟨140, rfl⟩
  · exact ⟨105, rfl⟩
  · exact ⟨84, rfl⟩
  · exact ⟨70, rfl⟩
  · exact ⟨60, rfl⟩
/-- a drawn number -/
theorem drawn_inD {x y : Int} (hx : x.natAbs ≤ 9) (h1 : 1 ≤ y) (h7 : y ≤ 7) : InD 420 3780 ((x : Rat) / (y : Rat)) := by
  obtain ⟨d, rfl⟩ : ∃ d : Nat, y = d := ⟨y.toNat, by omega⟩
  obtain ⟨m, hm⟩ := dvd420 (d := d) (by omega) (by omega)
  exact inD_of_le (by omega) hm (by decide) hx
theorem cmp_ne_rat (p q : Rat) (M : Mem) : cmpT .NotEq (ratT p) (ratT q) M = some (!decide (p = q)) := by
  show (eqv? M (ratT p) (ratT q)).map not = _
  rw [eqv_rat]; rfl
theorem cmp_eq_rat (p q : Rat) (M : Mem) : cmpT .Eq (ratT p) (ratT q) M = some (decide (p = q)) := eqv_rat p q M
theorem lok420 : LOk 420 (2 ^ (KF + 4) * 3780 + 1) := by
  refine ⟨by decide, ?_, ?_⟩
  · exact Nat.lt_of_lt_of_le (show 420 * 420 < 2 ^ 18 by decide) (Nat.pow_le_pow_right (by decide) (by decide))
  · have h1 : 2 ^ (KF + 4) * 3780 + 1 ≤ 2 ^ (KF + 4) * 4096 := by
      have := Nat.pow_pos (n := KF + 4) (show 0 < 2 by decide)
      omega
    have h2 : 2 ^ (KF + 4) * 4096 = 2 ^ (KF + 4 + 12) := by rw [Nat.pow_add _ (KF + 4)]
    refine Nat.lt_of_le_of_lt h1 ?_
    rw [h2]
    exact Nat.pow_lt_pow_right (by decide) (by unfold KF; decide)
theorem InD.sq12 {q : Rat} (h : InD 420 3780 q) : Sq 12 q := h.sq (by decide) (by decide) (by decide)
theorem InD.den_sm {q : Rat} {B : Nat} (h : InD 420 B q) : Sm 1900 (q.den : Int) := by
  have := (h.sz (by decide)).2
  exact sm_le (by simp only [Int.natAbs_natCast]; omega) (by decide)
end Mi
end L2

namespace K09
open PySem PySem.Spec PyProof.Rows L2 L2.Mi
theorem kN (n : Nat) : HasN (Pr.G (n + 1)) := rfl
theorem K_common_divisor (n : Nat) : Knows (Pr.G (n + 1)) "common_divisor" IsGcd := ⟨runD (Pr.G (n + 0)) Lib.common_divisor, l_common_divisor (n + 0), sp_common_divisor ⟩
theorem K_number (n : Nat) : Knows (Pr.G (n + 2)) "number" IsNum := ⟨runD (Pr.G (n + 1)) Lib.number, l_number (n + 1), sp_num (K_common_divisor (n + 0))⟩
theorem K_plus (n : Nat) : Knows (Pr.G (n + 3)) "plus" (IsOpR (· + ·)) := ⟨runD (Pr.G (n + 2)) Lib.plus, l_plus (n + 2), sp_plusR (K_number (n + 0))⟩
theorem K_times (n : Nat) : Knows (Pr.G (n + 3)) "times" (IsOpR (· * ·)) := ⟨runD (Pr.G (n + 2)) Lib.times, l_times (n + 2), sp_timesR (K_number (n + 0))⟩
theorem K_product_N (n : Nat) : Knows (Pr.G (n + 4)) "product" IsProdN := ⟨runD (Pr.G (n + 3)) Lib.product_2, l_product (n + 3), sp_prodN (K_plus (n + 0)) (K_times (n + 0))⟩
theorem K_taken_from_N (n : Nat) : Knows (Pr.G (n + 4)) "taken_from" IsTakenN := ⟨runD (Pr.G (n + 3)) Lib.taken_from, l_taken_from (n + 3), sp_takenN (K_plus (n + 0))⟩
theorem K_taken_from (n : Nat) : Knows (Pr.G (n + 1)) "taken_from" IsTakenV := ⟨runD (Pr.G (n + 0)) Lib.taken_from, l_taken_from (n + 0), sp_takenV ⟩
theorem K_span (n : Nat) : Knows (Pr.G (n + 2)) "span" IsSpanV := ⟨runD (Pr.G (n + 1)) Lib.span, l_span (n + 1), sp_spanV (K_taken_from (n + 0))⟩
theorem K_growth_N (n : Nat) : Knows (Pr.G (n + 5)) "growth" IsGrowN := ⟨runD (Pr.G (n + 4)) Lib.growth, l_growth (n + 4), sp_growN (K_product_N (n + 0)) (K_span (n + 2)) (K_taken_from_N (n + 0))⟩
theorem K_total (n : Nat) : Knows (Pr.G (n + 4)) "total" IsTotal := ⟨runD (Pr.G (n + 3)) Lib.total, l_total (n + 3), sp_total (kN (n + 2)) (K_plus (n + 0))⟩
theorem K_work_N (n : Nat) : Knows (Pr.G (n + 5)) "work" IsWorkN := ⟨runD (Pr.G (n + 4)) Lib.work, l_work (n + 4), sp_workN (K_product_N (n + 0)) (K_total (n + 0))⟩
theorem K__law_divisor (n : Nat) : Knows (Pr.G (n + 1)) "_law_divisor" IsGcdB := ⟨runD (Pr.G (n + 0)) Lib._law_divisor, l__law_divisor (n + 0), sp_law_divisor ⟩
theorem K__law_number (n : Nat) : Knows (Pr.G (n + 2)) "_law_number" IsLNum := ⟨runD (Pr.G (n + 1)) Lib._law_number, l__law_number (n + 1), sp_lnum (K__law_divisor (n + 0))⟩
theorem K__law_plus_raw (n : Nat) : Knows (Pr.G (n + 3)) "_law_plus" IsLPlusRaw := ⟨runD (Pr.G (n + 2)) Lib._law_plus, l__law_plus (n + 2), sp_lplus_raw (K__law_number (n + 0))⟩
theorem K_product (n : Nat) : Knows (Pr.G (n + 1)) "product" IsProdV := ⟨runD (Pr.G (n + 0)) Lib.product_2, l_product (n + 0), sp_prodV ⟩
theorem K_growth (n : Nat) : Knows (Pr.G (n + 3)) "growth" IsGrowV := ⟨runD (Pr.G (n + 2)) Lib.growth, l_growth (n + 2), sp_growV (K_product (n + 1)) (K_span (n + 0)) (K_taken_from (n + 1))⟩
theorem K_work (n : Nat) : Knows (Pr.G (n + 2)) "work" IsWorkV := ⟨runD (Pr.G (n + 1)) Lib.work, l_work (n + 1), sp_workV (K_product (n + 0))⟩
theorem K__law_cell (n : Nat) : Knows (Pr.G (n + 1)) "_law_cell" IsCell := ⟨runD (Pr.G (n + 0)) Lib._law_cell, l__law_cell (n + 0), sp_cellN ⟩
theorem K__law_parts (n : Nat) : Knows (Pr.G (n + 1)) "_law_parts" IsParts := ⟨runD (Pr.G (n + 0)) Lib._law_parts, l__law_parts (n + 0), sp_parts ⟩
theorem K__law_plus (n : Nat) : Knows (Pr.G (n + 3)) "_law_plus" (IsLOp (· + ·)) := ⟨runD (Pr.G (n + 2)) Lib._law_plus, l__law_plus (n + 2), sp_lplus (K__law_number (n + 0))⟩
theorem K__law_times (n : Nat) : Knows (Pr.G (n + 3)) "_law_times" (IsLOp (· * ·)) := ⟨runD (Pr.G (n + 2)) Lib._law_times, l__law_times (n + 2), sp_ltimes (K__law_number (n + 0))⟩
theorem K__law_less (n : Nat) : Knows (Pr.G (n + 1)) "_law_less" IsLess := ⟨runD (Pr.G (n + 0)) Lib._law_less, l__law_less (n + 0), sp_law_lessR ⟩
theorem K__law_total (n : Nat) : Knows (Pr.G (n + 4)) "_law_total" IsLTotal := ⟨runD (Pr.G (n + 3)) Lib._law_total, l__law_total (n + 3), sp_ltotal (K__law_plus (n + 0))⟩
theorem K__law_is_number (n : Nat) : Knows (Pr.G (n + 3)) "_law_is_number" IsLNumP := ⟨runD (Pr.G (n + 2)) Lib._law_is_number, l__law_is_number (n + 2), sp_lisnum (K__law_number (n + 0))⟩
theorem K__law_is_row (n : Nat) : Knows (Pr.G (n + 4)) "_law_is_row" IsLRow := ⟨runD (Pr.G (n + 3)) Lib._law_is_row, l__law_is_row (n + 3), sp_lrow (K__law_is_number (n + 0))⟩
theorem K__law_points (n : Nat) : Knows (Pr.G (n + 2)) "_law_points" IsLPoints := ⟨runD (Pr.G (n + 1)) Lib._law_points, l__law_points (n + 1), sp_lpoints (K__law_cell (n + 0)) (K__law_parts (n + 0))⟩
theorem K__law_limits (n : Nat) : Knows (Pr.G (n + 1)) "_law_limits" IsLLimits := ⟨runD (Pr.G (n + 0)) Lib._law_limits, l__law_limits (n + 0), sp_llimits ⟩
theorem K__law_members (n : Nat) : Knows (Pr.G (n + 2)) "_law_members" IsLMembers := ⟨runD (Pr.G (n + 1)) Lib._law_members, l__law_members (n + 1), sp_lmembers (K__law_cell (n + 0)) (K__law_parts (n + 0)) (K__law_limits (n + 0))⟩
theorem K__law_frame (n : Nat) : Knows (Pr.G (n + 3)) "_law_frame" IsLFrame := ⟨runD (Pr.G (n + 2)) Lib._law_frame, l__law_frame (n + 2), sp_lframe (K__law_cell (n + 1)) (K__law_parts (n + 1)) (K__law_points (n + 0)) (K__law_members (n + 0))⟩
theorem K__law_load (n : Nat) : Knows (Pr.G (n + 2)) "_law_load" IsLLoad := ⟨runD (Pr.G (n + 1)) Lib._law_load, l__law_load (n + 1), sp_lload (K__law_cell (n + 0)) (K__law_parts (n + 0))⟩
end K09

/-! k09 holds. -/
namespace K09
open PySem PySem.Spec PyProof.Rows L2 L2.Mi
theorem get_rm {α : Type} {n i : Nat} {f : Nat → α} {y : α} (h : ((List.range n).map f)[i]? = some y) : i < n ∧ y = f i := by
  obtain ⟨hi, rfl⟩ := List.getElem?_eq_some_iff.mp h
  simp only [List.length_map, List.length_range] at hi
  exact ⟨hi, by simp⟩
def num (D : List Int) (k : Nat) : Rat := ((gt D (2 * k) - 9 : Int) : Rat) / ((1 + gt D (2 * k + 1) : Int) : Rat)
def numL (D : List Int) (n : Nat) : List Rat := (List.range (2 * n)).map (num D)
def moN (D : List Int) (n : Nat) : List NV := (List.range n).map fun k => (num D (2 * k), num D (2 * k + 1))
def z0 : List Int := (List.replicate 14 [19, 7]).flatten
theorem z0b : ∀ k, k < 14 → gt z0 (2 * k) = 19 ∧ gt z0 (2 * k + 1) = 7 := by decide
theorem gn_rm {n k : Nat} {f : Nat → NV} (h : k < n) : gn ((List.range n).map f) k = f k := by
  unfold gn
  rw [List.getD_eq_getElem?_getD, List.getElem?_map, List.getElem?_range h]; rfl
theorem fin_bl (sl : Bool) (M : Mem) (b : Bool) (M1 : Mem) : ∃ M', fin sl M (.bl b) M1 = (.bl b, M') := by
  unfold fin
  split
  · rw [seal_pure (by rfl)]; exact ⟨_, rfl⟩
  · exact ⟨_, rfl⟩
theorem goal : Pr.Goal 12 Lib.law_9 := by
  intro ns hlen hbits
  suffices h : ∀ M : Mem, ∃ M', runD (Pr.G 12) Lib.law_9 [.sc ns] M = some (.bl true, M') from h []
  intro M
  have hcs := cell_sm hbits
  obtain ⟨Fc, lc, kc⟩ := K__law_cell 11
  obtain ⟨Fp, lp, kp⟩ := K__law_parts 11
  obtain ⟨Ff, lf, kf⟩ := K__law_frame 9
  obtain ⟨Fl, ll, kl⟩ := K__law_load 10
  obtain ⟨Fg, lg, kg⟩ := K_growth_N 7
  obtain ⟨Fw, lw, kw⟩ := K_work_N 7
  obtain ⟨F1, l1, k1⟩ := K__law_plus 9
  obtain ⟨F2, l2, k2⟩ := K__law_times 9
  obtain ⟨Fn, ln, kn⟩ := K__law_number 10
  obtain ⟨Fi, li, ki⟩ := K__law_is_number 9
  simp only [Nat.reduceAdd] at lc lp lf ll lg lw l1 l2 ln li
  obtain ⟨f, e1, L⟩ := kf ns 2 2 false M hcs (by decide) (by decide)
  have W := L.fw (by decide)
  have n1 := L.n1
  have n2 := L.n2
  generalize hn : f.pts.length = n at W n2 n1
  obtain ⟨lo, e2, lol, lob⟩ := kl ns n 9 M hcs (by omega) (by decide) (by decide)
  have p0 : ∀ s ∈ z0, 0 < s ∧ Sm 8000 s := fun s hs => by
    have hb : s = 19 ∨ s = 7 := by
      simp only [z0, List.mem_flatten, List.mem_replicate] at hs
      obtain ⟨l, ⟨_, rfl⟩, h⟩ := hs
      simpa using h
    exact ⟨by omega, sm_le (by omega) (by decide)⟩
  have c0 : Fc [.sc ns, .int 13] M = some (.int (gt ns 13), M) := kc ns 13 M
  have e3 := kp (gt ns 13) (ilT z0) z0 M rfl (pureT_il _) ((hcs 13).mono (by decide)) p0 (by simp [z0])
  have hDb : ∀ k, k < 14 → (gt (parts (gt ns 13) z0) (2 * k) - 9).natAbs ≤ 9 ∧ 1 ≤ 1 + gt (parts (gt ns 13) z0) (2 * k + 1) ∧ 1 + gt (parts (gt ns 13) z0) (2 * k + 1) ≤ 7 := fun k hk => by
    have a := pos_of_all (ss := z0) (fun s h => (p0 s h).1) (gt ns 13) (2 * k)
    have b := pos_of_all (ss := z0) (fun s h => (p0 s h).1) (gt ns 13) (2 * k + 1)
    have a2 := a.2 (by simp [z0]; omega)
    have b2 := b.2 (by simp [z0]; omega)
    obtain ⟨q1, q2⟩ := z0b k hk
    omega
  have hDl : (parts (gt ns 13) z0).length = 28 := by rw [parts_len]; simp [z0]
  generalize parts (gt ns 13) z0 = D at e3 hDb hDl
  have z0T : binT .Mult false (.fl [.int 19, .int 7]) (.int 14) M = some (ilT z0, M) := by
    have := bin_rep false (ts := [T.int 19, .int 7]) (k := 14) (by decide) (by decide) M
    have e : T.fl (List.replicate 14 [T.int 19, .int 7]).flatten = ilT z0 := rfl
    show binT .Mult false _ (nT 14) M = _
    rw [this, mkL_f, e]
  have nb : ∀ k, k < 14 → InD 420 3780 (num D k) := fun k hk => by
    obtain ⟨h1, h2, h3⟩ := hDb k hk
    exact drawn_inD h1 h2 h3
  have rg := rg1_n (n := n) (by omega)
  have rg2n := rg1_n (n := 2 * n) (by omega)
  have lnp : biT .len [vsT f.pts] M = some (nT n, M) := by rw [len_sof (sof_vs M f.pts), List.length_map, hn]
  have f0 := ix_f0 f M
  have f1 := ix_f1 f M
  have lc1 : lcr (Pr.G 12) (.nm 7 "_law_k") .nil (.call "_law_number" (.cons (.bin .Sub false (.ix (.var 4 "_law_digits") (.bin .Mult false (.int 2) (.var 7 "_law_k"))) (.int 9)) (.cons (.bin .Add false (.int 1) (.ix (.var 4 "_law_digits") (.bin .Add false (.bin .Mult false (.int 2) (.var 7 "_law_k")) (.int 1)))) .nil))) [some (.sc ns), some (fmT f), some (nT n), some (vsT lo), some (ilT D), none, none, none, none, none, none, none, none] [] (rngL 0 ((2 * n : Nat) : Int)) M = some ((numL D n).map ratT, M) := by
    refine lcr_ix (by simp) (by rw [rngL_len]; simp [numL]; omega) fun i x y hx hy => ?_
    obtain ⟨hi, rfl⟩ := rng_get hx
    obtain ⟨v, hv, rfl⟩ := map_get hy
    obtain ⟨_, rfl⟩ := get_rm hv
    have q1 : binT .Mult false (.int 2) (nT i) M = some (nT (2 * i), M) := mul_nT 2 i (by decide) (by omega) false M
    have q2 : binT .Add false (nT (2 * i)) (.int 1) M = some (nT (2 * i + 1), M) := rfl
    have x1 := ix_il D (2 * i) M (by omega)
    have x2 := ix_il D (2 * i + 1) M (by omega)
    obtain ⟨b1, b2, b3⟩ := hDb i (by omega)
    have e := kn (gt D (2 * i) - 9) (1 + gt D (2 * i + 1)) M (by omega) (sm_le (by omega) (by decide))
    unfold num
    simp [stepL, q1, q2, x1, x2, ln, e]
  have nlen : (numL D n).length = 2 * n := by simp [numL]
  have xn : ∀ k, k < 2 * n → ixT (.fl ((numL D n).map ratT)) (nT k) M = some (ratT (num D k)) := fun k hk => by
    unfold nT
    rw [ix_fl, atI_n, List.getElem?_map]
    simp [numL, List.getElem?_range hk]
  have lc2 : lcr (Pr.G 12) (.nm 7 "_law_k") .nil (.tup (.cons (.ix (.var 5 "_law_numbers") (.bin .Mult false (.int 2) (.var 7 "_law_k"))) (.cons (.ix (.var 5 "_law_numbers") (.bin .Add false (.bin .Mult false (.int 2) (.var 7 "_law_k")) (.int 1))) .nil))) [some (.sc ns), some (fmT f), some (nT n), some (vsT lo), some (ilT D), some (.fl ((numL D n).map ratT)), none, none, none, none, none, none, none] [] (rngL 0 (n : Int)) M = some ((moN D n).map nvT, M) := by
    refine lcr_ix (by simp) (by rw [rngL_len]; simp [moN]) fun i x y hx hy => ?_
    obtain ⟨hi, rfl⟩ := rng_get hx
    obtain ⟨v, hv, rfl⟩ := map_get hy
    obtain ⟨_, rfl⟩ := get_rm hv
    have q1 : binT .Mult false (.int 2) (nT i) M = some (nT (2 * i), M) := mul_nT 2 i (by decide) (by omega) false M
    have q2 : binT .Add false (nT (2 * i)) (.int 1) M = some (nT (2 * i + 1), M) := rfl
    have x1 := xn (2 * i) (by omega)
    have x2 := xn (2 * i + 1) (by omega)
    generalize (numL D n).map ratT = R at *
    simp [stepL, q1, q2, x1, x2, nvT]
  let mo : List NV := moN D n
  have V : ND mo n 420 3780 := ⟨by simp [mo, moN], fun p hp => by
    obtain ⟨k, hk, rfl⟩ := List.mem_map.mp hp
    have hk := List.mem_range.mp hk
    exact ⟨nb _ (by omega), nb _ (by omega)⟩⟩
  have V2 : NW mo n 12 := ⟨V.ml, fun p hp => ⟨(V.sm p hp).1.sq12, (V.sm p hp).2.sq12⟩⟩
  have hL := lok420
  -- the growths
  let E : Option T → Option T → Option T → Option T → Option T → Option T → En := fun z7 z8 z9 z10 z11 z12 => [some (.sc ns), some (fmT f), some (nT n), some (vsT lo), some (ilT D), some (.fl ((numL D n).map ratT)), some (nvsT mo), z7, z8, z9, z10, z11, z12]
  let ib : List MS := [
      .set 12 "_law_apart" (.call "_law_plus" (.cons (.ix (.ix (.var 6 "_law_motion") (.var 8 "_law_i")) (.var 11 "_law_which")) (.cons (.tup (.cons (.neg (.ix (.ix (.ix (.var 6 "_law_motion") (.var 9 "_law_j")) (.var 11 "_law_which")) (.int 0))) (.cons (.ix (.ix (.ix (.var 6 "_law_motion") (.var 9 "_law_j")) (.var 11 "_law_which")) (.int 1)) .nil))) .nil))),
      .set 10 "_law_due" (.call "_law_plus" (.cons (.var 10 "_law_due") (.cons (.call "_law_times" (.cons (.tup (.cons (.bin .Sub false (.ix (.ix (.ix (.var 1 "_law_frame_here") (.int 0)) (.var 8 "_law_i")) (.var 11 "_law_which")) (.ix (.ix (.ix (.var 1 "_law_frame_here") (.int 0)) (.var 9 "_law_j")) (.var 11 "_law_which"))) (.cons (.int 1) .nil))) (.cons (.var 12 "_law_apart") .nil))) .nil)))]
  have z01 : T.tup [T.int 0, T.int 1] = ratT 0 := rfl
  obtain ⟨σ', M', hfr, hM, z7, z8, z9, z10, z11, z12, hσ⟩ := fr_inv (G := Pr.G 12) (tg := .nm 7 "_law_k") (b := [
    .asg (.tp (.cons (.nm 8 "_law_i") (.cons (.nm 9 "_law_j") .nil))) (.slc false (.ix (.ix (.var 1 "_law_frame_here") (.int 1)) (.var 7 "_law_k")) .nopart (.int 2)),
    .set 10 "_law_due" (.tup (.cons (.int 0) (.cons (.int 1) .nil))),
    .for (.nm 11 "_law_which") (.rng1 (.int 2)) ib,
    .ite (.or (.not (.call "_law_is_number" (.cons (.call "growth" (.cons (.var 1 "_law_frame_here") (.cons (.var 7 "_law_k") (.cons (.var 6 "_law_motion") .nil)))) .nil))) (.one (.cmp .NotEq (.call "growth" (.cons (.var 1 "_law_frame_here") (.cons (.var 7 "_law_k") (.cons (.var 6 "_law_motion") .nil)))) (.var 10 "_law_due")))) [
      .ret (.bl false)] []]) (g := []) (xs := rngL 0 (f.mbs.length : Int)) (σ := E none none none none none none) (M := M)
    (fun i σ M' => M' = M ∧ ∃ z7 z8 z9 z10 z11 z12, σ = E z7 z8 z9 z10 z11 z12) ⟨rfl, _, _, _, _, _, _, rfl⟩ (fun _ _ _ _ => by simp) (fun k x σ M' hx ⟨hM, z7, z8, z9, z10, z11, z12, hσ⟩ => by
      subst hM; subst hσ
      obtain ⟨hk, rfl⟩ := rng_get hx
      obtain ⟨hi, hj⟩ := W.mj _ (gm_mem hk)
      have ml := V.ml
      have pl := W.pl
      have x1 := ix_mb hk M'
      have s1 := sl_m2 (gm f k) M'
      have xi := ix_nvs (l := mo) (k := (gm f k).i) (by omega) M'
      have xj := ix_nvs (l := mo) (k := (gm f k).j) (by omega) M'
      have pi := ix_vs (l := f.pts) (k := (gm f k).i) (by omega) M'
      have pj := ix_vs (l := f.pts) (k := (gm f k).j) (by omega) M'
      have g1 : (gv f.pts (gm f k).i).1 - (gv f.pts (gm f k).j).1 = (spanV f k).1 := rfl
      have g2 : (gv f.pts (gm f k).i).2 - (gv f.pts (gm f k).j).2 = (spanV f k).2 := rfl
      obtain ⟨a1, a2, b1, b2, c1, c2, t⟩ := lgrow_facts (k := k) k1 k2 W V hL M'
      have eg := kg f n k 12 mo M' W (by decide) (by decide) V2 hk
      have ei := ki (groN f k mo) M' t.den_sm
      have cn := cmp_ne_rat (groN f k mo) (groN f k mo) M'
      have hg : ((spanV f k).1 : Rat) * ((gn mo (gm f k).i).1 - (gn mo (gm f k).j).1) + ((spanV f k).2 : Rat) * ((gn mo (gm f k).i).2 - (gn mo (gm f k).j).2) = groN f k mo := rfl
      generalize groN f k mo = g at *
      generalize gn mo (gm f k).i = u at *
      generalize gn mo (gm f k).j = v at *
      generalize spanV f k = S at *
      have m1 := neg_rat v.1
      have m2 := neg_rat v.2
      have i1 := int_rat S.1
      have i2 := int_rat S.2
      have hfr : fr (Pr.G 12) (.nm 11 "_law_which") ib [] (rngL 0 2) (E (some (nT k)) (some (nT (gm f k).i)) (some (nT (gm f k).j)) (some (ratT 0)) z11 z12) M' = some (.nx (E (some (nT k)) (some (nT (gm f k).i)) (some (nT (gm f k).j)) (some (ratT g)) (some (.int 1)) (some (ratT (u.2 - v.2)))) M') := by
        rw [← hg]
        generalize (numL D n).map ratT = R at *
        refine fr_two (σ1 := E (some (nT k)) (some (nT (gm f k).i)) (some (nT (gm f k).j)) (some (ratT ((S.1 : Rat) * (u.1 - v.1)))) (some (.int 0)) (some (ratT (u.1 - v.1)))) ?_ ?_
        · simp [ib, E, xi, xj, m1, l1, a1, f0, pi, pj, g1, i1, l2, b1, c1]
        · simp [ib, E, xi, xj, m2, l1, a2, f0, pi, pj, g2, i2, l2, b2, c2]
      refine ⟨_, asg_nm .., E (some (nT k)) (some (nT (gm f k).i)) (some (nT (gm f k).j)) (some (ratT g)) (some (.int 1)) (some (ratT (u.2 - v.2))), M', .inl ?_, rfl, _, _, _, _, _, _, rfl⟩
      simp only [E, ib] at *
      generalize (numL D n).map ratT = R at *
      generalize mT (gm f k) = mm at *
      generalize T.tup (f.mbs.map mT) = MM at *
      simp [f1, x1, s1, z01, hfr, lg, eg, li, ei, cn])
  -- the work
  let ps : List Rat := List.zipWith dotN lo mo
  have psl : ps.length = n := by simp [ps, lol, V.ml]
  have los : ∀ p ∈ lo, SmV 1000 p := fun p hp => by
    obtain ⟨h1, h2⟩ := lob p hp
    exact ⟨sm_le (by omega) (by decide), sm_le (by omega) (by decide)⟩
  have bigL : ∀ a : Nat, a ≤ 1024 * 3780 → a ≤ 2 ^ (KF + 4) * 3780 + 1 := fun a h => by
    have : 1024 ≤ 2 ^ (KF + 4) := Nat.le_trans (show 1024 ≤ 2 ^ 10 by decide) (Nat.pow_le_pow_right (by decide) (by unfold KF; decide))
    have := Nat.mul_le_mul_right 3780 this
    omega
  have hsum : ∀ k, k ≤ n → InD 420 (k * 68040) (ps.take k).sum := by
    intro k
    induction k with
    | zero => intro _; rw [List.take_zero]; exact InD.zero (by decide)
    | succ k ih =>
      intro h
      have hk : k < ps.length := by omega
      rw [sum_take ps k _ (List.getElem?_eq_getElem hk), Nat.succ_mul]
      refine (ih (by omega)).add ?_
      simp only [ps, List.getElem_zipWith]
      obtain ⟨b1, b2⟩ := lob (lo[k]'(by omega)) (List.getElem_mem ..)
      obtain ⟨v1, v2⟩ := V.sm (mo[k]'(by rw [V.ml]; omega)) (List.getElem_mem ..)
      exact ((v1.mul b1).add (v2.mul b2)).mono (by decide)
  let wb : List MS := [
      .set 10 "_law_due" (.call "_law_plus" (.cons (.var 10 "_law_due") (.cons (.call "_law_times" (.cons (.tup (.cons (.ix (.ix (.var 3 "_law_load_here") (.var 7 "_law_k")) (.var 11 "_law_which")) (.cons (.int 1) .nil))) (.cons (.ix (.ix (.var 6 "_law_motion") (.var 7 "_law_k")) (.var 11 "_law_which")) .nil))) .nil)))]
  have hW : ∀ z7 z8 z9 z11 z12 : Option T, ∃ z7' z11', fr (Pr.G 12) (.nm 7 "_law_k") [.for (.nm 11 "_law_which") (.rng1 (.int 2)) wb] [] (rngL 0 (n : Int)) (E z7 z8 z9 (some (ratT 0)) z11 z12) M = some (.nx (E z7' z8 z9 (some (ratT ps.sum)) z11' z12) M) := by
    intro z7 z8 z9 z11 z12
    obtain ⟨σ', M', hfr, hM, z7', z11', hσ⟩ := fr_inv (G := Pr.G 12) (tg := .nm 7 "_law_k") (b := [.for (.nm 11 "_law_which") (.rng1 (.int 2)) wb]) (g := []) (xs := rngL 0 (n : Int)) (σ := E z7 z8 z9 (some (ratT 0)) z11 z12) (M := M)
      (fun i σ M' => M' = M ∧ ∃ z7' z11', σ = E z7' z8 z9 (some (ratT (ps.take i).sum)) z11' z12) ⟨rfl, _, _, by rw [List.take_zero]; rfl⟩ (fun _ _ _ _ => by simp) (fun k x σ M' hx ⟨hM, z7, z11, hσ⟩ => by
        subst hM; subst hσ
        obtain ⟨hk, rfl⟩ := rng_get hx
        have x1 := ix_vs (l := lo) (k := k) (by omega) M'
        have x2 := ix_nvs (l := mo) (k := k) (by rw [V.ml]; omega) M'
        have hk' : k < ps.length := by omega
        have hlo : lo[k]'(by omega) = gv lo k := by unfold gv; rw [List.getD_eq_getElem?_getD, List.getElem?_eq_getElem (by omega)]; rfl
        have hmo : mo[k]'(by rw [V.ml]; omega) = gn mo k := by unfold gn; rw [List.getD_eq_getElem?_getD, List.getElem?_eq_getElem (by rw [V.ml]; omega)]; rfl
        have hs := sum_take ps k _ (List.getElem?_eq_getElem hk')
        have he : ps[k] = ((gv lo k).1 : Rat) * (gn mo k).1 + ((gv lo k).2 : Rat) * (gn mo k).2 := by
          simp only [ps, List.getElem_zipWith]; rw [hlo, hmo]; rfl
        rw [he, ← Rat.add_assoc] at hs
        obtain ⟨b1, b2⟩ := lob (lo[k]'(by omega)) (List.getElem_mem ..)
        obtain ⟨v1, v2⟩ := V.sm (mo[k]'(by rw [V.ml]; omega)) (List.getElem_mem ..)
        rw [hlo] at b1 b2
        rw [hmo] at v1 v2
        have s0 := hsum k (by omega)
        have t1 := v1.mul b1
        have t2 := v2.mul b2
        have s1 := s0.add t1
        generalize gv lo k = p at *
        generalize gn mo k = u at *
        have kk : k ≤ 6 := by omega
        have q1 : F2 [ratT (p.1 : Rat), ratT u.1] M' = some (ratT ((p.1 : Rat) * u.1), M') := k2 _ _ M' ((sm_sq (k := 10) (sm_le (by omega) (by decide)) (by decide)).mono (by decide)) (hL.sq (v1.mono (bigL _ (by decide)))) (lden hL v1 _)
        have q2 : F2 [ratT (p.2 : Rat), ratT u.2] M' = some (ratT ((p.2 : Rat) * u.2), M') := k2 _ _ M' ((sm_sq (k := 10) (sm_le (by omega) (by decide)) (by decide)).mono (by decide)) (hL.sq (v2.mono (bigL _ (by decide)))) (lden hL v2 _)
        have q3 : F1 [ratT (ps.take k).sum, ratT ((p.1 : Rat) * u.1)] M' = some (ratT ((ps.take k).sum + (p.1 : Rat) * u.1), M') := k1 _ _ M' (hL.sq (s0.mono (bigL _ (by omega)))) (hL.sq (t1.mono (bigL _ (by decide)))) (hL.dens s0 t1)
        have q4 : F1 [ratT ((ps.take k).sum + (p.1 : Rat) * u.1), ratT ((p.2 : Rat) * u.2)] M' = some (ratT (ps.take (k + 1)).sum, M') := by
          rw [hs]
          exact k1 _ _ M' (hL.sq (s1.mono (bigL _ (by omega)))) (hL.sq (t2.mono (bigL _ (by decide)))) (hL.dens s1 t2)
        generalize (ps.take (k + 1)).sum = S1 at *
        generalize (ps.take k).sum = S0 at *
        have i1 := int_rat p.1
        have i2 := int_rat p.2
        refine ⟨_, asg_nm .., E (some (nT k)) z8 z9 (some (ratT S1)) (some (.int 1)) z12, M', .inl ?_, rfl, _, _, rfl⟩
        have hfr : fr (Pr.G 12) (.nm 11 "_law_which") wb [] (rngL 0 2) (E (some (nT k)) z8 z9 (some (ratT S0)) z11 z12) M' = some (.nx (E (some (nT k)) z8 z9 (some (ratT S1)) (some (.int 1)) z12) M') := by
          generalize (numL D n).map ratT = R at *
          refine fr_two (σ1 := E (some (nT k)) z8 z9 (some (ratT (S0 + (p.1 : Rat) * u.1))) (some (.int 0)) z12) ?_ ?_
          · simp [wb, E, x1, x2, i1, l2, q1, l1, q3]
          · simp [wb, E, x1, x2, i2, l2, q2, l1, q4]
        simp only [E, wb] at *
        generalize (numL D n).map ratT = R at *
        simp [hfr])
    rw [hM] at hfr
    subst hσ
    rw [rngL_len] at hfr
    have e : ((n : Int) - 0).toNat = n := by omega
    rw [e] at hfr
    rw [show ps.take n = ps from by rw [← psl]; exact List.take_length] at hfr
    exact ⟨_, _, hfr⟩
  rw [hM] at hfr
  subst hσ
  obtain ⟨z7', z11', hw⟩ := hW z7 z8 z9 z11 z12
  have ew := kw lo mo n 12 M lol V2 (by omega) (by omega) (by decide) (by decide) los
  have hps : workN lo mo = ps.sum := rfl
  rw [hps] at ew
  have sn := hsum n (Nat.le_refl _)
  rw [show ps.take n = ps from by rw [← psl]; exact List.take_length] at sn
  have ei := ki ps.sum M sn.den_sm
  have ce := cmp_eq_rat ps.sum ps.sum M
  have ln2 : biT .len [T.tup (f.mbs.map mT)] M = some (nT f.mbs.length, M) := by rw [len_sof (sof_tup' M f.mbs), List.length_map]
  have rgm := rg1_n (n := f.mbs.length) (by have := L.few; omega)
  have n9 : nT 9 = .int 9 := rfl
  have n2' : nT 2 = .int 2 := rfl
  rw [n9] at e2
  rw [n2'] at e1
  have m2 : binT .Mult false (.int 2) (nT n) M = some (nT (2 * n), M) := mul_nT 2 n (by decide) (by omega) false M
  have tl : biT .tuple [.fl ((moN D n).map nvT)] M = some (nvsT mo, M) := rfl
  have key : exSs (Pr.G 12) Lib.law_9.body (startE Lib.law_9.N [.sc ns]) M = some (.rt (.bl true) M) := by
    simp only [E, ib, wb] at hfr hw
    generalize ps.sum = S at *
    have nl16 : ((numL D n).map ratT).length ≤ 16777216 := by rw [List.length_map]; omega
    have ml16 : ((moN D n).map nvT).length ≤ 16777216 := by rw [List.length_map]; have : (moN D n).length = n := V.ml; omega
    generalize (numL D n).map ratT = R at *
    generalize (moN D n).map nvT = R2 at *
    generalize mo = mo' at *
    clear nlen xn
    generalize 2 * n = nn at rg2n lc1 m2
    simp only [Lib.law_9, startE]
    refine (xs_go (σ1 := [some (.sc ns), some (fmT f), none, none, none, none, none, none, none, none, none, none, none]) (M1 := M) (by simp [lf, e1])).trans ?_
    refine (xs_go (σ1 := [some (.sc ns), some (fmT f), some (nT n), none, none, none, none, none, none, none, none, none, none]) (M1 := M) (by simp [f0, lnp])).trans ?_
    refine (xs_go (σ1 := [some (.sc ns), some (fmT f), some (nT n), some (vsT lo), none, none, none, none, none, none, none, none, none]) (M1 := M) (by simp [ll, e2])).trans ?_
    refine (xs_go (σ1 := [some (.sc ns), some (fmT f), some (nT n), some (vsT lo), some (ilT D), none, none, none, none, none, none, none, none]) (M1 := M) (by simp [lc, c0, z0T, lp, e3])).trans ?_
    refine (xs_go (σ1 := [some (.sc ns), some (fmT f), some (nT n), some (vsT lo), some (ilT D), some (.fl R), none, none, none, none, none, none, none]) (M1 := M) (by simp [wipeE, m2, rg2n, lc1, nl16])).trans ?_
    refine (xs_go (σ1 := [some (.sc ns), some (fmT f), some (nT n), some (vsT lo), some (ilT D), some (.fl R), some (nvsT mo'), none, none, none, none, none, none]) (M1 := M) (by simp [wipeE, rg, lc2, ml16, tl])).trans ?_
    generalize T.tup (f.mbs.map mT) = MM at *
    refine (xs_go (σ1 := [some (.sc ns), some (fmT f), some (nT n), some (vsT lo), some (ilT D), some (.fl R), some (nvsT mo'), z7, z8, z9, z10, z11, z12]) (M1 := M) (by simp [f1, ln2, rgm, hfr])).trans ?_
    simp [z01, rg, hw, lw, ew, li, ei, ce]
  obtain ⟨M', hM'⟩ := fin_bl Lib.law_9.sl M true M
  refine ⟨M', ?_⟩
  rw [run_rt rfl key, hM']
end K09

open PySem PySem.W PySem.Calls PyProof.Rows
set_option maxHeartbeats 0 in
theorem PySem.Challenge.cw_loadorloose_k09_motions_of_numbers_holds : PySem.Challenge.rw_loadorloose_k09_motions_of_numbers.Holds := by
  w_on; o_law
  refine HandSHeadRun.head_any (r := OpenLaw.row PySem.Challenge.rw_loadorloose_k09_motions_of_numbers) (q := view (OpenLaw.row PySem.Challenge.rw_loadorloose_k09_motions_of_numbers).prog [29]) (H := L2.Mi.Prog.hook K09.Pr 4) (ob := L2.Mi.Prog.obs K09.Pr 4) (M := 4000) (loose := K09.names) (d := HandSHeadRun.topDef (OpenLaw.row PySem.Challenge.rw_loadorloose_k09_motions_of_numbers).prog 29) (kwd := []) (L2.Mi.Prog.obs_eq K09.Pr 4)
    (by kernel_rfl) (fun s => by kernel_rfl) K09.run (by kernel_rfl) (by kernel_rfl) (by kernel_rfl) (by rfl) (by first | assumption | decide +kernel) (by decide +kernel) ⟨rfl, rfl, rfl, rfl, rfl, by decide +kernel⟩ ?hw ?hc
  case hw => w_witness2
  case hc =>
    exact L2.Mi.mini_walk (l := PySem.Challenge.rw_loadorloose_k09_motions_of_numbers) (P := K09.Pr) (n := 12) (x := "_law_script") (xl := K09.i_law) rfl (by kernel_rfl) (by kernel_rfl) (Or.inr rfl) K09.oks K09.binds K09.isLaw rfl (by decide) (by kernel_rfl) rfl K09.goal


import PyProof.Rows.All
import Wide.All
import OpenK.AllK
import Wide.FinOn
import KE.KStateDown
import Lean
import HandS.ForMost
import HandS.ForExc
import HandS.Wide
import HandS.Defaults
import HandS.Property
import HandS.OwnEq
import HandS.Head0
import HandS.Head1
import HandS.Head2
import HandS.HeadEnd
import HandS.HeadHook1
import HandS.HeadHook2
import HandS.HeadNt
import HandS.TupAny
import HandS.TupMul
import HandS.IsInst
import HandS.Zip
import HandS.CallSlots
import HandS.ClsMeth
import KE.KOpsOwn
import PyProof.FactsAll.int_1
import PyProof.Draws
import HandS.Zip0
import HandS.Style
import PyProof.EqAt
import PyProof.NeKinds
import PyProof.InstNe
import HandS.SortInts
import HandS.Deep
import PyProof.SumWalk
import HandS.Ends
import PyProof.ReprRoads
import HandS.RaiseMore
import HandS.Dict
import KE.KExcInit
import HandS.ExcInit
import HandS.ExcOwn
import PyProof.ExcBaseAll.ValueError
import PyProof.ExcBaseAll.LookupError
import PyProof.ExcBaseAll.ArithmeticError
import KE.KTryMore
import PySem.Challenge.RW_exactstats_k12_weighted_and_harmonic
set_option Elab.async false
set_option linter.all false
set_option maxRecDepth 100000
set_option maxHeartbeats 0
namespace L3
open PySem PySem.Spec PyProof.Rows L2

/-! ## values without a heap -/
inductive PV where
  | non | bl (b : Bool) | int (i : Int) | str (x : Str) | rat (q : Rat)
  | tup (xs : List PV) | lst (xs : List PV) | frz (xs : List PV) | obj (C : Addr) (ns : List Str) (xs : List PV)
  | ptr (n : Nat) | adr (a : Addr) | ty (n : String)
  | dk (ks : List Key) (xs : List PV) | dt (ks : List (List Key)) (xs : List PV) | exc (c : Str) (ns : List Str) (xs : List PV)
/-- a slot: a value, or a list of the frame's own -/
inductive SV where
  | val (v : PV) | own (xs : List PV)
/-- a shared object that may change -/
inductive MO where
  | lst (xs : List PV) | ins (C : Addr) (ns : List Str) (xs : List PV)

inductive R (s a : Type) where
  | ok (v : a) (t : s) | exn (e : PV) (t : s) | bad
@[simp] def R.bind {s a b : Type} (r : R s a) (k : a → s → R s b) : R s b := match r with
  | .ok v t => k v t
  | .exn e t => .exn e t
  | .bad => .bad
structure S where
  env : List (Option SV)
  mu : List MO
abbrev DE := S → R S PV
abbrev DT := S → R S Bool
abbrev DA := S → R S (List PV)
inductive Fl where
  | nx | rt (v : PV) | bk | ct
abbrev DS := S → R S Fl
/-- what a def computes -/
abbrev DF := List PV → List MO → R (List MO) PV

/-! ## values and the heap -/
def KT (K : PySem.W.Frag) (a : Addr) (xs : List V) : Prop := ∃ (o : Obj) (its : Array Value) (n : Nat), K.lookup a = some o ∧ o.cls = .type "tuple" ∧ o.data = .seq its n ∧ its.size ≤ sizeLine ∧ Vals xs its.toList
/-- a caught exception's object: its class, its dict -/
def exv (a C : Addr) (d : Option Addr) : HO := .ext fun h => ∃ oe vs, h.get? a = some oe ∧ oe.cls = .ref C ∧ oe.dict = d ∧ oe.data = .fields vs
def KL (K : PySem.W.Frag) (a : Addr) (xs : List V) : Prop := ∃ (o : Obj) (its : Array Value) (n : Nat), K.lookup a = some o ∧ o.cls = .type "list" ∧ o.dict = none ∧ o.data = .seq its n ∧ its.size ≤ sizeLine ∧ Vals xs its.toList
mutual
def Rep (K : PySem.W.Frag) (CR : Addr) (al : List Addr) (L : Addr → Prop) (H : Hp) : PV → V → Prop
  | .non, v => v = .non
  | .bl b, v => v = .bl b
  | .int i, v => v = .int i
  | .str x, v => v = .str x
  | .rat q, v => ∃ a dx, v = .ref a ∧ ¬ L a ∧ H a = some (.ins CR dx [("own_top", .int q.num), ("own_bottom", .int q.den)])
  | .tup xs, v => ∃ a vs, v = .ref a ∧ (¬ L a ∧ Rd H a (.tup vs) ∨ KT K a vs) ∧ RepL K CR al L H xs vs
  | .lst xs, v => ∃ a vs, v = .ref a ∧ ¬ L a ∧ H a = some (.lst vs) ∧ RepL K CR al L H xs vs
  | .frz xs, v => ∃ a vs, v = .ref a ∧ (¬ L a ∧ Rd H a (.lst vs) ∨ KL K a vs) ∧ RepL K CR al L H xs vs
  | .obj C ns xs, v => ∃ a dx vs, v = .ref a ∧ ¬ L a ∧ H a = some (.ins C dx (ns.zip vs)) ∧ ns.length = vs.length ∧ RepL K CR al L H xs vs
  | .ptr n, v => ∃ a, al[n]? = some a ∧ v = .ref a
  | .adr a, v => v = .ref a
  | .ty n, v => v = .ty n
  | .dk ks xs, v => ∃ a vs, v = .ref a ∧ ¬ L a ∧ Rd H a (.dK (ks.zip vs)) ∧ ks.length = vs.length ∧ RepL K CR al L H xs vs
  | .dt ks xs, v => ∃ a vs, v = .ref a ∧ ¬ L a ∧ Rd H a (.dT (ks.zip vs)) ∧ ks.length = vs.length ∧ RepL K CR al L H xs vs
  | .exc C ns xs, v => ∃ a d vs, v = .ref a ∧ ¬ L a ∧ H a = some (exv a (He.ga K C) d) ∧ ns.length = vs.length ∧ ((d = none ∧ ns = []) ∨ ∃ dd, d = some dd ∧ ¬ L dd ∧ H dd = some (.xd (ns.zip vs))) ∧ RepL K CR al L H xs vs
def RepL (K : PySem.W.Frag) (CR : Addr) (al : List Addr) (L : Addr → Prop) (H : Hp) : List PV → List V → Prop
  | [], vs => vs = []
  | x :: xs, vs => ∃ v r, vs = v :: r ∧ Rep K CR al L H x v ∧ RepL K CR al L H xs r
end
/-- where one stands: the shared objects' addresses, what may be written, the abstract heap -/
structure Lc where
  al : List Addr
  M : Addr → Prop
  H : Hp
/-- fixed through a body: the class Ratio, what else must not be met (the callers' own lists), what is wanted of an exception -/
structure Gx where
  CR : Addr
  N : Addr → Prop
  W : WX
abbrev Gx.L (g : Gx) (l : Lc) : Addr → Prop := fun a => l.M a ∨ g.N a
abbrev RepG (K : PySem.W.Frag) (g : Gx) (l : Lc) : PV → V → Prop := Rep K g.CR l.al (g.L l) l.H
abbrev RepGL (K : PySem.W.Frag) (g : Gx) (l : Lc) : List PV → List V → Prop := RepL K g.CR l.al (g.L l) l.H
structure Step (l l' : Lc) : Prop where
  pre : ∃ b, l'.al = l.al ++ b
  new : ∀ a, l'.M a → l.M a ∨ l.H a = none
  keep : ∀ a o, ¬ l.M a → l.H a = some o → l'.H a = some o
  dom : ∀ a, l.H a ≠ none → l'.H a ≠ none
theorem Step.refl (l : Lc) : Step l l := ⟨⟨[], by simp⟩, fun _ h => .inl h, fun _ _ _ h => h, fun _ h => h⟩
theorem Step.trans {l l1 l2 : Lc} (a : Step l l1) (b : Step l1 l2) : Step l l2 where
  pre := by
    obtain ⟨x, hx⟩ := a.pre
    obtain ⟨y, hy⟩ := b.pre
    exact ⟨x ++ y, by rw [hy, hx, List.append_assoc]⟩
  new := fun c h => by
    rcases b.new c h with h | h
    · exact a.new c h
    · cases q : l.H c with
      | none => exact .inr rfl
      | some o => exact absurd h (a.dom c (by rw [q]; simp))
  keep := fun c o h e => by
    have e1 := a.keep c o h e
    refine b.keep c o (fun z => ?_) e1
    rcases a.new c z with z | z
    · exact h z
    · rw [z] at e; cases e
  dom := fun c h => b.dom c (a.dom c h)

theorem Rd.keep {H H' : Hp} {a : Addr} {o : HO} (k : ∀ o, H a = some o → H' a = some o) (h : Rd H a o) : Rd H' a o := by
  rcases h with h | ⟨u, h⟩
  · exact .inl (k _ h)
  · exact .inr ⟨u, k _ h⟩
theorem Rd.some {H : Hp} {a : Addr} {o : HO} (h : Rd H a o) : ∃ u, H a = some u := by
  rcases h with h | ⟨u, h⟩
  · exact ⟨_, h⟩
  · exact ⟨_, h⟩
theorem SqT.of2 {K : PySem.W.Frag} {L : Addr → Prop} {H : Hp} {a : Addr} {xs : List V} (h : ¬ L a ∧ Rd H a (.tup xs) ∨ KT K a xs) : SqT K H a xs := by
  rcases h with ⟨_, h⟩ | h
  · exact .inl h
  · exact .inr h
theorem SqL.of2 {K : PySem.W.Frag} {L : Addr → Prop} {H : Hp} {a : Addr} {xs : List V} (h : ¬ L a ∧ Rd H a (.lst xs) ∨ KL K a xs) : SqL K H a xs := by
  rcases h with ⟨_, h⟩ | h
  · exact .inl h
  · exact .inr h
mutual
theorem Rep.mono {K : PySem.W.Frag} {CR : Addr} {al al' : List Addr} {L L' : Addr → Prop} {H H' : Hp} (ha : ∀ (n : Nat) a, al[n]? = some a → al'[n]? = some a)
    (hL : ∀ a o, ¬ L a → H a = some o → H' a = some o ∧ ¬ L' a) : ∀ (x : PV) (v : V), Rep K CR al L H x v → Rep K CR al' L' H' x v
  | .non, v, h => h
  | .bl b, v, h => h
  | .int i, v, h => h
  | .str x, v, h => h
  | .rat q, v, h => by
    obtain ⟨a, dx, e, n, h⟩ := h
    exact ⟨a, dx, e, (hL a _ n h).2, (hL a _ n h).1⟩
  | .tup xs, v, h => by
    obtain ⟨a, vs, e, h, r⟩ := h
    refine ⟨a, vs, e, ?_, RepL.mono ha hL xs vs r⟩
    rcases h with ⟨n, h⟩ | h
    · obtain ⟨u, hu⟩ := Rd.some h
      exact .inl ⟨(hL a u n hu).2, Rd.keep (fun o q => (hL a o n q).1) h⟩
    · exact .inr h
  | .lst xs, v, h => by
    obtain ⟨a, vs, e, n, h, r⟩ := h
    exact ⟨a, vs, e, (hL a _ n h).2, (hL a _ n h).1, RepL.mono ha hL xs vs r⟩
  | .frz xs, v, h => by
    obtain ⟨a, vs, e, h, r⟩ := h
    refine ⟨a, vs, e, ?_, RepL.mono ha hL xs vs r⟩
    rcases h with ⟨n, h⟩ | h
    · obtain ⟨u, hu⟩ := Rd.some h
      exact .inl ⟨(hL a u n hu).2, Rd.keep (fun o q => (hL a o n q).1) h⟩
    · exact .inr h
  | .obj C ns xs, v, h => by
    obtain ⟨a, dx, vs, e, n, h, z, r⟩ := h
    exact ⟨a, dx, vs, e, (hL a _ n h).2, (hL a _ n h).1, z, RepL.mono ha hL xs vs r⟩
  | .ptr n, v, h => by
    obtain ⟨a, h, e⟩ := h
    exact ⟨a, ha n a h, e⟩
  | .adr a, v, h => h
  | .ty n, v, h => h
  | .dk ks xs, v, h => by
    obtain ⟨a, vs, e, n, h, z, r⟩ := h
    obtain ⟨u, hu⟩ := Rd.some h
    exact ⟨a, vs, e, (hL a u n hu).2, Rd.keep (fun o q => (hL a o n q).1) h, z, RepL.mono ha hL xs vs r⟩
  | .dt ks xs, v, h => by
    obtain ⟨a, vs, e, n, h, z, r⟩ := h
    obtain ⟨u, hu⟩ := Rd.some h
    exact ⟨a, vs, e, (hL a u n hu).2, Rd.keep (fun o q => (hL a o n q).1) h, z, RepL.mono ha hL xs vs r⟩
  | .exc C ns xs, v, h => by
    obtain ⟨a, d, vs, e, n, h, z, q, r⟩ := h
    refine ⟨a, d, vs, e, (hL a _ n h).2, (hL a _ n h).1, z, ?_, RepL.mono ha hL xs vs r⟩
    rcases q with q | ⟨dd, q1, q2, q3⟩
    · exact .inl q
    · exact .inr ⟨dd, q1, (hL dd _ q2 q3).2, (hL dd _ q2 q3).1⟩
theorem RepL.mono {K : PySem.W.Frag} {CR : Addr} {al al' : List Addr} {L L' : Addr → Prop} {H H' : Hp} (ha : ∀ (n : Nat) a, al[n]? = some a → al'[n]? = some a)
    (hL : ∀ a o, ¬ L a → H a = some o → H' a = some o ∧ ¬ L' a) : ∀ (x : List PV) (v : List V), RepL K CR al L H x v → RepL K CR al' L' H' x v
  | [], v, h => h
  | x :: xs, v, h => by
    obtain ⟨u, r, e, h1, h2⟩ := h
    exact ⟨u, r, e, Rep.mono ha hL x u h1, RepL.mono ha hL xs r h2⟩
end
theorem Step.al {l l' : Lc} (st : Step l l') (n : Nat) (a : Addr) (h : l.al[n]? = some a) : l'.al[n]? = some a := by
  obtain ⟨b, e⟩ := st.pre
  rw [e, List.getElem?_append_left (List.getElem?_eq_some_iff.mp h).1]
  exact h
theorem Step.repL' {l l' : Lc} {g : Gx} (st : Step l l') (a : Addr) (o : HO) (n : ¬ g.L l a) (h : l.H a = some o) : l'.H a = some o ∧ ¬ g.L l' a := by
  refine ⟨st.keep a o (fun z => n (.inl z)) h, fun z => ?_⟩
  rcases z with z | z
  · rcases st.new a z with q | q
    · exact n (.inl q)
    · rw [h] at q; cases q
  · exact n (.inr z)
theorem Step.rep {K : PySem.W.Frag} {g : Gx} {l l' : Lc} (st : Step l l') {x : PV} {v : V} (h : RepG K g l x v) : RepG K g l' x v := Rep.mono st.al (fun a o => st.repL' a o) x v h
theorem Step.reps {K : PySem.W.Frag} {g : Gx} {l l' : Lc} (st : Step l l') {x : List PV} {v : List V} (h : RepGL K g l x v) : RepGL K g l' x v := RepL.mono st.al (fun a o => st.repL' a o) x v h
theorem RepL.length {K : PySem.W.Frag} {CR : Addr} {al : List Addr} {L : Addr → Prop} {H : Hp} : ∀ {xs : List PV} {vs : List V}, RepL K CR al L H xs vs → xs.length = vs.length
  | [], vs, h => by have e : vs = [] := h; rw [e]; rfl
  | x :: xs, vs, h => by
    obtain ⟨v, r, e, _, h2⟩ := h
    rw [e, List.length_cons, List.length_cons, RepL.length h2]
theorem RepL.get {K : PySem.W.Frag} {CR : Addr} {al : List Addr} {L : Addr → Prop} {H : Hp} : ∀ {xs : List PV} {vs : List V} {i : Nat} {x : PV}, RepL K CR al L H xs vs → xs[i]? = some x → ∃ v, vs[i]? = some v ∧ Rep K CR al L H x v
  | [], _, _, _, _, e => by simp at e
  | y :: xs, vs, 0, x, h, e => by
    obtain ⟨v, r, ev, h1, _⟩ := h
    simp only [List.getElem?_cons_zero, Option.some.injEq] at e
    subst e
    exact ⟨v, by rw [ev]; rfl, h1⟩
  | y :: xs, vs, i + 1, x, h, e => by
    obtain ⟨v, r, ev, _, h2⟩ := h
    obtain ⟨u, h3, h4⟩ := RepL.get (i := i) (x := x) h2 (by simpa using e)
    exact ⟨u, by rw [ev]; simpa using h3, h4⟩
theorem RepL.append {K : PySem.W.Frag} {CR : Addr} {al : List Addr} {L : Addr → Prop} {H : Hp} : ∀ {xs ys : List PV} {vs ws : List V}, RepL K CR al L H xs vs → RepL K CR al L H ys ws → RepL K CR al L H (xs ++ ys) (vs ++ ws)
  | [], ys, vs, ws, h, q => by have e : vs = [] := h; rw [e]; exact q
  | x :: xs, ys, vs, ws, h, q => by
    obtain ⟨v, r, ev, h1, h2⟩ := h
    exact ⟨v, r ++ ws, by rw [ev]; rfl, h1, RepL.append h2 q⟩
theorem RepL.split {K : PySem.W.Frag} {CR : Addr} {al : List Addr} {L : Addr → Prop} {H : Hp} : ∀ {xs ys : List PV} {vs : List V}, RepL K CR al L H (xs ++ ys) vs → ∃ v1 v2, vs = v1 ++ v2 ∧ RepL K CR al L H xs v1 ∧ RepL K CR al L H ys v2
  | [], ys, vs, h => ⟨[], vs, rfl, rfl, h⟩
  | x :: xs, ys, vs, h => by
    obtain ⟨v, r, ev, h1, h2⟩ := h
    obtain ⟨v1, v2, e, a, b⟩ := RepL.split h2
    exact ⟨v :: v1, v2, by rw [ev, e]; rfl, ⟨v, v1, rfl, h1, a⟩, b⟩
theorem RepL.iff {K : PySem.W.Frag} {CR : Addr} {al : List Addr} {L : Addr → Prop} {H : Hp} : ∀ {xs : List PV} {vs : List V}, RepL K CR al L H xs vs ↔ xs.length = vs.length ∧ ∀ (i : Nat) x, xs[i]? = some x → ∃ v, vs[i]? = some v ∧ Rep K CR al L H x v
  | [], [] => ⟨fun _ => ⟨rfl, fun i x h => by simp at h⟩, fun _ => rfl⟩
  | [], v :: vs => ⟨fun h => (by cases h), fun h => nomatch h.1⟩
  | x :: xs, [] => ⟨fun h => (by obtain ⟨v, r, e, _⟩ := h; exact nomatch e), fun h => nomatch h.1⟩
  | x :: xs, v :: vs => by
    refine ⟨fun h => ⟨h.length, fun i y => h.get⟩, fun ⟨h1, h2⟩ => ?_⟩
    obtain ⟨u, e, r⟩ := h2 0 x rfl
    simp only [List.getElem?_cons_zero, Option.some.injEq] at e
    subst e
    exact ⟨v, vs, rfl, r, RepL.iff.mpr ⟨by simpa using h1, fun i y hy => by simpa using h2 (i + 1) y (by simpa using hy)⟩⟩
end L3

namespace L3
open PySem PySem.Spec PyProof.Rows L2

abbrev St := L2.St
/-! ## the state -/
def MoRep (K : PySem.W.Frag) (g : Gx) (l : Lc) (a : Addr) : MO → Prop
  | .lst xs => ∃ vs, l.H a = some (.lst vs) ∧ RepGL K g l xs vs
  | .ins C ns xs => ∃ dx vs, l.H a = some (.ins C dx (ns.zip vs)) ∧ ns.length = vs.length ∧ RepGL K g l xs vs
structure Sok (K : PySem.W.Frag) (g : Gx) (l : Lc) (s : S) (σ : St) : Prop where
  len : s.env.length = σ.length
  env : ∀ (i : Nat) v, s.env[i]? = some (some (.val v)) → ∃ u, σ[i]? = some (some u) ∧ RepG K g l v u
  own : ∀ (i : Nat) xs, s.env[i]? = some (some (.own xs)) → ∃ a vs, σ[i]? = some (some (.ref a)) ∧ l.M a ∧ a ∉ l.al ∧ l.H a = some (.lst vs) ∧ RepGL K g l xs vs
  dis : ∀ (i j : Nat) xs ys a, i ≠ j → s.env[i]? = some (some (.own xs)) → s.env[j]? = some (some (.own ys)) → σ[i]? = some (some (.ref a)) → σ[j]? = some (some (.ref a)) → False
  mlen : l.al.length = s.mu.length
  mu : ∀ (n : Nat) a m, l.al[n]? = some a → s.mu[n]? = some m → MoRep K g l a m
  nd : l.al.Nodup
  alM : ∀ a, a ∈ l.al → l.M a
  there : ∀ a, l.M a ∨ g.N a → l.H a ≠ none
  mn : ∀ a, l.M a → ¬ g.N a
/-- an exception's abstract value -/
def RepX (K : PySem.W.Frag) (g : Gx) (l : Lc) (e : PV) (cls : Value) (dd : Option Addr) : Prop :=
  ∃ c ns xs vs, e = .exc c ns xs ∧ cls = .ref (He.ga K c) ∧ ns.length = vs.length ∧ RepGL K g l xs vs ∧ ((dd = none ∧ ns = []) ∨ ∃ d, dd = some d ∧ ¬ g.L l d ∧ l.H d = some (.xd (ns.zip vs)))

/-- from here on, for an expression -/
def Run (K : PySem.W.Frag) (g : Gx) (r : R S PV) (l : Lc) (σ : St) (Q : VK) : Prop := match r with
  | .ok v s' => ∀ l' u, Step l l' → Sok K g l' s' σ → RepG K g l' v u → Q u l'.H
  | .exn e s' => ∀ l' cls dd, Step l l' → Sok K g l' s' σ → RepX K g l' e cls dd → g.W cls dd σ l'.H
  | .bad => False
def RunT (K : PySem.W.Frag) (g : Gx) (r : R S Bool) (l : Lc) (σ : St) (Q : Bool → Hp → Prop) : Prop := match r with
  | .ok b s' => ∀ l', Step l l' → Sok K g l' s' σ → Q b l'.H
  | .exn e s' => ∀ l' cls dd, Step l l' → Sok K g l' s' σ → RepX K g l' e cls dd → g.W cls dd σ l'.H
  | .bad => False
def RunA (K : PySem.W.Frag) (g : Gx) (r : R S (List PV)) (l : Lc) (σ : St) (Q : List V → Hp → Prop) : Prop := match r with
  | .ok vs s' => ∀ l' us, Step l l' → Sok K g l' s' σ → RepGL K g l' vs us → Q us l'.H
  | .exn e s' => ∀ l' cls dd, Step l l' → Sok K g l' s' σ → RepX K g l' e cls dd → g.W cls dd σ l'.H
  | .bad => False
def RunS (K : PySem.W.Frag) (g : Gx) (r : R S Fl) (l : Lc) (D : Ends) (σ : St) : Prop := match r with
  | .ok .nx s' => ∀ l' σ', Step l l' → Sok K g l' s' σ' → D.nx σ' l'.H
  | .ok .bk s' => ∀ l' σ', Step l l' → Sok K g l' s' σ' → D.bk σ' l'.H
  | .ok .ct s' => ∀ l' σ', Step l l' → Sok K g l' s' σ' → D.ct σ' l'.H
  | .ok (.rt v) s' => ∀ l' σ' u, Step l l' → Sok K g l' s' σ' → RepG K g l' v u → D.rt u l'.H
  | .exn e s' => ∀ l' σ' cls dd, Step l l' → Sok K g l' s' σ' → RepX K g l' e cls dd → g.W cls dd σ' l'.H
  | .bad => False
def LE (K : PySem.W.Frag) (g : Gx) (d : DE) : TE := fun σ H Q => ∃ l s, l.H = H ∧ Sok K g l s σ ∧ Run K g (d s) l σ Q
def LT (K : PySem.W.Frag) (g : Gx) (d : DT) : TT := fun σ H Q => ∃ l s, l.H = H ∧ Sok K g l s σ ∧ RunT K g (d s) l σ Q
def LA (K : PySem.W.Frag) (g : Gx) (d : DA) : TA := fun σ H Q => ∃ l s, l.H = H ∧ Sok K g l s σ ∧ RunA K g (d s) l σ Q
def LS (K : PySem.W.Frag) (g : Gx) (d : DS) : TS := fun D σ H => ∃ l s, l.H = H ∧ Sok K g l s σ ∧ RunS K g (d s) l D σ
/-- the judgements: code and what it computes -/
abbrev JE (X : Cx) (g : Gx) (e : Expr) (d : DE) : Prop := PE X e (LE X.K g d)
abbrev JT (X : Cx) (g : Gx) (e : Expr) (d : DT) : Prop := PT X e (LT X.K g d)
abbrev JW (X : Cx) (g : Gx) (e : Expr) (d : DT) : Prop := PW X e (LT X.K g d)
abbrev JA (X : Cx) (g : Gx) (es : List Expr) (d : DA) : Prop := PA X es (LA X.K g d)
abbrev JS (X : Cx) (g : Gx) (st : Stmt) (d : DS) : Prop := PS X st (LS X.K g d)
abbrev JSs (X : Cx) (g : Gx) (st : List Stmt) (d : DS) : Prop := PSs X st (LS X.K g d)

section
variable {K : PySem.W.Frag} {g : Gx} {l l1 : Lc} {σ : St} {Q : VK}
theorem Run.step {r : R S PV} (h : Run K g r l σ Q) (st : Step l l1) : Run K g r l1 σ Q := by
  cases r with
  | ok v s' => exact fun l' u a => h l' u (st.trans a)
  | exn e s' => exact fun l' c d a => h l' c d (st.trans a)
  | bad => exact h
theorem RunT.step {r : R S Bool} {Q : Bool → Hp → Prop} (h : RunT K g r l σ Q) (st : Step l l1) : RunT K g r l1 σ Q := by
  cases r with
  | ok v s' => exact fun l' a => h l' (st.trans a)
  | exn e s' => exact fun l' c d a => h l' c d (st.trans a)
  | bad => exact h
theorem RunA.step {r : R S (List PV)} {Q : List V → Hp → Prop} (h : RunA K g r l σ Q) (st : Step l l1) : RunA K g r l1 σ Q := by
  cases r with
  | ok v s' => exact fun l' u a => h l' u (st.trans a)
  | exn e s' => exact fun l' c d a => h l' c d (st.trans a)
  | bad => exact h
theorem RunS.step {r : R S Fl} {D : Ends} (h : RunS K g r l D σ) (st : Step l l1) : RunS K g r l1 D σ := by
  cases r with
  | ok f s' =>
    cases f with
    | nx => exact fun l' u a => h l' u (st.trans a)
    | bk => exact fun l' u a => h l' u (st.trans a)
    | ct => exact fun l' u a => h l' u (st.trans a)
    | rt v => exact fun l' u x a => h l' u x (st.trans a)
  | exn e s' => exact fun l' u c d a => h l' u c d (st.trans a)
  | bad => exact h
theorem Run.mono {r : R S PV} {Q' : VK} (h : Run K g r l σ Q) (i : ∀ u H, Q u H → Q' u H) : Run K g r l σ Q' := by
  cases r with
  | ok v s' => exact fun l' u a b c => i _ _ (h l' u a b c)
  | exn e s' => exact h
  | bad => exact h
theorem RunT.mono {r : R S Bool} {Q Q' : Bool → Hp → Prop} (h : RunT K g r l σ Q) (i : ∀ u H, Q u H → Q' u H) : RunT K g r l σ Q' := by
  cases r with
  | ok v s' => exact fun l' a b => i _ _ (h l' a b)
  | exn e s' => exact h
  | bad => exact h
theorem RunA.mono {r : R S (List PV)} {Q Q' : List V → Hp → Prop} (h : RunA K g r l σ Q) (i : ∀ u H, Q u H → Q' u H) : RunA K g r l σ Q' := by
  cases r with
  | ok v s' => exact fun l' u a b c => i _ _ (h l' u a b c)
  | exn e s' => exact h
  | bad => exact h
/-- an expression, then what follows -/
theorem Run.bind {r : R S PV} {k : PV → S → R S PV} (h : Run K g (r.bind k) l σ Q) : Run K g r l σ (fun u H1 => ∃ l1 s1 v, l1.H = H1 ∧ Sok K g l1 s1 σ ∧ RepG K g l1 v u ∧ Step l l1 ∧ Run K g (k v s1) l1 σ Q) := by
  cases r with
  | ok v s' => exact fun l' u a ok rp => ⟨l', s', v, rfl, ok, rp, a, Run.step (r := k v s') h a⟩
  | exn e s' => exact h
  | bad => exact h
theorem Run.bindT {r : R S PV} {k : PV → S → R S Bool} {Q : Bool → Hp → Prop} (h : RunT K g (r.bind k) l σ Q) : Run K g r l σ (fun u H1 => ∃ l1 s1 v, l1.H = H1 ∧ Sok K g l1 s1 σ ∧ RepG K g l1 v u ∧ Step l l1 ∧ RunT K g (k v s1) l1 σ Q) := by
  cases r with
  | ok v s' => exact fun l' u a ok rp => ⟨l', s', v, rfl, ok, rp, a, RunT.step (r := k v s') h a⟩
  | exn e s' => exact h
  | bad => exact h
theorem Run.bindA {r : R S PV} {k : PV → S → R S (List PV)} {Q : List V → Hp → Prop} (h : RunA K g (r.bind k) l σ Q) : Run K g r l σ (fun u H1 => ∃ l1 s1 v, l1.H = H1 ∧ Sok K g l1 s1 σ ∧ RepG K g l1 v u ∧ Step l l1 ∧ RunA K g (k v s1) l1 σ Q) := by
  cases r with
  | ok v s' => exact fun l' u a ok rp => ⟨l', s', v, rfl, ok, rp, a, RunA.step (r := k v s') h a⟩
  | exn e s' => exact h
  | bad => exact h
theorem Run.bindS {r : R S PV} {k : PV → S → R S Fl} {D : Ends} (h : RunS K g (r.bind k) l D σ) : Run K g r l σ (fun u H1 => ∃ l1 s1 v, l1.H = H1 ∧ Sok K g l1 s1 σ ∧ RepG K g l1 v u ∧ Step l l1 ∧ RunS K g (k v s1) l1 D σ) := by
  cases r with
  | ok v s' => exact fun l' u a ok rp => ⟨l', s', v, rfl, ok, rp, a, RunS.step (r := k v s') h a⟩
  | exn e s' => exact fun l' c d => h l' σ c d
  | bad => exact h
theorem RunT.bind {r : R S Bool} {k : Bool → S → R S PV} (h : Run K g (r.bind k) l σ Q) : RunT K g r l σ (fun b H1 => ∃ l1 s1, l1.H = H1 ∧ Sok K g l1 s1 σ ∧ Step l l1 ∧ Run K g (k b s1) l1 σ Q) := by
  cases r with
  | ok v s' => exact fun l' a ok => ⟨l', s', rfl, ok, a, Run.step (r := k v s') h a⟩
  | exn e s' => exact h
  | bad => exact h
theorem RunT.bindT {r : R S Bool} {k : Bool → S → R S Bool} {Q : Bool → Hp → Prop} (h : RunT K g (r.bind k) l σ Q) : RunT K g r l σ (fun b H1 => ∃ l1 s1, l1.H = H1 ∧ Sok K g l1 s1 σ ∧ Step l l1 ∧ RunT K g (k b s1) l1 σ Q) := by
  cases r with
  | ok v s' => exact fun l' a ok => ⟨l', s', rfl, ok, a, RunT.step (r := k v s') h a⟩
  | exn e s' => exact h
  | bad => exact h
theorem RunT.bindS {r : R S Bool} {k : Bool → S → R S Fl} {D : Ends} (h : RunS K g (r.bind k) l D σ) : RunT K g r l σ (fun b H1 => ∃ l1 s1, l1.H = H1 ∧ Sok K g l1 s1 σ ∧ Step l l1 ∧ RunS K g (k b s1) l1 D σ) := by
  cases r with
  | ok v s' => exact fun l' a ok => ⟨l', s', rfl, ok, a, RunS.step (r := k v s') h a⟩
  | exn e s' => exact fun l' c d => h l' σ c d
  | bad => exact h
theorem RunA.bind {r : R S (List PV)} {k : List PV → S → R S PV} (h : Run K g (r.bind k) l σ Q) : RunA K g r l σ (fun us H1 => ∃ l1 s1 vs, l1.H = H1 ∧ Sok K g l1 s1 σ ∧ RepGL K g l1 vs us ∧ Step l l1 ∧ Run K g (k vs s1) l1 σ Q) := by
  cases r with
  | ok v s' => exact fun l' u a ok rp => ⟨l', s', v, rfl, ok, rp, a, Run.step (r := k v s') h a⟩
  | exn e s' => exact h
  | bad => exact h
theorem RunA.bindA {r : R S (List PV)} {k : List PV → S → R S (List PV)} {Q : List V → Hp → Prop} (h : RunA K g (r.bind k) l σ Q) : RunA K g r l σ (fun us H1 => ∃ l1 s1 vs, l1.H = H1 ∧ Sok K g l1 s1 σ ∧ RepGL K g l1 vs us ∧ Step l l1 ∧ RunA K g (k vs s1) l1 σ Q) := by
  cases r with
  | ok v s' => exact fun l' u a ok rp => ⟨l', s', v, rfl, ok, rp, a, RunA.step (r := k v s') h a⟩
  | exn e s' => exact h
  | bad => exact h
theorem RunA.bindS {r : R S (List PV)} {k : List PV → S → R S Fl} {D : Ends} (h : RunS K g (r.bind k) l D σ) : RunA K g r l σ (fun us H1 => ∃ l1 s1 vs, l1.H = H1 ∧ Sok K g l1 s1 σ ∧ RepGL K g l1 vs us ∧ Step l l1 ∧ RunS K g (k vs s1) l1 D σ) := by
  cases r with
  | ok v s' => exact fun l' u a ok rp => ⟨l', s', v, rfl, ok, rp, a, RunS.step (r := k v s') h a⟩
  | exn e s' => exact fun l' c d => h l' σ c d
  | bad => exact h
end

section
variable {X : Cx}
/-- what suffices -/
theorem PE.cq {e : Expr} {t t' : TE} (h : PE X e t) (i : ∀ pins s σ H Q, Inv X pins σ H s → t' σ H Q → t σ H Q) : PE X e t' := ⟨fun pins s σ H Q I q => h.run pins s σ H Q I (i pins s σ H Q I q)⟩
theorem PT.cq {e : Expr} {t t' : TT} (h : PT X e t) (i : ∀ σ H Q, t' σ H Q → t σ H Q) : PT X e t' := ⟨fun pins s σ H Q I q => h.run pins s σ H Q I (i σ H Q q)⟩
theorem PW.cq {e : Expr} {t t' : TT} (h : PW X e t) (i : ∀ σ H Q, t' σ H Q → t σ H Q) : PW X e t' := ⟨fun wh pins s σ H Q I q => h.run wh pins s σ H Q I (i σ H Q q)⟩
theorem PA.cq {es : List Expr} {t t' : TA} (h : PA X es t) (i : ∀ σ H Q, t' σ H Q → t σ H Q) : PA X es t' := ⟨fun pos pins s σ H Q I q => h.run pos pins s σ H Q I (i σ H Q q)⟩
theorem PS.cq {st : Stmt} {t t' : TS} (h : PS X st t) (i : ∀ pins s D σ H, Inv X pins σ H s → t' D σ H → t D σ H) : PS X st t' := ⟨fun pins s σ H D I q => h.run pins s σ H D I (i pins s D σ H I q)⟩
theorem PSs.cq {st : List Stmt} {t t' : TS} (h : PSs X st t) (i : ∀ D σ H, t' D σ H → t D σ H) : PSs X st t' := ⟨fun pins s σ H D I q => h.run pins s σ H D I (i D σ H q)⟩
end

section
variable {K : PySem.W.Frag} {g : Gx} {l : Lc} {s : S} {σ : St} {p : Addr} {o : HO}
theorem Step.alloc (hp : l.H p = none) : Step l ⟨l.al, l.M, upd l.H p o⟩ where
  pre := ⟨[], by simp⟩
  new := fun _ h => .inl h
  keep := fun a u _ h => by show upd l.H p o a = some u; rw [upd_ne (ne_of_none h hp)]; exact h
  dom := fun a h => by
    show upd l.H p o a ≠ none
    by_cases e : a = p
    · rw [e, upd_same]; simp
    · rw [upd_ne e]; exact h
/-- all that was known stays where objects are only made -/
theorem Sok.grow {l' : Lc} (ok : Sok K g l s σ) (ea : l'.al = l.al) (eM : l'.M = l.M) (k : ∀ a o, l.H a = some o → l'.H a = some o) : Sok K g l' s σ := by
  have st : Step l l' := ⟨⟨[], by simp [ea]⟩, fun a h => .inl (by rw [← eM]; exact h), fun a o _ h => k a o h, fun a h => by
    cases q : l.H a with
    | none => exact absurd q h
    | some o => rw [k a o q]; simp⟩
  refine ⟨ok.len, fun i v e => ?_, fun i xs e => ?_, ok.dis, by rw [ea]; exact ok.mlen, fun n a m h1 h2 => ?_, by rw [ea]; exact ok.nd, by rw [ea, eM]; exact ok.alM, fun a h => st.dom a (ok.there a (by rw [← eM]; exact h)), by rw [eM]; exact ok.mn⟩
  · obtain ⟨u, h1, h2⟩ := ok.env i v e
    exact ⟨u, h1, st.rep h2⟩
  · obtain ⟨a, vs, h1, h2, h3, h4, h5⟩ := ok.own i xs e
    exact ⟨a, vs, h1, by rw [eM]; exact h2, by rw [ea]; exact h3, k _ _ h4, st.reps h5⟩
  · rw [ea] at h1
    have q := ok.mu n a m h1 h2
    cases m with
    | lst xs =>
      obtain ⟨vs, q1, q2⟩ := q
      exact ⟨vs, k _ _ q1, st.reps q2⟩
    | ins C ns xs =>
      obtain ⟨dx, vs, q1, q2, q3⟩ := q
      exact ⟨dx, vs, k _ _ q1, q2, st.reps q3⟩
theorem Sok.alloc (ok : Sok K g l s σ) (hp : l.H p = none) : Sok K g ⟨l.al, l.M, upd l.H p o⟩ s σ :=
  ok.grow rfl rfl fun a u h => by show upd l.H p o a = some u; rw [upd_ne (ne_of_none h hp)]; exact h
theorem Sok.fresh (ok : Sok K g l s σ) (hp : l.H p = none) : ¬ g.L l p := fun h => ok.there p h hp
end
end L3

namespace L3
open PySem PySem.Spec PyProof.Rows L2

/-! ## expressions -/
@[simp] def dC (v : PV) : DE := fun s => .ok v s
@[simp] def dVar (i : Nat) : DE := fun s => match s.env[i]? with
  | some (some (.val v)) => .ok v s
  | _ => .bad
@[simp] def dBin (f : PV → PV → S → R S PV) (da db : DE) : DE := fun s => (da s).bind fun x s1 => (db s1).bind fun y s2 => f x y s2
@[simp] def dUn (f : PV → S → R S PV) (da : DE) : DE := fun s => (da s).bind f
@[simp] def dNil : DA := fun s => .ok [] s
@[simp] def dCons (da : DE) (dr : DA) : DA := fun s => (da s).bind fun x s1 => (dr s1).bind fun xs s2 => .ok (x :: xs) s2
@[simp] def dFn (f : List PV → S → R S PV) (da : DA) : DE := fun s => (da s).bind f
/-- an operation on values at a state -/
def OJ (X : Cx) (g : Gx) (fn : Value → Value → Sem Value) (f : PV → PV → S → R S PV) : Prop :=
  ∀ (pins : List (Addr × Obj)) (s : Shared) (σ : St) (x y : V) (v u : Value) (Q : VK) (l : Lc) (st : S) (p q : PV), Inv X pins σ l.H s → RelV x v → RelV y u → Sok X.K g l st σ → RepG X.K g l p x → RepG X.K g l q y →
    Run X.K g (f p q st) l σ Q → wpAny (model X.prog X.w) X.A (fn v u) (EP X pins σ Q) X.xe s
def UJ (X : Cx) (g : Gx) (fn : Value → Sem Value) (f : PV → S → R S PV) : Prop :=
  ∀ (pins : List (Addr × Obj)) (s : Shared) (σ : St) (x : V) (v : Value) (Q : VK) (l : Lc) (st : S) (p : PV), Inv X pins σ l.H s → RelV x v → Sok X.K g l st σ → RepG X.K g l p x →
    Run X.K g (f p st) l σ Q → wpAny (model X.prog X.w) X.A (fn v) (EP X pins σ Q) X.xe s
def CJ (X : Cx) (g : Gx) (fn : List Value → Sem Value) (f : List PV → S → R S PV) : Prop :=
  ∀ (pins : List (Addr × Obj)) (s : Shared) (σ : St) (xs : List V) (vs : List Value) (Q : VK) (l : Lc) (st : S) (ps : List PV), Inv X pins σ l.H s → Vals xs vs → Sok X.K g l st σ → RepGL X.K g l ps xs →
    Run X.K g (f ps st) l σ Q → wpAny (model X.prog X.w) X.A (fn vs) (EP X pins σ Q) X.xe s
section
variable {X : Cx} {g : Gx} {a b c e : Expr} {es : List Expr} {da db dc de : DE} {dr : DA} {pos : Pos}
theorem OJ.of {fn : Value → Value → Sem Value} {f : PV → PV → S → R S PV} {r : R2} (h : OpR X fn r) (i : ∀ l st σ p q x y Q, Sok X.K g l st σ → RepG X.K g l p x → RepG X.K g l q y → Run X.K g (f p q st) l σ Q → r x y l.H Q) : OJ X g fn f :=
  fun pins s σ x y v u Q l st p q I rx ry ok rp rq q' => h pins s σ l.H x y v u Q I rx ry (i l st σ p q x y Q ok rp rq q')
theorem UJ.of {fn : Value → Sem Value} {f : PV → S → R S PV} {r : V → Hp → VK → Prop} (h : UnR X fn r) (i : ∀ l st σ p x Q, Sok X.K g l st σ → RepG X.K g l p x → Run X.K g (f p st) l σ Q → r x l.H Q) : UJ X g fn f :=
  fun pins s σ x v Q l st p I rx ok rp q' => h pins s σ l.H x v Q I rx (i l st σ p x Q ok rp q')
theorem CJ.of {v : Value} {f : List PV → S → R S PV} {r : List V → Hp → VK → Prop} (h : CallR X v r) (i : ∀ l st σ ps xs Q, Sok X.K g l st σ → RepGL X.K g l ps xs → Run X.K g (f ps st) l σ Q → r xs l.H Q) : CJ X g (fun us => call v us) f :=
  fun pins s σ xs us Q l st ps I rx ok rp q' => h pins s σ l.H xs us Q I rx (i l st σ ps xs Q ok rp q')
theorem LE.here {K : PySem.W.Frag} {l : Lc} {s : S} {σ : St} {Q : VK} {d : DE} (ok : Sok K g l s σ) (h : Run K g (d s) l σ Q) : LE K g d σ l.H Q := ⟨l, s, rfl, ok, h⟩
theorem LT.here {K : PySem.W.Frag} {l : Lc} {s : S} {σ : St} {Q : Bool → Hp → Prop} {d : DT} (ok : Sok K g l s σ) (h : RunT K g (d s) l σ Q) : LT K g d σ l.H Q := ⟨l, s, rfl, ok, h⟩
theorem LA.here {K : PySem.W.Frag} {l : Lc} {s : S} {σ : St} {Q : List V → Hp → Prop} {d : DA} (ok : Sok K g l s σ) (h : RunA K g (d s) l σ Q) : LA K g d σ l.H Q := ⟨l, s, rfl, ok, h⟩
theorem LS.here {K : PySem.W.Frag} {l : Lc} {s : S} {σ : St} {D : Ends} {d : DS} (ok : Sok K g l s σ) (h : RunS K g (d s) l D σ) : LS K g d D σ l.H := ⟨l, s, rfl, ok, h⟩

theorem jc {v : V} {p : PV} (h : PE X e (tC v)) (r : ∀ l, RepG X.K g l p v) : JE X g e (dC p) := PE.cq h fun pins s σ H Q I q => by
  obtain ⟨l, s, rfl, ok, q⟩ := q
  exact q l v (Step.refl l) ok (r l)
theorem j_int {i j pos} : JE X g (.Constant (.int i) j pos) (dC (.int i)) := jc pe_int fun _ => rfl
theorem j_bl {b j pos} : JE X g (.Constant (.bool b) j pos) (dC (.bl b)) := jc pe_bl fun _ => rfl
theorem j_non {j pos} : JE X g (.Constant .none j pos) (dC .non) := jc pe_non fun _ => rfl
theorem j_str {x j pos} : JE X g (.Constant (.str x) j pos) (dC (.str x)) := jc pe_str fun _ => rfl
theorem jv (i : Nat) {x : Str} (hN : X.N[i]? = some x := by rfl) (hv : Vis X.env.scope x := by first | exact Or.inl rfl | exact Or.inr (Or.inl rfl) | exact Or.inr (Or.inr rfl)) (hd : (x == ("__debug__" : Str)) = false := by decide)
    (hcd : (x == ("__classdict__" : Str)) = false := by decide) : JE X g (.Name x pos) (dVar i) := PE.cq (pe_var hN hv hd hcd) fun pins s σ H Q I q => by
  obtain ⟨l, s, rfl, ok, q⟩ := q
  cases e : s.env[i]? with
  | none => simp only [dVar, e] at q; exact q.elim
  | some o =>
    cases o with
    | none => simp only [dVar, e] at q; exact q.elim
    | some z =>
      cases z with
      | own xs => simp only [dVar, e] at q; exact q.elim
      | val v =>
        simp only [dVar, e] at q
        obtain ⟨u, h1, h2⟩ := ok.env i v e
        exact ⟨u, h1, q l u (Step.refl l) ok h2⟩
theorem j_bin {op : Operator} {f : PV → PV → S → R S PV} (ho : OJ X g (binaryOp op) f) (ha : JE X g a da) (hb : JE X g b db) : JE X g (.BinOp a op b pos) (dBin f da db) := by
  refine ⟨fun pins s σ H Q I h => ?_⟩
  obtain ⟨l, st, rfl, ok, h⟩ := h
  refine wpAny_BinOp (binT (R := fun x y H2 => ∃ l2 st2 p q, l2.H = H2 ∧ Sok X.K g l2 st2 σ ∧ RepG X.K g l2 p x ∧ RepG X.K g l2 q y ∧ Run X.K g (f p q st2) l2 σ Q) ha hb I ?_ fun v u s2 x y H2 I2 rx ry q => ?_)
  · refine ⟨l, st, rfl, ok, Run.mono (Run.bind h) fun u H1 ⟨l1, s1, p, e1, ok1, r1, st1, h1⟩ => ?_⟩
    refine ⟨l1, s1, e1, ok1, Run.mono (Run.bind h1) fun w H2 ⟨l2, s2, q, e2, ok2, r2, st2, h2⟩ => ?_⟩
    exact ⟨l2, s2, p, q, e2, ok2, st2.rep r1, r2, h2⟩
  · obtain ⟨l2, st2, p, q, rfl, ok2, rp, rq, h⟩ := q
    exact ho pins s2 σ x y v u Q l2 st2 p q I2 rx ry ok2 rp rq h
end
end L3

namespace L3
open PySem PySem.Spec PyProof.Rows L2

/-! ## more expressions -/
@[simp] def orB {s a : Type} (x y : R s a) : R s a := match x with
  | .bad => y
  | r => r
section
variable {X : Cx} {g : Gx}
theorem OJ.or {fn : Value → Value → Sem Value} {f f' : PV → PV → S → R S PV} (h : OJ X g fn f) (h' : OJ X g fn f') : OJ X g fn (fun p q s => orB (f p q s) (f' p q s)) :=
  fun pins s σ x y v u Q l st p q I rx ry ok rp rq r => by
    have r : Run X.K g (orB (f p q st) (f' p q st)) l σ Q := r
    cases e : f p q st with
    | bad => rw [e] at r; exact h' pins s σ x y v u Q l st p q I rx ry ok rp rq r
    | ok w t => rw [e] at r; exact h pins s σ x y v u Q l st p q I rx ry ok rp rq (by rw [e]; exact r)
    | exn w t => rw [e] at r; exact h pins s σ x y v u Q l st p q I rx ry ok rp rq (by rw [e]; exact r)
theorem UJ.or {fn : Value → Sem Value} {f f' : PV → S → R S PV} (h : UJ X g fn f) (h' : UJ X g fn f') : UJ X g fn (fun p s => orB (f p s) (f' p s)) :=
  fun pins s σ x v Q l st p I rx ok rp r => by
    have r : Run X.K g (orB (f p st) (f' p st)) l σ Q := r
    cases e : f p st with
    | bad => rw [e] at r; exact h' pins s σ x v Q l st p I rx ok rp r
    | ok w t => rw [e] at r; exact h pins s σ x v Q l st p I rx ok rp (by rw [e]; exact r)
    | exn w t => rw [e] at r; exact h pins s σ x v Q l st p I rx ok rp (by rw [e]; exact r)
theorem CJ.or {fn : List Value → Sem Value} {f f' : List PV → S → R S PV} (h : CJ X g fn f) (h' : CJ X g fn f') : CJ X g fn (fun p s => orB (f p s) (f' p s)) :=
  fun pins s σ x v Q l st p I rx ok rp r => by
    have r : Run X.K g (orB (f p st) (f' p st)) l σ Q := r
    cases e : f p st with
    | bad => rw [e] at r; exact h' pins s σ x v Q l st p I rx ok rp r
    | ok w t => rw [e] at r; exact h pins s σ x v Q l st p I rx ok rp (by rw [e]; exact r)
    | exn w t => rw [e] at r; exact h pins s σ x v Q l st p I rx ok rp (by rw [e]; exact r)
end

/-! ### ints -/
@[simp] def fI2 (F : Int → Int → Option PV) : PV → PV → S → R S PV := fun p q s => match p, q with
  | .int i, .int j => (match F i j with | some v => .ok v s | none => .bad)
  | _, _ => .bad
section
variable {X : Cx} {g : Gx}
/-- two ints by a rule of the layer -/
theorem OJ.ints {fn : Value → Value → Sem Value} {r : R2} {F : Int → Int → Option PV} (h : OpR X fn r)
    (i : ∀ (i j : Int) v (H : Hp) (Q : VK), F i j = some v → (∀ u, (∀ l, RepG X.K g l v u) → Q u H) → r (.int i) (.int j) H Q) : OJ X g fn (fI2 F) :=
  OJ.of h fun l st σ p q x y Q ok rp rq run => by
    unfold fI2 at run
    split at run
    · rename_i a b
      cases e : F a b with
      | none => rw [e] at run; exact run.elim
      | some v =>
        rw [e] at run
        have ex : x = .int a := rp
        have ey : y = .int b := rq
        subst ex ey
        exact i a b v l.H Q e fun u hu => run l u (Step.refl l) ok (hu l)
    · exact run.elim
theorem o_addI : OJ X g (binaryOp .Add) (fI2 fun i j => some (.int (i + j))) := OJ.ints op_add fun i j v H Q e q => ⟨i, j, rfl, rfl, q _ fun l => by cases e; rfl⟩
theorem o_subI : OJ X g (binaryOp .Sub) (fI2 fun i j => some (.int (i - j))) := OJ.ints op_sub fun i j v H Q e q => ⟨i, j, rfl, rfl, q _ fun l => by cases e; rfl⟩
/-- bits of an int -/
def ib (i : Int) : Nat := i.natAbs.log2 + 1
@[simp] def FMul (i j : Int) : Option PV := if ib i + ib j ≤ 1000000 then some (.int (i * j)) else none
theorem o_mulI : OJ X g (binaryOp .Mult) (fI2 FMul) := OJ.ints op_mulW fun i j v H Q e q => by
  unfold FMul at e
  split at e
  · cases e
    rename_i h
    exact ⟨i, j, rfl, rfl, by unfold CMulW; unfold ib at h; omega, q _ fun l => rfl⟩
  · cases e
@[simp] def FFdiv (i j : Int) : Option PV := if 0 < j ∧ ib j ≤ 9000 then some (.int (i / j)) else if j < 0 ∧ j.natAbs < 1073741824 then some (.int (i.fdiv j)) else none
theorem o_fdivI : OJ X g (binaryOp .FloorDiv) (fI2 FFdiv) := OJ.ints (OpR.or op_fdivW op_fdivN) fun i j v H Q e q => by
  unfold FFdiv at e
  split at e
  · cases e
    rename_i h
    exact .inl ⟨i, j, rfl, rfl, ⟨h.1, by have := h.2; unfold ib at this; omega⟩, q _ fun l => rfl⟩
  · split at e
    · cases e
      rename_i h
      exact .inr ⟨i, j, rfl, rfl, ⟨by omega, h.2⟩, q _ fun l => rfl⟩
    · cases e
@[simp] def FMod (i j : Int) : Option PV := if j ≠ 0 then some (.int (i.fmod j)) else none
theorem o_modI : OJ X g (binaryOp .Mod) (fI2 FMod) := OJ.ints op_modN fun i j v H Q e q => by
  unfold FMod at e
  split at e
  · cases e
    rename_i h
    exact ⟨i, j, rfl, rfl, h, q _ fun l => rfl⟩
  · cases e
@[simp] def FPow (i j : Int) : Option PV := if 0 ≤ j ∧ j ≤ 1000000 ∧ i.natAbs < 2 ^ 64 then some (.int (i ^ j.toNat)) else none
theorem o_powI : OJ X g (binaryOp .Pow) (fI2 FPow) := OJ.ints op_pow fun i j v H Q e q => by
  unfold FPow at e
  split at e
  · cases e
    rename_i h
    exact ⟨i, j, rfl, rfl, h, q _ fun l => rfl⟩
  · cases e
theorem o_lt : OJ X g (compareOp .Lt) (fI2 fun i j => some (.bl (decide (i < j)))) := OJ.ints op_lt fun i j v H Q e q => ⟨i, j, rfl, rfl, q _ fun l => by cases e; rfl⟩
theorem o_le : OJ X g (compareOp .LtE) (fI2 fun i j => some (.bl (decide (i ≤ j)))) := OJ.ints op_le fun i j v H Q e q => ⟨i, j, rfl, rfl, q _ fun l => by cases e; rfl⟩
theorem o_gt : OJ X g (compareOp .Gt) (fI2 fun i j => some (.bl (decide (j < i)))) := OJ.ints op_gt fun i j v H Q e q => ⟨i, j, rfl, rfl, q _ fun l => by cases e; rfl⟩
theorem o_ge : OJ X g (compareOp .GtE) (fI2 fun i j => some (.bl (decide (j ≤ i)))) := OJ.ints op_ge fun i j v H Q e q => ⟨i, j, rfl, rfl, q _ fun l => by cases e; rfl⟩
end

/-! ### lists, tuples, texts -/
@[simp] def fCat : PV → PV → S → R S PV := fun p q s => match p, q with
  | .lst xs, .lst ys => if xs.length + ys.length ≤ 16777216 then .ok (.lst (xs ++ ys)) s else .bad
  | .str x, .str y => if x.length + y.length ≤ 16777216 then .ok (.str (x ++ y)) s else .bad
  | _, _ => .bad
end L3

namespace L3
open PySem PySem.Spec PyProof.Rows L2
theorem line_eq : (sizeLine : Nat) = 16777216 := sizeLine_eq
section
variable {K : PySem.W.Frag} {g : Gx} {l : Lc} {s : S} {σ : St} {Q : VK} {xs : List PV} {vs : List V}
theorem Run.lst (run : Run K g (.ok (.lst xs) s) l σ Q) (ok : Sok K g l s σ) (r : RepGL K g l xs vs) (p : Addr) (hp : l.H p = none) : Q (.ref p) (upd l.H p (.lst vs)) :=
  run ⟨l.al, l.M, upd l.H p (.lst vs)⟩ _ (Step.alloc hp) (ok.alloc hp) ⟨p, vs, rfl, ok.fresh hp, upd_same, (Step.alloc hp).reps r⟩
theorem Run.tup (run : Run K g (.ok (.tup xs) s) l σ Q) (ok : Sok K g l s σ) (r : RepGL K g l xs vs) (p : Addr) (hp : l.H p = none) : Q (.ref p) (upd l.H p (.tup vs)) :=
  run ⟨l.al, l.M, upd l.H p (.tup vs)⟩ _ (Step.alloc hp) (ok.alloc hp) ⟨p, vs, rfl, .inl ⟨ok.fresh hp, .inl upd_same⟩, (Step.alloc hp).reps r⟩
end
theorem RepL.drop {K : PySem.W.Frag} {CR : Addr} {al : List Addr} {L : Addr → Prop} {H : Hp} : ∀ (n : Nat) {xs : List PV} {vs : List V}, RepL K CR al L H xs vs → RepL K CR al L H (xs.drop n) (vs.drop n)
  | 0, _, _, h => h
  | n + 1, [], vs, h => by have e : vs = [] := h; rw [e]; rfl
  | n + 1, x :: xs, vs, h => by
    obtain ⟨v, r, e, _, h2⟩ := h
    rw [e]
    exact RepL.drop n h2
theorem RepL.take {K : PySem.W.Frag} {CR : Addr} {al : List Addr} {L : Addr → Prop} {H : Hp} : ∀ (n : Nat) {xs : List PV} {vs : List V}, RepL K CR al L H xs vs → RepL K CR al L H (xs.take n) (vs.take n)
  | 0, _, _, h => rfl
  | n + 1, [], vs, h => by have e : vs = [] := h; rw [e]; rfl
  | n + 1, x :: xs, vs, h => by
    obtain ⟨v, r, e, h1, h2⟩ := h
    rw [e]
    exact ⟨v, r.take n, rfl, h1, RepL.take n h2⟩
theorem RepL.eraseIdx {K : PySem.W.Frag} {CR : Addr} {al : List Addr} {L : Addr → Prop} {H : Hp} : ∀ (n : Nat) {xs : List PV} {vs : List V}, RepL K CR al L H xs vs → RepL K CR al L H (xs.eraseIdx n) (vs.eraseIdx n)
  | 0, [], vs, h => by have e : vs = [] := h; rw [e]; rfl
  | 0, x :: xs, vs, h => by obtain ⟨v, r, e, h1, h2⟩ := h; rw [e]; exact h2
  | n + 1, [], vs, h => by have e : vs = [] := h; rw [e]; rfl
  | n + 1, x :: xs, vs, h => by
    obtain ⟨v, r, e, h1, h2⟩ := h
    rw [e]
    exact ⟨v, r.eraseIdx n, rfl, h1, RepL.eraseIdx n h2⟩
theorem RepL.set {K : PySem.W.Frag} {CR : Addr} {al : List Addr} {L : Addr → Prop} {H : Hp} {y : PV} {w : V} (hy : Rep K CR al L H y w) : ∀ (n : Nat) {xs : List PV} {vs : List V}, RepL K CR al L H xs vs → RepL K CR al L H (xs.set n y) (vs.set n w)
  | n, [], vs, h => by have e : vs = [] := h; rw [e]; cases n <;> rfl
  | 0, x :: xs, vs, h => by obtain ⟨v, r, e, h1, h2⟩ := h; rw [e]; exact ⟨w, r, rfl, hy, h2⟩
  | n + 1, x :: xs, vs, h => by
    obtain ⟨v, r, e, h1, h2⟩ := h
    rw [e]
    exact ⟨v, r.set n w, rfl, h1, RepL.set hy n h2⟩
theorem RepL.flat {K : PySem.W.Frag} {CR : Addr} {al : List Addr} {L : Addr → Prop} {H : Hp} {xs : List PV} {vs : List V} (h : RepL K CR al L H xs vs) : ∀ n, RepL K CR al L H (List.replicate n xs).flatten (List.replicate n vs).flatten
  | 0 => rfl
  | n + 1 => by
    rw [List.replicate_succ, List.replicate_succ, List.flatten_cons, List.flatten_cons]
    exact h.append (RepL.flat h n)
/-- xs[lo:hi] -/
def cutP (xs : List PV) (lo hi : Option Int) : List PV := (xs.drop (HT.sIx xs.length 0 lo)).take (HT.sIx xs.length xs.length hi - HT.sIx xs.length 0 lo)
theorem RepL.cut {K : PySem.W.Frag} {CR : Addr} {al : List Addr} {L : Addr → Prop} {H : Hp} {xs : List PV} {vs : List V} (h : RepL K CR al L H xs vs) (lo hi : Option Int) : RepL K CR al L H (cutP xs lo hi) (cutV vs lo hi) := by
  unfold cutP cutV
  rw [h.length]
  exact (h.drop _).take _
theorem RepL.at {K : PySem.W.Frag} {CR : Addr} {al : List Addr} {L : Addr → Prop} {H : Hp} {xs : List PV} {vs : List V} (h : RepL K CR al L H xs vs) {i : Int} {x : PV} (e : atI xs i = some x) : ∃ v, atI vs i = some v ∧ Rep K CR al L H x v := by
  unfold atI at e ⊢
  rw [← h.length]
  cases q : ixN xs.length i with
  | none => rw [q] at e; cases e
  | some j => rw [q] at e; exact h.get e
theorem RepL.len_le {n : Nat} {a b : Nat} (h : a = b) (h2 : a ≤ n) : b ≤ n := h ▸ h2

/-! ### data -/
mutual
def PV.dat : PV → Option PyData
  | .non => some .none
  | .bl b => some (.bool b)
  | .int i => some (.int i)
  | .str x => some (.str x)
  | .tup xs => (match PV.datL xs with | some ds => some (.tuple ds) | none => none)
  | .lst xs => (match PV.datL xs with | some ds => some (.list ds) | none => none)
  | .frz xs => (match PV.datL xs with | some ds => some (.list ds) | none => none)
  | _ => none
def PV.datL : List PV → Option (List PyData)
  | [] => some []
  | x :: xs => (match x.dat, PV.datL xs with | some d, some ds => some (d :: ds) | _, _ => none)
end
mutual
theorem PV.dat_dp {K : PySem.W.Frag} {CR : Addr} {al : List Addr} {L : Addr → Prop} {H : Hp} : ∀ (x : PV) (d : PyData) (v : V), x.dat = some d → Rep K CR al L H x v → Dp K H v d
  | .non, d, v, e, r => by cases e; have q : v = .non := r; rw [q]; exact .non
  | .bl b, d, v, e, r => by cases e; have q : v = .bl b := r; rw [q]; exact .bl b
  | .int i, d, v, e, r => by cases e; have q : v = .int i := r; rw [q]; exact .int i
  | .str x, d, v, e, r => by cases e; have q : v = .str x := r; rw [q]; exact .str x
  | .tup xs, d, v, e, r => by
    obtain ⟨a, vs, rfl, h, r⟩ := r
    unfold PV.dat at e
    cases q : PV.datL xs with
    | none => rw [q] at e; cases e
    | some ds => rw [q] at e; cases e; exact .tup (SqT.of2 h) (PV.datL_dp xs ds vs q r)
  | .lst xs, d, v, e, r => by
    obtain ⟨a, vs, rfl, _, h, r⟩ := r
    unfold PV.dat at e
    cases q : PV.datL xs with
    | none => rw [q] at e; cases e
    | some ds => rw [q] at e; cases e; exact .lst (SqL.of h) (PV.datL_dp xs ds vs q r)
  | .frz xs, d, v, e, r => by
    obtain ⟨a, vs, rfl, h, r⟩ := r
    unfold PV.dat at e
    cases q : PV.datL xs with
    | none => rw [q] at e; cases e
    | some ds => rw [q] at e; cases e; exact .lst (SqL.of2 h) (PV.datL_dp xs ds vs q r)
  | .rat q, d, v, e, r => nomatch e
  | .obj C ns xs, d, v, e, r => nomatch e
  | .ptr n, d, v, e, r => nomatch e
  | .adr a, d, v, e, r => nomatch e
  | .ty n, d, v, e, r => nomatch e
  | .dk ks xs, d, v, e, r => nomatch e
  | .dt ks xs, d, v, e, r => nomatch e
  | .exc C ns xs, d, v, e, r => nomatch e
theorem PV.datL_dp {K : PySem.W.Frag} {CR : Addr} {al : List Addr} {L : Addr → Prop} {H : Hp} : ∀ (xs : List PV) (ds : List PyData) (vs : List V), PV.datL xs = some ds → RepL K CR al L H xs vs → DpAll K H vs ds
  | [], ds, vs, e, r => by cases e; have q : vs = [] := r; rw [q]; exact .nil
  | x :: xs, ds, vs, e, r => by
    obtain ⟨v, w, rfl, h1, h2⟩ := r
    unfold PV.datL at e
    cases q1 : x.dat with
    | none => rw [q1] at e; cases e
    | some d =>
      cases q2 : PV.datL xs with
      | none => rw [q1, q2] at e; cases e
      | some ds' => rw [q1, q2] at e; cases e; exact .cons (PV.dat_dp x d v q1 h1) (PV.datL_dp xs ds' w q2 h2)
end
def fEqD (neg : Bool) : PV → PV → S → R S PV := fun p q s => match p.dat, q.dat with
  | some d, some e => if SeqAt.shaped d = true ∧ SeqAt.shaped e = true then .ok (.bl (xor neg (PyData.eqv d e))) s else .bad
  | _, _ => .bad
section
variable {X : Cx} {g : Gx}
theorem o_eqD (hu : X.A.units + 64 < cLine) : OJ X g (compareOp .Eq) (fEqD false) := OJ.of (op_eqD hu) fun l st σ p q x y Q ok rp rq run => by
  unfold fEqD at run
  split at run
  · rename_i d e h1 h2
    split at run
    · rename_i h3
      refine ⟨d, e, p.dat_dp d x h1 rp, q.dat_dp e y h2 rq, h3.1, h3.2, ?_⟩
      have z := run l (.bl (xor false (PyData.eqv d e))) (Step.refl l) ok rfl
      rwa [Bool.false_xor] at z
    · exact run.elim
  · exact run.elim
theorem o_neD (hu : X.A.units + 64 < cLine) : OJ X g (compareOp .NotEq) (fEqD true) := OJ.of (op_neD hu) fun l st σ p q x y Q ok rp rq run => by
  unfold fEqD at run
  split at run
  · rename_i d e h1 h2
    split at run
    · rename_i h3
      refine ⟨d, e, p.dat_dp d x h1 rp, q.dat_dp e y h2 rq, h3.1, h3.2, ?_⟩
      have z := run l (.bl (xor true (PyData.eqv d e))) (Step.refl l) ok rfl
      rwa [Bool.true_xor] at z
    · exact run.elim
  · exact run.elim
/-! ### is None -/
@[simp] def PV.isNon : PV → Bool
  | .non => true
  | _ => false
@[simp] def fIsN (neg : Bool) : PV → PV → S → R S PV := fun p q s => match q with
  | .non => .ok (.bl (xor neg p.isNon)) s
  | _ => .bad
theorem rep_non {K : PySem.W.Frag} {CR : Addr} {al : List Addr} {L : Addr → Prop} {H : Hp} {p : PV} {x : V} (r : Rep K CR al L H p x) : decide (x = .non) = p.isNon := by
  cases p with
  | non => have e : x = .non := r; rw [e]; rfl
  | bl b => have e : x = .bl b := r; rw [e]; rfl
  | int b => have e : x = .int b := r; rw [e]; rfl
  | str b => have e : x = .str b := r; rw [e]; rfl
  | rat q => obtain ⟨a, dx, e, _⟩ := r; rw [e]; rfl
  | tup q => obtain ⟨a, dx, e, _⟩ := r; rw [e]; rfl
  | lst q => obtain ⟨a, dx, e, _⟩ := r; rw [e]; rfl
  | frz q => obtain ⟨a, dx, e, _⟩ := r; rw [e]; rfl
  | obj C ns q => obtain ⟨a, dx, vs, e, _⟩ := r; rw [e]; rfl
  | ptr n => obtain ⟨a, _, e⟩ := r; rw [e]; rfl
  | adr n => have e : x = .ref n := r; rw [e]; rfl
  | ty n => have e : x = .ty n := r; rw [e]; rfl
  | dk ks q => obtain ⟨a, vs, e, _⟩ := r; rw [e]; rfl
  | dt ks q => obtain ⟨a, vs, e, _⟩ := r; rw [e]; rfl
  | exc C ns q => obtain ⟨a, d, vs, e, _⟩ := r; rw [e]; rfl
theorem o_isN : OJ X g (compareOp .Is) (fIsN false) := OJ.of op_isN fun l st σ p q x y Q ok rp rq run => by
  cases q with
  | non => exact ⟨rq, run l _ (Step.refl l) ok (by rw [Bool.false_xor, rep_non rp]; rfl)⟩
  | _ => exact run.elim
theorem o_notN : OJ X g (compareOp .IsNot) (fIsN true) := OJ.of op_notN fun l st σ p q x y Q ok rp rq run => by
  cases q with
  | non => exact ⟨rq, run l _ (Step.refl l) ok (by rw [Bool.true_xor, rep_non rp]; rfl)⟩
  | _ => exact run.elim
/-! ### sums and products of sequences -/
theorem o_catL : OJ X g (binaryOp .Add) (fun p q s => match p, q with | .lst xs, .lst ys => if xs.length + ys.length ≤ 16777216 then .ok (.lst (xs ++ ys)) s else .bad | _, _ => .bad) :=
  OJ.of op_cat fun l st σ p q x y Q ok rp rq run => by
    split at run
    · split at run
      · rename_i h
        obtain ⟨a, vs, rfl, _, ha, ra⟩ := rp
        obtain ⟨b, ws, rfl, _, hb, rb⟩ := rq
        exact ⟨a, b, vs, ws, rfl, rfl, ha, hb, by rw [line_eq, ← ra.length, ← rb.length]; exact h, Run.lst run ok (ra.append rb)⟩
      · exact run.elim
    · exact run.elim
theorem o_catT : OJ X g (binaryOp .Add) (fun p q s => match p, q with | .tup xs, .tup ys => if xs.length + ys.length ≤ 16777216 then .ok (.tup (xs ++ ys)) s else .bad | _, _ => .bad) :=
  OJ.of op_catA fun l st σ p q x y Q ok rp rq run => by
    split at run
    · split at run
      · rename_i xs ys h
        obtain ⟨a, vs, rfl, ha, ra⟩ := rp
        obtain ⟨b, ws, rfl, hb, rb⟩ := rq
        refine ⟨a, b, vs, ws, rfl, rfl, SqT.of2 ha, SqT.of2 hb, by rw [line_eq, ← ra.length, ← rb.length]; exact h, fun e => ?_, fun _ e => ?_, fun _ _ => Run.tup run ok (ra.append rb)⟩
        · subst e
          have e2 : xs = [] := List.eq_nil_of_length_eq_zero ra.length
          subst e2
          exact run l _ (Step.refl l) ok ⟨b, ws, rfl, hb, rb⟩
        · subst e
          have e2 : ys = [] := List.eq_nil_of_length_eq_zero rb.length
          subst e2
          rw [List.append_nil] at run
          exact run l _ (Step.refl l) ok ⟨a, vs, rfl, ha, ra⟩
      · exact run.elim
    · exact run.elim
theorem o_catS : OJ X g (binaryOp .Add) (fun p q s => match p, q with | .str x, .str y => if x.length + y.length ≤ 16777216 then .ok (.str (x ++ y)) s else .bad | _, _ => .bad) :=
  OJ.of op_add_str fun l st σ p q x y Q ok rp rq run => by
    split at run
    · split at run
      · rename_i a b h
        exact ⟨a, b, rp, rq, by rw [line_eq]; exact h, run l _ (Step.refl l) ok rfl⟩
      · exact run.elim
    · exact run.elim
theorem o_repL : OJ X g (binaryOp .Mult) (fun p q s => match p, q with | .lst xs, .int k => if -(2 ^ 63) ≤ k ∧ k < 2 ^ 63 ∧ xs.length * k.toNat ≤ 16777216 then .ok (.lst (List.replicate k.toNat xs).flatten) s else .bad | _, _ => .bad) :=
  OJ.of op_rep fun l st σ p q x y Q ok rp rq run => by
    split at run
    · split at run
      · rename_i xs k h
        obtain ⟨a, vs, rfl, _, ha, ra⟩ := rp
        exact ⟨a, k, vs, rfl, rq, ha, h.1, h.2.1, by rw [line_eq, ← ra.length]; exact h.2.2, Run.lst run ok (ra.flat _)⟩
      · exact run.elim
    · exact run.elim
end
end L3

namespace L3
open PySem PySem.Spec PyProof.Rows L2
@[simp] def truP : PV → Option Bool
  | .non => some false
  | .bl b => some b
  | .int i => some (i != 0)
  | .str x => if x.length ≤ 16777216 then some ((x.length : Int) != 0) else none
  | .tup xs => some (!xs.isEmpty)
  | .lst xs => some (!xs.isEmpty)
  | .frz xs => some (!xs.isEmpty)
  | _ => none
@[simp] def dTru (d : DE) : DT := fun s => (d s).bind fun v s1 => match truP v with
  | some b => .ok b s1
  | none => .bad
@[simp] def dAndT (a b : DT) : DT := fun s => (a s).bind fun x s1 => match x with
  | true => b s1
  | false => .ok false s1
@[simp] def dOrT (a b : DT) : DT := fun s => (a s).bind fun x s1 => match x with
  | true => .ok true s1
  | false => b s1
@[simp] def dNotT (a : DT) : DT := fun s => (a s).bind fun x s1 => .ok (!x) s1
@[simp] def dAnd (a b : DE) : DE := fun s => (a s).bind fun x s1 => match x with
  | .bl true => b s1
  | .bl false => .ok (.bl false) s1
  | _ => .bad
@[simp] def dOr (a b : DE) : DE := fun s => (a s).bind fun x s1 => match x with
  | .bl true => .ok (.bl true) s1
  | .bl false => b s1
  | _ => .bad
@[simp] def dNot (a : DE) : DE := fun s => (a s).bind fun x s1 => match x with
  | .bl b => .ok (.bl (!b)) s1
  | _ => .bad
@[simp] def dIf (c : DT) (a b : DE) : DE := fun s => (c s).bind fun x s1 => match x with
  | true => a s1
  | false => b s1
@[simp] def dChain (f f' : PV → PV → S → R S PV) (da db dc : DE) : DE := fun s => (da s).bind fun x s1 => (db s1).bind fun y s2 => (f x y s2).bind fun z s3 => match z with
  | .bl true => (dc s3).bind fun w s4 => f' y w s4
  | .bl false => .ok (.bl false) s3
  | _ => .bad
theorem isEmpty_len {a b : Type} {xs : List a} {ys : List b} (h : xs.length = ys.length) : xs.isEmpty = ys.isEmpty := by
  cases xs <;> cases ys <;> first | rfl | cases h
section
variable {X : Cx} {g : Gx} {a b c e : Expr} {es : List Expr} {da db dc de : DE} {ta tb tc : DT} {dr : DA} {pos : Pos}
/-! ### comparisons -/
theorem j_cmp {op : CmpOp} {f : PV → PV → S → R S PV} (ho : OJ X g (compareOp op) f) (ha : JE X g a da) (hb : JE X g b db) (hm : behindInMarks op b = false := by first | exact nobehind _ (by decide) (by decide) | rfl | with_unfolding_all rfl) : JE X g (.Compare a [op] [b] pos) (dBin f da db) := by
  refine ⟨fun pins s σ H Q I h => ?_⟩
  obtain ⟨l, st, rfl, ok, h⟩ := h
  refine wpAny_Compare1 (binT (R := fun x y H2 => ∃ l2 st2 p q, l2.H = H2 ∧ Sok X.K g l2 st2 σ ∧ RepG X.K g l2 p x ∧ RepG X.K g l2 q y ∧ Run X.K g (f p q st2) l2 σ Q) ha hb I ?_ fun v u s2 x y H2 I2 rx ry q => ?_) hm
  · refine ⟨l, st, rfl, ok, Run.mono (Run.bind h) fun u H1 ⟨l1, s1, p, e1, ok1, r1, st1, h1⟩ => ?_⟩
    refine ⟨l1, s1, e1, ok1, Run.mono (Run.bind h1) fun w H2 ⟨l2, s2, q, e2, ok2, r2, st2, h2⟩ => ?_⟩
    exact ⟨l2, s2, p, q, e2, ok2, st2.rep r1, r2, h2⟩
  · obtain ⟨l2, st2, p, q, rfl, ok2, rp, rq, h⟩ := q
    exact ho pins s2 σ x y v u Q l2 st2 p q I2 rx ry ok2 rp rq h
/-- a value's truth, from its representation -/
theorem rep_tru {K : PySem.W.Frag} {l : Lc} {p : PV} {x : V} {k : Bool} (r : RepG K g l p x) (h : truP p = some k) : TruV K x l.H k := by
  cases p with
  | non => have e : x = .non := r; subst e; cases h; rfl
  | bl b => have e : x = .bl b := r; subst e; cases h; rfl
  | int i => have e : x = .int i := r; subst e; cases h; rfl
  | str z =>
    have e : x = .str z := r; subst e
    simp only [truP] at h
    split at h
    · cases h
      rename_i q
      exact ⟨by rw [line_eq]; exact q, rfl⟩
    · cases h
  | tup xs =>
    obtain ⟨a, vs, rfl, ha, ra⟩ := r
    cases h
    exact .inr (.inl ⟨vs, SqT.of2 ha, by rw [isEmpty_len ra.length]⟩)
  | lst xs =>
    obtain ⟨a, vs, rfl, _, ha, ra⟩ := r
    cases h
    exact .inl ⟨vs, SqL.of ha, by rw [isEmpty_len ra.length]⟩
  | frz xs =>
    obtain ⟨a, vs, rfl, ha, ra⟩ := r
    cases h
    exact .inl ⟨vs, SqL.of2 ha, by rw [isEmpty_len ra.length]⟩
  | _ => cases h
/-- any expression whose test is its value's truth -/
theorem jt (ha : JE X g a da) (he : ∀ whole, isTrue a X.env whole = (do let v ← whole; standAt a.pos; holding [v] (truthy v)) := by intro _; rfl) : JT X g a (dTru da) :=
  PT.cq (pt_truth ha he) fun σ H Q q => by
    obtain ⟨l, s, rfl, ok, q⟩ := q
    refine ⟨l, s, rfl, ok, Run.mono (Run.bindT q) fun u H1 ⟨l1, s1, p, e1, ok1, r1, st1, h1⟩ => ?_⟩
    subst e1
    cases e : truP p with
    | none => rw [e] at h1; exact h1.elim
    | some k => rw [e] at h1; exact ⟨k, rep_tru r1 e, h1 l1 (Step.refl l1) ok1⟩
/-- a comparison as a test -/
theorem jt_cmp {op : CmpOp} {f : PV → PV → S → R S PV} (ho : OJ X g (compareOp op) f) (ha : JE X g a da) (hb : JE X g b db) (hm : behindInMarks op b = false := by first | exact nobehind _ (by decide) (by decide) | rfl | with_unfolding_all rfl) : JT X g (.Compare a [op] [b] pos) (dTru (dBin f da db)) := by
  refine ⟨fun pins s σ H Q I h => ?_⟩
  obtain ⟨l, st, rfl, ok, h⟩ := h
  refine wpAny_isTrue_Compare1 (binT (R := fun x y H2 => ∃ l2 st2 p q, l2.H = H2 ∧ Sok X.K g l2 st2 σ ∧ RepG X.K g l2 p x ∧ RepG X.K g l2 q y ∧ RunT X.K g ((f p q st2).bind fun v s1 => match truP v with | some b => .ok b s1 | none => .bad) l2 σ Q) ha hb I ?_ fun v u s2 x y H2 I2 rx ry q => ?_) hm
  · have h' : RunT X.K g ((da st).bind fun x s1 => (db s1).bind fun y s2 => (f x y s2).bind fun v s1 => match truP v with | some b => .ok b s1 | none => .bad) l σ Q := by
      have e : dTru (dBin f da db) st = ((da st).bind fun x s1 => (db s1).bind fun y s2 => (f x y s2).bind fun v s1 => match truP v with | some b => .ok b s1 | none => .bad) := by
        simp only [dTru, dBin]
        cases da st <;> try rfl
        rename_i v t
        show ((db t).bind _).bind _ = (db t).bind _
        cases db t <;> rfl
      rw [e] at h
      exact h
    refine ⟨l, st, rfl, ok, Run.mono (Run.bindT h') fun u H1 ⟨l1, s1, p, e1, ok1, r1, st1, h1⟩ => ?_⟩
    refine ⟨l1, s1, e1, ok1, Run.mono (Run.bindT h1) fun w H2 ⟨l2, s2, q, e2, ok2, r2, st2, h2⟩ => ?_⟩
    exact ⟨l2, s2, p, q, e2, ok2, st2.rep r1, r2, h2⟩
  · obtain ⟨l2, st2, p, q, rfl, ok2, rp, rq, h⟩ := q
    refine thn (ho pins s2 σ x y v u _ l2 st2 p q I2 rx ry ok2 rp rq (Run.bindT h)) fun w s3 ⟨z, H3, I3, r3, l3, s3', pz, e3, ok3, r3', st3, h3⟩ => ?_
    subst e3
    cases e : truP pz with
    | none => rw [e] at h3; exact h3.elim
    | some k =>
      rw [e] at h3
      exact tru_ok pins s3 σ l3.H z w Q I3 r3 ⟨k, rep_tru r3' e, h3 l3 (Step.refl l3) ok3⟩
theorem jt_not (ha : JT X g a ta) : JT X g (.UnaryOp .Not a pos) (dNotT ta) := PT.cq (pt_not ha) fun σ H Q q => by
  obtain ⟨l, s, rfl, ok, q⟩ := q
  refine ⟨l, s, rfl, ok, RunT.mono (RunT.bindT q) fun u H1 ⟨l1, s1, e1, ok1, st1, h1⟩ => ?_⟩
  subst e1
  exact h1 l1 (Step.refl l1) ok1
theorem jw_and1 (ha : JT X g a ta) : JW X g (.BoolOp .And [a] pos) ta := pw_and1 ha
theorem jw_or1 (ha : JT X g a ta) : JW X g (.BoolOp .Or [a] pos) ta := pw_or1 ha
theorem jw_and {rest : List Expr} (ha : JT X g a ta) (hb : JW X g (.BoolOp .And (b :: rest) pos) tb) : JW X g (.BoolOp .And (a :: b :: rest) pos) (dAndT ta tb) := PW.cq (pw_and ha hb) fun σ H Q q => by
  obtain ⟨l, s, rfl, ok, q⟩ := q
  refine ⟨l, s, rfl, ok, RunT.mono (RunT.bindT q) fun u H1 ⟨l1, s1, e1, ok1, st1, h1⟩ => ?_⟩
  subst e1
  cases u with
  | true => exact ⟨l1, s1, rfl, ok1, h1⟩
  | false => exact h1 l1 (Step.refl l1) ok1
theorem jw_or {rest : List Expr} (ha : JT X g a ta) (hb : JW X g (.BoolOp .Or (b :: rest) pos) tb) : JW X g (.BoolOp .Or (a :: b :: rest) pos) (dOrT ta tb) := PW.cq (pw_or ha hb) fun σ H Q q => by
  obtain ⟨l, s, rfl, ok, q⟩ := q
  refine ⟨l, s, rfl, ok, RunT.mono (RunT.bindT q) fun u H1 ⟨l1, s1, e1, ok1, st1, h1⟩ => ?_⟩
  subst e1
  cases u with
  | false => exact ⟨l1, s1, rfl, ok1, h1⟩
  | true => exact h1 l1 (Step.refl l1) ok1
theorem jt_w {t : DT} (h : JW X g e t) : JT X g e t := h.pt
theorem j_one {op} (h : JE X g a da) : JE X g (.BoolOp op [a] pos) da := pe_one h
theorem j_and {rest : List Expr} (ha : JE X g a da) (hb : JE X g (.BoolOp .And (b :: rest) pos) db) : JE X g (.BoolOp .And (a :: b :: rest) pos) (dAnd da db) := PE.cq (pe_and ha hb) fun pins s σ H Q I q => by
  obtain ⟨l, s, rfl, ok, q⟩ := q
  refine ⟨l, s, rfl, ok, Run.mono (Run.bind q) fun u H1 ⟨l1, s1, p, e1, ok1, r1, st1, h1⟩ => ?_⟩
  subst e1
  cases p with
  | bl k =>
    cases (show u = .bl k from r1)
    refine ⟨k, rfl, ?_⟩
    cases k with
    | true => exact ⟨l1, s1, rfl, ok1, h1⟩
    | false => exact h1 l1 _ (Step.refl l1) ok1 rfl
  | _ => exact h1.elim
theorem j_or {rest : List Expr} (ha : JE X g a da) (hb : JE X g (.BoolOp .Or (b :: rest) pos) db) : JE X g (.BoolOp .Or (a :: b :: rest) pos) (dOr da db) := PE.cq (pe_or ha hb) fun pins s σ H Q I q => by
  obtain ⟨l, s, rfl, ok, q⟩ := q
  refine ⟨l, s, rfl, ok, Run.mono (Run.bind q) fun u H1 ⟨l1, s1, p, e1, ok1, r1, st1, h1⟩ => ?_⟩
  subst e1
  cases p with
  | bl k =>
    cases (show u = .bl k from r1)
    refine ⟨k, rfl, ?_⟩
    cases k with
    | false => exact ⟨l1, s1, rfl, ok1, h1⟩
    | true => exact h1 l1 _ (Step.refl l1) ok1 rfl
  | _ => exact h1.elim
theorem j_not (ha : JE X g a da) : JE X g (.UnaryOp .Not a pos) (dNot da) := PE.cq (pe_not ha) fun pins s σ H Q I q => by
  obtain ⟨l, s, rfl, ok, q⟩ := q
  refine ⟨l, s, rfl, ok, Run.mono (Run.bind q) fun u H1 ⟨l1, s1, p, e1, ok1, r1, st1, h1⟩ => ?_⟩
  subst e1
  cases p with
  | bl k =>
    cases (show u = .bl k from r1)
    exact ⟨k, rfl, h1 l1 _ (Step.refl l1) ok1 rfl⟩
  | _ => exact h1.elim
theorem j_if (hc : JT X g c tc) (ha : JE X g a da) (hb : JE X g b db) : JE X g (.IfExp c a b pos) (dIf tc da db) := PE.cq (pe_ifExp hc ha hb) fun pins s σ H Q I q => by
  obtain ⟨l, s, rfl, ok, q⟩ := q
  refine ⟨l, s, rfl, ok, RunT.mono (RunT.bind q) fun u H1 ⟨l1, s1, e1, ok1, st1, h1⟩ => ?_⟩
  subst e1
  cases u with
  | true => exact ⟨l1, s1, rfl, ok1, h1⟩
  | false => exact ⟨l1, s1, rfl, ok1, h1⟩
end
end L3

namespace L3
open PySem PySem.Spec PyProof.Rows L2
/-! ## arguments, displays, subscripts, built-in functions -/
@[simp] def dTup (d : DA) : DE := fun s => (d s).bind fun xs s1 => if xs.length ≤ 1000 then .ok (.tup xs) s1 else .bad
@[simp] def dLst (d : DA) : DE := fun s => (d s).bind fun xs s1 => if xs.length ≤ 1000 then .ok (.lst xs) s1 else .bad
/-- a display that becomes a shared list -/
@[simp] def dNew (d : DA) : DE := fun s => (d s).bind fun xs s1 => if xs.length ≤ 1000 then .ok (.ptr s1.mu.length) ⟨s1.env, s1.mu ++ [.lst xs]⟩ else .bad
@[simp] def optR {s a : Type} (o : Option a) (t : s) : R s a := match o with
  | some v => .ok v t
  | none => .bad
/-- what a value is as a list -/
@[simp] def asL (mu : List MO) : PV → Option (List PV)
  | .lst xs => some xs
  | .tup xs => some xs
  | .frz xs => some xs
  | .ptr n => (match mu[n]? with
    | some (.lst xs) => some xs
    | _ => none)
  | _ => none
@[simp] def fIx : PV → PV → S → R S PV := fun p q s => match q with
  | .int i => (match asL s.mu p with
    | some xs => optR (atI xs i) s
    | none => .bad)
  | _ => .bad
abbrev DO := S → R S (Option Int)
@[simp] def dNone : DO := fun s => .ok none s
@[simp] def dSome (d : DE) : DO := fun s => (d s).bind fun v s1 => match v with
  | .int i => .ok (some i) s1
  | _ => .bad
@[simp] def fCut (v : PV) (a b : Option Int) (s : S) : R S PV := match v with
  | .lst xs => .ok (.lst (cutP xs a b)) s
  | .tup xs => .ok (.tup (cutP xs a b)) s
  | _ => .bad
@[simp] def dSlice (d : DE) (lo hi : DO) : DE := fun s => (d s).bind fun v s1 => (lo s1).bind fun a s2 => (hi s2).bind fun b s3 => fCut v a b s3
@[simp] def fLen : List PV → S → R S PV := fun ps s => match ps with
  | [.str x] => if x.length ≤ 16777216 then .ok (.int x.length) s else .bad
  | [p] => (match asL s.mu p with
    | some xs => .ok (.int xs.length) s
    | none => .bad)
  | _ => .bad
@[simp] def fList : List PV → S → R S PV := fun ps s => match ps with
  | [p] => (match asL s.mu p with
    | some xs => .ok (.lst xs) s
    | none => .bad)
  | _ => .bad
@[simp] def fTuple : List PV → S → R S PV := fun ps s => match ps with
  | [p] => (match asL s.mu p with
    | some xs => .ok (.tup xs) s
    | none => .bad)
  | _ => .bad
@[simp] def fAbsI : List PV → S → R S PV := fun ps s => match ps with
  | [.int i] => .ok (.int i.natAbs) s
  | _ => .bad
@[simp] def fMax2 : List PV → S → R S PV := fun ps s => match ps with
  | [.int i, .int j] => .ok (.int (max i j)) s
  | _ => .bad
@[simp] def fMin2 : List PV → S → R S PV := fun ps s => match ps with
  | [.int i, .int j] => .ok (.int (min i j)) s
  | _ => .bad
@[simp] def fIntB : List PV → S → R S PV := fun ps s => match ps with
  | [.int i] => .ok (.int i) s
  | [.bl b] => .ok (.int (if b then 1 else 0)) s
  | _ => .bad
@[simp] def fBool : List PV → S → R S PV := fun ps s => match ps with
  | [.int i] => .ok (.bl (i != 0)) s
  | [.bl b] => .ok (.bl b) s
  | _ => .bad
section
variable {X : Cx} {g : Gx} {a b c e : Expr} {es : List Expr} {da db dc de : DE} {dr : DA} {pos : Pos}
theorem ja_nil : JA X g [] dNil := PA.cq pa_nil fun σ H Q q => by
  obtain ⟨l, s, rfl, ok, q⟩ := q
  exact q l [] (Step.refl l) ok rfl
theorem ja_cons (ha : JE X g e de) (hr : JA X g es dr) (hs : starEach (e :: es) X.env = (false, eval e X.env) :: starEach es X.env := by rfl) : JA X g (e :: es) (dCons de dr) := PA.cq (pa_cons ha hr hs) fun σ H Q q => by
  obtain ⟨l, s, rfl, ok, q⟩ := q
  refine ⟨l, s, rfl, ok, Run.mono (Run.bindA q) fun u H1 ⟨l1, s1, p, e1, ok1, r1, st1, h1⟩ => ?_⟩
  refine ⟨l1, s1, e1, ok1, RunA.mono (RunA.bindA h1) fun us H2 ⟨l2, s2, ps, e2, ok2, r2, st2, h2⟩ => ?_⟩
  subst e2
  exact h2 l2 (u :: us) (Step.refl l2) ok2 ⟨u, us, rfl, st2.rep r1, r2⟩
theorem j_tup {x1} (h : JA X g es dr) : JE X g (.Tuple es x1 pos) (dTup dr) := PE.cq (pe_tup h) fun pins s σ H Q I q => by
  obtain ⟨l, s, rfl, ok, q⟩ := q
  refine ⟨l, s, rfl, ok, RunA.mono (RunA.bind q) fun u H1 ⟨l1, s1, p, e1, ok1, r1, st1, h1⟩ => ?_⟩
  subst e1
  split at h1
  · rename_i z
    exact ⟨by rw [line_eq, ← r1.length]; omega, Run.tup h1 ok1 r1⟩
  · exact h1.elim
theorem j_lst (h : JA X g es dr) : JE X g (.List es pos) (dLst dr) := PE.cq (pe_lst h) fun pins s σ H Q I q => by
  obtain ⟨l, s, rfl, ok, q⟩ := q
  refine ⟨l, s, rfl, ok, RunA.mono (RunA.bind q) fun u H1 ⟨l1, s1, p, e1, ok1, r1, st1, h1⟩ => ?_⟩
  subst e1
  split at h1
  · rename_i z
    exact ⟨by rw [line_eq, ← r1.length]; omega, Run.lst h1 ok1 r1⟩
  · exact h1.elim
theorem j_callB {x : Str} {id : String} {f : List PV → S → R S PV} {p : Pos} (hc : CJ X g (fun us => call (.builtin id) us) f) (hg : Gl X x) (hm : X.mg x = none) (hv : bootBuiltins x = some (.builtin id)) (ha : JA X g (e :: es) dr) (hn : x ≠ "__name__" := by decide) (hdb : (x == ("__debug__" : Str)) = false := by decide)
    (he : starEach (e :: es) X.env = (false, eval e X.env) :: starEach es X.env := by rfl) (hpl : (backTo pos (starEach es X.env)).any (·.1) = false := by rfl) : JE X g (.Call (.Name x p) (e :: es) [] pos) (dFn f dr) := by
  refine ⟨fun pins s σ H Q I h => ?_⟩
  obtain ⟨l, st, rfl, ok, h⟩ := h
  refine wpAny_Call_Name_kw (ld_blt I hg hm hv ?_ hn hdb)
  refine PyProof.Rows.callWith_builtin1 (thn (ha.run pos pins s σ _ _ I ⟨l, st, rfl, ok, RunA.bind h⟩) fun us s1 ⟨vs, H1, I1, r1, l1, s1', ps, e1, ok1, rp, st1, h1⟩ => ?_) he hpl
  subst e1
  exact hc pins s1 σ vs us Q l1 s1' ps I1 r1 ok1 rp h1
theorem j_callTy {x : Str} {T : String} {f : List PV → S → R S PV} {p : Pos} (hc : CJ X g (fun us => call (.type T) us) f) (hg : Gl X x) (hm : X.mg x = none) (hv : bootBuiltins x = some (.type T)) (ha : JA X g (e :: es) dr) (hn : x ≠ "__name__" := by decide) (hdb : (x == ("__debug__" : Str)) = false := by decide)
    (he : starEach (e :: es) X.env = (false, eval e X.env) :: starEach es X.env := by rfl) (hpl : (backTo pos (starEach es X.env)).any (·.1) = false := by rfl) : JE X g (.Call (.Name x p) (e :: es) [] pos) (dFn f dr) := by
  refine ⟨fun pins s σ H Q I h => ?_⟩
  obtain ⟨l, st, rfl, ok, h⟩ := h
  refine wpAny_Call_Name_kw (ld_blt I hg hm hv ?_ hn hdb)
  refine PyProof.Rows.callWith_type1 (thn (ha.run pos pins s σ _ _ I ⟨l, st, rfl, ok, RunA.bind h⟩) fun us s1 ⟨vs, H1, I1, r1, l1, s1', ps, e1, ok1, rp, st1, h1⟩ => ?_) he hpl
  subst e1
  exact hc pins s1 σ vs us Q l1 s1' ps I1 r1 ok1 rp h1
/-- a value seen as a list: where it stands -/
theorem rep_asL {K : PySem.W.Frag} {l : Lc} {s : S} {σ : St} {p : PV} {x : V} {xs : List PV} (ok : Sok K g l s σ) (r : RepG K g l p x) (h : asL s.mu p = some xs) :
    ∃ a vs, x = .ref a ∧ (SqL K l.H a vs ∨ SqT K l.H a vs) ∧ RepGL K g l xs vs := by
  cases p with
  | lst ys => obtain ⟨a, vs, rfl, _, ha, ra⟩ := r; cases h; exact ⟨a, vs, rfl, .inl (SqL.of ha), ra⟩
  | tup ys => obtain ⟨a, vs, rfl, ha, ra⟩ := r; cases h; exact ⟨a, vs, rfl, .inr (SqT.of2 ha), ra⟩
  | frz ys => obtain ⟨a, vs, rfl, ha, ra⟩ := r; cases h; exact ⟨a, vs, rfl, .inl (SqL.of2 ha), ra⟩
  | ptr n =>
    obtain ⟨a, ha, rfl⟩ := r
    simp only [asL] at h
    cases e : s.mu[n]? with
    | none => rw [e] at h; cases h
    | some m =>
      rw [e] at h
      cases m with
      | lst ys =>
        cases h
        obtain ⟨vs, h1, h2⟩ := ok.mu n a _ ha e
        exact ⟨a, vs, rfl, .inl (SqL.of h1), h2⟩
      | ins C ns ys => cases h
  | _ => cases h
/-- a[b] -/
theorem j_ix (ha : JE X g a da) (hb : JE X g b db) (hs : PlainIx b := by exact fun _ _ => rfl) : JE X g (.Subscript a b pos) (dBin fIx da db) := by
  refine ⟨fun pins s σ H Q I h => ?_⟩
  obtain ⟨l, st, rfl, ok, h⟩ := h
  refine Subscript_ (binT (R := fun x y H2 => ∃ l2 st2 p q, l2.H = H2 ∧ Sok X.K g l2 st2 σ ∧ RepG X.K g l2 p x ∧ RepG X.K g l2 q y ∧ Run X.K g (fIx p q st2) l2 σ Q) ha hb I ?_ fun v u s2 x y H2 I2 rx ry q => ?_)
  · refine ⟨l, st, rfl, ok, Run.mono (Run.bind h) fun u H1 ⟨l1, s1, p, e1, ok1, r1, st1, h1⟩ => ?_⟩
    refine ⟨l1, s1, e1, ok1, Run.mono (Run.bind h1) fun w H2 ⟨l2, s2, q, e2, ok2, r2, st2, h2⟩ => ?_⟩
    exact ⟨l2, s2, p, q, e2, ok2, st2.rep r1, r2, h2⟩
  · obtain ⟨l2, st2, p, q, rfl, ok2, rp, rq, h⟩ := q
    cases q with
    | int i =>
      cases (show y = .int i from rq)
      simp only [fIx] at h
      cases e : asL st2.mu p with
      | none => rw [e] at h; exact h.elim
      | some xs =>
        rw [e] at h
        obtain ⟨a, vs, rfl, hq, rv⟩ := rep_asL ok2 rp e
        cases e2 : atI xs i with
        | none => simp only [e2, optR] at h; exact h.elim
        | some v =>
          simp only [e2, optR] at h
          obtain ⟨w, hw, rw'⟩ := rv.at e2
          refine IxR.or ix_list ix_tup _ _ pins s2 σ l2.H (.ref a) (.int i) _ _ Q I2 rx ry ?_ (hs _ _)
          rcases hq with hq | hq
          · exact .inl ⟨a, vs, i, w, rfl, rfl, hq, hw, h l2 w (Step.refl l2) ok2 rw'⟩
          · exact .inr ⟨a, vs, i, w, rfl, rfl, hq, hw, h l2 w (Step.refl l2) ok2 rw'⟩
    | _ => exact h.elim
/-! ### slices -/
def LO (K : PySem.W.Frag) (g : Gx) (d : DO) : TO := fun σ H Q => ∃ l s, l.H = H ∧ Sok K g l s σ ∧ match d s with
  | .ok o s' => ∀ l', Step l l' → Sok K g l' s' σ → Q o l'.H
  | .exn e s' => ∀ l' cls dd, Step l l' → Sok K g l' s' σ → RepX K g l' e cls dd → g.W cls dd σ l'.H
  | .bad => False
abbrev JO (X : Cx) (g : Gx) (e : Option Expr) (d : DO) : Prop := PO X e (LO X.K g d)
theorem PO.cq {e : Option Expr} {t t' : TO} (h : PO X e t) (i : ∀ σ H Q, t' σ H Q → t σ H Q) : PO X e t' := ⟨fun pins s σ H Q I q => h.run pins s σ H Q I (i σ H Q q)⟩
theorem jo_none : JO X g none dNone := PO.cq po_none fun σ H Q q => by
  obtain ⟨l, s, rfl, ok, q⟩ := q
  exact q l (Step.refl l) ok
theorem jo_some (h : JE X g e de) : JO X g (some e) (dSome de) := PO.cq (po_some h) fun σ H Q q => by
  obtain ⟨l, s, rfl, ok, q⟩ := q
  refine ⟨l, s, rfl, ok, ?_⟩
  simp only [dSome] at q
  cases e1 : de s with
  | bad => rw [e1] at q; exact q
  | exn e t => rw [e1] at q; exact q
  | ok v t =>
    rw [e1] at q
    intro l1 u st1 ok1 r1
    cases v with
    | int i => exact ⟨i, r1, q l1 st1 ok1⟩
    | _ => exact q.elim
theorem o_slice {lo hi : Option Expr} {dl dh : DO} {p2 : Pos} (he : JE X g e de) (hl : JO X g lo dl) (hh : JO X g hi dh) : JE X g (.Subscript e (.Slice lo hi none p2) pos) (dSlice de dl dh) :=
  PE.cq (pe_slice (SlR.or sl_list sl_tupA) he hl hh) fun pins s σ H Q I q => by
    obtain ⟨l, s, rfl, ok, q⟩ := q
    refine ⟨l, s, rfl, ok, Run.mono (Run.bind q) fun u H1 ⟨l1, s1, p, e1, ok1, r1, st1, h1⟩ => ?_⟩
    refine ⟨l1, s1, e1, ok1, ?_⟩
    cases ea : dl s1 with
    | bad => rw [ea] at h1; exact h1
    | exn e t => rw [ea] at h1; exact h1
    | ok a t =>
      rw [ea] at h1
      intro l2 st2 ok2
      refine ⟨l2, t, rfl, ok2, ?_⟩
      have h1 : Run X.K g ((dh t).bind fun b s3 => fCut p a b s3) l1 σ Q := h1
      cases eb : dh t with
      | bad => rw [eb] at h1; exact h1
      | exn e t => rw [eb] at h1; exact fun l' c d s4 => h1 l' c d (st2.trans s4)
      | ok b t2 =>
        rw [eb] at h1
        intro l3 st3 ok3
        have r3 := st3.rep (st2.rep r1)
        have h3 := Run.step h1 (st2.trans st3)
        cases p with
        | lst xs =>
          obtain ⟨c, vs, rfl, _, hc, rc⟩ := r3
          exact .inl ⟨c, vs, rfl, SqL.of hc, Run.lst h3 ok3 (rc.cut a b)⟩
        | tup xs =>
          obtain ⟨c, vs, rfl, hc, rc⟩ := r3
          refine .inr ⟨c, vs, rfl, SqT.of2 hc, fun z => ?_, fun _ => Run.tup h3 ok3 (rc.cut a b)⟩
          have ec : cutP xs a b = xs := by
            unfold cutP
            rw [rc.length, z.1, z.2, List.drop_zero, Nat.sub_zero, ← rc.length, List.take_length]
          have h3 : Run X.K g (.ok (.tup (cutP xs a b)) t2) l3 σ Q := h3
          rw [ec] at h3
          exact h3 l3 _ (Step.refl l3) ok3 ⟨c, vs, rfl, hc, rc⟩
        | _ => exact h3.elim
/-! ### built-in functions -/
theorem c_len : CJ X g (fun us => call (.builtin "len") us) fLen := CJ.of call_len fun l st σ ps xs Q ok rp run => by
  unfold fLen at run
  split at run
  · obtain ⟨v, r, rfl, h1, h2⟩ := rp
    cases (show r = [] from h2)
    split at run
    · rename_i z
      exact ⟨v, _, rfl, by rw [show v = .str _ from h1]; exact ⟨by rw [line_eq]; exact z, rfl⟩, run l _ (Step.refl l) ok rfl⟩
    · exact run.elim
  · obtain ⟨v, r, rfl, h1, h2⟩ := rp
    cases (show r = [] from h2)
    rename_i p hp
    cases e : asL st.mu p with
    | none => rw [e] at run; exact run.elim
    | some ys =>
      rw [e] at run
      obtain ⟨a, vs, rfl, hq, rv⟩ := rep_asL ok h1 e
      refine ⟨.ref a, ys.length, rfl, ?_, run l _ (Step.refl l) ok rfl⟩
      rcases hq with hq | hq
      · exact .inl ⟨vs, hq, rv.length⟩
      · exact .inr ⟨vs, hq, rv.length⟩
  · exact run.elim
theorem c_list : CJ X g (fun us => call (.type "list") us) fList := CJ.of call_list_of fun l st σ ps xs Q ok rp run => by
  unfold fList at run
  split at run
  · obtain ⟨v, r, rfl, h1, h2⟩ := rp
    cases (show r = [] from h2)
    rename_i p
    cases e : asL st.mu p with
    | none => rw [e] at run; exact run.elim
    | some ys =>
      rw [e] at run
      obtain ⟨a, vs, rfl, hq, rv⟩ := rep_asL ok h1 e
      exact ⟨a, vs, rfl, hq, Run.lst run ok rv⟩
  · exact run.elim
theorem c_abs : CJ X g (fun us => call (.builtin "abs") us) fAbsI := CJ.of call_abs fun l st σ ps xs Q ok rp run => by
  unfold fAbsI at run
  split at run
  · obtain ⟨v, r, rfl, h1, h2⟩ := rp
    cases (show r = [] from h2)
    rename_i i
    refine ⟨i, by rw [show v = .int i from h1], run l _ (Step.refl l) ok ?_⟩
    show V.int _ = V.int _
    congr 1
    omega
  · exact run.elim
theorem c_max2 (hc : X.calm = true) : CJ X g (fun us => call (.builtin "max") us) fMax2 := CJ.of (call_max2 hc) fun l st σ ps xs Q ok rp run => by
  unfold fMax2 at run
  split at run
  · obtain ⟨v, r, rfl, h1, w, r2, rfl, h2, h3⟩ := rp
    cases (show r2 = [] from h3)
    rename_i i j
    refine ⟨i, j, by rw [show v = .int i from h1, show w = .int j from h2], run l _ (Step.refl l) ok ?_⟩
    show V.int _ = V.int _
    congr 1
    omega
  · exact run.elim
theorem c_min2 (hc : X.calm = true) : CJ X g (fun us => call (.builtin "min") us) fMin2 := CJ.of (call_min2 hc) fun l st σ ps xs Q ok rp run => by
  unfold fMin2 at run
  split at run
  · obtain ⟨v, r, rfl, h1, w, r2, rfl, h2, h3⟩ := rp
    cases (show r2 = [] from h3)
    rename_i i j
    refine ⟨i, j, by rw [show v = .int i from h1, show w = .int j from h2], run l _ (Step.refl l) ok ?_⟩
    show V.int _ = V.int _
    congr 1
    omega
  · exact run.elim
theorem c_int : CJ X g (fun us => call (.type "int") us) fIntB := CJ.of call_int1 fun l st σ ps xs Q ok rp run => by
  unfold fIntB at run
  split at run
  · obtain ⟨v, r, rfl, h1, h2⟩ := rp
    cases (show r = [] from h2)
    rename_i i
    exact .inl ⟨i, by rw [show v = .int i from h1], run l _ (Step.refl l) ok rfl⟩
  · obtain ⟨v, r, rfl, h1, h2⟩ := rp
    cases (show r = [] from h2)
    rename_i i
    exact .inr ⟨i, by rw [show v = .bl i from h1], run l _ (Step.refl l) ok rfl⟩
  · exact run.elim
theorem c_bool : CJ X g (fun us => call (.type "bool") us) fBool := CJ.of call_bool1 fun l st σ ps xs Q ok rp run => by
  unfold fBool at run
  split at run
  · obtain ⟨v, r, rfl, h1, h2⟩ := rp
    cases (show r = [] from h2)
    rename_i i
    exact .inl ⟨i, by rw [show v = .int i from h1], run l _ (Step.refl l) ok rfl⟩
  · obtain ⟨v, r, rfl, h1, h2⟩ := rp
    cases (show r = [] from h2)
    rename_i i
    exact .inr ⟨i, by rw [show v = .bl i from h1], run l _ (Step.refl l) ok rfl⟩
  · exact run.elim
theorem c_tuple : CJ X g (fun us => call (.type "tuple") us) fTuple := CJ.of call_tuple_of fun l st σ ps xs Q ok rp run => by
  unfold fTuple at run
  split at run
  · obtain ⟨v, r, rfl, h1, h2⟩ := rp
    cases (show r = [] from h2)
    rename_i p
    cases p with
    | lst ys =>
      obtain ⟨a, vs, rfl, _, ha, ra⟩ := h1
      exact ⟨a, vs, rfl, .inl ⟨SqL.of ha, Run.tup run ok ra⟩⟩
    | frz ys =>
      obtain ⟨a, vs, rfl, ha, ra⟩ := h1
      exact ⟨a, vs, rfl, .inl ⟨SqL.of2 ha, Run.tup run ok ra⟩⟩
    | tup ys =>
      obtain ⟨a, vs, rfl, ha, ra⟩ := h1
      exact ⟨a, vs, rfl, .inr ⟨SqT.of2 ha, run l _ (Step.refl l) ok ⟨a, vs, rfl, ha, ra⟩⟩⟩
    | ptr n =>
      obtain ⟨a, ha, rfl⟩ := h1
      simp only [asL] at run
      cases e : st.mu[n]? with
      | none => rw [e] at run; exact run.elim
      | some m =>
        rw [e] at run
        cases m with
        | lst ys =>
          obtain ⟨vs, q1, q2⟩ := ok.mu n a _ ha e
          exact ⟨a, vs, rfl, .inl ⟨SqL.of q1, Run.tup run ok q2⟩⟩
        | ins C ns ys => exact run.elim
    | _ => exact run.elim
  · exact run.elim
end
end L3

namespace L3
open PySem PySem.Spec PyProof.Rows L2
/-! ## statements -/
@[simp] def dSkip : DS := fun s => .ok .nx s
@[simp] def dSeq (a b : DS) : DS := fun s => (a s).bind fun f s1 => match f with
  | .nx => b s1
  | .rt v => .ok (.rt v) s1
  | .bk => .ok .bk s1
  | .ct => .ok .ct s1
@[simp] def setE (i : Nat) (v : PV) (s : S) : S := ⟨s.env.set i (some (.val v)), s.mu⟩
@[simp] def dSet (i : Nat) (d : DE) : DS := fun s => (d s).bind fun v s1 => .ok .nx (setE i v s1)
@[simp] def dExpr (d : DE) : DS := fun s => (d s).bind fun _ s1 => .ok .nx s1
@[simp] def dRet (d : DE) : DS := fun s => (d s).bind fun v s1 => .ok (.rt v) s1
@[simp] def dRetN : DS := fun s => .ok (.rt .non) s
@[simp] def dBrk : DS := fun s => .ok .bk s
@[simp] def dCont : DS := fun s => .ok .ct s
@[simp] def dIfS (c : DT) (a b : DS) : DS := fun s => (c s).bind fun x s1 => match x with
  | true => a s1
  | false => b s1
@[simp] def dNever : DS := fun _ => .bad
abbrev DG := PV → S → R S Unit
@[simp] def gN (i : Nat) : DG := fun v s => .ok () (setE i v s)
abbrev DGs := List PV → S → R S Unit
@[simp] def gNil : DGs := fun vs s => match vs with
  | [] => .ok () s
  | _ => .bad
@[simp] def gCons (t : DG) (u : DGs) : DGs := fun vs s => match vs with
  | [] => .bad
  | v :: r => (t v s).bind fun _ s1 => u r s1
@[simp] def gT (n : Nat) (t : DGs) : DG := fun v s => match v with
  | .tup xs => if xs.length = n then t xs s else .bad
  | _ => .bad
/-- a target is stored or the run is given up -/
@[simp] def tgt {b : Type} (r : R S Unit) (k : S → R S b) : R S b := match r with
  | .ok _ s => k s
  | _ => .bad
@[simp] def dAsg (d : DE) (t : DG) : DS := fun s => (d s).bind fun v s1 => tgt (t v s1) fun s2 => .ok .nx s2
def forL (t : DG) (b : DS) : List PV → S → R S Fl
  | [], s => .ok .nx s
  | x :: xs, s => tgt (t x s) fun s1 => (b s1).bind fun f s2 => match f with
    | .nx => forL t b xs s2
    | .ct => forL t b xs s2
    | .bk => .ok .nx s2
    | .rt v => .ok (.rt v) s2
abbrev DI := S → R S (List PV)
@[simp] def dFor (di : DI) (t : DG) (b : DS) : DS := fun s => (di s).bind fun xs s1 => forL t b xs s1
def whileL (c : DT) (b : DS) : Nat → S → R S Fl
  | 0, _ => .bad
  | n + 1, s => (c s).bind fun k s1 => match k with
    | false => .ok .nx s1
    | true => (b s1).bind fun f s2 => match f with
      | .nx => whileL c b n s2
      | .ct => whileL c b n s2
      | .bk => .ok .nx s2
      | .rt v => .ok (.rt v) s2
@[simp] def dWhile (fuel : S → Nat) (c : DT) (b : DS) : DS := fun s => whileL c b (fuel s) s

section
variable {K : PySem.W.Frag} {g : Gx} {l : Lc} {s : S} {σ : St} {p : PV} {v : V} {i : Nat}
theorem get_set {α : Type} {xs : List (Option α)} {i j : Nat} {a b : α} (h : (xs.set i (some a))[j]? = some (some b)) : (j = i ∧ a = b ∧ i < xs.length) ∨ (j ≠ i ∧ xs[j]? = some (some b)) := by
  by_cases e : j = i
  · subst e
    by_cases hl : j < xs.length
    · rw [List.getElem?_set_self hl] at h
      cases h
      exact .inl ⟨rfl, rfl, hl⟩
    · rw [List.getElem?_eq_none (by rw [List.length_set]; omega)] at h
      cases h
  · rw [List.getElem?_set_ne (Ne.symm e)] at h
    exact .inr ⟨e, h⟩
theorem Sok.set (ok : Sok K g l s σ) (r : RepG K g l p v) : Sok K g l (setE i p s) (σ.set i (some v)) where
  len := by show (s.env.set i _).length = _; rw [List.length_set, List.length_set]; exact ok.len
  env := fun j w h => by
    rcases get_set h with ⟨e, e2, hl⟩ | ⟨e, h⟩
    · cases e2
      subst e
      exact ⟨v, by rw [List.getElem?_set_self (by rw [← ok.len]; exact hl)], r⟩
    · obtain ⟨u, h1, h2⟩ := ok.env j w h
      exact ⟨u, by rw [List.getElem?_set_ne (Ne.symm e)]; exact h1, h2⟩
  own := fun j xs h => by
    rcases get_set h with ⟨e, e2, hl⟩ | ⟨e, h⟩
    · cases e2
    · obtain ⟨a, vs, h1, h2⟩ := ok.own j xs h
      exact ⟨a, vs, by rw [List.getElem?_set_ne (Ne.symm e)]; exact h1, h2⟩
  dis := fun j k xs ys a hne h1 h2 h3 h4 => by
    rcases get_set h1 with ⟨_, e2, _⟩ | ⟨e1, h1⟩
    · cases e2
    · rcases get_set h2 with ⟨_, e2, _⟩ | ⟨e2, h2⟩
      · cases e2
      · rw [List.getElem?_set_ne (Ne.symm e1)] at h3
        rw [List.getElem?_set_ne (Ne.symm e2)] at h4
        exact ok.dis j k xs ys a hne h1 h2 h3 h4
  mlen := ok.mlen
  mu := ok.mu
  nd := ok.nd
  alM := ok.alM
  there := ok.there
  mn := ok.mn
end
def LI (K : PySem.W.Frag) (g : Gx) (d : DI) (ItOk : Lc → It → List PV → Prop) : TI := fun σ H Rq => ∃ l s, l.H = H ∧ Sok K g l s σ ∧ match d s with
  | .ok xs s' => ∀ l' J, Step l l' → Sok K g l' s' σ → ItOk l' J xs → Rq J l'.H
  | .exn e s' => ∀ l' cls dd, Step l l' → Sok K g l' s' σ → RepX K g l' e cls dd → g.W cls dd σ l'.H
  | .bad => False
/-- an iterator that yields these -/
def ItOk (K : PySem.W.Frag) (g : Gx) (l0 : Lc) (J : It) (xs : List PV) : Prop := ∀ (i : Nat) (g' : Gx) (l : Lc), Step l0 l → g'.CR = g.CR → (∀ a, g'.N a → g.N a ∨ l0.H a = none) → (∀ a, g'.L l a → l.H a ≠ none) →
  (∀ x, xs[i]? = some x → J.go i l.H ∧ ∀ u H', J.yld i l.H u H' → (∀ a o, l.H a = some o → H' a = some o) ∧ (∀ l1 : Lc, l1.al = l.al → l1.M = l.M → l1.H = H' → RepG K g' l1 x u)) ∧ (xs.length ≤ i → J.stop i l.H)
theorem Step.rep2 {K : PySem.W.Frag} {g g' : Gx} {l l' : Lc} (st : Step l l') (ec : g'.CR = g.CR) (hN : ∀ a, g'.N a → g.N a ∨ l.H a = none) {x : PV} {v : V} (h : RepG K g l x v) : RepG K g' l' x v := by
  have q : Rep K g.CR l'.al (g'.L l') l'.H x v := Rep.mono st.al (fun a o n e => ⟨st.keep a o (fun z => n (.inl z)) e, fun z => by
    rcases z with z | z
    · rcases st.new a z with z | z
      · exact n (.inl z)
      · rw [e] at z; cases z
    · rcases hN a z with z | z
      · exact n (.inr z)
      · rw [e] at z; cases z⟩) x v h
  rw [← ec] at q
  exact q
abbrev JI (X : Cx) (g : Gx) (tg iter : Expr) (d : DI) : Prop := PI X tg iter (LI X.K g d (ItOk X.K g))
def LG (K : PySem.W.Frag) (g : Gx) (js : List Nat) (d : DG) : TG := fun v σ H Q => ∃ l s p, l.H = H ∧ Sok K g l s σ ∧ RepG K g l p v ∧ match d p s with
  | .ok _ s' => ∀ l' σ', Step l l' → Sok K g l' s' σ' → (∀ vs : List Nat, (∀ i ∈ js, i ∈ vs) → wipe σ' vs = wipe σ vs) → Q σ' l'.H
  | .exn _ _ => False
  | .bad => False
def LGs (K : PySem.W.Frag) (g : Gx) (js : List Nat) (d : DGs) : TGs := fun vs σ H Q => ∃ l s ps, l.H = H ∧ Sok K g l s σ ∧ RepGL K g l ps vs ∧ match d ps s with
  | .ok _ s' => ∀ l' σ', Step l l' → Sok K g l' s' σ' → (∀ vs : List Nat, (∀ i ∈ js, i ∈ vs) → wipe σ' vs = wipe σ vs) → Q σ' l'.H
  | .exn _ _ => False
  | .bad => False
abbrev JG (X : Cx) (g : Gx) (js : List Nat) (tg : Expr) (d : DG) : Prop := PG X tg (LG X.K g js d)
abbrev JGs (X : Cx) (g : Gx) (js : List Nat) (tg : List Expr) (d : DGs) : Prop := PGs X tg (LGs X.K g js d)
theorem wipe_set {σ : St} {i : Nat} {x : Option V} : ∀ {vs : List Nat}, i ∈ vs → wipe (σ.set i x) vs = wipe σ vs
  | v :: vs, h => by
    unfold wipe
    by_cases e : i ∈ vs
    · rw [wipe_set e]
    · have ev : i = v := by
        rcases List.mem_cons.mp h with h | h
        · exact h
        · exact absurd h e
      subst ev
      have gen : ∀ (ws : List Nat), i ∉ ws → wipe (σ.set i x) ws = (wipe σ ws).set i x := by
        intro ws
        induction ws with
        | nil => intro _; rfl
        | cons w ws ih =>
          intro hw
          unfold wipe
          rw [ih fun z => hw (List.mem_cons_of_mem _ z)]
          exact List.set_comm _ _ (fun z => hw (by rw [z]; exact List.mem_cons_self))
      rw [gen vs e, List.set_set]
section
variable {X : Cx} {g : Gx} {a b c e tg iter : Expr} {es : List Expr} {st : Stmt} {rest : List Stmt} {da db dc de : DE} {ds du : DS} {dt : DT} {dr : DA} {pos : Pos}
theorem PG.cq {t t' : TG} (h : PG X e t) (i : ∀ v σ H Q, t' v σ H Q → t v σ H Q) : PG X e t' := ⟨fun pins s σ H v u Q I r q => h.run pins s σ H v u Q I r (i v σ H Q q)⟩
theorem PGs.cq {t t' : TGs} (h : PGs X es t) (i : ∀ v σ H Q, t' v σ H Q → t v σ H Q) : PGs X es t' := ⟨fun pins s σ H v u Q I r q => h.run pins s σ H v u Q I r (i v σ H Q q)⟩
theorem PI.cq {t t' : TI} (h : PI X tg iter t) (i : ∀ pins s σ H Q, Inv X pins σ H s → t' σ H Q → t σ H Q) : PI X tg iter t' := ⟨fun pins s σ H Q I q => h.run pins s σ H Q I (i pins s σ H Q I q)⟩
theorem js_nil : JSs X g [] dSkip := PSs.cq pss_nil fun D σ H q => by
  obtain ⟨l, s, rfl, ok, q⟩ := q
  exact q l σ (Step.refl l) ok
theorem js_cons (h1 : JS X g st ds) (h2 : JSs X g rest du) : JSs X g (st :: rest) (dSeq ds du) := PSs.cq (pss_cons h1 h2) fun D σ H q => by
  obtain ⟨l, s, rfl, ok, q⟩ := q
  refine ⟨l, s, rfl, ok, ?_⟩
  simp only [dSeq] at q
  cases e : ds s with
  | bad => rw [e] at q; exact q
  | exn e t => rw [e] at q; exact q
  | ok f t =>
    rw [e] at q
    cases f with
    | nx => exact fun l1 σ1 s1 ok1 => ⟨l1, t, rfl, ok1, RunS.step (r := du t) (σ := σ) q s1⟩
    | bk => exact q
    | ct => exact q
    | rt v => exact q
theorem js_one (h1 : JS X g st ds) : JSs X g [st] ds := pss_one h1
theorem js_never : JS X g st dNever := PS.cq ps_never fun pins s D σ H I q => by
  obtain ⟨l, s, rfl, ok, q⟩ := q
  exact q
theorem jss_never : JSs X g rest dNever := PSs.cq pss_never fun D σ H q => by
  obtain ⟨l, s, rfl, ok, q⟩ := q
  exact q
theorem js_set {i : Nat} {x : Str} {pos' : Pos} (hN : X.N.Nodup) (he : JE X g e de) (hi : X.N[i]? = some x := by rfl) (hx : Loc X.env.scope x := by first | exact Or.inl rfl | exact Or.inr rfl) (hs : swapsWith e (some (.Name x pos')) pos.line X.env = pure false := by rfl)
    (hf : X.fn x = true ∨ X.env.scope.names.lookup x = some .local := by first | exact .inl rfl | exact .inr rfl) : JS X g (.Assign [.Name x pos'] e pos) (dSet i de) := PS.cq (ps_set hN hi hx he hs hf) fun pins s D σ H I q => by
  obtain ⟨l, s, rfl, ok, q⟩ := q
  refine ⟨l, s, rfl, ok, Run.mono (Run.bindS q) fun u H1 ⟨l1, s1, p, e1, ok1, r1, st1, h1⟩ => ?_⟩
  subst e1
  exact h1 l1 _ (Step.refl l1) (ok1.set r1)
theorem js_expr (he : JE X g e de) (hs : swapsWith e none pos.line X.env = pure false := by rfl) : JS X g (.Expr e pos) (dExpr de) := PS.cq (ps_expr he hs) fun pins s D σ H I q => by
  obtain ⟨l, s, rfl, ok, q⟩ := q
  refine ⟨l, s, rfl, ok, Run.mono (Run.bindS q) fun u H1 ⟨l1, s1, p, e1, ok1, r1, st1, h1⟩ => ?_⟩
  subst e1
  exact h1 l1 _ (Step.refl l1) ok1
theorem js_ret (he : JE X g e de) : JS X g (.Return (some e) pos) (dRet de) := PS.cq (ps_ret he) fun pins s D σ H I q => by
  obtain ⟨l, s, rfl, ok, q⟩ := q
  refine ⟨l, s, rfl, ok, Run.mono (Run.bindS q) fun u H1 ⟨l1, s1, p, e1, ok1, r1, st1, h1⟩ => ?_⟩
  subst e1
  exact h1 l1 σ u (Step.refl l1) ok1 r1
theorem js_retN : JS X g (.Return none pos) dRetN := PS.cq ps_retN fun pins s D σ H I q => by
  obtain ⟨l, s, rfl, ok, q⟩ := q
  exact q l σ .non (Step.refl l) ok rfl
theorem js_brk : JS X g (.Break pos) dBrk := PS.cq ps_break fun pins s D σ H I q => by
  obtain ⟨l, s, rfl, ok, q⟩ := q
  exact q l σ (Step.refl l) ok
theorem js_cont : JS X g (.Continue pos) dCont := PS.cq ps_continue fun pins s D σ H I q => by
  obtain ⟨l, s, rfl, ok, q⟩ := q
  exact q l σ (Step.refl l) ok
theorem js_if {A B : List Stmt} (hc : JT X g c dt) (ha : JSs X g A ds) (hb : JSs X g B du) : JS X g (.If c A B pos) (dIfS dt ds du) := PS.cq (ps_if hc ha hb) fun pins s D σ H I q => by
  obtain ⟨l, s, rfl, ok, q⟩ := q
  refine ⟨l, s, rfl, ok, RunT.mono (RunT.bindS q) fun u H1 ⟨l1, s1, e1, ok1, st1, h1⟩ => ?_⟩
  subst e1
  cases u with
  | true => exact ⟨l1, s1, rfl, ok1, h1⟩
  | false => exact ⟨l1, s1, rfl, ok1, h1⟩
/-! ### targets -/
theorem jg_name {x : Str} (i : Nat) (hN : X.N.Nodup) (hi : X.N[i]? = some x := by rfl) (hx : Loc X.env.scope x := by first | exact Or.inl rfl | exact Or.inr rfl) (hf : X.fn x = true ∨ X.env.scope.names.lookup x = some .local := by first | exact .inl rfl | exact .inr rfl) : JG X g [i] (.Name x pos) (gN i) :=
  PG.cq (pg_name hN hi hx hf) fun v σ H Q q => by
    obtain ⟨l, s, p, rfl, ok, r, q⟩ := q
    exact q l _ (Step.refl l) (ok.set r) fun vs hv => wipe_set (hv i List.mem_cons_self)
theorem jgs_nil : JGs X g [] [] gNil := PGs.cq pgs_nil fun v σ H Q q => by
  obtain ⟨l, s, ps, rfl, ok, r, q⟩ := q
  cases ps with
  | nil => exact ⟨r, q l σ (Step.refl l) ok fun _ _ => rfl⟩
  | cons => exact q.elim
theorem jgs_cons {t : DG} {u : DGs} {i1 i2 : List Nat} (h1 : JG X g i1 e t) (h2 : JGs X g i2 es u) (hs : (assignEach (e :: es) X.env).map (·.2) = assign e X.env :: (assignEach es X.env).map (·.2) := by rfl) : JGs X g (i1 ++ i2) (e :: es) (gCons t u) :=
  PGs.cq (pgs_cons h1 h2 hs) fun vs σ H Q q => by
    obtain ⟨l, s, ps, rfl, ok, r, q⟩ := q
    cases ps with
    | nil => exact q.elim
    | cons p ps =>
      obtain ⟨v, w, rfl, r1, r2⟩ := r
      refine ⟨v, w, rfl, l, s, p, rfl, ok, r1, ?_⟩
      simp only [gCons] at q
      cases e : t p s with
      | bad => rw [e] at q; exact q.elim
      | exn e t => rw [e] at q; exact q.elim
      | ok f s1 =>
        rw [e] at q
        intro l1 σ1 st1 ok1 w1
        refine ⟨l1, s1, ps, rfl, ok1, st1.reps r2, ?_⟩
        simp only [R.bind] at q
        cases e2 : u ps s1 with
        | bad => rw [e2] at q; exact q.elim
        | exn e t => rw [e2] at q; exact q.elim
        | ok f s2 =>
          rw [e2] at q
          exact fun l2 σ2 st2 ok2 w2 => q l2 σ2 (st1.trans st2) ok2 fun vs hv => (w2 vs fun i hi => hv i (List.mem_append_right _ hi)).trans (w1 vs fun i hi => hv i (List.mem_append_left _ hi))
theorem jg_tup {t : DGs} {k n : Nat} {js : List Nat} (hc : X.calm = true) (h : JGs X g js es t) (hn : (assignEach es X.env).length = n := by rfl) (hst : (assignEach es X.env).findIdx? (·.1) = none := by rfl) : JG X g js (.Tuple es k pos) (gT n t) :=
  PG.cq (pg_tup hc h hn hst) fun v σ H Q q => by
    obtain ⟨l, s, p, rfl, ok, r, q⟩ := q
    cases p with
    | tup xs =>
      obtain ⟨a, vs, rfl, ha, ra⟩ := r
      simp only [gT] at q
      by_cases z : xs.length = n
      · rw [if_pos z] at q
        exact ⟨a, vs, rfl, SqT.of2 ha, by rw [← ra.length]; exact z, l, s, xs, rfl, ok, ra, q⟩
      · rw [if_neg z] at q
        exact q.elim
    | _ => exact q.elim
theorem js_asg {t : DG} {js : List Nat} (he : JE X g e de) (hg : JG X g js tg t) (hs : swapsWithSole [tg] e pos.line X.env = pure false := by rfl) (hw : swappedStores [tg] e X.env = pure none := by rfl)
    (h1 : (assignEach [tg] X.env).map (·.2) = [assign tg X.env] := by rfl) : JS X g (.Assign [tg] e pos) (dAsg de t) := PS.cq (ps_asg he hg hs hw h1) fun pins s D σ H I q => by
  obtain ⟨l, s, rfl, ok, q⟩ := q
  refine ⟨l, s, rfl, ok, Run.mono (Run.bindS q) fun u H1 ⟨l1, s1, p, e1, ok1, r1, st1, h1⟩ => ?_⟩
  refine ⟨l1, s1, p, e1, ok1, r1, ?_⟩
  cases e : t p s1 with
  | bad => rw [e] at h1; exact h1
  | exn e t => rw [e] at h1; exact h1.elim
  | ok f s2 => rw [e] at h1; exact fun l2 σ2 st2 ok2 _ => h1 l2 σ2 st2 ok2
/-! ### loops -/
theorem js_while {body : List Stmt} {fuel : S → Nat} (hp : PassesOwn (model X.prog X.w) X.A X.env X.xe) (hc : JT X g c dt) (hb : JSs X g body ds) : JS X g (.While c body [] pos) (dWhile fuel dt ds) := PS.cq (ps_while hp hc hb) fun pins s D σ H I q => by
  obtain ⟨l, s, rfl, ok, q⟩ := q
  refine ⟨fun m σ' H' => ∃ l' s', l'.H = H' ∧ Sok X.K g l' s' σ' ∧ RunS X.K g (whileL dt ds m s') l' D σ', ⟨fuel s, l, s, rfl, ok, q⟩, ?_⟩
  rintro m σ1 H1 ⟨l1, s1, rfl, ok1, q1⟩
  cases m with
  | zero => exact q1.elim
  | succ m =>
    refine ⟨l1, s1, rfl, ok1, RunT.mono (RunT.bindS (k := fun k s1 => match k with
      | false => .ok .nx s1
      | true => (ds s1).bind fun f s2 => match f with
        | .nx => whileL dt ds m s2
        | .ct => whileL dt ds m s2
        | .bk => .ok .nx s2
        | .rt v => .ok (.rt v) s2) q1) fun u H2 ⟨l2, s2, e2, ok2, st2, h2⟩ => ?_⟩
    subst e2
    cases u with
    | false => exact h2 l2 σ1 (Step.refl l2) ok2
    | true =>
      refine (if_pos rfl).mpr ⟨fun σ' H' => ∃ l' s', l'.H = H' ∧ Sok X.K g l' s' σ' ∧ RunS X.K g (whileL dt ds m s') l' D σ', fun σ' H' z => ⟨m, Nat.lt_succ_self m, z⟩, l2, s2, rfl, ok2, ?_⟩
      simp only at h2
      cases e : ds s2 with
      | bad => rw [e] at h2; exact h2
      | exn e t => rw [e] at h2; exact h2
      | ok f t =>
        rw [e] at h2
        cases f with
        | nx => exact fun l' σ' st' ok' => ⟨l', t, rfl, ok', RunS.step (r := whileL dt ds m t) (σ := σ1) h2 st'⟩
        | ct => exact fun l' σ' st' ok' => ⟨l', t, rfl, ok', RunS.step (r := whileL dt ds m t) (σ := σ1) h2 st'⟩
        | bk => exact h2
        | rt v => exact h2
theorem RunS.nxc {r : R S Fl} {k : S → R S Fl} {D : Ends} {l : Lc} {σ : St} {K : PySem.W.Frag} {N : St → Hp → Prop}
    (h : RunS K g (r.bind fun f s2 => match f with
        | .nx => k s2
        | .ct => k s2
        | .bk => .ok .nx s2
        | .rt v => .ok (.rt v) s2) l D σ) (hN : ∀ t l' σ', Step l l' → Sok K g l' t σ' → RunS K g (k t) l' D σ' → N σ' l'.H) : RunS K g r l { D with nx := N, ct := N, bk := D.nx } σ := by
  cases r with
  | bad => exact h
  | exn e t => exact h
  | ok f t =>
    cases f with
    | nx => exact fun l' σ' st' ok' => hN t l' σ' st' ok' (RunS.step (r := k t) (σ := σ) h st')
    | ct => exact fun l' σ' st' ok' => hN t l' σ' st' ok' (RunS.step (r := k t) (σ := σ) h st')
    | bk => exact h
    | rt v => exact h
theorem js_for {body : List Stmt} {di : DI} {t : DG} {js : List Nat} (hp : PassesOwn (model X.prog X.w) X.A X.env X.xe) (hc : X.calm = true) (hi : JI X g tg iter di) (hg : JG X g js tg t) (hb : JSs X g body ds)
    (hs : ∀ x, foldedSetIterable iter X.env x = pure x := by intro _; rfl) : JS X g (.For tg iter body [] pos) (dFor di t ds) := PS.cq (ps_for hp hc hi hg hb hs) fun pins s D σ H I q => by
  obtain ⟨l, s, rfl, ok, q⟩ := q
  refine ⟨l, s, rfl, ok, ?_⟩
  simp only [dFor] at q
  cases e : di s with
  | bad => rw [e] at q; exact q
  | exn e t => rw [e] at q; exact fun l' c d => q l' σ c d
  | ok xs s1 =>
    rw [e] at q
    intro l0 J st0 ok0 it
    have q0 := RunS.step (r := forL t ds xs s1) (σ := σ) q st0
    refine ⟨fun i m σ' H' => m = xs.length - i ∧ i ≤ xs.length ∧ ∃ l' s', l'.H = H' ∧ Step l0 l' ∧ Sok X.K g l' s' σ' ∧ RunS X.K g (forL t ds (xs.drop i) s') l' D σ', ⟨xs.length, by simp, Nat.zero_le _, l0, s1, rfl, Step.refl l0, ok0, q0⟩, ?_⟩
    rintro i m σ1 H1 ⟨rfl, hi', l1, s2, rfl, st1, ok1, q1⟩
    obtain ⟨i1, i2⟩ := it i g l1 st1 rfl (fun _ h => .inl h) ok1.there
    by_cases hlt : i < xs.length
    · obtain ⟨g1, g2⟩ := i1 xs[i] (by simp [hlt])
      refine .inr ⟨g1, fun σ' H' => ∃ l' s', l'.H = H' ∧ Step l0 l' ∧ Sok X.K g l' s' σ' ∧ RunS X.K g (forL t ds (xs.drop (i + 1)) s') l' D σ', fun σ' H' z => ⟨xs.length - (i + 1), by omega, rfl, hlt, z⟩, fun x H' y => ?_⟩
      obtain ⟨k1, k2⟩ := g2 x H' y
      rw [List.drop_eq_getElem_cons hlt] at q1
      have ok2 : Sok X.K g ⟨l1.al, l1.M, H'⟩ s2 σ1 := ok1.grow rfl rfl k1
      have st2 : Step l1 ⟨l1.al, l1.M, H'⟩ := ⟨⟨[], by simp⟩, fun _ h => .inl h, fun a o _ h => k1 a o h, fun a h => by
        cases q : l1.H a with
        | none => exact absurd q h
        | some o => show H' a ≠ none; rw [k1 a o q]; simp⟩
      refine ⟨⟨l1.al, l1.M, H'⟩, s2, xs[i], rfl, ok2, k2 _ rfl rfl rfl, ?_⟩
      have q2 := RunS.step (r := forL t ds (xs[i] :: xs.drop (i + 1)) s2) (σ := σ1) q1 st2
      unfold forL at q2
      cases et : t xs[i] s2 with
      | bad => rw [et] at q2; exact q2.elim
      | exn e t => rw [et] at q2; exact q2.elim
      | ok f s3 =>
        rw [et] at q2
        intro l3 σ3 st3 ok3 _
        refine ⟨l3, s3, rfl, ok3, ?_⟩
        exact RunS.nxc (k := fun s2 => forL t ds (xs.drop (i + 1)) s2) (RunS.step (σ := σ1) q2 st3) fun t' l' σ' st' ok' h' => ⟨l', t', rfl, (st1.trans st2).trans (st3.trans st'), ok', h'⟩
    · have ei : i = xs.length := by omega
      refine .inl ⟨i2 (by omega), ?_⟩
      rw [ei, List.drop_length] at q1
      exact q1 l1 σ1 (Step.refl l1) ok1
end
end L3

namespace L3
open PySem PySem.Spec PyProof.Rows L2
/-! ## what a loop walks -/
@[simp] def iSeq (d : DE) : DI := fun s => (d s).bind fun v s1 => match v with
  | .lst xs => .ok xs s1
  | .tup xs => .ok xs s1
  | .frz xs => .ok xs s1
  | _ => .bad
def rangeP (lo : Int) (n : Nat) : List PV := (List.range n).map fun (k : Nat) => .int (lo + (k : Int))
@[simp] def iRange1 (d : DA) : DI := fun s => (d s).bind fun vs s1 => match vs with
  | [.int j] => if -(2 ^ 62) ≤ j ∧ j < 2 ^ 62 then .ok (rangeP 0 j.toNat) s1 else .bad
  | _ => .bad
@[simp] def iRange2 (d : DA) : DI := fun s => (d s).bind fun vs s1 => match vs with
  | [.int i, .int j] => if -(2 ^ 62) ≤ i ∧ i < 2 ^ 62 ∧ -(2 ^ 62) ≤ j ∧ j < 2 ^ 62 then .ok (rangeP i (j - i).toNat) s1 else .bad
  | _ => .bad
def enumP (xs : List PV) : List PV := (List.range xs.length).map fun (k : Nat) => .tup [.int (k : Int), xs.getD k .non]
@[simp] def iEnum (d : DA) : DI := fun s => (d s).bind fun vs s1 => match vs with
  | [.lst xs] => .ok (enumP xs) s1
  | _ => .bad
def zipP (xs ys : List PV) : List PV := (xs.zip ys).map fun p => .tup [p.1, p.2]
@[simp] def iZip (d : DA) : DI := fun s => (d s).bind fun vs s1 => match vs with
  | [.lst xs, .lst ys] => .ok (zipP xs ys) s1
  | [.tup xs, .tup ys] => .ok (zipP xs ys) s1
  | _ => .bad
theorem enumP_get {xs : List PV} {i : Nat} {x : PV} (h : (enumP xs)[i]? = some x) : ∃ y, xs[i]? = some y ∧ x = .tup [.int (i : Int), y] := by
  unfold enumP at h
  rw [List.getElem?_map] at h
  cases e : (List.range xs.length)[i]? with
  | none => rw [e] at h; cases h
  | some k =>
    rw [e] at h
    obtain ⟨hl, ek⟩ := List.getElem?_eq_some_iff.mp e
    rw [List.getElem_range] at ek
    subst ek
    rw [List.length_range] at hl
    cases h
    exact ⟨xs[i], by simp [hl], by simp [List.getD, hl]⟩
theorem zipP_get {xs ys : List PV} {i : Nat} {x : PV} (h : (zipP xs ys)[i]? = some x) : ∃ a b, xs[i]? = some a ∧ ys[i]? = some b ∧ x = .tup [a, b] := by
  unfold zipP at h
  rw [List.getElem?_map] at h
  cases e : (xs.zip ys)[i]? with
  | none => rw [e] at h; cases h
  | some k =>
    rw [e] at h
    cases h
    rw [List.getElem?_zip_eq_some] at e
    exact ⟨k.1, k.2, e.1, e.2, rfl⟩
section
variable {X : Cx} {g : Gx} {a b c e tg iter : Expr} {es : List Expr} {da db dc de : DE} {dr : DA} {pos : Pos}
theorem pi_seq {l : Expr} {tl : TE} (hl : PE X l tl) : PI X tg l (fun σ H Rq => tl σ H fun x H1 => ∃ a, x = .ref a ∧ ((∃ xs, SqL X.K H1 a xs) ∧ Rq (Itl X.K a) H1 ∨ (∃ xs, SqT X.K H1 a xs) ∧ Rq (Itt X.K a) H1)) := by
  refine ⟨fun pins s σ H R I h => ?_⟩
  refine thn (hl.run pins s σ H _ I h) fun v s1 ⟨x, H1, I1, r1, q1⟩ => ?_
  obtain ⟨a, e, ⟨⟨xs, hq⟩, q⟩ | ⟨⟨xs, hq⟩, q⟩⟩ := q1
  · subst e
    cases r1
    obtain ⟨its, rv, p, hz⟩ := I1.list hq
    refine wpAny_pyIter_list p.isList ?_
    refine ⟨s1.heap.objs.size, [s1.heap.objs.size], _, _, H1, rfl, I1.kept (t' := s1.toks) fun b o e => Heap.get?_push_of_some _ e, turn_list a _, ⟨_, Heap.get?_push_size _ rfl, rfl, rfl⟩, fun b hb => ?_, q⟩
    have e : b = s1.heap.objs.size := by simpa using hb
    subst e
    exact I1.fpOk (Nat.le_refl _) (I1.hok.fresh (Nat.le_refl _))
  · subst e
    cases r1
    obtain ⟨its, rv, p, hz⟩ := I1.tuple hq
    refine wpAny_pyIter_tuple (show s1.heap.IsTuple a its.toArray from p) ?_
    refine ⟨s1.heap.objs.size, [s1.heap.objs.size], _, _, H1, rfl, I1.kept (t' := s1.toks) fun b o e => Heap.get?_push_of_some _ e, turn_tuple a _, ⟨_, Heap.get?_push_size _ rfl, rfl, rfl⟩, fun b hb => ?_, q⟩
    have e : b = s1.heap.objs.size := by simpa using hb
    subst e
    exact I1.fpOk (Nat.le_refl _) (I1.hok.fresh (Nat.le_refl _))
theorem rep_here {K : PySem.W.Frag} {l l1 : Lc} {p : PV} {u : V} (ea : l1.al = l.al) (eM : l1.M = l.M) (k : ∀ a o, l.H a = some o → l1.H a = some o) (r : RepG K g l p u) : RepG K g l1 p u := by
  have st : Step l l1 := ⟨⟨[], by simp [ea]⟩, fun a h => .inl (by rw [← eM]; exact h), fun a o _ h => k a o h, fun a h => by
    cases q : l.H a with
    | none => exact absurd q h
    | some o => rw [k a o q]; simp⟩
  exact st.rep r
theorem it_list {K : PySem.W.Frag} {l0 : Lc} {a : Addr} {vs : List V} {xs : List PV} (hn : ∀ l, Step l0 l → SqL K l.H a vs) (rv : RepGL K g l0 xs vs) : ItOk K g l0 (Itl K a) xs := fun i g' l st ec hN th => by
  have h1 := hn l st
  refine ⟨fun x hx => ?_, fun hx => ⟨vs, h1, by rw [← rv.length]; exact hx⟩⟩
  obtain ⟨v, hv, r⟩ := rv.get hx
  refine ⟨⟨vs, v, h1, hv⟩, fun u H' y => ?_⟩
  obtain ⟨e, y⟩ := y
  subst e
  have eu : u = v := by have := y vs h1; rw [hv] at this; exact (Option.some.inj this).symm
  subst eu
  exact ⟨fun _ _ h => h, fun l1 ea eM eH => rep_here ea eM (fun a o h => by rw [eH]; exact h) (st.rep2 ec hN r)⟩
theorem it_tup {K : PySem.W.Frag} {l0 : Lc} {a : Addr} {vs : List V} {xs : List PV} (hn : ∀ l, Step l0 l → SqT K l.H a vs) (rv : RepGL K g l0 xs vs) : ItOk K g l0 (Itt K a) xs := fun i g' l st ec hN th => by
  have h1 := hn l st
  refine ⟨fun x hx => ?_, fun hx => ⟨vs, h1, by rw [← rv.length]; exact hx⟩⟩
  obtain ⟨v, hv, r⟩ := rv.get hx
  refine ⟨⟨vs, v, h1, hv⟩, fun u H' y => ?_⟩
  obtain ⟨e, y⟩ := y
  subst e
  have eu : u = v := by have := y vs h1; rw [hv] at this; exact (Option.some.inj this).symm
  subst eu
  exact ⟨fun _ _ h => h, fun l1 ea eM eH => rep_here ea eM (fun a o h => by rw [eH]; exact h) (st.rep2 ec hN r)⟩
/-- a list of immutables stays -/
theorem lst_stays {K : PySem.W.Frag} {l0 l : Lc} {a : Addr} {vs : List V} (n : ¬ l0.M a) (h : l0.H a = some (.lst vs)) (st : Step l0 l) : SqL K l.H a vs := SqL.of (st.keep a _ n h)
theorem tup_stays {K : PySem.W.Frag} {g : Gx} {l0 l : Lc} {a : Addr} {vs : List V} (h : ¬ g.L l0 a ∧ Rd l0.H a (.tup vs) ∨ KT K a vs) (st : Step l0 l) : SqT K l.H a vs := by
  rcases h with ⟨n, h⟩ | h
  · exact .inl (Rd.keep (fun o q => st.keep a o (fun z => n (.inl z)) q) h)
  · exact .inr h
theorem frz_stays {K : PySem.W.Frag} {g : Gx} {l0 l : Lc} {a : Addr} {vs : List V} (h : ¬ g.L l0 a ∧ Rd l0.H a (.lst vs) ∨ KL K a vs) (st : Step l0 l) : SqL K l.H a vs := by
  rcases h with ⟨n, h⟩ | h
  · exact .inl (Rd.keep (fun o q => st.keep a o (fun z => n (.inl z)) q) h)
  · exact .inr h
/-- an expression's list is walked -/
theorem ji_seq (he : JE X g e de) : JI X g tg e (iSeq de) := PI.cq (pi_seq he) fun pins s σ H Q I q => by
  obtain ⟨l, s, rfl, ok, q⟩ := q
  refine ⟨l, s, rfl, ok, ?_⟩
  simp only [iSeq] at q
  cases e1 : de s with
  | bad => rw [e1] at q; exact q
  | exn e t => rw [e1] at q; exact q
  | ok v t =>
    rw [e1] at q
    intro l1 u st1 ok1 r1
    cases v with
    | lst xs =>
      obtain ⟨a, vs, rfl, n, h, rv⟩ := r1
      exact ⟨a, rfl, .inl ⟨⟨vs, SqL.of h⟩, q l1 _ st1 ok1 (it_list (fun l st => lst_stays (fun z => n (.inl z)) h st) rv)⟩⟩
    | tup xs =>
      obtain ⟨a, vs, rfl, h, rv⟩ := r1
      exact ⟨a, rfl, .inr ⟨⟨vs, SqT.of2 h⟩, q l1 _ st1 ok1 (it_tup (fun l st => tup_stays h st) rv)⟩⟩
    | frz xs =>
      obtain ⟨a, vs, rfl, h, rv⟩ := r1
      exact ⟨a, rfl, .inl ⟨⟨vs, SqL.of2 h⟩, q l1 _ st1 ok1 (it_list (fun l st => frz_stays h st) rv)⟩⟩
    | _ => exact q.elim
theorem it_range {K : PySem.W.Frag} {l0 : Lc} {lo : Int} {n : Nat} : ItOk K g l0 (Itr lo n) (rangeP lo n) := fun i g' l st ec hN th => by
  have hl : (rangeP lo n).length = n := by simp [rangeP]
  refine ⟨fun x hx => ?_, fun hx => by rw [hl] at hx; exact hx⟩
  unfold rangeP at hx
  rw [List.getElem?_map] at hx
  cases e : (List.range n)[i]? with
  | none => rw [e] at hx; cases hx
  | some k =>
    rw [e] at hx
    obtain ⟨h1, ek⟩ := List.getElem?_eq_some_iff.mp e
    rw [List.getElem_range] at ek
    subst ek
    rw [List.length_range] at h1
    cases hx
    refine ⟨h1, fun u H' y => ?_⟩
    obtain ⟨e1, e2⟩ := y
    subst e1 e2
    exact ⟨fun _ _ h => h, fun _ _ _ _ => rfl⟩
theorem ji_range1 {p : Pos} (ha : JA X g [a] dr) (hm : X.mg "range" = none) (hg : Gl X "range" := by rfl) (hs : starEach [a] X.env = [(false, eval a X.env)] := by rfl) : JI X g tg (.Call (.Name "range" p) [a] [] pos) (iRange1 dr) :=
  PI.cq (pi_range1 hg hm ha hs) fun pins s σ H Q I q => by
    obtain ⟨l, s, rfl, ok, q⟩ := q
    refine ⟨l, s, rfl, ok, ?_⟩
    simp only [iRange1] at q
    cases e1 : dr s with
    | bad => rw [e1] at q; exact q
    | exn e t => rw [e1] at q; exact q
    | ok vs t =>
      rw [e1] at q
      intro l1 us st1 ok1 r1
      simp only [R.bind] at q
      split at q
      · rename_i e2
        split at e2
        · rename_i j
          obtain ⟨v, r, rfl, h1, h2⟩ := r1
          cases (show r = [] from h2)
          cases (show v = .int j from h1)
          by_cases z : -(2 ^ 62) ≤ j ∧ j < 2 ^ 62
          · rw [if_pos z] at e2
            cases e2
            exact ⟨j, rfl, z.1, z.2, q l1 _ st1 ok1 it_range⟩
          · rw [if_neg z] at e2
            cases e2
        · cases e2
      · rename_i e2
        split at e2
        · split at e2 <;> cases e2
        · cases e2
      · exact q.elim
theorem ji_range2 {p : Pos} (ha : JA X g [a, b] dr) (hm : X.mg "range" = none) (hg : Gl X "range" := by rfl) (hs : starEach [a, b] X.env = [(false, eval a X.env), (false, eval b X.env)] := by rfl) (hs2 : starEach [b] X.env = [(false, eval b X.env)] := by rfl) : JI X g tg (.Call (.Name "range" p) [a, b] [] pos) (iRange2 dr) :=
  PI.cq (pi_range2 hg hm ha hs hs2) fun pins s σ H Q I q => by
    obtain ⟨l, s, rfl, ok, q⟩ := q
    refine ⟨l, s, rfl, ok, ?_⟩
    simp only [iRange2] at q
    cases e1 : dr s with
    | bad => rw [e1] at q; exact q
    | exn e t => rw [e1] at q; exact q
    | ok vs t =>
      rw [e1] at q
      intro l1 us st1 ok1 r1
      simp only [R.bind] at q
      split at q
      · rename_i e2
        split at e2
        · rename_i i j
          obtain ⟨v, r, rfl, h1, w, r2, rfl, h2, h3⟩ := r1
          cases (show r2 = [] from h3)
          cases (show v = .int i from h1)
          cases (show w = .int j from h2)
          by_cases z : -(2 ^ 62) ≤ i ∧ i < 2 ^ 62 ∧ -(2 ^ 62) ≤ j ∧ j < 2 ^ 62
          · rw [if_pos z] at e2
            cases e2
            exact ⟨i, j, rfl, z, q l1 _ st1 ok1 it_range⟩
          · rw [if_neg z] at e2
            cases e2
        · cases e2
      · rename_i e2
        split at e2
        · split at e2 <;> cases e2
        · cases e2
      · exact q.elim
theorem upd_keep {H : Hp} {T : Addr} {o : HO} (h : H T = none) : ∀ a u, H a = some u → upd H T o a = some u := fun a u e => by rw [upd_ne (ne_of_none e h)]; exact e
/-- a pair that an iterator lays anew -/
theorem pair_rep {K : PySem.W.Frag} {l l1 : Lc} {T : Addr} {x y : PV} {u v : V} (hT : l.H T = none) (there : ¬ g.L l T) (ea : l1.al = l.al) (eM : l1.M = l.M) (eH : l1.H = upd l.H T (.tup [u, v])) (rx : RepG K g l x u) (ry : RepG K g l y v) : RepG K g l1 (.tup [x, y]) (.ref T) := by
  have k : ∀ a o, l.H a = some o → l1.H a = some o := fun a o h => by rw [eH]; exact upd_keep hT a o h
  refine ⟨T, [u, v], rfl, .inl ⟨fun z => there (by rcases z with z | z; exact .inl (by rw [← eM]; exact z); exact .inr z), .inl (by rw [eH, upd_same])⟩, u, [v], rfl, rep_here ea eM k rx, v, [], rfl, rep_here ea eM k ry, rfl⟩
theorem it_enum {K : PySem.W.Frag} {l0 : Lc} {a : Addr} {vs : List V} {xs : List PV} (hn : ∀ l, Step l0 l → SqL K l.H a vs) (rv : RepGL K g l0 xs vs) : ItOk K g l0 (Ite K a) (enumP xs) := fun i g' l st ec hN th => by
  have h1 := hn l st
  have hl : (enumP xs).length = xs.length := by simp [enumP]
  refine ⟨fun x hx => ?_, fun hx => ⟨vs, h1, by rw [← rv.length]; rw [hl] at hx; exact hx⟩⟩
  obtain ⟨y, hy, rfl⟩ := enumP_get hx
  obtain ⟨v, hv, r⟩ := rv.get hy
  refine ⟨⟨vs, v, h1, hv⟩, fun u H' z => ?_⟩
  obtain ⟨T, w, rfl, hT, rfl, z⟩ := z
  have ew : w = v := by have := z vs h1; rw [hv] at this; exact (Option.some.inj this).symm
  subst ew
  exact ⟨upd_keep hT, fun l1 ea eM eH => pair_rep hT (fun z => th T z hT) ea eM eH rfl (st.rep2 ec hN r)⟩
theorem it_zip {K : PySem.W.Frag} {l0 : Lc} {a b : Addr} {vs ws : List V} {xs ys : List PV} (hn : ∀ l, Step l0 l → SqL K l.H a vs) (hm : ∀ l, Step l0 l → SqL K l.H b ws) (rv : RepGL K g l0 xs vs) (rw' : RepGL K g l0 ys ws) : ItOk K g l0 (Itz K a b) (zipP xs ys) := fun i g' l st ec hN th => by
  have h1 := hn l st
  have h2 := hm l st
  have hl : (zipP xs ys).length = min xs.length ys.length := by simp [zipP]
  refine ⟨fun x hx => ?_, fun hx => ⟨vs, ws, h1, h2, by rw [← rv.length, ← rw'.length]; omega⟩⟩
  obtain ⟨p, q, hp, hq, rfl⟩ := zipP_get hx
  obtain ⟨v, hv, r⟩ := rv.get hp
  obtain ⟨w, hw, r2⟩ := rw'.get hq
  refine ⟨⟨vs, ws, v, w, h1, h2, hv, hw⟩, fun u H' z => ?_⟩
  obtain ⟨T, v', w', rfl, hT, rfl, z1, z2⟩ := z
  have e1 : v' = v := by have := z1 vs h1; rw [hv] at this; exact (Option.some.inj this).symm
  have e2 : w' = w := by have := z2 ws h2; rw [hw] at this; exact (Option.some.inj this).symm
  subst e1 e2
  exact ⟨upd_keep hT, fun l1 ea eM eH => pair_rep hT (fun z => th T z hT) ea eM eH (st.rep2 ec hN r) (st.rep2 ec hN r2)⟩
theorem it_zipT {K : PySem.W.Frag} {l0 : Lc} {a b : Addr} {vs ws : List V} {xs ys : List PV} (hn : ∀ l, Step l0 l → SqT K l.H a vs) (hm : ∀ l, Step l0 l → SqT K l.H b ws) (rv : RepGL K g l0 xs vs) (rw' : RepGL K g l0 ys ws) : ItOk K g l0 (RZ.ItzT K a b) (zipP xs ys) := fun i g' l st ec hN th => by
  have h1 := hn l st
  have h2 := hm l st
  have hl : (zipP xs ys).length = min xs.length ys.length := by simp [zipP]
  refine ⟨fun x hx => ?_, fun hx => ⟨vs, ws, h1, h2, by rw [← rv.length, ← rw'.length]; omega⟩⟩
  obtain ⟨p, q, hp, hq, rfl⟩ := zipP_get hx
  obtain ⟨v, hv, r⟩ := rv.get hp
  obtain ⟨w, hw, r2⟩ := rw'.get hq
  refine ⟨⟨vs, ws, v, w, h1, h2, hv, hw⟩, fun u H' z => ?_⟩
  obtain ⟨T, v', w', rfl, hT, rfl, z1, z2⟩ := z
  have e1 : v' = v := by have := z1 vs h1; rw [hv] at this; exact (Option.some.inj this).symm
  have e2 : w' = w := by have := z2 ws h2; rw [hw] at this; exact (Option.some.inj this).symm
  subst e1 e2
  exact ⟨upd_keep hT, fun l1 ea eM eH => pair_rep hT (fun z => th T z hT) ea eM eH (st.rep2 ec hN r) (st.rep2 ec hN r2)⟩
theorem ji_enum {p tpos : Pos} {elts : List Expr} {kk : Nat} (ha : JA X g [a] dr) (hm : X.mg "enumerate" = none) (hg : Gl X "enumerate" := by rfl) (hs : starEach [a] X.env = [(false, eval a X.env)] := by rfl) : JI X g (.Tuple elts kk tpos) (.Call (.Name "enumerate" p) [a] [] pos) (iEnum dr) :=
  PI.cq (pi_enum hg hm ha hs) fun pins s σ H Q I q => by
    obtain ⟨l, s, rfl, ok, q⟩ := q
    refine ⟨l, s, rfl, ok, ?_⟩
    simp only [iEnum] at q
    cases e1 : dr s with
    | bad => rw [e1] at q; exact q
    | exn e t => rw [e1] at q; exact q
    | ok vs t =>
      rw [e1] at q
      intro l1 us st1 ok1 r1
      simp only [R.bind] at q
      split at q
      · rename_i e2
        split at e2
        · rename_i xs
          cases e2
          obtain ⟨v, r, rfl, h1, h2⟩ := r1
          cases (show r = [] from h2)
          obtain ⟨b, ws, rfl, n, hb, rb⟩ := h1
          exact ⟨b, ws, rfl, SqL.of hb, q l1 _ st1 ok1 (it_enum (fun l st => lst_stays (fun z => n (.inl z)) hb st) rb)⟩
        · cases e2
      · rename_i e2
        split at e2 <;> cases e2
      · exact q.elim
theorem ji_zip {p tpos : Pos} {elts : List Expr} {kk : Nat} (ha : JA X g [a, b] dr) (hm : X.mg "zip" = none) (hg : Gl X "zip" := by rfl) (hs : starEach [a, b] X.env = (false, eval a X.env) :: starEach [b] X.env := by rfl) (hpl : (backTo pos (starEach [b] X.env)).any (·.1) = false := by rfl) : JI X g (.Tuple elts kk tpos) (.Call (.Name "zip" p) [a, b] [] pos) (iZip dr) :=
  PI.cq (RZ.pi_zipA hg hm ha hs hpl) fun pins s σ H Q I q => by
    obtain ⟨l, s, rfl, ok, q⟩ := q
    refine ⟨l, s, rfl, ok, ?_⟩
    simp only [iZip] at q
    cases e1 : dr s with
    | bad => rw [e1] at q; exact q
    | exn e t => rw [e1] at q; exact q
    | ok vs t =>
      rw [e1] at q
      intro l1 us st1 ok1 r1
      simp only [R.bind] at q
      split at q
      · rename_i e2
        split at e2
        · rename_i xs ys
          cases e2
          obtain ⟨v, r, rfl, h1, w, r2, rfl, h2, h3⟩ := r1
          cases (show r2 = [] from h3)
          obtain ⟨b1, ws1, rfl, n1, hb1, rb1⟩ := h1
          obtain ⟨b2, ws2, rfl, n2, hb2, rb2⟩ := h2
          exact ⟨b1, b2, ws1, ws2, rfl, .inl ⟨SqL.of hb1, SqL.of hb2, q l1 _ st1 ok1 (it_zip (fun l st => lst_stays (fun z => n1 (.inl z)) hb1 st) (fun l st => lst_stays (fun z => n2 (.inl z)) hb2 st) rb1 rb2)⟩⟩
        · rename_i xs ys
          cases e2
          obtain ⟨v, r, rfl, h1, w, r2, rfl, h2, h3⟩ := r1
          cases (show r2 = [] from h3)
          obtain ⟨b1, ws1, rfl, hb1, rb1⟩ := h1
          obtain ⟨b2, ws2, rfl, hb2, rb2⟩ := h2
          exact ⟨b1, b2, ws1, ws2, rfl, .inr ⟨SqT.of2 hb1, SqT.of2 hb2, q l1 _ st1 ok1 (it_zipT (fun l st => tup_stays hb1 st) (fun l st => tup_stays hb2 st) rb1 rb2)⟩⟩
        · cases e2
      · rename_i e2
        split at e2 <;> cases e2
      · exact q.elim
end
end L3

namespace L3
open PySem PySem.Spec PyProof.Rows L2
/-! ## new lists -/
abbrev DL := S → R S (List PV)
def RunF (K : PySem.W.Frag) (g : Gx) (r : R S (List PV)) (l : Lc) (σ : St) (Q : VK) : Prop := match r with
  | .ok xs s' => ∀ l' us p, Step l l' → Sok K g l' s' σ → RepGL K g l' xs us → l'.H p = none → Q (.ref p) (upd l'.H p (.lst us))
  | .exn e s' => ∀ l' cls dd, Step l l' → Sok K g l' s' σ → RepX K g l' e cls dd → g.W cls dd σ l'.H
  | .bad => False
def LF (K : PySem.W.Frag) (g : Gx) (d : DL) : TE := fun σ H Q => ∃ l s, l.H = H ∧ Sok K g l s σ ∧ RunF K g (d s) l σ Q
/-- code that lays a new list -/
abbrev JF (X : Cx) (g : Gx) (e : Expr) (d : DL) : Prop := PE X e (LF X.K g d)
@[simp] def dFr (d : DL) : DE := fun s => (d s).bind fun xs s1 => .ok (.lst xs) s1
@[simp] def okB {a b : Type} (r : R S a) (k : a → S → R S b) : R S b := match r with
  | .ok v s => k v s
  | _ => .bad
def wipeE (env : List (Option SV)) : List Nat → List (Option SV)
  | [] => env
  | v :: vs => (wipeE env vs).set v none
@[simp] def wipeS (vs : List Nat) (s : S) : S := ⟨wipeE s.env vs, s.mu⟩
@[simp] def dYes : DT := fun s => .ok true s
def compL (t : DG) (tt : DT) (te : DE) (vs : List Nat) : List PV → List PV → S → R S (List PV)
  | [], acc, s => .ok acc s
  | x :: xs, acc, s => tgt (t x s) fun s1 => okB (tt s1) fun b s2 => match b with
    | true => okB (te s2) fun y s3 => if acc.length < 16777216 then compL t tt te vs xs (acc ++ [y]) (wipeS vs s3) else .bad
    | false => compL t tt te vs xs acc (wipeS vs s2)
@[simp] def dComp (di : DI) (t : DG) (tt : DT) (te : DE) (vs : List Nat) : DL := fun s => (di s).bind fun xs s1 => compL t tt te vs xs [] (wipeS vs s1)
@[simp] def dLstF (d : DA) : DL := fun s => (d s).bind fun xs s1 => if xs.length ≤ 1000 then .ok xs s1 else .bad
@[simp] def dListF (d : DE) : DL := fun s => (d s).bind fun p s1 => match asL s1.mu p with
  | some xs => .ok xs s1
  | none => .bad
abbrev W0 : WX := fun _ _ _ _ => False
abbrev Gx.at (g : Gx) (N : Addr → Prop) : Gx := ⟨g.CR, N, W0⟩
/-- the same objects known, the abstract heap another -/
theorem Sok.to {K : PySem.W.Frag} {g g' : Gx} {l l' : Lc} {s : S} {σ : St} (ok : Sok K g l s σ) (ec : g'.CR = g.CR) (ea : l'.al = l.al) (eM : l'.M = l.M) (k : ∀ a o, ¬ g.N a → l.H a = some o → l'.H a = some o) (kN : ∀ a o, ¬ g.N a → l.H a = some o → ¬ g'.N a) (th : ∀ a, l.M a ∨ g'.N a → l'.H a ≠ none) : Sok K g' l' s σ := by
  have rp : ∀ x v, RepG K g l x v → RepG K g' l' x v := fun x v h => by
    have q : Rep K g.CR l'.al (g'.L l') l'.H x v := Rep.mono (fun n a h => by rw [ea]; exact h) (fun a o n e => ⟨k a o (fun z => n (.inr z)) e, fun z => by
      rcases z with z | z
      · exact n (.inl (by rw [← eM]; exact z))
      · exact kN a o (fun z => n (.inr z)) e z⟩) x v h
    rw [← ec] at q
    exact q
  have rps : ∀ x v, RepGL K g l x v → RepGL K g' l' x v := fun x v h => by
    rw [RepGL, RepL.iff] at h ⊢
    exact ⟨h.1, fun i y e => let ⟨w, h1, h2⟩ := h.2 i y e; ⟨w, h1, rp y w h2⟩⟩
  refine ⟨ok.len, fun i v e => ?_, fun i xs e => ?_, ok.dis, by rw [ea]; exact ok.mlen, fun n a m h1 h2 => ?_, by rw [ea]; exact ok.nd, by rw [ea, eM]; exact ok.alM, fun a h => th a (by rw [eM] at h; exact h), fun a h z => ?_⟩
  · obtain ⟨u, h1, h2⟩ := ok.env i v e
    exact ⟨u, h1, rp v u h2⟩
  · obtain ⟨a, vs, h1, h2, h3, h4, h5⟩ := ok.own i xs e
    exact ⟨a, vs, h1, by rw [eM]; exact h2, by rw [ea]; exact h3, k _ _ (ok.mn a h2) h4, rps xs vs h5⟩
  · rw [ea] at h1
    have hM := ok.alM a (List.mem_of_getElem? h1)
    have q := ok.mu n a m h1 h2
    cases m with
    | lst xs =>
      obtain ⟨vs, q1, q2⟩ := q
      exact ⟨vs, k _ _ (ok.mn a hM) q1, rps _ _ q2⟩
    | ins C ns xs =>
      obtain ⟨dx, vs, q1, q2, q3⟩ := q
      exact ⟨dx, vs, k _ _ (ok.mn a hM) q1, q2, rps _ _ q3⟩
  · rw [eM] at h
    have nn := ok.mn a h
    have hs := ok.there a (.inl h)
    cases q : l.H a with
    | none => exact hs q
    | some o => exact kN a o nn q z
theorem RepL.to {K : PySem.W.Frag} {g g' : Gx} {l l' : Lc} (ec : g'.CR = g.CR) (ea : l'.al = l.al) (eM : l'.M = l.M) (k : ∀ a o, ¬ g.N a → l.H a = some o → l'.H a = some o) (kN : ∀ a o, ¬ g.N a → l.H a = some o → ¬ g'.N a) {x : List PV} {v : List V} (h : RepGL K g l x v) : RepGL K g' l' x v := by
  have q : RepL K g.CR l'.al (g'.L l') l'.H x v := RepL.mono (fun n a h => by rw [ea]; exact h) (fun a o n e => ⟨k a o (fun z => n (.inr z)) e, fun z => by
      rcases z with z | z
      · exact n (.inl (by rw [← eM]; exact z))
      · exact kN a o (fun z => n (.inr z)) e z⟩) x v h
  rw [← ec] at q
  exact q
theorem wipeE_len (env : List (Option SV)) : ∀ vs, (wipeE env vs).length = env.length
  | [] => rfl
  | v :: vs => by unfold wipeE; rw [List.length_set, wipeE_len env vs]
theorem wipeE_get {env : List (Option SV)} {i : Nat} {x : SV} : ∀ {vs : List Nat}, (wipeE env vs)[i]? = some (some x) → env[i]? = some (some x) ∧ i ∉ vs
  | [], h => ⟨h, by simp⟩
  | v :: vs, h => by
    unfold wipeE at h
    by_cases e : i = v
    · subst e
      by_cases hl : i < (wipeE env vs).length
      · rw [List.getElem?_set_self hl] at h; cases h
      · rw [List.getElem?_eq_none (by rw [List.length_set]; omega)] at h; cases h
    · rw [List.getElem?_set_ne (Ne.symm e)] at h
      obtain ⟨h1, h2⟩ := wipeE_get h
      exact ⟨h1, fun z => by rcases List.mem_cons.mp z with z | z; exact e z; exact h2 z⟩
theorem wipe_get {σ : St} {i : Nat} : ∀ {vs : List Nat}, i ∉ vs → (wipe σ vs)[i]? = σ[i]?
  | [], _ => rfl
  | v :: vs, h => by
    unfold wipe
    rw [List.getElem?_set_ne (fun z => h (by rw [z]; exact List.mem_cons_self)), wipe_get fun z => h (List.mem_cons_of_mem _ z)]
/-- slots that are forgotten may hold anything -/
theorem Sok.wipe {K : PySem.W.Frag} {g : Gx} {l : Lc} {s : S} {σ τ : St} {vs : List Nat} (ok : Sok K g l s σ) (h : L2.wipe τ vs = L2.wipe σ vs) : Sok K g l (wipeS vs s) τ := by
  have hl : τ.length = σ.length := by rw [← L2.wipe_length τ vs, h, L2.wipe_length]
  have hg : ∀ i, i ∉ vs → τ[i]? = σ[i]? := fun i hi => by rw [← wipe_get (σ := τ) hi, h, wipe_get hi]
  refine ⟨by show (wipeE s.env vs).length = _; rw [wipeE_len, hl]; exact ok.len, fun i v e => ?_, fun i xs e => ?_, fun i j xs ys a hn e1 e2 h1 h2 => ?_, ok.mlen, ok.mu, ok.nd, ok.alM, ok.there, ok.mn⟩
  · obtain ⟨e, hi⟩ := wipeE_get e
    obtain ⟨u, h1, h2⟩ := ok.env i v e
    exact ⟨u, by rw [hg i hi]; exact h1, h2⟩
  · obtain ⟨e, hi⟩ := wipeE_get e
    obtain ⟨a, vs', h1, h2⟩ := ok.own i xs e
    exact ⟨a, vs', by rw [hg i hi]; exact h1, h2⟩
  · obtain ⟨e1, hi⟩ := wipeE_get e1
    obtain ⟨e2, hj⟩ := wipeE_get e2
    rw [hg i hi] at h1
    rw [hg j hj] at h2
    exact ok.dis i j xs ys a hn e1 e2 h1 h2
theorem wipe_none {i : Nat} : ∀ (ws : List Nat) (τ : St), i ∈ ws → i < τ.length → (L2.wipe τ ws)[i]? = some none
  | w :: ws, τ, h, hl => by
    show ((L2.wipe τ ws).set w none)[i]? = some none
    by_cases e : w = i
    · subst e
      rw [List.getElem?_set_self (by rw [L2.wipe_length]; exact hl)]
    · rw [List.getElem?_set_ne e]
      exact wipe_none ws τ (by rcases List.mem_cons.mp h with h | h; exact absurd h.symm e; exact h) hl
theorem wipe_wipe (σ : St) (vs : List Nat) : L2.wipe (L2.wipe σ vs) vs = L2.wipe σ vs := List.ext_getElem? fun i => by
  by_cases hi : i ∈ vs
  · by_cases hl : i < σ.length
    · rw [wipe_none vs (L2.wipe σ vs) hi (by rw [L2.wipe_length]; exact hl), wipe_none vs σ hi hl]
    · rw [List.getElem?_eq_none (by rw [L2.wipe_length, L2.wipe_length]; omega), List.getElem?_eq_none (by rw [L2.wipe_length]; omega)]
  · rw [wipe_get hi]
theorem Sok.unwipe {K : PySem.W.Frag} {g : Gx} {l : Lc} {s : S} {σ : St} {vs : List Nat} (ok : Sok K g l s (L2.wipe σ vs)) : Sok K g l s σ := by
  refine ⟨by rw [ok.len, L2.wipe_length], fun i v e => ?_, fun i xs e => ?_, fun i j xs ys a hn e1 e2 h1 h2 => ?_, ok.mlen, ok.mu, ok.nd, ok.alM, ok.there, ok.mn⟩
  · obtain ⟨u, h1, h2⟩ := ok.env i v e
    exact ⟨u, (wipe_some h1).1, h2⟩
  · obtain ⟨a, ws, h1, h2⟩ := ok.own i xs e
    exact ⟨a, ws, (wipe_some h1).1, h2⟩
  · obtain ⟨b, _, h3, _⟩ := ok.own i xs e1
    obtain ⟨c, _, h4, _⟩ := ok.own j ys e2
    have k3 := (wipe_some h3).1
    have k4 := (wipe_some h4).1
    rw [h1] at k3
    rw [h2] at k4
    cases k3
    cases k4
    exact ok.dis i j xs ys a hn e1 e2 h3 h4
theorem compL_noexn {t : DG} {tt : DT} {te : DE} {vs : List Nat} : ∀ (xs acc : List PV) (s : S) (e : PV) (u : S), compL t tt te vs xs acc s ≠ .exn e u
  | [], acc, s, e, u, h => by unfold compL at h; cases h
  | x :: xs, acc, s, e, u, h => by
    unfold compL at h
    cases e1 : t x s with
    | bad => rw [e1] at h; cases h
    | exn => rw [e1] at h; cases h
    | ok v s1 =>
      rw [e1] at h
      simp only [tgt] at h
      cases e2 : tt s1 with
      | bad => rw [e2] at h; cases h
      | exn => rw [e2] at h; cases h
      | ok b s2 =>
        rw [e2] at h
        simp only [okB] at h
        cases b with
        | false => exact compL_noexn xs acc _ e u h
        | true =>
          cases e3 : te s2 with
          | bad => simp only [e3] at h; cases h
          | exn => simp only [e3] at h; cases h
          | ok y s3 =>
            simp only [e3] at h
            split at h
            · exact compL_noexn xs _ _ e u h
            · cases h
def del (H : Hp) (D : Addr) : Hp := fun a => if a = D then none else H a
theorem del_ne {H : Hp} {D a : Addr} (h : a ≠ D) : del H D a = H a := by unfold del; rw [if_neg h]
theorem del_same {H : Hp} {D : Addr} : del H D D = none := by unfold del; rw [if_pos rfl]
theorem upd_del {H : Hp} {D : Addr} {o : HO} (h : H D = some o) : upd (del H D) D o = H := by
  funext a
  unfold upd del
  by_cases e : a = D
  · rw [if_pos e, e, h]
  · rw [if_neg e, if_neg e]
section
variable {X : Cx} {g : Gx} {a b c e tg iter elt : Expr} {es ifs : List Expr} {da db dc de : DE} {dr : DA} {dl : DL} {pos : Pos}
theorem j_ofF (h : JF X g e dl) : JE X g e (dFr dl) := PE.cq h fun pins s σ H Q I q => by
  obtain ⟨l, s, rfl, ok, q⟩ := q
  refine ⟨l, s, rfl, ok, ?_⟩
  simp only [dFr] at q
  cases e1 : dl s with
  | bad => rw [e1] at q; exact q
  | exn e t => rw [e1] at q; exact q
  | ok xs t =>
    rw [e1] at q
    exact fun l1 us p st1 ok1 r1 hp => Run.lst (Run.step (r := .ok (.lst xs) t) q st1) ok1 r1 p hp
theorem jf_lst (h : JA X g es dr) : JF X g (.List es pos) (dLstF dr) := PE.cq (pe_lst h) fun pins s σ H Q I q => by
  obtain ⟨l, s, rfl, ok, q⟩ := q
  refine ⟨l, s, rfl, ok, ?_⟩
  simp only [dLstF] at q
  cases e1 : dr s with
  | bad => rw [e1] at q; exact q
  | exn e t => rw [e1] at q; exact q
  | ok xs t =>
    rw [e1] at q
    intro l1 us st1 ok1 r1
    simp only [R.bind] at q
    by_cases z : xs.length ≤ 1000
    · rw [if_pos z] at q
      exact ⟨by rw [line_eq, ← r1.length]; omega, fun p hp => q l1 us p st1 ok1 r1 hp⟩
    · rw [if_neg z] at q
      exact q.elim
theorem jf_list {x p : Pos} (ha : JE X g a da) (hm : X.mg "list" = none) (hg : Gl X "list" := by rfl)
    (he : starEach [a] X.env = (false, eval a X.env) :: starEach [] X.env := by rfl) (hpl : (backTo pos (starEach [] X.env)).any (·.1) = false := by rfl) : JF X g (.Call (.Name "list" p) [a] [] pos) (dListF da) :=
  PE.cq (pe_callTy call_list_of hg hm (by decide +kernel) (pa_cons ha pa_nil he) (by decide) (by decide) he hpl) fun pins s σ H Q I q => by
    obtain ⟨l, s, rfl, ok, q⟩ := q
    refine ⟨l, s, rfl, ok, ?_⟩
    simp only [dListF] at q
    cases e1 : da s with
    | bad => rw [e1] at q; exact q
    | exn e t => rw [e1] at q; exact q
    | ok v t =>
      rw [e1] at q
      intro l1 u st1 ok1 r1
      simp only [R.bind] at q
      cases e2 : asL t.mu v with
      | none => rw [e2] at q; exact q.elim
      | some ys =>
        rw [e2] at q
        obtain ⟨p, vs, rfl, hq, rv⟩ := rep_asL ok1 r1 e2
        exact ⟨p, vs, rfl, hq, fun l' hl => q l1 vs l' st1 ok1 rv hl⟩
/-- what a comprehension's reading asks -/
theorem comp_reads {js vs : List Nat} {di : DI} {t : DG} {tt : DT} {te : DE} (hjs : ∀ i ∈ js, i ∈ vs) {σ : St} {H : Hp} {Q : VK} (q : LF X.K g (dComp di t tt te vs) σ H Q) :
    tLc (LI X.K g di (ItOk X.K g)) (fun v σ H Q => ∃ N, LG X.K (g.at N) js t v σ H Q) (fun σ H Q => ∃ N, LT X.K (g.at N) tt σ H Q) (fun σ H Q => ∃ N, LE X.K (g.at N) te σ H Q) vs σ H Q := by
  obtain ⟨l, s, rfl, ok, q⟩ := q
  refine ⟨l, s, rfl, ok, ?_⟩
  simp only [dComp] at q
  cases e1 : di s with
  | bad => rw [e1] at q; exact q
  | exn e t => rw [e1] at q; exact q
  | ok xs s1 =>
    rw [e1] at q
    simp only [R.bind] at q
    intro l1 J st1 ok1 it D hD
    have hND : ¬ g.L l1 D := ok1.fresh hD
    let N' : Addr → Prop := fun a => g.N a ∨ a = D
    have neD : ∀ a o, l1.H a = some o → a ≠ D := fun a o h z => by rw [z, hD] at h; cases h
    have hu : ∀ a o, l1.H a = some o → upd l1.H D (.lst []) a = some o := fun a o h => by rw [upd_ne (neD a o h)]; exact h
    have okS : Sok X.K (g.at N') ⟨l1.al, l1.M, upd l1.H D (.lst [])⟩ (wipeS vs s1) (L2.wipe σ vs) := by
      refine Sok.wipe (σ := σ) (Sok.to ok1 rfl rfl rfl (fun a o _ h => hu a o h) (fun a o n h z => ?_) (fun a h => ?_)) (wipe_wipe σ vs)
      · rcases z with z | z
        · exact n z
        · exact neD a o h z
      · rcases h with h | h | h
        · cases q : l1.H a with
          | none => exact absurd q (ok1.there a (.inl h))
          | some o => show upd l1.H D _ a ≠ none; rw [hu a o q]; simp
        · cases q : l1.H a with
          | none => exact absurd q (ok1.there a (.inr h))
          | some o => show upd l1.H D _ a ≠ none; rw [hu a o q]; simp
        · show upd l1.H D _ a ≠ none
          rw [h, upd_same]; simp
    have stS : Step l1 ⟨l1.al, l1.M, upd l1.H D (.lst [])⟩ := Step.alloc hD
    -- the invariant's last part
    let Fin (r : R S (List PV)) : Prop := match r with
      | .ok ys s' => ∀ l' us, Step l1 l' → Sok X.K (g.at N') l' s' (L2.wipe σ vs) → RepGL X.K (g.at N') l' ys us → l'.H D = some (.lst us) → Q (.ref D) l'.H
      | _ => False
    have fin0 : Fin (compL t tt te vs xs [] (wipeS vs s1)) := by
      show (match compL t tt te vs xs [] (wipeS vs s1) with | .ok ys s' => _ | _ => False)
      cases e2 : compL t tt te vs xs [] (wipeS vs s1) with
      | bad => rw [e2] at q; exact q
      | exn e t => exact absurd e2 (compL_noexn _ _ _ _ _)
      | ok ys s' =>
        rw [e2] at q
        intro l' us st' ok' r' hD'
        have nD : ∀ a, ¬ N' a → a ≠ D := fun a n z => n (.inr z)
        have k0 : ∀ a o, ¬ N' a → l'.H a = some o → del l'.H D a = some o := fun a o n h => by rw [del_ne (nD a n)]; exact h
        have st2 : Step l1 ⟨l'.al, l'.M, del l'.H D⟩ := by
          refine ⟨st'.pre, st'.new, fun a o n h => ?_, fun a h => ?_⟩
          · show del l'.H D a = some o
            rw [del_ne (neD a o h)]
            exact st'.keep a o n h
          · cases e : l1.H a with
            | none => exact absurd e h
            | some o =>
              show del l'.H D a ≠ none
              rw [del_ne (neD a o e)]
              exact st'.dom a h
        have ok2 : Sok X.K g ⟨l'.al, l'.M, del l'.H D⟩ s' σ := by
          refine Sok.unwipe (vs := vs) (Sok.to ok' rfl rfl rfl k0 (fun a o n _ z => n (.inl z)) fun a h => ?_)
          have ne : a ≠ D := fun z => by
            rcases h with h | h
            · exact ok'.mn a h (.inr z)
            · rw [z] at h
              exact hND (.inr h)
          show del l'.H D a ≠ none
          rw [del_ne ne]
          exact ok'.there a (by rcases h with h | h; exact .inl h; exact .inr (.inl h))
        have z := q ⟨l'.al, l'.M, del l'.H D⟩ us D (st1.trans st2) ok2 (RepL.to (g := g.at N') (g' := g) (l := l') (l' := ⟨l'.al, l'.M, del l'.H D⟩) rfl rfl rfl k0 (fun a o n _ z => n (.inl z)) r') del_same
        rw [show upd (del l'.H D) D (.lst us) = l'.H from upd_del hD'] at z
        exact z
    have hDM : ∀ {l : Lc} {s : S} {τ : St}, Sok X.K (g.at N') l s τ → ¬ l.M D := fun ok z => ok.mn D z (.inr rfl)
    refine ⟨fun i m H => m = xs.length - i ∧ i ≤ xs.length ∧ ∃ l s acc us, l.H = H ∧ Step l1 l ∧ Sok X.K (g.at N') l s (L2.wipe σ vs) ∧ H D = some (.lst us) ∧ RepGL X.K (g.at N') l acc us ∧ Fin (compL t tt te vs (xs.drop i) acc s),
      ⟨xs.length, by simp, Nat.zero_le _, _, wipeS vs s1, [], [], rfl, stS, okS, upd_same, rfl, fin0⟩, ?_⟩
    rintro i m H ⟨rfl, hi, l2, s2, acc, us, rfl, st2, ok2, hD2, r2, f2⟩
    obtain ⟨i1, i2⟩ := it i (g.at N') l2 st2 rfl (fun a h => by rcases h with h | h; exact .inl h; exact .inr (by rw [h]; exact hD)) ok2.there
    by_cases hlt : i < xs.length
    · obtain ⟨g1, g2⟩ := i1 xs[i] (by simp [hlt])
      refine .inr ⟨g1, fun H' => ∃ l s acc us, l.H = H' ∧ Step l1 l ∧ Sok X.K (g.at N') l s (L2.wipe σ vs) ∧ H' D = some (.lst us) ∧ RepGL X.K (g.at N') l acc us ∧ Fin (compL t tt te vs (xs.drop (i + 1)) acc s),
        fun H' z => ⟨xs.length - (i + 1), by omega, rfl, hlt, z⟩, fun x H' y => ?_⟩
      obtain ⟨k1, k2⟩ := g2 x H' y
      rw [List.drop_eq_getElem_cons hlt] at f2
      have ok3 : Sok X.K (g.at N') ⟨l2.al, l2.M, H'⟩ s2 (L2.wipe σ vs) := ok2.grow rfl rfl k1
      have st3 : Step l2 ⟨l2.al, l2.M, H'⟩ := ⟨⟨[], by simp⟩, fun _ h => .inl h, fun a o _ h => k1 a o h, fun a h => by
        cases q : l2.H a with
        | none => exact absurd q h
        | some o => show H' a ≠ none; rw [k1 a o q]; simp⟩
      refine ⟨N', ⟨l2.al, l2.M, H'⟩, s2, xs[i], rfl, ok3, k2 _ rfl rfl rfl, ?_⟩
      unfold compL at f2
      cases et : t xs[i] s2 with
      | bad => rw [et] at f2; exact f2.elim
      | exn e t => rw [et] at f2; exact f2.elim
      | ok v s3 =>
        rw [et] at f2
        simp only [tgt] at f2
        intro l4 σ2 st4 ok4 hw
        refine ⟨(hw vs hjs).trans (wipe_wipe σ vs), N', l4, s3, rfl, ok4, ?_⟩
        cases ett : tt s3 with
        | bad => rw [ett] at f2; exact f2.elim
        | exn e t => rw [ett] at f2; exact f2.elim
        | ok b s4 =>
          rw [ett] at f2
          simp only [okB] at f2
          intro l5 st5 ok5
          have stA : Step l2 l5 := st3.trans (st4.trans st5)
          have hD5 : l5.H D = some (.lst us) := stA.keep D _ (hDM ok2) hD2
          cases b with
          | false => exact ⟨l5, wipeS vs s4, acc, us, rfl, st2.trans stA, Sok.wipe ok5 (hw vs hjs).symm, hD5, stA.reps r2, f2⟩
          | true =>
            refine (if_pos rfl).mpr ⟨N', l5, s4, rfl, ok5, ?_⟩
            simp only at f2
            cases ee : te s4 with
            | bad => rw [ee] at f2; exact f2.elim
            | exn e t => rw [ee] at f2; exact f2.elim
            | ok y s5 =>
              rw [ee] at f2
              simp only at f2
              intro l6 u st6 ok6 r6
              have hD6 : l6.H D = some (.lst us) := st6.keep D _ (hDM ok5) hD5
              by_cases hz : acc.length < 16777216
              · rw [if_pos hz] at f2
                refine ⟨us, hD6, by rw [line_eq, ← r2.length]; exact hz, ?_⟩
                have k7 : ∀ a o, ¬ N' a → l6.H a = some o → upd l6.H D (.lst (us ++ [u])) a = some o := fun a o n h => by rw [upd_ne (fun z => n (.inr z))]; exact h
                have stB : Step l1 l6 := st2.trans (stA.trans st6)
                refine ⟨⟨l6.al, l6.M, upd l6.H D (.lst (us ++ [u]))⟩, wipeS vs s5, acc ++ [y], us ++ [u], rfl, ?_, ?_, upd_same, ?_, ?_⟩
                · refine ⟨stB.pre, stB.new, fun a o n h => ?_, fun a h => ?_⟩
                  · show upd l6.H D _ a = some o
                    rw [upd_ne (neD a o h)]
                    exact stB.keep a o n h
                  · show upd l6.H D _ a ≠ none
                    by_cases e : a = D
                    · rw [e, upd_same]; simp
                    · rw [upd_ne e]; exact stB.dom a h
                · refine Sok.wipe (σ := σ2) (Sok.to ok6 rfl rfl rfl k7 (fun a o n _ => n) fun a h => ?_) (hw vs hjs).symm
                  by_cases e : a = D
                  · show upd l6.H D _ a ≠ none
                    rw [e, upd_same]; simp
                  · show upd l6.H D _ a ≠ none
                    rw [upd_ne e]
                    exact ok6.there a h
                · have rq : RepGL X.K (g.at N') l6 [y] [u] := ⟨u, [], rfl, r6, rfl⟩
                  exact RepL.to (g := g.at N') (g' := g.at N') (l := l6) (l' := ⟨l6.al, l6.M, upd l6.H D (.lst (us ++ [u]))⟩) rfl rfl rfl k7 (fun a o n _ => n) (((stA.trans st6).reps r2).append rq)
                · exact f2
              · rw [if_neg hz] at f2
                exact f2.elim
    · have ei : i = xs.length := by omega
      refine .inl ⟨i2 (by omega), ?_⟩
      rw [ei, List.drop_length] at f2
      unfold compL at f2
      exact f2 l2 us st2 ok2 r2 hD2
theorem PG.ex {t : (Addr → Prop) → TG} (h : ∀ N, PG X e (t N)) : PG X e (fun v σ H Q => ∃ N, t N v σ H Q) := ⟨fun pins s σ H v u Q I r ⟨N, q⟩ => (h N).run pins s σ H v u Q I r q⟩
theorem PE.ex {t : (Addr → Prop) → TE} (h : ∀ N, PE X e (t N)) : PE X e (fun σ H Q => ∃ N, t N σ H Q) := ⟨fun pins s σ H Q I ⟨N, q⟩ => (h N).run pins s σ H Q I q⟩
theorem PTs.ex {t : (Addr → Prop) → TT} (h : ∀ N, PTs X ifs (t N)) : PTs X ifs (fun σ H Q => ∃ N, t N σ H Q) := ⟨fun pins s σ H Q I ⟨N, q⟩ => (h N).run pins s σ H Q I q⟩
abbrev JTs (X : Cx) (g : Gx) (es : List Expr) (d : DT) : Prop := PTs X es (LT X.K g d)
theorem jts_nil : JTs X g [] dYes := ⟨fun pins s σ H Q I q => by
  obtain ⟨l, st, rfl, ok, q⟩ := q
  exact pts_nil.run pins s σ l.H Q I (q l (Step.refl l) ok)⟩
theorem jts_one {dt : DT} (h : JT X g e dt) : JTs X g [e] dt := pts_one h
theorem jf_comp {scope : Scope} {own : List (Str × Nat)} {di : DI} {t : DG} {tt : DT} {te : DE} {js : List Nat} (hc : X.calm = true) (hN : X.N.Nodup) (hi : JI X g tg iter di) (ok : BlkOk X.N X.env.scope scope own)
    (hg : ∀ (s : Shared) (H : Hp) (C : Addr) (cl : List (Str × Addr)) (fp : List Addr) (N : Addr → Prop), JG (X.blk s H scope (compEnvC scope cl C X.env) fp) (g.at N) js tg t)
    (ht : ∀ (s : Shared) (H : Hp) (C : Addr) (cl : List (Str × Addr)) (fp : List Addr) (N : Addr → Prop), JTs (X.blk s H scope (compEnvC scope cl C X.env) fp) (g.at N) ifs tt)
    (he : ∀ (s : Shared) (H : Hp) (C : Addr) (cl : List (Str × Addr)) (fp : List Addr) (N : Addr → Prop), JE (X.blk s H scope (compEnvC scope cl C X.env) fp) (g.at N) elt te)
    (hjs : ∀ i ∈ js, i ∈ own.map (·.2) := by decide) (hs : ∀ x, foldedSetIterable iter X.env x = pure x := by intro _; rfl) : JF X g (.ListComp elt [⟨tg, iter, ifs, 0⟩] scope pos) (dComp di t tt te (own.map (·.2))) :=
  PE.cq (pe_lc hc hN hi ok (fun s H C cl fp => PG.ex (hg s H C cl fp)) (fun s H C cl fp => PTs.ex (ht s H C cl fp)) (fun s H C cl fp => PE.ex (he s H C cl fp)) hs) fun pins s σ H Q I q => comp_reads hjs q
theorem set_reads {i : Nat} {D : Ends} {σ : St} {H : Hp} (q : LS X.K g (dSet i (dFr dl)) D σ H) : LF X.K g dl σ H (fun x H1 => D.nx (σ.set i (some x)) H1) := by
  obtain ⟨l, s, rfl, ok, q⟩ := q
  refine ⟨l, s, rfl, ok, ?_⟩
  simp only [dSet, dFr] at q
  cases e : dl s with
  | bad => rw [e] at q; exact q
  | exn e t => rw [e] at q; exact fun l' c d => q l' σ c d
  | ok xs t =>
    rw [e] at q
    intro l1 us p st1 ok1 r1 hp
    refine q ⟨l1.al, l1.M, upd l1.H p (.lst us)⟩ _ (st1.trans (Step.alloc hp)) ((ok1.alloc hp).set ?_)
    exact ⟨p, us, rfl, ok1.fresh hp, upd_same, (Step.alloc hp).reps r1⟩
/-- y = [..] on one line -/
theorem js_setLc {scope : Scope} {own : List (Str × Nat)} {di : DI} {t : DG} {tt : DT} {te : DE} {js : List Nat} {i : Nat} {y : Str} {py spos : Pos} (hc : X.calm = true) (hN : X.N.Nodup)
    (hsw : swapsWith (.ListComp elt [⟨tg, iter, ifs, 0⟩] scope pos) (some (.Name y py)) spos.line X.env = pure true) (hi : JI X g tg iter di) (ok : BlkOk X.N X.env.scope scope own)
    (hg : ∀ (s : Shared) (H : Hp) (C : Addr) (cl : List (Str × Addr)) (fp : List Addr) (N : Addr → Prop), JG (X.blk s H scope (compEnvC scope cl C X.env) fp) (g.at N) js tg t)
    (ht : ∀ (s : Shared) (H : Hp) (C : Addr) (cl : List (Str × Addr)) (fp : List Addr) (N : Addr → Prop), JTs (X.blk s H scope (compEnvC scope cl C X.env) fp) (g.at N) ifs tt)
    (he : ∀ (s : Shared) (H : Hp) (C : Addr) (cl : List (Str × Addr)) (fp : List Addr) (N : Addr → Prop), JE (X.blk s H scope (compEnvC scope cl C X.env) fp) (g.at N) elt te)
    (hy : X.N[i]? = some y := by rfl) (hyl : X.env.scope.names.lookup y = some .local := by rfl)
    (hjs : ∀ i ∈ js, i ∈ own.map (·.2) := by decide) (hs : ∀ x, foldedSetIterable iter X.env x = pure x := by intro _; rfl) : JS X g (.Assign [.Name y py] (.ListComp elt [⟨tg, iter, ifs, 0⟩] scope pos) spos) (dSet i (dFr (dComp di t tt te (own.map (·.2))))) :=
  PS.cq (ps_setLc hc hN hy hyl hsw hi ok (fun s H C cl fp => PG.ex (hg s H C cl fp)) (fun s H C cl fp => PTs.ex (ht s H C cl fp)) (fun s H C cl fp => PE.ex (he s H C cl fp)) hs) fun pins s D σ H I q => comp_reads hjs (set_reads q)
end
end L3

namespace L3
open PySem PySem.Spec PyProof.Rows L2
/-! ## lists that change -/
@[simp] def setO (i : Nat) (xs : List PV) (s : S) : S := ⟨s.env.set i (some (.own xs)), s.mu⟩
@[simp] def setM (n : Nat) (xs : List PV) (s : S) : S := ⟨s.env, s.mu.set n (.lst xs)⟩
@[simp] def dOwn (i : Nat) (d : DL) : DS := fun s => (d s).bind fun xs s1 => .ok .nx (setO i xs s1)
@[simp] def dNewF (d : DL) : DE := fun s => (d s).bind fun xs s1 => .ok (.ptr s1.mu.length) ⟨s1.env, s1.mu ++ [.lst xs]⟩
/-- the list that slot i holds, to be changed: its items, and how it is written -/
@[simp] def lstAt (i : Nat) (s : S) : Option (List PV × (List PV → S)) := match s.env[i]? with
  | some (some (.own xs)) => some (xs, fun ys => setO i ys s)
  | some (some (.val (.ptr n))) => (match s.mu[n]? with
    | some (.lst xs) => some (xs, fun ys => setM n ys s)
    | _ => none)
  | _ => none
@[simp] def dApp (i : Nat) (d : DE) : DE := fun s => match lstAt i s with
  | some _ => (d s).bind fun v s1 => (match lstAt i s1 with
    | some (xs, k) => if xs.length < 16777216 then .ok .non (k (xs ++ [v])) else .bad
    | none => .bad)
  | none => .bad
@[simp] def dPopAt (i : Nat) (d : DE) : DE := fun s => match lstAt i s with
  | some _ => (d s).bind fun v s1 => (match v, lstAt i s1 with
    | .int j, some (xs, k) => (match ixN xs.length j with
      | some m => (match xs[m]? with
        | some y => if xs.length ≤ 16777216 then .ok y (k (xs.eraseIdx m)) else .bad
        | none => .bad)
      | none => .bad)
    | _, _ => .bad)
  | none => .bad
@[simp] def dPut (i : Nat) (d ix : DE) : DS := fun s => (d s).bind fun v s1 => match lstAt i s1 with
  | some _ => (ix s1).bind fun j s2 => (match j, lstAt i s2 with
    | .int j, some (xs, k) => (match ixN xs.length j with
      | some m => .ok .nx (k (xs.set m v))
      | none => .bad)
    | _, _ => .bad)
  | none => .bad
section
variable {K : PySem.W.Frag} {g : Gx} {l : Lc} {s : S} {σ : St} {xs ys : List PV} {vs ws : List V} {i n : Nat} {a : Addr}
theorem Step.at_ (h : l.M a) (o : HO) : Step l ⟨l.al, l.M, upd l.H a o⟩ where
  pre := ⟨[], by simp⟩
  new := fun _ h => .inl h
  keep := fun b u n e => by show upd l.H a o b = some u; rw [upd_ne (fun z => n (by rw [z]; exact h))]; exact e
  dom := fun b h => by
    show upd l.H a o b ≠ none
    by_cases e : b = a
    · rw [e, upd_same]; simp
    · rw [upd_ne e]; exact h
theorem upd_there {H : Hp} {a b : Addr} {o : HO} (h : H b ≠ none) : upd H a o b ≠ none := by
  by_cases e : b = a
  · rw [e, upd_same]; simp
  · rw [upd_ne e]; exact h
theorem Sok.ownSet (ok : Sok K g l s σ) (he : s.env[i]? = some (some (.own xs))) (hs : σ[i]? = some (some (.ref a))) (hM : l.M a) (hal : a ∉ l.al) (r : RepGL K g l ys ws) :
    Sok K g ⟨l.al, l.M, upd l.H a (.lst ws)⟩ (setO i ys s) σ := by
  have st : Step l ⟨l.al, l.M, upd l.H a (.lst ws)⟩ := Step.at_ hM _
  have hi : i < s.env.length := (List.getElem?_eq_some_iff.mp he).1
  have oth : ∀ (j : Nat) zs, j ≠ i → (s.env.set i (some (.own ys)))[j]? = some (some (.own zs)) → s.env[j]? = some (some (.own zs)) := fun j zs e h => by rw [List.getElem?_set_ne (Ne.symm e)] at h; exact h
  refine ⟨by show (s.env.set i _).length = _; rw [List.length_set]; exact ok.len, fun j v h => ?_, fun j zs h => ?_, fun j k zs us b hn h1 h2 h3 h4 => ?_, ok.mlen, fun m b o h1 h2 => ?_, ok.nd, ok.alM, fun b h => upd_there (ok.there b h), ok.mn⟩
  · rcases get_set h with ⟨_, e, _⟩ | ⟨e, h⟩
    · cases e
    · obtain ⟨u, h1, h2⟩ := ok.env j v h
      exact ⟨u, h1, st.rep h2⟩
  · by_cases e : j = i
    · subst e
      have h' : (s.env.set j (some (.own ys)))[j]? = some (some (.own zs)) := h
      rw [List.getElem?_set_self hi] at h'
      cases h'
      exact ⟨a, ws, hs, hM, hal, upd_same, st.reps r⟩
    · have h' := oth j zs e h
      obtain ⟨b, us, h1, h2, h3, h4, h5⟩ := ok.own j zs h'
      have ne : b ≠ a := fun z => by rw [z] at h1; exact ok.dis j i zs xs a e h' he h1 hs
      exact ⟨b, us, h1, h2, h3, by show upd l.H a _ b = _; rw [upd_ne ne]; exact h4, st.reps h5⟩
  · have g1 : ∃ zs', s.env[j]? = some (some (.own zs')) := by
      by_cases e : j = i
      · rw [e]; exact ⟨xs, he⟩
      · exact ⟨zs, oth j zs e h1⟩
    have g2 : ∃ zs', s.env[k]? = some (some (.own zs')) := by
      by_cases e : k = i
      · rw [e]; exact ⟨xs, he⟩
      · exact ⟨us, oth k us e h2⟩
    obtain ⟨z1, q1⟩ := g1
    obtain ⟨z2, q2⟩ := g2
    exact ok.dis j k z1 z2 b hn q1 q2 h3 h4
  · have ne : b ≠ a := fun z => hal (by rw [← z]; exact List.mem_of_getElem? h1)
    have q := ok.mu m b o h1 h2
    cases o with
    | lst zs =>
      obtain ⟨us, q1, q2⟩ := q
      exact ⟨us, by show upd l.H a _ b = _; rw [upd_ne ne]; exact q1, st.reps q2⟩
    | ins C ns zs =>
      obtain ⟨dx, us, q1, q2, q3⟩ := q
      exact ⟨dx, us, by show upd l.H a _ b = _; rw [upd_ne ne]; exact q1, q2, st.reps q3⟩
theorem Sok.muSet {o' : HO} {m' : MO} (ok : Sok K g l s σ) (ha : l.al[n]? = some a) (r : ∀ l', l'.al = l.al → l'.M = l.M → l'.H = upd l.H a o' → MoRep K g l' a m') :
    Sok K g ⟨l.al, l.M, upd l.H a o'⟩ ⟨s.env, s.mu.set n m'⟩ σ := by
  have hM : l.M a := ok.alM a (List.mem_of_getElem? ha)
  have st : Step l ⟨l.al, l.M, upd l.H a o'⟩ := Step.at_ hM _
  refine ⟨ok.len, fun j v h => ?_, fun j zs h => ?_, ok.dis, by show l.al.length = (s.mu.set n m').length; rw [List.length_set]; exact ok.mlen, fun m b o h1 h2 => ?_, ok.nd, ok.alM, fun b h => upd_there (ok.there b h), ok.mn⟩
  · obtain ⟨u, h1, h2⟩ := ok.env j v h
    exact ⟨u, h1, st.rep h2⟩
  · obtain ⟨b, us, h1, h2, h3, h4, h5⟩ := ok.own j zs h
    have ne : b ≠ a := fun z => h3 (by rw [z]; exact List.mem_of_getElem? ha)
    exact ⟨b, us, h1, h2, h3, by show upd l.H a _ b = _; rw [upd_ne ne]; exact h4, st.reps h5⟩
  · have h1' : l.al[m]? = some b := h1
    have h2' : (s.mu.set n m')[m]? = some o := h2
    by_cases e : m = n
    · subst e
      rw [h1'] at ha
      cases ha
      by_cases hl : m < s.mu.length
      · rw [List.getElem?_set_self hl] at h2'
        cases h2'
        exact r _ rfl rfl rfl
      · rw [List.getElem?_eq_none (by rw [List.length_set]; omega)] at h2'
        cases h2'
    · rw [List.getElem?_set_ne (Ne.symm e)] at h2'
      have ne : b ≠ a := fun z => by
        rw [z] at h1'
        have hm : m < l.al.length := (List.getElem?_eq_some_iff.mp h1').1
        have hn' : n < l.al.length := (List.getElem?_eq_some_iff.mp ha).1
        exact e ((List.getElem_inj ok.nd).mp ((List.getElem?_eq_some_iff.mp h1').2.trans (List.getElem?_eq_some_iff.mp ha).2.symm))
      have q := ok.mu m b o h1' h2'
      cases o with
      | lst zs =>
        obtain ⟨us, q1, q2⟩ := q
        exact ⟨us, by show upd l.H a _ b = _; rw [upd_ne ne]; exact q1, st.reps q2⟩
      | ins C ns zs =>
        obtain ⟨dx, us, q1, q2, q3⟩ := q
        exact ⟨dx, us, by show upd l.H a _ b = _; rw [upd_ne ne]; exact q1, q2, st.reps q3⟩
/-- a slot's list: where it lies, and how it is written -/
theorem Sok.lst {k : List PV → S} (ok : Sok K g l s σ) (h : lstAt i s = some (xs, k)) : ∃ a vs, σ[i]? = some (some (.ref a)) ∧ l.M a ∧ l.H a = some (.lst vs) ∧ RepGL K g l xs vs ∧
    ∀ ys ws, RepGL K g l ys ws → Sok K g ⟨l.al, l.M, upd l.H a (.lst ws)⟩ (k ys) σ := by
  unfold lstAt at h
  split at h
  · rename_i zs e
    cases h
    obtain ⟨a, vs, h1, h2, h3, h4, h5⟩ := ok.own i _ e
    exact ⟨a, vs, h1, h2, h4, h5, fun ys ws r => ok.ownSet e h1 h2 h3 r⟩
  · rename_i n e
    split at h
    · rename_i zs e2
      cases h
      obtain ⟨u, h1, b, h2, h3⟩ := ok.env i _ e
      subst h3
      obtain ⟨vs, h4, h5⟩ := ok.mu n b _ h2 e2
      refine ⟨b, vs, h1, ok.alM b (List.mem_of_getElem? h2), h4, h5, fun ys ws r => ok.muSet h2 fun l' ea eM eH => ?_⟩
      refine ⟨ws, by rw [eH, upd_same], ?_⟩
      have st : Step l ⟨l.al, l.M, upd l.H b (.lst ws)⟩ := Step.at_ (ok.alM b (List.mem_of_getElem? h2)) _
      obtain ⟨al', M', H'⟩ := l'
      cases ea
      cases eM
      cases eH
      exact st.reps r
    · cases h
  · cases h
end
section
variable {K : PySem.W.Frag} {g : Gx} {l : Lc} {s : S} {σ : St} {xs ys : List PV} {us : List V} {i n : Nat} {p : Addr}
/-- a new list of the frame's own -/
theorem Sok.ownNew (ok : Sok K g l s σ) (hp : l.H p = none) (r : RepGL K g l xs us) : Step l ⟨l.al, fun a => l.M a ∨ a = p, upd l.H p (.lst us)⟩ ∧ Sok K g ⟨l.al, fun a => l.M a ∨ a = p, upd l.H p (.lst us)⟩ (setO i xs s) (σ.set i (some (.ref p))) := by
  have st : Step l ⟨l.al, fun a => l.M a ∨ a = p, upd l.H p (.lst us)⟩ := ⟨⟨[], by simp⟩, fun a h => by
      rcases h with h | h
      · exact .inl h
      · exact .inr (by rw [h]; exact hp), fun a o _ h => by show upd l.H p _ a = some o; rw [upd_ne (ne_of_none h hp)]; exact h, fun a h => upd_there h⟩
  have nal : p ∉ l.al := fun z => ok.there p (.inl (ok.alM p z)) hp
  refine ⟨st, by show (s.env.set i _).length = _; rw [List.length_set, List.length_set]; exact ok.len, fun j v h => ?_, fun j zs h => ?_, fun j k zs ws b hn h1 h2 h3 h4 => ?_, ok.mlen, fun m b o h1 h2 => ?_, ok.nd, fun a h => .inl (ok.alM a h), fun b h => ?_, fun b h => ?_⟩
  · rcases get_set h with ⟨_, e, _⟩ | ⟨e, h⟩
    · cases e
    · obtain ⟨u, h1, h2⟩ := ok.env j v h
      exact ⟨u, by rw [List.getElem?_set_ne (Ne.symm e)]; exact h1, st.rep h2⟩
  · rcases get_set h with ⟨e, e2, hl⟩ | ⟨e, h⟩
    · cases e2
      subst e
      exact ⟨p, us, by rw [List.getElem?_set_self (by rw [← ok.len]; exact hl)], .inr rfl, nal, upd_same, st.reps r⟩
    · obtain ⟨b, ws, h1, h2, h3, h4, h5⟩ := ok.own j zs h
      exact ⟨b, ws, by rw [List.getElem?_set_ne (Ne.symm e)]; exact h1, .inl h2, h3, by show upd l.H p _ b = _; rw [upd_ne (ne_of_none h4 hp)]; exact h4, st.reps h5⟩
  · have key : ∀ (j : Nat) zs, (setO i xs s).env[j]? = some (some (.own zs)) → (σ.set i (some (V.ref p)))[j]? = some (some (.ref b)) → (j = i ∧ b = p) ∨ (j ≠ i ∧ b ≠ p ∧ s.env[j]? = some (some (.own zs)) ∧ σ[j]? = some (some (.ref b))) := by
      intro j zs q1 q2
      rcases get_set q1 with ⟨e, e2, hl⟩ | ⟨e, q1⟩
      · subst e
        rw [List.getElem?_set_self (by rw [← ok.len]; exact hl)] at q2
        cases q2
        exact .inl ⟨rfl, rfl⟩
      · rw [List.getElem?_set_ne (Ne.symm e)] at q2
        obtain ⟨c, ws, h1, _, _, h4, _⟩ := ok.own j zs q1
        rw [q2] at h1
        cases h1
        exact .inr ⟨e, ne_of_none h4 hp, q1, q2⟩
    rcases key j zs h1 h3 with ⟨a1, a2⟩ | ⟨a1, a2, a3, a4⟩
    · rcases key k ws h2 h4 with ⟨b1, b2⟩ | ⟨b1, b2, b3, b4⟩
      · exact hn (a1.trans b1.symm)
      · exact b2 a2
    · rcases key k ws h2 h4 with ⟨b1, b2⟩ | ⟨b1, b2, b3, b4⟩
      · exact a2 b2
      · exact ok.dis j k zs ws b hn a3 b3 a4 b4
  · have h1' : l.al[m]? = some b := h1
    have nb : b ≠ p := fun z => nal (by rw [← z]; exact List.mem_of_getElem? h1')
    have q := ok.mu m b o h1 h2
    cases o with
    | lst zs =>
      obtain ⟨ws, q1, q2⟩ := q
      exact ⟨ws, by show upd l.H p _ b = _; rw [upd_ne nb]; exact q1, st.reps q2⟩
    | ins C ns zs =>
      obtain ⟨dx, ws, q1, q2, q3⟩ := q
      exact ⟨dx, ws, by show upd l.H p _ b = _; rw [upd_ne nb]; exact q1, q2, st.reps q3⟩
  · rcases h with (h | h) | h
    · exact upd_there (ok.there b (.inl h))
    · show upd l.H p _ b ≠ none
      rw [h, upd_same]; simp
    · exact upd_there (ok.there b (.inr h))
  · rcases h with h | h
    · exact ok.mn b h
    · rw [h]
      exact fun z => ok.there p (.inr z) hp
/-- a new shared list -/
theorem Sok.muNew (ok : Sok K g l s σ) (hp : l.H p = none) (r : RepGL K g l xs us) : Step l ⟨l.al ++ [p], fun a => l.M a ∨ a = p, upd l.H p (.lst us)⟩ ∧ Sok K g ⟨l.al ++ [p], fun a => l.M a ∨ a = p, upd l.H p (.lst us)⟩ ⟨s.env, s.mu ++ [.lst xs]⟩ σ := by
  have st : Step l ⟨l.al ++ [p], fun a => l.M a ∨ a = p, upd l.H p (.lst us)⟩ := ⟨⟨[p], rfl⟩, fun a h => by
      rcases h with h | h
      · exact .inl h
      · exact .inr (by rw [h]; exact hp), fun a o _ h => by show upd l.H p _ a = some o; rw [upd_ne (ne_of_none h hp)]; exact h, fun a h => upd_there h⟩
  have nal : p ∉ l.al := fun z => ok.there p (.inl (ok.alM p z)) hp
  refine ⟨st, ok.len, fun j v h => ?_, fun j zs h => ?_, ok.dis, by show (l.al ++ [p]).length = (s.mu ++ [_]).length; rw [List.length_append, List.length_append, ok.mlen]; rfl, fun m b o h1 h2 => ?_, ?_, fun a h => ?_, fun b h => ?_, fun b h => ?_⟩
  · obtain ⟨u, h1, h2⟩ := ok.env j v h
    exact ⟨u, h1, st.rep h2⟩
  · obtain ⟨b, ws, h1, h2, h3, h4, h5⟩ := ok.own j zs h
    have nb : b ≠ p := ne_of_none h4 hp
    exact ⟨b, ws, h1, .inl h2, fun z => by
      rcases List.mem_append.mp z with z | z
      · exact h3 z
      · exact nb (by simpa using z), by show upd l.H p _ b = _; rw [upd_ne nb]; exact h4, st.reps h5⟩
  · have h1' : (l.al ++ [p])[m]? = some b := h1
    have h2' : (s.mu ++ [MO.lst xs])[m]? = some o := h2
    by_cases e : m < l.al.length
    · rw [List.getElem?_append_left e] at h1'
      rw [List.getElem?_append_left (by rw [← ok.mlen]; exact e)] at h2'
      have nb : b ≠ p := fun z => nal (by rw [← z]; exact List.mem_of_getElem? h1')
      have q := ok.mu m b o h1' h2'
      cases o with
      | lst zs =>
        obtain ⟨ws, q1, q2⟩ := q
        exact ⟨ws, by show upd l.H p _ b = _; rw [upd_ne nb]; exact q1, st.reps q2⟩
      | ins C ns zs =>
        obtain ⟨dx, ws, q1, q2, q3⟩ := q
        exact ⟨dx, ws, by show upd l.H p _ b = _; rw [upd_ne nb]; exact q1, q2, st.reps q3⟩
    · by_cases e2 : m = l.al.length
      · subst e2
        rw [List.getElem?_append_right (Nat.le_refl _), Nat.sub_self] at h1'
        rw [ok.mlen, List.getElem?_append_right (Nat.le_refl _), Nat.sub_self] at h2'
        cases h1'
        cases h2'
        exact ⟨us, upd_same, st.reps r⟩
      · rw [List.getElem?_eq_none (by rw [List.length_append]; show l.al.length + 1 ≤ m; omega)] at h1'
        cases h1'
  · refine List.nodup_append.mpr ⟨ok.nd, by simp, fun a ha b hb => ?_⟩
    rw [List.mem_singleton] at hb
    rw [hb]
    exact fun z => nal (by rw [← z]; exact ha)
  · rcases List.mem_append.mp h with h | h
    · exact .inl (ok.alM a h)
    · exact .inr (by simpa using h)
  · rcases h with (h | h) | h
    · exact upd_there (ok.there b (.inl h))
    · show upd l.H p _ b ≠ none
      rw [h, upd_same]; simp
    · exact upd_there (ok.there b (.inr h))
  · rcases h with h | h
    · exact ok.mn b h
    · rw [h]
      exact fun z => ok.there p (.inr z) hp
end
section
variable {X : Cx} {g : Gx} {a b c e tg iter elt : Expr} {es ifs : List Expr} {da db dc de : DE} {dr : DA} {dl : DL} {pos : Pos}
theorem j_new (h : JF X g e dl) : JE X g e (dNewF dl) := PE.cq h fun pins s σ H Q I q => by
  obtain ⟨l, s, rfl, ok, q⟩ := q
  refine ⟨l, s, rfl, ok, ?_⟩
  simp only [dNewF] at q
  cases e1 : dl s with
  | bad => rw [e1] at q; exact q
  | exn e t => rw [e1] at q; exact q
  | ok xs t =>
    rw [e1] at q
    intro l1 us p st1 ok1 r1 hp
    obtain ⟨st2, ok2⟩ := ok1.muNew hp r1
    exact q _ _ (st1.trans st2) ok2 ⟨p, by rw [← ok1.mlen]; simp, rfl⟩
theorem own_reads {i : Nat} {D : Ends} {σ : St} {H : Hp} (q : LS X.K g (dOwn i dl) D σ H) : LF X.K g dl σ H (fun x H1 => D.nx (σ.set i (some x)) H1) := by
  obtain ⟨l, s, rfl, ok, q⟩ := q
  refine ⟨l, s, rfl, ok, ?_⟩
  simp only [dOwn] at q
  cases e : dl s with
  | bad => rw [e] at q; exact q
  | exn e t => rw [e] at q; exact fun l' c d => q l' σ c d
  | ok xs t =>
    rw [e] at q
    intro l1 us p st1 ok1 r1 hp
    obtain ⟨st2, ok2⟩ := ok1.ownNew (i := i) hp r1
    exact q _ _ (st1.trans st2) ok2
theorem js_own {i : Nat} {x : Str} {pos' : Pos} (hN : X.N.Nodup) (he : JF X g e dl) (hi : X.N[i]? = some x := by rfl) (hx : Loc X.env.scope x := by first | exact Or.inl rfl | exact Or.inr rfl) (hs : swapsWith e (some (.Name x pos')) pos.line X.env = pure false := by rfl)
    (hf : X.fn x = true ∨ X.env.scope.names.lookup x = some .local := by first | exact .inl rfl | exact .inr rfl) : JS X g (.Assign [.Name x pos'] e pos) (dOwn i dl) := PS.cq (ps_set hN hi hx he hs hf) fun pins s D σ H I q => own_reads q
theorem js_ownLc {scope : Scope} {own : List (Str × Nat)} {di : DI} {t : DG} {tt : DT} {te : DE} {js : List Nat} {i : Nat} {y : Str} {py spos : Pos} (hc : X.calm = true) (hN : X.N.Nodup)
    (hsw : swapsWith (.ListComp elt [⟨tg, iter, ifs, 0⟩] scope pos) (some (.Name y py)) spos.line X.env = pure true) (hi : JI X g tg iter di) (ok : BlkOk X.N X.env.scope scope own)
    (hg : ∀ (s : Shared) (H : Hp) (C : Addr) (cl : List (Str × Addr)) (fp : List Addr) (N : Addr → Prop), JG (X.blk s H scope (compEnvC scope cl C X.env) fp) (g.at N) js tg t)
    (ht : ∀ (s : Shared) (H : Hp) (C : Addr) (cl : List (Str × Addr)) (fp : List Addr) (N : Addr → Prop), JTs (X.blk s H scope (compEnvC scope cl C X.env) fp) (g.at N) ifs tt)
    (he : ∀ (s : Shared) (H : Hp) (C : Addr) (cl : List (Str × Addr)) (fp : List Addr) (N : Addr → Prop), JE (X.blk s H scope (compEnvC scope cl C X.env) fp) (g.at N) elt te)
    (hy : X.N[i]? = some y := by rfl) (hyl : X.env.scope.names.lookup y = some .local := by rfl)
    (hjs : ∀ i ∈ js, i ∈ own.map (·.2) := by decide) (hs : ∀ x, foldedSetIterable iter X.env x = pure x := by intro _; rfl) : JS X g (.Assign [.Name y py] (.ListComp elt [⟨tg, iter, ifs, 0⟩] scope pos) spos) (dOwn i (dComp di t tt te (own.map (·.2)))) :=
  PS.cq (ps_setLc hc hN hy hyl hsw hi ok (fun s H C cl fp => PG.ex (hg s H C cl fp)) (fun s H C cl fp => PTs.ex (ht s H C cl fp)) (fun s H C cl fp => PE.ex (he s H C cl fp)) hs) fun pins s D σ H I q => comp_reads hjs (own_reads q)
/-- x.append(e) -/
theorem j_app {i : Nat} {x : Str} {px apos : Pos} (he : JE X g e de) (hN : X.N[i]? = some x := by rfl) (hv : Vis X.env.scope x := by first | exact Or.inl rfl | exact Or.inr (Or.inl rfl) | exact Or.inr (Or.inr rfl))
    (hbase : attributeBase (.Name x px) "append" X.env (eval (.Name x px) X.env) = eval (.Name x px) X.env := by rfl)
    (hfew : ((backTo pos (starEach (e :: []) X.env)).all (fun x => !x.1) && (backToKw pos (keywordEach [] X.env)).all (fun x => x.1.isSome)
      && decide ((e :: []).length + ([] : List Keyword).length + (if ([] : List Keyword).isEmpty then 0 else 1) < 30)) = true := by rfl)
    (hline : (apos.endLine == pos.line) = true := by rfl) (hs : starEach (e :: []) X.env = (false, eval e X.env) :: starEach [] X.env := by rfl) (hplain : (backTo pos (starEach [] X.env)).any (·.1) = false := by rfl)
    (hd : (x == ("__debug__" : Str)) = false := by decide) (hcd : (x == ("__classdict__" : Str)) = false := by decide) : JE X g (.Call (.Attribute (.Name x px) "append" apos) [e] [] pos) (dApp i de) :=
  PE.cq (pe_bm PySem.F.plainAttrs_list PySem.F.slot_list_append PySem.F.type_list_append mt_append (pe_var (i := i) hN hv hd hcd) (pa_cons he pa_nil hs) hbase hfew hline hs hplain) fun pins s σ H Q I q => by
    obtain ⟨l, s, rfl, ok, q⟩ := q
    simp only [dApp] at q
    cases e0 : lstAt i s with
    | none => rw [e0] at q; exact q.elim
    | some z =>
      rw [e0] at q
      obtain ⟨xs0, k0⟩ := z
      obtain ⟨a0, vs0, h1, h2, h3, h4, _⟩ := ok.lst e0
      refine ⟨.ref a0, h1, .inl ⟨rfl, vs0, SqL.of h3⟩, l, s, rfl, ok, Run.mono (Run.bind q) fun u H1 ⟨l1, s1, v, e1, ok1, r1, st1, h5⟩ => ?_⟩
      subst e1
      cases e6 : lstAt i s1 with
      | none => rw [e6] at h5; exact h5.elim
      | some z =>
        obtain ⟨xs, k⟩ := z
        rw [e6] at h5
        simp only at h5
        obtain ⟨a1, vs, g1, g2, g3, g4, g5⟩ := ok1.lst e6
        rw [h1] at g1
        cases g1
        by_cases hz : xs.length < 16777216
        · rw [if_pos hz] at h5
          have r : RepGL X.K g l1 [v] [u] := ⟨u, [], rfl, r1, rfl⟩
          exact ⟨a0, vs, u, rfl, rfl, g3, by rw [line_eq, ← g4.length]; exact hz, h5 ⟨l1.al, l1.M, upd l1.H a0 (.lst (vs ++ [u]))⟩ _ (Step.at_ g2 _) (g5 _ _ (g4.append r)) rfl⟩
        · rw [if_neg hz] at h5
          exact h5.elim
theorem ixN_bounds {n m : Nat} {j : Int} (h : ixN n j = some m) (hn : n ≤ 16777216) : -(2 ^ 63) ≤ j ∧ j < 2 ^ 63 ∧ seqIndex? j n = some m := by
  obtain ⟨h1, h2, h3, h4⟩ := ixN_seq h
  exact ⟨by omega, by omega, h1⟩
/-- x.pop(e) -/
theorem j_popAt {i : Nat} {x : Str} {px apos : Pos} (he : JE X g e de) (hN : X.N[i]? = some x := by rfl) (hv : Vis X.env.scope x := by first | exact Or.inl rfl | exact Or.inr (Or.inl rfl) | exact Or.inr (Or.inr rfl))
    (hbase : attributeBase (.Name x px) "pop" X.env (eval (.Name x px) X.env) = eval (.Name x px) X.env := by rfl)
    (hfew : ((backTo pos (starEach (e :: []) X.env)).all (fun x => !x.1) && (backToKw pos (keywordEach [] X.env)).all (fun x => x.1.isSome)
      && decide ((e :: []).length + ([] : List Keyword).length + (if ([] : List Keyword).isEmpty then 0 else 1) < 30)) = true := by rfl)
    (hline : (apos.endLine == pos.line) = true := by rfl) (hs : starEach (e :: []) X.env = (false, eval e X.env) :: starEach [] X.env := by rfl) (hplain : (backTo pos (starEach [] X.env)).any (·.1) = false := by rfl)
    (hd : (x == ("__debug__" : Str)) = false := by decide) (hcd : (x == ("__classdict__" : Str)) = false := by decide) : JE X g (.Call (.Attribute (.Name x px) "pop" apos) [e] [] pos) (dPopAt i de) :=
  PE.cq (pe_bm PySem.F.plainAttrs_list PySem.F.slot_list_pop PySem.F.type_list_pop mt_popAt (pe_var (i := i) hN hv hd hcd) (pa_cons he pa_nil hs) hbase hfew hline hs hplain) fun pins s σ H Q I q => by
    obtain ⟨l, s, rfl, ok, q⟩ := q
    simp only [dPopAt] at q
    cases e0 : lstAt i s with
    | none => rw [e0] at q; exact q.elim
    | some z =>
      rw [e0] at q
      obtain ⟨xs0, k0⟩ := z
      obtain ⟨a0, vs0, h1, h2, h3, h4, _⟩ := ok.lst e0
      refine ⟨.ref a0, h1, .inl ⟨rfl, vs0, SqL.of h3⟩, l, s, rfl, ok, Run.mono (Run.bind q) fun u H1 ⟨l1, s1, v, e1, ok1, r1, st1, h5⟩ => ?_⟩
      subst e1
      cases v with
      | int j =>
        cases (show u = .int j from r1)
        cases e6 : lstAt i s1 with
        | none => rw [e6] at h5; exact h5.elim
        | some z =>
          obtain ⟨xs, k⟩ := z
          rw [e6] at h5
          simp only at h5
          obtain ⟨a1, vs, g1, g2, g3, g4, g5⟩ := ok1.lst e6
          rw [h1] at g1
          cases g1
          cases e7 : ixN xs.length j with
          | none => rw [e7] at h5; exact h5.elim
          | some m =>
            rw [e7] at h5
            simp only at h5
            cases e8 : xs[m]? with
            | none => rw [e8] at h5; exact h5.elim
            | some y =>
              rw [e8] at h5
              simp only at h5
              obtain ⟨w, hw, rw'⟩ := g4.get e8
              by_cases hz : xs.length ≤ 16777216
              · rw [if_pos hz] at h5
                obtain ⟨b1, b2, b3⟩ := ixN_bounds e7 hz
                rw [g4.length] at b3
                exact ⟨a0, vs, j, m, w, rfl, rfl, g3, b1, b2, b3, hw, h5 ⟨l1.al, l1.M, upd l1.H a0 (.lst (vs.eraseIdx m))⟩ _ (Step.at_ g2 _) (g5 _ _ (g4.eraseIdx m)) ((Step.at_ g2 _).rep rw')⟩
              · rw [if_neg hz] at h5
                exact h5.elim
      | _ => exact h5.elim
/-- x[j] = e -/
theorem js_put {i : Nat} {x : Str} {px tpos : Pos} {di : DE} (he : JE X g e de) (hi : JE X g a di) (hN : X.N[i]? = some x := by rfl) (hv : Vis X.env.scope x := by first | exact Or.inl rfl | exact Or.inr (Or.inl rfl) | exact Or.inr (Or.inr rfl))
    (ha : ∀ v, assign (.Subscript (.Name x px) a tpos) X.env v = (do
      let ov ← holding [v] (eval (.Name x px) X.env)
      let iv ← holding [v, ov] (eval a X.env)
      standAt tpos
      holding [v, ov, iv] (setItem ov iv v)
      release [v, ov, iv] []) := by intro _; rfl)
    (hs : swapsWithSole [.Subscript (.Name x px) a tpos] e pos.line X.env = pure false := by rfl) (hw : swappedStores [.Subscript (.Name x px) a tpos] e X.env = pure none := by rfl)
    (h1 : (assignEach [.Subscript (.Name x px) a tpos] X.env).map (·.2) = [assign (.Subscript (.Name x px) a tpos) X.env] := by rfl)
    (hd : (x == ("__debug__" : Str)) = false := by decide) (hcd : (x == ("__classdict__" : Str)) = false := by decide) : JS X g (.Assign [.Subscript (.Name x px) a tpos] e pos) (dPut i de di) :=
  PS.cq (ps_asg he (pg_sub (pe_var (i := i) hN hv hd hcd) hi set_list ha) hs hw h1) fun pins s D σ H I q => by
    obtain ⟨l, s, rfl, ok, q⟩ := q
    simp only [dPut] at q
    refine ⟨l, s, rfl, ok, Run.mono (Run.bindS q) fun u H1 ⟨l1, s1, v, e1, ok1, r1, st1, h5⟩ => ?_⟩
    subst e1
    cases e0 : lstAt i s1 with
    | none => rw [e0] at h5; exact h5.elim
    | some z =>
      rw [e0] at h5
      obtain ⟨xs0, k0⟩ := z
      obtain ⟨a0, vs0, h1, h2, h3, h4, _⟩ := ok1.lst e0
      refine ⟨.ref a0, h1, l1, s1, rfl, ok1, Run.mono (Run.bindS h5) fun w H2 ⟨l2, s2, j, e2, ok2, r2, st2, h6⟩ => ?_⟩
      subst e2
      cases j with
      | int j =>
        cases (show w = .int j from r2)
        cases e6 : lstAt i s2 with
        | none => rw [e6] at h6; exact h6.elim
        | some z =>
          obtain ⟨xs, k⟩ := z
          rw [e6] at h6
          simp only at h6
          obtain ⟨a1, vs, g1, g2, g3, g4, g5⟩ := ok2.lst e6
          rw [h1] at g1
          cases g1
          cases e7 : ixN xs.length j with
          | none => rw [e7] at h6; exact h6.elim
          | some m =>
            rw [e7] at h6
            rw [g4.length] at e7
            exact ⟨a0, vs, j, m, rfl, rfl, g3, e7, h6 ⟨l2.al, l2.M, upd l2.H a0 (.lst (vs.set m u))⟩ _ (Step.at_ g2 _) (g5 _ _ (RepL.set (st2.rep r1) m g4))⟩
      | _ => exact h6.elim
end
end L3

namespace L3
open PySem PySem.Spec PyProof.Rows L2
/-! ## defs -/
/-- room, and no guard on the stack -/
structure Room (k : Nat) (A : Around) : Prop where
  rm : L2.Room k A
  gd : A.guards = some []
theorem Room.un {k : Nat} {A : Around} (r : Room k A) : A.units + 16 * k + 200 < cLine := r.rm.un
theorem Room.dp {k : Nat} {A : Around} (r : Room k A) : A.depth + 3 * k + 5 < recursionLimit := r.rm.dp
theorem Room.hd {k : Nat} {A : Around} (r : Room k A) : A.handled = none := r.rm.hd
theorem Room.mono {j k : Nat} {A : Around} (r : Room k A) (h : j ≤ k) : Room j A := ⟨r.rm.mono h, r.gd⟩
theorem Room.deeper {k : Nat} {A : Around} (r : Room (k + 1) A) (env : Env) : Room k (A.deeper env) := ⟨r.rm.deeper env, r.gd⟩
theorem Room.in1 {k : Nat} {A : Around} (r : Room (k + 1) A) : Room k A.in1 := ⟨r.rm.in1, r.gd⟩
theorem guards_make {A : Around} {C : Addr} {us : List Value} {kw : List (Str × Value)} (h : A.guards = some []) : (A.under (.builtin "type.__call__" ⟨.ref C :: us, kw⟩)).guards = some [] := by
  have e : (A.under (.builtin "type.__call__" ⟨.ref C :: us, kw⟩)).guards = pushGuards (Code.builtin "type.__call__" ⟨.ref C :: us, kw⟩).guards A.guards := rfl
  rw [e, h]
  have g : (Code.builtin "type.__call__" ⟨.ref C :: us, kw⟩).isGuard = false := by simp [Code.isGuard, guardIds]
  simp [Code.guards, g, pushGuards]
theorem Room.make {k : Nat} {A : Around} (r : Room (k + 1) A) (C : Addr) (us : List Value) (kw : List (Str × Value)) : Room k (A.under (.builtin "type.__call__" ⟨.ref C :: us, kw⟩)) := ⟨r.rm.make C us kw, guards_make r.gd⟩
theorem Room.units {k : Nat} {A : Around} (r : Room k A) : A.units + 64 < cLine := r.rm.units
theorem Room.units0 {k : Nat} {A : Around} (r : Room k A) : A.units < cLine := r.rm.units0
structure Sub (X : Cx) (n : Nat) (A : Around) : Prop where
  room : Room n A
  fr : A.frames = X.A.frames
theorem Sub.in1 {X : Cx} {n : Nat} {A : Around} (s : Sub X (n + 1) A) : Sub X n A.in1 := ⟨s.room.in1, s.fr⟩
theorem Sub.mono {X : Cx} {n m : Nat} {A : Around} (s : Sub X n A) (h : m ≤ n) : Sub X m A := ⟨s.room.mono h, s.fr⟩
/-- a def's promise, called where nothing guards -/
structure FnG (P : Program) (w : World) (K : PySem.W.Frag) (mg : Str → Option Value) (base : Heap) (CX : CXT) (k : Nat) (f : Addr) (fd : FuncData) (ps : List Str) (sp : Sp) : Prop where
  len : ∀ vs H Q E, sp vs H Q E → vs.length = ps.length
  run : ∀ (A : Around) (outer : List Env) (s : Shared) (H : Hp) (args : Args) (us : List Value) (vs : List V) (Q : VK) (E : XK), Room k A → Env0 P w K mg base A outer s H → BindsTo s fd args (ps.zip us) → Vals vs us →
    sp vs H Q E → codeAny (model P w) A (.call (.ref f) args) (CR CX outer P w H s Q E) s
theorem FnG.mono {P : Program} {w : World} {K : PySem.W.Frag} {mg : Str → Option Value} {base : Heap} {CX : CXT} {j k : Nat} {f : Addr} {fd : FuncData} {ps : List Str} {sp : Sp} (F : FnG P w K mg base CX j f fd ps sp) (h : j ≤ k) :
    FnG P w K mg base CX k f fd ps sp where
  len := F.len
  run := fun A outer s H args us vs Q E hr => F.run A outer s H args us vs Q E (hr.mono h)
theorem FnG.imp {P : Program} {w : World} {K : PySem.W.Frag} {mg : Str → Option Value} {base : Heap} {CX : CXT} {k : Nat} {f : Addr} {fd : FuncData} {ps : List Str} {sp sp' : Sp} (F : FnG P w K mg base CX k f fd ps sp)
    (h : ∀ vs H Q E, sp' vs H Q E → sp vs H Q E) : FnG P w K mg base CX k f fd ps sp' where
  len := fun vs H Q E q => F.len vs H Q E (h _ _ _ _ q)
  run := fun A outer s H args us vs Q E hr he hb hv hs => F.run A outer s H args us vs Q E hr he hb hv (h _ _ _ _ hs)
/-- from a promise that asks for room alone, at one place -/
theorem fnG_of {P : Program} {w : World} {K : PySem.W.Frag} {mg : Str → Option Value} {base : Heap} {CX : CXT} {x qual : Str} {params : Arguments} {body : List Stmt} {scope : Scope} {dvs : List V} {kws : List (Str × V)} {f : Addr} {fd : FuncData} {N ps : List Str} {k : Nat} {sp : Sp}
    (F : FunD K x qual params body scope dvs kws f fd) (S : FnScope N ps scope) (len : ∀ vs H Q E, sp vs H Q E → vs.length = ps.length)
    (hbody : ∀ (cdv : Value) (A : Around) (outer : List Env) (s : Shared) (H : Hp) (vs : List V) (Q : VK) (E : XK), Room k (A.deeper (envOfC qual scope s.heap.objs.size f cdv)) → sp vs H Q E →
      ∃ t, PSs (cxOf CX P w K mg base N qual scope f cdv A outer s H E) body t ∧ t { nx := fun _ H' => Q .non H', rt := Q } (start N vs) H) : FnG P w K mg base CX (k + 1) f fd ps sp where
  len := len
  run := fun A outer s H args us vs Q E hr e0 hb r hsp => by
    obtain ⟨oc, od, dV, kV, doc, pm, an, cdv, ct, osl, rfl, lk, hcd, _, _⟩ := F.ex
    have KX : K.In s.heap := e0.mod.kin.keeps fun b o e => (e0.bs b o e).1
    refine codeAny_call_function hr.rm.depth (KX _ _ lk) rfl S.co S.gen rfl (PySem.W.codeRec_of KX hcd) (hb _ _ _ _ ?_)
    have hk : ∀ y ∈ ps.zip us, scope.names.lookup y.1 = some .local ∨ (scope.names.lookup y.1 = some .cell ∧ ((cellsFrom (s.heap.objs.size + 1) scope.names []).lookup y.1).isSome = true) := by
      rintro ⟨n, v⟩ hy
      exact (S.par n (List.of_mem_zip hy).1).imp id fun q => ⟨q, PySem.W.cellsFrom_some _ _ _ (.inl q)⟩
    refine wpAny_newFunctionEnv_cells S.kind hk fun env he s1 x => ?_
    cases he
    refine ⟨(e0.mod.nolimit.keeps fun b o e => (e0.bs b o e).1).keeps x.toInCall.keep, codeAny_func ?_⟩
    obtain ⟨t, ht, hq⟩ := hbody cdv A outer s H vs Q E (hr.deeper _) hsp
    have I := inv_start (CX := CX) (E := E) S hr.hd e0 (len _ _ _ _ hsp) r x
    refine wpAny_mono (ht.run [] s1 (start N vs) H _ I hq) (fun fl s' hs => ?_) fun _ _ z => z
    match fl, hs with
    | .ret u, ⟨v, σ', H', J, rv, q⟩ => exact ⟨v, H', J.os, J.bare, J.base, J.hok, rv, q⟩
    | .next, ⟨σ', H', J, q⟩ => exact ⟨.non, H', J.os, J.bare, J.base, J.hok, rfl, q⟩
    | .brk, ⟨_, _, _, q⟩ => exact q.elim
    | .cont, ⟨_, _, _, q⟩ => exact q.elim
/-- the state at a call -/
structure Fok (K : PySem.W.Frag) (CR : Addr) (N : Addr → Prop) (l : Lc) (mu : List MO) : Prop where
  iff : ∀ a, l.M a ↔ a ∈ l.al
  ok : Sok K ⟨CR, N, W0⟩ l ⟨[], mu⟩ []
/-- a promise: what F says -/
def spJ (K : PySem.W.Frag) (CR : Addr) (n : Nat) (F : DF) : Sp := fun vs H Q E => ∃ (N : Addr → Prop) (l : Lc) (ps : List PV) (mu : List MO), l.H = H ∧ Fok K CR N l mu ∧ RepGL K ⟨CR, N, W0⟩ l ps vs ∧ ps.length = n ∧ match F ps mu with
  | .ok v mu' => ∀ l' u, Step l l' → Fok K CR N l' mu' → RepG K ⟨CR, N, W0⟩ l' v u → Q u l'.H
  | .exn e mu' => ∀ l' cls dd, Step l l' → Fok K CR N l' mu' → RepX K ⟨CR, N, W0⟩ l' e cls dd → E cls dd l'.H
  | .bad => False
abbrev FJ (P : Program) (w : World) (K : PySem.W.Frag) (mg : Str → Option Value) (base : Heap) (CR : Addr) (k : Nat) (f : Addr) (fd : FuncData) (ps : List Str) (F : DF) : Prop := FnG P w K mg base (L2.CX P w) k f fd ps (spJ K CR ps.length F)
/-- F' says no more than F -/
def Below (n : Nat) (F' F : DF) : Prop := ∀ ps mu, ps.length = n → F' ps mu = .bad ∨ F ps mu = F' ps mu
theorem FJ.imp {P : Program} {w : World} {K : PySem.W.Frag} {mg : Str → Option Value} {base : Heap} {CR : Addr} {k : Nat} {f : Addr} {fd : FuncData} {ps : List Str} {F F' : DF} (h : FJ P w K mg base CR k f fd ps F) (b : Below ps.length F' F) : FJ P w K mg base CR k f fd ps F' :=
  FnG.imp h fun vs H Q E q => by
    obtain ⟨N, l, qs, mu, e, ok, r, hl, q⟩ := q
    refine ⟨N, l, qs, mu, e, ok, r, hl, ?_⟩
    rcases b qs mu hl with z | z
    · rw [z] at q; exact q.elim
    · rw [z]; exact q
def runBody (n : Nat) (d : DS) : DF := fun ps mu => match d ⟨ps.map (fun p => some (.val p)) ++ List.replicate (n - ps.length) none, mu⟩ with
  | .ok (.rt v) s => .ok v s.mu
  | .ok .nx s => .ok .non s.mu
  | .ok _ _ => .bad
  | .exn e s => .exn e s.mu
  | .bad => .bad
theorem Sok.frame {K : PySem.W.Frag} {g g' : Gx} {l : Lc} {s : S} {σ : St} (ok : Sok K g l s σ) (ec : g'.CR = g.CR) (eN : g'.N = g.N) : Sok K g' l s σ := by
  obtain ⟨CR, N, W⟩ := g
  obtain ⟨CR', N', W'⟩ := g'
  cases ec
  cases eN
  exact ⟨ok.len, ok.env, ok.own, ok.dis, ok.mlen, fun n a m h1 h2 => by
    have q := ok.mu n a m h1 h2
    cases m <;> exact q, ok.nd, ok.alM, ok.there, ok.mn⟩
/-- the shared objects alone -/
theorem Sok.toF {K : PySem.W.Frag} {g : Gx} {l : Lc} {s : S} {σ : St} {N' : Addr → Prop} (ok : Sok K g l s σ) (hN : ∀ a, N' a → l.M a ∨ g.N a) (hN2 : ∀ a, a ∈ l.al → ¬ N' a) : Fok K g.CR N' ⟨l.al, fun a => a ∈ l.al, l.H⟩ s.mu := by
  have rp : ∀ x v, RepGL K g l x v → RepGL K ⟨g.CR, N', W0⟩ ⟨l.al, fun a => a ∈ l.al, l.H⟩ x v := fun x v h => RepL.mono (fun _ _ h => h) (fun a o n e => ⟨e, fun z => by
    rcases z with z | z
    · exact n (.inl (ok.alM a z))
    · exact n (hN a z)⟩) x v h
  refine ⟨fun a => Iff.rfl, rfl, fun i v e => by simp at e, fun i v e => by simp at e, fun i j xs ys a _ e => by simp at e, ok.mlen, fun n a m h1 h2 => ?_, ok.nd, fun a h => h, fun a h => ?_, hN2⟩
  · have q := ok.mu n a m h1 h2
    cases m with
    | lst xs => obtain ⟨vs, q1, q2⟩ := q; exact ⟨vs, q1, rp _ _ q2⟩
    | ins C ns xs => obtain ⟨dx, vs, q1, q2, q3⟩ := q; exact ⟨dx, vs, q1, q2, rp _ _ q3⟩
  · rcases h with h | h
    · exact ok.there a (.inl (ok.alM a h))
    · exact ok.there a (hN a h)
theorem length_start {N : List Str} {vs : List V} (h : vs.length ≤ N.length) : (L2.start N vs).length = N.length := by
  unfold L2.start
  rw [List.length_append, List.length_map, List.length_replicate]
  omega
/-- THE RULE for a def: what its body computes -/
theorem jf_fn {P : Program} {w : World} {K : PySem.W.Frag} {mg : Str → Option Value} {base : Heap} {CR : Addr} {x qual : Str} {params : Arguments} {body : List Stmt} {scope : Scope} {dvs : List V} {kws : List (Str × V)} {f : Addr} {fd : FuncData} {N ps : List Str} {k : Nat} {d : DS}
    (F : FunD K x qual params body scope dvs kws f fd) (S : FnScope N ps scope) (hb : ∀ (cdv : Value) (A : Around) (outer : List Env) (s : Shared) (H : Hp) (E : XK) (Nn : Addr → Prop), Room k (A.deeper (envOfC qual scope s.heap.objs.size f cdv)) →
      JSs (cxOf (L2.CX P w) P w K mg base N qual scope f cdv A outer s H E) ⟨CR, Nn, fun c dd _ H => E c dd H⟩ body d) : FJ P w K mg base CR (k + 1) f fd ps (runBody N.length d) := by
  have hps : ps.length ≤ N.length := by
    have := congrArg List.length S.pre
    rw [List.length_take] at this
    omega
  refine fnG_of F S (fun vs H Q E h => ?_) (fun cdv A outer s H vs Q E hr h => ?_)
  · obtain ⟨N, l, qs, mu, e, ok, r, hl, q⟩ := h
    rw [← r.length, hl]
  · obtain ⟨Nn, l, qs, mu, rfl, ok, r, hl, q⟩ := h
    refine ⟨_, hb cdv A outer s l.H E Nn hr, l, ⟨qs.map (fun p => some (.val p)) ++ List.replicate (N.length - qs.length) none, mu⟩, rfl, ?_, ?_⟩
    · have hv : vs.length = ps.length := by rw [← r.length]; exact hl
      have e1 : ∀ (i : Nat) sv, (qs.map (fun p => some (SV.val p)) ++ List.replicate (N.length - qs.length) none)[i]? = some (some sv) → ∃ p, qs[i]? = some p ∧ sv = .val p := by
        intro i sv e
        by_cases h : i < qs.length
        · rw [List.getElem?_append_left (by rw [List.length_map]; exact h), List.getElem?_map] at e
          cases e2 : qs[i]? with
          | none => rw [e2] at e; cases e
          | some p => rw [e2] at e; cases e; exact ⟨p, rfl, rfl⟩
        · rw [List.getElem?_append_right (by rw [List.length_map]; omega), List.getElem?_replicate] at e
          split at e <;> cases e
      refine ⟨?_, fun i v e => ?_, fun i v e => ?_, fun i j xs ys a _ e => ?_, ok.ok.mlen, fun n a m h1 h2 => ?_, ok.ok.nd, ok.ok.alM, ok.ok.there, ok.ok.mn⟩
      · rw [length_start (by omega)]
        show (qs.map (fun p => some (SV.val p)) ++ List.replicate (N.length - qs.length) none).length = _
        rw [List.length_append, List.length_map, List.length_replicate]
        omega
      · obtain ⟨p, h1, h2⟩ := e1 i _ e
        cases h2
        obtain ⟨u, h3, h4⟩ := r.get h1
        refine ⟨u, ?_, h4⟩
        unfold L2.start
        rw [List.getElem?_append_left (by rw [List.length_map]; exact (List.getElem?_eq_some_iff.mp h3).1), List.getElem?_map, h3] <;> rfl
      · obtain ⟨p, h1, h2⟩ := e1 i _ e
        cases h2
      · obtain ⟨p, h1, h2⟩ := e1 i _ e
        cases h2
      · have q := ok.ok.mu n a m h1 h2
        cases m <;> exact q
    · -- the end
      have fin : ∀ {l' : Lc} {s' : L3.S} {σ' : St} {v : PV} {u : V}, Step l l' → Sok K ⟨CR, Nn, fun c dd _ H => E c dd H⟩ l' s' σ' → RepG K ⟨CR, Nn, W0⟩ l' v u →
          Step l ⟨l'.al, fun a => a ∈ l'.al, l'.H⟩ ∧ Fok K CR Nn ⟨l'.al, fun a => a ∈ l'.al, l'.H⟩ s'.mu ∧ RepG K ⟨CR, Nn, W0⟩ ⟨l'.al, fun a => a ∈ l'.al, l'.H⟩ v u := by
        intro l' s' σ' v u st ok' rv
        refine ⟨⟨st.pre, fun a h => st.new a (ok'.alM a h), st.keep, st.dom⟩, Sok.toF ok' (fun a h => .inr h) (fun a h => ok'.mn a (ok'.alM a h)), Rep.mono (fun _ _ h => h) (fun a o n e => ⟨e, fun z => by
          rcases z with z | z
          · exact n (.inl (ok'.alM a z))
          · exact n (.inr z)⟩) v u rv⟩
      unfold runBody at q
      cases e : d ⟨qs.map (fun p => some (.val p)) ++ List.replicate (N.length - qs.length) none, mu⟩ with
      | bad => rw [e] at q; exact q
      | exn ex t =>
        rw [e] at q
        intro l' σ' cls dd st ok' rx
        obtain ⟨f1, f2, _⟩ := fin (v := .non) (u := .non) st ok' rfl
        refine q ⟨l'.al, fun a => a ∈ l'.al, l'.H⟩ cls dd f1 f2 ?_
        obtain ⟨C, ns, xs, us, h1, h2, h3, h4, h5⟩ := rx
        refine ⟨C, ns, xs, us, h1, h2, h3, RepL.mono (fun _ _ h => h) (fun a o n e => ⟨e, fun z => by
          rcases z with z | z
          · exact n (.inl (ok'.alM a z))
          · exact n (.inr z)⟩) _ _ h4, ?_⟩
        rcases h5 with h5 | ⟨d', h5, h6, h7⟩
        · exact .inl h5
        · exact .inr ⟨d', h5, fun z => h6 (by
            rcases z with z | z
            · exact .inl (ok'.alM _ z)
            · exact .inr z), h7⟩
      | ok fl t =>
        rw [e] at q
        cases fl with
        | nx =>
          intro l' σ' st ok'
          obtain ⟨f1, f2, f3⟩ := fin (v := .non) (u := .non) st ok' rfl
          exact q ⟨l'.al, fun a => a ∈ l'.al, l'.H⟩ .non f1 f2 f3
        | rt v =>
          intro l' σ' u st ok' rv
          obtain ⟨f1, f2, f3⟩ := fin st ok' rv
          exact q ⟨l'.al, fun a => a ∈ l'.al, l'.H⟩ u f1 f2 f3
        | bk => exact (show False from q).elim
        | ct => exact (show False from q).elim
/-- the other lists of a frame, hidden from a callee -/
def hidN (g : Gx) (l : Lc) : Addr → Prop := fun a => g.N a ∨ (l.M a ∧ a ∉ l.al)
@[simp] def dFnS (F : DF) (da : DA) : DE := fun s => (da s).bind fun ps s1 => match F ps s1.mu with
  | .ok v mu => .ok v ⟨s1.env, mu⟩
  | .exn e mu => .exn e ⟨s1.env, mu⟩
  | .bad => .bad
section
variable {K : PySem.W.Frag} {g : Gx} {l : Lc} {s : S} {σ : St} {ps : List PV} {us : List V} {Q : VK} {F : DF} {n : Nat}
/-- at a call: what the callee's promise asks -/
theorem call_asks (ok : Sok K g l s σ) (r : RepGL K g l ps us) (hn : ps.length = n) (run : Run K g (match F ps s.mu with | .ok v mu => .ok v ⟨s.env, mu⟩ | .exn e mu => .exn e ⟨s.env, mu⟩ | .bad => .bad) l σ Q) :
    spJ K g.CR n F us l.H Q (fun c dd H => g.W c dd σ H) := by
  have hL : ∀ a, (Gx.L ⟨g.CR, hidN g l, W0⟩ ⟨l.al, fun a => a ∈ l.al, l.H⟩ a) → g.L l a := fun a h => by
    rcases h with h | h | ⟨h, _⟩
    · exact .inl (ok.alM a h)
    · exact .inr h
    · exact .inl h
  refine ⟨hidN g l, ⟨l.al, fun a => a ∈ l.al, l.H⟩, ps, s.mu, rfl, ok.toF (fun a h => by
    rcases h with h | ⟨h, _⟩
    · exact .inr h
    · exact .inl h) (fun a h z => by
    rcases z with z | ⟨_, z⟩
    · exact ok.mn a (ok.alM a h) z
    · exact z h), RepL.mono (fun _ _ h => h) (fun a o n e => ⟨e, fun z => n (hL a z)⟩) _ _ r, hn, ?_⟩
  -- what the caller sees behind the call
  have back : ∀ {lc : Lc} {mu' : List MO}, Step ⟨l.al, fun a => a ∈ l.al, l.H⟩ lc → Fok K g.CR (hidN g l) lc mu' →
      ∃ l', l'.H = lc.H ∧ l'.al = lc.al ∧ Step l l' ∧ Sok K g l' ⟨s.env, mu'⟩ σ ∧ ∀ a, g.L l' a → Gx.L ⟨g.CR, hidN g l, W0⟩ lc a := by
    intro lc mu' st fo
    have stM : ∀ a, lc.M a → l.M a ∨ l.H a = none := fun a h => by
      rcases st.new a h with h | h
      · exact .inl (ok.alM a h)
      · exact .inr h
    have st' : Step l ⟨lc.al, fun a => lc.M a ∨ (l.M a ∧ a ∉ l.al), lc.H⟩ := by
      refine ⟨st.pre, fun a h => ?_, fun a o n e => st.keep a o (fun z => n (ok.alM a z)) e, st.dom⟩
      rcases h with h | ⟨h, _⟩
      · exact stM a h
      · exact .inl h
    have back2 : ∀ a, g.L ⟨lc.al, fun a => lc.M a ∨ (l.M a ∧ a ∉ l.al), lc.H⟩ a → Gx.L ⟨g.CR, hidN g l, W0⟩ lc a := fun a h => by
      rcases h with (h | h) | h
      · exact .inl h
      · exact .inr (.inr h)
      · exact .inr (.inl h)
    have nal : ∀ a, l.M a → a ∉ l.al → a ∉ lc.al := fun a h1 h2 z => by
      rcases st.new a ((fo.iff a).mpr z) with q | q
      · exact h2 q
      · exact ok.there a (.inl h1) q
    refine ⟨⟨lc.al, fun a => lc.M a ∨ (l.M a ∧ a ∉ l.al), lc.H⟩, rfl, rfl, st', ⟨ok.len, fun i v e => ?_, fun i xs e => ?_, ok.dis, fo.ok.mlen, fun n a m h1 h2 => ?_, fo.ok.nd, fun a h => .inl (fo.ok.alM a h), fun a h => ?_, fun a h => ?_⟩, back2⟩
    · obtain ⟨u, h1, h2⟩ := ok.env i v e
      exact ⟨u, h1, st'.rep h2⟩
    · obtain ⟨a, vs, h1, h2, h3, h4, h5⟩ := ok.own i xs e
      exact ⟨a, vs, h1, .inr ⟨h2, h3⟩, nal a h2 h3, st.keep a _ h3 h4, st'.reps h5⟩
    · have q := fo.ok.mu n a m h1 h2
      have rp : ∀ x v, RepGL K ⟨g.CR, hidN g l, W0⟩ lc x v → RepGL K g ⟨lc.al, fun a => lc.M a ∨ (l.M a ∧ a ∉ l.al), lc.H⟩ x v := fun x v h => RepL.mono (fun _ _ h => h) (fun a o n e => ⟨e, fun z => n (back2 a z)⟩) x v h
      cases m with
      | lst xs => obtain ⟨vs, q1, q2⟩ := q; exact ⟨vs, q1, rp _ _ q2⟩
      | ins C ns xs => obtain ⟨dx, vs, q1, q2, q3⟩ := q; exact ⟨dx, vs, q1, q2, rp _ _ q3⟩
    · rcases h with (h | ⟨h, _⟩) | h
      · exact fo.ok.there a (.inl h)
      · exact st.dom a (ok.there a (.inl h))
      · exact st.dom a (ok.there a (.inr h))
    · rcases h with h | ⟨h, _⟩
      · exact fun z => fo.ok.mn a h (.inl z)
      · exact ok.mn a h
  cases e : F ps s.mu with
  | bad => rw [e] at run; exact run
  | ok v mu =>
    rw [e] at run
    intro lc u st fo rv
    obtain ⟨l', e1, e2, st', ok', hb⟩ := back st fo
    have := run l' u st' ok' (by
      show Rep K g.CR l'.al (g.L l') l'.H v u
      rw [e1, e2]
      exact Rep.mono (fun _ _ h => h) (fun a o n e => ⟨e, fun z => n (hb a z)⟩) v u rv)
    rw [e1] at this
    exact this
  | exn ex mu =>
    rw [e] at run
    intro lc cls dd st fo rx
    obtain ⟨l', e1, e2, st', ok', hb⟩ := back st fo
    have := run l' cls dd st' ok' (by
      obtain ⟨C, ns, xs, us, h1, h2, h3, h4, h5⟩ := rx
      refine ⟨C, ns, xs, us, h1, h2, h3, ?_, ?_⟩
      · show RepL K g.CR l'.al (g.L l') l'.H xs us
        rw [e1, e2]
        exact RepL.mono (fun _ _ h => h) (fun a o n e => ⟨e, fun z => n (hb a z)⟩) _ _ h4
      · rcases h5 with h5 | ⟨d', h5, h6, h7⟩
        · exact .inl h5
        · exact .inr ⟨d', h5, fun z => h6 (hb _ z), by rw [e1]; exact h7⟩)
    rw [e1] at this
    exact this
end
end L3

namespace L3
open PySem PySem.Spec PyProof.Rows L2
/-! ## attributes -/
def putN (f : Str) : List Str → List Str
  | [] => [f]
  | n :: ns => if n = f then n :: ns else n :: putN f ns
def putV {a : Type} (f : Str) (v : a) : List Str → List a → List a
  | n :: ns, x :: xs => if n = f then v :: xs else x :: putV f v ns xs
  | _, _ => [v]
def getV {a : Type} (f : Str) : List Str → List a → Option a
  | n :: ns, x :: xs => if n = f then some x else getV f ns xs
  | _, _ => none
theorem putF_zip {f : Str} {v : V} : ∀ {ns : List Str} {vs : List V}, ns.length = vs.length → L2.putF f v (ns.zip vs) = (putN f ns).zip (putV f v ns vs)
  | [], [], _ => rfl
  | n :: ns, x :: vs, h => by
    show (if n = f then (n, v) :: ns.zip vs else (n, x) :: L2.putF f v (ns.zip vs)) = (if n = f then n :: ns else n :: putN f ns).zip (if n = f then v :: vs else x :: putV f v ns vs)
    by_cases e : n = f
    · rw [if_pos e, if_pos e, if_pos e]; rfl
    · rw [if_neg e, if_neg e, if_neg e, putF_zip (by simpa using h)]; rfl
theorem put_len {a : Type} {f : Str} {v : a} : ∀ {ns : List Str} {vs : List a}, ns.length = vs.length → (putN f ns).length = (putV f v ns vs).length
  | [], [], _ => rfl
  | n :: ns, x :: vs, h => by
    show (if n = f then n :: ns else n :: putN f ns).length = (if n = f then v :: vs else x :: putV f v ns vs).length
    by_cases e : n = f
    · rw [if_pos e, if_pos e]; simpa using h
    · rw [if_neg e, if_neg e, List.length_cons, List.length_cons, put_len (by simpa using h)]
theorem lookup_zip {f : Str} : ∀ {ns : List Str} {vs : List V}, (ns.zip vs).lookup f = getV f ns vs
  | [], _ => by simp [getV]
  | n :: ns, [] => rfl
  | n :: ns, x :: vs => by
    show ((n, x) :: ns.zip vs).lookup f = if n = f then some x else getV f ns vs
    by_cases e : n = f
    · have hb : (f == n) = true := beq_iff_eq.mpr e.symm
      rw [if_pos e]; simp only [List.lookup, hb]
    · have hb : (f == n) = false := beq_eq_false_iff_ne.mpr (Ne.symm e)
      rw [if_neg e, ← lookup_zip]; simp only [List.lookup, hb]
section
variable {K : PySem.W.Frag} {CR : Addr} {al : List Addr} {L : Addr → Prop} {H : Hp} {f : Str}
theorem RepL.put {x : PV} {v : V} (hx : Rep K CR al L H x v) : ∀ {ns : List Str} {xs : List PV} {vs : List V}, RepL K CR al L H xs vs → RepL K CR al L H (putV f x ns xs) (putV f v ns vs)
  | [], xs, vs, h => ⟨v, [], rfl, hx, rfl⟩
  | n :: ns, [], vs, h => by
    cases (show vs = [] from h)
    exact ⟨v, [], rfl, hx, rfl⟩
  | n :: ns, y :: xs, vs, h => by
    obtain ⟨w, r, rfl, h1, h2⟩ := h
    show RepL K CR al L H (if n = f then x :: xs else y :: putV f x ns xs) (if n = f then v :: r else w :: putV f v ns r)
    by_cases e : n = f
    · rw [if_pos e, if_pos e]; exact ⟨v, r, rfl, hx, h2⟩
    · rw [if_neg e, if_neg e]; exact ⟨w, _, rfl, h1, RepL.put hx h2⟩
theorem RepL.getV {x : PV} : ∀ {ns : List Str} {xs : List PV} {vs : List V}, RepL K CR al L H xs vs → L3.getV f ns xs = some x → ∃ v, L3.getV f ns vs = some v ∧ Rep K CR al L H x v
  | [], xs, vs, h, e => by simp [L3.getV] at e
  | n :: ns, [], vs, h, e => by simp [L3.getV] at e
  | n :: ns, y :: xs, vs, h, e => by
    obtain ⟨w, r, rfl, h1, h2⟩ := h
    have e : (if n = f then some y else L3.getV f ns xs) = some x := e
    show ∃ v, (if n = f then some w else L3.getV f ns r) = some v ∧ _
    by_cases z : n = f
    · rw [if_pos z] at e ⊢
      cases e
      exact ⟨w, rfl, h1⟩
    · rw [if_neg z] at e ⊢
      exact RepL.getV h2 e
end
def insP (mu : List MO) : PV → Option (Addr × List Str × List PV)
  | .ptr n => (match mu[n]? with
    | some (.ins C ns xs) => some (C, ns, xs)
    | _ => none)
  | .obj C ns xs => some (C, ns, xs)
  | _ => none
@[simp] theorem insP_obj {mu : List MO} {C : Addr} {ns : List Str} {xs : List PV} : insP mu (.obj C ns xs) = some (C, ns, xs) := rfl
@[simp] theorem insP_ptr {mu : List MO} {n : Nat} : insP mu (.ptr n) = (match mu[n]? with | some (.ins C ns xs) => some (C, ns, xs) | _ => none) := rfl
@[simp] def fFld (cs : List Addr) (f : Str) : PV → S → R S PV := fun p s => match insP s.mu p with
  | some (C, ns, xs) => if C ∈ cs then optR (getV f ns xs) s else .bad
  | none => .bad
@[simp] def dFPut (cs : List Addr) (f : Str) (ob de : DE) : DS := fun s => (de s).bind fun v s1 => (ob s1).bind fun o s2 => match o with
  | .ptr n => (match s2.mu[n]? with
    | some (.ins C ns xs) => if C ∈ cs ∧ ns.length < 1000 then .ok .nx ⟨s2.env, s2.mu.set n (.ins C (putN f ns) (putV f v ns xs))⟩ else .bad
    | _ => .bad)
  | _ => .bad
abbrev sTop : Str := "own_top"
abbrev sBot : Str := "own_bottom"
structure ClsR (K : PySem.W.Frag) (CR : Addr) : Prop where
  cls : Cls K CR
  top : NoAttr K CR "own_top"
  bot : NoAttr K CR "own_bottom"
@[simp] def fTop : PV → S → R S PV := fun p s => match p with
  | .rat q => .ok (.int q.num) s
  | _ => .bad
@[simp] def fBot : PV → S → R S PV := fun p s => match p with
  | .rat q => .ok (.int q.den) s
  | _ => .bad
def ClsF (K : PySem.W.Frag) (cs : List Addr) (f : Str) : Prop := ∀ C ∈ cs, Cls K C ∧ NoAttr K C f
theorem rep_ins {K : PySem.W.Frag} {g : Gx} {l : Lc} {s : S} {σ : St} {p : PV} {x : V} {C : Addr} {ns : List Str} {xs : List PV} (ok : Sok K g l s σ) (r : RepG K g l p x) (h : insP s.mu p = some (C, ns, xs)) :
    ∃ a dx vs, x = .ref a ∧ l.H a = some (.ins C dx (ns.zip vs)) ∧ ns.length = vs.length ∧ RepGL K g l xs vs := by
  cases p with
  | obj C' ns' xs' =>
    cases h
    obtain ⟨a, dx, vs, h1, _, h2, h3, h4⟩ := r
    exact ⟨a, dx, vs, h1, h2, h3, h4⟩
  | ptr n =>
    obtain ⟨a, ha, rfl⟩ := r
    simp only [insP] at h
    cases e : s.mu[n]? with
    | none => rw [e] at h; cases h
    | some m =>
      rw [e] at h
      cases m with
      | lst ys => cases h
      | ins C' ns' ys =>
        cases h
        obtain ⟨dx, vs, h1, h2, h3⟩ := ok.mu n a _ ha e
        exact ⟨a, dx, vs, rfl, h1, h2, h3⟩
  | _ => cases h
section
variable {X : Cx} {g : Gx} {a b c e tg iter elt o : Expr} {es ifs : List Expr} {da db dc de dob : DE} {dr : DA} {dl : DL} {pos : Pos} {k : Nat} {f C : Addr} {fd : FuncData} {ps : List Str} {F : DF} {x m : Str} {p apos : Pos}
theorem j_top (T : ClsR X.K g.CR) (he : JE X g e de) (hb : attributeBase e "own_top" X.env (eval e X.env) = eval e X.env := by rfl) : JE X g (.Attribute e "own_top" pos) (dUn fTop de) := PE.cq (pe_fld he hb) fun pins s σ H Q I q => by
  obtain ⟨l, s, rfl, ok, q⟩ := q
  refine ⟨l, s, rfl, ok, Run.mono (Run.bind q) fun u H1 ⟨l1, s1, v, e1, ok1, r1, st1, h1⟩ => ?_⟩
  subst e1
  cases v with
  | rat q =>
    obtain ⟨a, dx, rfl, n, h⟩ := r1
    exact ⟨a, g.CR, dx, _, _, rfl, h, T.cls, T.top, rfl, h1 l1 _ (Step.refl l1) ok1 rfl⟩
  | _ => exact h1.elim
theorem j_bot (T : ClsR X.K g.CR) (he : JE X g e de) (hb : attributeBase e "own_bottom" X.env (eval e X.env) = eval e X.env := by rfl) : JE X g (.Attribute e "own_bottom" pos) (dUn fBot de) := PE.cq (pe_fld he hb) fun pins s σ H Q I q => by
  obtain ⟨l, s, rfl, ok, q⟩ := q
  refine ⟨l, s, rfl, ok, Run.mono (Run.bind q) fun u H1 ⟨l1, s1, v, e1, ok1, r1, st1, h1⟩ => ?_⟩
  subst e1
  cases v with
  | rat q =>
    obtain ⟨a, dx, rfl, n, h⟩ := r1
    exact ⟨a, g.CR, dx, _, _, rfl, h, T.cls, T.bot, rfl, h1 l1 _ (Step.refl l1) ok1 rfl⟩
  | _ => exact h1.elim
theorem j_fld {cs : List Addr} {fl : Str} (T : ClsF X.K cs fl) (he : JE X g e de) (hb : attributeBase e fl X.env (eval e X.env) = eval e X.env := by rfl) : JE X g (.Attribute e fl pos) (dUn (fFld cs fl) de) := PE.cq (pe_fld he hb) fun pins s σ H Q I q => by
  obtain ⟨l, s, rfl, ok, q⟩ := q
  refine ⟨l, s, rfl, ok, Run.mono (Run.bind q) fun u H1 ⟨l1, s1, v, e1, ok1, r1, st1, h1⟩ => ?_⟩
  subst e1
  simp only [fFld] at h1
  cases e2 : insP s1.mu v with
  | none => rw [e2] at h1; exact h1.elim
  | some z =>
    obtain ⟨C, ns, xs⟩ := z
    rw [e2] at h1
    simp only at h1
    by_cases hc : C ∈ cs
    · rw [if_pos hc] at h1
      cases e3 : L3.getV fl ns xs with
      | none => simp only [e3, optR] at h1; exact h1.elim
      | some y =>
        simp only [e3, optR] at h1
        obtain ⟨a, dx, vs, rfl, h2, h3, h4⟩ := rep_ins ok1 r1 e2
        obtain ⟨w, hw, rw'⟩ := h4.getV e3
        exact ⟨a, C, dx, _, w, rfl, h2, (T C hc).1, (T C hc).2, by rw [lookup_zip]; exact hw, h1 l1 w (Step.refl l1) ok1 rw'⟩
    · rw [if_neg hc] at h1
      exact h1.elim
/-- o.f = e -/
theorem js_fput {cs : List Addr} {fl : Str} {p2 : Pos} (T : ClsF X.K cs fl) (ho : JE X g o dob) (he : JE X g e de) (hs : swapsWith e (some (.Attribute o fl p2)) pos.line X.env = pure false := by rfl) : JS X g (.Assign [.Attribute o fl p2] e pos) (dFPut cs fl dob de) :=
  PS.cq (ps_fld ho he hs) fun pins s D σ H I q => by
    obtain ⟨l, s, rfl, ok, q⟩ := q
    refine ⟨l, s, rfl, ok, Run.mono (Run.bindS q) fun u H1 ⟨l1, s1, v, e1, ok1, r1, st1, h1⟩ => ?_⟩
    refine ⟨l1, s1, e1, ok1, Run.mono (Run.bindS h1) fun w H2 ⟨l2, s2, y, e2, ok2, r2, st2, h2⟩ => ?_⟩
    subst e2
    cases y with
    | ptr n =>
      simp only at h2
      cases e3 : s2.mu[n]? with
      | none => rw [e3] at h2; exact h2.elim
      | some z =>
        rw [e3] at h2
        cases z with
        | lst xs => exact h2.elim
        | ins C ns xs =>
          simp only at h2
          by_cases hc : C ∈ cs ∧ ns.length < 1000
          · rw [if_pos hc] at h2
            obtain ⟨a, ha, rfl⟩ := r2
            obtain ⟨dx, vs, h3, h4, h5⟩ := ok2.mu n a _ ha e3
            refine ⟨a, C, dx, _, rfl, h3, (T C hc.1).1, (T C hc.1).2, by rw [List.length_zip, ← h4]; have := hc.2; omega, ?_⟩
            have hM : l2.M a := ok2.alM a (List.mem_of_getElem? ha)
            have st := Step.at_ hM (.ins C dx (L2.putF fl u (ns.zip vs)))
            exact h2 _ σ st (ok2.muSet ha fun l' e1 e2 e3 => ⟨dx, putV fl u ns vs, by rw [e3, upd_same, putF_zip h4], put_len (a := V) h4, by
              have q := RepL.put (f := fl) (ns := ns) (st.rep (st2.rep r1)) (st.reps h5)
              show RepL X.K g.CR l'.al (g.L l') l'.H _ _
              have el : l' = ⟨l2.al, l2.M, upd l2.H a (.ins C dx (L2.putF fl u (ns.zip vs)))⟩ := by
                obtain ⟨x1, x2, x3⟩ := l'
                cases e1; cases e2; cases e3; rfl
              rw [el]
              exact q⟩)
          · rw [if_neg hc] at h2
            exact h2.elim
    | _ => exact h2.elim
end
/-! ## isinstance -/
inductive TP where
  | non | bl | int | str | tup | lst | rat | cls (C : Addr) | dct
def TP.val (CR : Addr) : TP → Value
  | .non => .type "NoneType" | .bl => .type "bool" | .int => .type "int" | .str => .type "str" | .tup => .type "tuple" | .lst => .type "list" | .rat => .ref CR | .cls C => .ref C | .dct => .type "dict"
@[simp] def tpOf (mu : List MO) : PV → Option TP
  | .non => some .non | .bl _ => some .bl | .int _ => some .int | .str _ => some .str | .tup _ => some .tup | .lst _ => some .lst | .frz _ => some .lst | .rat _ => some .rat
  | .obj C _ _ => some (.cls C)
  | .ptr n => (match mu[n]? with
    | some (.lst _) => some .lst
    | some (.ins C _ _) => some (.cls C)
    | none => none)
  | .adr _ => none | .ty _ => none
  | .dk _ _ => some .dct | .dt _ _ => none | .exc _ _ _ => none
/-- what a class must have for isinstance -/
structure ClsI (K : PySem.W.Frag) (C : Addr) : Prop where
  cls : Cls K C
  ha : PySem.W.findIn K (.ref C) "__class__" = some (some (.builtin "object.__class__"))
  hm : PySem.W.mroIn K C (.type "object") = some true
structure KIsi (K : PySem.W.Frag) : Prop where
  hn : PySem.W.specialIn K (.builtin "object.__class__") "__get__" = some (some (.builtin "getset_descriptor.__get__"))
  htk : PySem.W.takesIn K (.builtin "object.__class__") = some true
/-- the answers for one class u, at the types that b knows -/
def IsiK (K : PySem.W.Frag) (CR : Addr) (u : Value) (b : TP → Option Bool) : Prop := ∀ tp r, b tp = some r → PySem.W.kitOne K (tp.val CR) u = some r ∧ ∀ C, (tp = .cls C ∨ (tp = .rat ∧ C = CR)) → ClsI K C
@[simp] def fIsi (b : TP → Option Bool) : PV → S → R S PV := fun p s => match tpOf s.mu p with
  | some t => (match b t with
    | some r => .ok (.bl r) s
    | none => .bad)
  | none => .bad
theorem tp_ok {K : PySem.W.Frag} {g : Gx} {l : Lc} {s : S} {σ : St} {p : PV} {x : V} {t : TP} (kk : KIsi K) (ok : Sok K g l s σ) (r : RepG K g l p x) (h : tpOf s.mu p = some t) (hc : ∀ C, (t = .cls C ∨ (t = .rat ∧ C = g.CR)) → ClsI K C) : TyX K l.H x (t.val g.CR) := by
  cases p with
  | non => cases h; rw [show x = .non from r]; exact .base .non
  | bl b => cases h; rw [show x = .bl b from r]; exact .base (.bl b)
  | int i => cases h; rw [show x = .int i from r]; exact .base (.int i)
  | str y => cases h; rw [show x = .str y from r]; exact .base (.str y)
  | rat q =>
    cases h
    obtain ⟨a, dx, rfl, n, h⟩ := r
    have c := hc g.CR (.inr ⟨rfl, rfl⟩)
    exact .base (.ins h c.cls c.ha kk.hn kk.htk c.hm)
  | tup xs =>
    cases h
    obtain ⟨a, vs, rfl, (⟨_, h | ⟨u, h⟩⟩ | ⟨o, its, n, h, hc', _⟩), _⟩ := r
    · exact .base (.tup h)
    · exact .fTuple h
    · exact .kTuple h hc'
  | lst xs =>
    cases h
    obtain ⟨a, vs, rfl, _, h, _⟩ := r
    exact .base (.lst h)
  | frz xs =>
    cases h
    obtain ⟨a, vs, rfl, (⟨_, h | ⟨u, h⟩⟩ | ⟨o, its, n, h, hc', _⟩), _⟩ := r
    · exact .base (.lst h)
    · exact .base (.frz h)
    · exact .kList h hc'
  | obj C ns xs =>
    cases h
    obtain ⟨a, dx, vs, rfl, n, h, _⟩ := r
    have c := hc C (.inl rfl)
    exact .base (.ins h c.cls c.ha kk.hn kk.htk c.hm)
  | ptr n =>
    obtain ⟨a, ha, rfl⟩ := r
    simp only [tpOf] at h
    cases e : s.mu[n]? with
    | none => rw [e] at h; cases h
    | some m =>
      rw [e] at h
      cases m with
      | lst ys =>
        cases h
        obtain ⟨vs, h1, h2⟩ := ok.mu n a _ ha e
        exact .base (.lst h1)
      | ins C ns ys =>
        cases h
        obtain ⟨dx, vs, h1, h2, h3⟩ := ok.mu n a _ ha e
        have c := hc C (.inl rfl)
        exact .base (.ins h1 c.cls c.ha kk.hn kk.htk c.hm)
  | adr a => cases h
  | ty n => cases h
  | dk ks xs =>
    cases h
    obtain ⟨a, vs, rfl, n, h, _⟩ := r
    rcases h with h | ⟨u, h⟩
    · exact .base (.dK h)
    · exact .fDict h
  | dt ks xs => cases h
  | exc C ns xs => cases h
section
variable {X : Cx} {g : Gx} {a b c e tg iter elt o : Expr} {es ifs : List Expr} {da db dc de dob : DE} {dr : DA} {dl : DL} {pos : Pos} {k : Nat} {f C : Addr} {fd : FuncData} {ps : List Str} {F : DF} {x m : Str} {p apos : Pos}
/-- isinstance(e, c), one class -/
theorem j_isi {cv : V} {cu : Value} {bb : TP → Option Bool} (kk : KIsi X.K) (T : IsiK X.K g.CR cu bb) (hcv : ClsV cv cu) (ha : JE X g a da) (hc : PE X c (tC cv)) (hg : Gl X "isinstance") (hm : X.mg "isinstance" = none)
    (h1 : starEach [a, c] X.env = (false, eval a X.env) :: starEach [c] X.env := by rfl) (h2 : starEach [c] X.env = (false, eval c X.env) :: starEach [] X.env := by rfl) (hpl : (backTo pos (starEach [c] X.env)).any (·.1) = false := by rfl) :
    JE X g (.Call (.Name "isinstance" p) [a, c] [] pos) (dUn (fIsi bb) da) :=
  PE.cq (pe_callB call_isi hg hm (by decide +kernel) (pa_cons ha (pa_cons hc pa_nil h2) h1) (by decide) (by decide) h1 hpl) fun pins s σ H Q I q => by
    obtain ⟨l, s, rfl, ok, q⟩ := q
    refine ⟨l, s, rfl, ok, Run.mono (Run.bind q) fun u H1 ⟨l1, s1, v, e1, ok1, r1, st1, h3⟩ => ?_⟩
    subst e1
    simp only [fIsi] at h3
    cases e2 : tpOf s1.mu v with
    | none => rw [e2] at h3; exact h3.elim
    | some t =>
      rw [e2] at h3
      simp only at h3
      cases e3 : bb t with
      | none => rw [e3] at h3; exact h3.elim
      | some r =>
        rw [e3] at h3
        obtain ⟨k1, k2⟩ := T t r e3
        exact ⟨u, cv, _, cu, r, rfl, hcv, tp_ok kk ok1 r1 e2 k2, k1, h3 l1 _ (Step.refl l1) ok1 rfl⟩
/-- isinstance(e, (c1, c2)), built-in types -/
theorem j_isi2 {c1 c2 : Expr} {v1 v2 : V} {u1 u2 : Value} {b1 b2 : TP → Option Bool} {x1} {tp : Pos} (kk : KIsi X.K) (T1 : IsiK X.K g.CR u1 b1) (T2 : IsiK X.K g.CR u2 b2) (hc1 : ClsV v1 u1) (hc2 : ClsV v2 u2) (ha : JE X g a da) (h1 : PE X c1 (tC v1)) (h2 : PE X c2 (tC v2)) (hg : Gl X "isinstance") (hm : X.mg "isinstance" = none)
    (s1 : starEach [a, .Tuple [c1, c2] x1 tp] X.env = (false, eval a X.env) :: starEach [.Tuple [c1, c2] x1 tp] X.env := by rfl) (s2 : starEach [.Tuple [c1, c2] x1 tp] X.env = (false, eval (.Tuple [c1, c2] x1 tp) X.env) :: starEach [] X.env := by rfl)
    (s3 : starEach [c1, c2] X.env = (false, eval c1 X.env) :: starEach [c2] X.env := by rfl) (s4 : starEach [c2] X.env = (false, eval c2 X.env) :: starEach [] X.env := by rfl) (hpl : (backTo pos (starEach [.Tuple [c1, c2] x1 tp] X.env)).any (·.1) = false := by rfl) :
    JE X g (.Call (.Name "isinstance" p) [a, .Tuple [c1, c2] x1 tp] [] pos) (dUn (fIsi fun t => match b1 t with | some true => some true | some false => b2 t | none => none) da) :=
  PE.cq (pe_callB call_isiT hg hm (by decide +kernel) (pa_cons ha (pa_cons (pe_tup (pa_cons h1 (pa_cons h2 pa_nil s4) s3)) pa_nil s2) s1) (by decide) (by decide) s1 hpl) fun pins s σ H Q I q => by
    obtain ⟨l, s, rfl, ok, q⟩ := q
    refine ⟨l, s, rfl, ok, Run.mono (Run.bind q) fun u H1 ⟨l1, s1, v, e1, ok1, r1, st1, h3⟩ => ?_⟩
    subst e1
    refine ⟨by rw [line_eq]; show 2 ≤ _; omega, fun tpA hp => ?_⟩
    simp only [fIsi] at h3
    cases e2 : tpOf s1.mu v with
    | none => rw [e2] at h3; exact h3.elim
    | some t =>
      rw [e2] at h3
      simp only at h3
      have st2 : Step l1 ⟨l1.al, l1.M, upd l1.H tpA (.tup [v1, v2])⟩ := Step.alloc hp
      have ok2 := ok1.alloc (o := .tup [v1, v2]) hp
      have r2 := st2.rep r1
      cases e3 : b1 t with
      | none => rw [e3] at h3; exact h3.elim
      | some r =>
        rw [e3] at h3
        obtain ⟨k1, k2⟩ := T1 t r e3
        have ty := tp_ok kk ok2 r2 e2 k2
        cases r with
        | true =>
          exact ⟨u, tpA, [v1, v2], _, [u1, u2], true, rfl, upd_same, .cons hc1 (.cons hc2 .nil), ty, kitAny_cons k1 (fun z => nomatch z) (fun _ => rfl), h3 _ _ st2 ok2 rfl⟩
        | false =>
          simp only at h3
          cases e4 : b2 t with
          | none => rw [e4] at h3; exact h3.elim
          | some r =>
            rw [e4] at h3
            obtain ⟨k3, k4⟩ := T2 t r e4
            exact ⟨u, tpA, [v1, v2], _, [u1, u2], r, rfl, upd_same, .cons hc1 (.cons hc2 .nil), ty, kitAny_cons k1 (fun _ => kitAny_cons k3 (fun z => by rw [z]; exact kitAny_nil) (fun z => z)) (fun z => nomatch z), h3 _ _ st2 ok2 rfl⟩
end
end L3

namespace L3
open PySem PySem.Spec PyProof.Rows L2
/-! ## calls: classes, methods, properties, classmethods -/
/-- C(e, ..) by __init__'s promise -/
theorem makeG {CX : CXT} {k : Nat} {f C : Addr} {fd : FuncData} {ps : List Str} {sp : Sp} {dvs : List V} {ds : List Value} {E : XK} {X : Cx} {pins : List (Addr × Obj)} {σ : St} {H : Hp} {s : Shared} {Q : VK} {us : List Value} {vs : List V} (M : Mk X.K C f)
    (F : FnG X.prog X.w X.K X.mg X.base CX k f fd ps sp) (hr : Room (k + 1) X.A) (hb : Binds X.K fd ps ds) (hd : Vals dvs ds) (hx : Passes CX X E) (I : Inv X pins σ H s) (r : Vals vs us)
    (h : ∀ x dx, H x = none → H dx = none → dx ≠ x → sp (.ref x :: (vs ++ dvs)) (upd (upd H dx (.own x)) x (.ins C dx [])) (fun v H2 => v = .non ∧ Q (.ref x) H2) E) :
    wpAny (model X.prog X.w) X.A (call (.ref C) us) (EP X pins σ Q) X.xe s := by
  let n := s.heap.objs.size
  have q1 := h (n + 1) n (I.hok.fresh (Nat.le_succ _)) (I.hok.fresh (Nat.le_refl _)) (Nat.ne_of_lt (Nat.lt_succ_self _))
  have J := Inv.made (C := C) I
  have rr : Vals (V.ref (n + 1) :: (vs ++ dvs)) (Value.ref (n + 1) :: (us ++ ds)) := .cons rfl (r.append hd)
  have hl : (Value.ref (n + 1) :: us ++ ds).length = ps.length := rr.length.symm.trans (F.len _ _ _ _ q1)
  refine wpAny_call (make_map (f := f) I.kIn M.makes M.init (beq_iff_eq.mp M.fn) (codeAny_mono (F.run _ X.stack _ _ ⟨Value.ref (n + 1) :: us, []⟩ _ _ _ E (hr.make C us []) (J.env0.make C us []) (hb _ (Value.ref (n + 1) :: us) J.kIn hl) rr q1) fun r s' z => ?_))
  match r, z with
  | .error e, z => exact hx pins σ _ _ e s' J z
  | .ok (.ret u), z =>
    obtain ⟨v, H', I3, rv, rfl, q3⟩ := J.after z
    exact ⟨rv, ⟨V.ref (n + 1), H', I3, rfl, q3⟩⟩
  | .ok .next, z => exact False.elim z
  | .ok .brk, z => exact False.elim z
  | .ok .cont, z => exact False.elim z
/-- o.f, a property, by the getter's promise -/
theorem propG {CX : CXT} {k : Nat} {f : Str} {C p gA a dx : Addr} {fs : List (Str × V)} {fd : FuncData} {ps : List Str} {sp : Sp} {dvs : List V} {ds : List Value} {E : XK} {X : Cx} {pins : List (Addr × Obj)} {σ : St} {H : Hp} {s : Shared} {Q : VK} {b : Bool} {E' : Value → Shared → Prop}
    (I : Inv X pins σ H s) (ea : H a = some (.ins C dx fs)) (c : Cls X.K C) (hp : PropOf X.K C f p gA) (F : FnG X.prog X.w X.K X.mg X.base CX k gA fd ps sp) (hr : Room (k + 1) X.A) (hb : Binds X.K fd ps ds) (hd : Vals dvs ds)
    (hx : ∀ (s : Shared) (e : Value) (s' : Shared), Inv X pins σ H s → CX X.stack H s E e s' → False) (h : sp (.ref a :: dvs) H Q E) : wpAny (model X.prog X.w) X.A (getAttr (.ref a) f b) (EP X pins σ Q) E' s := by
  obtain ⟨rest, hrec⟩ := hp.rec_
  obtain ⟨mA, O, _⟩ := ins_get I.hok ea
  obtain ⟨od, J, _⟩ := O.look
  have I1 := I.tok (s.toks + 1)
  have hl : ([Value.ref a] ++ ds).length = ps.length := (congrArg (· + 1) hd.length).symm.trans (F.len _ _ _ _ h)
  have hc : (PySem.W.clsIn X.K C).isSome = true := by
    obtain ⟨cd, e, _⟩ := PySem.W.any_some c.hd
    rw [e]; rfl
  have g1 := PySem.W.plainGet_of (c.get f)
  refine PySem.W.get_bind I.kIn J g1.1 (PySem.W.findObj_data hc hp.at_ hp.get hp.tak) g1.2 (wpAny_call (PySem.W.prop_get (s := { s with toks := s.toks + 1 }) I.kIn hrec ?_))
  refine codeAny_mono (F.run X.A.in1 X.stack _ H ⟨[.ref a], []⟩ (.ref a :: ds) (.ref a :: dvs) Q E hr.in1 I1.env0.in1 (hb _ [.ref a] I1.kIn hl) (.cons rfl hd) h) fun r s' z => ?_
  match r, z with
  | .error er, z => exact (hx _ er s' I1 z).elim
  | .ok (.ret u), z =>
    obtain ⟨v, H', I3, rv, q3⟩ := I1.after z
    show wpAny _ _ (handedOut u) _ _ _
    rw [PySem.W.handedOut_of (handed_of rv)]
    exact wpAny_pure ⟨v, H', I3, rv, q3⟩
  | .ok .next, z => exact False.elim z
  | .ok .brk, z => exact False.elim z
  | .ok .cont, z => exact False.elim z
/-- how many arguments -/
def Ln (d : DA) (n : Nat) : Prop := ∀ s vs s', d s = .ok vs s' → vs.length = n
theorem Ln.nil : Ln dNil 0 := fun s vs s' h => by cases h; rfl
theorem Ln.cons {a : DE} {r : DA} {n : Nat} (h : Ln r n) : Ln (dCons a r) (n + 1) := fun s vs s' e => by
  simp only [dCons] at e
  cases e1 : a s with
  | bad => rw [e1] at e; cases e
  | exn x t => rw [e1] at e; cases e
  | ok v t =>
    rw [e1] at e
    have e : (r t).bind (fun xs s2 => R.ok (v :: xs) s2) = .ok vs s' := e
    cases e2 : r t with
    | bad => rw [e2] at e; cases e
    | exn x t => rw [e2] at e; cases e
    | ok us t2 =>
      rw [e2] at e
      cases e
      rw [List.length_cons, h _ _ _ e2]
@[simp] def fnS (F : DF) : List PV → S → R S PV := fun ps s => match F ps s.mu with
  | .ok v mu => .ok v ⟨s.env, mu⟩
  | .exn e mu => .exn e ⟨s.env, mu⟩
  | .bad => .bad
/-- a callee's exceptions are not looked at -/
@[simp] def fnQ (F : DF) : List PV → S → R S PV := fun ps s => match F ps s.mu with
  | .ok v mu => .ok v ⟨s.env, mu⟩
  | _ => .bad
theorem quiet_asks {K : PySem.W.Frag} {g : Gx} {l : Lc} {s : S} {σ : St} {ps : List PV} {us : List V} {Q : VK} {F : DF} {n : Nat} (ok : Sok K g l s σ) (r : RepGL K g l ps us) (hn : ps.length = n) (run : Run K g (fnQ F ps s) l σ Q) :
    spJ K g.CR n F us l.H Q (fun _ _ _ => False) := by
  have q : Run K ⟨g.CR, g.N, W0⟩ (match F ps s.mu with | .ok v mu => .ok v ⟨s.env, mu⟩ | .exn e mu => .exn e ⟨s.env, mu⟩ | .bad => .bad) l σ Q := by
    simp only [fnQ] at run
    cases e : F ps s.mu with
    | bad => rw [e] at run; exact run
    | exn x t => rw [e] at run; exact run.elim
    | ok v t =>
      rw [e] at run
      exact fun l' u a ok' rp => run l' u a (ok'.frame rfl rfl) rp
  exact call_asks (g := ⟨g.CR, g.N, W0⟩) (ok.frame rfl rfl) r hn q
/-- a new ratio -/
def FInit (CR : Addr) (okb : Int → Int → Bool) : DF := fun ps mu => match ps with
  | [.ptr n, .int t, .int b] => (match mu[n]? with
    | some (.ins C ns xs) => if C = CR ∧ ns = [] ∧ b ≠ 0 ∧ okb t b = true then .ok .non (mu.set n (.ins CR [sTop, sBot] [.int (Rat.divInt t b).num, .int (Rat.divInt t b).den])) else .bad
    | _ => .bad)
  | _ => .bad
@[simp] def fMakeR (okb : Int → Int → Bool) : List PV → S → R S PV := fun ps s => match ps with
  | [.int t, .int b] => if b ≠ 0 ∧ okb t b = true then .ok (.rat (Rat.divInt t b)) s else .bad
  | [.int t] => if okb t 1 = true then .ok (.rat (Rat.divInt t 1)) s else .bad
  | _ => .bad
section
variable {X : Cx} {g : Gx} {a b c e tg iter elt o : Expr} {es ifs : List Expr} {da db dc de dob : DE} {dr : DA} {dl : DL} {pos : Pos} {k : Nat} {f C : Addr} {fd : FuncData} {ps : List Str} {F : DF} {x m : Str} {p apos : Pos}
/-- what a new ratio's __init__ is asked -/
theorem make_asks {okb : Int → Int → Bool} {l : Lc} {s : S} {σ : St} {t b : Int} {Q : VK} {E : XK} (ok : Sok X.K g l s σ) (run : Run X.K g (.ok (.rat (Rat.divInt t b)) s) l σ Q) (hb : b ≠ 0) (ho : okb t b = true) (x dx : Addr) (hx : l.H x = none) (hd : l.H dx = none) (hn : dx ≠ x) :
    spJ X.K g.CR 3 (FInit g.CR okb) [.ref x, .int t, .int b] (upd (upd l.H dx (.own x)) x (.ins g.CR dx [])) (fun v H2 => v = .non ∧ Q (.ref x) H2) E := by
  have kept : ∀ a o, l.H a = some o → upd (upd l.H dx (.own x)) x (.ins g.CR dx []) a = some o := fun a o h => by
    rw [upd_ne (ne_of_none h hx), upd_ne (ne_of_none h hd)]; exact h
  refine ⟨fun a => a ≠ x ∧ upd (upd l.H dx (.own x)) x (.ins g.CR dx []) a ≠ none, ⟨[x], fun a => a = x, upd (upd l.H dx (.own x)) x (.ins g.CR dx [])⟩, [.ptr 0, .int t, .int b], [.ins g.CR [] []], rfl, ⟨fun a => by simp, ?_⟩, ?_, rfl, ?_⟩
  · refine ⟨rfl, fun i v e => by simp at e, fun i v e => by simp at e, fun i j xs ys a _ e => by simp at e, rfl, fun n a m h1 h2 => ?_, by simp, fun a h => by simpa using h, fun a h => ?_, fun a h z => z.1 h⟩
    · cases n with
      | zero =>
        cases h1
        cases h2
        exact ⟨dx, [], upd_same, rfl, rfl⟩
      | succ n => simp at h1
    · rcases h with h | h
      · rw [h]
        show upd _ x _ x ≠ none
        rw [upd_same]; simp
      · exact h.2
  · exact ⟨.ref x, _, rfl, ⟨x, rfl, rfl⟩, .int t, _, rfl, rfl, .int b, _, rfl, rfl, rfl⟩
  · show (match FInit g.CR okb [.ptr 0, .int t, .int b] [.ins g.CR [] []] with | .ok v mu' => _ | .exn e mu' => _ | .bad => _)
    have e0 : FInit g.CR okb [.ptr 0, .int t, .int b] [.ins g.CR [] []] = .ok .non [.ins g.CR [sTop, sBot] [.int (Rat.divInt t b).num, .int (Rat.divInt t b).den]] := by
      unfold FInit
      simp [hb, ho]
    rw [e0]
    intro lc u st fo rv
    refine ⟨rv, ?_⟩
    obtain ⟨dx', vs, h1, h2, h3⟩ : MoRep X.K _ lc x (.ins g.CR [sTop, sBot] [.int (Rat.divInt t b).num, .int (Rat.divInt t b).den]) := fo.ok.mu 0 x _ (st.al 0 x rfl) rfl
    have hall : ∀ a o, l.H a = some o → lc.H a = some o := fun a o h => st.keep a o (ne_of_none h hx) (kept a o h)
    have ok' : Sok X.K g ⟨l.al, l.M, lc.H⟩ s σ := ok.grow rfl rfl hall
    have st' : Step l ⟨l.al, l.M, lc.H⟩ := ⟨⟨[], by simp⟩, fun _ h => .inl h, fun a o _ h => hall a o h, fun a h => by
      cases q : l.H a with
      | none => exact absurd q h
      | some o => show lc.H a ≠ none; rw [hall a o q]; simp⟩
    refine run ⟨l.al, l.M, lc.H⟩ _ st' ok' ⟨x, dx', rfl, ok.fresh hx, ?_⟩
    show lc.H x = _
    rw [h1]
    obtain ⟨v1, r1, rfl, e1, v2, r2, rfl, e2, e3⟩ := h3
    cases (show r2 = [] from e3)
    rw [show v1 = .int _ from e1, show v2 = .int _ from e2] <;> rfl
/-- Ratio(t), Ratio(t, b) -/
theorem c_makeR {okb : Int → Int → Bool} {one : Value} (M : Mk X.K g.CR f) (G : FJ X.prog X.w X.K X.mg X.base g.CR k f fd ["self", "top", "bottom"] (FInit g.CR okb)) (hr : Room (k + 1) X.A) (hb : Binds X.K fd ["self", "top", "bottom"] []) (hb1 : Binds X.K fd ["self", "top", "bottom"] [one]) (h1 : RelV (.int 1) one) :
    CJ X g (fun us => call (.ref g.CR) us) (fMakeR okb) := by
  intro pins s σ xs vs Q l st ps I rv ok rp run
  have hx : Passes (L2.CX X.prog X.w) X (fun _ _ _ => False) := fun pins σ H s e s' I c => by
    obtain ⟨_, _, _, _, _, _, _, _, _, _, _, _, z⟩ := c
    exact z.elim
  simp only [fMakeR] at run
  split at run
  · rename_i t b
    obtain ⟨v1, r, rfl, q1, v2, r2, rfl, q2, q3⟩ := rp
    cases (show r2 = [] from q3)
    split at run
    · rename_i z
      refine makeG M G hr hb .nil hx I rv fun y dx hy hd hn => ?_
      rw [show v1 = .int t from q1, show v2 = .int b from q2]
      exact make_asks ok run z.1 z.2 y dx hy hd hn
    · exact run.elim
  · rename_i t
    obtain ⟨v1, r, rfl, q1, q3⟩ := rp
    cases (show r = [] from q3)
    split at run
    · rename_i z
      refine makeG M G hr hb1 (.cons h1 .nil) hx I rv fun y dx hy hd hn => ?_
      rw [show v1 = .int t from q1]
      exact make_asks ok run (by decide) z y dx hy hd hn
    · exact run.elim
  · exact run.elim
/-- f(e, ..), f a value that is known -/
theorem j_callG {u : Value} {fn : List PV → S → R S PV} (hc : CJ X g (fun us => call u us) fn) (hg : Gl X x) (hm : X.mg x = some u) (hk : PySem.W.keepIn X.K u = true) (ha : JA X g (e :: es) dr)
    (hdb : (x == ("__debug__" : Str)) = false := by decide) (he : starEach (e :: es) X.env = (false, eval e X.env) :: starEach es X.env := by rfl) (hpl : (backTo pos (starEach es X.env)).any (·.1) = false := by rfl) :
    JE X g (.Call (.Name x p) (e :: es) [] pos) (dFn fn dr) := by
  refine ⟨fun pins s σ H Q I h => ?_⟩
  obtain ⟨l, st, rfl, ok, h⟩ := h
  refine wpAny_Call_Name_kw (ld_glob I hg hm ?_ hdb)
  refine PySem.W.callWith_K (h₀ := X.base) I.ok.mod.kin hk (thn (ha.run pos pins s σ _ _ I ⟨l, st, rfl, ok, RunA.bind h⟩) fun us s1 ⟨vs, H1, I1, r, l1, s1', ps, e1, ok1, rp, st1, h1⟩ => ⟨I1.kIn, ?_⟩) he hpl
  subst e1
  exact hc pins s1 σ vs us Q l1 s1' ps I1 r ok1 rp h1
/-- a def of the text by its value -/
def KJ (X : Cx) (g : Gx) (f : Addr) (fn : List PV → S → R S PV) : Prop :=
  ∀ (pins : List (Addr × Obj)) (s : Shared) (σ : St) (xs : List V) (vs : List Value) (Q : VK) (l : Lc) (st : S) (ps : List PV), Inv X pins σ l.H s → Vals xs vs → Sok X.K g l st σ → RepGL X.K g l ps xs →
    Run X.K g (fn ps st) l σ Q → codeAny (model X.prog X.w) X.A (.call (.ref f) ⟨vs, []⟩) (fun r s' => match r with | .ok (.ret v) => EP X pins σ Q v s' | .ok _ => False | .error e => X.xe e s') s
theorem KJ.cj {fn : List PV → S → R S PV} (h : KJ X g f fn) : CJ X g (fun us => call (.ref f) us) fn := fun pins s σ xs vs Q l st ps I rv ok rp run => wpAny_call (h pins s σ xs vs Q l st ps I rv ok rp run)
/-- the same, deeper in -/
def KA (X : Cx) (g : Gx) (k : Nat) (f : Addr) (fn : List PV → S → R S PV) : Prop :=
  ∀ (A : Around), Sub X k A → ∀ (pins : List (Addr × Obj)) (s : Shared) (σ : St) (xs : List V) (vs : List Value) (Q : VK) (l : Lc) (st : S) (ps : List PV), Inv X pins σ l.H s → Vals xs vs → Sok X.K g l st σ → RepGL X.K g l ps xs →
    Run X.K g (fn ps st) l σ Q → codeAny (model X.prog X.w) A (.call (.ref f) ⟨vs, []⟩) (fun r s' => match r with | .ok (.ret v) => EP X pins σ Q v s' | .ok _ => False | .error e => X.xe e s') s
theorem KA.kj {fn : List PV → S → R S PV} (h : KA X g k f fn) (hr : Room k X.A) : KJ X g f fn := h X.A ⟨hr, rfl⟩
/-- the arguments given, then defaults -/
theorem ka_fnD {dvs : List V} {ds : List Value} {dps : List PV} {n : Nat} (G : FJ X.prog X.w X.K X.mg X.base g.CR k f fd ps F) (hb : Binds X.K fd ps ds) (hd : Vals dvs ds) (rd : ∀ l, RepGL X.K g l dps dvs) (hn : n + dps.length = ps.length) (tk : Takes X g.W) : KA X g k f (fun qs s => if qs.length = n then fnS F (qs ++ dps) s else .bad) := by
  intro A sb pins s σ xs vs Q l st qs I rv ok rp run
  by_cases z : qs.length = n
  · have run : Run X.K g (if qs.length = n then fnS F (qs ++ dps) st else .bad) l σ Q := run
    rw [if_pos z] at run
    have h := call_asks (F := F) (n := ps.length) ok (RepL.append rp (rd l)) (by rw [List.length_append, z, hn]) run
    have r2 : Vals (xs ++ dvs) (vs ++ ds) := rv.append hd
    have hl : (vs ++ ds).length = ps.length := by rw [← r2.length]; exact G.len _ _ _ _ h
    have e0 : Env0 X.prog X.w X.K X.mg X.base A X.stack s l.H := by
      have e := I.env0
      exact ⟨by rw [sb.fr]; exact e.frames, e.mod, e.bs, e.bsz, e.funs, e.frf, e.hok, e.bare⟩
    refine codeAny_mono (G.run A X.stack s l.H ⟨vs, []⟩ (vs ++ ds) (xs ++ dvs) Q (fun c dd H => g.W c dd σ H) sb.room e0 (hb s vs I.kIn hl) r2 h) fun r s' hq => ?_
    cases r with
    | error e => exact passAt tk σ pins l.H s e s' I hq
    | ok fl =>
      cases fl with
      | ret u => exact I.after hq
      | next => exact False.elim hq
      | brk => exact False.elim hq
      | cont => exact False.elim hq
  · have run : Run X.K g (if qs.length = n then fnS F (qs ++ dps) st else .bad) l σ Q := run
    rw [if_neg z] at run
    exact run.elim
theorem ka_fn (n : Nat) (G : FJ X.prog X.w X.K X.mg X.base g.CR k f fd ps F) (hb : Binds X.K fd ps []) (tk : Takes X g.W) (hn : n = ps.length := by rfl) : KA X g k f (fun qs s => if qs.length = n then fnS F qs s else .bad) := by
  have h := ka_fnD (dps := []) (n := n) (g := g) G hb .nil (fun l => rfl) hn tk
  intro A sb pins s σ xs vs Q l st qs I rv ok rp run
  exact h A sb pins s σ xs vs Q l st qs I rv ok rp (by
    show Run X.K g (if qs.length = n then fnS F (qs ++ []) st else .bad) l σ Q
    rw [List.append_nil]
    exact run)
theorem k_fn (n : Nat) (G : FJ X.prog X.w X.K X.mg X.base g.CR k f fd ps F) (hr : Room k X.A) (hb : Binds X.K fd ps []) (tk : Takes X g.W) (hn : n = ps.length := by rfl) : KJ X g f (fun qs s => if qs.length = n then fnS F qs s else .bad) := (ka_fn n G hb tk hn).kj hr
/-- f(e, ..) of a def of the text, every parameter given -/
theorem j_call (G : FJ X.prog X.w X.K X.mg X.base g.CR k f fd ps F) (hr : Room k X.A) (hm : X.mg x = some (.ref f)) (hk : PySem.W.keepIn X.K (.ref f) = true) (hb : Binds X.K fd ps []) (tk : Takes X g.W) (ha : JA X g (e :: es) dr) (hg : Gl X x := by rfl)
    (hn : ∀ s vs s', dr s = .ok vs s' → vs.length = ps.length) (hdb : (x == ("__debug__" : Str)) = false := by decide) (he : starEach (e :: es) X.env = (false, eval e X.env) :: starEach es X.env := by rfl) (hpl : (backTo pos (starEach es X.env)).any (·.1) = false := by rfl) :
    JE X g (.Call (.Name x p) (e :: es) [] pos) (dFnS F dr) :=
  PE.cq (j_callG (k_fn ps.length G hr hb tk).cj hg hm hk ha hdb he hpl) fun pins s σ H Q I q => by
    obtain ⟨l, s, rfl, ok, q⟩ := q
    refine ⟨l, s, rfl, ok, ?_⟩
    have q : Run X.K g ((dr s).bind fun ps s1 => fnS F ps s1) l σ Q := q
    show Run X.K g ((dr s).bind fun qs s => if qs.length = ps.length then fnS F qs s else .bad) l σ Q
    cases e1 : dr s with
    | bad => rw [e1] at q; exact q
    | exn e t => rw [e1] at q; exact q
    | ok vs t =>
      rw [e1] at q
      show Run X.K g (if vs.length = ps.length then fnS F vs t else .bad) l σ Q
      rw [if_pos (hn s vs t e1)]
      exact q
/-- e.f, a property of a ratio -/
@[simp] def fRat (fn : List PV → S → R S PV) : PV → S → R S PV := fun p s => match p with
  | .rat q => fn [.rat q] s
  | _ => .bad
theorem j_propR {fl : Str} {pA gA : Addr} (T : ClsR X.K g.CR) (hp : PropOf X.K g.CR fl pA gA) (G : FJ X.prog X.w X.K X.mg X.base g.CR k gA fd ["self"] F) (hr : Room (k + 1) X.A) (hb : Binds X.K fd ["self"] []) (he : JE X g e de) (hab : attributeBase e fl X.env (eval e X.env) = eval e X.env := by rfl) :
    JE X g (.Attribute e fl pos) (dUn (fRat (fnQ F)) de) :=
  ⟨fun pins s σ H Q I h => by
    obtain ⟨l, st, rfl, ok, h⟩ := h
    refine attr_of hab (thn (he.run pins s σ _ _ I ⟨l, st, rfl, ok, Run.bind h⟩) fun u s1 ⟨x, H1, I1, rx, l1, s1', v, e1, ok1, r1, st1, h1⟩ => ?_)
    subst e1
    cases v with
    | rat q =>
      obtain ⟨a, dx, rfl, n, hH⟩ := r1
      obtain rfl : u = Value.ref a := rx
      exact propG (E := fun _ _ _ => False) I1 hH T.cls hp G hr hb .nil (fun s e s' I c => by
        obtain ⟨_, _, _, _, _, _, _, _, _, _, _, _, z⟩ := c
        exact z.elim) (quiet_asks ok1 (ps := [.rat q]) ⟨.ref a, [], rfl, ⟨a, dx, rfl, n, hH⟩, rfl⟩ rfl h1)
    | _ => exact h1.elim⟩
/-- o.m(e, ..) of a ratio -/
@[simp] def dMethR (fn : List PV → S → R S PV) (d : DE) (dr : DA) : DE := fun s => (d s).bind fun p s1 => match p with
  | .rat q => (dr s1).bind fun ps s2 => fn (.rat q :: ps) s2
  | _ => .bad
theorem j_methR {pl : Sem Bool} (T : ClsR X.K g.CR) (hm : Meth X.K g.CR m f) (ht : m ≠ sTop) (hbo : m ≠ sBot) {fn : List PV → S → R S PV} (hc : KJ X g f fn) (ho : JE X g o dob) (ha : JA X g (e :: es) dr)
    (hst : starEach (e :: es) X.env = (false, eval e X.env) :: starEach es X.env := by rfl) (hpl : (backTo pos (starEach es X.env)).any (·.1) = false := by rfl)
    (htr : eval (.Call (.Attribute o m apos) (e :: es) [] pos) X.env = (do
      let ov ← eval o X.env
      standAt apos.atName
      let (f, first) ← holding [ov] (getMethod ov m pl)
      callWith pos f first (backTo pos (starEach (e :: es) X.env)) (backToKw pos (keywordEach [] X.env))) := by rfl) :
    JE X g (.Call (.Attribute o m apos) (e :: es) [] pos) (dMethR fn dob dr) := by
  refine ⟨fun pins s σ H Q I h => ?_⟩
  obtain ⟨l, st, rfl, ok, h⟩ := h
  refine PySem.W.methodCall_KW (pl := pl) (thn (ho.run pins s σ _ _ I ⟨l, st, rfl, ok, Run.bind h⟩) fun u s1 ⟨x, H1, I1, rx, l1, s1', v, e1, ok1, r1, st1, h1⟩ => ?_) htr
  subst e1
  cases v with
  | rat q =>
    obtain ⟨a, dx, rfl, n, hH⟩ := r1
    obtain rfl : u = Value.ref a := rx
    have l0 : List.lookup m [(("own_top" : Str), V.int q.num), ("own_bottom", .int q.den)] = none := by
      have b1 : (m == sTop) = false := beq_eq_false_iff_ne.mpr ht
      have b2 : (m == sBot) = false := beq_eq_false_iff_ne.mpr hbo
      simp only [List.lookup, b1, b2]
    refine getmeth_ok I1 hH T.cls hm l0 ?_
    refine PySem.W.callWith_K (first := [.ref a]) (h₀ := X.base) I.ok.mod.kin hm.kp (thn (ha.run pos pins s1 σ _ _ I1 ⟨l1, s1', rfl, ok1, RunA.bind h1⟩) fun us s2 ⟨vs, H2, I2, r, l2, s2', ps, e2, ok2, rp, st2, h2⟩ => ⟨I2.kIn, ?_⟩) hst hpl
    subst e2
    exact hc.cj pins s2 σ (.ref a :: vs) (.ref a :: us) Q l2 s2' (.rat q :: ps) I2 (.cons rfl r) ok2 ⟨.ref a, vs, rfl, st2.rep (x := .rat q) ⟨a, dx, rfl, n, hH⟩, rp⟩ h2
  | _ => exact h1.elim
theorem j_methR0 {pl : Sem Bool} (T : ClsR X.K g.CR) (hm : Meth X.K g.CR m f) (ht : m ≠ sTop) (hbo : m ≠ sBot) {fn : List PV → S → R S PV} (hc : KJ X g f fn) (ho : JE X g o dob)
    (htr : eval (.Call (.Attribute o m apos) [] [] pos) X.env = (do
      let ov ← eval o X.env
      standAt apos.atName
      let (f, first) ← holding [ov] (getMethod ov m pl)
      callWith pos f first (backTo pos (starEach [] X.env)) (backToKw pos (keywordEach [] X.env))) := by rfl) :
    JE X g (.Call (.Attribute o m apos) [] [] pos) (dMethR fn dob dNil) := by
  refine ⟨fun pins s σ H Q I h => ?_⟩
  obtain ⟨l, st, rfl, ok, h⟩ := h
  refine PySem.W.methodCall_KW (pl := pl) (thn (ho.run pins s σ _ _ I ⟨l, st, rfl, ok, Run.bind h⟩) fun u s1 ⟨x, H1, I1, rx, l1, s1', v, e1, ok1, r1, st1, h1⟩ => ?_) htr
  subst e1
  cases v with
  | rat q =>
    obtain ⟨a, dx, rfl, n, hH⟩ := r1
    obtain rfl : u = Value.ref a := rx
    have l0 : List.lookup m [(("own_top" : Str), V.int q.num), ("own_bottom", .int q.den)] = none := by
      have b1 : (m == sTop) = false := beq_eq_false_iff_ne.mpr ht
      have b2 : (m == sBot) = false := beq_eq_false_iff_ne.mpr hbo
      simp only [List.lookup, b1, b2]
    refine getmeth_ok I1 hH T.cls hm l0 ?_
    exact PySem.W.callWith_K0 (first := [.ref a]) I1.kIn hm.kp (hc.cj pins s1 σ [.ref a] [.ref a] Q l1 s1' [.rat q] I1 (.cons rfl .nil) ok1 ⟨.ref a, [], rfl, ⟨a, dx, rfl, n, hH⟩, rfl⟩ h1)
  | _ => exact h1.elim
/-- C.m(e, ..), a classmethod off the class -/
theorem j_cmeth {pl : Sem Bool} {mc : Value} {pA gA : Addr} {fn : List PV → S → R S PV} (r : ClX.CRead X.K C mc) (cm : ClX.CMet X.K C mc m pA gA) (hc : KJ X g gA fn) (hg : Gl X x) (hm : X.mg x = some (.ref C)) (ha : JA X g (e :: es) dr) (hdb : (x == ("__debug__" : Str)) = false := by decide)
    (hst : starEach (e :: es) X.env = (false, eval e X.env) :: starEach es X.env := by rfl) (hpl : (backTo pos (starEach es X.env)).any (·.1) = false := by rfl)
    (htr : eval (.Call (.Attribute (.Name x p) m apos) (e :: es) [] pos) X.env = (do
      let ov ← eval (.Name x p) X.env
      standAt apos.atName
      let (f, first) ← holding [ov] (getMethod ov m pl)
      callWith pos f first (backTo pos (starEach (e :: es) X.env)) (backToKw pos (keywordEach [] X.env))) := by rfl) :
    JE X g (.Call (.Attribute (.Name x p) m apos) (e :: es) [] pos) (dFn (fun ps s => fn (.adr C :: ps) s) dr) := by
  refine ⟨fun pins s σ H Q I h => ?_⟩
  obtain ⟨l, st, rfl, ok, h⟩ := h
  refine PySem.W.methodCall_KW (pl := pl) (ld_glob I hg hm ?_ hdb) htr
  refine ClX.getmethcm_ok I r cm fun s2 I2 => ?_
  refine ClX.callwith_cm I2 (ClX.base_none I (Nat.le_refl _)) cm.fi (thn (ha.run pos _ s2 σ _ _ I2 ⟨l, st, rfl, ok, RunA.bind h⟩) fun us s3 ⟨vs, H2, I3, rv, l2, s2', ps, e2, ok2, rp, st2, h2⟩ => ⟨⟨ClX.pin_at I3, I3.kIn⟩, ?_⟩) hst hpl
  subst e2
  have z := hc _ s3 σ (.ref C :: vs) (.ref C :: us) Q l2 s2' (.adr C :: ps) I3 (.cons rfl rv) ok2 ⟨.ref C, vs, rfl, rfl, rp⟩ h2
  exact thn (wpAny_call (PySem.W.method_call (ClX.pin_at I3) z)) fun _ _ y => ClX.unpinE y
/-- C.m(e, ..), a staticmethod off the class -/
theorem j_smeth {pl : Sem Bool} {mc : Value} {pA gA : Addr} {rest : List Value} {fn : List PV → S → R S PV} (r : ClX.CRead X.K C mc) (h1 : PySem.W.findCls X.K (.ref C) mc m = some (.get (.builtin "staticmethod.__get__") (.ref pA) .none (.ref C))) (h2 : PySem.W.recIn X.K pA "staticmethod" = some (.ref gA :: rest)) (hk : PySem.W.keepIn X.K (.ref gA) = true)
    (hc : KJ X g gA fn) (hg : Gl X x) (hm : X.mg x = some (.ref C)) (ha : JA X g (e :: es) dr) (hdb : (x == ("__debug__" : Str)) = false := by decide)
    (hst : starEach (e :: es) X.env = (false, eval e X.env) :: starEach es X.env := by rfl) (hpl : (backTo pos (starEach es X.env)).any (·.1) = false := by rfl)
    (htr : eval (.Call (.Attribute (.Name x p) m apos) (e :: es) [] pos) X.env = (do
      let ov ← eval (.Name x p) X.env
      standAt apos.atName
      let (f, first) ← holding [ov] (getMethod ov m pl)
      callWith pos f first (backTo pos (starEach (e :: es) X.env)) (backToKw pos (keywordEach [] X.env))) := by rfl) :
    JE X g (.Call (.Attribute (.Name x p) m apos) (e :: es) [] pos) (dFn fn dr) := by
  refine ⟨fun pins s σ H Q I h => ?_⟩
  obtain ⟨l, st, rfl, ok, h⟩ := h
  refine PySem.W.methodCall_KW (pl := pl) (ld_glob I hg hm ?_ hdb) htr
  refine PySem.W.method_cls I.kIn r.ga (PySem.W.cls_bind I.kIn r.rd h1 ?_)
  refine wpAny_call (PySem.W.sm_get (s := { s with toks := s.toks + 1 }) I.kIn h2 (PySem.W.handed_on rfl ?_))
  have I2 : Inv X pins σ l.H { s with toks := s.toks + 1 } := I.tok _
  refine PySem.W.callWith_K (first := []) (h₀ := X.base) I.ok.mod.kin hk (thn (ha.run pos pins _ σ _ _ I2 ⟨l, st, rfl, ok, RunA.bind h⟩) fun us s2 ⟨vs, H2, I3, r3, l2, s2', ps, e2, ok2, rp, st2, h3⟩ => ⟨I3.kIn, ?_⟩) hst hpl
  subst e2
  exact hc.cj pins s2 σ vs us Q l2 s2' ps I3 r3 ok2 rp h3
end
end L3

namespace L3
open PySem PySem.Spec PyProof.Rows L2
/-! ## the operators of Ratio -/
abbrev Decl (B : Builtin) : Prop := ∀ (i : Int) (t : Tok) (l : Addr) (c : Value) (d : Option Addr) (sl : Array (Option Value)), Meets (B ⟨[.int i t, .ref l], []⟩) (fun _ R s => s.heap.get? l = some { cls := c, dict := d, data := .plain, slots := sl } ∧ R (.ok (.ret .notImplemented)) s)
theorem decl_add : Decl Builtin.«int.__add__» := fun i t l c d sl => .of_wp fun prog w A R s h => by obtain ⟨hp, g, d, tk, os⟩ := s; obtain ⟨hl, h⟩ := h; wp_walk using wpAny_loadPart' hl, wpAny_load hl; exact ⟨_, rfl, h⟩
theorem decl_sub : Decl Builtin.«int.__sub__» := fun i t l c d sl => .of_wp fun prog w A R s h => by obtain ⟨hp, g, d, tk, os⟩ := s; obtain ⟨hl, h⟩ := h; wp_walk using wpAny_loadPart' hl, wpAny_load hl; exact ⟨_, rfl, h⟩
theorem decl_mul : Decl Builtin.«int.__mul__» := fun i t l c d sl => .of_wp fun prog w A R s h => by obtain ⟨hp, g, d, tk, os⟩ := s; obtain ⟨hl, h⟩ := h; wp_walk using wpAny_loadPart' hl, wpAny_load hl; exact ⟨_, rfl, h⟩
theorem decl_eq : Decl Builtin.«int.__eq__» := fun i t l c d sl => .of_wp fun prog w A R s h => by obtain ⟨hp, g, d, tk, os⟩ := s; obtain ⟨hl, h⟩ := h; wp_walk using wpAny_loadPart' hl, wpAny_load hl; exact ⟨_, rfl, h⟩
theorem decl_ne : Decl Builtin.«int.__ne__» := fun i t l c d sl => .of_wp fun prog w A R s h => by obtain ⟨hp, g, d, tk, os⟩ := s; obtain ⟨hl, h⟩ := h; wp_walk using wpAny_loadPart' hl, wpAny_load hl; exact ⟨_, rfl, h⟩
section
variable {prog : Program} {w : World} {A : Around} {E : Value → Shared → Prop} {s : Shared} {K : PySem.W.Frag} {x C f fl dx : Addr} {od : Option Obj} {i : Int} {t : Tok}
theorem bin_refl {op : Operator} {id : String} {B : Builtin} {Q : Value → Shared → Prop} (X : K.In s.heap) (I : PySem.W.InstAt s.heap x (PySem.W.instObj C dx) C od) (hc : PySem.W.selfFirst K C = true)
    (hl : PySem.W.findIn K (.ref C) (PySem.dunder op.info.2) = some (some (.ref fl))) (hs : PySem.W.findIn K (.ref C) (dunderR op.info.2) = some (some (.ref f))) (hf : PySem.W.isFn K (.ref f) = true) (hsub : PySem.W.subIn K (.ref C) (.type "int") = some false)
    (fills : fillsNumberSlot (.type "int") op.info.2 = pure true) (slot : Slot "int" (PySem.dunder op.info.2) id) (entry : entryFor table id = some B) (args : argsOk id ⟨[.int i t, .ref x], []⟩) (dc : Decl B)
    (h : wpAny (model prog w) A (call (.ref f) [.ref x, .int i t]) (PySem.W.CmpBack Q) E s) : wpAny (model prog w) A (binaryOp op (.int i t) (.ref x)) Q E s := by
  obtain ⟨cd, rest, hcd, hm⟩ := PySem.W.ksp_first hc
  rcases hi : op.info with ⟨sym, nm'⟩
  rw [hi] at hs hl fills slot
  dsimp only at hs hl fills slot
  have one : wpAny (model prog w) A (tryMethod (.ref x) (dunderR nm') (.int i t)) (fun r s' => ∃ v, r = some v ∧ Q v s') E s := PySem.W.ksp_try X I hs hf h
  have J := I.at_
  have hd : ∀ Q' : Option Value → Shared → Prop, Q' none s → wpAny (model prog w) A (tryMethod (.int i t) (PySem.dunder nm') (.ref x)) Q' E s := fun Q' q =>
    wpAny_tryMethod_declines (typeIs_int s i t) slot (call_meets slot (typeIs_int s i t) entry args (dc i t x _ _ _) ⟨J, rfl, q⟩)
  have L3 : PySem.W.Looks (model prog w) s.heap (fillsNumberSlot (.ref C) nm') true := PySem.W.fills_K X hcd hm hl
  have L5 : PySem.W.Looks (model prog w) s.heap (isSubtype (.ref C) (.type "int")) false := PySem.W.looks_subIn X hsub
  have hne : (Value.type "int" == Value.ref C) = false := Bool.eq_false_iff.mpr fun q => by cases beq_iff_eq.mp q
  simp only [binaryOp, hi]
  refine wpAny_holding (wpAny_bind ?_)
  unfold binaryOp1
  refine wpAny_bind (wpAny_typeOf (typeIs_int s i t) (wpAny_bind (I.type.here (wpAny_bind (wpAny_of_eq fills ?_)))))
  simp only [hne, Bool.false_eq_true, if_false]
  refine wpAny_bind (L3.here ?_)
  simp only [Bool.and_self, if_true]
  refine wpAny_bind (L5.here ?_)
  have hpy : numberSlotInPython (.type "int") nm' = pure false := rfl
  simp only [Bool.false_eq_true, if_false, pure_bind, Bool.not_false, Bool.and_self, if_true, hpy]
  refine wpAny_bind (hd _ ?_)
  refine wpAny_bind (wpAny_mono one (fun r s' hr => ?_) fun _ _ e => e)
  obtain ⟨v, rfl, hq⟩ := hr
  exact wpAny_bind (wpAny_rule (wpAny_pure (wpAny_pure hq)))
end
end L3

namespace L3
open PySem PySem.Spec PyProof.Rows L2
structure BinF (K : PySem.W.Frag) (C f : Addr) (nm : String) : Prop where
  first : PySem.W.selfFirst K C = true
  at_ : PySem.W.findIn K (.ref C) (PySem.dunder nm) = some (some (.ref f))
  fn : PySem.W.isFn K (.ref f) = true
  rf : PySem.W.findIn K (.ref C) (dunderR nm) = some none ∨ ∃ g : Addr, PySem.W.findIn K (.ref C) (dunderR nm) = some (some (.ref g))
  i1 : ∃ fo, PySem.W.findIn K (.type "int") (PySem.dunder nm) = some fo
  i2 : ∃ ro, PySem.W.findIn K (.type "int") (dunderR nm) = some ro
  sub : PySem.W.subIn K (.type "int") (.ref C) = some false
structure ReflF (K : PySem.W.Frag) (C f : Addr) (nm : String) : Prop where
  first : PySem.W.selfFirst K C = true
  own : ∃ fl : Addr, PySem.W.findIn K (.ref C) (PySem.dunder nm) = some (some (.ref fl))
  at_ : PySem.W.findIn K (.ref C) (dunderR nm) = some (some (.ref f))
  fn : PySem.W.isFn K (.ref f) = true
  sub : PySem.W.subIn K (.ref C) (.type "int") = some false
structure UnF (K : PySem.W.Frag) (C f : Addr) (name : Str) : Prop where
  at_ : PySem.W.findIn K (.ref C) name = some (some (.ref f))
  fn : PySem.W.isFn K (.ref f) = true
@[simp] def fRL (fn : List PV → S → R S PV) : PV → PV → S → R S PV := fun p q s => match p, q with
  | .rat a, .rat b => fn [.rat a, .rat b] s
  | .rat a, .int b => fn [.rat a, .int b] s
  | _, _ => .bad
@[simp] def fRR (fn : List PV → S → R S PV) : PV → PV → S → R S PV := fun p q s => match p, q with
  | .int a, .rat b => fn [.rat b, .int a] s
  | _, _ => .bad
theorem back_of {X : Cx} {pins : List (Addr × Obj)} {σ : St} {Q : VK} {v : Value} {s : Shared} (h : EP X pins σ Q v s) : PySem.W.CmpBack (EP X pins σ Q) v s := by
  cases v with
  | notImplemented =>
    obtain ⟨x, H, I, r, q⟩ := h
    cases x with
    | int i => obtain ⟨t, e⟩ := (show ∃ t, Value.notImplemented = Value.int i t from r); cases e
    | str i => obtain ⟨t, e⟩ := (show ∃ t, Value.notImplemented = Value.str i t from r); cases e
    | flt i => obtain ⟨t, e⟩ := (show ∃ t, Value.notImplemented = Value.float i t from r); cases e
    | byt i => obtain ⟨t, e⟩ := (show ∃ t, Value.notImplemented = Value.bytes i t from r); cases e
    | non => cases (show Value.notImplemented = Value.none from r)
    | bl b => cases (show Value.notImplemented = Value.bool b from r)
    | ref a => cases (show Value.notImplemented = Value.ref a from r)
    | ty a => cases (show Value.notImplemented = Value.type a from r)
  | _ => exact h
section
variable {X : Cx} {g : Gx} {f : Addr} {fn : List PV → S → R S PV} {op : Operator}
theorem o_ratL (B : BinF X.K g.CR f op.info.2) (hc : KJ X g f fn) : OJ X g (binaryOp op) (fRL fn) := by
  intro pins s σ x y v u Q l st p q I rx ry ok rp rq run
  cases p with
  | rat a =>
    obtain ⟨a1, dx, rfl, n, hH⟩ := id rp
    cases (show v = .ref a1 from rx)
    obtain ⟨mA, O, _⟩ := ins_get I.hok hH
    obtain ⟨od, J, _⟩ := O.look
    obtain ⟨m, hF⟩ := I.fr
    cases q with
    | rat b =>
      obtain ⟨b1, dy, rfl, n2, hH2⟩ := id rq
      cases (show u = .ref b1 from ry)
      obtain ⟨mB, O2, _⟩ := ins_get I.hok hH2
      obtain ⟨od2, J2, _⟩ := O2.look
      exact PySem.W.binop_K hF I.ok.mod.kin J J2.type B.first B.at_ B.fn (wpAny_mono (hc.cj pins s σ [.ref a1, .ref b1] [.ref a1, .ref b1] Q l st [.rat a, .rat b] I (.cons rfl (.cons rfl .nil)) ok ⟨_, _, rfl, rp, _, _, rfl, rq, rfl⟩ run) (fun _ _ z => back_of z) fun _ _ z => z)
    | int b =>
      cases (show y = .int b from rq)
      obtain ⟨t, rfl⟩ := (show ∃ t, u = Value.int b t from ry)
      obtain ⟨fo, h1⟩ := B.i1
      obtain ⟨ro, h2⟩ := B.i2
      have hh := wpAny_mono (hc.cj pins s σ [.ref a1, .int b] [.ref a1, .int b t] Q l st [.rat a, .int b] I (.cons rfl (.cons ⟨t, rfl⟩ .nil)) ok ⟨_, _, rfl, rp, _, _, rfl, rfl, rfl⟩ run) (fun _ _ z => back_of z) fun _ _ z => z
      rcases B.rf with h3 | ⟨g', h3⟩
      · exact PySem.W.ksp_binT hF I.ok.mod.kin J rfl B.first B.at_ B.fn h3 (.inl rfl) h1 h2 B.sub hh
      · exact PySem.W.ksp_binT hF I.ok.mod.kin J rfl B.first B.at_ B.fn h3 (.inr ⟨g', rfl⟩) h1 h2 B.sub hh
    | _ => exact run.elim
  | _ => exact run.elim
theorem o_ratR {bid : String} {B : Builtin} (F : ReflF X.K g.CR f op.info.2) (fills : fillsNumberSlot (.type "int") op.info.2 = pure true) (slot : Slot "int" (PySem.dunder op.info.2) bid) (entry : entryFor table bid = some B) (args : ∀ a b, argsOk bid ⟨[a, b], []⟩) (dc : Decl B) (hc : KJ X g f fn) : OJ X g (binaryOp op) (fRR fn) := by
  intro pins s σ x y v u Q l st p q I rx ry ok rp rq run
  cases p with
  | int a =>
    cases q with
    | rat b =>
      cases (show x = .int a from rp)
      obtain ⟨t, rfl⟩ := (show ∃ t, v = Value.int a t from rx)
      obtain ⟨b1, dy, rfl, n2, hH2⟩ := id rq
      cases (show u = .ref b1 from ry)
      obtain ⟨mB, O2, _⟩ := ins_get I.hok hH2
      obtain ⟨od2, J2, _⟩ := O2.look
      obtain ⟨fl, hl⟩ := F.own
      exact bin_refl I.kIn J2 F.first hl F.at_ F.fn F.sub fills slot entry (args _ _) dc (wpAny_mono (hc.cj pins s σ [.ref b1, .int a] [.ref b1, .int a t] Q l st [.rat b, .int a] I (.cons rfl (.cons ⟨t, rfl⟩ .nil)) ok ⟨_, _, rfl, rq, _, _, rfl, rfl, rfl⟩ run) (fun _ _ z => back_of z) fun _ _ z => z)
    | _ => exact run.elim
  | _ => exact run.elim
theorem o_addR (F : ReflF X.K g.CR f "add") (hc : KJ X g f fn) : OJ X g (binaryOp .Add) (fRR fn) := o_ratR (op := .Add) F PySem.F.fills_int_add PySem.F.slot_int_add PySem.F.entry_int_add PySem.F.args_int_add_2 decl_add hc
theorem o_subR (F : ReflF X.K g.CR f "sub") (hc : KJ X g f fn) : OJ X g (binaryOp .Sub) (fRR fn) := o_ratR (op := .Sub) F PySem.F.fills_int_sub PySem.F.slot_int_sub PySem.F.entry_int_sub PySem.F.args_int_sub_2 decl_sub hc
theorem o_mulR (F : ReflF X.K g.CR f "mul") (hc : KJ X g f fn) : OJ X g (binaryOp .Mult) (fRR fn) := o_ratR (op := .Mult) F PySem.F.fills_int_mul PySem.F.slot_int_mul PySem.F.entry_int_mul PySem.F.args_int_mul_2 decl_mul hc
/-- -x -/
theorem u_negR (B : UnF X.K g.CR f "__neg__") (hc : KJ X g f fn) : UJ X g (unaryOp .USub) (fRat fn) := by
  intro pins s σ x v Q l st p I rx ok rp run
  cases p with
  | rat a =>
    obtain ⟨a1, dx, rfl, n, hH⟩ := id rp
    cases (show v = .ref a1 from rx)
    obtain ⟨mA, O, _⟩ := ins_get I.hok hH
    obtain ⟨od, J, _⟩ := O.look
    obtain ⟨m, hF⟩ := I.fr
    exact PySem.W.ksp_neg hF I.ok.mod.kin J B.at_ B.fn (hc.cj pins s σ [.ref a1] [.ref a1] Q l st [.rat a] I (.cons rfl .nil) ok ⟨_, _, rfl, rp, rfl⟩ run)
  | _ => exact run.elim
@[simp] def fNegI : PV → S → R S PV := fun p s => match p with
  | .int i => .ok (.int (-i)) s
  | _ => .bad
theorem u_negI : UJ X g (unaryOp .USub) fNegI := UJ.of un_neg fun l st σ p x Q ok rp run => by
  cases p with
  | int i => exact ⟨i, rp, run l _ (Step.refl l) ok rfl⟩
  | _ => exact run.elim
theorem j_un {op : UnaryOp} {f : PV → S → R S PV} {a : Expr} {da : DE} {pos : Pos} (ho : UJ X g (unaryOp op) f) (ha : JE X g a da) : JE X g (.UnaryOp op a pos) (dUn f da) := by
  refine ⟨fun pins s σ H Q I h => ?_⟩
  obtain ⟨l, st, rfl, ok, h⟩ := h
  refine UnaryOp_ (thn (ha.run pins s σ _ _ I ⟨l, st, rfl, ok, Run.bind h⟩) fun v s1 ⟨x, H1, I1, r1, l1, s1', p, e1, ok1, rp, st1, h1⟩ => ?_)
  subst e1
  exact ho pins s1 σ x v Q l1 s1' p I1 r1 ok1 rp h1
/-- x == y, x a ratio; whatever y is -/
structure CmpF (K : PySem.W.Frag) (C f : Addr) (name : Str) : Prop where
  at_ : PySem.W.findIn K (.ref C) name = some (some (.ref f))
  fn : PySem.W.isFn K (.ref f) = true
  n0 : PySem.W.notFirst K C (.ref C) = true
  n1 : ∀ t : String, t = "int" ∨ t = "bool" ∨ t = "str" ∨ t = "NoneType" → PySem.W.notFirst K C (.type t) = true
@[simp] def fEqL (fn : List PV → S → R S PV) : PV → PV → S → R S PV := fun p q s => match p, q with
  | .rat a, .rat b => fn [.rat a, .rat b] s
  | .rat a, .int b => fn [.rat a, .int b] s
  | .rat a, .bl b => fn [.rat a, .bl b] s
  | .rat a, .str b => fn [.rat a, .str b] s
  | .rat a, .non => fn [.rat a, .non] s
  | _, _ => .bad
theorem o_eqL {op : CmpOp} (hop : compareOp op = richCompare op) (hu : X.A.units < cLine) (B : CmpF X.K g.CR f (cmpInfo op).2.1) (hc : KJ X g f fn) : OJ X g (compareOp op) (fEqL fn) := by
  intro pins s σ x y v u Q l st p q I rx ry ok rp rq run
  rw [hop]
  cases p with
  | rat a =>
    obtain ⟨a1, dx, rfl, n, hH⟩ := id rp
    cases (show v = .ref a1 from rx)
    obtain ⟨mA, O, _⟩ := ins_get I.hok hH
    obtain ⟨od, J, _⟩ := O.look
    obtain ⟨m, hF⟩ := I.fr
    have go : ∀ {tb : Value} {q' : PV}, PySem.W.Looks (model X.prog X.w) s.heap (typeOf u) tb → PySem.W.notFirst X.K g.CR tb = true → RepG X.K g l q' y → Run X.K g (fn [.rat a, q'] st) l σ Q → wpAny (model X.prog X.w) X.A (richCompare op (.ref a1) u) (EP X pins σ Q) X.xe s := fun hb hn rq' run' =>
      PySem.W.cmp_K hu hF I.ok.mod.kin J hb hn B.at_ B.fn (wpAny_mono (hc.cj pins s σ [.ref a1, y] [.ref a1, u] Q l st [.rat a, _] I (.cons rfl (.cons ry .nil)) ok ⟨_, _, rfl, rp, _, _, rfl, rq', rfl⟩ run') (fun _ _ z => back_of z) fun _ _ z => z)
    cases q with
    | rat b =>
      obtain ⟨b1, dy, e, n2, hH2⟩ := id rq
      subst e
      cases (show u = .ref b1 from ry)
      obtain ⟨mB, O2, _⟩ := ins_get I.hok hH2
      obtain ⟨od2, J2, _⟩ := O2.look
      exact go J2.type B.n0 rq run
    | int b =>
      cases (show y = .int b from rq)
      obtain ⟨t, rfl⟩ := (show ∃ t, u = Value.int b t from ry)
      exact go (q' := .int b) (PySem.W.Looks.of_pure rfl) (B.n1 "int" (.inl rfl)) rfl run
    | bl b =>
      cases (show y = .bl b from rq)
      cases (show u = Value.bool b from ry)
      exact go (PySem.W.Looks.of_pure rfl) (B.n1 "bool" (.inr (.inl rfl))) (show RepG X.K g l (.bl b) (.bl b) from rfl) run
    | str b =>
      cases (show y = .str b from rq)
      obtain ⟨t, rfl⟩ := (show ∃ t, u = Value.str b t from ry)
      exact go (PySem.W.Looks.of_pure rfl) (B.n1 "str" (.inr (.inr (.inl rfl)))) (show RepG X.K g l (.str b) (.str b) from rfl) run
    | non =>
      cases (show y = .non from rq)
      cases (show u = Value.none from ry)
      exact go (PySem.W.Looks.of_pure rfl) (B.n1 "NoneType" (.inr (.inr (.inr rfl)))) (show RepG X.K g l .non .non from rfl) run
    | _ => exact run.elim
  | _ => exact run.elim
end
end L3

namespace L3
open PySem PySem.Spec PyProof.Rows L2
/-! ## own lists that are lent, or given away -/
def froz1 (i : Nat) (s : S) : S := match s.env[i]? with
  | some (some (.own xs)) => ⟨s.env.set i (some (.val (.lst xs))), s.mu⟩
  | _ => s
@[simp] def frozS : List Nat → S → S
  | [], s => s
  | i :: is, s => frozS is (froz1 i s)
mutual
def flatP : PV → Bool
  | .tup xs => flatL xs
  | .obj _ _ xs => flatL xs
  | .dk _ xs => flatL xs
  | .dt _ xs => flatL xs
  | .exc _ _ xs => flatL xs
  | .lst _ => false
  | .frz _ => false
  | _ => true
def flatL : List PV → Bool
  | [] => true
  | x :: xs => flatP x && flatL xs
end
@[simp] def flatM : MO → Bool
  | .lst xs => flatL xs
  | .ins _ _ xs => flatL xs
def flatMs (mu : List MO) : Bool := mu.all flatM
section
variable {K : PySem.W.Frag} {g : Gx} {l : Lc} {s : S} {σ : St}
theorem freeze1 (i : Nat) (ok : Sok K g l s σ) : ∃ l0, Step l l0 ∧ l0.al = l.al ∧ l0.H = l.H ∧ (∀ a, l0.M a → l.M a) ∧ (∀ xs a, s.env[i]? = some (some (.own xs)) → σ[i]? = some (some (.ref a)) → ¬ l0.M a) ∧ Sok K g l0 (froz1 i s) σ ∧
    ∀ j xs, j ≠ i → s.env[j]? = some (some (.own xs)) → (froz1 i s).env[j]? = some (some (.own xs)) := by
  unfold froz1
  split
  · rename_i xs e
    obtain ⟨a, vs, h1, h2, h3, h4, h5⟩ := ok.own i xs e
    have hi : i < s.env.length := (List.getElem?_eq_some_iff.mp e).1
    have st : Step l ⟨l.al, fun b => l.M b ∧ b ≠ a, l.H⟩ := ⟨⟨[], by simp⟩, fun _ h => .inl h.1, fun _ _ n e => e, fun _ h => h⟩
    have st : Step l ⟨l.al, fun b => l.M b ∧ b ≠ a, l.H⟩ := ⟨⟨[], by simp⟩, fun _ h => .inl h.1, fun b o n e => e, fun _ h => h⟩
    refine ⟨⟨l.al, fun b => l.M b ∧ b ≠ a, l.H⟩, st, rfl, rfl, fun b h => h.1, fun ys b e1 e2 z => ?_, ?_, fun j ys n e1 => ?_⟩
    · rw [h1] at e2
      cases e2
      exact z.2 rfl
    · refine ⟨by show (s.env.set i _).length = _; rw [List.length_set]; exact ok.len, fun j v h => ?_, fun j ys h => ?_, fun j k ys zs b n q1 q2 q3 q4 => ?_, ok.mlen, fun n b m q1 q2 => ?_, ok.nd, fun b h => ⟨ok.alM b h, fun z => h3 (by rw [← z]; exact h)⟩, fun b h => ?_, fun b h => ok.mn b h.1⟩
      · by_cases z : j = i
        · subst z
          have h : (s.env.set j (some (.val (.lst xs))))[j]? = some (some (.val v)) := h
          rw [List.getElem?_set_self hi] at h
          cases h
          exact ⟨.ref a, h1, a, vs, rfl, fun q => by
            rcases q with q | q
            · exact q.2 rfl
            · exact ok.mn a h2 q, h4, st.reps h5⟩
        · have h : (s.env.set i (some (.val (.lst xs))))[j]? = some (some (.val v)) := h
          rw [List.getElem?_set_ne (Ne.symm z)] at h
          obtain ⟨u, q1, q2⟩ := ok.env j v h
          exact ⟨u, q1, st.rep q2⟩
      · by_cases z : j = i
        · subst z
          have h : (s.env.set j (some (.val (.lst xs))))[j]? = some (some (.own ys)) := h
          rw [List.getElem?_set_self hi] at h
          cases h
        · have h : (s.env.set i (some (.val (.lst xs))))[j]? = some (some (.own ys)) := h
          rw [List.getElem?_set_ne (Ne.symm z)] at h
          obtain ⟨b, ws, q1, q2, q3, q4, q5⟩ := ok.own j ys h
          exact ⟨b, ws, q1, ⟨q2, fun y => by rw [y] at q1; exact ok.dis j i ys xs a z h e q1 h1⟩, q3, q4, st.reps q5⟩
      · have oth : ∀ (j : Nat) zs, (s.env.set i (some (.val (.lst xs))))[j]? = some (some (.own zs)) → s.env[j]? = some (some (.own zs)) := fun j zs h => by
          by_cases z : j = i
          · subst z
            rw [List.getElem?_set_self hi] at h
            cases h
          · rw [List.getElem?_set_ne (Ne.symm z)] at h; exact h
        exact ok.dis j k ys zs b n (oth _ _ q1) (oth _ _ q2) q3 q4
      · have q := ok.mu n b m q1 q2
        cases m with
        | lst xs => obtain ⟨vs, r1, r2⟩ := q; exact ⟨vs, r1, st.reps r2⟩
        | ins C ns xs => obtain ⟨dx, vs, r1, r2, r3⟩ := q; exact ⟨dx, vs, r1, r2, st.reps r3⟩
      · rcases h with h | h
        · exact ok.there b (.inl h.1)
        · exact ok.there b (.inr h)
    · show (s.env.set i _)[j]? = _
      rw [List.getElem?_set_ne (Ne.symm n)]
      exact e1
  · rename_i e
    exact ⟨l, Step.refl l, rfl, rfl, fun _ h => h, fun xs a h1 _ => absurd h1 (e xs), ok, fun _ _ _ h => h⟩
theorem freeze : ∀ (is : List Nat) {l : Lc} {s : S}, Sok K g l s σ → ∃ l0, Step l l0 ∧ l0.al = l.al ∧ l0.H = l.H ∧ (∀ a, l0.M a → l.M a) ∧ (∀ i ∈ is, ∀ xs a, s.env[i]? = some (some (.own xs)) → σ[i]? = some (some (.ref a)) → ¬ l0.M a) ∧ Sok K g l0 (frozS is s) σ
  | [], l, s, ok => ⟨l, Step.refl l, rfl, rfl, fun _ h => h, fun i h => by simp at h, ok⟩
  | i :: is, l, s, ok => by
    obtain ⟨l1, st1, e1, e2, e3, e4, ok1, e5⟩ := freeze1 i ok
    obtain ⟨l0, st0, f1, f2, f3, f4, ok0⟩ := freeze is ok1
    refine ⟨l0, st1.trans st0, f1.trans e1, f2.trans e2, fun a h => e3 a (f3 a h), fun j hj xs a h1 h2 z => ?_, ok0⟩
    by_cases q : j = i
    · subst q
      exact e4 xs a h1 h2 (f3 a z)
    · rcases List.mem_cons.mp hj with y | y
      · exact q y
      · exact f4 j y xs a (e5 j xs q h1) h2 z
mutual
theorem Rep.fl8 {CR : Addr} {al : List Addr} {L L' : Addr → Prop} {H : Hp} (hL : ∀ a o, ¬ L a → H a = some o → (∀ vs, o ≠ .lst vs) → ¬ L' a) : ∀ (x : PV) (v : V), flatP x = true → Rep K CR al L H x v → Rep K CR al L' H x v
  | .non, v, _, h => h
  | .bl b, v, _, h => h
  | .int i, v, _, h => h
  | .str x, v, _, h => h
  | .rat q, v, _, h => by
    obtain ⟨a, dx, e, n, h⟩ := h
    exact ⟨a, dx, e, hL a _ n h (fun vs z => by cases z), h⟩
  | .tup xs, v, hf, h => by
    obtain ⟨a, vs, e, h, r⟩ := h
    refine ⟨a, vs, e, ?_, RepL.fl8 hL xs vs (by unfold flatP at hf; exact hf) r⟩
    rcases h with ⟨n, h | ⟨u, h⟩⟩ | h
    · exact .inl ⟨hL a _ n h (fun vs z => by cases z), .inl h⟩
    · exact .inl ⟨hL a _ n h (fun vs z => by cases z), .inr ⟨u, h⟩⟩
    · exact .inr h
  | .lst xs, v, hf, h => by unfold flatP at hf; cases hf
  | .frz xs, v, hf, h => by unfold flatP at hf; cases hf
  | .obj C ns xs, v, hf, h => by
    obtain ⟨a, dx, vs, e, n, h, z, r⟩ := h
    exact ⟨a, dx, vs, e, hL a _ n h (fun vs z => by cases z), h, z, RepL.fl8 hL xs vs (by unfold flatP at hf; exact hf) r⟩
  | .ptr n, v, _, h => h
  | .adr a, v, _, h => h
  | .ty n, v, _, h => h
  | .dk ks xs, v, hf, h => by
    obtain ⟨a, vs, e, n, h, z, r⟩ := h
    refine ⟨a, vs, e, ?_, h, z, RepL.fl8 hL xs vs (by unfold flatP at hf; exact hf) r⟩
    rcases h with h | ⟨u, h⟩
    · exact hL a _ n h (fun vs z => by cases z)
    · exact hL a _ n h (fun vs z => by cases z)
  | .dt ks xs, v, hf, h => by
    obtain ⟨a, vs, e, n, h, z, r⟩ := h
    refine ⟨a, vs, e, ?_, h, z, RepL.fl8 hL xs vs (by unfold flatP at hf; exact hf) r⟩
    rcases h with h | ⟨u, h⟩
    · exact hL a _ n h (fun vs z => by cases z)
    · exact hL a _ n h (fun vs z => by cases z)
  | .exc C ns xs, v, hf, h => by
    obtain ⟨a, d, vs, e, n, h, z, q, r⟩ := h
    refine ⟨a, d, vs, e, hL a _ n h (fun vs z => by cases z), h, z, ?_, RepL.fl8 hL xs vs (by unfold flatP at hf; exact hf) r⟩
    rcases q with q | ⟨dd, q1, q2, q3⟩
    · exact .inl q
    · exact .inr ⟨dd, q1, hL dd _ q2 q3 (fun vs z => by cases z), q3⟩
theorem RepL.fl8 {CR : Addr} {al : List Addr} {L L' : Addr → Prop} {H : Hp} (hL : ∀ a o, ¬ L a → H a = some o → (∀ vs, o ≠ .lst vs) → ¬ L' a) : ∀ (x : List PV) (v : List V), flatL x = true → RepL K CR al L H x v → RepL K CR al L' H x v
  | [], v, _, h => h
  | x :: xs, v, hf, h => by
    obtain ⟨u, r, e, h1, h2⟩ := h
    have hf : (flatP x && flatL xs) = true := by unfold flatL at hf; exact hf
    rw [Bool.and_eq_true] at hf
    exact ⟨u, r, e, Rep.fl8 hL x u hf.1 h1, RepL.fl8 hL xs r hf.2 h2⟩
end
/-- after a loan: the own lists are the frame's again -/
theorem unlend {is : List Nat} {l0 l1 : Lc} {s1 : S} (ok : Sok K g l s σ) (e1 : l0.al = l.al) (e2 : l0.H = l.H) (e3 : ∀ a, l0.M a → l.M a) (e4 : ∀ i ∈ is, ∀ xs a, s.env[i]? = some (some (.own xs)) → σ[i]? = some (some (.ref a)) → ¬ l0.M a) (st1 : Step l0 l1) (ok1 : Sok K g l1 s1 σ) (hf : flatMs s1.mu = true)
    (e6 : ∀ (i : Nat) xs, s.env[i]? = some (some (.own xs)) → i ∈ is) :
    ∃ l', l'.H = l1.H ∧ Step l l' ∧ Sok K g l' ⟨s.env, s1.mu⟩ σ ∧ ∀ v u, flatP v = true → RepG K g l1 v u → RepG K g l' v u := by
  have own1 : ∀ (i : Nat) xs a, s.env[i]? = some (some (.own xs)) → σ[i]? = some (some (.ref a)) → ∃ vs, l.M a ∧ a ∉ l.al ∧ l.H a = some (.lst vs) ∧ RepGL K g l xs vs ∧ l1.H a = some (.lst vs) ∧ a ∉ l1.al := by
    intro i xs a h1 h2
    obtain ⟨b, vs, q1, q2, q3, q4, q5⟩ := ok.own i xs h1
    rw [h2] at q1
    cases q1
    have n0 := e4 i (e6 i xs h1) xs a h1 h2
    refine ⟨vs, q2, q3, q4, q5, st1.keep a _ n0 (by rw [e2]; exact q4), fun z => ?_⟩
    rcases st1.new a (ok1.alM a z) with y | y
    · exact n0 y
    · rw [e2, q4] at y; cases y
  have st : Step l ⟨l1.al, fun a => l1.M a ∨ ∃ (i : Nat) (xs : List PV), s.env[i]? = some (some (.own xs)) ∧ σ[i]? = some (some (.ref a)), l1.H⟩ := by
    refine ⟨by rw [← e1]; exact st1.pre, fun a h => ?_, fun a o n e => st1.keep a o (fun z => n (e3 a z)) (by rw [e2]; exact e), fun a h => st1.dom a (by rw [e2]; exact h)⟩
    rcases h with h | ⟨i, xs, h1, h2⟩
    · rcases st1.new a h with q | q
      · exact .inl (e3 a q)
      · exact .inr (by rw [← e2]; exact q)
    · obtain ⟨vs, q, _⟩ := own1 i xs a h1 h2
      exact .inl q
  have fl : ∀ a o, ¬ g.L l1 a → l1.H a = some o → (∀ vs, o ≠ .lst vs) → ¬ g.L ⟨l1.al, fun a => l1.M a ∨ ∃ (i : Nat) (xs : List PV), s.env[i]? = some (some (.own xs)) ∧ σ[i]? = some (some (.ref a)), l1.H⟩ a := by
    intro a o n h hv z
    rcases z with (z | ⟨i, xs, h1, h2⟩) | z
    · exact n (.inl z)
    · obtain ⟨vs, _, _, _, _, q, _⟩ := own1 i xs a h1 h2
      rw [h] at q
      cases q
      exact hv vs rfl
    · exact n (.inr z)
  refine ⟨⟨l1.al, fun a => l1.M a ∨ ∃ (i : Nat) (xs : List PV), s.env[i]? = some (some (.own xs)) ∧ σ[i]? = some (some (.ref a)), l1.H⟩, rfl, st, ⟨ok.len, fun i v h => ?_, fun i xs h => ?_, ok.dis, ok1.mlen, fun n a m h1 h2 => ?_, ok1.nd, fun a h => .inl (ok1.alM a h), fun a h => ?_, fun a h => ?_⟩, fun v u hv r => Rep.fl8 fl v u hv r⟩
  · obtain ⟨u, h1, h2⟩ := ok.env i v h
    exact ⟨u, h1, st.rep h2⟩
  · obtain ⟨a, vs, h1, _⟩ := ok.own i xs h
    obtain ⟨vs, q1, q2, q3, q4, q5, q6⟩ := own1 i xs a h h1
    exact ⟨a, vs, h1, .inr ⟨i, xs, h, h1⟩, q6, q5, st.reps q4⟩
  · have q := ok1.mu n a m h1 h2
    have hm : flatM m = true := List.all_eq_true.mp hf m (List.mem_of_getElem? h2)
    cases m with
    | lst xs => obtain ⟨vs, r1, r2⟩ := q; exact ⟨vs, r1, RepL.fl8 fl _ _ hm r2⟩
    | ins C ns xs => obtain ⟨dx, vs, r1, r2, r3⟩ := q; exact ⟨dx, vs, r1, r2, RepL.fl8 fl _ _ hm r3⟩
  · rcases h with (h | ⟨i, xs, h1, h2⟩) | h
    · exact ok1.there a (.inl h)
    · obtain ⟨vs, _, _, _, _, q, _⟩ := own1 i xs a h1 h2
      show l1.H a ≠ none
      rw [q]; simp
    · exact ok1.there a (.inr h)
  · rcases h with h | ⟨i, xs, h1, h2⟩
    · exact ok1.mn a h
    · obtain ⟨vs, q, _⟩ := own1 i xs a h1 h2
      exact ok.mn a q
end
/-- only these slots hold own lists -/
def ownIn (is : List Nat) (env : List (Option SV)) : Bool := (List.range env.length).all fun i => match env[i]? with
  | some (some (.own _)) => is.contains i
  | _ => true
theorem ownIn_ok {is : List Nat} {env : List (Option SV)} (h : ownIn is env = true) (i : Nat) (xs : List PV) (e : env[i]? = some (some (.own xs))) : i ∈ is := by
  have q := List.all_eq_true.mp h i (List.mem_range.mpr (List.getElem?_eq_some_iff.mp e).1)
  rw [e] at q
  simpa using q
@[simp] def dBor (is : List Nat) (d : DE) : DE := fun s => if ownIn is s.env = true then (match d (frozS is s) with
  | .ok v s1 => if flatP v = true ∧ flatMs s1.mu = true then .ok v ⟨s.env, s1.mu⟩ else .bad
  | _ => .bad) else .bad
@[simp] def dBorT (is : List Nat) (d : DT) : DT := fun s => if ownIn is s.env = true then (match d (frozS is s) with
  | .ok v s1 => if flatMs s1.mu = true then .ok v ⟨s.env, s1.mu⟩ else .bad
  | _ => .bad) else .bad
@[simp] def dRetF (is : List Nat) (d : DE) : DS := fun s => dRet d (frozS is s)
@[simp] def dFrz (is : List Nat) (d : DS) : DS := fun s => d (frozS is s)
section
variable {X : Cx} {g : Gx} {a b c e : Expr} {es : List Expr} {st : Stmt} {sts : List Stmt} {da db dc de : DE} {dt : DT} {ds : DS} {pos : Pos}
theorem j_bor {is : List Nat} (h : JE X g e de) : JE X g e (dBor is de) := PE.cq h fun pins s0 σ H Q I q => by
  obtain ⟨l, s, rfl, ok, q⟩ := q
  obtain ⟨l0, st0, e1, e2, e3, e4, ok0⟩ := freeze is ok
  refine ⟨l0, frozS is s, e2, ok0, ?_⟩
  simp only [dBor] at q
  by_cases hw : ownIn is s.env = true
  · rw [if_pos hw] at q
    cases e5 : de (frozS is s) with
    | bad => rw [e5] at q; exact q
    | exn x t => rw [e5] at q; exact q.elim
    | ok v s1 =>
      rw [e5] at q
      simp only at q
      by_cases hf : flatP v = true ∧ flatMs s1.mu = true
      · rw [if_pos hf] at q
        intro l1 u st1 ok1 r1
        obtain ⟨l', h1, h2, h3, h4⟩ := unlend ok e1 e2 e3 e4 st1 ok1 hf.2 (ownIn_ok hw)
        have := q l' u h2 h3 (h4 v u hf.1 r1)
        rw [h1] at this
        exact this
      · rw [if_neg hf] at q
        exact q.elim
  · rw [if_neg hw] at q
    exact q.elim
theorem lt_bor {K : PySem.W.Frag} (is : List Nat) {σ : St} {H : Hp} {Q : Bool → Hp → Prop} (q : LT K g (dBorT is dt) σ H Q) : LT K g dt σ H Q := by
  obtain ⟨l, s, rfl, ok, q⟩ := q
  obtain ⟨l0, st0, e1, e2, e3, e4, ok0⟩ := freeze is ok
  refine ⟨l0, frozS is s, e2, ok0, ?_⟩
  simp only [dBorT] at q
  by_cases hw : ownIn is s.env = true
  · rw [if_pos hw] at q
    cases e5 : dt (frozS is s) with
    | bad => rw [e5] at q; exact q
    | exn x t => rw [e5] at q; exact q.elim
    | ok v s1 =>
      rw [e5] at q
      simp only at q
      by_cases hf : flatMs s1.mu = true
      · rw [if_pos hf] at q
        intro l1 st1 ok1
        obtain ⟨l', h1, h2, h3, h4⟩ := unlend ok e1 e2 e3 e4 st1 ok1 hf (ownIn_ok hw)
        have := q l' h2 h3
        rw [h1] at this
        exact this
      · rw [if_neg hf] at q
        exact q.elim
  · rw [if_neg hw] at q
    exact q.elim
theorem jt_bor {is : List Nat} (h : JT X g e dt) : JT X g e (dBorT is dt) := PT.cq h fun σ H Q q => lt_bor is q
theorem jw_bor {is : List Nat} (h : JW X g e dt) : JW X g e (dBorT is dt) := PW.cq h fun σ H Q q => lt_bor is q
theorem ls_frz {K : PySem.W.Frag} (is : List Nat) {D : Ends} {σ : St} {H : Hp} (q : LS K g (dFrz is ds) D σ H) : LS K g ds D σ H := by
  obtain ⟨l, s, rfl, ok, q⟩ := q
  obtain ⟨l0, st0, e1, e2, e3, e4, ok0⟩ := freeze is ok
  exact ⟨l0, frozS is s, e2, ok0, RunS.step (r := ds (frozS is s)) q st0⟩
/-- from here on the lists are no more changed -/
theorem js_frz {is : List Nat} (h : JS X g st ds) : JS X g st (dFrz is ds) := PS.cq h fun pins s D σ H I q => ls_frz is q
theorem jss_frz {is : List Nat} (h : JSs X g sts ds) : JSs X g sts (dFrz is ds) := PSs.cq h fun D σ H q => ls_frz is q
end
end L3

namespace L3
open PySem PySem.Spec PyProof.Rows L2
/-! ## x, y = list, value: several names at once, new lists among the values -/
abbrev Gx.hid (g : Gx) (P : List Addr) : Gx := ⟨g.CR, fun a => g.N a ∨ a ∈ P, g.W⟩
def RepSV (K : PySem.W.Frag) (g : Gx) (l : Lc) : List SV → List V → List Addr → Prop
  | [], us, P => us = [] ∧ P = []
  | .val v :: r, us, P => ∃ u us', us = u :: us' ∧ RepG K g l v u ∧ RepSV K g l r us' P
  | .own xs :: r, us, P => ∃ p vs us' P', us = .ref p :: us' ∧ P = p :: P' ∧ l.H p = some (.lst vs) ∧ RepGL K g l xs vs ∧ RepSV K g l r us' P'
abbrev DX := S → R S (List SV)
def RunX (K : PySem.W.Frag) (g : Gx) (r : R S (List SV)) (l : Lc) (σ : St) (Q : List V → Hp → Prop) : Prop := match r with
  | .ok svs s' => ∀ l' us P, Step l l' → (∀ p ∈ P, l.H p = none) → P.Nodup → Sok K (g.hid P) l' s' σ → RepSV K (g.hid P) l' svs us P → Q us l'.H
  | .exn e s' => ∀ l' cls dd, Step l l' → Sok K g l' s' σ → RepX K g l' e cls dd → g.W cls dd σ l'.H
  | .bad => False
def LX (K : PySem.W.Frag) (g : Gx) (d : DX) : TA := fun σ H Q => ∃ l s, l.H = H ∧ Sok K g l s σ ∧ RunX K g (d s) l σ Q
abbrev JX (X : Cx) (g : Gx) (es : List Expr) (d : DX) : Prop := PA X es (LX X.K g d)
@[simp] def xNil : DX := fun s => .ok [] s
@[simp] def xVal (d : DE) (r : DX) : DX := fun s => (d s).bind fun v s1 => (r s1).bind fun vs s2 => .ok (.val v :: vs) s2
@[simp] def xOwn (d : DL) (r : DX) : DX := fun s => (d s).bind fun v s1 => (r s1).bind fun vs s2 => .ok (.own v :: vs) s2
@[simp] def setX : List Nat → List SV → S → Option S
  | [], [], s => some s
  | j :: js, v :: vs, s => setX js vs ⟨s.env.set j (some v), s.mu⟩
  | _, _, _ => none
@[simp] def dAsgX (js : List Nat) (d : DX) : DS := fun s => (d s).bind fun vs s1 => match setX js vs s1 with
  | some s2 => .ok .nx s2
  | none => .bad
section
variable {K : PySem.W.Frag} {g : Gx} {l l' : Lc} {s : S} {σ : St}
theorem Gx.hid_nil : g.hid [] = g := by
  obtain ⟨CR, N, W⟩ := g
  show Gx.mk CR (fun a => N a ∨ a ∈ ([] : List Addr)) W = _
  congr 1
  funext a
  simp
theorem Gx.hid_cons {p : Addr} {P : List Addr} : Gx.hid ⟨g.CR, fun a => g.N a ∨ a = p, g.W⟩ P = g.hid (p :: P) := by
  show Gx.mk g.CR (fun a => (g.N a ∨ a = p) ∨ a ∈ P) g.W = Gx.mk g.CR (fun a => g.N a ∨ a ∈ p :: P) g.W
  congr 1
  funext a
  simp only [List.mem_cons]
  exact propext or_assoc
theorem hid_rep {P : List Addr} (st : Step l l') (hP : ∀ p ∈ P, l.H p = none) : ∀ a o, ¬ g.L l a → l.H a = some o → l'.H a = some o ∧ ¬ (g.hid P).L l' a := fun a o n e => by
  refine ⟨st.keep a o (fun z => n (.inl z)) e, fun z => ?_⟩
  rcases z with z | z | z
  · rcases st.new a z with q | q
    · exact n (.inl q)
    · rw [e] at q; cases q
  · exact n (.inr z)
  · rw [hP a z] at e; cases e
theorem hid_repG {P : List Addr} (st : Step l l') (hP : ∀ p ∈ P, l.H p = none) {x : PV} {v : V} (h : RepG K g l x v) : RepG K (g.hid P) l' x v := Rep.mono st.al (hid_rep st hP) x v h
theorem hid_repGL {P : List Addr} (st : Step l l') (hP : ∀ p ∈ P, l.H p = none) {x : List PV} {v : List V} (h : RepGL K g l x v) : RepGL K (g.hid P) l' x v := RepL.mono st.al (hid_rep st hP) x v h
theorem RepX.less {N' : Addr → Prop} {e : PV} {cls : Value} {dd : Option Addr} (hN : ∀ a, g.N a → N' a) (h : RepX K ⟨g.CR, N', g.W⟩ l e cls dd) : RepX K g l e cls dd := by
  obtain ⟨C, ns, xs, vs, h1, h2, h3, h4, h5⟩ := h
  have hL : ∀ a, g.L l a → Gx.L ⟨g.CR, N', g.W⟩ l a := fun a z => z.elim .inl fun z => .inr (hN a z)
  refine ⟨C, ns, xs, vs, h1, h2, h3, RepL.mono (fun _ _ h => h) (fun a o n e => ⟨e, fun z => n (hL a z)⟩) _ _ h4, ?_⟩
  rcases h5 with h5 | ⟨d, h5, h6, h7⟩
  · exact .inl h5
  · exact .inr ⟨d, h5, fun z => h6 (hL d z), h7⟩
theorem Sok.less {N' : Addr → Prop} (ok : Sok K ⟨g.CR, N', g.W⟩ l s σ) (hN : ∀ a, g.N a → N' a) : Sok K g l s σ := by
  have hL : ∀ a, g.L l a → Gx.L ⟨g.CR, N', g.W⟩ l a := fun a z => z.elim .inl fun z => .inr (hN a z)
  have rp : ∀ x v, Rep K g.CR l.al (Gx.L ⟨g.CR, N', g.W⟩ l) l.H x v → RepG K g l x v := fun x v h => Rep.mono (fun _ _ h => h) (fun a o n e => ⟨e, fun z => n (hL a z)⟩) x v h
  have rpl : ∀ x v, RepL K g.CR l.al (Gx.L ⟨g.CR, N', g.W⟩ l) l.H x v → RepGL K g l x v := fun x v h => RepL.mono (fun _ _ h => h) (fun a o n e => ⟨e, fun z => n (hL a z)⟩) x v h
  refine ⟨ok.len, fun i v e => ?_, fun i xs e => ?_, ok.dis, ok.mlen, fun n a m h1 h2 => ?_, ok.nd, ok.alM, fun a h => ok.there a (h.elim .inl fun z => .inr (hN a z)), fun a h z => ok.mn a h (hN a z)⟩
  · obtain ⟨u, h1, h2⟩ := ok.env i v e
    exact ⟨u, h1, rp _ _ h2⟩
  · obtain ⟨a, vs, h1, h2, h3, h4, h5⟩ := ok.own i xs e
    exact ⟨a, vs, h1, h2, h3, h4, rpl _ _ h5⟩
  · have q := ok.mu n a m h1 h2
    cases m with
    | lst xs => obtain ⟨vs, r1, r2⟩ := q; exact ⟨vs, r1, rpl _ _ r2⟩
    | ins C ns xs => obtain ⟨dx, vs, r1, r2, r3⟩ := q; exact ⟨dx, vs, r1, r2, rpl _ _ r3⟩
/-- a hidden new list comes into a slot -/
theorem ownHid {p : Addr} {P : List Addr} {j : Nat} {xs : List PV} {vs : List V} (ok : Sok K (g.hid (p :: P)) l s σ) (hp : l.H p = some (.lst vs)) (r : RepGL K (g.hid (p :: P)) l xs vs) (hn : p ∉ P) (hg : ¬ g.N p) :
    Sok K (g.hid P) ⟨l.al, fun a => l.M a ∨ a = p, l.H⟩ ⟨s.env.set j (some (.own xs)), s.mu⟩ (σ.set j (some (.ref p))) ∧ ∀ {x v}, RepG K (g.hid (p :: P)) l x v → RepG K (g.hid P) ⟨l.al, fun a => l.M a ∨ a = p, l.H⟩ x v := by
  have hL : ∀ a, (g.hid P).L ⟨l.al, fun a => l.M a ∨ a = p, l.H⟩ a → (g.hid (p :: P)).L l a := fun a z => by
    rcases z with (z | z) | z | z
    · exact .inl z
    · exact .inr (.inr (by rw [z]; exact List.mem_cons_self))
    · exact .inr (.inl z)
    · exact .inr (.inr (List.mem_cons_of_mem _ z))
  have rp : ∀ {x v}, RepG K (g.hid (p :: P)) l x v → RepG K (g.hid P) ⟨l.al, fun a => l.M a ∨ a = p, l.H⟩ x v := fun h => Rep.mono (fun _ _ h => h) (fun a o n e => ⟨e, fun z => n (hL a z)⟩) _ _ h
  have rpl : ∀ {x v}, RepGL K (g.hid (p :: P)) l x v → RepGL K (g.hid P) ⟨l.al, fun a => l.M a ∨ a = p, l.H⟩ x v := fun h => RepL.mono (fun _ _ h => h) (fun a o n e => ⟨e, fun z => n (hL a z)⟩) _ _ h
  have nM : ¬ l.M p := fun z => ok.mn p z (.inr List.mem_cons_self)
  refine ⟨⟨by show (s.env.set j _).length = _; rw [List.length_set, List.length_set]; exact ok.len, fun i v h => ?_, fun i zs h => ?_, fun i k zs ws b n q1 q2 q3 q4 => ?_, ok.mlen, fun n b m q1 q2 => ?_, ok.nd, fun a h => .inl (ok.alM a h), fun b h => ?_, fun b h => ?_⟩, rp⟩
  · rcases get_set h with ⟨_, e, _⟩ | ⟨e, h⟩
    · cases e
    · obtain ⟨u, h1, h2⟩ := ok.env i v h
      exact ⟨u, by rw [List.getElem?_set_ne (Ne.symm e)]; exact h1, rp h2⟩
  · rcases get_set h with ⟨e1, e2, e3⟩ | ⟨e, h⟩
    · cases e2
      subst e1
      exact ⟨p, vs, by rw [List.getElem?_set_self (by rw [← ok.len]; exact e3)], .inr rfl, fun z => nM (ok.alM p z), hp, rpl r⟩
    · obtain ⟨a, ws, h1, h2, h3, h4, h5⟩ := ok.own i zs h
      exact ⟨a, ws, by rw [List.getElem?_set_ne (Ne.symm e)]; exact h1, .inl h2, h3, h4, rpl h5⟩
  · have two : ∀ (i : Nat) zs b, (s.env.set j (some (.own xs)))[i]? = some (some (.own zs)) → (σ.set j (some (.ref p)))[i]? = some (some (.ref b)) → (i = j ∧ b = p) ∨ (i ≠ j ∧ s.env[i]? = some (some (.own zs)) ∧ σ[i]? = some (some (.ref b))) := fun i zs b h1 h2 => by
      rcases get_set h1 with ⟨e1, _, e3⟩ | ⟨e, h1⟩
      · subst e1
        rw [List.getElem?_set_self (by rw [← ok.len]; exact e3)] at h2
        cases h2
        exact .inl ⟨rfl, rfl⟩
      · rw [List.getElem?_set_ne (Ne.symm e)] at h2
        exact .inr ⟨e, h1, h2⟩
    have inM : ∀ (i : Nat) zs, s.env[i]? = some (some (.own zs)) → σ[i]? = some (some (.ref p)) → False := fun i zs h1 h2 => by
      obtain ⟨a, _, h3, h4, _⟩ := ok.own i zs h1
      rw [h2] at h3
      cases h3
      exact nM h4
    rcases two i zs b q1 q3 with ⟨e1, e2⟩ | ⟨e1, h1, h2⟩
    · subst e2
      rcases two k ws b q2 q4 with ⟨e3, _⟩ | ⟨_, h3, h4⟩
      · exact n (e1.trans e3.symm)
      · exact inM k ws h3 h4
    · rcases two k ws b q2 q4 with ⟨e3, e4⟩ | ⟨_, h3, h4⟩
      · subst e4
        exact inM i zs h1 h2
      · exact ok.dis i k zs ws b n h1 h3 h2 h4
  · have q := ok.mu n b m q1 q2
    cases m with
    | lst xs => obtain ⟨vs, r1, r2⟩ := q; exact ⟨vs, r1, rpl r2⟩
    | ins C ns xs => obtain ⟨dx, vs, r1, r2, r3⟩ := q; exact ⟨dx, vs, r1, r2, rpl r3⟩
  · rcases h with (h | h) | h | h
    · exact ok.there b (.inl h)
    · exact ok.there b (.inr (.inr (by rw [h]; exact List.mem_cons_self)))
    · exact ok.there b (.inr (.inl h))
    · exact ok.there b (.inr (.inr (List.mem_cons_of_mem _ h)))
  · rcases h with h | h
    · exact fun z => ok.mn b h (z.elim .inl fun z => .inr (List.mem_cons_of_mem _ z))
    · subst h
      exact fun z => z.elim hg hn
@[simp] def setσ : List Nat → List V → St → St
  | j :: js, v :: vs, σ => setσ js vs (σ.set j (some v))
  | _, _, σ => σ
theorem RepSV.imp {g' : Gx} {l' : Lc} (h : ∀ {x v}, RepG K g l x v → RepG K g' l' x v) (hl : ∀ {x v}, RepGL K g l x v → RepGL K g' l' x v) (hH : l'.H = l.H) : ∀ {svs : List SV} {us : List V} {P : List Addr}, RepSV K g l svs us P → RepSV K g' l' svs us P
  | [], us, P, q => q
  | .val v :: r, us, P, q => by
    obtain ⟨u, us', e, h1, h2⟩ := q
    exact ⟨u, us', e, h h1, RepSV.imp h hl hH h2⟩
  | .own xs :: r, us, P, q => by
    obtain ⟨p, vs, us', P', e1, e2, h1, h2, h3⟩ := q
    exact ⟨p, vs, us', P', e1, e2, by rw [hH]; exact h1, hl h2, RepSV.imp h hl hH h3⟩
theorem setAll : ∀ {js : List Nat} {svs : List SV} {us : List V} {P : List Addr} {l : Lc} {s s2 : S} {σ : St}, Sok K (g.hid P) l s σ → RepSV K (g.hid P) l svs us P → P.Nodup → (∀ p ∈ P, ¬ g.N p) → setX js svs s = some s2 →
    us.length = js.length ∧ ∃ l', l'.H = l.H ∧ l'.al = l.al ∧ (∀ a, l.M a → l'.M a) ∧ (∀ a, l'.M a → l.M a ∨ a ∈ P) ∧ Sok K g l' s2 (setσ js us σ)
  | [], [], us, P, l, s, s2, σ, ok, r, nd, hN, e => by
    obtain ⟨rfl, rfl⟩ := r
    cases e
    rw [Gx.hid_nil] at ok
    exact ⟨rfl, l, rfl, rfl, fun _ h => h, fun _ h => .inl h, ok⟩
  | [], v :: vs, us, P, l, s, s2, σ, ok, r, nd, hN, e => by simp at e
  | j :: js, [], us, P, l, s, s2, σ, ok, r, nd, hN, e => by simp at e
  | j :: js, .val v :: svs, us, P, l, s, s2, σ, ok, r, nd, hN, e => by
    obtain ⟨u, us', rfl, h1, h2⟩ := r
    have e : setX js svs (setE j v s) = some s2 := e
    obtain ⟨q1, l', q2, q3, q4, q5, q6⟩ := setAll (ok.set (i := j) h1) h2 nd hN e
    exact ⟨by simpa using q1, l', q2, q3, q4, q5, q6⟩
  | j :: js, .own xs :: svs, us, P, l, s, s2, σ, ok, r, nd, hN, e => by
    obtain ⟨p, vs, us', P', rfl, rfl, h1, h2, h3⟩ := r
    rw [List.nodup_cons] at nd
    obtain ⟨ok2, rp⟩ := ownHid (j := j) ok h1 h2 nd.1 (hN p List.mem_cons_self)
    have e : setX js svs ⟨s.env.set j (some (.own xs)), s.mu⟩ = some s2 := e
    have rpl : ∀ {x v}, RepGL K (g.hid (p :: P')) l x v → RepGL K (g.hid P') ⟨l.al, fun a => l.M a ∨ a = p, l.H⟩ x v := fun h => by
      rw [RepGL, RepL.iff] at h ⊢
      exact ⟨h.1, fun i y e => let ⟨w, h1, h2⟩ := h.2 i y e; ⟨w, h1, rp h2⟩⟩
    obtain ⟨q1, l', q2, q3, q4, q5, q6⟩ := setAll ok2 (RepSV.imp rp rpl rfl h3) nd.2 (fun a h => hN a (List.mem_cons_of_mem _ h)) e
    refine ⟨by simpa using q1, l', q2, q3, fun a h => q4 a (.inl h), fun a h => ?_, q6⟩
    rcases q5 a h with (z | z) | z
    · exact .inl z
    · exact .inr (by rw [z]; exact List.mem_cons_self)
    · exact .inr (List.mem_cons_of_mem _ z)
end
def gsN (js : List Nat) : TGs := fun vs σ H Q => vs.length = js.length ∧ Q (setσ js vs σ) H
section
variable {X : Cx} {g : Gx} {a b c e : Expr} {es : List Expr} {da db dc de : DE} {dl : DL} {dx : DX} {pos : Pos}
theorem jx_nil : JX X g [] xNil := PA.cq pa_nil fun σ H Q q => by
  obtain ⟨l, s, rfl, ok, q⟩ := q
  exact q l [] [] (Step.refl l) (fun p h => by simp at h) List.nodup_nil (by rw [Gx.hid_nil]; exact ok) ⟨rfl, rfl⟩
theorem jx_val {dr : DX} (he : JE X g e de) (hr : JX X g es dr) (hs : starEach (e :: es) X.env = (false, eval e X.env) :: starEach es X.env := by rfl) : JX X g (e :: es) (xVal de dr) := PA.cq (pa_cons he hr hs) fun σ H Q q => by
  obtain ⟨l, s, rfl, ok, q⟩ := q
  refine ⟨l, s, rfl, ok, ?_⟩
  simp only [xVal] at q
  cases e1 : de s with
  | bad => rw [e1] at q; exact q
  | exn x t => rw [e1] at q; exact q
  | ok v t =>
    rw [e1] at q
    intro l1 u st1 ok1 r1
    refine ⟨l1, t, rfl, ok1, ?_⟩
    simp only [R.bind] at q
    cases e2 : dr t with
    | bad => rw [e2] at q; exact q
    | exn x t2 => rw [e2] at q; exact fun l' c d st' => q l' c d (st1.trans st')
    | ok svs t2 =>
      rw [e2] at q
      intro l2 us P st2 hP nd ok2 r2
      exact q l2 (u :: us) P (st1.trans st2) (fun p hp => by
        cases z : l.H p with
        | none => rfl
        | some o => exact absurd (hP p hp) (st1.dom p (by rw [z]; simp))) nd ok2 ⟨u, us, rfl, hid_repG st2 hP r1, r2⟩
theorem jx_own {dr : DX} (he : JF X g e dl) (hr : ∀ N, JX X ⟨g.CR, N, g.W⟩ es dr) (hs : starEach (e :: es) X.env = (false, eval e X.env) :: starEach es X.env := by rfl) : JX X g (e :: es) (xOwn dl dr) := by
  refine ⟨fun pos pins s0 σ H Q I q => ?_⟩
  obtain ⟨l, s, rfl, ok, q⟩ := q
  show wpAny (model X.prog X.w) X.A (spliced (backTo pos (starEach (e :: es) X.env))) _ X.xe s0
  -- the rest, read at any hidden part
  have rest : PA X es (fun σ H Q => ∃ N, LX X.K ⟨g.CR, N, g.W⟩ dr σ H Q) := ⟨fun pos pins s σ H Q I q => let ⟨N, q⟩ := q; (hr N).run pos pins s σ H Q I q⟩
  refine (pa_cons he rest hs).run pos pins s0 σ l.H Q I ⟨l, s, rfl, ok, ?_⟩
  simp only [xOwn] at q
  cases e1 : dl s with
  | bad => rw [e1] at q; exact q
  | exn x t => rw [e1] at q; exact q
  | ok xs t =>
    rw [e1] at q
    intro l1 us p st1 ok1 r1 hp
    have st1' : Step l1 ⟨l1.al, l1.M, upd l1.H p (.lst us)⟩ := Step.alloc hp
    have ne : ∀ a o, l1.H a = some o → a ≠ p := fun a o h => ne_of_none h hp
    refine ⟨fun a => g.N a ∨ a = p, ⟨l1.al, l1.M, upd l1.H p (.lst us)⟩, t, rfl, ok1.to rfl rfl rfl (fun a o _ h => by show upd l1.H p _ a = some o; rw [upd_ne (ne a o h)]; exact h) (fun a o n h z => z.elim n (ne a o h)) (fun a h => ?_), ?_⟩
    · show upd l1.H p _ a ≠ none
      rcases h with h | h | h
      · exact upd_there (ok1.there a (.inl h))
      · exact upd_there (ok1.there a (.inr h))
      · rw [h, upd_same]; simp
    · simp only [R.bind] at q
      cases e2 : dr t with
      | bad => rw [e2] at q; exact q
      | exn x t2 => rw [e2] at q; exact fun l' c d st' ok' rx => q l' c d ((st1.trans st1').trans st') (ok'.less fun a h => .inl h) (rx.less fun a h => .inl h)
      | ok svs t2 =>
        rw [e2] at q
        intro l2 us2 P st2 hP nd ok2 r2
        have np : p ∉ P := fun z => by
          have := hP p z
          have e : upd l1.H p (.lst us) p = none := this
          rw [upd_same] at e
          cases e
        have hP1 : ∀ a ∈ P, l1.H a = none := fun a h => by
          have e : upd l1.H p (.lst us) a = none := hP a h
          rw [upd_ne (fun z => np (by rw [← z]; exact h))] at e
          exact e
        have hP2 : ∀ a ∈ p :: P, l1.H a = none := fun a h => (List.mem_cons.mp h).elim (fun z => by rw [z]; exact hp) (hP1 a)
        have back : ∀ a, l1.H a = none → l.H a = none := fun a h => by
          cases z : l.H a with
          | none => rfl
          | some o => exact absurd h (st1.dom a (by rw [z]; simp))
        rw [Gx.hid_cons] at ok2 r2
        have nM : ¬ l1.M p := fun z => ok1.there p (.inl z) hp
        exact q l2 (.ref p :: us2) (p :: P) ((st1.trans st1').trans st2) (fun a h => back a (hP2 a h)) (List.nodup_cons.mpr ⟨np, nd⟩) ok2 ⟨p, us, us2, P, rfl, rfl, st2.keep p _ nM upd_same, hid_repGL (st1'.trans st2) hP2 r1, r2⟩
theorem jn_nil : PGs X [] (gsN []) := ⟨fun pins s σ H vs us Q I r h => pgs_nil.run pins s σ H vs us Q I r ⟨by
  have := h.1
  exact List.eq_nil_of_length_eq_zero this, by
  obtain ⟨h1, h2⟩ := h
  cases vs with
  | nil => exact h2
  | cons v vs => cases h1⟩⟩
theorem jn_cons {i : Nat} {js : List Nat} {x : Str} {py : Pos} (hN : X.N.Nodup) (h : PGs X es (gsN js)) (hi : X.N[i]? = some x := by rfl) (hx : Loc X.env.scope x := by first | exact Or.inl rfl | exact Or.inr rfl) (hf : X.fn x = true ∨ X.env.scope.names.lookup x = some .local := by first | exact .inl rfl | exact .inr rfl)
    (hs : (assignEach (.Name x py :: es) X.env).map (·.2) = assign (.Name x py) X.env :: (assignEach es X.env).map (·.2) := by rfl) : PGs X (.Name x py :: es) (gsN (i :: js)) :=
  ⟨fun pins s σ H vs us Q I r q => (pgs_cons (pg_name hN hi hx hf) h hs).run pins s σ H vs us Q I r (by
    obtain ⟨h1, h2⟩ := q
    cases vs with
    | nil => cases h1
    | cons v vs => exact ⟨v, vs, rfl, by simpa using h1, h2⟩)⟩
/-- x, y = e1, e2 -/
theorem js_asgX {js : List Nat} {ts : List Expr} {k1 k2} {p1 p2 : Pos} (hc : X.calm = true) (hx : JX X g es dx) (ht : PGs X ts (gsN js)) (hl : js.length ≤ 1000 := by decide) (hn : (assignEach ts X.env).length = js.length := by rfl) (hst : (assignEach ts X.env).findIdx? (·.1) = none := by rfl)
    (hs : swapsWithSole [.Tuple ts k1 p1] (.Tuple es k2 p2) pos.line X.env = pure false := by rfl) (hw : swappedStores [.Tuple ts k1 p1] (.Tuple es k2 p2) X.env = pure none := by rfl)
    (h1 : (assignEach [.Tuple ts k1 p1] X.env).map (·.2) = [assign (.Tuple ts k1 p1) X.env] := by rfl) : JS X g (.Assign [.Tuple ts k1 p1] (.Tuple es k2 p2) pos) (dAsgX js dx) :=
  PS.cq (ps_asg (pe_tup hx) (pg_tup hc ht hn hst) hs hw h1) fun pins s0 D σ H I q => by
    obtain ⟨l, s, rfl, ok, q⟩ := q
    refine ⟨l, s, rfl, ok, ?_⟩
    simp only [dAsgX] at q
    cases e1 : dx s with
    | bad => rw [e1] at q; exact q
    | exn x t => rw [e1] at q; exact fun l' c d => q l' σ c d
    | ok svs t =>
      rw [e1] at q
      simp only [R.bind] at q
      cases e2 : setX js svs t with
      | none => rw [e2] at q; exact q.elim
      | some s2 =>
        rw [e2] at q
        intro l' us P st hP nd ok' r'
        have hgN : ∀ p ∈ P, ¬ g.N p := fun p hp z => ok.there p (.inr z) (hP p hp)
        obtain ⟨hlen, l2, f1, f2, f3, f4, ok2⟩ := setAll ok' r' nd hgN e2
        refine ⟨by rw [line_eq, hlen]; omega, fun tp htp => ⟨tp, us, rfl, .inl (.inl upd_same), hlen, hlen, ?_⟩⟩
        have st2 : Step l l2 := ⟨by rw [f2]; exact st.pre, fun a h => by
          rcases f4 a h with z | z
          · exact st.new a z
          · exact .inr (hP a z), fun a o n e => by rw [f1]; exact st.keep a o n e, fun a h => by rw [f1]; exact st.dom a h⟩
        have htp2 : l2.H tp = none := by rw [f1]; exact htp
        have := q ⟨l2.al, l2.M, upd l2.H tp (.tup us)⟩ (setσ js us σ) (st2.trans (Step.alloc htp2)) (ok2.alloc htp2)
        rw [← f1]
        exact this
end
end L3

/-! ## enumerate of a tuple -/
namespace L3
open PySem
open Sem (wp)
open AutoSeq1 (wpAny_loadPart')
theorem meets_enum_newT (l : Addr) (ys : Array Value) (n : Nat) (dc0 : Option Addr) (sl0 : Array (Option Value)) :
    Meets (Builtin.«enumerate.__new__» ⟨[.type "enumerate", .ref l], []⟩) (fun _ R s => s.heap.get? l = some { cls := .type "tuple", dict := dc0, data := .seq ys n, slots := sl0 } ∧
      R (.ok (.ret (.ref (s.heap.push { cls := .type "tuple_iterator", data := .fields #[.ref l, .int 0 0] }).objs.size)))
        { s with heap := (s.heap.push { cls := .type "tuple_iterator", data := .fields #[.ref l, .int 0 0] }).push { cls := .type "enumerate", data := .fields #[.none, .bool false, .ref s.heap.objs.size, rawInt 0, .none, .none] } }) :=
  Meets.of_wp fun pg wl ar R s h => by
    obtain ⟨hp0, g, d, tk0, os0⟩ := s; obtain ⟨hat, h⟩ := h
    have hsubE := sub_enumerate
    have hLt : Heap.IsTuple (Shared.heap ⟨hp0, g, d, tk0, os0⟩) l ys := ⟨_, hat, rfl, n, rfl⟩
    wp_walk using wpAny_loadPart' hat
    refine wpAny_stack_any (fun _ => wpAny_pure ?_)
    split
    · rename_i c _ _ _ _ _
      rcases (c == Value.type "enumerate") with _ | _
      · wp_walk using wpAny_loadPart' hat, wpAny_pyIter_tuple hLt
        exact ⟨_, rfl, h⟩
      · wp_walk using wpAny_loadPart' hat, wpAny_pyIter_tuple hLt
        exact ⟨_, rfl, h⟩
    · wp_walk using wpAny_loadPart' hat, wpAny_pyIter_tuple hLt
      exact ⟨_, rfl, h⟩
section
variable {prog : Program} {w : World} {A : Around} {E : Value → Shared → Prop} {s : Shared}
theorem call_enum_tuple {l : Addr} {ys : Array Value} {Q : Value → Shared → Prop} (hLt : s.heap.IsTuple l ys)
    (h : ∀ g1, IsEnum g1 (s.heap.objs.size + 1) s.heap.objs.size 0 .none → g1.IsTupleIter s.heap.objs.size l 0 → g1.objs.size = s.heap.objs.size + 2 →
      (∀ b o, s.heap.get? b = some o → g1.get? b = some o) → Q (.ref (s.heap.objs.size + 1)) { s with heap := g1 }) :
    wpAny (model prog w) A (call (.type "enumerate") [.ref l]) Q E s := by
  obtain ⟨⟨c, dc0, dt0, sl0⟩, hat, hcls, n, hda⟩ := hLt
  replace hcls : c = .type "tuple" := hcls
  replace hda : dt0 = .seq ys n := hda
  subst hcls hda
  refine callType_new F.called_enumerate (by decide) (F.typeCall_enumerate_1 _) (F.newCall_enumerate_1 _) (fun obj => F.args_object_init_2 obj _) F.entry_enumerate_new
    (meets_enum_newT l ys n dc0 sl0) ⟨hat, ?_⟩
  have hz : (s.heap.push { cls := .type "tuple_iterator", data := .fields #[.ref l, .int 0 0] }).objs.size = s.heap.objs.size + 1 := Heap.size_push ..
  show _ ∧ _
  rw [hz]
  have heA : IsEnum ((s.heap.push { cls := .type "tuple_iterator", data := .fields #[.ref l, .int 0 0] }).push
      { cls := .type "enumerate", data := .fields #[.none, .bool false, .ref s.heap.objs.size, rawInt 0, .none, .none] }) (s.heap.objs.size + 1) s.heap.objs.size 0 .none := by
    have := Heap.get?_push_size (s.heap.push { cls := .type "tuple_iterator", data := .fields #[.ref l, .int 0 0] })
      (o := { cls := .type "enumerate", data := .fields #[.none, .bool false, .ref s.heap.objs.size, rawInt 0, .none, .none] }) rfl
    rw [hz] at this; exact this
  refine ⟨⟨_, heA, rfl⟩, h _ heA ⟨_, Heap.get?_push_of_some _ (Heap.get?_push_size _ rfl), rfl, rfl⟩ (by rw [Heap.size_push, hz]) fun b o x => Heap.get?_push_of_some _ (Heap.get?_push_of_some _ x)⟩
theorem draws_tup {l it : Addr} {ys : Array Value} (hhd : A.handled = none) (hne : l ≠ it) : Draws prog w A it [it, l] ys.size (fun i x => ys[i]? = some x) (fun i h => h.IsTupleIter it l i ∧ h.IsTuple l ys) where
  live := fun i h stk => let ⟨⟨o, e, _⟩, _⟩ := stk; ⟨o, e⟩
  frame := fun i h g1 stk k => by
    obtain ⟨stk, o, e, r⟩ := stk
    exact ⟨stk.at fun o q => k it (by simp) o q, o, k l (by simp) o e, r⟩
  item := fun i s Q E hi stk hQ0 => by
    obtain ⟨stk, ht⟩ := stk
    refine RZ.nextOf_tuple_item stk ht (x := ys[i]) (by simp [hi]) fun g1 stB sb => ?_
    obtain ⟨o, e, r⟩ := ht
    exact hQ0 _ g1 s.toks (by simp [hi]) ⟨stB, o, (sb.2 l hne).trans e, r⟩ sb
  done := fun s Q E stk hE => by
    obtain ⟨stk, ht⟩ := stk
    exact RZ.nextOf_tuple_end hhd stk ht (by simp) hE
theorem pyNext_enumT_end {e it l : Addr} {i : Nat} {ys : Array Value} {old : Value} {Q : Option Value → Shared → Prop} (hhd : A.handled = none)
    (heA : IsEnum s.heap e it i old) (hItA : s.heap.IsTupleIter it l i) (hat : s.heap.IsTuple l ys) (hxL : ys[i]? = none)
    (hQ0 : ∀ g1, Heap.ExtBut it s.heap g1 → Q none { s with heap := g1 }) : wpAny (model prog w) A (pyNext (.ref e)) Q E s := by
  have hTe : s.TypeIs (.ref e) "enumerate" := ⟨_, heA, rfl⟩
  unfold pyNext
  refine wpAny_bind (wpAny_attempt (wpAny_callSpecial?_slot (name := Str.ofString "__next__") hTe F.slot_enumerate_next
    (wpAny_call_entry F.slot_enumerate_next hTe F.entry_enumerate_next ?_ (F.args_enumerate_next_1 _))))
  show wpAny _ _ (field (.ref e) 2 >>= _) _ _ _
  refine wpAny_bind (wpAny_field heA rfl (x := .ref it) rfl ?_)
  refine wpAny_bind (RZ.nextOf_tuple_end hhd hItA hat hxL fun g1 x heB hxB => ?_)
  obtain ⟨o, ho0, hcls⟩ := hxB
  refine wpAny_bind (wpAny_isInstance (T := "StopIteration") (b := true) ⟨o, ho0, hcls⟩ isSubtype_stop ?_)
  exact wpAny_pure (hQ0 _ heB)
end
end L3
namespace L3
open PySem PySem.Spec PyProof.Rows L2
def IteT (K : PySem.W.Frag) (a : Addr) : It :=
  ⟨fun i H => ∃ (xs : List V) (x : V), SqT K H a xs ∧ xs[i]? = some x, fun i H v H' => ∃ T x, v = .ref T ∧ H T = none ∧ H' = upd H T (.tup [.int (i : Nat), x]) ∧ ∀ xs, SqT K H a xs → xs[i]? = some x, fun i H => ∃ xs : List V, SqT K H a xs ∧ xs.length ≤ i⟩
theorem turn_enumT {P : Program} {w : World} {K : PySem.W.Frag} {elts : List Expr} {kk : Nat} {tpos : Pos} (a e it : Addr) :
    Turn P w K (.Tuple elts kk tpos) (IteT K a) [e, it] e (fun i h => (∃ old, IsEnum h e it ((i : Nat) : Int) old) ∧ h.IsTupleIter it a i ∧ e ≠ it ∧ a ≠ it ∧ e ≠ a) where
  mem := by simp
  obj := fun i h st b hb => by
    obtain ⟨⟨old, heA⟩, ⟨o, ho, hc, hd⟩, _⟩ := st
    have eb1 : b = e ∨ b = it := by simpa using hb
    rcases eb1 with z | z
    · rw [z]; exact ⟨_, heA, fun v q => nomatch q⟩
    · rw [z]; exact ⟨o, ho, fun v q => by rw [hd] at q; cases q⟩
  keep := fun i h g1 st k => let ⟨⟨old, heA⟩, hi, hne⟩ := st; ⟨⟨old, k e (by simp) _ heA⟩, hi.at fun o q => k it (by simp) o q, hne⟩
  item := by
    intro X hPr hw hK hc i pins s σ H E I hfL st hg
    subst hPr hw hK
    obtain ⟨⟨old, heA⟩, hItA, hne, hai, hea⟩ := st
    obtain ⟨xs, x, hqL, hxL⟩ := hg
    obtain ⟨arr, rvl, p, hz⟩ := I.tuple hqL
    obtain ⟨u, hu, ru⟩ := rvl.get hxL
    have heL : e < s.heap.objs.size := Heap.lt_size heA
    have hiL : it < s.heap.objs.size := by obtain ⟨_, q, _⟩ := hItA; exact Heap.lt_size q
    have hlt : i < arr.toArray.size := by
      rw [List.size_toArray]
      exact (List.getElem?_eq_some_iff.mp hu).1
    refine wpAny_pyNext_enum_itemD (draws_tup (A := X.A.in1) (I.ok.hd hc) hai) heA ⟨hItA, show s.heap.IsTuple a arr.toArray from p⟩ hlt hne (by simp [hne, hea]) fun x' g1 tk hP' ho hItB hTy hSz hKp => ?_
    have ex : x' = u := by
      have h1 : arr[i]? = some x' := by simpa using hP'
      rw [h1] at hu
      exact (Option.some.inj hu)
    subst ex
    refine ⟨_, rfl, wpAny_letOwnedTupleGo_enum (s := { s with heap := g1, toks := tk + 1 }) ho fun g2 heB sb => ?_⟩
    have hTyB : g2.get? s.heap.objs.size = some { cls := .type "tuple", data := .seq #[.int i tk, x'] } := (sb.2 _ (Nat.ne_of_gt heL)).trans hTy
    have new : ObjOk X.prog X.w (upd H s.heap.objs.size (.tup [.int (i : Nat), x])) g2 s.heap.objs.size (.tup [.int (i : Nat), x]) :=
      ⟨by show 2 ≤ sizeLine; decide, [.int i tk, x'], .cons ⟨_, rfl⟩ (.cons ru .nil), ⟨_, hTyB, rfl, _, rfl⟩⟩
    have Inv1 : Inv X pins σ (upd H s.heap.objs.size (.tup [.int (i : Nat), x])) { s with heap := g2, toks := tk + 1 } :=
      I.turnedNew (ch := [e, it]) (fun b ob hb q => (sb.2 b (fun z => hb (by simp [z]))).trans (hKp b ob (fun z => hb (by simp [z])) (fun z => hb (by simp [z])) q)) hfL (Nat.le_refl _) new
    refine ⟨.ref s.heap.objs.size, _, Inv1, rfl, ⟨_, x, rfl, I.hok.fresh (Nat.le_refl _), rfl, fun ys hy => by rw [I.tuple_inj hy hqL]; exact hxL⟩, ⟨⟨x', ?_⟩, hItB.1.at fun o q => (sb.2 it (Ne.symm hne)).trans q, hne, hai, hea⟩, fun b hb => ?_⟩
    · have e1 : ((i + 1 : Nat) : Int) = (i : Int) + 1 := by omega
      rw [e1]; exact heB
    · have hbL : b < s.heap.objs.size := by
        have eb1 : b = e ∨ b = it := by simpa using hb
        rcases eb1 with z | z
        · rw [z]; exact heL
        · rw [z]; exact hiL
      rw [upd_ne (Nat.ne_of_lt hbL)]
      exact (hfL b hb).1
  done := by
    intro X hPr hw hK hc i pins s σ H E I hfL st hg
    subst hPr hw hK
    obtain ⟨⟨old, heA⟩, hItA, hne, hai, hea⟩ := st
    obtain ⟨xs, hqL, hxL⟩ := hg
    obtain ⟨arr, rvl, p, hz⟩ := I.tuple hqL
    obtain ⟨w0, w1, w2, w3, w4, w5⟩ := hfL it (by simp)
    have hl := rvl.length
    exact pyNext_enumT_end (I.ok.hd hc) heA hItA (show s.heap.IsTuple a arr.toArray from p) (by simp; omega) fun g1 eb => ⟨rfl, I.turned (t' := s.toks) (fun b o hb q => eb b o hb q) w0 w1 w3 w4 w5⟩
  self := fun A i s Q E st h => let ⟨⟨_, heA⟩, _⟩ := st; wpAny_pyIter_enum heA h
def iEnumA (K : PySem.W.Frag) (ta : TA) : TI := fun σ H R => ta σ H fun vs H1 => ∃ a xs, vs = [.ref a] ∧ ((SqL K H1 a xs ∧ R (Ite K a) H1) ∨ (SqT K H1 a xs ∧ R (IteT K a) H1))
theorem pi_enumA {X : Cx} {e : Expr} {ta : TA} {p pos tpos : Pos} {elts : List Expr} {kk : Nat} (hg : Gl X "enumerate") (hm : X.mg "enumerate" = none) (ha : PA X [e] ta) (hs : starEach [e] X.env = [(false, eval e X.env)] := by rfl) :
    PI X (.Tuple elts kk tpos) (.Call (.Name "enumerate" p) [e] [] pos) (iEnumA X.K ta) := by
  refine ⟨fun pins s σ H R I h => ?_⟩
  refine Call_ (ld_blt I hg hm boot_enumerate (PyProof.Rows.callWith_type1 (thn (ha.run pos pins s σ H _ I h) fun us s1 ⟨vs, H1, Inv1, r1, qq⟩ => ?_) hs rfl))
  obtain ⟨a, xs, ex, hqL⟩ := qq
  subst ex
  cases r1 with
  | cons r rr =>
    cases rr
    cases r
    have fpsL : ∀ b, b = s1.heap.objs.size + 1 ∨ b = s1.heap.objs.size → s1.heap.objs.size ≤ b := fun b eb1 => by
      rcases eb1 with z | z
      · rw [z]; exact Nat.le_add_right _ _
      · rw [z]; exact Nat.le_refl _
    rcases hqL with ⟨hqL, q⟩ | ⟨hqL, q⟩
    · obtain ⟨arr, rvl, pB, hz⟩ := Inv1.list hqL
      refine call_enumerate_list pB.isList fun g1 heA hItA hSz hKp => wpAny_pyIter_enum heA ?_
      have Inv2 : Inv X pins σ H1 { s1 with heap := g1 } := Inv1.kept (t' := s1.toks) hKp
      refine ⟨s1.heap.objs.size + 1, [s1.heap.objs.size + 1, s1.heap.objs.size], _, _, H1, rfl, Inv2, turn_enum a (s1.heap.objs.size + 1) s1.heap.objs.size, ⟨⟨.none, heA⟩, hItA, Nat.succ_ne_self _⟩, fun b hb => ?_, q⟩
      have hle := fpsL b (by simpa using hb)
      exact Inv1.fpOk hle (Inv1.hok.fresh hle)
    · obtain ⟨arr, rvl, pB, hz⟩ := Inv1.tuple hqL
      have hla : a < s1.heap.objs.size := by
        obtain ⟨o, e, _⟩ := (show s1.heap.IsTuple a arr.toArray from pB)
        exact Heap.lt_size e
      refine call_enum_tuple (show s1.heap.IsTuple a arr.toArray from pB) fun g1 heA hItA hSz hKp => wpAny_pyIter_enum heA ?_
      have Inv2 : Inv X pins σ H1 { s1 with heap := g1 } := Inv1.kept (t' := s1.toks) hKp
      refine ⟨s1.heap.objs.size + 1, [s1.heap.objs.size + 1, s1.heap.objs.size], _, _, H1, rfl, Inv2, turn_enumT a (s1.heap.objs.size + 1) s1.heap.objs.size, ⟨⟨.none, heA⟩, hItA, Nat.succ_ne_self _, Nat.ne_of_lt hla, Nat.ne_of_gt (Nat.lt_succ_of_lt hla)⟩, fun b hb => ?_, q⟩
      have hle := fpsL b (by simpa using hb)
      exact Inv1.fpOk hle (Inv1.hok.fresh hle)
section
variable {g : Gx}
theorem it_enumT {K : PySem.W.Frag} {l0 : Lc} {a : Addr} {vs : List V} {xs : List PV} (hn : ∀ l, Step l0 l → SqT K l.H a vs) (rvl : RepGL K g l0 xs vs) : ItOk K g l0 (IteT K a) (enumP xs) := fun i g' l st ec hN th => by
  have h1 := hn l st
  have hl : (enumP xs).length = xs.length := by simp [enumP]
  refine ⟨fun x hxL => ?_, fun hxL => ⟨vs, h1, by rw [← rvl.length, ← hl]; exact hxL⟩⟩
  obtain ⟨y, hy, rfl⟩ := enumP_get hxL
  obtain ⟨v, hv, r⟩ := rvl.get hy
  refine ⟨⟨vs, v, h1, hv⟩, fun u H' z => ?_⟩
  obtain ⟨T, w, rfl, hTy, rfl, z⟩ := z
  have ew : w = v := by have := z vs h1; rw [hv] at this; exact (Option.some.inj this).symm
  subst ew
  exact ⟨upd_keep hTy, fun l1 ea eM eH => pair_rep hTy (fun z => th T z hTy) ea eM eH rfl (st.rep2 ec hN r)⟩
@[simp] def iEnumQ (d : DA) : DI := fun s => (d s).bind fun vs s1 => match vs with
  | [.lst xs] => .ok (enumP xs) s1
  | [.tup xs] => .ok (enumP xs) s1
  | _ => .bad
variable {X : Cx} {a : Expr} {dr : DA} {pos : Pos}
theorem ji_enumA {p tpos : Pos} {elts : List Expr} {kk : Nat} (ha : JA X g [a] dr) (hm : X.mg "enumerate" = none) (hg : Gl X "enumerate" := by rfl) (hs : starEach [a] X.env = [(false, eval a X.env)] := by rfl) : JI X g (.Tuple elts kk tpos) (.Call (.Name "enumerate" p) [a] [] pos) (iEnumQ dr) :=
  PI.cq (pi_enumA hg hm ha hs) fun pins s σ H Q I q => by
    obtain ⟨l, s, rfl, ok, q⟩ := q
    refine ⟨l, s, rfl, ok, ?_⟩
    simp only [iEnumQ] at q
    cases e1 : dr s with
    | bad => rw [e1] at q; exact q
    | exn e t => rw [e1] at q; exact q
    | ok vs t =>
      rw [e1] at q
      intro l1 us st1 ok1 r1
      simp only [R.bind] at q
      split at q
      · rename_i e2
        split at e2
        · rename_i xs
          cases e2
          obtain ⟨v, r, rfl, h1, h2⟩ := r1
          cases (show r = [] from h2)
          obtain ⟨b, ws, rfl, n, hb, rb⟩ := h1
          exact ⟨b, ws, rfl, .inl ⟨SqL.of hb, q l1 _ st1 ok1 (it_enum (fun l st => lst_stays (fun z => n (.inl z)) hb st) rb)⟩⟩
        · rename_i xs
          cases e2
          obtain ⟨v, r, rfl, h1, h2⟩ := r1
          cases (show r = [] from h2)
          obtain ⟨b, ws, rfl, hb, rb⟩ := h1
          refine ⟨b, ws, rfl, .inr ⟨SqT.of2 hb, q l1 _ st1 ok1 (it_enumT (fun l st => ?_) rb)⟩⟩
          rcases hb with ⟨n, hb⟩ | hb
          · exact .inl (Rd.keep (fun o e => st.keep b o (fun z => n (.inl z)) e) hb)
          · exact .inr hb
        · cases e2
      · rename_i e2
        split at e2 <;> cases e2
      · exact q.elim
end
end L3

namespace L3
open PySem PySem.Spec PyProof.Rows L2
/-! ## packages -/
/-- a def of the text, known by a global name -/
def Has (P : Program) (w : World) (K : PySem.W.Frag) (mg : Str → Option Value) (base : Heap) (CR : Addr) (x : Str) (k : Nat) (ps : List Str) (F : DF) : Prop :=
  ∃ f fd, mg x = some (.ref f) ∧ PySem.W.keepIn K (.ref f) = true ∧ Binds K fd ps [] ∧ FJ P w K mg base CR k f fd ps F
/-- a def at an address -/
def At (P : Program) (w : World) (K : PySem.W.Frag) (mg : Str → Option Value) (base : Heap) (CR f : Addr) (k : Nat) (ps : List Str) (F : DF) : Prop :=
  ∃ fd, Binds K fd ps [] ∧ FJ P w K mg base CR k f fd ps F
theorem Has.imp {P : Program} {w : World} {K : PySem.W.Frag} {mg : Str → Option Value} {base : Heap} {CR : Addr} {x : Str} {k : Nat} {ps : List Str} {F F' : DF} (h : Has P w K mg base CR x k ps F) (b : Below ps.length F' F) : Has P w K mg base CR x k ps F' :=
  let ⟨f, fd, h1, h2, h3, h4⟩ := h
  ⟨f, fd, h1, h2, h3, h4.imp b⟩
theorem At.imp {P : Program} {w : World} {K : PySem.W.Frag} {mg : Str → Option Value} {base : Heap} {CR f : Addr} {k : Nat} {ps : List Str} {F F' : DF} (h : At P w K mg base CR f k ps F) (b : Below ps.length F' F) : At P w K mg base CR f k ps F' :=
  let ⟨fd, h3, h4⟩ := h
  ⟨fd, h3, h4.imp b⟩
section
variable {X : Cx} {g : Gx} {a b c e : Expr} {es : List Expr} {da db dc de : DE} {dr : DA} {pos p : Pos} {x : Str} {f : Addr} {k n : Nat} {ps : List Str} {F : DF}
theorem At.kj (h : At X.prog X.w X.K X.mg X.base g.CR f k ps F) (hr : Room k X.A) (tk : Takes X g.W) : KJ X g f (fun qs s => if qs.length = ps.length then fnS F qs s else .bad) :=
  let ⟨fd, hb, G⟩ := h
  k_fn ps.length G hr hb tk
theorem At.ka (h : At X.prog X.w X.K X.mg X.base g.CR f k ps F) (tk : Takes X g.W) : KA X g k f (fun qs s => if qs.length = ps.length then fnS F qs s else .bad) :=
  let ⟨fd, hb, G⟩ := h
  ka_fn ps.length G hb tk
/-- how a call looks when the number of arguments is right -/
theorem KJ.of {fn fn' : List PV → S → R S PV} (h : KJ X g f fn) (i : ∀ qs s, fn' qs s = .bad ∨ fn qs s = fn' qs s) : KJ X g f fn' := fun pins s σ xs vs Q l st qs I rv ok rp run => by
  rcases i qs st with e | e
  · rw [e] at run; exact run.elim
  · exact h pins s σ xs vs Q l st qs I rv ok rp (by rw [e]; exact run)
/-- f(e, ..) -/
theorem j_callH (h : Has X.prog X.w X.K X.mg X.base g.CR x k ps F) (hr : Room k X.A) (tk : Takes X g.W) (ha : JA X g (e :: es) dr) (hn : Ln dr n := by repeat (first | with_reducible exact Ln.nil | with_reducible apply Ln.cons)) (hl : n = ps.length := by rfl) (hg : Gl X x := by rfl)
    (hdb : (x == ("__debug__" : Str)) = false := by decide) (he : starEach (e :: es) X.env = (false, eval e X.env) :: starEach es X.env := by rfl) (hpl : (backTo pos (starEach es X.env)).any (·.1) = false := by rfl) :
    JE X g (.Call (.Name x p) (e :: es) [] pos) (dFnS F dr) :=
  let ⟨_, _, hm, hk, hb, G⟩ := h
  j_call G hr hm hk hb tk ha hg (hl ▸ hn) hdb he hpl
theorem At.jr (h : At X.prog X.w X.K X.mg X.base g.CR f k ps F) (hr : Room k X.A) (tk : Takes X g.W) (n : Nat) (hn : n = ps.length := by rfl) : KJ X g f (fun qs s => if qs.length = n then fnS F qs s else .bad) := by
  subst hn
  exact h.kj hr tk
/-! ### sum -/
def intsP : List PV → Option (List Int)
  | [] => some []
  | .int i :: r => (match intsP r with | some is => some (i :: is) | none => none)
  | _ => none
theorem intsP_rep {K : PySem.W.Frag} {CR : Addr} {al : List Addr} {L : Addr → Prop} {H : Hp} : ∀ {xs : List PV} {is : List Int} {vs : List V}, intsP xs = some is → RepL K CR al L H xs vs → vs = is.map V.int
  | [], is, vs, e, r => by cases e; exact r
  | x :: xs, is, vs, e, r => by
    obtain ⟨v, w, rfl, h1, h2⟩ := r
    cases x with
    | int i =>
      unfold intsP at e
      cases q : intsP xs with
      | none => rw [q] at e; cases e
      | some js =>
        rw [q] at e
        cases e
        rw [intsP_rep q h2, show v = .int i from h1]; rfl
    | _ => cases e
@[simp] def fSumI : List PV → S → R S PV := fun ps s => match ps with
  | [.lst xs] => (match intsP xs with
    | some is => .ok (.int is.sum) s
    | none => .bad)
  | _ => .bad
theorem c_sumI (hc : X.calm = true) : CJ X g (fun us => call (.builtin "sum") us) fSumI := CJ.of (cr_sum hc) fun l st σ ps xs Q ok rp run => by
  unfold fSumI at run
  split at run
  · rename_i ys
    split at run
    · rename_i is e
      obtain ⟨v, r, rfl, h1, h2⟩ := rp
      cases (show r = [] from h2)
      obtain ⟨a, vs, rfl, _, ha, ra⟩ := h1
      exact ⟨a, is, rfl, by rw [← intsP_rep e ra]; exact SqL.of ha, run l _ (Step.refl l) ok rfl⟩
    · exact run.elim
  · exact run.elim
/-! ### is, of bools -/
@[simp] def fIsB (neg : Bool) : PV → PV → S → R S PV := fun p q s => match p, q with
  | .bl a, .bl b => .ok (.bl (xor neg (decide (a = b)))) s
  | _, _ => .bad
theorem o_isB : OJ X g (compareOp .Is) (fIsB false) := OJ.of op_isBl fun l st σ p q x y Q ok rp rq run => by
  unfold fIsB at run
  split at run
  · rename_i a b
    have z := run l (.bl (xor false (decide (a = b)))) (Step.refl l) ok rfl
    rw [Bool.false_xor] at z
    exact ⟨a, b, rp, rq, z⟩
  · exact run.elim
theorem o_notB : OJ X g (compareOp .IsNot) (fIsB true) := OJ.of op_notBl fun l st σ p q x y Q ok rp rq run => by
  unfold fIsB at run
  split at run
  · rename_i a b
    have z := run l (.bl (xor true (decide (a = b)))) (Step.refl l) ok rfl
    rw [Bool.true_xor] at z
    exact ⟨a, b, rp, rq, z⟩
  · exact run.elim
/-! ### the attribute of a property, a global constant -/
theorem j_gint {i : Int} {u : Value} (hm : X.mg x = some u) (r : RelV (.int i) u) (hg : Gl X x := by rfl) (hd : (x == ("__debug__" : Str)) = false := by decide) : JE X g (.Name x pos) (dC (.int i)) := jc (pe_glob hg hm r hd) fun _ => rfl
theorem j_gadr {a : Addr} (hm : X.mg x = some (.ref a)) (hg : Gl X x := by rfl) (hd : (x == ("__debug__" : Str)) = false := by decide) : JE X g (.Name x pos) (dC (.adr a)) := jc (pe_glob (v := .ref a) hg hm rfl hd) fun _ => rfl
end
end L3

namespace L3
open PySem PySem.Spec PyProof.Rows L2
/-! ## the operators as one function each; what a generated text uses -/
theorem OJ.below {X : Cx} {g : Gx} {fn : Value → Value → Sem Value} {f f' : PV → PV → S → R S PV} (h : OJ X g fn f) (i : ∀ p q s, f' p q s = .bad ∨ f p q s = f' p q s) : OJ X g fn f' := fun pins s σ x y v u Q l st p q I rx ry ok rp rq run => by
  rcases i p q st with e | e
  · rw [e] at run; exact run.elim
  · exact h pins s σ x y v u Q l st p q I rx ry ok rp rq (by rw [e]; exact run)
@[simp] def gAdd : PV → PV → S → R S PV := fun p q s => match p, q with
  | .int i, .int j => .ok (.int (i + j)) s
  | .lst xs, .lst ys => if xs.length + ys.length ≤ 16777216 then .ok (.lst (xs ++ ys)) s else .bad
  | .tup xs, .tup ys => if xs.length + ys.length ≤ 16777216 then .ok (.tup (xs ++ ys)) s else .bad
  | .str x, .str y => if x.length + y.length ≤ 16777216 then .ok (.str (x ++ y)) s else .bad
  | _, _ => .bad
@[simp] def gSub : PV → PV → S → R S PV := fun p q s => match p, q with
  | .int i, .int j => .ok (.int (i - j)) s
  | _, _ => .bad
@[simp] def gMul : PV → PV → S → R S PV := fun p q s => match p, q with
  | .int i, .int j => if ib i + ib j ≤ 1000000 then .ok (.int (i * j)) s else .bad
  | .lst xs, .int k => if -(2 ^ 63) ≤ k ∧ k < 2 ^ 63 ∧ xs.length * k.toNat ≤ 16777216 then .ok (.lst (List.replicate k.toNat xs).flatten) s else .bad
  | _, _ => .bad
@[simp] def gFdiv : PV → PV → S → R S PV := fun p q s => match p, q with
  | .int i, .int j => if 0 < j ∧ ib j ≤ 9000 then .ok (.int (i / j)) s else if j < 0 ∧ j.natAbs < 1073741824 then .ok (.int (i.fdiv j)) s else .bad
  | _, _ => .bad
@[simp] def gMod : PV → PV → S → R S PV := fun p q s => match p, q with
  | .int i, .int j => if j ≠ 0 then .ok (.int (i.fmod j)) s else .bad
  | _, _ => .bad
@[simp] def gPow : PV → PV → S → R S PV := fun p q s => match p, q with
  | .int i, .int j => if 0 ≤ j ∧ j ≤ 1000000 ∧ i.natAbs < 2 ^ 64 then .ok (.int (i ^ j.toNat)) s else .bad
  | _, _ => .bad
@[simp] def gLt : PV → PV → S → R S PV := fun p q s => match p, q with
  | .int i, .int j => .ok (.bl (decide (i < j))) s
  | _, _ => .bad
@[simp] def gLe : PV → PV → S → R S PV := fun p q s => match p, q with
  | .int i, .int j => .ok (.bl (decide (i ≤ j))) s
  | _, _ => .bad
@[simp] def gGt : PV → PV → S → R S PV := fun p q s => match p, q with
  | .int i, .int j => .ok (.bl (decide (j < i))) s
  | _, _ => .bad
@[simp] def gGe : PV → PV → S → R S PV := fun p q s => match p, q with
  | .int i, .int j => .ok (.bl (decide (j ≤ i))) s
  | _, _ => .bad
/-! ### == of data -/
mutual
def okD : Nat → PV → Bool
  | _, .non => true
  | _, .bl _ => true
  | _, .int _ => true
  | _, .str x => SeqAt.shaped (.str x)
  | n + 1, .tup xs => okDL n xs
  | n + 1, .lst xs => okDL n xs
  | n + 1, .frz xs => okDL n xs
  | _, _ => false
def okDL : Nat → List PV → Bool
  | _, [] => true
  | n, x :: xs => okD n x && okDL n xs
end
mutual
def eqP : PV → PV → Bool
  | .non, .non => true
  | .bl a, .bl b => a == b
  | .bl a, .int j => (if a then 1 else 0) == j
  | .int i, .bl b => i == (if b then 1 else 0)
  | .int i, .int j => i == j
  | .str x, .str y => x == y
  | .tup xs, .tup ys => eqPL xs ys
  | .lst xs, .lst ys => eqPL xs ys
  | .lst xs, .frz ys => eqPL xs ys
  | .frz xs, .lst ys => eqPL xs ys
  | .frz xs, .frz ys => eqPL xs ys
  | _, _ => false
def eqPL : List PV → List PV → Bool
  | [], [] => true
  | x :: xs, y :: ys => eqP x y && eqPL xs ys
  | _, _ => false
end
mutual
theorem okD_dat : ∀ (n : Nat) (p : PV), okD n p = true → ∃ d, p.dat = some d ∧ d.canLay0 = true ∧ d.depth ≤ n
  | n, .non, _ => ⟨_, rfl, rfl, Nat.zero_le _⟩
  | n, .bl _, _ => ⟨_, rfl, rfl, Nat.zero_le _⟩
  | n, .int _, _ => ⟨_, rfl, rfl, Nat.zero_le _⟩
  | n, .str x, h => by
    have h : SeqAt.shaped (.str x) = true := by cases n <;> exact h
    exact ⟨_, rfl, SeqAt.canLay_of_shaped h, Nat.zero_le _⟩
  | n + 1, .tup xs, h => by
    obtain ⟨ds, h1, h2, h3⟩ := okDL_dat n xs (by unfold okD at h; exact h)
    exact ⟨.tuple ds, by unfold PV.dat; rw [h1], h2, Nat.succ_le_succ h3⟩
  | n + 1, .lst xs, h => by
    obtain ⟨ds, h1, h2, h3⟩ := okDL_dat n xs (by unfold okD at h; exact h)
    exact ⟨.list ds, by unfold PV.dat; rw [h1], h2, Nat.succ_le_succ h3⟩
  | n + 1, .frz xs, h => by
    obtain ⟨ds, h1, h2, h3⟩ := okDL_dat n xs (by unfold okD at h; exact h)
    exact ⟨.list ds, by unfold PV.dat; rw [h1], h2, Nat.succ_le_succ h3⟩
  | 0, .tup xs, h => by unfold okD at h; cases h
  | 0, .lst xs, h => by unfold okD at h; cases h
  | 0, .frz xs, h => by unfold okD at h; cases h
  | n, .rat _, h => by cases n <;> (unfold okD at h; cases h)
  | n, .obj _ _ _, h => by cases n <;> (unfold okD at h; cases h)
  | n, .ptr _, h => by cases n <;> (unfold okD at h; cases h)
  | n, .adr _, h => by cases n <;> (unfold okD at h; cases h)
  | n, .ty _, h => by cases n <;> (unfold okD at h; cases h)
  | n, .dk _ _, h => by cases n <;> (unfold okD at h; cases h)
  | n, .dt _ _, h => by cases n <;> (unfold okD at h; cases h)
  | n, .exc _ _ _, h => by cases n <;> (unfold okD at h; cases h)
theorem okDL_dat : ∀ (n : Nat) (xs : List PV), okDL n xs = true → ∃ ds, PV.datL xs = some ds ∧ PyData.canLayAll0 ds = true ∧ PyData.depthAll ds ≤ n
  | n, [], _ => ⟨[], rfl, rfl, Nat.zero_le _⟩
  | n, x :: xs, h => by
    have h : (okD n x && okDL n xs) = true := by unfold okDL at h; exact h
    rw [Bool.and_eq_true] at h
    obtain ⟨d, h1, h2, h3⟩ := okD_dat n x h.1
    obtain ⟨ds, g1, g2, g3⟩ := okDL_dat n xs h.2
    refine ⟨d :: ds, by unfold PV.datL; rw [h1, g1], ?_, ?_⟩
    · show (d.canLay0 && PyData.canLayAll0 ds) = true
      rw [h2, g2]; rfl
    · show max d.depth (PyData.depthAll ds) ≤ n
      exact Nat.max_le.mpr ⟨h3, g3⟩
end
mutual
theorem eqP_ok : ∀ (p q : PV) (d e : PyData), p.dat = some d → q.dat = some e → PyData.eqv d e = eqP p q
  | .non, q, d, e, h1, h2 => by
    cases h1
    cases q <;> first | (cases h2; rfl) | (unfold PV.dat at h2; split at h2 <;> first | (cases h2; rfl) | cases h2) | cases h2
  | .bl a, q, d, e, h1, h2 => by
    cases h1
    cases q <;> first | (cases h2; rfl) | (unfold PV.dat at h2; split at h2 <;> first | (cases h2; rfl) | cases h2) | cases h2
  | .int a, q, d, e, h1, h2 => by
    cases h1
    cases q <;> first | (cases h2; rfl) | (unfold PV.dat at h2; split at h2 <;> first | (cases h2; rfl) | cases h2) | cases h2
  | .str a, q, d, e, h1, h2 => by
    cases h1
    cases q <;> first | (cases h2; rfl) | (unfold PV.dat at h2; split at h2 <;> first | (cases h2; rfl) | cases h2) | cases h2
  | .tup xs, q, d, e, h1, h2 => by
    unfold PV.dat at h1
    split at h1
    · rename_i ds e1
      cases h1
      cases q with
      | tup ys =>
        unfold PV.dat at h2
        split at h2
        · rename_i es e2
          cases h2
          show PyData.eqvAll ds es = eqP (.tup xs) (.tup ys)
          rw [eqPL_ok xs ys ds es e1 e2]; simp only [eqP]
        · cases h2
      | lst ys => unfold PV.dat at h2; split at h2 <;> first | (cases h2; simp only [eqP]; rfl) | cases h2
      | frz ys => unfold PV.dat at h2; split at h2 <;> first | (cases h2; simp only [eqP]; rfl) | cases h2
      | non => cases h2; simp only [eqP]; rfl
      | bl b => cases h2; simp only [eqP]; rfl
      | int b => cases h2; simp only [eqP]; rfl
      | str b => cases h2; simp only [eqP]; rfl
      | _ => cases h2
    · cases h1
  | .lst xs, q, d, e, h1, h2 => by
    unfold PV.dat at h1
    split at h1
    · rename_i ds e1
      cases h1
      cases q with
      | lst ys =>
        unfold PV.dat at h2
        split at h2
        · rename_i es e2
          cases h2
          show PyData.eqvAll ds es = eqP (.lst xs) (.lst ys)
          rw [eqPL_ok xs ys ds es e1 e2]; simp only [eqP]
        · cases h2
      | frz ys =>
        unfold PV.dat at h2
        split at h2
        · rename_i es e2
          cases h2
          show PyData.eqvAll ds es = eqP (.lst xs) (.frz ys)
          rw [eqPL_ok xs ys ds es e1 e2]; simp only [eqP]
        · cases h2
      | tup ys => unfold PV.dat at h2; split at h2 <;> first | (cases h2; simp only [eqP]; rfl) | cases h2
      | non => cases h2; simp only [eqP]; rfl
      | bl b => cases h2; simp only [eqP]; rfl
      | int b => cases h2; simp only [eqP]; rfl
      | str b => cases h2; simp only [eqP]; rfl
      | _ => cases h2
    · cases h1
  | .frz xs, q, d, e, h1, h2 => by
    unfold PV.dat at h1
    split at h1
    · rename_i ds e1
      cases h1
      cases q with
      | lst ys =>
        unfold PV.dat at h2
        split at h2
        · rename_i es e2
          cases h2
          show PyData.eqvAll ds es = eqP (.frz xs) (.lst ys)
          rw [eqPL_ok xs ys ds es e1 e2]; simp only [eqP]
        · cases h2
      | frz ys =>
        unfold PV.dat at h2
        split at h2
        · rename_i es e2
          cases h2
          show PyData.eqvAll ds es = eqP (.frz xs) (.frz ys)
          rw [eqPL_ok xs ys ds es e1 e2]; simp only [eqP]
        · cases h2
      | tup ys => unfold PV.dat at h2; split at h2 <;> first | (cases h2; simp only [eqP]; rfl) | cases h2
      | non => cases h2; simp only [eqP]; rfl
      | bl b => cases h2; simp only [eqP]; rfl
      | int b => cases h2; simp only [eqP]; rfl
      | str b => cases h2; simp only [eqP]; rfl
      | _ => cases h2
    · cases h1
  | .rat _, _, _, _, h1, _ => nomatch h1
  | .obj _ _ _, _, _, _, h1, _ => nomatch h1
  | .ptr _, _, _, _, h1, _ => nomatch h1
  | .adr _, _, _, _, h1, _ => nomatch h1
  | .ty _, _, _, _, h1, _ => nomatch h1
theorem eqPL_ok : ∀ (xs ys : List PV) (ds es : List PyData), PV.datL xs = some ds → PV.datL ys = some es → PyData.eqvAll ds es = eqPL xs ys
  | [], [], ds, es, h1, h2 => by cases h1; cases h2; simp only [eqPL]; rfl
  | [], y :: ys, ds, es, h1, h2 => by
    cases h1
    unfold PV.datL at h2
    split at h2
    · cases h2; simp only [eqPL]; rfl
    · cases h2
  | x :: xs, [], ds, es, h1, h2 => by
    cases h2
    unfold PV.datL at h1
    split at h1
    · cases h1; simp only [eqPL]; rfl
    · cases h1
  | x :: xs, y :: ys, ds, es, h1, h2 => by
    unfold PV.datL at h1 h2
    split at h1
    · rename_i d ds' e1 e2
      cases h1
      split at h2
      · rename_i e es' e3 e4
        cases h2
        show (PyData.eqv d e && PyData.eqvAll ds' es') = eqPL (x :: xs) (y :: ys)
        rw [eqP_ok x y d e e1 e3, eqPL_ok xs ys ds' es' e2 e4]; simp only [eqPL]
      · cases h2
    · cases h1
end
@[simp] def gEqD (neg : Bool) : PV → PV → S → R S PV := fun p q s => if okD 8 p = true ∧ okD 8 q = true then .ok (.bl (xor neg (eqP p q))) s else .bad
theorem gEqD_ok (neg : Bool) (p q : PV) (s : S) : gEqD neg p q s = .bad ∨ fEqD neg p q s = gEqD neg p q s := by
  unfold gEqD
  by_cases h : okD 8 p = true ∧ okD 8 q = true
  · obtain ⟨d, d1, d2, d3⟩ := okD_dat 8 p h.1
    obtain ⟨e, e1, e2, e3⟩ := okD_dat 8 q h.2
    refine .inr ?_
    rw [if_pos h]
    unfold fEqD
    rw [d1, e1]
    have sd : SeqAt.shaped d = true := by unfold SeqAt.shaped; rw [d2, Bool.true_and]; exact decide_eq_true (by omega)
    have se : SeqAt.shaped e = true := by unfold SeqAt.shaped; rw [e2, Bool.true_and]; exact decide_eq_true (by omega)
    show (if SeqAt.shaped d = true ∧ SeqAt.shaped e = true then _ else _) = _
    rw [if_pos ⟨sd, se⟩, eqP_ok p q d e d1 e1]
  · rw [if_neg h]; exact .inl rfl
section
variable {X : Cx} {g : Gx}
theorem o_add : OJ X g (binaryOp .Add) gAdd := ((o_addI).or (o_catL.or (o_catT.or o_catS))).below fun p q s => by cases p <;> first | exact .inl rfl | (cases q <;> first | exact .inl rfl | exact .inr rfl | (simp only [gAdd, orB, fI2]; split <;> simp))
theorem o_sub : OJ X g (binaryOp .Sub) gSub := o_subI.below fun p q s => by cases p <;> first | exact .inl rfl | (cases q <;> first | exact .inl rfl | exact .inr rfl)
theorem o_mul : OJ X g (binaryOp .Mult) gMul := (o_mulI.or o_repL).below fun p q s => by cases p <;> first | exact .inl rfl | (cases q <;> first | exact .inl rfl | exact .inr rfl | (simp only [gMul, orB, fI2, FMul]; split <;> simp_all))
theorem o_fdiv : OJ X g (binaryOp .FloorDiv) gFdiv := o_fdivI.below fun p q s => by cases p <;> first | exact .inl rfl | (cases q <;> first | exact .inl rfl | exact .inr rfl | (simp only [gFdiv, fI2, FFdiv]; split <;> first | exact .inr rfl | (split <;> first | exact .inr rfl | exact .inl rfl)))
theorem o_mod : OJ X g (binaryOp .Mod) gMod := o_modI.below fun p q s => by cases p <;> first | exact .inl rfl | (cases q <;> first | exact .inl rfl | exact .inr rfl | (simp only [gMod, fI2, FMod]; split <;> first | exact .inr rfl | exact .inl rfl))
theorem o_pow : OJ X g (binaryOp .Pow) gPow := o_powI.below fun p q s => by cases p <;> first | exact .inl rfl | (cases q <;> first | exact .inl rfl | exact .inr rfl | (simp only [gPow, fI2, FPow]; split <;> first | exact .inr rfl | exact .inl rfl))
theorem o_ltI : OJ X g (compareOp .Lt) gLt := o_lt.below fun p q s => by cases p <;> first | exact .inl rfl | (cases q <;> first | exact .inl rfl | exact .inr rfl)
theorem o_leI : OJ X g (compareOp .LtE) gLe := o_le.below fun p q s => by cases p <;> first | exact .inl rfl | (cases q <;> first | exact .inl rfl | exact .inr rfl)
theorem o_gtI : OJ X g (compareOp .Gt) gGt := o_gt.below fun p q s => by cases p <;> first | exact .inl rfl | (cases q <;> first | exact .inl rfl | exact .inr rfl)
theorem o_geI : OJ X g (compareOp .GtE) gGe := o_ge.below fun p q s => by cases p <;> first | exact .inl rfl | (cases q <;> first | exact .inl rfl | exact .inr rfl)
theorem o_eq (hu : X.A.units + 64 < cLine) : OJ X g (compareOp .Eq) (gEqD false) := (o_eqD hu).below fun p q s => gEqD_ok false p q s
theorem o_ne (hu : X.A.units + 64 < cLine) : OJ X g (compareOp .NotEq) (gEqD true) := (o_neD hu).below fun p q s => gEqD_ok true p q s
end
/-! ### fuel -/
@[simp] def fuI (i : Nat) : S → Nat := fun s => match s.env[i]? with
  | some (some (.val (.int n))) => n.natAbs + 1
  | _ => 0
@[simp] def fuL (i : Nat) : S → Nat := fun s => match s.env[i]? with
  | some (some (.own xs)) => xs.length + 1
  | some (some (.val (.lst xs))) => xs.length + 1
  | _ => 0
/-- the statements of a class -/
def clsBody : Stmt → List Stmt
  | .ClassDef _ _ _ body _ _ _ _ _ _ _ => body
  | _ => []
theorem fn_of_class : True := trivial
end L3

namespace L3
open PySem PySem.Spec PyProof.Rows L2
/-! ## the class Ratio as a package -/
@[simp] def bInt : TP → Option Bool
  | .int => some true | .bl => some true | .cls _ => none | _ => some false
@[simp] def bBool : TP → Option Bool
  | .bl => some true | .cls _ => none | _ => some false
@[simp] def bStr : TP → Option Bool
  | .str => some true | .cls _ => none | _ => some false
@[simp] def bTup : TP → Option Bool
  | .tup => some true | .cls _ => none | _ => some false
@[simp] def bLst : TP → Option Bool
  | .lst => some true | .cls _ => none | _ => some false
@[simp] def bRat : TP → Option Bool
  | .rat => some true | .cls _ => none | _ => some false
def eqB (a b : Option Bool) : Bool := decide (a = b)
/-- what is asked of the text for isinstance -/
def isiB (K : PySem.W.Frag) (CR : Addr) : Bool :=
  eqB (PySem.W.kitOne K (.ref CR) (.type "int")) (some false) && (eqB (PySem.W.kitOne K (.ref CR) (.type "bool")) (some false) && (eqB (PySem.W.kitOne K (.ref CR) (.type "str")) (some false) && (eqB (PySem.W.kitOne K (.ref CR) (.type "tuple")) (some false) && (eqB (PySem.W.kitOne K (.ref CR) (.type "list")) (some false) &&
  (eqB (PySem.W.kitOne K (.ref CR) (.ref CR)) (some true) && (["NoneType", "bool", "int", "str", "tuple", "list", "dict"].all fun t => eqB (PySem.W.kitOne K (.type t) (.ref CR)) (some false)))))))
def clsIB (K : PySem.W.Frag) (C : Addr) : Bool := He.eqO (PySem.W.findIn K (.ref C) "__class__") (some (some (.builtin "object.__class__"))) && eqB (PySem.W.mroIn K C (.type "object")) (some true)
def kisiB (K : PySem.W.Frag) : Bool := He.eqO (PySem.W.specialIn K (.builtin "object.__class__") "__get__") (some (some (.builtin "getset_descriptor.__get__"))) && eqB (PySem.W.takesIn K (.builtin "object.__class__")) (some true)
theorem kisi_ok {K : PySem.W.Frag} (h : kisiB K = true) : KIsi K := by
  obtain ⟨h1, h2⟩ := He.ba h
  exact ⟨He.eqO_ok h1, of_decide_eq_true h2⟩
theorem clsI_ok {K : PySem.W.Frag} {C : Addr} (c : Cls K C) (h : clsIB K C = true) : ClsI K C := by
  obtain ⟨h1, h2⟩ := He.ba h
  exact ⟨c, He.eqO_ok h1, of_decide_eq_true h2⟩
structure IsiR (K : PySem.W.Frag) (CR : Addr) : Prop where
  kk : KIsi K
  int : IsiK K CR (.type "int") bInt
  bool : IsiK K CR (.type "bool") bBool
  str : IsiK K CR (.type "str") bStr
  tup : IsiK K CR (.type "tuple") bTup
  lst : IsiK K CR (.type "list") bLst
  rat : IsiK K CR (.ref CR) bRat
theorem isiR_ok {K : PySem.W.Frag} {CR : Addr} (k : kisiB K = true) (c : ClsI K CR) (h : isiB K CR = true) : IsiR K CR := by
  obtain ⟨h1, h⟩ := He.ba h
  obtain ⟨h2, h⟩ := He.ba h
  obtain ⟨h3, h⟩ := He.ba h
  obtain ⟨h4, h⟩ := He.ba h
  obtain ⟨h5, h⟩ := He.ba h
  obtain ⟨h6, h7⟩ := He.ba h
  have h7' : ∀ t ∈ ["NoneType", "bool", "int", "str", "tuple", "list", "dict"], PySem.W.kitOne K (.type t) (.ref CR) = some false := fun t ht => of_decide_eq_true (List.all_eq_true.mp h7 t ht)
  have cc : ∀ {tp : TP} {C : Addr}, (∀ D, tp ≠ .cls D) → (tp = .cls C ∨ (tp = .rat ∧ C = CR)) → ClsI K C := fun n z => by
    rcases z with z | ⟨_, z⟩
    · exact absurd z (n _)
    · rw [z]; exact c
  refine ⟨kisi_ok k, ?_, ?_, ?_, ?_, ?_, ?_⟩
  · intro tp r e
    cases tp <;> first
      | (cases e; exact ⟨kit_ty (by decide +kernel), fun C z => cc (by intro D y; cases y) z⟩)
      | (cases e; exact ⟨of_decide_eq_true h1, fun C z => cc (by intro D y; cases y) z⟩)
      | cases e
  · intro tp r e
    cases tp <;> first
      | (cases e; exact ⟨kit_ty (by decide +kernel), fun C z => cc (by intro D y; cases y) z⟩)
      | (cases e; exact ⟨of_decide_eq_true h2, fun C z => cc (by intro D y; cases y) z⟩)
      | cases e
  · intro tp r e
    cases tp <;> first
      | (cases e; exact ⟨kit_ty (by decide +kernel), fun C z => cc (by intro D y; cases y) z⟩)
      | (cases e; exact ⟨of_decide_eq_true h3, fun C z => cc (by intro D y; cases y) z⟩)
      | cases e
  · intro tp r e
    cases tp <;> first
      | (cases e; exact ⟨kit_ty (by decide +kernel), fun C z => cc (by intro D y; cases y) z⟩)
      | (cases e; exact ⟨of_decide_eq_true h4, fun C z => cc (by intro D y; cases y) z⟩)
      | cases e
  · intro tp r e
    cases tp <;> first
      | (cases e; exact ⟨kit_ty (by decide +kernel), fun C z => cc (by intro D y; cases y) z⟩)
      | (cases e; exact ⟨of_decide_eq_true h5, fun C z => cc (by intro D y; cases y) z⟩)
      | cases e
  · intro tp r e
    cases tp <;> first
      | (cases e; exact ⟨h7' _ (by simp), fun C z => cc (by intro D y; cases y) z⟩)
      | (cases e; exact ⟨of_decide_eq_true h6, fun C z => cc (by intro D y; cases y) z⟩)
      | cases e
/-- Ratio(..) -/
def HasR (P : Program) (w : World) (K : PySem.W.Frag) (mg : Str → Option Value) (base : Heap) (CR : Addr) (k : Nat) (okb : Int → Int → Bool) : Prop :=
  mg "Ratio" = some (.ref CR) ∧ ∃ f fd one, Mk K CR f ∧ Binds K fd ["self", "top", "bottom"] [] ∧ Binds K fd ["self", "top", "bottom"] [one] ∧ RelV (.int 1) one ∧ FJ P w K mg base CR k f fd ["self", "top", "bottom"] (FInit CR okb)
section
variable {X : Cx} {g : Gx} {a b c e : Expr} {es : List Expr} {da db dc de : DE} {dr : DA} {pos p : Pos} {x : Str} {f : Addr} {k n : Nat} {ps : List Str} {F : DF} {okb : Int → Int → Bool}
theorem j_callR (h : HasR X.prog X.w X.K X.mg X.base g.CR k okb) (hr : Room (k + 1) X.A) (ha : JA X g (e :: es) dr) (hg : Gl X "Ratio" := by rfl)
    (he : starEach (e :: es) X.env = (false, eval e X.env) :: starEach es X.env := by rfl) (hpl : (backTo pos (starEach es X.env)).any (·.1) = false := by rfl) : JE X g (.Call (.Name "Ratio" p) (e :: es) [] pos) (dFn (fMakeR okb) dr) :=
  let ⟨hm, _, _, _, M, hb, hb1, h1, G⟩ := h
  j_callG (c_makeR M G hr hb hb1 h1) hg hm M.kp ha (by decide) he hpl
theorem j_isR (E : IsiR X.K g.CR) (hR : X.mg "Ratio" = some (.ref g.CR)) (hm : X.mg "isinstance" = none) (ha : JE X g a da) (hg : Gl X "isinstance" := by rfl) (hg2 : Gl X "Ratio" := by rfl)
    (h1 : starEach [a, .Name "Ratio" p] X.env = (false, eval a X.env) :: starEach [.Name "Ratio" p] X.env := by rfl) (h2 : starEach [.Name "Ratio" p] X.env = (false, eval (.Name "Ratio" p) X.env) :: starEach [] X.env := by rfl) (hpl : (backTo pos (starEach [.Name "Ratio" p] X.env)).any (·.1) = false := by rfl) {q : Pos} :
    JE X g (.Call (.Name "isinstance" q) [a, .Name "Ratio" p] [] pos) (dUn (fIsi bRat) da) := j_isi E.kk E.rat (.own g.CR) ha (pe_glob hg2 hR rfl) hg hm h1 h2 hpl
theorem j_isT {T : String} {y : Str} {bb : TP → Option Bool} (kk : KIsi X.K) (ii : IsiK X.K g.CR (.type T) bb) (hy : X.mg y = none) (hv : bootBuiltins y = some (.type T)) (hm : X.mg "isinstance" = none) (ha : JE X g a da) (hg : Gl X "isinstance" := by rfl) (hg2 : Gl X y := by rfl) (hn : y ≠ "__name__" := by decide) (hd : (y == ("__debug__" : Str)) = false := by decide)
    (h1 : starEach [a, .Name y p] X.env = (false, eval a X.env) :: starEach [.Name y p] X.env := by rfl) (h2 : starEach [.Name y p] X.env = (false, eval (.Name y p) X.env) :: starEach [] X.env := by rfl) (hpl : (backTo pos (starEach [.Name y p] X.env)).any (·.1) = false := by rfl) {q : Pos} :
    JE X g (.Call (.Name "isinstance" q) [a, .Name y p] [] pos) (dUn (fIsi bb) da) := j_isi kk ii (.ty T) ha (pe_bltn (v := .ty T) hg2 hy hv rfl hn hd) hg hm h1 h2 hpl
end
end L3

namespace L3
open PySem PySem.Spec PyProof.Rows L2
/-! ## methods of Ratio as packages -/
def F_top : DF := fun ps mu => match ps with
  | [.rat q] => .ok (.int q.num) mu
  | _ => .bad
def F_bottom : DF := fun ps mu => match ps with
  | [.rat q] => .ok (.int q.den) mu
  | _ => .bad
@[simp] def fMt (n : Nat) (F : DF) : List PV → S → R S PV := fun qs s => if qs.length = n then fnS F qs s else .bad
@[simp] def fCm (n : Nat) (CR : Addr) (F : DF) : List PV → S → R S PV := fun qs s => if qs.length + 1 = n then fnS F (.adr CR :: qs) s else .bad
def HasP (P : Program) (w : World) (K : PySem.W.Frag) (mg : Str → Option Value) (base : Heap) (CR : Addr) (fl : Str) (k : Nat) (F : DF) : Prop :=
  ∃ pA gA fd, PropOf K CR fl pA gA ∧ Binds K fd ["self"] [] ∧ FJ P w K mg base CR k gA fd ["self"] F
def HasM (P : Program) (w : World) (K : PySem.W.Frag) (mg : Str → Option Value) (base : Heap) (CR : Addr) (m : Str) (k : Nat) (ps : List Str) (F : DF) : Prop :=
  ∃ f, Meth K CR m f ∧ At P w K mg base CR f k ps F
def HasC (P : Program) (w : World) (K : PySem.W.Frag) (mg : Str → Option Value) (base : Heap) (CR : Addr) (m : Str) (k : Nat) (ps : List Str) (F : DF) : Prop :=
  mg "Ratio" = some (.ref CR) ∧ ∃ mc pA gA, ClX.CRead K CR mc ∧ ClX.CMet K CR mc m pA gA ∧ At P w K mg base CR gA k ps F
def HasS (P : Program) (w : World) (K : PySem.W.Frag) (mg : Str → Option Value) (base : Heap) (CR : Addr) (m : Str) (k : Nat) (ps : List Str) (F : DF) : Prop :=
  mg "Ratio" = some (.ref CR) ∧ ∃ mc pA gA rest, ClX.CRead K CR mc ∧ PySem.W.findCls K (.ref CR) mc m = some (.get (.builtin "staticmethod.__get__") (.ref pA) .none (.ref CR)) ∧ PySem.W.recIn K pA "staticmethod" = some (.ref gA :: rest) ∧ PySem.W.keepIn K (.ref gA) = true ∧ At P w K mg base CR gA k ps F
section
variable {X : Cx} {g : Gx} {a b c e o : Expr} {es : List Expr} {da db dc de dob : DE} {dr : DA} {pos p apos : Pos} {x m : Str} {f : Addr} {k : Nat} {ps : List Str} {F : DF}
theorem JE.eq {d d' : DE} (h : JE X g e d) (i : ∀ s, d' s = d s) : JE X g e d' := (funext i : d' = d) ▸ h
theorem j_ptop (h : HasP X.prog X.w X.K X.mg X.base g.CR "top" k F_top) (T : ClsR X.K g.CR) (hr : Room (k + 1) X.A) (he : JE X g e de) (hab : attributeBase e "top" X.env (eval e X.env) = eval e X.env := by rfl) : JE X g (.Attribute e "top" pos) (dUn fTop de) :=
  let ⟨_, _, _, hp, hb, G⟩ := h
  (j_propR T hp G hr hb he hab).eq fun s => by
    show (de s).bind _ = (de s).bind _
    congr 1
theorem j_pbot (h : HasP X.prog X.w X.K X.mg X.base g.CR "bottom" k F_bottom) (T : ClsR X.K g.CR) (hr : Room (k + 1) X.A) (he : JE X g e de) (hab : attributeBase e "bottom" X.env (eval e X.env) = eval e X.env := by rfl) : JE X g (.Attribute e "bottom" pos) (dUn fBot de) :=
  let ⟨_, _, _, hp, hb, G⟩ := h
  (j_propR T hp G hr hb he hab).eq fun s => by
    show (de s).bind _ = (de s).bind _
    congr 1
theorem j_mR {pl : Sem Bool} {n : Nat} (h : HasM X.prog X.w X.K X.mg X.base g.CR m k ps F) (T : ClsR X.K g.CR) (hr : Room k X.A) (tk : Takes X g.W) (ho : JE X g o dob) (ha : JA X g (e :: es) dr) (hn : n = ps.length := by rfl) (ht : m ≠ sTop := by decide) (hbo : m ≠ sBot := by decide)
    (hst : starEach (e :: es) X.env = (false, eval e X.env) :: starEach es X.env := by rfl) (hpl : (backTo pos (starEach es X.env)).any (·.1) = false := by rfl)
    (htr : eval (.Call (.Attribute o m apos) (e :: es) [] pos) X.env = (do
      let ov ← eval o X.env
      standAt apos.atName
      let (f, first) ← holding [ov] (getMethod ov m pl)
      callWith pos f first (backTo pos (starEach (e :: es) X.env)) (backToKw pos (keywordEach [] X.env))) := by rfl) :
    JE X g (.Call (.Attribute o m apos) (e :: es) [] pos) (dMethR (fMt n F) dob dr) :=
  let ⟨_, M, hA⟩ := h
  j_methR T M ht hbo (hA.jr hr tk n hn) ho ha hst hpl htr
theorem j_mR0 {pl : Sem Bool} {n : Nat} (h : HasM X.prog X.w X.K X.mg X.base g.CR m k ps F) (T : ClsR X.K g.CR) (hr : Room k X.A) (tk : Takes X g.W) (ho : JE X g o dob) (hn : n = ps.length := by rfl) (ht : m ≠ sTop := by decide) (hbo : m ≠ sBot := by decide)
    (htr : eval (.Call (.Attribute o m apos) [] [] pos) X.env = (do
      let ov ← eval o X.env
      standAt apos.atName
      let (f, first) ← holding [ov] (getMethod ov m pl)
      callWith pos f first (backTo pos (starEach [] X.env)) (backToKw pos (keywordEach [] X.env))) := by rfl) :
    JE X g (.Call (.Attribute o m apos) [] [] pos) (dMethR (fMt n F) dob dNil) :=
  let ⟨_, M, hA⟩ := h
  j_methR0 T M ht hbo (hA.jr hr tk n hn) ho htr
theorem j_cR {pl : Sem Bool} {n : Nat} (h : HasC X.prog X.w X.K X.mg X.base g.CR m k ps F) (hr : Room k X.A) (tk : Takes X g.W) (ha : JA X g (e :: es) dr) (hn : n = ps.length := by rfl) (hg : Gl X "Ratio" := by rfl)
    (hst : starEach (e :: es) X.env = (false, eval e X.env) :: starEach es X.env := by rfl) (hpl : (backTo pos (starEach es X.env)).any (·.1) = false := by rfl)
    (htr : eval (.Call (.Attribute (.Name "Ratio" p) m apos) (e :: es) [] pos) X.env = (do
      let ov ← eval (.Name "Ratio" p) X.env
      standAt apos.atName
      let (f, first) ← holding [ov] (getMethod ov m pl)
      callWith pos f first (backTo pos (starEach (e :: es) X.env)) (backToKw pos (keywordEach [] X.env))) := by rfl) :
    JE X g (.Call (.Attribute (.Name "Ratio" p) m apos) (e :: es) [] pos) (dFn (fCm n g.CR F) dr) :=
  let ⟨hm, _, _, _, r, cm, hA⟩ := h
  j_cmeth r cm (hA.jr hr tk n hn) hg hm ha (by decide) hst hpl htr
theorem j_sR {pl : Sem Bool} {n : Nat} (h : HasS X.prog X.w X.K X.mg X.base g.CR m k ps F) (hr : Room k X.A) (tk : Takes X g.W) (ha : JA X g (e :: es) dr) (hn : n = ps.length := by rfl) (hg : Gl X "Ratio" := by rfl)
    (hst : starEach (e :: es) X.env = (false, eval e X.env) :: starEach es X.env := by rfl) (hpl : (backTo pos (starEach es X.env)).any (·.1) = false := by rfl)
    (htr : eval (.Call (.Attribute (.Name "Ratio" p) m apos) (e :: es) [] pos) X.env = (do
      let ov ← eval (.Name "Ratio" p) X.env
      standAt apos.atName
      let (f, first) ← holding [ov] (getMethod ov m pl)
      callWith pos f first (backTo pos (starEach (e :: es) X.env)) (backToKw pos (keywordEach [] X.env))) := by rfl) :
    JE X g (.Call (.Attribute (.Name "Ratio" p) m apos) (e :: es) [] pos) (dFn (fMt n F) dr) :=
  let ⟨hm, _, _, _, _, r, h1, h2, hk, hA⟩ := h
  j_smeth r h1 h2 hk (hA.jr hr tk n hn) hg hm ha (by decide) hst hpl htr
end
end L3

namespace L3
open PySem PySem.Spec PyProof.Rows L2
/-! ## x, y = e1, e2 in one stroke (two or three local names) -/
@[simp] def setP : List Nat → List PV → S → Option S
  | [], [], s => some s
  | j :: js, v :: vs, s => setP js vs (setE j v s)
  | _, _, _ => none
@[simp] def dPar (js : List Nat) (d : DA) : DS := fun s => (d s).bind fun vs s1 => match setP js vs s1 with
  | some s2 => .ok .nx s2
  | none => .bad
theorem setP_ok {K : PySem.W.Frag} {g : Gx} {l : Lc} : ∀ {js : List Nat} {ps : List PV} {us : List V} {s s2 : S} {σ : St}, Sok K g l s σ → RepGL K g l ps us → setP js ps s = some s2 → us.length = js.length ∧ Sok K g l s2 (setσ js us σ)
  | [], [], us, s, s2, σ, ok, r, e => by
    cases (show us = [] from r)
    cases e
    exact ⟨rfl, ok⟩
  | j :: js, p :: ps, us, s, s2, σ, ok, r, e => by
    obtain ⟨u, w, rfl, h1, h2⟩ := r
    obtain ⟨q1, q2⟩ := setP_ok (ok.set (i := j) h1) h2 (show setP js ps (setE j p s) = some s2 from e)
    exact ⟨by simpa using q1, q2⟩
  | [], p :: ps, us, s, s2, σ, ok, r, e => by simp at e
  | j :: js, [], us, s, s2, σ, ok, r, e => by simp at e
theorem par_reads {K : PySem.W.Frag} {g : Gx} {js : List Nat} {dr : DA} {D : Ends} {σ : St} {H : Hp} (q : LS K g (dPar js dr) D σ H) : LA K g dr σ H (fun us H1 => us.length = js.length ∧ D.nx (setσ js us σ) H1) := by
  obtain ⟨l, s, rfl, ok, q⟩ := q
  refine ⟨l, s, rfl, ok, ?_⟩
  simp only [dPar] at q
  cases e1 : dr s with
  | bad => rw [e1] at q; exact q
  | exn x t => rw [e1] at q; exact fun l' c d => q l' σ c d
  | ok vs t =>
    rw [e1] at q
    simp only [R.bind] at q
    cases e2 : setP js vs t with
    | none => rw [e2] at q; exact q.elim
    | some s2 =>
      rw [e2] at q
      intro l' us st ok' r'
      obtain ⟨h1, h2⟩ := setP_ok ok' r' e2
      exact ⟨h1, q l' _ st h2⟩
theorem parX_reads {K : PySem.W.Frag} {g : Gx} {js : List Nat} {dx : DX} {D : Ends} {σ : St} {H : Hp} (q : LS K g (dAsgX js dx) D σ H) : LX K g dx σ H (fun us H1 => us.length = js.length ∧ D.nx (setσ js us σ) H1) := by
  obtain ⟨l, s, rfl, ok, q⟩ := q
  refine ⟨l, s, rfl, ok, ?_⟩
  simp only [dAsgX] at q
  cases e1 : dx s with
  | bad => rw [e1] at q; exact q
  | exn x t => rw [e1] at q; exact fun l' c d => q l' σ c d
  | ok svs t =>
    rw [e1] at q
    simp only [R.bind] at q
    cases e2 : setX js svs t with
    | none => rw [e2] at q; exact q.elim
    | some s2 =>
      rw [e2] at q
      intro l' us P st hP nd ok' r'
      have hgN : ∀ p ∈ P, ¬ g.N p := fun p hp z => ok.there p (.inr z) (hP p hp)
      obtain ⟨hlen, l2, f1, f2, f3, f4, ok2⟩ := setAll ok' r' nd hgN e2
      refine ⟨hlen, ?_⟩
      have st2 : Step l l2 := ⟨by rw [f2]; exact st.pre, fun a h => by
        rcases f4 a h with z | z
        · exact st.new a z
        · exact .inr (hP a z), fun a o n e => by rw [f1]; exact st.keep a o n e, fun a h => by rw [f1]; exact st.dom a h⟩
      have := q l2 (setσ js us σ) st2 ok2
      rw [← f1]
      exact this
section
variable {X : Cx} {g : Gx} {a b c e : Expr} {es : List Expr} {da db dc de : DE} {dr : DA} {dx : DX} {pos : Pos} {i j l : Nat} {x y z : Str} {px py pz pt : Pos} {kt k2 : _} {pt2 : Pos}
theorem par2 {t : TA} {D : Ends} {σ : St} {H : Hp} {i j : Nat} (h : t σ H (fun us H1 => us.length = 2 ∧ D.nx (setσ [i, j] us σ) H1)) (m : ∀ σ H Q Q', (∀ us H1, Q us H1 → Q' us H1) → t σ H Q → t σ H Q') : tPar i j t D σ H := m _ _ _ _ (fun us H1 q => by
  obtain ⟨q1, q2⟩ := q
  match us, q1 with
  | [v, w], _ => exact ⟨v, w, rfl, q2⟩) h
theorem par3 {t : TA} {D : Ends} {σ : St} {H : Hp} {i j l : Nat} (h : t σ H (fun us H1 => us.length = 3 ∧ D.nx (setσ [i, j, l] us σ) H1)) (m : ∀ σ H Q Q', (∀ us H1, Q us H1 → Q' us H1) → t σ H Q → t σ H Q') : tPar3 i j l t D σ H := m _ _ _ _ (fun us H1 q => by
  obtain ⟨q1, q2⟩ := q
  match us, q1 with
  | [u, v, w], _ => exact ⟨u, v, w, rfl, q2⟩) h
theorem LA.mono {K : PySem.W.Frag} (σ : St) (H : Hp) (Q Q' : List V → Hp → Prop) (i : ∀ us H1, Q us H1 → Q' us H1) (h : LA K g dr σ H Q) : LA K g dr σ H Q' := let ⟨l, s, e, ok, q⟩ := h; ⟨l, s, e, ok, RunA.mono q i⟩
theorem LX.mono {K : PySem.W.Frag} (σ : St) (H : Hp) (Q Q' : List V → Hp → Prop) (i : ∀ us H1, Q us H1 → Q' us H1) (h : LX K g dx σ H Q) : LX K g dx σ H Q' := by
  obtain ⟨l, s, e, ok, q⟩ := h
  refine ⟨l, s, e, ok, ?_⟩
  cases e1 : dx s with
  | bad => rw [e1] at q; exact q
  | exn x t => rw [e1] at q; exact q
  | ok svs t => rw [e1] at q; exact fun l' us P a b c d f => i _ _ (q l' us P a b c d f)
theorem js_par2 (hc : X.calm = true) (hN : X.N.Nodup) (ha : JA X g [a, b] dr) (hi : X.N[i]? = some x := by rfl) (hj : X.N[j]? = some y := by rfl) (hij : i ≠ j := by decide) (hx : X.env.scope.names.lookup x = some .local := by rfl) (hy : X.env.scope.names.lookup y = some .local := by rfl)
    (hw : swappedStores [.Tuple [.Name x px, .Name y py] kt pt] (.Tuple [a, b] k2 pt2) X.env = pure (some [x, y]) := by rfl) (hs : swapsWithSole [.Tuple [.Name x px, .Name y py] kt pt] (.Tuple [a, b] k2 pt2) pos.line X.env = pure false := by rfl) :
    JS X g (.Assign [.Tuple [.Name x px, .Name y py] kt pt] (.Tuple [a, b] k2 pt2) pos) (dPar [i, j] dr) :=
  PS.cq (ps_par hc hN hi hj hij hx hy ha hw hs) fun pins s D σ H I q => par2 (par_reads q) LA.mono
theorem js_par3 (hc : X.calm = true) (hN : X.N.Nodup) (ha : JA X g [a, b, c] dr) (hi : X.N[i]? = some x := by rfl) (hj : X.N[j]? = some y := by rfl) (hl : X.N[l]? = some z := by rfl) (hij : i ≠ j := by decide) (hil : i ≠ l := by decide) (hjl : j ≠ l := by decide)
    (hx : X.env.scope.names.lookup x = some .local := by rfl) (hy : X.env.scope.names.lookup y = some .local := by rfl) (hz : X.env.scope.names.lookup z = some .local := by rfl)
    (hw : swappedStores [.Tuple [.Name x px, .Name y py, .Name z pz] kt pt] (.Tuple [a, b, c] k2 pt2) X.env = pure (some [x, y, z]) := by rfl) (hs : swapsWithSole [.Tuple [.Name x px, .Name y py, .Name z pz] kt pt] (.Tuple [a, b, c] k2 pt2) pos.line X.env = pure false := by rfl) :
    JS X g (.Assign [.Tuple [.Name x px, .Name y py, .Name z pz] kt pt] (.Tuple [a, b, c] k2 pt2) pos) (dPar [i, j, l] dr) :=
  PS.cq (ps_par3 hc hN hi hj hl hij hil hjl hx hy hz ha hw hs) fun pins s D σ H I q => par3 (par_reads q) LA.mono
theorem js_parX2 (hc : X.calm = true) (hN : X.N.Nodup) (ha : JX X g [a, b] dx) (hi : X.N[i]? = some x := by rfl) (hj : X.N[j]? = some y := by rfl) (hij : i ≠ j := by decide) (hx : X.env.scope.names.lookup x = some .local := by rfl) (hy : X.env.scope.names.lookup y = some .local := by rfl)
    (hw : swappedStores [.Tuple [.Name x px, .Name y py] kt pt] (.Tuple [a, b] k2 pt2) X.env = pure (some [x, y]) := by rfl) (hs : swapsWithSole [.Tuple [.Name x px, .Name y py] kt pt] (.Tuple [a, b] k2 pt2) pos.line X.env = pure false := by rfl) :
    JS X g (.Assign [.Tuple [.Name x px, .Name y py] kt pt] (.Tuple [a, b] k2 pt2) pos) (dAsgX [i, j] dx) :=
  PS.cq (ps_par hc hN hi hj hij hx hy ha hw hs) fun pins s D σ H I q => par2 (parX_reads q) LX.mono
theorem js_parX3 (hc : X.calm = true) (hN : X.N.Nodup) (ha : JX X g [a, b, c] dx) (hi : X.N[i]? = some x := by rfl) (hj : X.N[j]? = some y := by rfl) (hl : X.N[l]? = some z := by rfl) (hij : i ≠ j := by decide) (hil : i ≠ l := by decide) (hjl : j ≠ l := by decide)
    (hx : X.env.scope.names.lookup x = some .local := by rfl) (hy : X.env.scope.names.lookup y = some .local := by rfl) (hz : X.env.scope.names.lookup z = some .local := by rfl)
    (hw : swappedStores [.Tuple [.Name x px, .Name y py, .Name z pz] kt pt] (.Tuple [a, b, c] k2 pt2) X.env = pure (some [x, y, z]) := by rfl) (hs : swapsWithSole [.Tuple [.Name x px, .Name y py, .Name z pz] kt pt] (.Tuple [a, b, c] k2 pt2) pos.line X.env = pure false := by rfl) :
    JS X g (.Assign [.Tuple [.Name x px, .Name y py, .Name z pz] kt pt] (.Tuple [a, b, c] k2 pt2) pos) (dAsgX [i, j, l] dx) :=
  PS.cq (ps_par3 hc hN hi hj hl hij hil hjl hx hy hz ha hw hs) fun pins s D σ H I q => par3 (parX_reads q) LX.mono
end
end L3

namespace L3
open PySem PySem.Spec PyProof.Rows L2
/-! ## a list against an empty list, whatever its items are -/
section
variable {prog : Program} {w : World} {A : Around} {E : Value → Shared → Prop} {s : Shared} {a b : Addr} {xs ys : Array Value} {Q : Value → Shared → Prop}
theorem rc_empty (hl : s.heap.IsList a xs) (hb : s.heap.IsList b ys) (hu : A.units < cLine) (h0 : xs.size = 0 ∨ ys.size = 0) (h : Q (.bool (xs.size == ys.size)) s) : wpAny (model prog w) A (richCompare .Eq (.ref a) (.ref b)) Q E s := by
  obtain ⟨⟨c1, d1, t1, l1⟩, o1, e1, n1, f1⟩ := id hl
  obtain ⟨⟨c2, d2, t2, l2⟩, o2, e2, n2, f2⟩ := id hb
  simp only at e1 f1 e2 f2
  subst e1 f1 e2 f2
  have ta : s.TypeIs (.ref a) "list" := ⟨_, o1, rfl⟩
  refine wpAny_richCompare_same_room (op := .Eq) ta ⟨_, o2, rfl⟩ F.slot_list_eq ?_ hu
  by_cases z : xs.size = ys.size
  · refine call_meets F.slot_list_eq ta F.entry_list_eq (F.args_list_eq_2 _ _) (SeqAt.list_eqAt a b xs ys n1 n2 d1 d2 l1 l2 z (fun _ => true)) ⟨o1, o2, fun j h1 h2 => absurd h0 (by omega), ?_⟩
    have e : (List.range xs.size).all (fun _ => true) = (xs.size == ys.size) := by simp [z]
    rw [e]
    exact ⟨(fun x => nomatch x), h⟩
  · have z' : (xs.size != ys.size) = true := by simpa using z
    refine call_meets F.slot_list_eq ta F.entry_list_eq (F.args_list_eq_2 _ _) (SeqAt.list_eq_lengthsAt a b xs ys n1 n2 d1 d2 l1 l2 z') ⟨o1, o2, ?_⟩
    have e : (xs.size == ys.size) = false := by simpa using z
    rw [e] at h
    exact ⟨(fun x => nomatch x), h⟩
theorem rn_empty (hl : s.heap.IsList a xs) (hb : s.heap.IsList b ys) (hu : A.units < cLine) (h0 : xs.size = 0 ∨ ys.size = 0) (h : Q (.bool (!(xs.size == ys.size))) s) : wpAny (model prog w) A (richCompare .NotEq (.ref a) (.ref b)) Q E s := by
  obtain ⟨⟨c1, d1, t1, l1⟩, o1, e1, n1, f1⟩ := id hl
  obtain ⟨⟨c2, d2, t2, l2⟩, o2, e2, n2, f2⟩ := id hb
  simp only at e1 f1 e2 f2
  subst e1 f1 e2 f2
  have ta : s.TypeIs (.ref a) "list" := ⟨_, o1, rfl⟩
  refine wpAny_richCompare_same_room (op := .NotEq) ta ⟨_, o2, rfl⟩ F.slot_list_ne ?_ hu
  by_cases z : xs.size = ys.size
  · refine call_meets F.slot_list_ne ta F.entry_list_ne (F.args_list_ne_2 _ _) (SeqAt.list_neAt a b xs ys n1 n2 d1 d2 l1 l2 z (fun _ => true)) ⟨o1, o2, fun j h1 h2 => absurd h0 (by omega), ?_⟩
    have e : (List.range xs.size).all (fun _ => true) = (xs.size == ys.size) := by simp [z]
    rw [e]
    exact ⟨(fun x => nomatch x), h⟩
  · have z' : (xs.size != ys.size) = true := by simpa using z
    refine call_meets F.slot_list_ne ta F.entry_list_ne (F.args_list_ne_2 _ _) (SeqAt.list_ne_lengthsAt a b xs ys n1 n2 d1 d2 l1 l2 z') ⟨o1, o2, ?_⟩
    have e : (xs.size == ys.size) = false := by simpa using z
    rw [e] at h
    exact ⟨(fun x => nomatch x), h⟩
end
def fEqE (neg : Bool) : PV → PV → S → R S PV := fun p q s => match p, q with
  | .lst xs, .lst ys => if xs.length = 0 ∨ ys.length = 0 then .ok (.bl (xor neg (xs.length == ys.length))) s else .bad
  | .str a, .str b => .ok (.bl (xor neg (a == b))) s
  | _, _ => .bad
theorem dec_strV {a b : Str} : decide (V.str a = V.str b) = (a == b) := by
  rw [Bool.eq_iff_iff]
  simp
section
variable {X : Cx} {g : Gx}
theorem o_eqE (hu : X.A.units + 64 < cLine) : OJ X g (compareOp .Eq) (fEqE false) := by
  intro pins s σ x y v u Q l st p q I rx ry ok rp rq run
  unfold fEqE at run
  split at run
  · rename_i xs ys
    split at run
    · rename_i h0
      obtain ⟨a, vs, rfl, _, ha, ra⟩ := rp
      obtain ⟨b, ws, rfl, _, hb, rb⟩ := rq
      cases (show v = .ref a from rx)
      cases (show u = .ref b from ry)
      obtain ⟨its, rv, p1, _⟩ := I.list (SqL.of ha)
      obtain ⟨its2, rv2, p2, _⟩ := I.list (SqL.of hb)
      have l1 : its.toArray.size = _ := (List.size_toArray ..).trans (rv.length.symm.trans ra.length.symm)
      have l2 : its2.toArray.size = _ := (List.size_toArray ..).trans (rv2.length.symm.trans rb.length.symm)
      refine rc_empty p1.isList p2.isList (by omega) (by rw [l1, l2]; exact h0) ?_
      rw [l1, l2]
      have z := run l (.bl (xor false (xs.length == ys.length))) (Step.refl l) ok rfl
      rw [Bool.false_xor] at z
      exact ⟨.bl (xs.length == ys.length), l.H, I, rfl, z⟩
    · exact run.elim
  · rename_i a b
    have z := run l (.bl (xor false (a == b))) (Step.refl l) ok rfl
    cases (show x = .str a from rp)
    cases (show y = .str b from rq)
    refine op_eq pins s σ l.H _ _ v u Q I rx ry ⟨rfl, ?_⟩
    rw [dec_strV]
    rw [Bool.false_xor] at z
    exact z
  · exact run.elim
theorem o_neE (hu : X.A.units + 64 < cLine) : OJ X g (compareOp .NotEq) (fEqE true) := by
  intro pins s σ x y v u Q l st p q I rx ry ok rp rq run
  unfold fEqE at run
  split at run
  · rename_i xs ys
    split at run
    · rename_i h0
      obtain ⟨a, vs, rfl, _, ha, ra⟩ := rp
      obtain ⟨b, ws, rfl, _, hb, rb⟩ := rq
      cases (show v = .ref a from rx)
      cases (show u = .ref b from ry)
      obtain ⟨its, rv, p1, _⟩ := I.list (SqL.of ha)
      obtain ⟨its2, rv2, p2, _⟩ := I.list (SqL.of hb)
      have l1 : its.toArray.size = _ := (List.size_toArray ..).trans (rv.length.symm.trans ra.length.symm)
      have l2 : its2.toArray.size = _ := (List.size_toArray ..).trans (rv2.length.symm.trans rb.length.symm)
      refine rn_empty p1.isList p2.isList (by omega) (by rw [l1, l2]; exact h0) ?_
      rw [l1, l2]
      have z := run l (.bl (xor true (xs.length == ys.length))) (Step.refl l) ok rfl
      rw [Bool.true_xor] at z
      exact ⟨.bl (!(xs.length == ys.length)), l.H, I, rfl, z⟩
    · exact run.elim
  · rename_i a b
    have z := run l (.bl (xor true (a == b))) (Step.refl l) ok rfl
    cases (show x = .str a from rp)
    cases (show y = .str b from rq)
    refine op_ne pins s σ l.H _ _ v u Q I rx ry ⟨rfl, ?_⟩
    rw [dec_strV]
    rw [Bool.true_xor] at z
    exact z
  · exact run.elim
/-- == of data, or of a list and an empty list -/
@[simp] def gEq (neg : Bool) : PV → PV → S → R S PV := fun p q s => if okD 8 p = true ∧ okD 8 q = true then .ok (.bl (xor neg (eqP p q))) s else fEqE neg p q s
theorem gEq_str (neg : Bool) (a b : Str) (s : S) : gEq neg (.str a) (.str b) s = .ok (.bl (xor neg (a == b))) s := by
  unfold gEq
  split
  · simp [eqP]
  · rfl
theorem gEq_ok (neg : Bool) (p q : PV) (s : S) : gEq neg p q s = .bad ∨ orB (gEqD neg p q s) (fEqE neg p q s) = gEq neg p q s := by
  refine .inr ?_
  simp only [gEq, gEqD]
  split <;> rfl
theorem o_eqA (hu : X.A.units + 64 < cLine) : OJ X g (compareOp .Eq) (gEq false) := ((o_eq hu).or (o_eqE hu)).below fun p q s => gEq_ok false p q s
theorem o_neA (hu : X.A.units + 64 < cLine) : OJ X g (compareOp .NotEq) (gEq true) := ((o_ne hu).or (o_neE hu)).below fun p q s => gEq_ok true p q s
end
end L3

namespace L3
open PySem PySem.Spec PyProof.Rows L2
/-! ## a head's facts: defs at any address, checks of one's own -/
structure DefX where
  ad : PySem.W.Frag → Addr
  name : Str
  qual : Str
  params : Arguments
  body : List Stmt
  scope : Scope
  dfl : List He.Dv := []
  kwd : List (Str × He.Dv) := []
def DefX.val (d : DefX) : He.FnW := some (d.name, d.qual, d.params, .stmts d.body, d.scope, mainGlobals, [], builtinsNs)
def fnX (K : PySem.W.Frag) (a : Addr) : He.FnW := match K.lookup a with
  | some ⟨_, _, .func fd, _⟩ => some (fd.name, fd.qualname, fd.params, fd.body, fd.scope, fd.globals, fd.closure, fd.builtins)
  | _ => none
def DefX.dvs (K : PySem.W.Frag) (d : DefX) : List V := d.dfl.map (He.Dv.v K)
def DefX.kws (K : PySem.W.Frag) (d : DefX) : List (Str × V) := d.kwd.map fun q => (q.1, q.2.v K)
def DefX.ok (K : PySem.W.Frag) (d : DefX) : Bool := PySem.W.keepIn K (.ref (d.ad K)) && (match K.lookup (d.ad K) with
  | some ⟨_, _, .func fd, _⟩ => PySem.W.codeIn K fd.code d.qual && (He.dflB K fd.defaults (d.dvs K) && He.kwdB K fd.kwdefaults (d.kws K))
  | _ => false)
theorem DefX.funD {K : PySem.W.Frag} {d : DefX} (e : fnX K (d.ad K) = d.val) (c : d.ok K = true) : ∃ fd, FunD K d.name d.qual d.params d.body d.scope (d.dvs K) (d.kws K) (d.ad K) fd := by
  obtain ⟨kp, c2⟩ := He.ba c
  unfold fnX at e
  revert c2 e
  cases q : K.lookup (d.ad K) with
  | none => exact fun e c2 => nomatch c2
  | some o =>
    obtain ⟨oc, od, dt, osl⟩ := o
    cases dt with
    | func fd =>
      intro e c2
      obtain ⟨n1, n2, n3, n4, n5, n6, n7, n8, n9, n10, n11, n12, n13, n14, n15⟩ := fd
      have e2 : (some (n1, n2, n3, n4, n5, n6, n7, n15) : He.FnW) = some (d.name, d.qual, d.params, .stmts d.body, d.scope, mainGlobals, [], builtinsNs) := e
      simp only [Option.some.injEq, Prod.mk.injEq] at e2
      obtain ⟨g1, g2, g3, g4, g5, g6, g7, g8⟩ := e2
      subst g1 g2 g3 g4 g5 g6 g7 g8
      obtain ⟨k1, k2⟩ := He.ba (show (PySem.W.codeIn K n13 d.qual && (He.dflB K n8 (d.dvs K) && He.kwdB K n9 (d.kws K))) = true from c2)
      obtain ⟨k3, k4⟩ := He.ba k2
      exact ⟨_, ⟨oc, od, n8, n9, n10, n11, n12, n13, n14, osl, rfl, q, k1, He.dflB_ok k3, He.kwdB_ok k4⟩, kp⟩
    | _ => exact fun e c2 => nomatch c2
abbrev AlX : Type := Bool × List He.FnW
def obsX (fa : List He.Fa) (xs : List (PySem.W.Frag → Bool)) (fn : List DefX) (K : PySem.W.Frag) : AlX := ((fa.all fun f => f.ok K) && ((xs.all fun x => x K) && fn.all fun d => d.ok K), fn.map fun d => fnX K (d.ad K))
def valX (fn : List DefX) : AlX := (true, fn.map DefX.val)
def SaysX (fa : List He.Fa) (xs : List (PySem.W.Frag → Bool)) (fn : List DefX) (K : PySem.W.Frag) : Prop := obsX fa xs fn K = valX fn
def obsXG (n : Nat) (fa : List He.Fa) (xs : List (PySem.W.Frag → Bool)) (fn : List DefX) (g : Addr → Option Obj) : AlX := obsX fa xs fn (He.frG g (He5.asA g n))
def hookX (n : Nat) (fa : List He.Fa) (xs : List (PySem.W.Frag → Bool)) (fn : List DefX) : PySem.W.Hook where
  α := AlX
  obs := fun s => obsXG n fa xs fn s.heap.get?
  val := fun _ => valX fn
  says := fun _ h => ∃ K : PySem.W.Frag, K.In h ∧ SaysX fa xs fn K
  of := fun _ _ e => ⟨_, He.frG_in, e⟩
  keeps := fun _ _ _ ⟨K, hK, c⟩ k => ⟨K, PySem.W.Frag.In.keeps hK k, c⟩
theorem obsXG_eq {n : Nat} {fa : List He.Fa} {xs : List (PySem.W.Frag → Bool)} {fn : List DefX} {g : Addr → Option Obj} {s : Shared} (h : ∀ a, g a = s.heap.get? a) : obsXG n fa xs fn g = (hookX n fa xs fn).obs s := by
  have e : g = s.heap.get? := funext h
  rw [e] <;> rfl
section
variable {fa : List He.Fa} {xs : List (PySem.W.Frag → Bool)} {fn : List DefX} {K : PySem.W.Frag}
theorem SaysX.fact (c : SaysX fa xs fn K) (i : Nat) {f : He.Fa} (h : fa[i]? = some f := by rfl) : f.ok K = true :=
  List.all_eq_true.mp (He.ba (show ((fa.all fun f => f.ok K) && ((xs.all fun x => x K) && fn.all fun d => d.ok K)) = true from congrArg (fun z : AlX => z.1) c)).1 f (List.mem_of_getElem? h)
theorem SaysX.chk (c : SaysX fa xs fn K) (i : Nat) {x : PySem.W.Frag → Bool} (h : xs[i]? = some x := by rfl) : x K = true :=
  List.all_eq_true.mp (He.ba (He.ba (show ((fa.all fun f => f.ok K) && ((xs.all fun x => x K) && fn.all fun d => d.ok K)) = true from congrArg (fun z : AlX => z.1) c)).2).1 x (List.mem_of_getElem? h)
theorem SaysX.def_ (c : SaysX fa xs fn K) (i : Nat) {d : DefX} (h : fn[i]? = some d := by rfl) : ∃ fd, FunD K d.name d.qual d.params d.body d.scope (d.dvs K) (d.kws K) (d.ad K) fd := by
  have c2 := (He.ba (He.ba (show ((fa.all fun f => f.ok K) && ((xs.all fun x => x K) && fn.all fun d => d.ok K)) = true from congrArg (fun z : AlX => z.1) c)).2).2
  have e : fn.map (fun d => fnX K (d.ad K)) = fn.map DefX.val := congrArg (fun z : AlX => z.2) c
  have e2 : (fn.map fun d => fnX K (d.ad K))[i]? = (fn.map DefX.val)[i]? := by rw [e]
  rw [List.getElem?_map, List.getElem?_map, h] at e2
  exact DefX.funD (Option.some.inj e2) (List.all_eq_true.mp c2 d (List.mem_of_getElem? h))
end
/-! ### where a property's getter, a classmethod's def stand -/
def getAd (m : Str) (K : PySem.W.Frag) : Addr := match PySem.W.recIn K (He.ma K (He.ga K "Ratio") m) "property" with
  | some (.ref f :: _) => f
  | _ => 0
def cmAd (T : String) (m : Str) (K : PySem.W.Frag) : Addr := match PySem.W.recIn K (He.ma K (He.ga K "Ratio") m) T with
  | some (.ref f :: _) => f
  | _ => 0
def propB (m : Str) (K : PySem.W.Frag) : Bool := He.eqO (PySem.W.findIn K (.ref (He.ga K "Ratio")) m) (some (some (.ref (He.ma K (He.ga K "Ratio") m)))) && (He.eqO (PySem.W.specialIn K (.ref (He.ma K (He.ga K "Ratio") m)) "__get__") (some (some (.builtin "property.__get__"))) &&
  (eqB (PySem.W.takesIn K (.ref (He.ma K (He.ga K "Ratio") m))) (some true) && (match PySem.W.recIn K (He.ma K (He.ga K "Ratio") m) "property" with
    | some (.ref _ :: _) => true
    | _ => false)))
theorem propB_ok {m : Str} {K : PySem.W.Frag} (h : propB m K = true) : PropOf K (He.ga K "Ratio") m (He.ma K (He.ga K "Ratio") m) (getAd m K) := by
  obtain ⟨h1, h⟩ := He.ba h
  obtain ⟨h2, h⟩ := He.ba h
  obtain ⟨h3, h4⟩ := He.ba h
  refine ⟨He.eqO_ok h1, He.eqO_ok h2, of_decide_eq_true h3, ?_⟩
  unfold getAd
  split at h4
  · rename_i f r e
    exact ⟨r, by rw [e]⟩
  · cases h4
end L3
namespace L3
open PySem PySem.Spec PyProof.Rows L2
/-- what the law's promise asks, from the plain law -/
theorem law_sp {K : PySem.W.Frag} {CR : Addr} {F : DF} {n : Nat} (h : ∀ ns : List Int, ns.length ≤ n → ∃ mu', F [.frz (ns.map .int)] [] = .ok (.bl true) mu') (H : Hp) (a : Addr) (ns : List Int) (hl : ns.length ≤ n) (hS : SqL K H a (ns.map V.int)) :
    spJ K CR 1 F [.ref a] H (fun v _ => v = .bl true) fun _ _ _ => False := by
  obtain ⟨mu', e⟩ := h ns hl
  have rl : ∀ (ns : List Int), RepGL K ⟨CR, fun _ => False, W0⟩ ⟨[], fun _ => False, H⟩ (ns.map PV.int) (ns.map V.int) := fun ns => by
    induction ns with
    | nil => rfl
    | cons i r ih => exact ⟨.int i, _, rfl, rfl, ih⟩
  refine ⟨fun _ => False, ⟨[], fun _ => False, H⟩, [.frz (ns.map .int)], [], rfl, ⟨fun a => by simp, ⟨rfl, fun i v e => by simp at e, fun i v e => by simp at e, fun i j xs ys a _ e => by simp at e, rfl, fun n a m h1 _ => by simp at h1, List.nodup_nil, fun a h => by simp at h, fun a h => by simp at h, fun a h => by simp at h⟩⟩, ?_, rfl, ?_⟩
  · refine ⟨.ref a, [], rfl, ⟨a, ns.map V.int, rfl, ?_, rl ns⟩, rfl⟩
    rcases hS with hS | hS
    · exact .inl ⟨fun z => by rcases z with z | z <;> exact z, hS⟩
    · exact .inr hS
  · rw [e]
    intro l' u _ _ r
    exact r
end L3
namespace L3
open PySem PySem.Spec PyProof.Rows L2
def cmB (m : Str) (K : PySem.W.Frag) : Bool := PySem.W.readsIn K (He.ga K "Ratio") (.type "type") && (He.eqO (PySem.W.specialIn K (.ref (He.ga K "Ratio")) "__getattribute__") (some (some (.builtin "type.__getattribute__"))) &&
  (He5.wrapB K (He.ga K "Ratio") "classmethod" "classmethod.__get__" m && PySem.W.fnIn K (He5.wf K (He.ga K "Ratio") "classmethod" m)))
theorem cmB_ok {m : Str} {K : PySem.W.Frag} (h : cmB m K = true) : ClX.CRead K (He.ga K "Ratio") (.type "type") ∧ ClX.CMet K (He.ga K "Ratio") (.type "type") m (He.ma K (He.ga K "Ratio") m) (He5.wf K (He.ga K "Ratio") "classmethod" m) := by
  obtain ⟨h1, h⟩ := He.ba h
  obtain ⟨h2, h⟩ := He.ba h
  obtain ⟨h3, h4⟩ := He.ba h
  exact ⟨⟨h1, He.eqO_ok h2⟩, He5.cmet_of h3 h4⟩
end L3
namespace L3
open PySem PySem.Spec PyProof.Rows L2
/-- a promise that lets nothing out, whatever is wished of exceptions -/
theorem calm_of {P : Program} {w : World} {K : PySem.W.Frag} {mg : Str → Option Value} {base : Heap} {CX : CXT} {k : Nat} {f : Addr} {fd : FuncData} {ps : List Str} {sp : Sp} (F : FnG P w K mg base (L2.CX P w) k f fd ps sp) : FnG P w K mg base CX k f fd ps (fun vs H Q _ => sp vs H Q fun _ _ _ => False) where
  len := fun vs H Q E h => F.len vs H Q _ h
  run := fun A outer s H args us vs Q E hr e0 hb r h => codeAny_mono (F.run A outer s H args us vs Q _ hr e0 hb r h) fun r s' hq => by
    cases r with
    | error e =>
      obtain ⟨_, _, _, _, _, _, _, _, _, _, _, _, z⟩ := (show L2.CX P w outer H s (fun _ _ _ => False) e s' from hq)
      exact z.elim
    | ok fl => cases fl <;> exact hq
end L3

/-! ## != by an own == -/
namespace L3
open PySem PySem.W PyProof.Rows
section
variable {prog : Program} {w : World} {A : Around} {E : Value → Shared → Prop} {s : Shared} {K : Frag} {x C L f : Addr} {h₀ : Heap} {m : Str → Option Value} {ox : Obj} {od : Option Obj} {b tb : Value}
theorem slot_ne : Slot "object" "__ne__" "object.__ne__" :=
  Slot.of (T := "object") (name := "__ne__") (owner := "object") (n := "__ne__") (by rw [typeLookup_type, builtinLookup_eq_fast]; kernel_rfl) (by decide +kernel) (by decide +kernel) (by decide +kernel) (.inl (by decide +kernel)) (by rw [isSubtype_type]; kernel_rfl)
theorem bound_blt {id : String} {name : Str} {T : String} {args : List Value} {Q : Option Value → Shared → Prop} (X : K.In s.heap) (I : InstAt s.heap x ox C od) (hs : findIn K (.ref C) name = some (some (.builtin id))) (S : Slot T name id)
    (h : wpAny (model prog w) A (call (.builtin id) (.ref x :: args)) (fun v => Q (some v)) E s) : wpAny (model prog w) A (callSpecialIfBound? (.ref x) name args) Q E s := by
  simp only [callSpecialIfBound?, bindSpecialIfBound?]
  refine wpAny_holding (wpAny_bind (wpAny_bind (wpAny_bind (I.type.here (Looks.here (looks_findIn X hs) ?_)))))
  simp only [S.bind]
  have go : wpAny (model prog w) A (call (.builtin id) ([.ref x] ++ args) >>= fun v => pure (some v)) Q E s := wpAny_bind (wpAny_mono h (fun _ _ z => wpAny_pure z) fun _ _ z => z)
  refine wpAny_bind (wpAny_askSetting ?_)
  refine wpAny_ite ?_
  split
  · exact wpAny_bind (wpAny_pure (wpAny_pure go))
  · exact wpAny_tryCatch (wpAny_bind (wpAny_pure (wpAny_pure go)))
theorem ne_K {Q : Value → Shared → Prop} (hu : A.units + 1 < cLine) (F : Fr h₀ L s.heap m) (X₀ : K.In h₀) (I : InstAt s.heap x ox C od) (hb : Looks (model prog w) s.heap (typeOf b) tb) (hn : notFirst K C tb = true)
    (hN : findIn K (.ref C) "__ne__" = some (some (.builtin "object.__ne__"))) (hm : mroIn K C (.type "object") = some true) (hs : findIn K (.ref C) "__eq__" = some (some (.ref f))) (hf : isFn K (.ref f) = true)
    (h : wpAny (model prog w) A.in1 (call (.ref f) [.ref x, b]) (fun v s' => ∃ k, v = .bool k ∧ Q (.bool (!k)) s') E s) : wpAny (model prog w) A (richCompare .NotEq (.ref x) b) Q E s := by
  have X := X₀.keeps F.keep
  have hu0 : A.units < cLine := by omega
  have hu1 : A.in1.units < cLine := hu
  have one : wpAny (model prog w) A (tryCompare (.ref x) "__ne__" b) (fun r s' => ∃ v, r = some v ∧ Q v s') E s := by
    unfold tryCompare
    refine wpAny_bind (bound_blt X I hN slot_ne (wpAny_call (codeAny_call_builtin slot_ne.plain PySem.F.cmpEntry_ne (check_slot PySem.F.cmpKind_ne PySem.F.cmpSplit_ne (I.type.andThen (looks_mroIn X hm)) (PySem.F.cmpArgs_ne _ _) ?_))))
    unfold Builtin.«object.__ne__»
    obtain ⟨hh, g, d, t, os⟩ := s
    repeat (first
      | with_reducible refine wpAny_cRoomFor hu1 ?_
      | (refine wpAny_bind (m := callSpecialIfBound? (.ref x) (Str.ofString "__eq__") [b])
          (ifBound_K X I hs hf (wpAny_mono h (fun r s' hr => by
            obtain ⟨b, rfl, hq⟩ := hr
            repeat (first | exact ⟨_, rfl, hq⟩ | exact wpAny_pure ⟨_, rfl, hq⟩ | exact wpAny_pure (wpAny_pure ⟨_, rfl, hq⟩) | (refine wpAny_bind (m := truthy (.bool _)) (wpAny_truthy_bool ?_)) | wp_step)) fun _ _ e => e)))
      | wp_step)
  have rest : wpAny (model prog w) A (tryCompare (.ref x) "__ne__" b) (fun o s2 => ∃ u, o = some u ∧ Q u s2) E s := one
  have sub : tb ≠ .ref C → subIn K tb (.ref C) = some false := fun hne => (Bool.or_eq_true_iff.mp hn).elim (fun h1 => absurd (beq_iff_eq.mp h1) hne) beq_iff_eq.mp
  unfold richCompare
  simp only [oneThing_ref]
  refine wpAny_holding (wpAny_bind (wpAny_cRoomFor hu0 (wpAny_bind (I.type.here (wpAny_bind (hb.here ?_))))))
  split
  · rename_i hq
    have hne : tb ≠ .ref C := fun z => by rw [z] at hq; simp at hq
    refine wpAny_bind ((looks_subIn X (sub hne)).here ?_)
    rw [if_neg Bool.false_ne_true]
    exact wpAny_bind (wpAny_mono rest (fun o s2 ⟨u, ho, hu2⟩ => by rw [ho]; exact wpAny_pure hu2) fun _ _ z => z)
  · refine wpAny_bind (wpAny_pure (a := false) ?_)
    rw [if_neg Bool.false_ne_true]
    exact wpAny_bind (wpAny_mono rest (fun o s2 ⟨u, ho, hu2⟩ => by rw [ho]; exact wpAny_pure hu2) fun _ _ z => z)
end
end L3

namespace L3
open PySem PySem.Spec PyProof.Rows L2
/-! ## operators of ratios as packages -/
def HasBn (P : Program) (w : World) (K : PySem.W.Frag) (mg : Str → Option Value) (base : Heap) (CR : Addr) (nm : String) (k : Nat) (F : DF) : Prop := ∃ f, BinF K CR f nm ∧ At P w K mg base CR f k ["self", "other"] F
def HasRf (P : Program) (w : World) (K : PySem.W.Frag) (mg : Str → Option Value) (base : Heap) (CR : Addr) (nm : String) (k : Nat) (F : DF) : Prop := ∃ f, ReflF K CR f nm ∧ At P w K mg base CR f k ["self", "other"] F
def HasUn (P : Program) (w : World) (K : PySem.W.Frag) (mg : Str → Option Value) (base : Heap) (CR : Addr) (nm : Str) (k : Nat) (F : DF) : Prop := ∃ f, UnF K CR f nm ∧ At P w K mg base CR f k ["self"] F
def HasCm (P : Program) (w : World) (K : PySem.W.Frag) (mg : Str → Option Value) (base : Heap) (CR : Addr) (k : Nat) (F : DF) : Prop :=
  (PySem.W.findIn K (.ref CR) "__ne__" = some (some (.builtin "object.__ne__")) ∧ PySem.W.mroIn K CR (.type "object") = some true) ∧ ∃ f, CmpF K CR f "__eq__" ∧ At P w K mg base CR f k ["self", "other"] F
/-- what the text must show for them -/
def isRefO : Option (Option Value) → Bool
  | some (some (.ref _)) => true
  | _ => false
def rfO : Option (Option Value) → Bool
  | some none => true
  | some (some (.ref _)) => true
  | _ => false
def binB (nm : String) (K : PySem.W.Frag) : Bool := PySem.W.selfFirst K (He.ga K "Ratio") && (He.eqO (PySem.W.findIn K (.ref (He.ga K "Ratio")) (PySem.dunder nm)) (some (some (.ref (He.ma K (He.ga K "Ratio") (PySem.dunder nm))))) &&
  (PySem.W.isFn K (.ref (He.ma K (He.ga K "Ratio") (PySem.dunder nm))) && (rfO (PySem.W.findIn K (.ref (He.ga K "Ratio")) (dunderR nm)) && ((PySem.W.findIn K (.type "int") (PySem.dunder nm)).isSome && ((PySem.W.findIn K (.type "int") (dunderR nm)).isSome && eqB (PySem.W.subIn K (.type "int") (.ref (He.ga K "Ratio"))) (some false))))))
theorem rfO_ok {o : Option (Option Value)} (h : rfO o = true) : o = some none ∨ ∃ g : Addr, o = some (some (.ref g)) := by
  unfold rfO at h
  split at h
  · exact .inl rfl
  · exact .inr ⟨_, rfl⟩
  · cases h
theorem binB_ok {nm : String} {K : PySem.W.Frag} (h : binB nm K = true) : BinF K (He.ga K "Ratio") (He.ma K (He.ga K "Ratio") (PySem.dunder nm)) nm := by
  obtain ⟨h1, h⟩ := He.ba h
  obtain ⟨h2, h⟩ := He.ba h
  obtain ⟨h3, h⟩ := He.ba h
  obtain ⟨h4, h⟩ := He.ba h
  obtain ⟨h5, h⟩ := He.ba h
  obtain ⟨h6, h7⟩ := He.ba h
  exact ⟨h1, He.eqO_ok h2, h3, rfO_ok h4, Option.isSome_iff_exists.mp h5, Option.isSome_iff_exists.mp h6, of_decide_eq_true h7⟩
def reflB (nm : String) (K : PySem.W.Frag) : Bool := PySem.W.selfFirst K (He.ga K "Ratio") && (isRefO (PySem.W.findIn K (.ref (He.ga K "Ratio")) (PySem.dunder nm)) && (He.eqO (PySem.W.findIn K (.ref (He.ga K "Ratio")) (dunderR nm)) (some (some (.ref (He.ma K (He.ga K "Ratio") (dunderR nm))))) &&
  (PySem.W.isFn K (.ref (He.ma K (He.ga K "Ratio") (dunderR nm))) && eqB (PySem.W.subIn K (.ref (He.ga K "Ratio")) (.type "int")) (some false))))
theorem reflB_ok {nm : String} {K : PySem.W.Frag} (h : reflB nm K = true) : ReflF K (He.ga K "Ratio") (He.ma K (He.ga K "Ratio") (dunderR nm)) nm := by
  obtain ⟨h1, h⟩ := He.ba h
  obtain ⟨h2, h⟩ := He.ba h
  obtain ⟨h3, h⟩ := He.ba h
  obtain ⟨h4, h5⟩ := He.ba h
  refine ⟨h1, ?_, He.eqO_ok h3, h4, of_decide_eq_true h5⟩
  unfold isRefO at h2
  split at h2
  · rename_i g e; exact ⟨g, e⟩
  · cases h2
def unB (nm : Str) (K : PySem.W.Frag) : Bool := He.eqO (PySem.W.findIn K (.ref (He.ga K "Ratio")) nm) (some (some (.ref (He.ma K (He.ga K "Ratio") nm)))) && PySem.W.isFn K (.ref (He.ma K (He.ga K "Ratio") nm))
theorem unB_ok {nm : Str} {K : PySem.W.Frag} (h : unB nm K = true) : UnF K (He.ga K "Ratio") (He.ma K (He.ga K "Ratio") nm) nm := by
  obtain ⟨h1, h2⟩ := He.ba h
  exact ⟨He.eqO_ok h1, h2⟩
def cmpB (K : PySem.W.Frag) : Bool := (He.eqO (PySem.W.findIn K (.ref (He.ga K "Ratio")) "__ne__") (some (some (.builtin "object.__ne__"))) && eqB (PySem.W.mroIn K (He.ga K "Ratio") (.type "object")) (some true)) && (unB "__eq__" K &&
  (PySem.W.notFirst K (He.ga K "Ratio") (.ref (He.ga K "Ratio")) && (["int", "bool", "str", "NoneType"].all fun t => PySem.W.notFirst K (He.ga K "Ratio") (.type t))))
theorem cmpB_ok {K : PySem.W.Frag} (h : cmpB K = true) : (PySem.W.findIn K (.ref (He.ga K "Ratio")) "__ne__" = some (some (.builtin "object.__ne__")) ∧ PySem.W.mroIn K (He.ga K "Ratio") (.type "object") = some true) ∧ CmpF K (He.ga K "Ratio") (He.ma K (He.ga K "Ratio") "__eq__") "__eq__" := by
  obtain ⟨h0, h⟩ := He.ba h
  obtain ⟨h1, h2⟩ := He.ba h0
  obtain ⟨h3, h⟩ := He.ba h
  obtain ⟨h4, h5⟩ := He.ba h
  have u := unB_ok h3
  refine ⟨⟨He.eqO_ok h1, of_decide_eq_true h2⟩, u.at_, u.fn, h4, fun t ht => List.all_eq_true.mp h5 t ?_⟩
  rcases ht with rfl | rfl | rfl | rfl <;> simp
/-- a binary operator: a ratio on the left, or what h says -/
def gRL (F : DF) (h : PV → PV → S → R S PV) : PV → PV → S → R S PV := fun p q s => match p, q with
  | .rat a, .rat b => fMt 2 F [.rat a, .rat b] s
  | .rat a, .int b => fMt 2 F [.rat a, .int b] s
  | p, q => h p q s
/-- .. or on either side -/
def gRR (F FR : DF) (h : PV → PV → S → R S PV) : PV → PV → S → R S PV := fun p q s => match p, q with
  | .rat a, .rat b => fMt 2 F [.rat a, .rat b] s
  | .rat a, .int b => fMt 2 F [.rat a, .int b] s
  | .int a, .rat b => fMt 2 FR [.rat b, .int a] s
  | p, q => h p q s
def gR1 (F : DF) (h : PV → S → R S PV) : PV → S → R S PV := fun p s => match p with
  | .rat a => fMt 1 F [.rat a] s
  | p => h p s
def gEqR (F : DF) (h : PV → PV → S → R S PV) : PV → PV → S → R S PV := fun p q s => match p, q with
  | .rat a, .rat b => fMt 2 F [.rat a, .rat b] s
  | .rat a, .int b => fMt 2 F [.rat a, .int b] s
  | .rat a, .bl b => fMt 2 F [.rat a, .bl b] s
  | .rat a, .str b => fMt 2 F [.rat a, .str b] s
  | .rat a, .non => fMt 2 F [.rat a, .non] s
  | p, q => h p q s
@[simp] def notK : PV → S → R S PV := fun v s => match v with
  | .bl b => .ok (.bl (!b)) s
  | _ => .bad
def gNeR (F : DF) (h : PV → PV → S → R S PV) : PV → PV → S → R S PV := fun p q s => match p, q with
  | .rat a, .rat b => (fMt 2 F [.rat a, .rat b] s).bind notK
  | .rat a, .int b => (fMt 2 F [.rat a, .int b] s).bind notK
  | .rat a, .bl b => (fMt 2 F [.rat a, .bl b] s).bind notK
  | .rat a, .str b => (fMt 2 F [.rat a, .str b] s).bind notK
  | .rat a, .non => (fMt 2 F [.rat a, .non] s).bind notK
  | p, q => h p q s
section
variable {X : Cx} {g : Gx} {f : Addr} {fn : List PV → S → R S PV} {op : Operator} {F FR : DF} {k k' : Nat} {h : PV → PV → S → R S PV}
theorem OJ.rl (hB : HasBn X.prog X.w X.K X.mg X.base g.CR op.info.2 k F) (hr : Room k X.A) (tk : Takes X g.W) (ho : OJ X g (binaryOp op) h) : OJ X g (binaryOp op) (gRL F h) := by
  obtain ⟨f, B, hA⟩ := hB
  have hl := o_ratL B (hA.jr hr tk 2)
  intro pins s σ x y v u Q l st p q I rx ry ok rp rq run
  cases p <;> first
    | exact ho pins s σ x y v u Q l st _ q I rx ry ok rp rq run
    | (cases q <;> first
      | exact hl pins s σ x y v u Q l st _ _ I rx ry ok rp rq run
      | exact ho pins s σ x y v u Q l st _ _ I rx ry ok rp rq run)
theorem OJ.addRR (hB : HasBn X.prog X.w X.K X.mg X.base g.CR "add" k F) (hr : Room k X.A) (hR : HasRf X.prog X.w X.K X.mg X.base g.CR "add" k' FR) (hr' : Room k' X.A) (tk : Takes X g.W) (ho : OJ X g (binaryOp .Add) h) : OJ X g (binaryOp .Add) (gRR F FR h) := by
  obtain ⟨f, B, hA⟩ := hB
  obtain ⟨f', B', hA'⟩ := hR
  have hl := o_ratL (op := .Add) B (hA.jr hr tk 2)
  have hl' := o_addR B' (hA'.jr hr' tk 2)
  intro pins s σ x y v u Q l st p q I rx ry ok rp rq run
  cases p <;> cases q <;> first
    | exact ho pins s σ x y v u Q l st _ _ I rx ry ok rp rq run
    | exact hl pins s σ x y v u Q l st _ _ I rx ry ok rp rq run
    | exact hl' pins s σ x y v u Q l st _ _ I rx ry ok rp rq run
theorem OJ.subRR (hB : HasBn X.prog X.w X.K X.mg X.base g.CR "sub" k F) (hr : Room k X.A) (hR : HasRf X.prog X.w X.K X.mg X.base g.CR "sub" k' FR) (hr' : Room k' X.A) (tk : Takes X g.W) (ho : OJ X g (binaryOp .Sub) h) : OJ X g (binaryOp .Sub) (gRR F FR h) := by
  obtain ⟨f, B, hA⟩ := hB
  obtain ⟨f', B', hA'⟩ := hR
  have hl := o_ratL (op := .Sub) B (hA.jr hr tk 2)
  have hl' := o_subR B' (hA'.jr hr' tk 2)
  intro pins s σ x y v u Q l st p q I rx ry ok rp rq run
  cases p <;> cases q <;> first
    | exact ho pins s σ x y v u Q l st _ _ I rx ry ok rp rq run
    | exact hl pins s σ x y v u Q l st _ _ I rx ry ok rp rq run
    | exact hl' pins s σ x y v u Q l st _ _ I rx ry ok rp rq run
theorem OJ.mulRR (hB : HasBn X.prog X.w X.K X.mg X.base g.CR "mul" k F) (hr : Room k X.A) (hR : HasRf X.prog X.w X.K X.mg X.base g.CR "mul" k' FR) (hr' : Room k' X.A) (tk : Takes X g.W) (ho : OJ X g (binaryOp .Mult) h) : OJ X g (binaryOp .Mult) (gRR F FR h) := by
  obtain ⟨f, B, hA⟩ := hB
  obtain ⟨f', B', hA'⟩ := hR
  have hl := o_ratL (op := .Mult) B (hA.jr hr tk 2)
  have hl' := o_mulR B' (hA'.jr hr' tk 2)
  intro pins s σ x y v u Q l st p q I rx ry ok rp rq run
  cases p <;> cases q <;> first
    | exact ho pins s σ x y v u Q l st _ _ I rx ry ok rp rq run
    | exact hl pins s σ x y v u Q l st _ _ I rx ry ok rp rq run
    | exact hl' pins s σ x y v u Q l st _ _ I rx ry ok rp rq run
theorem UJ.neg (hB : HasUn X.prog X.w X.K X.mg X.base g.CR "__neg__" k F) (hr : Room k X.A) (tk : Takes X g.W) : UJ X g (unaryOp .USub) (gR1 F fNegI) := by
  obtain ⟨f, B, hA⟩ := hB
  have hl := u_negR B (hA.jr hr tk 1)
  intro pins s σ x v Q l st p I rx ok rp run
  cases p <;> first
    | exact u_negI pins s σ x v Q l st _ I rx ok rp run
    | exact hl pins s σ x v Q l st _ I rx ok rp run
theorem OJ.eqR (hB : HasCm X.prog X.w X.K X.mg X.base g.CR k F) (hr : Room k X.A) (tk : Takes X g.W) {h : PV → PV → S → R S PV} (ho : OJ X g (compareOp .Eq) h) : OJ X g (compareOp .Eq) (gEqR F h) := by
  obtain ⟨_, f, B, hA⟩ := hB
  have hl := o_eqL (op := .Eq) rfl hr.units0 B (hA.jr hr tk 2)
  intro pins s σ x y v u Q l st p q I rx ry ok rp rq run
  cases p <;> first
    | exact ho pins s σ x y v u Q l st _ q I rx ry ok rp rq run
    | (cases q <;> first
      | exact hl pins s σ x y v u Q l st _ _ I rx ry ok rp rq run
      | exact ho pins s σ x y v u Q l st _ _ I rx ry ok rp rq run)
end
section
variable {X : Cx} {g : Gx} {F : DF} {k : Nat}
theorem o_neL {f : Addr} {fn : List PV → S → R S PV} (hr : Room (k + 1) X.A) (hN : PySem.W.findIn X.K (.ref g.CR) "__ne__" = some (some (.builtin "object.__ne__"))) (hm : PySem.W.mroIn X.K g.CR (.type "object") = some true) (B : CmpF X.K g.CR f "__eq__") (hc : KA X g k f fn) :
    OJ X g (compareOp .NotEq) (fun p q s => match p, q with
      | .rat a, .rat b => (fn [.rat a, .rat b] s).bind notK
      | .rat a, .int b => (fn [.rat a, .int b] s).bind notK
      | .rat a, .bl b => (fn [.rat a, .bl b] s).bind notK
      | .rat a, .str b => (fn [.rat a, .str b] s).bind notK
      | .rat a, .non => (fn [.rat a, .non] s).bind notK
      | _, _ => .bad) := by
  intro pins s σ x y v u Q l st p q I rx ry ok rp rq run
  rw [show compareOp .NotEq = richCompare .NotEq from rfl]
  cases p with
  | rat a =>
    obtain ⟨a1, dx, rfl, n, hH⟩ := id rp
    cases (show v = .ref a1 from rx)
    obtain ⟨mA, O, _⟩ := ins_get I.hok hH
    obtain ⟨od, J, _⟩ := O.look
    obtain ⟨m, hF⟩ := I.fr
    have hu : X.A.units + 1 < cLine := by have := hr.units; omega
    have go : ∀ {tb : Value} {q' : PV}, PySem.W.Looks (model X.prog X.w) s.heap (typeOf u) tb → PySem.W.notFirst X.K g.CR tb = true → RepG X.K g l q' y → Run X.K g ((fn [.rat a, q'] st).bind notK) l σ Q → wpAny (model X.prog X.w) X.A (richCompare .NotEq (.ref a1) u) (EP X pins σ Q) X.xe s := fun hb hn rq' run' => by
      refine ne_K hu hF I.ok.mod.kin J hb hn hN hm B.at_ B.fn (wpAny_call (codeAny_mono (hc X.A.in1 ⟨hr.in1, rfl⟩ pins s σ [.ref a1, y] [.ref a1, u] _ l st [.rat a, _] I (.cons rfl (.cons ry .nil)) ok ⟨_, _, rfl, rp, _, _, rfl, rq', rfl⟩ (Run.bind run')) fun r s' z => ?_))
      cases r with
      | error e => exact z
      | ok fl =>
        cases fl with
        | ret w =>
          obtain ⟨x', H', I', r', l1, s1, v1, e1, ok1, rv, st1, z⟩ := z
          subst e1
          cases v1 with
          | bl b =>
            cases (show x' = .bl b from rv)
            cases (show w = Value.bool b from r')
            exact ⟨b, rfl, .bl (!b), _, I', rfl, z l1 (.bl (!b)) (Step.refl _) ok1 rfl⟩
          | _ => exact z.elim
        | next => exact z.elim
        | brk => exact z.elim
        | cont => exact z.elim
    cases q with
    | rat b =>
      obtain ⟨b1, dy, e, n2, hH2⟩ := id rq
      subst e
      cases (show u = .ref b1 from ry)
      obtain ⟨mB, O2, _⟩ := ins_get I.hok hH2
      obtain ⟨od2, J2, _⟩ := O2.look
      exact go J2.type B.n0 rq run
    | int b =>
      cases (show y = .int b from rq)
      obtain ⟨t, rfl⟩ := (show ∃ t, u = Value.int b t from ry)
      exact go (q' := .int b) (PySem.W.Looks.of_pure rfl) (B.n1 "int" (.inl rfl)) rfl run
    | bl b =>
      cases (show y = .bl b from rq)
      cases (show u = Value.bool b from ry)
      exact go (PySem.W.Looks.of_pure rfl) (B.n1 "bool" (.inr (.inl rfl))) (show RepG X.K g l (.bl b) (.bl b) from rfl) run
    | str b =>
      cases (show y = .str b from rq)
      obtain ⟨t, rfl⟩ := (show ∃ t, u = Value.str b t from ry)
      exact go (PySem.W.Looks.of_pure rfl) (B.n1 "str" (.inr (.inr (.inl rfl)))) (show RepG X.K g l (.str b) (.str b) from rfl) run
    | non =>
      cases (show y = .non from rq)
      cases (show u = Value.none from ry)
      exact go (PySem.W.Looks.of_pure rfl) (B.n1 "NoneType" (.inr (.inr (.inr rfl)))) (show RepG X.K g l .non .non from rfl) run
    | _ => exact run.elim
  | _ => exact run.elim
theorem OJ.neR (hB : HasCm X.prog X.w X.K X.mg X.base g.CR k F) (hr : Room (k + 1) X.A) (tk : Takes X g.W) {h : PV → PV → S → R S PV} (ho : OJ X g (compareOp .NotEq) h) : OJ X g (compareOp .NotEq) (gNeR F h) := by
  obtain ⟨⟨hN, hm⟩, f, B, hA⟩ := hB
  have hl := o_neL hr hN hm B (hA.ka tk)
  intro pins s σ x y v u Q l st p q I rx ry ok rp rq run
  cases p <;> first
    | exact ho pins s σ x y v u Q l st _ q I rx ry ok rp rq run
    | (cases q <;> first
      | exact hl pins s σ x y v u Q l st _ _ I rx ry ok rp rq run
      | exact ho pins s σ x y v u Q l st _ _ I rx ry ok rp rq run)
end
end L3

namespace L3
open PySem PySem.Spec PyProof.Rows L2
/-! ## calls with defaults and keywords -/
/-- values that need no heap -/
def Flat2 (dps : List PV) (dvs : List V) : Prop := ∀ (K : PySem.W.Frag) (CR : Addr) (al : List Addr) (L : Addr → Prop) (H : Hp), RepL K CR al L H dps dvs
/-- n values are given, the defaults dps fill up -/
def HasD (P : Program) (w : World) (K : PySem.W.Frag) (mg : Str → Option Value) (base : Heap) (CR : Addr) (x : Str) (k : Nat) (ps : List Str) (n : Nat) (dps : List PV) (F : DF) : Prop :=
  n + dps.length = ps.length ∧ ∃ f fd dvs ds, mg x = some (.ref f) ∧ PySem.W.keepIn K (.ref f) = true ∧ Binds K fd ps ds ∧ Vals dvs ds ∧ Flat2 dps dvs ∧ FJ P w K mg base CR k f fd ps F
@[simp] def dFnD (F : DF) (n : Nat) (dps : List PV) (da : DA) : DE := fun s => (da s).bind fun ps s1 => if ps.length = n then fnS F (ps ++ dps) s1 else .bad
/-- n values and the keywords ks; gP lays them in the parameters' order -/
def HasK (P : Program) (w : World) (K : PySem.W.Frag) (mg : Str → Option Value) (base : Heap) (CR : Addr) (x : Str) (k : Nat) (ps : List Str) (n : Nat) (ks : List Str) (gP : List PV → List PV → List PV) (F : DF) : Prop :=
  (∀ us zs : List PV, us.length = n → zs.length = ks.length → (gP us zs).length = ps.length) ∧
  ∃ f fd g gV, mg x = some (.ref f) ∧ PySem.W.keepIn K (.ref f) = true ∧ KBn K fd ps n ks g gV ∧ (∀ (CR : Addr) (al : List Addr) (L : Addr → Prop) (H : Hp) us zs vs ws, us.length = n → zs.length = ks.length → RepL K CR al L H us vs → RepL K CR al L H zs ws → RepL K CR al L H (gP us zs) (gV vs ws)) ∧ FJ P w K mg base CR k f fd ps F
@[simp] def dFnK (F : DF) (n m : Nat) (gP : List PV → List PV → List PV) (da dk : DA) : DE := fun s => (da s).bind fun ps s1 => (dk s1).bind fun zs s2 => if ps.length = n ∧ zs.length = m then fnS F (gP ps zs) s2 else .bad
section
variable {X : Cx} {g : Gx} {a b c e : Expr} {es : List Expr} {da db dc de : DE} {dr dk : DA} {pos p : Pos} {x : Str} {f : Addr} {k n : Nat} {ps : List Str} {F : DF} {dps : List PV}
theorem j_callD (h : HasD X.prog X.w X.K X.mg X.base g.CR x k ps n dps F) (hr : Room k X.A) (tk : Takes X g.W) (ha : JA X g (e :: es) dr) (hg : Gl X x := by rfl)
    (hdb : (x == ("__debug__" : Str)) = false := by decide) (he : starEach (e :: es) X.env = (false, eval e X.env) :: starEach es X.env := by rfl) (hpl : (backTo pos (starEach es X.env)).any (·.1) = false := by rfl) :
    JE X g (.Call (.Name x p) (e :: es) [] pos) (dFnD F n dps dr) := by
  obtain ⟨hn, f, fd, dvs, ds, hm, hk, hb, hd, hfl, G⟩ := h
  exact j_callG (ka_fnD G hb hd (fun l => hfl _ _ _ _ _) hn tk |>.kj hr).cj hg hm hk ha hdb he hpl
/-- keywords' values -/
abbrev JK (X : Cx) (g : Gx) (kws : List Keyword) (d : DA) : Prop := PK X kws (LA X.K g d)
theorem PK.cq {kws : List Keyword} {t t' : TA} (h : PK X kws t) (i : ∀ σ H Q, t' σ H Q → t σ H Q) : PK X kws t' := ⟨fun pos pins s σ H Q I q => h.run pos pins s σ H Q I (i σ H Q q)⟩
theorem jk_nil : JK X g [] dNil := PK.cq pk_nil fun σ H Q q => by
  obtain ⟨l, s, rfl, ok, q⟩ := q
  exact q l [] (Step.refl l) ok rfl
theorem jk_cons {kws : List Keyword} {nm : Option Str} {kpos : Pos} (ha : JE X g e de) (hr : JK X g kws dk) : JK X g (⟨nm, e, kpos⟩ :: kws) (dCons de dk) := PK.cq (pk_cons ha hr) fun σ H Q q => by
  obtain ⟨l, s, rfl, ok, q⟩ := q
  refine ⟨l, s, rfl, ok, Run.mono (Run.bindA q) fun u H1 ⟨l1, s1, v, e1, ok1, r1, st1, h1⟩ => ?_⟩
  refine ⟨l1, s1, e1, ok1, RunA.mono (RunA.bindA h1) fun us H2 ⟨l2, s2, vs, e2, ok2, r2, st2, h2⟩ => ?_⟩
  subst e2
  exact h2 l2 (u :: us) (Step.refl _) ok2 ⟨u, us, rfl, st2.rep r1, r2⟩
theorem j_callK {kws : List Keyword} {ks : List Str} {gP : List PV → List PV → List PV} {m : Nat} (h : HasK X.prog X.w X.K X.mg X.base g.CR x k ps n ks gP F) (hr : Room k X.A) (tk : Takes X g.W) (ha : JA X g (e :: es) dr) (hkw : JK X g kws dk) (hm0 : m = ks.length := by rfl) (hg : Gl X x := by rfl)
    (hall : (backToKw pos (keywordEach kws X.env)).all (·.1.isSome) = true := by rfl) (hks : (backToKw pos (keywordEach kws X.env)).filterMap (·.1) = ks := by rfl)
    (hdb : (x == ("__debug__" : Str)) = false := by decide) (he : starEach (e :: es) X.env = (false, eval e X.env) :: starEach es X.env := by rfl)
    (hpl : ((backTo pos (starEach (e :: es) X.env)).any (·.1) || (backToKw pos (keywordEach kws X.env)).any (·.1.isNone)) = false := by rfl) :
    JE X g (.Call (.Name x p) (e :: es) kws pos) (dFnK F n m gP dr dk) := by
  subst hm0
  obtain ⟨hn, f, fd, g', gV, hm, hk, hb, hfl, G⟩ := h
  have main : ∀ σ0 : St, PE X (.Call (.Name x p) (e :: es) kws pos) (fun σ H Q => σ = σ0 ∧ tCallN n ks.length (spJ X.K g.CR ps.length F) gV (fun c dd H => g.W c dd σ0 H) (LA X.K g dr) (LA X.K g dk) σ H Q) := fun σ0 => by
    refine ⟨fun pins s σ H Q I h => ?_⟩
    obtain ⟨rfl, h⟩ := h
    refine wpAny_Call_Name_kw (ld_glob I hg hm ?_ hdb)
    refine PySem.W.callWith_KW (h₀ := X.base) I.ok.mod.kin hk hall (thn (ha.run pos pins s σ H _ I h) fun us s1 w1 => ?_) hpl he
    obtain ⟨vs, H1, I1, r, q⟩ := w1
    refine thn (hkw.run pos pins s1 σ H1 _ I1 q) fun ws s2 w2 => ?_
    obtain ⟨zs, H2, I2, rz, l1, l2, q2⟩ := w2
    refine ⟨I2.kIn, ?_⟩
    rw [hks]
    have r2 := hb.rel r rz
    refine wpAny_call (codeAny_mono (G.run X.A X.stack s2 H2 ⟨us, ks.zip ws⟩ (g' us ws) (gV vs zs) Q _ hr I2.env0 (hb.to s2 us ws I2.kIn (r.length.symm.trans l1) (rz.length.symm.trans l2)) r2 q2) fun r s' hq => ?_)
    cases r with
    | error e => exact passAt tk σ pins H2 s2 e s' I2 hq
    | ok fl =>
      cases fl with
      | ret u => exact I2.after hq
      | next => exact False.elim hq
      | brk => exact False.elim hq
      | cont => exact False.elim hq
  refine ⟨fun pins s σ H Q I q => (main σ).run pins s σ H Q I ⟨rfl, ?_⟩⟩
  obtain ⟨l, s, rfl, ok, q⟩ := q
  refine ⟨l, s, rfl, ok, RunA.mono (RunA.bind q) fun us H1 ⟨l1, s1, vs, e1, ok1, r1, st1, h1⟩ => ?_⟩
  subst e1
  refine ⟨l1, s1, rfl, ok1, RunA.mono (RunA.bind h1) fun ws H2 ⟨l2, s2, zs, e2, ok2, r2, st2, h2⟩ => ?_⟩
  subst e2
  by_cases z : vs.length = n ∧ zs.length = ks.length
  · have h2 : Run X.K g (if vs.length = n ∧ zs.length = ks.length then fnS F (gP vs zs) s2 else .bad) l2 σ Q := h2
    rw [if_pos z] at h2
    exact ⟨by rw [← r1.length]; exact z.1, by rw [← r2.length]; exact z.2, call_asks ok2 (hfl _ _ _ _ _ _ _ _ z.1 z.2 (st2.reps r1) r2) (hn _ _ z.1 z.2) h2⟩
  · have h2 : Run X.K g (if vs.length = n ∧ zs.length = ks.length then fnS F (gP vs zs) s2 else .bad) l2 σ Q := h2
    rw [if_neg z] at h2
    exact h2.elim
end
/-- a call with keywords where no default is read -/
theorem FunD.kb0 {K : PySem.W.Frag} {x qual : Str} {params : Arguments} {body : List Stmt} {scope : Scope} {kws : List (Str × V)} {f : Addr} {fd : FuncData} {ps : List Str} (F : FunD K x qual params body scope [] kws f fd) (n : Nat) (ks : List Str)
    (g : {α : Type} → List α → List α → List α) (hrel : ∀ {vs zs : List V} {us ws : List Value}, Vals vs us → Vals zs ws → Vals (g vs zs) (g us ws))
    (h : ∀ (kV doc pm : Value) (an : Option Addr) (cdv ct : Value) (us ws : List Value), us.length = n → ws.length = ks.length → bindArgs (PySem.W.fnOf x qual params body scope .none kV doc pm an cdv ct) ⟨us, ks.zip ws⟩ = pure (ps.zip (g us ws))) : KBn K fd ps n ks g g := by
  obtain ⟨c1, d1, v1, k1, doc1, pm1, an1, cd1, ct1, sl1, hfd, hlk, hcd, hD, hK⟩ := F.ex
  subst hfd
  rcases hD with ⟨_, hv⟩ | ⟨hv, _⟩
  · subst hv
    exact ⟨fun s us ws X l1 l2 => .of_eq (h k1 doc1 pm1 an1 cd1 ct1 us ws l1 l2), hrel⟩
  · exact absurd rfl hv
end L3

namespace L3
open PySem PySem.Spec PyProof.Rows L2
/-! ## sorting by a total order -/
section
variable {α : Type} (le : α → α → Bool)
def insB (x : α) : List α → List α
  | [] => [x]
  | y :: r => if le x y = true then x :: y :: r else y :: insB x r
def srt : List α → List α
  | [] => []
  | x :: r => insB le x (srt r)
theorem insB_perm (x : α) : ∀ l : List α, (insB le x l).Perm (x :: l)
  | [] => .refl _
  | y :: r => by
    unfold insB
    split
    · exact .refl _
    · exact ((insB_perm x r).cons y).trans (List.Perm.swap x y r)
theorem srt_perm : ∀ l : List α, (srt le l).Perm l
  | [] => .refl _
  | x :: r => (insB_perm le x _).trans ((srt_perm r).cons x)
variable {le} (tot : ∀ a b, le a b = true ∨ le b a = true) (tr : ∀ a b c, le a b = true → le b c = true → le a c = true) (as : ∀ a b, le a b = true → le b a = true → a = b)
include tot tr in
theorem insB_sorted (x : α) : ∀ l : List α, l.Pairwise (fun a b => le a b = true) → (insB le x l).Pairwise (fun a b => le a b = true)
  | [], _ => List.pairwise_singleton ..
  | y :: r, h => by
    unfold insB
    rw [List.pairwise_cons] at h
    split
    · rename_i hx
      refine List.pairwise_cons.mpr ⟨fun z hz => ?_, List.pairwise_cons.mpr h⟩
      rcases List.mem_cons.mp hz with e | e
      · rw [e]; exact hx
      · exact tr _ _ _ hx (h.1 z e)
    · rename_i hx
      refine List.pairwise_cons.mpr ⟨fun z hz => ?_, insB_sorted x r h.2⟩
      rcases List.mem_cons.mp ((insB_perm le x r).mem_iff.mp hz) with e | e
      · rw [e]; exact (tot x y).resolve_left hx
      · exact h.1 z e
include tot tr in
theorem srt_sorted : ∀ l : List α, (srt le l).Pairwise (fun a b => le a b = true)
  | [] => List.Pairwise.nil
  | x :: r => insB_sorted tot tr x _ (srt_sorted r)
include as in
theorem sorted_uniq : ∀ {a b : List α}, a.Perm b → a.Pairwise (fun a b => le a b = true) → b.Pairwise (fun a b => le a b = true) → a = b
  | [], b, p, _, _ => (List.nil_perm.mp p).symm
  | x :: r, b, p, h1, h2 => by
    cases b with
    | nil => exact absurd (List.perm_nil.mp p) (by simp)
    | cons y q =>
      rw [List.pairwise_cons] at h1 h2
      have e : x = y := by
        have m1 : x ∈ y :: q := p.mem_iff.mp List.mem_cons_self
        have m2 : y ∈ x :: r := p.mem_iff.mpr List.mem_cons_self
        rcases List.mem_cons.mp m1 with e | e
        · exact e
        · rcases List.mem_cons.mp m2 with e2 | e2
          · exact e2.symm
          · exact as _ _ (h1.1 y e2) (h2.1 x e)
      subst e
      rw [sorted_uniq (p.cons_inv) h1.2 h2.2]
end
def leI (a b : Int) : Bool := decide (a ≤ b)
abbrev isort (l : List Int) : List Int := srt leI l
theorem isort_uniq {a l : List Int} (p : a.Perm l) (h : a.Pairwise (· ≤ ·)) : a = isort l :=
  sorted_uniq (le := leI) (fun a b h1 h2 => Int.le_antisymm (of_decide_eq_true h1) (of_decide_eq_true h2)) (p.trans (srt_perm leI l).symm) (h.imp fun q => decide_eq_true q)
    (srt_sorted (le := leI) (fun a b => by unfold leI; rcases Int.le_total a b with h | h <;> simp [h]) (fun a b c h1 h2 => decide_eq_true (Int.le_trans (of_decide_eq_true h1) (of_decide_eq_true h2))) l)
@[simp] def fSortI : List PV → S → R S PV := fun ps s => match ps with
  | [.lst xs] => (match intsP xs with
    | some is => .ok (.lst ((isort is).map .int)) s
    | none => .bad)
  | _ => .bad
@[simp] def boolsP : List PV → Option (List Bool)
  | [] => some []
  | .bl b :: r => (match boolsP r with | some bs => some (b :: bs) | none => none)
  | _ => none
theorem boolsP_rep {K : PySem.W.Frag} {CR : Addr} {al : List Addr} {L : Addr → Prop} {H : Hp} : ∀ {xs : List PV} {bs : List Bool} {vs : List V}, boolsP xs = some bs → RepL K CR al L H xs vs → vs = bs.map V.bl
  | [], bs, vs, e, r => by cases e; exact r
  | x :: xs, bs, vs, e, r => by
    obtain ⟨v, w, rfl, h1, h2⟩ := r
    cases x with
    | bl b =>
      unfold boolsP at e
      cases q : boolsP xs with
      | none => rw [q] at e; cases e
      | some js =>
        rw [q] at e
        cases e
        rw [boolsP_rep q h2, show v = .bl b from h1]; rfl
    | _ => cases e
@[simp] def fAll : List PV → S → R S PV := fun ps s => match ps with
  | [.lst xs] => (match boolsP xs with
    | some bs => .ok (.bl (bs.all id)) s
    | none => .bad)
  | _ => .bad
/-- x in a list, x and its items data -/
@[simp] def gIn (neg : Bool) : PV → PV → S → R S PV := fun p q s => match q with
  | .lst xs => if okD 8 p = true ∧ okD 8 (.lst xs) = true then .ok (.bl (xor neg (xs.any fun z => eqP z p))) s else .bad
  | .tup xs => if okD 8 p = true ∧ okD 8 (.tup xs) = true then .ok (.bl (xor neg (xs.any fun z => eqP z p))) s else .bad
  | .str y => (match p with
    | .str x => .ok (.bl (xor neg (!(Builtin.Str.occurrences y x 0 y.length 1).isEmpty))) s
    | _ => .bad)
  | _ => .bad
theorem ints_rep {K : PySem.W.Frag} {CR : Addr} {al : List Addr} {L : Addr → Prop} {H : Hp} : ∀ (is : List Int), RepL K CR al L H (is.map .int) (is.map V.int)
  | [] => rfl
  | i :: is => ⟨_, _, rfl, rfl, ints_rep is⟩
theorem any_dat {p : PV} {d : PyData} (hd : p.dat = some d) : ∀ (xs : List PV) (ds : List PyData), PV.datL xs = some ds → (ds.any fun z => PyData.eqv z d) = xs.any fun z => eqP z p
  | [], ds, h => by cases h; rfl
  | x :: xs, ds, h => by
    unfold PV.datL at h
    split at h
    · rename_i d1 ds1 e1 e2
      cases h
      rw [List.any_cons, List.any_cons, any_dat hd xs ds1 e2, eqP_ok x p d1 d e1 hd]
    · cases h
section
variable {X : Cx} {g : Gx} {a b c e : Expr} {da db dc de : DE} {pos : Pos}
theorem c_sortedI : CJ X g (fun us => call (.builtin "sorted") us) fSortI := CJ.of cr_sortedI fun l st σ ps xs Q ok rp run => by
  unfold fSortI at run
  split at run
  · rename_i ys
    split at run
    · rename_i is e
      obtain ⟨v, r, rfl, h1, h2⟩ := rp
      cases (show r = [] from h2)
      obtain ⟨a, vs, rfl, _, ha, ra⟩ := h1
      refine ⟨a, is, rfl, by rw [← intsP_rep e ra]; exact SqL.of ha, fun ns' q hp hs hq => ?_⟩
      rw [isort_uniq hp hs]
      exact Run.lst run ok (ints_rep _) q hq
    · exact run.elim
  · exact run.elim
theorem c_all (hc : X.calm = true) : CJ X g (fun us => call (.builtin "all") us) fAll := CJ.of (cr_all hc) fun l st σ ps xs Q ok rp run => by
  unfold fAll at run
  split at run
  · rename_i ys
    split at run
    · rename_i is e
      obtain ⟨v, r, rfl, h1, h2⟩ := rp
      cases (show r = [] from h2)
      obtain ⟨a, vs, rfl, _, ha, ra⟩ := h1
      exact ⟨a, is, rfl, by rw [← boolsP_rep e ra]; exact SqL.of ha, run l _ (Step.refl l) ok rfl⟩
    · exact run.elim
  · exact run.elim
theorem in_asks {l : Lc} {p : PV} {xs : List PV} {x y : V} (rp : RepG X.K g l p x) (rq : RepG X.K g l (.lst xs) y) (h1 : okD 8 p = true) (h2 : okD 8 (.lst xs) = true) :
    ∃ d ds, Dp X.K l.H x d ∧ Dp X.K l.H y (.list ds) ∧ SeqAt.shaped d = true ∧ SeqAt.shaped (.list ds) = true ∧ (ds.any fun z => PyData.eqv z d) = xs.any fun z => eqP z p := by
  obtain ⟨d, d1, d2, d3⟩ := okD_dat 8 p h1
  obtain ⟨e, e1, e2, e3⟩ := okD_dat 8 _ h2
  have sh : ∀ d : PyData, d.canLay0 = true → d.depth ≤ 8 → SeqAt.shaped d = true := fun d a b => by unfold SeqAt.shaped; rw [a, Bool.true_and]; exact decide_eq_true (by omega)
  have k1 := PV.dat_dp p d x d1 rp
  have k2 := PV.dat_dp _ e y e1 rq
  unfold PV.dat at e1
  split at e1
  · rename_i ds e4
    cases e1
    exact ⟨d, ds, k1, k2, sh d d2 d3, sh _ e2 e3, any_dat d1 xs ds e4⟩
  · cases e1
theorem in_asksT {l : Lc} {p : PV} {xs : List PV} {x y : V} (rp : RepG X.K g l p x) (rq : RepG X.K g l (.tup xs) y) (h1 : okD 8 p = true) (h2 : okD 8 (.tup xs) = true) :
    ∃ d ds, Dp X.K l.H x d ∧ Dp X.K l.H y (.tuple ds) ∧ d.canLay0 = true ∧ PyData.canLayAll0 ds = true ∧ d.depth ≤ 8 ∧ (ds.any fun z => PyData.eqv z d) = xs.any fun z => eqP z p := by
  obtain ⟨d, d1, d2, d3⟩ := okD_dat 8 p h1
  obtain ⟨e, e1, e2, e3⟩ := okD_dat 8 _ h2
  have k1 := PV.dat_dp p d x d1 rp
  have k2 := PV.dat_dp _ e y e1 rq
  unfold PV.dat at e1
  split at e1
  · rename_i ds e4
    cases e1
    exact ⟨d, ds, k1, k2, d2, e2, d3, any_dat d1 xs ds e4⟩
  · cases e1
theorem o_in (hu : X.A.units + 65 < cLine) : OJ X g (compareOp .In) (gIn false) := by
  intro pins s σ x y v u Q l st p q I rx ry ok rp rq run
  unfold gIn at run
  split at run
  · rename_i xs
    split at run
    · rename_i h
      obtain ⟨d, ds, a1, a2, a3, a4, a5⟩ := in_asks rp rq h.1 h.2
      refine op_inD hu pins s σ l.H x y v u Q I rx ry ⟨d, ds, a1, a2, a3, a4, ?_⟩
      rw [a5]
      have z := run l (.bl (xor false (xs.any fun z => eqP z p))) (Step.refl l) ok rfl
      rw [Bool.false_xor] at z
      exact z
    · exact run.elim
  · rename_i xs
    split at run
    · rename_i h
      obtain ⟨d, ds, a1, a2, a3, a4, a5, a6⟩ := in_asksT rp rq h.1 h.2
      obtain ⟨as, r1⟩ := Dp.reads I d x v a1 rx
      obtain ⟨bs, r2⟩ := Dp.reads I (.tuple ds) y u a2 ry
      have z := run l (.bl (xor false (xs.any fun z => eqP z p))) (Step.refl l) ok rfl
      rw [Bool.false_xor] at z
      exact SeqAt.in_tuple_reads r2 r1 a4 a3 (by have : min (PyData.depthAll ds) d.depth ≤ d.depth := Nat.min_le_right _ _; omega) ⟨.bl _, l.H, I, rfl, by rw [a6]; exact z⟩
    · exact run.elim
  · rename_i b
    split at run
    · rename_i a
      have z := run l (.bl (xor false (!(Builtin.Str.occurrences b a 0 b.length 1).isEmpty))) (Step.refl l) ok rfl
      rw [Bool.false_xor] at z
      exact op_in_str pins s σ l.H x y v u Q I rx ry ⟨a, b, rp, rq, z⟩
    · exact run.elim
  · exact run.elim
theorem o_notin (hu : X.A.units + 65 < cLine) : OJ X g (compareOp .NotIn) (gIn true) := by
  intro pins s σ x y v u Q l st p q I rx ry ok rp rq run
  unfold gIn at run
  split at run
  · rename_i xs
    split at run
    · rename_i h
      obtain ⟨d, ds, a1, a2, a3, a4, a5⟩ := in_asks rp rq h.1 h.2
      refine op_notInD hu pins s σ l.H x y v u Q I rx ry ⟨d, ds, a1, a2, a3, a4, ?_⟩
      rw [a5]
      have z := run l (.bl (xor true (xs.any fun z => eqP z p))) (Step.refl l) ok rfl
      rw [Bool.true_xor] at z
      exact z
    · exact run.elim
  · rename_i xs
    split at run
    · rename_i h
      obtain ⟨d, ds, a1, a2, a3, a4, a5, a6⟩ := in_asksT rp rq h.1 h.2
      obtain ⟨as, r1⟩ := Dp.reads I d x v a1 rx
      obtain ⟨bs, r2⟩ := Dp.reads I (.tuple ds) y u a2 ry
      have z := run l (.bl (xor true (xs.any fun z => eqP z p))) (Step.refl l) ok rfl
      rw [Bool.true_xor] at z
      exact SeqAt.notIn_tuple_reads r2 r1 a4 a3 (by have : min (PyData.depthAll ds) d.depth ≤ d.depth := Nat.min_le_right _ _; omega) ⟨.bl _, l.H, I, rfl, by rw [a6]; exact z⟩
    · exact run.elim
  · rename_i b
    split at run
    · rename_i a
      have z := run l (.bl (xor true (!(Builtin.Str.occurrences b a 0 b.length 1).isEmpty))) (Step.refl l) ok rfl
      rw [Bool.true_xor] at z
      exact op_notIn_str pins s σ l.H x y v u Q I rx ry ⟨a, b, rp, rq, z⟩
    · exact run.elim
  · exact run.elim
/-- a op b op' c -/
theorem j_chain {op op' : CmpOp} {f f' : PV → PV → S → R S PV} (ho : OJ X g (compareOp op) f) (ho' : OJ X g (compareOp op') f') (ha : JE X g a da) (hb : JE X g b db) (hc : JE X g c dc)
    (hm : lastMarks [op, op'] [b, c] = false := by with_unfolding_all rfl) : JE X g (.Compare a [op, op'] [b, c] pos) (dChain f f' da db dc) := by
  refine ⟨fun pins s σ H Q I h => ?_⟩
  obtain ⟨l, st, rfl, ok, h⟩ := h
  refine Compare_chain (thn (ha.run pins s σ _ _ I ⟨l, st, rfl, ok, Run.bind h⟩) fun v s1 ⟨x, H1, I1, r1, l1, st1, p, e1, ok1, rp, sp1, h1⟩ => chain_link ?_) hm
  subst e1
  refine thn (hb.run pins s1 σ _ _ I1 ⟨l1, st1, rfl, ok1, Run.bind h1⟩) fun u s2 ⟨y, H2, I2, r2, l2, st2, q, e2, ok2, rq, sp2, h2⟩ => ?_
  subst e2
  refine thn (ho pins s2 σ x y v u _ l2 st2 p q I2 r1 r2 ok2 (sp2.rep rp) rq (Run.bind h2)) fun d s3 ⟨z, H3, I3, r3, l3, st3, k, e3, ok3, rk, sp3, h3⟩ => ?_
  subst e3
  cases k with
  | bl k =>
    cases (show z = .bl k from rk)
    cases (show d = Value.bool k from r3)
    refine wpAny_truthy_bool ?_
    cases k with
    | false => exact ite_ff ⟨.bl false, _, I3, rfl, h3 l3 (.bl false) (Step.refl _) ok3 rfl⟩
    | true =>
      have h3 : Run X.K g ((dc st3).bind fun w s4 => f' q w s4) l3 σ Q := h3
      refine ite_tt (chain_last (thn (hc.run pins s3 σ _ _ I3 ⟨l3, st3, rfl, ok3, Run.bind h3⟩) fun w' s4 ⟨z', H4, I4, r4, l4, st4, w, e4, ok4, rw', sp4, h4⟩ => ?_))
      subst e4
      exact ho' pins s4 σ y z' u w' Q l4 st4 q w I4 r2 r4 ok4 (sp4.rep (sp3.rep rq)) rw' h4
  | _ => exact h3.elim
end
end L3

/-! ## abs of an own instance -/
namespace L3
open PySem PySem.Spec PyProof.Rows L2 PySem.Calls
def gAbs (F : DF) : List PV → S → R S PV := fun ps s => match ps with
  | [.rat a] => fMt 1 F [.rat a] s
  | ps => fAbsI ps s
theorem c_absR {X : Cx} {g : Gx} {F : DF} {k : Nat} (hB : HasUn X.prog X.w X.K X.mg X.base g.CR "__abs__" k F) (hr : Room (k + 1) X.A) (tk : Takes X g.W) : CJ X g (fun us => call (.builtin "abs") us) (gAbs F) := by
  obtain ⟨f, B, hA⟩ := hB
  have hc := hA.ka tk (g := g)
  intro pins s σ xs vs Q l st ps I rx ok rp run
  unfold gAbs at run
  split at run
  · rename_i a
    obtain ⟨x, r, rfl, h1, h2⟩ := rp
    cases (show r = [] from h2)
    obtain ⟨a1, dx, rfl, n, hH⟩ := id h1
    obtain ⟨v, vs', rfl, hv, hvs⟩ : ∃ v vs', vs = v :: vs' ∧ RelV (.ref a1) v ∧ Vals [] vs' := by
      cases rx with | cons h1 h2 => exact ⟨_, _, rfl, h1, h2⟩
    cases hvs
    cases (show v = .ref a1 from hv)
    obtain ⟨mA, O, _⟩ := ins_get I.hok hH
    obtain ⟨od, J, _⟩ := O.look
    obtain ⟨m, hF⟩ := I.fr
    refine (call_function_entry kind_abs plain_abs entry_abs (args_abs _) (?_))
    unfold Builtin.«abs»
    refine (wpAny_bind (m := oneArg "abs" _) (wpAny_pure (?_)))
    refine wpAny_bind (m := callSpecial? (.ref a1) (Str.ofString "__abs__")) (PySem.W.special_fn (I.ok.mod.kin.keeps hF.keep) J B.at_ (beq_iff_eq.mp B.fn) (wpAny_call (codeAny_mono (hc X.A.in1 ⟨hr.in1, rfl⟩ pins s σ [.ref a1] [.ref a1] Q l st [.rat a] I (.cons rfl .nil) ok ⟨_, _, rfl, h1, rfl⟩ run) fun r s' z => ?_)))
    cases r with
    | error e => exact z
    | ok fl =>
      cases fl with
      | ret w => exact wpAny_pure ⟨_, rfl, z⟩
      | next => exact z.elim
      | brk => exact z.elim
      | cont => exact z.elim
  · exact c_abs pins s σ xs vs Q l st ps I rx ok rp run
end L3

/-! ## sums of own instances -/
namespace L3
open PySem PySem.Spec PyProof.Rows L2 PySem.Calls
theorem takes_w0 (X : Cx) : Takes X W0 := fun u s' ⟨_, _, _, _, _, _, _, _, _, _, _, _, _, _, _, _, w⟩ => w.elim
def thenR (G : Rat → S → R S PV) (r : R S PV) : R S PV := match r with
  | .ok (.rat r1) s1 => G r1 s1
  | _ => .bad
def sumT (F : DF) : List PV → Rat → S → R S PV
  | [], r, s => .ok (.rat r) s
  | .rat q :: xs, r, s => thenR (fun r1 s1 => sumT F xs r1 s1) (fMt 2 F [.rat r, .rat q] s)
  | _ :: _, _, _ => .bad
def gSum (F FR : DF) : List PV → S → R S PV := fun ps s => match ps with
  | [.lst (.rat q :: xs)] => thenR (fun r1 s1 => sumT F xs r1 s1) (fMt 2 FR [.rat q, .int 0] s)
  | ps => fSumI ps s
section
variable {X : Cx} {g : Gx} {pins : List (Addr × Obj)} {s : Shared} {σ : St} {l : Lc} {st : S} {Q : VK} {k k' : Nat} {fn : List PV → S → R S PV} {A : Around} {f a1 b1 : Addr} {a b : Rat}
theorem add_at (hs : Sub X k A) (B : BinF X.K g.CR f "add") (hc : KA X g k f fn) (I : Inv X pins σ l.H s) (ok : Sok X.K g l st σ) (rp : RepG X.K g l (.rat a) (.ref a1)) (rq : RepG X.K g l (.rat b) (.ref b1))
    (run : Run X.K g (fn [.rat a, .rat b] st) l σ Q) : wpAny (model X.prog X.w) A (binaryOp .Add (.ref a1) (.ref b1)) (EP X pins σ Q) X.xe s := by
  obtain ⟨_, dx, e, n, hH⟩ := id rp
  cases e
  obtain ⟨_, dy, e, n2, hH2⟩ := id rq
  cases e
  obtain ⟨mA, O, _⟩ := ins_get I.hok hH
  obtain ⟨od, J, _⟩ := O.look
  obtain ⟨mB, O2, _⟩ := ins_get I.hok hH2
  obtain ⟨od2, J2, _⟩ := O2.look
  obtain ⟨m, hF⟩ := I.fr
  exact PySem.W.binop_K (op := .Add) hF I.ok.mod.kin J J2.type B.first B.at_ B.fn (wpAny_mono (wpAny_call (hc A hs pins s σ [.ref a1, .ref b1] [.ref a1, .ref b1] Q l st [.rat a, .rat b] I (.cons rfl (.cons rfl .nil)) ok ⟨_, _, rfl, rp, _, _, rfl, rq, rfl⟩ run)) (fun _ _ z => back_of z) fun _ _ z => z)
theorem radd_at {i : Int} {t : Tok} (hs : Sub X k A) (F : ReflF X.K g.CR f "add") (hc : KA X g k f fn) (I : Inv X pins σ l.H s) (ok : Sok X.K g l st σ) (rq : RepG X.K g l (.rat b) (.ref b1))
    (run : Run X.K g (fn [.rat b, .int i] st) l σ Q) : wpAny (model X.prog X.w) A (binaryOp .Add (.int i t) (.ref b1)) (EP X pins σ Q) X.xe s := by
  obtain ⟨_, dy, e, n2, hH2⟩ := id rq
  cases e
  obtain ⟨mB, O2, _⟩ := ins_get I.hok hH2
  obtain ⟨od2, J2, _⟩ := O2.look
  obtain ⟨fl, hl⟩ := F.own
  exact bin_refl (op := .Add) I.kIn J2 F.first hl F.at_ F.fn F.sub PySem.F.fills_int_add PySem.F.slot_int_add PySem.F.entry_int_add (PySem.F.args_int_add_2 _ _) decl_add (wpAny_mono (wpAny_call (hc A hs pins s σ [.ref b1, .int i] [.ref b1, .int i t] Q l st [.rat b, .int i] I (.cons rfl (.cons ⟨t, rfl⟩ .nil)) ok ⟨_, _, rfl, rq, _, _, rfl, rfl, rfl⟩ run)) (fun _ _ z => back_of z) fun _ _ z => z)
/-- a step of the loop, the next item at hand: the sum is put into the state -/
def Fin1 (X : Cx) (pins : List (Addr × Obj)) (σ : St) (Q : VK) : Result → Shared → Prop := fun r s' => match r with
  | Except.ok (Flow.ret v) => (EP X pins σ Q v s')
  | .ok _ => False
  | .error e => X.xe e s'
def Nx1 (X : Cx) (pins : List (Addr × Obj)) (σ : St) (Q : VK) : Fin → Shared → Prop := fun fin s'' => match fin with
  | .done f => Fin1 X pins σ Q (.ok f) s''
  | .again c' => c'.quiet = true ∧ codeAny (model X.prog X.w) X.A c' (Fin1 X pins σ Q) s''
def StO (r : Value) (c : Nat) : Obj := { cls := .type "list", dict := none, data := .seq #[r] c, slots := #[] }
def ItO (al : Addr) : Obj := { cls := .type "list_iterator", data := .fields #[.ref al, .int 0 0] }
theorem plain_step (hx : X.xe = fun _ _ => False) {it D : Addr} {c : Nat} {i : Nat} {al : Addr} {tot v : Value} {next : Value → Int} {G : Rat → S → R S PV} {r0 : R S PV} (hnx : ∀ u : Addr, next (.ref u) = 2)
    (I : Inv X pins σ l.H s) (h1 : FpOk X pins l.H it) (h2 : FpOk X pins l.H D) (hne : it ≠ D) (hI : s.heap.IsListIter it al i) (hD : s.heap.get? D = some (StO tot c))
    (hop : ∀ Q' : VK, Run X.K g r0 l σ Q' → wpAny (model X.prog X.w) X.A.in1 (binaryOp .Add tot v) (EP X (pins ++ pinsAt [it, D] s.heap) σ Q') X.xe s)
    (run : Run X.K g (thenR G r0) l σ Q)
    (go : ∀ (l' : Lc) (s1 : S) (s' : Shared) (r1 : Rat) (u : Addr) (c : Nat), Step l l' → Inv X pins σ l'.H s' → Sok X.K g l' s1 σ → RepG X.K g l' (.rat r1) (.ref u) → FpOk X pins l'.H it → FpOk X pins l'.H D → s'.heap.IsListIter it al i → s'.heap.get? D = some (StO (.ref u) c) → Run X.K g (G r1 s1) l' σ Q →
      codeAny (model X.prog X.w) X.A (.builtin "sum.loop" ⟨[.ref it, .ref D, rawInt 2, rawInt 0], []⟩) (Fin1 X pins σ Q) s') :
    wpAny (model X.prog X.w) X.A.in1 ((holding [v] (binaryOp .Add tot v)).attempt >>= fun o => match o with
      | .ok x => do
        updateSeq D fun _ => #[x]
        letGo [tot, v]
        (updateSeq D (fun _ => #[x]) >>= fun _ => again (.builtin "sum.loop" ⟨[.ref it, .ref D, rawInt (next x), rawInt 0], []⟩))
      | .error e => do
        updateSeq D fun _ => #[]
        letGo [tot, v] [e]
        throw e) (Nx1 X pins σ Q) (fun e s'' => Fin1 X pins σ Q (.error e) s'') s := by
  cases r0 with
  | bad => exact run.elim
  | exn e t => exact run.elim
  | ok p s1 =>
  cases p with
  | rat r1 =>
    have run : Run X.K g (G r1 s1) l σ Q := run
    refine wpAny_bind (wpAny_attempt (wpAny_holding (wpAny_mono (hop (fun u H1 => ∃ l1, l1.H = H1 ∧ Step l l1 ∧ Sok X.K g l1 s1 σ ∧ RepG X.K g l1 (.rat r1) u) fun l' u st' ok' rp' => ⟨l', rfl, st', ok', rp'⟩) (fun x s2 z => ?_) fun e s2 z => ?_)))
    · obtain ⟨u, H1, I1, ru, l1, e, st1, ok1, rp1⟩ := z
      subst e
      obtain ⟨b1, dx, e, n, hH⟩ := id rp1
      subst e
      cases (show x = .ref b1 from ru)
      obtain ⟨o, eo, co, dO⟩ := id hI
      have pI := I1.pin (it, o) (List.mem_append_right _ (List.mem_append_right _ (mem_pinsAt (by simp) eo)))
      have pD := I1.pin (D, StO tot c) (List.mem_append_right _ (List.mem_append_right _ (mem_pinsAt (by simp) hD)))
      have I2 := I1.unpinned
      have f1 : FpOk X pins l1.H it := ⟨pI.2.1, h1.2⟩
      have f2 : FpOk X pins l1.H D := ⟨pD.2.1, h2.2⟩
      obtain ⟨g0, g1, g2, g3, g4, g5⟩ := id f2
      refine wpAny_bind (wpAny_updateSeq (o := StO tot c) pD.1 rfl ?_)
      have hD2 := Heap.get?_update_self (Obj.mapSeq fun _ => #[(Value.ref b1)]) pD.1 rfl
      refine (wpAny_bind (wpAny_letGo (?_)))
      refine wpAny_bind (wpAny_updateSeq hD2 rfl ?_)
      have hD3 := Heap.get?_update_self (Obj.mapSeq fun _ => #[(Value.ref b1)]) hD2 rfl
      rw [hnx]
      have kp : ∀ b o, b ≠ D → s2.heap.get? b = some o → ((s2.heap.update D (Obj.mapSeq fun _ => #[(Value.ref b1)])).update D (Obj.mapSeq fun _ => #[(Value.ref b1)])).get? b = some o := fun b o hb e =>
        (Heap.get?_update_other _ _ (Ne.symm hb)).trans ((Heap.get?_update_other _ _ (Ne.symm hb)).trans e)
      have I3 := I2.turned (t' := s2.toks) (it := D) kp g0 g1 g3 g4 g5
      exact wpAny_pure ⟨plainId_quiet PySem.F.plain_sum_loop _, go l1 s1 _ r1 b1 _ st1 I3 ok1 rp1 f1 f2 ⟨o, kp it o hne pI.1, co, dO⟩ hD3 (run.step st1)⟩
    · rw [hx] at z; exact z.elim
  | _ => exact run.elim
theorem list_here {xs : List PV} {al : Addr} (I : Inv X pins σ l.H s) (rl : RepG X.K g l (.lst xs) (.ref al)) : ∃ (vs : List V) (its : List Value), RepGL X.K g l xs vs ∧ Vals vs its ∧ s.heap.IsList al its.toArray := by
  obtain ⟨_, vs, e, _, ha, ra⟩ := rl
  cases e
  obtain ⟨its, rv, p, _⟩ := I.list (SqL.of ha)
  exact ⟨vs, its, ra, rv, p.isList⟩
theorem repL_len {xs : List PV} : ∀ {vs : List V}, RepGL X.K g l xs vs → vs.length = xs.length := by
  induction xs with
  | nil => intro vs h; cases (show vs = [] from h); rfl
  | cons x xs ih => intro vs h; obtain ⟨v, r, rfl, _, h2⟩ := h; simp [ih h2]
theorem repL_at {xs : List PV} : ∀ {vs : List V} {i : Nat} {p : PV}, RepGL X.K g l xs vs → xs[i]? = some p → ∃ v, vs[i]? = some v ∧ RepG X.K g l p v := by
  induction xs with
  | nil => intro vs i p h e; simp at e
  | cons x xs ih =>
    intro vs i p h e
    obtain ⟨v, r, rfl, h1, h2⟩ := h
    cases i with
    | zero => cases e; exact ⟨v, rfl, h1⟩
    | succ i => obtain ⟨v', e', h'⟩ := ih h2 (i := i) (p := p) (by simpa using e); exact ⟨v', by simpa using e', h'⟩
theorem sum_go {F : DF} {xs : List PV} {al it D : Addr} (hx : X.xe = fun _ _ => False) (hcm : X.calm = true) (hs : Sub X k X.A.in1) (B : BinF X.K g.CR f "add") (hc : KA X g k f (fMt 2 F)) (hne : it ≠ D) :
    ∀ (n i : Nat) (s : Shared) (l : Lc) (st : S) (r : Rat) (u : Addr) (c : Nat), xs.length - i = n → i ≤ xs.length → Inv X pins σ l.H s → Sok X.K g l st σ → RepG X.K g l (.lst xs) (.ref al) → RepG X.K g l (.rat r) (.ref u) →
      FpOk X pins l.H it → FpOk X pins l.H D → s.heap.IsListIter it al i → s.heap.get? D = some (StO (.ref u) c) → Run X.K g (sumT F (xs.drop i) r st) l σ Q →
      codeAny (model X.prog X.w) X.A (.builtin "sum.loop" ⟨[.ref it, .ref D, rawInt 2, rawInt 0], []⟩) (Fin1 X pins σ Q) s := by
  intro n
  induction n with
  | zero =>
    intro i s l st r u c hn hi I ok rl ru h1 h2 hI hD run
    have hin : i = xs.length := (by omega)
    subst hin
    rw [List.drop_length] at run
    obtain ⟨vs, its, ra, rv, hL⟩ := list_here I rl
    refine codeAny_builtin PySem.F.entry_sum_loop ?_
    rw [Around.under_plainId PySem.F.plain_sum_loop _]
    show wpAny (model X.prog X.w) X.A.in1 (seqItems? (.ref D) >>= _) _ _ s
    refine wpAny_bind (wpAny_seqItems hD rfl ?_)
    show wpAny (model X.prog X.w) X.A.in1 (tryCatch (pyNext (.ref it)) _ >>= _) _ _ s
    refine wpAny_bind (wpAny_tryCatch (wpAny_pyNext_list_end (show X.A.in1.handled = none from I.ok.hd hcm) hI hL (by have h3 := repL_len ra; have h4 := rv.length; simp; omega) fun h' eb => ?_))
    obtain ⟨g0, g1, g2, g3, g4, g5⟩ := id h1
    have I1 : Inv X pins σ l.H { s with heap := h' } := I.turned (t' := s.toks) (it := it) (fun b o hb e => eb b o hb e) g0 g1 g3 g4 g5
    exact wpAny_pure (show EP X pins σ Q (.ref u) _ from ⟨.ref u, l.H, I1, rfl, run l _ (Step.refl l) ok ru⟩)
  | succ n ih =>
    intro i s l st r u c hn hi I ok rl ru h1 h2 hI hD run
    have hlt : i < xs.length := (by omega)
    obtain ⟨vs, its, ra, rv, hL⟩ := list_here I rl
    rw [List.drop_eq_getElem_cons hlt] at run
    have hxi : xs[i]? = some xs[i] := List.getElem?_eq_getElem hlt
    generalize xs[i] = p at run hxi
    obtain ⟨v, hv, rp⟩ := repL_at ra hxi
    obtain ⟨x, hxx, rx⟩ := rv.get hv
    refine codeAny_builtin PySem.F.entry_sum_loop ?_
    rw [Around.under_plainId PySem.F.plain_sum_loop _]
    show wpAny (model X.prog X.w) X.A.in1 (seqItems? (.ref D) >>= _) _ _ s
    refine wpAny_bind (wpAny_seqItems hD rfl ?_)
    show wpAny (model X.prog X.w) X.A.in1 (tryCatch (pyNext (.ref it)) _ >>= _) _ _ s
    refine wpAny_bind (wpAny_tryCatch (wpAny_pyNext_list_item hI hL (x := x) (by simpa using hxx) fun h' hI' sb => ?_))
    obtain ⟨g0, g1, g2, g3, g4, g5⟩ := id h1
    have I1 : Inv X pins σ l.H { s with heap := h' } := I.turned (t' := s.toks) (it := it) (fun b o hb e => (sb.2 b hb).trans e) g0 g1 g3 g4 g5
    have hD1 : h'.get? D = some (StO (.ref u) c) := (sb.2 D (Ne.symm hne)).trans hD
    cases p with
    | rat q =>
      obtain ⟨b1, dx, e, nn, hH⟩ := id rp
      subst e
      cases (show x = .ref b1 from rx)
      obtain ⟨o, eo, co, dO⟩ := id hI'
      have I2 := I1.pinned (fp := [it, D]) (fun b hb => by
        rcases (List.mem_cons.mp hb) with rfl | hb
        · exact h1
        · cases List.mem_singleton.mp hb; exact h2) (fun b hb => by
        rcases (List.mem_cons.mp hb) with rfl | hb
        · exact ⟨o, eo, fun v z => by rw [dO] at z; cases z⟩
        · cases List.mem_singleton.mp hb; exact ⟨_, hD1, fun v z => by cases z⟩)
      exact plain_step (G := fun r1 s1 => sumT F (xs.drop (i + 1)) r1 s1) (r0 := fMt 2 F [.rat r, .rat q] st) (next := fun _ => 2) hx (fun _ => rfl) I1 h1 h2 hne hI' hD1
        (fun Q' run' => add_at hs B hc I2 ok ru rp run') run fun l' s1 s' r1 u' c' st' I' ok' rp' k1 k2 kI kD run' =>
          ih (i + 1) s' l' s1 r1 u' c' (by omega) (by omega) I' ok' (st'.rep rl) rp' k1 k2 kI kD run'
    | _ => exact run.elim
/-- the whole call -/
theorem c_sumR0 {F FR : DF} {f' : Addr} (hx : X.xe = fun _ _ => False) (hcm : X.calm = true) (hs : Sub X k X.A.in1) (hs' : Sub X k' X.A.in1) (B : BinF X.K g.CR f "add") (hc : KA X g k f (fMt 2 F)) (B' : ReflF X.K g.CR f' "add") (hc' : KA X g k' f' (fMt 2 FR))
    {xs : List PV} {q : Rat} {al : Addr} (I : Inv X pins σ l.H s) (ok : Sok X.K g l st σ) (rl : RepG X.K g l (.lst (.rat q :: xs)) (.ref al)) (run : Run X.K g (thenR (fun r1 s1 => sumT F xs r1 s1) (fMt 2 FR [.rat q, .int 0] st)) l σ Q) :
    wpAny (model X.prog X.w) X.A (call (.builtin "sum") [.ref al]) (EP X pins σ Q) X.xe s := by
  obtain ⟨vs, its, ra, rv, hL⟩ := list_here I rl
  refine call_function_tree PySem.F.kind_sum PySem.F.plain_sum PySem.F.entry_sum (PySem.F.args_sum1 _) ?_
  unfold Builtin.«sum»
  simp only [List.length_nil, List.length_cons]
  rw [if_neg (by decide)]
  refine (wpAny_bind (wpAny_of_eq (show Builtin.Builtins.bindParams "sum" ["start"] 0 { } = pure [none] from rfl) (?_)))
  refine (wpAny_bind (wpAny_pyIter_list hL ?_))
  refine (wpAny_bind (wpAny_mkInt (?_)))
  refine (wpAny_bind (wpAny_pure (?_)))
  simp only [List.forIn_nil, List.forIn_cons]
  refine (wpAny_bind (wpAny_bind (wpAny_bind (wpAny_isInstance (T := "int") (b := false) (typeIs_int _ _ _) PySem.sub_int_str (?_)))))
  simp only [if_false, Bool.false_eq_true]
  refine (wpAny_pure (wpAny_bind (wpAny_bind (wpAny_isInstance (T := "int") (b := false) (typeIs_int _ _ _) PySem.sub_int_bytes (?_)))))
  simp only [if_false, Bool.false_eq_true]
  refine (wpAny_pure (wpAny_bind (wpAny_bind (wpAny_isInstance (T := "int") (b := false) (typeIs_int _ _ _) PySem.sub_int_bytearray (?_)))))
  simp only [if_false, Bool.false_eq_true]
  refine (wpAny_pure (wpAny_pure (?_)))
  refine (wpAny_bind (wpAny_newObj_type (?_)))
  refine wpAny_pure ⟨plainId_quiet PySem.F.plain_sum_loop _, ?_⟩
  have hk2 : ∀ b o, s.heap.get? b = some o → ((s.heap.push (ItO al)).push (StO (.int 0 s.toks) 0)).get? b = some o := fun b o e => Heap.get?_push_of_some _ (Heap.get?_push_of_some _ e)
  have I0 : Inv X pins σ l.H { s with heap := (s.heap.push (ItO al)).push (StO (.int 0 s.toks) 0), toks := s.toks + 1 } := I.kept hk2
  have h1 : FpOk X pins l.H s.heap.objs.size := I.fpOk (Nat.le_refl _) (I.hok.fresh (Nat.le_refl _))
  have h2 : FpOk X pins l.H (s.heap.push (ItO al)).objs.size := I.fpOk (by rw [Heap.size_push]; exact Nat.le_succ _) (I.hok.fresh (by rw [Heap.size_push]; exact Nat.le_succ _))
  have hne : s.heap.objs.size ≠ (s.heap.push (ItO al)).objs.size := by rw [Heap.size_push]; exact Nat.ne_of_lt (Nat.lt_succ_self _)
  have hI : ((s.heap.push (ItO al)).push (StO (.int 0 s.toks) 0)).IsListIter s.heap.objs.size al 0 := ⟨ItO al, Heap.get?_push_of_some _ (Heap.get?_push_size _ rfl), rfl, rfl⟩
  have hD : ((s.heap.push (ItO al)).push (StO (.int 0 s.toks) 0)).get? (s.heap.push (ItO al)).objs.size = some (StO (.int 0 s.toks) 0) := Heap.get?_push_size _ rfl
  show codeAny (model X.prog X.w) X.A (.builtin "sum.loop" ⟨[.ref s.heap.objs.size, .ref (s.heap.push (ItO al)).objs.size, rawInt 0, rawInt 0], []⟩) (Fin1 X pins σ Q) { s with heap := (s.heap.push (ItO al)).push (StO (.int 0 s.toks) 0), toks := s.toks + 1 }
  generalize (s.heap.push (ItO al)).push (StO (.int 0 s.toks) 0) = h3 at *
  generalize (s.heap.push (ItO al)).objs.size = D at *
  generalize s.heap.objs.size = it at *
  obtain ⟨vs, its, ra, rv, hL⟩ := list_here I0 rl
  obtain ⟨v, hv, rp⟩ := repL_at ra (i := 0) (p := .rat q) rfl
  obtain ⟨x, hxx, rx⟩ := rv.get hv
  refine codeAny_builtin PySem.F.entry_sum_loop ?_
  rw [Around.under_plainId PySem.F.plain_sum_loop _]
  show wpAny (model X.prog X.w) X.A.in1 (seqItems? (.ref D) >>= _) _ _ { s with heap := h3, toks := s.toks + 1 }
  refine wpAny_bind (wpAny_seqItems hD rfl ?_)
  show wpAny (model X.prog X.w) X.A.in1 (tryCatch (pyNext (.ref it)) _ >>= _) _ _ { s with heap := h3, toks := s.toks + 1 }
  refine wpAny_bind (wpAny_tryCatch (wpAny_pyNext_list_item (s := { s with heap := h3, toks := s.toks + 1 }) hI hL (x := x) (by simpa using hxx) fun h' hI' sb => ?_))
  obtain ⟨g0, g1, g2, g3, g4, g5⟩ := id h1
  have I1 : Inv X pins σ l.H { s with heap := h', toks := s.toks + 1 } := Inv.turned (s := { s with heap := h3, toks := s.toks + 1 }) (t' := s.toks + 1) (it := it) I0 (fun b o hb e => (sb.2 b hb).trans e) g0 g1 g3 g4 g5
  have hD1 : h'.get? D = some (StO (.int 0 s.toks) 0) := (sb.2 D (Ne.symm hne)).trans hD
  obtain ⟨b1, dx, e, nn, hH⟩ := id rp
  subst e
  cases (show x = .ref b1 from rx)
  obtain ⟨o, eo, co, dO⟩ := id hI'
  have I2 := I1.pinned (fp := [it, D]) (fun b hb => by
    rcases (List.mem_cons.mp hb) with rfl | hb
    · exact h1
    · cases List.mem_singleton.mp hb; exact h2) (fun b hb => by
    rcases (List.mem_cons.mp hb) with rfl | hb
    · exact ⟨o, eo, fun v z => by rw [dO] at z; cases z⟩
    · cases List.mem_singleton.mp hb; exact ⟨_, hD1, fun v z => by cases z⟩)
  refine (wpAny_bind (wpAny_rule (?_)))
  exact plain_step (G := fun r1 s1 => sumT F xs r1 s1) (r0 := fMt 2 FR [.rat q, .int 0] st) (next := fun | .float .. => 1 | _ => 2) hx (fun _ => rfl) I1 h1 h2 hne hI' hD1
    (fun Q' run' => radd_at hs' B' hc' I2 ok rp run') run fun l' s1 s' r1 u' c' st' I' ok' rp' k1 k2 kI kD run' =>
      sum_go hx hcm hs B hc hne xs.length 1 s' l' s1 r1 u' c' (by simp) (by simp) I' ok' (st'.rep rl) rp' k1 k2 kI kD run'
theorem sok_at {K : PySem.W.Frag} (ok : Sok K g l st σ) : Sok K (g.at g.N) l st σ := ⟨ok.len, ok.env, ok.own, ok.dis, ok.mlen, ok.mu, ok.nd, ok.alM, ok.there, ok.mn⟩
theorem sok_back {K : PySem.W.Frag} (ok : Sok K (g.at g.N) l st σ) : Sok K g l st σ := ⟨ok.len, ok.env, ok.own, ok.dis, ok.mlen, ok.mu, ok.nd, ok.alM, ok.there, ok.mn⟩
theorem run_at {K : PySem.W.Frag} {r : R S PV} (h : Run K g r l σ Q) (hn : ∀ e t, r ≠ .exn e t) : Run K (g.at g.N) r l σ Q := by
  cases r with
  | bad => exact h
  | exn e t => exact absurd rfl (hn e t)
  | ok p s1 => exact fun l' u st' ok' rp' => h l' u st' (sok_back ok') rp'
theorem sumT_noexn (F : DF) : ∀ (xs : List PV) (r : Rat) (s : S) (e : PV) (t : S), sumT F xs r s ≠ .exn e t
  | [], r, s, e, t => fun h => by cases h
  | x :: xs, r, s, e, t => by
    intro h
    cases x with
    | rat q =>
      have h : thenR (fun r1 s1 => sumT F xs r1 s1) (fMt 2 F [.rat r, .rat q] s) = .exn e t := h
      generalize fMt 2 F [.rat r, .rat q] s = z at h
      unfold thenR at h
      split at h
      · exact sumT_noexn F xs _ _ _ _ h
      · cases h
    | _ => cases h
theorem gSum_noexn (F : DF) {xs : List PV} {z : R S PV} {e : PV} {t : S} : thenR (fun r1 s1 => sumT F xs r1 s1) z ≠ .exn e t := by
  intro h
  unfold thenR at h
  split at h
  · exact sumT_noexn F xs _ _ _ _ h
  · cases h
/-- .. in a context that may raise -/
theorem c_sumR {F FR : DF} (hcm : X.calm = true) (hB : HasBn X.prog X.w X.K X.mg X.base g.CR "add" k F) (hr : Room (k + 1) X.A) (hR : HasRf X.prog X.w X.K X.mg X.base g.CR "add" k' FR) (hr' : Room (k' + 1) X.A) : CJ X g (fun us => call (.builtin "sum") us) (gSum F FR) := by
  obtain ⟨f, B, hA⟩ := hB
  obtain ⟨f', B', hA'⟩ := hR
  intro pins s σ xs vs Q l st ps I rx ok rp run
  unfold gSum at run
  split at run
  · rename_i q ys
    obtain ⟨x, r, rfl, h1, h2⟩ := rp
    cases (show r = [] from h2)
    obtain ⟨al, us, e, _⟩ := id h1
    subst e
    rw [Vals.ref1 rx]
    have ka := hA.ka (X := X.nox) (g := g.at g.N) (takes_w0 _)
    have ka' := hA'.ka (X := X.nox) (g := g.at g.N) (takes_w0 _)
    have z := c_sumR0 (X := X.nox) (g := g.at g.N) (Q := Q) rfl hcm (k := k) (k' := k') (f := f) (f' := f') ⟨hr.in1, rfl⟩ ⟨hr'.in1, rfl⟩ B ka B' ka' (I.wish _) (sok_at ok) h1 (run_at run fun _ _ => gSum_noexn F)
    exact wpAny_mono z (fun v s' ⟨u, H', I', r', q'⟩ => ⟨u, H', I'.unwish, r', q'⟩) fun e s' z => z.elim
  · exact c_sumI hcm pins s σ xs vs Q l st ps I rx ok rp run
end
end L3

/-! ## in, for lists of own instances -/
namespace L3
open PySem PySem.Spec PyProof.Rows L2 PySem.Calls
def ratsP : List PV → Option (List Rat)
  | [] => some []
  | .rat q :: xs => (ratsP xs).map (q :: ·)
  | _ :: _ => none
/-- x in xs, ratios among ratios; else h -/
def gInQ (neg : Bool) (h : PV → PV → S → R S PV) : PV → PV → S → R S PV := fun p q s => match p, q with
  | .rat x, .lst ys => (match ratsP ys with
    | some qs => .ok (.bl (xor neg (qs.any fun y => decide (y = x)))) s
    | none => .bad)
  | p, q => h p q s
section
variable {X : Cx} {g : Gx} {pins : List (Addr × Obj)} {s : Shared} {σ : St} {l : Lc} {st : S} {Q : VK} {k : Nat} {fn : List PV → S → R S PV} {A : Around} {f a1 b1 : Addr} {a b : Rat}
theorem eq_at (hs : Sub X k A) (hu : A.units < cLine) (B : CmpF X.K g.CR f "__eq__") (hc : KA X g k f fn) (I : Inv X pins σ l.H s) (ok : Sok X.K g l st σ) (rp : RepG X.K g l (.rat a) (.ref a1)) (rq : RepG X.K g l (.rat b) (.ref b1))
    (run : Run X.K g (fn [.rat a, .rat b] st) l σ Q) : wpAny (model X.prog X.w) A (richCompare .Eq (.ref a1) (.ref b1)) (EP X pins σ Q) X.xe s := by
  obtain ⟨_, dx, e, n, hH⟩ := id rp
  cases e
  obtain ⟨_, dy, e, n2, hH2⟩ := id rq
  cases e
  obtain ⟨mA, O, _⟩ := ins_get I.hok hH
  obtain ⟨od, J, _⟩ := O.look
  obtain ⟨mB, O2, _⟩ := ins_get I.hok hH2
  obtain ⟨od2, J2, _⟩ := O2.look
  obtain ⟨m, hF⟩ := I.fr
  exact PySem.W.cmp_K (op := .Eq) hu hF I.ok.mod.kin J J2.type B.n0 B.at_ B.fn (wpAny_mono (wpAny_call (hc A hs pins s σ [.ref a1, .ref b1] [.ref a1, .ref b1] Q l st [.rat a, .rat b] I (.cons rfl (.cons rfl .nil)) ok ⟨_, _, rfl, rp, _, _, rfl, rq, rfl⟩ run)) (fun _ _ z => back_of z) fun _ _ z => z)
theorem rat_same (rp : RepG X.K g l (.rat a) (.ref a1)) (rq : RepG X.K g l (.rat b) (.ref a1)) : a = b := by
  obtain ⟨_, dx, e, n, hH⟩ := rp
  cases e
  obtain ⟨_, dy, e, n2, hH2⟩ := rq
  cases e
  rw [hH] at hH2
  have z := Option.some.inj hH2
  injection z with z1 z2 z3
  simp only [List.cons.injEq, Prod.mk.injEq, V.int.injEq, true_and, and_true] at z3
  exact Rat.ext z3.1 (by omega)
theorem same_bool {M : Model} {E : Value → Shared → Prop} {P : Bool → Shared → Prop} (h : P true s) : wpAny M A (eqBool (.ref a1) (.ref a1)) P E s := by
  unfold eqBool
  refine wpAny_holding ?_
  refine wpAny_ite_split (fun _ => wpAny_bind (wpAny_rule (wpAny_pure h))) (fun hab => absurd (by simp) hab)
def FinB (X : Cx) (pins : List (Addr × Obj)) (σ : St) (Q : VK) (neg : Bool) : Result → Shared → Prop := fun r s' => match r with
  | Except.ok (Flow.ret v) => (∃ b, v = Value.bool b ∧ EP X pins σ Q (.bool (xor neg b)) s')
  | .ok _ => False
  | .error e => X.xe e s'
theorem ratsP_at {xs : List PV} : ∀ {qs : List Rat}, ratsP xs = some qs → xs = qs.map .rat := by
  induction xs with
  | nil => intro qs h; cases h; rfl
  | cons x xs ih =>
    intro qs h
    cases x with
    | rat q =>
      have h : (ratsP xs).map (q :: ·) = some qs := h
      obtain ⟨r, hr, e⟩ := Option.map_eq_some_iff.mp h
      rw [← e, ih hr]; rfl
    | _ => cases h
theorem in_go {F : DF} {al x1 : Addr} {x : Rat} {neg : Bool} {qs : List Rat} (hs : Sub X k X.A.in1) (hu : X.A.in1.units < cLine) (B : CmpF X.K g.CR f "__eq__") (hc : KA X g k f (fMt 2 F)) (hp : ∀ (u v : Rat) mu, F [.rat u, .rat v] mu = .ok (.bl (decide (u = v))) mu) :
    ∀ (n i : Nat) (s : Shared) (l : Lc), qs.length - i = n → i ≤ qs.length → Inv X pins σ l.H s → Sok X.K g l st σ → RepG X.K g l (.lst (qs.map .rat)) (.ref al) → RepG X.K g l (.rat x) (.ref x1) →
      (∀ l', Step l l' → Sok X.K g l' st σ → Q (.bl (xor neg ((qs.drop i).any fun y => decide (y = x)))) l'.H) →
      codeAny (model X.prog X.w) X.A (.builtin "list.__contains__.loop" ⟨[.ref al, .ref x1, rawInt i], []⟩) (FinB X pins σ Q neg) s := by
  intro n
  induction n with
  | zero =>
    intro i s l hn hi I ok rl rx run
    have hin : i = qs.length := (by omega)
    obtain ⟨vs, its, ra, rv, hL⟩ := list_here I rl
    obtain ⟨o, ho, hc', nn, hd⟩ := id hL
    refine codeAny_builtin MeetsSeq.entry_contains_loop ?_
    rw [Around.under_plainId MeetsSeq.plain_contains_loop _]
    show wpAny (model X.prog X.w) X.A.in1 (Builtin.List.listItems (.ref al) >>= _) _ _ s
    refine (wpAny_bind (wpAny_listItems ho hd (?_)))
    have h3 := repL_len ra
    have h4 := rv.length
    rw [List.length_map] at h3
    have hnone : its.toArray[((i : Nat) : Int).toNat]? = none := by simp; omega
    rw [hnone]
    rw [hin, List.drop_length] at run
    exact wpAny_pure ⟨false, rfl, .bl (xor neg false), l.H, I, rfl, run l (Step.refl l) ok⟩
  | succ n ih =>
    intro i s l hn hi I ok rl rx run
    have hlt : i < qs.length := (by omega)
    obtain ⟨vs, its, ra, rv, hL⟩ := list_here I rl
    obtain ⟨o, ho, hc', nn, hd⟩ := id hL
    rw [List.drop_eq_getElem_cons hlt] at run
    have hxi : (qs.map PV.rat)[i]? = some (.rat qs[i]) := by rw [List.getElem?_map, List.getElem?_eq_getElem hlt]; rfl
    generalize qs[i] = y at run hxi
    obtain ⟨v, hv, rp⟩ := repL_at ra hxi
    obtain ⟨u, huu, ru⟩ := rv.get hv
    obtain ⟨y1, dy, e, nn1, hH⟩ := id rp
    subst e
    cases (show u = .ref y1 from ru)
    refine codeAny_builtin MeetsSeq.entry_contains_loop ?_
    rw [Around.under_plainId MeetsSeq.plain_contains_loop _]
    show wpAny (model X.prog X.w) X.A.in1 (Builtin.List.listItems (.ref al) >>= _) _ _ s
    refine (wpAny_bind (wpAny_listItems ho hd (?_)))
    have hsome : its.toArray[((i : Nat) : Int).toNat]? = some (.ref y1) := by simpa using huu
    rw [hsome]
    have next : ∀ (s' : Shared) (l' : Lc), Inv X pins σ l'.H s' → Sok X.K g l' st σ → Step l l' → decide (y = x) = false →
        codeAny (model X.prog X.w) X.A (.builtin "list.__contains__.loop" ⟨[.ref al, .ref x1, rawInt ((i : Int) + 1)], []⟩) (FinB X pins σ Q neg) s' := fun s' l' I' ok' st' hb => by
      rw [List.any_cons, hb, Bool.false_or] at run
      exact ih (i + 1) s' l' (by omega) (by omega) I' ok' (st'.rep rl) (st'.rep rx) fun l2 h2 ok2 => run l2 (st'.trans h2) ok2
    by_cases hsame : y1 = x1
    · subst hsame
      have hyx : decide (y = x) = true := decide_eq_true (rat_same rp rx)
      rw [List.any_cons, hyx, Bool.true_or] at run
      refine wpAny_bind (same_bool ?_)
      exact wpAny_pure ⟨true, rfl, .bl (xor neg true), l.H, I, rfl, run l (Step.refl l) ok⟩
    · refine wpAny_bind (GQ.eqBool_refG hsame (wpAny_mono (eq_at hs hu B hc I ok rp rx (Q := fun u H1 => ∃ l1, l1.H = H1 ∧ Step l l1 ∧ Sok X.K g l1 st σ ∧ u = .bl (decide (y = x))) ?_) (fun w s' z => ?_) fun _ _ z => z))
      · have e : fMt 2 F [.rat y, .rat x] st = .ok (.bl (decide (y = x))) st := by simp [hp]
        rw [e]
        exact fun l' u st' ok' ru' => ⟨l', rfl, st', ok', ru'⟩
      · obtain ⟨u2, H1, I1, ru2, l1, e, st1, ok1, e2⟩ := z
        subst e e2
        cases (show w = Value.bool (decide (y = x)) from ru2)
        refine ⟨_, rfl, ?_⟩
        cases hb : decide (y = x) with
        | true =>
          rw [List.any_cons, hb, Bool.true_or] at run
          exact wpAny_pure ⟨true, rfl, .bl (xor neg true), l1.H, I1, rfl, run l1 st1 ok1⟩
        | false =>
          exact wpAny_pure ⟨plainId_quiet MeetsSeq.plain_contains_loop _, next s' l1 I1 ok1 st1 hb⟩
theorem in_at {F : DF} {al x1 : Addr} {x : Rat} {neg : Bool} {qs : List Rat} (hs : Sub X k X.A.in1) (hu : X.A.in1.units < cLine) (B : CmpF X.K g.CR f "__eq__") (hc : KA X g k f (fMt 2 F)) (hp : ∀ (u v : Rat) mu, F [.rat u, .rat v] mu = .ok (.bl (decide (u = v))) mu)
    (I : Inv X pins σ l.H s) (ok : Sok X.K g l st σ) (rl : RepG X.K g l (.lst (qs.map .rat)) (.ref al)) (rx : RepG X.K g l (.rat x) (.ref x1)) (run : ∀ l', Step l l' → Sok X.K g l' st σ → Q (.bl (xor neg (qs.any fun y => decide (y = x)))) l'.H) :
    wpAny (model X.prog X.w) X.A (contains (.ref al) (.ref x1)) (fun b s' => EP X pins σ Q (.bool (xor neg b)) s') X.xe s := by
  obtain ⟨vs, its, ra, rv, hL⟩ := list_here I rl
  obtain ⟨⟨cls, dd, data, sl⟩, ho, hc', n, hd⟩ := id hL
  simp only at hc' hd
  subst hc' hd
  refine (wpAny_contains_slot ⟨_, ho, rfl⟩ PySem.F.slot_list_contains (wpAny_mono (GQ.call_here PySem.F.slot_list_contains ⟨_, ho, rfl⟩ PySem.F.entry_list_contains (PySem.F.args_list_contains_2 _ _) (Q := fun v s' => ∃ b, v = Value.bool b ∧ EP X pins σ Q (.bool (xor neg b)) s') ?_) (fun v s' hv => ?_) fun _ _ e => e))
  · unfold Builtin.«list.__contains__»
    exact wpAny_pure ⟨plainId_quiet MeetsSeq.plain_contains_loop _, in_go hs hu B hc hp _ 0 _ _ rfl (Nat.zero_le _) I ok rl rx (by rw [List.drop_zero]; exact run)⟩
  · obtain ⟨b, rfl, hq⟩ := hv
    exact wpAny_truthy_bool hq
theorem OJ.inQ {F : DF} {neg : Bool} {op : CmpOp} {h : PV → PV → S → R S PV} (hop : ∀ x c, compareOp op x c = (do let b ← contains c x; return Value.bool (xor neg b))) (hB : HasCm X.prog X.w X.K X.mg X.base g.CR k F) (hr : Room (k + 2) X.A) (tk : Takes X g.W)
    (hp : ∀ (u v : Rat) mu, F [.rat u, .rat v] mu = .ok (.bl (decide (u = v))) mu) (ho : OJ X g (compareOp op) h) : OJ X g (compareOp op) (gInQ neg h) := by
  obtain ⟨_, f, B, hA⟩ := hB
  have ka := hA.ka (g := g) tk
  have hu : X.A.in1.units < cLine := by have := hr.units; show X.A.units + 1 < cLine; omega
  intro pins s σ x y v u Q l st p q I rx ry ok rp rq run
  cases p <;> first
    | exact ho pins s σ x y v u Q l st _ q I rx ry ok rp rq run
    | (cases q <;> first
      | exact ho pins s σ x y v u Q l st _ _ I rx ry ok rp rq run
      | skip)
  rename_i a ys
  unfold gInQ at run
  simp only at run
  split at run
  · rename_i qs e
    have eq := ratsP_at e
    subst eq
    obtain ⟨x1, dx, e1, n, hH⟩ := id rp
    subst e1
    cases (show v = .ref x1 from rx)
    obtain ⟨al, vs, e2, _⟩ := id rq
    subst e2
    cases (show u = .ref al from ry)
    rw [hop]
    exact wpAny_bind (wpAny_mono (in_at (neg := neg) (k := k) ⟨(hr.mono (by omega) : Room (k + 1) X.A).in1, rfl⟩ hu B ka hp I ok rq rp fun l' st' ok' => run l' _ st' ok' rfl) (fun b s' z => wpAny_pure z) fun _ _ z => z)
  · exact run.elim
theorem OJ.inR {F : DF} {h : PV → PV → S → R S PV} (hB : HasCm X.prog X.w X.K X.mg X.base g.CR k F) (hr : Room (k + 2) X.A) (tk : Takes X g.W)
    (hp : ∀ (u v : Rat) mu, F [.rat u, .rat v] mu = .ok (.bl (decide (u = v))) mu) (ho : OJ X g (compareOp .In) h) : OJ X g (compareOp .In) (gInQ false h) :=
  OJ.inQ (fun x c => by show (do return Value.bool (← contains c x)) = _; simp) hB hr tk hp ho
theorem OJ.notinR {F : DF} {h : PV → PV → S → R S PV} (hB : HasCm X.prog X.w X.K X.mg X.base g.CR k F) (hr : Room (k + 2) X.A) (tk : Takes X g.W)
    (hp : ∀ (u v : Rat) mu, F [.rat u, .rat v] mu = .ok (.bl (decide (u = v))) mu) (ho : OJ X g (compareOp .NotIn) h) : OJ X g (compareOp .NotIn) (gInQ true h) :=
  OJ.inQ (fun x c => by show (do return Value.bool (!(← contains c x))) = _; simp) hB hr tk hp ho
end
end L3

/-! ## how often data stands in a list; the greatest of a list of ints -/
namespace L3
open PySem PySem.Spec PyProof.Rows L2 PySem.Calls
theorem count_dat {p : PV} {d : PyData} (hd : p.dat = some d) : ∀ (xs : List PV) (ds : List PyData), PV.datL xs = some ds → (ds.countP fun z => PyData.eqv z d) = xs.countP fun z => eqP z p
  | [], ds, h => by cases h; rfl
  | x :: xs, ds, h => by
    unfold PV.datL at h
    split at h
    · rename_i d1 ds1 e1 e2
      cases h
      rw [List.countP_cons, List.countP_cons, count_dat hd xs ds1 e2, eqP_ok x p d1 d e1 hd]
    · cases h
section
variable {X : Cx} {g : Gx} {o e : Expr} {es : List Expr} {da : DE} {dr : DA}
theorem count_asks {l : Lc} {p : PV} {xs : List PV} {x y : V} (rp : RepG X.K g l p x) (rq : RepG X.K g l (.lst xs) y) (h1 : okD 8 p = true) (h2 : okD 8 (.lst xs) = true) :
    ∃ d ds, Dp X.K l.H x d ∧ Dp X.K l.H y (.list ds) ∧ SeqAt.shaped d = true ∧ SeqAt.shaped (.list ds) = true ∧ (ds.countP fun z => PyData.eqv z d) = xs.countP fun z => eqP z p := by
  obtain ⟨d, d1, d2, d3⟩ := okD_dat 8 p h1
  obtain ⟨e, e1, e2, e3⟩ := okD_dat 8 _ h2
  have sh : ∀ d : PyData, d.canLay0 = true → d.depth ≤ 8 → SeqAt.shaped d = true := fun d a b => by unfold SeqAt.shaped; rw [a, Bool.true_and]; exact decide_eq_true (by omega)
  have k1 := PV.dat_dp p d x d1 rp
  have k2 := PV.dat_dp _ e y e1 rq
  unfold PV.dat at e1
  split at e1
  · rename_i ds e4
    cases e1
    exact ⟨d, ds, k1, k2, sh d d2 d3, sh _ e2 e3, count_dat d1 xs ds e4⟩
  · cases e1
def rCountD (K : PySem.W.Frag) : V → List V → Hp → VK → Prop := fun x xs H Q => ∃ (a : Addr) (y : V) (d : PyData) (ds : List PyData), x = V.ref a ∧ xs = [y] ∧ Dp K H (V.ref a) (.list ds) ∧ Dp K H y d ∧
  SeqAt.shaped (.list ds) = true ∧ SeqAt.shaped d = true ∧ Q (.int (ds.countP fun z => PyData.eqv z d : Nat)) H
theorem mt_countD (hu : X.A.units + 65 < cLine) : MtR X "list.count" (rCountD X.K) := by
  intro pins s σ H x xs v us Q I rx rxs hh
  obtain ⟨a, y, d, ds, rfl, rfl, hl, hy, sl, sd, q⟩ := hh
  cases rx
  cases rxs with
  | cons ry rt =>
    rename_i uy ut
    cases rt
    obtain ⟨bs, r1⟩ := (Dp.reads I d y uy hy ry)
    have hxs : PyData.canLayAll0 ds = true := (SeqAt.canLay_of_shaped sl)
    have hroom : X.A.units + 1 + min (PyData.depthAll ds) d.depth < cLine := (room_in_shaped sd hu)
    cases hl with
    | lst hs ha =>
      obtain ⟨its, rv, ⟨⟨cls, dd, data, sls⟩, n, ho, hc, hdn, hdt⟩, hlen⟩ := (I.list hs)
      simp only at hc hdt
      subst hc hdt
      obtain ⟨as, h4⟩ := (Dp.readsAll I ds _ its ha rv)
      have hmap : its.map (SeqAt.readOf s.heap) = ds := (SeqAt.readsAll_map ds its as hxs h4)
      have ec : its.toArray.toList.countP (fun u => PyData.eqv (SeqAt.readOf s.heap u) d) = ds.countP fun z => PyData.eqv z d := by
        rw [← hmap, List.countP_map]
        rfl
      refine call_meets PySem.F.slot_list_count ⟨_, ho, rfl⟩ PySem.F.entry_list_count
        (PySem.F.args_list_count_2 _ _)
        (SeqAt.list_countAt a its.toArray n dd sls uy (fun u => PyData.eqv (SeqAt.readOf s.heap u) d)) ⟨ho, SeqAt.items_eqAt (vs := its.toArray) (show ReadsAll s.heap its.toArray.toList ds as from h4) r1 hxs (SeqAt.canLay_of_shaped sd) hroom, ?_⟩
      rw [ec]
      exact ⟨.int (ds.countP fun z => PyData.eqv z d : Nat), H, I.tok _, ⟨s.toks, rfl⟩, q⟩
@[simp] def fCount : PV → List PV → S → R S PV := fun p ps s => match p, ps with
  | .lst xs, [x] => if okD 8 x = true ∧ okD 8 (.lst xs) = true then .ok (.int (xs.countP fun z => eqP z x : Nat)) s else .bad
  | _, _ => .bad
@[simp] def fMaxL : List PV → S → R S PV := fun ps s => match ps with
  | [.lst xs] => (match intsP xs with
    | some (i :: is) => .ok (.int (is.foldl max i)) s
    | _ => .bad)
  | _ => .bad
theorem foldl_max : ∀ (is : List Int) (i m : Int), m ∈ i :: is → (∀ a, a ∈ i :: is → a ≤ m) → is.foldl max i = m
  | [], i, m, h, _ => by rw [List.mem_singleton.mp h]; rfl
  | j :: is, i, m, h, hm => by
    rw [List.foldl_cons]
    refine foldl_max is (max i j) m ?_ fun a ha => ?_
    · rcases List.mem_cons.mp h with h | h
      · have := hm j (by simp)
        rw [show max i j = m by omega]; simp
      · rcases List.mem_cons.mp h with h | h
        · have := hm i (by simp)
          rw [show max i j = m by omega]; simp
        · exact List.mem_cons_of_mem _ h
    · rcases List.mem_cons.mp ha with h | h
      · have h1 := hm i (by simp)
        have h2 := hm j (by simp)
        omega
      · exact hm a (by simp [h])
theorem c_maxL (hc : X.calm = true) : CJ X g (fun us => call (.builtin "max") us) fMaxL := CJ.of (cr_max hc) fun l st σ ps xs Q ok rp run => by
  unfold fMaxL at run
  split at run
  · rename_i ys
    split at run
    · rename_i i is e
      obtain ⟨v, r, rfl, h1, h2⟩ := rp
      cases (show r = [] from h2)
      obtain ⟨a, vs, rfl, _, ha, ra⟩ := h1
      refine ⟨a, i :: is, rfl, by rw [← intsP_rep e ra]; exact SqL.of ha, by simp, fun m h1 h2 => ?_⟩
      have z := foldl_max is i m h1 h2
      rw [z] at run
      exact run l _ (Step.refl l) ok rfl
    · exact run.elim
  · exact run.elim
theorem Room.in65 {k : Nat} {A : Around} (hr : Room k A) : A.units + 65 < cLine := by have := hr.un; omega
/-- xs.count(x) -/
@[simp] def dCount (da : DE) (dr : DA) : DE := fun s => (da s).bind fun p s1 => match p with
  | .lst xs => (dr s1).bind fun ps s2 => fCount (.lst xs) ps s2
  | _ => .bad
theorem j_count {apos cpos : Pos} (hu : X.A.units + 65 < cLine) (ho : JE X g o da) (ha : JA X g (e :: es) dr)
    (hb : attributeBase o "count" X.env (eval o X.env) = eval o X.env := by rfl)
    (hw : ((backTo cpos (starEach (e :: es) X.env)).all (fun z => !z.1) && (backToKw cpos (keywordEach [] X.env)).all (fun z => z.1.isSome) && decide ((e :: es).length + ([] : List Keyword).length + (if ([] : List Keyword).isEmpty then 0 else 1) < 30)) = true := by rfl)
    (hq : (apos.endLine == cpos.line) = true := by rfl) (hs : starEach (e :: es) X.env = (false, eval e X.env) :: starEach es X.env := by rfl) (hplain : (backTo cpos (starEach es X.env)).any (·.1) = false := by rfl) :
    JE X g (.Call (.Attribute o "count" apos) (e :: es) [] cpos) (dCount da dr) := by
  refine (⟨fun pins s σ H Q I h => ?_⟩)
  obtain ⟨l, st, rfl, ok, h⟩ := h
  refine wpAny_Call_method_late hb hw hq rfl (thn (ho.run pins s σ _ _ I ⟨l, st, rfl, ok, Run.bind h⟩) fun v s1 ⟨x, H1, I1, r1, l1, s1', p, e1, ok1, rp, st1, h1⟩ => ?_)
  subst e1
  cases p with
  | lst xs =>
    obtain ⟨a, vs, e2, _, hla, _⟩ := id rp
    subst e2
    obtain ⟨h3, h4⟩ := tyV_is (T := "list") I1 r1 (.inl ⟨rfl, vs, SqL.of hla⟩)
    refine ⟨"list", "list.count", PySem.F.plainAttrs_list, PySem.F.slot_list_count, PySem.F.type_list_count, h3, h4, ?_⟩
    have hA := ha.run cpos pins s1 σ _ _ I1 ⟨l1, s1', rfl, ok1, RunA.bind h1⟩
    rw [hs] at hA ⊢
    refine Calls.callWith_builtin (by show (false || (backTo cpos (starEach es X.env)).any (·.1)) = false; rw [hplain]; rfl) (Calls.evalArgs_plain ?_)
    refine thn hA fun us s2 ⟨ws, H2, I2, r2, l2, s2', ps, e2, ok2, rps, st2, h2⟩ => ?_
    subst e2
    unfold fCount at h2
    split at h2
    · rename_i ys y e5
      cases e5
      obtain ⟨w, r, e6, h5, h6⟩ := rps
      cases (show r = [] from h6)
      subst e6
      split at h2
      · rename_i hk
        obtain ⟨d, ds, c1, c2, c3, c4, c5⟩ := count_asks h5 (st2.rep rp) hk.1 hk.2
        refine mt_countD hu pins s2 σ l2.H (.ref a) [w] v us Q I2 r1 r2 ⟨a, w, d, ds, rfl, rfl, c2, c1, c4, c3, ?_⟩
        rw [c5]
        exact h2 l2 _ (Step.refl l2) ok2 rfl
      · exact h2.elim
    · exact h2.elim
  | _ => exact h1.elim
end
end L3

namespace L3
open PySem PySem.Spec PyProof.Rows L2
/-! ## the law's own call, from a promise that asks for no guards -/
theorem room_top {k : Nat} (h : L2.Room k callerA) : Room k callerA := ⟨h, rfl⟩
section
variable {P : Program} {w : World} {K : PySem.W.Frag} {mg mb : Str → Option Value} {CX : CXT} {k : Nat} {fa a : Addr} {fd : FuncData} {x : Str} {sp : Sp} {s₁ : Shared} {vs : List Value} {ns : List Int}
/-- the start: an abstract heap that tracks nothing but the script -/
theorem env_top (KX : K.In s₁.heap) (hns : s₁.heap.Ns mainGlobals mg) (hb : s₁.heap.Ns builtinsNs mb) (hbb : ∀ x : Str, x ≠ "__name__" → mb x = bootBuiltins x) (hlim : s₁.heap.NoLimit) (hg : s₁.gens = #[])
    (ha : s₁.heap.get? a = some { cls := .type "list", data := .seq vs.toArray }) {H : Hp} (hok : HOk P w H s₁.heap) (hA : ∀ b u, H b = some u → b = a) (hK : H a ≠ none → K.lookup a = none) :
    K.In (hidT s₁.heap H) ∧ (hidT s₁.heap H).Ns mainGlobals mg ∧ Env0 P w K mg (hidT s₁.heap H) callerA [] s₁ H := by
  have out : ∀ (b : Addr) (o : Obj), s₁.heap.get? b = some o → (∀ us n, o.data ≠ .seq us n) → (hidT s₁.heap H).get? b = some o := fun b o e nd => by
    refine hidT_get e ?_
    match q : H b with
    | none => rfl
    | some u =>
      rw [hA b u q, ha] at e
      cases e
      exact absurd rfl (nd _ _)
  have sp : ∀ {b : Addr} {m : Str → Option Value}, s₁.heap.Ns b m → (hidT s₁.heap H).Ns b m := by
    rintro b m ⟨o, es, ep, e, d, r⟩
    exact ⟨o, es, ep, out b o e (fun us n z => by rw [d] at z; cases z), d, r⟩
  have kin : K.In (hidT s₁.heap H) := fun b o e => by
    refine hidT_get (KX b o e) ?_
    match q : H b with
    | none => rfl
    | some u =>
      have eb := hA b u q
      subst eb
      rw [hK (by rw [q]; exact fun z => nomatch z)] at e
      cases e
  obtain ⟨mc, c1, c2⟩ := hlim
  exact ⟨kin, sp hns, ⟨rfl, ⟨kin, sp hns, ⟨mb, sp hb, hbb⟩, ⟨mc, sp c1, c2⟩⟩, fun b o e => of_hidT e, Nat.le_of_eq (hidT_size _ _), trivial, fun b z => (nomatch z), hok, .of_eq hg⟩⟩
theorem end_top {H : Hp} {s' : Shared} {r : Result} (hO : ∀ b, H b = none ∨ ∃ o xs, H b = some (.frz o (.lst xs))) (hok : HOk P w H s₁.heap) (hCX : ∀ H e s', CX [] H s₁ (fun _ _ _ => False) e s' → False)
    (h : CR CX [] P w H s₁ (fun v _ => v = .bl true) (fun _ _ _ => False) r s') : r = .ok (.ret (.bool true)) ∧ OldK s₁.heap s'.heap ∧ s'.os = s₁.os ∧ AllBare s'.gens := by
  match r, h with
  | .error e, z => exact (hCX H e s' z).elim
  | .ok .next, z => exact False.elim z
  | .ok .brk, z => exact False.elim z
  | .ok .cont, z => exact False.elim z
  | .ok (.ret u), ⟨v, H', os, bare, un, hok', rv, ev⟩ =>
    have ev : v = .bl true := ev
    subst ev
    cases (show u = Value.bool true from rv)
    refine ⟨rfl, OldK.of_keep fun b o e => ?_, os, bare⟩
    rcases hO b with z | ⟨ob, xs, z⟩
    · exact un.keep b o e z (fun y => nomatch y) (fun y => nomatch y)
    · have e1 := (hok b _ z).1
      rw [e] at e1
      cases e1
      exact (hok' b _ (un.frzs b _ _ z)).1
theorem callG (KX : K.In s₁.heap) (hns : s₁.heap.Ns mainGlobals mg) (hb : s₁.heap.Ns builtinsNs mb) (hbb : ∀ x : Str, x ≠ "__name__" → mb x = bootBuiltins x) (hlim : s₁.heap.NoLimit) (hg : s₁.gens = #[])
    (ha : s₁.heap.get? a = some { cls := .type "list", data := .seq vs.toArray }) (hi : IntsAre vs ns) (hl : ns.length ≤ sizeLine) (hr : L2.Room k callerA)
    (F : ∀ base : Heap, K.In base → base.Ns mainGlobals mg → FnG P w K mg base CX k fa fd [x] sp) (hbind : ∀ (s : Shared) (u : Value), BindsTo s fd ⟨[u], []⟩ [(x, u)])
    (hsp : ∀ H : Hp, SqL K H a (ns.map V.int) → sp [.ref a] H (fun v _ => v = .bl true) fun _ _ _ => False) (hCX : ∀ H e s', CX [] H s₁ (fun _ _ _ => False) e s' → False) :
    codeAny (model P w) callerA (.call (.ref fa) ⟨[.ref a], []⟩) (fun r s' => r = .ok (.ret (.bool true)) ∧ OldK s₁.heap s'.heap ∧ s'.os = s₁.os ∧ AllBare s'.gens) s₁ := by
  have rv := vals_ints hi
  -- the heap that is tracked
  obtain ⟨H, h1, h2, h3, h4, h5⟩ : ∃ H : Hp, HOk P w H s₁.heap ∧ (∀ b u, H b = some u → b = a) ∧ (H a ≠ none → K.lookup a = none) ∧ (∀ b, H b = none ∨ ∃ o xs, H b = some (.frz o (.lst xs))) ∧ SqL K H a (ns.map V.int) := by
    cases hk : K.lookup a with
    | some o =>
      have e := KX a o hk
      rw [ha] at e
      cases e
      exact ⟨fun _ => none, fun b u z => (nomatch z), fun b u z => (nomatch z), fun z => absurd rfl z, fun _ => .inl rfl, .inr ⟨_, vs.toArray, _, hk, rfl, rfl, rfl, by rw [List.size_toArray, hi.length]; exact hl, by simpa using rv⟩⟩
    | none =>
      let ob : Obj := { cls := .type "list", data := .seq vs.toArray }
      refine ⟨fun b => if b = a then some (.frz ob (.lst (ns.map V.int))) else none, fun b u z => ?_, fun b u z => ?_, fun _ => rfl, fun b => ?_, .inl (.inr ⟨ob, if_pos rfl⟩)⟩
      · by_cases q : b = a
        · have z := (if_pos q).symm.trans z
          cases z
          subst q
          exact ⟨ha, by rw [List.length_map]; exact hl, vs, _, rv, ha⟩
        · have z := (if_neg q).symm.trans z
          cases z
      · by_cases q : b = a
        · exact q
        · have z := (if_neg q).symm.trans z
          cases z
      · by_cases q : b = a
        · exact .inr ⟨_, _, if_pos q⟩
        · exact .inl (if_neg q)
  obtain ⟨e1, e2, e3⟩ := env_top KX hns hb hbb hlim hg ha h1 h2 h3
  exact codeAny_mono ((F _ e1 e2).run callerA [] s₁ H ⟨[.ref a], []⟩ [.ref a] [.ref a] _ _ (room_top hr) e3 (hbind s₁ (.ref a)) (.cons rfl .nil) (hsp H h5)) fun r s' z => end_top h4 h1 hCX z
end
/-- a law's end -/
theorem walkG {l : PySem.W.OpenLaw} {n k : Nat} {q : Program} {loose : List Str} {XP : (Str → Option Value) → Heap → Prop} {YP : World → Heap → Prop} {d : DefRec} {CX : CXT} {x : Str} (hn : l.most = some n) (hn2 : n ≤ sizeLine) (hdf : d.params.defaults = []) (hr : L2.Room k callerA)
    (F : ∀ (w : World) (mg : Str → Option Value) (fa : Addr) (h : Heap), YP w h → h.Ns mainGlobals mg → mg d.name = some (.ref fa) →
      ∃ (K : PySem.W.Frag) (fd : FuncData) (sp : Sp), K.In h ∧ (∀ (s : Shared) (u : Value), BindsTo s fd ⟨[u], []⟩ [(x, u)]) ∧ (∀ (H : Hp) (a : Addr) (ns : List Int), ns.length ≤ n → SqL K H a (ns.map V.int) → sp [.ref a] H (fun v _ => v = .bl true) fun _ _ _ => False) ∧
        ∀ base : Heap, K.In base → base.Ns mainGlobals mg → FnG l.prog w K mg base CX k fa fd [x] sp)
    (hCX : ∀ (H : Hp) (s : Shared) (e : Value) (s' : Shared), CX [] H s (fun _ _ _ => False) e s' → False) : PySem.W.WalkO q loose XP YP l.row.toRowW d [] (fun f vs => PySem.call f vs) := by
  refine Att.attach_call hn hdf fun w s₀ s₁ mg mb fa o pm cd doc a vs ns G Y ho hd hcd hmg hobj hints hlen hg => ?_
  obtain ⟨K, fd, sp, KX, hb, hsp, hF⟩ := F w mg fa _ Y G.T.g hmg
  have T := G.T
  exact callG KX T.g T.b T.builtins T.nolimit hg hobj hints (Nat.le_trans hlen hn2) hr hF hb (fun H hS => hsp H a ns hlen hS) fun H e s' => hCX H s₁ e s'
end L3

namespace L3
open PySem PySem.Spec PyProof.Rows L2
/-! ## repr of data -/
/-- the text of data -/
def rpr (p : PV) : Str := match p.dat with
  | some d => d.shown
  | none => ""
mutual
/-- what can be shown: ints below 2 ^ 1920 -/
def okS : PV → Bool
  | .non => true
  | .bl _ => true
  | .int i => decide (i.natAbs.log2 < 1920)
  | .str _ => true
  | .tup xs => okSL xs
  | .lst xs => okSL xs
  | .frz xs => okSL xs
  | _ => false
def okSL : List PV → Bool
  | [] => true
  | x :: xs => okS x && okSL xs
end
mutual
/-- a bound of the text's length -/
def szP : PV → Nat
  | .str x => (reprText x).length
  | .tup xs => szPL xs + 6
  | .lst xs => szPL xs + 6
  | .frz xs => szPL xs + 6
  | _ => 2000
def szPL : List PV → Nat
  | [] => 0
  | x :: xs => szP x + 2 + szPL xs
end
theorem textFrom_le : ∀ (ts : List Str) (k : Nat) (acc : Str), (textFrom k acc ts).length ≤ acc.length + piled ts
  | [], k, acc => Nat.le_refl _
  | t :: ts, k, acc => by
    have h := textFrom_le ts (k + 1) (acc ++ (if k > 0 then ", " else "" : String) ++ t)
    have e : (acc ++ (if k > 0 then ", " else "" : String) ++ t).length ≤ acc.length + 2 + t.length := by
      rw [strLen_append, strLen_append]
      split
      · exact Nat.le_refl _
      · have : (Str.ofString "").length = 0 := rfl
        show acc.length + (Str.ofString "").length + t.length ≤ _
        omega
    rw [piled_cons]
    show (textFrom (k + 1) (acc ++ (if k > 0 then ", " else "" : String) ++ t) ts).length ≤ _
    omega
theorem listText_le (ts : List Str) : (listText ts).length ≤ piled ts + 2 := by
  have h := textFrom_le ts 0 "["
  have e : (listText ts).length = (textFrom 0 "[" ts).length + 1 := strLen_append _ _
  have e2 : (Str.ofString "[").length = 1 := rfl
  have h : (textFrom 0 "[" ts).length ≤ 1 + piled ts := h
  omega
theorem tupleText_le (ts : List Str) : (tupleText ts).length ≤ piled ts + 5 := by
  have e : (tupleText ts).length = (("(" : Str) ++ Str.join ", " ts).length + (Str.ofString (if ts.length == 1 then ",)" else ")")).length := strLen_append _ _
  rw [strLen_append] at e
  have e1 : (Str.ofString "(").length = 1 := rfl
  have e3 : (Str.ofString (if ts.length == 1 then ",)" else ")")).length ≤ 2 := by split <;> exact (by decide)
  have e4 : (Str.join ", " ts).length ≤ piled ts + 2 := by
    by_cases z : ts = []
    · subst z
      exact Nat.zero_le _
    · have := join_length_add ts z
      omega
  have e1 : (("(" : Str)).length = 1 := rfl
  omega
theorem int_show {i : Int} (h : i.natAbs.log2 < 1920) : (toString i : String).length ≤ 1930 := by
  have hn : i.natAbs < 2 ^ 1921 := Nat.lt_of_lt_of_le Nat.lt_log2_self (Nat.pow_le_pow_right (by decide) (by omega))
  have h1 := nat_repr_length_le (k := 1921) (by decide) hn
  cases i with
  | ofNat n =>
    have : (toString (Int.ofNat n) : String) = Nat.repr n := rfl
    rw [this]
    have h1 : (Nat.repr n).length ≤ 1921 := h1
    omega
  | negSucc n =>
    have : (toString (Int.negSucc n) : String) = "-" ++ Nat.repr (n + 1) := rfl
    rw [this, String.length_append]
    have h1 : (Nat.repr (n + 1)).length ≤ 1921 := h1
    have : ("-" : String).length = 1 := rfl
    omega
mutual
theorem okS_dat : ∀ (n : Nat) (p : PV) (d : PyData), okS p = true → p.dat = some d → d.showable = true ∧ d.hasDict = false ∧ d.shown.length ≤ szP p
  | n, .non, d, h, e => by cases e; exact ⟨rfl, rfl, by show (Str.ofString "None").length ≤ 2000; decide⟩
  | n, .bl b, d, h, e => by cases e; refine ⟨rfl, rfl, ?_⟩; cases b <;> exact (by decide)
  | n, .int i, d, h, e => by
    cases e
    have h : decide (i.natAbs.log2 < 1920) = true := by unfold okS at h; exact h
    have h2 := int_show (of_decide_eq_true h)
    refine ⟨h, rfl, ?_⟩
    show (Str.ofString (toString i)).length ≤ 2000
    rw [PySem.ofString_length]
    omega
  | n, .str x, d, h, e => by cases e; exact ⟨rfl, rfl, by unfold szP; exact Nat.le_refl _⟩
  | n, .tup xs, d, h, e => by
    unfold PV.dat at e
    split at e
    · rename_i ds q
      cases e
      obtain ⟨a, b, c⟩ := okSL_dat n xs ds (by unfold okS at h; exact h) q
      refine ⟨a, b, ?_⟩
      have := tupleText_le (PyData.shownAll ds)
      unfold szP
      show (tupleText (PyData.shownAll ds)).length ≤ _
      omega
    · cases e
  | n, .lst xs, d, h, e => by
    unfold PV.dat at e
    split at e
    · rename_i ds q
      cases e
      obtain ⟨a, b, c⟩ := okSL_dat n xs ds (by unfold okS at h; exact h) q
      refine ⟨a, b, ?_⟩
      have := listText_le (PyData.shownAll ds)
      unfold szP
      show (listText (PyData.shownAll ds)).length ≤ _
      omega
    · cases e
  | n, .frz xs, d, h, e => by
    unfold PV.dat at e
    split at e
    · rename_i ds q
      cases e
      obtain ⟨a, b, c⟩ := okSL_dat n xs ds (by unfold okS at h; exact h) q
      refine ⟨a, b, ?_⟩
      have := listText_le (PyData.shownAll ds)
      unfold szP
      show (listText (PyData.shownAll ds)).length ≤ _
      omega
    · cases e
  | n, .rat _, d, h, e => nomatch e
  | n, .obj _ _ _, d, h, e => nomatch e
  | n, .ptr _, d, h, e => nomatch e
  | n, .adr _, d, h, e => nomatch e
  | n, .ty _, d, h, e => nomatch e
  | n, .dk _ _, d, h, e => nomatch e
  | n, .dt _ _, d, h, e => nomatch e
  | n, .exc _ _ _, d, h, e => nomatch e
theorem okSL_dat : ∀ (n : Nat) (xs : List PV) (ds : List PyData), okSL xs = true → PV.datL xs = some ds → PyData.showableAll ds = true ∧ PyData.hasDictAll ds = false ∧ piled (PyData.shownAll ds) ≤ szPL xs
  | n, [], ds, h, e => by cases e; exact ⟨rfl, rfl, Nat.le_refl _⟩
  | n, x :: xs, ds, h, e => by
    have h : (okS x && okSL xs) = true := by unfold okSL at h; exact h
    rw [Bool.and_eq_true] at h
    unfold PV.datL at e
    split at e
    · rename_i d1 ds1 e1 e2
      cases e
      obtain ⟨a1, a2, a3⟩ := okS_dat n x d1 h.1 e1
      obtain ⟨b1, b2, b3⟩ := okSL_dat n xs ds1 h.2 e2
      refine ⟨?_, ?_, ?_⟩
      · show (d1.showable && PyData.showableAll ds1) = true
        rw [a1, b1]; rfl
      · show (d1.hasDict || PyData.hasDictAll ds1) = false
        rw [a2, b2]; rfl
      · show piled (d1.shown :: PyData.shownAll ds1) ≤ _
        rw [piled_cons]
        unfold szPL
        omega
    · cases e
end
/-- repr(x), x data -/
def fRepr : List PV → S → R S PV := fun ps s => match ps with
  | [.lst xs] => if okD 8 (.lst xs) = true ∧ okS (.lst xs) = true ∧ szP (.lst xs) ≤ 16777216 then .ok (.str (rpr (.lst xs))) s else .bad
  | [.frz xs] => if okD 8 (.frz xs) = true ∧ okS (.frz xs) = true ∧ szP (.frz xs) ≤ 16777216 then .ok (.str (rpr (.frz xs))) s else .bad
  | [.tup xs] => if okD 8 (.tup xs) = true ∧ okS (.tup xs) = true ∧ szP (.tup xs) ≤ 16777216 then .ok (.str (rpr (.tup xs))) s else .bad
  | [.int i] => if okS (.int i) = true then .ok (.str (rpr (.int i))) s else .bad
  | _ => .bad
section
variable {X : Cx} {g : Gx}
theorem repr_asks {l : Lc} {st : S} {σ : St} {p : PV} {v : V} {u : Value} {s : Shared} {pins : List (Addr × Obj)} {Q : VK} (hg : X.A.guards = some []) (hu : X.A.units + 64 < cLine) (I : Inv X pins σ l.H s) (rv : RelV v u) (ok : Sok X.K g l st σ) (rp : RepG X.K g l p v)
    (h : okD 8 p = true ∧ okS p = true ∧ szP p ≤ 16777216) (hr : ∃ a, v = .ref a) (run : Run X.K g (.ok (.str (rpr p)) st) l σ Q) : wpAny (model X.prog X.w) X.A (call (.builtin "repr") [u]) (EP X pins σ Q) X.xe s := by
  obtain ⟨d, d1, d2, d3⟩ := okD_dat 8 p h.1
  obtain ⟨e1, e2, e3⟩ := okS_dat 0 p d h.2.1 d1
  obtain ⟨a, rfl⟩ := hr
  obtain rfl : u = Value.ref a := rv
  obtain ⟨as, r⟩ := Dp.reads I d (.ref a) (.ref a) (PV.dat_dp p d _ d1 rp) rfl
  refine repr_of_reads' r e1 (fun z => by rw [e2] at z; cases z) hg (by omega) (fun _ _ z => z) (fun h' w tk k => ?_) (by rw [line_eq]; omega)
  have e : rpr p = d.shown := by unfold rpr; rw [d1]
  exact ⟨.str d.shown, l.H, I.kept k, ⟨_, rfl⟩, run l _ (Step.refl l) ok (by rw [e]; rfl)⟩
theorem c_repr {k : Nat} (hr : Room k X.A) : CJ X g (fun us => call (.builtin "repr") us) fRepr := by
  intro pins s σ xs vs Q l st ps I rv ok rp run
  have one : ∀ {p : PV}, RepGL X.K g l [p] xs → ∃ v u, xs = [v] ∧ vs = [u] ∧ RelV v u ∧ RepG X.K g l p v := by
    rintro p ⟨v, r, rfl, h1, h2⟩
    cases (show r = [] from h2)
    cases rv with
    | cons a b => cases b; exact ⟨_, _, rfl, rfl, a, h1⟩
  unfold fRepr at run
  split at run
  · split at run
    · rename_i h
      obtain ⟨v, u, rfl, rfl, r1, r2⟩ := one rp
      obtain ⟨a, _, e, _⟩ := id r2
      exact repr_asks hr.gd hr.units I r1 ok r2 h ⟨a, e⟩ run
    · exact run.elim
  · split at run
    · rename_i h
      obtain ⟨v, u, rfl, rfl, r1, r2⟩ := one rp
      obtain ⟨a, _, e, _⟩ := id r2
      exact repr_asks hr.gd hr.units I r1 ok r2 h ⟨a, e⟩ run
    · exact run.elim
  · split at run
    · rename_i h
      obtain ⟨v, u, rfl, rfl, r1, r2⟩ := one rp
      obtain ⟨a, _, e, _⟩ := id r2
      exact repr_asks hr.gd hr.units I r1 ok r2 h ⟨a, e⟩ run
    · exact run.elim
  · rename_i i
    split at run
    · rename_i h
      obtain ⟨v, u, rfl, rfl, r1, r2⟩ := one rp
      cases (show v = .int i from r2)
      have h : decide (i.natAbs.log2 < 1920) = true := by unfold okS at h; exact h
      exact SkE.call_repr_int pins s σ l.H _ _ Q I rv ⟨i, rfl, of_decide_eq_true h, run l _ (Step.refl l) ok rfl⟩
    · exact run.elim
  · exact run.elim
end
end L3

namespace L3
open PySem PySem.Spec PyProof.Rows L2
/-! ## dicts that do not change -/
def keyP : PV → Option Key
  | .int i => some (.inl i)
  | .str x => some (.inr x)
  | _ => none
def lookK {κ : Type} [DecidableEq κ] (k : κ) : List κ → List PV → Option PV
  | j :: ks, x :: xs => if j = k then some x else lookK k ks xs
  | _, _ => none
@[simp] def fIxD : PV → PV → S → R S PV := fun p q s => match p with
  | .dk ks xs => (match keyP q with
    | some k => optR (lookK k ks xs) s
    | none => .bad)
  | _ => .bad
@[simp] def fGetD : PV → PV → PV → S → R S PV := fun p q z s => match p with
  | .dk ks xs => (match keyP q with
    | some k => .ok ((lookK k ks xs).getD z) s
    | none => .bad)
  | _ => .bad
@[simp] def dIxD (da db : DE) : DE := fun s => (da s).bind fun p s1 => (db s1).bind fun q s2 => fIxD p q s2
@[simp] def dGetD (da db dc : DE) : DE := fun s => (da s).bind fun p s1 => match p with
  | .dk ks xs => (db s1).bind fun q s2 => (dc s2).bind fun z s3 => fGetD (.dk ks xs) q z s3
  | _ => .bad
@[simp] def dDk0 : DE := fun s => .ok (.dk [] []) s
@[simp] def dDisp (ks : List Key) (d : DA) : DE := fun s => (d s).bind fun xs s1 => if ks.length = xs.length then .ok (.dk ks xs) s1 else .bad
theorem keyP_rep {K : PySem.W.Frag} {CR : Addr} {al : List Addr} {L : Addr → Prop} {H : Hp} {q : PV} {y : V} {k : Key} (h : keyP q = some k) (r : Rep K CR al L H q y) : y = kV k := by
  cases q <;> first | (cases h; exact r) | cases h
theorem lookK_rep {κ : Type} [DecidableEq κ] {K : PySem.W.Frag} {CR : Addr} {al : List Addr} {L : Addr → Prop} {H : Hp} (k : κ) : ∀ {ks : List κ} {xs : List PV} {vs : List V}, ks.length = vs.length → RepL K CR al L H xs vs →
    match lookK k ks xs with
    | some x => ∃ v, valV (ks.zip vs) k = some v ∧ Rep K CR al L H x v
    | none => valV (ks.zip vs) k = none
  | [], xs, vs, _, _ => by
    unfold lookK
    rfl
  | j :: ks, xs, [], h, _ => by cases h
  | j :: ks, [], v :: vs, _, r => by cases r
  | j :: ks, x :: xs, v :: vs, h, r => by
    obtain ⟨v', r', e, h1, h2⟩ := r
    cases e
    unfold lookK
    by_cases z : j = k
    · rw [if_pos z]
      exact ⟨v, valV_pos (p := (j, v)) z, h1⟩
    · rw [if_neg z]
      have ih := lookK_rep (κ := κ) k (ks := ks) (xs := xs) (vs := vs) (by simpa using h) h2
      have e : valV ((j :: ks).zip (v :: vs)) k = valV (ks.zip vs) k := valV_neg (p := (j, v)) z
      rw [e]
      exact ih
theorem mergeK_nodup : ∀ (more kvs : List (Key × V)), ((kvs ++ more).map (·.1)).Nodup → mergeK kvs more = kvs ++ more
  | [], kvs, _ => by rw [List.append_nil]; rfl
  | p :: r, kvs, h => by
    have hn : valV kvs p.1 = none := by
      have key : ∀ l : List (Key × V), p.1 ∉ l.map (·.1) → valV l p.1 = none := by
        intro l
        induction l with
        | nil => intro _; rfl
        | cons q l ih =>
          intro hq
          rw [valV_neg (fun z => hq (by rw [List.map_cons]; exact List.mem_cons.mpr (.inl z.symm)))]
          exact ih fun z => hq (by rw [List.map_cons]; exact List.mem_cons_of_mem _ z)
      refine key kvs fun z => ?_
      rw [List.map_append, List.nodup_append] at h
      exact h.2.2 _ z _ (by rw [List.map_cons]; exact List.mem_cons_self) rfl
    show mergeK (putK kvs p.1 p.2) r = _
    rw [putK_new _ hn]
    have e : kvs ++ p :: r = kvs ++ [(p.1, p.2)] ++ r := by simp
    rw [mergeK_nodup r (kvs ++ [(p.1, p.2)]) (by rw [← e]; exact h), e]
section
variable {X : Cx} {g : Gx} {a b c e o : Expr} {es : List Expr} {da db dc de : DE} {dr : DA} {pos : Pos}
theorem Run.dk {K : PySem.W.Frag} {l : Lc} {s : S} {σ : St} {Q : VK} {ks : List Key} {xs : List PV} {vs : List V} (run : Run K g (.ok (.dk ks xs) s) l σ Q) (ok : Sok K g l s σ) (r : RepGL K g l xs vs) (hl : ks.length = vs.length) (p : Addr) (hp : l.H p = none) : Q (.ref p) (upd l.H p (.dK (ks.zip vs))) :=
  run ⟨l.al, l.M, upd l.H p (.dK (ks.zip vs))⟩ _ (Step.alloc hp) (ok.alloc hp) ⟨p, vs, rfl, ok.fresh hp, .inl upd_same, hl, (Step.alloc hp).reps r⟩
/-- {} -/
theorem j_dk0 : JE X g (.Dict [] [] pos) dDk0 := PE.cq pe_dnewK fun pins s σ H Q I q => by
  obtain ⟨l, s, rfl, ok, q⟩ := q
  exact fun p hp => Run.dk (ks := []) (vs := []) q ok rfl rfl p hp
/-- d[k] -/
theorem j_ixD (hu : X.A.units + 64 < cLine) (ha : JE X g a da) (hb : JE X g b db) (hs : NoSl b := by exact fun _ _ => rfl) : JE X g (.Subscript a b pos) (dIxD da db) :=
  PE.cq (pe_dget (by omega) ha hb hs) fun pins s σ H Q I q => by
    obtain ⟨l, s, rfl, ok, q⟩ := q
    refine ⟨l, s, rfl, ok, Run.mono (Run.bind q) fun u H1 ⟨l1, s1, p, e1, ok1, r1, st1, h1⟩ => ?_⟩
    refine ⟨l1, s1, e1, ok1, Run.mono (Run.bind h1) fun w H2 ⟨l2, s2, q, e2, ok2, r2, st2, h2⟩ => ?_⟩
    subst e2
    cases p with
    | dk ks xs =>
      simp only [fIxD] at h2
      cases hk : keyP q with
      | none => rw [hk] at h2; exact h2.elim
      | some k =>
        rw [hk] at h2
        obtain ⟨ad, vs, rfl, n, hH, hl, rx⟩ := st2.rep r1
        have z := lookK_rep k hl rx
        cases el : lookK k ks xs with
        | none => simp only [el, optR] at h2; exact h2.elim
        | some x =>
          simp only [el, optR] at h2
          rw [el] at z
          obtain ⟨v, z1, z2⟩ := z
          exact ⟨ad, v, rfl, .inl ⟨_, k, hH, keyP_rep hk r2, z1.symm⟩, h2 l2 v (Step.refl l2) ok2 z2⟩
    | _ => exact h2.elim
/-- d.get(k, z) -/
theorem j_getD {apos cpos : Pos} (hu : X.A.units + 64 < cLine) (ho : JE X g o da) (ha : JE X g a db) (hb : JE X g b dc) (m : M2 X o "get" apos a b cpos := by exact ⟨by rfl, by rfl, by rfl, by rfl⟩) : JE X g (.Call (.Attribute o "get" apos) [a, b] [] cpos) (dGetD da db dc) :=
  PE.cq (pe_dget2 (by omega) ho ha hb m) fun pins s σ H Q I q => by
    obtain ⟨l, s, rfl, ok, q⟩ := q
    refine ⟨l, s, rfl, ok, Run.mono (Run.bind q) fun u H1 ⟨l1, s1, p, e1, ok1, r1, st1, h1⟩ => ?_⟩
    subst e1
    cases p with
    | dk ks xs =>
      obtain ⟨ad, vs, rfl, n, hH, hl, rx⟩ := id r1
      refine ⟨ad, rfl, .inl ⟨_, hH⟩, l1, s1, rfl, ok1, Run.mono (Run.bind h1) fun w H2 ⟨l2, s2, q, e2, ok2, r2, st2, h2⟩ => ?_⟩
      refine ⟨l2, s2, e2, ok2, Run.mono (Run.bind h2) fun w3 H3 ⟨l3, s3, z, e3, ok3, r3, st3, h3⟩ => ?_⟩
      subst e3
      simp only [fGetD] at h3
      cases hk : keyP q with
      | none => rw [hk] at h3; exact h3.elim
      | some k =>
        rw [hk] at h3
        obtain ⟨ad', vs', e', n', hH', hl', rx'⟩ := (st2.trans st3).rep r1
        cases e'
        have y := lookK_rep k hl' rx'
        cases el : lookK k ks xs with
        | none =>
          simp only [el] at h3
          rw [el] at y
          exact ⟨none, .inl ⟨_, k, hH', keyP_rep hk (st3.rep r2), y.symm⟩, h3 l3 w3 (Step.refl l3) ok3 r3⟩
        | some x =>
          simp only [el] at h3
          rw [el] at y
          obtain ⟨v, z1, z2⟩ := y
          exact ⟨some v, .inl ⟨_, k, hH', keyP_rep hk (st3.rep r2), z1.symm⟩, h3 l3 v (Step.refl l3) ok3 z2⟩
    | _ => exact h1.elim
/-- the pairs of a display whose keys are written -/
def JP (X : Cx) (g : Gx) (pos : Pos) (keys : List (Option Expr)) (vals : List Expr) (ks : List Key) (d : DA) : Prop :=
  ∃ trs, PPs X pos keys vals trs ∧ ∀ (N : Addr → Prop) (σ : St) (R : List (V × V) → Hp → Prop) (l : Lc) (s : S), Sok X.K ⟨g.CR, N, g.W⟩ l s σ → RunA X.K ⟨g.CR, N, g.W⟩ (d s) l σ (fun us H' => R ((ks.map kV).zip us) H') → tPairs trs σ l.H R
theorem jp_nil : JP X g pos [] [] [] dNil := ⟨_, pps_nil, fun N σ R l s ok q => q l [] (Step.refl l) ok rfl⟩
theorem jp_cons {k v : Expr} {key : Key} {ks : List Key} {keys : List (Option Expr)} {vals : List Expr} (hk : PE X k (tC (kV key))) (hv : ∀ N, JE X ⟨g.CR, N, g.W⟩ v de) (hr : JP X g pos keys vals ks dr) : JP X g pos (some k :: keys) (v :: vals) (key :: ks) (dCons de dr) := by
  obtain ⟨trs, h1, h2⟩ := hr
  have any : PE X v (fun σ H Q => ∃ N, LE X.K ⟨g.CR, N, g.W⟩ de σ H Q) := ⟨fun pins s σ H Q I q => let ⟨N, q⟩ := q; (hv N).run pins s σ H Q I q⟩
  refine ⟨_, pps_cons hk any h1, fun N σ R l s ok q => ?_⟩
  refine ⟨N, l, s, rfl, ok, Run.mono (Run.bindA q) fun u H1 ⟨l1, s1, p, e1, ok1, r1, st1, h3⟩ => ?_⟩
  subst e1
  refine h2 N σ _ l1 s1 ok1 ?_
  cases e : dr s1 with
  | bad => rw [e] at h3; exact h3
  | exn x t => rw [e] at h3; exact h3
  | ok xs t =>
    rw [e] at h3
    intro l' us st ok' ru
    exact h3 l' (u :: us) st ok' ⟨u, us, rfl, st.rep r1, ru⟩
/-- {k: v, ..} -/
theorem j_disp {keys : List (Option Expr)} {vals : List Expr} {ks : List Key} (h : JP X g pos keys vals ks dr) (hd : ks.Nodup := by decide) (h15 : ks.length ≤ 15 := by decide) (hall : keys.all (·.isSome) = true := by rfl) (hl : keys.length = vals.length := by rfl) (h0 : keys ≠ [] := by simp) (hk15 : keys.length ≤ 15 := by decide) :
    JE X g (.Dict keys vals pos) (dDisp ks dr) := by
  refine ⟨fun pins s0 σ H Q I q => ?_⟩
  obtain ⟨l, s, rfl, ok, q⟩ := q
  obtain ⟨trs, h1, h2⟩ := h
  refine (pe_disp h1 hall hl h0 hk15).run pins s0 σ l.H Q I fun p hp => ?_
  have st1' : Step l ⟨l.al, l.M, upd l.H p (.dK [])⟩ := Step.alloc hp
  have ne : ∀ a o, l.H a = some o → a ≠ p := fun a o h => ne_of_none h hp
  have ok1 : Sok X.K ⟨g.CR, fun a => g.N a ∨ a = p, g.W⟩ ⟨l.al, l.M, upd l.H p (.dK [])⟩ s σ := ok.to rfl rfl rfl (fun a o _ h => by show upd l.H p _ a = some o; rw [upd_ne (ne a o h)]; exact h) (fun a o n h z => z.elim n (ne a o h)) (fun a h => by
    show upd l.H p _ a ≠ none
    rcases h with h | h | h
    · exact upd_there (ok.there a (.inl h))
    · exact upd_there (ok.there a (.inr h))
    · rw [h, upd_same]; simp)
  refine h2 _ σ _ ⟨l.al, l.M, upd l.H p (.dK [])⟩ s ok1 ?_
  simp only [dDisp] at q
  cases e : dr s with
  | bad => rw [e] at q; exact q
  | exn x t =>
    rw [e] at q
    exact fun l' c d st' ok' rx => q l' c d (st1'.trans st') (ok'.less fun a h => .inl h) (rx.less fun a h => .inl h)
  | ok xs t =>
    rw [e] at q
    have q : Run X.K g (if ks.length = xs.length then .ok (.dk ks xs) t else .bad) l σ Q := q
    by_cases z : ks.length = xs.length
    · rw [if_pos z] at q
      intro l2 us st2 ok2 r2
      have nM : ¬ l.M p := fun y => ok.there p (.inl y) hp
      have hp2 : l2.H p = some (.dK []) := st2.keep p _ nM upd_same
      have lu : ks.length = us.length := by rw [z]; exact RepL.length r2
      have hz : ∀ (ks : List Key) (us : List V), ks.length = us.length → (ks.map kV).zip us = (ks.zip us).map (fun kv => (kV kv.1, kv.2)) := by
        intro ks
        induction ks with
        | nil => intro us _; rfl
        | cons k ks ih =>
          intro us hl
          cases us with
          | nil => cases hl
          | cons u us =>
            show (kV k, u) :: (ks.map kV).zip us = _
            rw [ih us (by simpa using hl)]; rfl
      refine ⟨hp2, ks.zip us, hz ks us lu, by rw [List.length_zip]; omega, ?_⟩
      rw [mergeK_nodup (ks.zip us) [] (by
        rw [List.nil_append, List.map_fst_zip (by omega)]
        exact hd), List.nil_append]
      -- behind it
      have nM2 : ¬ l2.M p := fun y => by
        rcases st2.new p y with h | h
        · exact nM h
        · have h : upd l.H p (.dK []) p = none := h
          rw [upd_same] at h; cases h
      have fin : ∀ a o, ¬ (g.N a ∨ a = p) → l2.H a = some o → upd l2.H p (.dK (ks.zip us)) a = some o := fun a o n h => by rw [upd_ne (fun y => n (.inr y))]; exact h
      have st3 : Step l ⟨l2.al, l2.M, upd l2.H p (.dK (ks.zip us))⟩ := by
        have st := st1'.trans st2
        exact ⟨st.pre, st.new, fun a o n h => by show upd l2.H p _ a = some o; rw [upd_ne (ne a o h)]; exact st.keep a o n h, fun a h => upd_there (st.dom a h)⟩
      have ok3 : Sok X.K g ⟨l2.al, l2.M, upd l2.H p (.dK (ks.zip us))⟩ t σ := ok2.to rfl rfl rfl fin (fun a o n h y => n (.inl y)) fun a h => by
        rcases h with h | h
        · exact upd_there (ok2.there a (.inl h))
        · exact upd_there (ok2.there a (.inr (.inl h)))
      refine q ⟨l2.al, l2.M, upd l2.H p (.dK (ks.zip us))⟩ (.ref p) st3 ok3 ⟨p, us, rfl, fun y => ?_, .inl upd_same, lu, ?_⟩
      · rcases y with y | y
        · exact nM2 y
        · exact ok.there p (.inr y) hp
      · exact RepL.to (l := l2) (l' := ⟨l2.al, l2.M, upd l2.H p (.dK (ks.zip us))⟩) (g := ⟨g.CR, fun a => g.N a ∨ a = p, g.W⟩) (g' := g) rfl rfl rfl fin (fun a o n h y => n (.inl y)) r2
    · rw [if_neg z] at q
      exact q.elim
end
end L3

namespace L3
open PySem PySem.Spec PyProof.Rows L2
/-! ## match over texts; tuples of texts that the module holds -/
@[simp] def dMatch (d : DE) (m : Str → DS) : DS := fun s => (d s).bind fun v s1 => match v with
  | .str x => m x s1
  | _ => .bad
def mStr (c : Str) (d : DS) (m : Str → DS) : Str → DS := fun x s => if x = c then d s else m x s
def JM (X : Cx) (g : Gx) (cases : List MatchCase) (m : Str → DS) : Prop :=
  ∀ (first : Bool) (pins : List (Addr × Obj)) (s : Shared) (σ : St) (D : Ends) (l : Lc) (st : S) (x : Str) (t : Tok), Inv X pins σ l.H s → Sok X.K g l st σ → RunS X.K g (m x st) l D σ →
    wpAny (model X.prog X.w) X.A (matchCases cases X.env (.str x t) first) (SP X pins D) X.xe s
section
variable {X : Cx} {g : Gx} {a e : Expr} {da de : DE} {ds du : DS} {pos : Pos} {rest : List MatchCase} {m : Str → DS}
theorem jm_nil : JM X g [] (fun _ => dSkip) := by
  intro first pins s σ D l st x t I ok run
  exact wpAny_pure ⟨σ, l.H, I, run l σ (Step.refl l) ok⟩
theorem jm_wild {p : Pos} {body : List Stmt} (hb : JSs X g body ds) : JM X g (⟨.MatchAs none none p, none, body⟩ :: rest) (fun _ => ds) := by
  intro first pins s σ D l st x t I ok run
  unfold matchCases
  refine wpAny_bind (wpAny_holding ?_)
  unfold matchPattern
  refine wpAny_pure ?_
  refine wpAny_bind (wpAny_holding ?_)
  unfold assignInOrder
  refine wpAny_pure ?_
  refine wpAny_bind (wpAny_pure ?_)
  show wpAny _ _ (execs body X.env) _ _ _
  exact hb.run pins s σ l.H D I ⟨l, st, rfl, ok, run⟩
theorem jm_str {c : Str} {j : Nat} {p p2 : Pos} {body : List Stmt} (hb : JSs X g body ds) (hr : JM X g rest m) : JM X g (⟨.MatchValue (.Constant (.str c) j p) p2, none, body⟩ :: rest) (mStr c ds m) := by
  intro first pins s σ D l st x t I ok run
  unfold matchCases
  refine wpAny_bind (wpAny_holding ?_)
  unfold matchPattern
  refine wpAny_bind (thn ((pe_str (X := X) (x := c) (j := j) (pos := p)).run pins s σ l.H (fun v H => v = .str c ∧ H = l.H) I ⟨rfl, rfl⟩) fun u s1 ⟨v, H1, I1, rv, ev, eH⟩ => ?_)
  subst ev
  rw [eH] at I1
  refine wpAny_bind (wpAny_standAt ?_)
  refine wpAny_bind (thn (op_eq (X := X) pins s1 σ l.H (.str x) (.str c) (.str x t) u (fun v H => v = .bl (x == c) ∧ H = l.H) I1 ⟨t, rfl⟩ rv ⟨rfl, by rw [dec_strV], rfl⟩) fun w s2 ⟨v, H2, I2, rw2, ev, eH2⟩ => ?_)
  subst ev
  rw [eH2] at I2
  obtain rfl : w = Value.bool (x == c) := rw2
  refine wpAny_bind ?_
  show wpAny _ _ (truthy (Value.bool (x == c))) _ _ _
  unfold truthy
  refine wpAny_pure ?_
  have run : RunS X.K g (if x = c then ds st else m x st) l D σ := run
  by_cases z : x = c
  · rw [if_pos z] at run
    have e : (x == c) = true := by simpa using z
    rw [if_pos e]
    refine wpAny_pure ?_
    refine wpAny_bind (wpAny_holding ?_)
    unfold assignInOrder
    refine wpAny_pure ?_
    refine wpAny_bind (wpAny_pure ?_)
    show wpAny _ _ (execs body X.env) _ _ _
    exact hb.run pins s2 σ l.H D I2 ⟨l, st, rfl, ok, run⟩
  · rw [if_neg z] at run
    have e : (x == c) = false := by simpa using z
    rw [if_neg (by rw [e]; exact Bool.false_ne_true)]
    refine wpAny_pure ?_
    exact hr false pins s2 σ D l st x t I2 ok run
theorem js_match {cases : List MatchCase} (he : JE X g e de) (hm : JM X g cases m) : JS X g (.Match e cases pos) (dMatch de m) := by
  refine ⟨fun pins s σ H D I q => ?_⟩
  obtain ⟨l, st, rfl, ok, q⟩ := q
  show wpAny _ _ (do
    standAt pos
    let v ← eval e X.env
    matchCases cases X.env v true) _ _ _
  refine wpAny_bind (wpAny_standAt (wpAny_bind (thn (he.run pins s σ _ _ I ⟨l, st, rfl, ok, Run.bindS q⟩) fun u s1 ⟨x, H1, I1, rx, l1, st1, p, e1, ok1, rp, sp1, h1⟩ => ?_)))
  subst e1
  cases p with
  | str y =>
    cases (show x = .str y from rp)
    obtain ⟨t, rfl⟩ := rx
    exact hm true pins s1 σ D l1 st1 y t I1 ok1 h1
  | _ => exact h1.elim
/-! ### a tuple of texts at a global name -/
theorem strs_rep {K : PySem.W.Frag} {CR : Addr} {al : List Addr} {L : Addr → Prop} {H : Hp} : ∀ (xs : List Str), RepL K CR al L H (xs.map .str) (xs.map V.str)
  | [] => rfl
  | x :: xs => ⟨_, _, rfl, rfl, strs_rep xs⟩
theorem j_gtup {x : Str} {ad : Addr} {ss : List Str} (hm : X.mg x = some (.ref ad)) (hk : KT X.K ad (ss.map V.str)) (hg : Gl X x := by rfl) (hd : (x == ("__debug__" : Str)) = false := by decide) : JE X g (.Name x pos) (dC (.tup (ss.map .str))) :=
  jc (pe_glob (v := .ref ad) hg hm rfl hd) fun l => ⟨ad, ss.map V.str, rfl, .inr hk, strs_rep ss⟩
end
def strsB : List Value → List Str → Bool
  | [], [] => true
  | .str x _ :: r, y :: ys => decide (x = y) && strsB r ys
  | _, _ => false
theorem strsB_ok : ∀ {us : List Value} {ys : List Str}, strsB us ys = true → Vals (ys.map V.str) us
  | [], [], _ => .nil
  | .str x t :: r, y :: ys, h => by
    have h : (decide (x = y) && strsB r ys) = true := h
    rw [Bool.and_eq_true] at h
    cases of_decide_eq_true h.1
    exact .cons ⟨t, rfl⟩ (strsB_ok h.2)
def ktB (x : Str) (ss : List Str) (K : PySem.W.Frag) : Bool := match K.lookup (He.ga K x) with
  | some o => decide (o.cls = .type "tuple") && (match o.data with
    | .seq its n => decide (its.size ≤ 16777216) && strsB its.toList ss
    | _ => false)
  | none => false
theorem ktB_ok {x : Str} {ss : List Str} {K : PySem.W.Frag} (h : ktB x ss K = true) : KT K (He.ga K x) (ss.map V.str) := by
  unfold ktB at h
  split at h
  · rename_i o e
    obtain ⟨h1, h2⟩ := He.ba h
    split at h2
    · rename_i its n ed
      obtain ⟨h3, h4⟩ := He.ba h2
      exact ⟨o, its, n, e, of_decide_eq_true h1, ed, by rw [line_eq]; exact of_decide_eq_true h3, strsB_ok h4⟩
    · cases h2
  · cases h
end L3

namespace L3
open PySem PySem.Spec PyProof.Rows L2
/-! ## calls by name, in any order, defaults where parameters are left out -/
/-- where a parameter's value comes from: (0, i) the i-th by position, (1, i) the i-th default, (2, i) the i-th keyword -/
def src {α : Type} (us ds zs : List α) : Nat × Nat → Option α
  | (0, i) => us[i]?
  | (1, i) => ds[i]?
  | (_, i) => zs[i]?
def pick3 {α : Type} (is : List (Nat × Nat)) (us ds zs : List α) : List α := is.filterMap (src us ds zs)
theorem vals_get {vs : List V} {us : List Value} (h : Vals vs us) : ∀ i : Nat, (∃ v u, vs[i]? = some v ∧ us[i]? = some u ∧ RelV v u) ∨ (vs[i]? = none ∧ us[i]? = none) := fun i => by
  cases e : vs[i]? with
  | some v =>
    obtain ⟨u, h1, h2⟩ := h.get e
    exact .inl ⟨v, u, rfl, h1, h2⟩
  | none => exact .inr ⟨rfl, by rw [List.getElem?_eq_none_iff] at e ⊢; rw [← h.length]; exact e⟩
theorem pick3_vals {is : List (Nat × Nat)} {vs ds zs : List V} {us ts ws : List Value} (h1 : Vals vs us) (h2 : Vals ds ts) (h3 : Vals zs ws) : Vals (pick3 is vs ds zs) (pick3 is us ts ws) := by
  induction is with
  | nil => exact .nil
  | cons p is ih =>
    have one : (∃ v u, src vs ds zs p = some v ∧ src us ts ws p = some u ∧ RelV v u) ∨ (src vs ds zs p = none ∧ src us ts ws p = none) := by
      obtain ⟨k, i⟩ := p
      match k with
      | 0 => exact vals_get h1 i
      | 1 => exact vals_get h2 i
      | k + 2 => exact vals_get h3 i
    unfold pick3 at ih ⊢
    rcases one with ⟨v, u, e1, e2, r⟩ | ⟨e1, e2⟩
    · rw [List.filterMap_cons_some e1, List.filterMap_cons_some e2]
      exact .cons r ih
    · rw [List.filterMap_cons_none e1, List.filterMap_cons_none e2]
      exact ih
theorem pick3_rep {K : PySem.W.Frag} {CR : Addr} {al : List Addr} {L : Addr → Prop} {H : Hp} {is : List (Nat × Nat)} {us ds zs : List PV} {vs ts ws : List V} (h1 : RepL K CR al L H us vs) (h2 : RepL K CR al L H ds ts) (h3 : RepL K CR al L H zs ws) :
    RepL K CR al L H (pick3 is us ds zs) (pick3 is vs ts ws) := by
  have at_ : ∀ {xs : List PV} {ys : List V}, RepL K CR al L H xs ys → ∀ i : Nat, (∃ x y, xs[i]? = some x ∧ ys[i]? = some y ∧ Rep K CR al L H x y) ∨ (xs[i]? = none ∧ ys[i]? = none) := fun {xs ys} h i => by
    cases e : xs[i]? with
    | some v =>
      obtain ⟨u, h1, h2⟩ := h.get e
      exact .inl ⟨v, u, rfl, h1, h2⟩
    | none => exact .inr ⟨rfl, by rw [List.getElem?_eq_none_iff] at e ⊢; rw [← h.length]; exact e⟩
  induction is with
  | nil => rfl
  | cons p is ih =>
    have one : (∃ v u, src us ds zs p = some v ∧ src vs ts ws p = some u ∧ Rep K CR al L H v u) ∨ (src us ds zs p = none ∧ src vs ts ws p = none) := by
      obtain ⟨k, i⟩ := p
      match k with
      | 0 => exact at_ h1 i
      | 1 => exact at_ h2 i
      | k + 2 => exact at_ h3 i
    unfold pick3 at ih ⊢
    rcases one with ⟨v, u, e1, e2, r⟩ | ⟨e1, e2⟩
    · rw [List.filterMap_cons_some e1, List.filterMap_cons_some e2]
      exact ⟨u, _, rfl, r, ih⟩
    · rw [List.filterMap_cons_none e1, List.filterMap_cons_none e2]
      exact ih
section
variable {K : PySem.W.Frag} {x qual : Str} {params : Arguments} {body : List Stmt} {scope : Scope} {dvs : List V} {kws : List (Str × V)} {f : Addr} {fd : FuncData} {ps : List Str}
/-- no default is read -/
theorem FunD.kb3 (F : FunD K x qual params body scope [] kws f fd) (n : Nat) (ks : List Str) (is : List (Nat × Nat))
    (h : ∀ (kV doc pm : Value) (an : Option Addr) (cdv ct : Value) (us ws : List Value), us.length = n → ws.length = ks.length → bindArgs (PySem.W.fnOf x qual params body scope .none kV doc pm an cdv ct) ⟨us, ks.zip ws⟩ = pure (ps.zip (pick3 is us [] ws))) :
    KBn K fd ps n ks (fun us ws => pick3 is us [] ws) (fun vs zs => pick3 is vs [] zs) := by
  obtain ⟨c1, d1, v1, k1, doc1, pm1, an1, cd1, ct1, sl1, hfd, hlk, hcd, hD, hK⟩ := F.ex
  subst hfd
  rcases hD with ⟨_, hv⟩ | ⟨hv, _⟩
  · subst hv
    exact ⟨fun s us ws X l1 l2 => .of_eq (h k1 doc1 pm1 an1 cd1 ct1 us ws l1 l2), fun r1 r2 => pick3_vals r1 .nil r2⟩
  · exact absurd rfl hv
/-- keyword-only defaults, of which those in ms are read -/
theorem FunD.kb4 (F : FunD K x qual params body scope [] kws f fd) (n : Nat) (ks : List Str) (is : List (Nat × Nat)) (ms : List (Str × V)) (hk : kws ≠ []) (hms : ∀ q ∈ ms, q ∈ kws)
    (h : ∀ (D : Addr) (doc pm : Value) (an : Option Addr) (cdv ct : Value) (us mv ws : List Value), us.length = n → mv.length = ms.length → ws.length = ks.length →
      KwChain D ((ms.map (·.1)).zip mv) (bindArgs (PySem.W.fnOf x qual params body scope .none (.ref D) doc pm an cdv ct) ⟨us, ks.zip ws⟩) (ps.zip (pick3 is us mv ws))) :
    ∃ mv : List Value, KBn K fd ps n ks (fun us ws => pick3 is us mv ws) (fun vs zs => pick3 is vs (ms.map (·.2)) zs) := by
  obtain ⟨c1, d1, v1, k1, doc1, pm1, an1, cd1, ct1, sl1, hfd, hlk, hcd, hD, hK⟩ := F.ex
  subst hfd
  rcases hD with ⟨_, hv⟩ | ⟨hv, _⟩
  · subst hv
    rcases hK with e | ⟨D, hv, hq⟩
    · exact absurd e hk
    · subst hv
      obtain ⟨mv, hl, rk, hks⟩ := kwd_vals (ms := ms) fun q hm => hq q (hms q hm)
      exact ⟨mv, fun s us ws X l1 l2 => BindsTo.of_looks fun M => KwChain.looks X hks (h D doc1 pm1 an1 cd1 ct1 us mv ws l1 hl l2), fun r1 r2 => pick3_vals r1 rk r2⟩
  · exact absurd rfl hv
end
section
variable {X : Cx} {g : Gx} {a b c e : Expr} {es : List Expr} {da db dc de : DE} {dr dk : DA} {pos p : Pos} {x : Str} {f : Addr} {k n : Nat} {ps : List Str} {F : DF} {dps : List PV}
/-- f(k = v, ..) -/
theorem j_callK0 {kws : List Keyword} {ks : List Str} {gP : List PV → List PV → List PV} {m : Nat} (h : HasK X.prog X.w X.K X.mg X.base g.CR x k ps 0 ks gP F) (hr : Room k X.A) (tk : Takes X g.W) (hkw : JK X g kws dk) (hm0 : m = ks.length := by rfl) (hg : Gl X x := by rfl)
    (hall : (backToKw pos (keywordEach kws X.env)).all (·.1.isSome) = true := by rfl) (hks : (backToKw pos (keywordEach kws X.env)).filterMap (·.1) = ks := by rfl) (hdb : (x == ("__debug__" : Str)) = false := by decide)
    (hpl : ((backTo pos (starEach [] X.env)).any (·.1) || (backToKw pos (keywordEach kws X.env)).any (·.1.isNone)) = false := by rfl) :
    JE X g (.Call (.Name x p) [] kws pos) (dFnK F 0 m gP dNil dk) := by
  subst hm0
  obtain ⟨hn, f, fd, g', gV, hm, hk, hb, hfl, G⟩ := h
  refine ⟨fun pins s σ H Q I q => ?_⟩
  obtain ⟨l, st, rfl, ok, q⟩ := q
  have q : Run X.K g ((dk st).bind fun zs s2 => if ([] : List PV).length = 0 ∧ zs.length = ks.length then fnS F (gP [] zs) s2 else .bad) l σ Q := q
  refine wpAny_Call_Name_kw (ld_glob I hg hm ?_ hdb)
  refine PySem.W.callWith_KW0 (h₀ := X.base) I.ok.mod.kin hk hall ?_ hpl
  refine thn (hkw.run pos pins s σ _ _ I ⟨l, st, rfl, ok, RunA.bind q⟩) fun ws s2 ⟨zs, H2, I2, rz, l2, st2, qs, e2, ok2, r2, sp2, h2⟩ => ⟨I2.kIn, ?_⟩
  subst e2
  rw [hks]
  by_cases z : qs.length = ks.length
  · have h2 : Run X.K g (if ([] : List PV).length = 0 ∧ qs.length = ks.length then fnS F (gP [] qs) st2 else .bad) l2 σ Q := h2
    rw [if_pos ⟨rfl, z⟩] at h2
    have r0 := hb.rel (vs := []) (us := []) .nil rz
    have lz : ws.length = ks.length := rz.length.symm.trans (r2.length.symm.trans z)
    have asks := call_asks ok2 (hfl _ _ _ _ [] qs [] zs rfl z rfl r2) (hn _ _ rfl z) h2
    refine wpAny_call (codeAny_mono (G.run X.A X.stack s2 l2.H ⟨[], ks.zip ws⟩ (g' [] ws) (gV [] zs) Q _ hr I2.env0 (hb.to s2 [] ws I2.kIn rfl lz) r0 asks) fun r s' hq => ?_)
    match r, hq with
    | .error e, hq => exact passAt tk σ pins l2.H s2 e s' I2 hq
    | .ok (.ret u), hq => exact I2.after hq
    | .ok .next, hq => exact False.elim hq
    | .ok .brk, hq => exact False.elim hq
    | .ok .cont, hq => exact False.elim hq
  · have h2 : Run X.K g (if ([] : List PV).length = 0 ∧ qs.length = ks.length then fnS F (gP [] qs) st2 else .bad) l2 σ Q := h2
    rw [if_neg fun y => z y.2] at h2
    exact h2.elim
end
end L3

namespace L3
open PySem PySem.Spec PyProof.Rows L2
/-! ## a staticmethod of the class Ratio -/
def smB (m : Str) (K : PySem.W.Frag) : Bool := PySem.W.readsIn K (He.ga K "Ratio") (.type "type") && (He.eqO (PySem.W.specialIn K (.ref (He.ga K "Ratio")) "__getattribute__") (some (some (.builtin "type.__getattribute__"))) &&
  (He5.wrapB K (He.ga K "Ratio") "staticmethod" "staticmethod.__get__" m && PySem.W.keepIn K (.ref (He5.wf K (He.ga K "Ratio") "staticmethod" m))))
theorem smB_ok {m : Str} {K : PySem.W.Frag} (h : smB m K = true) : ClX.CRead K (He.ga K "Ratio") (.type "type") ∧
    PySem.W.findCls K (.ref (He.ga K "Ratio")) (.type "type") m = some (.get (.builtin "staticmethod.__get__") (.ref (He.ma K (He.ga K "Ratio") m)) .none (.ref (He.ga K "Ratio"))) ∧
    (∃ rest, PySem.W.recIn K (He.ma K (He.ga K "Ratio") m) "staticmethod" = some (.ref (He5.wf K (He.ga K "Ratio") "staticmethod" m) :: rest)) ∧ PySem.W.keepIn K (.ref (He5.wf K (He.ga K "Ratio") "staticmethod" m)) = true := by
  obtain ⟨h1, h⟩ := He.ba h
  obtain ⟨h2, h⟩ := He.ba h
  obtain ⟨h3, h4⟩ := He.ba h
  obtain ⟨k1, k2⟩ := He5.wrapB_ok h3
  exact ⟨⟨h1, He.eqO_ok h2⟩, k1, k2, h4⟩
theorem hasS_of {P : Program} {w : World} {K : PySem.W.Frag} {mg : Str → Option Value} {base : Heap} {m : Str} {k : Nat} {ps : List Str} {F : DF} (hm : mg "Ratio" = some (.ref (He.ga K "Ratio"))) (h : smB m K = true) (a : At P w K mg base (He.ga K "Ratio") (He5.wf K (He.ga K "Ratio") "staticmethod" m) k ps F) :
    HasS P w K mg base (He.ga K "Ratio") m k ps F :=
  let ⟨c1, c2, ⟨rest, c3⟩, c4⟩ := smB_ok h
  ⟨hm, _, _, _, rest, c1, c2, c3, c4, a⟩
end L3

namespace L3
open PySem PySem.Spec PyProof.Rows L2
/-! ## raise -/
/-- the built-in class under an own one -/
inductive EB where
  | ve | le | ae
def EB.B : EB → String
  | .ve => "ValueError" | .le => "LookupError" | .ae => "ArithmeticError"
def EB.bm (b : EB) : List Value := [.type b.B, .type "Exception", .type "BaseException", .type "object"]
def EB.nw : EB → String
  | .ve => "ValueError.__new__" | .le => "LookupError.__new__" | .ae => "ArithmeticError.__new__"
def EB.it : EB → String
  | .ve => "ValueError.__init__" | .le => "LookupError.__init__" | .ae => "ArithmeticError.__init__"
theorem EB.facts : ∀ b : EB, ExcBaseFacts b.B b.nw b.it b.bm
  | .ve => PySem.F.excBase_ValueError
  | .le => PySem.F.excBase_LookupError
  | .ae => PySem.F.excBase_ArithmeticError
theorem EB.store : ∀ b : EB, StoreFacts b.B b.bm "object.__setattr__" "object"
  | .ve => PySem.F.store_ValueError
  | .le => PySem.F.store_LookupError
  | .ae => PySem.F.store_ArithmeticError
/-- what the text says of an own exception class at C -/
structure OxB (K : PySem.W.Frag) (b : EB) (C : Addr) : Prop where
  ini : PySem.W.excInitIn K C b.bm b.nw = true
  ovr : PySem.W.excOver K C b.bm = true
  hd : PySem.W.hasDictIn K C = true
  sa : PySem.W.findIn K (.ref C) "__setattr__" = some (some (.builtin "object.__setattr__"))
  exC : PySem.W.subIn K (.ref C) (.type "BaseException") = some true
  tyC : PySem.W.typeIn K (.ref C) = some (.type "type")
  kC : PySem.W.keepIn K (.ref C) = true
section
variable {prog : Program} {w : World} {A : Around} {R : Result → Shared → Prop} {hp : Heap} {g : Array GenState} {d : Drawn} {t : Nat} {os : OsState}
/-- the first field of an exception that is being made -/
theorem osaB {K : PySem.W.Frag} {b : EB} {name : Str} {tk : Tok} {v : Value} {x C : Addr} {fv : Array Value} (T : OxB K b C) (X : K.In hp) (hx : hp.get? x = some { cls := .ref C, data := .fields fv }) (ha : PySem.W.takerIn K C name = some none)
    (hq : ∀ h' tk' dx, (∀ b o, b ≠ x → hp.get? b = some o → h'.get? b = some o) → hp.objs.size ≤ dx → dx ≠ x → h'.get? x = some { cls := .ref C, dict := some dx, data := .fields fv } →
      h'.Ns1 dx (fun y => if y = name then some v else none) → R (.ok (.ret .none)) ⟨h', g, d, tk', os⟩) :
    codeAny (model prog w) A (.call (.builtin "object.__setattr__") ⟨[.ref x, .str name tk, v], []⟩) R ⟨hp, g, d, t, os⟩ := by
  have I : PySem.W.InstAt hp x { cls := .ref C, data := .fields fv } C none := ⟨hx, rfl, rfl, trivial⟩
  refine PySem.W.osa_openX (s := ⟨hp, g, d, t, os⟩) b.store X I T.ovr ha fun bb => ?_
  dsimp only
  obtain ⟨cd, hcd, hdict⟩ := PySem.W.any_some T.hd
  have hcls : PySem.W.Looks (model prog w) hp (classData C) cd := PySem.W.looks_clsIn X hcd
  have hxs : x ≠ hp.objs.size := Nat.ne_of_lt (Heap.lt_size hx)
  obtain ⟨nm, bs, mro, ns, qn, hd, sn, sb, ab, col, del⟩ := cd
  have hh : hd = true := hdict
  subst hh
  unfold Builtin.ObjectAttr.storeInOwnDict Builtin.ObjectAttr.ownDictForStores
  repeat (first | with_reducible refine PySem.HandSPX.store_in_new ?_ ?_ | with_reducible refine wpAny_loadPart_at hx ?_ | with_reducible refine hcls.at ?_ | wp_step)
  · exact ⟨_, #[], _, (Heap.get?_update_ne _ _ _ _ hxs.symm).trans (Heap.get?_push_at rfl rfl), rfl, fun e he => absurd he (by simp), fun _ => rfl⟩
  · intro h' tk' hn' hs
    have old : ∀ {b : Addr} {o : Obj}, b ≠ x → hp.get? b = some o → h'.get? b = some o := fun {b o} hb ho =>
      (hs.2 b (Nat.ne_of_lt (Heap.lt_size ho))).trans ((Heap.get?_update_ne _ _ _ _ hb).trans (Heap.get?_push_of_some _ ho))
    refine hq h' tk' hp.objs.size (fun _ _ => old) (Nat.le_refl _) hxs.symm ?_ hn'
    have e : (hp.push { cls := .type "dict", data := .dict #[] }).get? x = some { cls := .ref C, data := .fields fv } := Heap.get?_push_of_some _ hx
    exact (hs.2 x hxs).trans (Heap.get?_update_self _ e rfl)
end
section
variable {X : Cx} {pins : List (Addr × Obj)} {σ : St} {H : Hp} {s : Shared} {a C : Addr} {f : Str} {y : V} {u : Value} {b : EB}
theorem ostB {Q : Unit → Shared → Prop} {E : Value → Shared → Prop} (T : OxB X.K b C) (I : Inv X pins σ H s) (e : H a = some (exo a C none)) (hno : PySem.W.takerIn X.K C f = some none) (ry : RelV y u)
    (h : ∀ dx s', H dx = none → dx ≠ a → Inv X pins σ (upd (upd H dx (exd dx [(f, y)])) a (exo a C (some dx))) s' → Q () s') : wpAny (model X.prog X.w) X.A (setAttr (.ref a) f u) Q E s := by
  obtain ⟨t1, ho⟩ := exo_at I.hok e
  obtain ⟨hp, g, d, t, os⟩ := s
  refine PySem.W.set_plain I.kIn (ox := { cls := .ref C, dict := none, data := .fields #[.ref t1, .none, .none, .none, .bool false, .none] }) (od := none) ⟨ho, rfl, rfl, trivial⟩ T.sa ?_
  refine osaB T I.kIn ho hno fun h' tk' dx k dn dne hx hn => ?_
  have hnd : H dx = none := I.hok.fresh dn
  have nd : ∀ {c : Addr} {o : Obj}, hp.get? c = some o → c ≠ dx := fun {c o} q => Nat.ne_of_lt (Nat.lt_of_lt_of_le (Heap.lt_size q) dn)
  have na : ∀ {c : Addr}, H c = none → c ≠ a := fun {c} n z => by rw [z, e] at n; cases n
  have both : ∀ {c : Addr} {o : HO}, H c = some o → exo a C none ≠ o → upd (upd H dx (exd dx [(f, y)])) a (exo a C (some dx)) c = H c := fun {c o} q n => by rw [upd_ne (at_ne e q n), upd_ne (ne_of_none q hnd)]
  refine h dx _ hnd dne (I.un (t' := tk') { keep := fun c o q n _ _ => k c o (na n) q, slot := fun c o q n _ _ => ⟨o.slots, k c o (na n) q⟩, free := fun c o q n _ => by rw [upd_ne (na n), upd_ne (nd q)]; exact n, there := fun c o q _ => ?_, tups := fun c xs q => by rw [both q exo_tup]; exact q, frzs := fun c o v q => by rw [both q exo_frz]; exact q, tbls := fun c ps q => ⟨#[], by rw [both q exo_tbl, q]; simp⟩ } fun c o q => ?_)
  · by_cases hc : c = a
    · rw [hc]; exact ⟨_, hx⟩
    · exact ⟨o, k c o hc q⟩
  · by_cases hc : c = a
    · subst hc
      rw [upd_same] at q
      cases q
      exact exo_ok hx
    · rw [upd_ne hc] at q
      by_cases hd : c = dx
      · subst hd
        rw [upd_same] at q
        cases q
        exact exd_ok hn (relO_put (fs := []) ry fun g => True.intro)
      · rw [upd_ne hd] at q
        refine (I.hok c o q).stay (fun c' v hc' z => k c' v ?_ z) (fun c' hc' => by rw [both hc' exo_own]; exact hc') fun c' xs hc' => by rw [both hc' exo_tup]; exact hc'
        rcases hc' with hc' | hc'
        · rw [hc']; exact hc
        · exact at_ne e hc' exo_own
/-- what such an __init__ keeps -/
def spI (C : Addr) (f : Str) : Sp := fun vs H Q _ => ∃ a v, vs = [.ref a, v] ∧ H a = some (exo a C none) ∧ ∀ dx, H dx = none → dx ≠ a → Q .non (upd (upd H dx (exd dx [(f, v)])) a (exo a C (some dx)))
def tOstB (C : Addr) (f : Str) (to te : TE) : TS := fun D σ H => te σ H fun y H1 => to σ H1 fun x H2 => ∃ a, x = .ref a ∧ H2 a = some (exo a C none) ∧ ∀ dx, H2 dx = none → dx ≠ a → D.nx σ (upd (upd H2 dx (exd dx [(f, y)])) a (exo a C (some dx)))
theorem ps_ostB {o e : Expr} {to te : TE} {p' pos : Pos} (T : OxB X.K b C) (hno : PySem.W.takerIn X.K C f = some none) (ho : PE X o to) (he : PE X e te) (hs : swapsWith e (some (.Attribute o f p')) pos.line X.env = pure false := by rfl) : PS X (.Assign [.Attribute o f p'] e pos) (tOstB C f to te) := by
  refine ⟨fun pins s σ H D I h => ?_⟩
  refine plainObj_wpAny_Assign_Attribute (thn (he.run pins s σ H _ I h) fun v s1 ⟨y, H1, I1, r1, q1⟩ => thn (ho.run pins s1 σ H1 _ I1 q1) fun u s2 ⟨x, H2, I2, r2, a, ex, ea, q⟩ => ?_) hs
  subst ex
  obtain rfl : u = Value.ref a := r2
  exact ostB T I2 ea hno r1 fun dx s' n ne J => ⟨σ, _, J, q dx n ne⟩
end
/-- the class's own __init__(self, f): self.f = f -/
theorem initB {P : Program} {w : World} {K : PySem.W.Frag} {mg : Str → Option Value} {base : Heap} {C fI : Addr} {b : EB} {x qual f : Str} {params : Arguments} {body : List Stmt} {scope : Scope} {dvs : List V} {kws : List (Str × V)} {fd : FuncData} {q1 q2 q3 q4 : Pos} (T : OxB K b C)
    (hno : PySem.W.takerIn K C f = some none) (F : FunD K x qual params body scope dvs kws fI fd) (S : FnScope ["self", f] ["self", f] scope) (hb : body = [.Assign [.Attribute (.Name "self" q1) f q2] (.Name f q3) q4]) (h1 : (f == ("__debug__" : Str)) = false) (h2 : (f == ("__classdict__" : Str)) = false) :
    FnG P w K mg base (L2.CX P w) 1 fI fd ["self", f] (spI C f) := by
  refine fnG_of F S (fun vs H Q E h => ?_) fun cdv A outer s H vs Q E hr h => ?_
  · obtain ⟨a, v, rfl, _⟩ := h
    rfl
  · obtain ⟨a, v, rfl, ea, q⟩ := h
    subst hb
    have vis : ∀ y : Str, y ∈ [("self" : Str), f] → Vis scope y := fun y hy => (S.par y hy).elim (fun z => .inl z) fun z => .inr (.inl z)
    refine ⟨_, pss_one (ps_ostB (X := cxOf (L2.CX P w) P w K mg base ["self", f] qual scope fI cdv A outer s H E) (C := C) (f := f) T hno (pe_var (i := 0) rfl (vis "self" (by simp))) (pe_var (i := 1) rfl (vis f (by simp)) h1 h2)), ?_⟩
    exact ⟨v, rfl, .ref a, rfl, a, rfl, ea, q⟩
/-- C(e), C with such an __init__ -/
theorem pmkB {X : Cx} {b : EB} {C fI : Addr} {k : Nat} {fd : FuncData} {f x : Str} {e : Expr} {ta : TA} {p pos : Pos} (T : OxB X.K b C) (iC : PySem.W.findIn X.K (.ref C) "__init__" = some (some (.ref fI))) (tI : PySem.W.isFn X.K (.ref fI) = true)
    (F1 : FnG X.prog X.w X.K X.mg X.base (L2.CX X.prog X.w) k fI fd ["self", f] (spI C f)) (hr : Room (k + 1) X.A) (hb : Binds X.K fd ["self", f] []) (hm : X.mg x = some (.ref C)) (ha : PA X [e] ta) (hg : Gl X x := by rfl)
    (hdb : (x == ("__debug__" : Str)) = false := by decide) (he : starEach [e] X.env = (false, eval e X.env) :: starEach [] X.env := by rfl) (hpl : (backTo pos (starEach [] X.env)).any (·.1) = false := by rfl) :
    PMk X (.Call (.Name x p) [e] [] pos) (fun σ H Q => ta σ H fun vs H1 => ∃ v, vs = [v] ∧ ∀ d, H1 d = none → Q (.ref C) (some d) (upd H1 d (.xd [(f, v)]))) := by
  intro pins s σ H Q I h
  refine wpAny_Call_Name_kw (ld_glob I hg hm ?_ hdb)
  refine PySem.W.callWith_K (h₀ := X.base) I.ok.mod.kin T.kC (thn (ha.run pos pins s σ H _ I h) fun us s1 ⟨vs, H1, I1, r1, v, ev, q1⟩ => ⟨I1.kIn, ?_⟩) he hpl
  subst ev
  obtain ⟨nm, N', qn, bs, bm, hdct, sn, sub, ab, col, dd, k0, k1, k2, k3, k5, hC, hT⟩ := PySem.W.excInit_of I1.kIn T.ini
  obtain ⟨oI, hoI, hcI⟩ : ∃ oI, s1.heap.get? fI = some oI ∧ oI.cls = .type "function" := by
    obtain ⟨o, ho, hc⟩ := Option.map_eq_some_iff.mp (show (X.K.lookup fI).map (·.cls) = some (.type "function") from beq_iff_eq.mp tI)
    exact ⟨o, I1.kIn _ _ ho, hc⟩
  show wpAny _ _ (call (.ref C) us) _ _ _
  obtain ⟨hp, g, dr, tk, os⟩ := s1
  let a := hp.objs.size + 1
  let h2 := (hp.push (PySem.W.kdv_tup us)).push (PySem.HandSPX.excO C hp.objs.size)
  have hsz : hp.objs.size ≤ a := Nat.le_succ _
  have kk : ∀ b o, hp.get? b = some o → h2.get? b = some o := fun b o e => Heap.get?_push_of_some _ (Heap.get?_push_of_some _ e)
  have hget : h2.get? a = some (PySem.HandSPX.excO C hp.objs.size) := by
    show ((hp.push (PySem.W.kdv_tup us)).push (PySem.HandSPX.excO C hp.objs.size)).get? (hp.objs.size + 1) = _
    heap_get
  have I2 : Inv X pins σ (upd H1 a (exo a C none)) ⟨h2, g, dr, tk, os⟩ := I1.laid (t' := tk) (a := a) (o := exo a C none) (h' := h2) kk hsz (exo_ok hget)
  have r2 : Vals (V.ref a :: [v]) (Value.ref a :: us) := .cons rfl r1
  have hl : (Value.ref a :: us ++ []).length = 2 := by
    rw [List.append_nil]
    exact r2.length.symm
  have hus : us.length ≤ sizeLine := by
    rw [← Paired.length r1, sizeLine_eq]
    exact (by decide : 1 ≤ 16777216)
  have hn : H1 a = none := I1.hok.fresh hsz
  have b2 := hb ⟨h2, g, dr, tk, os⟩ (Value.ref a :: us) I2.kIn hl
  rw [List.append_nil] at b2
  have asks : spI C f [.ref a, v] (upd H1 a (exo a C none)) (fun w H2 => w = .non ∧ ∃ d, H2 a = some (exo a C (some d)) ∧ H2 d = some (exd d [(f, v)]) ∧ H1 d = none ∧ Q (.ref C) (some d) (upd (del H2 a) d (.xd [(f, v)]))) (fun _ _ _ => False) := by
    refine ⟨a, v, rfl, upd_same, fun dx hdx ne => ⟨rfl, dx, upd_same, by rw [upd_ne ne, upd_same], ?_, ?_⟩⟩
    · rw [upd_ne ne] at hdx; exact hdx
    · have hd1 : H1 dx = none := by rw [upd_ne ne] at hdx; exact hdx
      have z := q1 dx hd1
      have e : upd (del (upd (upd (upd H1 a (exo a C none)) dx (exd dx [(f, v)])) a (exo a C (some dx))) a) dx (.xd [(f, v)]) = upd H1 dx (.xd [(f, v)]) := by
        funext c
        by_cases h1 : c = dx
        · rw [h1, upd_same, upd_same]
        · rw [upd_ne h1, upd_ne h1]
          by_cases h2 : c = a
          · rw [h2, del_same, hn]
          · rw [del_ne h2, upd_ne h2, upd_ne h1, upd_ne h2]
      rw [e]
      exact z
  refine wpAny_call (PySem.HandSPX.call_own b.facts hT hC (PySem.W.looks_findIn I1.kIn iC) (fun self => PySem.W.exc_bind hoI hcI self) hus
    (codeAny_mono (F1.run _ X.stack _ _ ⟨Value.ref a :: us, []⟩ (Value.ref a :: us) _ _ (fun _ _ _ => False) (hr.make C us []) (I2.env0.make C us []) b2 r2 asks) fun r s' z => ?_))
  match r, z with
  | .error er, ⟨_, _, _, _, _, _, _, _, _, _, _, _, z⟩ => exact z.elim
  | .ok .next, z => exact False.elim z
  | .ok .brk, z => exact False.elim z
  | .ok .cont, z => exact False.elim z
  | .ok (.ret u), ⟨w', H2, os2, bare2, un2, hok2, rv, ev, d, ea, ed, hd1, q2⟩ =>
    subst ev
    obtain ⟨h3, g2, d2, t2, os'⟩ := s'
    exact ⟨rv, mk_end (raises_own T.exC T.tyC) I1 hsz kk un2 hok2 os2 bare2 ea ed hd1 q2⟩
/-! ### the statements -/
/-- raise c(e) -/
@[simp] def dRaise (c f : Str) (d : DE) : DS := fun s => (d s).bind fun v s1 => .exn (.exc c [f] [v]) s1
/-- raise c('..') -/
@[simp] def dRaise0 (c : Str) : DS := fun s => .exn (.exc c [] []) s
/-- an own exception class with an __init__ of one field -/
def HasE (P : Program) (w : World) (K : PySem.W.Frag) (mg : Str → Option Value) (base : Heap) (c f : Str) (b : EB) : Prop :=
  mg c = some (.ref (He.ga K c)) ∧ OxB K b (He.ga K c) ∧ ∃ fI fd, PySem.W.findIn K (.ref (He.ga K c)) "__init__" = some (some (.ref fI)) ∧ PySem.W.isFn K (.ref fI) = true ∧ Binds K fd ["self", f] [] ∧ FnG P w K mg base (L2.CX P w) 1 fI fd ["self", f] (spI (He.ga K c) f)
/-- .. without -/
def HasE0 (K : PySem.W.Frag) (mg : Str → Option Value) (c : Str) (b : EB) : Prop :=
  mg c = some (.ref (He.ga K c)) ∧ PySem.W.excIn K (He.ga K c) b.bm b.nw = true ∧ PySem.W.keepIn K (.ref (He.ga K c)) = true ∧ PySem.W.subIn K (.ref (He.ga K c)) (.type "BaseException") = some true ∧ PySem.W.typeIn K (.ref (He.ga K c)) = some (.type "type")
section
variable {X : Cx} {g : Gx} {e : Expr} {de : DE} {c f m : Str} {b : EB} {p p2 pos pos2 : Pos}
theorem js_raise {k : Nat} (hc : X.calm = true) (h : HasE X.prog X.w X.K X.mg X.base c f b) (hr : Room (k + 2) X.A) (tk : Takes X g.W) (he : JE X g e de) (hg : Gl X c := by rfl) (hdb : (c == ("__debug__" : Str)) = false := by decide)
    (hs : starEach [e] X.env = (false, eval e X.env) :: starEach [] X.env := by rfl) (hpl : (backTo pos (starEach [] X.env)).any (·.1) = false := by rfl) : JS X g (.Raise (some (.Call (.Name c p) [e] [] pos)) none pos2) (dRaise c f de) := by
  obtain ⟨hm, T, fI, fd, iC, tI, hb, F1⟩ := h
  refine PS.cq (ps_raise hc tk (pmkB T iC tI F1 (hr.mono (by omega)) hb hm (pa_cons he pa_nil hs) hg hdb hs hpl)) fun pins s D σ H I q => ?_
  obtain ⟨l, s, rfl, ok, q⟩ := q
  refine ⟨l, s, rfl, ok, Run.mono (Run.bindS q) fun u H1 ⟨l1, s1, v, e1, ok1, r1, st1, h1⟩ => ⟨u, rfl, fun d hd => ?_⟩⟩
  subst e1
  exact h1 ⟨l1.al, l1.M, upd l1.H d (.xd [(f, u)])⟩ σ _ _ (Step.alloc hd) (ok1.alloc hd) ⟨c, [f], [v], [u], rfl, rfl, rfl, ⟨u, [], rfl, (Step.alloc hd).rep r1, rfl⟩, .inr ⟨d, rfl, ok1.fresh hd, upd_same⟩⟩
theorem js_raise0 {j : Nat} (hc : X.calm = true) (h : HasE0 X.K X.mg c b) (tk : Takes X g.W) (hg : Gl X c := by rfl) (hdb : (c == ("__debug__" : Str)) = false := by decide) :
    JS X g (.Raise (some (.Call (.Name c p) [.Constant (.str m) j p2] [] pos)) none pos2) (dRaise0 c) := by
  obtain ⟨hm, hx, kp, h1, h2⟩ := h
  refine PS.cq (ps_raise hc tk (pmk_own b.facts hx hm kp (raises_own h1 h2) hg hdb)) fun pins s D σ H I q => ?_
  obtain ⟨l, s, rfl, ok, q⟩ := q
  exact q l σ _ _ (Step.refl l) ok ⟨c, [], [], [], rfl, rfl, rfl, rfl, .inl ⟨rfl, rfl⟩⟩
end
end L3

namespace L3
open PySem PySem.Spec PyProof.Rows L2
/-! ## what an except clause catches: one class, or a tuple of classes -/
theorem exm_tupN {M : Model} {K : PySem.W.Frag} {cs : List Value} {cls : Value} {tp e : Addr} {b : Bool} {h : Heap} (X : K.In h) (LT : PySem.W.Looks M h (typeOf (.ref e)) cls) (hp : h.get? tp = some { cls := .type "tuple", data := .seq cs.toArray })
    (hx : PySem.W.exmAny K cls cs = some b) : PySem.W.Looks M h (excMatches (.ref e) (.ref tp)) b := by
  intro A Q E s k q
  have LT0 : PySem.W.Looks M h (isInstance (.ref tp) (.type "tuple")) true := ((PySem.W.Looks.ld hp).andThen .now).andThen (PySem.W.Looks.of_pure isSubtype_tuple_tuple)
  have hp' := k _ _ hp
  unfold excMatches
  refine wpAny_bind ((LT0.keeps k).here ?_)
  dsimp only
  rw [if_pos rfl]
  refine wpAny_bind (wpAny_seqItems hp' rfl (wpAny_bind (wpAny_pure ?_)))
  show wpAny _ _ (do
    forIn cs.toArray.toList PUnit.unit _
    _) _ _ _
  rw [show cs.toArray.toList = cs from by simp]
  refine wpAny_bind (wpAny_forIn_list _ (fun rest _ s' => s' = s ∧ ∃ b', PySem.W.exmAny K cls rest = some b') _ ?turn ?fin _ _ ⟨rfl, b, hx⟩)
  case turn =>
    rintro c rest u s' ⟨rfl, b', hb⟩
    obtain ⟨b1, d1, x1, y1, z1⟩ := PySem.W.exmAny_cons hb
    obtain ⟨g1, _⟩ := PySem.W.exm_cls (M := M) X x1
    refine wpAny_bind ((g1.keeps k).here ?_)
    simp only [Bool.not_true, Bool.false_eq_true, if_false]
    exact wpAny_pure ⟨rfl, d1, y1⟩
  case fin =>
    rintro u s' ⟨rfl, _⟩
    refine wpAny_bind ((LT.keeps k).here ?_)
    rw [show ((some cs.toArray : Option (Array Value)).getD #[]).toList = cs from by simp]
    refine wpAny_bind (wpAny_forIn_list _ (fun rest (r : Option Bool × Unit) s2 => s2 = s' ∧ (r.1 = none ∧ PySem.W.exmAny K cls rest = some b)) _ ?turn2 ?fin2 _ _ ⟨rfl, rfl, hx⟩)
    case turn2 =>
      rintro c rest ⟨r1, r2⟩ s2 ⟨rfl, hr, hb⟩
      obtain ⟨b1, d1, x1, y1, z1⟩ := PySem.W.exmAny_cons hb
      obtain ⟨_, g2⟩ := PySem.W.exm_cls (M := M) X x1
      refine wpAny_bind ((g2.keeps k).here ?_)
      cases b1 with
      | true =>
        simp only [if_true]
        have : b = true := by rw [z1]; rfl
        subst this
        exact wpAny_pure (wpAny_pure q)
      | false =>
        simp only [Bool.false_eq_true, if_false]
        have : b = d1 := by rw [z1]; rfl
        exact wpAny_pure ⟨rfl, rfl, by rw [this]; exact y1⟩
    case fin2 =>
      rintro ⟨r1, r2⟩ s2 ⟨rfl, hr, hb⟩
      have hb : b = false := (Option.some.inj hb).symm
      have hr : r1 = none := hr
      subst hr
      rw [hb] at q
      exact wpAny_pure q

/-- what an except clause tests -/
def Clz (X : Cx) (t : Expr) (cs : List Value) : Prop :=
  ∀ (a : Addr) (pn pins : List (Addr × Obj)) (σ : St) (H : Hp) (s : Shared) (E1 E2 : Value → Shared → Prop) (Q : Bool → Shared → Prop) (cls : Value) (b : Bool), Inv (X.suite a pn) pins σ H s → PySem.W.Looks (model X.prog X.w) s.heap (typeOf (.ref a)) cls → PySem.W.exmAny X.K cls cs = some b →
    (∀ h', (∀ b o, s.heap.get? b = some o → h'.get? b = some o) → Q b { s with heap := h' }) → wpAny (model X.prog X.w) (X.suite a pn).A (eval t X.env) (fun c s1 => wpAny (model X.prog X.w) (X.suite a pn).A (excMatches (.ref a) c) Q E1 s1) E2 s
def NmL (X : Cx) : List Expr → List Value → Prop
  | [], [] => True
  | e :: es, c :: cs => (∃ x p, e = .Name x p ∧ Gl X x ∧ (x == ("__debug__" : Str)) = false ∧ X.mg x = some c) ∧ NmL X es cs
  | _, _ => False
section
variable {X : Cx}
theorem clz_one {x : Str} {c : Value} {p : Pos} (hm : X.mg x = some c) (hg : Gl X x := by rfl) (hdb : (x == ("__debug__" : Str)) = false := by decide) : Clz X (.Name x p) [c] := by
  intro a pn pins σ H s E1 E2 Q cls b I LT hx q
  obtain ⟨b1, d1, x1, y1, z1⟩ := PySem.W.exmAny_cons hx
  cases (show some false = some d1 from y1)
  rw [Bool.or_false] at z1
  subst z1
  exact ld_glob (X := X.suite a pn) I hg hm ((PySem.W.exm_one (M := model X.prog X.w) I.kIn LT x1).here (q s.heap fun _ _ e => e)) hdb
theorem spl_names {a : Addr} {pn pins : List (Addr × Obj)} {σ : St} {H : Hp} {s : Shared} {E : Value → Shared → Prop} (I : Inv (X.suite a pn) pins σ H s) {pos : Pos} : ∀ {es : List Expr} {cs : List Value} {Q : List Value → Shared → Prop}, NmL X es cs → Q cs s →
    wpAny (model X.prog X.w) (X.suite a pn).A (spliced (backTo pos (starEach es X.env))) Q E s
  | [], [], Q, _, q => Calls.spliced_nil q
  | [], c :: cs, Q, h, q => h.elim
  | e :: es, [], Q, h, q => h.elim
  | e :: es, c :: cs, Q, h, q => by
    obtain ⟨⟨x, p, rfl, hg, hdb, hm⟩, h2⟩ := h
    show wpAny _ _ (spliced ((false, eval (.Name x p) X.env) :: backTo pos (starEach es X.env))) _ _ s
    exact Calls.spliced_cons (ld_glob (X := X.suite a pn) I hg hm (spl_names I (Q := fun us s2 => Q (c :: us) s2) h2 q) hdb)
theorem clz_tup {es : List Expr} {cs : List Value} {x1} {p : Pos} (h : NmL X es cs) (hn : cs.length ≤ 64 := by decide) : Clz X (.Tuple es x1 p) cs := by
  intro a pn pins σ H s E1 E2 Q cls b I LT hx q
  refine wpAny_Tuple_spliced (spl_names I h ⟨by rw [sizeLine_eq]; omega, ?_⟩)
  have k : ∀ b o, s.heap.get? b = some o → (s.heap.push ({ cls := .type "tuple", data := .seq cs.toArray } : Obj)).get? b = some o := fun b o e => Heap.get?_push_of_some _ e
  exact (exm_tupN (M := model X.prog X.w) (fun b o e => k b o (I.kIn b o e)) (LT.keeps k) (Heap.get?_push_size _ rfl) hx).here (q _ k)
end
theorem FlyingZ.on {B h h' : Heap} {l : List Env} {a : Addr} {Z : Obj → Prop} (x : HandSPX.FlyingZ B l a Z h) (k : ∀ b o, h.get? b = some o → h'.get? b = some o) : HandSPX.FlyingZ B l a Z h' := by
  obtain ⟨x1, x2, x3, oe, vs, T, oT, ts, he, hz, hd, h1, hnT, hTe, hT, hdT, h3⟩ := x
  exact ⟨fun b o e => k b o (x1 b o e), x2, Heap.FunFrames.of_keeps (fun b o e _ => ⟨o, k b o e, rfl⟩) x3, oe, vs, T, oT, ts, k _ _ he, hz, hd, h1, hnT, hTe, k _ _ hT, hdT, h3⟩
@[simp] def unE (i : Nat) (s : S) : S := wipeS [i] s
/-- try: db / except .. as n: ds, n's slot i; yes: the classes that the clause takes -/
@[simp] def dTryAs (yes : List Str) (i : Nat) (ds db : DS) : DS := fun s => match db s with
  | .exn (.exc c ns xs) s1 => if c ∈ yes then (ds (setE i (.exc c ns xs) s1)).bind fun f s2 => .ok f (unE i s2) else .bad
  | .exn _ _ => .bad
  | r => r
section
variable {X : Cx} {pins : List (Addr × Obj)} {σ : St} {H : Hp} {sI s s' : Shared} {B : Heap}
/-- back on the ground, the exception a value like others -/
theorem Inv.landedT {a : Addr} {o : HO} (I : Inv X pins σ H sI) (nb : ∀ b o, sI.heap.get? b = some o → b ∉ frs X.stack → B.get? b = some o) (st : B.StaysIn s'.heap) (up : sI.heap.UpToSlots s'.heap) (os : s'.os = sI.os) (ag : AllBare s'.gens)
    (hB : B.get? a = none) (nf : a ∉ frs X.stack) (na : H a = none) (new : ObjOk X.prog X.w (upd H a o) s'.heap a o) : Inv X pins σ (upd H a o) s' := by
  have nfs : ∀ b ∈ frs X.stack, ∀ o, sI.heap.get? b = some o → ∃ sl, s'.heap.get? b = some { o with slots := sl } := fun b hb o e => by
    obtain ⟨_, o', e', hd⟩ := I.stack.mem hb
    rw [e] at e'; cases e'
    exact up b o e hd
  have n0 : ∀ b o, sI.heap.get? b = some o → b ≠ a := fun b o e z => by
    subst z
    have q := nb _ o e nf
    rw [hB] at q; cases q
  refine I.call' (ch := []) os ⟨fun b o e _ hb _ => st b o (nb b o e hb), fun b o e _ hb _ => nfs b hb o e, fun b o e n _ => by rw [upd_ne (n0 b o e)]; exact n, fun b o e _ => by
      by_cases hb : b ∈ frs X.stack
      · obtain ⟨sl, q⟩ := nfs b hb o e
        exact ⟨_, q⟩
      · exact ⟨o, st b o (nb b o e hb)⟩, fun b xs e => by rw [upd_ne (ne_of_none e na)]; exact e, fun b o xs e => by rw [upd_ne (ne_of_none e na)]; exact e, fun b ps e => ⟨#[], by rw [upd_ne (ne_of_none e na), e]; simp⟩⟩ (fun b u e => ?_) ag (fun _ z => nomatch z)
  by_cases hb : b = a
  · subst hb
    rw [upd_same] at e
    cases e
    exact new
  · rw [upd_ne hb] at e
    exact (((I.inGround nb).kept st) b u e).stay (fun c v _ q => q) (fun c q => by rw [upd_ne (ne_of_none q na)]; exact q) fun c xs q => by rw [upd_ne (ne_of_none q na)]; exact q
theorem Inv.suite0 (I : Inv X pins σ H s) (a : Addr) : Inv (X.suite a (X.pn ++ pins)) [] σ H s :=
  ⟨I.ok.suite _ _, I.os, I.bare, I.base, I.loc, I.cell, I.free, I.freeC, fun p hp => I.pin p (by rw [List.append_nil] at hp; exact hp), I.hok, I.len⟩
theorem Inv.unsuite0 {a : Addr} {pn' : List (Addr × Obj)} (I : Inv (X.suite a (X.pn ++ pins)) pn' σ H s) (ok : X.Ok) : Inv X pins σ H s :=
  ⟨ok, I.os, I.bare, I.base, I.loc, I.cell, I.free, I.freeC, fun p hp => I.pin p (List.mem_append_left _ hp), I.hok, I.len⟩
theorem runS_un {K : PySem.W.Frag} {g : Gx} {r : R S Fl} {l : Lc} {D : Ends} {σ σ' : St} {i : Nat} (h : RunS K g (r.bind fun f s2 => .ok f (unE i s2)) l D σ) :
    RunS K g r l { nx := fun σ' H' => D.nx (σ'.set i none) H', rt := D.rt, bk := fun σ' H' => D.bk (σ'.set i none) H', ct := fun σ' H' => D.ct (σ'.set i none) H' } σ' := by
  have w : ∀ {l' : Lc} {s2 : S} {τ : St}, Sok K g l' s2 τ → Sok K g l' (unE i s2) (τ.set i none) := fun ok => Sok.wipe ok (by simp [L2.wipe])
  cases r with
  | bad => exact h
  | exn e t => exact h
  | ok f t =>
    cases f with
    | nx => exact fun l' τ st ok => h l' _ st (w ok)
    | bk => exact fun l' τ st ok => h l' _ st (w ok)
    | ct => exact fun l' τ st ok => h l' _ st (w ok)
    | rt v => exact fun l' τ u st ok r => h l' _ u st (w ok) r
end
section
variable {X : Cx} {g : Gx} {n : Str} {cs : List Value} {yes : List Str} {i : Nat} {body suite : List Stmt} {b₀ : Stmt} {t : Expr} {pos pos' : Pos} {db ds : DS}
/-- what the clause asks of an exception of the body -/
def wTryAs (K : PySem.W.Frag) (g : Gx) (yes : List Str) (i : Nat) (ds : DS) (D : Ends) : WX := fun cls d σ H => ∃ l s c ns xs vs, l.H = H ∧ Sok K g l s σ ∧ cls = .ref (He.ga K c) ∧ ns.length = vs.length ∧ RepGL K g l xs vs ∧
  ((d = none ∧ ns = []) ∨ ∃ dd, d = some dd ∧ ¬ g.L l dd ∧ l.H dd = some (.xd (ns.zip vs))) ∧ c ∈ yes ∧ RunS K g ((ds (setE i (.exc c ns xs) s)).bind fun f s2 => .ok f (unE i s2)) l D σ
theorem try_body {K : PySem.W.Frag} {l : Lc} {s : S} {D : Ends} {σ : St} (h : RunS K g (dTryAs yes i ds db s) l D σ) : RunS K ⟨g.CR, g.N, wTryAs K g yes i ds D⟩ (db s) l D σ := by
  simp only [dTryAs] at h
  cases e : db s with
  | bad => rw [e] at h; exact h
  | ok f t =>
    rw [e] at h
    cases f with
    | nx => exact fun l' τ st ok => h l' τ st (ok.frame rfl rfl)
    | bk => exact fun l' τ st ok => h l' τ st (ok.frame rfl rfl)
    | ct => exact fun l' τ st ok => h l' τ st (ok.frame rfl rfl)
    | rt v => exact fun l' τ u st ok r => h l' τ u st (ok.frame rfl rfl) r
  | exn x t =>
    rw [e] at h
    intro l' τ cls dd st ok rx
    obtain ⟨c, ns, xs, vs, rfl, h1, h2, h3, h4⟩ := rx
    by_cases hc : c ∈ yes
    · simp only [if_pos hc] at h
      exact ⟨l', t, c, ns, xs, vs, rfl, ok.frame rfl rfl, h1, h2, h3, h4, hc, RunS.step (by
        cases e2 : (ds (setE i (.exc c ns xs) t)).bind fun f s2 => R.ok f (unE i s2) with
        | bad => rw [e2] at h; exact h
        | exn x t => rw [e2] at h; exact h
        | ok f t =>
          rw [e2] at h
          cases f <;> exact h) st⟩
    · simp only [if_neg hc] at h
      exact h.elim
theorem js_tryAs (hN : X.N.Nodup) (hc : Clz X t cs) (hy : ∀ c ∈ yes, PySem.W.exmAny X.K (.ref (He.ga X.K c)) cs = some true)
    (hb : ∀ (W : WX) (pn : List (Addr × Obj)) (xe : Value → Shared → Prop), Takes (X.tr pn xe) W → JSs (X.tr pn xe) ⟨g.CR, g.N, W⟩ body db)
    (hsu : ∀ (a : Addr) (pn : List (Addr × Obj)), JSs (X.suite a pn) g (b₀ :: suite) ds)
    (hi : X.N[i]? = some n := by rfl) (hln : X.env.kindOf n = some .local := by rfl) (hs : X.stack = X.env :: X.outer := by rfl) (hf : X.env.frame = some X.env.locals := by rfl) :
    JS X g (.Try body [.ExceptHandler (some t) (some n) (b₀ :: suite) pos'] [] [] pos) (dTryAs yes i ds db) := by
  refine ⟨fun pins s σ H D I h => ?_⟩
  obtain ⟨l0, st0, rfl, ok0, run0⟩ := h
  have ok := I.ok
  have hfr : X.A.frames = some (X.env :: X.outer) := by rw [ok.frames, hs]
  have hloc : Loc X.env.scope n := .inl hln
  refine wpAny_Try_except ?_
  refine wpAny_mono ((hb (wTryAs X.K g yes i ds D) (X.pn ++ pins) (fun e s₁ => wpAny (model X.prog X.w) X.A (noteFrame e X.env) (fun _ s₂ => wpAny (model X.prog X.w) X.A (setFlight e none) (fun _ s₃ =>
    wpAny (model X.prog X.w) X.A (handleBy e X.env [.ExceptHandler (some t) (some n) (b₀ :: suite) pos']) (SP X pins D) X.xe s₃) X.xe s₂) X.xe s₁) (fun u s' xx => ?_)).run [] s σ l0.H D (I.toTry _) ⟨l0, st0, rfl, ok0.frame rfl rfl, try_body run0⟩) (fun f s1 hsp => ?_) (fun e s1 he => he)
  · obtain ⟨a, B, sI, pins', σ', H', cls, d, rfl, J', nb, up, sky, na, os, ag, l1, s1, c, ns, xs, vs, rfl, ok1, rfl, hl, rxs, hd0, hcy, run1⟩ := xx
    have J : Inv X pins σ' l1.H sI := J'.ofTry ok
    have sky' : Sky B (X.env :: X.outer) a (Zc (.ref (He.ga X.K c)) d) X.env.locals s'.heap := by rw [← hs]; exact sky
    show wpAny (model X.prog X.w) X.A (noteFrame (.ref a) X.env) _ _ _
    refine Sky.land Zc.steady hfr hf sky' fun h3 fl3 up3 => ?_
    have J3 : Inv X pins σ' l1.H { s' with heap := h3 } := J.landed nb fl3.1 (up.trans up3) os ag
    obtain ⟨oe3, vs3, he3, hz3, hd3⟩ := fl3.there
    have nfr : a ∉ frs (X.env :: X.outer) := fun hm => by
      obtain ⟨_, o', e', hnf⟩ := fl3.2.2.1.mem hm
      rw [he3] at e'; cases e'
      exact hnf _ hd3
    have nfr' : a ∉ frs X.stack := by rw [hs]; exact nfr
    have LT : PySem.W.Looks (model X.prog X.w) h3 (typeOf (.ref a)) (.ref (He.ga X.K c)) := fun A Q E s k q => wpAny_typeOf_ref (k _ _ he3) (by rw [hz3.1]; exact q)
    refine wpAny_handleBy_cons (codeAny_handlers_test (hc a (X.pn ++ pins) [] σ' l1.H _ _ _ _ _ true (Inv.suite0 J3 a) LT (hy c hcy) fun h5 k5 => ?_)) (by intro q; cases q)
    refine codeAny_handlers_suite_as ?_
    have fl5 : HandSPX.FlyingZ B (X.env :: X.outer) a (Zc (.ref (He.ga X.K c)) d) h5 := FlyingZ.on fl3 k5
    refine HandSPX.lands_againZ fl5 fun h4 fl4 up4 => ?_
    obtain ⟨oe4, vs4, he4, hz4, hd4⟩ := fl4.there
    have new : ObjOk X.prog X.w (upd l1.H a (exv a (He.ga X.K c) d)) h4 a (exv a (He.ga X.K c) d) :=
      ⟨⟨oe4, vs4, he4, hz4.1, hz4.2, hd4⟩, ⟨_, he4⟩, fun h1 h2 z k => by
        obtain ⟨oe, vs, z1, z2⟩ := z
        exact ⟨oe, vs, k _ z1, z2⟩⟩
    have J4 : Inv X pins σ' (upd l1.H a (exv a (He.ga X.K c) d)) { s' with heap := h4 } := Inv.landedT J nb fl4.1 (((up.trans up3).trans (Heap.UpToSlots.of_keeps k5)).trans up4) os ag fl4.2.1 nfr' na new
    have st1 : Step l1 ⟨l1.al, l1.M, upd l1.H a (exv a (He.ga X.K c) d)⟩ := Step.alloc na
    have ok2 := ok1.alloc (o := exv a (He.ga X.K c) d) na
    have rep : RepG X.K g ⟨l1.al, l1.M, upd l1.H a (exv a (He.ga X.K c) d)⟩ (.exc c ns xs) (.ref a) := by
      refine ⟨a, d, vs, rfl, ok1.fresh na, upd_same, hl, ?_, st1.reps rxs⟩
      rcases hd0 with h | ⟨dd, h1, h2, h3⟩
      · exact .inl h
      · exact .inr ⟨dd, h1, h2, by show upd l1.H a _ dd = _; rw [upd_ne (ne_of_none h3 na)]; exact h3⟩
    refine store_ok (X := X.suite a (X.pn ++ pins)) (v := .ref a) (Inv.suite0 J4 a) hN hi hloc rfl (fun s5 S5 => ?_) (.inr hln)
    refine wpAny_mono ((hsu a (X.pn ++ pins)).run [] s5 _ _ _ S5 ⟨_, _, rfl, ok2.set rep, runS_un (RunS.step run1 st1)⟩) (fun f s6 hsp => ?_) (fun _ _ z => False.elim z)
    have end_ : ∀ {σ6 : St} {H6 : Hp} {Q : Shared → Prop}, Inv (X.suite a (X.pn ++ pins)) [] σ6 H6 s6 → (∀ s7, Inv X pins (σ6.set i none) H6 s7 → Q s7) →
        wpAny (model X.prog X.w) X.A (do bindName X.env n .none; unbindBehindTheSuite X.env n pos') (fun _ s7 => Q s7) X.xe s6 := fun {σ6 H6 Q} S6 hq => gone_ok (Inv.unsuite0 S6 ok) hN hi hln hq
    cases f with
    | next =>
      obtain ⟨σ6, H6, S6, q6⟩ := hsp
      exact end_ S6 fun s7 J7 => ⟨_, _, J7, q6⟩
    | brk =>
      obtain ⟨σ6, H6, S6, q6⟩ := hsp
      exact end_ S6 fun s7 J7 => ⟨_, _, J7, q6⟩
    | cont =>
      obtain ⟨σ6, H6, S6, q6⟩ := hsp
      exact end_ S6 fun s7 J7 => ⟨_, _, J7, q6⟩
    | ret u =>
      obtain ⟨v6, σ6, H6, S6, r6, q6⟩ := hsp
      exact end_ S6 fun s7 J7 => ⟨_, _, _, J7, r6, q6⟩
  · cases f with
    | next =>
      obtain ⟨σ', H', J', q⟩ := hsp
      exact wpAny_execs_nil ⟨σ', H', J'.ofTry ok, q⟩
    | brk =>
      obtain ⟨σ', H', J', q⟩ := hsp
      exact ⟨σ', H', J'.ofTry ok, q⟩
    | cont =>
      obtain ⟨σ', H', J', q⟩ := hsp
      exact ⟨σ', H', J'.ofTry ok, q⟩
    | ret u =>
      obtain ⟨v, σ', H', J', r, q⟩ := hsp
      exact ⟨v, σ', H', J'.ofTry ok, r, q⟩
end
end L3

namespace L3
open PySem PySem.Spec PyProof.Rows L2
/-! ## what a caught exception tells -/
/-- a field of an own exception class at C -/
structure EFld (K : PySem.W.Frag) (C : Addr) (f : Str) : Prop where
  ga : PySem.W.findIn K (.ref C) "__getattribute__" = some (some (.builtin "BaseException.__getattribute__"))
  gg : PySem.W.findIn K (.ref C) "__getattr__" = some none
  no : PySem.W.findIn K (.ref C) f = some none
  ex : PySem.W.subIn K (.ref C) (.type "BaseException") = some true
  hd : PySem.W.hasDictIn K C = true
def efB (K : PySem.W.Frag) (C : Addr) (f : Str) : Bool := He.eqO (PySem.W.findIn K (.ref C) "__getattribute__") (some (some (.builtin "BaseException.__getattribute__"))) && (He.eqO (PySem.W.findIn K (.ref C) "__getattr__") (some none) &&
  (He.eqO (PySem.W.findIn K (.ref C) f) (some none) && (eqB (PySem.W.subIn K (.ref C) (.type "BaseException")) (some true) && PySem.W.hasDictIn K C)))
theorem ef_ok {K : PySem.W.Frag} {C : Addr} {f : Str} (h : efB K C f = true) : EFld K C f := by
  obtain ⟨h1, h⟩ := He.ba h
  obtain ⟨h2, h⟩ := He.ba h
  obtain ⟨h3, h⟩ := He.ba h
  obtain ⟨h4, h5⟩ := He.ba h
  exact ⟨He.eqO_ok h1, He.eqO_ok h2, He.eqO_ok h3, of_decide_eq_true h4, h5⟩
/-- the classes cs have the field f -/
def HasEF (K : PySem.W.Frag) (cs : List Str) (f : Str) : Prop := ∀ c ∈ cs, EFld K (He.ga K c) f
@[simp] def fEFld (cs : List Str) (f : Str) : PV → S → R S PV := fun p s => match p with
  | .exc c ns xs => if c ∈ cs then optR (getV f ns xs) s else .bad
  | _ => .bad
section
variable {X : Cx} {g : Gx} {e : Expr} {de : DE} {f : Str} {cs : List Str} {pos : Pos}
theorem j_efld (T : HasEF X.K cs f) (he : JE X g e de) (hb : attributeBase e f X.env (eval e X.env) = eval e X.env := by rfl) : JE X g (.Attribute e f pos) (dUn (fEFld cs f) de) := by
  refine ⟨fun pins s σ H Q I h => ?_⟩
  obtain ⟨l, s0, rfl, ok, h⟩ := h
  refine attr_of hb (thn (he.run pins s σ _ _ I ⟨l, s0, rfl, ok, Run.bind h⟩) fun u s1 ⟨x, H1, I1, rx, l1, s2, v, e1, ok1, r1, st1, h1⟩ => ?_)
  subst e1
  cases v with
  | exc c ns xs =>
    simp only [fEFld] at h1
    by_cases hc : c ∈ cs
    · rw [if_pos hc] at h1
      cases e3 : getV f ns xs with
      | none => simp only [e3, optR] at h1; exact h1.elim
      | some y =>
        simp only [e3, optR] at h1
        obtain ⟨a, d, vs, rfl, na, ha, hl, hd, rxs⟩ := r1
        obtain rfl : u = Value.ref a := rx
        obtain ⟨w, hw, rw'⟩ := rxs.getV e3
        rcases hd with ⟨_, hd⟩ | ⟨dd, rfl, nd, hd⟩
        · subst hd
          simp [getV] at e3
        · have T1 := T c hc
          obtain ⟨⟨oe, vs', h4, h5, h6, h7⟩, _⟩ := (show ObjOk X.prog X.w l1.H s1.heap a (exv a (He.ga X.K c) (some dd)) from I1.hok a _ ha)
          obtain ⟨mA, hns, hr⟩ := (show ObjOk X.prog X.w l1.H s1.heap dd (.xd (ns.zip vs)) from I1.hok dd _ hd)
          obtain ⟨od, ho, hk⟩ := lookIn_ns hns
          obtain ⟨u', hu, ru⟩ := RelO.some_of (v := w) (o := mA f) (by rw [← hw, ← lookup_zip]; exact hr f)
          have J : PySem.W.InstAt s1.heap a oe (He.ga X.K c) (some od) := ⟨h4, h5, by unfold PySem.W.notCls; rw [h7] <;> rfl, by rw [h6]; exact ho⟩
          exact HandSPX.exc_get I1.kIn J T1.ga T1.gg T1.ex (PySem.W.findObj_own T1.hd T1.no rfl (by rw [hk, hu])) (handed_of ru) ⟨w, l1.H, I1.tok _, ru, h1 l1 w (Step.refl l1) ok1 rw'⟩
    · rw [if_neg hc] at h1
      exact h1.elim
  | _ => exact h1.elim
end
end L3

namespace L3
open PySem PySem.Spec PyProof.Rows L2
/-! ## own exceptions as packages -/
def oxB (b : EB) (c f : Str) (K : PySem.W.Frag) : Bool :=
  PySem.W.excInitIn K (He.ga K c) b.bm b.nw && (PySem.W.excOver K (He.ga K c) b.bm && (PySem.W.hasDictIn K (He.ga K c) && (He.eqO (PySem.W.findIn K (.ref (He.ga K c)) "__setattr__") (some (some (.builtin "object.__setattr__"))) &&
  (eqB (PySem.W.subIn K (.ref (He.ga K c)) (.type "BaseException")) (some true) && (decide (PySem.W.typeIn K (.ref (He.ga K c)) = some (.type "type")) && (PySem.W.keepIn K (.ref (He.ga K c)) &&
  (He.eqO (PySem.W.findIn K (.ref (He.ga K c)) "__init__") (some (some (.ref (He.ma K (He.ga K c) "__init__")))) && (PySem.W.isFn K (.ref (He.ma K (He.ga K c) "__init__")) && He.eqO (PySem.W.takerIn K (He.ga K c) f) (some none)))))))))
theorem hasE_of {P : Program} {w : World} {K : PySem.W.Frag} {mg : Str → Option Value} {base : Heap} {c f : Str} {b : EB} {x qual : Str} {params : Arguments} {body : List Stmt} {scope : Scope} {dvs : List V} {kws : List (Str × V)} {fd : FuncData} {q1 q2 q3 q4 : Pos}
    (hm : mg c = some (.ref (He.ga K c))) (h : oxB b c f K = true) (F : FunD K x qual params body scope dvs kws (He.ma K (He.ga K c) "__init__") fd) (hbd : Binds K fd ["self", f] []) (S : FnScope ["self", f] ["self", f] scope)
    (hb : body = [.Assign [.Attribute (.Name "self" q1) f q2] (.Name f q3) q4]) (h1 : (f == ("__debug__" : Str)) = false := by decide) (h2 : (f == ("__classdict__" : Str)) = false := by decide) : HasE P w K mg base c f b := by
  obtain ⟨a1, h⟩ := He.ba h
  obtain ⟨a2, h⟩ := He.ba h
  obtain ⟨a3, h⟩ := He.ba h
  obtain ⟨a4, h⟩ := He.ba h
  obtain ⟨a5, h⟩ := He.ba h
  obtain ⟨a6, h⟩ := He.ba h
  obtain ⟨a7, h⟩ := He.ba h
  obtain ⟨a8, h⟩ := He.ba h
  obtain ⟨a9, a10⟩ := He.ba h
  have T : OxB K b (He.ga K c) := ⟨a1, a2, a3, He.eqO_ok a4, of_decide_eq_true a5, of_decide_eq_true a6, a7⟩
  exact ⟨hm, T, _, fd, He.eqO_ok a8, a9, hbd, initB T (He.eqO_ok a10) F S hb h1 h2⟩
def ex0B (b : EB) (c : Str) (K : PySem.W.Frag) : Bool :=
  PySem.W.excIn K (He.ga K c) b.bm b.nw && (PySem.W.keepIn K (.ref (He.ga K c)) && (eqB (PySem.W.subIn K (.ref (He.ga K c)) (.type "BaseException")) (some true) && decide (PySem.W.typeIn K (.ref (He.ga K c)) = some (.type "type"))))
theorem hasE0_of {K : PySem.W.Frag} {mg : Str → Option Value} {c : Str} {b : EB} (hm : mg c = some (.ref (He.ga K c))) (h : ex0B b c K = true) : HasE0 K mg c b := by
  obtain ⟨a1, h⟩ := He.ba h
  obtain ⟨a2, h⟩ := He.ba h
  obtain ⟨a3, a4⟩ := He.ba h
  exact ⟨hm, a1, a2, of_decide_eq_true a3, of_decide_eq_true a4⟩
def hefB (cs : List Str) (f : Str) (K : PySem.W.Frag) : Bool := cs.all fun c => efB K (He.ga K c) f
theorem hasEF_of {K : PySem.W.Frag} {cs : List Str} {f : Str} (h : hefB cs f K = true) : HasEF K cs f := fun c hc => ef_ok (List.all_eq_true.mp h c hc)
/-- an except clause that names ns takes yes -/
def HasT (K : PySem.W.Frag) (mg : Str → Option Value) (ns yes : List Str) : Prop := (∀ n ∈ ns, mg n = some (.ref (He.ga K n))) ∧ ∀ c ∈ yes, PySem.W.exmAny K (.ref (He.ga K c)) (ns.map fun n => .ref (He.ga K n)) = some true
def htB (ns yes : List Str) (K : PySem.W.Frag) : Bool := yes.all fun c => eqB (PySem.W.exmAny K (.ref (He.ga K c)) (ns.map fun n => .ref (He.ga K n))) (some true)
theorem hasT_of {K : PySem.W.Frag} {mg : Str → Option Value} {ns yes : List Str} (h1 : ∀ n ∈ ns, mg n = some (.ref (He.ga K n))) (h2 : htB ns yes K = true) : HasT K mg ns yes := ⟨h1, fun c hc => of_decide_eq_true (List.all_eq_true.mp h2 c hc)⟩
section
variable {X : Cx}
theorem nml_nil : NmL X [] [] := True.intro
theorem nml_cons {x : Str} {p : Pos} {es : List Expr} {c : Value} {cs : List Value} (hm : X.mg x = some c) (r : NmL X es cs) (hg : Gl X x := by rfl) (hdb : (x == ("__debug__" : Str)) = false := by decide) : NmL X (.Name x p :: es) (c :: cs) := ⟨⟨x, p, rfl, hg, hdb, hm⟩, r⟩
end
end L3

namespace LD
open PySem L3
def okR (t b : Int) : Bool := decide (ib b ≤ 9000)
/-- slots: _law_script, _law_k, _law_cell -/
def d_w_source : DS := (dSeq (dSet 2 (dIf (dTru (dBin (gEq true) (dVar 0) (dLst dNil))) (dBin fIx (dVar 0) (dBin gMod (dVar 1) (dFn fLen (dCons (dVar 0) dNil)))) (dC (.int 1)))) (dRet (dNewF (dLstF (dCons (dVar 2) (dCons (dBin gMul (dC (.int 3)) (dVar 1)) (dCons (dIf (dTru (dBin gGe (dVar 2) (dBin gPow (dC (.int 10)) (dC (.int 18))))) (dBin gFdiv (dVar 2) (dBin gPow (dC (.int 10)) (dC (.int 18)))) (dC (.int 0))) dNil)))))))
def F_w_source : DF := runBody 3 d_w_source
/-- slots: _law_source_here, _law_many, _law_primes, _law_prime, _law_found -/
def d_w_next : DS := (dSeq (dIfS (dTru (dBin gGt (dBin fIx (dVar 0) (dC (.int 2))) (dC (.int 0)))) (dSeq (dSet 4 (dBin gMod (dBin fIx (dVar 0) (dC (.int 2))) (dVar 1))) (dSeq (dPut 0 (dBin gFdiv (dBin fIx (dVar 0) (dC (.int 2))) (dVar 1)) (dC (.int 2))) (dRet (dVar 4)))) dSkip) (dSeq (dPut 0 (dBin gAdd (dBin fIx (dVar 0) (dC (.int 1))) (dC (.int 1))) (dC (.int 1))) (dSeq (dSet 2 (dLst (dCons (dC (.int 2147483647)) (dCons (dC (.int 2147483629)) (dCons (dC (.int 2147483587)) (dCons (dC (.int 2147483579)) (dCons (dC (.int 2147483563)) (dCons (dC (.int 2147483549)) (dCons (dC (.int 2147483543)) (dCons (dC (.int 2147483497)) dNil)))))))))) (dSeq (dSet 3 (dBin fIx (dBin gAdd (dVar 2) (dLst (dCons (dC (.int 2147483489)) (dCons (dC (.int 2147483477)) (dCons (dC (.int 2147483423)) dNil))))) (dBin gMod (dBin fIx (dVar 0) (dC (.int 1))) (dC (.int 11))))) (dRet (dBin gMod (dBin gFdiv (dBin gMod (dBin gPow (dBin gAdd (dBin gAdd (dBin gMod (dBin fIx (dVar 0) (dC (.int 0))) (dVar 3)) (dBin gMul (dC (.int 7919)) (dBin fIx (dVar 0) (dC (.int 1))))) (dC (.int 1))) (dC (.int 5))) (dVar 3)) (dC (.int 13))) (dVar 1)))))))
def F_w_next : DF := runBody 5 d_w_next
/-- slots: _law_source_here, _law_items -/
def d_w_pick : DS := (dRet (dBin fIx (dVar 1) (dFnS F_w_next (dCons (dVar 0) (dCons (dFn fLen (dCons (dVar 1) dNil)) dNil)))))
def F_w_pick : DF := runBody 2 d_w_pick
/-- slots: _law_top, _law_bottom, _law_one, _law_other -/
def d_w_low : DS := (dSeq (dPar [2, 3] (dCons (dFn fAbsI (dCons (dVar 0) dNil)) (dCons (dFn fAbsI (dCons (dVar 1) dNil)) dNil))) (dSeq (dWhile (fuI 3) (dTru (dBin (gEq true) (dVar 3) (dC (.int 0)))) (dPar [2, 3] (dCons (dVar 3) (dCons (dBin gMod (dVar 2) (dVar 3)) dNil)))) (dRet (dIf (dTru (dBin gGt (dVar 1) (dC (.int 0)))) (dTup (dCons (dBin gFdiv (dVar 0) (dVar 2)) (dCons (dBin gFdiv (dVar 1) (dVar 2)) dNil))) (dTup (dCons (dBin gSub (dC (.int 0)) (dBin gFdiv (dVar 0) (dVar 2))) (dCons (dBin gSub (dC (.int 0)) (dBin gFdiv (dVar 1) (dVar 2))) dNil)))))))
def F_w_low : DF := runBody 4 d_w_low
/-- slots: _law_source_here, _law_way -/
def d_w_drawn : DS := (dSeq (dSet 1 (dFnS F_w_next (dCons (dVar 0) (dCons (dC (.int 4)) dNil)))) (dSeq (dIfS (dTru (dBin gLt (dVar 1) (dC (.int 2)))) (dRet (dTup (dCons (dBin gSub (dFnS F_w_next (dCons (dVar 0) (dCons (dC (.int 9)) dNil))) (dC (.int 3))) (dCons (dC (.int 1)) dNil)))) dSkip) (dRet (dFnS F_w_low (dCons (dBin gSub (dFnS F_w_next (dCons (dVar 0) (dCons (dC (.int 61)) dNil))) (dC (.int 30))) (dCons (dBin gAdd (dC (.int 1)) (dFnS F_w_next (dCons (dVar 0) (dCons (dIf (dTru (dBin (gEq false) (dVar 1) (dC (.int 2)))) (dC (.int 6)) (dC (.int 3))) dNil)))) dNil))))))
def F_w_drawn : DF := runBody 2 d_w_drawn
/-- slots: _law_source_here, _law_most, _law_found, _law_turn -/
def d_w_row : DS := (dSeq (dOwn 2 (dLstF dNil)) (dSeq (dFor (iRange1 (dCons (dFnS F_w_next (dCons (dVar 0) (dCons (dBin gAdd (dVar 1) (dC (.int 1))) dNil))) dNil)) (gN 3) (dExpr (dApp 2 (dBor [2] (dIf (dAndT (dTru (dBin (gEq true) (dVar 2) (dLst dNil))) (dTru (dBin (gEq false) (dFnS F_w_next (dCons (dVar 0) (dCons (dC (.int 4)) dNil))) (dC (.int 0))))) (dFnS F_w_pick (dCons (dVar 0) (dCons (dVar 2) dNil))) (dFnS F_w_drawn (dCons (dVar 0) dNil))))))) (dFrz [2] (dRet (dVar 2)))))
def F_w_row : DF := runBody 4 d_w_row
/-- slots: _law_source_here, _law_most -/
def d_w_filled : DS := (dRet (dBin gAdd (dFnS F_w_row (dCons (dVar 0) (dCons (dBin gSub (dVar 1) (dC (.int 1))) dNil))) (dLst (dCons (dFnS F_w_drawn (dCons (dVar 0) dNil)) dNil))))
def F_w_filled : DF := runBody 2 d_w_filled
/-- slots: value -/
def d_is_integer : DS := (dRet (dAnd (dUn (fIsi bInt) (dVar 0)) (dNot (dUn (fIsi bBool) (dVar 0)))))
def F_is_integer : DF := runBody 1 d_is_integer
/-- slots: one, other -/
def d_common_divisor : DS := (dSeq (dPar [0, 1] (dCons (dFn fAbsI (dCons (dVar 0) dNil)) (dCons (dFn fAbsI (dCons (dVar 1) dNil)) dNil))) (dSeq (dWhile (fuI 1) (dTru (dBin gGt (dVar 1) (dC (.int 0)))) (dPar [0, 1] (dCons (dVar 1) (dCons (dBin gMod (dVar 0) (dVar 1)) dNil)))) (dRet (dVar 0))))
def F_common_divisor : DF := runBody 2 d_common_divisor
/-- slots: self, top, bottom, value, divisor -/
def d_Ratio___init__ (CR : Addr) : DS := (dSeq (dFor (iSeq (dTup (dCons (dVar 1) (dCons (dVar 2) dNil)))) (gN 3) (dIfS (dNotT (dTru (dFnS F_is_integer (dCons (dVar 3) dNil)))) dNever dSkip)) (dSeq (dIfS (dTru (dBin (gEq false) (dVar 2) (dC (.int 0)))) dNever dSkip) (dSeq (dSet 4 (dFnS F_common_divisor (dCons (dVar 1) (dCons (dVar 2) dNil)))) (dSeq (dFPut [CR] "own_top" (dVar 0) (dIf (dTru (dBin gGt (dVar 2) (dC (.int 0)))) (dBin gFdiv (dVar 1) (dVar 4)) (dBin gSub (dC (.int 0)) (dBin gFdiv (dVar 1) (dVar 4))))) (dFPut [CR] "own_bottom" (dVar 0) (dBin gFdiv (dFn fAbsI (dCons (dVar 2) dNil)) (dVar 4)))))))
/-- slots: _law_some, _law_top, _law_bottom -/
def d_w_given : DS := (dRet (dFr (dComp (iSeq (dVar 0)) (gT 2 (gCons (gN 1) (gCons (gN 2) gNil))) dYes (dIf (dTru (dBin gGt (dVar 2) (dC (.int 1)))) (dFn (fMakeR okR) (dCons (dVar 1) (dCons (dVar 2) dNil))) (dVar 1)) [1, 2])))
def F_w_given : DF := runBody 3 d_w_given
/-- slots: value -/
def d_is_number : DS := (dRet (dOr (dFnS F_is_integer (dCons (dVar 0) dNil)) (dUn (fIsi bRat) (dVar 0))))
def F_is_number : DF := runBody 1 d_is_number
/-- slots: value -/
def d_need_number : DS := (dIfS (dNotT (dTru (dFnS F_is_number (dCons (dVar 0) dNil)))) (dRaise "BadNumber" "value" (dVar 0)) dSkip)
def F_need_number : DF := runBody 1 d_need_number
/-- slots: value -/
def d_ratio_of : DS := (dRet (dIf (dTru (dUn (fIsi bRat) (dVar 0))) (dVar 0) (dFn (fMakeR okR) (dCons (dVar 0) dNil))))
def F_ratio_of : DF := runBody 1 d_ratio_of
/-- slots: cls, value -/
def d_Ratio_of : DS := (dSeq (dExpr (dFnS F_need_number (dCons (dVar 1) dNil))) (dRet (dFnS F_ratio_of (dCons (dVar 1) dNil))))
def F_Ratio_of : DF := runBody 2 d_Ratio_of
/-- slots: _law_source_here, _law_some, _law_found, _law_value -/
def d_w_framed (CR : Addr) : DS := (dSeq (dSet 2 (dFnS F_w_given (dCons (dVar 1) dNil))) (dSeq (dIfS (dTru (dBin (gEq false) (dFnS F_w_next (dCons (dVar 0) (dCons (dC (.int 2)) dNil))) (dC (.int 0)))) (dRet (dFn fTuple (dCons (dVar 2) dNil))) dSkip) (dRet (dIf (dTru (dBin (gEq false) (dFnS F_w_next (dCons (dVar 0) (dCons (dC (.int 2)) dNil))) (dC (.int 0)))) (dFr (dComp (iSeq (dVar 2)) (gN 3) dYes (dFn (fCm 2 CR F_Ratio_of) (dCons (dVar 3) dNil)) [3])) (dVar 2)))))
def F_w_framed (CR : Addr) : DF := runBody 4 (d_w_framed CR)
/-- slots: _law_one, _law_other -/
def d_w_plus : DS := (dRet (dFnS F_w_low (dCons (dBin gAdd (dBin gMul (dBin fIx (dVar 0) (dC (.int 0))) (dBin fIx (dVar 1) (dC (.int 1)))) (dBin gMul (dBin fIx (dVar 1) (dC (.int 0))) (dBin fIx (dVar 0) (dC (.int 1))))) (dCons (dBin gMul (dBin fIx (dVar 0) (dC (.int 1))) (dBin fIx (dVar 1) (dC (.int 1)))) dNil))))
def F_w_plus : DF := runBody 2 d_w_plus
/-- slots: _law_some, _law_found, _law_one -/
def d_w_sum : DS := (dSeq (dSet 1 (dTup (dCons (dC (.int 0)) (dCons (dC (.int 1)) dNil)))) (dSeq (dFor (iSeq (dVar 0)) (gN 2) (dSet 1 (dFnS F_w_plus (dCons (dVar 1) (dCons (dVar 2) dNil))))) (dRet (dVar 1))))
def F_w_sum : DF := runBody 3 d_w_sum
/-- slots: _law_one, _law_other -/
def d_w_through : DS := (dRet (dFnS F_w_low (dCons (dBin gMul (dBin fIx (dVar 0) (dC (.int 0))) (dBin fIx (dVar 1) (dC (.int 1)))) (dCons (dBin gMul (dBin fIx (dVar 0) (dC (.int 1))) (dBin fIx (dVar 1) (dC (.int 0)))) dNil))))
def F_w_through : DF := runBody 2 d_w_through
/-- slots: _law_some -/
def d_w_mean : DS := (dRet (dFnS F_w_through (dCons (dFnS F_w_sum (dCons (dVar 0) dNil)) (dCons (dTup (dCons (dFn fLen (dCons (dVar 0) dNil)) (dCons (dC (.int 1)) dNil))) dNil))))
def F_w_mean : DF := runBody 1 d_w_mean
/-- slots: value -/
def d_is_row : DS := (dRet (dAnd (dUn (fIsi fun t => match bTup t with | some true => some true | some false => bLst t | none => none) (dVar 0)) (dBin gLe (dFn fLen (dCons (dVar 0) dNil)) (dC (.int 1000)))))
def F_is_row : DF := runBody 1 d_is_row
/-- slots: sample, index, value -/
def d_need_sample : DS := (dSeq (dIfS (dNotT (dTru (dFnS F_is_row (dCons (dVar 0) dNil)))) (dRaise "BadSample" "index" (dC .non)) dSkip) (dSeq (dFor (iEnumQ (dCons (dVar 0) dNil)) (gT 2 (gCons (gN 1) (gCons (gN 2) gNil))) (dIfS (dNotT (dTru (dFnS F_is_number (dCons (dVar 2) dNil)))) (dRaise "BadSample" "index" (dVar 1)) dSkip)) (dRet (dFr (dComp (iSeq (dVar 0)) (gN 2) dYes (dFnS F_ratio_of (dCons (dVar 2) dNil)) [2])))))
def F_need_sample : DF := runBody 3 d_need_sample
/-- slots: values -/
def d_need_items : DS := (dIfS (dTru (dBin (gEq false) (dFn fLen (dCons (dVar 0) dNil)) (dC (.int 0)))) (dRaise0 "Empty") dSkip)
def F_need_items : DF := runBody 1 d_need_items
/-- slots: sample, values -/
def d_need_filled : DS := (dSeq (dSet 1 (dFnS F_need_sample (dCons (dVar 0) dNil))) (dSeq (dExpr (dFnS F_need_items (dCons (dVar 1) dNil))) (dRet (dVar 1))))
def F_need_filled : DF := runBody 2 d_need_filled
/-- slots: values, bottom, value -/
def d_common : DS := (dSeq (dSet 1 (dC (.int 1))) (dSeq (dFor (iSeq (dVar 0)) (gN 2) (dSet 1 (dBin gMul (dBin gFdiv (dVar 1) (dFnS F_common_divisor (dCons (dVar 1) (dCons (dUn fBot (dVar 2)) dNil)))) (dUn fBot (dVar 2))))) (dRet (dTup (dCons (dFr (dComp (iSeq (dVar 0)) (gN 2) dYes (dBin gMul (dUn fTop (dVar 2)) (dBin gFdiv (dVar 1) (dUn fBot (dVar 2)))) [2])) (dCons (dVar 1) dNil))))))
def F_common : DF := runBody 3 d_common
/-- slots: values, integers, bottom -/
def d_total : DS := (dSeq (dAsg (dFnS F_common (dCons (dVar 0) dNil)) (gT 2 (gCons (gN 1) (gCons (gN 2) gNil)))) (dRet (dFn (fMakeR okR) (dCons (dFn fSumI (dCons (dVar 1) dNil)) (dCons (dVar 2) dNil)))))
def F_total : DF := runBody 3 d_total
/-- slots: self, other, far -/
def d_Ratio_over : DS := (dSeq (dExpr (dFnS F_need_number (dCons (dVar 1) dNil))) (dSeq (dSet 2 (dFnS F_ratio_of (dCons (dVar 1) dNil))) (dRet (dFn (fMakeR okR) (dCons (dBin gMul (dUn fTop (dVar 0)) (dUn fBot (dVar 2))) (dCons (dBin gMul (dUn fBot (dVar 0)) (dUn fTop (dVar 2))) dNil))))))
def F_Ratio_over : DF := runBody 3 d_Ratio_over
/-- slots: values -/
def d_mean_of : DS := (dRet (dMethR (fMt 2 F_Ratio_over) (dFnS F_total (dCons (dVar 0) dNil)) (dCons (dFn fLen (dCons (dVar 0) dNil)) dNil)))
def F_mean_of : DF := runBody 1 d_mean_of
/-- slots: sample -/
def d_mean : DS := (dRet (dFnS F_mean_of (dCons (dFnS F_need_filled (dCons (dVar 0) dNil)) dNil)))
def F_mean : DF := runBody 1 d_mean
/-- slots: self -/
def d_Ratio_bottom : DS := (dRet (dUn fBot (dVar 0)))
/-- slots: self -/
def d_Ratio_top : DS := (dRet (dUn fTop (dVar 0)))
/-- slots: _law_value -/
def d_w_taken : DS := (dRet (dIf (dTru (dUn (fIsi bRat) (dVar 0))) (dTup (dCons (dUn fTop (dVar 0)) (dCons (dUn fBot (dVar 0)) dNil))) (dC .non)))
def F_w_taken : DF := runBody 1 d_w_taken
/-- slots: _law_values, _law_value -/
def d_w_all_taken : DS := (dRet (dFr (dComp (iSeq (dVar 0)) (gN 1) dYes (dFnS F_w_taken (dCons (dVar 1) dNil)) [1])))
def F_w_all_taken : DF := runBody 2 d_w_all_taken
/-- slots: _law_source_here, _law_items, _law_rest, _law_found -/
def d_w_mixed : DS := (dSeq (dAsgX [2, 3] (xOwn (dListF (dVar 1)) (xOwn (dLstF dNil) xNil))) (dSeq (dWhile (fuL 2) (dBorT [2, 3] (dTru (dBin (gEq true) (dVar 2) (dLst dNil)))) (dExpr (dApp 3 (dPopAt 2 (dBor [2, 3] (dFnS F_w_next (dCons (dVar 0) (dCons (dFn fLen (dCons (dVar 2) dNil)) dNil)))))))) (dFrz [2, 3] (dRet (dVar 3)))))
def F_w_mixed : DF := runBody 4 d_w_mixed
/-- slots: _law_script, _law_k, _law_source_here, _law_some, _law_sample, _law_kinds, _law_due, _law_value -/
def d_law_k10 (CR : Addr) : DS := (dSeq (dFor (iRange1 (dCons (dFn fMax2 (dCons (dC (.int 1)) (dCons (dFn fMin2 (dCons (dC (.int 4)) (dCons (dFn fLen (dCons (dVar 0) dNil)) dNil))) dNil))) dNil)) (gN 1) (dSeq (dSet 2 (dFnS F_w_source (dCons (dVar 0) (dCons (dVar 1) dNil)))) (dSeq (dSet 3 (dFnS F_w_filled (dCons (dVar 2) (dCons (dC (.int 12)) dNil)))) (dSeq (dIfS (dTru (dBin (gEq false) (dFnS F_w_next (dCons (dVar 2) (dCons (dC (.int 3)) dNil))) (dC (.int 0)))) (dSet 3 (dBin gAdd (dVar 3) (dLst (dCons (dTup (dCons (dBin gAdd (dBin gPow (dC (.int 10)) (dC (.int 40))) (dFnS F_w_next (dCons (dVar 2) (dCons (dC (.int 9)) dNil)))) (dCons (dC (.int 1)) dNil))) (dCons (dTup (dCons (dUn fNegI (dBin gPow (dC (.int 10)) (dC (.int 39)))) (dCons (dC (.int 7)) dNil))) dNil))))) dSkip) (dSeq (dSet 4 (dFnS (F_w_framed CR) (dCons (dVar 2) (dCons (dVar 3) dNil)))) (dSeq (dPar [5, 6] (dCons (dFr (dComp (iSeq (dVar 4)) (gN 7) dYes (dUn (fIsi bRat) (dVar 7)) [7])) (dCons (dFnS F_w_mean (dCons (dVar 3) dNil)) dNil))) (dSeq (dIfS (dOrT (dTru (dBin (gEq true) (dFnS F_w_taken (dCons (dFnS F_mean (dCons (dVar 4) dNil)) dNil)) (dVar 6))) (dTru (dBin (gEq true) (dFnS F_w_all_taken (dCons (dFr (dComp (iSeq (dVar 4)) (gN 7) dYes (dFn (fCm 2 CR F_Ratio_of) (dCons (dVar 7) dNil)) [7])) dNil)) (dVar 3)))) (dRet (dC (.bl false))) dSkip) (dSeq (dIfS (dTru (dBin (gEq true) (dFr (dComp (iSeq (dVar 4)) (gN 7) dYes (dUn (fIsi bRat) (dVar 7)) [7])) (dVar 5))) (dRet (dC (.bl false))) dSkip) (dSeq (dIfS (dTru (dBin (gEq true) (dFnS F_w_taken (dCons (dFnS F_mean (dCons (dFnS F_w_mixed (dCons (dVar 2) (dCons (dFnS F_w_given (dCons (dVar 3) dNil)) dNil))) dNil)) dNil)) (dVar 6))) (dRet (dC (.bl false))) dSkip) (dIfS (dTru (dBin (gEq true) (dFnS F_w_taken (dCons (dFnS F_mean (dCons (dBin gMul (dLst (dCons (dBin fIx (dFnS F_w_given (dCons (dSlice (dVar 3) dNone (dSome (dC (.int 1)))) dNil)) (dC (.int 0))) dNil)) (dBin gAdd (dC (.int 1)) (dFnS F_w_next (dCons (dVar 2) (dCons (dC (.int 40)) dNil))))) dNil)) dNil)) (dBin fIx (dVar 3) (dC (.int 0))))) (dRet (dC (.bl false))) dSkip)))))))))) (dRet (dAnd (dBin (gEq false) (dFnS F_w_taken (dCons (dFnS F_mean (dCons (dLst (dCons (dC (.int 4)) (dCons (dC (.int 1)) (dCons (dC (.int 3)) (dCons (dC (.int 10)) dNil))))) dNil)) dNil)) (dTup (dCons (dC (.int 9)) (dCons (dC (.int 2)) dNil)))) (dBin (gEq false) (dFnS F_w_taken (dCons (dFnS F_mean (dCons (dTup (dCons (dFn (fMakeR okR) (dCons (dC (.int 1)) (dCons (dC (.int 3)) dNil))) (dCons (dFn (fMakeR okR) (dCons (dC (.int 2)) (dCons (dC (.int 3)) dNil))) dNil))) dNil)) dNil)) (dTup (dCons (dC (.int 1)) (dCons (dC (.int 2)) dNil)))))))
def F_law_k10 (CR : Addr) : DF := runBody 8 (d_law_k10 CR)
end LD

namespace L3
/-! ## what must hold of a run -/
class Ko (a s : Type) where
  run : a → s → Prop
def WD {s a : Type} (r : R s a) (Q : a → s → Prop) : Prop := match r with
  | .ok v t => Q v t
  | _ => False
inductive WI {s a : Type} (r : R s a) [K : Ko a s] : Prop where
  | mk (h : WD r K.run) : WI r
abbrev W {s a : Type} (r : R s a) (Q : a → s → Prop) : Prop := @WI s a r ⟨Q⟩
theorem WI_iff {s a : Type} {r : R s a} {Q : a → s → Prop} : @WI s a r ⟨Q⟩ = WD r Q := propext ⟨fun h => h.1, fun h => @WI.mk s a r ⟨Q⟩ h⟩
section
variable {s a b : Type} {r : R s a} {Q Q' : a → s → Prop}
@[simp] theorem D_ok {v : a} {t : s} {Q : a → s → Prop} : WD (.ok v t) Q = Q v t := rfl
theorem W_ok {v : a} {t : s} {Q : a → s → Prop} : W (.ok v t) Q = Q v t := by
  simp only [W, WI_iff]
  exact D_ok
@[simp] theorem I_ok {v : a} {t : s} {Q : a → s → Prop} : WI (.ok v t) (K := ⟨Q⟩) = Q v t := W_ok
@[simp] theorem D_bad {Q : a → s → Prop} : WD .bad Q = False := rfl
theorem W_bad {Q : a → s → Prop} : W .bad Q = False := by
  simp only [W, WI_iff]
  exact D_bad
@[simp] theorem I_bad {Q : a → s → Prop} : WI .bad (K := ⟨Q⟩) = False := W_bad
@[simp] theorem D_exn {e : PV} {t : s} {Q : a → s → Prop} : WD (.exn e t) Q = False := rfl
theorem W_exn {e : PV} {t : s} {Q : a → s → Prop} : W (.exn e t) Q = False := by
  simp only [W, WI_iff]
  exact D_exn
@[simp] theorem I_exn {e : PV} {t : s} {Q : a → s → Prop} : WI (.exn e t) (K := ⟨Q⟩) = False := W_exn
@[simp] theorem D_bind {k : a → s → R s b} {P : b → s → Prop} : WD (r.bind k) P = WD r (fun v t => WD (k v t) P) := by cases r <;> rfl
theorem W_bind {k : a → s → R s b} {P : b → s → Prop} : W (r.bind k) P = W r (fun v t => W (k v t) P) := by
  simp only [W, WI_iff]
  exact D_bind
@[simp ↓] theorem I_bind {k : a → s → R s b} {P : b → s → Prop} : WI (r.bind k) (K := ⟨P⟩) = WI r (K := ⟨(fun v t => WI (k v t) (K := ⟨P⟩))⟩) := W_bind
theorem WD.mono (h : WD r Q) (i : ∀ v t, Q v t → Q' v t) : WD r Q' := by
  cases r with
  | ok v t => exact i v t h
  | _ => exact h
theorem W.mono (h : W r Q) (i : ∀ v t, Q v t → Q' v t) : W r Q' := by
  simp only [W, WI_iff] at *
  exact WD.mono h i
theorem WD.of {v : a} {t : s} (e : r = .ok v t) (h : Q v t) : WD r Q := by rw [e]; exact h
theorem W.of {v : a} {t : s} (e : r = .ok v t) (h : Q v t) : W r Q := by
  simp only [W, WI_iff]
  exact WD.of e h
theorem WD.out (h : WD r Q) : ∃ v t, r = .ok v t ∧ Q v t := by
  cases r with
  | ok v t => exact ⟨v, t, rfl, h⟩
  | _ => exact h.elim
theorem W.out (h : W r Q) : ∃ v t, r = .ok v t ∧ Q v t := by
  simp only [W, WI_iff] at h
  exact WD.out h
theorem D_ite {c : Prop} [Decidable c] {x y : R s a} (h1 : c → WD x Q) (h2 : ¬ c → WD y Q) : WD (if c then x else y) Q := by
  by_cases h : c
  · rw [if_pos h]; exact h1 h
  · rw [if_neg h]; exact h2 h
theorem W_ite {c : Prop} [Decidable c] {x y : R s a} (h1 : c → W x Q) (h2 : ¬ c → W y Q) : W (if c then x else y) Q := by
  simp only [W, WI_iff] at h1 h2 ⊢
  exact D_ite h1 h2
end
section
variable {s : S} {Q : PV → S → Prop} {P : Fl → S → Prop} {T : Bool → S → Prop} {A : List PV → S → Prop} {da db dc : DE} {dr : DA} {ds du : DS} {ta tb : DT} {f f' : PV → PV → S → R S PV} {g : PV → S → R S PV} {fn : List PV → S → R S PV} {F : DF} {i n : Nat} {tg : DG} {dl : DL} {di : DI}
theorem D_dSeq : WD (dSeq ds du s) P = WD (ds s) (fun f s1 => match f with | .nx => WD (du s1) P | .rt v => P (.rt v) s1 | .bk => P .bk s1 | .ct => P .ct s1) := by
  show WD ((ds s).bind _) P = _
  rw [D_bind]
  congr 1
  funext f s1
  cases f <;> rfl
theorem W_dSeq : W (dSeq ds du s) P = W (ds s) (fun f s1 => match f with | .nx => W (du s1) P | .rt v => P (.rt v) s1 | .bk => P .bk s1 | .ct => P .ct s1) := by
  simp only [W, WI_iff]
  exact D_dSeq
@[simp ↓] theorem I_dSeq : WI (dSeq ds du s) (K := ⟨P⟩) = WI (ds s) (K := ⟨(fun f s1 => match f with | .nx => WI (du s1) (K := ⟨P⟩) | .rt v => P (.rt v) s1 | .bk => P .bk s1 | .ct => P .ct s1)⟩) := W_dSeq
theorem D_dSet : WD (dSet i da s) P = WD (da s) (fun v s1 => P .nx (setE i v s1)) := D_bind
theorem W_dSet : W (dSet i da s) P = W (da s) (fun v s1 => P .nx (setE i v s1)) := by
  simp only [W, WI_iff]
  exact D_dSet
@[simp ↓] theorem I_dSet : WI (dSet i da s) (K := ⟨P⟩) = WI (da s) (K := ⟨(fun v s1 => P .nx (setE i v s1))⟩) := W_dSet
theorem D_dExpr : WD (dExpr da s) P = WD (da s) (fun v s1 => P .nx s1) := D_bind
theorem W_dExpr : W (dExpr da s) P = W (da s) (fun v s1 => P .nx s1) := by
  simp only [W, WI_iff]
  exact D_dExpr
@[simp ↓] theorem I_dExpr : WI (dExpr da s) (K := ⟨P⟩) = WI (da s) (K := ⟨(fun v s1 => P .nx s1)⟩) := W_dExpr
theorem D_dRet : WD (dRet da s) P = WD (da s) (fun v s1 => P (.rt v) s1) := D_bind
theorem W_dRet : W (dRet da s) P = W (da s) (fun v s1 => P (.rt v) s1) := by
  simp only [W, WI_iff]
  exact D_dRet
@[simp ↓] theorem I_dRet : WI (dRet da s) (K := ⟨P⟩) = WI (da s) (K := ⟨(fun v s1 => P (.rt v) s1)⟩) := W_dRet
theorem D_dIfS : WD (dIfS ta ds du s) P = WD (ta s) (fun x s1 => if x = true then WD (ds s1) P else WD (du s1) P) := by
  show WD ((ta s).bind _) P = _
  rw [D_bind]
  congr 1
  funext f s1
  cases f <;> simp
theorem W_dIfS : W (dIfS ta ds du s) P = W (ta s) (fun x s1 => if x = true then W (ds s1) P else W (du s1) P) := by
  simp only [W, WI_iff]
  exact D_dIfS
@[simp ↓] theorem I_dIfS : WI (dIfS ta ds du s) (K := ⟨P⟩) = WI (ta s) (K := ⟨(fun x s1 => if x = true then WI (ds s1) (K := ⟨P⟩) else WI (du s1) (K := ⟨P⟩))⟩) := W_dIfS
theorem D_dIf : WD (dIf ta da db s) Q = WD (ta s) (fun x s1 => if x = true then WD (da s1) Q else WD (db s1) Q) := by
  show WD ((ta s).bind _) Q = _
  rw [D_bind]
  congr 1
  funext f s1
  cases f <;> simp
theorem W_dIf : W (dIf ta da db s) Q = W (ta s) (fun x s1 => if x = true then W (da s1) Q else W (db s1) Q) := by
  simp only [W, WI_iff]
  exact D_dIf
@[simp ↓] theorem I_dIf : WI (dIf ta da db s) (K := ⟨Q⟩) = WI (ta s) (K := ⟨(fun x s1 => if x = true then WI (da s1) (K := ⟨Q⟩) else WI (db s1) (K := ⟨Q⟩))⟩) := W_dIf
theorem D_dBin : WD (dBin f da db s) Q = WD (da s) (fun x s1 => WD (db s1) fun y s2 => WD (f x y s2) Q) := by
  show WD ((da s).bind _) Q = _
  rw [D_bind]
  congr 1
  funext x s1
  exact D_bind
theorem W_dBin : W (dBin f da db s) Q = W (da s) (fun x s1 => W (db s1) fun y s2 => W (f x y s2) Q) := by
  simp only [W, WI_iff]
  exact D_dBin
@[simp ↓] theorem I_dBin : WI (dBin f da db s) (K := ⟨Q⟩) = WI (da s) (K := ⟨(fun x s1 => WI (db s1) (K := ⟨fun y s2 => WI (f x y s2) (K := ⟨Q⟩)⟩))⟩) := W_dBin
theorem D_dUn : WD (dUn g da s) Q = WD (da s) (fun x s1 => WD (g x s1) Q) := D_bind
theorem W_dUn : W (dUn g da s) Q = W (da s) (fun x s1 => W (g x s1) Q) := by
  simp only [W, WI_iff]
  exact D_dUn
@[simp ↓] theorem I_dUn : WI (dUn g da s) (K := ⟨Q⟩) = WI (da s) (K := ⟨(fun x s1 => WI (g x s1) (K := ⟨Q⟩))⟩) := W_dUn
theorem D_dNil : WD (dNil s) A = A [] s := rfl
theorem W_dNil : W (dNil s) A = A [] s := by
  simp only [W, WI_iff]
  exact D_dNil
@[simp ↓] theorem I_dNil : WI (dNil s) (K := ⟨A⟩) = A [] s := W_dNil
theorem D_dCons : WD (dCons da dr s) A = WD (da s) (fun x s1 => WD (dr s1) fun xs s2 => A (x :: xs) s2) := by
  show WD ((da s).bind _) A = _
  rw [D_bind]
  congr 1
  funext x s1
  exact D_bind
theorem W_dCons : W (dCons da dr s) A = W (da s) (fun x s1 => W (dr s1) fun xs s2 => A (x :: xs) s2) := by
  simp only [W, WI_iff]
  exact D_dCons
@[simp ↓] theorem I_dCons : WI (dCons da dr s) (K := ⟨A⟩) = WI (da s) (K := ⟨(fun x s1 => WI (dr s1) (K := ⟨fun xs s2 => A (x :: xs) s2⟩))⟩) := W_dCons
theorem D_dFn : WD (dFn fn dr s) Q = WD (dr s) (fun ps s1 => WD (fn ps s1) Q) := D_bind
theorem W_dFn : W (dFn fn dr s) Q = W (dr s) (fun ps s1 => W (fn ps s1) Q) := by
  simp only [W, WI_iff]
  exact D_dFn
@[simp ↓] theorem I_dFn : WI (dFn fn dr s) (K := ⟨Q⟩) = WI (dr s) (K := ⟨(fun ps s1 => WI (fn ps s1) (K := ⟨Q⟩))⟩) := W_dFn
/-- a def's run, seen from its caller -/
def D_call (F : DF) (ps : List PV) (s : S) (Q : PV → S → Prop) : Prop := WD (F ps s.mu) (fun v mu => Q v ⟨s.env, mu⟩)
theorem D_dFnS : WD (dFnS F dr s) Q = WD (dr s) (fun ps s1 => WD (F ps s1.mu) (fun v mu => Q v ⟨s1.env, mu⟩)) := by
  show WD ((dr s).bind _) Q = _
  rw [D_bind]
  congr 1
  funext ps s1
  cases F ps s1.mu <;> rfl
theorem W_dFnS : W (dFnS F dr s) Q = W (dr s) (fun ps s1 => W (F ps s1.mu) (fun v mu => Q v ⟨s1.env, mu⟩)) := by
  simp only [W, WI_iff]
  exact D_dFnS
@[simp ↓] theorem I_dFnS : WI (dFnS F dr s) (K := ⟨Q⟩) = WI (dr s) (K := ⟨(fun ps s1 => WI (F ps s1.mu) (K := ⟨(fun v mu => Q v ⟨s1.env, mu⟩)⟩))⟩) := W_dFnS
theorem D_fnS {ps : List PV} : WD (fnS F ps s) Q = WD (F ps s.mu) (fun v mu => Q v ⟨s.env, mu⟩) := by
  show WD (match F ps s.mu with | .ok v mu => _ | .exn e mu => _ | .bad => _) Q = _
  cases F ps s.mu <;> rfl
theorem W_fnS {ps : List PV} : W (fnS F ps s) Q = W (F ps s.mu) (fun v mu => Q v ⟨s.env, mu⟩) := by
  simp only [W, WI_iff]
  exact D_fnS
@[simp ↓] theorem I_fnS {ps : List PV} : WI (fnS F ps s) (K := ⟨Q⟩) = WI (F ps s.mu) (K := ⟨(fun v mu => Q v ⟨s.env, mu⟩)⟩) := W_fnS
theorem D_fMt {ps : List PV} : WD (fMt n F ps s) Q = (ps.length = n ∧ WD (F ps s.mu) (fun v mu => Q v ⟨s.env, mu⟩)) := by
  show WD (if ps.length = n then fnS F ps s else .bad) Q = _
  by_cases h : ps.length = n
  · rw [if_pos h, D_fnS]; simp [h]
  · rw [if_neg h]; simp [h]
theorem W_fMt {ps : List PV} : W (fMt n F ps s) Q = (ps.length = n ∧ W (F ps s.mu) (fun v mu => Q v ⟨s.env, mu⟩)) := by
  simp only [W, WI_iff]
  exact D_fMt
@[simp ↓] theorem I_fMt {ps : List PV} : WI (fMt n F ps s) (K := ⟨Q⟩) = (ps.length = n ∧ WI (F ps s.mu) (K := ⟨(fun v mu => Q v ⟨s.env, mu⟩)⟩)) := W_fMt
theorem D_fCm {ps : List PV} {C : PySem.Addr} : WD (fCm n C F ps s) Q = (ps.length + 1 = n ∧ WD (F (.adr C :: ps) s.mu) (fun v mu => Q v ⟨s.env, mu⟩)) := by
  show WD (if ps.length + 1 = n then fnS F (.adr C :: ps) s else .bad) Q = _
  by_cases h : ps.length + 1 = n
  · rw [if_pos h, D_fnS]; simp [h]
  · rw [if_neg h]; simp [h]
theorem W_fCm {ps : List PV} {C : PySem.Addr} : W (fCm n C F ps s) Q = (ps.length + 1 = n ∧ W (F (.adr C :: ps) s.mu) (fun v mu => Q v ⟨s.env, mu⟩)) := by
  simp only [W, WI_iff]
  exact D_fCm
@[simp ↓] theorem I_fCm {ps : List PV} {C : PySem.Addr} : WI (fCm n C F ps s) (K := ⟨Q⟩) = (ps.length + 1 = n ∧ WI (F (.adr C :: ps) s.mu) (K := ⟨(fun v mu => Q v ⟨s.env, mu⟩)⟩)) := W_fCm
theorem D_dTup : WD (dTup dr s) Q = WD (dr s) (fun xs s1 => xs.length ≤ 1000 ∧ Q (.tup xs) s1) := by
  show WD ((dr s).bind _) Q = _
  rw [D_bind]
  congr 1
  funext xs s1
  by_cases h : xs.length ≤ 1000 <;> simp [h]
theorem W_dTup : W (dTup dr s) Q = W (dr s) (fun xs s1 => xs.length ≤ 1000 ∧ Q (.tup xs) s1) := by
  simp only [W, WI_iff]
  exact D_dTup
@[simp ↓] theorem I_dTup : WI (dTup dr s) (K := ⟨Q⟩) = WI (dr s) (K := ⟨(fun xs s1 => xs.length ≤ 1000 ∧ Q (.tup xs) s1)⟩) := W_dTup
theorem D_dLst : WD (dLst dr s) Q = WD (dr s) (fun xs s1 => xs.length ≤ 1000 ∧ Q (.lst xs) s1) := by
  show WD ((dr s).bind _) Q = _
  rw [D_bind]
  congr 1
  funext xs s1
  by_cases h : xs.length ≤ 1000 <;> simp [h]
theorem W_dLst : W (dLst dr s) Q = W (dr s) (fun xs s1 => xs.length ≤ 1000 ∧ Q (.lst xs) s1) := by
  simp only [W, WI_iff]
  exact D_dLst
@[simp ↓] theorem I_dLst : WI (dLst dr s) (K := ⟨Q⟩) = WI (dr s) (K := ⟨(fun xs s1 => xs.length ≤ 1000 ∧ Q (.lst xs) s1)⟩) := W_dLst
theorem D_dLstF {B : List PV → S → Prop} : WD (dLstF dr s) B = WD (dr s) (fun xs s1 => xs.length ≤ 1000 ∧ B xs s1) := by
  show WD ((dr s).bind _) B = _
  rw [D_bind]
  congr 1
  funext xs s1
  by_cases h : xs.length ≤ 1000 <;> simp [h]
theorem W_dLstF {B : List PV → S → Prop} : W (dLstF dr s) B = W (dr s) (fun xs s1 => xs.length ≤ 1000 ∧ B xs s1) := by
  simp only [W, WI_iff]
  exact D_dLstF
@[simp ↓] theorem I_dLstF {B : List PV → S → Prop} : WI (dLstF dr s) (K := ⟨B⟩) = WI (dr s) (K := ⟨(fun xs s1 => xs.length ≤ 1000 ∧ B xs s1)⟩) := W_dLstF
theorem D_dFr : WD (dFr dl s) Q = WD (dl s) (fun xs s1 => Q (.lst xs) s1) := D_bind
theorem W_dFr : W (dFr dl s) Q = W (dl s) (fun xs s1 => Q (.lst xs) s1) := by
  simp only [W, WI_iff]
  exact D_dFr
@[simp ↓] theorem I_dFr : WI (dFr dl s) (K := ⟨Q⟩) = WI (dl s) (K := ⟨(fun xs s1 => Q (.lst xs) s1)⟩) := W_dFr
theorem D_dTru : WD (dTru da s) T = WD (da s) (fun v s1 => match truP v with | some b => T b s1 | none => False) := by
  show WD ((da s).bind _) T = _
  rw [D_bind]
  congr 1
  funext v s1
  cases truP v <;> rfl
theorem W_dTru : W (dTru da s) T = W (da s) (fun v s1 => match truP v with | some b => T b s1 | none => False) := by
  simp only [W, WI_iff]
  exact D_dTru
@[simp ↓] theorem I_dTru : WI (dTru da s) (K := ⟨T⟩) = WI (da s) (K := ⟨(fun v s1 => match truP v with | some b => T b s1 | none => False)⟩) := W_dTru
theorem D_dAndT : WD (dAndT ta tb s) T = WD (ta s) (fun x s1 => if x = true then WD (tb s1) T else T false s1) := by
  show WD ((ta s).bind _) T = _
  rw [D_bind]
  congr 1
  funext f s1
  cases f <;> simp
theorem W_dAndT : W (dAndT ta tb s) T = W (ta s) (fun x s1 => if x = true then W (tb s1) T else T false s1) := by
  simp only [W, WI_iff]
  exact D_dAndT
@[simp ↓] theorem I_dAndT : WI (dAndT ta tb s) (K := ⟨T⟩) = WI (ta s) (K := ⟨(fun x s1 => if x = true then WI (tb s1) (K := ⟨T⟩) else T false s1)⟩) := W_dAndT
theorem D_dOrT : WD (dOrT ta tb s) T = WD (ta s) (fun x s1 => if x = true then T true s1 else WD (tb s1) T) := by
  show WD ((ta s).bind _) T = _
  rw [D_bind]
  congr 1
  funext f s1
  cases f <;> simp
theorem W_dOrT : W (dOrT ta tb s) T = W (ta s) (fun x s1 => if x = true then T true s1 else W (tb s1) T) := by
  simp only [W, WI_iff]
  exact D_dOrT
@[simp ↓] theorem I_dOrT : WI (dOrT ta tb s) (K := ⟨T⟩) = WI (ta s) (K := ⟨(fun x s1 => if x = true then T true s1 else WI (tb s1) (K := ⟨T⟩))⟩) := W_dOrT
theorem D_dNotT : WD (dNotT ta s) T = WD (ta s) (fun x s1 => T (!x) s1) := D_bind
theorem W_dNotT : W (dNotT ta s) T = W (ta s) (fun x s1 => T (!x) s1) := by
  simp only [W, WI_iff]
  exact D_dNotT
@[simp ↓] theorem I_dNotT : WI (dNotT ta s) (K := ⟨T⟩) = WI (ta s) (K := ⟨(fun x s1 => T (!x) s1)⟩) := W_dNotT
theorem D_dAnd : WD (dAnd da db s) Q = WD (da s) (fun x s1 => match x with | .bl true => WD (db s1) Q | .bl false => Q (.bl false) s1 | _ => False) := by
  show WD ((da s).bind _) Q = _
  rw [D_bind]
  congr 1
  funext x s1
  cases x <;> first | rfl | (rename_i b; cases b <;> rfl)
theorem W_dAnd : W (dAnd da db s) Q = W (da s) (fun x s1 => match x with | .bl true => W (db s1) Q | .bl false => Q (.bl false) s1 | _ => False) := by
  simp only [W, WI_iff]
  exact D_dAnd
@[simp ↓] theorem I_dAnd : WI (dAnd da db s) (K := ⟨Q⟩) = WI (da s) (K := ⟨(fun x s1 => match x with | .bl true => WI (db s1) (K := ⟨Q⟩) | .bl false => Q (.bl false) s1 | _ => False)⟩) := W_dAnd
theorem D_dOr : WD (dOr da db s) Q = WD (da s) (fun x s1 => match x with | .bl true => Q (.bl true) s1 | .bl false => WD (db s1) Q | _ => False) := by
  show WD ((da s).bind _) Q = _
  rw [D_bind]
  congr 1
  funext x s1
  cases x <;> first | rfl | (rename_i b; cases b <;> rfl)
theorem W_dOr : W (dOr da db s) Q = W (da s) (fun x s1 => match x with | .bl true => Q (.bl true) s1 | .bl false => W (db s1) Q | _ => False) := by
  simp only [W, WI_iff]
  exact D_dOr
@[simp ↓] theorem I_dOr : WI (dOr da db s) (K := ⟨Q⟩) = WI (da s) (K := ⟨(fun x s1 => match x with | .bl true => Q (.bl true) s1 | .bl false => WI (db s1) (K := ⟨Q⟩) | _ => False)⟩) := W_dOr
theorem D_dNot : WD (dNot da s) Q = WD (da s) (fun x s1 => match x with | .bl b => Q (.bl (!b)) s1 | _ => False) := by
  show WD ((da s).bind _) Q = _
  rw [D_bind]
  congr 1
  funext x s1
  cases x <;> rfl
theorem W_dNot : W (dNot da s) Q = W (da s) (fun x s1 => match x with | .bl b => Q (.bl (!b)) s1 | _ => False) := by
  simp only [W, WI_iff]
  exact D_dNot
@[simp ↓] theorem I_dNot : WI (dNot da s) (K := ⟨Q⟩) = WI (da s) (K := ⟨(fun x s1 => match x with | .bl b => Q (.bl (!b)) s1 | _ => False)⟩) := W_dNot
theorem D_dChain : WD (dChain f f' da db dc s) Q = WD (da s) (fun x s1 => WD (db s1) fun y s2 => WD (f x y s2) fun z s3 => match z with | .bl true => WD (dc s3) (fun w s4 => WD (f' y w s4) Q) | .bl false => Q (.bl false) s3 | _ => False) := by
  show WD ((da s).bind _) Q = _
  rw [D_bind]
  congr 1
  funext x s1
  rw [D_bind]
  congr 1
  funext y s2
  rw [D_bind]
  congr 1
  funext z s3
  cases z <;> first | rfl | (rename_i b; cases b <;> first | rfl | exact D_bind)
theorem W_dChain : W (dChain f f' da db dc s) Q = W (da s) (fun x s1 => W (db s1) fun y s2 => W (f x y s2) fun z s3 => match z with | .bl true => W (dc s3) (fun w s4 => W (f' y w s4) Q) | .bl false => Q (.bl false) s3 | _ => False) := by
  simp only [W, WI_iff]
  exact D_dChain
@[simp ↓] theorem I_dChain : WI (dChain f f' da db dc s) (K := ⟨Q⟩) = WI (da s) (K := ⟨(fun x s1 => WI (db s1) (K := ⟨fun y s2 => WI (f x y s2) (K := ⟨fun z s3 => match z with | .bl true => WI (dc s3) (K := ⟨(fun w s4 => WI (f' y w s4) (K := ⟨Q⟩))⟩) | .bl false => Q (.bl false) s3 | _ => False⟩)⟩))⟩) := W_dChain
theorem D_dPar {js : List Nat} : WD (dPar js dr s) P = WD (dr s) (fun vs s1 => match setP js vs s1 with | some s2 => P .nx s2 | none => False) := by
  show WD ((dr s).bind _) P = _
  rw [D_bind]
  congr 1
  funext v s1
  cases setP js v s1 <;> rfl
theorem W_dPar {js : List Nat} : W (dPar js dr s) P = W (dr s) (fun vs s1 => match setP js vs s1 with | some s2 => P .nx s2 | none => False) := by
  simp only [W, WI_iff]
  exact D_dPar
@[simp ↓] theorem I_dPar {js : List Nat} : WI (dPar js dr s) (K := ⟨P⟩) = WI (dr s) (K := ⟨(fun vs s1 => match setP js vs s1 with | some s2 => P .nx s2 | none => False)⟩) := W_dPar
theorem D_dAsgX {js : List Nat} {dx : DX} : WD (dAsgX js dx s) P = WD (dx s) (fun vs s1 => match setX js vs s1 with | some s2 => P .nx s2 | none => False) := by
  show WD ((dx s).bind _) P = _
  rw [D_bind]
  congr 1
  funext v s1
  cases setX js v s1 <;> rfl
theorem W_dAsgX {js : List Nat} {dx : DX} : W (dAsgX js dx s) P = W (dx s) (fun vs s1 => match setX js vs s1 with | some s2 => P .nx s2 | none => False) := by
  simp only [W, WI_iff]
  exact D_dAsgX
@[simp ↓] theorem I_dAsgX {js : List Nat} {dx : DX} : WI (dAsgX js dx s) (K := ⟨P⟩) = WI (dx s) (K := ⟨(fun vs s1 => match setX js vs s1 with | some s2 => P .nx s2 | none => False)⟩) := W_dAsgX
theorem D_xVal {dx : DX} {B : List SV → S → Prop} : WD (xVal da dx s) B = WD (da s) (fun v s1 => WD (dx s1) fun vs s2 => B (.val v :: vs) s2) := by
  show WD ((da s).bind _) B = _
  rw [D_bind]
  congr 1
  funext x s1
  exact D_bind
theorem W_xVal {dx : DX} {B : List SV → S → Prop} : W (xVal da dx s) B = W (da s) (fun v s1 => W (dx s1) fun vs s2 => B (.val v :: vs) s2) := by
  simp only [W, WI_iff]
  exact D_xVal
@[simp ↓] theorem I_xVal {dx : DX} {B : List SV → S → Prop} : WI (xVal da dx s) (K := ⟨B⟩) = WI (da s) (K := ⟨(fun v s1 => WI (dx s1) (K := ⟨fun vs s2 => B (.val v :: vs) s2⟩))⟩) := W_xVal
theorem D_xOwn {dx : DX} {B : List SV → S → Prop} : WD (xOwn dl dx s) B = WD (dl s) (fun v s1 => WD (dx s1) fun vs s2 => B (.own v :: vs) s2) := by
  show WD ((dl s).bind _) B = _
  rw [D_bind]
  congr 1
  funext x s1
  exact D_bind
theorem W_xOwn {dx : DX} {B : List SV → S → Prop} : W (xOwn dl dx s) B = W (dl s) (fun v s1 => W (dx s1) fun vs s2 => B (.own v :: vs) s2) := by
  simp only [W, WI_iff]
  exact D_xOwn
@[simp ↓] theorem I_xOwn {dx : DX} {B : List SV → S → Prop} : WI (xOwn dl dx s) (K := ⟨B⟩) = WI (dl s) (K := ⟨(fun v s1 => WI (dx s1) (K := ⟨fun vs s2 => B (.own v :: vs) s2⟩))⟩) := W_xOwn
theorem D_tgt {b : Type} {r : R S Unit} {k : S → R S b} {B : b → S → Prop} : WD (tgt r k) B = WD r (fun _ s1 => WD (k s1) B) := by
  cases r <;> rfl
theorem W_tgt {b : Type} {r : R S Unit} {k : S → R S b} {B : b → S → Prop} : W (tgt r k) B = W r (fun _ s1 => W (k s1) B) := by
  simp only [W, WI_iff]
  exact D_tgt
@[simp ↓] theorem I_tgt {b : Type} {r : R S Unit} {k : S → R S b} {B : b → S → Prop} : WI (tgt r k) (K := ⟨B⟩) = WI r (K := ⟨(fun _ s1 => WI (k s1) (K := ⟨B⟩))⟩) := W_tgt
theorem D_dAsg : WD (dAsg da tg s) P = WD (da s) (fun v s1 => WD (tg v s1) fun _ s2 => P .nx s2) := by
  show WD ((da s).bind _) P = _
  rw [D_bind]
  congr 1
  funext v s1
  exact D_tgt
theorem W_dAsg : W (dAsg da tg s) P = W (da s) (fun v s1 => W (tg v s1) fun _ s2 => P .nx s2) := by
  simp only [W, WI_iff]
  exact D_dAsg
@[simp ↓] theorem I_dAsg : WI (dAsg da tg s) (K := ⟨P⟩) = WI (da s) (K := ⟨(fun v s1 => WI (tg v s1) (K := ⟨fun _ s2 => P .nx s2⟩))⟩) := W_dAsg
theorem D_dFor : WD (dFor di tg ds s) P = WD (di s) (fun xs s1 => WD (forL tg ds xs s1) P) := D_bind
theorem W_dFor : W (dFor di tg ds s) P = W (di s) (fun xs s1 => W (forL tg ds xs s1) P) := by
  simp only [W, WI_iff]
  exact D_dFor
@[simp ↓] theorem I_dFor : WI (dFor di tg ds s) (K := ⟨P⟩) = WI (di s) (K := ⟨(fun xs s1 => WI (forL tg ds xs s1) (K := ⟨P⟩))⟩) := W_dFor
theorem D_dFrz {is : List Nat} : WD (dFrz is ds s) P = WD (ds (frozS is s)) P := rfl
theorem W_dFrz {is : List Nat} : W (dFrz is ds s) P = W (ds (frozS is s)) P := by
  simp only [W, WI_iff]
  exact D_dFrz
@[simp ↓] theorem I_dFrz {is : List Nat} : WI (dFrz is ds s) (K := ⟨P⟩) = WI (ds (frozS is s)) (K := ⟨P⟩) := W_dFrz
theorem D_dOwn : WD (dOwn i dl s) P = WD (dl s) (fun xs s1 => P .nx (setO i xs s1)) := D_bind
theorem W_dOwn : W (dOwn i dl s) P = W (dl s) (fun xs s1 => P .nx (setO i xs s1)) := by
  simp only [W, WI_iff]
  exact D_dOwn
@[simp ↓] theorem I_dOwn : WI (dOwn i dl s) (K := ⟨P⟩) = WI (dl s) (K := ⟨(fun xs s1 => P .nx (setO i xs s1))⟩) := W_dOwn
theorem D_dNewF : WD (dNewF dl s) Q = WD (dl s) (fun xs s1 => Q (.ptr s1.mu.length) ⟨s1.env, s1.mu ++ [.lst xs]⟩) := D_bind
theorem W_dNewF : W (dNewF dl s) Q = W (dl s) (fun xs s1 => Q (.ptr s1.mu.length) ⟨s1.env, s1.mu ++ [.lst xs]⟩) := by
  simp only [W, WI_iff]
  exact D_dNewF
@[simp ↓] theorem I_dNewF : WI (dNewF dl s) (K := ⟨Q⟩) = WI (dl s) (K := ⟨(fun xs s1 => Q (.ptr s1.mu.length) ⟨s1.env, s1.mu ++ [.lst xs]⟩)⟩) := W_dNewF
theorem D_dBor {is : List Nat} : WD (dBor is da s) Q = (ownIn is s.env = true ∧ WD (da (frozS is s)) (fun v s1 => flatP v = true ∧ flatMs s1.mu = true ∧ Q v ⟨s.env, s1.mu⟩)) := by
  show WD (if ownIn is s.env = true then _ else _) Q = _
  by_cases h : ownIn is s.env = true
  · rw [if_pos h]
    cases da (frozS is s) with
    | ok v t =>
      show WD (if flatP v = true ∧ flatMs t.mu = true then _ else _) Q = _
      by_cases h2 : flatP v = true ∧ flatMs t.mu = true
      · rw [if_pos h2]; simp [h, h2]
      · rw [if_neg h2]
        simp only [D_bad, D_ok, h, true_and, eq_iff_iff, false_iff]
        exact fun z => h2 ⟨z.1, z.2.1⟩
    | _ => simp
  · rw [if_neg h]; simp [h]
theorem W_dBor {is : List Nat} : W (dBor is da s) Q = (ownIn is s.env = true ∧ W (da (frozS is s)) (fun v s1 => flatP v = true ∧ flatMs s1.mu = true ∧ Q v ⟨s.env, s1.mu⟩)) := by
  simp only [W, WI_iff]
  exact D_dBor
@[simp ↓] theorem I_dBor {is : List Nat} : WI (dBor is da s) (K := ⟨Q⟩) = (ownIn is s.env = true ∧ WI (da (frozS is s)) (K := ⟨(fun v s1 => flatP v = true ∧ flatMs s1.mu = true ∧ Q v ⟨s.env, s1.mu⟩)⟩)) := W_dBor
theorem D_dBorT {is : List Nat} : WD (dBorT is ta s) T = (ownIn is s.env = true ∧ WD (ta (frozS is s)) (fun v s1 => flatMs s1.mu = true ∧ T v ⟨s.env, s1.mu⟩)) := by
  show WD (if ownIn is s.env = true then _ else _) T = _
  by_cases h : ownIn is s.env = true
  · rw [if_pos h]
    cases ta (frozS is s) with
    | ok v t =>
      show WD (if flatMs t.mu = true then _ else _) T = _
      by_cases h2 : flatMs t.mu = true
      · rw [if_pos h2]; simp [h, h2]
      · rw [if_neg h2]
        simp only [D_bad, D_ok, h, true_and, eq_iff_iff, false_iff]
        exact fun z => h2 z.1
    | _ => simp
  · rw [if_neg h]; simp [h]
theorem W_dBorT {is : List Nat} : W (dBorT is ta s) T = (ownIn is s.env = true ∧ W (ta (frozS is s)) (fun v s1 => flatMs s1.mu = true ∧ T v ⟨s.env, s1.mu⟩)) := by
  simp only [W, WI_iff]
  exact D_dBorT
@[simp ↓] theorem I_dBorT {is : List Nat} : WI (dBorT is ta s) (K := ⟨T⟩) = (ownIn is s.env = true ∧ WI (ta (frozS is s)) (K := ⟨(fun v s1 => flatMs s1.mu = true ∧ T v ⟨s.env, s1.mu⟩)⟩)) := W_dBorT
theorem D_dApp {Q : PV → S → Prop} : WD (dApp i da s) Q = ((lstAt i s).isSome = true ∧ WD (da s) (fun v s1 => match lstAt i s1 with | some (xs, k) => xs.length < 16777216 ∧ Q .non (k (xs ++ [v])) | none => False)) := by
  show WD (match lstAt i s with | some _ => _ | none => _) Q = _
  cases e : lstAt i s with
  | none => simp
  | some z =>
    rw [D_bind]
    simp only [Option.isSome_some, true_and]
    congr 1
    funext v s1
    cases lstAt i s1 with
    | none => rfl
    | some y =>
      obtain ⟨xs, k⟩ := y
      show WD (if xs.length < 16777216 then _ else _) Q = _
      by_cases h : xs.length < 16777216 <;> simp [h]
theorem W_dApp {Q : PV → S → Prop} : W (dApp i da s) Q = ((lstAt i s).isSome = true ∧ W (da s) (fun v s1 => match lstAt i s1 with | some (xs, k) => xs.length < 16777216 ∧ Q .non (k (xs ++ [v])) | none => False)) := by
  simp only [W, WI_iff]
  exact D_dApp
@[simp ↓] theorem I_dApp {Q : PV → S → Prop} : WI (dApp i da s) (K := ⟨Q⟩) = ((lstAt i s).isSome = true ∧ WI (da s) (K := ⟨(fun v s1 => match lstAt i s1 with | some (xs, k) => xs.length < 16777216 ∧ Q .non (k (xs ++ [v])) | none => False)⟩)) := W_dApp
theorem D_dSlice {lo hi : DO} : WD (dSlice da lo hi s) Q = WD (da s) (fun v s1 => WD (lo s1) fun a s2 => WD (hi s2) fun b s3 => WD (fCut v a b s3) Q) := by
  show WD ((da s).bind _) Q = _
  rw [D_bind]
  congr 1
  funext x s1
  rw [D_bind]
  congr 1
  funext y s2
  exact D_bind
theorem W_dSlice {lo hi : DO} : W (dSlice da lo hi s) Q = W (da s) (fun v s1 => W (lo s1) fun a s2 => W (hi s2) fun b s3 => W (fCut v a b s3) Q) := by
  simp only [W, WI_iff]
  exact D_dSlice
@[simp ↓] theorem I_dSlice {lo hi : DO} : WI (dSlice da lo hi s) (K := ⟨Q⟩) = WI (da s) (K := ⟨(fun v s1 => WI (lo s1) (K := ⟨fun a s2 => WI (hi s2) (K := ⟨fun b s3 => WI (fCut v a b s3) (K := ⟨Q⟩)⟩)⟩))⟩) := W_dSlice
theorem D_dSome {B : Option Int → S → Prop} : WD (dSome da s) B = WD (da s) (fun v s1 => match v with | .int i => B (some i) s1 | _ => False) := by
  show WD ((da s).bind _) B = _
  rw [D_bind]
  congr 1
  funext v s1
  cases v <;> rfl
theorem W_dSome {B : Option Int → S → Prop} : W (dSome da s) B = W (da s) (fun v s1 => match v with | .int i => B (some i) s1 | _ => False) := by
  simp only [W, WI_iff]
  exact D_dSome
@[simp ↓] theorem I_dSome {B : Option Int → S → Prop} : WI (dSome da s) (K := ⟨B⟩) = WI (da s) (K := ⟨(fun v s1 => match v with | .int i => B (some i) s1 | _ => False)⟩) := W_dSome
theorem D_dComp {B : List PV → S → Prop} {vs : List Nat} : WD (dComp di tg ta da vs s) B = WD (di s) (fun xs s1 => WD (compL tg ta da vs xs [] (wipeS vs s1)) B) := D_bind
theorem W_dComp {B : List PV → S → Prop} {vs : List Nat} : W (dComp di tg ta da vs s) B = W (di s) (fun xs s1 => W (compL tg ta da vs xs [] (wipeS vs s1)) B) := by
  simp only [W, WI_iff]
  exact D_dComp
@[simp ↓] theorem I_dComp {B : List PV → S → Prop} {vs : List Nat} : WI (dComp di tg ta da vs s) (K := ⟨B⟩) = WI (di s) (K := ⟨(fun xs s1 => WI (compL tg ta da vs xs [] (wipeS vs s1)) (K := ⟨B⟩))⟩) := W_dComp
theorem D_dMethR : WD (dMethR fn da dr s) Q = WD (da s) (fun p s1 => match p with | .rat q => WD (dr s1) (fun xs s2 => WD (fn (.rat q :: xs) s2) Q) | _ => False) := by
  show WD ((da s).bind _) Q = _
  rw [D_bind]
  congr 1
  funext p s1
  cases p <;> first | rfl | exact D_bind
theorem W_dMethR : W (dMethR fn da dr s) Q = W (da s) (fun p s1 => match p with | .rat q => W (dr s1) (fun xs s2 => W (fn (.rat q :: xs) s2) Q) | _ => False) := by
  simp only [W, WI_iff]
  exact D_dMethR
@[simp ↓] theorem I_dMethR : WI (dMethR fn da dr s) (K := ⟨Q⟩) = WI (da s) (K := ⟨(fun p s1 => match p with | .rat q => WI (dr s1) (K := ⟨(fun xs s2 => WI (fn (.rat q :: xs) s2) (K := ⟨Q⟩))⟩) | _ => False)⟩) := W_dMethR
theorem D_iSeq {B : List PV → S → Prop} : WD (iSeq da s) B = WD (da s) (fun v s1 => match v with | .lst xs => B xs s1 | .tup xs => B xs s1 | .frz xs => B xs s1 | _ => False) := by
  show WD ((da s).bind _) B = _
  rw [D_bind]
  congr 1
  funext v s1
  cases v <;> rfl
theorem W_iSeq {B : List PV → S → Prop} : W (iSeq da s) B = W (da s) (fun v s1 => match v with | .lst xs => B xs s1 | .tup xs => B xs s1 | .frz xs => B xs s1 | _ => False) := by
  simp only [W, WI_iff]
  exact D_iSeq
@[simp ↓] theorem I_iSeq {B : List PV → S → Prop} : WI (iSeq da s) (K := ⟨B⟩) = WI (da s) (K := ⟨(fun v s1 => match v with | .lst xs => B xs s1 | .tup xs => B xs s1 | .frz xs => B xs s1 | _ => False)⟩) := W_iSeq
theorem D_iRange1 {B : List PV → S → Prop} : WD (iRange1 dr s) B = WD (dr s) (fun vs s1 => match vs with | [.int j] => (-(2 ^ 62) ≤ j ∧ j < 2 ^ 62) ∧ B (rangeP 0 j.toNat) s1 | _ => False) := by
  show WD ((dr s).bind _) B = _
  rw [D_bind]
  congr 1
  funext vs s1
  split
  · rename_i j
    by_cases h : -(2 ^ 62) ≤ j ∧ j < 2 ^ 62
    · rw [if_pos h]; simp only [h, true_and, D_ok, and_self]
    · rw [if_neg h]; simp only [h, false_and, D_bad]
  · first | (split <;> simp_all) | simp_all | simp
theorem W_iRange1 {B : List PV → S → Prop} : W (iRange1 dr s) B = W (dr s) (fun vs s1 => match vs with | [.int j] => (-(2 ^ 62) ≤ j ∧ j < 2 ^ 62) ∧ B (rangeP 0 j.toNat) s1 | _ => False) := by
  simp only [W, WI_iff]
  exact D_iRange1
@[simp ↓] theorem I_iRange1 {B : List PV → S → Prop} : WI (iRange1 dr s) (K := ⟨B⟩) = WI (dr s) (K := ⟨(fun vs s1 => match vs with | [.int j] => (-(2 ^ 62) ≤ j ∧ j < 2 ^ 62) ∧ B (rangeP 0 j.toNat) s1 | _ => False)⟩) := W_iRange1
theorem D_iRange2 {B : List PV → S → Prop} : WD (iRange2 dr s) B = WD (dr s) (fun vs s1 => match vs with | [.int i, .int j] => (-(2 ^ 62) ≤ i ∧ i < 2 ^ 62 ∧ -(2 ^ 62) ≤ j ∧ j < 2 ^ 62) ∧ B (rangeP i (j - i).toNat) s1 | _ => False) := by
  show WD ((dr s).bind _) B = _
  rw [D_bind]
  congr 1
  funext vs s1
  split
  · rename_i i j
    by_cases h : -(2 ^ 62) ≤ i ∧ i < 2 ^ 62 ∧ -(2 ^ 62) ≤ j ∧ j < 2 ^ 62
    · rw [if_pos h]; simp only [h, true_and, D_ok, and_self]
    · rw [if_neg h]; simp only [h, false_and, D_bad]
  · first | (split <;> simp_all) | simp_all | simp
theorem W_iRange2 {B : List PV → S → Prop} : W (iRange2 dr s) B = W (dr s) (fun vs s1 => match vs with | [.int i, .int j] => (-(2 ^ 62) ≤ i ∧ i < 2 ^ 62 ∧ -(2 ^ 62) ≤ j ∧ j < 2 ^ 62) ∧ B (rangeP i (j - i).toNat) s1 | _ => False) := by
  simp only [W, WI_iff]
  exact D_iRange2
@[simp ↓] theorem I_iRange2 {B : List PV → S → Prop} : WI (iRange2 dr s) (K := ⟨B⟩) = WI (dr s) (K := ⟨(fun vs s1 => match vs with | [.int i, .int j] => (-(2 ^ 62) ≤ i ∧ i < 2 ^ 62 ∧ -(2 ^ 62) ≤ j ∧ j < 2 ^ 62) ∧ B (rangeP i (j - i).toNat) s1 | _ => False)⟩) := W_iRange2
theorem D_iEnumQ {B : List PV → S → Prop} : WD (iEnumQ dr s) B = WD (dr s) (fun vs s1 => match vs with | [.lst xs] => B (enumP xs) s1 | [.tup xs] => B (enumP xs) s1 | _ => False) := by
  show WD ((dr s).bind _) B = _
  rw [D_bind]
  congr 1
  funext vs s1
  split <;> simp_all
theorem W_iEnumQ {B : List PV → S → Prop} : W (iEnumQ dr s) B = W (dr s) (fun vs s1 => match vs with | [.lst xs] => B (enumP xs) s1 | [.tup xs] => B (enumP xs) s1 | _ => False) := by
  simp only [W, WI_iff]
  exact D_iEnumQ
@[simp ↓] theorem I_iEnumQ {B : List PV → S → Prop} : WI (iEnumQ dr s) (K := ⟨B⟩) = WI (dr s) (K := ⟨(fun vs s1 => match vs with | [.lst xs] => B (enumP xs) s1 | [.tup xs] => B (enumP xs) s1 | _ => False)⟩) := W_iEnumQ
theorem D_iZip {B : List PV → S → Prop} : WD (iZip dr s) B = WD (dr s) (fun vs s1 => match vs with | [.lst xs, .lst ys] => B (zipP xs ys) s1 | [.tup xs, .tup ys] => B (zipP xs ys) s1 | _ => False) := by
  show WD ((dr s).bind _) B = _
  rw [D_bind]
  congr 1
  funext vs s1
  split <;> simp_all
theorem W_iZip {B : List PV → S → Prop} : W (iZip dr s) B = W (dr s) (fun vs s1 => match vs with | [.lst xs, .lst ys] => B (zipP xs ys) s1 | [.tup xs, .tup ys] => B (zipP xs ys) s1 | _ => False) := by
  simp only [W, WI_iff]
  exact D_iZip
@[simp ↓] theorem I_iZip {B : List PV → S → Prop} : WI (iZip dr s) (K := ⟨B⟩) = WI (dr s) (K := ⟨(fun vs s1 => match vs with | [.lst xs, .lst ys] => B (zipP xs ys) s1 | [.tup xs, .tup ys] => B (zipP xs ys) s1 | _ => False)⟩) := W_iZip
theorem D_dListF {B : List PV → S → Prop} : WD (dListF da s) B = WD (da s) (fun p s1 => match asL s1.mu p with | some xs => B xs s1 | none => False) := by
  show WD ((da s).bind _) B = _
  rw [D_bind]
  congr 1
  funext v s1
  cases h : asL s1.mu v <;> simp [h]
theorem W_dListF {B : List PV → S → Prop} : W (dListF da s) B = W (da s) (fun p s1 => match asL s1.mu p with | some xs => B xs s1 | none => False) := by
  simp only [W, WI_iff]
  exact D_dListF
@[simp ↓] theorem I_dListF {B : List PV → S → Prop} : WI (dListF da s) (K := ⟨B⟩) = WI (da s) (K := ⟨(fun p s1 => match asL s1.mu p with | some xs => B xs s1 | none => False)⟩) := W_dListF
theorem D_dWhile {fuel : S → Nat} : WD (dWhile fuel ta ds s) P = WD (whileL ta ds (fuel s) s) P := rfl
theorem W_dWhile {fuel : S → Nat} : W (dWhile fuel ta ds s) P = W (whileL ta ds (fuel s) s) P := by
  simp only [W, WI_iff]
  exact D_dWhile
@[simp ↓] theorem I_dWhile {fuel : S → Nat} : WI (dWhile fuel ta ds s) (K := ⟨P⟩) = WI (whileL ta ds (fuel s) s) (K := ⟨P⟩) := W_dWhile
theorem D_runBody {d : DS} {ps : List PV} {mu : List MO} {B : PV → List MO → Prop} : WD (runBody n d ps mu) B = WD (d ⟨ps.map (fun p => some (.val p)) ++ List.replicate (n - ps.length) none, mu⟩) (fun f s => match f with | .rt v => B v s.mu | .nx => B .non s.mu | _ => False) := by
  unfold runBody
  cases d ⟨ps.map (fun p => some (.val p)) ++ List.replicate (n - ps.length) none, mu⟩ with
  | ok f t => cases f <;> rfl
  | _ => rfl
theorem W_runBody {d : DS} {ps : List PV} {mu : List MO} {B : PV → List MO → Prop} : W (runBody n d ps mu) B = W (d ⟨ps.map (fun p => some (.val p)) ++ List.replicate (n - ps.length) none, mu⟩) (fun f s => match f with | .rt v => B v s.mu | .nx => B .non s.mu | _ => False) := by
  simp only [W, WI_iff]
  exact D_runBody
/-! ### loops -/
theorem D_forL (I : List PV → S → Prop) {xs : List PV} (h0 : I xs s) (hs : ∀ x ys s, I (x :: ys) s → WD (tgt (tg x s) ds) (fun f s' => match f with | .nx => I ys s' | .ct => I ys s' | .bk => P .nx s' | .rt v => P (.rt v) s')) (he : ∀ s, I [] s → P .nx s) : WD (forL tg ds xs s) P := by
  induction xs generalizing s with
  | nil => exact he s h0
  | cons x ys ih =>
    have h := hs x ys s h0
    unfold forL
    rw [D_tgt] at h ⊢
    refine h.mono fun _ s1 h1 => ?_
    rw [D_bind]
    refine h1.mono fun f s2 h2 => ?_
    cases f with
    | nx => exact ih h2
    | ct => exact ih h2
    | bk => exact h2
    | rt v => exact h2
theorem W_forL (I : List PV → S → Prop) {xs : List PV} (h0 : I xs s) (hs : ∀ x ys s, I (x :: ys) s → W (tgt (tg x s) ds) (fun f s' => match f with | .nx => I ys s' | .ct => I ys s' | .bk => P .nx s' | .rt v => P (.rt v) s')) (he : ∀ s, I [] s → P .nx s) : W (forL tg ds xs s) P := by
  simp only [W, WI_iff] at hs ⊢
  exact D_forL I h0 hs he
theorem D_compL {B : List PV → S → Prop} {vs : List Nat} (I : List PV → List PV → S → Prop) {xs acc : List PV} (h0 : I xs acc s)
    (hs : ∀ x ys acc s, I (x :: ys) acc s → WD (tgt (tg x s) ta) (fun b s2 => if b = true then WD (da s2) (fun y s3 => acc.length < 16777216 ∧ I ys (acc ++ [y]) (wipeS vs s3)) else I ys acc (wipeS vs s2))) (he : ∀ acc s, I [] acc s → B acc s) : WD (compL tg ta da vs xs acc s) B := by
  induction xs generalizing s acc with
  | nil => exact he acc s h0
  | cons x ys ih =>
    have h := hs x ys acc s h0
    unfold compL
    rw [D_tgt] at h ⊢
    refine h.mono fun _ s1 h1 => ?_
    cases e : ta s1 with
    | ok b s2 =>
      rw [e] at h1
      show WD (match b with | true => _ | false => _) B
      cases b with
      | true =>
        rw [D_ok, if_pos rfl] at h1
        show WD (okB (da s2) _) B
        cases e2 : da s2 with
        | ok y s3 =>
          rw [e2] at h1
          show WD (if acc.length < 16777216 then _ else _) B
          rw [if_pos h1.1]
          exact ih h1.2
        | _ => rw [e2] at h1; exact h1.elim
      | false =>
        rw [D_ok, if_neg (by decide)] at h1
        exact ih h1
    | _ => rw [e] at h1; exact h1.elim
theorem W_compL {B : List PV → S → Prop} {vs : List Nat} (I : List PV → List PV → S → Prop) {xs acc : List PV} (h0 : I xs acc s)
    (hs : ∀ x ys acc s, I (x :: ys) acc s → W (tgt (tg x s) ta) (fun b s2 => if b = true then W (da s2) (fun y s3 => acc.length < 16777216 ∧ I ys (acc ++ [y]) (wipeS vs s3)) else I ys acc (wipeS vs s2))) (he : ∀ acc s, I [] acc s → B acc s) : W (compL tg ta da vs xs acc s) B := by
  simp only [W, WI_iff] at hs ⊢
  exact D_compL I h0 hs he
/-- a comprehension that maps, the state the same behind each element -/
theorem D_compMap {α : Type} {B : List PV → S → Prop} {vs : List Nat} (l : List α) (g f : α → PV) (hl : l.length ≤ 16777216) (h : ∀ a ∈ l, WD (tg (g a) s) fun _ s1 => WD (da s1) fun y s3 => y = f a ∧ wipeS vs s3 = s) (hB : B (l.map f) s) : WD (compL tg dYes da vs (l.map g) [] s) B := by
  refine D_compL (I := fun xs acc s' => s' = s ∧ ∃ l1 l2, l = l1 ++ l2 ∧ xs = l2.map g ∧ acc = l1.map f) ⟨rfl, [], l, rfl, rfl, rfl⟩ ?_ ?_
  · rintro x ys acc s' ⟨rfl, l1, l2, e1, e2, rfl⟩
    cases l2 with
    | nil => cases e2
    | cons a l2 =>
      cases e2
      have h1 := h a (by rw [e1]; simp)
      rw [D_tgt]
      refine h1.mono fun _ s1 h2 => ?_
      show WD (R.ok true s1) _
      rw [D_ok, if_pos rfl]
      refine h2.mono fun y s3 h3 => ?_
      rw [h3.1]
      refine ⟨by rw [List.length_map]; rw [e1, List.length_append, List.length_cons] at hl; omega, h3.2, l1 ++ [a], l2, by rw [e1]; simp, rfl, by simp⟩
  · rintro acc s' ⟨rfl, l1, l2, e1, e2, rfl⟩
    cases l2 with
    | nil => rw [e1, List.append_nil] at hB; exact hB
    | cons a l2 => cases e2
theorem W_compMap {α : Type} {B : List PV → S → Prop} {vs : List Nat} (l : List α) (g f : α → PV) (hl : l.length ≤ 16777216) (h : ∀ a ∈ l, W (tg (g a) s) fun _ s1 => W (da s1) fun y s3 => y = f a ∧ wipeS vs s3 = s) (hB : B (l.map f) s) : W (compL tg dYes da vs (l.map g) [] s) B := by
  simp only [W, WI_iff] at h ⊢
  exact D_compMap l g f hl h hB
theorem D_whileL (I : Nat → S → Prop) {n : Nat} (h0 : I n s) (hs : ∀ n s, I (n + 1) s → WD (ta s) (fun k s1 => if k = true then WD (ds s1) (fun f s2 => match f with | .nx => I n s2 | .ct => I n s2 | .bk => P .nx s2 | .rt v => P (.rt v) s2) else P .nx s1)) (hz : ∀ s, ¬ I 0 s) : WD (whileL ta ds n s) P := by
  induction n generalizing s with
  | zero => exact (hz s h0).elim
  | succ n ih =>
    have h := hs n s h0
    unfold whileL
    rw [D_bind]
    refine h.mono fun k s1 h1 => ?_
    cases k with
    | false => rw [if_neg (by decide)] at h1; exact h1
    | true =>
      rw [if_pos rfl] at h1
      show WD ((ds s1).bind _) P
      rw [D_bind]
      refine h1.mono fun f s2 h2 => ?_
      cases f with
      | nx => exact ih h2
      | ct => exact ih h2
      | bk => exact h2
      | rt v => exact h2
theorem W_whileL (I : Nat → S → Prop) {n : Nat} (h0 : I n s) (hs : ∀ n s, I (n + 1) s → W (ta s) (fun k s1 => if k = true then W (ds s1) (fun f s2 => match f with | .nx => I n s2 | .ct => I n s2 | .bk => P .nx s2 | .rt v => P (.rt v) s2) else P .nx s1)) (hz : ∀ s, ¬ I 0 s) : W (whileL ta ds n s) P := by
  simp only [W, WI_iff] at hs ⊢
  exact D_whileL I h0 hs hz
end
end L3

namespace LD
open PySem L3
/-- slots: _law_one, _law_other -/
def d_w_minus : DS := (dRet (dFnS F_w_low (dCons (dBin gSub (dBin gMul (dBin fIx (dVar 0) (dC (.int 0))) (dBin fIx (dVar 1) (dC (.int 1)))) (dBin gMul (dBin fIx (dVar 1) (dC (.int 0))) (dBin fIx (dVar 0) (dC (.int 1))))) (dCons (dBin gMul (dBin fIx (dVar 0) (dC (.int 1))) (dBin fIx (dVar 1) (dC (.int 1)))) dNil))))
def F_w_minus : DF := runBody 2 d_w_minus
/-- slots: _law_one, _law_other -/
def d_w_times : DS := (dRet (dFnS F_w_low (dCons (dBin gMul (dBin fIx (dVar 0) (dC (.int 0))) (dBin fIx (dVar 1) (dC (.int 0)))) (dCons (dBin gMul (dBin fIx (dVar 0) (dC (.int 1))) (dBin fIx (dVar 1) (dC (.int 1)))) dNil))))
def F_w_times : DF := runBody 2 d_w_times
def b_w_power_1 : DS := (dSet 2 (dFnS F_w_times (dCons (dVar 2) (dCons (dVar 0) dNil))))
/-- slots: _law_one, _law_by, _law_found, _law_turn -/
def d_w_power : DS := (dSeq (dSet 2 (dTup (dCons (dC (.int 1)) (dCons (dC (.int 1)) dNil)))) (dSeq (dFor (iRange1 (dCons (dVar 1) dNil)) (gN 3) b_w_power_1) (dRet (dVar 2))))
def F_w_power : DF := runBody 4 d_w_power
def e_w_central_1 : DE := (dFnS F_w_power (dCons (dFnS F_w_minus (dCons (dVar 3) (dCons (dVar 2) dNil))) (dCons (dVar 1) dNil)))
/-- slots: _law_some, _law_by, _law_mid, _law_one -/
def d_w_central : DS := (dSeq (dSet 2 (dFnS F_w_mean (dCons (dVar 0) dNil))) (dRet (dFnS F_w_sum (dCons (dFr (dComp (iSeq (dVar 0)) (gN 3) dYes e_w_central_1 [3])) dNil))))
def F_w_central : DF := runBody 4 d_w_central
/-- slots: self, other, far -/
def d_Ratio___eq__ : DS := (dSeq (dIfS (dNotT (dTru (dFnS F_is_number (dCons (dVar 1) dNil)))) (dRet (dC (.bl false))) dSkip) (dSeq (dSet 2 (dFnS F_ratio_of (dCons (dVar 1) dNil))) (dRet (dAnd (dBin (gEq false) (dUn fTop (dVar 0)) (dUn fTop (dVar 2))) (dBin (gEq false) (dUn fBot (dVar 0)) (dUn fBot (dVar 2)))))))
def F_Ratio___eq__ : DF := runBody 3 d_Ratio___eq__
/-- slots: self, other, far -/
def d_Ratio___sub__ : DS := (dSeq (dSet 2 (dFnS F_ratio_of (dCons (dVar 1) dNil))) (dRet (dFn (fMakeR okR) (dCons (dBin gSub (dBin gMul (dUn fTop (dVar 0)) (dUn fBot (dVar 2))) (dBin gMul (dUn fTop (dVar 2)) (dUn fBot (dVar 0)))) (dCons (dBin gMul (dUn fBot (dVar 0)) (dUn fBot (dVar 2))) dNil)))))
def F_Ratio___sub__ : DF := runBody 3 d_Ratio___sub__
/-- slots: self, other, far -/
def d_Ratio___mul__ : DS := (dSeq (dSet 2 (dFnS F_ratio_of (dCons (dVar 1) dNil))) (dRet (dFn (fMakeR okR) (dCons (dBin gMul (dUn fTop (dVar 0)) (dUn fTop (dVar 2))) (dCons (dBin gMul (dUn fBot (dVar 0)) (dUn fBot (dVar 2))) dNil)))))
def F_Ratio___mul__ : DF := runBody 3 d_Ratio___mul__
def b_power_of_1 : DS := (dSet 2 (dBin (gRL F_Ratio___mul__ gMul) (dVar 2) (dVar 0)))
/-- slots: value, order, found, turn -/
def d_power_of : DS := (dSeq (dSet 2 (dFn (fMakeR okR) (dCons (dC (.int 1)) dNil))) (dSeq (dFor (iRange1 (dCons (dVar 1) dNil)) (gN 3) b_power_of_1) (dRet (dVar 2))))
def F_power_of : DF := runBody 4 d_power_of
def e_central_total_1 : DE := (dFnS F_power_of (dCons (dBin (gRL F_Ratio___sub__ gSub) (dVar 3) (dVar 2)) (dCons (dVar 1) dNil)))
/-- slots: values, order, center, value -/
def d_central_total : DS := (dSeq (dSet 2 (dFnS F_mean_of (dCons (dVar 0) dNil))) (dRet (dFnS F_total (dCons (dFr (dComp (iSeq (dVar 0)) (gN 3) dYes e_central_total_1 [3])) dNil))))
def F_central_total : DF := runBody 4 d_central_total
/-- slots: sample -/
def d_squares : DS := (dRet (dFnS F_central_total (dCons (dFnS F_need_filled (dCons (dVar 0) dNil)) (dCons (dC (.int 2)) dNil))))
def F_squares : DF := runBody 1 d_squares
/-- slots: value, least, most -/
def d_need_amount : DS := (dIfS (dOrT (dNotT (dTru (dFnS F_is_integer (dCons (dVar 0) dNil)))) (dOrT (dTru (dBin gLt (dVar 0) (dVar 1))) (dAndT (dTru (dBin (fIsN true) (dVar 2) (dC .non))) (dTru (dBin gGt (dVar 0) (dVar 2)))))) (dRaise "BadAmount" "value" (dVar 0)) dSkip)
def F_need_amount : DF := runBody 3 d_need_amount
/-- slots: lost -/
def d_need_lost : DS := (dExpr (dFnS F_need_amount (dCons (dVar 0) (dCons (dC (.int 0)) (dCons (dC (.int 1000)) dNil)))))
def F_need_lost : DF := runBody 1 d_need_lost
/-- slots: many, lost -/
def d_need_more : DS := (dIfS (dTru (dBin gLe (dVar 0) (dVar 1))) (dRaise "TooFew" "needed" (dBin gAdd (dVar 1) (dC (.int 1)))) dSkip)
def F_need_more : DF := runBody 2 d_need_more
/-- slots: values, lost -/
def d_variance_of : DS := (dSeq (dExpr (dFnS F_need_more (dCons (dFn fLen (dCons (dVar 0) dNil)) (dCons (dVar 1) dNil)))) (dRet (dMethR (fMt 2 F_Ratio_over) (dFnS F_central_total (dCons (dVar 0) (dCons (dC (.int 2)) dNil))) (dCons (dBin gSub (dFn fLen (dCons (dVar 0) dNil)) (dVar 1)) dNil))))
def F_variance_of : DF := runBody 2 d_variance_of
/-- slots: sample, lost, values -/
def d_variance : DS := (dSeq (dSet 2 (dFnS F_need_sample (dCons (dVar 0) dNil))) (dSeq (dExpr (dFnS F_need_lost (dCons (dVar 1) dNil))) (dSeq (dExpr (dFnS F_need_items (dCons (dVar 2) dNil))) (dRet (dFnS F_variance_of (dCons (dVar 2) (dCons (dVar 1) dNil)))))))
def F_variance : DF := runBody 3 d_variance
def e_law_k14_1 (CR : Addr) : DE := (dFnS F_w_times (dCons (dVar 10) (dCons (dVar 10) dNil)))
def k_law_k14_2 (CR : Addr) : DS := (dSeq (dPar [8, 9] (dCons (dFnS (F_w_framed CR) (dCons (dVar 3) (dCons (dVar 4) dNil))) (dCons (dFn fLen (dCons (dVar 4) dNil)) dNil))) (dSeq (dSet 5 (dFnS F_w_central (dCons (dVar 4) (dCons (dC (.int 2)) dNil)))) (dSeq (dSet 6 (dFnS F_w_through (dCons (dFnS F_w_power (dCons (dFnS F_w_sum (dCons (dVar 4) dNil)) (dCons (dC (.int 2)) dNil))) (dCons (dTup (dCons (dVar 9) (dCons (dC (.int 1)) dNil))) dNil)))) (dSeq (dIfS (dTru (dBin (gNeR F_Ratio___eq__ (gEq true)) (dVar 5) (dFnS F_w_minus (dCons (dFnS F_w_sum (dCons (dFr (dComp (iSeq (dVar 4)) (gN 10) dYes (e_law_k14_1 CR) [10])) dNil)) (dCons (dVar 6) dNil))))) (dRet (dC (.bl false))) dSkip) (dSeq (dIfS (dOrT (dTru (dBin (gNeR F_Ratio___eq__ (gEq true)) (dFnS F_w_taken (dCons (dFnS F_squares (dCons (dVar 8) dNil)) dNil)) (dVar 5))) (dTru (dBin (gNeR F_Ratio___eq__ (gEq true)) (dFnS F_w_taken (dCons (dFnD F_variance 1 [.int 0] (dCons (dVar 8) dNil)) dNil)) (dFnS F_w_through (dCons (dVar 5) (dCons (dTup (dCons (dVar 9) (dCons (dC (.int 1)) dNil))) dNil)))))) (dRet (dC (.bl false))) dSkip) (dSeq (dSet 7 (dFnS F_w_next (dCons (dVar 3) (dCons (dVar 9) dNil)))) (dSeq (dIfS (dTru (dBin (gNeR F_Ratio___eq__ (gEq true)) (dFnS F_w_taken (dCons (dFnK F_variance 1 1 (fun us zs => us ++ zs) (dCons (dVar 8) dNil) (dCons (dVar 7) dNil)) dNil)) (dFnS F_w_through (dCons (dVar 5) (dCons (dTup (dCons (dBin gSub (dVar 9) (dVar 7)) (dCons (dC (.int 1)) dNil))) dNil))))) (dRet (dC (.bl false))) dSkip) (dIfS (dTru (dBin (gNeR F_Ratio___eq__ (gEq true)) (dFnS F_squares (dCons (dBin gMul (dLst (dCons (dBin fIx (dFnS F_w_given (dCons (dSlice (dVar 4) dNone (dSome (dC (.int 1)))) dNil)) (dC (.int 0))) dNil)) (dBin gAdd (dC (.int 1)) (dVar 7))) dNil)) (dC (.int 0)))) (dRet (dC (.bl false))) dSkip))))))))
def b_law_k14_3 (CR : Addr) : DS := (dSeq (dSet 3 (dFnS F_w_source (dCons (dVar 0) (dCons (dVar 1) dNil)))) (dSeq (dSet 4 (dFnS F_w_filled (dCons (dVar 3) (dCons (dC (.int 12)) dNil)))) (dSeq (dIfS (dTru (dBin (gEq false) (dFnS F_w_next (dCons (dVar 3) (dCons (dC (.int 3)) dNil))) (dC (.int 0)))) (dSet 4 (dBin gAdd (dVar 4) (dLst (dCons (dTup (dCons (dBin gAdd (dBin gPow (dC (.int 10)) (dC (.int 30))) (dFnS F_w_next (dCons (dVar 3) (dCons (dC (.int 9)) dNil)))) (dCons (dC (.int 1)) dNil))) dNil)))) dSkip) (k_law_k14_2 CR))))
/-- slots: _law_script, _law_k, _law_told, _law_source_here, _law_some, _law_due, _law_other, _law_less, _law_sample, _law_many, _law_one -/
def d_law_k14 (CR : Addr) : DS := (dSeq (dFor (iRange1 (dCons (dFn fMax2 (dCons (dC (.int 1)) (dCons (dFn fMin2 (dCons (dC (.int 4)) (dCons (dFn fLen (dCons (dVar 0) dNil)) dNil))) dNil))) dNil)) (gN 1) (b_law_k14_3 CR)) (dSeq (dSet 2 (dLst (dCons (dFnS F_squares (dCons (dLst (dCons (dC (.int 1)) (dCons (dC (.int 2)) (dCons (dC (.int 6)) dNil)))) dNil)) (dCons (dFnD F_variance 1 [.int 0] (dCons (dLst (dCons (dC (.int 1)) (dCons (dC (.int 2)) (dCons (dC (.int 6)) dNil)))) dNil)) (dCons (dFnK F_variance 1 1 (fun us zs => us ++ zs) (dCons (dTup (dCons (dC (.int 1)) (dCons (dC (.int 2)) (dCons (dC (.int 6)) dNil)))) dNil) (dCons (dC (.int 1)) dNil)) dNil))))) (dRet (dBin (gEq false) (dFnS F_w_all_taken (dCons (dVar 2) dNil)) (dLst (dCons (dTup (dCons (dC (.int 14)) (dCons (dC (.int 1)) dNil))) (dCons (dTup (dCons (dC (.int 14)) (dCons (dC (.int 3)) dNil))) (dCons (dTup (dCons (dC (.int 7)) (dCons (dC (.int 1)) dNil))) dNil))))))))
def F_law_k14 (CR : Addr) : DF := runBody 11 (d_law_k14 CR)
end LD

namespace LD
open PySem L3
/-- slots: sample, order, values -/
def d_central_moment : DS := (dSeq (dSet 2 (dFnS F_need_sample (dCons (dVar 0) dNil))) (dSeq (dExpr (dFnS F_need_amount (dCons (dVar 1) (dCons (dC (.int 0)) (dCons (dC (.int 8)) dNil))))) (dSeq (dExpr (dFnS F_need_items (dCons (dVar 2) dNil))) (dRet (dMethR (fMt 2 F_Ratio_over) (dFnS F_central_total (dCons (dVar 2) (dCons (dVar 1) dNil))) (dCons (dFn fLen (dCons (dVar 2) dNil)) dNil))))))
def F_central_moment : DF := runBody 3 d_central_moment
def b_law_k15_1 (CR : Addr) : DS := (dIfS (dTru (dBin (gNeR F_Ratio___eq__ (gEq true)) (dFnS F_w_taken (dCons (dFnS F_central_moment (dCons (dVar 4) (dCons (dVar 5) dNil))) dNil)) (dFnS F_w_through (dCons (dFnS F_w_central (dCons (dVar 3) (dCons (dVar 5) dNil))) (dCons (dTup (dCons (dFn fLen (dCons (dVar 3) dNil)) (dCons (dC (.int 1)) dNil))) dNil))))) (dRet (dC (.bl false))) dSkip)
def e_law_k15_2 (CR : Addr) : DE := (dFnS F_w_minus (dCons (dFnS F_w_plus (dCons (dVar 6) (dCons (dVar 6) dNil))) (dCons (dVar 8) dNil)))
def b_law_k15_3 (CR : Addr) : DS := (dIfS (dTru (dBin (gNeR F_Ratio___eq__ (gEq true)) (dFnS F_central_moment (dCons (dFnS (F_w_framed CR) (dCons (dVar 2) (dCons (dVar 7) dNil))) (dCons (dVar 5) dNil))) (dC (.int 0)))) (dRet (dC (.bl false))) dSkip)
def b_law_k15_4 (CR : Addr) : DS := (dSeq (dSet 2 (dFnS F_w_source (dCons (dVar 0) (dCons (dVar 1) dNil)))) (dSeq (dSet 3 (dFnS F_w_filled (dCons (dVar 2) (dCons (dC (.int 10)) dNil)))) (dSeq (dSet 4 (dFnS (F_w_framed CR) (dCons (dVar 2) (dCons (dVar 3) dNil)))) (dSeq (dFor (iSeq (dTup (dCons (dC (.int 0)) (dCons (dC (.int 1)) (dCons (dC (.int 2)) (dCons (dC (.int 3)) (dCons (dC (.int 4)) (dCons (dBin gAdd (dC (.int 5)) (dFnS F_w_next (dCons (dVar 2) (dCons (dC (.int 4)) dNil)))) dNil)))))))) (gN 5) (b_law_k15_1 CR)) (dSeq (dIfS (dOrT (dTru (dBin (gNeR F_Ratio___eq__ (gEq true)) (dFnS F_central_moment (dCons (dVar 4) (dCons (dC (.int 2)) dNil))) (dFnD F_variance 1 [.int 0] (dCons (dVar 4) dNil)))) (dTru (dBin (gNeR F_Ratio___eq__ (gEq true)) (dFnS F_central_moment (dCons (dVar 4) (dCons (dC (.int 0)) dNil))) (dC (.int 1))))) (dRet (dC (.bl false))) dSkip) (dSeq (dSet 6 (dFnS F_w_drawn (dCons (dVar 2) dNil))) (dSeq (dSet 7 (dFnS F_w_mixed (dCons (dVar 2) (dCons (dBin gAdd (dVar 3) (dFr (dComp (iSeq (dVar 3)) (gN 8) dYes (e_law_k15_2 CR) [8]))) dNil)))) (dFor (iSeq (dTup (dCons (dC (.int 1)) (dCons (dC (.int 3)) (dCons (dC (.int 5)) (dCons (dC (.int 7)) dNil)))))) (gN 5) (b_law_k15_3 CR)))))))))
/-- slots: _law_script, _law_k, _law_source_here, _law_some, _law_sample, _law_order, _law_mid, _law_mirrored, _law_one -/
def d_law_k15 (CR : Addr) : DS := (dSeq (dFor (iRange1 (dCons (dFn fMax2 (dCons (dC (.int 1)) (dCons (dFn fMin2 (dCons (dC (.int 3)) (dCons (dFn fLen (dCons (dVar 0) dNil)) dNil))) dNil))) dNil)) (gN 1) (b_law_k15_4 CR)) (dRet (dBin (gEq false) (dFnS F_w_all_taken (dCons (dLst (dCons (dFnS F_central_moment (dCons (dLst (dCons (dC (.int 1)) (dCons (dC (.int 2)) (dCons (dC (.int 6)) dNil)))) (dCons (dC (.int 3)) dNil))) (dCons (dFnS F_central_moment (dCons (dLst (dCons (dC (.int 1)) (dCons (dC (.int 2)) (dCons (dC (.int 6)) dNil)))) (dCons (dC (.int 8)) dNil))) dNil))) dNil)) (dLst (dCons (dTup (dCons (dC (.int 6)) (dCons (dC (.int 1)) dNil))) (dCons (dTup (dCons (dC (.int 6818)) (dCons (dC (.int 3)) dNil))) dNil))))))
def F_law_k15 (CR : Addr) : DF := runBody 9 (d_law_k15 CR)
end LD

namespace LD
open PySem L3
/-- slots: _law_one, _law_other -/
def d_w_below : DS := (dRet (dBin gLt (dBin gMul (dBin fIx (dVar 0) (dC (.int 0))) (dBin fIx (dVar 1) (dC (.int 1)))) (dBin gMul (dBin fIx (dVar 1) (dC (.int 0))) (dBin fIx (dVar 0) (dC (.int 1))))))
def F_w_below : DF := runBody 2 d_w_below
def b_w_sorted_1 : DS := (dSeq (dSet 3 (dFn fLen (dCons (dFr (dComp (iSeq (dVar 1)) (gN 4) (dNotT (dTru (dFnS F_w_below (dCons (dVar 2) (dCons (dVar 4) dNil))))) (dVar 4) [4])) dNil))) (dSet 1 (dBin gAdd (dBin gAdd (dSlice (dVar 1) dNone (dSome (dVar 3))) (dLst (dCons (dVar 2) dNil))) (dSlice (dVar 1) (dSome (dVar 3)) dNone))))
/-- slots: _law_some, _law_found, _law_one, _law_at, _law_other -/
def d_w_sorted : DS := (dSeq (dSet 1 (dLst dNil)) (dSeq (dFor (iSeq (dVar 0)) (gN 2) b_w_sorted_1) (dRet (dVar 1))))
def F_w_sorted : DF := runBody 5 d_w_sorted
/-- slots: value -/
def d_is_share : DS := (dRet (dAnd (dFnS F_is_number (dCons (dVar 0) dNil)) (dChain gLe gLe (dC (.int 0)) (dUn fTop (dFnS F_ratio_of (dCons (dVar 0) dNil))) (dUn fBot (dFnS F_ratio_of (dCons (dVar 0) dNil))))))
def F_is_share : DF := runBody 1 d_is_share
/-- slots: share -/
def d_need_cut : DS := (dSeq (dIfS (dOrT (dNotT (dTru (dFnS F_is_share (dCons (dVar 0) dNil)))) (dTru (dBin gGe (dBin gMul (dC (.int 2)) (dUn fTop (dFnS F_ratio_of (dCons (dVar 0) dNil)))) (dUn fBot (dFnS F_ratio_of (dCons (dVar 0) dNil)))))) (dRaise "BadShare" "value" (dVar 0)) dSkip) (dRet (dFnS F_ratio_of (dCons (dVar 0) dNil))))
def F_need_cut : DF := runBody 1 d_need_cut
/-- slots: self -/
def d_Ratio_floor : DS := (dRet (dBin gFdiv (dUn fTop (dVar 0)) (dUn fBot (dVar 0))))
def F_Ratio_floor : DF := runBody 1 d_Ratio_floor
def e_ordered_1 : DE := (dFn (fMakeR okR) (dCons (dVar 3) (dCons (dVar 2) dNil)))
/-- slots: values, integers, bottom, integer -/
def d_ordered : DS := (dSeq (dAsg (dFnS F_common (dCons (dVar 0) dNil)) (gT 2 (gCons (gN 1) (gCons (gN 2) gNil)))) (dRet (dFr (dComp (iSeq (dFn fSortI (dCons (dVar 1) dNil))) (gN 3) dYes e_ordered_1 [3]))))
def F_ordered : DF := runBody 4 d_ordered
/-- slots: sample, share, values, cut -/
def d_cut_values : DS := (dSeq (dSet 2 (dFnS F_need_sample (dCons (dVar 0) dNil))) (dSeq (dSet 3 (dFnS F_need_cut (dCons (dVar 1) dNil))) (dSeq (dExpr (dFnS F_need_items (dCons (dVar 2) dNil))) (dRet (dTup (dCons (dFnS F_ordered (dCons (dVar 2) dNil)) (dCons (dMethR (fMt 1 F_Ratio_floor) (dBin (gRL F_Ratio___mul__ gMul) (dVar 3) (dFn fLen (dCons (dVar 2) dNil))) dNil) dNil)))))))
def F_cut_values : DF := runBody 4 d_cut_values
/-- slots: sample, share, values, many -/
def d_trimmed_mean : DS := (dSeq (dAsg (dFnS F_cut_values (dCons (dVar 0) (dCons (dVar 1) dNil))) (gT 2 (gCons (gN 2) (gCons (gN 3) gNil)))) (dRet (dFnS F_mean_of (dCons (dSlice (dVar 2) (dSome (dVar 3)) (dSome (dBin gSub (dFn fLen (dCons (dVar 2) dNil)) (dVar 3)))) dNil))))
def F_trimmed_mean : DF := runBody 4 d_trimmed_mean
/-- slots: sample, share, inner, values, many -/
def d_pulled_mean : DS := (dSeq (dAsg (dFnS F_cut_values (dCons (dVar 0) (dCons (dVar 1) dNil))) (gT 2 (gCons (gN 3) (gCons (gN 4) gNil)))) (dSeq (dSet 2 (dSlice (dVar 3) (dSome (dVar 4)) (dSome (dBin gSub (dFn fLen (dCons (dVar 3) dNil)) (dVar 4))))) (dRet (dFnS F_mean_of (dCons (dBin gAdd (dBin gAdd (dBin gMul (dLst (dCons (dBin fIx (dVar 2) (dC (.int 0))) dNil)) (dVar 4)) (dVar 2)) (dBin gMul (dLst (dCons (dBin fIx (dVar 2) (dUn fNegI (dC (.int 1)))) dNil)) (dVar 4))) dNil)))))
def F_pulled_mean : DF := runBody 5 d_pulled_mean
/-- slots: _law_some, _law_rows -/
def d_w_median : DS := (dSeq (dSet 1 (dFnS F_w_sorted (dCons (dVar 0) dNil))) (dRet (dFnS F_w_mean (dCons (dLst (dCons (dBin fIx (dVar 1) (dBin gFdiv (dBin gSub (dFn fLen (dCons (dVar 1) dNil)) (dC (.int 1))) (dC (.int 2)))) (dCons (dBin fIx (dVar 1) (dBin gFdiv (dFn fLen (dCons (dVar 1) dNil)) (dC (.int 2)))) dNil))) dNil))))
def F_w_median : DF := runBody 2 d_w_median
def b_law_k13_1 (CR : Addr) : DS := (dSeq (dSet 10 (dBin gAdd (dC (.int 1)) (dFnS F_w_pick (dCons (dVar 3) (dCons (dLst (dCons (dVar 9) (dCons (dC (.int 19)) (dCons (dBin gMul (dC (.int 2)) (dVar 9)) (dCons (dC (.int 99)) dNil))))) dNil))))) (dSeq (dSet 11 (dFnS F_w_next (dCons (dVar 3) (dCons (dBin gFdiv (dBin gAdd (dVar 10) (dC (.int 1))) (dC (.int 2))) dNil)))) (dSeq (dSet 12 (dBin gFdiv (dBin gMul (dVar 9) (dVar 11)) (dVar 10))) (dSeq (dSet 13 (dSlice (dVar 8) (dSome (dVar 12)) (dSome (dBin gSub (dVar 9) (dVar 12))))) (dSeq (dSet 6 (dIf (dTru (dBin gGt (dVar 11) (dC (.int 0)))) (dFn (fMakeR okR) (dCons (dVar 11) (dCons (dVar 10) dNil))) (dC (.int 0)))) (dSeq (dIfS (dTru (dBin (gEq true) (dFnS F_w_taken (dCons (dFnS F_trimmed_mean (dCons (dVar 7) (dCons (dVar 6) dNil))) dNil)) (dFnS F_w_mean (dCons (dVar 13) dNil)))) (dRet (dC (.bl false))) dSkip) (dIfS (dTru (dBin (gEq true) (dFnS F_w_taken (dCons (dFnS F_pulled_mean (dCons (dVar 7) (dCons (dVar 6) dNil))) dNil)) (dFnS F_w_mean (dCons (dBin gAdd (dBin gAdd (dBin gMul (dLst (dCons (dBin fIx (dVar 13) (dC (.int 0))) dNil)) (dVar 12)) (dVar 13)) (dBin gMul (dLst (dCons (dBin fIx (dVar 13) (dUn fNegI (dC (.int 1)))) dNil)) (dVar 12))) dNil)))) (dRet (dC (.bl false))) dSkip)))))))
def b_law_k13_2 (CR : Addr) : DS := (dSeq (dSet 3 (dFnS F_w_source (dCons (dVar 0) (dCons (dVar 1) dNil)))) (dSeq (dSet 4 (dFnS F_w_filled (dCons (dVar 3) (dCons (dC (.int 12)) dNil)))) (dSeq (dPar [7, 8, 9] (dCons (dFnS (F_w_framed CR) (dCons (dVar 3) (dCons (dVar 4) dNil))) (dCons (dFnS F_w_sorted (dCons (dVar 4) dNil)) (dCons (dFn fLen (dCons (dVar 4) dNil)) dNil)))) (dSeq (dFor (iRange1 (dCons (dC (.int 4)) dNil)) (gN 5) (b_law_k13_1 CR)) (dSeq (dSet 6 (dFn (fMakeR okR) (dCons (dC (.int 499)) (dCons (dC (.int 1000)) dNil)))) (dIfS (dAndT (dTru (dBin gLt (dVar 9) (dC (.int 40)))) (dTru (dBin (gEq true) (dFnS F_w_taken (dCons (dFnS F_trimmed_mean (dCons (dVar 7) (dCons (dVar 6) dNil))) dNil)) (dFnS F_w_median (dCons (dVar 4) dNil))))) (dRet (dC (.bl false))) dSkip))))))
/-- slots: _law_script, _law_k, _law_told, _law_source_here, _law_some, _law_turn, _law_share, _law_sample, _law_rows, _law_many, _law_bottom, _law_top, _law_cut, _law_inner -/
def d_law_k13 (CR : Addr) : DS := (dSeq (dFor (iRange1 (dCons (dFn fMax2 (dCons (dC (.int 1)) (dCons (dFn fMin2 (dCons (dC (.int 4)) (dCons (dFn fLen (dCons (dVar 0) dNil)) dNil))) dNil))) dNil)) (gN 1) (b_law_k13_2 CR)) (dSeq (dSet 2 (dLst (dCons (dFnS F_trimmed_mean (dCons (dTup (dCons (dC (.int 0)) (dCons (dC (.int 2)) (dCons (dC (.int 3)) (dCons (dC (.int 4)) (dCons (dC (.int 100)) dNil)))))) (dCons (dFn (fMakeR okR) (dCons (dC (.int 1)) (dCons (dC (.int 5)) dNil))) dNil))) (dCons (dFnS F_pulled_mean (dCons (dTup (dCons (dC (.int 0)) (dCons (dC (.int 2)) (dCons (dC (.int 3)) (dCons (dC (.int 4)) (dCons (dC (.int 100)) dNil)))))) (dCons (dFn (fMakeR okR) (dCons (dC (.int 1)) (dCons (dC (.int 5)) dNil))) dNil))) dNil)))) (dRet (dBin (gEq false) (dFnS F_w_all_taken (dCons (dVar 2) dNil)) (dLst (dCons (dTup (dCons (dC (.int 3)) (dCons (dC (.int 1)) dNil))) (dCons (dTup (dCons (dC (.int 3)) (dCons (dC (.int 1)) dNil))) dNil)))))))
def F_law_k13 (CR : Addr) : DF := runBody 14 (d_law_k13 CR)
end LD

namespace LD
open PySem L3
/-- slots: self -/
def d_Ratio___abs__ : DS := (dRet (dFn (fMakeR okR) (dCons (dFn fAbsI (dCons (dUn fTop (dVar 0)) dNil)) (dCons (dUn fBot (dVar 0)) dNil))))
def F_Ratio___abs__ : DF := runBody 1 d_Ratio___abs__
def e_distances_1 : DE := (dFn (gAbs F_Ratio___abs__) (dCons (dBin (gRL F_Ratio___sub__ gSub) (dVar 2) (dVar 1)) dNil))
/-- slots: values, center, value -/
def d_distances : DS := (dRet (dFr (dComp (iSeq (dVar 0)) (gN 2) dYes e_distances_1 [2])))
def F_distances : DF := runBody 3 d_distances
def k_mean_distance_1 : DS := (dSeq (dExpr (dFnS F_need_items (dCons (dVar 2) dNil))) (dRet (dFnS F_mean_of (dCons (dFnS F_distances (dCons (dVar 2) (dCons (dIf (dTru (dBin (fIsN false) (dVar 1) (dC .non))) (dFnS F_mean_of (dCons (dVar 2) dNil)) (dVar 1)) dNil))) dNil))))
/-- slots: sample, center, values -/
def d_mean_distance : DS := (dSeq (dSet 2 (dFnS F_need_sample (dCons (dVar 0) dNil))) (dSeq (dIfS (dTru (dBin (fIsN true) (dVar 1) (dC .non))) (dExpr (dFnS F_need_number (dCons (dVar 1) dNil))) dSkip) k_mean_distance_1))
def F_mean_distance : DF := runBody 3 d_mean_distance
def e_w_far_1 : DE := (dFnS F_w_minus (dCons (dVar 3) (dCons (dVar 1) dNil)))
def e_w_far_2 : DE := (dTup (dCons (dFn fAbsI (dCons (dVar 4) dNil)) (dCons (dVar 5) dNil)))
/-- slots: _law_some, _law_mid, _law_found, _law_one, _law_top, _law_bottom -/
def d_w_far : DS := (dSeq (dSet 2 (dFr (dComp (iSeq (dVar 0)) (gN 3) dYes e_w_far_1 [3]))) (dRet (dFr (dComp (iSeq (dVar 2)) (gT 2 (gCons (gN 4) (gCons (gN 5) gNil))) dYes e_w_far_2 [4, 5]))))
def F_w_far : DF := runBody 6 d_w_far
/-- slots: values, many -/
def d_median_of : DS := (dSeq (dSet 1 (dFn fLen (dCons (dVar 0) dNil))) (dRet (dFnS F_mean_of (dCons (dLst (dCons (dBin fIx (dVar 0) (dBin gFdiv (dBin gSub (dVar 1) (dC (.int 1))) (dC (.int 2)))) (dCons (dBin fIx (dVar 0) (dBin gFdiv (dVar 1) (dC (.int 2)))) dNil))) dNil))))
def F_median_of : DF := runBody 2 d_median_of
/-- slots: sample, values -/
def d_median_distance : DS := (dSeq (dSet 1 (dFnS F_need_filled (dCons (dVar 0) dNil))) (dRet (dFnS F_median_of (dCons (dFnS F_ordered (dCons (dFnS F_distances (dCons (dVar 1) (dCons (dFnS F_median_of (dCons (dFnS F_ordered (dCons (dVar 1) dNil)) dNil)) dNil))) dNil)) dNil))))
def F_median_distance : DF := runBody 2 d_median_distance
/-- slots: sample, values -/
def d_extent : DS := (dSeq (dSet 1 (dFnS F_ordered (dCons (dFnS F_need_filled (dCons (dVar 0) dNil)) dNil))) (dRet (dBin (gRL F_Ratio___sub__ gSub) (dBin fIx (dVar 1) (dUn fNegI (dC (.int 1)))) (dBin fIx (dVar 1) (dC (.int 0))))))
def F_extent : DF := runBody 2 d_extent
def e_mean_difference_1 : DE := (dBin (gRL F_Ratio___mul__ gMul) (dVar 5) (dBin gSub (dBin gAdd (dBin (gRL F_Ratio___mul__ gMul) (dC (.int 2)) (dVar 4)) (dC (.int 1))) (dVar 2)))
/-- slots: sample, values, many, found, index, value -/
def d_mean_difference : DS := (dSeq (dSet 1 (dFnS F_ordered (dCons (dFnS F_need_filled (dCons (dVar 0) dNil)) dNil))) (dSeq (dSet 2 (dFn fLen (dCons (dVar 1) dNil))) (dSeq (dExpr (dFnS F_need_more (dCons (dVar 2) (dCons (dC (.int 1)) dNil)))) (dSeq (dSet 3 (dFnS F_total (dCons (dFr (dComp (iEnumQ (dCons (dVar 1) dNil)) (gT 2 (gCons (gN 4) (gCons (gN 5) gNil))) dYes e_mean_difference_1 [4, 5])) dNil))) (dRet (dMethR (fMt 2 F_Ratio_over) (dVar 3) (dCons (dBin gFdiv (dBin (gRL F_Ratio___mul__ gMul) (dVar 2) (dBin gSub (dVar 2) (dC (.int 1)))) (dC (.int 2))) dNil)))))))
def F_mean_difference : DF := runBody 6 d_mean_difference
def b_law_k16_1 (CR : Addr) : DS := (dSet 4 (dBin gAdd (dVar 4) (dFnS F_w_far (dCons (dSlice (dVar 5) (dSome (dBin gAdd (dVar 9) (dC (.int 1)))) dNone) (dCons (dVar 10) dNil)))))
def b_law_k16_2 (CR : Addr) : DS := (dSeq (dSet 2 (dFnS F_w_source (dCons (dVar 0) (dCons (dVar 1) dNil)))) (dSeq (dPar [5, 6] (dCons (dFnS F_w_filled (dCons (dVar 2) (dCons (dC (.int 12)) dNil))) (dCons (dFnS F_w_drawn (dCons (dVar 2) dNil)) dNil))) (dSeq (dPar [7, 8] (dCons (dFnS (F_w_framed CR) (dCons (dVar 2) (dCons (dVar 5) dNil))) (dCons (dFnS F_w_sorted (dCons (dVar 5) dNil)) dNil))) (dSeq (dIfS (dTru (dBin (gNeR F_Ratio___eq__ (gEq true)) (dFnS F_w_taken (dCons (dFnD F_mean_distance 1 [.non] (dCons (dVar 7) dNil)) dNil)) (dFnS F_w_mean (dCons (dFnS F_w_far (dCons (dVar 5) (dCons (dFnS F_w_mean (dCons (dVar 5) dNil)) dNil))) dNil)))) (dRet (dC (.bl false))) dSkip) (dSeq (dSet 3 (dBin fIx (dFnS F_w_given (dCons (dLst (dCons (dVar 6) dNil)) dNil)) (dC (.int 0)))) (dSeq (dIfS (dTru (dBin (gNeR F_Ratio___eq__ (gEq true)) (dFnS F_w_taken (dCons (dFnK F_mean_distance 1 1 (fun us zs => us ++ zs) (dCons (dVar 7) dNil) (dCons (dVar 3) dNil)) dNil)) (dFnS F_w_mean (dCons (dFnS F_w_far (dCons (dVar 5) (dCons (dVar 6) dNil))) dNil)))) (dRet (dC (.bl false))) dSkip) (dSeq (dIfS (dTru (dBin (gNeR F_Ratio___eq__ (gEq true)) (dFnK F_mean_distance 1 1 (fun us zs => us ++ zs) (dCons (dVar 7) dNil) (dCons (dC .non) dNil)) (dFnD F_mean_distance 1 [.non] (dCons (dVar 7) dNil)))) (dRet (dC (.bl false))) dSkip) (dSeq (dIfS (dTru (dBin (gNeR F_Ratio___eq__ (gEq true)) (dFnS F_w_taken (dCons (dFnS F_median_distance (dCons (dVar 7) dNil)) dNil)) (dFnS F_w_median (dCons (dFnS F_w_far (dCons (dVar 5) (dCons (dFnS F_w_median (dCons (dVar 5) dNil)) dNil))) dNil)))) (dRet (dC (.bl false))) dSkip) (dSeq (dIfS (dTru (dBin (gNeR F_Ratio___eq__ (gEq true)) (dFnS F_w_taken (dCons (dFnS F_extent (dCons (dVar 7) dNil)) dNil)) (dFnS F_w_minus (dCons (dBin fIx (dVar 8) (dUn fNegI (dC (.int 1)))) (dCons (dBin fIx (dVar 8) (dC (.int 0))) dNil))))) (dRet (dC (.bl false))) dSkip) (dSeq (dSet 4 (dLst dNil)) (dSeq (dFor (iEnumQ (dCons (dVar 5) dNil)) (gT 2 (gCons (gN 9) (gCons (gN 10) gNil))) (b_law_k16_1 CR)) (dIfS (dAndT (dTru (dBin (gNeR F_Ratio___eq__ (gEq true)) (dVar 4) (dLst dNil))) (dTru (dBin (gNeR F_Ratio___eq__ (gEq true)) (dFnS F_w_taken (dCons (dFnS F_mean_difference (dCons (dVar 7) dNil)) dNil)) (dFnS F_w_mean (dCons (dVar 4) dNil))))) (dRet (dC (.bl false))) dSkip))))))))))))
/-- slots: _law_script, _law_k, _law_source_here, _law_given_here, _law_pairs, _law_some, _law_middle, _law_sample, _law_rows, _law_at, _law_one -/
def d_law_k16 (CR : Addr) : DS := (dSeq (dFor (iRange1 (dCons (dFn fMax2 (dCons (dC (.int 1)) (dCons (dFn fMin2 (dCons (dC (.int 4)) (dCons (dFn fLen (dCons (dVar 0) dNil)) dNil))) dNil))) dNil)) (gN 1) (b_law_k16_2 CR)) (dRet (dBin (gEq false) (dFnS F_w_all_taken (dCons (dLst (dCons (dFnS F_mean_difference (dCons (dLst (dCons (dC (.int 1)) (dCons (dC (.int 2)) (dCons (dC (.int 6)) dNil)))) dNil)) (dCons (dFnS F_median_distance (dCons (dLst (dCons (dC (.int 1)) (dCons (dC (.int 2)) (dCons (dC (.int 6)) dNil)))) dNil)) dNil))) dNil)) (dLst (dCons (dTup (dCons (dC (.int 10)) (dCons (dC (.int 3)) dNil))) (dCons (dTup (dCons (dC (.int 1)) (dCons (dC (.int 1)) dNil))) dNil))))))
def F_law_k16 (CR : Addr) : DF := runBody 11 (d_law_k16 CR)
end LD

namespace LD
open PySem L3
/-- slots: _law_source_here -/
def d_w_great : DS := (dSeq (dIfS (dTru (dBin gGt (dFnS F_w_next (dCons (dVar 0) (dCons (dC (.int 4)) dNil))) (dC (.int 0)))) (dRet (dFnS F_w_drawn (dCons (dVar 0) dNil))) dSkip) (dRet (dFnS F_w_low (dCons (dBin gAdd (dBin gPow (dC (.int 10)) (dC (.int 25))) (dFnS F_w_next (dCons (dVar 0) (dCons (dC (.int 1000)) dNil)))) (dCons (dBin gAdd (dBin gPow (dC (.int 7)) (dC (.int 20))) (dFnS F_w_next (dCons (dVar 0) (dCons (dC (.int 3)) dNil)))) dNil)))))
def F_w_great : DF := runBody 1 d_w_great
/-- slots: self, other -/
def d_Ratio___rsub__ : DS := (dRet (dBin (gRL F_Ratio___sub__ gSub) (dFnS F_ratio_of (dCons (dVar 1) dNil)) (dVar 0)))
def F_Ratio___rsub__ : DF := runBody 2 d_Ratio___rsub__
/-- slots: self, other -/
def d_Ratio___rmul__ : DS := (dRet (dBin (gRL F_Ratio___mul__ gMul) (dFnS F_ratio_of (dCons (dVar 1) dNil)) (dVar 0)))
def F_Ratio___rmul__ : DF := runBody 2 d_Ratio___rmul__
/-- slots: self, other, far -/
def d_Ratio___add__ : DS := (dSeq (dSet 2 (dFnS F_ratio_of (dCons (dVar 1) dNil))) (dRet (dFn (fMakeR okR) (dCons (dBin gAdd (dBin gMul (dUn fTop (dVar 0)) (dUn fBot (dVar 2))) (dBin gMul (dUn fTop (dVar 2)) (dUn fBot (dVar 0)))) (dCons (dBin gMul (dUn fBot (dVar 0)) (dUn fBot (dVar 2))) dNil)))))
def F_Ratio___add__ : DF := runBody 3 d_Ratio___add__
/-- slots: self, other -/
def d_Ratio___radd__ : DS := (dRet (dBin (gRL F_Ratio___add__ gAdd) (dFnS F_ratio_of (dCons (dVar 1) dNil)) (dVar 0)))
def F_Ratio___radd__ : DF := runBody 2 d_Ratio___radd__
/-- slots: self -/
def d_Ratio___neg__ : DS := (dRet (dFn (fMakeR okR) (dCons (dBin gSub (dC (.int 0)) (dUn fTop (dVar 0))) (dCons (dUn fBot (dVar 0)) dNil))))
def F_Ratio___neg__ : DF := runBody 1 d_Ratio___neg__
def b_law_k03_1 : DS := (dSeq (dPar [9, 10] (dCons (dFnS F_w_great (dCons (dVar 2) dNil)) (dCons (dFnS F_w_great (dCons (dVar 2) dNil)) dNil))) (dSeq (dSet 6 (dBin (gRR F_Ratio___sub__ F_Ratio___rsub__ gSub) (dFnS F_w_next (dCons (dVar 2) (dCons (dC (.int 41)) dNil))) (dC (.int 20)))) (dSeq (dPar [11, 12] (dCons (dFn (fMakeR okR) (dCons (dBin fIx (dVar 9) (dC (.int 0))) (dCons (dBin fIx (dVar 9) (dC (.int 1))) dNil))) (dCons (dFn (fMakeR okR) (dCons (dBin fIx (dVar 10) (dC (.int 0))) (dCons (dBin fIx (dVar 10) (dC (.int 1))) dNil))) dNil))) (dSeq (dSet 7 (dFnS F_w_all_taken (dCons (dLst (dCons (dBin (gRR F_Ratio___add__ F_Ratio___radd__ gAdd) (dVar 11) (dVar 12)) (dCons (dBin (gRR F_Ratio___sub__ F_Ratio___rsub__ gSub) (dVar 11) (dVar 12)) (dCons (dBin (gRR F_Ratio___mul__ F_Ratio___rmul__ gMul) (dVar 11) (dVar 12)) (dCons (dBin (gRR F_Ratio___add__ F_Ratio___radd__ gAdd) (dVar 11) (dVar 6)) (dCons (dBin (gRR F_Ratio___sub__ F_Ratio___rsub__ gSub) (dVar 11) (dVar 6)) (dCons (dBin (gRR F_Ratio___mul__ F_Ratio___rmul__ gMul) (dVar 11) (dVar 6)) dNil))))))) dNil))) (dSeq (dSet 8 (dLst (dCons (dFnS F_w_plus (dCons (dVar 9) (dCons (dVar 10) dNil))) (dCons (dFnS F_w_minus (dCons (dVar 9) (dCons (dVar 10) dNil))) (dCons (dFnS F_w_times (dCons (dVar 9) (dCons (dVar 10) dNil))) dNil))))) (dSeq (dSet 8 (dBin (gRR F_Ratio___add__ F_Ratio___radd__ gAdd) (dVar 8) (dLst (dCons (dFnS F_w_plus (dCons (dVar 9) (dCons (dTup (dCons (dVar 6) (dCons (dC (.int 1)) dNil))) dNil))) (dCons (dFnS F_w_minus (dCons (dVar 9) (dCons (dTup (dCons (dVar 6) (dCons (dC (.int 1)) dNil))) dNil))) (dCons (dFnS F_w_times (dCons (dVar 9) (dCons (dTup (dCons (dVar 6) (dCons (dC (.int 1)) dNil))) dNil))) dNil)))))) (dSeq (dIfS (dTru (dBin (gEq true) (dVar 7) (dVar 8))) (dRet (dC (.bl false))) dSkip) (dSeq (dSet 7 (dFnS F_w_all_taken (dCons (dLst (dCons (dBin (gRR F_Ratio___add__ F_Ratio___radd__ gAdd) (dVar 6) (dVar 11)) (dCons (dBin (gRR F_Ratio___sub__ F_Ratio___rsub__ gSub) (dVar 6) (dVar 11)) (dCons (dBin (gRR F_Ratio___mul__ F_Ratio___rmul__ gMul) (dVar 6) (dVar 11)) dNil)))) dNil))) (dSeq (dIfS (dTru (dBin (gEq true) (dVar 7) (dLst (dCons (dBin fIx (dVar 8) (dC (.int 3))) (dCons (dTup (dCons (dBin (gRR F_Ratio___sub__ F_Ratio___rsub__ gSub) (dC (.int 0)) (dBin fIx (dBin fIx (dVar 8) (dC (.int 4))) (dC (.int 0)))) (dCons (dBin fIx (dBin fIx (dVar 8) (dC (.int 4))) (dC (.int 1))) dNil))) (dCons (dBin fIx (dVar 8) (dC (.int 5))) dNil)))))) (dRet (dC (.bl false))) dSkip) (dSeq (dSet 7 (dFnS F_w_all_taken (dCons (dLst (dCons (dUn (gR1 F_Ratio___neg__ fNegI) (dVar 11)) (dCons (dFn (gAbs F_Ratio___abs__) (dCons (dVar 11) dNil)) (dCons (dUn (gR1 F_Ratio___neg__ fNegI) (dVar 12)) dNil)))) dNil))) (dSeq (dIfS (dTru (dBin (gEq true) (dVar 7) (dLst (dCons (dTup (dCons (dBin (gRR F_Ratio___sub__ F_Ratio___rsub__ gSub) (dC (.int 0)) (dBin fIx (dVar 9) (dC (.int 0)))) (dCons (dBin fIx (dVar 9) (dC (.int 1))) dNil))) (dCons (dTup (dCons (dFn (gAbs F_Ratio___abs__) (dCons (dBin fIx (dVar 9) (dC (.int 0))) dNil)) (dCons (dBin fIx (dVar 9) (dC (.int 1))) dNil))) (dCons (dTup (dCons (dBin (gRR F_Ratio___sub__ F_Ratio___rsub__ gSub) (dC (.int 0)) (dBin fIx (dVar 10) (dC (.int 0)))) (dCons (dBin fIx (dVar 10) (dC (.int 1))) dNil))) dNil)))))) (dRet (dC (.bl false))) dSkip) (dIfS (dTru (dBin (gEq true) (dFnS F_w_all_taken (dCons (dLst (dCons (dVar 11) (dCons (dVar 12) dNil))) dNil)) (dLst (dCons (dVar 9) (dCons (dVar 10) dNil))))) (dRet (dC (.bl false))) dSkip))))))))))))
def e_law_k03_2 : DE := (dFn (fMakeR okR) (dCons (dVar 13) (dCons (dVar 14) dNil)))
def b_law_k03_3 : DS := (dSeq (dSet 2 (dFnS F_w_source (dCons (dVar 0) (dCons (dVar 1) dNil)))) (dSeq (dFor (iRange1 (dCons (dC (.int 5)) dNil)) (gN 3) b_law_k03_1) (dSeq (dSet 4 (dFnS F_w_row (dCons (dVar 2) (dCons (dC (.int 9)) dNil)))) (dSeq (dSet 5 (dFr (dComp (iSeq (dVar 4)) (gT 2 (gCons (gN 13) (gCons (gN 14) gNil))) dYes e_law_k03_2 [13, 14]))) (dIfS (dAndT (dTru (dBin (gEq true) (dVar 4) (dLst dNil))) (dTru (dBin (gEq true) (dFnS F_w_taken (dCons (dFn (gSum F_Ratio___add__ F_Ratio___radd__) (dCons (dVar 5) dNil)) dNil)) (dFnS F_w_sum (dCons (dVar 4) dNil))))) (dRet (dC (.bl false))) dSkip)))))
/-- slots: _law_script, _law_k, _law_source_here, _law_turn, _law_some, _law_rows, _law_whole, _law_told, _law_due, _law_near, _law_far, _law_one, _law_other, _law_top, _law_bottom -/
def d_law_k03 : DS := (dSeq (dFor (iRange1 (dCons (dFn fMax2 (dCons (dC (.int 1)) (dCons (dFn fMin2 (dCons (dC (.int 4)) (dCons (dFn fLen (dCons (dVar 0) dNil)) dNil))) dNil))) dNil)) (gN 1) b_law_k03_3) (dRet (dAnd (dBin (gEq false) (dFnS F_w_taken (dCons (dBin (gRR F_Ratio___sub__ F_Ratio___rsub__ gSub) (dC (.int 2)) (dFn (fMakeR okR) (dCons (dC (.int 1)) (dCons (dC (.int 2)) dNil)))) dNil)) (dTup (dCons (dC (.int 3)) (dCons (dC (.int 2)) dNil)))) (dBin (gEq false) (dFnS F_w_taken (dCons (dBin (gRR F_Ratio___add__ F_Ratio___radd__ gAdd) (dFn (fMakeR okR) (dCons (dC (.int 1)) (dCons (dC (.int 6)) dNil))) (dFn (fMakeR okR) (dCons (dC (.int 1)) (dCons (dC (.int 3)) dNil)))) dNil)) (dTup (dCons (dC (.int 1)) (dCons (dC (.int 2)) dNil)))))))
def F_law_k03 : DF := runBody 15 d_law_k03
end LD

namespace LD
open PySem L3
/-- slots: sample, values -/
def d_median_high : DS := (dSeq (dSet 1 (dFnS F_ordered (dCons (dFnS F_need_filled (dCons (dVar 0) dNil)) dNil))) (dRet (dBin fIx (dVar 1) (dBin gFdiv (dFn fLen (dCons (dVar 1) dNil)) (dC (.int 2))))))
def F_median_high : DF := runBody 2 d_median_high
/-- slots: sample, values -/
def d_median_low : DS := (dSeq (dSet 1 (dFnS F_ordered (dCons (dFnS F_need_filled (dCons (dVar 0) dNil)) dNil))) (dRet (dBin fIx (dVar 1) (dBin gFdiv (dBin gSub (dFn fLen (dCons (dVar 1) dNil)) (dC (.int 1))) (dC (.int 2))))))
def F_median_low : DF := runBody 2 d_median_low
/-- slots: sample -/
def d_median : DS := (dRet (dFnS F_median_of (dCons (dFnS F_ordered (dCons (dFnS F_need_filled (dCons (dVar 0) dNil)) dNil)) dNil)))
def F_median : DF := runBody 1 d_median
def e_w_to_1 : DE := (dBin (gRL F_Ratio___mul__ gMul) (dBin (gRL F_Ratio___sub__ gSub) (dVar 2) (dVar 1)) (dBin (gRL F_Ratio___sub__ gSub) (dVar 2) (dVar 1)))
/-- slots: _law_sample, _law_spot, _law_value -/
def d_w_to : DS := (dRet (dFn (gSum F_Ratio___add__ F_Ratio___radd__) (dCons (dFr (dComp (iSeq (dVar 0)) (gN 2) dYes e_w_to_1 [2])) dNil)))
def F_w_to : DF := runBody 3 d_w_to
/-- slots: self, other, far, difference -/
def d_Ratio_compared : DS := (dSeq (dExpr (dFnS F_need_number (dCons (dVar 1) dNil))) (dSeq (dSet 2 (dFnS F_ratio_of (dCons (dVar 1) dNil))) (dSeq (dSet 3 (dBin gSub (dBin gMul (dUn fTop (dVar 0)) (dUn fBot (dVar 2))) (dBin gMul (dUn fTop (dVar 2)) (dUn fBot (dVar 0))))) (dRet (dBin gSub (dFn fIntB (dCons (dBin gGt (dVar 3) (dC (.int 0))) dNil)) (dFn fIntB (dCons (dBin gLt (dVar 3) (dC (.int 0))) dNil)))))))
def F_Ratio_compared : DF := runBody 4 d_Ratio_compared
def e_law_k20_1 : DE := (dFn (fMakeR okR) (dCons (dVar 13) (dCons (dVar 14) dNil)))
def b_law_k20_2 : DS := (dSeq (dAsg (dFnS F_w_drawn (dCons (dVar 2) dNil)) (gT 2 (gCons (gN 13) (gCons (gN 14) gNil)))) (dSeq (dSet 10 (dFnS F_w_pick (dCons (dVar 2) (dCons (dLst (dCons (dFn (fMakeR okR) (dCons (dVar 13) (dCons (dVar 14) dNil))) (dCons (dVar 8) (dCons (dVar 9) (dCons (dMethR (fMt 2 F_Ratio_over) (dBin (gRL F_Ratio___add__ gAdd) (dVar 8) (dVar 9)) (dCons (dC (.int 2)) dNil)) (dCons (dBin (gRL F_Ratio___sub__ gSub) (dVar 8) (dFn (fMakeR okR) (dCons (dC (.int 1)) (dCons (dC (.int 99)) dNil)))) dNil)))))) dNil)))) (dSeq (dSet 11 (dBin (gRL F_Ratio___sub__ gSub) (dVar 10) (dFnS F_mean (dCons (dVar 6) dNil)))) (dSeq (dIfS (dTru (dBin (gNeR F_Ratio___eq__ (gEq true)) (dFnS F_w_to (dCons (dVar 6) (dCons (dVar 10) dNil))) (dBin (gRL F_Ratio___add__ gAdd) (dFnS F_squares (dCons (dVar 6) dNil)) (dBin (gRR F_Ratio___mul__ F_Ratio___rmul__ gMul) (dBin (gRR F_Ratio___mul__ F_Ratio___rmul__ gMul) (dVar 7) (dVar 11)) (dVar 11))))) (dRet (dC (.bl false))) dSkip) (dSeq (dSet 12 (dAnd (dBin gLe (dMethR (fMt 2 F_Ratio_compared) (dVar 8) (dCons (dVar 10) dNil)) (dC (.int 0))) (dBin gLe (dMethR (fMt 2 F_Ratio_compared) (dVar 10) (dCons (dVar 9) dNil)) (dC (.int 0))))) (dIfS (dTru (dBin (gNeR F_Ratio___eq__ (gEq true)) (dMethR (fMt 2 F_Ratio_compared) (dFnK F_mean_distance 1 1 (fun us zs => us ++ zs) (dCons (dVar 6) dNil) (dCons (dVar 10) dNil)) (dCons (dVar 4) dNil)) (dIf (dTru (dVar 12)) (dC (.int 0)) (dC (.int 1))))) (dRet (dC (.bl false))) dSkip))))))
def b_law_k20_3 : DS := (dSeq (dSet 2 (dFnS F_w_source (dCons (dVar 0) (dCons (dVar 1) dNil)))) (dSeq (dSet 3 (dFnS F_w_filled (dCons (dVar 2) (dCons (dC (.int 10)) dNil)))) (dSeq (dPar [6, 7] (dCons (dFr (dComp (iSeq (dVar 3)) (gT 2 (gCons (gN 13) (gCons (gN 14) gNil))) dYes e_law_k20_1 [13, 14])) (dCons (dFn fLen (dCons (dVar 3) dNil)) dNil))) (dSeq (dPar [8, 9] (dCons (dFnS F_median_low (dCons (dVar 6) dNil)) (dCons (dFnS F_median_high (dCons (dVar 6) dNil)) dNil))) (dSeq (dSet 4 (dFnK F_mean_distance 1 1 (fun us zs => us ++ zs) (dCons (dVar 6) dNil) (dCons (dFnS F_median (dCons (dVar 6) dNil)) dNil))) (dSeq (dIfS (dOrT (dTru (dBin (gNeR F_Ratio___eq__ (gEq true)) (dFnS F_w_to (dCons (dVar 6) (dCons (dFnS F_mean (dCons (dVar 6) dNil)) dNil))) (dFnS F_squares (dCons (dVar 6) dNil)))) (dTru (dBin gGt (dMethR (fMt 2 F_Ratio_compared) (dVar 8) (dCons (dVar 9) dNil)) (dC (.int 0))))) (dRet (dC (.bl false))) dSkip) (dSeq (dFor (iRange1 (dCons (dC (.int 4)) dNil)) (gN 5) b_law_k20_2) (dSeq (dIfS (dOrT (dTru (dBin (gNeR F_Ratio___eq__ (gEq true)) (dFnS F_trimmed_mean (dCons (dVar 6) (dCons (dC (.int 0)) dNil))) (dFnS F_mean (dCons (dVar 6) dNil)))) (dTru (dBin (gNeR F_Ratio___eq__ (gEq true)) (dFnS F_pulled_mean (dCons (dVar 6) (dCons (dC (.int 0)) dNil))) (dFnS F_mean (dCons (dVar 6) dNil))))) (dRet (dC (.bl false))) dSkip) (dSeq (dIfS (dTru (dBin gGt (dMethR (fMt 2 F_Ratio_compared) (dBin (gRR F_Ratio___mul__ F_Ratio___rmul__ gMul) (dC (.int 4)) (dFnD F_variance 1 [.int 0] (dCons (dVar 6) dNil))) (dCons (dBin (gRR F_Ratio___mul__ F_Ratio___rmul__ gMul) (dFnS F_extent (dCons (dVar 6) dNil)) (dFnS F_extent (dCons (dVar 6) dNil))) dNil)) (dC (.int 0)))) (dRet (dC (.bl false))) dSkip) (dIfS (dOrT (dTru (dBin gLt (dMethR (fMt 2 F_Ratio_compared) (dFnD F_mean_distance 1 [.non] (dCons (dVar 6) dNil)) (dCons (dC (.int 0)) dNil)) (dC (.int 0)))) (dTru (dBin gGt (dMethR (fMt 2 F_Ratio_compared) (dBin (gRL F_Ratio___sub__ gSub) (dFnS F_mean (dCons (dVar 6) dNil)) (dFnS F_median (dCons (dVar 6) dNil))) (dCons (dFnD F_mean_distance 1 [.non] (dCons (dVar 6) dNil)) dNil)) (dC (.int 0))))) (dRet (dC (.bl false))) dSkip))))))))))
/-- slots: _law_script, _law_k, _law_source_here, _law_some, _law_least, _law_turn, _law_sample, _law_many, _law_low_here, _law_high, _law_spot, _law_away, _law_is_least, _law_top, _law_bottom -/
def d_law_k20 : DS := (dSeq (dFor (iRange1 (dCons (dFn fMax2 (dCons (dC (.int 1)) (dCons (dFn fMin2 (dCons (dC (.int 3)) (dCons (dFn fLen (dCons (dVar 0) dNil)) dNil))) dNil))) dNil)) (gN 1) b_law_k20_3) (dRet (dC (.bl true))))
def F_law_k20 : DF := runBody 15 d_law_k20
end LD

namespace LD
open PySem L3
/-- slots: value -/
def d_Ratio_is_number : DS := (dRet (dFnS F_is_number (dCons (dVar 0) dNil)))
def F_Ratio_is_number : DF := runBody 1 d_Ratio_is_number
def b_law_k02_1 (CR : Addr) : DS := (dSeq (dSet 5 (dFnS F_w_pick (dCons (dVar 2) (dCons (dLst (dCons (dBin gSub (dFnS F_w_next (dCons (dVar 2) (dCons (dC (.int 200)) dNil))) (dC (.int 100))) (dCons (dBin gAdd (dBin gPow (dC (.int 10)) (dC (.int 40))) (dFnS F_w_next (dCons (dVar 2) (dCons (dC (.int 99)) dNil)))) (dCons (dC (.int 0)) (dCons (dBin gMul (dC (.int 6)) (dBin gPow (dC (.int 10)) (dC (.int 30)))) dNil))))) dNil)))) (dSeq (dSet 6 (dFnS F_w_pick (dCons (dVar 2) (dCons (dLst (dCons (dBin gAdd (dC (.int 1)) (dFnS F_w_next (dCons (dVar 2) (dCons (dC (.int 60)) dNil)))) (dCons (dBin gSub (dUn fNegI (dC (.int 1))) (dFnS F_w_next (dCons (dVar 2) (dCons (dC (.int 60)) dNil)))) (dCons (dBin gPow (dC (.int 10)) (dC (.int 30))) (dCons (dBin gMul (dUn fNegI (dC (.int 9))) (dBin gPow (dC (.int 10)) (dC (.int 20)))) dNil))))) dNil)))) (dSeq (dSet 7 (dFn (fMakeR okR) (dCons (dVar 5) (dCons (dVar 6) dNil)))) (dSeq (dIfS (dTru (dBin (gEq true) (dFn fRepr (dCons (dLst (dCons (dUn fTop (dVar 7)) (dCons (dUn fBot (dVar 7)) dNil))) dNil)) (dFn fRepr (dCons (dFn fList (dCons (dFnS F_w_low (dCons (dVar 5) (dCons (dVar 6) dNil))) dNil)) dNil)))) (dRet (dC (.bl false))) dSkip) (dSeq (dPar [8, 9] (dCons (dFn (fCm 2 CR F_Ratio_of) (dCons (dVar 7) dNil)) (dCons (dFn (fCm 2 CR F_Ratio_of) (dCons (dVar 5) dNil)) dNil))) (dSeq (dIfS (dOrT (dTru (dBin (gEq true) (dFnS F_w_taken (dCons (dVar 8) dNil)) (dFnS F_w_low (dCons (dVar 5) (dCons (dVar 6) dNil))))) (dTru (dBin (gEq true) (dFnS F_w_taken (dCons (dVar 9) dNil)) (dTup (dCons (dVar 5) (dCons (dC (.int 1)) dNil)))))) (dRet (dC (.bl false))) dSkip) (dSeq (dIfS (dOrT (dTru (dBin (gEq true) (dFnS F_w_taken (dCons (dFn (fMakeR okR) (dCons (dVar 5) dNil)) dNil)) (dTup (dCons (dVar 5) (dCons (dC (.int 1)) dNil))))) (dTru (dBin (gEq true) (dFnS F_w_taken (dCons (dFn (fMakeR okR) (dCons (dUn fTop (dVar 7)) (dCons (dUn fBot (dVar 7)) dNil))) dNil)) (dFnS F_w_taken (dCons (dVar 7) dNil))))) (dRet (dC (.bl false))) dSkip) (dIfS (dOrT (dNotT (dTru (dFn (fMt 1 F_Ratio_is_number) (dCons (dVar 7) dNil)))) (dTru (dBin (fIsB true) (dFn (fMt 1 F_Ratio_is_number) (dCons (dVar 5) dNil)) (dC (.bl true))))) (dRet (dC (.bl false))) dSkip))))))))
def b_law_k02_2 (CR : Addr) : DS := (dSeq (dSet 2 (dFnS F_w_source (dCons (dVar 0) (dCons (dVar 1) dNil)))) (dSeq (dFor (iRange1 (dCons (dC (.int 6)) dNil)) (gN 3) (b_law_k02_1 CR)) (dSeq (dSet 4 (dFnS F_w_pick (dCons (dVar 2) (dCons (dLst (dCons (dC .non) (dCons (dC (.bl true)) (dCons (dC (.bl false)) (dCons (dC (.str ("1" : Str))) (dCons (dTup (dCons (dC (.int 1)) (dCons (dC (.int 2)) dNil))) (dCons (dLst (dCons (dC (.int 1)) dNil)) (dCons dDk0 (dCons (dC (.str ("1/2" : Str))) (dCons (dTup dNil) dNil)))))))))) dNil)))) (dIfS (dTru (dBin (fIsB true) (dFn (fMt 1 F_Ratio_is_number) (dCons (dVar 4) dNil)) (dC (.bl false)))) (dRet (dC (.bl false))) dSkip))))
/-- slots: _law_script, _law_k, _law_source_here, _law_turn, _law_odd, _law_top, _law_bottom, _law_one, _law_again, _law_whole -/
def d_law_k02 (CR : Addr) : DS := (dSeq (dFor (iRange1 (dCons (dFn fMax2 (dCons (dC (.int 1)) (dCons (dFn fMin2 (dCons (dC (.int 4)) (dCons (dFn fLen (dCons (dVar 0) dNil)) dNil))) dNil))) dNil)) (gN 1) (b_law_k02_2 CR)) (dRet (dBin (gEq false) (dFnS F_w_all_taken (dCons (dLst (dCons (dFn (fMakeR okR) (dCons (dC (.int 3)) (dCons (dC (.int 6)) dNil))) (dCons (dFn (fMakeR okR) (dCons (dC (.int 0)) (dCons (dUn fNegI (dC (.int 7))) dNil))) (dCons (dFn (fMakeR okR) (dCons (dC (.int 4)) (dCons (dUn fNegI (dC (.int 6))) dNil))) dNil)))) dNil)) (dLst (dCons (dTup (dCons (dC (.int 1)) (dCons (dC (.int 2)) dNil))) (dCons (dTup (dCons (dC (.int 0)) (dCons (dC (.int 1)) dNil))) (dCons (dTup (dCons (dUn fNegI (dC (.int 2))) (dCons (dC (.int 3)) dNil))) dNil)))))))
def F_law_k02 (CR : Addr) : DF := runBody 10 (d_law_k02 CR)
end LD

set_option maxHeartbeats 2000000
namespace L3
open PySem PySem.Spec PyProof.Rows L2
/-! ## zip of a tuple and a list, in either order: sequences by their kind -/
def IsQ : Bool → Heap → Addr → Array Value → Prop
  | true, h, l, xs => h.IsTuple l xs
  | false, h, l, xs => h.IsList l xs
def IsQi : Bool → Heap → Addr → Addr → Nat → Prop
  | true, h, it, l, k => h.IsTupleIter it l k
  | false, h, it, l, k => h.IsListIter it l k
theorem IsQ.up {t : Bool} {h h' : Heap} {l : Addr} {xs : Array Value} (x : IsQ t h l xs) (e : ∀ o, h.get? l = some o → h'.get? l = some o) : IsQ t h' l xs := by
  cases t with
  | true => exact Heap.IsTuple.at x e
  | false => exact Heap.IsList.at x e
theorem IsQi.up {t : Bool} {h h' : Heap} {it l : Addr} {k : Nat} (x : IsQi t h it l k) (e : ∀ o, h.get? it = some o → h'.get? it = some o) : IsQi t h' it l k := by
  cases t with
  | true => exact Heap.IsTupleIter.at x e
  | false => exact Heap.IsListIter.at x e
theorem IsQi.obj {t : Bool} {h : Heap} {it l : Addr} {k : Nat} (x : IsQi t h it l k) : ∃ o, h.get? it = some o ∧ ∀ v, o.data ≠ .cell v := by
  cases t with
  | true =>
    obtain ⟨o, e, _, d⟩ := x
    exact ⟨o, e, fun v q => by rw [d] at q; cases q⟩
  | false =>
    obtain ⟨o, e, _, d⟩ := x
    exact ⟨o, e, fun v q => by rw [d] at q; cases q⟩
theorem IsQ.obj {t : Bool} {h : Heap} {l : Addr} {xs : Array Value} (x : IsQ t h l xs) : ∃ o, h.get? l = some o := by
  cases t with
  | true => exact ⟨_, x.choose_spec.1⟩
  | false => exact ⟨_, x.choose_spec.1⟩

section
variable {prog : Program} {w : World} {A : Around} {E : Value → Shared → Prop} {s : Shared} {t1 t2 : Bool} {z P O j1 j2 l1 l2 : Addr} {k1 k2 : Nat} {xs ys : Array Value} {x y p q : Value}
theorem nextQ {t : Bool} {it l : Addr} {k : Nat} {xs : Array Value} {x : Value} {Q : Value → Shared → Prop} (a : IsQi t s.heap it l k) (b : IsQ t s.heap l xs) (hx : xs[k]? = some x)
    (h : ∀ g, IsQi t g it l (k + 1) → Heap.SameBut it s.heap g → Q x { s with heap := g }) : wpAny (model prog w) A (Builtin.SmallTypes.nextOf (.ref it)) Q E s := by
  cases t with
  | true => exact RZ.nextOf_tuple_item a b hx h
  | false => exact wpAny_nextOf_list_item a b hx h
theorem endQ {t : Bool} {it l : Addr} {k : Nat} {xs : Array Value} {Q : Value → Shared → Prop} (hh : A.handled = none) (a : IsQi t s.heap it l k) (b : IsQ t s.heap l xs) (hx : xs[k]? = none)
    (h : ∀ g e, Heap.ExtBut it s.heap g → (∃ o, g.get? e = some o ∧ o.cls = .type "StopIteration") → E (.ref e) { s with heap := g }) : wpAny (model prog w) A (Builtin.SmallTypes.nextOf (.ref it)) Q E s := by
  cases t with
  | true => exact RZ.nextOf_tuple_end hh a b hx h
  | false => exact wpAny_nextOf_list_end hh a b hx h
/-- one turn -/
theorem zipQ_item {Q : Value → Shared → Prop} (D : ZipApart z P O j1 j2 l1 l2) (hz : IsZip s.heap z P O .none) (hP : IsPair s.heap P (.ref j1) (.ref j2)) (hO : IsPair s.heap O p q)
    (a1 : IsQi t1 s.heap j1 l1 k1) (a2 : IsQi t2 s.heap j2 l2 k2) (b1 : IsQ t1 s.heap l1 xs) (b2 : IsQ t2 s.heap l2 ys) (hx : xs[k1]? = some x) (hy : ys[k2]? = some y)
    (hQ : ∀ g, IsZip g z P O (rawInt s.heap.objs.size) → IsPair g O x y → IsQi t1 g j1 l1 (k1 + 1) → IsQi t2 g j2 l2 (k2 + 1) → IsPair g s.heap.objs.size x y → g.objs.size = s.heap.objs.size + 1 →
      (∀ c o, c ≠ z → c ≠ O → c ≠ j1 → c ≠ j2 → s.heap.get? c = some o → g.get? c = some o) → Q (.ref s.heap.objs.size) { s with heap := g }) :
    wpAny (model prog w) A (Builtin.«zip.__next__» ⟨[.ref z], []⟩) (fun fin s' => ∃ v, fin = .done (.ret v) ∧ Q v s') E s := by
  have see : ∀ {r : Unit → Sem Fin} {R : Fin → Shared → Prop}, True := fun {_ _} => trivial
  show wpAny (model prog w) A (field (.ref z) 2 >>= _) _ _ s
  refine wpAny_bind (wpAny_field (s := s) hz rfl (x := .bool false) rfl ?_)
  show wpAny (model prog w) A (field (.ref z) 3 >>= _) _ _ s
  refine wpAny_bind (wpAny_field (s := s) hz rfl (x := .ref P) rfl ?_)
  refine wpAny_bind (wpAny_seqItems (s := s) hP rfl ?_)
  show wpAny (model prog w) A (Builtin.SmallTypes.ownedTupleIsFree (.ref z) >>= _) _ _ s
  unfold Builtin.SmallTypes.ownedTupleIsFree
  refine wpAny_bind (wpAny_bind (wpAny_field (s := s) hz rfl (x := .none) rfl (wpAny_pure ?_)))
  simp only [if_true]
  refine wpAny_bind (wpAny_rule (wpAny_bind (wpAny_field (s := s) hz rfl (x := .ref O) rfl ?_)))
  refine wpAny_bind (wpAny_setField_rec hz (by simp) fun g1 hz1 s1 => ?_)
  replace hz1 : IsZip g1 z P O .ellipsis := hz1
  have e1 := s1.extBut
  simp only [List.zipIdx_cons, List.zipIdx_nil, List.forIn_cons, List.forIn_nil]
  refine wpAny_bind (wpAny_bind (wpAny_bind (wpAny_onRaise ?_)))
  show wpAny (model prog w) A (Builtin.SmallTypes.nextOf (.ref j1) >>= _) _ _ _
  refine wpAny_bind (nextQ (a1.up fun o => e1 _ o D.i1z) (b1.up fun o => e1 _ o D.l1z) hx fun g2 a1' s2 => wpAny_pure ?_)
  have e2 := s2.extBut
  have hO2 : IsPair g2 O p q := e2 _ _ D.TOi1 (e1 _ _ D.TOz hO)
  refine wpAny_bind (wpAny_seqItems hO2 rfl (wpAny_bind (wpAny_updateSeq_pair hO2 fun g3 hO3 s3 => ?_)))
  replace hO3 : IsPair g3 O x q := hO3
  have e3 := s3.extBut
  refine wpAny_bind (wpAny_letGo (wpAny_pure (wpAny_bind (wpAny_bind (wpAny_onRaise ?_)))))
  show wpAny (model prog w) A (Builtin.SmallTypes.nextOf (.ref j2) >>= _) _ _ _
  refine wpAny_bind (nextQ (((a2.up fun o => e1 _ o D.i2z).up fun o => e2 _ o D.i12.symm).up fun o => e3 _ o D.TOi2.symm)
    (((b2.up fun o => e1 _ o D.l2z).up fun o => e2 _ o D.l2i1).up fun o => e3 _ o D.l2TO) hy fun g4 a2' s4 => wpAny_pure ?_)
  have e4 := s4.extBut
  have hO4 : IsPair g4 O x q := e4 _ _ D.TOi2 hO3
  refine wpAny_bind (wpAny_seqItems hO4 rfl (wpAny_bind (wpAny_updateSeq_pair hO4 fun g5 hO5 s5 => ?_)))
  replace hO5 : IsPair g5 O x y := hO5
  have e5 := s5.extBut
  refine wpAny_bind (wpAny_letGo (wpAny_pure (wpAny_pure (wpAny_bind (wpAny_seqItems hO5 rfl (wpAny_bind (wpAny_newTuple ?_)))))))
  have n5 : g5.objs.size = s.heap.objs.size := by rw [s5.1, s4.1, s3.1, s2.1, s1.1]
  have hz5 : IsZip g5 z P O .ellipsis := e5 _ _ D.TOz.symm (e4 _ _ D.i2z.symm (e3 _ _ D.TOz.symm (e2 _ _ D.i1z.symm hz1)))
  have k5 : ∀ c o, c ≠ z → c ≠ O → c ≠ j1 → c ≠ j2 → s.heap.get? c = some o → g5.get? c = some o := fun c o c1 c2 c3 c4 e => e5 _ _ c2 (e4 _ _ c4 (e3 _ _ c2 (e2 _ _ c3 (e1 _ _ c1 e))))
  have a15 : IsQi t1 g5 j1 l1 (k1 + 1) := ((a1'.up fun o => e3 _ o D.TOi1.symm).up fun o => e4 _ o D.i12).up fun o => e5 _ o D.TOi1.symm
  have a25 : IsQi t2 g5 j2 l2 (k2 + 1) := a2'.up fun o => e5 _ o D.TOi2.symm
  have zlt : z < g5.objs.size := Heap.lt_size hz5
  show wpAny (model prog w) A (Builtin.SmallTypes.ownedTupleHandOut (.ref z) (.ref g5.objs.size) >>= _) _ _ _
  unfold Builtin.SmallTypes.ownedTupleHandOut
  have hz6 : IsZip (g5.push { cls := .type "tuple", data := .seq #[x, y] }) z P O .ellipsis := Heap.get?_push_of_some _ hz5
  refine wpAny_bind (wpAny_bind (wpAny_setField_rec hz6 (by simp) fun g7 hz7 s7 => ?_))
  replace hz7 : IsZip g7 z P O (rawInt g5.objs.size) := hz7
  refine wpAny_setField_rec hz7 (by simp) fun g8 hz8 s8 => ?_
  replace hz8 : IsZip g8 z P O (rawInt g5.objs.size) := hz8
  have up : ∀ c o, c ≠ z → g5.get? c = some o → g8.get? c = some o := fun c o c1 e => s8.extBut _ _ c1 (s7.extBut _ _ c1 (Heap.get?_push_of_some _ e))
  have hT : IsPair g8 g5.objs.size x y := s8.extBut _ _ (Nat.ne_of_gt zlt) (s7.extBut _ _ (Nat.ne_of_gt zlt) (Heap.get?_push_size _ rfl))
  have n8 : g8.objs.size = g5.objs.size + 1 := by rw [s8.1, s7.1, Heap.size_push]
  rw [n5] at hz8 hT n8
  refine wpAny_pure ⟨_, rfl, ?_⟩
  show Q (.ref g5.objs.size) _
  rw [n5]
  exact hQ g8 hz8 (up _ _ D.TOz hO5) (a15.up fun o => up _ o D.i1z) (a25.up fun o => up _ o D.i2z) hT n8 fun c o c1 c2 c3 c4 e => up c o c1 (k5 c o c1 c2 c3 c4 e)
/-- the last turn -/
theorem zipQ_end {Q : Fin → Shared → Prop} (hh : A.handled = none) (D : ZipApart z P O j1 j2 l1 l2) (hz : IsZip s.heap z P O .none) (hP : IsPair s.heap P (.ref j1) (.ref j2)) (hO : IsPair s.heap O p q)
    (a1 : IsQi t1 s.heap j1 l1 k1) (a2 : IsQi t2 s.heap j2 l2 k2) (b1 : IsQ t1 s.heap l1 xs) (b2 : IsQ t2 s.heap l2 ys) (hend : xs[k1]? = none ∨ ys[k2]? = none)
    (hE : ∀ g e, (∀ c o, c ≠ z → c ≠ O → c ≠ j1 → c ≠ j2 → s.heap.get? c = some o → g.get? c = some o) → (∃ o, g.get? e = some o ∧ o.cls = .type "StopIteration") → E (.ref e) { s with heap := g }) :
    wpAny (model prog w) A (Builtin.«zip.__next__» ⟨[.ref z], []⟩) Q E s := by
  show wpAny (model prog w) A (field (.ref z) 2 >>= _) _ _ s
  refine wpAny_bind (wpAny_field (s := s) hz rfl (x := .bool false) rfl ?_)
  show wpAny (model prog w) A (field (.ref z) 3 >>= _) _ _ s
  refine wpAny_bind (wpAny_field (s := s) hz rfl (x := .ref P) rfl ?_)
  refine wpAny_bind (wpAny_seqItems (s := s) hP rfl ?_)
  show wpAny (model prog w) A (Builtin.SmallTypes.ownedTupleIsFree (.ref z) >>= _) _ _ s
  unfold Builtin.SmallTypes.ownedTupleIsFree
  refine wpAny_bind (wpAny_bind (wpAny_field (s := s) hz rfl (x := .none) rfl (wpAny_pure ?_)))
  simp only [if_true]
  refine wpAny_bind (wpAny_rule (wpAny_bind (wpAny_field (s := s) hz rfl (x := .ref O) rfl ?_)))
  refine wpAny_bind (wpAny_setField_rec hz (by simp) fun g1 hz1 s1 => ?_)
  replace hz1 : IsZip g1 z P O .ellipsis := hz1
  have e1 := s1.extBut
  simp only [List.zipIdx_cons, List.zipIdx_nil, List.forIn_cons, List.forIn_nil]
  refine wpAny_bind (wpAny_bind (wpAny_bind (wpAny_onRaise ?_)))
  show wpAny (model prog w) A (Builtin.SmallTypes.nextOf (.ref j1) >>= _) _ _ _
  have fin : ∀ {g : Heap} {e : Addr}, (∀ c o, c ≠ z → c ≠ O → c ≠ j1 → c ≠ j2 → s.heap.get? c = some o → g.get? c = some o) → (∃ o, g.get? e = some o ∧ o.cls = .type "StopIteration") → (hz' : IsZip g z P O .ellipsis) →
      wpAny (model prog w) A (setField (.ref z) 0 .none) (fun _ s' => E (.ref e) s') E { s with heap := g } := fun {g e} k he hz' => by
    obtain ⟨oe, he, hc⟩ := he
    have ez : e ≠ z := fun r => by subst r; rw [hz'] at he; cases he; simp at hc
    exact wpAny_setField_rec hz' (by simp) fun g' _ s' => hE g' e (fun c o c1 c2 c3 c4 r => s'.extBut _ _ c1 (k c o c1 c2 c3 c4 r)) ⟨oe, s'.extBut _ _ ez he, hc⟩
  cases hx : xs[k1]? with
  | none =>
    exact wpAny_bind (endQ hh (a1.up fun o => e1 _ o D.i1z) (b1.up fun o => e1 _ o D.l1z) hx fun g2 e s2 he => fin (fun c o c1 _ c3 _ r => s2 _ _ c3 (e1 _ _ c1 r)) he (s2 _ _ D.i1z.symm hz1))
  | some x =>
    have hy : ys[k2]? = none := by
      rcases hend with h | h
      · rw [hx] at h; cases h
      · exact h
    refine wpAny_bind (nextQ (a1.up fun o => e1 _ o D.i1z) (b1.up fun o => e1 _ o D.l1z) hx fun g2 a1' s2 => wpAny_pure ?_)
    have e2 := s2.extBut
    have hO2 : IsPair g2 O p q := e2 _ _ D.TOi1 (e1 _ _ D.TOz hO)
    refine wpAny_bind (wpAny_seqItems hO2 rfl (wpAny_bind (wpAny_updateSeq_pair hO2 fun g3 hO3 s3 => ?_)))
    have e3 := s3.extBut
    refine wpAny_bind (wpAny_letGo (wpAny_pure (wpAny_bind (wpAny_bind (wpAny_onRaise ?_)))))
    show wpAny (model prog w) A (Builtin.SmallTypes.nextOf (.ref j2) >>= _) _ _ _
    exact wpAny_bind (endQ hh (((a2.up fun o => e1 _ o D.i2z).up fun o => e2 _ o D.i12.symm).up fun o => e3 _ o D.TOi2.symm)
      (((b2.up fun o => e1 _ o D.l2z).up fun o => e2 _ o D.l2i1).up fun o => e3 _ o D.l2TO) hy fun g4 e s4 he => fin (fun c o c1 c2 c3 c4 r => s4 _ _ c4 (e3 _ _ c2 (e2 _ _ c3 (e1 _ _ c1 r)))) he (s4 _ _ D.i2z.symm (e3 _ _ D.TOz.symm (e2 _ _ D.i1z.symm hz1))))
end
end L3

set_option maxHeartbeats 2000000
namespace L3
open PySem PySem.Spec PyProof.Rows L2
/-! ## zip(a, b): made, walked, in a loop -/
abbrev itQ (t : Bool) (l : Addr) : Obj := { cls := .type (match t with | true => "tuple_iterator" | false => "list_iterator"), data := .fields #[.ref l, .int 0 0] }
abbrev zq1 (h : Heap) (t : Bool) (l1 : Addr) : Heap := h.push (itQ t l1)
abbrev zq2 (h : Heap) (t u : Bool) (l1 l2 : Addr) : Heap := (zq1 h t l1).push (itQ u l2)
abbrev zq3 (h : Heap) (t u : Bool) (l1 l2 : Addr) : Heap := (zq2 h t u l1 l2).push { cls := .type "tuple", data := .seq #[.ref h.objs.size, .ref (zq1 h t l1).objs.size] }
abbrev zq4 (h : Heap) (t u : Bool) (l1 l2 : Addr) : Heap := (zq3 h t u l1 l2).push { cls := .type "tuple", data := .seq #[.none, .none] }
abbrev zq5 (h : Heap) (t u : Bool) (l1 l2 : Addr) : Heap := (zq4 h t u l1 l2).push { cls := .type "zip", data := .fields #[.none, .bool false, .bool false, .ref (zq2 h t u l1 l2).objs.size, .ref (zq3 h t u l1 l2).objs.size] }
theorem meets_zipQ (t u : Bool) (l1 l2 : Addr) (xs ys : Array Value) :
    Meets (Builtin.«zip.__new__» ⟨[.type "zip", .ref l1, .ref l2], []⟩) (fun _ R s => IsQ t s.heap l1 xs ∧ IsQ u s.heap l2 ys ∧ R (.ok (.ret (.ref (zq4 s.heap t u l1 l2).objs.size))) { s with heap := zq5 s.heap t u l1 l2 }) := by
  cases t <;> cases u
  · exact .of_wp fun prog w A R s h => by
      obtain ⟨hp, g, d, tk, os⟩ := s
      obtain ⟨a, b, h⟩ := h
      have hsub := sub_zip
      have A1 : Heap.IsList (Shared.heap ⟨hp, g, d, tk, os⟩) l1 xs := a
      have A2 : Heap.IsList (Shared.heap ⟨hp.push (itQ false l1), g, d, tk, os⟩) l2 ys := Heap.IsList.push b _
      wp_walk using wpAny_pyIter_list A1, wpAny_pyIter_list A2
      exact ⟨_, rfl, h⟩
  · exact .of_wp fun prog w A R s h => by
      obtain ⟨hp, g, d, tk, os⟩ := s
      obtain ⟨a, b, h⟩ := h
      have hsub := sub_zip
      have A1 : Heap.IsList (Shared.heap ⟨hp, g, d, tk, os⟩) l1 xs := a
      have A2 : Heap.IsTuple (Shared.heap ⟨hp.push (itQ false l1), g, d, tk, os⟩) l2 ys := Heap.IsTuple.push b _
      wp_walk using wpAny_pyIter_list A1, wpAny_pyIter_tuple A2
      exact ⟨_, rfl, h⟩
  · exact .of_wp fun prog w A R s h => by
      obtain ⟨hp, g, d, tk, os⟩ := s
      obtain ⟨a, b, h⟩ := h
      have hsub := sub_zip
      have A1 : Heap.IsTuple (Shared.heap ⟨hp, g, d, tk, os⟩) l1 xs := a
      have A2 : Heap.IsList (Shared.heap ⟨hp.push (itQ true l1), g, d, tk, os⟩) l2 ys := Heap.IsList.push b _
      wp_walk using wpAny_pyIter_tuple A1, wpAny_pyIter_list A2
      exact ⟨_, rfl, h⟩
  · exact .of_wp fun prog w A R s h => by
      obtain ⟨hp, g, d, tk, os⟩ := s
      obtain ⟨a, b, h⟩ := h
      have hsub := sub_zip
      have A1 : Heap.IsTuple (Shared.heap ⟨hp, g, d, tk, os⟩) l1 xs := a
      have A2 : Heap.IsTuple (Shared.heap ⟨hp.push (itQ true l1), g, d, tk, os⟩) l2 ys := Heap.IsTuple.push b _
      wp_walk using wpAny_pyIter_tuple A1, wpAny_pyIter_tuple A2
      exact ⟨_, rfl, h⟩
theorem itQ_is {t : Bool} {h : Heap} {it l : Addr} (e : h.get? it = some (itQ t l)) : IsQi t h it l 0 := by
  cases t with
  | true => exact ⟨_, e, rfl, rfl⟩
  | false => exact ⟨_, e, rfl, rfl⟩
section
variable {prog : Program} {w : World} {A : Around} {E : Value → Shared → Prop} {s : Shared}
theorem call_zipQ {t u : Bool} {l1 l2 : Addr} {xs ys : Array Value} {Q : Value → Shared → Prop} (a : IsQ t s.heap l1 xs) (b : IsQ u s.heap l2 ys)
    (h : ∀ g, IsZip g (s.heap.objs.size + 4) (s.heap.objs.size + 2) (s.heap.objs.size + 3) .none → IsPair g (s.heap.objs.size + 2) (.ref s.heap.objs.size) (.ref (s.heap.objs.size + 1)) →
      IsPair g (s.heap.objs.size + 3) .none .none → IsQi t g s.heap.objs.size l1 0 → IsQi u g (s.heap.objs.size + 1) l2 0 → (∀ c o, s.heap.get? c = some o → g.get? c = some o) → Q (.ref (s.heap.objs.size + 4)) { s with heap := g }) :
    wpAny (model prog w) A (call (.type "zip") [.ref l1, .ref l2]) Q E s := by
  refine callType_new F.called_zip (by decide) (F.typeCall_zip_2 _ _) (F.newCall_zip_2 _ _) (fun obj => F.args_object_init_3 obj _ _) F.entry_zip_new (meets_zipQ t u l1 l2 xs ys) ⟨a, b, ?_⟩
  have n1 : (zq1 s.heap t l1).objs.size = s.heap.objs.size + 1 := Heap.size_push ..
  have n2 : (zq2 s.heap t u l1 l2).objs.size = s.heap.objs.size + 2 := by rw [Heap.size_push, n1]
  have n3 : (zq3 s.heap t u l1 l2).objs.size = s.heap.objs.size + 3 := by rw [Heap.size_push, n2]
  have n4 : (zq4 s.heap t u l1 l2).objs.size = s.heap.objs.size + 4 := by rw [Heap.size_push, n3]
  have up : ∀ {h : Heap} {c : Addr} {o v : Obj}, h.get? c = some o → (h.push v).get? c = some o := fun e => Heap.get?_push_of_some _ e
  have g5 : (zq5 s.heap t u l1 l2).get? (zq4 s.heap t u l1 l2).objs.size = some _ := Heap.get?_push_size _ rfl
  have g4 : (zq5 s.heap t u l1 l2).get? (zq3 s.heap t u l1 l2).objs.size = some _ := up (Heap.get?_push_size _ rfl)
  have g3 : (zq5 s.heap t u l1 l2).get? (zq2 s.heap t u l1 l2).objs.size = some _ := up (up (Heap.get?_push_size _ rfl))
  have g2 : (zq5 s.heap t u l1 l2).get? (zq1 s.heap t l1).objs.size = some (itQ u l2) := up (up (up (Heap.get?_push_size _ rfl)))
  have g1 : (zq5 s.heap t u l1 l2).get? s.heap.objs.size = some (itQ t l1) := up (up (up (up (Heap.get?_push_size _ rfl))))
  show _ ∧ _
  rw [n2, n3, n4] at g5
  rw [n1, n2] at g3
  rw [n3] at g4
  rw [n1] at g2
  rw [n4]
  exact ⟨⟨_, g5, rfl⟩, h _ g5 g3 g4 (itQ_is g1) (itQ_is g2) fun c o r => up (up (up (up (up r))))⟩
theorem pyNext_zipQ {t u : Bool} {z P O j1 j2 l1 l2 : Addr} {k1 k2 : Nat} {xs ys : Array Value} {x y p q : Value} {Q : Option Value → Shared → Prop} (D : ZipApart z P O j1 j2 l1 l2) (hz : IsZip s.heap z P O .none) (hP : IsPair s.heap P (.ref j1) (.ref j2)) (hO : IsPair s.heap O p q)
    (a1 : IsQi t s.heap j1 l1 k1) (a2 : IsQi u s.heap j2 l2 k2) (b1 : IsQ t s.heap l1 xs) (b2 : IsQ u s.heap l2 ys) (hx : xs[k1]? = some x) (hy : ys[k2]? = some y)
    (hQ : ∀ g, IsZip g z P O (rawInt s.heap.objs.size) → IsPair g O x y → IsQi t g j1 l1 (k1 + 1) → IsQi u g j2 l2 (k2 + 1) → IsPair g s.heap.objs.size x y → g.objs.size = s.heap.objs.size + 1 →
      (∀ c o, c ≠ z → c ≠ O → c ≠ j1 → c ≠ j2 → s.heap.get? c = some o → g.get? c = some o) → Q (some (.ref s.heap.objs.size)) { s with heap := g }) : wpAny (model prog w) A (pyNext (.ref z)) Q E s := by
  have T : s.TypeIs (.ref z) "zip" := ⟨_, hz, rfl⟩
  unfold pyNext
  exact wpAny_bind (wpAny_attempt (wpAny_callSpecial?_slot (name := Str.ofString "__next__") T F.slot_zip_next (wpAny_call_entry F.slot_zip_next T F.entry_zip_next
    (zipQ_item D hz hP hO a1 a2 b1 b2 hx hy fun g r1 r2 r3 r4 r5 r6 r7 => wpAny_pure (hQ g r1 r2 r3 r4 r5 r6 r7)) (F.args_zip_next_1 _))))
theorem pyNext_zipQe {t u : Bool} {z P O j1 j2 l1 l2 : Addr} {k1 k2 : Nat} {xs ys : Array Value} {p q : Value} {Q : Option Value → Shared → Prop} (hh : A.handled = none) (D : ZipApart z P O j1 j2 l1 l2) (hz : IsZip s.heap z P O .none) (hP : IsPair s.heap P (.ref j1) (.ref j2)) (hO : IsPair s.heap O p q)
    (a1 : IsQi t s.heap j1 l1 k1) (a2 : IsQi u s.heap j2 l2 k2) (b1 : IsQ t s.heap l1 xs) (b2 : IsQ u s.heap l2 ys) (hend : xs[k1]? = none ∨ ys[k2]? = none)
    (hQ : ∀ g, (∀ c o, c ≠ z → c ≠ O → c ≠ j1 → c ≠ j2 → s.heap.get? c = some o → g.get? c = some o) → Q none { s with heap := g }) : wpAny (model prog w) A (pyNext (.ref z)) Q E s := by
  have T : s.TypeIs (.ref z) "zip" := ⟨_, hz, rfl⟩
  unfold pyNext
  refine wpAny_bind (wpAny_attempt (wpAny_callSpecial?_slot (name := Str.ofString "__next__") T F.slot_zip_next (wpAny_call_entry F.slot_zip_next T F.entry_zip_next
    (zipQ_end hh D hz hP hO a1 a2 b1 b2 hend fun g e k he => ?_) (F.args_zip_next_1 _))))
  obtain ⟨o, he, hc⟩ := he
  exact wpAny_bind (wpAny_isInstance (T := "StopIteration") (b := true) ⟨o, he, hc⟩ isSubtype_stop (wpAny_pure (hQ _ k)))
end
/-- the sequence at a, by its kind -/
def SqQ (K : PySem.W.Frag) : Bool → Hp → Addr → List V → Prop
  | true, H, a, xs => SqT K H a xs
  | false, H, a, xs => SqL K H a xs
section
variable {X : Cx} {pins : List (Addr × Obj)} {σ : St} {H : Hp} {s : Shared} {t : Bool} {a : Addr} {xs ys : List V}
theorem seqQ (I : Inv X pins σ H s) (h : SqQ X.K t H a xs) : ∃ its : List Value, Vals xs its ∧ IsQ t s.heap a its.toArray := by
  cases t with
  | true =>
    obtain ⟨its, r, p, _⟩ := I.tuple h
    exact ⟨its, r, p⟩
  | false =>
    obtain ⟨its, r, p, _⟩ := I.list h
    exact ⟨its, r, p.isList⟩
theorem seqQ_inj (I : Inv X pins σ H s) (h : SqQ X.K t H a xs) (h' : SqQ X.K t H a ys) : xs = ys := by
  cases t with
  | true => exact I.tuple_inj h h'
  | false => exact I.list_inj h h'
end
end L3

set_option maxHeartbeats 2000000
namespace L3
open PySem PySem.Spec PyProof.Rows L2
/-! ## zip(a, b) in a loop -/
def ItzQ (K : PySem.W.Frag) (t u : Bool) (a b : Addr) : It :=
  ⟨fun i H => ∃ (xs ys : List V) (x y : V), SqQ K t H a xs ∧ SqQ K u H b ys ∧ xs[i]? = some x ∧ ys[i]? = some y,
    fun i H v H' => ∃ T x y, v = .ref T ∧ H T = none ∧ H' = upd H T (.tup [x, y]) ∧ (∀ xs, SqQ K t H a xs → xs[i]? = some x) ∧ ∀ ys, SqQ K u H b ys → ys[i]? = some y,
    fun i H => ∃ xs ys : List V, SqQ K t H a xs ∧ SqQ K u H b ys ∧ (xs.length ≤ i ∨ ys.length ≤ i)⟩
theorem five {c z P O j1 j2 : Addr} (h : c ∈ [z, P, O, j1, j2]) : c = z ∨ c = P ∨ c = O ∨ c = j1 ∨ c = j2 := by simpa using h
theorem turn_zipQ {P : Program} {w : World} {K : PySem.W.Frag} {elts : List Expr} {kk : Nat} {tpos : Pos} {t u : Bool} {a b z PI O j1 j2 : Addr} (D : ZipApart z PI O j1 j2 a b) :
    Turn P w K (.Tuple elts kk tpos) (ItzQ K t u a b) [z, PI, O, j1, j2] z (fun i h => IsZip h z PI O .none ∧ IsPair h PI (.ref j1) (.ref j2) ∧ (∃ x y, IsPair h O x y) ∧ IsQi t h j1 a i ∧ IsQi u h j2 b i) where
  mem := by simp
  obj := fun i h st c hc => by
    obtain ⟨hz, hP, ⟨x, y, hO⟩, h1, h2⟩ := st
    rcases five hc with r | r | r | r | r
    · subst r; exact ⟨_, hz, fun v e => nomatch e⟩
    · subst r; exact ⟨_, hP, fun v e => nomatch e⟩
    · subst r; exact ⟨_, hO, fun v e => nomatch e⟩
    · subst r; exact h1.obj
    · subst r; exact h2.obj
  keep := fun i h h' st k => by
    obtain ⟨hz, hP, ⟨x, y, hO⟩, h1, h2⟩ := st
    exact ⟨k z (by simp) _ hz, k PI (by simp) _ hP, ⟨x, y, k O (by simp) _ hO⟩, h1.up fun o e => k j1 (by simp) o e, h2.up fun o e => k j2 (by simp) o e⟩
  item := by
    intro X eP ew eK hc i pins s σ H E I hf st hg
    subst eP ew eK
    obtain ⟨hz, hP, ⟨x0, y0, hO⟩, h1, h2⟩ := st
    obtain ⟨xs, ys, x, y, qx, qy, ex, ey⟩ := hg
    obtain ⟨us, rv, p1⟩ := seqQ I qx
    obtain ⟨vs, rv2, p2⟩ := seqQ I qy
    obtain ⟨u1, hu, ru⟩ := rv.get ex
    obtain ⟨u2, hu2, ru2⟩ := rv2.get ey
    have zl : z < s.heap.objs.size := Heap.lt_size hz
    refine pyNext_zipQ D hz hP hO h1 h2 p1 p2 (x := u1) (y := u2) (by simpa using hu) (by simpa using hu2) fun g hz' hO' h1' h2' hT n1 hk => ?_
    refine ⟨_, rfl, wpAny_letOwnedTupleGo_zip (s := { s with heap := g }) hz' fun g2 hz2 sb => ?_⟩
    have hT2 : g2.get? s.heap.objs.size = some { cls := .type "tuple", data := .seq #[u1, u2] } := (sb.2 _ (Nat.ne_of_gt zl)).trans hT
    have new : ObjOk X.prog X.w (upd H s.heap.objs.size (.tup [x, y])) g2 s.heap.objs.size (.tup [x, y]) := ⟨by show 2 ≤ sizeLine; decide, [u1, u2], .cons ru (.cons ru2 .nil), ⟨_, hT2, rfl, _, rfl⟩⟩
    have nin : ∀ {c : Addr}, c ∉ [z, PI, O, j1, j2] → c ≠ z ∧ c ≠ O ∧ c ≠ j1 ∧ c ≠ j2 := fun {c} h => ⟨fun r => h (by simp [r]), fun r => h (by simp [r]), fun r => h (by simp [r]), fun r => h (by simp [r])⟩
    have J : Inv X pins σ (upd H s.heap.objs.size (.tup [x, y])) { s with heap := g2 } :=
      I.turnedNew (t' := s.toks) (ch := [z, PI, O, j1, j2]) (fun c o hb e => (sb.2 c (nin hb).1).trans (hk c o (nin hb).1 (nin hb).2.1 (nin hb).2.2.1 (nin hb).2.2.2 e)) hf (Nat.le_refl _) new
    refine ⟨.ref s.heap.objs.size, _, J, rfl, ⟨_, x, y, rfl, I.hok.fresh (Nat.le_refl _), rfl, fun l hl => by rw [seqQ_inj I hl qx]; exact ex, fun l hl => by rw [seqQ_inj I hl qy]; exact ey⟩, ⟨hz2, (sb.2 _ D.TIz).trans (hk _ _ D.TIz D.TITO D.TIi1 D.TIi2 hP), ⟨u1, u2, (sb.2 _ D.TOz).trans hO'⟩,
      h1'.up fun o e => (sb.2 _ D.i1z).trans e, h2'.up fun o e => (sb.2 _ D.i2z).trans e⟩, fun c hcm => ?_⟩
    have lt : c < s.heap.objs.size := by
      rcases five hcm with r | r | r | r | r
      · rw [r]; exact zl
      · rw [r]; exact Heap.lt_size hP
      · rw [r]; exact Heap.lt_size hO
      · rw [r]; obtain ⟨o, e, _⟩ := h1.obj; exact Heap.lt_size e
      · rw [r]; obtain ⟨o, e, _⟩ := h2.obj; exact Heap.lt_size e
    rw [upd_ne (Nat.ne_of_lt lt)]
    exact (hf c hcm).1
  done := by
    intro X eP ew eK hc i pins s σ H E I hf st hg
    subst eP ew eK
    obtain ⟨hz, hP, ⟨x0, y0, hO⟩, h1, h2⟩ := st
    obtain ⟨xs, ys, qx, qy, hend⟩ := hg
    obtain ⟨us, rv, p1⟩ := seqQ I qx
    obtain ⟨vs, rv2, p2⟩ := seqQ I qy
    have n1 := rv.length
    have n2 := rv2.length
    have he : us.toArray[i]? = none ∨ vs.toArray[i]? = none := by
      rcases hend with e | e
      · exact .inl (by simp; omega)
      · exact .inr (by simp; omega)
    have nin : ∀ {c : Addr}, c ∉ [z, PI, O, j1, j2] → c ≠ z ∧ c ≠ O ∧ c ≠ j1 ∧ c ≠ j2 := fun {c} h => ⟨fun r => h (by simp [r]), fun r => h (by simp [r]), fun r => h (by simp [r]), fun r => h (by simp [r])⟩
    exact pyNext_zipQe (I.ok.hd hc) D hz hP hO h1 h2 p1 p2 he fun g hk => ⟨rfl, I.turnedL (t' := s.toks) (ch := [z, PI, O, j1, j2]) (fun c o hb e => hk c o (nin hb).1 (nin hb).2.1 (nin hb).2.2.1 (nin hb).2.2.2 e) hf⟩
  self := fun A i s Q E st h => wpAny_pyIter_zip st.1 h
def tZipQ (K : PySem.W.Frag) (ta : TA) : TI := fun σ H R => ta σ H fun vs H1 => ∃ t u a b xs ys, vs = [.ref a, .ref b] ∧ SqQ K t H1 a xs ∧ SqQ K u H1 b ys ∧ R (ItzQ K t u a b) H1
theorem pi_zipQ {X : Cx} {e e2 : Expr} {ta : TA} {p pos tpos : Pos} {elts : List Expr} {kk : Nat} (hg : Gl X "zip") (hm : X.mg "zip" = none) (ha : PA X [e, e2] ta)
    (hs : starEach [e, e2] X.env = (false, eval e X.env) :: starEach [e2] X.env := by rfl) (hpl : (backTo pos (starEach [e2] X.env)).any (·.1) = false := by rfl) : PI X (.Tuple elts kk tpos) (.Call (.Name "zip" p) [e, e2] [] pos) (tZipQ X.K ta) := by
  refine ⟨fun pins s σ H R I h => Call_ (ld_blt I hg hm PyProof.Rows.boot_zip (PyProof.Rows.callWith_type1 (thn (ha.run pos pins s σ H _ I h) fun us s1 ⟨vs, H1, I1, r1, t, u, a, b, xs, ys, ev, qx, qy, q⟩ => ?_) hs hpl))⟩
  subst ev
  obtain ⟨w1, w2, rfl, r1, r2⟩ := vals2 r1
  obtain rfl : w1 = Value.ref a := r1
  obtain rfl : w2 = Value.ref b := r2
  obtain ⟨is, rv, p1⟩ := seqQ I1 qx
  obtain ⟨is2, rv2, p2⟩ := seqQ I1 qy
  obtain ⟨o1, ho1⟩ := p1.obj
  obtain ⟨o2, ho2⟩ := p2.obj
  refine call_zipQ p1 p2 fun g hz hP hO h1 h2 hk => wpAny_pyIter_zip hz ?_
  have J : Inv X pins σ H1 { s1 with heap := g } := I1.kept (t' := s1.toks) hk
  refine ⟨s1.heap.objs.size + 4, [s1.heap.objs.size + 4, s1.heap.objs.size + 2, s1.heap.objs.size + 3, s1.heap.objs.size, s1.heap.objs.size + 1], _, _, H1, rfl, J, turn_zipQ (PySem.W.ktu_apart s1.heap.objs.size a b (Heap.lt_size ho1) (Heap.lt_size ho2)), ⟨hz, hP, ⟨_, _, hO⟩, h1, h2⟩, fun c hc => ?_, q⟩
  have le : s1.heap.objs.size ≤ c := by
    rcases five hc with r | r | r | r | r <;> rw [r]
    · exact Nat.le_add_right _ _
    · exact Nat.le_add_right _ _
    · exact Nat.le_add_right _ _
    · exact Nat.le_refl _
    · exact Nat.le_add_right _ _
  exact I1.fpOk le (I1.hok.fresh le)
/-- the items of a list or a tuple -/
@[simp] def seqP : PV → Option (List PV)
  | .lst xs => some xs | .tup xs => some xs | .frz xs => some xs
  | _ => none
@[simp] def iZipQ (d : DA) : DI := fun s => (d s).bind fun vs s1 => match vs with
  | [p, q] => (match seqP p, seqP q with
    | some xs, some ys => .ok (zipP xs ys) s1
    | _, _ => .bad)
  | _ => .bad
theorem seqP_rep {K : PySem.W.Frag} {g : Gx} {l0 : Lc} {p : PV} {v : V} {xs : List PV} (h : seqP p = some xs) (r : RepG K g l0 p v) : ∃ t a vs, v = .ref a ∧ RepGL K g l0 xs vs ∧ ∀ l, Step l0 l → SqQ K t l.H a vs := by
  cases p with
  | lst ys =>
    cases h
    obtain ⟨a, vs, rfl, n, ha, rs⟩ := r
    exact ⟨false, a, vs, rfl, rs, fun l st => lst_stays (fun z => n (.inl z)) ha st⟩
  | tup ys =>
    cases h
    obtain ⟨a, vs, rfl, ha, rs⟩ := r
    exact ⟨true, a, vs, rfl, rs, fun l st => tup_stays ha st⟩
  | frz ys =>
    cases h
    obtain ⟨a, vs, rfl, ha, rs⟩ := r
    exact ⟨false, a, vs, rfl, rs, fun l st => frz_stays ha st⟩
  | _ => cases h
theorem it_zipQ {K : PySem.W.Frag} {g : Gx} {l0 : Lc} {t u : Bool} {a b : Addr} {vs ws : List V} {xs ys : List PV} (hn : ∀ l, Step l0 l → SqQ K t l.H a vs) (hm : ∀ l, Step l0 l → SqQ K u l.H b ws) (rv : RepGL K g l0 xs vs) (rw' : RepGL K g l0 ys ws) : ItOk K g l0 (ItzQ K t u a b) (zipP xs ys) := fun i g' l st ec hN th => by
  have h1 := hn l st
  have h2 := hm l st
  have hl : (zipP xs ys).length = min xs.length ys.length := by simp [zipP]
  refine ⟨fun x hx => ?_, fun hx => ⟨vs, ws, h1, h2, by rw [← rv.length, ← rw'.length]; omega⟩⟩
  obtain ⟨p, q, hp, hq, rfl⟩ := zipP_get hx
  obtain ⟨v, hv, r⟩ := rv.get hp
  obtain ⟨w, hw, r2⟩ := rw'.get hq
  refine ⟨⟨vs, ws, v, w, h1, h2, hv, hw⟩, fun u' H' z => ?_⟩
  obtain ⟨T, v', w', rfl, hT, rfl, z1, z2⟩ := z
  have e1 : v' = v := by have := z1 vs h1; rw [hv] at this; exact (Option.some.inj this).symm
  have e2 : w' = w := by have := z2 ws h2; rw [hw] at this; exact (Option.some.inj this).symm
  subst e1 e2
  exact ⟨upd_keep hT, fun l1 ea eM eH => pair_rep hT (fun z => th T z hT) ea eM eH (st.rep2 ec hN r) (st.rep2 ec hN r2)⟩
section
variable {X : Cx} {g : Gx} {a b : Expr} {dr : DA} {pos : Pos}
theorem ji_zipQ {p tpos : Pos} {elts : List Expr} {kk : Nat} (ha : JA X g [a, b] dr) (hm : X.mg "zip" = none) (hg : Gl X "zip" := by rfl) (hs : starEach [a, b] X.env = (false, eval a X.env) :: starEach [b] X.env := by rfl) (hpl : (backTo pos (starEach [b] X.env)).any (·.1) = false := by rfl) : JI X g (.Tuple elts kk tpos) (.Call (.Name "zip" p) [a, b] [] pos) (iZipQ dr) :=
  PI.cq (pi_zipQ hg hm ha hs hpl) fun pins s σ H Q I q => by
    obtain ⟨l, s, rfl, ok, q⟩ := q
    refine ⟨l, s, rfl, ok, ?_⟩
    simp only [iZipQ] at q
    cases e1 : dr s with
    | bad => rw [e1] at q; exact q
    | exn e t => rw [e1] at q; exact q
    | ok vs t =>
      rw [e1] at q
      intro l1 us st1 ok1 r1
      simp only [R.bind] at q
      match vs, r1, q with
      | [x, y], r1, q =>
        simp only at q
        obtain ⟨v, r, rfl, h1, w, r2, rfl, h2, h3⟩ := r1
        cases (show r2 = [] from h3)
        cases ex : seqP x with
        | none => rw [ex] at q; exact q.elim
        | some xs =>
          cases ey : seqP y with
          | none => rw [ex, ey] at q; exact q.elim
          | some ys =>
            rw [ex, ey] at q
            obtain ⟨t1, a1, vs1, rfl, rs1, k1⟩ := seqP_rep ex h1
            obtain ⟨t2, a2, vs2, rfl, rs2, k2⟩ := seqP_rep ey h2
            exact ⟨t1, t2, a1, a2, vs1, vs2, rfl, k1 l1 (Step.refl _), k2 l1 (Step.refl _), q l1 _ st1 ok1 (it_zipQ k1 k2 rs1 rs2)⟩
      | [], _, q => exact q.elim
      | [_], _, q => exact q.elim
      | _ :: _ :: _ :: _, _, q => exact q.elim
end
end L3

namespace LD
open PySem L3
def b_need_weights_1 : DS := (dIfS (dOrT (dNotT (dTru (dFnS F_is_number (dCons (dVar 3) dNil)))) (dTru (dBin gLt (dUn fTop (dFnS F_ratio_of (dCons (dVar 3) dNil))) (dC (.int 0))))) (dRaise "BadWeights" "index" (dVar 2)) dSkip)
/-- slots: weights, many, index, value -/
def d_need_weights : DS := (dSeq (dIfS (dOrT (dNotT (dTru (dFnS F_is_row (dCons (dVar 0) dNil)))) (dTru (dBin (gEq true) (dFn fLen (dCons (dVar 0) dNil)) (dVar 1)))) (dRaise "BadWeights" "index" (dC .non)) dSkip) (dSeq (dFor (iEnumQ (dCons (dVar 0) dNil)) (gT 2 (gCons (gN 2) (gCons (gN 3) gNil))) b_need_weights_1) (dRet (dFr (dComp (iSeq (dVar 0)) (gN 3) dYes (dFnS F_ratio_of (dCons (dVar 3) dNil)) [3])))))
def F_need_weights : DF := runBody 4 d_need_weights
def e_need_some_weight_1 : DE := (dBin (gEqR F_Ratio___eq__ (gEq false)) (dVar 2) (dC (.int 0)))
/-- slots: values, weights, weight -/
def d_need_some_weight : DS := (dSeq (dExpr (dFnS F_need_items (dCons (dVar 0) dNil))) (dIfS (dTru (dFn fAll (dCons (dFr (dComp (iSeq (dVar 1)) (gN 2) dYes e_need_some_weight_1 [2])) dNil))) (dRaise "BadWeights" "index" (dC .non)) dSkip))
def F_need_some_weight : DF := runBody 3 d_need_some_weight
def e_weighted_total_1 : DE := (dBin (gRL F_Ratio___mul__ gMul) (dVar 2) (dVar 3))
/-- slots: values, weights, value, weight -/
def d_weighted_total : DS := (dRet (dFnS F_total (dCons (dFr (dComp (iZip (dCons (dVar 0) (dCons (dVar 1) dNil))) (gT 2 (gCons (gN 2) (gCons (gN 3) gNil))) dYes e_weighted_total_1 [2, 3])) dNil)))
def F_weighted_total : DF := runBody 4 d_weighted_total
/-- slots: sample, weights, values, shares -/
def d_weighted_mean : DS := (dSeq (dSet 2 (dFnS F_need_sample (dCons (dVar 0) dNil))) (dSeq (dSet 3 (dFnS F_need_weights (dCons (dVar 1) (dCons (dFn fLen (dCons (dVar 2) dNil)) dNil)))) (dSeq (dExpr (dFnS F_need_some_weight (dCons (dVar 2) (dCons (dVar 3) dNil)))) (dRet (dMethR (fMt 2 F_Ratio_over) (dFnS F_weighted_total (dCons (dVar 2) (dCons (dVar 3) dNil))) (dCons (dFnS F_total (dCons (dVar 3) dNil)) dNil))))))
def F_weighted_mean : DF := runBody 4 d_weighted_mean
def b_harmonic_mean_1 : DS := (dIfS (dTru (dBin gLe (dUn fTop (dVar 3)) (dC (.int 0)))) (dRaise "NotPositive" "index" (dVar 2)) dSkip)
def e_harmonic_mean_2 : DE := (dFn (fMakeR okR) (dCons (dUn fBot (dVar 3)) (dCons (dUn fTop (dVar 3)) dNil)))
/-- slots: sample, values, index, value -/
def d_harmonic_mean : DS := (dSeq (dSet 1 (dFnS F_need_filled (dCons (dVar 0) dNil))) (dSeq (dFor (iEnumQ (dCons (dVar 1) dNil)) (gT 2 (gCons (gN 2) (gCons (gN 3) gNil))) b_harmonic_mean_1) (dRet (dMethR (fMt 2 F_Ratio_over) (dFn (fMakeR okR) (dCons (dFn fLen (dCons (dVar 1) dNil)) dNil)) (dCons (dFnS F_total (dCons (dFr (dComp (iSeq (dVar 1)) (gN 3) dYes e_harmonic_mean_2 [3])) dNil)) dNil)))))
def F_harmonic_mean : DF := runBody 4 d_harmonic_mean
def h_w_told_1 : DS := (dSet 2 (dVar 3))
def b_w_told_2 : DS := (dSet 1 (dFnS F_harmonic_mean (dCons (dVar 0) dNil)))
/-- slots: _law_sample, _law_found, _law_error, caught -/
def d_w_told : DS := (dSeq (dAsg (dTup (dCons (dC .non) (dCons (dC .non) dNil))) (gT 2 (gCons (gN 1) (gCons (gN 2) gNil)))) (dSeq (dTryAs ["NotPositive"] 3 h_w_told_1 b_w_told_2) (dRet (dIf (dTru (dBin (fIsN false) (dVar 2) (dC .non))) (dFnS F_w_taken (dCons (dVar 1) dNil)) (dLst (dCons (dUn (fEFld ["BadSample", "BadWeights", "NotPositive"] "index") (dVar 2)) dNil))))))
def F_w_told : DF := runBody 4 d_w_told
def e_law_k12_1 (CR : Addr) : DE := (dFnS F_w_pick (dCons (dVar 2) (dCons (dVar 4) dNil)))
def e_law_k12_2 (CR : Addr) : DE := (dFnS F_w_times (dCons (dVar 16) (dCons (dVar 20) dNil)))
def e_law_k12_3 (CR : Addr) : DE := (dFnS F_w_next (dCons (dVar 2) (dCons (dC (.int 4)) dNil)))
def b_law_k12_4 (CR : Addr) : DS := (dSet 13 (dBin gAdd (dVar 13) (dBin gMul (dLst (dCons (dVar 14) dNil)) (dVar 15))))
def e_law_k12_5 (CR : Addr) : DE := (dTup (dCons (dBin gAdd (dFn fAbsI (dCons (dVar 17) dNil)) (dC (.int 1))) (dCons (dVar 18) dNil)))
def e_law_k12_6 (CR : Addr) : DE := (dFnS F_w_low (dCons (dVar 18) (dCons (dVar 17) dNil)))
def e_law_k12_7 (CR : Addr) : DE := (dFnS F_w_low (dCons (dVar 17) (dCons (dVar 18) dNil)))
def b_law_k12_8 (CR : Addr) : DS := (dSeq (dSet 2 (dFnS F_w_source (dCons (dVar 0) (dCons (dVar 1) dNil)))) (dSeq (dSet 3 (dFnS F_w_filled (dCons (dVar 2) (dCons (dC (.int 10)) dNil)))) (dSeq (dSet 4 (dLst (dCons (dTup (dCons (dC (.int 0)) (dCons (dC (.int 1)) dNil))) (dCons (dTup (dCons (dC (.int 1)) (dCons (dC (.int 1)) dNil))) (dCons (dTup (dCons (dFnS F_w_next (dCons (dVar 2) (dCons (dC (.int 9)) dNil))) (dCons (dC (.int 1)) dNil))) (dCons (dTup (dCons (dC (.int 1)) (dCons (dBin gAdd (dC (.int 2)) (dFnS F_w_next (dCons (dVar 2) (dCons (dC (.int 4)) dNil)))) dNil))) dNil)))))) (dSeq (dSet 5 (dBin gAdd (dFr (dComp (iSeq (dSlice (dVar 3) (dSome (dC (.int 1))) dNone)) (gN 16) dYes (e_law_k12_1 CR) [16])) (dLst (dCons (dTup (dCons (dBin gAdd (dC (.int 1)) (dFnS F_w_next (dCons (dVar 2) (dCons (dC (.int 3)) dNil)))) (dCons (dC (.int 1)) dNil))) dNil)))) (dSeq (dSet 6 (dFnS F_w_sum (dCons (dFr (dComp (iZipQ (dCons (dVar 3) (dCons (dVar 5) dNil))) (gT 2 (gCons (gN 16) (gCons (gN 20) gNil))) dYes (e_law_k12_2 CR) [16, 20])) dNil))) (dSeq (dSet 6 (dFnS F_w_through (dCons (dVar 6) (dCons (dFnS F_w_sum (dCons (dVar 5) dNil)) dNil)))) (dSeq (dPar [10, 11] (dCons (dFnS (F_w_framed CR) (dCons (dVar 2) (dCons (dVar 3) dNil))) (dCons (dFnS F_w_given (dCons (dVar 5) dNil)) dNil))) (dSeq (dSet 7 (dFr (dComp (iSeq (dVar 11)) (gN 14) dYes (dUn (fIsi bRat) (dVar 14)) [14]))) (dSeq (dIfS (dTru (dBin (gNeR F_Ratio___eq__ (gEq true)) (dFnS F_w_taken (dCons (dFnS F_weighted_mean (dCons (dVar 10) (dCons (dVar 11) dNil))) dNil)) (dVar 6))) (dRet (dC (.bl false))) dSkip) (dSeq (dIfS (dTru (dBin (gNeR F_Ratio___eq__ (gEq true)) (dFr (dComp (iSeq (dVar 11)) (gN 14) dYes (dUn (fIsi bRat) (dVar 14)) [14])) (dVar 7))) (dRet (dC (.bl false))) dSkip) (dSeq (dIfS (dTru (dBin (gNeR F_Ratio___eq__ (gEq true)) (dFnS F_w_taken (dCons (dFnS F_weighted_mean (dCons (dVar 10) (dCons (dFn fTuple (dCons (dVar 11) dNil)) dNil))) dNil)) (dVar 6))) (dRet (dC (.bl false))) dSkip) (dSeq (dIfS (dTru (dBin (gNeR F_Ratio___eq__ (gEq true)) (dFnS F_weighted_mean (dCons (dVar 10) (dCons (dBin gMul (dLst (dCons (dBin gAdd (dFnS F_w_next (dCons (dVar 2) (dCons (dC (.int 5)) dNil))) (dC (.int 1))) dNil)) (dFn fLen (dCons (dVar 3) dNil))) dNil))) (dFnS F_mean (dCons (dVar 10) dNil)))) (dRet (dC (.bl false))) dSkip) (dSeq (dPar [12, 13] (dCons (dBin gAdd (dFr (dComp (iSeq (dSlice (dVar 3) (dSome (dC (.int 1))) dNone)) (gN 16) dYes (e_law_k12_3 CR) [16])) (dLst (dCons (dC (.int 1)) dNil))) (dCons (dLst dNil) dNil))) (dSeq (dFor (iZipQ (dCons (dVar 10) (dCons (dVar 12) dNil))) (gT 2 (gCons (gN 14) (gCons (gN 15) gNil))) (b_law_k12_4 CR)) (dSeq (dIfS (dTru (dBin (gNeR F_Ratio___eq__ (gEq true)) (dFnS F_weighted_mean (dCons (dVar 10) (dCons (dVar 12) dNil))) (dFnS F_mean (dCons (dVar 13) dNil)))) (dRet (dC (.bl false))) dSkip) (dSeq (dSet 8 (dFr (dComp (iSeq (dVar 3)) (gT 2 (gCons (gN 17) (gCons (gN 18) gNil))) dYes (e_law_k12_5 CR) [17, 18]))) (dSeq (dSet 6 (dFnS F_w_through (dCons (dTup (dCons (dFn fLen (dCons (dVar 8) dNil)) (dCons (dC (.int 1)) dNil))) (dCons (dFnS F_w_sum (dCons (dFr (dComp (iSeq (dVar 8)) (gT 2 (gCons (gN 17) (gCons (gN 18) gNil))) dYes (e_law_k12_6 CR) [17, 18])) dNil)) dNil)))) (dSeq (dSet 8 (dFr (dComp (iSeq (dVar 8)) (gT 2 (gCons (gN 17) (gCons (gN 18) gNil))) dYes (e_law_k12_7 CR) [17, 18]))) (dSeq (dIfS (dTru (dBin (gNeR F_Ratio___eq__ (gEq true)) (dFnS F_w_told (dCons (dFnS (F_w_framed CR) (dCons (dVar 2) (dCons (dVar 8) dNil))) dNil)) (dVar 6))) (dRet (dC (.bl false))) dSkip) (dSeq (dSet 9 (dFr (dComp (iEnumQ (dCons (dVar 3) dNil)) (gT 2 (gCons (gN 19) (gCons (gN 16) gNil))) (dTru (dBin gLe (dBin fIx (dVar 16) (dC (.int 0))) (dC (.int 0)))) (dVar 19) [19, 16]))) (dIfS (dAndT (dTru (dBin (gNeR F_Ratio___eq__ (gEq true)) (dVar 9) (dLst dNil))) (dTru (dBin (gNeR F_Ratio___eq__ (gEq true)) (dFnS F_w_told (dCons (dVar 10) dNil)) (dLst (dCons (dBin fIx (dVar 9) (dC (.int 0))) dNil))))) (dRet (dC (.bl false))) dSkip)))))))))))))))))))))
/-- slots: _law_script, _law_k, _law_source_here, _law_some, _law_menu, _law_weights, _law_due, _law_kinds, _law_good, _law_bad, _law_sample, _law_given_here, _law_whole, _law_longer, _law_value, _law_many, _law_one, _law_top, _law_bottom, _law_at, _law_weight -/
def d_law_k12 (CR : Addr) : DS := (dSeq (dFor (iRange1 (dCons (dFn fMax2 (dCons (dC (.int 1)) (dCons (dFn fMin2 (dCons (dC (.int 4)) (dCons (dFn fLen (dCons (dVar 0) dNil)) dNil))) dNil))) dNil)) (gN 1) (b_law_k12_8 CR)) (dRet (dAnd (dBin (gEq false) (dFnS F_w_taken (dCons (dFnS F_harmonic_mean (dCons (dLst (dCons (dC (.int 2)) (dCons (dC (.int 3)) dNil))) dNil)) dNil)) (dTup (dCons (dC (.int 12)) (dCons (dC (.int 5)) dNil)))) (dBin (gEq false) (dFnS F_w_taken (dCons (dFnS F_weighted_mean (dCons (dLst (dCons (dC (.int 1)) (dCons (dC (.int 4)) dNil))) (dCons (dLst (dCons (dC (.int 2)) (dCons (dC (.int 1)) dNil))) dNil))) dNil)) (dTup (dCons (dC (.int 2)) (dCons (dC (.int 1)) dNil)))))))
def F_law_k12 (CR : Addr) : DF := runBody 21 (d_law_k12 CR)
end LD

namespace PC
open PySem L3 LD
theorem ib_le {i : Int} {b : Nat} (h : i.natAbs ≤ 2 ^ b) : ib i ≤ b + 1 := by
  unfold ib
  have : i.natAbs.log2 ≤ b := by
    by_cases z : i.natAbs = 0
    · rw [z]; simp
    · have := (Nat.log2_lt z (k := b + 1)).mpr (by rw [Nat.pow_succ]; have := Nat.one_le_two_pow (n := b); omega)
      omega
  omega
theorem le_ib {i : Int} {b : Nat} (h : ib i ≤ b) : i.natAbs < 2 ^ b := by
  unfold ib at h
  by_cases z : i.natAbs = 0
  · rw [z]; exact Nat.two_pow_pos b
  · exact (Nat.log2_lt z).mp (by omega)
theorem ib_mono {i j : Int} (h : i.natAbs ≤ j.natAbs) : ib i ≤ ib j := by
  unfold ib
  by_cases z : i.natAbs = 0
  · rw [z]; simp
  · have h2 : j.natAbs ≠ 0 := by omega
    have : i.natAbs.log2 < j.natAbs.log2 + 1 := (Nat.log2_lt z).mpr (Nat.lt_of_le_of_lt h ((Nat.log2_lt h2).mp (Nat.lt_succ_self _)))
    omega
/-! ### the greatest common divisor -/
theorem fmod_nat (a b : Nat) (h : 0 < b) : (a : Int).fmod b = ((a % b : Nat) : Int) := by
  rw [Int.fmod_eq_emod_of_nonneg _ (by omega)]; rfl
theorem cd_loop (mu : List MO) : ∀ (n a b : Nat), b < n → whileL (dTru (dBin gGt (dVar 1) (dC (.int 0)))) (dPar [0, 1] (dCons (dVar 1) (dCons (dBin gMod (dVar 0) (dVar 1)) dNil))) n ⟨[some (.val (.int a)), some (.val (.int b))], mu⟩ =
    .ok .nx ⟨[some (.val (.int (Nat.gcd a b))), some (.val (.int 0))], mu⟩
  | 0, a, b, h => by omega
  | n + 1, a, b, h => by
    unfold whileL
    by_cases z : b = 0
    · subst z; simp
    · have hb : (0 : Int) < b := by omega
      have hb' : ¬ (b : Int) = 0 := by omega
      simp only [dTru, dBin, dVar, dC, R.bind, gGt, truP, hb, decide_true, dPar, dCons, dNil, gMod, hb', ne_eq, not_false_eq_true, if_true, setP, setE, List.set, List.getElem?_cons_zero, List.getElem?_cons_succ]
      rw [fmod_nat a b (by omega), cd_loop mu n b (a % b) (by have := Nat.mod_lt a (show b > 0 by omega); omega)]
      rw [Nat.gcd_comm b (a % b), ← Nat.gcd_rec, Nat.gcd_comm b a]
theorem e_cd (a b : Int) (mu : List MO) : F_common_divisor [.int a, .int b] mu = .ok (.int (Int.gcd a b)) mu := by
  have h := cd_loop mu (b.natAbs + 1) a.natAbs b.natAbs (Nat.lt_succ_self _)
  simp only [F_common_divisor, runBody, d_common_divisor, dSeq, dPar, dCons, dFn, dVar, dNil, fAbsI, R.bind, setP, setE, List.set, dWhile, fuI, List.getElem?_cons_zero, List.getElem?_cons_succ, List.map, List.length_cons, List.length_nil, List.replicate, List.append_nil, Nat.sub_self, Int.natAbs_natCast, h, dRet]
  rfl
@[simp] theorem e_is_integer_i (i : Int) (mu : List MO) : F_is_integer [.int i] mu = .ok (.bl true) mu := rfl
@[simp] theorem e_is_integer_r (q : Rat) (mu : List MO) : F_is_integer [.rat q] mu = .ok (.bl false) mu := rfl
@[simp] theorem e_is_integer_b (q : Bool) (mu : List MO) : F_is_integer [.bl q] mu = .ok (.bl false) mu := rfl
@[simp] theorem e_is_number_i (i : Int) (mu : List MO) : F_is_number [.int i] mu = .ok (.bl true) mu := rfl
@[simp] theorem e_is_number_r (q : Rat) (mu : List MO) : F_is_number [.rat q] mu = .ok (.bl true) mu := rfl
@[simp] theorem e_need_number_i (i : Int) (mu : List MO) : F_need_number [.int i] mu = .ok .non mu := rfl
@[simp] theorem e_need_number_r (q : Rat) (mu : List MO) : F_need_number [.rat q] mu = .ok .non mu := rfl
theorem ok1 : okR t 1 = true := by unfold okR; decide
theorem divInt_one (i : Int) : Rat.divInt i 1 = (i : Rat) := by
  apply Rat.ext
  · rw [Rat.num_divInt]; simp
  · rw [Rat.den_divInt]; simp
@[simp] theorem e_ratio_of_i (i : Int) (mu : List MO) : F_ratio_of [.int i] mu = .ok (.rat (i : Rat)) mu := by
  rw [← divInt_one]; rfl
@[simp] theorem e_ratio_of_r (q : Rat) (mu : List MO) : F_ratio_of [.rat q] mu = .ok (.rat q) mu := rfl
@[simp] theorem e_of_i (C : Addr) (i : Int) (mu : List MO) : F_Ratio_of [.adr C, .int i] mu = .ok (.rat (i : Rat)) mu := by
  rw [← divInt_one]; rfl
@[simp] theorem e_of_r (C : Addr) (q : Rat) (mu : List MO) : F_Ratio_of [.adr C, .rat q] mu = .ok (.rat q) mu := rfl
/-! ### a new ratio -/
theorem gcd_pos {t b : Int} (h : b ≠ 0) : 0 < Int.gcd t b := Int.gcd_pos_of_ne_zero_right _ h
theorem num_div (t b : Int) (h : b ≠ 0) : (if 0 < b then t / (Int.gcd t b : Int) else 0 - t / (Int.gcd t b : Int)) = (Rat.divInt t b).num := by
  rw [Rat.num_divInt, Int.gcd_comm b t]
  have hd : (Int.gcd t b : Int) ∣ t := Int.gcd_dvd_left ..
  by_cases z : 0 < b
  · rw [if_pos z, Int.sign_eq_one_of_pos z, Int.one_mul]
  · have z' : b < 0 := by omega
    rw [if_neg z, Int.sign_eq_neg_one_of_neg z', Int.neg_one_mul, Int.neg_ediv_of_dvd hd, Int.zero_sub]
theorem den_div (t b : Int) (h : b ≠ 0) : ((b.natAbs : Int) / (Int.gcd t b : Int)) = ((Rat.divInt t b).den : Int) := by
  rw [Rat.den_divInt, if_neg h, Int.gcd_comm b t]; rfl
theorem b_init (C : Addr) : Below 3 (FInit C okR) (runBody 5 (d_Ratio___init__ C)) := by
  intro ps mu hl
  unfold FInit
  split
  · rename_i n t b
    split
    · rename_i C' ns xs e
      split
      · rename_i h
        obtain ⟨rfl, rfl, hb, ho⟩ := h
        refine .inr ?_
        have hn : n < mu.length := (List.getElem?_eq_some_iff.mp e).1
        have e' : mu[n] = .ins C' [] xs := (List.getElem?_eq_some_iff.mp e).2
        have hne : ¬ (Str.ofString "own_top" = Str.ofString "own_bottom") := by decide
        have hg := gcd_pos (t := t) hb
        have hg' : (0 : Int) < (Int.gcd t b : Int) := by omega
        have hgb : ib (Int.gcd t b : Int) ≤ 9000 := by
          have h1 : Int.gcd t b ≤ b.natAbs := Nat.le_of_dvd (by omega) (Int.gcd_dvd_natAbs_right ..)
          have h2 : ib (Int.gcd t b : Int) ≤ ib b := ib_mono (by rw [Int.natAbs_natCast]; exact h1)
          have h3 : ib b ≤ 9000 := of_decide_eq_true ho
          omega
        have hb' : (b == 0) = false := by simpa using hb
        have q1 := num_div t b hb
        have q2 := den_div t b hb
        by_cases z : 0 < b
        · rw [if_pos z] at q1
          simp [runBody, d_Ratio___init__, forL, e_cd, e', hne, hb, hb', hn, hg', hgb, z, putN, putV, eqP, okD, q1, q2]
        · rw [if_neg z] at q1
          simp [runBody, d_Ratio___init__, forL, e_cd, e', hne, hb, hb', hn, hg', hgb, z, putN, putV, eqP, okD, q1, q2]
      · exact .inl rfl
    · exact .inl rfl
  · exact .inl rfl
end PC
namespace PC
open PySem L3 LD
theorem b_top : Below 1 F_top (runBody 1 d_Ratio_top) := fun ps mu hl => by
  match ps, hl with
  | [p], _ => cases p <;> first | exact .inr rfl | exact .inl rfl
theorem b_bottom : Below 1 F_bottom (runBody 1 d_Ratio_bottom) := fun ps mu hl => by
  match ps, hl with
  | [p], _ => cases p <;> first | exact .inr rfl | exact .inl rfl
end PC

namespace PC
open PySem L3 LD
/-! ## the law's own numbers -/
def fr (q : Rat) : PV := .tup [.int q.num, .int q.den]
theorem low_loop (t b : Int) (mu : List MO) : ∀ (n x y : Nat), y < n → whileL (dTru (dBin (gEq true) (dVar 3) (dC (.int 0)))) (dPar [2, 3] (dCons (dVar 3) (dCons (dBin gMod (dVar 2) (dVar 3)) dNil))) n ⟨[some (.val (.int t)), some (.val (.int b)), some (.val (.int x)), some (.val (.int y))], mu⟩ =
    .ok .nx ⟨[some (.val (.int t)), some (.val (.int b)), some (.val (.int (Nat.gcd x y))), some (.val (.int 0))], mu⟩
  | 0, x, y, h => by omega
  | n + 1, x, y, h => by
    unfold whileL
    by_cases z : y = 0
    · subst z; simp [eqP, okD]
    · have hb' : ¬ (y : Int) = 0 := by omega
      have hb : ((y : Int) == 0) = false := by simpa using z
      simp only [dTru, dBin, dVar, dC, R.bind, gEq, okD, eqP, hb, truP, Bool.xor_false, and_self, if_true, dPar, dCons, dNil, gMod, hb', ne_eq, not_false_eq_true, setP, setE, List.set, List.getElem?_cons_zero, List.getElem?_cons_succ]
      rw [fmod_nat x y (by omega), low_loop t b mu n y (x % y) (by have := Nat.mod_lt x (show y > 0 by omega); omega)]
      rw [Nat.gcd_comm y (x % y), ← Nat.gcd_rec, Nat.gcd_comm y x]
theorem e_low (t b : Int) (mu : List MO) (hb : b ≠ 0) (h9 : ib b ≤ 9000) : F_w_low [.int t, .int b] mu = .ok (fr (Rat.divInt t b)) mu := by
  have h := low_loop t b mu (b.natAbs + 1) t.natAbs b.natAbs (Nat.lt_succ_self _)
  have hg := gcd_pos (t := t) hb
  have hg' : (0 : Int) < (Int.gcd t b : Int) := by omega
  have hgb : ib (Int.gcd t b : Int) ≤ 9000 := by
    have h1 : Int.gcd t b ≤ b.natAbs := Nat.le_of_dvd (by omega) (Int.gcd_dvd_natAbs_right ..)
    have h2 : ib (Int.gcd t b : Int) ≤ ib b := ib_mono (by rw [Int.natAbs_natCast]; exact h1)
    omega
  have q1 := num_div t b hb
  have q2 := den_div t b hb
  have eg : Nat.gcd t.natAbs b.natAbs = Int.gcd t b := rfl
  rw [eg] at h
  have hd : (Int.gcd t b : Int) ∣ b := Int.gcd_dvd_right ..
  generalize (Int.gcd t b) = G at *
  by_cases z : 0 < b
  · rw [if_pos z] at q1
    have q3 : b / (G : Int) = ((Rat.divInt t b).den : Int) := by rw [← q2, Int.natAbs_of_nonneg (by omega)]
    simp [F_w_low, runBody, d_w_low, h, z, hg, hg', hgb, q1, q3, fr]
  · rw [if_neg z] at q1
    have q3 : 0 - b / (G : Int) = ((Rat.divInt t b).den : Int) := by
      rw [← q2, Int.zero_sub, ← Int.neg_ediv_of_dvd hd]
      congr 1
      omega
    rw [Int.zero_sub] at q1 q3
    simp [F_w_low, runBody, d_w_low, h, z, hg, hg', hgb, q1, q3, fr]
/-! ### draws -/
@[simp] theorem at0 {a : Type} (x : a) (xs : List a) : L2.atI (x :: xs) 0 = some x := by simp [L2.atI, L2.ixN]
theorem ix_of {n i : Nat} (h : i < n) : L2.ixN n (i : Int) = some i := by
  unfold L2.ixN
  rw [if_pos (by omega), if_pos (by omega)]
  simp
theorem at_of {a : Type} {xs : List a} {i : Nat} (h : i < xs.length) : L2.atI xs (i : Int) = some xs[i] := by
  unfold L2.atI
  rw [ix_of h]
  simp [h]
@[simp] theorem at1 {a : Type} (x y : a) (xs : List a) : L2.atI (x :: y :: xs) 1 = some y := at_of (xs := x :: y :: xs) (i := 1) (by simp)
@[simp] theorem at2 {a : Type} (x y z : a) (xs : List a) : L2.atI (x :: y :: z :: xs) 2 = some z := at_of (xs := x :: y :: z :: xs) (i := 2) (by simp)
def primes : List PV := [.int 2147483647, .int 2147483629, .int 2147483587, .int 2147483579, .int 2147483563, .int 2147483549, .int 2147483543, .int 2147483497, .int 2147483489, .int 2147483477, .int 2147483423]
theorem prime_ok (j : Int) : ∃ p : Int, 1 < p ∧ p < 2147483648 ∧ L2.atI primes (j.fmod 11) = some (.int p) := by
  have h1 : 0 ≤ j.fmod 11 := by rw [Int.fmod_eq_emod_of_nonneg _ (by omega)]; omega
  have h2 : j.fmod 11 < 11 := by rw [Int.fmod_eq_emod_of_nonneg _ (by omega)]; omega
  generalize j.fmod 11 = i at *
  have : i = 0 ∨ i = 1 ∨ i = 2 ∨ i = 3 ∨ i = 4 ∨ i = 5 ∨ i = 6 ∨ i = 7 ∨ i = 8 ∨ i = 9 ∨ i = 10 := by omega
  rcases this with h | h | h | h | h | h | h | h | h | h | h <;> subst h <;> exact ⟨_, by decide, by decide, rfl⟩
theorem mod_bounds (i : Int) {m : Int} (h : 0 < m) : 0 ≤ i.fmod m ∧ i.fmod m < m := by
  rw [Int.fmod_eq_emod_of_nonneg _ (by omega)]
  exact ⟨Int.emod_nonneg _ (by omega), Int.emod_lt_of_pos _ h⟩
structure Src (mu : List MO) (n k : Nat) : Prop where
  at_ : ∃ c k0 d : Int, mu[n]? = some (.lst [.int c, .int k0, .int d]) ∧ 0 ≤ k0 ∧ k0 ≤ k
  flat : flatMs mu = true
theorem Src.le {mu : List MO} {n k k' : Nat} (h : Src mu n k) (hk : k ≤ k') : Src mu n k' := let ⟨⟨c, k0, d, h1, h2, h3⟩, hf⟩ := h; ⟨⟨c, k0, d, h1, h2, by omega⟩, hf⟩
theorem flat_set {mu : List MO} {n : Nat} {m : MO} (h : flatMs mu = true) (hm : flatM m = true) : flatMs (mu.set n m) = true := by
  unfold flatMs at h ⊢
  rw [List.all_eq_true] at h ⊢
  intro x hx
  rcases List.mem_or_eq_of_mem_set hx with z | z
  · exact h x z
  · rw [z]; exact hm
theorem flat_ints (a b c : Int) : flatM (.lst [.int a, .int b, .int c]) = true := by simp [flatL, flatP]
theorem next_ok {mu : List MO} {n k : Nat} {m : Int} (h : Src mu n k) (hk : k + 1 ≤ 2 ^ 49) (hm : 0 < m) (hb : ib m ≤ 9000) : ∃ r mu', F_w_next [.ptr n, .int m] mu = .ok (.int r) mu' ∧ 0 ≤ r ∧ r < m ∧ Src mu' n (k + 1) := by
  obtain ⟨⟨c, k0, d, h1, h2, h3⟩, hf⟩ := h
  have hn : n < mu.length := (List.getElem?_eq_some_iff.mp h1).1
  have e1 : mu[n] = .lst [.int c, .int k0, .int d] := (List.getElem?_eq_some_iff.mp h1).2
  have hm0 : ¬ m = 0 := by omega
  by_cases z : 0 < d
  · refine ⟨d.fmod m, mu.set n (.lst [.int c, .int k0, .int (d / m)]), ?_, ?_, ?_, ⟨⟨c, k0, d / m, by simp [hn], h2, by omega⟩, flat_set hf (flat_ints ..)⟩⟩
    · simp [F_w_next, runBody, d_w_next, e1, hn, z, hm0, hm, hb, L2.ixN]
    · rw [Int.fmod_eq_emod_of_nonneg _ (by omega)]; exact Int.emod_nonneg _ hm0
    · rw [Int.fmod_eq_emod_of_nonneg _ (by omega)]; exact Int.emod_lt_of_pos _ hm
  · obtain ⟨p, p1, p2, p3⟩ := prime_ok (k0 + 1)
    have p0 : ¬ p = 0 := by omega
    obtain ⟨c1, c2⟩ := mod_bounds c (show 0 < p by omega)
    have hib : ib 7919 + ib (k0 + 1) ≤ 1000000 := by
      have h1 : ib (k0 + 1) ≤ 49 + 1 := ib_le (b := 49) (by omega)
      have h2 : ib 7919 ≤ 13 + 1 := ib_le (b := 13) (by decide)
      omega
    have hpow : (c.fmod p + 7919 * (k0 + 1) + 1).natAbs < 2 ^ 64 := by omega
    have hpow' : (c.fmod p + 7919 * (k0 + 1) + 1).natAbs < 18446744073709551616 := by omega
    have h13 : ib 13 ≤ 9000 := by decide
    have q := mod_bounds (((c.fmod p + 7919 * (k0 + 1) + 1) ^ 5).fmod p / 13) hm
    refine ⟨_, mu.set n (.lst [.int c, .int (k0 + 1), .int d]), ?_, q.1, q.2, ⟨⟨c, k0 + 1, d, by simp [hn], by omega, by omega⟩, flat_set hf (flat_ints ..)⟩⟩
    unfold primes at p3
    simp [F_w_next, runBody, d_w_next, e1, hn, z, hm0, hm, hb, L2.ixN, p3, p0, hib, hpow', h13]
end PC

namespace PC
open PySem L3 LD
/-! ## loops -/
theorem compL_map {t : DG} {tt : DT} {te : DE} {vs : List Nat} {s0 : S} {f : PV → PV} : ∀ (xs acc : List PV), (∀ x ∈ xs, ∃ s1 s3, t x s0 = .ok () s1 ∧ tt s1 = .ok true s1 ∧ te s1 = .ok (f x) s3 ∧ wipeS vs s3 = s0) → acc.length + xs.length ≤ 16777216 →
    compL t tt te vs xs acc s0 = .ok (acc ++ xs.map f) s0
  | [], acc, _, _ => by simp [compL]
  | x :: xs, acc, h, hl => by
    obtain ⟨s1, s3, h1, h2, h3, h4⟩ := h x List.mem_cons_self
    simp only [List.length_cons] at hl
    simp only [compL, h1, tgt, h2, okB, h3]
    rw [if_pos (by omega), h4, compL_map xs (acc ++ [f x]) (fun y hy => h y (List.mem_cons_of_mem _ hy)) (by simp; omega)]
    simp
theorem forL_fold {t : DG} {b : DS} {P : S → Prop} (f : S → PV → S) : ∀ (xs : List PV) (s : S), P s → (∀ x ∈ xs, ∀ s, P s → ∃ s1, t x s = .ok () s1 ∧ b s1 = .ok .nx (f s x) ∧ P (f s x)) → forL t b xs s = .ok .nx (xs.foldl f s) ∧ P (xs.foldl f s)
  | [], s, p, _ => ⟨rfl, p⟩
  | x :: xs, s, p, h => by
    obtain ⟨s1, h1, h2, h3⟩ := h x List.mem_cons_self s p
    have := forL_fold f xs (f s x) h3 fun y hy => h y (List.mem_cons_of_mem _ hy)
    simp only [forL, h1, tgt, h2, R.bind]
    exact this
/-! ## lists of ints -/
theorem okDL_ints (n : Nat) : ∀ ns : List Int, okDL n (ns.map PV.int) = true
  | [] => by simp [okDL]
  | i :: ns => by simp [okDL, okD, okDL_ints n ns]
theorem eqPL_nil (xs : List PV) : eqPL xs [] = xs.isEmpty := by cases xs <;> simp [eqPL]
theorem ib3 : ib 3 = 2 := by decide
theorem ib1018 : ib 1000000000000000000 ≤ 9000 := by decide
theorem source_ok (ns : List Int) (k : Nat) (mu : List MO) (hk : k ≤ 2 ^ 40) (hf : flatMs mu = true) : ∃ mu', F_w_source [.frz (ns.map .int), .int k] mu = .ok (.ptr mu.length) mu' ∧ Src mu' mu.length (3 * k) := by
  have h3 : ib 3 + ib (k : Int) ≤ 1000000 := by
    have : ib (k : Int) ≤ 40 + 1 := ib_le (b := 40) (by simpa using hk)
    rw [ib3]; omega
  have core : ∀ cell : Int, (if (1000000000000000000 : Int) ≤ cell then True else True) → ∀ d : Int, Src (mu ++ [.lst [.int cell, .int (3 * (k : Int)), .int d]]) mu.length (3 * k) := fun cell _ d =>
    ⟨⟨cell, 3 * k, d, by simp, by omega, by omega⟩, by unfold flatMs at hf ⊢; rw [List.all_append, hf]; simp [flatL, flatP]⟩
  have okns : okD 8 (.frz (ns.map PV.int)) = true := by unfold okD; exact okDL_ints 7 ns
  have oknil : okD 8 (.lst []) = true := by simp [okD, okDL]
  cases ns with
  | nil =>
    refine ⟨_, ?_, core 1 (by split <;> trivial) 0⟩
    simp [F_w_source, runBody, d_w_source, okns, oknil, okD, okDL, eqP, eqPL, h3]
  | cons n ns =>
    have hl : (0 : Int) < ((n :: ns).length : Int) := by simp
    obtain ⟨b1, b2⟩ := mod_bounds (k : Int) hl
    have hlt : ((k : Int).fmod ((n :: ns).length : Int)).toNat < ((n :: ns).map PV.int).length := by rw [List.length_map]; omega
    have hat := at_of hlt
    rw [Int.toNat_of_nonneg b1, List.getElem_map] at hat
    generalize hc : (n :: ns)[((k : Int).fmod ((n :: ns).length : Int)).toNat]'(by rw [List.length_map] at hlt; exact hlt) = cell at hat
    have he : eqP (.frz ((n :: ns).map PV.int)) (.lst []) = false := by simp [eqP, eqPL]
    have hl0 : ¬ ((n :: ns).length : Int) = 0 := by omega
    clear hc hlt
    generalize hxs : (n :: ns).map PV.int = xs at *
    have hlen : xs.length = (n :: ns).length := by rw [← hxs, List.length_map]
    generalize (n :: ns).length = L at *
    have hl1 : ¬ L = 0 := by omega
    by_cases z : (1000000000000000000 : Int) ≤ cell
    · refine ⟨_, ?_, core cell (by split <;> trivial) (cell / 1000000000000000000)⟩
      simp [F_w_source, runBody, d_w_source, okns, oknil, he, h3, hat, hlen, hl0, hl1, z, ib1018]
    · refine ⟨_, ?_, core cell (by split <;> trivial) 0⟩
      simp [F_w_source, runBody, d_w_source, okns, oknil, he, h3, hat, hlen, hl0, hl1, z]
/-! ## picks -/
theorem pick_ok {mu : List MO} {n k : Nat} {xs : List PV} (h : Src mu n k) (hk : k + 1 ≤ 2 ^ 49) (hne : xs ≠ []) (hl : xs.length ≤ 16777216) : ∃ x mu', F_w_pick [.ptr n, .lst xs] mu = .ok x mu' ∧ x ∈ xs ∧ Src mu' n (k + 1) := by
  have h0 : 0 < xs.length := List.length_pos_iff.mpr hne
  obtain ⟨r, mu', h1, h2, h3, h4⟩ := next_ok (m := xs.length) h hk (by omega) (by
    have := ib_le (i := (xs.length : Int)) (b := 24) (by simpa using hl)
    omega)
  have hlt : r.toNat < xs.length := by omega
  have hat := at_of hlt
  rw [Int.toNat_of_nonneg h2] at hat
  refine ⟨xs[r.toNat], mu', ?_, List.getElem_mem _, h4⟩
  simp [F_w_pick, runBody, d_w_pick, h1, hat]
end PC

namespace PC
open PySem L3 LD
/-! ## sizes -/
def Zb (q : Rat) (b : Nat) : Prop := q.num.natAbs ≤ 2 ^ b ∧ q.den ≤ 2 ^ b
theorem Zb.le {q : Rat} {a b : Nat} (h : Zb q a) (l : a ≤ b) : Zb q b := ⟨Nat.le_trans h.1 (Nat.pow_le_pow_right (by omega) l), Nat.le_trans h.2 (Nat.pow_le_pow_right (by omega) l)⟩
theorem divInt_parts (n d : Int) (h : d ≠ 0) : (Rat.divInt n d).num.natAbs ≤ n.natAbs ∧ (Rat.divInt n d).den ≤ d.natAbs := by
  obtain ⟨m, hm, h1, h2⟩ := Rat.divInt_num_den (z' := (Rat.divInt n d).den_nz) (c := (Rat.divInt n d).reduced) h rfl
  have hm' : 0 < m.natAbs := by omega
  constructor
  · have e : n.natAbs = (Rat.divInt n d).num.natAbs * m.natAbs := by rw [← Int.natAbs_mul, ← h1]
    rw [e]; exact Nat.le_mul_of_pos_right _ hm'
  · have e : d.natAbs = (Rat.divInt n d).den * m.natAbs := by
      have := congrArg Int.natAbs h2
      rw [Int.natAbs_mul, Int.natAbs_natCast] at this
      exact this
    rw [e]; exact Nat.le_mul_of_pos_right _ hm'
theorem den_ne (q : Rat) : (q.den : Int) ≠ 0 := by have := q.den_nz; omega
theorem den_pos (q : Rat) : (0 : Int) < (q.den : Int) := by have := q.den_nz; omega
theorem add_divInt (x y : Rat) : Rat.divInt (x.num * y.den + y.num * x.den) (x.den * y.den) = x + y := by
  rw [← Rat.divInt_add_divInt _ _ (den_ne x) (den_ne y), Rat.num_divInt_den, Rat.num_divInt_den]
theorem mul_divInt (x y : Rat) : Rat.divInt (x.num * y.num) (x.den * y.den) = x * y := by
  rw [← Rat.divInt_mul_divInt, Rat.num_divInt_den, Rat.num_divInt_den]
theorem div_divInt (x y : Rat) : Rat.divInt (x.num * y.den) (x.den * y.num) = x / y := by
  rw [Rat.div_def, Rat.inv_def, ← Rat.divInt_mul_divInt, Rat.num_divInt_den]
theorem two_mul_le {a b x y : Nat} (h1 : x ≤ 2 ^ a) (h2 : y ≤ 2 ^ b) : x * y ≤ 2 ^ (a + b) := by rw [Nat.pow_add]; exact Nat.mul_le_mul h1 h2
theorem Zb.add {x y : Rat} {a b : Nat} (h1 : Zb x a) (h2 : Zb y b) : Zb (x + y) (a + b + 1) := by
  have hd : ((x.den : Int) * y.den) ≠ 0 := Int.mul_ne_zero (den_ne x) (den_ne y)
  have p := divInt_parts (x.num * y.den + y.num * x.den) (x.den * y.den) hd
  rw [add_divInt] at p
  have e1 := two_mul_le h1.1 h2.2
  have e2 := two_mul_le h2.1 h1.2
  have e3 := two_mul_le h1.2 h2.2
  have e0 : 2 ^ (a + b + 1) = 2 ^ (a + b) + 2 ^ (a + b) := by rw [Nat.pow_succ]; omega
  rw [Nat.add_comm b a] at e2
  refine ⟨Nat.le_trans p.1 (Nat.le_trans (Int.natAbs_add_le _ _) ?_), Nat.le_trans p.2 ?_⟩
  · rw [Int.natAbs_mul, Int.natAbs_mul, Int.natAbs_natCast, Int.natAbs_natCast]; omega
  · rw [Int.natAbs_mul, Int.natAbs_natCast, Int.natAbs_natCast]; omega
theorem Zb.mul {x y : Rat} {a b : Nat} (h1 : Zb x a) (h2 : Zb y b) : Zb (x * y) (a + b) := by
  have hd : ((x.den : Int) * y.den) ≠ 0 := Int.mul_ne_zero (den_ne x) (den_ne y)
  have p := divInt_parts (x.num * y.num) (x.den * y.den) hd
  rw [mul_divInt] at p
  refine ⟨Nat.le_trans p.1 ?_, Nat.le_trans p.2 ?_⟩
  · rw [Int.natAbs_mul]; exact two_mul_le h1.1 h2.1
  · rw [Int.natAbs_mul, Int.natAbs_natCast, Int.natAbs_natCast]; exact two_mul_le h1.2 h2.2
theorem Zb.div {x y : Rat} {a b : Nat} (h1 : Zb x a) (h2 : Zb y b) (hy : y.num ≠ 0) : Zb (x / y) (a + b) := by
  have hd : ((x.den : Int) * y.num) ≠ 0 := Int.mul_ne_zero (den_ne x) hy
  have p := divInt_parts (x.num * y.den) (x.den * y.num) hd
  rw [div_divInt] at p
  refine ⟨Nat.le_trans p.1 ?_, Nat.le_trans p.2 ?_⟩
  · rw [Int.natAbs_mul, Int.natAbs_natCast]; exact two_mul_le h1.1 h2.2
  · rw [Int.natAbs_mul, Int.natAbs_natCast]; exact two_mul_le h1.2 h2.1
theorem Zb.ib_num {q : Rat} {a : Nat} (h : Zb q a) : ib q.num ≤ a + 1 := ib_le h.1
theorem Zb.ib_den {q : Rat} {a : Nat} (h : Zb q a) : ib (q.den : Int) ≤ a + 1 := ib_le (by rw [Int.natAbs_natCast]; exact h.2)
theorem ib_mul {i j : Int} {a b : Nat} (h1 : i.natAbs ≤ 2 ^ a) (h2 : j.natAbs ≤ 2 ^ b) : ib (i * j) ≤ a + b + 1 := ib_le (by rw [Int.natAbs_mul]; exact two_mul_le h1 h2)
/-! ## the law's arithmetic -/
theorem e_plus {x y : Rat} {a b : Nat} (h1 : Zb x a) (h2 : Zb y b) (hab : a + b ≤ 8000) (mu : List MO) : F_w_plus [fr x, fr y] mu = .ok (fr (x + y)) mu := by
  have hd : ((x.den : Int) * y.den) ≠ 0 := Int.mul_ne_zero (den_ne x) (den_ne y)
  have h9 : ib ((x.den : Int) * y.den) ≤ 9000 := by
    have := ib_mul (i := (x.den : Int)) (j := (y.den : Int)) (a := a) (b := b) (by rw [Int.natAbs_natCast]; exact h1.2) (by rw [Int.natAbs_natCast]; exact h2.2)
    omega
  have c1 : ib x.num + ib (y.den : Int) ≤ 1000000 := by have := h1.ib_num; have := h2.ib_den; omega
  have c2 : ib y.num + ib (x.den : Int) ≤ 1000000 := by have := h2.ib_num; have := h1.ib_den; omega
  have c3 : ib (x.den : Int) + ib (y.den : Int) ≤ 1000000 := by have := h2.ib_den; have := h1.ib_den; omega
  have h := e_low (x.num * y.den + y.num * x.den) (x.den * y.den) mu hd h9
  rw [add_divInt] at h
  simp [F_w_plus, runBody, d_w_plus, fr, c1, c2, c3]
  rw [h]; rfl
theorem e_through {x y : Rat} {a b : Nat} (h1 : Zb x a) (h2 : Zb y b) (hy : y.num ≠ 0) (hab : a + b ≤ 8000) (mu : List MO) : F_w_through [fr x, fr y] mu = .ok (fr (x / y)) mu := by
  have hd : ((x.den : Int) * y.num) ≠ 0 := Int.mul_ne_zero (den_ne x) hy
  have h9 : ib ((x.den : Int) * y.num) ≤ 9000 := by
    have := ib_mul (i := (x.den : Int)) (j := y.num) (a := a) (b := b) (by rw [Int.natAbs_natCast]; exact h1.2) h2.1
    omega
  have c1 : ib x.num + ib (y.den : Int) ≤ 1000000 := by have := h1.ib_num; have := h2.ib_den; omega
  have c2 : ib (x.den : Int) + ib y.num ≤ 1000000 := by have := h2.ib_num; have := h1.ib_den; omega
  have h := e_low (x.num * y.den) (x.den * y.num) mu hd h9
  rw [div_divInt] at h
  simp [F_w_through, runBody, d_w_through, fr, c1, c2]
  rw [h]; rfl
theorem Zb0 : Zb 0 0 := ⟨by decide, by decide⟩
def sumQ (qs : List Rat) : Rat := qs.foldl (· + ·) 0
theorem sum_loop {a : Nat} (mu : List MO) (l : PV) : ∀ (qs : List Rat) (acc : Rat) (n : Nat) (o : Option SV), Zb acc n → (∀ q ∈ qs, Zb q a) → n + qs.length * (a + 1) + a ≤ 8000 →
    ∃ o', forL (gN 2) (dSet 1 (dFnS F_w_plus (dCons (dVar 1) (dCons (dVar 2) dNil)))) (qs.map fr) ⟨[some (.val l), some (.val (fr acc)), o], mu⟩ = .ok .nx ⟨[some (.val l), some (.val (fr (qs.foldl (· + ·) acc))), o'], mu⟩
  | [], acc, n, o, _, _, _ => ⟨o, rfl⟩
  | q :: qs, acc, n, o, h1, h2, h3 => by
    have hq := h2 q List.mem_cons_self
    have h4 : n + (qs.length + 1) * (a + 1) + a ≤ 8000 := h3
    have h5 : (qs.length + 1) * (a + 1) = qs.length * (a + 1) + (a + 1) := by rw [Nat.add_mul, Nat.one_mul]
    have e := e_plus h1 hq (by omega) mu
    obtain ⟨o', ih⟩ := sum_loop mu l qs (acc + q) (n + a + 1) (some (.val (fr q))) (h1.add hq) (fun y hy => h2 y (List.mem_cons_of_mem _ hy)) (by omega)
    refine ⟨o', ?_⟩
    simp only [List.map_cons, forL, gN, tgt, setE, List.set, dSet, dFnS, dCons, dVar, dNil, R.bind, List.getElem?_cons_zero, List.getElem?_cons_succ, e]
    exact ih
theorem e_sum {a : Nat} (qs : List Rat) (h : ∀ q ∈ qs, Zb q a) (hl : qs.length * (a + 1) + a ≤ 8000) (mu : List MO) : F_w_sum [.lst (qs.map fr)] mu = .ok (fr (sumQ qs)) mu := by
  obtain ⟨o', e⟩ := sum_loop mu (.lst (qs.map fr)) qs 0 0 none Zb0 h (by omega)
  have f0 : (PV.tup [.int 0, .int 1]) = fr 0 := rfl
  simp [F_w_sum, runBody, d_w_sum, f0, e, sumQ]
end PC

namespace PC
open PySem L3 LD
theorem fr_int (i : Int) : fr (i : Rat) = .tup [.int i, .int 1] := rfl
theorem Zb_int {i : Int} {b : Nat} (h : i.natAbs ≤ 2 ^ b) : Zb (i : Rat) b := ⟨h, Nat.one_le_two_pow⟩
theorem drawn_ok {mu : List MO} {n k : Nat} (h : Src mu n k) (hk : k + 3 ≤ 2 ^ 49) : ∃ q mu', F_w_drawn [.ptr n] mu = .ok (fr q) mu' ∧ Zb q 5 ∧ Src mu' n (k + 3) := by
  obtain ⟨r1, m1, a1, a2, a3, a4⟩ := next_ok (m := 4) h (by omega) (by decide) (by decide)
  by_cases z : r1 < 2
  · obtain ⟨r2, m2, b1, b2, b3, b4⟩ := next_ok (m := 9) a4 (by omega) (by decide) (by decide)
    refine ⟨((r2 - 3 : Int) : Rat), m2, ?_, Zb_int (by omega), b4.le (by omega)⟩
    rw [fr_int]
    simp [F_w_drawn, runBody, d_w_drawn, a1, z, b1]
  · obtain ⟨r2, m2, b1, b2, b3, b4⟩ := next_ok (m := 61) a4 (by omega) (by decide) (by decide)
    have go : ∀ m : Int, (m = 6 ∨ m = 3) → ∃ r3 m3, F_w_next [.ptr n, .int m] m2 = .ok (.int r3) m3 ∧ 0 ≤ r3 ∧ r3 < 6 ∧ Src m3 n (k + 3) := fun m hm => by
      rcases hm with rfl | rfl
      · obtain ⟨r3, m3, c1, c2, c3, c4⟩ := next_ok (m := 6) b4 (by omega) (by decide) (by decide)
        exact ⟨r3, m3, c1, c2, c3, c4⟩
      · obtain ⟨r3, m3, c1, c2, c3, c4⟩ := next_ok (m := 3) b4 (by omega) (by decide) (by decide)
        exact ⟨r3, m3, c1, c2, by omega, c4⟩
    have fin : ∀ r3 : Int, 0 ≤ r3 → r3 < 6 → ∀ m3, F_w_low [.int (r2 - 30), .int (1 + r3)] m3 = .ok (fr (Rat.divInt (r2 - 30) (1 + r3))) m3 ∧ Zb (Rat.divInt (r2 - 30) (1 + r3)) 5 := fun r3 c2 c3 m3 => by
      have hb : ib (1 + r3) ≤ 9000 := by
        have := ib_le (i := 1 + r3) (b := 5) (by omega)
        omega
      have p := divInt_parts (r2 - 30) (1 + r3) (by omega)
      exact ⟨e_low _ _ m3 (by omega) hb, by have := p.1; omega, by have := p.2; omega⟩
    by_cases y : r1 = 2
    · obtain ⟨r3, m3, c1, c2, c3, c4⟩ := go 6 (.inl rfl)
      obtain ⟨d1, d2⟩ := fin r3 c2 c3 m3
      refine ⟨_, m3, ?_, d2, c4⟩
      subst y
      simp [F_w_drawn, runBody, d_w_drawn, a1, b1, c1, d1, okD, eqP]
    · obtain ⟨r3, m3, c1, c2, c3, c4⟩ := go 3 (.inr rfl)
      obtain ⟨d1, d2⟩ := fin r3 c2 c3 m3
      have y' : (r1 == 2) = false := by simpa using y
      refine ⟨_, m3, ?_, d2, c4⟩
      simp [F_w_drawn, runBody, d_w_drawn, a1, z, b1, c1, d1, okD, eqP, y']
theorem okDL_fr (n : Nat) : ∀ qs : List Rat, okDL (n + 1) (qs.map fr) = true
  | [] => by simp [okDL]
  | q :: qs => by simp [okDL, okD, fr, okDL_fr n qs]
theorem okD_fr (q : Rat) : okD 8 (fr q) = true := by simp [fr, okD, okDL]
theorem okD_frs (qs : List Rat) : okD 8 (.lst (qs.map fr)) = true := by
  unfold okD; exact okDL_fr 6 qs
theorem flat_fr (q : Rat) : flatP (fr q) = true := by simp [fr, flatP, flatL]
theorem okD_nil : okD 8 (.lst []) = true := by simp [okD, okDL]
@[simp] theorem okD_int (i : Int) : okD 8 (.int i) = true := by simp [okD]
@[simp] theorem okD_bl (i : Bool) : okD 8 (.bl i) = true := by simp [okD]
@[simp] theorem okD_non : okD 8 .non = true := by simp [okD]
@[simp] theorem eqP_int (i j : Int) : eqP (.int i) (.int j) = (i == j) := by simp [eqP]
@[simp] theorem eqP_bl (i j : Bool) : eqP (.bl i) (.bl j) = (i == j) := by simp [eqP]
theorem own_row (a b t : PV) (xs : List PV) : ownIn [2] [some (SV.val a), some (.val b), some (.own xs), some (.val t)] = true := rfl
theorem eqP_frs_nil (qs : List Rat) : eqP (.lst (qs.map fr)) (.lst []) = qs.isEmpty := by
  unfold eqP; rw [eqPL_nil]; cases qs <;> rfl
/-- what the loop's turn draws -/
theorem row_draw {mu : List MO} {n k : Nat} {most t : PV} {qs : List Rat} (h : Src mu n k) (hk : k + 4 ≤ 2 ^ 49) (hl : qs.length < 10000) (hz : ∀ q ∈ qs, Zb q 5) :
    ∃ q mu', dIf (dAndT (dTru (dBin (gEq true) (dVar 2) (dLst dNil))) (dTru (dBin (gEq false) (dFnS F_w_next (dCons (dVar 0) (dCons (dC (.int 4)) dNil))) (dC (.int 0))))) (dFnS F_w_pick (dCons (dVar 0) (dCons (dVar 2) dNil))) (dFnS F_w_drawn (dCons (dVar 0) dNil))
      ⟨[some (.val (.ptr n)), some (.val most), some (.val (.lst (qs.map fr))), some (.val t)], mu⟩ = .ok (fr q) ⟨[some (.val (.ptr n)), some (.val most), some (.val (.lst (qs.map fr))), some (.val t)], mu'⟩ ∧ Zb q 5 ∧ Src mu' n (k + 4) := by
  by_cases e : qs = []
  · subst e
    obtain ⟨q, mu', d1, d2, d3⟩ := drawn_ok h (by omega)
    refine ⟨q, mu', ?_, d2, d3.le (by omega)⟩
    simp [d1, okD, okDL, eqP, eqPL]
  · have he : eqP (.lst (qs.map fr)) (.lst []) = false := by rw [eqP_frs_nil]; simpa using e
    obtain ⟨r, m1, a1, a2, a3, a4⟩ := next_ok (m := 4) h (by omega) (by decide) (by decide)
    by_cases z : r = 0
    · obtain ⟨x, m2, b1, b2, b3⟩ := pick_ok (xs := qs.map fr) a4 (by omega) (by simpa using e) (by rw [List.length_map]; omega)
      obtain ⟨q, hq, rfl⟩ := List.mem_map.mp b2
      refine ⟨q, m2, ?_, hz q hq, b3.le (by omega)⟩
      subst z
      simp [okD_frs, okD_nil, he, a1, b1]
    · obtain ⟨q, m2, d1, d2, d3⟩ := drawn_ok a4 (by omega)
      have z' : (r == 0) = false := by simpa using z
      refine ⟨q, m2, ?_, d2, d3.le (by omega)⟩
      simp [okD_frs, okD_nil, he, a1, d1, z']
end PC

namespace PC
open PySem L3 LD
def rowB : DE := dIf (dAndT (dTru (dBin (gEq true) (dVar 2) (dLst dNil))) (dTru (dBin (gEq false) (dFnS F_w_next (dCons (dVar 0) (dCons (dC (.int 4)) dNil))) (dC (.int 0))))) (dFnS F_w_pick (dCons (dVar 0) (dCons (dVar 2) dNil))) (dFnS F_w_drawn (dCons (dVar 0) dNil))
theorem row_turn {mu : List MO} {n k : Nat} {most t : PV} {qs : List Rat} (h : Src mu n k) (hk : k + 4 ≤ 2 ^ 49) (hl : qs.length < 10000) (hz : ∀ q ∈ qs, Zb q 5) :
    ∃ q mu', dExpr (dApp 2 (dBor [2] rowB)) ⟨[some (.val (.ptr n)), some (.val most), some (.own (qs.map fr)), some (.val t)], mu⟩ = .ok .nx ⟨[some (.val (.ptr n)), some (.val most), some (.own ((qs ++ [q]).map fr)), some (.val t)], mu'⟩ ∧ Zb q 5 ∧ Src mu' n (k + 4) := by
  obtain ⟨q, mu', a1, a2, a3⟩ := row_draw (most := most) (t := t) h hk hl hz
  refine ⟨q, mu', ?_, a2, a3⟩
  have a1 : rowB ⟨[some (.val (.ptr n)), some (.val most), some (.val (.lst (qs.map fr))), some (.val t)], mu⟩ = _ := a1
  simp [own_row, froz1, a1, flat_fr, a3.flat, show qs.length < 16777216 by omega]
theorem row_loop {n : Nat} {most : PV} : ∀ (is : List PV) (qs : List Rat) (mu : List MO) (k : Nat) (o : Option SV), Src mu n k → k + 4 * is.length ≤ 2 ^ 49 → qs.length + is.length ≤ 10000 → (∀ q ∈ qs, Zb q 5) →
    ∃ (qs' : List Rat) (mu' : List MO) (o' : Option SV), forL (gN 3) (dExpr (dApp 2 (dBor [2] rowB))) is ⟨[some (.val (.ptr n)), some (.val most), some (.own (qs.map fr)), o], mu⟩ = .ok .nx ⟨[some (.val (.ptr n)), some (.val most), some (.own (qs'.map fr)), o'], mu'⟩ ∧ (∀ q ∈ qs', Zb q 5) ∧ qs'.length = qs.length + is.length ∧ Src mu' n (k + 4 * is.length)
  | [], qs, mu, k, o, h, _, _, hz => ⟨qs, mu, o, rfl, hz, rfl, h⟩
  | i :: is, qs, mu, k, o, h, hk, hl, hz => by
    simp only [List.length_cons] at hk hl
    obtain ⟨q, m1, a1, a2, a3⟩ := row_turn (most := most) (t := i) h (by omega) (by omega) hz
    obtain ⟨qs', m2, o', b1, b2, b3, b4⟩ := row_loop (most := most) is (qs ++ [q]) m1 (k + 4) (some (.val i)) a3 (by omega) (by simp; omega) (fun x hx => by
      rcases List.mem_append.mp hx with y | y
      · exact hz x y
      · rw [List.mem_singleton.mp y]; exact a2)
    refine ⟨qs', m2, o', ?_, b2, by simp at b3 ⊢; omega, b4.le (by simp; omega)⟩
    unfold forL
    simp only [gN, tgt, setE, List.set]
    rw [a1]
    exact b1
theorem row_ok {mu : List MO} {n k m : Nat} (h : Src mu n k) (hk : k + 1 + 4 * m ≤ 2 ^ 49) (hm : m ≤ 10000) : ∃ (qs : List Rat) (mu' : List MO), F_w_row [.ptr n, .int m] mu = .ok (.lst (qs.map fr)) mu' ∧ (∀ q ∈ qs, Zb q 5) ∧ qs.length ≤ m ∧ Src mu' n (k + 1 + 4 * m) := by
  obtain ⟨r, m1, a1, a2, a3, a4⟩ := next_ok (m := (m : Int) + 1) h (by omega) (by omega) (by
    have := ib_le (i := (m : Int) + 1) (b := 20) (by omega)
    omega)
  have hlen : (rangeP 0 r.toNat).length = r.toNat := by simp [rangeP]
  obtain ⟨qs, m2, o', b1, b2, b3, b4⟩ := row_loop (most := .int m) (rangeP 0 r.toNat) [] m1 (k + 1) none a4 (by omega) (by simp; omega) (by simp)
  simp at b3
  refine ⟨qs, m2, ?_, b2, by omega, b4.le (by omega)⟩
  have hr : (-(2 ^ 62) : Int) ≤ r ∧ r < 2 ^ 62 := ⟨by omega, by omega⟩
  have hr' : (-4611686018427387904 : Int) ≤ r ∧ r < 4611686018427387904 := ⟨by omega, by omega⟩
  have hb : dIf (dAndT (dTru (dBin (gEq true) (dVar 2) (dLst dNil))) (dTru (dBin (gEq false) (dFnS F_w_next (dCons (dVar 0) (dCons (dC (.int 4)) dNil))) (dC (.int 0))))) (dFnS F_w_pick (dCons (dVar 0) (dCons (dVar 2) dNil))) (dFnS F_w_drawn (dCons (dVar 0) dNil)) = rowB := rfl
  simp only [List.map_nil] at b1
  simp [F_w_row, runBody, d_w_row, hb, a1, hr', b1, froz1]
theorem filled_ok {mu : List MO} {n k m : Nat} (h : Src mu n k) (hk : k + 4 + 4 * m ≤ 2 ^ 49) (hm : m ≤ 10000) (h0 : 0 < m) : ∃ (qs : List Rat) (mu' : List MO), F_w_filled [.ptr n, .int m] mu = .ok (.lst (qs.map fr)) mu' ∧ (∀ q ∈ qs, Zb q 5) ∧ qs.length ≤ m ∧ qs ≠ [] ∧ Src mu' n (k + 4 + 4 * m) := by
  obtain ⟨qs, m1, a1, a2, a3, a4⟩ := row_ok (m := m - 1) h (by omega) (by omega)
  obtain ⟨q, m2, b1, b2, b3⟩ := drawn_ok a4 (by omega)
  have e : ((m - 1 : Nat) : Int) = (m : Int) - 1 := by omega
  rw [e] at a1
  refine ⟨qs ++ [q], m2, ?_, fun x hx => ?_, by simp; omega, by simp, b3.le (by omega)⟩
  · simp [F_w_filled, runBody, d_w_filled, a1, b1, show qs.length + 1 ≤ 16777216 by omega]
  · rcases List.mem_append.mp hx with y | y
    · exact a2 x y
    · rw [List.mem_singleton.mp y]; exact b2
/-! ### ratios and integers that stand for fractions -/
/-- the value stands for the fraction -/
def Is (q : Rat) (p : PV) : Prop := p = .rat q ∨ (q.den = 1 ∧ p = .int q.num)
def gv (q : Rat) : PV := if 1 < q.den then .rat q else .int q.num
theorem gv_is (q : Rat) : Is q (gv q) := by
  unfold gv Is
  by_cases z : 1 < q.den
  · rw [if_pos z]; exact .inl rfl
  · rw [if_neg z]; exact .inr ⟨by have := q.den_nz; omega, rfl⟩
theorem e_given {a : Nat} (qs : List Rat) (hz : ∀ q ∈ qs, Zb q a) (ha : a ≤ 8000) (hl : qs.length ≤ 10000) (mu : List MO) : F_w_given [.lst (qs.map fr)] mu = .ok (.lst (qs.map gv)) mu := by
  have h := compL_map (t := gT 2 (gCons (gN 1) (gCons (gN 2) gNil))) (tt := dYes) (te := dIf (dTru (dBin gGt (dVar 2) (dC (.int 1)))) (dFn (fMakeR okR) (dCons (dVar 1) (dCons (dVar 2) dNil))) (dVar 1)) (vs := [1, 2])
    (s0 := ⟨[some (.val (.lst (qs.map fr))), none, none], mu⟩) (f := fun p => match p with | .tup [.int n, .int d] => if 1 < d then .rat (Rat.divInt n d) else .int n | _ => .non) (qs.map fr) [] (fun x hx => by
      obtain ⟨q, hq, rfl⟩ := List.mem_map.mp hx
      have h9 : okR q.num q.den = true := by
        unfold okR
        have := (hz q hq).ib_den
        exact decide_eq_true (by omega)
      by_cases z : (1 : Int) < (q.den : Int)
      · refine ⟨⟨[some (.val (.lst (qs.map fr))), some (.val (.int q.num)), some (.val (.int q.den))], mu⟩, ⟨[some (.val (.lst (qs.map fr))), some (.val (.int q.num)), some (.val (.int q.den))], mu⟩, rfl, rfl, ?_, rfl⟩
        have hd : ¬ (q.den : Int) = 0 := den_ne q
        have hd' : ¬ q.den = 0 := q.den_nz
        have z' : 1 < q.den := by omega
        simp [z, z', h9, hd, hd', fr]
      · refine ⟨⟨[some (.val (.lst (qs.map fr))), some (.val (.int q.num)), some (.val (.int q.den))], mu⟩, ⟨[some (.val (.lst (qs.map fr))), some (.val (.int q.num)), some (.val (.int q.den))], mu⟩, rfl, rfl, ?_, rfl⟩
        have z' : ¬ 1 < q.den := by omega
        simp [z, z', fr]) (by simp; omega)
  have e : (qs.map fr).map (fun p => match p with | .tup [.int n, .int d] => if 1 < d then PV.rat (Rat.divInt n d) else .int n | _ => .non) = qs.map gv := by
    rw [List.map_map]
    refine List.map_congr_left fun q _ => ?_
    show (if (1 : Int) < (q.den : Int) then PV.rat (Rat.divInt q.num q.den) else .int q.num) = gv q
    unfold gv
    rw [Rat.num_divInt_den]
    by_cases z : 1 < q.den
    · rw [if_pos z, if_pos (by omega)]
    · rw [if_neg z, if_neg (by omega)]
  rw [e] at h
  simp [F_w_given, runBody, d_w_given, wipeE, h]
end PC

namespace PC
open PySem L3 LD
theorem e_taken (q : Rat) (mu : List MO) : F_w_taken [.rat q] mu = .ok (fr q) mu := rfl
theorem e_all_taken (qs : List Rat) (hl : qs.length ≤ 10000) (mu : List MO) : F_w_all_taken [.lst (qs.map .rat)] mu = .ok (.lst (qs.map fr)) mu := by
  have h := compL_map (t := gN 1) (tt := dYes) (te := dFnS F_w_taken (dCons (dVar 1) dNil)) (vs := [1])
    (s0 := ⟨[some (.val (.lst (qs.map PV.rat))), none], mu⟩) (f := fun p => match p with | .rat q => fr q | _ => .non) (qs.map .rat) [] (fun x hx => by
      obtain ⟨q, hq, rfl⟩ := List.mem_map.mp hx
      exact ⟨_, _, rfl, rfl, rfl, rfl⟩) (by simp; omega)
  have e : (qs.map PV.rat).map (fun p => match p with | .rat q => fr q | _ => PV.non) = qs.map fr := by rw [List.map_map]; rfl
  rw [e] at h
  simp [F_w_all_taken, runBody, d_w_all_taken, wipeE, h]
theorem natAbs_le_pow {i : Int} {n b : Nat} (h : i.natAbs ≤ n) (h2 : n ≤ 2 ^ b) : i.natAbs ≤ 2 ^ b := Nat.le_trans h h2
theorem Zb_sum {a : Nat} : ∀ (qs : List Rat) (acc : Rat) (n : Nat), Zb acc n → (∀ q ∈ qs, Zb q a) → Zb (qs.foldl (· + ·) acc) (n + qs.length * (a + 1))
  | [], acc, n, h, _ => by simpa using h
  | q :: qs, acc, n, h, hz => by
    have := Zb_sum qs (acc + q) (n + a + 1) (h.add (hz q List.mem_cons_self)) (fun y hy => hz y (List.mem_cons_of_mem _ hy))
    refine this.le ?_
    rw [List.length_cons, Nat.add_mul]; omega
theorem e_lmean {a : Nat} (qs : List Rat) (hz : ∀ q ∈ qs, Zb q a) (hne : qs ≠ []) (hn : qs.length ≤ 10000) (hl : qs.length * (a + 1) + a + 20 ≤ 8000) (mu : List MO) : F_w_mean [.lst (qs.map fr)] mu = .ok (fr (sumQ qs / (qs.length : Int))) mu := by
  have h0 : 0 < qs.length := List.length_pos_iff.mpr hne
  have e1 := e_sum qs hz (by omega) mu
  have e2 := e_through (x := sumQ qs) (y := ((qs.length : Int) : Rat)) (a := 0 + qs.length * (a + 1)) (b := 14) (Zb_sum qs 0 0 Zb0 hz) (Zb_int (by omega)) (by show (qs.length : Int) ≠ 0; omega) (by omega) mu
  rw [fr_int] at e2
  simp [F_w_mean, runBody, d_w_mean, e1, e2]
/-! ### the program: lists of ratios -/
theorem Is_cases {q : Rat} {p : PV} (h : Is q p) : p = .rat q ∨ ∃ i : Int, q = (i : Rat) ∧ p = .int i := by
  rcases h with h | ⟨h1, h2⟩
  · exact .inl h
  · refine .inr ⟨q.num, ?_, h2⟩
    apply Rat.ext
    · rfl
    · rw [h1]; rfl
theorem e_of {q : Rat} {p : PV} (h : Is q p) (C : Addr) (mu : List MO) : F_Ratio_of [.adr C, p] mu = .ok (.rat q) mu := by
  rcases Is_cases h with rfl | ⟨i, rfl, rfl⟩
  · exact e_of_r C q mu
  · exact e_of_i C i mu
theorem e_ratio_of {q : Rat} {p : PV} (h : Is q p) (mu : List MO) : F_ratio_of [p] mu = .ok (.rat q) mu := by
  rcases Is_cases h with rfl | ⟨i, rfl, rfl⟩
  · exact e_ratio_of_r q mu
  · exact e_ratio_of_i i mu
theorem e_is_number {q : Rat} {p : PV} (h : Is q p) (mu : List MO) : F_is_number [p] mu = .ok (.bl true) mu := by
  rcases Is_cases h with rfl | ⟨i, rfl, rfl⟩
  · rfl
  · rfl
theorem e_need_number {q : Rat} {p : PV} (h : Is q p) (mu : List MO) : F_need_number [p] mu = .ok .non mu := by
  rcases Is_cases h with rfl | ⟨i, rfl, rfl⟩
  · rfl
  · rfl
theorem e_over {x y : Rat} {p : PV} {a b : Nat} (h1 : Zb x a) (h2 : Zb y b) (hp : Is y p) (hy : y.num ≠ 0) (hab : a + b ≤ 8000) (mu : List MO) : F_Ratio_over [.rat x, p] mu = .ok (.rat (x / y)) mu := by
  have hd : ((x.den : Int) * y.num) ≠ 0 := Int.mul_ne_zero (den_ne x) hy
  have h9 : okR (x.num * y.den) ((x.den : Int) * y.num) = true := by
    have := ib_mul (i := (x.den : Int)) (j := y.num) (a := a) (b := b) (by rw [Int.natAbs_natCast]; exact h1.2) h2.1
    exact decide_eq_true (by omega)
  have c1 : ib x.num + ib (y.den : Int) ≤ 1000000 := by have := h1.ib_num; have := h2.ib_den; omega
  have c2 : ib (x.den : Int) + ib y.num ≤ 1000000 := by have := h2.ib_num; have := h1.ib_den; omega
  have e1 := e_need_number hp mu
  have e2 := e_ratio_of hp mu
  have hx : ¬ x.den = 0 := x.den_nz
  rw [← div_divInt]
  simp [F_Ratio_over, runBody, d_Ratio_over, e1, e2, c1, c2, h9, hy, hx]
end PC

namespace PC
open PySem L3 LD
inductive All2 : List Rat → List PV → Prop where
  | nil : All2 [] []
  | cons {q : Rat} {p : PV} {qs : List Rat} {ps : List PV} (h : Is q p) (t : All2 qs ps) : All2 (q :: qs) (p :: ps)
theorem All2.len {qs : List Rat} {ps : List PV} (h : All2 qs ps) : qs.length = ps.length := by
  induction h with
  | nil => rfl
  | cons _ _ ih => simp [ih]
theorem All2.mem {qs : List Rat} {ps : List PV} (h : All2 qs ps) {p : PV} (hp : p ∈ ps) : ∃ q ∈ qs, Is q p := by
  induction h with
  | nil => cases hp
  | cons h t ih =>
    rcases List.mem_cons.mp hp with z | z
    · exact ⟨_, List.mem_cons_self, z ▸ h⟩
    · obtain ⟨q, h1, h2⟩ := ih z
      exact ⟨q, List.mem_cons_of_mem _ h1, h2⟩
theorem All2.gv : ∀ qs : List Rat, All2 qs (qs.map PC.gv)
  | [] => .nil
  | q :: qs => .cons (gv_is q) (All2.gv qs)
theorem All2.rat : ∀ qs : List Rat, All2 qs (qs.map .rat)
  | [] => .nil
  | q :: qs => .cons (.inl rfl) (All2.rat qs)
/-- what a value that stands for a fraction is worth -/
def val : PV → Rat
  | .rat q => q
  | .int i => i
  | _ => 0
theorem val_is {q : Rat} {p : PV} (h : Is q p) : val p = q := by
  rcases Is_cases h with rfl | ⟨i, rfl, rfl⟩ <;> rfl
theorem All2.vals {qs : List Rat} {ps : List PV} (h : All2 qs ps) : ps.map (fun p => PV.rat (val p)) = qs.map .rat := by
  induction h with
  | nil => rfl
  | cons h t ih => simp [ih, val_is h]
theorem scan {sm : PV} (mu : List MO) : ∀ (xs : List PV) (o1 o2 : Option SV), (∀ x ∈ xs, ∃ (i : Int) (p : PV) (q : Rat), x = .tup [.int i, p] ∧ Is q p) →
    ∃ o1' o2', forL (gT 2 (gCons (gN 1) (gCons (gN 2) gNil))) (dIfS (dNotT (dTru (dFnS F_is_number (dCons (dVar 2) dNil)))) (dRaise "BadSample" "index" (dVar 1)) dSkip) xs ⟨[some (.val sm), o1, o2], mu⟩ = .ok .nx ⟨[some (.val sm), o1', o2'], mu⟩
  | [], o1, o2, _ => ⟨o1, o2, rfl⟩
  | x :: xs, o1, o2, h => by
    obtain ⟨i, p, q, rfl, hp⟩ := h x List.mem_cons_self
    obtain ⟨o1', o2', ih⟩ := scan (sm := sm) mu xs (some (.val (.int i))) (some (.val p)) fun y hy => h y (List.mem_cons_of_mem _ hy)
    refine ⟨o1', o2', ?_⟩
    have e := e_is_number hp mu
    rw [← ih]
    show forL _ _ (_ :: xs) _ = _
    conv => lhs; unfold forL
    simp [e]
theorem enum_is {qs : List Rat} {ps : List PV} (h : All2 qs ps) : ∀ x ∈ enumP ps, ∃ (i : Int) (p : PV) (q : Rat), x = .tup [.int i, p] ∧ Is q p := fun x hx => by
  obtain ⟨i, hi⟩ := List.mem_iff_getElem?.mp hx
  obtain ⟨y, hy, rfl⟩ := enumP_get hi
  obtain ⟨q, _, hq⟩ := h.mem (List.mem_of_getElem? hy)
  exact ⟨i, y, q, rfl, hq⟩
theorem e_need_sample {qs : List Rat} {ps : List PV} {sm : PV} (h : All2 qs ps) (hs : sm = .lst ps ∨ sm = .tup ps) (hl : qs.length ≤ 1000) (mu : List MO) : F_need_sample [sm] mu = .ok (.lst (qs.map .rat)) mu := by
  have hlen := h.len
  obtain ⟨o1, o2, e1⟩ := scan (sm := sm) mu (enumP ps) none none (enum_is h)
  have e2 := compL_map (t := gN 2) (tt := dYes) (te := dFnS F_ratio_of (dCons (dVar 2) dNil)) (vs := [2]) (s0 := ⟨[some (.val sm), o1, none], mu⟩) (f := fun p => PV.rat (val p)) ps [] (fun x hx => by
    obtain ⟨q, _, hq⟩ := h.mem hx
    have e := e_ratio_of hq mu
    refine ⟨_, ⟨[some (.val sm), o1, some (.val x)], mu⟩, rfl, rfl, ?_, rfl⟩
    simp [e, val_is hq]) (by simp; omega)
  rw [h.vals] at e2
  have er : F_is_row [sm] mu = .ok (.bl true) mu := by
    have : (ps.length : Int) ≤ 1000 := by omega
    rcases hs with rfl | rfl <;> simp [F_is_row, runBody, d_is_row, this]
  rcases hs with rfl | rfl
  · simp [F_need_sample, runBody, d_need_sample, er, e1, e2, wipeE]
  · simp [F_need_sample, runBody, d_need_sample, er, e1, e2, wipeE]
theorem e_need_filled {qs : List Rat} {ps : List PV} {sm : PV} (h : All2 qs ps) (hs : sm = .lst ps ∨ sm = .tup ps) (hl : qs.length ≤ 1000) (hne : qs ≠ []) (mu : List MO) : F_need_filled [sm] mu = .ok (.lst (qs.map .rat)) mu := by
  have e1 := e_need_sample h hs hl mu
  have h0 : 0 < qs.length := List.length_pos_iff.mpr hne
  have hx : ((qs.length : Int) == 0) = false := by simpa using hne
  have e2 : F_need_items [.lst (qs.map .rat)] mu = .ok .non mu := by simp [F_need_items, runBody, d_need_items, hx]
  simp [F_need_filled, runBody, d_need_filled, e1, e2]
/-! ### the common bottom -/
def lcmD (qs : List Rat) : Nat := qs.foldl (fun l q => Nat.lcm l q.den) 1
theorem common_loop {a : Nat} (mu : List MO) (l : PV) : ∀ (qs : List Rat) (L n : Nat) (o : Option SV), 0 < L → L ≤ 2 ^ n → (∀ q ∈ qs, Zb q a) → n + qs.length * a ≤ 8000 → a ≤ 8000 →
    ∃ o', forL (gN 2) (dSet 1 (dBin gMul (dBin gFdiv (dVar 1) (dFnS F_common_divisor (dCons (dVar 1) (dCons (dUn fBot (dVar 2)) dNil)))) (dUn fBot (dVar 2)))) (qs.map .rat) ⟨[some (.val l), some (.val (.int L)), o], mu⟩ =
      .ok .nx ⟨[some (.val l), some (.val (.int (qs.foldl (fun l q => Nat.lcm l q.den) L : Nat))), o'], mu⟩ ∧ 0 < qs.foldl (fun l q => Nat.lcm l q.den) L ∧ qs.foldl (fun l q => Nat.lcm l q.den) L ≤ 2 ^ (n + qs.length * a) ∧ L ∣ qs.foldl (fun l q => Nat.lcm l q.den) L ∧ ∀ q ∈ qs, q.den ∣ qs.foldl (fun l q => Nat.lcm l q.den) L
  | [], L, n, o, h0, h1, _, _, _ => ⟨o, rfl, h0, by simpa using h1, Nat.dvd_refl _, by simp⟩
  | q :: qs, L, n, o, h0, h1, hz, hn, ha => by
    have hq := hz q List.mem_cons_self
    have hd := q.den_pos
    have h5 : (qs.length + 1) * a = qs.length * a + a := by rw [Nat.add_mul, Nat.one_mul]
    rw [List.length_cons, h5] at hn
    have hlcm : Nat.lcm L q.den ≤ 2 ^ (n + a) := by
      have : Nat.lcm L q.den ≤ L * q.den := Nat.le_of_dvd (Nat.mul_pos h0 hd) (Nat.lcm_dvd (Nat.dvd_mul_right ..) (Nat.dvd_mul_left ..))
      exact Nat.le_trans this (two_mul_le h1 hq.2)
    obtain ⟨o', e1, e2, e3, e4, e5⟩ := common_loop mu l qs (Nat.lcm L q.den) (n + a) (some (.val (.rat q))) (Nat.lcm_pos h0 hd) hlcm (fun y hy => hz y (List.mem_cons_of_mem _ hy)) (by omega) ha
    refine ⟨o', ?_, e2, by rw [List.length_cons, h5]; rw [Nat.add_assoc] at e3; rw [Nat.add_comm (qs.length * a) a]; exact e3, Nat.dvd_trans (Nat.dvd_lcm_left ..) e4, fun y hy => ?_⟩
    · have hg0 : 0 < Nat.gcd L q.den := Nat.gcd_pos_of_pos_left _ h0
      have hg : (0 : Int) < (Nat.gcd L q.den : Int) := by omega
      have hgb : ib (Nat.gcd L q.den : Int) ≤ 9000 := by
        have h2 : Nat.gcd L q.den ≤ q.den := Nat.le_of_dvd hd (Nat.gcd_dvd_right ..)
        have := ib_le (i := (Nat.gcd L q.den : Int)) (b := a) (by rw [Int.natAbs_natCast]; exact Nat.le_trans h2 hq.2)
        omega
      have hm : ib ((L : Int) / (Nat.gcd L q.den : Int)) + ib (q.den : Int) ≤ 1000000 := by
        have h2 := ib_le (i := (L : Int) / (Nat.gcd L q.den : Int)) (b := n) (by
          rw [← Int.natCast_ediv, Int.natAbs_natCast]
          exact Nat.le_trans (Nat.div_le_self ..) h1)
        have := hq.ib_den
        omega
      have hL : (L : Int) / (Nat.gcd L q.den : Int) * (q.den : Int) = ((Nat.lcm L q.den : Nat) : Int) := by
        rw [← Int.natCast_ediv, ← Int.natCast_mul]
        congr 1
        unfold Nat.lcm
        rw [Nat.mul_comm, Nat.mul_comm L q.den, Nat.mul_div_assoc _ (Nat.gcd_dvd_left ..)]
      have ecd : F_common_divisor [.int (L : Int), .int (q.den : Int)] mu = .ok (.int (Nat.gcd L q.den : Nat)) mu := e_cd _ _ mu
      rw [List.map_cons]
      conv => lhs; unfold forL
      simp [ecd, hg, hg0, hgb, hm, hL]
      simpa using e1
    · rcases List.mem_cons.mp hy with z | z
      · rw [z]; exact Nat.dvd_trans (Nat.dvd_lcm_right ..) e4
      · exact e5 y z
end PC

namespace PC
open PySem L3 LD
theorem add_same {L : Int} (h : L ≠ 0) (a b : Int) : Rat.divInt a L + Rat.divInt b L = Rat.divInt (a + b) L := by
  rw [Rat.divInt_add_divInt _ _ h h, Rat.divInt_eq_divInt_iff (Int.mul_ne_zero h h) h, ← Int.add_mul, Int.mul_assoc]
def tops (L : Nat) (qs : List Rat) : List Int := qs.map fun q => q.num * ((L : Int) / (q.den : Int))
theorem one_same {L : Nat} {q : Rat} (h0 : 0 < L) (hd : q.den ∣ L) : Rat.divInt (q.num * ((L : Int) / (q.den : Int))) L = q := by
  obtain ⟨m, rfl⟩ := hd
  have e : (((q.den * m : Nat) : Int)) / (q.den : Int) = (m : Int) := by
    rw [← Int.natCast_ediv, Nat.mul_div_cancel_left _ q.den_pos]
  rw [e]
  conv => rhs; rw [← Rat.num_divInt_den q]
  rw [Rat.divInt_eq_divInt_iff (by omega) (den_ne q)]
  rw [Int.natCast_mul, Int.mul_assoc, Int.mul_comm (m : Int)]
theorem tops_sum {L : Nat} (h0 : 0 < L) : ∀ (qs : List Rat) (A : Int), (∀ q ∈ qs, q.den ∣ L) → Rat.divInt (A + (tops L qs).sum) L = qs.foldl (· + ·) (Rat.divInt A L)
  | [], A, _ => by simp [tops]
  | q :: qs, A, h => by
    have hL : (L : Int) ≠ 0 := by omega
    have ih := tops_sum h0 qs (A + q.num * ((L : Int) / (q.den : Int))) fun y hy => h y (List.mem_cons_of_mem _ hy)
    rw [← add_same hL A (q.num * ((L : Int) / (q.den : Int))), one_same h0 (h q List.mem_cons_self)] at ih
    rw [List.foldl_cons, ← ih]
    congr 1
    unfold tops
    rw [List.map_cons, List.sum_cons, Int.add_assoc]
theorem intsP_map : ∀ is : List Int, intsP (is.map PV.int) = some is
  | [] => rfl
  | i :: is => by simp [intsP, intsP_map is]
theorem e_common {a : Nat} (qs : List Rat) (hz : ∀ q ∈ qs, Zb q a) (hl : qs.length * a ≤ 8000) (ha : a ≤ 8000) (hn : qs.length ≤ 10000) (mu : List MO) :
    F_common [.lst (qs.map .rat)] mu = .ok (.tup [.lst ((tops (lcmD qs) qs).map .int), .int (lcmD qs : Nat)]) mu ∧ 0 < lcmD qs ∧ lcmD qs ≤ 2 ^ (qs.length * a) ∧ ∀ q ∈ qs, q.den ∣ lcmD qs := by
  obtain ⟨o', e1, e2, e3, e4, e5⟩ := common_loop (a := a) mu (.lst (qs.map .rat)) qs 1 0 none (by decide) (by decide) hz (by omega) ha
  have e3 : lcmD qs ≤ 2 ^ (qs.length * a) := by rw [Nat.zero_add] at e3; exact e3
  refine ⟨?_, e2, e3, e5⟩
  have e6 := compL_map (t := gN 2) (tt := dYes) (te := dBin gMul (dUn fTop (dVar 2)) (dBin gFdiv (dVar 1) (dUn fBot (dVar 2)))) (vs := [2]) (s0 := ⟨[some (.val (.lst (qs.map PV.rat))), some (.val (.int (lcmD qs : Nat))), none], mu⟩)
    (f := fun p => match p with | .rat q => .int (q.num * (((lcmD qs : Nat) : Int) / (q.den : Int))) | _ => .non) (qs.map .rat) [] (fun x hx => by
      obtain ⟨q, hq, rfl⟩ := List.mem_map.mp hx
      refine ⟨_, ⟨[some (.val (.lst (qs.map PV.rat))), some (.val (.int (lcmD qs : Nat))), some (.val (.rat q))], mu⟩, rfl, rfl, ?_, rfl⟩
      have hd := q.den_pos
      have hdi : (0 : Int) < (q.den : Int) := by omega
      have h9 : ib (q.den : Int) ≤ 9000 := by have := (hz q hq).ib_den; omega
      have hm : ib q.num + ib (((lcmD qs : Nat) : Int) / (q.den : Int)) ≤ 1000000 := by
        have h1 := (hz q hq).ib_num
        have h2 := ib_le (i := ((lcmD qs : Nat) : Int) / (q.den : Int)) (b := qs.length * a) (by
          rw [← Int.natCast_ediv, Int.natAbs_natCast]
          exact Nat.le_trans (Nat.div_le_self ..) e3)
        omega
      simp [hd, hdi, h9, hm]) (by simp; omega)
  have e7 : (qs.map PV.rat).map (fun p => match p with | .rat q => PV.int (q.num * (((lcmD qs : Nat) : Int) / (q.den : Int))) | _ => .non) = (tops (lcmD qs) qs).map .int := by
    unfold tops; rw [List.map_map, List.map_map]; rfl
  rw [e7] at e6
  have e1' : forL (gN 2) (dSet 1 (dBin gMul (dBin gFdiv (dVar 1) (dFnS F_common_divisor (dCons (dVar 1) (dCons (dUn fBot (dVar 2)) dNil)))) (dUn fBot (dVar 2)))) (qs.map .rat) ⟨[some (.val (.lst (qs.map PV.rat))), some (.val (.int 1)), none], mu⟩ = .ok .nx ⟨[some (.val (.lst (qs.map PV.rat))), some (.val (.int (lcmD qs : Nat))), o'], mu⟩ := e1
  simp [F_common, runBody, d_common, e1', e6, wipeE]
theorem e_total {a : Nat} (qs : List Rat) (hz : ∀ q ∈ qs, Zb q a) (hl : qs.length * a ≤ 8000) (ha : a ≤ 8000) (hn : qs.length ≤ 10000) (mu : List MO) : F_total [.lst (qs.map .rat)] mu = .ok (.rat (sumQ qs)) mu := by
  obtain ⟨e1, h0, h1, h2⟩ := e_common qs hz hl ha hn mu
  have e2 := tops_sum h0 qs 0 h2
  rw [Int.zero_add, show Rat.divInt 0 (lcmD qs : Nat) = 0 from by simp] at e2
  have hk : okR (tops (lcmD qs) qs).sum (lcmD qs : Nat) = true := by
    have := ib_le (i := ((lcmD qs : Nat) : Int)) (b := qs.length * a) (by rw [Int.natAbs_natCast]; exact h1)
    exact decide_eq_true (by omega)
  have hb : ¬ lcmD qs = 0 := by omega
  simp [F_total, runBody, d_total, e1, intsP_map, hb, hk, e2, sumQ]
theorem e_mean {a : Nat} {qs : List Rat} {ps : List PV} {sm : PV} (h : All2 qs ps) (hs : sm = .lst ps ∨ sm = .tup ps) (hz : ∀ q ∈ qs, Zb q a) (hl : qs.length * (a + 1) + a + 20 ≤ 8000) (hn : qs.length ≤ 1000) (hne : qs ≠ []) (mu : List MO) :
    F_mean [sm] mu = .ok (.rat (sumQ qs / (qs.length : Int))) mu := by
  have h0 : 0 < qs.length := List.length_pos_iff.mpr hne
  have hla : qs.length * (a + 1) = qs.length * a + qs.length := by rw [Nat.mul_add, Nat.mul_one]
  have e1 := e_need_filled h hs hn hne mu
  have e2 := e_total qs hz (by omega) (by omega) (by omega) mu
  have e3 := e_over (x := sumQ qs) (y := ((qs.length : Int) : Rat)) (p := .int (qs.length : Int)) (a := 0 + qs.length * (a + 1)) (b := 14) (Zb_sum qs 0 0 Zb0 hz) (Zb_int (by omega)) (.inr ⟨rfl, rfl⟩) (by show (qs.length : Int) ≠ 0; omega) (by omega) mu
  simp [F_mean, runBody, d_mean, e1, F_mean_of, d_mean_of, e2, e3]
end PC

namespace PC
open PySem L3 LD
theorem framed_ok {mu : List MO} {n k a : Nat} {C : Addr} {qs : List Rat} (h : Src mu n k) (hk : k + 2 ≤ 2 ^ 49) (hz : ∀ q ∈ qs, Zb q a) (ha : a ≤ 8000) (hl : qs.length ≤ 10000) :
    ∃ (sm : PV) (ps : List PV) (mu' : List MO), F_w_framed C [.ptr n, .lst (qs.map fr)] mu = .ok sm mu' ∧ (sm = .lst ps ∨ sm = .tup ps) ∧ All2 qs ps ∧ Src mu' n (k + 2) := by
  have e1 := e_given qs hz ha hl mu
  obtain ⟨r, m1, a1, a2, a3, a4⟩ := next_ok (m := 2) h (by omega) (by decide) (by decide)
  by_cases z : r = 0
  · subst z
    refine ⟨.tup (qs.map gv), _, m1, ?_, .inr rfl, All2.gv qs, a4.le (by omega)⟩
    simp [F_w_framed, runBody, d_w_framed, e1, a1]
  · have z' : (r == 0) = false := by simpa using z
    obtain ⟨r2, m2, b1, b2, b3, b4⟩ := next_ok (m := 2) a4 (by omega) (by decide) (by decide)
    by_cases y : r2 = 0
    · subst y
      have e6 := compL_map (t := gN 3) (tt := dYes) (te := dFn (fCm 2 C F_Ratio_of) (dCons (dVar 3) dNil)) (vs := [3]) (s0 := ⟨[some (.val (.ptr n)), some (.val (.lst (qs.map fr))), some (.val (.lst (qs.map gv))), none], m2⟩)
        (f := fun p => .rat (val p)) (qs.map gv) [] (fun x hx => by
          obtain ⟨q, hq, rfl⟩ := List.mem_map.mp hx
          refine ⟨_, ⟨[some (.val (.ptr n)), some (.val (.lst (qs.map fr))), some (.val (.lst (qs.map gv))), some (.val (gv q))], m2⟩, rfl, rfl, ?_, rfl⟩
          have e := e_of (gv_is q) C m2
          simp [e, val_is (gv_is q)]) (by simp; omega)
      rw [(All2.gv qs).vals] at e6
      refine ⟨.lst (qs.map .rat), _, m2, ?_, .inl rfl, All2.rat qs, b4.le (by omega)⟩
      simp [F_w_framed, runBody, d_w_framed, e1, a1, z', b1, e6, wipeE]
    · have y' : (r2 == 0) = false := by simpa using y
      refine ⟨.lst (qs.map gv), _, m2, ?_, .inl rfl, All2.gv qs, b4.le (by omega)⟩
      simp [F_w_framed, runBody, d_w_framed, e1, a1, z', b1, y']
theorem gEq_nil (neg : Bool) (xs : List PV) (s : S) : gEq neg (.lst xs) (.lst []) s = .ok (.bl (xor neg xs.isEmpty)) s := by
  unfold gEq
  have e : eqP (.lst xs) (.lst []) = xs.isEmpty := by unfold eqP; exact eqPL_nil xs
  split
  · rw [e]
  · have e2 : (xs.length == ([] : List PV).length) = xs.isEmpty := by cases xs <;> simp
    unfold fEqE
    simp
    cases xs <;> simp
theorem erase_perm {a : Type} : ∀ (l : List a) (i : Nat) (h : i < l.length), (l[i] :: l.eraseIdx i).Perm l
  | x :: l, 0, _ => .refl _
  | x :: l, i + 1, h => by
    have h' : i < l.length := by simpa using h
    show (l[i] :: x :: l.eraseIdx i).Perm (x :: l)
    exact (List.Perm.swap x l[i] _).trans ((erase_perm l i h').cons x)
theorem own_mixed (a b : PV) (xs ys : List PV) : ownIn [2, 3] [some (SV.val a), some (.val b), some (.own xs), some (.own ys)] = true := rfl
theorem mixed_loop {n : Nat} {it : PV} : ∀ (f : Nat) (rest found : List PV) (mu : List MO) (k : Nat), rest.length < f → Src mu n k → k + rest.length ≤ 2 ^ 49 → rest.length + found.length ≤ 10000 →
    ∃ (ys : List PV) (mu' : List MO), whileL (dBorT [2, 3] (dTru (dBin (gEq true) (dVar 2) (dLst dNil)))) (dExpr (dApp 3 (dPopAt 2 (dBor [2, 3] (dFnS F_w_next (dCons (dVar 0) (dCons (dFn fLen (dCons (dVar 2) dNil)) dNil))))))) f ⟨[some (.val (.ptr n)), some (.val it), some (.own rest), some (.own found)], mu⟩ =
      .ok .nx ⟨[some (.val (.ptr n)), some (.val it), some (.own []), some (.own ys)], mu'⟩ ∧ ys.Perm (rest ++ found) ∧ Src mu' n (k + rest.length)
  | 0, rest, found, mu, k, hf, _, _, _ => by omega
  | f + 1, [], found, mu, k, hf, h, hk, hl => by
    refine ⟨found, mu, ?_, .refl _, h⟩
    unfold whileL
    simp only [dBorT, own_mixed, if_true, frozS, froz1, List.getElem?_cons_zero, List.getElem?_cons_succ, List.set, dTru, dBin, dVar, dLst, dNil, R.bind, List.length_nil, Nat.zero_le, gEq_nil, List.isEmpty_nil, Bool.true_xor, Bool.not_true, truP, h.flat]
  | f + 1, x :: xs, found, mu, k, hf, h, hk, hl => by
    have h0 : 0 < (x :: xs).length := by simp
    generalize hr : x :: xs = rest at *
    have hne : rest.isEmpty = false := by rw [← hr]; rfl
    obtain ⟨r, m1, a1, a2, a3, a4⟩ := next_ok (m := (rest.length : Int)) h (by omega) (by omega) (by
      have := ib_le (i := (rest.length : Int)) (b := 20) (by rw [Int.natAbs_natCast]; omega)
      omega)
    have hlt : r.toNat < rest.length := by omega
    have hix : L2.ixN rest.length r = some r.toNat := by
      have := ix_of hlt
      rw [Int.toNat_of_nonneg a2] at this
      exact this
    have hget : rest[r.toNat]? = some rest[r.toNat] := by simp [hlt]
    obtain ⟨ys, m2, b1, b2, b3⟩ := mixed_loop (it := it) f (rest.eraseIdx r.toNat) (found ++ [rest[r.toNat]]) m1 (k + 1) (by rw [List.length_eraseIdx_of_lt hlt]; omega) a4 (by rw [List.length_eraseIdx_of_lt hlt]; omega) (by rw [List.length_eraseIdx_of_lt hlt]; simp; omega)
    refine ⟨ys, m2, ?_, b2.trans ?_, b3.le (by rw [List.length_eraseIdx_of_lt hlt]; omega)⟩
    · rw [← b1]
      conv => lhs; unfold whileL
      simp [-gEq, own_mixed, froz1, gEq_nil, hne, h.flat, a1, flatP, a4.flat, hix, hget, show rest.length ≤ 16777216 by omega, show found.length < 16777216 by omega]
    · have p := erase_perm rest r.toNat hlt
      have p2 : (rest.eraseIdx r.toNat ++ (found ++ [rest[r.toNat]])).Perm (rest[r.toNat] :: (rest.eraseIdx r.toNat ++ found)) := by
        rw [← List.append_assoc]
        exact List.perm_append_singleton _ _
      exact p2.trans (List.Perm.append_right found p)
theorem mixed_ok {mu : List MO} {n k : Nat} {xs : List PV} (h : Src mu n k) (hk : k + xs.length ≤ 2 ^ 49) (hl : xs.length ≤ 10000) : ∃ (ys : List PV) (mu' : List MO), F_w_mixed [.ptr n, .lst xs] mu = .ok (.lst ys) mu' ∧ ys.Perm xs ∧ Src mu' n (k + xs.length) := by
  obtain ⟨ys, m1, a1, a2, a3⟩ := mixed_loop (it := .lst xs) (xs.length + 1) xs [] mu k (Nat.lt_succ_self _) h hk (by simpa using hl)
  refine ⟨ys, m1, ?_, by simpa using a2, a3⟩
  simp [F_w_mixed, runBody, d_w_mixed, a1, froz1]
theorem sum_perm {xs ys : List Rat} (h : xs.Perm ys) : sumQ xs = sumQ ys := by
  unfold sumQ
  exact h.foldl_eq' (fun x _ y _ z => by rw [Rat.add_assoc, Rat.add_assoc, Rat.add_comm x y]) 0
theorem vals_gv : ∀ qs : List Rat, (qs.map gv).map val = qs
  | [] => rfl
  | q :: qs => by simp [vals_gv qs, val_is (gv_is q)]
theorem All2.of_vals : ∀ {ys : List PV}, (∀ y ∈ ys, ∃ q, Is q y) → All2 (ys.map val) ys
  | [], _ => .nil
  | y :: ys, h => by
    obtain ⟨q, hq⟩ := h y List.mem_cons_self
    exact .cons (by rw [val_is hq]; exact hq) (All2.of_vals fun z hz => h z (List.mem_cons_of_mem _ hz))
end PC

namespace PC
open PySem L3 LD
mutual
theorem eqP_self : ∀ (n : Nat) (p : PV), okD n p = true → eqP p p = true
  | n, .non, _ => by simp [eqP]
  | n, .bl b, _ => by simp [eqP]
  | n, .int i, _ => by simp [eqP]
  | n, .str x, _ => by simp [eqP]
  | n + 1, .tup xs, h => by unfold eqP; exact eqPL_self n xs (by unfold okD at h; exact h)
  | n + 1, .lst xs, h => by unfold eqP; exact eqPL_self n xs (by unfold okD at h; exact h)
  | n + 1, .frz xs, h => by unfold eqP; exact eqPL_self n xs (by unfold okD at h; exact h)
  | 0, .tup xs, h => by unfold okD at h; cases h
  | 0, .lst xs, h => by unfold okD at h; cases h
  | 0, .frz xs, h => by unfold okD at h; cases h
  | n, .rat _, h => by cases n <;> (unfold okD at h; cases h)
  | n, .obj _ _ _, h => by cases n <;> (unfold okD at h; cases h)
  | n, .ptr _, h => by cases n <;> (unfold okD at h; cases h)
  | n, .adr _, h => by cases n <;> (unfold okD at h; cases h)
  | n, .ty _, h => by cases n <;> (unfold okD at h; cases h)
theorem eqPL_self : ∀ (n : Nat) (xs : List PV), okDL n xs = true → eqPL xs xs = true
  | n, [], _ => by simp [eqPL]
  | n, x :: xs, h => by
    have h : (okD n x && okDL n xs) = true := by unfold okDL at h; exact h
    rw [Bool.and_eq_true] at h
    simp [eqPL, eqP_self n x h.1, eqPL_self n xs h.2]
end
theorem gEq_self (neg : Bool) {p : PV} (h : okD 8 p = true) (s : S) : gEq neg p p s = .ok (.bl (!neg)) s := by
  unfold gEq
  rw [if_pos ⟨h, h⟩, eqP_self 8 p h, Bool.xor_true]
theorem okDL_bls (n : Nat) : ∀ bs : List Bool, okDL n (bs.map PV.bl) = true
  | [] => by simp [okDL]
  | b :: bs => by simp [okDL, okD, okDL_bls n bs]
theorem okD_bls (bs : List Bool) : okD 8 (.lst (bs.map PV.bl)) = true := by unfold okD; exact okDL_bls 7 bs
def isR : PV → Bool
  | .rat _ => true
  | _ => false
theorem kinds {s : S} {ps : List PV} {qs : List Rat} (h : All2 qs ps) (hl : ps.length ≤ 10000) (hs : ∀ v, wipeS [7] ⟨s.env.set 7 (some (.val v)), s.mu⟩ = s) (hg : ∀ v, (s.env.set 7 (some (.val v)))[7]? = some (some (.val v))) :
    compL (gN 7) dYes (dUn (fIsi bRat) (dVar 7)) [7] ps [] s = .ok ((ps.map isR).map .bl) s := by
  have e := compL_map (t := gN 7) (tt := dYes) (te := dUn (fIsi bRat) (dVar 7)) (vs := [7]) (s0 := s) (f := fun p => .bl (isR p)) ps [] (fun x hx => by
    obtain ⟨q, _, hq⟩ := h.mem hx
    refine ⟨_, ⟨s.env.set 7 (some (.val x)), s.mu⟩, rfl, rfl, ?_, hs x⟩
    have hgx := hg x
    rcases Is_cases hq with rfl | ⟨i, rfl, rfl⟩ <;> simp [hgx, isR]) (by simp; omega)
  rw [List.nil_append] at e
  rw [List.map_map]
  exact e
theorem ofs {s : S} {C : Addr} {ps : List PV} {qs : List Rat} (h : All2 qs ps) (hl : ps.length ≤ 10000) (hs : ∀ v, wipeS [7] ⟨s.env.set 7 (some (.val v)), s.mu⟩ = s) (hg : ∀ v, (s.env.set 7 (some (.val v)))[7]? = some (some (.val v))) :
    compL (gN 7) dYes (dFn (fCm 2 C F_Ratio_of) (dCons (dVar 7) dNil)) [7] ps [] s = .ok (qs.map .rat) s := by
  have e := compL_map (t := gN 7) (tt := dYes) (te := dFn (fCm 2 C F_Ratio_of) (dCons (dVar 7) dNil)) (vs := [7]) (s0 := s) (f := fun p => .rat (val p)) ps [] (fun x hx => by
    obtain ⟨q, _, hq⟩ := h.mem hx
    refine ⟨_, ⟨s.env.set 7 (some (.val x)), s.mu⟩, rfl, rfl, ?_, hs x⟩
    have e := e_of hq C s.mu
    have hgx := hg x
    simp [hgx, e, val_is hq]) (by simp; omega)
  rw [List.nil_append, h.vals] at e
  exact e
/-- the great numbers are put behind -/
theorem great {mu : List MO} {n k : Nat} {qs : List Rat} (h : Src mu n k) (hk : k + 1 ≤ 2 ^ 49) (hz : ∀ q ∈ qs, Zb q 5) (hl : qs.length ≤ 12) : ∃ (r : Int) (mu' : List MO) (qs' : List Rat), F_w_next [.ptr n, .int 9] mu = .ok (.int r) mu' ∧ Src mu' n (k + 1) ∧
    qs.map fr ++ [.tup [.int (10000000000000000000000000000000000000000 + r), .int 1], .tup [.int (-1000000000000000000000000000000000000000), .int 7]] = qs'.map fr ∧ (∀ q ∈ qs', Zb q 140) ∧ qs'.length ≤ 14 ∧ (qs ≠ [] → ∃ q r, qs = q :: r ∧ ∃ r', qs' = q :: r') := by
  obtain ⟨r, m1, a1, a2, a3, a4⟩ := next_ok (m := 9) h (by omega) (by decide) (by decide)
  refine ⟨r, m1, qs ++ [((10000000000000000000000000000000000000000 + r : Int) : Rat), Rat.divInt (-1000000000000000000000000000000000000000) 7], a1, a4, ?_, fun q hq => ?_, by simp; omega, fun hne => ?_⟩
  · rw [List.map_append]
    congr 1
  · rcases List.mem_append.mp hq with z | z
    · exact (hz q z).le (by omega)
    · rcases List.mem_cons.mp z with z | z
      · rw [z]; exact Zb_int (by omega)
      · rw [List.mem_singleton.mp z]; exact ⟨by decide, by decide⟩
  · cases qs with
    | nil => exact absurd rfl hne
    | cons q r => exact ⟨q, r, rfl, _, rfl⟩
theorem sum_rep (q : Rat) : ∀ (m : Nat) (acc : Rat), (List.replicate m q).foldl (· + ·) acc = acc + ((m : Int) : Rat) * q
  | 0, acc => by simp [Rat.add_zero, Rat.zero_mul]
  | m + 1, acc => by
    rw [List.replicate_succ, List.foldl_cons, sum_rep q m (acc + q)]
    have : (((m + 1 : Nat) : Int) : Rat) = ((m : Int) : Rat) + 1 := by rw [Int.natCast_add, Rat.intCast_add]; rfl
    rw [this, Rat.add_mul, Rat.one_mul, Rat.add_assoc, Rat.add_comm q]
theorem mean_rep (q : Rat) (m : Nat) (h : 0 < m) : sumQ (List.replicate m q) / (((List.replicate m q).length : Int) : Rat) = q := by
  unfold sumQ
  rw [sum_rep, List.length_replicate, Rat.zero_add]
  have : (((m : Int) : Rat)) ≠ 0 := by
    intro z
    have := congrArg Rat.num z
    have e : (m : Int) = 0 := this
    omega
  rw [Rat.mul_comm, Rat.mul_div_cancel this]
end PC

namespace PD
open PySem L3 LD PC
/-! ## sizes of fractions by a common bottom: the bottom divides D, the value is at most B -/
structure Zd (D B : Nat) (q : Rat) : Prop where
  dvd : q.den ∣ D
  le : q.num.natAbs ≤ B * q.den
theorem Zd.mono {D B D' B' : Nat} {q : Rat} (h : Zd D B q) (h1 : D ∣ D') (h2 : B ≤ B') : Zd D' B' q := ⟨Nat.dvd_trans h.dvd h1, Nat.le_trans h.le (Nat.mul_le_mul_right _ h2)⟩
theorem Zd.zb {D B : Nat} {q : Rat} (h : Zd D B q) {b : Nat} (h0 : 0 < D) (hb : B * D ≤ 2 ^ b) (hd : D ≤ 2 ^ b) : Zb q b :=
  have l : q.den ≤ D := Nat.le_of_dvd h0 h.dvd
  ⟨Nat.le_trans h.le (Nat.le_trans (Nat.mul_le_mul_left _ l) hb), Nat.le_trans l hd⟩
/-- a fraction of ints: the lowest terms divide -/
theorem divInt_dvd (n d : Int) (h : d ≠ 0) : (Rat.divInt n d).den ∣ d.natAbs := by
  obtain ⟨m, hm, h1, h2⟩ := Rat.divInt_num_den (z' := (Rat.divInt n d).den_nz) (c := (Rat.divInt n d).reduced) h rfl
  have := congrArg Int.natAbs h2
  rw [Int.natAbs_mul, Int.natAbs_natCast] at this
  exact ⟨m.natAbs, this⟩
theorem divInt_le (n d : Int) (h : d ≠ 0) {B : Nat} (hb : n.natAbs ≤ B * d.natAbs) : (Rat.divInt n d).num.natAbs ≤ B * (Rat.divInt n d).den := by
  obtain ⟨m, hm, h1, h2⟩ := Rat.divInt_num_den (z' := (Rat.divInt n d).den_nz) (c := (Rat.divInt n d).reduced) h rfl
  have e1 : n.natAbs = (Rat.divInt n d).num.natAbs * m.natAbs := by rw [← Int.natAbs_mul, ← h1]
  have e2 : d.natAbs = (Rat.divInt n d).den * m.natAbs := by
    have := congrArg Int.natAbs h2
    rw [Int.natAbs_mul, Int.natAbs_natCast] at this
    exact this
  have hm' : 0 < m.natAbs := by omega
  rw [e1, e2, ← Nat.mul_assoc] at hb
  exact Nat.le_of_mul_le_mul_right hb hm'
theorem Zd.divInt {n d : Int} {D B : Nat} (h : d ≠ 0) (h1 : d.natAbs ∣ D) (h2 : n.natAbs ≤ B * d.natAbs) : Zd D B (Rat.divInt n d) := ⟨Nat.dvd_trans (divInt_dvd n d h) h1, divInt_le n d h h2⟩
theorem Zd.int {i : Int} {B : Nat} (h : i.natAbs ≤ B) : Zd 1 B (i : Rat) := ⟨Nat.dvd_refl _, by rw [show ((i : Rat)).den = 1 from rfl, Nat.mul_one]; exact h⟩
/-- with one bottom L that both divide: tops over it -/
theorem over_common {q : Rat} {D : Nat} (h0 : 0 < D) (h : q.den ∣ D) : ∃ t : Int, q = Rat.divInt t D ∧ ∀ B : Nat, q.num.natAbs ≤ B * q.den → t.natAbs ≤ B * D := by
  obtain ⟨m, hm⟩ := h
  refine ⟨q.num * m, ?_, fun B hB => ?_⟩
  · conv => lhs; rw [← Rat.num_divInt_den q]
    rw [hm, Rat.divInt_eq_divInt_iff (den_ne q) (by rw [← hm]; omega)]
    rw [Int.natCast_mul, Int.mul_assoc, Int.mul_comm (m : Int)]
  · rw [Int.natAbs_mul, Int.natAbs_natCast, hm, ← Nat.mul_assoc]
    exact Nat.mul_le_mul_right _ hB
theorem Zd.add {x y : Rat} {D A B : Nat} (h0 : 0 < D) (hx : Zd D A x) (hy : Zd D B y) : Zd D (A + B) (x + y) := by
  obtain ⟨t, e1, b1⟩ := over_common h0 hx.dvd
  obtain ⟨u, e2, b2⟩ := over_common h0 hy.dvd
  have c1 := b1 A hx.le
  have c2 := b2 B hy.le
  rw [e1, e2, add_same (by omega : ((D : Nat) : Int) ≠ 0)]
  refine Zd.divInt (by omega) (by rw [Int.natAbs_natCast]; exact Nat.dvd_refl _) ?_
  rw [Int.natAbs_natCast, Nat.add_mul]
  exact Nat.le_trans (Int.natAbs_add_le _ _) (Nat.add_le_add c1 c2)
theorem Zd.neg {x : Rat} {D A : Nat} (h : Zd D A x) : Zd D A (-x) := ⟨by rw [Rat.neg_den]; exact h.dvd, by rw [Rat.neg_num, Rat.neg_den, Int.natAbs_neg]; exact h.le⟩
theorem Zd.sub {x y : Rat} {D A B : Nat} (h0 : 0 < D) (hx : Zd D A x) (hy : Zd D B y) : Zd D (A + B) (x - y) := by
  rw [Rat.sub_eq_add_neg]; exact hx.add h0 hy.neg
theorem Zd.mul {x y : Rat} {D E A B : Nat} (hx : Zd D A x) (hy : Zd E B y) : Zd (D * E) (A * B) (x * y) := by
  have hd : ((x.den : Int) * y.den) ≠ 0 := Int.mul_ne_zero (den_ne x) (den_ne y)
  rw [← mul_divInt]
  refine Zd.divInt hd (by rw [Int.natAbs_mul, Int.natAbs_natCast, Int.natAbs_natCast]; exact Nat.mul_dvd_mul hx.dvd hy.dvd) ?_
  rw [Int.natAbs_mul, Int.natAbs_mul, Int.natAbs_natCast, Int.natAbs_natCast]
  have := Nat.mul_le_mul hx.le hy.le
  calc _ ≤ _ := this
    _ = _ := by ac_rfl
theorem Zd.divN {x : Rat} {D A n : Nat} (hx : Zd D A x) (hn : 0 < n) : Zd (D * n) A (x / ((n : Int) : Rat)) := by
  have hd : ((x.den : Int) * (((n : Int) : Rat)).num) ≠ 0 := Int.mul_ne_zero (den_ne x) (by show (n : Int) ≠ 0; omega)
  rw [← div_divInt]
  refine Zd.divInt hd (by rw [Int.natAbs_mul, Int.natAbs_natCast]; exact Nat.mul_dvd_mul_right hx.dvd _) ?_
  rw [Int.natAbs_mul, Int.natAbs_mul, Int.natAbs_natCast, Int.natAbs_natCast]
  show x.num.natAbs * 1 ≤ A * (x.den * n)
  rw [Nat.mul_one]
  have := hx.le
  calc _ ≤ _ := this
    _ ≤ A * x.den * n := Nat.le_mul_of_pos_right _ hn
    _ = _ := by rw [Nat.mul_assoc]
theorem Zd.sum {D B : Nat} (h0 : 0 < D) : ∀ (qs : List Rat) (acc : Rat) (A : Nat), Zd D A acc → (∀ q ∈ qs, Zd D B q) → Zd D (A + qs.length * B) (qs.foldl (· + ·) acc)
  | [], acc, A, h, _ => by simpa using h
  | q :: qs, acc, A, h, hz => by
    have := Zd.sum h0 qs (acc + q) (A + B) (h.add h0 (hz q List.mem_cons_self)) (fun y hy => hz y (List.mem_cons_of_mem _ hy))
    refine this.mono (Nat.dvd_refl _) ?_
    rw [List.length_cons, Nat.add_mul]; omega
theorem Zd.zero {D : Nat} : Zd D 0 0 := ⟨Nat.one_dvd _, by decide⟩
theorem Zd.sumz {D B : Nat} (h0 : 0 < D) {qs : List Rat} (h : ∀ q ∈ qs, Zd D B q) : Zd D (qs.length * B) (PC.sumQ qs) := by
  have := Zd.sum h0 qs 0 0 Zd.zero h
  rwa [Nat.zero_add] at this
/-- such fractions are small enough for sums and products of two -/
structure Sm (D B : Nat) : Prop where
  pos : 0 < D
  top : B * D ≤ 2 ^ 3990
  bot : D ≤ 2 ^ 3990
theorem Zd.sm {D B : Nat} {q : Rat} (h : Zd D B q) (s : Sm D B) : Zb q 3990 := h.zb s.pos s.top s.bot
/-! ## sums, whatever their sizes are one by one -/
theorem sum_loopZ {D B N : Nat} (s : Sm D (N * B + B)) (mu : List MO) (l : PV) : ∀ (qs : List Rat) (acc : Rat) (n : Nat) (o : Option SV), Zd D (n * B) acc → (∀ q ∈ qs, Zd D B q) → n + qs.length ≤ N →
    ∃ o', forL (gN 2) (dSet 1 (dFnS F_w_plus (dCons (dVar 1) (dCons (dVar 2) dNil)))) (qs.map fr) ⟨[some (.val l), some (.val (fr acc)), o], mu⟩ = .ok .nx ⟨[some (.val l), some (.val (fr (qs.foldl (· + ·) acc))), o'], mu⟩
  | [], acc, n, o, _, _, _ => ⟨o, rfl⟩
  | q :: qs, acc, n, o, h1, h2, h3 => by
    have hq := h2 q List.mem_cons_self
    simp only [List.length_cons] at h3
    have l1 : n * B ≤ N * B + B := Nat.le_trans (Nat.mul_le_mul_right _ (by omega)) (Nat.le_add_right _ _)
    have e := e_plus ((h1.mono (Nat.dvd_refl _) l1).sm s) ((hq.mono (Nat.dvd_refl _) (Nat.le_add_left _ _)).sm s) (by omega) mu
    obtain ⟨o', ih⟩ := sum_loopZ s mu l qs (acc + q) (n + 1) (some (.val (fr q))) (by rw [Nat.add_mul, Nat.one_mul]; exact h1.add s.pos hq) (fun y hy => h2 y (List.mem_cons_of_mem _ hy)) (by omega)
    refine ⟨o', ?_⟩
    simp only [List.map_cons, forL, gN, tgt, setE, List.set, dSet, dFnS, dCons, dVar, dNil, R.bind, List.getElem?_cons_zero, List.getElem?_cons_succ, e]
    exact ih
theorem z_sum {D B N : Nat} (s : Sm D (N * B + B)) {qs : List Rat} (h : ∀ q ∈ qs, Zd D B q) (hn : qs.length ≤ N) (mu : List MO) : F_w_sum [.lst (qs.map fr)] mu = .ok (fr (sumQ qs)) mu := by
  obtain ⟨o', e⟩ := sum_loopZ s mu (.lst (qs.map fr)) qs 0 0 none (by simpa using Zd.zero) h (by omega)
  have f0 : (PV.tup [.int 0, .int 1]) = fr 0 := rfl
  simp [F_w_sum, runBody, d_w_sum, f0, e, sumQ]
theorem lcm_dvd {D : Nat} : ∀ (qs : List Rat) (L : Nat), L ∣ D → (∀ q ∈ qs, q.den ∣ D) → qs.foldl (fun l q => Nat.lcm l q.den) L ∣ D
  | [], L, h, _ => h
  | q :: qs, L, h, hz => lcm_dvd qs _ (Nat.lcm_dvd h (hz q List.mem_cons_self)) fun y hy => hz y (List.mem_cons_of_mem _ hy)
theorem z_common {D B : Nat} (s : Sm D B) {qs : List Rat} (hz : ∀ q ∈ qs, Zd D B q) (hn : qs.length ≤ 10000) (mu : List MO) :
    F_common [.lst (qs.map .rat)] mu = .ok (.tup [.lst ((tops (lcmD qs) qs).map .int), .int (lcmD qs : Nat)]) mu ∧ 0 < lcmD qs ∧ lcmD qs ∣ D ∧ ∀ q ∈ qs, q.den ∣ lcmD qs := by
  have hdv : ∀ q ∈ qs, q.den ∣ D := fun q hq => (hz q hq).dvd
  have hD := s.pos
  have key : ∀ (qs : List Rat) (L : Nat) (o : Option SV) (l : PV), 0 < L → L ∣ D → (∀ q ∈ qs, Zd D B q) →
      ∃ o', forL (gN 2) (dSet 1 (dBin gMul (dBin gFdiv (dVar 1) (dFnS F_common_divisor (dCons (dVar 1) (dCons (dUn fBot (dVar 2)) dNil)))) (dUn fBot (dVar 2)))) (qs.map .rat) ⟨[some (.val l), some (.val (.int L)), o], mu⟩ =
        .ok .nx ⟨[some (.val l), some (.val (.int (qs.foldl (fun l q => Nat.lcm l q.den) L : Nat))), o'], mu⟩ ∧ 0 < qs.foldl (fun l q => Nat.lcm l q.den) L ∧ L ∣ qs.foldl (fun l q => Nat.lcm l q.den) L ∧ ∀ q ∈ qs, q.den ∣ qs.foldl (fun l q => Nat.lcm l q.den) L := by
    intro qs
    induction qs with
    | nil => exact fun L o l h0 _ _ => ⟨o, rfl, h0, Nat.dvd_refl _, by simp⟩
    | cons q qs ih =>
      intro L o l h0 h1 hz
      have hq := hz q List.mem_cons_self
      have hd := q.den_pos
      obtain ⟨o', e1, e2, e4, e5⟩ := ih (Nat.lcm L q.den) (some (.val (.rat q))) l (Nat.lcm_pos h0 hd) (Nat.lcm_dvd h1 hq.dvd) (fun y hy => hz y (List.mem_cons_of_mem _ hy))
      have hqz := hq.sm s
      refine ⟨o', ?_, e2, Nat.dvd_trans (Nat.dvd_lcm_left ..) e4, fun y hy => ?_⟩
      · have hg0 : 0 < Nat.gcd L q.den := Nat.gcd_pos_of_pos_left _ h0
        have hg : (0 : Int) < (Nat.gcd L q.den : Int) := by omega
        have hL2 : L ≤ 2 ^ 3990 := Nat.le_trans (Nat.le_of_dvd hD h1) s.bot
        have hgb : ib (Nat.gcd L q.den : Int) ≤ 9000 := by
          have h2 : Nat.gcd L q.den ≤ q.den := Nat.le_of_dvd hd (Nat.gcd_dvd_right ..)
          have := ib_le (i := (Nat.gcd L q.den : Int)) (b := 3990) (by rw [Int.natAbs_natCast]; exact Nat.le_trans h2 hqz.2)
          omega
        have hm : ib ((L : Int) / (Nat.gcd L q.den : Int)) + ib (q.den : Int) ≤ 1000000 := by
          have h2 := ib_le (i := (L : Int) / (Nat.gcd L q.den : Int)) (b := 3990) (by
            rw [← Int.natCast_ediv, Int.natAbs_natCast]
            exact Nat.le_trans (Nat.div_le_self ..) hL2)
          have := hqz.ib_den
          omega
        have hL : (L : Int) / (Nat.gcd L q.den : Int) * (q.den : Int) = ((Nat.lcm L q.den : Nat) : Int) := by
          rw [← Int.natCast_ediv, ← Int.natCast_mul]
          congr 1
          unfold Nat.lcm
          rw [Nat.mul_comm, Nat.mul_comm L q.den, Nat.mul_div_assoc _ (Nat.gcd_dvd_left ..)]
        have ecd : F_common_divisor [.int (L : Int), .int (q.den : Int)] mu = .ok (.int (Nat.gcd L q.den : Nat)) mu := e_cd _ _ mu
        rw [List.map_cons]
        conv => lhs; unfold forL
        simp [ecd, hg, hg0, hgb, hm, hL]
        simpa using e1
      · rcases List.mem_cons.mp hy with z | z
        · rw [z]; exact Nat.dvd_trans (Nat.dvd_lcm_right ..) e4
        · exact e5 y z
  obtain ⟨o', e1, e2, e4, e5⟩ := key qs 1 none (.lst (qs.map .rat)) (by decide) (Nat.one_dvd _) hz
  have hdvd : lcmD qs ∣ D := lcm_dvd qs 1 (Nat.one_dvd _) hdv
  have hlc : lcmD qs ≤ 2 ^ 3990 := Nat.le_trans (Nat.le_of_dvd hD hdvd) s.bot
  refine ⟨?_, e2, hdvd, e5⟩
  have e6 := compL_map (t := gN 2) (tt := dYes) (te := dBin gMul (dUn fTop (dVar 2)) (dBin gFdiv (dVar 1) (dUn fBot (dVar 2)))) (vs := [2]) (s0 := ⟨[some (.val (.lst (qs.map PV.rat))), some (.val (.int (lcmD qs : Nat))), none], mu⟩)
    (f := fun p => match p with | .rat q => .int (q.num * (((lcmD qs : Nat) : Int) / (q.den : Int))) | _ => .non) (qs.map .rat) [] (fun x hx => by
      obtain ⟨q, hq, rfl⟩ := List.mem_map.mp hx
      refine ⟨_, ⟨[some (.val (.lst (qs.map PV.rat))), some (.val (.int (lcmD qs : Nat))), some (.val (.rat q))], mu⟩, rfl, rfl, ?_, rfl⟩
      have hd := q.den_pos
      have hdi : (0 : Int) < (q.den : Int) := by omega
      have hqz := (hz q hq).sm s
      have h9 : ib (q.den : Int) ≤ 9000 := by have := hqz.ib_den; omega
      have hm : ib q.num + ib (((lcmD qs : Nat) : Int) / (q.den : Int)) ≤ 1000000 := by
        have h1 := hqz.ib_num
        have h2 := ib_le (i := ((lcmD qs : Nat) : Int) / (q.den : Int)) (b := 3990) (by
          rw [← Int.natCast_ediv, Int.natAbs_natCast]
          exact Nat.le_trans (Nat.div_le_self ..) hlc)
        omega
      simp [hd, hdi, h9, hm]) (by simp; omega)
  have e7 : (qs.map PV.rat).map (fun p => match p with | .rat q => PV.int (q.num * (((lcmD qs : Nat) : Int) / (q.den : Int))) | _ => .non) = (tops (lcmD qs) qs).map .int := by
    unfold tops; rw [List.map_map, List.map_map]; rfl
  rw [e7] at e6
  have e1' : forL (gN 2) (dSet 1 (dBin gMul (dBin gFdiv (dVar 1) (dFnS F_common_divisor (dCons (dVar 1) (dCons (dUn fBot (dVar 2)) dNil)))) (dUn fBot (dVar 2)))) (qs.map .rat) ⟨[some (.val (.lst (qs.map PV.rat))), some (.val (.int 1)), none], mu⟩ = .ok .nx ⟨[some (.val (.lst (qs.map PV.rat))), some (.val (.int (lcmD qs : Nat))), o'], mu⟩ := e1
  simp [F_common, runBody, d_common, e1', e6, wipeE]
theorem z_total {D B : Nat} (s : Sm D B) {qs : List Rat} (hz : ∀ q ∈ qs, Zd D B q) (hn : qs.length ≤ 10000) (mu : List MO) : F_total [.lst (qs.map .rat)] mu = .ok (.rat (sumQ qs)) mu := by
  obtain ⟨e1, h0, h1, h2⟩ := z_common s hz hn mu
  have e2 := tops_sum h0 qs 0 h2
  rw [Int.zero_add, show Rat.divInt 0 (lcmD qs : Nat) = 0 from by simp] at e2
  have hk : okR (tops (lcmD qs) qs).sum (lcmD qs : Nat) = true := by
    have := ib_le (i := ((lcmD qs : Nat) : Int)) (b := 3990) (by rw [Int.natAbs_natCast]; exact Nat.le_trans (Nat.le_of_dvd s.pos h1) s.bot)
    exact decide_eq_true (by omega)
  have hb : ¬ lcmD qs = 0 := by omega
  simp [F_total, runBody, d_total, e1, intsP_map, hb, hk, e2, sumQ]
theorem Sm.le {D B D' B' : Nat} (s : Sm D B) (h1 : 0 < D') (h2 : D' ≤ D) (h3 : B' ≤ B) : Sm D' B' := ⟨h1, Nat.le_trans (Nat.mul_le_mul h3 h2) s.top, Nat.le_trans h2 s.bot⟩
/-- the mean of ratios; N bounds how many they are -/
theorem z_mean_of {D B N : Nat} (s : Sm D (N * B)) (hB : 1 ≤ B) {qs : List Rat} (hz : ∀ q ∈ qs, Zd D B q) (hne : qs ≠ []) (hn : qs.length ≤ N) (hN : N ≤ 10000) (mu : List MO) : F_mean_of [.lst (qs.map .rat)] mu = .ok (.rat (sumQ qs / (qs.length : Int))) mu := by
  have h0 : 0 < qs.length := List.length_pos_iff.mpr hne
  have sB : Sm D B := s.le s.pos (Nat.le_refl _) (Nat.le_mul_of_pos_left _ (by omega))
  have e2 := z_total sB hz (by omega) mu
  have zs := ((Zd.sumz s.pos hz).mono (Nat.dvd_refl _) (Nat.mul_le_mul_right _ hn)).sm s
  have e3 := e_over (x := sumQ qs) (y := ((qs.length : Int) : Rat)) (p := .int (qs.length : Int)) (a := 3990) (b := 14) zs (Zb_int (by omega)) (.inr ⟨rfl, rfl⟩) (by show (qs.length : Int) ≠ 0; omega) (by omega) mu
  simp [F_mean_of, runBody, d_mean_of, e2, e3]
theorem z_lmean {D B N : Nat} (s : Sm D (N * B + B)) {qs : List Rat} (hz : ∀ q ∈ qs, Zd D B q) (hne : qs ≠ []) (hn : qs.length ≤ N) (hN : N ≤ 10000) (mu : List MO) : F_w_mean [.lst (qs.map fr)] mu = .ok (fr (sumQ qs / (qs.length : Int))) mu := by
  have h0 : 0 < qs.length := List.length_pos_iff.mpr hne
  have e1 := z_sum s hz hn mu
  have zs := ((Zd.sumz s.pos hz).mono (Nat.dvd_refl _) (Nat.le_trans (Nat.mul_le_mul_right _ hn) (Nat.le_add_right _ _))).sm s
  have e2 := e_through (x := sumQ qs) (y := ((qs.length : Int) : Rat)) (a := 3990) (b := 14) zs (Zb_int (by omega)) (by show (qs.length : Int) ≠ 0; omega) (by omega) mu
  rw [fr_int] at e2
  simp [F_w_mean, runBody, d_w_mean, e1, e2]
end PD

namespace PD
open PySem L3 LD PC
/-! ## the law's arithmetic, further -/
theorem sub_divInt (x y : Rat) : Rat.divInt (x.num * y.den - y.num * x.den) (x.den * y.den) = x - y := by
  rw [Rat.sub_eq_add_neg, ← add_divInt]
  rw [Rat.neg_num, Rat.neg_den]
  congr 1
  rw [Int.neg_mul, Int.sub_eq_add_neg]
theorem e_minus {x y : Rat} {a b : Nat} (h1 : Zb x a) (h2 : Zb y b) (hab : a + b ≤ 8000) (mu : List MO) : F_w_minus [fr x, fr y] mu = .ok (fr (x - y)) mu := by
  have hd : ((x.den : Int) * y.den) ≠ 0 := Int.mul_ne_zero (den_ne x) (den_ne y)
  have h9 : ib ((x.den : Int) * y.den) ≤ 9000 := by
    have := ib_mul (i := (x.den : Int)) (j := (y.den : Int)) (a := a) (b := b) (by rw [Int.natAbs_natCast]; exact h1.2) (by rw [Int.natAbs_natCast]; exact h2.2)
    omega
  have c1 : ib x.num + ib (y.den : Int) ≤ 1000000 := by have := h1.ib_num; have := h2.ib_den; omega
  have c2 : ib y.num + ib (x.den : Int) ≤ 1000000 := by have := h2.ib_num; have := h1.ib_den; omega
  have c3 : ib (x.den : Int) + ib (y.den : Int) ≤ 1000000 := by have := h2.ib_den; have := h1.ib_den; omega
  have h := e_low (x.num * y.den - y.num * x.den) (x.den * y.den) mu hd h9
  rw [sub_divInt] at h
  simp [F_w_minus, runBody, d_w_minus, fr, c1, c2, c3]
  rw [h]; rfl
theorem e_times {x y : Rat} {a b : Nat} (h1 : Zb x a) (h2 : Zb y b) (hab : a + b ≤ 8000) (mu : List MO) : F_w_times [fr x, fr y] mu = .ok (fr (x * y)) mu := by
  have hd : ((x.den : Int) * y.den) ≠ 0 := Int.mul_ne_zero (den_ne x) (den_ne y)
  have h9 : ib ((x.den : Int) * y.den) ≤ 9000 := by
    have := ib_mul (i := (x.den : Int)) (j := (y.den : Int)) (a := a) (b := b) (by rw [Int.natAbs_natCast]; exact h1.2) (by rw [Int.natAbs_natCast]; exact h2.2)
    omega
  have c1 : ib x.num + ib y.num ≤ 1000000 := by have := h1.ib_num; have := h2.ib_num; omega
  have c3 : ib (x.den : Int) + ib (y.den : Int) ≤ 1000000 := by have := h2.ib_den; have := h1.ib_den; omega
  have h := e_low (x.num * y.num) (x.den * y.den) mu hd h9
  rw [mul_divInt] at h
  simp [F_w_times, runBody, d_w_times, fr, c1, c3]
  rw [h]; rfl
theorem Zd.pow {x : Rat} {D B : Nat} (h : Zd D B x) : ∀ n : Nat, Zd (D ^ n) (B ^ n) (x ^ n)
  | 0 => by
    rw [Nat.pow_zero, Nat.pow_zero, Rat.pow_zero]
    exact Zd.int (i := 1) (by decide)
  | n + 1 => by
    rw [Nat.pow_succ, Nat.pow_succ, Rat.pow_succ]
    exact (Zd.pow h n).mul h
theorem Zd.powle {x : Rat} {D B K : Nat} (h : Zd D B x) (h1 : 0 < B) {n : Nat} (hn : n ≤ K) : Zd (D ^ K) (B ^ K) (x ^ n) := (Zd.pow h n).mono (Nat.pow_dvd_pow _ hn) (Nat.pow_le_pow_right h1 hn)
theorem fr_one : fr 1 = .tup [.int 1, .int 1] := rfl
theorem mul_comm_fr (x : Rat) (n : Nat) : x ^ n * x = x ^ (n + 1) := (Rat.pow_succ x n).symm
theorem power_loop {x : Rat} {z : Nat} {a : Nat} (h : Zb x z) (hp : ∀ j ≤ a, Zb (x ^ j) z) (hz : z ≤ 4000) (mu : List MO) (k : PV) : ∀ (n j : Nat) (i0 : Int) (o : Option SV), j + n ≤ a →
    ∃ o', forL (gN 3) b_w_power_1 ((List.range n).map fun (k : Nat) => .int (i0 + (k : Int))) ⟨[some (.val (fr x)), some (.val k), some (.val (fr (x ^ j))), o], mu⟩ = .ok .nx ⟨[some (.val (fr x)), some (.val k), some (.val (fr (x ^ (j + n)))), o'], mu⟩ := by
  intro n
  induction n with
  | zero => exact fun j i0 o _ => ⟨o, rfl⟩
  | succ n ih =>
    intro j i0 o hj
    have e := e_times (hp j (by omega)) h (by omega) mu
    rw [← Rat.pow_succ] at e
    obtain ⟨o', e2⟩ := ih (j + 1) (i0 + 1) (some (.val (.int i0))) (by omega)
    refine ⟨o', ?_⟩
    rw [List.range_succ_eq_map, List.map_cons, List.map_map]
    have e3 : (List.range n).map ((fun (k : Nat) => PV.int (i0 + (k : Int))) ∘ Nat.succ) = (List.range n).map fun (k : Nat) => .int (i0 + 1 + (k : Int)) := by
      refine List.map_congr_left fun k _ => ?_
      show PV.int (i0 + ((k + 1 : Nat) : Int)) = _
      congr 1
      omega
    rw [e3]
    unfold forL b_w_power_1
    simp [e]
    unfold b_w_power_1 at e2
    simpa [Nat.add_assoc, Nat.add_comm 1 n] using e2
theorem e_power {x : Rat} {z : Nat} {i : Int} (h : Zb x z) (hp : ∀ j ≤ i.toNat, Zb (x ^ j) z) (hz : z ≤ 4000) (h0 : 0 ≤ i) (ha : i ≤ 1000) (mu : List MO) : F_w_power [fr x, .int i] mu = .ok (fr (x ^ i.toNat)) mu := by
  obtain ⟨o', e⟩ := power_loop h hp hz mu (.int i) i.toNat 0 0 none (by omega)
  have hb : (-4611686018427387904 : Int) ≤ i ∧ i < 4611686018427387904 := by omega
  rw [Rat.pow_zero, Nat.zero_add, fr_one] at e
  have er : rangeP 0 i.toNat = (List.range i.toNat).map fun (k : Nat) => PV.int (0 + (k : Int)) := rfl
  rw [← er] at e
  simp [F_w_power, runBody, d_w_power, hb, e]
theorem dvd_lcm {n : Nat} (h0 : 0 < n) (h : n ≤ 20) : n ∣ 232792560 := by
  have : n = 1 ∨ n = 2 ∨ n = 3 ∨ n = 4 ∨ n = 5 ∨ n = 6 ∨ n = 7 ∨ n = 8 ∨ n = 9 ∨ n = 10 ∨ n = 11 ∨ n = 12 ∨ n = 13 ∨ n = 14 ∨ n = 15 ∨ n = 16 ∨ n = 17 ∨ n = 18 ∨ n = 19 ∨ n = 20 := by omega
  rcases this with h | h | h | h | h | h | h | h | h | h | h | h | h | h | h | h | h | h | h | h <;> subst h <;> decide
theorem Zd.mean {D B N : Nat} {qs : List Rat} (h0 : 0 < D) (hz : ∀ q ∈ qs, Zd D B q) (hne : qs ≠ []) (hn : qs.length ≤ N) (hN : N ≤ 20) : Zd (D * 232792560) (N * B) (sumQ qs / ((qs.length : Int) : Rat)) :=
  ((Zd.sumz h0 hz).divN (List.length_pos_iff.mpr hne)).mono (Nat.mul_dvd_mul_left _ (dvd_lcm (List.length_pos_iff.mpr hne) (by omega))) (Nat.mul_le_mul_right _ hn)
/-! ## the program's operators -/
theorem e_sub {x y : Rat} {p : PV} {a b : Nat} (h1 : Zb x a) (h2 : Zb y b) (hp : Is y p) (hab : a + b ≤ 8000) (mu : List MO) : F_Ratio___sub__ [.rat x, p] mu = .ok (.rat (x - y)) mu := by
  have hd : ((x.den : Int) * y.den) ≠ 0 := Int.mul_ne_zero (den_ne x) (den_ne y)
  have h9 : okR (x.num * y.den - y.num * x.den) ((x.den : Int) * y.den) = true := by
    have := ib_mul (i := (x.den : Int)) (j := (y.den : Int)) (a := a) (b := b) (by rw [Int.natAbs_natCast]; exact h1.2) (by rw [Int.natAbs_natCast]; exact h2.2)
    exact decide_eq_true (by omega)
  have c1 : ib x.num + ib (y.den : Int) ≤ 1000000 := by have := h1.ib_num; have := h2.ib_den; omega
  have c2 : ib y.num + ib (x.den : Int) ≤ 1000000 := by have := h2.ib_num; have := h1.ib_den; omega
  have c3 : ib (x.den : Int) + ib (y.den : Int) ≤ 1000000 := by have := h2.ib_den; have := h1.ib_den; omega
  have e2 := e_ratio_of hp mu
  have hx : ¬ x.den = 0 := x.den_nz
  have hy : ¬ y.den = 0 := y.den_nz
  rw [← sub_divInt]
  simp [F_Ratio___sub__, runBody, d_Ratio___sub__, e2, c1, c2, c3, h9, hx, hy]
theorem e_mul {x y : Rat} {p : PV} {a b : Nat} (h1 : Zb x a) (h2 : Zb y b) (hp : Is y p) (hab : a + b ≤ 8000) (mu : List MO) : F_Ratio___mul__ [.rat x, p] mu = .ok (.rat (x * y)) mu := by
  have hd : ((x.den : Int) * y.den) ≠ 0 := Int.mul_ne_zero (den_ne x) (den_ne y)
  have h9 : okR (x.num * y.num) ((x.den : Int) * y.den) = true := by
    have := ib_mul (i := (x.den : Int)) (j := (y.den : Int)) (a := a) (b := b) (by rw [Int.natAbs_natCast]; exact h1.2) (by rw [Int.natAbs_natCast]; exact h2.2)
    exact decide_eq_true (by omega)
  have c1 : ib x.num + ib y.num ≤ 1000000 := by have := h1.ib_num; have := h2.ib_num; omega
  have c3 : ib (x.den : Int) + ib (y.den : Int) ≤ 1000000 := by have := h2.ib_den; have := h1.ib_den; omega
  have e2 := e_ratio_of hp mu
  have hx : ¬ x.den = 0 := x.den_nz
  have hy : ¬ y.den = 0 := y.den_nz
  rw [← mul_divInt]
  simp [F_Ratio___mul__, runBody, d_Ratio___mul__, e2, c1, c3, h9, hx, hy]
theorem rat_eq (x y : Rat) : (decide (x = y)) = ((x.num == y.num) && ((x.den : Int) == (y.den : Int))) := by
  by_cases h : x = y
  · subst h; simp
  · rw [decide_eq_false h]
    by_cases h1 : x.num = y.num
    · have h2 : ¬ x.den = y.den := fun h2 => h (Rat.ext h1 h2)
      have h3 : ((x.den : Int) == (y.den : Int)) = false := by
        rw [beq_eq_false_iff_ne]; exact fun z => h2 (by omega)
      rw [h3, Bool.and_false]
    · have h3 : (x.num == y.num) = false := by rw [beq_eq_false_iff_ne]; exact h1
      rw [h3, Bool.false_and]
theorem e_eq {x y : Rat} {p : PV} (hp : Is y p) (mu : List MO) : F_Ratio___eq__ [.rat x, p] mu = .ok (.bl (decide (x = y))) mu := by
  have e1 := e_is_number hp mu
  have e2 := e_ratio_of hp mu
  rw [rat_eq]
  by_cases h1 : x.num = y.num
  · have h3 : (x.num == y.num) = true := by simpa using h1
    simp [F_Ratio___eq__, runBody, d_Ratio___eq__, e1, e2, h3]
  · have h3 : (x.num == y.num) = false := by simpa using h1
    simp [F_Ratio___eq__, runBody, d_Ratio___eq__, e1, e2, h3]
end PD

namespace Gk12
open PySem PySem.Spec PyProof.Rows L2 L3 LD
def top (i : Nat) : Stmt := PySem.Challenge.pw_exactstats_k12_weighted_and_harmonic.main.body.getD i (.Pass ⟨0, 0, 0, 0⟩)

structure Fs (K : PySem.W.Frag) (mg : Str → Option Value) (CR : Addr) : Prop where
  n_abs : mg "abs" = none
  n_all : mg "all" = none
  n_bool : mg "bool" = none
  n_enumerate : mg "enumerate" = none
  n_int : mg "int" = none
  n_isinstance : mg "isinstance" = none
  n_len : mg "len" = none
  n_list : mg "list" = none
  n_max : mg "max" = none
  n_min : mg "min" = none
  n_range : mg "range" = none
  n_sum : mg "sum" = none
  n_tuple : mg "tuple" = none
  n_zip : mg "zip" = none
  mR : mg "Ratio" = some (.ref CR)
  T : ClsR K CR
  I : IsiR K CR
  F_own_top : ClsF K [CR] "own_top"
  F_own_bottom : ClsF K [CR] "own_bottom"
  c_MOST_ITEMS : ∃ t, mg "MOST_ITEMS" = some (.int 1000 t)
section
variable {P : Program} {w : World} {K : PySem.W.Frag} {mg : Str → Option Value} {base : Heap} {CR : Addr}
abbrev s_BadNumber___init__ : Stmt := ((clsBody (top 5)).getD 0 (.Pass ⟨0, 0, 0, 0⟩))
theorem sc_BadNumber___init__ : FnScope ["self", "value"] ["self", "value"] (defScope s_BadNumber___init__) := ⟨rfl, rfl, rfl, by decide +kernel, rfl, by decide +kernel, by decide +kernel⟩
abbrev s_BadSample___init__ : Stmt := ((clsBody (top 6)).getD 0 (.Pass ⟨0, 0, 0, 0⟩))
theorem sc_BadSample___init__ : FnScope ["self", "index"] ["self", "index"] (defScope s_BadSample___init__) := ⟨rfl, rfl, rfl, by decide +kernel, rfl, by decide +kernel, by decide +kernel⟩
abbrev s_BadWeights___init__ : Stmt := ((clsBody (top 7)).getD 0 (.Pass ⟨0, 0, 0, 0⟩))
theorem sc_BadWeights___init__ : FnScope ["self", "index"] ["self", "index"] (defScope s_BadWeights___init__) := ⟨rfl, rfl, rfl, by decide +kernel, rfl, by decide +kernel, by decide +kernel⟩
abbrev s_NotPositive___init__ : Stmt := ((clsBody (top 10)).getD 0 (.Pass ⟨0, 0, 0, 0⟩))
theorem sc_NotPositive___init__ : FnScope ["self", "index"] ["self", "index"] (defScope s_NotPositive___init__) := ⟨rfl, rfl, rfl, by decide +kernel, rfl, by decide +kernel, by decide +kernel⟩
abbrev s_w_source : Stmt := (top 37)
theorem sc_w_source : FnScope ["_law_script", "_law_k", "_law_cell"] ["_law_script", "_law_k"] (defScope s_w_source) := ⟨rfl, rfl, rfl, by decide +kernel, rfl, by decide +kernel, by decide +kernel⟩
theorem ok_w_source (E : Fs K mg CR)  {f : Addr} {fd : FuncData} (F : FunD K "_law_source" "_law_source" (defArgs s_w_source) (defBody s_w_source) (defScope s_w_source) [] [] f fd) : FJ P w K mg base CR 1 f fd ["_law_script", "_law_k"] (runBody 3 d_w_source) :=
  jf_fn F sc_w_source fun cdv A outer s H E' Nn hr => by
    have nd := sc_w_source.nd
    have hu := hr.units
    exact (js_cons (js_set (i := 2) nd (j_if (jt_cmp (o_neA hu) (jv 0) (j_lst ja_nil)) (j_ix (jv 0) (j_bin o_mod (jv 1) (j_callB c_len rfl E.n_len (by decide +kernel) (ja_cons (jv 0) ja_nil)))) j_int)) (js_one (js_ret (j_new (jf_lst (ja_cons (jv 2) (ja_cons (j_bin o_mul j_int (jv 1)) (ja_cons (j_if (jt_cmp o_geI (jv 2) (j_bin o_pow j_int j_int)) (j_bin o_fdiv (jv 2) (j_bin o_pow j_int j_int)) j_int) ja_nil))))))))
abbrev s_w_next : Stmt := (top 38)
theorem sc_w_next : FnScope ["_law_source_here", "_law_many", "_law_primes", "_law_prime", "_law_found"] ["_law_source_here", "_law_many"] (defScope s_w_next) := ⟨rfl, rfl, rfl, by decide +kernel, rfl, by decide +kernel, by decide +kernel⟩
theorem ok_w_next (E : Fs K mg CR)  {f : Addr} {fd : FuncData} (F : FunD K "_law_next" "_law_next" (defArgs s_w_next) (defBody s_w_next) (defScope s_w_next) [] [] f fd) : FJ P w K mg base CR 1 f fd ["_law_source_here", "_law_many"] (runBody 5 d_w_next) :=
  jf_fn F sc_w_next fun cdv A outer s H E' Nn hr => by
    have nd := sc_w_next.nd
    have hu := hr.units
    exact (js_cons (js_if (jt_cmp o_gtI (j_ix (jv 0) j_int) j_int) (js_cons (js_set (i := 4) nd (j_bin o_mod (j_ix (jv 0) j_int) (jv 1))) (js_cons (js_put (i := 0) (j_bin o_fdiv (j_ix (jv 0) j_int) (jv 1)) j_int) (js_one (js_ret (jv 4))))) js_nil) (js_cons (js_put (i := 0) (j_bin o_add (j_ix (jv 0) j_int) j_int) j_int) (js_cons (js_set (i := 2) nd (j_lst (ja_cons j_int (ja_cons j_int (ja_cons j_int (ja_cons j_int (ja_cons j_int (ja_cons j_int (ja_cons j_int (ja_cons j_int ja_nil)))))))))) (js_cons (js_set (i := 3) nd (j_ix (j_bin o_add (jv 2) (j_lst (ja_cons j_int (ja_cons j_int (ja_cons j_int ja_nil))))) (j_bin o_mod (j_ix (jv 0) j_int) j_int))) (js_one (js_ret (j_bin o_mod (j_bin o_fdiv (j_bin o_mod (j_bin o_pow (j_bin o_add (j_bin o_add (j_bin o_mod (j_ix (jv 0) j_int) (jv 3)) (j_bin o_mul j_int (j_ix (jv 0) j_int))) j_int) j_int) (jv 3)) j_int) (jv 1))))))))
abbrev s_w_pick : Stmt := (top 39)
theorem sc_w_pick : FnScope ["_law_source_here", "_law_items"] ["_law_source_here", "_law_items"] (defScope s_w_pick) := ⟨rfl, rfl, rfl, by decide +kernel, rfl, by decide +kernel, by decide +kernel⟩
theorem ok_w_pick (E : Fs K mg CR) (h_w_next : Has P w K mg base CR "_law_next" 1 ["_law_source_here", "_law_many"] F_w_next) {f : Addr} {fd : FuncData} (F : FunD K "_law_pick" "_law_pick" (defArgs s_w_pick) (defBody s_w_pick) (defScope s_w_pick) [] [] f fd) : FJ P w K mg base CR 2 f fd ["_law_source_here", "_law_items"] (runBody 2 d_w_pick) :=
  jf_fn F sc_w_pick fun cdv A outer s H E' Nn hr => by
    have nd := sc_w_pick.nd
    have hu := hr.units
    exact (js_one (js_ret (j_ix (jv 1) (j_callH h_w_next (hr.mono (by decide)) (takes_of rfl rfl rfl (E₁ := _) rfl) (ja_cons (jv 0) (ja_cons (j_callB c_len rfl E.n_len (by decide +kernel) (ja_cons (jv 1) ja_nil)) ja_nil))))))
abbrev s_w_low : Stmt := (top 40)
theorem sc_w_low : FnScope ["_law_top", "_law_bottom", "_law_one", "_law_other"] ["_law_top", "_law_bottom"] (defScope s_w_low) := ⟨rfl, rfl, rfl, by decide +kernel, rfl, by decide +kernel, by decide +kernel⟩
theorem ok_w_low (E : Fs K mg CR)  {f : Addr} {fd : FuncData} (F : FunD K "_law_low" "_law_low" (defArgs s_w_low) (defBody s_w_low) (defScope s_w_low) [] [] f fd) : FJ P w K mg base CR 1 f fd ["_law_top", "_law_bottom"] (runBody 4 d_w_low) :=
  jf_fn F sc_w_low fun cdv A outer s H E' Nn hr => by
    have nd := sc_w_low.nd
    have hu := hr.units
    exact (js_cons (js_par2 rfl nd (ja_cons (j_callB c_abs rfl E.n_abs (by decide +kernel) (ja_cons (jv 0) ja_nil)) (ja_cons (j_callB c_abs rfl E.n_abs (by decide +kernel) (ja_cons (jv 1) ja_nil)) ja_nil))) (js_cons (js_while (fuel := (fuI 3)) (passes_of rfl) (jt_cmp (o_neA hu) (jv 3) j_int) (js_one (js_par2 rfl nd (ja_cons (jv 3) (ja_cons (j_bin o_mod (jv 2) (jv 3)) ja_nil))))) (js_one (js_ret (j_if (jt_cmp o_gtI (jv 1) j_int) (j_tup (ja_cons (j_bin o_fdiv (jv 0) (jv 2)) (ja_cons (j_bin o_fdiv (jv 1) (jv 2)) ja_nil))) (j_tup (ja_cons (j_bin o_sub j_int (j_bin o_fdiv (jv 0) (jv 2))) (ja_cons (j_bin o_sub j_int (j_bin o_fdiv (jv 1) (jv 2))) ja_nil))))))))
abbrev s_w_drawn : Stmt := (top 45)
theorem sc_w_drawn : FnScope ["_law_source_here", "_law_way"] ["_law_source_here"] (defScope s_w_drawn) := ⟨rfl, rfl, rfl, by decide +kernel, rfl, by decide +kernel, by decide +kernel⟩
theorem ok_w_drawn (E : Fs K mg CR) (h_w_next : Has P w K mg base CR "_law_next" 1 ["_law_source_here", "_law_many"] F_w_next) (h_w_low : Has P w K mg base CR "_law_low" 1 ["_law_top", "_law_bottom"] F_w_low) {f : Addr} {fd : FuncData} (F : FunD K "_law_drawn" "_law_drawn" (defArgs s_w_drawn) (defBody s_w_drawn) (defScope s_w_drawn) [] [] f fd) : FJ P w K mg base CR 2 f fd ["_law_source_here"] (runBody 2 d_w_drawn) :=
  jf_fn F sc_w_drawn fun cdv A outer s H E' Nn hr => by
    have nd := sc_w_drawn.nd
    have hu := hr.units
    exact (js_cons (js_set (i := 1) nd (j_callH h_w_next (hr.mono (by decide)) (takes_of rfl rfl rfl (E₁ := _) rfl) (ja_cons (jv 0) (ja_cons j_int ja_nil)))) (js_cons (js_if (jt_cmp o_ltI (jv 1) j_int) (js_one (js_ret (j_tup (ja_cons (j_bin o_sub (j_callH h_w_next (hr.mono (by decide)) (takes_of rfl rfl rfl (E₁ := _) rfl) (ja_cons (jv 0) (ja_cons j_int ja_nil))) j_int) (ja_cons j_int ja_nil))))) js_nil) (js_one (js_ret (j_callH h_w_low (hr.mono (by decide)) (takes_of rfl rfl rfl (E₁ := _) rfl) (ja_cons (j_bin o_sub (j_callH h_w_next (hr.mono (by decide)) (takes_of rfl rfl rfl (E₁ := _) rfl) (ja_cons (jv 0) (ja_cons j_int ja_nil))) j_int) (ja_cons (j_bin o_add j_int (j_callH h_w_next (hr.mono (by decide)) (takes_of rfl rfl rfl (E₁ := _) rfl) (ja_cons (jv 0) (ja_cons (j_if (jt_cmp (o_eqA hu) (jv 1) j_int) j_int j_int) ja_nil)))) ja_nil)))))))
abbrev s_w_row : Stmt := (top 46)
theorem sc_w_row : FnScope ["_law_source_here", "_law_most", "_law_found", "_law_turn"] ["_law_source_here", "_law_most"] (defScope s_w_row) := ⟨rfl, rfl, rfl, by decide +kernel, rfl, by decide +kernel, by decide +kernel⟩
theorem ok_w_row (E : Fs K mg CR) (h_w_next : Has P w K mg base CR "_law_next" 1 ["_law_source_here", "_law_many"] F_w_next) (h_w_pick : Has P w K mg base CR "_law_pick" 2 ["_law_source_here", "_law_items"] F_w_pick) (h_w_drawn : Has P w K mg base CR "_law_drawn" 2 ["_law_source_here"] F_w_drawn) {f : Addr} {fd : FuncData} (F : FunD K "_law_row" "_law_row" (defArgs s_w_row) (defBody s_w_row) (defScope s_w_row) [] [] f fd) : FJ P w K mg base CR 3 f fd ["_law_source_here", "_law_most"] (runBody 4 d_w_row) :=
  jf_fn F sc_w_row fun cdv A outer s H E' Nn hr => by
    have nd := sc_w_row.nd
    have hu := hr.units
    exact (js_cons (js_own (i := 2) nd (jf_lst ja_nil)) (js_cons (js_for (passes_of rfl) rfl (ji_range1 (ja_cons (j_callH h_w_next (hr.mono (by decide)) (takes_of rfl rfl rfl (E₁ := _) rfl) (ja_cons (jv 0) (ja_cons (j_bin o_add (jv 1) j_int) ja_nil))) ja_nil) E.n_range) (jg_name 3 nd) (js_one (js_expr (j_app (i := 2) (j_bor (is := [2]) (j_if (jt_w (jw_and (jt_cmp (o_neA hu) (jv 2) (j_lst ja_nil)) (jw_and1 (jt_cmp (o_eqA hu) (j_callH h_w_next (hr.mono (by decide)) (takes_of rfl rfl rfl (E₁ := _) rfl) (ja_cons (jv 0) (ja_cons j_int ja_nil))) j_int)))) (j_callH h_w_pick (hr.mono (by decide)) (takes_of rfl rfl rfl (E₁ := _) rfl) (ja_cons (jv 0) (ja_cons (jv 2) ja_nil))) (j_callH h_w_drawn (hr.mono (by decide)) (takes_of rfl rfl rfl (E₁ := _) rfl) (ja_cons (jv 0) ja_nil)))))))) (js_one (js_frz (is := [2]) (js_ret (jv 2))))))
abbrev s_w_filled : Stmt := (top 50)
theorem sc_w_filled : FnScope ["_law_source_here", "_law_most"] ["_law_source_here", "_law_most"] (defScope s_w_filled) := ⟨rfl, rfl, rfl, by decide +kernel, rfl, by decide +kernel, by decide +kernel⟩
theorem ok_w_filled (E : Fs K mg CR) (h_w_row : Has P w K mg base CR "_law_row" 3 ["_law_source_here", "_law_most"] F_w_row) (h_w_drawn : Has P w K mg base CR "_law_drawn" 2 ["_law_source_here"] F_w_drawn) {f : Addr} {fd : FuncData} (F : FunD K "_law_filled" "_law_filled" (defArgs s_w_filled) (defBody s_w_filled) (defScope s_w_filled) [] [] f fd) : FJ P w K mg base CR 4 f fd ["_law_source_here", "_law_most"] (runBody 2 d_w_filled) :=
  jf_fn F sc_w_filled fun cdv A outer s H E' Nn hr => by
    have nd := sc_w_filled.nd
    have hu := hr.units
    exact (js_one (js_ret (j_bin o_add (j_callH h_w_row (hr.mono (by decide)) (takes_of rfl rfl rfl (E₁ := _) rfl) (ja_cons (jv 0) (ja_cons (j_bin o_sub (jv 1) j_int) ja_nil))) (j_lst (ja_cons (j_callH h_w_drawn (hr.mono (by decide)) (takes_of rfl rfl rfl (E₁ := _) rfl) (ja_cons (jv 0) ja_nil)) ja_nil)))))
abbrev s_w_times : Stmt := (top 42)
theorem sc_w_times : FnScope ["_law_one", "_law_other"] ["_law_one", "_law_other"] (defScope s_w_times) := ⟨rfl, rfl, rfl, by decide +kernel, rfl, by decide +kernel, by decide +kernel⟩
theorem ok_w_times (E : Fs K mg CR) (h_w_low : Has P w K mg base CR "_law_low" 1 ["_law_top", "_law_bottom"] F_w_low) {f : Addr} {fd : FuncData} (F : FunD K "_law_times" "_law_times" (defArgs s_w_times) (defBody s_w_times) (defScope s_w_times) [] [] f fd) : FJ P w K mg base CR 2 f fd ["_law_one", "_law_other"] (runBody 2 d_w_times) :=
  jf_fn F sc_w_times fun cdv A outer s H E' Nn hr => by
    have nd := sc_w_times.nd
    have hu := hr.units
    exact (js_one (js_ret (j_callH h_w_low (hr.mono (by decide)) (takes_of rfl rfl rfl (E₁ := _) rfl) (ja_cons (j_bin o_mul (j_ix (jv 0) j_int) (j_ix (jv 1) j_int)) (ja_cons (j_bin o_mul (j_ix (jv 0) j_int) (j_ix (jv 1) j_int)) ja_nil)))))
abbrev s_w_plus : Stmt := (top 41)
theorem sc_w_plus : FnScope ["_law_one", "_law_other"] ["_law_one", "_law_other"] (defScope s_w_plus) := ⟨rfl, rfl, rfl, by decide +kernel, rfl, by decide +kernel, by decide +kernel⟩
theorem ok_w_plus (E : Fs K mg CR) (h_w_low : Has P w K mg base CR "_law_low" 1 ["_law_top", "_law_bottom"] F_w_low) {f : Addr} {fd : FuncData} (F : FunD K "_law_plus" "_law_plus" (defArgs s_w_plus) (defBody s_w_plus) (defScope s_w_plus) [] [] f fd) : FJ P w K mg base CR 2 f fd ["_law_one", "_law_other"] (runBody 2 d_w_plus) :=
  jf_fn F sc_w_plus fun cdv A outer s H E' Nn hr => by
    have nd := sc_w_plus.nd
    have hu := hr.units
    exact (js_one (js_ret (j_callH h_w_low (hr.mono (by decide)) (takes_of rfl rfl rfl (E₁ := _) rfl) (ja_cons (j_bin o_add (j_bin o_mul (j_ix (jv 0) j_int) (j_ix (jv 1) j_int)) (j_bin o_mul (j_ix (jv 1) j_int) (j_ix (jv 0) j_int))) (ja_cons (j_bin o_mul (j_ix (jv 0) j_int) (j_ix (jv 1) j_int)) ja_nil)))))
abbrev s_w_sum : Stmt := (top 44)
theorem sc_w_sum : FnScope ["_law_some", "_law_found", "_law_one"] ["_law_some"] (defScope s_w_sum) := ⟨rfl, rfl, rfl, by decide +kernel, rfl, by decide +kernel, by decide +kernel⟩
theorem ok_w_sum (E : Fs K mg CR) (h_w_plus : Has P w K mg base CR "_law_plus" 2 ["_law_one", "_law_other"] F_w_plus) {f : Addr} {fd : FuncData} (F : FunD K "_law_sum" "_law_sum" (defArgs s_w_sum) (defBody s_w_sum) (defScope s_w_sum) [] [] f fd) : FJ P w K mg base CR 3 f fd ["_law_some"] (runBody 3 d_w_sum) :=
  jf_fn F sc_w_sum fun cdv A outer s H E' Nn hr => by
    have nd := sc_w_sum.nd
    have hu := hr.units
    exact (js_cons (js_set (i := 1) nd (j_tup (ja_cons j_int (ja_cons j_int ja_nil)))) (js_cons (js_for (passes_of rfl) rfl (ji_seq (jv 0)) (jg_name 2 nd) (js_one (js_set (i := 1) nd (j_callH h_w_plus (hr.mono (by decide)) (takes_of rfl rfl rfl (E₁ := _) rfl) (ja_cons (jv 1) (ja_cons (jv 2) ja_nil)))))) (js_one (js_ret (jv 1)))))
abbrev s_w_through : Stmt := (top 43)
theorem sc_w_through : FnScope ["_law_one", "_law_other"] ["_law_one", "_law_other"] (defScope s_w_through) := ⟨rfl, rfl, rfl, by decide +kernel, rfl, by decide +kernel, by decide +kernel⟩
theorem ok_w_through (E : Fs K mg CR) (h_w_low : Has P w K mg base CR "_law_low" 1 ["_law_top", "_law_bottom"] F_w_low) {f : Addr} {fd : FuncData} (F : FunD K "_law_through" "_law_through" (defArgs s_w_through) (defBody s_w_through) (defScope s_w_through) [] [] f fd) : FJ P w K mg base CR 2 f fd ["_law_one", "_law_other"] (runBody 2 d_w_through) :=
  jf_fn F sc_w_through fun cdv A outer s H E' Nn hr => by
    have nd := sc_w_through.nd
    have hu := hr.units
    exact (js_one (js_ret (j_callH h_w_low (hr.mono (by decide)) (takes_of rfl rfl rfl (E₁ := _) rfl) (ja_cons (j_bin o_mul (j_ix (jv 0) j_int) (j_ix (jv 1) j_int)) (ja_cons (j_bin o_mul (j_ix (jv 0) j_int) (j_ix (jv 1) j_int)) ja_nil)))))
abbrev s_is_integer : Stmt := (top 12)
theorem sc_is_integer : FnScope ["value"] ["value"] (defScope s_is_integer) := ⟨rfl, rfl, rfl, by decide +kernel, rfl, by decide +kernel, by decide +kernel⟩
theorem ok_is_integer (E : Fs K mg CR)  {f : Addr} {fd : FuncData} (F : FunD K "is_integer" "is_integer" (defArgs s_is_integer) (defBody s_is_integer) (defScope s_is_integer) [] [] f fd) : FJ P w K mg base CR 1 f fd ["value"] (runBody 1 d_is_integer) :=
  jf_fn F sc_is_integer fun cdv A outer s H E' Nn hr => by
    have nd := sc_is_integer.nd
    have hu := hr.units
    exact (js_one (js_ret (j_and (j_isT E.I.kk E.I.int E.n_int (by decide +kernel) E.n_isinstance (jv 0)) (j_one (j_not (j_isT E.I.kk E.I.bool E.n_bool (by decide +kernel) E.n_isinstance (jv 0)))))))
abbrev s_common_divisor : Stmt := (top 14)
theorem sc_common_divisor : FnScope ["one", "other"] ["one", "other"] (defScope s_common_divisor) := ⟨rfl, rfl, rfl, by decide +kernel, rfl, by decide +kernel, by decide +kernel⟩
theorem ok_common_divisor (E : Fs K mg CR)  {f : Addr} {fd : FuncData} (F : FunD K "common_divisor" "common_divisor" (defArgs s_common_divisor) (defBody s_common_divisor) (defScope s_common_divisor) [] [] f fd) : FJ P w K mg base CR 1 f fd ["one", "other"] (runBody 2 d_common_divisor) :=
  jf_fn F sc_common_divisor fun cdv A outer s H E' Nn hr => by
    have nd := sc_common_divisor.nd
    have hu := hr.units
    exact (js_cons (js_par2 rfl nd (ja_cons (j_callB c_abs rfl E.n_abs (by decide +kernel) (ja_cons (jv 0) ja_nil)) (ja_cons (j_callB c_abs rfl E.n_abs (by decide +kernel) (ja_cons (jv 1) ja_nil)) ja_nil))) (js_cons (js_while (fuel := (fuI 1)) (passes_of rfl) (jt_cmp o_gtI (jv 1) j_int) (js_one (js_par2 rfl nd (ja_cons (jv 1) (ja_cons (j_bin o_mod (jv 0) (jv 1)) ja_nil))))) (js_one (js_ret (jv 0)))))
abbrev s_Ratio___init__ : Stmt := ((clsBody (top 15)).getD 0 (.Pass ⟨0, 0, 0, 0⟩))
theorem sc_Ratio___init__ : FnScope ["self", "top", "bottom", "value", "divisor"] ["self", "top", "bottom"] (defScope s_Ratio___init__) := ⟨rfl, rfl, rfl, by decide +kernel, rfl, by decide +kernel, by decide +kernel⟩
theorem ok_Ratio___init__ (E : Fs K mg CR) (h_is_integer : Has P w K mg base CR "is_integer" 1 ["value"] F_is_integer) (h_common_divisor : Has P w K mg base CR "common_divisor" 1 ["one", "other"] F_common_divisor) {f : Addr} {fd : FuncData} (F : FunD K "__init__" "Ratio.__init__" (defArgs s_Ratio___init__) (defBody s_Ratio___init__) (defScope s_Ratio___init__) [.int 1] [] f fd) : FJ P w K mg base CR 2 f fd ["self", "top", "bottom"] (runBody 5 (d_Ratio___init__ CR)) :=
  jf_fn F sc_Ratio___init__ fun cdv A outer s H E' Nn hr => by
    have nd := sc_Ratio___init__.nd
    have hu := hr.units
    exact (js_cons (js_for (passes_of rfl) rfl (ji_seq (j_tup (ja_cons (jv 1) (ja_cons (jv 2) ja_nil)))) (jg_name 3 nd) (js_one (js_if (jt_not (jt (j_callH h_is_integer (hr.mono (by decide)) (takes_of rfl rfl rfl (E₁ := _) rfl) (ja_cons (jv 3) ja_nil)))) (js_one js_never) js_nil))) (js_cons (js_if (jt_cmp (o_eqA hu) (jv 2) j_int) (js_one js_never) js_nil) (js_cons (js_set (i := 4) nd (j_callH h_common_divisor (hr.mono (by decide)) (takes_of rfl rfl rfl (E₁ := _) rfl) (ja_cons (jv 1) (ja_cons (jv 2) ja_nil)))) (js_cons (js_fput E.F_own_top (jv 0) (j_if (jt_cmp o_gtI (jv 2) j_int) (j_bin o_fdiv (jv 1) (jv 4)) (j_bin o_sub j_int (j_bin o_fdiv (jv 1) (jv 4))))) (js_one (js_fput E.F_own_bottom (jv 0) (j_bin o_fdiv (j_callB c_abs rfl E.n_abs (by decide +kernel) (ja_cons (jv 2) ja_nil)) (jv 4))))))))
abbrev s_w_given : Stmt := (top 47)
theorem sc_w_given : FnScope ["_law_some", "_law_top", "_law_bottom"] ["_law_some"] (defScope s_w_given) := ⟨rfl, rfl, rfl, by decide +kernel, rfl, by decide +kernel, by decide +kernel⟩
theorem ok_w_given (E : Fs K mg CR) (h_Ratio : HasR P w K mg base CR 2 okR) {f : Addr} {fd : FuncData} (F : FunD K "_law_given" "_law_given" (defArgs s_w_given) (defBody s_w_given) (defScope s_w_given) [] [] f fd) : FJ P w K mg base CR 4 f fd ["_law_some"] (runBody 3 d_w_given) :=
  jf_fn F sc_w_given fun cdv A outer s H E' Nn hr => by
    have nd := sc_w_given.nd
    have hu := hr.units
    exact (js_one (js_ret (j_ofF (jf_comp rfl nd (ji_seq (jv 0)) (own := [("_law_top", 1), ("_law_bottom", 2)]) (blkOk_by (by kernel_rfl)) (fun _ _ _ _ _ _ => (jg_tup rfl (jgs_cons (jg_name 1 nd) (jgs_cons (jg_name 2 nd) jgs_nil)))) (fun _ _ _ _ _ _ => jts_nil) (fun _ _ _ _ _ _ => (j_if (jt_cmp o_gtI (jv 2) j_int) (j_callR h_Ratio (hr.mono (by decide)) (ja_cons (jv 1) (ja_cons (jv 2) ja_nil))) (jv 1)))))))
abbrev s_is_number : Stmt := (top 16)
theorem sc_is_number : FnScope ["value"] ["value"] (defScope s_is_number) := ⟨rfl, rfl, rfl, by decide +kernel, rfl, by decide +kernel, by decide +kernel⟩
theorem ok_is_number (E : Fs K mg CR) (h_is_integer : Has P w K mg base CR "is_integer" 1 ["value"] F_is_integer) {f : Addr} {fd : FuncData} (F : FunD K "is_number" "is_number" (defArgs s_is_number) (defBody s_is_number) (defScope s_is_number) [] [] f fd) : FJ P w K mg base CR 2 f fd ["value"] (runBody 1 d_is_number) :=
  jf_fn F sc_is_number fun cdv A outer s H E' Nn hr => by
    have nd := sc_is_number.nd
    have hu := hr.units
    exact (js_one (js_ret (j_or (j_callH h_is_integer (hr.mono (by decide)) (takes_of rfl rfl rfl (E₁ := _) rfl) (ja_cons (jv 0) ja_nil)) (j_one (j_isR E.I E.mR E.n_isinstance (jv 0))))))
abbrev s_need_number : Stmt := (top 18)
theorem sc_need_number : FnScope ["value"] ["value"] (defScope s_need_number) := ⟨rfl, rfl, rfl, by decide +kernel, rfl, by decide +kernel, by decide +kernel⟩
theorem ok_need_number (E : Fs K mg CR) (h_exc_BadNumber : HasE P w K mg base "BadNumber" "value" .ve) (h_is_number_ratios : Has P w K mg base CR "is_number_ratios" 2 ["value"] F_is_number) {f : Addr} {fd : FuncData} (F : FunD K "need_number" "need_number" (defArgs s_need_number) (defBody s_need_number) (defScope s_need_number) [] [] f fd) : FJ P w K mg base CR 3 f fd ["value"] (runBody 1 d_need_number) :=
  jf_fn F sc_need_number fun cdv A outer s H E' Nn hr => by
    have nd := sc_need_number.nd
    have hu := hr.units
    exact (js_one (js_if (jt_not (jt (j_callH h_is_number_ratios (hr.mono (by decide)) (takes_of rfl rfl rfl (E₁ := _) rfl) (ja_cons (jv 0) ja_nil)))) (js_one (js_raise (k := 0) rfl h_exc_BadNumber (hr.mono (by decide)) (takes_of rfl rfl rfl (E₁ := _) rfl) (jv 0))) js_nil))
abbrev s_ratio_of : Stmt := (top 19)
theorem sc_ratio_of : FnScope ["value"] ["value"] (defScope s_ratio_of) := ⟨rfl, rfl, rfl, by decide +kernel, rfl, by decide +kernel, by decide +kernel⟩
theorem ok_ratio_of (E : Fs K mg CR) (h_Ratio : HasR P w K mg base CR 2 okR) {f : Addr} {fd : FuncData} (F : FunD K "ratio_of" "ratio_of" (defArgs s_ratio_of) (defBody s_ratio_of) (defScope s_ratio_of) [] [] f fd) : FJ P w K mg base CR 4 f fd ["value"] (runBody 1 d_ratio_of) :=
  jf_fn F sc_ratio_of fun cdv A outer s H E' Nn hr => by
    have nd := sc_ratio_of.nd
    have hu := hr.units
    exact (js_one (js_ret (j_if (jt (j_isR E.I E.mR E.n_isinstance (jv 0))) (jv 0) (j_callR h_Ratio (hr.mono (by decide)) (ja_cons (jv 0) ja_nil)))))
abbrev s_Ratio_of : Stmt := ((clsBody (top 15)).getD 1 (.Pass ⟨0, 0, 0, 0⟩))
theorem sc_Ratio_of : FnScope ["cls", "value"] ["cls", "value"] (defScope s_Ratio_of) := ⟨rfl, rfl, rfl, by decide +kernel, rfl, by decide +kernel, by decide +kernel⟩
theorem ok_Ratio_of (E : Fs K mg CR) (h_need_number : Has P w K mg base CR "need_number" 3 ["value"] F_need_number) (h_ratio_of : Has P w K mg base CR "ratio_of" 4 ["value"] F_ratio_of) {f : Addr} {fd : FuncData} (F : FunD K "of" "Ratio.of" (defArgs s_Ratio_of) (defBody s_Ratio_of) (defScope s_Ratio_of) [] [] f fd) : FJ P w K mg base CR 5 f fd ["cls", "value"] (runBody 2 d_Ratio_of) :=
  jf_fn F sc_Ratio_of fun cdv A outer s H E' Nn hr => by
    have nd := sc_Ratio_of.nd
    have hu := hr.units
    exact (js_cons (js_expr (j_callH h_need_number (hr.mono (by decide)) (takes_of rfl rfl rfl (E₁ := _) rfl) (ja_cons (jv 1) ja_nil))) (js_one (js_ret (j_callH h_ratio_of (hr.mono (by decide)) (takes_of rfl rfl rfl (E₁ := _) rfl) (ja_cons (jv 1) ja_nil)))))
abbrev s_w_framed : Stmt := (top 49)
theorem sc_w_framed : FnScope ["_law_source_here", "_law_some", "_law_found", "_law_value"] ["_law_source_here", "_law_some"] (defScope s_w_framed) := ⟨rfl, rfl, rfl, by decide +kernel, rfl, by decide +kernel, by decide +kernel⟩
theorem ok_w_framed (E : Fs K mg CR) (h_w_given : Has P w K mg base CR "_law_given" 4 ["_law_some"] F_w_given) (h_w_next : Has P w K mg base CR "_law_next" 1 ["_law_source_here", "_law_many"] F_w_next) (h_Ratio_of : HasC P w K mg base CR "of" 5 ["cls", "value"] F_Ratio_of) {f : Addr} {fd : FuncData} (F : FunD K "_law_framed" "_law_framed" (defArgs s_w_framed) (defBody s_w_framed) (defScope s_w_framed) [] [] f fd) : FJ P w K mg base CR 6 f fd ["_law_source_here", "_law_some"] (runBody 4 (d_w_framed CR)) :=
  jf_fn F sc_w_framed fun cdv A outer s H E' Nn hr => by
    have nd := sc_w_framed.nd
    have hu := hr.units
    exact (js_cons (js_set (i := 2) nd (j_callH h_w_given (hr.mono (by decide)) (takes_of rfl rfl rfl (E₁ := _) rfl) (ja_cons (jv 1) ja_nil))) (js_cons (js_if (jt_cmp (o_eqA hu) (j_callH h_w_next (hr.mono (by decide)) (takes_of rfl rfl rfl (E₁ := _) rfl) (ja_cons (jv 0) (ja_cons j_int ja_nil))) j_int) (js_one (js_ret (j_callTy c_tuple rfl E.n_tuple (by decide +kernel) (ja_cons (jv 2) ja_nil)))) js_nil) (js_one (js_ret (j_if (jt_cmp (o_eqA hu) (j_callH h_w_next (hr.mono (by decide)) (takes_of rfl rfl rfl (E₁ := _) rfl) (ja_cons (jv 0) (ja_cons j_int ja_nil))) j_int) (j_ofF (jf_comp rfl nd (ji_seq (jv 2)) (own := [("_law_value", 3)]) (blkOk_by (by kernel_rfl)) (fun _ _ _ _ _ _ => (jg_name 3 nd)) (fun _ _ _ _ _ _ => jts_nil) (fun _ _ _ _ _ _ => (j_cR h_Ratio_of (hr.mono (by decide)) takes0 (ja_cons (jv 3) ja_nil))))) (jv 2))))))
abbrev s_is_row : Stmt := (top 24)
theorem sc_is_row : FnScope ["value"] ["value"] (defScope s_is_row) := ⟨rfl, rfl, rfl, by decide +kernel, rfl, by decide +kernel, by decide +kernel⟩
theorem ok_is_row (E : Fs K mg CR)  {f : Addr} {fd : FuncData} (F : FunD K "is_row" "is_row" (defArgs s_is_row) (defBody s_is_row) (defScope s_is_row) [] [] f fd) : FJ P w K mg base CR 1 f fd ["value"] (runBody 1 d_is_row) :=
  jf_fn F sc_is_row fun cdv A outer s H E' Nn hr => by
    have nd := sc_is_row.nd
    have hu := hr.units
    exact (js_one (js_ret (j_and (j_isi2 E.I.kk E.I.tup E.I.lst (.ty "tuple") (.ty "list") (jv 0) (pe_bltn (v := .ty "tuple") rfl E.n_tuple (by decide +kernel) rfl) (pe_bltn (v := .ty "list") rfl E.n_list (by decide +kernel) rfl) rfl E.n_isinstance) (j_one (j_cmp o_leI (j_callB c_len rfl E.n_len (by decide +kernel) (ja_cons (jv 0) ja_nil)) (let ⟨t, h⟩ := E.c_MOST_ITEMS; j_gint h ⟨t, rfl⟩))))))
abbrev s_need_sample : Stmt := (top 25)
theorem sc_need_sample : FnScope ["sample", "index", "value"] ["sample"] (defScope s_need_sample) := ⟨rfl, rfl, rfl, by decide +kernel, rfl, by decide +kernel, by decide +kernel⟩
theorem ok_need_sample (E : Fs K mg CR) (h_exc_BadSample : HasE P w K mg base "BadSample" "index" .ve) (h_is_row : Has P w K mg base CR "is_row" 1 ["value"] F_is_row) (h_is_number_ratios : Has P w K mg base CR "is_number_ratios" 2 ["value"] F_is_number) (h_ratio_of : Has P w K mg base CR "ratio_of" 4 ["value"] F_ratio_of) {f : Addr} {fd : FuncData} (F : FunD K "need_sample" "need_sample" (defArgs s_need_sample) (defBody s_need_sample) (defScope s_need_sample) [] [] f fd) : FJ P w K mg base CR 5 f fd ["sample"] (runBody 3 d_need_sample) :=
  jf_fn F sc_need_sample fun cdv A outer s H E' Nn hr => by
    have nd := sc_need_sample.nd
    have hu := hr.units
    exact (js_cons (js_if (jt_not (jt (j_callH h_is_row (hr.mono (by decide)) (takes_of rfl rfl rfl (E₁ := _) rfl) (ja_cons (jv 0) ja_nil)))) (js_one (js_raise (k := 0) rfl h_exc_BadSample (hr.mono (by decide)) (takes_of rfl rfl rfl (E₁ := _) rfl) j_non)) js_nil) (js_cons (js_for (passes_of rfl) rfl (ji_enumA (ja_cons (jv 0) ja_nil) E.n_enumerate) (jg_tup rfl (jgs_cons (jg_name 1 nd) (jgs_cons (jg_name 2 nd) jgs_nil))) (js_one (js_if (jt_not (jt (j_callH h_is_number_ratios (hr.mono (by decide)) (takes_of rfl rfl rfl (E₁ := _) rfl) (ja_cons (jv 2) ja_nil)))) (js_one (js_raise (k := 0) rfl h_exc_BadSample (hr.mono (by decide)) (takes_of rfl rfl rfl (E₁ := _) rfl) (jv 1))) js_nil))) (js_one (js_ret (j_ofF (jf_comp rfl nd (ji_seq (jv 0)) (own := [("value", 2)]) (blkOk_by (by kernel_rfl)) (fun _ _ _ _ _ _ => (jg_name 2 nd)) (fun _ _ _ _ _ _ => jts_nil) (fun _ _ _ _ _ _ => (j_callH h_ratio_of (hr.mono (by decide)) takes0 (ja_cons (jv 2) ja_nil)))))))))
abbrev s_Ratio_top : Stmt := ((clsBody (top 15)).getD 4 (.Pass ⟨0, 0, 0, 0⟩))
theorem sc_Ratio_top : FnScope ["self"] ["self"] (defScope s_Ratio_top) := ⟨rfl, rfl, rfl, by decide +kernel, rfl, by decide +kernel, by decide +kernel⟩
theorem ok_Ratio_top (E : Fs K mg CR)  {f : Addr} {fd : FuncData} (F : FunD K "top" "Ratio.top" (defArgs s_Ratio_top) (defBody s_Ratio_top) (defScope s_Ratio_top) [] [] f fd) : FJ P w K mg base CR 1 f fd ["self"] (runBody 1 d_Ratio_top) :=
  jf_fn F sc_Ratio_top fun cdv A outer s H E' Nn hr => by
    have nd := sc_Ratio_top.nd
    have hu := hr.units
    exact (js_one (js_ret (j_top E.T (jv 0))))
abbrev s_need_weights : Stmt := (top 28)
theorem sc_need_weights : FnScope ["weights", "many", "index", "value"] ["weights", "many"] (defScope s_need_weights) := ⟨rfl, rfl, rfl, by decide +kernel, rfl, by decide +kernel, by decide +kernel⟩
theorem ok_need_weights (E : Fs K mg CR) (h_exc_BadWeights : HasE P w K mg base "BadWeights" "index" .ve) (h_is_row : Has P w K mg base CR "is_row" 1 ["value"] F_is_row) (h_is_number_ratios : Has P w K mg base CR "is_number_ratios" 2 ["value"] F_is_number) (h_ratio_of : Has P w K mg base CR "ratio_of" 4 ["value"] F_ratio_of) (h_top : HasP P w K mg base CR "top" 1 F_top) {f : Addr} {fd : FuncData} (F : FunD K "need_weights" "need_weights" (defArgs s_need_weights) (defBody s_need_weights) (defScope s_need_weights) [] [] f fd) : FJ P w K mg base CR 5 f fd ["weights", "many"] (runBody 4 d_need_weights) :=
  jf_fn F sc_need_weights fun cdv A outer s H E' Nn hr => by
    have nd := sc_need_weights.nd
    have hu := hr.units
    exact (js_cons (js_if (jt_w (jw_or (jt_not (jt (j_callH h_is_row (hr.mono (by decide)) (takes_of rfl rfl rfl (E₁ := _) rfl) (ja_cons (jv 0) ja_nil)))) (jw_or1 (jt_cmp (o_neA hu) (j_callB c_len rfl E.n_len (by decide +kernel) (ja_cons (jv 0) ja_nil)) (jv 1))))) (js_one (js_raise (k := 0) rfl h_exc_BadWeights (hr.mono (by decide)) (takes_of rfl rfl rfl (E₁ := _) rfl) j_non)) js_nil) (js_cons (js_for (passes_of rfl) rfl (ji_enumA (ja_cons (jv 0) ja_nil) E.n_enumerate) (jg_tup rfl (jgs_cons (jg_name 2 nd) (jgs_cons (jg_name 3 nd) jgs_nil))) (js_one (js_if (jt_w (jw_or (jt_not (jt (j_callH h_is_number_ratios (hr.mono (by decide)) (takes_of rfl rfl rfl (E₁ := _) rfl) (ja_cons (jv 3) ja_nil)))) (jw_or1 (jt_cmp o_ltI (j_ptop h_top E.T (hr.mono (by decide)) (j_callH h_ratio_of (hr.mono (by decide)) (takes_of rfl rfl rfl (E₁ := _) rfl) (ja_cons (jv 3) ja_nil))) j_int)))) (js_one (js_raise (k := 0) rfl h_exc_BadWeights (hr.mono (by decide)) (takes_of rfl rfl rfl (E₁ := _) rfl) (jv 2))) js_nil))) (js_one (js_ret (j_ofF (jf_comp rfl nd (ji_seq (jv 0)) (own := [("value", 3)]) (blkOk_by (by kernel_rfl)) (fun _ _ _ _ _ _ => (jg_name 3 nd)) (fun _ _ _ _ _ _ => jts_nil) (fun _ _ _ _ _ _ => (j_callH h_ratio_of (hr.mono (by decide)) takes0 (ja_cons (jv 3) ja_nil)))))))))
abbrev s_need_items : Stmt := (top 26)
theorem sc_need_items : FnScope ["values"] ["values"] (defScope s_need_items) := ⟨rfl, rfl, rfl, by decide +kernel, rfl, by decide +kernel, by decide +kernel⟩
theorem ok_need_items (E : Fs K mg CR) (h_exc_Empty : HasE0 K mg "Empty" .le) {f : Addr} {fd : FuncData} (F : FunD K "need_items" "need_items" (defArgs s_need_items) (defBody s_need_items) (defScope s_need_items) [] [] f fd) : FJ P w K mg base CR 1 f fd ["values"] (runBody 1 d_need_items) :=
  jf_fn F sc_need_items fun cdv A outer s H E' Nn hr => by
    have nd := sc_need_items.nd
    have hu := hr.units
    exact (js_one (js_if (jt_cmp (o_eqA hu) (j_callB c_len rfl E.n_len (by decide +kernel) (ja_cons (jv 0) ja_nil)) j_int) (js_one (js_raise0 rfl h_exc_Empty (takes_of rfl rfl rfl (E₁ := _) rfl))) js_nil))
abbrev s_Ratio___eq__ : Stmt := ((clsBody (top 15)).getD 16 (.Pass ⟨0, 0, 0, 0⟩))
theorem sc_Ratio___eq__ : FnScope ["self", "other", "far"] ["self", "other"] (defScope s_Ratio___eq__) := ⟨rfl, rfl, rfl, by decide +kernel, rfl, by decide +kernel, by decide +kernel⟩
theorem ok_Ratio___eq__ (E : Fs K mg CR) (h_is_number_ratios : Has P w K mg base CR "is_number_ratios" 2 ["value"] F_is_number) (h_ratio_of : Has P w K mg base CR "ratio_of" 4 ["value"] F_ratio_of) {f : Addr} {fd : FuncData} (F : FunD K "__eq__" "Ratio.__eq__" (defArgs s_Ratio___eq__) (defBody s_Ratio___eq__) (defScope s_Ratio___eq__) [] [] f fd) : FJ P w K mg base CR 5 f fd ["self", "other"] (runBody 3 d_Ratio___eq__) :=
  jf_fn F sc_Ratio___eq__ fun cdv A outer s H E' Nn hr => by
    have nd := sc_Ratio___eq__.nd
    have hu := hr.units
    exact (js_cons (js_if (jt_not (jt (j_callH h_is_number_ratios (hr.mono (by decide)) (takes_of rfl rfl rfl (E₁ := _) rfl) (ja_cons (jv 1) ja_nil)))) (js_one (js_ret j_bl)) js_nil) (js_cons (js_set (i := 2) nd (j_callH h_ratio_of (hr.mono (by decide)) (takes_of rfl rfl rfl (E₁ := _) rfl) (ja_cons (jv 1) ja_nil))) (js_one (js_ret (j_and (j_cmp (o_eqA hu) (j_top E.T (jv 0)) (j_top E.T (jv 2))) (j_one (j_cmp (o_eqA hu) (j_bot E.T (jv 0)) (j_bot E.T (jv 2)))))))))
abbrev s_need_some_weight : Stmt := (top 29)
theorem sc_need_some_weight : FnScope ["values", "weights", "weight"] ["values", "weights"] (defScope s_need_some_weight) := ⟨rfl, rfl, rfl, by decide +kernel, rfl, by decide +kernel, by decide +kernel⟩
theorem ok_need_some_weight (E : Fs K mg CR) (h_exc_BadWeights : HasE P w K mg base "BadWeights" "index" .ve) (h_need_items : Has P w K mg base CR "need_items" 1 ["values"] F_need_items) (h_cmp : HasCm P w K mg base CR 5 F_Ratio___eq__) {f : Addr} {fd : FuncData} (F : FunD K "need_some_weight" "need_some_weight" (defArgs s_need_some_weight) (defBody s_need_some_weight) (defScope s_need_some_weight) [] [] f fd) : FJ P w K mg base CR 8 f fd ["values", "weights"] (runBody 3 d_need_some_weight) :=
  jf_fn F sc_need_some_weight fun cdv A outer s H E' Nn hr => by
    have nd := sc_need_some_weight.nd
    have hu := hr.units
    exact (js_cons (js_expr (j_callH h_need_items (hr.mono (by decide)) (takes_of rfl rfl rfl (E₁ := _) rfl) (ja_cons (jv 0) ja_nil))) (js_one (js_if (jt (j_callB (c_all rfl) rfl E.n_all (by decide +kernel) (ja_cons (j_ofF (jf_comp rfl nd (ji_seq (jv 1)) (own := [("weight", 2)]) (blkOk_by (by kernel_rfl)) (fun _ _ _ _ _ _ => (jg_name 2 nd)) (fun _ _ _ _ _ _ => jts_nil) (fun _ _ _ _ _ _ => (j_cmp (OJ.eqR h_cmp (hr.mono (by decide)) takes0 (o_eqA hu)) (jv 2) j_int)))) ja_nil))) (js_one (js_raise (k := 0) rfl h_exc_BadWeights (hr.mono (by decide)) (takes_of rfl rfl rfl (E₁ := _) rfl) j_non)) js_nil)))
abbrev s_Ratio___mul__ : Stmt := ((clsBody (top 15)).getD 10 (.Pass ⟨0, 0, 0, 0⟩))
theorem sc_Ratio___mul__ : FnScope ["self", "other", "far"] ["self", "other"] (defScope s_Ratio___mul__) := ⟨rfl, rfl, rfl, by decide +kernel, rfl, by decide +kernel, by decide +kernel⟩
theorem ok_Ratio___mul__ (E : Fs K mg CR) (h_ratio_of : Has P w K mg base CR "ratio_of" 4 ["value"] F_ratio_of) (h_Ratio : HasR P w K mg base CR 2 okR) {f : Addr} {fd : FuncData} (F : FunD K "__mul__" "Ratio.__mul__" (defArgs s_Ratio___mul__) (defBody s_Ratio___mul__) (defScope s_Ratio___mul__) [] [] f fd) : FJ P w K mg base CR 5 f fd ["self", "other"] (runBody 3 d_Ratio___mul__) :=
  jf_fn F sc_Ratio___mul__ fun cdv A outer s H E' Nn hr => by
    have nd := sc_Ratio___mul__.nd
    have hu := hr.units
    exact (js_cons (js_set (i := 2) nd (j_callH h_ratio_of (hr.mono (by decide)) (takes_of rfl rfl rfl (E₁ := _) rfl) (ja_cons (jv 1) ja_nil))) (js_one (js_ret (j_callR h_Ratio (hr.mono (by decide)) (ja_cons (j_bin o_mul (j_top E.T (jv 0)) (j_top E.T (jv 2))) (ja_cons (j_bin o_mul (j_bot E.T (jv 0)) (j_bot E.T (jv 2))) ja_nil))))))
abbrev s_common : Stmt := (top 20)
theorem sc_common : FnScope ["values", "bottom", "value"] ["values"] (defScope s_common) := ⟨rfl, rfl, rfl, by decide +kernel, rfl, by decide +kernel, by decide +kernel⟩
theorem ok_common (E : Fs K mg CR) (h_common_divisor : Has P w K mg base CR "common_divisor" 1 ["one", "other"] F_common_divisor) {f : Addr} {fd : FuncData} (F : FunD K "common" "common" (defArgs s_common) (defBody s_common) (defScope s_common) [] [] f fd) : FJ P w K mg base CR 2 f fd ["values"] (runBody 3 d_common) :=
  jf_fn F sc_common fun cdv A outer s H E' Nn hr => by
    have nd := sc_common.nd
    have hu := hr.units
    exact (js_cons (js_set (i := 1) nd j_int) (js_cons (js_for (passes_of rfl) rfl (ji_seq (jv 0)) (jg_name 2 nd) (js_one (js_set (i := 1) nd (j_bin o_mul (j_bin o_fdiv (jv 1) (j_callH h_common_divisor (hr.mono (by decide)) (takes_of rfl rfl rfl (E₁ := _) rfl) (ja_cons (jv 1) (ja_cons (j_bot E.T (jv 2)) ja_nil)))) (j_bot E.T (jv 2)))))) (js_one (js_ret (j_tup (ja_cons (j_ofF (jf_comp rfl nd (ji_seq (jv 0)) (own := [("value", 2)]) (blkOk_by (by kernel_rfl)) (fun _ _ _ _ _ _ => (jg_name 2 nd)) (fun _ _ _ _ _ _ => jts_nil) (fun _ _ _ _ _ _ => (j_bin o_mul (j_top E.T (jv 2)) (j_bin o_fdiv (jv 1) (j_bot E.T (jv 2))))))) (ja_cons (jv 1) ja_nil)))))))
abbrev s_total : Stmt := (top 21)
theorem sc_total : FnScope ["values", "integers", "bottom"] ["values"] (defScope s_total) := ⟨rfl, rfl, rfl, by decide +kernel, rfl, by decide +kernel, by decide +kernel⟩
theorem ok_total (E : Fs K mg CR) (h_common : Has P w K mg base CR "common" 2 ["values"] F_common) (h_Ratio : HasR P w K mg base CR 2 okR) {f : Addr} {fd : FuncData} (F : FunD K "total" "total" (defArgs s_total) (defBody s_total) (defScope s_total) [] [] f fd) : FJ P w K mg base CR 4 f fd ["values"] (runBody 3 d_total) :=
  jf_fn F sc_total fun cdv A outer s H E' Nn hr => by
    have nd := sc_total.nd
    have hu := hr.units
    exact (js_cons (js_asg (j_callH h_common (hr.mono (by decide)) (takes_of rfl rfl rfl (E₁ := _) rfl) (ja_cons (jv 0) ja_nil)) (jg_tup rfl (jgs_cons (jg_name 1 nd) (jgs_cons (jg_name 2 nd) jgs_nil)))) (js_one (js_ret (j_callR h_Ratio (hr.mono (by decide)) (ja_cons (j_callB (c_sumI rfl) rfl E.n_sum (by decide +kernel) (ja_cons (jv 1) ja_nil)) (ja_cons (jv 2) ja_nil))))))
abbrev s_weighted_total : Stmt := (top 32)
theorem sc_weighted_total : FnScope ["values", "weights", "value", "weight"] ["values", "weights"] (defScope s_weighted_total) := ⟨rfl, rfl, rfl, by decide +kernel, rfl, by decide +kernel, by decide +kernel⟩
theorem ok_weighted_total (E : Fs K mg CR) (h_bin_mul : HasBn P w K mg base CR "mul" 5 F_Ratio___mul__) (h_total : Has P w K mg base CR "total" 4 ["values"] F_total) {f : Addr} {fd : FuncData} (F : FunD K "weighted_total" "weighted_total" (defArgs s_weighted_total) (defBody s_weighted_total) (defScope s_weighted_total) [] [] f fd) : FJ P w K mg base CR 6 f fd ["values", "weights"] (runBody 4 d_weighted_total) :=
  jf_fn F sc_weighted_total fun cdv A outer s H E' Nn hr => by
    have nd := sc_weighted_total.nd
    have hu := hr.units
    exact (js_one (js_ret (j_callH h_total (hr.mono (by decide)) (takes_of rfl rfl rfl (E₁ := _) rfl) (ja_cons (j_ofF (jf_comp rfl nd (ji_zip (ja_cons (jv 0) (ja_cons (jv 1) ja_nil)) E.n_zip) (own := [("value", 2), ("weight", 3)]) (blkOk_by (by kernel_rfl)) (fun _ _ _ _ _ _ => (jg_tup rfl (jgs_cons (jg_name 2 nd) (jgs_cons (jg_name 3 nd) jgs_nil)))) (fun _ _ _ _ _ _ => jts_nil) (fun _ _ _ _ _ _ => (j_bin (OJ.rl (op := .Mult) h_bin_mul (hr.mono (by decide)) takes0 o_mul) (jv 2) (jv 3))))) ja_nil))))
abbrev s_Ratio_over : Stmt := ((clsBody (top 15)).getD 18 (.Pass ⟨0, 0, 0, 0⟩))
theorem sc_Ratio_over : FnScope ["self", "other", "far"] ["self", "other"] (defScope s_Ratio_over) := ⟨rfl, rfl, rfl, by decide +kernel, rfl, by decide +kernel, by decide +kernel⟩
theorem ok_Ratio_over (E : Fs K mg CR) (h_need_number : Has P w K mg base CR "need_number" 3 ["value"] F_need_number) (h_ratio_of : Has P w K mg base CR "ratio_of" 4 ["value"] F_ratio_of) (h_Ratio : HasR P w K mg base CR 2 okR) {f : Addr} {fd : FuncData} (F : FunD K "over" "Ratio.over" (defArgs s_Ratio_over) (defBody s_Ratio_over) (defScope s_Ratio_over) [] [] f fd) : FJ P w K mg base CR 5 f fd ["self", "other"] (runBody 3 d_Ratio_over) :=
  jf_fn F sc_Ratio_over fun cdv A outer s H E' Nn hr => by
    have nd := sc_Ratio_over.nd
    have hu := hr.units
    exact (js_cons (js_expr (j_callH h_need_number (hr.mono (by decide)) (takes_of rfl rfl rfl (E₁ := _) rfl) (ja_cons (jv 1) ja_nil))) (js_cons (js_set (i := 2) nd (j_callH h_ratio_of (hr.mono (by decide)) (takes_of rfl rfl rfl (E₁ := _) rfl) (ja_cons (jv 1) ja_nil))) (js_one (js_ret (j_callR h_Ratio (hr.mono (by decide)) (ja_cons (j_bin o_mul (j_top E.T (jv 0)) (j_bot E.T (jv 2))) (ja_cons (j_bin o_mul (j_bot E.T (jv 0)) (j_top E.T (jv 2))) ja_nil)))))))
abbrev s_weighted_mean : Stmt := (top 34)
theorem sc_weighted_mean : FnScope ["sample", "weights", "values", "shares"] ["sample", "weights"] (defScope s_weighted_mean) := ⟨rfl, rfl, rfl, by decide +kernel, rfl, by decide +kernel, by decide +kernel⟩
theorem ok_weighted_mean (E : Fs K mg CR) (h_need_sample : Has P w K mg base CR "need_sample" 5 ["sample"] F_need_sample) (h_need_weights : Has P w K mg base CR "need_weights" 5 ["weights", "many"] F_need_weights) (h_need_some_weight : Has P w K mg base CR "need_some_weight" 8 ["values", "weights"] F_need_some_weight) (h_weighted_total : Has P w K mg base CR "weighted_total" 6 ["values", "weights"] F_weighted_total) (h_total : Has P w K mg base CR "total" 4 ["values"] F_total) (h_Ratio_over : HasM P w K mg base CR "over" 5 ["self", "other"] F_Ratio_over) {f : Addr} {fd : FuncData} (F : FunD K "weighted_mean" "weighted_mean" (defArgs s_weighted_mean) (defBody s_weighted_mean) (defScope s_weighted_mean) [] [] f fd) : FJ P w K mg base CR 9 f fd ["sample", "weights"] (runBody 4 d_weighted_mean) :=
  jf_fn F sc_weighted_mean fun cdv A outer s H E' Nn hr => by
    have nd := sc_weighted_mean.nd
    have hu := hr.units
    exact (js_cons (js_set (i := 2) nd (j_callH h_need_sample (hr.mono (by decide)) (takes_of rfl rfl rfl (E₁ := _) rfl) (ja_cons (jv 0) ja_nil))) (js_cons (js_set (i := 3) nd (j_callH h_need_weights (hr.mono (by decide)) (takes_of rfl rfl rfl (E₁ := _) rfl) (ja_cons (jv 1) (ja_cons (j_callB c_len rfl E.n_len (by decide +kernel) (ja_cons (jv 2) ja_nil)) ja_nil)))) (js_cons (js_expr (j_callH h_need_some_weight (hr.mono (by decide)) (takes_of rfl rfl rfl (E₁ := _) rfl) (ja_cons (jv 2) (ja_cons (jv 3) ja_nil)))) (js_one (js_ret (j_mR h_Ratio_over E.T (hr.mono (by decide)) (takes_of rfl rfl rfl (E₁ := _) rfl) (j_callH h_weighted_total (hr.mono (by decide)) (takes_of rfl rfl rfl (E₁ := _) rfl) (ja_cons (jv 2) (ja_cons (jv 3) ja_nil))) (ja_cons (j_callH h_total (hr.mono (by decide)) (takes_of rfl rfl rfl (E₁ := _) rfl) (ja_cons (jv 3) ja_nil)) ja_nil)))))))
abbrev s_Ratio_bottom : Stmt := ((clsBody (top 15)).getD 5 (.Pass ⟨0, 0, 0, 0⟩))
theorem sc_Ratio_bottom : FnScope ["self"] ["self"] (defScope s_Ratio_bottom) := ⟨rfl, rfl, rfl, by decide +kernel, rfl, by decide +kernel, by decide +kernel⟩
theorem ok_Ratio_bottom (E : Fs K mg CR)  {f : Addr} {fd : FuncData} (F : FunD K "bottom" "Ratio.bottom" (defArgs s_Ratio_bottom) (defBody s_Ratio_bottom) (defScope s_Ratio_bottom) [] [] f fd) : FJ P w K mg base CR 1 f fd ["self"] (runBody 1 d_Ratio_bottom) :=
  jf_fn F sc_Ratio_bottom fun cdv A outer s H E' Nn hr => by
    have nd := sc_Ratio_bottom.nd
    have hu := hr.units
    exact (js_one (js_ret (j_bot E.T (jv 0))))
abbrev s_w_taken : Stmt := (top 48)
theorem sc_w_taken : FnScope ["_law_value"] ["_law_value"] (defScope s_w_taken) := ⟨rfl, rfl, rfl, by decide +kernel, rfl, by decide +kernel, by decide +kernel⟩
theorem ok_w_taken (E : Fs K mg CR) (h_bottom : HasP P w K mg base CR "bottom" 1 F_bottom) (h_top : HasP P w K mg base CR "top" 1 F_top) {f : Addr} {fd : FuncData} (F : FunD K "_law_taken" "_law_taken" (defArgs s_w_taken) (defBody s_w_taken) (defScope s_w_taken) [] [] f fd) : FJ P w K mg base CR 3 f fd ["_law_value"] (runBody 1 d_w_taken) :=
  jf_fn F sc_w_taken fun cdv A outer s H E' Nn hr => by
    have nd := sc_w_taken.nd
    have hu := hr.units
    exact (js_one (js_ret (j_if (jt (j_isR E.I E.mR E.n_isinstance (jv 0))) (j_tup (ja_cons (j_ptop h_top E.T (hr.mono (by decide)) (jv 0)) (ja_cons (j_pbot h_bottom E.T (hr.mono (by decide)) (jv 0)) ja_nil))) j_non)))
abbrev s_need_filled : Stmt := (top 27)
theorem sc_need_filled : FnScope ["sample", "values"] ["sample"] (defScope s_need_filled) := ⟨rfl, rfl, rfl, by decide +kernel, rfl, by decide +kernel, by decide +kernel⟩
theorem ok_need_filled (E : Fs K mg CR) (h_need_sample : Has P w K mg base CR "need_sample" 5 ["sample"] F_need_sample) (h_need_items : Has P w K mg base CR "need_items" 1 ["values"] F_need_items) {f : Addr} {fd : FuncData} (F : FunD K "need_filled" "need_filled" (defArgs s_need_filled) (defBody s_need_filled) (defScope s_need_filled) [] [] f fd) : FJ P w K mg base CR 6 f fd ["sample"] (runBody 2 d_need_filled) :=
  jf_fn F sc_need_filled fun cdv A outer s H E' Nn hr => by
    have nd := sc_need_filled.nd
    have hu := hr.units
    exact (js_cons (js_set (i := 1) nd (j_callH h_need_sample (hr.mono (by decide)) (takes_of rfl rfl rfl (E₁ := _) rfl) (ja_cons (jv 0) ja_nil))) (js_cons (js_expr (j_callH h_need_items (hr.mono (by decide)) (takes_of rfl rfl rfl (E₁ := _) rfl) (ja_cons (jv 1) ja_nil))) (js_one (js_ret (jv 1)))))
abbrev s_mean_of : Stmt := (top 31)
theorem sc_mean_of : FnScope ["values"] ["values"] (defScope s_mean_of) := ⟨rfl, rfl, rfl, by decide +kernel, rfl, by decide +kernel, by decide +kernel⟩
theorem ok_mean_of (E : Fs K mg CR) (h_total : Has P w K mg base CR "total" 4 ["values"] F_total) (h_Ratio_over : HasM P w K mg base CR "over" 5 ["self", "other"] F_Ratio_over) {f : Addr} {fd : FuncData} (F : FunD K "mean_of" "mean_of" (defArgs s_mean_of) (defBody s_mean_of) (defScope s_mean_of) [] [] f fd) : FJ P w K mg base CR 6 f fd ["values"] (runBody 1 d_mean_of) :=
  jf_fn F sc_mean_of fun cdv A outer s H E' Nn hr => by
    have nd := sc_mean_of.nd
    have hu := hr.units
    exact (js_one (js_ret (j_mR h_Ratio_over E.T (hr.mono (by decide)) (takes_of rfl rfl rfl (E₁ := _) rfl) (j_callH h_total (hr.mono (by decide)) (takes_of rfl rfl rfl (E₁ := _) rfl) (ja_cons (jv 0) ja_nil)) (ja_cons (j_callB c_len rfl E.n_len (by decide +kernel) (ja_cons (jv 0) ja_nil)) ja_nil))))
abbrev s_mean : Stmt := (top 33)
theorem sc_mean : FnScope ["sample"] ["sample"] (defScope s_mean) := ⟨rfl, rfl, rfl, by decide +kernel, rfl, by decide +kernel, by decide +kernel⟩
theorem ok_mean (E : Fs K mg CR) (h_need_filled : Has P w K mg base CR "need_filled" 6 ["sample"] F_need_filled) (h_mean_of : Has P w K mg base CR "mean_of" 6 ["values"] F_mean_of) {f : Addr} {fd : FuncData} (F : FunD K "mean" "mean" (defArgs s_mean) (defBody s_mean) (defScope s_mean) [] [] f fd) : FJ P w K mg base CR 7 f fd ["sample"] (runBody 1 d_mean) :=
  jf_fn F sc_mean fun cdv A outer s H E' Nn hr => by
    have nd := sc_mean.nd
    have hu := hr.units
    exact (js_one (js_ret (j_callH h_mean_of (hr.mono (by decide)) (takes_of rfl rfl rfl (E₁ := _) rfl) (ja_cons (j_callH h_need_filled (hr.mono (by decide)) (takes_of rfl rfl rfl (E₁ := _) rfl) (ja_cons (jv 0) ja_nil)) ja_nil))))
abbrev s_harmonic_mean : Stmt := (top 35)
theorem sc_harmonic_mean : FnScope ["sample", "values", "index", "value"] ["sample"] (defScope s_harmonic_mean) := ⟨rfl, rfl, rfl, by decide +kernel, rfl, by decide +kernel, by decide +kernel⟩
theorem ok_harmonic_mean (E : Fs K mg CR) (h_exc_NotPositive : HasE P w K mg base "NotPositive" "index" .ae) (h_need_filled : Has P w K mg base CR "need_filled" 6 ["sample"] F_need_filled) (h_top : HasP P w K mg base CR "top" 1 F_top) (h_Ratio : HasR P w K mg base CR 2 okR) (h_bottom : HasP P w K mg base CR "bottom" 1 F_bottom) (h_total : Has P w K mg base CR "total" 4 ["values"] F_total) (h_Ratio_over : HasM P w K mg base CR "over" 5 ["self", "other"] F_Ratio_over) {f : Addr} {fd : FuncData} (F : FunD K "harmonic_mean" "harmonic_mean" (defArgs s_harmonic_mean) (defBody s_harmonic_mean) (defScope s_harmonic_mean) [] [] f fd) : FJ P w K mg base CR 7 f fd ["sample"] (runBody 4 d_harmonic_mean) :=
  jf_fn F sc_harmonic_mean fun cdv A outer s H E' Nn hr => by
    have nd := sc_harmonic_mean.nd
    have hu := hr.units
    exact (js_cons (js_set (i := 1) nd (j_callH h_need_filled (hr.mono (by decide)) (takes_of rfl rfl rfl (E₁ := _) rfl) (ja_cons (jv 0) ja_nil))) (js_cons (js_for (passes_of rfl) rfl (ji_enumA (ja_cons (jv 1) ja_nil) E.n_enumerate) (jg_tup rfl (jgs_cons (jg_name 2 nd) (jgs_cons (jg_name 3 nd) jgs_nil))) (js_one (js_if (jt_cmp o_leI (j_ptop h_top E.T (hr.mono (by decide)) (jv 3)) j_int) (js_one (js_raise (k := 0) rfl h_exc_NotPositive (hr.mono (by decide)) (takes_of rfl rfl rfl (E₁ := _) rfl) (jv 2))) js_nil))) (js_one (js_ret (j_mR h_Ratio_over E.T (hr.mono (by decide)) (takes_of rfl rfl rfl (E₁ := _) rfl) (j_callR h_Ratio (hr.mono (by decide)) (ja_cons (j_callB c_len rfl E.n_len (by decide +kernel) (ja_cons (jv 1) ja_nil)) ja_nil)) (ja_cons (j_callH h_total (hr.mono (by decide)) (takes_of rfl rfl rfl (E₁ := _) rfl) (ja_cons (j_ofF (jf_comp rfl nd (ji_seq (jv 1)) (own := [("value", 3)]) (blkOk_by (by kernel_rfl)) (fun _ _ _ _ _ _ => (jg_name 3 nd)) (fun _ _ _ _ _ _ => jts_nil) (fun _ _ _ _ _ _ => (j_callR h_Ratio (hr.mono (by decide)) (ja_cons (j_pbot h_bottom E.T (hr.mono (by decide)) (jv 3)) (ja_cons (j_ptop h_top E.T (hr.mono (by decide)) (jv 3)) ja_nil)))))) ja_nil)) ja_nil))))))
abbrev s_w_told : Stmt := (top 51)
theorem sc_w_told : FnScope ["_law_sample", "_law_found", "_law_error", "caught"] ["_law_sample"] (defScope s_w_told) := ⟨rfl, rfl, rfl, by decide +kernel, rfl, by decide +kernel, by decide +kernel⟩
theorem ok_w_told (E : Fs K mg CR) (h_try_NotPositive : HasT K mg ["NotPositive"] ["NotPositive"]) (h_ef_index : HasEF K ["BadSample", "BadWeights", "NotPositive"] "index") (h_harmonic_mean : Has P w K mg base CR "harmonic_mean" 7 ["sample"] F_harmonic_mean) (h_w_taken : Has P w K mg base CR "_law_taken" 3 ["_law_value"] F_w_taken) {f : Addr} {fd : FuncData} (F : FunD K "_law_told" "_law_told" (defArgs s_w_told) (defBody s_w_told) (defScope s_w_told) [] [] f fd) : FJ P w K mg base CR 8 f fd ["_law_sample"] (runBody 4 d_w_told) :=
  jf_fn F sc_w_told fun cdv A outer s H E' Nn hr => by
    have nd := sc_w_told.nd
    have hu := hr.units
    exact (js_cons (js_asg (j_tup (ja_cons j_non (ja_cons j_non ja_nil))) (jg_tup rfl (jgs_cons (jg_name 1 nd) (jgs_cons (jg_name 2 nd) jgs_nil)))) (js_cons (js_tryAs (yes := ["NotPositive"]) (i := 3) nd (clz_one (h_try_NotPositive.1 "NotPositive" (by decide))) h_try_NotPositive.2 (fun W pn xe tk => (js_one (js_set (i := 1) nd (j_callH h_harmonic_mean (hr.mono (by decide)) tk (ja_cons (jv 0) ja_nil))))) (fun a pn => (js_one (js_set (i := 2) nd (jv 3))))) (js_one (js_ret (j_if (jt_cmp o_isN (jv 2) j_non) (j_callH h_w_taken (hr.mono (by decide)) (takes_of rfl rfl rfl (E₁ := _) rfl) (ja_cons (jv 1) ja_nil)) (j_lst (ja_cons (j_efld h_ef_index (jv 2)) ja_nil)))))))
abbrev s_law : Stmt := (top 52)
theorem sc_law : FnScope ["_law_script", "_law_k", "_law_source_here", "_law_some", "_law_menu", "_law_weights", "_law_due", "_law_kinds", "_law_good", "_law_bad", "_law_sample", "_law_given_here", "_law_whole", "_law_longer", "_law_value", "_law_many", "_law_one", "_law_top", "_law_bottom", "_law_at", "_law_weight"] ["_law_script"] (defScope s_law) := ⟨rfl, rfl, rfl, by decide +kernel, rfl, by decide +kernel, by decide +kernel⟩
theorem ok_law (E : Fs K mg CR) (h_w_source : Has P w K mg base CR "_law_source" 1 ["_law_script", "_law_k"] F_w_source) (h_w_filled : Has P w K mg base CR "_law_filled" 4 ["_law_source_here", "_law_most"] F_w_filled) (h_w_next : Has P w K mg base CR "_law_next" 1 ["_law_source_here", "_law_many"] F_w_next) (h_w_pick : Has P w K mg base CR "_law_pick" 2 ["_law_source_here", "_law_items"] F_w_pick) (h_w_times : Has P w K mg base CR "_law_times" 2 ["_law_one", "_law_other"] F_w_times) (h_w_sum : Has P w K mg base CR "_law_sum" 3 ["_law_some"] F_w_sum) (h_w_through : Has P w K mg base CR "_law_through" 2 ["_law_one", "_law_other"] F_w_through) (h_w_given : Has P w K mg base CR "_law_given" 4 ["_law_some"] F_w_given) (h_w_framed : Has P w K mg base CR "_law_framed" 6 ["_law_source_here", "_law_some"] (F_w_framed CR)) (h_weighted_mean : Has P w K mg base CR "weighted_mean" 9 ["sample", "weights"] F_weighted_mean) (h_w_taken : Has P w K mg base CR "_law_taken" 3 ["_law_value"] F_w_taken) (h_cmp : HasCm P w K mg base CR 5 F_Ratio___eq__) (h_mean : Has P w K mg base CR "mean" 7 ["sample"] F_mean) (h_w_low : Has P w K mg base CR "_law_low" 1 ["_law_top", "_law_bottom"] F_w_low) (h_w_told : Has P w K mg base CR "_law_told" 8 ["_law_sample"] F_w_told) (h_harmonic_mean : Has P w K mg base CR "harmonic_mean" 7 ["sample"] F_harmonic_mean) {f : Addr} {fd : FuncData} (F : FunD K "law" "law" (defArgs s_law) (defBody s_law) (defScope s_law) [] [] f fd) : FJ P w K mg base CR 10 f fd ["_law_script"] (runBody 21 (d_law_k12 CR)) :=
  jf_fn F sc_law fun cdv A outer s H E' Nn hr => by
    have nd := sc_law.nd
    have hu := hr.units
    exact (js_cons (js_for (passes_of rfl) rfl (ji_range1 (ja_cons (j_callB (c_max2 rfl) rfl E.n_max (by decide +kernel) (ja_cons j_int (ja_cons (j_callB (c_min2 rfl) rfl E.n_min (by decide +kernel) (ja_cons j_int (ja_cons (j_callB c_len rfl E.n_len (by decide +kernel) (ja_cons (jv 0) ja_nil)) ja_nil))) ja_nil))) ja_nil) E.n_range) (jg_name 1 nd) (js_cons (js_set (i := 2) nd (j_callH h_w_source (hr.mono (by decide)) (takes_of rfl rfl rfl (E₁ := _) rfl) (ja_cons (jv 0) (ja_cons (jv 1) ja_nil)))) (js_cons (js_set (i := 3) nd (j_callH h_w_filled (hr.mono (by decide)) (takes_of rfl rfl rfl (E₁ := _) rfl) (ja_cons (jv 2) (ja_cons j_int ja_nil)))) (js_cons (js_set (i := 4) nd (j_lst (ja_cons (j_tup (ja_cons j_int (ja_cons j_int ja_nil))) (ja_cons (j_tup (ja_cons j_int (ja_cons j_int ja_nil))) (ja_cons (j_tup (ja_cons (j_callH h_w_next (hr.mono (by decide)) (takes_of rfl rfl rfl (E₁ := _) rfl) (ja_cons (jv 2) (ja_cons j_int ja_nil))) (ja_cons j_int ja_nil))) (ja_cons (j_tup (ja_cons j_int (ja_cons (j_bin o_add j_int (j_callH h_w_next (hr.mono (by decide)) (takes_of rfl rfl rfl (E₁ := _) rfl) (ja_cons (jv 2) (ja_cons j_int ja_nil)))) ja_nil))) ja_nil)))))) (js_cons (js_set (i := 5) nd (j_bin o_add (j_ofF (jf_comp rfl nd (ji_seq (o_slice (jv 3) (jo_some j_int) jo_none)) (own := [("_law_one", 16)]) (blkOk_by (by kernel_rfl)) (fun _ _ _ _ _ _ => (jg_name 16 nd)) (fun _ _ _ _ _ _ => jts_nil) (fun _ _ _ _ _ _ => (j_callH h_w_pick (hr.mono (by decide)) takes0 (ja_cons (jv 2) (ja_cons (jv 4) ja_nil)))))) (j_lst (ja_cons (j_tup (ja_cons (j_bin o_add j_int (j_callH h_w_next (hr.mono (by decide)) (takes_of rfl rfl rfl (E₁ := _) rfl) (ja_cons (jv 2) (ja_cons j_int ja_nil)))) (ja_cons j_int ja_nil))) ja_nil)))) (js_cons (js_set (i := 6) nd (j_callH h_w_sum (hr.mono (by decide)) (takes_of rfl rfl rfl (E₁ := _) rfl) (ja_cons (j_ofF (jf_comp rfl nd (ji_zipQ (ja_cons (jv 3) (ja_cons (jv 5) ja_nil)) E.n_zip) (own := [("_law_one", 16), ("_law_weight", 20)]) (blkOk_by (by kernel_rfl)) (fun _ _ _ _ _ _ => (jg_tup rfl (jgs_cons (jg_name 16 nd) (jgs_cons (jg_name 20 nd) jgs_nil)))) (fun _ _ _ _ _ _ => jts_nil) (fun _ _ _ _ _ _ => (j_callH h_w_times (hr.mono (by decide)) takes0 (ja_cons (jv 16) (ja_cons (jv 20) ja_nil)))))) ja_nil))) (js_cons (js_set (i := 6) nd (j_callH h_w_through (hr.mono (by decide)) (takes_of rfl rfl rfl (E₁ := _) rfl) (ja_cons (jv 6) (ja_cons (j_callH h_w_sum (hr.mono (by decide)) (takes_of rfl rfl rfl (E₁ := _) rfl) (ja_cons (jv 5) ja_nil)) ja_nil)))) (js_cons (js_par2 rfl nd (ja_cons (j_callH h_w_framed (hr.mono (by decide)) (takes_of rfl rfl rfl (E₁ := _) rfl) (ja_cons (jv 2) (ja_cons (jv 3) ja_nil))) (ja_cons (j_callH h_w_given (hr.mono (by decide)) (takes_of rfl rfl rfl (E₁ := _) rfl) (ja_cons (jv 5) ja_nil)) ja_nil))) (js_cons (js_setLc (i := 7) rfl nd (sw_true (by rfl) (by rfl) (by kernel_rfl) (by kernel_rfl)) (ji_seq (jv 11)) (own := [("_law_value", 14)]) (blkOk_by (by kernel_rfl)) (fun _ _ _ _ _ _ => (jg_name 14 nd)) (fun _ _ _ _ _ _ => jts_nil) (fun _ _ _ _ _ _ => (j_isR E.I E.mR E.n_isinstance (jv 14)))) (js_cons (js_if (jt_cmp (OJ.neR h_cmp (hr.mono (by decide)) (takes_of rfl rfl rfl (E₁ := _) rfl) (o_neA hu)) (j_callH h_w_taken (hr.mono (by decide)) (takes_of rfl rfl rfl (E₁ := _) rfl) (ja_cons (j_callH h_weighted_mean (hr.mono (by decide)) (takes_of rfl rfl rfl (E₁ := _) rfl) (ja_cons (jv 10) (ja_cons (jv 11) ja_nil))) ja_nil)) (jv 6)) (js_one (js_ret j_bl)) js_nil) (js_cons (js_if (jt_cmp (OJ.neR h_cmp (hr.mono (by decide)) (takes_of rfl rfl rfl (E₁ := _) rfl) (o_neA hu)) (j_ofF (jf_comp rfl nd (ji_seq (jv 11)) (own := [("_law_value", 14)]) (blkOk_by (by kernel_rfl)) (fun _ _ _ _ _ _ => (jg_name 14 nd)) (fun _ _ _ _ _ _ => jts_nil) (fun _ _ _ _ _ _ => (j_isR E.I E.mR E.n_isinstance (jv 14))))) (jv 7)) (js_one (js_ret j_bl)) js_nil) (js_cons (js_if (jt_cmp (OJ.neR h_cmp (hr.mono (by decide)) (takes_of rfl rfl rfl (E₁ := _) rfl) (o_neA hu)) (j_callH h_w_taken (hr.mono (by decide)) (takes_of rfl rfl rfl (E₁ := _) rfl) (ja_cons (j_callH h_weighted_mean (hr.mono (by decide)) (takes_of rfl rfl rfl (E₁ := _) rfl) (ja_cons (jv 10) (ja_cons (j_callTy c_tuple rfl E.n_tuple (by decide +kernel) (ja_cons (jv 11) ja_nil)) ja_nil))) ja_nil)) (jv 6)) (js_one (js_ret j_bl)) js_nil) (js_cons (js_if (jt_cmp (OJ.neR h_cmp (hr.mono (by decide)) (takes_of rfl rfl rfl (E₁ := _) rfl) (o_neA hu)) (j_callH h_weighted_mean (hr.mono (by decide)) (takes_of rfl rfl rfl (E₁ := _) rfl) (ja_cons (jv 10) (ja_cons (j_bin o_mul (j_lst (ja_cons (j_bin o_add (j_callH h_w_next (hr.mono (by decide)) (takes_of rfl rfl rfl (E₁ := _) rfl) (ja_cons (jv 2) (ja_cons j_int ja_nil))) j_int) ja_nil)) (j_callB c_len rfl E.n_len (by decide +kernel) (ja_cons (jv 3) ja_nil))) ja_nil))) (j_callH h_mean (hr.mono (by decide)) (takes_of rfl rfl rfl (E₁ := _) rfl) (ja_cons (jv 10) ja_nil))) (js_one (js_ret j_bl)) js_nil) (js_cons (js_par2 rfl nd (ja_cons (j_bin o_add (j_ofF (jf_comp rfl nd (ji_seq (o_slice (jv 3) (jo_some j_int) jo_none)) (own := [("_law_one", 16)]) (blkOk_by (by kernel_rfl)) (fun _ _ _ _ _ _ => (jg_name 16 nd)) (fun _ _ _ _ _ _ => jts_nil) (fun _ _ _ _ _ _ => (j_callH h_w_next (hr.mono (by decide)) takes0 (ja_cons (jv 2) (ja_cons j_int ja_nil)))))) (j_lst (ja_cons j_int ja_nil))) (ja_cons (j_lst ja_nil) ja_nil))) (js_cons (js_for (passes_of rfl) rfl (ji_zipQ (ja_cons (jv 10) (ja_cons (jv 12) ja_nil)) E.n_zip) (jg_tup rfl (jgs_cons (jg_name 14 nd) (jgs_cons (jg_name 15 nd) jgs_nil))) (js_one (js_set (i := 13) nd (j_bin o_add (jv 13) (j_bin o_mul (j_lst (ja_cons (jv 14) ja_nil)) (jv 15)))))) (js_cons (js_if (jt_cmp (OJ.neR h_cmp (hr.mono (by decide)) (takes_of rfl rfl rfl (E₁ := _) rfl) (o_neA hu)) (j_callH h_weighted_mean (hr.mono (by decide)) (takes_of rfl rfl rfl (E₁ := _) rfl) (ja_cons (jv 10) (ja_cons (jv 12) ja_nil))) (j_callH h_mean (hr.mono (by decide)) (takes_of rfl rfl rfl (E₁ := _) rfl) (ja_cons (jv 13) ja_nil))) (js_one (js_ret j_bl)) js_nil) (js_cons (js_setLc (i := 8) rfl nd (sw_true (by rfl) (by rfl) (by kernel_rfl) (by kernel_rfl)) (ji_seq (jv 3)) (own := [("_law_top", 17), ("_law_bottom", 18)]) (blkOk_by (by kernel_rfl)) (fun _ _ _ _ _ _ => (jg_tup rfl (jgs_cons (jg_name 17 nd) (jgs_cons (jg_name 18 nd) jgs_nil)))) (fun _ _ _ _ _ _ => jts_nil) (fun _ _ _ _ _ _ => (j_tup (ja_cons (j_bin o_add (j_callB c_abs rfl E.n_abs (by decide +kernel) (ja_cons (jv 17) ja_nil)) j_int) (ja_cons (jv 18) ja_nil))))) (js_cons (js_set (i := 6) nd (j_callH h_w_through (hr.mono (by decide)) (takes_of rfl rfl rfl (E₁ := _) rfl) (ja_cons (j_tup (ja_cons (j_callB c_len rfl E.n_len (by decide +kernel) (ja_cons (jv 8) ja_nil)) (ja_cons j_int ja_nil))) (ja_cons (j_callH h_w_sum (hr.mono (by decide)) (takes_of rfl rfl rfl (E₁ := _) rfl) (ja_cons (j_ofF (jf_comp rfl nd (ji_seq (jv 8)) (own := [("_law_top", 17), ("_law_bottom", 18)]) (blkOk_by (by kernel_rfl)) (fun _ _ _ _ _ _ => (jg_tup rfl (jgs_cons (jg_name 17 nd) (jgs_cons (jg_name 18 nd) jgs_nil)))) (fun _ _ _ _ _ _ => jts_nil) (fun _ _ _ _ _ _ => (j_callH h_w_low (hr.mono (by decide)) takes0 (ja_cons (jv 18) (ja_cons (jv 17) ja_nil)))))) ja_nil)) ja_nil)))) (js_cons (js_setLc (i := 8) rfl nd (sw_true (by rfl) (by rfl) (by kernel_rfl) (by kernel_rfl)) (ji_seq (jv 8)) (own := [("_law_top", 17), ("_law_bottom", 18)]) (blkOk_by (by kernel_rfl)) (fun _ _ _ _ _ _ => (jg_tup rfl (jgs_cons (jg_name 17 nd) (jgs_cons (jg_name 18 nd) jgs_nil)))) (fun _ _ _ _ _ _ => jts_nil) (fun _ _ _ _ _ _ => (j_callH h_w_low (hr.mono (by decide)) takes0 (ja_cons (jv 17) (ja_cons (jv 18) ja_nil))))) (js_cons (js_if (jt_cmp (OJ.neR h_cmp (hr.mono (by decide)) (takes_of rfl rfl rfl (E₁ := _) rfl) (o_neA hu)) (j_callH h_w_told (hr.mono (by decide)) (takes_of rfl rfl rfl (E₁ := _) rfl) (ja_cons (j_callH h_w_framed (hr.mono (by decide)) (takes_of rfl rfl rfl (E₁ := _) rfl) (ja_cons (jv 2) (ja_cons (jv 8) ja_nil))) ja_nil)) (jv 6)) (js_one (js_ret j_bl)) js_nil) (js_cons (js_setLc (i := 9) rfl nd (sw_true (by rfl) (by rfl) (by kernel_rfl) (by kernel_rfl)) (ji_enumA (ja_cons (jv 3) ja_nil) E.n_enumerate) (own := [("_law_at", 19), ("_law_one", 16)]) (blkOk_by (by kernel_rfl)) (fun _ _ _ _ _ _ => (jg_tup rfl (jgs_cons (jg_name 19 nd) (jgs_cons (jg_name 16 nd) jgs_nil)))) (fun _ _ _ _ _ _ => (jts_one (jt_cmp o_leI (j_ix (jv 16) j_int) j_int))) (fun _ _ _ _ _ _ => (jv 19))) (js_one (js_if (jt_w (jw_and (jt_cmp (OJ.neR h_cmp (hr.mono (by decide)) (takes_of rfl rfl rfl (E₁ := _) rfl) (o_neA hu)) (jv 9) (j_lst ja_nil)) (jw_and1 (jt_cmp (OJ.neR h_cmp (hr.mono (by decide)) (takes_of rfl rfl rfl (E₁ := _) rfl) (o_neA hu)) (j_callH h_w_told (hr.mono (by decide)) (takes_of rfl rfl rfl (E₁ := _) rfl) (ja_cons (jv 10) ja_nil)) (j_lst (ja_cons (j_ix (jv 9) j_int) ja_nil)))))) (js_one (js_ret j_bl)) js_nil))))))))))))))))))))))) (js_one (js_ret (j_and (j_cmp (o_eqA hu) (j_callH h_w_taken (hr.mono (by decide)) (takes_of rfl rfl rfl (E₁ := _) rfl) (ja_cons (j_callH h_harmonic_mean (hr.mono (by decide)) (takes_of rfl rfl rfl (E₁ := _) rfl) (ja_cons (j_lst (ja_cons j_int (ja_cons j_int ja_nil))) ja_nil)) ja_nil)) (j_tup (ja_cons j_int (ja_cons j_int ja_nil)))) (j_one (j_cmp (o_eqA hu) (j_callH h_w_taken (hr.mono (by decide)) (takes_of rfl rfl rfl (E₁ := _) rfl) (ja_cons (j_callH h_weighted_mean (hr.mono (by decide)) (takes_of rfl rfl rfl (E₁ := _) rfl) (ja_cons (j_lst (ja_cons j_int (ja_cons j_int ja_nil))) (ja_cons (j_lst (ja_cons j_int (ja_cons j_int ja_nil))) ja_nil))) ja_nil)) (j_tup (ja_cons j_int (ja_cons j_int ja_nil)))))))))
end
def D_w_source : DefX := ⟨fun K => He.ga K "_law_source", "_law_source", "_law_source", defArgs s_w_source, defBody s_w_source, defScope s_w_source, [], []⟩
def D_w_next : DefX := ⟨fun K => He.ga K "_law_next", "_law_next", "_law_next", defArgs s_w_next, defBody s_w_next, defScope s_w_next, [], []⟩
def D_w_pick : DefX := ⟨fun K => He.ga K "_law_pick", "_law_pick", "_law_pick", defArgs s_w_pick, defBody s_w_pick, defScope s_w_pick, [], []⟩
def D_w_low : DefX := ⟨fun K => He.ga K "_law_low", "_law_low", "_law_low", defArgs s_w_low, defBody s_w_low, defScope s_w_low, [], []⟩
def D_w_drawn : DefX := ⟨fun K => He.ga K "_law_drawn", "_law_drawn", "_law_drawn", defArgs s_w_drawn, defBody s_w_drawn, defScope s_w_drawn, [], []⟩
def D_w_row : DefX := ⟨fun K => He.ga K "_law_row", "_law_row", "_law_row", defArgs s_w_row, defBody s_w_row, defScope s_w_row, [], []⟩
def D_w_filled : DefX := ⟨fun K => He.ga K "_law_filled", "_law_filled", "_law_filled", defArgs s_w_filled, defBody s_w_filled, defScope s_w_filled, [], []⟩
def D_w_times : DefX := ⟨fun K => He.ga K "_law_times", "_law_times", "_law_times", defArgs s_w_times, defBody s_w_times, defScope s_w_times, [], []⟩
def D_w_plus : DefX := ⟨fun K => He.ga K "_law_plus", "_law_plus", "_law_plus", defArgs s_w_plus, defBody s_w_plus, defScope s_w_plus, [], []⟩
def D_w_sum : DefX := ⟨fun K => He.ga K "_law_sum", "_law_sum", "_law_sum", defArgs s_w_sum, defBody s_w_sum, defScope s_w_sum, [], []⟩
def D_w_through : DefX := ⟨fun K => He.ga K "_law_through", "_law_through", "_law_through", defArgs s_w_through, defBody s_w_through, defScope s_w_through, [], []⟩
def D_is_integer : DefX := ⟨fun K => He.ga K "is_integer", "is_integer", "is_integer", defArgs s_is_integer, defBody s_is_integer, defScope s_is_integer, [], []⟩
def D_common_divisor : DefX := ⟨fun K => He.ga K "common_divisor", "common_divisor", "common_divisor", defArgs s_common_divisor, defBody s_common_divisor, defScope s_common_divisor, [], []⟩
def D_Ratio___init__ : DefX := ⟨fun K => He.ma K (He.ga K "Ratio") "__init__", "__init__", "Ratio.__init__", defArgs s_Ratio___init__, defBody s_Ratio___init__, defScope s_Ratio___init__, [.int 1], []⟩
def D_w_given : DefX := ⟨fun K => He.ga K "_law_given", "_law_given", "_law_given", defArgs s_w_given, defBody s_w_given, defScope s_w_given, [], []⟩
def D_is_number : DefX := ⟨fun K => He.ga K "is_number", "is_number", "is_number", defArgs s_is_number, defBody s_is_number, defScope s_is_number, [], []⟩
def D_need_number : DefX := ⟨fun K => He.ga K "need_number", "need_number", "need_number", defArgs s_need_number, defBody s_need_number, defScope s_need_number, [], []⟩
def D_ratio_of : DefX := ⟨fun K => He.ga K "ratio_of", "ratio_of", "ratio_of", defArgs s_ratio_of, defBody s_ratio_of, defScope s_ratio_of, [], []⟩
def D_Ratio_of : DefX := ⟨fun K => He5.wf K (He.ga K "Ratio") "classmethod" "of", "of", "Ratio.of", defArgs s_Ratio_of, defBody s_Ratio_of, defScope s_Ratio_of, [], []⟩
def D_w_framed : DefX := ⟨fun K => He.ga K "_law_framed", "_law_framed", "_law_framed", defArgs s_w_framed, defBody s_w_framed, defScope s_w_framed, [], []⟩
def D_is_row : DefX := ⟨fun K => He.ga K "is_row", "is_row", "is_row", defArgs s_is_row, defBody s_is_row, defScope s_is_row, [], []⟩
def D_need_sample : DefX := ⟨fun K => He.ga K "need_sample", "need_sample", "need_sample", defArgs s_need_sample, defBody s_need_sample, defScope s_need_sample, [], []⟩
def D_Ratio_top : DefX := ⟨fun K => getAd "top" K, "top", "Ratio.top", defArgs s_Ratio_top, defBody s_Ratio_top, defScope s_Ratio_top, [], []⟩
def D_need_weights : DefX := ⟨fun K => He.ga K "need_weights", "need_weights", "need_weights", defArgs s_need_weights, defBody s_need_weights, defScope s_need_weights, [], []⟩
def D_need_items : DefX := ⟨fun K => He.ga K "need_items", "need_items", "need_items", defArgs s_need_items, defBody s_need_items, defScope s_need_items, [], []⟩
def D_Ratio___eq__ : DefX := ⟨fun K => He.ma K (He.ga K "Ratio") "__eq__", "__eq__", "Ratio.__eq__", defArgs s_Ratio___eq__, defBody s_Ratio___eq__, defScope s_Ratio___eq__, [], []⟩
def D_need_some_weight : DefX := ⟨fun K => He.ga K "need_some_weight", "need_some_weight", "need_some_weight", defArgs s_need_some_weight, defBody s_need_some_weight, defScope s_need_some_weight, [], []⟩
def D_Ratio___mul__ : DefX := ⟨fun K => He.ma K (He.ga K "Ratio") "__mul__", "__mul__", "Ratio.__mul__", defArgs s_Ratio___mul__, defBody s_Ratio___mul__, defScope s_Ratio___mul__, [], []⟩
def D_common : DefX := ⟨fun K => He.ga K "common", "common", "common", defArgs s_common, defBody s_common, defScope s_common, [], []⟩
def D_total : DefX := ⟨fun K => He.ga K "total", "total", "total", defArgs s_total, defBody s_total, defScope s_total, [], []⟩
def D_weighted_total : DefX := ⟨fun K => He.ga K "weighted_total", "weighted_total", "weighted_total", defArgs s_weighted_total, defBody s_weighted_total, defScope s_weighted_total, [], []⟩
def D_Ratio_over : DefX := ⟨fun K => He.ma K (He.ga K "Ratio") "over", "over", "Ratio.over", defArgs s_Ratio_over, defBody s_Ratio_over, defScope s_Ratio_over, [], []⟩
def D_weighted_mean : DefX := ⟨fun K => He.ga K "weighted_mean", "weighted_mean", "weighted_mean", defArgs s_weighted_mean, defBody s_weighted_mean, defScope s_weighted_mean, [], []⟩
def D_Ratio_bottom : DefX := ⟨fun K => getAd "bottom" K, "bottom", "Ratio.bottom", defArgs s_Ratio_bottom, defBody s_Ratio_bottom, defScope s_Ratio_bottom, [], []⟩
def D_w_taken : DefX := ⟨fun K => He.ga K "_law_taken", "_law_taken", "_law_taken", defArgs s_w_taken, defBody s_w_taken, defScope s_w_taken, [], []⟩
def D_need_filled : DefX := ⟨fun K => He.ga K "need_filled", "need_filled", "need_filled", defArgs s_need_filled, defBody s_need_filled, defScope s_need_filled, [], []⟩
def D_mean_of : DefX := ⟨fun K => He.ga K "mean_of", "mean_of", "mean_of", defArgs s_mean_of, defBody s_mean_of, defScope s_mean_of, [], []⟩
def D_mean : DefX := ⟨fun K => He.ga K "mean", "mean", "mean", defArgs s_mean, defBody s_mean, defScope s_mean, [], []⟩
def D_harmonic_mean : DefX := ⟨fun K => He.ga K "harmonic_mean", "harmonic_mean", "harmonic_mean", defArgs s_harmonic_mean, defBody s_harmonic_mean, defScope s_harmonic_mean, [], []⟩
def D_w_told : DefX := ⟨fun K => He.ga K "_law_told", "_law_told", "_law_told", defArgs s_w_told, defBody s_w_told, defScope s_w_told, [], []⟩
def D_law : DefX := ⟨fun K => He.ga K "law", "law", "law", defArgs s_law, defBody s_law, defScope s_law, [], []⟩
def D_BadNumber___init__ : DefX := ⟨fun K => He.ma K (He.ga K "BadNumber") "__init__", "__init__", "BadNumber.__init__", defArgs s_BadNumber___init__, defBody s_BadNumber___init__, defScope s_BadNumber___init__, [], []⟩
def D_BadSample___init__ : DefX := ⟨fun K => He.ma K (He.ga K "BadSample") "__init__", "__init__", "BadSample.__init__", defArgs s_BadSample___init__, defBody s_BadSample___init__, defScope s_BadSample___init__, [.non], []⟩
def D_BadWeights___init__ : DefX := ⟨fun K => He.ma K (He.ga K "BadWeights") "__init__", "__init__", "BadWeights.__init__", defArgs s_BadWeights___init__, defBody s_BadWeights___init__, defScope s_BadWeights___init__, [.non], []⟩
def D_NotPositive___init__ : DefX := ⟨fun K => He.ma K (He.ga K "NotPositive") "__init__", "__init__", "NotPositive.__init__", defArgs s_NotPositive___init__, defBody s_NotPositive___init__, defScope s_NotPositive___init__, [.non], []⟩
def fn : List DefX := [D_w_source, D_w_next, D_w_pick, D_w_low, D_w_drawn, D_w_row, D_w_filled, D_w_times, D_w_plus, D_w_sum, D_w_through, D_is_integer, D_common_divisor, D_Ratio___init__, D_w_given, D_is_number, D_need_number, D_ratio_of, D_Ratio_of, D_w_framed, D_is_row, D_need_sample, D_Ratio_top, D_need_weights, D_need_items, D_Ratio___eq__, D_need_some_weight, D_Ratio___mul__, D_common, D_total, D_weighted_total, D_Ratio_over, D_weighted_mean, D_Ratio_bottom, D_w_taken, D_need_filled, D_mean_of, D_mean, D_harmonic_mean, D_w_told, D_law, D_BadNumber___init__, D_BadSample___init__, D_BadWeights___init__, D_NotPositive___init__]
def fa : List He.Fa := [.glo "_law_source", .glo "_law_next", .glo "_law_pick", .glo "_law_low", .glo "_law_drawn", .glo "_law_row", .glo "_law_filled", .glo "_law_times", .glo "_law_plus", .glo "_law_sum", .glo "_law_through", .glo "is_integer", .glo "common_divisor", .glo "_law_given", .glo "is_number", .glo "need_number", .glo "ratio_of", .glo "_law_framed", .glo "is_row", .glo "need_sample", .glo "need_weights", .glo "need_items", .glo "need_some_weight", .glo "common", .glo "total", .glo "weighted_total", .glo "weighted_mean", .glo "_law_taken", .glo "need_filled", .glo "mean_of", .glo "mean", .glo "harmonic_mean", .glo "_law_told", .glo "law", .glo "is_number_ratios", .glo "BadNumber", .glo "BadSample", .glo "BadWeights", .glo "Empty", .glo "NotPositive", .glo "Ratio", .cls "Ratio", .noat "Ratio" "own_top", .noat "Ratio" "own_bottom", .mkr "Ratio", .free "abs", .free "all", .free "bool", .free "enumerate", .free "int", .free "isinstance", .free "len", .free "list", .free "max", .free "min", .free "range", .free "sum", .free "tuple", .free "zip", .int "MOST_ITEMS" 1000, .meth "Ratio" "over"]
def xs : List (PySem.W.Frag → Bool) := [kisiB, fun K => clsIB K (He.ga K "Ratio"), fun K => isiB K (He.ga K "Ratio"), oxB .ve "BadNumber" "value", oxB .ve "BadSample" "index", oxB .ve "BadWeights" "index", ex0B .le "Empty", oxB .ae "NotPositive" "index", htB ["NotPositive"] ["NotPositive"], hefB ["BadSample", "BadWeights", "NotPositive"] "index", cmB "of", propB "top", cmpB, binB "mul", propB "bottom", fun K => decide (He.ga K "is_number_ratios" = He.ga K "is_number")]
theorem facts {P : Program} {w : World} {K : PySem.W.Frag} {h : Heap} {mg : Str → Option Value} (X : K.In h) (G : h.Ns mainGlobals mg) (c : SaysX fa xs fn K) :
    mg "law" = some (.ref (He.ga K "law")) ∧ ∃ fd : FuncData, (∀ (s : Shared) (v : Value), BindsTo s fd ⟨[v], []⟩ [("_law_script", v)]) ∧ ∀ base : Heap, FJ P w K mg base (He.ga K "Ratio") 10 (He.ga K "law") fd ["_law_script"] (F_law_k12 (He.ga K "Ratio")) := by
  obtain ⟨fd_w_source, Q_w_source⟩ := c.def_ 0 (d := D_w_source) rfl
  obtain ⟨fd_w_next, Q_w_next⟩ := c.def_ 1 (d := D_w_next) rfl
  obtain ⟨fd_w_pick, Q_w_pick⟩ := c.def_ 2 (d := D_w_pick) rfl
  obtain ⟨fd_w_low, Q_w_low⟩ := c.def_ 3 (d := D_w_low) rfl
  obtain ⟨fd_w_drawn, Q_w_drawn⟩ := c.def_ 4 (d := D_w_drawn) rfl
  obtain ⟨fd_w_row, Q_w_row⟩ := c.def_ 5 (d := D_w_row) rfl
  obtain ⟨fd_w_filled, Q_w_filled⟩ := c.def_ 6 (d := D_w_filled) rfl
  obtain ⟨fd_w_times, Q_w_times⟩ := c.def_ 7 (d := D_w_times) rfl
  obtain ⟨fd_w_plus, Q_w_plus⟩ := c.def_ 8 (d := D_w_plus) rfl
  obtain ⟨fd_w_sum, Q_w_sum⟩ := c.def_ 9 (d := D_w_sum) rfl
  obtain ⟨fd_w_through, Q_w_through⟩ := c.def_ 10 (d := D_w_through) rfl
  obtain ⟨fd_is_integer, Q_is_integer⟩ := c.def_ 11 (d := D_is_integer) rfl
  obtain ⟨fd_common_divisor, Q_common_divisor⟩ := c.def_ 12 (d := D_common_divisor) rfl
  obtain ⟨fd_Ratio___init__, Q_Ratio___init__⟩ := c.def_ 13 (d := D_Ratio___init__) rfl
  obtain ⟨fd_w_given, Q_w_given⟩ := c.def_ 14 (d := D_w_given) rfl
  obtain ⟨fd_is_number, Q_is_number⟩ := c.def_ 15 (d := D_is_number) rfl
  obtain ⟨fd_need_number, Q_need_number⟩ := c.def_ 16 (d := D_need_number) rfl
  obtain ⟨fd_ratio_of, Q_ratio_of⟩ := c.def_ 17 (d := D_ratio_of) rfl
  obtain ⟨fd_Ratio_of, Q_Ratio_of⟩ := c.def_ 18 (d := D_Ratio_of) rfl
  obtain ⟨fd_w_framed, Q_w_framed⟩ := c.def_ 19 (d := D_w_framed) rfl
  obtain ⟨fd_is_row, Q_is_row⟩ := c.def_ 20 (d := D_is_row) rfl
  obtain ⟨fd_need_sample, Q_need_sample⟩ := c.def_ 21 (d := D_need_sample) rfl
  obtain ⟨fd_Ratio_top, Q_Ratio_top⟩ := c.def_ 22 (d := D_Ratio_top) rfl
  obtain ⟨fd_need_weights, Q_need_weights⟩ := c.def_ 23 (d := D_need_weights) rfl
  obtain ⟨fd_need_items, Q_need_items⟩ := c.def_ 24 (d := D_need_items) rfl
  obtain ⟨fd_Ratio___eq__, Q_Ratio___eq__⟩ := c.def_ 25 (d := D_Ratio___eq__) rfl
  obtain ⟨fd_need_some_weight, Q_need_some_weight⟩ := c.def_ 26 (d := D_need_some_weight) rfl
  obtain ⟨fd_Ratio___mul__, Q_Ratio___mul__⟩ := c.def_ 27 (d := D_Ratio___mul__) rfl
  obtain ⟨fd_common, Q_common⟩ := c.def_ 28 (d := D_common) rfl
  obtain ⟨fd_total, Q_total⟩ := c.def_ 29 (d := D_total) rfl
  obtain ⟨fd_weighted_total, Q_weighted_total⟩ := c.def_ 30 (d := D_weighted_total) rfl
  obtain ⟨fd_Ratio_over, Q_Ratio_over⟩ := c.def_ 31 (d := D_Ratio_over) rfl
  obtain ⟨fd_weighted_mean, Q_weighted_mean⟩ := c.def_ 32 (d := D_weighted_mean) rfl
  obtain ⟨fd_Ratio_bottom, Q_Ratio_bottom⟩ := c.def_ 33 (d := D_Ratio_bottom) rfl
  obtain ⟨fd_w_taken, Q_w_taken⟩ := c.def_ 34 (d := D_w_taken) rfl
  obtain ⟨fd_need_filled, Q_need_filled⟩ := c.def_ 35 (d := D_need_filled) rfl
  obtain ⟨fd_mean_of, Q_mean_of⟩ := c.def_ 36 (d := D_mean_of) rfl
  obtain ⟨fd_mean, Q_mean⟩ := c.def_ 37 (d := D_mean) rfl
  obtain ⟨fd_harmonic_mean, Q_harmonic_mean⟩ := c.def_ 38 (d := D_harmonic_mean) rfl
  obtain ⟨fd_w_told, Q_w_told⟩ := c.def_ 39 (d := D_w_told) rfl
  obtain ⟨fd_law, Q_law⟩ := c.def_ 40 (d := D_law) rfl
  have C0 := He.cls_ok (c.fact 41 (f := .cls "Ratio") rfl)
  have T0 : ClsR K (He.ga K "Ratio") := ⟨C0, He.noat_ok (c.fact 42 (f := .noat "Ratio" "own_top") rfl), He.noat_ok (c.fact 43 (f := .noat "Ratio" "own_bottom") rfl)⟩
  have E : Fs K mg (He.ga K "Ratio") := ⟨He.free_ok X G (c.fact 45 (f := .free "abs") rfl), He.free_ok X G (c.fact 46 (f := .free "all") rfl), He.free_ok X G (c.fact 47 (f := .free "bool") rfl), He.free_ok X G (c.fact 48 (f := .free "enumerate") rfl), He.free_ok X G (c.fact 49 (f := .free "int") rfl), He.free_ok X G (c.fact 50 (f := .free "isinstance") rfl), He.free_ok X G (c.fact 51 (f := .free "len") rfl), He.free_ok X G (c.fact 52 (f := .free "list") rfl), He.free_ok X G (c.fact 53 (f := .free "max") rfl), He.free_ok X G (c.fact 54 (f := .free "min") rfl), He.free_ok X G (c.fact 55 (f := .free "range") rfl), He.free_ok X G (c.fact 56 (f := .free "sum") rfl), He.free_ok X G (c.fact 57 (f := .free "tuple") rfl), He.free_ok X G (c.fact 58 (f := .free "zip") rfl), He.glo_ok X G (c.fact 40 (f := .glo "Ratio") rfl), T0, isiR_ok (c.chk 0 (x := kisiB) rfl) (clsI_ok C0 (c.chk 1 (x := fun K => clsIB K (He.ga K "Ratio")) rfl)) (c.chk 2 (x := fun K => isiB K (He.ga K "Ratio")) rfl), fun C hC => by rw [List.mem_singleton.mp hC]; exact ⟨C0, T0.top⟩, fun C hC => by rw [List.mem_singleton.mp hC]; exact ⟨C0, T0.bot⟩, He.int_ok X G (c.fact 59 (f := .int "MOST_ITEMS" 1000) rfl)⟩
  refine ⟨He.glo_ok X G (c.fact 33 (f := .glo "law") rfl), fd_law, fun s v => (FunD.bindsA (ps := ["_law_script"]) Q_law fun _ _ _ _ _ _ us hl => match us, hl with | [_], _ => rfl) s [v] rfl, fun base => ?_⟩
  obtain ⟨fd_BadNumber___init__, Q_BadNumber___init__⟩ := c.def_ 41 (d := D_BadNumber___init__) rfl
  have b_BadNumber___init__ : Binds K fd_BadNumber___init__ ["self", "value"] [] := (FunD.bindsN (ps := ["self", "value"]) Q_BadNumber___init__ fun _ _ _ _ _ _ us hl => match us, hl with | [_, _], _ => rfl)
  have h_exc_BadNumber : HasE P w K mg base "BadNumber" "value" .ve := hasE_of (He.glo_ok X G (c.fact 35 (f := .glo "BadNumber") rfl)) (c.chk 3 (x := oxB .ve "BadNumber" "value") rfl) Q_BadNumber___init__ b_BadNumber___init__ sc_BadNumber___init__ rfl
  obtain ⟨fd_BadSample___init__, Q_BadSample___init__⟩ := c.def_ 42 (d := D_BadSample___init__) rfl
  obtain ⟨ds_BadSample___init__, rD_BadSample___init__, b_BadSample___init__⟩ := FunD.binds1 (ps := ["self", "index"]) Q_BadSample___init__ 2 1 (by simp [DefX.dvs, D_BadSample___init__]) rfl fun _ _ _ _ _ _ _ us its hu hi => match us, its, hu, hi with | [_, _], [_], _, _ => ⟨_, rfl, rfl⟩
  cases rD_BadSample___init__
  have h_exc_BadSample : HasE P w K mg base "BadSample" "index" .ve := hasE_of (He.glo_ok X G (c.fact 36 (f := .glo "BadSample") rfl)) (c.chk 4 (x := oxB .ve "BadSample" "index") rfl) Q_BadSample___init__ b_BadSample___init__ sc_BadSample___init__ rfl
  obtain ⟨fd_BadWeights___init__, Q_BadWeights___init__⟩ := c.def_ 43 (d := D_BadWeights___init__) rfl
  obtain ⟨ds_BadWeights___init__, rD_BadWeights___init__, b_BadWeights___init__⟩ := FunD.binds1 (ps := ["self", "index"]) Q_BadWeights___init__ 2 1 (by simp [DefX.dvs, D_BadWeights___init__]) rfl fun _ _ _ _ _ _ _ us its hu hi => match us, its, hu, hi with | [_, _], [_], _, _ => ⟨_, rfl, rfl⟩
  cases rD_BadWeights___init__
  have h_exc_BadWeights : HasE P w K mg base "BadWeights" "index" .ve := hasE_of (He.glo_ok X G (c.fact 37 (f := .glo "BadWeights") rfl)) (c.chk 5 (x := oxB .ve "BadWeights" "index") rfl) Q_BadWeights___init__ b_BadWeights___init__ sc_BadWeights___init__ rfl
  have h_exc_Empty : HasE0 K mg "Empty" .le := hasE0_of (He.glo_ok X G (c.fact 38 (f := .glo "Empty") rfl)) (c.chk 6 (x := ex0B .le "Empty") rfl)
  obtain ⟨fd_NotPositive___init__, Q_NotPositive___init__⟩ := c.def_ 44 (d := D_NotPositive___init__) rfl
  obtain ⟨ds_NotPositive___init__, rD_NotPositive___init__, b_NotPositive___init__⟩ := FunD.binds1 (ps := ["self", "index"]) Q_NotPositive___init__ 2 1 (by simp [DefX.dvs, D_NotPositive___init__]) rfl fun _ _ _ _ _ _ _ us its hu hi => match us, its, hu, hi with | [_, _], [_], _, _ => ⟨_, rfl, rfl⟩
  cases rD_NotPositive___init__
  have h_exc_NotPositive : HasE P w K mg base "NotPositive" "index" .ae := hasE_of (He.glo_ok X G (c.fact 39 (f := .glo "NotPositive") rfl)) (c.chk 7 (x := oxB .ae "NotPositive" "index") rfl) Q_NotPositive___init__ b_NotPositive___init__ sc_NotPositive___init__ rfl
  have h_try_NotPositive : HasT K mg ["NotPositive"] ["NotPositive"] := hasT_of (fun n hn => by rw [List.mem_singleton.mp hn]; exact He.glo_ok X G (c.fact 39 (f := .glo "NotPositive") rfl)) (c.chk 8 (x := htB ["NotPositive"] ["NotPositive"]) rfl)
  have h_ef_index : HasEF K ["BadSample", "BadWeights", "NotPositive"] "index" := hasEF_of (c.chk 9 (x := hefB ["BadSample", "BadWeights", "NotPositive"] "index") rfl)
  have r_w_source : FJ P w K mg base (He.ga K "Ratio") 1 _ fd_w_source ["_law_script", "_law_k"] (runBody 3 d_w_source) := (ok_w_source E  Q_w_source)
  have b_w_source : Binds K fd_w_source ["_law_script", "_law_k"] [] := (FunD.bindsN (ps := ["_law_script", "_law_k"]) Q_w_source fun _ _ _ _ _ _ us hl => match us, hl with | [_, _], _ => rfl)
  have h_w_source : Has P w K mg base (He.ga K "Ratio") "_law_source" 1 ["_law_script", "_law_k"] F_w_source := ⟨_, fd_w_source, He.glo_ok X G (c.fact 0 (f := .glo "_law_source") rfl), Q_w_source.kp, b_w_source, r_w_source⟩
  have r_w_next : FJ P w K mg base (He.ga K "Ratio") 1 _ fd_w_next ["_law_source_here", "_law_many"] (runBody 5 d_w_next) := (ok_w_next E  Q_w_next)
  have b_w_next : Binds K fd_w_next ["_law_source_here", "_law_many"] [] := (FunD.bindsN (ps := ["_law_source_here", "_law_many"]) Q_w_next fun _ _ _ _ _ _ us hl => match us, hl with | [_, _], _ => rfl)
  have h_w_next : Has P w K mg base (He.ga K "Ratio") "_law_next" 1 ["_law_source_here", "_law_many"] F_w_next := ⟨_, fd_w_next, He.glo_ok X G (c.fact 1 (f := .glo "_law_next") rfl), Q_w_next.kp, b_w_next, r_w_next⟩
  have r_w_pick : FJ P w K mg base (He.ga K "Ratio") 2 _ fd_w_pick ["_law_source_here", "_law_items"] (runBody 2 d_w_pick) := (ok_w_pick E h_w_next Q_w_pick)
  have b_w_pick : Binds K fd_w_pick ["_law_source_here", "_law_items"] [] := (FunD.bindsN (ps := ["_law_source_here", "_law_items"]) Q_w_pick fun _ _ _ _ _ _ us hl => match us, hl with | [_, _], _ => rfl)
  have h_w_pick : Has P w K mg base (He.ga K "Ratio") "_law_pick" 2 ["_law_source_here", "_law_items"] F_w_pick := ⟨_, fd_w_pick, He.glo_ok X G (c.fact 2 (f := .glo "_law_pick") rfl), Q_w_pick.kp, b_w_pick, r_w_pick⟩
  have r_w_low : FJ P w K mg base (He.ga K "Ratio") 1 _ fd_w_low ["_law_top", "_law_bottom"] (runBody 4 d_w_low) := (ok_w_low E  Q_w_low)
  have b_w_low : Binds K fd_w_low ["_law_top", "_law_bottom"] [] := (FunD.bindsN (ps := ["_law_top", "_law_bottom"]) Q_w_low fun _ _ _ _ _ _ us hl => match us, hl with | [_, _], _ => rfl)
  have h_w_low : Has P w K mg base (He.ga K "Ratio") "_law_low" 1 ["_law_top", "_law_bottom"] F_w_low := ⟨_, fd_w_low, He.glo_ok X G (c.fact 3 (f := .glo "_law_low") rfl), Q_w_low.kp, b_w_low, r_w_low⟩
  have r_w_drawn : FJ P w K mg base (He.ga K "Ratio") 2 _ fd_w_drawn ["_law_source_here"] (runBody 2 d_w_drawn) := (ok_w_drawn E h_w_next h_w_low Q_w_drawn)
  have b_w_drawn : Binds K fd_w_drawn ["_law_source_here"] [] := (FunD.bindsN (ps := ["_law_source_here"]) Q_w_drawn fun _ _ _ _ _ _ us hl => match us, hl with | [_], _ => rfl)
  have h_w_drawn : Has P w K mg base (He.ga K "Ratio") "_law_drawn" 2 ["_law_source_here"] F_w_drawn := ⟨_, fd_w_drawn, He.glo_ok X G (c.fact 4 (f := .glo "_law_drawn") rfl), Q_w_drawn.kp, b_w_drawn, r_w_drawn⟩
  have r_w_row : FJ P w K mg base (He.ga K "Ratio") 3 _ fd_w_row ["_law_source_here", "_law_most"] (runBody 4 d_w_row) := (ok_w_row E h_w_next h_w_pick h_w_drawn Q_w_row)
  have b_w_row : Binds K fd_w_row ["_law_source_here", "_law_most"] [] := (FunD.bindsN (ps := ["_law_source_here", "_law_most"]) Q_w_row fun _ _ _ _ _ _ us hl => match us, hl with | [_, _], _ => rfl)
  have h_w_row : Has P w K mg base (He.ga K "Ratio") "_law_row" 3 ["_law_source_here", "_law_most"] F_w_row := ⟨_, fd_w_row, He.glo_ok X G (c.fact 5 (f := .glo "_law_row") rfl), Q_w_row.kp, b_w_row, r_w_row⟩
  have r_w_filled : FJ P w K mg base (He.ga K "Ratio") 4 _ fd_w_filled ["_law_source_here", "_law_most"] (runBody 2 d_w_filled) := (ok_w_filled E h_w_row h_w_drawn Q_w_filled)
  have b_w_filled : Binds K fd_w_filled ["_law_source_here", "_law_most"] [] := (FunD.bindsN (ps := ["_law_source_here", "_law_most"]) Q_w_filled fun _ _ _ _ _ _ us hl => match us, hl with | [_, _], _ => rfl)
  have h_w_filled : Has P w K mg base (He.ga K "Ratio") "_law_filled" 4 ["_law_source_here", "_law_most"] F_w_filled := ⟨_, fd_w_filled, He.glo_ok X G (c.fact 6 (f := .glo "_law_filled") rfl), Q_w_filled.kp, b_w_filled, r_w_filled⟩
  have r_w_times : FJ P w K mg base (He.ga K "Ratio") 2 _ fd_w_times ["_law_one", "_law_other"] (runBody 2 d_w_times) := (ok_w_times E h_w_low Q_w_times)
  have b_w_times : Binds K fd_w_times ["_law_one", "_law_other"] [] := (FunD.bindsN (ps := ["_law_one", "_law_other"]) Q_w_times fun _ _ _ _ _ _ us hl => match us, hl with | [_, _], _ => rfl)
  have h_w_times : Has P w K mg base (He.ga K "Ratio") "_law_times" 2 ["_law_one", "_law_other"] F_w_times := ⟨_, fd_w_times, He.glo_ok X G (c.fact 7 (f := .glo "_law_times") rfl), Q_w_times.kp, b_w_times, r_w_times⟩
  have r_w_plus : FJ P w K mg base (He.ga K "Ratio") 2 _ fd_w_plus ["_law_one", "_law_other"] (runBody 2 d_w_plus) := (ok_w_plus E h_w_low Q_w_plus)
  have b_w_plus : Binds K fd_w_plus ["_law_one", "_law_other"] [] := (FunD.bindsN (ps := ["_law_one", "_law_other"]) Q_w_plus fun _ _ _ _ _ _ us hl => match us, hl with | [_, _], _ => rfl)
  have h_w_plus : Has P w K mg base (He.ga K "Ratio") "_law_plus" 2 ["_law_one", "_law_other"] F_w_plus := ⟨_, fd_w_plus, He.glo_ok X G (c.fact 8 (f := .glo "_law_plus") rfl), Q_w_plus.kp, b_w_plus, r_w_plus⟩
  have r_w_sum : FJ P w K mg base (He.ga K "Ratio") 3 _ fd_w_sum ["_law_some"] (runBody 3 d_w_sum) := (ok_w_sum E h_w_plus Q_w_sum)
  have b_w_sum : Binds K fd_w_sum ["_law_some"] [] := (FunD.bindsN (ps := ["_law_some"]) Q_w_sum fun _ _ _ _ _ _ us hl => match us, hl with | [_], _ => rfl)
  have h_w_sum : Has P w K mg base (He.ga K "Ratio") "_law_sum" 3 ["_law_some"] F_w_sum := ⟨_, fd_w_sum, He.glo_ok X G (c.fact 9 (f := .glo "_law_sum") rfl), Q_w_sum.kp, b_w_sum, r_w_sum⟩
  have r_w_through : FJ P w K mg base (He.ga K "Ratio") 2 _ fd_w_through ["_law_one", "_law_other"] (runBody 2 d_w_through) := (ok_w_through E h_w_low Q_w_through)
  have b_w_through : Binds K fd_w_through ["_law_one", "_law_other"] [] := (FunD.bindsN (ps := ["_law_one", "_law_other"]) Q_w_through fun _ _ _ _ _ _ us hl => match us, hl with | [_, _], _ => rfl)
  have h_w_through : Has P w K mg base (He.ga K "Ratio") "_law_through" 2 ["_law_one", "_law_other"] F_w_through := ⟨_, fd_w_through, He.glo_ok X G (c.fact 10 (f := .glo "_law_through") rfl), Q_w_through.kp, b_w_through, r_w_through⟩
  have r_is_integer : FJ P w K mg base (He.ga K "Ratio") 1 _ fd_is_integer ["value"] (runBody 1 d_is_integer) := (ok_is_integer E  Q_is_integer)
  have b_is_integer : Binds K fd_is_integer ["value"] [] := (FunD.bindsN (ps := ["value"]) Q_is_integer fun _ _ _ _ _ _ us hl => match us, hl with | [_], _ => rfl)
  have h_is_integer : Has P w K mg base (He.ga K "Ratio") "is_integer" 1 ["value"] F_is_integer := ⟨_, fd_is_integer, He.glo_ok X G (c.fact 11 (f := .glo "is_integer") rfl), Q_is_integer.kp, b_is_integer, r_is_integer⟩
  have r_common_divisor : FJ P w K mg base (He.ga K "Ratio") 1 _ fd_common_divisor ["one", "other"] (runBody 2 d_common_divisor) := (ok_common_divisor E  Q_common_divisor)
  have b_common_divisor : Binds K fd_common_divisor ["one", "other"] [] := (FunD.bindsN (ps := ["one", "other"]) Q_common_divisor fun _ _ _ _ _ _ us hl => match us, hl with | [_, _], _ => rfl)
  have h_common_divisor : Has P w K mg base (He.ga K "Ratio") "common_divisor" 1 ["one", "other"] F_common_divisor := ⟨_, fd_common_divisor, He.glo_ok X G (c.fact 12 (f := .glo "common_divisor") rfl), Q_common_divisor.kp, b_common_divisor, r_common_divisor⟩
  have r_Ratio___init__ : FJ P w K mg base (He.ga K "Ratio") 2 _ fd_Ratio___init__ ["self", "top", "bottom"] (runBody 5 (d_Ratio___init__ (He.ga K "Ratio"))) := (ok_Ratio___init__ E h_is_integer h_common_divisor Q_Ratio___init__)
  obtain ⟨ds, rD, b1⟩ := FunD.binds1 (ps := ["self", "top", "bottom"]) Q_Ratio___init__ 2 0 (by simp [DefX.dvs, D_Ratio___init__]) rfl fun _ _ _ _ _ _ _ us its hu hi => match us, its, hu, hi with | [_, _], [_], _, _ => ⟨_, rfl, rfl⟩
  obtain ⟨one, hds, r1⟩ := vals1 rD
  subst hds
  obtain ⟨ds0, rD0, b0⟩ := FunD.binds1 (ps := ["self", "top", "bottom"]) Q_Ratio___init__ 3 1 (by simp [DefX.dvs, D_Ratio___init__]) rfl fun _ _ _ _ _ _ _ us its hu hi => match us, its, hu, hi with | [_, _, _], [_], _, _ => ⟨_, rfl, rfl⟩
  cases rD0
  have h_Ratio : HasR P w K mg base (He.ga K "Ratio") 2 okR := ⟨He.glo_ok X G (c.fact 40 (f := .glo "Ratio") rfl), _, fd_Ratio___init__, one, He.mkr_ok (c.fact 44 (f := .mkr "Ratio") rfl), b0, b1, r1, FJ.imp r_Ratio___init__ (PC.b_init _)⟩
  have r_w_given : FJ P w K mg base (He.ga K "Ratio") 4 _ fd_w_given ["_law_some"] (runBody 3 d_w_given) := (ok_w_given E h_Ratio Q_w_given)
  have b_w_given : Binds K fd_w_given ["_law_some"] [] := (FunD.bindsN (ps := ["_law_some"]) Q_w_given fun _ _ _ _ _ _ us hl => match us, hl with | [_], _ => rfl)
  have h_w_given : Has P w K mg base (He.ga K "Ratio") "_law_given" 4 ["_law_some"] F_w_given := ⟨_, fd_w_given, He.glo_ok X G (c.fact 13 (f := .glo "_law_given") rfl), Q_w_given.kp, b_w_given, r_w_given⟩
  have r_is_number : FJ P w K mg base (He.ga K "Ratio") 2 _ fd_is_number ["value"] (runBody 1 d_is_number) := (ok_is_number E h_is_integer Q_is_number)
  have b_is_number : Binds K fd_is_number ["value"] [] := (FunD.bindsN (ps := ["value"]) Q_is_number fun _ _ _ _ _ _ us hl => match us, hl with | [_], _ => rfl)
  have h_is_number_ratios : Has P w K mg base (He.ga K "Ratio") "is_number_ratios" 2 ["value"] F_is_number := ⟨_, fd_is_number, (He.glo_ok X G (c.fact 34 (f := .glo "is_number_ratios") rfl)).trans (congrArg (fun a => some (Value.ref a)) (of_decide_eq_true (c.chk 15 (x := fun K => decide (He.ga K "is_number_ratios" = He.ga K "is_number")) rfl))), Q_is_number.kp, b_is_number, r_is_number⟩
  have r_need_number : FJ P w K mg base (He.ga K "Ratio") 3 _ fd_need_number ["value"] (runBody 1 d_need_number) := (ok_need_number E h_exc_BadNumber h_is_number_ratios Q_need_number)
  have b_need_number : Binds K fd_need_number ["value"] [] := (FunD.bindsN (ps := ["value"]) Q_need_number fun _ _ _ _ _ _ us hl => match us, hl with | [_], _ => rfl)
  have h_need_number : Has P w K mg base (He.ga K "Ratio") "need_number" 3 ["value"] F_need_number := ⟨_, fd_need_number, He.glo_ok X G (c.fact 15 (f := .glo "need_number") rfl), Q_need_number.kp, b_need_number, r_need_number⟩
  have r_ratio_of : FJ P w K mg base (He.ga K "Ratio") 4 _ fd_ratio_of ["value"] (runBody 1 d_ratio_of) := (ok_ratio_of E h_Ratio Q_ratio_of)
  have b_ratio_of : Binds K fd_ratio_of ["value"] [] := (FunD.bindsN (ps := ["value"]) Q_ratio_of fun _ _ _ _ _ _ us hl => match us, hl with | [_], _ => rfl)
  have h_ratio_of : Has P w K mg base (He.ga K "Ratio") "ratio_of" 4 ["value"] F_ratio_of := ⟨_, fd_ratio_of, He.glo_ok X G (c.fact 16 (f := .glo "ratio_of") rfl), Q_ratio_of.kp, b_ratio_of, r_ratio_of⟩
  have r_Ratio_of : FJ P w K mg base (He.ga K "Ratio") 5 _ fd_Ratio_of ["cls", "value"] (runBody 2 d_Ratio_of) := (ok_Ratio_of E h_need_number h_ratio_of Q_Ratio_of)
  have b_Ratio_of : Binds K fd_Ratio_of ["cls", "value"] [] := (FunD.bindsN (ps := ["cls", "value"]) Q_Ratio_of fun _ _ _ _ _ _ us hl => match us, hl with | [_, _], _ => rfl)
  have h_Ratio_of : HasC P w K mg base (He.ga K "Ratio") "of" 5 ["cls", "value"] F_Ratio_of := ⟨He.glo_ok X G (c.fact 40 (f := .glo "Ratio") rfl), _, _, _, (cmB_ok (c.chk 10 (x := cmB "of") rfl)).1, (cmB_ok (c.chk 10 (x := cmB "of") rfl)).2, ⟨fd_Ratio_of, b_Ratio_of, r_Ratio_of⟩⟩
  have r_w_framed : FJ P w K mg base (He.ga K "Ratio") 6 _ fd_w_framed ["_law_source_here", "_law_some"] (runBody 4 (d_w_framed (He.ga K "Ratio"))) := (ok_w_framed E h_w_given h_w_next h_Ratio_of Q_w_framed)
  have b_w_framed : Binds K fd_w_framed ["_law_source_here", "_law_some"] [] := (FunD.bindsN (ps := ["_law_source_here", "_law_some"]) Q_w_framed fun _ _ _ _ _ _ us hl => match us, hl with | [_, _], _ => rfl)
  have h_w_framed : Has P w K mg base (He.ga K "Ratio") "_law_framed" 6 ["_law_source_here", "_law_some"] (F_w_framed (He.ga K "Ratio")) := ⟨_, fd_w_framed, He.glo_ok X G (c.fact 17 (f := .glo "_law_framed") rfl), Q_w_framed.kp, b_w_framed, r_w_framed⟩
  have r_is_row : FJ P w K mg base (He.ga K "Ratio") 1 _ fd_is_row ["value"] (runBody 1 d_is_row) := (ok_is_row E  Q_is_row)
  have b_is_row : Binds K fd_is_row ["value"] [] := (FunD.bindsN (ps := ["value"]) Q_is_row fun _ _ _ _ _ _ us hl => match us, hl with | [_], _ => rfl)
  have h_is_row : Has P w K mg base (He.ga K "Ratio") "is_row" 1 ["value"] F_is_row := ⟨_, fd_is_row, He.glo_ok X G (c.fact 18 (f := .glo "is_row") rfl), Q_is_row.kp, b_is_row, r_is_row⟩
  have r_need_sample : FJ P w K mg base (He.ga K "Ratio") 5 _ fd_need_sample ["sample"] (runBody 3 d_need_sample) := (ok_need_sample E h_exc_BadSample h_is_row h_is_number_ratios h_ratio_of Q_need_sample)
  have b_need_sample : Binds K fd_need_sample ["sample"] [] := (FunD.bindsN (ps := ["sample"]) Q_need_sample fun _ _ _ _ _ _ us hl => match us, hl with | [_], _ => rfl)
  have h_need_sample : Has P w K mg base (He.ga K "Ratio") "need_sample" 5 ["sample"] F_need_sample := ⟨_, fd_need_sample, He.glo_ok X G (c.fact 19 (f := .glo "need_sample") rfl), Q_need_sample.kp, b_need_sample, r_need_sample⟩
  have r_Ratio_top : FJ P w K mg base (He.ga K "Ratio") 1 _ fd_Ratio_top ["self"] (runBody 1 d_Ratio_top) := (ok_Ratio_top E  Q_Ratio_top)
  have b_Ratio_top : Binds K fd_Ratio_top ["self"] [] := (FunD.bindsN (ps := ["self"]) Q_Ratio_top fun _ _ _ _ _ _ us hl => match us, hl with | [_], _ => rfl)
  have h_top : HasP P w K mg base (He.ga K "Ratio") "top" 1 F_top := ⟨_, _, fd_Ratio_top, propB_ok (c.chk 11 (x := propB "top") rfl), b_Ratio_top, FJ.imp r_Ratio_top PC.b_top⟩
  have r_need_weights : FJ P w K mg base (He.ga K "Ratio") 5 _ fd_need_weights ["weights", "many"] (runBody 4 d_need_weights) := (ok_need_weights E h_exc_BadWeights h_is_row h_is_number_ratios h_ratio_of h_top Q_need_weights)
  have b_need_weights : Binds K fd_need_weights ["weights", "many"] [] := (FunD.bindsN (ps := ["weights", "many"]) Q_need_weights fun _ _ _ _ _ _ us hl => match us, hl with | [_, _], _ => rfl)
  have h_need_weights : Has P w K mg base (He.ga K "Ratio") "need_weights" 5 ["weights", "many"] F_need_weights := ⟨_, fd_need_weights, He.glo_ok X G (c.fact 20 (f := .glo "need_weights") rfl), Q_need_weights.kp, b_need_weights, r_need_weights⟩
  have r_need_items : FJ P w K mg base (He.ga K "Ratio") 1 _ fd_need_items ["values"] (runBody 1 d_need_items) := (ok_need_items E h_exc_Empty Q_need_items)
  have b_need_items : Binds K fd_need_items ["values"] [] := (FunD.bindsN (ps := ["values"]) Q_need_items fun _ _ _ _ _ _ us hl => match us, hl with | [_], _ => rfl)
  have h_need_items : Has P w K mg base (He.ga K "Ratio") "need_items" 1 ["values"] F_need_items := ⟨_, fd_need_items, He.glo_ok X G (c.fact 21 (f := .glo "need_items") rfl), Q_need_items.kp, b_need_items, r_need_items⟩
  have r_Ratio___eq__ : FJ P w K mg base (He.ga K "Ratio") 5 _ fd_Ratio___eq__ ["self", "other"] (runBody 3 d_Ratio___eq__) := (ok_Ratio___eq__ E h_is_number_ratios h_ratio_of Q_Ratio___eq__)
  have b_Ratio___eq__ : Binds K fd_Ratio___eq__ ["self", "other"] [] := (FunD.bindsN (ps := ["self", "other"]) Q_Ratio___eq__ fun _ _ _ _ _ _ us hl => match us, hl with | [_, _], _ => rfl)
  have h_cmp : HasCm P w K mg base (He.ga K "Ratio") 5 F_Ratio___eq__ := ⟨(cmpB_ok (c.chk 12 (x := cmpB) rfl)).1, _, (cmpB_ok (c.chk 12 (x := cmpB) rfl)).2, ⟨fd_Ratio___eq__, b_Ratio___eq__, r_Ratio___eq__⟩⟩
  have r_need_some_weight : FJ P w K mg base (He.ga K "Ratio") 8 _ fd_need_some_weight ["values", "weights"] (runBody 3 d_need_some_weight) := (ok_need_some_weight E h_exc_BadWeights h_need_items h_cmp Q_need_some_weight)
  have b_need_some_weight : Binds K fd_need_some_weight ["values", "weights"] [] := (FunD.bindsN (ps := ["values", "weights"]) Q_need_some_weight fun _ _ _ _ _ _ us hl => match us, hl with | [_, _], _ => rfl)
  have h_need_some_weight : Has P w K mg base (He.ga K "Ratio") "need_some_weight" 8 ["values", "weights"] F_need_some_weight := ⟨_, fd_need_some_weight, He.glo_ok X G (c.fact 22 (f := .glo "need_some_weight") rfl), Q_need_some_weight.kp, b_need_some_weight, r_need_some_weight⟩
  have r_Ratio___mul__ : FJ P w K mg base (He.ga K "Ratio") 5 _ fd_Ratio___mul__ ["self", "other"] (runBody 3 d_Ratio___mul__) := (ok_Ratio___mul__ E h_ratio_of h_Ratio Q_Ratio___mul__)
  have b_Ratio___mul__ : Binds K fd_Ratio___mul__ ["self", "other"] [] := (FunD.bindsN (ps := ["self", "other"]) Q_Ratio___mul__ fun _ _ _ _ _ _ us hl => match us, hl with | [_, _], _ => rfl)
  have h_bin_mul : HasBn P w K mg base (He.ga K "Ratio") "mul" 5 F_Ratio___mul__ := ⟨_, binB_ok (c.chk 13 (x := binB "mul") rfl), ⟨fd_Ratio___mul__, b_Ratio___mul__, r_Ratio___mul__⟩⟩
  have r_common : FJ P w K mg base (He.ga K "Ratio") 2 _ fd_common ["values"] (runBody 3 d_common) := (ok_common E h_common_divisor Q_common)
  have b_common : Binds K fd_common ["values"] [] := (FunD.bindsN (ps := ["values"]) Q_common fun _ _ _ _ _ _ us hl => match us, hl with | [_], _ => rfl)
  have h_common : Has P w K mg base (He.ga K "Ratio") "common" 2 ["values"] F_common := ⟨_, fd_common, He.glo_ok X G (c.fact 23 (f := .glo "common") rfl), Q_common.kp, b_common, r_common⟩
  have r_total : FJ P w K mg base (He.ga K "Ratio") 4 _ fd_total ["values"] (runBody 3 d_total) := (ok_total E h_common h_Ratio Q_total)
  have b_total : Binds K fd_total ["values"] [] := (FunD.bindsN (ps := ["values"]) Q_total fun _ _ _ _ _ _ us hl => match us, hl with | [_], _ => rfl)
  have h_total : Has P w K mg base (He.ga K "Ratio") "total" 4 ["values"] F_total := ⟨_, fd_total, He.glo_ok X G (c.fact 24 (f := .glo "total") rfl), Q_total.kp, b_total, r_total⟩
  have r_weighted_total : FJ P w K mg base (He.ga K "Ratio") 6 _ fd_weighted_total ["values", "weights"] (runBody 4 d_weighted_total) := (ok_weighted_total E h_bin_mul h_total Q_weighted_total)
  have b_weighted_total : Binds K fd_weighted_total ["values", "weights"] [] := (FunD.bindsN (ps := ["values", "weights"]) Q_weighted_total fun _ _ _ _ _ _ us hl => match us, hl with | [_, _], _ => rfl)
  have h_weighted_total : Has P w K mg base (He.ga K "Ratio") "weighted_total" 6 ["values", "weights"] F_weighted_total := ⟨_, fd_weighted_total, He.glo_ok X G (c.fact 25 (f := .glo "weighted_total") rfl), Q_weighted_total.kp, b_weighted_total, r_weighted_total⟩
  have r_Ratio_over : FJ P w K mg base (He.ga K "Ratio") 5 _ fd_Ratio_over ["self", "other"] (runBody 3 d_Ratio_over) := (ok_Ratio_over E h_need_number h_ratio_of h_Ratio Q_Ratio_over)
  have b_Ratio_over : Binds K fd_Ratio_over ["self", "other"] [] := (FunD.bindsN (ps := ["self", "other"]) Q_Ratio_over fun _ _ _ _ _ _ us hl => match us, hl with | [_, _], _ => rfl)
  have h_Ratio_over : HasM P w K mg base (He.ga K "Ratio") "over" 5 ["self", "other"] F_Ratio_over := ⟨_, He.meth_ok (c.fact 60 (f := .meth "Ratio" "over") rfl), ⟨fd_Ratio_over, b_Ratio_over, r_Ratio_over⟩⟩
  have r_weighted_mean : FJ P w K mg base (He.ga K "Ratio") 9 _ fd_weighted_mean ["sample", "weights"] (runBody 4 d_weighted_mean) := (ok_weighted_mean E h_need_sample h_need_weights h_need_some_weight h_weighted_total h_total h_Ratio_over Q_weighted_mean)
  have b_weighted_mean : Binds K fd_weighted_mean ["sample", "weights"] [] := (FunD.bindsN (ps := ["sample", "weights"]) Q_weighted_mean fun _ _ _ _ _ _ us hl => match us, hl with | [_, _], _ => rfl)
  have h_weighted_mean : Has P w K mg base (He.ga K "Ratio") "weighted_mean" 9 ["sample", "weights"] F_weighted_mean := ⟨_, fd_weighted_mean, He.glo_ok X G (c.fact 26 (f := .glo "weighted_mean") rfl), Q_weighted_mean.kp, b_weighted_mean, r_weighted_mean⟩
  have r_Ratio_bottom : FJ P w K mg base (He.ga K "Ratio") 1 _ fd_Ratio_bottom ["self"] (runBody 1 d_Ratio_bottom) := (ok_Ratio_bottom E  Q_Ratio_bottom)
  have b_Ratio_bottom : Binds K fd_Ratio_bottom ["self"] [] := (FunD.bindsN (ps := ["self"]) Q_Ratio_bottom fun _ _ _ _ _ _ us hl => match us, hl with | [_], _ => rfl)
  have h_bottom : HasP P w K mg base (He.ga K "Ratio") "bottom" 1 F_bottom := ⟨_, _, fd_Ratio_bottom, propB_ok (c.chk 14 (x := propB "bottom") rfl), b_Ratio_bottom, FJ.imp r_Ratio_bottom PC.b_bottom⟩
  have r_w_taken : FJ P w K mg base (He.ga K "Ratio") 3 _ fd_w_taken ["_law_value"] (runBody 1 d_w_taken) := (ok_w_taken E h_bottom h_top Q_w_taken)
  have b_w_taken : Binds K fd_w_taken ["_law_value"] [] := (FunD.bindsN (ps := ["_law_value"]) Q_w_taken fun _ _ _ _ _ _ us hl => match us, hl with | [_], _ => rfl)
  have h_w_taken : Has P w K mg base (He.ga K "Ratio") "_law_taken" 3 ["_law_value"] F_w_taken := ⟨_, fd_w_taken, He.glo_ok X G (c.fact 27 (f := .glo "_law_taken") rfl), Q_w_taken.kp, b_w_taken, r_w_taken⟩
  have r_need_filled : FJ P w K mg base (He.ga K "Ratio") 6 _ fd_need_filled ["sample"] (runBody 2 d_need_filled) := (ok_need_filled E h_need_sample h_need_items Q_need_filled)
  have b_need_filled : Binds K fd_need_filled ["sample"] [] := (FunD.bindsN (ps := ["sample"]) Q_need_filled fun _ _ _ _ _ _ us hl => match us, hl with | [_], _ => rfl)
  have h_need_filled : Has P w K mg base (He.ga K "Ratio") "need_filled" 6 ["sample"] F_need_filled := ⟨_, fd_need_filled, He.glo_ok X G (c.fact 28 (f := .glo "need_filled") rfl), Q_need_filled.kp, b_need_filled, r_need_filled⟩
  have r_mean_of : FJ P w K mg base (He.ga K "Ratio") 6 _ fd_mean_of ["values"] (runBody 1 d_mean_of) := (ok_mean_of E h_total h_Ratio_over Q_mean_of)
  have b_mean_of : Binds K fd_mean_of ["values"] [] := (FunD.bindsN (ps := ["values"]) Q_mean_of fun _ _ _ _ _ _ us hl => match us, hl with | [_], _ => rfl)
  have h_mean_of : Has P w K mg base (He.ga K "Ratio") "mean_of" 6 ["values"] F_mean_of := ⟨_, fd_mean_of, He.glo_ok X G (c.fact 29 (f := .glo "mean_of") rfl), Q_mean_of.kp, b_mean_of, r_mean_of⟩
  have r_mean : FJ P w K mg base (He.ga K "Ratio") 7 _ fd_mean ["sample"] (runBody 1 d_mean) := (ok_mean E h_need_filled h_mean_of Q_mean)
  have b_mean : Binds K fd_mean ["sample"] [] := (FunD.bindsN (ps := ["sample"]) Q_mean fun _ _ _ _ _ _ us hl => match us, hl with | [_], _ => rfl)
  have h_mean : Has P w K mg base (He.ga K "Ratio") "mean" 7 ["sample"] F_mean := ⟨_, fd_mean, He.glo_ok X G (c.fact 30 (f := .glo "mean") rfl), Q_mean.kp, b_mean, r_mean⟩
  have r_harmonic_mean : FJ P w K mg base (He.ga K "Ratio") 7 _ fd_harmonic_mean ["sample"] (runBody 4 d_harmonic_mean) := (ok_harmonic_mean E h_exc_NotPositive h_need_filled h_top h_Ratio h_bottom h_total h_Ratio_over Q_harmonic_mean)
  have b_harmonic_mean : Binds K fd_harmonic_mean ["sample"] [] := (FunD.bindsN (ps := ["sample"]) Q_harmonic_mean fun _ _ _ _ _ _ us hl => match us, hl with | [_], _ => rfl)
  have h_harmonic_mean : Has P w K mg base (He.ga K "Ratio") "harmonic_mean" 7 ["sample"] F_harmonic_mean := ⟨_, fd_harmonic_mean, He.glo_ok X G (c.fact 31 (f := .glo "harmonic_mean") rfl), Q_harmonic_mean.kp, b_harmonic_mean, r_harmonic_mean⟩
  have r_w_told : FJ P w K mg base (He.ga K "Ratio") 8 _ fd_w_told ["_law_sample"] (runBody 4 d_w_told) := (ok_w_told E h_try_NotPositive h_ef_index h_harmonic_mean h_w_taken Q_w_told)
  have b_w_told : Binds K fd_w_told ["_law_sample"] [] := (FunD.bindsN (ps := ["_law_sample"]) Q_w_told fun _ _ _ _ _ _ us hl => match us, hl with | [_], _ => rfl)
  have h_w_told : Has P w K mg base (He.ga K "Ratio") "_law_told" 8 ["_law_sample"] F_w_told := ⟨_, fd_w_told, He.glo_ok X G (c.fact 32 (f := .glo "_law_told") rfl), Q_w_told.kp, b_w_told, r_w_told⟩
  exact (ok_law E h_w_source h_w_filled h_w_next h_w_pick h_w_times h_w_sum h_w_through h_w_given h_w_framed h_weighted_mean h_w_taken h_cmp h_mean h_w_low h_w_told h_harmonic_mean Q_law)
end Gk12

namespace PD
open PySem L3 LD PC
/-- sizes for central sums: at most N values by D, B; powers up to the a-th -/
structure Cs (D B N a : Nat) : Prop where
  d : 0 < D
  n : N ≤ 20
  n0 : 1 ≤ N
  b : 1 ≤ B
  le : a ≤ 1000
  m : Sm (D * 232792560) (N * B + B)
  p : ∀ j ≤ a, Sm ((D * 232792560) ^ j) ((N * B + B) ^ j)
  s : Sm ((D * 232792560) ^ a) (N * (N * B + B) ^ a + (N * B + B) ^ a)
/-- the mean -/
def mn (qs : List Rat) : Rat := sumQ qs / ((qs.length : Int) : Rat)
def cen (qs : List Rat) (m : Rat) (a : Nat) : List Rat := qs.map fun q => (q - m) ^ a
section
variable {D B N a : Nat} {qs : List Rat}
theorem Cs.sm0 (c : Cs D B N a) : Sm D (N * B + B) := c.m.le c.d (Nat.le_mul_of_pos_right _ (by decide)) (Nat.le_refl _)
theorem Cs.diff (c : Cs D B N a) (hz : ∀ q ∈ qs, Zd D B q) (hne : qs ≠ []) (hn : qs.length ≤ N) : ∀ q ∈ qs, Zd (D * 232792560) (N * B + B) (q - mn qs) := fun q hq => by
  have h := ((hz q hq).mono (Nat.dvd_mul_right D 232792560) (Nat.le_refl _)).sub c.m.pos (Zd.mean c.d hz hne hn c.n)
  rw [Nat.add_comm] at h
  exact h
theorem Cs.pow (c : Cs D B N a) {x : Rat} (h : Zd (D * 232792560) (N * B + B) x) : ∀ j ≤ a, Zb (x ^ j) 3990 := fun j hj => (h.pow j).sm (c.p j hj)
theorem Cs.one (c : Cs D B N a) {x : Rat} (h : Zd (D * 232792560) (N * B + B) x) : Zb x 3990 := h.sm c.m
theorem Cs.cen (c : Cs D B N a) (hz : ∀ q ∈ qs, Zd D B q) (hne : qs ≠ []) (hn : qs.length ≤ N) : ∀ q ∈ cen qs (mn qs) a, Zd ((D * 232792560) ^ a) ((N * B + B) ^ a) q := fun q hq => by
  obtain ⟨x, hx, rfl⟩ := List.mem_map.mp hq
  exact (c.diff hz hne hn x hx).pow a
theorem e_lcentral (c : Cs D B N a) (hz : ∀ q ∈ qs, Zd D B q) (hne : qs ≠ []) (hn : qs.length ≤ N) {i : Int} (hi : i.toNat = a) (h0 : 0 ≤ i) (mu : List MO) : F_w_central [.lst (qs.map fr), .int i] mu = .ok (fr (sumQ (PD.cen qs (mn qs) a))) mu := by
  subst hi
  have hN := c.n
  have e1 := z_lmean c.sm0 hz hne hn (by omega) mu
  have zm : Zb (mn qs) 3990 := ((Zd.mean c.d hz hne hn c.n).mono (Nat.dvd_refl _) (Nat.le_add_right _ _)).sm c.m
  have hi2 : i ≤ 1000 := by have := c.le; omega
  have e2 := compL_map (t := gN 3) (tt := dYes) (te := e_w_central_1) (vs := [3]) (s0 := ⟨[some (.val (.lst (qs.map fr))), some (.val (.int i)), some (.val (fr (mn qs))), none], mu⟩)
    (f := fun p => match p with | .tup [.int n, .int d] => fr ((Rat.divInt n d - mn qs) ^ i.toNat) | _ => .non) (qs.map fr) [] (fun x hx => by
      obtain ⟨q, hq, rfl⟩ := List.mem_map.mp hx
      refine ⟨_, ⟨[some (.val (.lst (qs.map fr))), some (.val (.int i)), some (.val (fr (mn qs))), some (.val (fr q))], mu⟩, rfl, rfl, ?_, rfl⟩
      have k1 := e_minus (((hz q hq).mono (Nat.dvd_mul_right D 232792560) (Nat.le_add_left _ _)).sm c.m) zm (by omega) mu
      have k2 := e_power (i := i) (c.one (c.diff hz hne hn q hq)) (c.pow (c.diff hz hne hn q hq)) (by omega) h0 hi2 mu
      have k3 : Rat.divInt q.num q.den = q := Rat.num_divInt_den q
      show _ = R.ok (fr ((Rat.divInt q.num q.den - mn qs) ^ i.toNat)) _
      rw [k3]
      simp [e_w_central_1, k1, k2]) (by simp; omega)
  have e3 : (qs.map fr).map (fun p => match p with | .tup [.int n, .int d] => fr ((Rat.divInt n d - mn qs) ^ i.toNat) | _ => .non) = (PD.cen qs (mn qs) i.toNat).map fr := by
    unfold PD.cen
    rw [List.map_map, List.map_map]
    refine List.map_congr_left fun q _ => ?_
    show fr ((Rat.divInt q.num q.den - mn qs) ^ i.toNat) = _
    rw [Rat.num_divInt_den]; rfl
  rw [e3] at e2
  have e4 := z_sum c.s (c.cen hz hne hn) (by unfold PD.cen; rw [List.length_map]; exact hn) mu
  have e1 : F_w_mean [.lst (qs.map fr)] mu = .ok (fr (mn qs)) mu := e1
  simp [F_w_central, runBody, d_w_central, e1, wipeE, e2, e4]
/-! ### the program -/
theorem powerR_loop {x : Rat} {z : Nat} {a : Nat} (h : Zb x z) (hp : ∀ j ≤ a, Zb (x ^ j) z) (hz : z ≤ 4000) (mu : List MO) (k : PV) : ∀ (n j : Nat) (i0 : Int) (o : Option SV), j + n ≤ a →
    ∃ o', forL (gN 3) b_power_of_1 ((List.range n).map fun (k : Nat) => .int (i0 + (k : Int))) ⟨[some (.val (.rat x)), some (.val k), some (.val (.rat (x ^ j))), o], mu⟩ = .ok .nx ⟨[some (.val (.rat x)), some (.val k), some (.val (.rat (x ^ (j + n)))), o'], mu⟩ := by
  intro n
  induction n with
  | zero => exact fun j i0 o _ => ⟨o, rfl⟩
  | succ n ih =>
    intro j i0 o hj
    have e := e_mul (p := .rat x) (hp j (by omega)) h (.inl rfl) (by omega) mu
    rw [← Rat.pow_succ] at e
    obtain ⟨o', e2⟩ := ih (j + 1) (i0 + 1) (some (.val (.int i0))) (by omega)
    refine ⟨o', ?_⟩
    rw [List.range_succ_eq_map, List.map_cons, List.map_map]
    have e3 : (List.range n).map ((fun (k : Nat) => PV.int (i0 + (k : Int))) ∘ Nat.succ) = (List.range n).map fun (k : Nat) => .int (i0 + 1 + (k : Int)) := by
      refine List.map_congr_left fun k _ => ?_
      show PV.int (i0 + ((k + 1 : Nat) : Int)) = _
      congr 1
      omega
    rw [e3]
    unfold forL b_power_of_1
    simp [gRL, e]
    unfold b_power_of_1 at e2
    simpa [Nat.add_assoc, Nat.add_comm 1 n, gRL] using e2
theorem e_power_of {x : Rat} {z : Nat} {i : Int} (h : Zb x z) (hp : ∀ j ≤ i.toNat, Zb (x ^ j) z) (hz : z ≤ 4000) (h0 : 0 ≤ i) (ha : i ≤ 1000) (mu : List MO) : F_power_of [.rat x, .int i] mu = .ok (.rat (x ^ i.toNat)) mu := by
  obtain ⟨o', e⟩ := powerR_loop h hp hz mu (.int i) i.toNat 0 0 none (by omega)
  have hb : (-4611686018427387904 : Int) ≤ i ∧ i < 4611686018427387904 := by omega
  rw [Rat.pow_zero, Nat.zero_add] at e
  have er : rangeP 0 i.toNat = (List.range i.toNat).map fun (k : Nat) => PV.int (0 + (k : Int)) := rfl
  rw [← er] at e
  have e1 : (Rat.divInt 1 1) = 1 := by decide +kernel
  have o1 : okR 1 1 = true := by decide
  simp [F_power_of, runBody, d_power_of, hb, e1, o1, e]
theorem e_central_total (c : Cs D B N a) (hz : ∀ q ∈ qs, Zd D B q) (hne : qs ≠ []) (hn : qs.length ≤ N) {i : Int} (hi : i.toNat = a) (h0 : 0 ≤ i) (mu : List MO) : F_central_total [.lst (qs.map .rat), .int i] mu = .ok (.rat (sumQ (PD.cen qs (mn qs) a))) mu := by
  subst hi
  have hN := c.n
  have e1 := z_mean_of (c.sm0.le c.d (Nat.le_refl _) (Nat.le_add_right _ _)) c.b hz hne hn (by omega) mu
  have zm : Zb (mn qs) 3990 := ((Zd.mean c.d hz hne hn c.n).mono (Nat.dvd_refl _) (Nat.le_add_right _ _)).sm c.m
  have hi2 : i ≤ 1000 := by have := c.le; omega
  have e2 := compL_map (t := gN 3) (tt := dYes) (te := e_central_total_1) (vs := [3]) (s0 := ⟨[some (.val (.lst (qs.map .rat))), some (.val (.int i)), some (.val (.rat (mn qs))), none], mu⟩)
    (f := fun p => match p with | .rat q => .rat ((q - mn qs) ^ i.toNat) | _ => .non) (qs.map .rat) [] (fun x hx => by
      obtain ⟨q, hq, rfl⟩ := List.mem_map.mp hx
      refine ⟨_, ⟨[some (.val (.lst (qs.map .rat))), some (.val (.int i)), some (.val (.rat (mn qs))), some (.val (.rat q))], mu⟩, rfl, rfl, ?_, rfl⟩
      have k1 := e_sub (p := .rat (mn qs)) (((hz q hq).mono (Nat.dvd_mul_right D 232792560) (Nat.le_add_left _ _)).sm c.m) zm (.inl rfl) (by omega) mu
      have k2 := e_power_of (i := i) (c.one (c.diff hz hne hn q hq)) (c.pow (c.diff hz hne hn q hq)) (by omega) h0 hi2 mu
      simp [e_central_total_1, gRL, k1, k2]) (by simp; omega)
  have e3 : (qs.map PV.rat).map (fun p => match p with | .rat q => PV.rat ((q - mn qs) ^ i.toNat) | _ => .non) = (PD.cen qs (mn qs) i.toNat).map .rat := by
    unfold PD.cen
    rw [List.map_map, List.map_map]; rfl
  rw [e3] at e2
  have e4 := z_total (c.s.le c.s.pos (Nat.le_refl _) (Nat.le_add_left _ _)) (c.cen hz hne hn) (by unfold PD.cen; rw [List.length_map]; omega) mu
  have e1 : F_mean_of [.lst (qs.map .rat)] mu = .ok (.rat (mn qs)) mu := e1
  simp [F_central_total, runBody, d_central_total, e1, wipeE, e2, e4]
theorem e_squares {ps : List PV} {sm : PV} (h : All2 qs ps) (hs : sm = .lst ps ∨ sm = .tup ps) (c : Cs D B N 2) (hz : ∀ q ∈ qs, Zd D B q) (hne : qs ≠ []) (hn : qs.length ≤ N) (mu : List MO) : F_squares [sm] mu = .ok (.rat (sumQ (PD.cen qs (mn qs) 2))) mu := by
  have hN := c.n
  have e1 := e_need_filled h hs (by omega) hne mu
  have e2 := e_central_total c hz hne hn (i := 2) rfl (by decide) mu
  simp [F_squares, runBody, d_squares, e1, e2]
theorem e_variance {ps : List PV} {sm : PV} (h : All2 qs ps) (hs : sm = .lst ps ∨ sm = .tup ps) (c : Cs D B N 2) (hz : ∀ q ∈ qs, Zd D B q) (hne : qs ≠ []) (hn : qs.length ≤ N) {lost : Int} (h0 : 0 ≤ lost) (h1 : lost < qs.length) (mu : List MO) :
    F_variance [sm, .int lost] mu = .ok (.rat (sumQ (PD.cen qs (mn qs) 2) / (((qs.length : Int) - lost : Int) : Rat))) mu := by
  have hN := c.n
  have e1 := e_need_sample h hs (by omega) mu
  have e2 := e_central_total c hz hne hn (i := 2) rfl (by decide) mu
  have hl : 0 < qs.length := List.length_pos_iff.mpr hne
  have a1 : F_need_lost [.int lost] mu = .ok .non mu := by
    have b1 : ¬ lost < 0 := by omega
    have b2 : ¬ (1000 : Int) < lost := by omega
    simp [F_need_lost, runBody, d_need_lost, F_need_amount, d_need_amount, b1, b2]
  have hx : ((qs.length : Int) == 0) = false := by simpa using hne
  have a2 : F_need_items [.lst (qs.map .rat)] mu = .ok .non mu := by simp [F_need_items, runBody, d_need_items, hx]
  have a3 : F_need_more [.int (qs.length : Int), .int lost] mu = .ok .non mu := by
    have b1 : ¬ (qs.length : Int) ≤ lost := by omega
    simp [F_need_more, runBody, d_need_more, b1]
  have zs := (((Zd.sumz c.s.pos (c.cen hz hne hn)).mono (Nat.dvd_refl _) (Nat.le_trans (Nat.mul_le_mul_right _ (show (PD.cen qs (mn qs) 2).length ≤ N by unfold PD.cen; rw [List.length_map]; exact hn)) (Nat.le_add_right _ _)))).sm c.s
  have e3 := e_over (y := (((qs.length : Int) - lost : Int) : Rat)) (p := .int ((qs.length : Int) - lost)) (a := 3990) (b := 14) zs (Zb_int (by omega)) (.inr ⟨rfl, rfl⟩) (by show (qs.length : Int) - lost ≠ 0; omega) (by omega) mu
  simp [F_variance, runBody, d_variance, e1, a1, a2, F_variance_of, d_variance_of, a3, e2, e3]
end
end PD

namespace L3
section
variable {s : S} {Q : PV → S → Prop} {da db dc : DE} {dr dk : DA} {F FR : DF} {n m : Nat} {dps : List PV} {h : PV → PV → S → R S PV} {h1 : PV → S → R S PV} {gP : List PV → List PV → List PV}
theorem W_dFnD : W (dFnD F n dps dr s) Q = W (dr s) (fun ps s1 => ps.length = n ∧ W (F (ps ++ dps) s1.mu) (fun v mu => Q v ⟨s1.env, mu⟩)) := by
  show W ((dr s).bind _) Q = _
  rw [W_bind]
  congr 1
  funext ps s1
  by_cases z : ps.length = n
  · rw [if_pos z, W_fnS]; simp [z]
  · rw [if_neg z]; simp [z]
@[simp ↓] theorem I_dFnD : WI (dFnD F n dps dr s) (K := ⟨Q⟩) = WI (dr s) (K := ⟨(fun ps s1 => ps.length = n ∧ WI (F (ps ++ dps) s1.mu) (K := ⟨(fun v mu => Q v ⟨s1.env, mu⟩)⟩))⟩) := W_dFnD
theorem W_dFnK : W (dFnK F n m gP dr dk s) Q = W (dr s) (fun ps s1 => W (dk s1) fun zs s2 => (ps.length = n ∧ zs.length = m) ∧ W (F (gP ps zs) s2.mu) (fun v mu => Q v ⟨s2.env, mu⟩)) := by
  show W ((dr s).bind _) Q = _
  rw [W_bind]
  congr 1
  funext ps s1
  rw [W_bind]
  congr 1
  funext zs s2
  by_cases z : ps.length = n ∧ zs.length = m
  · rw [if_pos z, W_fnS]; simp [z]
  · rw [if_neg z]; simp only [W_bad, z, false_and]
@[simp ↓] theorem I_dFnK : WI (dFnK F n m gP dr dk s) (K := ⟨Q⟩) = WI (dr s) (K := ⟨(fun ps s1 => WI (dk s1) (K := ⟨fun zs s2 => (ps.length = n ∧ zs.length = m) ∧ WI (F (gP ps zs) s2.mu) (K := ⟨(fun v mu => Q v ⟨s2.env, mu⟩)⟩)⟩))⟩) := W_dFnK
theorem fmt2 {a b : PV} : W (fMt 2 F [a, b] s) Q = W (F [a, b] s.mu) (fun v mu => Q v ⟨s.env, mu⟩) := by rw [W_fMt]; simp
theorem fmt1 {a : PV} : W (fMt 1 F [a] s) Q = W (F [a] s.mu) (fun v mu => Q v ⟨s.env, mu⟩) := by rw [W_fMt]; simp
theorem W_gRL_rat {a : Rat} {b : Rat} : W (gRL F h (.rat a) (.rat b) s) Q = W (F [.rat a, (.rat b)] s.mu) (fun v mu => Q v ⟨s.env, mu⟩) := fmt2
@[simp ↓] theorem I_gRL_rat {a : Rat} {b : Rat} : WI (gRL F h (.rat a) (.rat b) s) (K := ⟨Q⟩) = WI (F [.rat a, (.rat b)] s.mu) (K := ⟨(fun v mu => Q v ⟨s.env, mu⟩)⟩) := W_gRL_rat
theorem W_gRR_rat {a : Rat} {b : Rat} : W (gRR F FR h (.rat a) (.rat b) s) Q = W (F [.rat a, (.rat b)] s.mu) (fun v mu => Q v ⟨s.env, mu⟩) := fmt2
@[simp ↓] theorem I_gRR_rat {a : Rat} {b : Rat} : WI (gRR F FR h (.rat a) (.rat b) s) (K := ⟨Q⟩) = WI (F [.rat a, (.rat b)] s.mu) (K := ⟨(fun v mu => Q v ⟨s.env, mu⟩)⟩) := W_gRR_rat
theorem W_gRL_int {a : Rat} {b : Int} : W (gRL F h (.rat a) (.int b) s) Q = W (F [.rat a, (.int b)] s.mu) (fun v mu => Q v ⟨s.env, mu⟩) := fmt2
@[simp ↓] theorem I_gRL_int {a : Rat} {b : Int} : WI (gRL F h (.rat a) (.int b) s) (K := ⟨Q⟩) = WI (F [.rat a, (.int b)] s.mu) (K := ⟨(fun v mu => Q v ⟨s.env, mu⟩)⟩) := W_gRL_int
theorem W_gRR_int {a : Rat} {b : Int} : W (gRR F FR h (.rat a) (.int b) s) Q = W (F [.rat a, (.int b)] s.mu) (fun v mu => Q v ⟨s.env, mu⟩) := fmt2
@[simp ↓] theorem I_gRR_int {a : Rat} {b : Int} : WI (gRR F FR h (.rat a) (.int b) s) (K := ⟨Q⟩) = WI (F [.rat a, (.int b)] s.mu) (K := ⟨(fun v mu => Q v ⟨s.env, mu⟩)⟩) := W_gRR_int
theorem W_gRR_ir {a : Int} {b : Rat} : W (gRR F FR h (.int a) (.rat b) s) Q = W (FR [.rat b, .int a] s.mu) (fun v mu => Q v ⟨s.env, mu⟩) := fmt2
@[simp ↓] theorem I_gRR_ir {a : Int} {b : Rat} : WI (gRR F FR h (.int a) (.rat b) s) (K := ⟨Q⟩) = WI (FR [.rat b, .int a] s.mu) (K := ⟨(fun v mu => Q v ⟨s.env, mu⟩)⟩) := W_gRR_ir
theorem W_gRR_ii {a b : Int} : W (gRR F FR h (.int a) (.int b) s) Q = W (h (.int a) (.int b) s) Q := rfl
@[simp ↓] theorem I_gRR_ii {a b : Int} : WI (gRR F FR h (.int a) (.int b) s) (K := ⟨Q⟩) = WI (h (.int a) (.int b) s) (K := ⟨Q⟩) := W_gRR_ii
theorem W_gEqR_rat {a : Rat} {b : Rat} : W (gEqR F h (.rat a) (.rat b) s) Q = W (F [.rat a, (.rat b)] s.mu) (fun v mu => Q v ⟨s.env, mu⟩) := fmt2
@[simp ↓] theorem I_gEqR_rat {a : Rat} {b : Rat} : WI (gEqR F h (.rat a) (.rat b) s) (K := ⟨Q⟩) = WI (F [.rat a, (.rat b)] s.mu) (K := ⟨(fun v mu => Q v ⟨s.env, mu⟩)⟩) := W_gEqR_rat
theorem W_gNeR_rat {a : Rat} {b : Rat} : W (gNeR F h (.rat a) (.rat b) s) Q = W (F [.rat a, (.rat b)] s.mu) (fun v mu => W (notK v ⟨s.env, mu⟩) Q) := W_bind.trans fmt2
@[simp ↓] theorem I_gNeR_rat {a : Rat} {b : Rat} : WI (gNeR F h (.rat a) (.rat b) s) (K := ⟨Q⟩) = WI (F [.rat a, (.rat b)] s.mu) (K := ⟨(fun v mu => WI (notK v ⟨s.env, mu⟩) (K := ⟨Q⟩))⟩) := W_gNeR_rat
theorem W_gEqR_int {a : Rat} {b : Int} : W (gEqR F h (.rat a) (.int b) s) Q = W (F [.rat a, (.int b)] s.mu) (fun v mu => Q v ⟨s.env, mu⟩) := fmt2
@[simp ↓] theorem I_gEqR_int {a : Rat} {b : Int} : WI (gEqR F h (.rat a) (.int b) s) (K := ⟨Q⟩) = WI (F [.rat a, (.int b)] s.mu) (K := ⟨(fun v mu => Q v ⟨s.env, mu⟩)⟩) := W_gEqR_int
theorem W_gNeR_int {a : Rat} {b : Int} : W (gNeR F h (.rat a) (.int b) s) Q = W (F [.rat a, (.int b)] s.mu) (fun v mu => W (notK v ⟨s.env, mu⟩) Q) := W_bind.trans fmt2
@[simp ↓] theorem I_gNeR_int {a : Rat} {b : Int} : WI (gNeR F h (.rat a) (.int b) s) (K := ⟨Q⟩) = WI (F [.rat a, (.int b)] s.mu) (K := ⟨(fun v mu => WI (notK v ⟨s.env, mu⟩) (K := ⟨Q⟩))⟩) := W_gNeR_int
theorem W_gEqR_bl {a : Rat} {b : Bool} : W (gEqR F h (.rat a) (.bl b) s) Q = W (F [.rat a, (.bl b)] s.mu) (fun v mu => Q v ⟨s.env, mu⟩) := fmt2
@[simp ↓] theorem I_gEqR_bl {a : Rat} {b : Bool} : WI (gEqR F h (.rat a) (.bl b) s) (K := ⟨Q⟩) = WI (F [.rat a, (.bl b)] s.mu) (K := ⟨(fun v mu => Q v ⟨s.env, mu⟩)⟩) := W_gEqR_bl
theorem W_gNeR_bl {a : Rat} {b : Bool} : W (gNeR F h (.rat a) (.bl b) s) Q = W (F [.rat a, (.bl b)] s.mu) (fun v mu => W (notK v ⟨s.env, mu⟩) Q) := W_bind.trans fmt2
@[simp ↓] theorem I_gNeR_bl {a : Rat} {b : Bool} : WI (gNeR F h (.rat a) (.bl b) s) (K := ⟨Q⟩) = WI (F [.rat a, (.bl b)] s.mu) (K := ⟨(fun v mu => WI (notK v ⟨s.env, mu⟩) (K := ⟨Q⟩))⟩) := W_gNeR_bl
theorem W_gEqR_str {a : Rat} {b : PySem.Str} : W (gEqR F h (.rat a) (.str b) s) Q = W (F [.rat a, (.str b)] s.mu) (fun v mu => Q v ⟨s.env, mu⟩) := fmt2
@[simp ↓] theorem I_gEqR_str {a : Rat} {b : PySem.Str} : WI (gEqR F h (.rat a) (.str b) s) (K := ⟨Q⟩) = WI (F [.rat a, (.str b)] s.mu) (K := ⟨(fun v mu => Q v ⟨s.env, mu⟩)⟩) := W_gEqR_str
theorem W_gNeR_str {a : Rat} {b : PySem.Str} : W (gNeR F h (.rat a) (.str b) s) Q = W (F [.rat a, (.str b)] s.mu) (fun v mu => W (notK v ⟨s.env, mu⟩) Q) := W_bind.trans fmt2
@[simp ↓] theorem I_gNeR_str {a : Rat} {b : PySem.Str} : WI (gNeR F h (.rat a) (.str b) s) (K := ⟨Q⟩) = WI (F [.rat a, (.str b)] s.mu) (K := ⟨(fun v mu => WI (notK v ⟨s.env, mu⟩) (K := ⟨Q⟩))⟩) := W_gNeR_str
theorem W_gEqR_non {a : Rat} : W (gEqR F h (.rat a) .non s) Q = W (F [.rat a, .non] s.mu) (fun v mu => Q v ⟨s.env, mu⟩) := fmt2
@[simp ↓] theorem I_gEqR_non {a : Rat} : WI (gEqR F h (.rat a) .non s) (K := ⟨Q⟩) = WI (F [.rat a, .non] s.mu) (K := ⟨(fun v mu => Q v ⟨s.env, mu⟩)⟩) := W_gEqR_non
theorem W_gNeR_non {a : Rat} : W (gNeR F h (.rat a) .non s) Q = W (F [.rat a, .non] s.mu) (fun v mu => W (notK v ⟨s.env, mu⟩) Q) := W_bind.trans fmt2
@[simp ↓] theorem I_gNeR_non {a : Rat} : WI (gNeR F h (.rat a) .non s) (K := ⟨Q⟩) = WI (F [.rat a, .non] s.mu) (K := ⟨(fun v mu => WI (notK v ⟨s.env, mu⟩) (K := ⟨Q⟩))⟩) := W_gNeR_non
theorem W_gRL_lnon {q : PV} : W (gRL F h .non q s) Q = W (h .non q s) Q := rfl
@[simp ↓] theorem I_gRL_lnon {q : PV} : WI (gRL F h .non q s) (K := ⟨Q⟩) = WI (h .non q s) (K := ⟨Q⟩) := W_gRL_lnon
theorem W_gEqR_lnon {q : PV} : W (gEqR F h .non q s) Q = W (h .non q s) Q := rfl
@[simp ↓] theorem I_gEqR_lnon {q : PV} : WI (gEqR F h .non q s) (K := ⟨Q⟩) = WI (h .non q s) (K := ⟨Q⟩) := W_gEqR_lnon
theorem W_gNeR_lnon {q : PV} : W (gNeR F h .non q s) Q = W (h .non q s) Q := rfl
@[simp ↓] theorem I_gNeR_lnon {q : PV} : WI (gNeR F h .non q s) (K := ⟨Q⟩) = WI (h .non q s) (K := ⟨Q⟩) := W_gNeR_lnon
theorem W_gRL_lbl {x : Bool} {q : PV} : W (gRL F h (.bl x) q s) Q = W (h (.bl x) q s) Q := rfl
@[simp ↓] theorem I_gRL_lbl {x : Bool} {q : PV} : WI (gRL F h (.bl x) q s) (K := ⟨Q⟩) = WI (h (.bl x) q s) (K := ⟨Q⟩) := W_gRL_lbl
theorem W_gEqR_lbl {x : Bool} {q : PV} : W (gEqR F h (.bl x) q s) Q = W (h (.bl x) q s) Q := rfl
@[simp ↓] theorem I_gEqR_lbl {x : Bool} {q : PV} : WI (gEqR F h (.bl x) q s) (K := ⟨Q⟩) = WI (h (.bl x) q s) (K := ⟨Q⟩) := W_gEqR_lbl
theorem W_gNeR_lbl {x : Bool} {q : PV} : W (gNeR F h (.bl x) q s) Q = W (h (.bl x) q s) Q := rfl
@[simp ↓] theorem I_gNeR_lbl {x : Bool} {q : PV} : WI (gNeR F h (.bl x) q s) (K := ⟨Q⟩) = WI (h (.bl x) q s) (K := ⟨Q⟩) := W_gNeR_lbl
theorem W_gRL_lint {x : Int} {q : PV} : W (gRL F h (.int x) q s) Q = W (h (.int x) q s) Q := rfl
@[simp ↓] theorem I_gRL_lint {x : Int} {q : PV} : WI (gRL F h (.int x) q s) (K := ⟨Q⟩) = WI (h (.int x) q s) (K := ⟨Q⟩) := W_gRL_lint
theorem W_gEqR_lint {x : Int} {q : PV} : W (gEqR F h (.int x) q s) Q = W (h (.int x) q s) Q := rfl
@[simp ↓] theorem I_gEqR_lint {x : Int} {q : PV} : WI (gEqR F h (.int x) q s) (K := ⟨Q⟩) = WI (h (.int x) q s) (K := ⟨Q⟩) := W_gEqR_lint
theorem W_gNeR_lint {x : Int} {q : PV} : W (gNeR F h (.int x) q s) Q = W (h (.int x) q s) Q := rfl
@[simp ↓] theorem I_gNeR_lint {x : Int} {q : PV} : WI (gNeR F h (.int x) q s) (K := ⟨Q⟩) = WI (h (.int x) q s) (K := ⟨Q⟩) := W_gNeR_lint
theorem W_gRL_lstr {x : PySem.Str} {q : PV} : W (gRL F h (.str x) q s) Q = W (h (.str x) q s) Q := rfl
@[simp ↓] theorem I_gRL_lstr {x : PySem.Str} {q : PV} : WI (gRL F h (.str x) q s) (K := ⟨Q⟩) = WI (h (.str x) q s) (K := ⟨Q⟩) := W_gRL_lstr
theorem W_gEqR_lstr {x : PySem.Str} {q : PV} : W (gEqR F h (.str x) q s) Q = W (h (.str x) q s) Q := rfl
@[simp ↓] theorem I_gEqR_lstr {x : PySem.Str} {q : PV} : WI (gEqR F h (.str x) q s) (K := ⟨Q⟩) = WI (h (.str x) q s) (K := ⟨Q⟩) := W_gEqR_lstr
theorem W_gNeR_lstr {x : PySem.Str} {q : PV} : W (gNeR F h (.str x) q s) Q = W (h (.str x) q s) Q := rfl
@[simp ↓] theorem I_gNeR_lstr {x : PySem.Str} {q : PV} : WI (gNeR F h (.str x) q s) (K := ⟨Q⟩) = WI (h (.str x) q s) (K := ⟨Q⟩) := W_gNeR_lstr
theorem W_gRL_ltup {x : List PV} {q : PV} : W (gRL F h (.tup x) q s) Q = W (h (.tup x) q s) Q := rfl
@[simp ↓] theorem I_gRL_ltup {x : List PV} {q : PV} : WI (gRL F h (.tup x) q s) (K := ⟨Q⟩) = WI (h (.tup x) q s) (K := ⟨Q⟩) := W_gRL_ltup
theorem W_gEqR_ltup {x : List PV} {q : PV} : W (gEqR F h (.tup x) q s) Q = W (h (.tup x) q s) Q := rfl
@[simp ↓] theorem I_gEqR_ltup {x : List PV} {q : PV} : WI (gEqR F h (.tup x) q s) (K := ⟨Q⟩) = WI (h (.tup x) q s) (K := ⟨Q⟩) := W_gEqR_ltup
theorem W_gNeR_ltup {x : List PV} {q : PV} : W (gNeR F h (.tup x) q s) Q = W (h (.tup x) q s) Q := rfl
@[simp ↓] theorem I_gNeR_ltup {x : List PV} {q : PV} : WI (gNeR F h (.tup x) q s) (K := ⟨Q⟩) = WI (h (.tup x) q s) (K := ⟨Q⟩) := W_gNeR_ltup
theorem W_gRL_llst {x : List PV} {q : PV} : W (gRL F h (.lst x) q s) Q = W (h (.lst x) q s) Q := rfl
@[simp ↓] theorem I_gRL_llst {x : List PV} {q : PV} : WI (gRL F h (.lst x) q s) (K := ⟨Q⟩) = WI (h (.lst x) q s) (K := ⟨Q⟩) := W_gRL_llst
theorem W_gEqR_llst {x : List PV} {q : PV} : W (gEqR F h (.lst x) q s) Q = W (h (.lst x) q s) Q := rfl
@[simp ↓] theorem I_gEqR_llst {x : List PV} {q : PV} : WI (gEqR F h (.lst x) q s) (K := ⟨Q⟩) = WI (h (.lst x) q s) (K := ⟨Q⟩) := W_gEqR_llst
theorem W_gNeR_llst {x : List PV} {q : PV} : W (gNeR F h (.lst x) q s) Q = W (h (.lst x) q s) Q := rfl
@[simp ↓] theorem I_gNeR_llst {x : List PV} {q : PV} : WI (gNeR F h (.lst x) q s) (K := ⟨Q⟩) = WI (h (.lst x) q s) (K := ⟨Q⟩) := W_gNeR_llst
theorem W_gRL_lfrz {x : List PV} {q : PV} : W (gRL F h (.frz x) q s) Q = W (h (.frz x) q s) Q := rfl
@[simp ↓] theorem I_gRL_lfrz {x : List PV} {q : PV} : WI (gRL F h (.frz x) q s) (K := ⟨Q⟩) = WI (h (.frz x) q s) (K := ⟨Q⟩) := W_gRL_lfrz
theorem W_gEqR_lfrz {x : List PV} {q : PV} : W (gEqR F h (.frz x) q s) Q = W (h (.frz x) q s) Q := rfl
@[simp ↓] theorem I_gEqR_lfrz {x : List PV} {q : PV} : WI (gEqR F h (.frz x) q s) (K := ⟨Q⟩) = WI (h (.frz x) q s) (K := ⟨Q⟩) := W_gEqR_lfrz
theorem W_gNeR_lfrz {x : List PV} {q : PV} : W (gNeR F h (.frz x) q s) Q = W (h (.frz x) q s) Q := rfl
@[simp ↓] theorem I_gNeR_lfrz {x : List PV} {q : PV} : WI (gNeR F h (.frz x) q s) (K := ⟨Q⟩) = WI (h (.frz x) q s) (K := ⟨Q⟩) := W_gNeR_lfrz
theorem W_gRR_lstr {x : PySem.Str} {q : PV} : W (gRR F FR h (.str x) q s) Q = W (h (.str x) q s) Q := rfl
@[simp ↓] theorem I_gRR_lstr {x : PySem.Str} {q : PV} : WI (gRR F FR h (.str x) q s) (K := ⟨Q⟩) = WI (h (.str x) q s) (K := ⟨Q⟩) := W_gRR_lstr
theorem W_gRR_ltup {x : List PV} {q : PV} : W (gRR F FR h (.tup x) q s) Q = W (h (.tup x) q s) Q := rfl
@[simp ↓] theorem I_gRR_ltup {x : List PV} {q : PV} : WI (gRR F FR h (.tup x) q s) (K := ⟨Q⟩) = WI (h (.tup x) q s) (K := ⟨Q⟩) := W_gRR_ltup
theorem W_gRR_llst {x : List PV} {q : PV} : W (gRR F FR h (.lst x) q s) Q = W (h (.lst x) q s) Q := rfl
@[simp ↓] theorem I_gRR_llst {x : List PV} {q : PV} : WI (gRR F FR h (.lst x) q s) (K := ⟨Q⟩) = WI (h (.lst x) q s) (K := ⟨Q⟩) := W_gRR_llst
theorem W_gRR_lfrz {x : List PV} {q : PV} : W (gRR F FR h (.frz x) q s) Q = W (h (.frz x) q s) Q := rfl
@[simp ↓] theorem I_gRR_lfrz {x : List PV} {q : PV} : WI (gRR F FR h (.frz x) q s) (K := ⟨Q⟩) = WI (h (.frz x) q s) (K := ⟨Q⟩) := W_gRR_lfrz
theorem W_gR1_rat {a : Rat} : W (gR1 F h1 (.rat a)  s) Q = W (F [.rat a] s.mu) (fun v mu => Q v ⟨s.env, mu⟩) := fmt1
@[simp ↓] theorem I_gR1_rat {a : Rat} : WI (gR1 F h1 (.rat a)  s) (K := ⟨Q⟩) = WI (F [.rat a] s.mu) (K := ⟨(fun v mu => Q v ⟨s.env, mu⟩)⟩) := W_gR1_rat
theorem W_gR1_int {a : Int} : W (gR1 F h1 (.int a)  s) Q = W (h1 (.int a) s) Q := rfl
@[simp ↓] theorem I_gR1_int {a : Int} : WI (gR1 F h1 (.int a)  s) (K := ⟨Q⟩) = WI (h1 (.int a) s) (K := ⟨Q⟩) := W_gR1_int
theorem W_addL {xs ys : List PV} : W (gAdd (.lst xs) (.lst ys) s) Q = (xs.length + ys.length ≤ 16777216 ∧ Q (.lst (xs ++ ys)) s) := by
  show W (if xs.length + ys.length ≤ 16777216 then _ else _) Q = _
  by_cases z : xs.length + ys.length ≤ 16777216 <;> simp [z]
@[simp ↓] theorem I_addL {xs ys : List PV} : WI (gAdd (.lst xs) (.lst ys) s) (K := ⟨Q⟩) = (xs.length + ys.length ≤ 16777216 ∧ Q (.lst (xs ++ ys)) s) := W_addL
theorem W_addT {xs ys : List PV} : W (gAdd (.tup xs) (.tup ys) s) Q = (xs.length + ys.length ≤ 16777216 ∧ Q (.tup (xs ++ ys)) s) := by
  show W (if xs.length + ys.length ≤ 16777216 then _ else _) Q = _
  by_cases z : xs.length + ys.length ≤ 16777216 <;> simp [z]
@[simp ↓] theorem I_addT {xs ys : List PV} : WI (gAdd (.tup xs) (.tup ys) s) (K := ⟨Q⟩) = (xs.length + ys.length ≤ 16777216 ∧ Q (.tup (xs ++ ys)) s) := W_addT
theorem W_addS {xs ys : PySem.Str} : W (gAdd (.str xs) (.str ys) s) Q = (xs.length + ys.length ≤ 16777216 ∧ Q (.str (xs ++ ys)) s) := by
  show W (if xs.length + ys.length ≤ 16777216 then _ else _) Q = _
  by_cases z : xs.length + ys.length ≤ 16777216 <;> simp [z]
@[simp ↓] theorem I_addS {xs ys : PySem.Str} : WI (gAdd (.str xs) (.str ys) s) (K := ⟨Q⟩) = (xs.length + ys.length ≤ 16777216 ∧ Q (.str (xs ++ ys)) s) := W_addS
theorem W_mulI {i j : Int} : W (gMul (.int i) (.int j) s) Q = (ib i + ib j ≤ 1000000 ∧ Q (.int (i * j)) s) := by
  show W (if ib i + ib j ≤ 1000000 then _ else _) Q = _
  by_cases z : ib i + ib j ≤ 1000000 <;> simp [z]
@[simp ↓] theorem I_mulI {i j : Int} : WI (gMul (.int i) (.int j) s) (K := ⟨Q⟩) = (ib i + ib j ≤ 1000000 ∧ Q (.int (i * j)) s) := W_mulI
theorem W_mulL {xs : List PV} {k : Int} : W (gMul (.lst xs) (.int k) s) Q = ((-(2 ^ 63) ≤ k ∧ k < 2 ^ 63 ∧ xs.length * k.toNat ≤ 16777216) ∧ Q (.lst (List.replicate k.toNat xs).flatten) s) := by
  show W (if -(2 ^ 63) ≤ k ∧ k < 2 ^ 63 ∧ xs.length * k.toNat ≤ 16777216 then _ else _) Q = _
  by_cases z : -(2 ^ 63) ≤ k ∧ k < 2 ^ 63 ∧ xs.length * k.toNat ≤ 16777216
  · rw [if_pos z]; simp only [z, W_ok, and_self, true_and]
  · rw [if_neg z]; simp only [z, W_bad, false_and]
@[simp ↓] theorem I_mulL {xs : List PV} {k : Int} : WI (gMul (.lst xs) (.int k) s) (K := ⟨Q⟩) = ((-(2 ^ 63) ≤ k ∧ k < 2 ^ 63 ∧ xs.length * k.toNat ≤ 16777216) ∧ Q (.lst (List.replicate k.toNat xs).flatten) s) := W_mulL
end
end L3

namespace PD
open PySem L3 LD PC
/-! ## draws, by what must hold behind them -/
section
variable {mu : List MO} {n k : Nat} {Q : PV → List MO → Prop}
theorem w_next {m : Int} (h : Src mu n k) (hk : k + 1 ≤ 2 ^ 49) (hm : 0 < m) (hb : ib m ≤ 9000) (i : ∀ r mu', 0 ≤ r → r < m → Src mu' n (k + 1) → Q (.int r) mu') : W (F_w_next [.ptr n, .int m] mu) Q :=
  let ⟨r, mu', e, h1, h2, h3⟩ := next_ok h hk hm hb
  W.of e (i r mu' h1 h2 h3)
theorem zd_low {t b : Int} (h1 : 1 ≤ b) (h2 : b ≤ 6) (h3 : -30 ≤ t) (h4 : t ≤ 30) : Zd 60 30 (Rat.divInt t b) := by
  refine Zd.divInt (by omega) ?_ ?_
  · have : b = 1 ∨ b = 2 ∨ b = 3 ∨ b = 4 ∨ b = 5 ∨ b = 6 := by omega
    rcases this with h | h | h | h | h | h <;> subst h <;> decide
  · omega
theorem w_drawn (h : Src mu n k) (hk : k + 3 ≤ 2 ^ 49) (i : ∀ q mu', Zd 60 30 q → Src mu' n (k + 3) → Q (fr q) mu') : W (F_w_drawn [.ptr n] mu) Q := by
  unfold F_w_drawn d_w_drawn
  simp [W_runBody]
  refine w_next h (by omega) (by decide) (by decide) fun r1 m1 a1 a2 h1 => ?_
  simp
  split
  · refine w_next h1 (by omega) (by decide) (by decide) fun r2 m2 b1 b2 h2 => ?_
    simp
    exact i ((r2 - 3 : Int) : Rat) _ ((Zd.int (B := 30) (by omega)).mono (by decide) (by decide)) (h2.le (by omega))
  · refine w_next h1 (by omega) (by decide) (by decide) fun r2 m2 b1 b2 h2 => ?_
    have fin : ∀ r3 m3, 0 ≤ r3 → r3 < 6 → Src m3 n (k + 1 + 1 + 1) → W (F_w_low [.int (r2 - 30), .int (1 + r3)] m3) fun v mu => Q v mu := fun r3 m3 c1 c2 h3 => by
      have hb : ib (1 + r3) ≤ 9000 := by
        have := ib_le (i := 1 + r3) (b := 5) (by omega)
        omega
      exact W.of (e_low _ _ m3 (by omega) hb) (i _ _ (zd_low (by omega) (by omega) (by omega) (by omega)) (h3.le (by omega)))
    simp
    split
    · refine w_next h2 (by omega) (by decide) (by decide) fun r3 m3 c1 c2 h3 => ?_
      simp
      exact fin r3 m3 c1 c2 h3
    · refine w_next h2 (by omega) (by decide) (by decide) fun r3 m3 c1 c2 h3 => ?_
      simp
      exact fin r3 m3 c1 (by omega) h3
theorem w_pick {xs : List PV} (h : Src mu n k) (hk : k + 1 ≤ 2 ^ 49) (hne : xs ≠ []) (hl : xs.length ≤ 16777216) (i : ∀ x mu', x ∈ xs → Src mu' n (k + 1) → Q x mu') : W (F_w_pick [.ptr n, .lst xs] mu) Q :=
  let ⟨x, mu', e, h1, h2⟩ := pick_ok h hk hne hl
  W.of e (i x mu' h1 h2)
/-- fractions, all with what P says -/
def All (P : Rat → Prop) (qs : List Rat) : Prop := ∀ q ∈ qs, P q
theorem All.snoc {P : Rat → Prop} {qs : List Rat} {q : Rat} (h : All P qs) (hq : P q) : All P (qs ++ [q]) := fun x hx => by
  rcases List.mem_append.mp hx with y | y
  · exact h x y
  · rw [List.mem_singleton.mp y]; exact hq
theorem w_row {m : Nat} (h : Src mu n k) (hk : k + 1 + 4 * m ≤ 2 ^ 49) (hm : m ≤ 10000) (i : ∀ qs mu', All (Zd 60 30) qs → qs.length ≤ m → Src mu' n (k + 1 + 4 * m) → Q (.lst (qs.map fr)) mu') : W (F_w_row [.ptr n, .int m] mu) Q := by
  unfold F_w_row d_w_row
  simp [W_runBody]
  refine w_next (m := (m : Int) + 1) h (by omega) (by omega) (by
    have := ib_le (i := (m : Int) + 1) (b := 20) (by omega)
    omega) fun r m1 a1 a2 h1 => ?_
  have hr : (-4611686018427387904 : Int) ≤ r ∧ r < 4611686018427387904 := by omega
  simp [hr]
  have hlen : (rangeP 0 r.toNat).length = r.toNat := by simp [rangeP]
  refine W_forL (I := fun xs s => ∃ qs mu k' o, s = ⟨[some (.val (.ptr n)), some (.val (.int m)), some (.own (qs.map fr)), o], mu⟩ ∧ Src mu n k' ∧ k' + 4 * xs.length ≤ k + 1 + 4 * m ∧ qs.length + xs.length ≤ m ∧ All (Zd 60 30) qs)
    ⟨[], m1, k + 1, none, rfl, h1, by omega, by simp; omega, fun q hq => by cases hq⟩ ?_ ?_
  · rintro x xs _ ⟨qs, mu, k', o, rfl, hS, hk', hl, hz⟩
    simp only [List.length_cons] at hk' hl
    have hq : qs.length < 16777216 := by omega
    have done : ∀ q mu', Zd 60 30 q → Src mu' n (k' + 4) → flatP (fr q) = true ∧ flatMs mu' = true ∧ qs.length < 16777216 ∧ ∃ qs' mu k' o', (⟨[some (.val (.ptr n)), some (.val (.int m)), some (.own (qs.map fr ++ [fr q])), some (.val x)], mu'⟩ : S) = ⟨[some (.val (.ptr n)), some (.val (.int m)), some (.own (qs'.map fr)), o'], mu⟩ ∧ Src mu n k' ∧ k' + 4 * xs.length ≤ k + 1 + 4 * m ∧ qs'.length + xs.length ≤ m ∧ All (Zd 60 30) qs' :=
      fun q mu' hq' hS' => ⟨flat_fr q, hS'.flat, hq, qs ++ [q], mu', k' + 4, some (.val x), by simp, hS', by omega, by simp; omega, hz.snoc hq'⟩
    simp [froz1, own_row]
    by_cases e : qs = []
    · subst e
      simp [okD, okDL, eqP, eqPL]
      refine w_drawn hS (by omega) fun q mu' hq' hS' => ?_
      have := done q mu' hq' (hS'.le (by omega))
      simpa using this
    · have he : eqP (.lst (qs.map fr)) (.lst []) = false := by rw [eqP_frs_nil]; simpa using e
      simp [okD_frs, okD_nil, he]
      refine w_next hS (by omega) (by decide) (by decide) fun r2 m2 b1 b2 h2 => ?_
      simp
      split
      · refine w_pick h2 (by omega) (by simpa using e) (by rw [List.length_map]; omega) fun y m3 hy h3 => ?_
        obtain ⟨q, hq', rfl⟩ := List.mem_map.mp hy
        have := done q m3 (hz q hq') (h3.le (by omega))
        simpa using this
      · refine w_drawn h2 (by omega) fun q m3 hq' h3 => ?_
        have := done q m3 hq' (h3.le (by omega))
        simpa using this
  · rintro _ ⟨qs, mu, k', o, rfl, hS, hk', hl, hz⟩
    simp [froz1]
    exact i qs mu hz (by simpa using hl) (hS.le (by simp at hk'; omega))
theorem w_filled {m : Nat} (h : Src mu n k) (hk : k + 4 + 4 * m ≤ 2 ^ 49) (hm : m ≤ 10000) (h0 : 0 < m) (i : ∀ qs mu', All (Zd 60 30) qs → qs.length ≤ m → qs ≠ [] → Src mu' n (k + 4 + 4 * m) → Q (.lst (qs.map fr)) mu') : W (F_w_filled [.ptr n, .int m] mu) Q := by
  unfold F_w_filled d_w_filled
  simp [W_runBody]
  have e : (m : Int) - 1 = ((m - 1 : Nat) : Int) := by omega
  rw [e]
  refine w_row h (by omega) (by omega) fun qs m1 hz hl h1 => ?_
  simp
  refine w_drawn h1 (by omega) fun q m2 hq h2 => ?_
  have hl' : qs.length + 1 ≤ 16777216 := by omega
  simp [hl']
  have := i (qs ++ [q]) m2 (hz.snoc hq) (by simp; omega) (by simp) (h2.le (by omega))
  simpa using this
theorem w_source {ns : List Int} {j : Nat} {mu : List MO} {Q : PV → List MO → Prop} (hk : j ≤ 2 ^ 40) (hf : flatMs mu = true) (i : ∀ mu', Src mu' mu.length (3 * j) → Q (.ptr mu.length) mu') : W (F_w_source [.frz (ns.map .int), .int j] mu) Q :=
  let ⟨mu', e, h⟩ := source_ok ns j mu hk hf
  W.of e (i mu' h)
theorem w_framed {C : Addr} {D B : Nat} {qs : List Rat} (s : Sm D B) (h : Src mu n k) (hk : k + 2 ≤ 2 ^ 49) (hz : All (Zd D B) qs) (hl : qs.length ≤ 10000) (i : ∀ sm ps mu', (sm = .lst ps ∨ sm = .tup ps) → All2 qs ps → Src mu' n (k + 2) → Q sm mu') : W (F_w_framed C [.ptr n, .lst (qs.map fr)] mu) Q :=
  let ⟨sm, ps, mu', e, h1, h2, h3⟩ := framed_ok (C := C) h hk (fun q hq => (hz q hq).sm s) (by omega) hl
  W.of e (i sm ps mu' h1 h2 h3)
theorem z_given {D B : Nat} {qs : List Rat} (s : Sm D B) (hz : All (Zd D B) qs) (hl : qs.length ≤ 10000) (mu : List MO) : F_w_given [.lst (qs.map fr)] mu = .ok (.lst (qs.map gv)) mu := e_given qs (fun q hq => (hz q hq).sm s) (by omega) hl mu
end
end PD

set_option maxHeartbeats 1000000
namespace PD
open PySem L3 LD PC
/-! ## the law's loop over the cells -/
theorem turns {ns : List Int} {b : DS} {m : Int} (h4 : m ≤ 4) (Rr : List (Option SV) → Prop) {o1 : Option SV} {rest : List (Option SV)} {mu : List MO} (h0 : Rr rest) (hf : flatMs mu = true) {P : Fl → S → Prop}
    (hb : ∀ (i : Nat) (rest : List (Option SV)) (mu : List MO), i ≤ 4 → Rr rest → flatMs mu = true → W (b ⟨some (.val (.frz (ns.map .int))) :: some (.val (.int (i : Int))) :: rest, mu⟩) fun f s' => f = .nx ∧ ∃ rest' mu', Rr rest' ∧ flatMs mu' = true ∧ s' = ⟨some (.val (.frz (ns.map .int))) :: some (.val (.int (i : Int))) :: rest', mu'⟩)
    (hP : ∀ o1 rest mu, Rr rest → flatMs mu = true → P .nx ⟨some (.val (.frz (ns.map .int))) :: o1 :: rest, mu⟩) :
    W (forL (gN 1) b (rangeP 0 m.toNat) ⟨some (.val (.frz (ns.map .int))) :: o1 :: rest, mu⟩) P := by
  refine W_forL (I := fun xs s => ∃ (is : List Nat) (o1 : Option SV) (rest : List (Option SV)) (mu : List MO), xs = is.map (fun i : Nat => PV.int (i : Int)) ∧ (∀ i ∈ is, i ≤ 4) ∧ Rr rest ∧ flatMs mu = true ∧ s = ⟨some (.val (.frz (ns.map .int))) :: o1 :: rest, mu⟩) ?_ ?_ ?_
  · refine ⟨List.range m.toNat, o1, rest, mu, ?_, fun i hi => by have := List.mem_range.mp hi; omega, h0, hf, rfl⟩
    unfold rangeP
    refine List.map_congr_left fun k _ => ?_
    rw [Int.zero_add]
  · intro x xs s hI
    obtain ⟨is, o1, rest, mu, e, hi, hr, hf, hs⟩ := hI
    subst hs
    cases is with
    | nil => cases e
    | cons i is =>
      cases e
      refine (hb i rest mu (hi i List.mem_cons_self) hr hf).mono fun f s' h => ?_
      obtain ⟨hf1, rest', mu', hr', hf', hs'⟩ := h
      subst hf1 hs'
      exact ⟨is, _, rest', mu', rfl, fun j hj => hi j (List.mem_cons_of_mem _ hj), hr', hf', rfl⟩
  · intro s hI
    obtain ⟨is, o1, rest, mu, e, hi, hr, hf, hs⟩ := hI
    subst hs
    exact hP o1 rest mu hr hf
/-! ## other orders of fractions -/
def unfr : PV → Rat
  | .tup [.int n, .int d] => Rat.divInt n d
  | _ => 0
theorem unfr_fr (q : Rat) : unfr (fr q) = q := Rat.num_divInt_den q
theorem perm_fr {ys : List PV} {qs : List Rat} (h : ys.Perm (qs.map fr)) : ∃ qs' : List Rat, ys = qs'.map fr ∧ qs'.Perm qs := by
  refine ⟨ys.map unfr, ?_, ?_⟩
  · rw [List.map_map]
    conv => lhs; rw [← List.map_id ys]
    refine List.map_congr_left fun y hy => ?_
    obtain ⟨q, _, rfl⟩ := List.mem_map.mp (h.mem_iff.mp hy)
    show fr q = fr (unfr (fr q))
    rw [unfr_fr]
  · have := h.map unfr
    rw [List.map_map] at this
    have e : qs.map (unfr ∘ fr) = qs := by
      conv => rhs; rw [← List.map_id qs]
      exact List.map_congr_left fun q _ => unfr_fr q
    rwa [e] at this
section
variable {mu : List MO} {n k : Nat} {Q : PV → List MO → Prop}
theorem w_mixed {qs : List Rat} (h : Src mu n k) (hk : k + qs.length ≤ 2 ^ 49) (hl : qs.length ≤ 10000) (i : ∀ (qs' : List Rat) (mu' : List MO), qs'.Perm qs → Src mu' n (k + qs.length) → Q (.lst (qs'.map fr)) mu') : W (F_w_mixed [.ptr n, .lst (qs.map fr)] mu) Q := by
  obtain ⟨ys, mu', e, h1, h2⟩ := mixed_ok (xs := qs.map fr) h (by rw [List.length_map]; exact hk) (by rw [List.length_map]; exact hl)
  obtain ⟨qs', rfl, hp⟩ := perm_fr h1
  rw [List.length_map] at h2
  exact W.of e (i qs' mu' hp h2)
end
theorem eqP_fr (x y : Rat) : eqP (fr x) (fr y) = decide (x = y) := by
  rw [rat_eq]
  simp [fr, eqP, eqPL]
theorem W_ne_fr {F : DF} {x y : Rat} {s : S} {Q : PV → S → Prop} : W (gNeR F (gEq true) (fr x) (fr y) s) Q = Q (.bl (!decide (x = y))) s := by
  have h : gNeR F (gEq true) (fr x) (fr y) s = .ok (.bl (!decide (x = y))) s := by
    show gEq true (fr x) (fr y) s = _
    unfold gEq
    rw [if_pos ⟨okD_fr x, okD_fr y⟩, eqP_fr, Bool.true_xor]
  rw [h, W_ok]
@[simp ↓] theorem I_ne_fr {F : DF} {x y : Rat} {s : S} {Q : PV → S → Prop} : WI (gNeR F (gEq true) (fr x) (fr y) s) (K := ⟨Q⟩) = Q (.bl (!decide (x = y))) s := W_ne_fr
theorem W_gne_fr {x y : Rat} {s : S} {Q : PV → S → Prop} : W (gEq true (fr x) (fr y) s) Q = Q (.bl (!decide (x = y))) s := by
  unfold gEq
  rw [if_pos ⟨okD_fr x, okD_fr y⟩, eqP_fr, Bool.true_xor, W_ok]
@[simp ↓] theorem I_gne_fr {x y : Rat} {s : S} {Q : PV → S → Prop} : WI (gEq true (fr x) (fr y) s) (K := ⟨Q⟩) = Q (.bl (!decide (x = y))) s := W_gne_fr
theorem fr_of {q : Rat} {n : Int} {d : Nat} (h1 : q.num = n) (h2 : q.den = d) : fr q = .tup [.int n, .int (d : Int)] := by rw [← h1, ← h2]; rfl
theorem len_ne {qs : List Rat} (h : qs ≠ []) : ((qs.length : Int) : Rat) ≠ 0 := by
  intro z
  have e : (qs.length : Int) = 0 := congrArg Rat.num z
  exact h (List.eq_nil_of_length_eq_zero (by omega))
theorem foldl_sum : ∀ (qs : List Rat) (a : Rat), qs.foldl (· + ·) a = a + sumQ qs
  | [], a => by simp [sumQ, Rat.add_zero]
  | q :: qs, a => by
    rw [List.foldl_cons, foldl_sum qs (a + q)]
    unfold sumQ
    rw [List.foldl_cons, foldl_sum qs (0 + q), Rat.zero_add, Rat.add_assoc]
    rfl
theorem sumQ_cons (q : Rat) (qs : List Rat) : sumQ (q :: qs) = q + sumQ qs := by
  unfold sumQ
  rw [List.foldl_cons, foldl_sum, Rat.zero_add]
  rfl
theorem sumQ_append (a b : List Rat) : sumQ (a ++ b) = sumQ a + sumQ b := by
  unfold sumQ
  rw [List.foldl_append, foldl_sum]
  rfl
theorem cast_succ (n : Nat) : (((n + 1 : Nat) : Int) : Rat) = ((n : Int) : Rat) + 1 := by rw [Int.natCast_add, Rat.intCast_add]; rfl
/-- ratios that stand for the fractions of another order -/
theorem mn_perm {a b : List Rat} (h : a.Perm b) : mn a = mn b := by unfold mn; rw [sum_perm h, h.length_eq]
end PD

set_option maxHeartbeats 1000000
namespace PD
open PySem L3 LD PC
/-! ## fractions in order -/
def leQ (a b : Rat) : Bool := decide (a ≤ b)
abbrev rsort (qs : List Rat) : List Rat := srt leQ qs
theorem leQ_tot (a b : Rat) : leQ a b = true ∨ leQ b a = true := by
  unfold leQ
  rcases Rat.le_total (a := a) (b := b) with h | h <;> simp [h]
theorem leQ_tr (a b c : Rat) (h1 : leQ a b = true) (h2 : leQ b c = true) : leQ a c = true := decide_eq_true (Rat.le_trans (of_decide_eq_true h1) (of_decide_eq_true h2))
theorem leQ_as (a b : Rat) (h1 : leQ a b = true) (h2 : leQ b a = true) : a = b := Rat.le_antisymm (of_decide_eq_true h1) (of_decide_eq_true h2)
theorem rsort_sorted (qs : List Rat) : (rsort qs).Pairwise (fun a b => leQ a b = true) := srt_sorted leQ_tot leQ_tr qs
theorem rsort_perm (qs : List Rat) : (rsort qs).Perm qs := srt_perm leQ qs
theorem rsort_len (qs : List Rat) : (rsort qs).length = qs.length := (rsort_perm qs).length_eq
theorem rsort_uniq {a qs : List Rat} (p : a.Perm qs) (h : a.Pairwise (fun a b => leQ a b = true)) : a = rsort qs := sorted_uniq (le := leQ) leQ_as (p.trans (rsort_perm qs).symm) h (rsort_sorted qs)
theorem rsort_congr {a b : List Rat} (p : a.Perm b) : rsort a = rsort b := rsort_uniq ((rsort_perm a).trans p) (rsort_sorted a)
theorem divInt_mono {t u : Int} {L : Nat} (h0 : 0 < L) (h : t ≤ u) : Rat.divInt t L ≤ Rat.divInt u L := by
  rw [Rat.le_iff_sub_nonneg]
  have e : Rat.divInt u L - Rat.divInt t L = Rat.divInt (u - t) L := by
    rw [Rat.sub_eq_add_neg, Rat.neg_divInt, add_same (by omega : ((L : Nat) : Int) ≠ 0), Int.sub_eq_add_neg]
  rw [e]
  have : 0 ≤ (Rat.divInt (u - t) L).num := by
    obtain ⟨m, hm, h1, h2⟩ := Rat.divInt_num_den (z' := (Rat.divInt (u - t) L).den_nz) (c := (Rat.divInt (u - t) L).reduced) (by omega : ((L : Nat) : Int) ≠ 0) rfl
    have hm' : 0 < m := by
      have hd := (Rat.divInt (u - t) L).den_pos
      rcases Int.lt_or_gt_of_ne hm with z | z
      · have : ((Rat.divInt (u - t) L).den : Int) * m < 0 := Int.mul_neg_of_pos_of_neg (by omega) z
        omega
      · exact z
    have h3 : 0 ≤ (Rat.divInt (u - t) L).num * m := by omega
    exact Int.nonneg_of_mul_nonneg_left h3 hm'
  exact Rat.num_nonneg.mp this
theorem z_ordered {D B : Nat} (s : Sm D B) {qs : List Rat} (hz : ∀ q ∈ qs, Zd D B q) (hn : qs.length ≤ 10000) (mu : List MO) : F_ordered [.lst (qs.map .rat)] mu = .ok (.lst ((rsort qs).map .rat)) mu := by
  obtain ⟨e1, h0, h1, h2⟩ := z_common s hz hn mu
  have hk : ∀ t : Int, okR t (lcmD qs : Nat) = true := fun t => by
    have := ib_le (i := ((lcmD qs : Nat) : Int)) (b := 3990) (by rw [Int.natAbs_natCast]; exact Nat.le_trans (Nat.le_of_dvd s.pos h1) s.bot)
    exact decide_eq_true (by omega)
  have hb : ¬ lcmD qs = 0 := by omega
  have es : (isort (tops (lcmD qs) qs)).map (fun t => Rat.divInt t (lcmD qs : Nat)) = rsort qs := by
    refine rsort_uniq ?_ ?_
    · refine ((srt_perm leI _).map _).trans ?_
      unfold tops
      rw [List.map_map]
      refine List.Perm.of_eq ?_
      conv => rhs; rw [← List.map_id qs]
      exact List.map_congr_left fun q hq => one_same h0 (h2 q hq)
    · refine List.pairwise_map.mpr ?_
      refine (srt_sorted (le := leI) (fun a b => by unfold leI; rcases Int.le_total a b with h | h <;> simp [h]) (fun a b c h1 h2 => decide_eq_true (Int.le_trans (of_decide_eq_true h1) (of_decide_eq_true h2))) _).imp fun h => ?_
      exact decide_eq_true (divInt_mono h0 (of_decide_eq_true h))
  have hlen : (isort (tops (lcmD qs) qs)).length = qs.length := by
    rw [(srt_perm leI _).length_eq]; unfold tops; rw [List.length_map]
  have h : W (F_ordered [.lst (qs.map .rat)] mu) (fun v mu' => v = .lst ((rsort qs).map .rat) ∧ mu' = mu) := by
    unfold F_ordered d_ordered
    simp [W_runBody, e1, intsP_map]
    refine W_compMap (isort (tops (lcmD qs) qs)) PV.int (fun t => .rat (Rat.divInt t (lcmD qs : Nat))) (by omega) (fun t ht => ?_) ?_
    · simp [e_ordered_1, hb, hk, wipeE]
    · simp [wipeE]
      rw [← es, List.map_map]; rfl
  obtain ⟨v, mu', e, rfl, rfl⟩ := h.out
  exact e
/-! ### the law's own order -/
theorem e_below {x y : Rat} {a b : Nat} (h1 : Zb x a) (h2 : Zb y b) (hab : a + b ≤ 8000) (mu : List MO) : F_w_below [fr x, fr y] mu = .ok (.bl (decide (x < y))) mu := by
  have c1 : ib x.num + ib (y.den : Int) ≤ 1000000 := by have := h1.ib_num; have := h2.ib_den; omega
  have c2 : ib y.num + ib (x.den : Int) ≤ 1000000 := by have := h2.ib_num; have := h1.ib_den; omega
  simp [F_w_below, runBody, d_w_below, fr, c1, c2, Rat.lt_iff]
def insQ (x : Rat) (l : List Rat) : List Rat := l.take (l.filter fun y => !decide (x < y)).length ++ [x] ++ l.drop (l.filter fun y => !decide (x < y)).length
theorem insQ_sorted (x : Rat) : ∀ l : List Rat, l.Pairwise (fun a b => leQ a b = true) → (insQ x l).Pairwise (fun a b => leQ a b = true)
  | [], _ => by simp [insQ]
  | y :: r, h => by
    rw [List.pairwise_cons] at h
    have ih := insQ_sorted x r h.2
    by_cases hx : x < y
    · have e : (y :: r).filter (fun z => !decide (x < z)) = [] := by
        rw [List.filter_eq_nil_iff]
        intro z hz
        have : x < z := by
          rcases List.mem_cons.mp hz with e | e
          · rw [e]; exact hx
          · have h1 := of_decide_eq_true (h.1 z e)
            grind
        simp [this]
      unfold insQ
      rw [e]
      simp only [List.length_nil, List.take_zero, List.drop_zero, List.nil_append, List.cons_append]
      refine List.pairwise_cons.mpr ⟨fun z hz => ?_, List.pairwise_cons.mpr h⟩
      rcases List.mem_cons.mp hz with e | e
      · rw [e]; exact decide_eq_true (Rat.le_of_lt hx)
      · have h1 := of_decide_eq_true (h.1 z e)
        exact decide_eq_true (by grind)
    · have e : (y :: r).filter (fun z => !decide (x < z)) = y :: r.filter (fun z => !decide (x < z)) := by
        rw [List.filter_cons, if_pos (by simp [hx])]
      have e2 : insQ x (y :: r) = y :: insQ x r := by
        unfold insQ
        rw [e]
        simp
      rw [e2]
      refine List.pairwise_cons.mpr ⟨fun z hz => ?_, ih⟩
      have hz' : z ∈ x :: r := by
        unfold insQ at hz
        simp only [List.append_assoc, List.cons_append, List.nil_append, List.mem_append, List.mem_cons] at hz
        rcases hz with h1 | h1 | h1
        · exact List.mem_cons_of_mem _ (List.mem_of_mem_take h1)
        · rw [h1]; exact List.mem_cons_self
        · exact List.mem_cons_of_mem _ (List.mem_of_mem_drop h1)
      rcases List.mem_cons.mp hz' with e3 | e3
      · rw [e3]; exact decide_eq_true (Rat.not_lt.mp hx)
      · exact h.1 z e3
theorem insQ_perm (x : Rat) (l : List Rat) : (insQ x l).Perm (x :: l) := by
  unfold insQ
  generalize (l.filter fun y => !decide (x < y)).length = n
  conv => rhs; rw [← List.take_append_drop n l]
  rw [List.append_assoc]
  exact List.perm_middle
end PD
namespace PD
open PySem L3 LD PC
/-- a comprehension with a test, the state the same behind each element -/
theorem W_compFilter {tg : DG} {ta : DT} {da : DE} {s : S} {α : Type} {B : List PV → S → Prop} {vs : List Nat} (l : List α) (g f : α → PV) (c : α → Bool) (hl : l.length ≤ 16777216) (h : ∀ a ∈ l, W (tgt (tg (g a) s) ta) fun b s2 => b = c a ∧ (c a = false → wipeS vs s2 = s) ∧ (c a = true → W (da s2) fun y s3 => y = f a ∧ wipeS vs s3 = s))
    (hB : B ((l.filter c).map f) s) : W (compL tg ta da vs (l.map g) [] s) B := by
  refine W_compL (I := fun xs acc s' => s' = s ∧ ∃ l1 l2, l = l1 ++ l2 ∧ xs = l2.map g ∧ acc = (l1.filter c).map f) ⟨rfl, [], l, rfl, rfl, rfl⟩ ?_ ?_
  · intro x ys acc s' hI
    obtain ⟨e0, l1, l2, e1, e2, e3⟩ := hI
    subst e0 e3
    cases l2 with
    | nil => cases e2
    | cons a l2 =>
      cases e2
      have h1 := h a (by rw [e1]; simp)
      refine h1.mono fun b s2 h2 => ?_
      obtain ⟨hb, hf, ht⟩ := h2
      subst hb
      by_cases hc : c a = true
      · rw [if_pos hc]
        refine (ht hc).mono fun y s3 h3 => ?_
        rw [h3.1]
        refine ⟨?_, h3.2, l1 ++ [a], l2, by rw [e1]; simp, rfl, by rw [List.filter_append]; simp [hc]⟩
        have := List.length_filter_le c l1
        rw [List.length_map]; rw [e1, List.length_append, List.length_cons] at hl; omega
      · rw [if_neg hc]
        refine ⟨hf (by simpa using hc), l1 ++ [a], l2, by rw [e1]; simp, rfl, by rw [List.filter_append]; simp [hc]⟩
  · intro acc s' hI
    obtain ⟨e0, l1, l2, e1, e2, e3⟩ := hI
    subst e0 e3
    cases l2 with
    | nil => rw [e1, List.append_nil] at hB; exact hB
    | cons a l2 => cases e2
theorem sIx_pos {n d : Nat} {i : Int} (h : 0 ≤ i) : HT.sIx n d (some i) = min i.toNat n := by
  show (if i < 0 then (i + (n : Int)).toNat else min i.toNat n) = _
  rw [if_neg (by omega)]
theorem cut_take {xs : List PV} {i : Int} (h : 0 ≤ i) : cutP xs none (some i) = xs.take i.toNat := by
  unfold cutP
  rw [sIx_pos h]
  show (xs.drop 0).take (min i.toNat xs.length - 0) = _
  rw [List.drop_zero, Nat.sub_zero]
  by_cases z : i.toNat ≤ xs.length
  · rw [Nat.min_eq_left z]
  · rw [Nat.min_eq_right (by omega), List.take_of_length_le (Nat.le_refl _), List.take_of_length_le (by omega)]
theorem cut_drop {xs : List PV} {i : Int} (h : 0 ≤ i) : cutP xs (some i) none = xs.drop i.toNat := by
  unfold cutP
  rw [sIx_pos h]
  show (xs.drop (min i.toNat xs.length)).take (xs.length - min i.toNat xs.length) = _
  by_cases z : i.toNat ≤ xs.length
  · rw [Nat.min_eq_left z, List.take_of_length_le (by rw [List.length_drop]; omega)]
  · rw [Nat.min_eq_right (by omega), List.drop_eq_nil_of_le (Nat.le_refl _), List.drop_eq_nil_of_le (by omega)]
    simp
theorem cut_mid {xs : List PV} {i j : Int} (h : 0 ≤ i) (h1 : i ≤ j) (h2 : j ≤ xs.length) : cutP xs (some i) (some j) = (xs.drop i.toNat).take (j.toNat - i.toNat) := by
  unfold cutP
  rw [sIx_pos h, sIx_pos (by omega)]
  rw [Nat.min_eq_left (by omega), Nat.min_eq_left (by omega)]
/-! ### the law sorts by insertion -/
theorem sorted_turn {D B : Nat} (s : Sm D B) {qs : List Rat} {x : Rat} (hx : Zd D B x) (hz : ∀ q ∈ qs, Zd D B q) (hl : qs.length < 10000) {mu : List MO} {p0 : PV} {o3 : Option SV} {P : Fl → S → Prop}
    (hP : ∀ o3, P .nx ⟨[some (.val p0), some (.val (.lst ((insQ x qs).map fr))), some (.val (fr x)), o3, none], mu⟩) :
    W (b_w_sorted_1 ⟨[some (.val p0), some (.val (.lst (qs.map fr))), some (.val (fr x)), o3, none], mu⟩) P := by
  unfold b_w_sorted_1
  simp
  refine W_compFilter qs fr fr (fun y => !decide (x < y)) (by omega) (fun y hy => ?_) ?_
  · have e := e_below (hx.sm s) ((hz y hy).sm s) (by decide)
    simp [e, wipeE]
  · have hle : (qs.filter fun y => !decide (x < y)).length ≤ qs.length := List.length_filter_le _ _
    have c1 : ∀ n : Nat, cutP (qs.map fr) none (some (n : Int)) = (qs.take n).map fr := fun n => by rw [cut_take (by omega), Int.toNat_natCast, List.map_take]
    have c2 : ∀ n : Nat, cutP (qs.map fr) (some (n : Int)) none = (qs.drop n).map fr := fun n => by rw [cut_drop (by omega), Int.toNat_natCast, List.map_drop]
    have l1 : ∀ n : Nat, (qs.take n).length ≤ qs.length := fun n => by rw [List.length_take]; omega
    have l2 : ∀ n : Nat, (qs.drop n).length ≤ qs.length := fun n => by rw [List.length_drop]; omega
    have h := hP (some (.val (.int ((qs.filter fun y => !decide (x < y)).length : Nat))))
    unfold insQ at h
    simp [wipeE, -List.map_take, -List.map_drop, c1, c2]
    generalize (qs.filter fun y => !decide (x < y)).length = n at *
    refine ⟨by omega, by omega, ?_⟩
    simpa using h
theorem e_sorted {D B : Nat} (s : Sm D B) {qs : List Rat} (hz : ∀ q ∈ qs, Zd D B q) (hl : qs.length < 5000) (mu : List MO) : F_w_sorted [.lst (qs.map fr)] mu = .ok (.lst ((rsort qs).map fr)) mu := by
  have h : W (F_w_sorted [.lst (qs.map fr)] mu) (fun v mu' => v = .lst ((rsort qs).map fr) ∧ mu' = mu) := by
    unfold F_w_sorted d_w_sorted
    simp [W_runBody]
    refine W_forL (I := fun xs st => ∃ (l1 l2 found : List Rat) (o2 o3 : Option SV), qs = l1 ++ l2 ∧ xs = l2.map fr ∧ found.Perm l1 ∧ found.Pairwise (fun a b => leQ a b = true) ∧ st = ⟨[some (.val (.lst (qs.map fr))), some (.val (.lst (found.map fr))), o2, o3, none], mu⟩)
      ⟨[], qs, [], none, none, rfl, rfl, .refl _, .nil, rfl⟩ ?_ ?_
    · intro x xs st hI
      obtain ⟨l1, l2, found, o2, o3, e1, e2, hp, hs, hst⟩ := hI
      subst hst
      cases l2 with
      | nil => cases e2
      | cons q l2 =>
        cases e2
        simp
        have hf : ∀ y ∈ found, Zd D B y := fun y hy => hz y (by rw [e1]; exact List.mem_append_left _ (hp.mem_iff.mp hy))
        have hfl : found.length < 10000 := by rw [hp.length_eq]; rw [e1, List.length_append] at hl; omega
        refine sorted_turn s (hz q (by rw [e1]; simp)) hf hfl fun o3 => ?_
        simp only []
        refine ⟨l1 ++ [q], l2, insQ q found, _, o3, by rw [e1]; simp, rfl, ?_, insQ_sorted q found hs, rfl⟩
        exact (insQ_perm q found).trans ((hp.cons q).trans (List.perm_append_comm (l₁ := [q]) (l₂ := l1)))
    · intro st hI
      obtain ⟨l1, l2, found, o2, o3, e1, e2, hp, hs, hst⟩ := hI
      subst hst
      cases l2 with
      | cons q l2 => cases e2
      | nil =>
        rw [List.append_nil] at e1
        subst e1
        simp
        rw [rsort_uniq hp hs]
  obtain ⟨v, mu', e, rfl, rfl⟩ := h.out
  exact e
end PD

set_option maxHeartbeats 1000000
namespace PX
open PySem L3 LD PC PD
/-! ## floors and cuts -/
def fl (q : Rat) : Int := q.num / (q.den : Int)
theorem fl_divInt (a b : Int) (h : 0 < b) : fl (Rat.divInt a b) = a / b := by
  obtain ⟨m, hm, h1, h2⟩ := Rat.divInt_num_den (z' := (Rat.divInt a b).den_nz) (c := (Rat.divInt a b).reduced) (by omega : b ≠ 0) rfl
  have hm' : 0 < m := by
    have hd := (Rat.divInt a b).den_pos
    rcases Int.lt_or_gt_of_ne hm with z | z
    · have : ((Rat.divInt a b).den : Int) * m < 0 := Int.mul_neg_of_pos_of_neg (by omega) z
      omega
    · exact z
  unfold fl
  generalize Rat.divInt a b = q at *
  rw [h1, h2, Int.mul_ediv_mul_of_pos_left _ _ hm']
theorem e_floor {q : Rat} {a : Nat} (h : Zb q a) (ha : a ≤ 8000) (mu : List MO) : F_Ratio_floor [.rat q] mu = .ok (.int (fl q)) mu := by
  have h1 : (0 : Int) < (q.den : Int) := den_pos q
  have h1' : 0 < q.den := q.den_pos
  have h2 : ib (q.den : Int) ≤ 9000 := by have := h.ib_den; omega
  simp [F_Ratio_floor, runBody, d_Ratio_floor, h1, h1', h2, fl]
theorem e_is_share {c : Rat} {p : PV} (hp : Is c p) (h1 : 0 ≤ c.num) (h2 : c.num ≤ c.den) (mu : List MO) : F_is_share [p] mu = .ok (.bl true) mu := by
  have e1 := e_is_number hp mu
  have e2 := e_ratio_of hp mu
  simp [F_is_share, runBody, d_is_share, e1, e2, h1, h2]
theorem e_need_cut {c : Rat} {p : PV} {a : Nat} (hz : Zb c a) (ha : a ≤ 8000) (hp : Is c p) (h1 : 0 ≤ c.num) (h2 : 2 * c.num < c.den) (mu : List MO) : F_need_cut [p] mu = .ok (.rat c) mu := by
  have e1 := e_is_share hp h1 (by omega) mu
  have e2 := e_ratio_of hp mu
  have c1 : ib 2 + ib c.num ≤ 1000000 := by have := hz.ib_num; have := (by decide : ib 2 = 2); omega
  have c2 : ¬ (c.den : Int) ≤ 2 * c.num := by omega
  simp [F_need_cut, runBody, d_need_cut, e1, e2, c1, c2]
section
variable {D B N : Nat} {qs : List Rat} {ps : List PV} {sm p : PV} {c : Rat} {a : Nat}
theorem e_cut_values (h : All2 qs ps) (hs : sm = .lst ps ∨ sm = .tup ps) (s : Sm D B) (hz : ∀ q ∈ qs, Zd D B q) (hne : qs ≠ []) (hn : qs.length ≤ 1000) (hc : Zb c a) (ha : a ≤ 3000) (hp : Is c p) (h1 : 0 ≤ c.num) (h2 : 2 * c.num < c.den) (mu : List MO) :
    F_cut_values [sm, p] mu = .ok (.tup [.lst ((rsort qs).map .rat), .int (fl (c * ((qs.length : Int) : Rat)))]) mu := by
  have e1 := e_need_sample h hs (by omega) mu
  have e2 := e_need_cut hc (by omega) hp h1 h2 mu
  have hx : ((qs.length : Int) == 0) = false := by simpa using hne
  have a2 : F_need_items [.lst (qs.map .rat)] mu = .ok .non mu := by simp [F_need_items, runBody, d_need_items, hx]
  have e3 := z_ordered s hz (by omega) mu
  have e4 := e_mul (y := ((qs.length : Int) : Rat)) (p := .int (qs.length : Int)) hc (Zb_int (b := 14) (by omega)) (.inr ⟨rfl, rfl⟩) (by omega) mu
  have e5 := e_floor (hc.mul (Zb_int (i := (qs.length : Int)) (b := 14) (by omega))) (by omega) mu
  simp [F_cut_values, runBody, d_cut_values, e1, e2, a2, e3, gRL, e4, e5]
def inner (qs : List Rat) (m : Nat) : List Rat := ((rsort qs).drop m).take (qs.length - m - m)
theorem inner_mem {m : Nat} {q : Rat} (h : q ∈ inner qs m) : q ∈ qs := (rsort_perm qs).mem_iff.mp (List.mem_of_mem_drop (List.mem_of_mem_take h))
theorem inner_len {m : Nat} (h : 2 * m ≤ qs.length) : (inner qs m).length = qs.length - m - m := by
  unfold inner
  rw [List.length_take, List.length_drop, rsort_len]; omega
def pull (l : List Rat) (m : Nat) : List Rat := List.replicate m (l.headD 0) ++ l ++ List.replicate m (l.getLastD 0)
theorem cut_inner {f : Rat → PV} {m : Nat} {i j : Int} (hi : i = (m : Int)) (hj : j = (qs.length : Int) - m) (h : 2 * m ≤ qs.length) : cutP ((rsort qs).map f) (some i) (some j) = (inner qs m).map f := by
  subst hi hj
  rw [cut_mid (by omega) (by omega) (by rw [List.length_map, rsort_len]; omega)]
  unfold inner
  rw [List.map_take, List.map_drop]
  congr 1
  omega
theorem at_head {f : Rat → PV} {l : List Rat} (h : l ≠ []) : L2.atI (l.map f) 0 = some (f (l.headD 0)) := by
  cases l with
  | nil => exact absurd rfl h
  | cons q l => simp
theorem at_last {f : Rat → PV} {l : List Rat} (h : l ≠ []) : L2.atI (l.map f) (-1) = some (f (l.getLastD 0)) := by
  have hl : 0 < l.length := List.length_pos_iff.mpr h
  unfold L2.atI L2.ixN
  rw [if_neg (by omega), List.length_map, if_pos (by omega)]
  have e : (((-1 : Int) + (l.length : Int)).toNat) = l.length - 1 := by omega
  simp only [e]
  show (List.map f l)[l.length - 1]? = _
  rw [List.getElem?_map, ← List.getLast?_eq_getElem?, List.getLast?_eq_some_getLast h, List.getLastD_eq_getLast?, List.getLast?_eq_some_getLast h]
  rfl
theorem pull_map {f : Rat → PV} {l : List Rat} {m : Nat} : List.replicate m (f (l.headD 0)) ++ l.map f ++ List.replicate m (f (l.getLastD 0)) = (pull l m).map f := by
  unfold pull
  rw [List.map_append, List.map_append, List.map_replicate, List.map_replicate]
theorem pull_mem {l : List Rat} {m : Nat} (hne : l ≠ []) {q : Rat} (h : q ∈ pull l m) : q ∈ l := by
  unfold pull at h
  rcases List.mem_append.mp h with h | h
  · rcases List.mem_append.mp h with h | h
    · rw [List.eq_of_mem_replicate h]
      cases l with
      | nil => exact absurd rfl hne
      | cons q l => exact List.mem_cons_self
    · exact h
  · rw [List.eq_of_mem_replicate h, List.getLastD_eq_getLast?, List.getLast?_eq_some_getLast hne]
    exact List.getLast_mem hne
theorem pull_len {l : List Rat} {m : Nat} : (pull l m).length = m + l.length + m := by
  unfold pull; simp; omega
theorem e_trimmed (h : All2 qs ps) (hs : sm = .lst ps ∨ sm = .tup ps) (s : Sm D (N * B)) (hB : 1 ≤ B) (hz : ∀ q ∈ qs, Zd D B q) (hne : qs ≠ []) (hn : qs.length ≤ N) (hN : N ≤ 1000) (hc : Zb c a) (ha : a ≤ 3000) (hp : Is c p) (h1 : 0 ≤ c.num) (h2 : 2 * c.num < c.den) {i : Int} (hm : fl (c * ((qs.length : Int) : Rat)) = i) (h0 : 0 ≤ i) (hm2 : 2 * i < qs.length) (mu : List MO) :
    F_trimmed_mean [sm, p] mu = .ok (.rat (mn (inner qs i.toNat))) mu := by
  obtain ⟨m, hmi⟩ : ∃ m, m = i.toNat := ⟨_, rfl⟩
  rw [← hmi]
  have hl : 0 < qs.length := List.length_pos_iff.mpr hne
  have e1 := e_cut_values h hs (s.le s.pos (Nat.le_refl _) (Nat.le_mul_of_pos_left _ (by omega))) hz hne (by omega) hc ha hp h1 h2 mu
  rw [hm] at e1
  have e2 := cut_inner (qs := qs) (f := .rat) (m := m) (i := i) (j := (qs.length : Int) - i) (by omega) (by omega) (by omega)
  have hil := inner_len (qs := qs) (m := m) (by omega)
  have hi : inner qs m ≠ [] := fun z => by rw [z] at hil; simp at hil; omega
  have e3 := z_mean_of s hB (fun q hq => hz q (inner_mem hq)) hi (by omega) (by omega) mu
  have e3 : F_mean_of [.lst ((inner qs m).map .rat)] mu = .ok (.rat (mn (inner qs m))) mu := e3
  simp [F_trimmed_mean, runBody, d_trimmed_mean, e1, rsort_len, e2, e3]
theorem e_pulled (h : All2 qs ps) (hs : sm = .lst ps ∨ sm = .tup ps) (s : Sm D (N * B)) (hB : 1 ≤ B) (hz : ∀ q ∈ qs, Zd D B q) (hne : qs ≠ []) (hn : qs.length ≤ N) (hN : N ≤ 1000) (hc : Zb c a) (ha : a ≤ 3000) (hp : Is c p) (h1 : 0 ≤ c.num) (h2 : 2 * c.num < c.den) {i : Int} (hm : fl (c * ((qs.length : Int) : Rat)) = i) (h0 : 0 ≤ i) (hm2 : 2 * i < qs.length) (mu : List MO) :
    F_pulled_mean [sm, p] mu = .ok (.rat (mn (pull (inner qs i.toNat) i.toNat))) mu := by
  obtain ⟨m, hmi⟩ : ∃ m, m = i.toNat := ⟨_, rfl⟩
  rw [← hmi]
  have hl : 0 < qs.length := List.length_pos_iff.mpr hne
  have e1 := e_cut_values h hs (s.le s.pos (Nat.le_refl _) (Nat.le_mul_of_pos_left _ (by omega))) hz hne (by omega) hc ha hp h1 h2 mu
  rw [hm] at e1
  have e2 := cut_inner (qs := qs) (f := .rat) (m := m) (i := i) (j := (qs.length : Int) - i) (by omega) (by omega) (by omega)
  have hil := inner_len (qs := qs) (m := m) (by omega)
  have hi : inner qs m ≠ [] := fun z => by rw [z] at hil; simp at hil; omega
  have hpl := pull_len (l := inner qs m) (m := m)
  have e3 := z_mean_of s hB (fun q hq => hz q (inner_mem (pull_mem hi hq))) (qs := pull (inner qs m) m) (fun z => by rw [z] at hpl; simp at hpl; omega) (by omega) (by omega) mu
  have e3 : F_mean_of [.lst ((pull (inner qs m) m).map .rat)] mu = .ok (.rat (mn (pull (inner qs m) m))) mu := e3
  rw [← pull_map] at e3
  have e4 := at_head (f := .rat) hi
  have e5 := at_last (f := .rat) hi
  have b1 : m + (inner qs m).length ≤ 16777216 := by omega
  have b2 : m + ((inner qs m).length + m) ≤ 16777216 := by omega
  have b0 : (-9223372036854775808 : Int) ≤ i ∧ i < 9223372036854775808 ∧ i.toNat ≤ 16777216 := by omega
  have h : W (F_pulled_mean [sm, p] mu) (fun v mu' => v = .rat (mn (pull (inner qs m) m)) ∧ mu' = mu) := by
    unfold F_pulled_mean d_pulled_mean
    simp [-List.headD_eq_head?_getD, -List.getLastD_eq_getLast?, W_runBody, e1, rsort_len, e2, e4, e5, b0]
    rw [← hmi]
    refine ⟨b1, by omega, ?_⟩
    rw [← List.append_assoc, e3]
    simp
  obtain ⟨v, mu', e, rfl, rfl⟩ := h.out
  exact e
end
theorem share_num {t b : Int} (h0 : 0 ≤ t) (h : 2 * t < b) : 0 ≤ (Rat.divInt t b).num ∧ 2 * (Rat.divInt t b).num < ((Rat.divInt t b).den : Int) := by
  obtain ⟨m, hm, h1, h2⟩ := Rat.divInt_num_den (z' := (Rat.divInt t b).den_nz) (c := (Rat.divInt t b).reduced) (by omega : b ≠ 0) rfl
  have hd := (Rat.divInt t b).den_pos
  generalize Rat.divInt t b = q at *
  have hm' : 0 < m := by
    rcases Int.lt_or_gt_of_ne hm with z | z
    · have : (q.den : Int) * m < 0 := Int.mul_neg_of_pos_of_neg (by omega) z
      omega
    · exact z
  constructor
  · have h3 : 0 ≤ q.num * m := by omega
    exact Int.nonneg_of_mul_nonneg_left h3 hm'
  · have h4 : (2 * q.num) * m < (q.den : Int) * m := by rw [Int.mul_assoc, ← h1, ← h2]; exact h
    exact Int.lt_of_mul_lt_mul_right h4 (Int.le_of_lt hm')
theorem cut_small {n t b : Int} (h0 : 0 ≤ t) (h : 2 * t < b) (hn : 0 < n) : 0 ≤ n * t / b ∧ 2 * (n * t / b) < n := by
  have hb : 0 < b := by omega
  refine ⟨Int.ediv_nonneg (Int.mul_nonneg (by omega) h0) (by omega), ?_⟩
  have h1 : n * t / b * b ≤ n * t := Int.ediv_mul_le _ (by omega)
  have h2 : n * (2 * t) ≤ n * (b - 1) := Int.mul_le_mul_of_nonneg_left (by omega) (by omega)
  have h3 : 2 * (n * t / b) * b < n * b := by
    have e1 : 2 * (n * t / b) * b = 2 * (n * t / b * b) := by rw [Int.mul_assoc]
    have e2 : n * (2 * t) = 2 * (n * t) := by rw [Int.mul_left_comm]
    have e3 : n * (b - 1) = n * b - n := by rw [Int.mul_sub, Int.mul_one]
    omega
  exact Int.lt_of_mul_lt_mul_right h3 (by omega)
theorem fl_share {t b n : Int} (hb : 0 < b) : fl (Rat.divInt t b * (n : Rat)) = n * t / b := by
  have e : Rat.divInt t b * (n : Rat) = Rat.divInt (n * t) b := by
    rw [← divInt_one n, Rat.divInt_mul_divInt, Int.mul_one, Int.mul_comm]
  rw [e, fl_divInt _ _ hb]
theorem sm13 : Sm 60 (12 * 100 + 100) := ⟨by decide, by decide +kernel, by decide +kernel⟩
theorem inner13 (C : Addr) {i : Int} {n k : Nat} {mu : List MO} {qs : List Rat} {sm p0 : PV} {ps : List PV} {o2 o5 o6 o10 o11 o12 o13 : Option SV} (h : Src mu n k) (hk : k ≤ 5000) (hz : ∀ q ∈ qs, Zd 60 100 q) (hne : qs ≠ []) (hl : qs.length ≤ 12) (ha : All2 qs ps) (hs : sm = .lst ps ∨ sm = .tup ps) (P : Fl → S → Prop)
    (hP : ∀ o6 o10 o11 o12 o13 mu', Src mu' n (k + 2) → P .nx ⟨[some (.val p0), some (.val (.int i)), o2, some (.val (.ptr n)), some (.val (.lst (qs.map fr))), o5, o6, some (.val sm), some (.val (.lst ((rsort qs).map fr))), some (.val (.int (qs.length : Int))), o10, o11, o12, o13], mu'⟩) :
    W (b_law_k13_1 C ⟨[some (.val p0), some (.val (.int i)), o2, some (.val (.ptr n)), some (.val (.lst (qs.map fr))), o5, o6, some (.val sm), some (.val (.lst ((rsort qs).map fr))), some (.val (.int (qs.length : Int))), o10, o11, o12, o13], mu⟩) P := by
  have h0 : 0 < qs.length := List.length_pos_iff.mpr hne
  have i2 : ib 2 = 2 := by decide
  obtain ⟨L, hL⟩ : ∃ L : Int, L = (qs.length : Int) := ⟨_, rfl⟩
  have iL : ib 2 + ib L ≤ 1000000 := by have := ib_le (i := L) (b := 4) (by omega); omega
  have hP' := hP
  rw [← hL] at hP ⊢
  unfold b_law_k13_1
  simp [iL]
  refine w_pick h (by omega) (by simp) (by simp) fun x m1 hx h1 => ?_
  have hxx : ∃ b : Int, x = .int b ∧ 1 ≤ b ∧ b ≤ 99 := by
    simp only [List.mem_cons, List.not_mem_nil, or_false] at hx
    rcases hx with h | h | h | h <;> exact ⟨_, h, by omega, by omega⟩
  obtain ⟨b, rfl, b1, b2⟩ := hxx
  have i29 : ib 2 ≤ 9000 := by decide
  simp [i29]
  have hbb := ib_le (i := (1 + b + 1) / 2) (b := 8) (by omega)
  refine w_next h1 (by omega) (by omega) (by omega) fun t m2 t1 t2 h2 => ?_
  obtain ⟨B, hB⟩ : ∃ B : Int, B = 1 + b := ⟨_, rfl⟩
  have hB2 : 2 * t < B := by omega
  have hB3 : B ≤ 100 := by omega
  rw [← hB]
  have hB0 : 0 < B := by omega
  have iB : ib B ≤ 9000 := by have := ib_le (i := B) (b := 7) (by omega); omega
  have iT : ib L + ib t ≤ 1000000 := by have := ib_le (i := L) (b := 4) (by omega); have := ib_le (i := t) (b := 8) (by omega); omega
  obtain ⟨c0, c1⟩ := cut_small t1 hB2 (show 0 < L by omega)
  have fe := fl_share (t := t) (n := L) hB0
  generalize hcc : L * t / B = cc at *
  have e2 := cut_inner (qs := qs) (f := fr) (m := cc.toNat) (i := cc) (j := L - cc) (by omega) (by omega) (by omega)
  have hil := inner_len (qs := qs) (m := cc.toNat) (by omega)
  have hi : inner qs cc.toNat ≠ [] := fun z => by rw [z] at hil; simp at hil; omega
  simp [hB0, iB, iT, hcc, e2]
  have zc : Zb (Rat.divInt t B) 8 := by
    have := divInt_parts t B (by omega)
    exact ⟨by have := this.1; omega, by have := this.2; omega⟩
  have sn := share_num t1 hB2
  have oB : okR t B = true := decide_eq_true iB
  have hLq : ((qs.length : Int) : Rat) = (L : Rat) := by rw [hL]
  have fin : ∀ p, Is (Rat.divInt t B) p → ∀ mu, F_trimmed_mean [sm, p] mu = .ok (.rat (mn (inner qs cc.toNat))) mu ∧ F_pulled_mean [sm, p] mu = .ok (.rat (mn (pull (inner qs cc.toNat) cc.toNat))) mu := fun p hp mu => by
    have s0 : Sm 60 (12 * 100) := sm13.le (by decide) (by decide) (by decide)
    exact ⟨e_trimmed ha hs s0 (by decide) hz hne hl (by decide) zc (by decide) hp sn.1 sn.2 (i := cc) (by rw [hLq]; exact fe) c0 (by omega) mu,
      e_pulled ha hs s0 (by decide) hz hne hl (by decide) zc (by decide) hp sn.1 sn.2 (i := cc) (by rw [hLq]; exact fe) c0 (by omega) mu⟩
  have k1 := fun mu => z_lmean sm13 (fun q hq => hz q (inner_mem hq)) hi (by omega) (by decide) mu
  have k1 : ∀ mu, F_w_mean [.lst ((inner qs cc.toNat).map fr)] mu = .ok (fr (mn (inner qs cc.toNat))) mu := k1
  have hpl := pull_len (l := inner qs cc.toNat) (m := cc.toNat)
  have k2 := fun mu => z_lmean sm13 (fun q hq => hz q (inner_mem (pull_mem hi hq))) (qs := pull (inner qs cc.toNat) cc.toNat) (fun z => by rw [z] at hpl; simp at hpl; omega) (by omega) (by decide) mu
  have k2 : ∀ mu, F_w_mean [.lst ((pull (inner qs cc.toNat) cc.toNat).map fr)] mu = .ok (fr (mn (pull (inner qs cc.toNat) cc.toNat))) mu := k2
  rw [← pull_map, List.append_assoc] at k2
  have a1 := at_head (f := fr) hi
  have a2 := at_last (f := fr) hi
  have b0 : (-9223372036854775808 : Int) ≤ cc ∧ cc < 9223372036854775808 ∧ cc.toNat ≤ 16777216 := by omega
  have l1 : cc.toNat + (inner qs cc.toNat).length ≤ 16777216 := by omega
  have l2 : cc.toNat + ((inner qs cc.toNat).length + cc.toNat) ≤ 16777216 := by omega
  split
  · have z : ¬ B = 0 := by omega
    have f1 := fun mu => (fin _ (.inl rfl) mu).1
    have f2 := fun mu => (fin _ (.inl rfl) mu).2
    simp [-List.headD_eq_head?_getD, -List.getLastD_eq_getLast?, oB, z, f1, f2, e_taken, k1, a1, a2, b0, l1, l2, k2]
    exact ⟨by omega, hP _ _ _ _ _ _ h2⟩
  · have t0 : t = 0 := by omega
    have hp : Is (Rat.divInt t B) (.int 0) := .inr ⟨by rw [t0]; simp, by rw [t0]; simp⟩
    have f1 := fun mu => (fin _ hp mu).1
    have f2 := fun mu => (fin _ hp mu).2
    simp [-List.headD_eq_head?_getD, -List.getLastD_eq_getLast?, f1, f2, e_taken, k1, a1, a2, b0, l1, l2, k2]
    exact ⟨by omega, hP _ _ _ _ _ _ h2⟩
theorem getD_get {l : List Rat} {i : Nat} (h : i < l.length) : l.getD i 0 = l[i] := by
  simp [List.getD_eq_getElem?_getD, h]
theorem at_int {α : Type} {xs : List α} {i : Int} (h0 : 0 ≤ i) (h : i.toNat < xs.length) : L2.atI xs i = some xs[i.toNat] := by
  have e := at_of h
  rwa [Int.toNat_of_nonneg h0] at e
def medl (qs : List Rat) : List Rat := [(rsort qs).getD ((qs.length - 1) / 2) 0, (rsort qs).getD (qs.length / 2) 0]
theorem med_inner {qs : List Rat} (h : qs ≠ []) : mn (medl qs) = mn (inner qs ((qs.length - 1) / 2)) := by
  have h0 : 0 < qs.length := List.length_pos_iff.mpr h
  have hl := rsort_len qs
  unfold medl inner
  obtain ⟨m, hm⟩ : ∃ m, m = (qs.length - 1) / 2 := ⟨_, rfl⟩
  rw [← hm]
  by_cases z : qs.length = 2 * m + 1
  · have e1 : qs.length / 2 = m := by omega
    have e2 : qs.length - m - m = 1 := by omega
    rw [e1, e2]
    have hlt : m < (rsort qs).length := by omega
    rw [List.drop_eq_getElem_cons hlt, List.take_succ_cons, List.take_zero, getD_get hlt]
    generalize (rsort qs)[m] = x
    simp [mn, sumQ]
    grind
  · have e1 : qs.length / 2 = m + 1 := by omega
    have e2 : qs.length - m - m = 2 := by omega
    rw [e1, e2]
    have hlt : m < (rsort qs).length := by omega
    have hlt2 : m + 1 < (rsort qs).length := by omega
    rw [List.drop_eq_getElem_cons hlt, List.take_succ_cons, List.drop_eq_getElem_cons hlt2, List.take_succ_cons, List.take_zero, getD_get hlt, getD_get hlt2]
theorem medl_mem {qs : List Rat} (h : qs ≠ []) {q : Rat} (hq : q ∈ medl qs) : q ∈ qs := by
  have h0 : 0 < qs.length := List.length_pos_iff.mpr h
  have hl := rsort_len qs
  unfold medl at hq
  simp only [List.mem_cons, List.not_mem_nil, or_false] at hq
  rcases hq with e | e
  · rw [e, getD_get (by omega)]; exact (rsort_perm qs).mem_iff.mp (List.getElem_mem _)
  · rw [e, getD_get (by omega)]; exact (rsort_perm qs).mem_iff.mp (List.getElem_mem _)
theorem at_rs {f : Rat → PV} {qs : List Rat} {i : Int} {j : Nat} (hi : i.toNat = j) (h0 : 0 ≤ i) (h : j < qs.length) : L2.atI ((rsort qs).map f) i = some (f ((rsort qs).getD j 0)) := by
  subst hi
  rw [at_int h0 (by rw [List.length_map, rsort_len]; exact h), List.getElem_map, getD_get (by rw [rsort_len]; exact h)]
theorem e_lmedian {D B : Nat} (s : Sm D (2 * B + B)) {qs : List Rat} (hz : ∀ q ∈ qs, Zd D B q) (hne : qs ≠ []) (hn : qs.length ≤ 4000) (mu : List MO) : F_w_median [.lst (qs.map fr)] mu = .ok (fr (mn (medl qs))) mu := by
  have h0 : 0 < qs.length := List.length_pos_iff.mpr hne
  have e1 := e_sorted (s.le s.pos (Nat.le_refl _) (Nat.le_add_left _ _)) hz (by omega) mu
  have a1 := at_rs (f := fr) (qs := qs) (i := ((qs.length : Int) - 1) / 2) (j := (qs.length - 1) / 2) (by omega) (by omega) (by omega)
  have a2 := at_rs (f := fr) (qs := qs) (i := (qs.length : Int) / 2) (j := qs.length / 2) (by omega) (by omega) (by omega)
  have i2 : ib 2 ≤ 9000 := by decide
  have e2 := z_lmean (N := 2) s (fun q hq => hz q (medl_mem hne hq)) (by simp [medl]) (by simp [medl]) (by decide) mu
  have e2 : F_w_mean [.lst [fr ((rsort qs).getD ((qs.length - 1) / 2) 0), fr ((rsort qs).getD (qs.length / 2) 0)]] mu = .ok (fr (mn (medl qs))) mu := e2
  have h : W (F_w_median [.lst (qs.map fr)] mu) (fun v mu' => v = fr (mn (medl qs)) ∧ mu' = mu) := by
    unfold F_w_median d_w_median
    simp [-List.getD_eq_getElem?_getD, W_runBody, e1, i2, rsort_len, a1, a2, e2]
  obtain ⟨v, mu', e, rfl, rfl⟩ := h.out
  exact e
theorem turn13 (C : Addr) {ns : List Int} {i : Nat} (hi : i ≤ 4) {mu : List MO} {o2 o3 o4 o5 o6 o7 o8 o9 o10 o11 o12 o13 : Option SV} (hf : flatMs mu = true) (P : Fl → S → Prop)
    (hP : ∀ o3 o4 o5 o6 o7 o8 o9 o10 o11 o12 o13 mu', flatMs mu' = true → P .nx ⟨[some (.val (.frz (ns.map .int))), some (.val (.int (i : Int))), o2, o3, o4, o5, o6, o7, o8, o9, o10, o11, o12, o13], mu'⟩) :
    W (b_law_k13_2 C ⟨[some (.val (.frz (ns.map .int))), some (.val (.int (i : Int))), o2, o3, o4, o5, o6, o7, o8, o9, o10, o11, o12, o13], mu⟩) P := by
  unfold b_law_k13_2
  simp
  refine w_source (by omega) hf fun m1 h1 => ?_
  simp
  refine w_filled (m := 12) h1 (by omega) (by omega) (by omega) fun qs m2 hz hl hne h2 => ?_
  have hz1 : ∀ q ∈ qs, Zd 60 100 q := fun q hq => (hz q hq).mono (Nat.dvd_refl _) (by decide)
  have sm0 : Sm 60 100 := sm13.le (by decide) (by decide) (by decide)
  have h0 : 0 < qs.length := List.length_pos_iff.mpr hne
  simp
  refine w_framed sm0 h2 (by omega) hz1 (by omega) fun sm ps m3 hs ha h3 => ?_
  have es := fun mu => e_sorted sm0 hz1 (by omega) mu
  simp [es]
  refine W_forL (I := fun xs s => ∃ o5 o6 o10 o11 o12 o13 m k, Src m mu.length k ∧ k + 2 * xs.length ≤ 4000 ∧ s = ⟨[some (.val (.frz (ns.map .int))), some (.val (.int (i : Int))), o2, some (.val (.ptr mu.length)), some (.val (.lst (qs.map fr))), o5, o6, some (.val sm), some (.val (.lst ((rsort qs).map fr))), some (.val (.int (qs.length : Int))), o10, o11, o12, o13], m⟩)
    ⟨o5, o6, o10, o11, o12, o13, m3, _, h3, by simp [rangeP]; omega, rfl⟩ ?_ ?_
  · intro x xs s hI
    obtain ⟨o5, o6, o10, o11, o12, o13, m, k, hS, hk, hs'⟩ := hI
    subst hs'
    simp only [List.length_cons] at hk
    simp
    refine inner13 C (i := (i : Int)) (qs := qs) (sm := sm) (ps := ps) (o5 := some (.val x)) (o6 := o6) (o10 := o10) (o11 := o11) (o12 := o12) (o13 := o13) hS (by omega) hz1 hne hl ha hs _ ?_
    intro a6 a10 a11 a12 a13 mu' h'
    simp only []
    refine ⟨some (.val x), a6, a10, a11, a12, a13, mu', k + 2, h', by omega, rfl⟩
  · intro s hI
    obtain ⟨o5, o6, o10, o11, o12, o13, m, k, hS, hk, hs'⟩ := hI
    subst hs'
    have o49 : okR 499 1000 = true := by decide
    obtain ⟨L, hL⟩ : ∃ L : Int, L = (qs.length : Int) := ⟨_, rfl⟩
    have l40 : L < 40 := by omega
    have hLq : ((qs.length : Int) : Rat) = (L : Rat) := by rw [hL]
    have fe := fl_share (t := 499) (b := 1000) (n := L) (by decide)
    have ec : L * 499 / 1000 = (L - 1) / 2 := by omega
    have sn := share_num (t := 499) (b := 1000) (by decide) (by decide)
    have zc : Zb (Rat.divInt 499 1000) 10 := ⟨by decide +kernel, by decide +kernel⟩
    have k1 := fun mu => e_trimmed ha hs (N := 12) (sm13.le (by decide) (by decide) (by decide)) (by decide) hz1 hne hl (by decide) zc (by decide) (.inl rfl) sn.1 sn.2 (i := (L - 1) / 2) (by rw [hLq, fe, ec]) (by omega) (by omega) mu
    have em : ((L - 1) / 2).toNat = (qs.length - 1) / 2 := by omega
    rw [em, ← med_inner hne] at k1
    have k2 := fun mu => e_lmedian (D := 60) (B := 100) (sm13.le (by decide) (by decide) (by decide)) hz1 hne (by omega) mu
    rw [← hL]
    simp [o49, l40, k1, k2, e_taken]
    rw [hL]
    exact hP _ _ _ _ _ _ _ _ _ _ _ _ hS.flat
theorem cs5 : All2 [0, 2, 3, 4, 100] [.int 0, .int 2, .int 3, .int 4, .int 100] := .cons (.inr ⟨rfl, rfl⟩) (.cons (.inr ⟨rfl, rfl⟩) (.cons (.inr ⟨rfl, rfl⟩) (.cons (.inr ⟨rfl, rfl⟩) (.cons (.inr ⟨rfl, rfl⟩) .nil))))
theorem hz5 : ∀ q ∈ ([0, 2, 3, 4, 100] : List Rat), Zd 60 100 q := fun q hq => by
  simp only [List.mem_cons, List.not_mem_nil, or_false] at hq
  rcases hq with rfl | rfl | rfl | rfl | rfl <;> exact ⟨by decide, by decide +kernel⟩
theorem law_k13 (C : Addr) (ns : List Int) (hn : ns.length ≤ 63) : ∃ mu', F_law_k13 C [.frz (ns.map .int)] [] = .ok (.bl true) mu' := by
  have h : W (F_law_k13 C [.frz (ns.map .int)] []) (fun v _ => v = .bl true) := by
    unfold F_law_k13 d_law_k13
    simp [W_runBody]
    refine ⟨by omega, ?_⟩
    refine turns (by omega) (fun r => ∃ o3 o4 o5 o6 o7 o8 o9 o10 o11 o12 o13, r = [none, o3, o4, o5, o6, o7, o8, o9, o10, o11, o12, o13]) ⟨none, none, none, none, none, none, none, none, none, none, none, rfl⟩ rfl ?_ ?_
    · rintro i rest mu hi ⟨o3, o4, o5, o6, o7, o8, o9, o10, o11, o12, o13, rfl⟩ hf
      refine turn13 C (ns := ns) (i := i) (o2 := none) (o3 := o3) (o4 := o4) (o5 := o5) (o6 := o6) (o7 := o7) (o8 := o8) (o9 := o9) (o10 := o10) (o11 := o11) (o12 := o12) (o13 := o13) hi hf _ ?_
      intro a3 a4 a5 a6 a7 a8 a9 a10 a11 a12 a13 mu' hf'
      exact ⟨rfl, _, mu', ⟨a3, a4, a5, a6, a7, a8, a9, a10, a11, a12, a13, rfl⟩, hf', rfl⟩
    · rintro o1 rest mu ⟨o3, o4, o5, o6, o7, o8, o9, o10, o11, o12, o13, rfl⟩ hf
      have sn := share_num (t := 1) (b := 5) (by decide) (by decide)
      have zc : Zb (Rat.divInt 1 5) 10 := ⟨by decide +kernel, by decide +kernel⟩
      have v0 : fl (Rat.divInt 1 5 * (((([0, 2, 3, 4, 100] : List Rat).length : Int)) : Rat)) = 1 := by decide +kernel
      have s0 : Sm 60 (12 * 100) := sm13.le (by decide) (by decide) (by decide)
      have k1 := fun mu => e_trimmed cs5 (.inr rfl) s0 (by decide) hz5 (by decide) (by decide) (by decide) zc (by decide) (.inl rfl) sn.1 sn.2 (i := 1) v0 (by decide) (by decide) mu
      have k2 := fun mu => e_pulled cs5 (.inr rfl) s0 (by decide) hz5 (by decide) (by decide) (by decide) zc (by decide) (.inl rfl) sn.1 sn.2 (i := 1) v0 (by decide) (by decide) mu
      have v1 : mn (inner [0, 2, 3, 4, 100] (Int.toNat 1)) = 3 := by decide +kernel
      have v2 : mn (pull (inner [0, 2, 3, 4, 100] (Int.toNat 1)) (Int.toNat 1)) = 3 := by decide +kernel
      rw [v1] at k1
      rw [v2] at k2
      have k4 := fun mu => e_all_taken [3, 3] (by decide) mu
      simp at k4
      have f1 : fr 3 = .tup [.int 3, .int 1] := fr_of (d := 1) (by decide +kernel) (by decide +kernel)
      rw [f1] at k4
      have o15 : okR 1 5 = true := by decide
      simp [k1, k2, k4, okD, okDL, eqP, eqPL, o15]
  obtain ⟨v, mu', e, rfl⟩ := h.out
  exact ⟨mu', e⟩
end PX

set_option maxHeartbeats 1000000
namespace PX
open PySem L3 LD PC PD
/-! ## distances -/
def ab (q : Rat) : Rat := ⟨q.num.natAbs, q.den, q.den_nz, by simpa using q.reduced⟩
theorem ab_num (q : Rat) : (ab q).num = (q.num.natAbs : Int) := rfl
theorem ab_den (q : Rat) : (ab q).den = q.den := rfl
theorem ab_divInt (q : Rat) : Rat.divInt (q.num.natAbs : Int) q.den = ab q := Rat.num_divInt_den (ab q)
theorem ab_nonneg {q : Rat} (h : 0 ≤ q) : ab q = q := by
  have h0 : 0 ≤ q.num := Rat.num_nonneg.mpr h
  rw [← ab_divInt, Int.natAbs_of_nonneg h0, Rat.num_divInt_den]
theorem ab_neg (q : Rat) : ab (-q) = ab q := by
  rw [← ab_divInt, ← ab_divInt q, Rat.neg_num, Rat.neg_den, Int.natAbs_neg]
theorem ab_comm (x y : Rat) : ab (x - y) = ab (y - x) := by
  rw [← ab_neg, Rat.neg_sub]
theorem zd_ab {D B : Nat} {q : Rat} (h : Zd D B q) : Zd D B (ab q) := ⟨h.dvd, by rw [ab_num, ab_den, Int.natAbs_natCast]; exact h.le⟩
theorem e_abs {q : Rat} {a : Nat} (h : Zb q a) (ha : a ≤ 8000) (mu : List MO) : F_Ratio___abs__ [.rat q] mu = .ok (.rat (ab q)) mu := by
  have h9 : okR (q.num.natAbs : Int) (q.den : Int) = true := by
    have := h.ib_den
    exact decide_eq_true (by omega)
  have hx : ¬ q.den = 0 := q.den_nz
  rw [← ab_divInt]
  simp [F_Ratio___abs__, runBody, d_Ratio___abs__, h9, hx]
def far (qs : List Rat) (c : Rat) : List Rat := qs.map fun q => ab (q - c)
theorem far_len (qs : List Rat) (c : Rat) : (far qs c).length = qs.length := List.length_map _
theorem far_zd {D A B : Nat} {qs : List Rat} {c : Rat} (h0 : 0 < D) (hz : ∀ q ∈ qs, Zd D A q) (hc : Zd D B c) : ∀ q ∈ far qs c, Zd D (A + B) q := fun q hq => by
  obtain ⟨x, hx, rfl⟩ := List.mem_map.mp hq
  exact zd_ab (Zd.sub h0 (hz x hx) hc)
theorem e_distances {qs : List Rat} {c : Rat} {p : PV} {a b : Nat} (hz : ∀ q ∈ qs, Zb q a) (hc : Zb c b) (hs : ∀ q ∈ qs, Zb (q - c) 8000) (hab : a + b ≤ 8000) (hp : Is c p) (hn : qs.length ≤ 10000) (mu : List MO) :
    F_distances [.lst (qs.map .rat), p] mu = .ok (.lst ((far qs c).map .rat)) mu := by
  have h : W (F_distances [.lst (qs.map .rat), p] mu) (fun v mu' => v = .lst ((far qs c).map .rat) ∧ mu' = mu) := by
    unfold F_distances d_distances
    simp [W_runBody]
    refine W_compMap qs .rat (fun q => .rat (ab (q - c))) (by omega) ?_ ?_
    · intro q hq
      have e1 := fun mu => e_sub (hz q hq) hc hp hab mu
      have e2 := fun mu => e_abs (hs q hq) (by omega) mu
      rcases hp with h | ⟨h', h⟩ <;> subst h <;> simp [e_distances_1, gRL, gAbs, e1, e2, wipeE]
    · simp [far, List.map_map, Function.comp_def, wipeE]
  obtain ⟨v, mu', e, rfl, rfl⟩ := h.out
  exact e
theorem e_lfar {qs : List Rat} {c : Rat} {a b : Nat} (hz : ∀ q ∈ qs, Zb q a) (hc : Zb c b) (hab : a + b ≤ 8000) (hn : qs.length ≤ 10000) (mu : List MO) :
    F_w_far [.lst (qs.map fr), fr c] mu = .ok (.lst ((far qs c).map fr)) mu := by
  have h : W (F_w_far [.lst (qs.map fr), fr c] mu) (fun v mu' => v = .lst ((far qs c).map fr) ∧ mu' = mu) := by
    unfold F_w_far d_w_far
    simp [W_runBody]
    refine W_compMap qs fr (fun q => fr (q - c)) (by omega) ?_ ?_
    · intro q hq
      have e1 := fun mu => e_minus (hz q hq) hc hab mu
      simp [e_w_far_1, e1, wipeE]
    · simp [-List.map_map, wipeE]
      refine W_compMap qs (fun q => fr (q - c)) (fun q => fr (ab (q - c))) (by omega) ?_ ?_
      · intro q hq
        simp [e_w_far_2, fr, ab_num, ab_den, wipeE]
      · simp [far, List.map_map, Function.comp_def, wipeE]
  obtain ⟨v, mu', e, rfl, rfl⟩ := h.out
  exact e
/-! ## the median in the program -/
theorem e_median_of {D B : Nat} (s : Sm D (2 * B)) (hB : 1 ≤ B) {qs : List Rat} (hz : ∀ q ∈ qs, Zd D B q) (hne : qs ≠ []) (hn : qs.length ≤ 4000) (mu : List MO) : F_median_of [.lst ((rsort qs).map .rat)] mu = .ok (.rat (mn (medl qs))) mu := by
  have h0 : 0 < qs.length := List.length_pos_iff.mpr hne
  have a1 := at_rs (f := .rat) (qs := qs) (i := ((qs.length : Int) - 1) / 2) (j := (qs.length - 1) / 2) (by omega) (by omega) (by omega)
  have a2 := at_rs (f := .rat) (qs := qs) (i := (qs.length : Int) / 2) (j := qs.length / 2) (by omega) (by omega) (by omega)
  have i2 : ib 2 ≤ 9000 := by decide
  have e2 := z_mean_of (N := 2) s hB (fun q hq => hz q (medl_mem hne hq)) (by simp [medl]) (by simp [medl]) (by decide) mu
  have e2 : F_mean_of [.lst [.rat ((rsort qs).getD ((qs.length - 1) / 2) 0), .rat ((rsort qs).getD (qs.length / 2) 0)]] mu = .ok (.rat (mn (medl qs))) mu := e2
  have h : W (F_median_of [.lst ((rsort qs).map .rat)] mu) (fun v mu' => v = .rat (mn (medl qs)) ∧ mu' = mu) := by
    unfold F_median_of d_median_of
    simp [-List.getD_eq_getElem?_getD, W_runBody, i2, rsort_len, a1, a2, e2]
  obtain ⟨v, mu', e, rfl, rfl⟩ := h.out
  exact e
theorem medl_zd {D B : Nat} (h0 : 0 < D) {qs : List Rat} (hz : ∀ q ∈ qs, Zd D B q) (hne : qs ≠ []) : Zd (D * 232792560) (2 * B) (mn (medl qs)) :=
  Zd.mean h0 (fun q hq => hz q (medl_mem hne hq)) (by simp [medl]) (by simp [medl]) (by decide)
/-! ## pairs of places -/
def ix : Nat → List Rat → List (Nat × Rat)
  | _, [] => []
  | k, q :: qs => (k, q) :: ix (k + 1) qs
theorem ix_len : ∀ (qs : List Rat) (k : Nat), (ix k qs).length = qs.length
  | [], _ => rfl
  | _ :: qs, k => by simp [ix, ix_len qs]
theorem ix_mem : ∀ {qs : List Rat} {k : Nat} {p : Nat × Rat}, p ∈ ix k qs → p.2 ∈ qs ∧ k ≤ p.1 ∧ p.1 < k + qs.length
  | q :: qs, k, p, h => by
    rcases List.mem_cons.mp h with rfl | h
    · exact ⟨List.mem_cons_self, Nat.le_refl _, by rw [List.length_cons]; omega⟩
    · obtain ⟨a, b, c⟩ := ix_mem h
      exact ⟨List.mem_cons_of_mem _ a, by omega, by rw [List.length_cons]; omega⟩
theorem enumP_ix' (f : Rat → PV) : ∀ (qs : List Rat) (k0 : Nat), ((List.range qs.length).map fun (k : Nat) => PV.tup [.int ((k + k0 : Nat) : Int), (qs.map f).getD k .non]) = (ix k0 qs).map fun p => .tup [.int (p.1 : Int), f p.2]
  | [], _ => rfl
  | q :: qs, k0 => by
    rw [List.length_cons, List.range_succ_eq_map, List.map_cons, List.map_map]
    show _ :: _ = _ :: (ix (k0 + 1) qs).map _
    rw [← enumP_ix' f qs (k0 + 1)]
    congr 1
    · rw [Nat.zero_add]; rfl
    · refine List.map_congr_left fun k _ => ?_
      show PV.tup [.int ((k + 1 + k0 : Nat) : Int), _] = PV.tup [.int ((k + (k0 + 1) : Nat) : Int), _]
      rw [show k + 1 + k0 = k + (k0 + 1) by omega]
      rfl
theorem enumP_ix (f : Rat → PV) (qs : List Rat) : enumP (qs.map f) = (ix 0 qs).map fun p => .tup [.int (p.1 : Int), f p.2] := by
  rw [← enumP_ix' f qs 0]
  unfold enumP
  rw [List.length_map]
  rfl
def prs : List Rat → List Rat
  | [] => []
  | q :: qs => PX.far qs q ++ prs qs
theorem prs_len : ∀ qs : List Rat, 2 * ((prs qs).length : Int) = (qs.length : Int) * ((qs.length : Int) - 1)
  | [] => rfl
  | q :: qs => by
    have ih := prs_len qs
    show 2 * ((PX.far qs q ++ prs qs).length : Int) = _
    rw [List.length_append, far_len, Int.natCast_add, List.length_cons, show ((qs.length + 1 : Nat) : Int) = (qs.length : Int) + 1 from rfl]
    generalize (qs.length : Int) = n at *
    generalize ((prs qs).length : Int) = m at *
    grind
theorem far_perm {a b : List Rat} (h : a.Perm b) (c : Rat) : sumQ (PX.far a c) = sumQ (PX.far b c) := sum_perm (h.map _)
theorem far_cons (q : Rat) (qs : List Rat) (c : Rat) : sumQ (PX.far (q :: qs) c) = ab (q - c) + sumQ (PX.far qs c) := sumQ_cons _ _
theorem prs_perm {a b : List Rat} (h : a.Perm b) : sumQ (prs a) = sumQ (prs b) := by
  induction h with
  | nil => rfl
  | cons x h ih =>
    show sumQ (PX.far _ x ++ prs _) = sumQ (PX.far _ x ++ prs _)
    rw [sumQ_append, sumQ_append, far_perm h, ih]
  | swap x y l =>
    show sumQ (PX.far (x :: l) y ++ (PX.far l x ++ prs l)) = sumQ (PX.far (y :: l) x ++ (PX.far l y ++ prs l))
    simp only [sumQ_append, far_cons]
    rw [ab_comm x y]
    grind
  | trans _ _ h1 h2 => exact h1.trans h2
def wt (n : Int) (p : Nat × Rat) : Rat := p.2 * ((2 * (p.1 : Int) + 1 - n : Int) : Rat)
theorem far_up {q : Rat} : ∀ {qs : List Rat}, (∀ x ∈ qs, q ≤ x) → sumQ (PX.far qs q) = sumQ qs - ((qs.length : Int) : Rat) * q
  | [], _ => by simp [PX.far, sumQ]; grind
  | x :: qs, h => by
    have hx := h x List.mem_cons_self
    have ih := far_up fun y hy => h y (List.mem_cons_of_mem _ hy)
    rw [far_cons, ih, sumQ_cons, ab_nonneg (by grind), List.length_cons, cast_succ]
    grind
theorem wt_sum (n : Int) : ∀ (l : List Rat) (k : Nat), l.Pairwise (fun a b => leQ a b = true) → n = (k : Int) + (l.length : Int) → sumQ ((ix k l).map (wt n)) = sumQ (prs l) + ((k : Int) : Rat) * sumQ l
  | [], k, _, _ => by simp [ix, prs, sumQ]; grind
  | x :: l, k, h, hn => by
    obtain ⟨h1, h2⟩ := List.pairwise_cons.mp h
    have ih := wt_sum n l (k + 1) h2 (by rw [hn, List.length_cons]; omega)
    show sumQ (wt n (k, x) :: (ix (k + 1) l).map (wt n)) = sumQ (PX.far l x ++ prs l) + _
    rw [sumQ_cons, ih, sumQ_append, sumQ_cons, far_up fun y hy => of_decide_eq_true (h1 y hy), cast_succ]
    unfold wt
    rw [show (2 * ((k, x).1 : Int) + 1 - n : Int) = (k : Int) - (l.length : Int) by rw [hn, List.length_cons]; simp only []; omega, Rat.intCast_sub]
    show x * _ + _ = _
    grind
theorem wt_sorted (qs : List Rat) : sumQ ((ix 0 (rsort qs)).map (wt (qs.length : Int))) = sumQ (prs qs) := by
  rw [wt_sum _ _ _ (rsort_sorted qs) (by rw [rsort_len]; simp), prs_perm (rsort_perm qs)]
  show _ + 0 * _ = _
  grind
theorem prs_half (qs : List Rat) {L : Int} (hL : L = (qs.length : Int)) : L * (L - 1) / 2 = ((prs qs).length : Int) := by
  have h := prs_len qs
  rw [← hL] at h
  omega
theorem prs_zd {D B : Nat} (h0 : 0 < D) : ∀ {qs : List Rat}, (∀ q ∈ qs, Zd D B q) → ∀ q ∈ prs qs, Zd D (B + B) q
  | [], _, q, h => by cases h
  | x :: qs, hz, q, h => by
    rcases List.mem_append.mp h with h | h
    · exact far_zd h0 (fun y hy => hz y (List.mem_cons_of_mem _ hy)) (hz x List.mem_cons_self) q h
    · exact prs_zd h0 (fun y hy => hz y (List.mem_cons_of_mem _ hy)) q h
theorem prs_pos {qs : List Rat} (h : 2 ≤ qs.length) : 0 < (prs qs).length := by
  match qs, h with
  | x :: y :: l, _ => simp [prs, PX.far]
theorem prs_nil {qs : List Rat} (h : qs.length < 2) : prs qs = [] := by
  match qs, h with
  | [], _ => rfl
  | [x], _ => rfl
theorem prs_small {qs : List Rat} {N : Nat} (h : qs.length ≤ N) : (prs qs).length ≤ N * N := by
  have h1 := prs_len qs
  have h2 : (qs.length : Int) * ((qs.length : Int) - 1) ≤ (N : Int) * N := by
    have : qs.length * qs.length ≤ N * N := Nat.mul_le_mul h h
    have h3 : ((qs.length * qs.length : Nat) : Int) ≤ ((N * N : Nat) : Int) := by omega
    rw [Int.natCast_mul, Int.natCast_mul] at h3
    rw [Int.mul_sub]; omega
  have h4 : ((N * N : Nat) : Int) = (N : Int) * N := Int.natCast_mul _ _
  omega
/-! ## the functions -/
structure Cd (D B N : Nat) : Prop where
  d : 0 < D
  b : 1 ≤ B
  n : N ≤ 20
  n1 : 2 ≤ N
  s : Sm (D * 232792560) ((N + 2) * (B + N * B))
section
variable {D B N : Nat} {qs : List Rat} {ps : List PV} {sm : PV}
theorem Cd.s0 (c : Cd D B N) : Sm D (N * B + B) := c.s.le c.d (Nat.le_mul_of_pos_right _ (by decide)) (by
  have := c.n1
  have h : (N + 2) * (B + N * B) = N * B + B + (N + 1) * (B + N * B) := by rw [show N + 2 = (N + 1) + 1 from rfl, Nat.succ_mul]; omega
  omega)
theorem Cd.s1 (c : Cd D B N) : Sm (D * 232792560) (N * (B + N * B) + (B + N * B)) := c.s.le c.s.pos (Nat.le_refl _) (by
  have h : (N + 2) * (B + N * B) = N * (B + N * B) + 2 * (B + N * B) := by rw [Nat.add_mul]
  omega)
theorem Cd.up (c : Cd D B N) (hz : ∀ q ∈ qs, Zd D B q) : ∀ q ∈ qs, Zd (D * 232792560) B q := fun q hq => (hz q hq).mono (Nat.dvd_mul_right _ _) (Nat.le_refl _)
theorem Cd.sB (c : Cd D B N) : Sm (D * 232792560) (B + N * B) := c.s1.le c.s.pos (Nat.le_refl _) (Nat.le_add_left _ _)
theorem Cd.far (c : Cd D B N) (hz : ∀ q ∈ qs, Zd D B q) {m : Rat} (hm : Zd (D * 232792560) (N * B) m) : ∀ q ∈ far qs m, Zd (D * 232792560) (B + N * B) q := far_zd c.s.pos (c.up hz) hm
theorem e_dist_at (c : Cd D B N) (hz : ∀ q ∈ qs, Zd D B q) (hn : qs.length ≤ N) {m : Rat} {p : PV} (hm : Zd (D * 232792560) (N * B) m) (hp : Is m p) (mu : List MO) : F_distances [.lst (qs.map .rat), p] mu = .ok (.lst ((PX.far qs m).map .rat)) mu := by
  have := c.n
  have sB := c.sB
  exact e_distances (a := 3990) (b := 3990) (fun q hq => ((c.up hz) q hq).sm (sB.le sB.pos (Nat.le_refl _) (Nat.le_add_right _ _))) (hm.sm (sB.le sB.pos (Nat.le_refl _) (Nat.le_add_left _ _)))
    (fun q hq => ((Zd.sub c.s.pos (c.up hz q hq) hm).sm sB).le (by decide)) (by decide) hp (by omega) mu
theorem e_mean_distance (c : Cd D B N) (h : All2 qs ps) (hs : sm = .lst ps ∨ sm = .tup ps) (hz : ∀ q ∈ qs, Zd D B q) (hne : qs ≠ []) (hn : qs.length ≤ N) {m : Rat} {p : PV} (hm : Zd (D * 232792560) (N * B) m) (hp : Is m p ∨ (p = .non ∧ m = mn qs)) (mu : List MO) :
    F_mean_distance [sm, p] mu = .ok (.rat (mn (PX.far qs m))) mu := by
  have := c.n
  have e1 := e_need_sample h hs (by omega) mu
  have hx : ((qs.length : Int) == 0) = false := by simpa using hne
  have a2 : F_need_items [.lst (qs.map .rat)] mu = .ok .non mu := by simp [F_need_items, runBody, d_need_items, hx]
  have e3 := z_mean_of (c.s0.le c.d (Nat.le_refl _) (Nat.le_add_right _ _)) c.b hz hne hn (by omega) mu
  have e3 : F_mean_of [.lst (qs.map .rat)] mu = .ok (.rat (mn qs)) mu := e3
  have e5 := z_mean_of (c.s1.le c.s.pos (Nat.le_refl _) (Nat.le_add_right _ _)) (by have := c.b; omega) (c.far hz hm) (fun z => hne (List.map_eq_nil_iff.mp z)) (by rw [far_len]; exact hn) (by omega) mu
  have e5 : F_mean_of [.lst ((PX.far qs m).map .rat)] mu = .ok (.rat (mn (PX.far qs m))) mu := e5
  have go : W (F_mean_distance [sm, p] mu) (fun v mu' => v = .rat (mn (PX.far qs m)) ∧ mu' = mu) := by
    unfold F_mean_distance d_mean_distance
    rcases hp with hp | ⟨h1, h2⟩
    · have e4 := e_dist_at c hz hn hm hp mu
      have e6 := e_need_number hp mu
      rcases hp with h | ⟨h', h⟩ <;> subst h <;> simp [W_runBody, e1, a2, e4, e5, e6, k_mean_distance_1]
    · subst h1
      have e4 := e_dist_at c hz hn hm (.inl rfl) mu
      rw [h2] at e4 e5 ⊢
      simp [W_runBody, e1, a2, e3, e4, e5, k_mean_distance_1]
  obtain ⟨v, mu', e, rfl, rfl⟩ := go.out
  exact e
theorem e_median_distance (c : Cd D B N) (h : All2 qs ps) (hs : sm = .lst ps ∨ sm = .tup ps) (hz : ∀ q ∈ qs, Zd D B q) (hne : qs ≠ []) (hn : qs.length ≤ N) (mu : List MO) : F_median_distance [sm] mu = .ok (.rat (mn (medl (PX.far qs (mn (medl qs)))))) mu := by
  have hN := c.n
  have hN1 := c.n1
  have e1 := e_need_filled h hs (by omega) hne mu
  have e2 := z_ordered (c.s0.le c.d (Nat.le_refl _) (Nat.le_add_left _ _)) hz (by omega) mu
  have e3 := e_median_of (c.s0.le c.d (Nat.le_refl _) (by have := Nat.mul_le_mul_right B hN1; omega)) c.b hz hne (by omega) mu
  have hm : Zd (D * 232792560) (N * B) (mn (medl qs)) := (medl_zd c.d hz hne).mono (Nat.dvd_refl _) (Nat.mul_le_mul_right _ hN1)
  have e4 := e_dist_at c hz hn hm (.inl rfl) mu
  have hl := far_len qs (mn (medl qs))
  have e5 := z_ordered c.sB (c.far hz hm) (by omega) mu
  have e6 := e_median_of (c.s1.le c.s.pos (Nat.le_refl _) (by have := Nat.mul_le_mul_right (B + N * B) hN1; omega)) (by have := c.b; omega) (c.far hz hm) (fun z => hne (List.map_eq_nil_iff.mp z)) (by omega) mu
  simp [F_median_distance, runBody, d_median_distance, e1, e2, e3, e4, e5, e6]
theorem e_extent (c : Cd D B N) (h : All2 qs ps) (hs : sm = .lst ps ∨ sm = .tup ps) (hz : ∀ q ∈ qs, Zd D B q) (hne : qs ≠ []) (hn : qs.length ≤ N) (mu : List MO) : F_extent [sm] mu = .ok (.rat ((rsort qs).getLastD 0 - (rsort qs).headD 0)) mu := by
  have hN := c.n
  have e1 := e_need_filled h hs (by omega) hne mu
  have sq := c.s0.le c.d (Nat.le_refl _) (Nat.le_add_left _ _)
  have e2 := z_ordered sq hz (by omega) mu
  have hr : rsort qs ≠ [] := fun z => by have := rsort_len qs; rw [z] at this; exact hne (List.eq_nil_of_length_eq_zero this.symm)
  have mem : ∀ {q}, q ∈ rsort qs → q ∈ qs := fun hq => (rsort_perm qs).mem_iff.mp hq
  have m1 : (rsort qs).getLastD 0 ∈ qs := mem (by rw [List.getLastD_eq_getLast?, List.getLast?_eq_some_getLast hr]; exact List.getLast_mem hr)
  have m2 : (rsort qs).headD 0 ∈ qs := mem (by rw [List.headD_eq_head?_getD, List.head?_eq_some_head hr]; exact List.head_mem hr)
  have a1 := at_head (f := .rat) hr
  have a2 := at_last (f := .rat) hr
  have e3 := e_sub ((hz _ m1).sm sq) ((hz _ m2).sm sq) (.inl rfl) (by decide) mu
  simp [-List.headD_eq_head?_getD, -List.getLastD_eq_getLast?, F_extent, runBody, d_extent, e1, e2, a1, a2, gRL, e3]
theorem e_mean_difference (c : Cd D B N) (h : All2 qs ps) (hs : sm = .lst ps ∨ sm = .tup ps) (hz : ∀ q ∈ qs, Zd D B q) (h2 : 2 ≤ qs.length) (hn : qs.length ≤ N) (mu : List MO) : F_mean_difference [sm] mu = .ok (.rat (mn (prs qs))) mu := by
  have hN := c.n
  have hne : qs ≠ [] := fun z => by rw [z] at h2; simp at h2
  have e1 := e_need_filled h hs (by omega) hne mu
  have sq := c.s0.le c.d (Nat.le_refl _) (Nat.le_add_left _ _)
  have e2 := z_ordered sq hz (by omega) mu
  have mem : ∀ {q}, q ∈ rsort qs → q ∈ qs := fun hq => (rsort_perm qs).mem_iff.mp hq
  obtain ⟨L, hL⟩ : ∃ L : Int, L = (qs.length : Int) := ⟨_, rfl⟩
  have hr := rsort_len qs
  have s1 : Sm D (N * B + B) := c.s0
  have zw : ∀ q ∈ (ix 0 (rsort qs)).map (wt L), Zd D (B * N) q := fun q hq => by
    obtain ⟨p, hp, rfl⟩ := List.mem_map.mp hq
    obtain ⟨a1, _, a3⟩ := ix_mem hp
    have k := Zd.mul (hz _ (mem a1)) (Zd.int (i := 2 * (p.1 : Int) + 1 - L) (B := N) (by omega))
    rw [Nat.mul_one] at k
    exact k
  have e4 := z_total (s1.le c.d (Nat.le_refl _) (by rw [Nat.mul_comm]; exact Nat.le_add_right _ _)) zw (by rw [List.length_map, ix_len]; omega) mu
  have es : sumQ ((ix 0 (rsort qs)).map (wt L)) = sumQ (prs qs) := by rw [hL]; exact wt_sorted qs
  rw [es] at e4
  have hp0 := prs_pos h2
  have hps := prs_small hn
  have h400 : N * N ≤ 20 * 20 := Nat.mul_le_mul hN hN
  have ei := prs_half qs hL
  have zs : Zb (sumQ (prs qs)) 3990 := by
    have k := Zd.sumz c.d zw
    rw [es, List.length_map, ix_len, hr] at k
    exact (k.mono (Nat.dvd_refl _) (Nat.le_refl _)).sm (c.s.le c.d (Nat.le_mul_of_pos_right _ (by decide)) (by
      have h5 : qs.length * (B * N) ≤ N * (B * N) := Nat.mul_le_mul_right _ hn
      have h6 : (N + 2) * (B + N * B) = N * (N * B) + (N * B + 2 * (B + N * B)) := by rw [Nat.add_mul, Nat.mul_add]; omega
      rw [Nat.mul_comm B N] at h5
      rw [Nat.mul_comm B N]
      omega))
  have e5 := e_over (y := (((prs qs).length : Int) : Rat)) (p := .int ((prs qs).length : Int)) (a := 3990) (b := 14) zs (Zb_int (by omega)) (.inr ⟨rfl, rfl⟩) (by show ((prs qs).length : Int) ≠ 0; omega) (by omega) mu
  have e5 : F_Ratio_over [.rat (sumQ (prs qs)), .int ((prs qs).length : Int)] mu = .ok (.rat (mn (prs qs))) mu := e5
  have i2 : ib 2 ≤ 9000 := by decide
  have b1 : ib L + ib (L - 1) ≤ 1000000 := by
    have := ib_le (i := L) (b := 14) (by omega)
    have := ib_le (i := L - 1) (b := 14) (by omega)
    omega
  have go : W (F_mean_difference [sm] mu) (fun v mu' => v = .rat (mn (prs qs)) ∧ mu' = mu) := by
    unfold F_mean_difference d_mean_difference
    simp [W_runBody, e1, e2, hr]
    rw [← hL]
    have nm : F_need_more [.int L, .int 1] mu = .ok .non mu := by
      have : ¬ L ≤ 1 := by omega
      simp [F_need_more, runBody, d_need_more, this]
    simp [nm, enumP_ix, -List.map_map, wipeE]
    refine W_compMap (ix 0 (rsort qs)) (fun p => .tup [.int (p.1 : Int), .rat p.2]) (fun p => .rat (wt L p)) (by rw [ix_len]; omega) ?_ ?_
    · intro p hp
      obtain ⟨a1, _, a3⟩ := ix_mem hp
      have c1 : ib 2 + ib (p.1 : Int) ≤ 1000000 := by
        have := ib_le (i := (p.1 : Int)) (b := 14) (by omega)
        have : ib 2 = 2 := by decide
        omega
      have k := fun mu => e_mul (y := ((2 * (p.1 : Int) + 1 - L : Int) : Rat)) (p := .int (2 * (p.1 : Int) + 1 - L)) ((hz _ (mem a1)).sm sq) (Zb_int (b := 14) (by omega)) (.inr ⟨rfl, rfl⟩) (by decide) mu
      simp [e_mean_difference_1, gRL, wipeE, c1, k, wt]
    · have em : (ix 0 (rsort qs)).map (fun p => PV.rat (wt L p)) = ((ix 0 (rsort qs)).map (wt L)).map .rat := by rw [List.map_map]; rfl
      rw [em]
      simp [-List.map_map, wipeE, e4, gRL, b1, i2, ei, e5]
  obtain ⟨v, mu', e, rfl, rfl⟩ := go.out
  exact e
end
end PX

set_option maxHeartbeats 1000000
namespace PX
open PySem L3 LD PC PD
theorem W_ne_nil {F : DF} {qs : List Rat} {s : S} {Q : PV → S → Prop} : W (gNeR F (gEq true) (.lst (qs.map fr)) (.lst []) s) Q = Q (.bl (!qs.isEmpty)) s := by
  have h : gNeR F (gEq true) (.lst (qs.map fr)) (.lst []) s = .ok (.bl (!qs.isEmpty)) s := by
    show gEq true (.lst (qs.map fr)) (.lst []) s = _
    unfold gEq
    rw [if_pos ⟨okD_frs qs, okD_nil⟩, show eqP (.lst (qs.map fr)) (.lst []) = eqPL (qs.map fr) [] from by simp [eqP], eqPL_nil, Bool.true_xor, List.isEmpty_map]
  rw [h, W_ok]
@[simp ↓] theorem I_ne_nil {F : DF} {qs : List Rat} {s : S} {Q : PV → S → Prop} : WI (gNeR F (gEq true) (.lst (qs.map fr)) (.lst []) s) (K := ⟨Q⟩) = Q (.bl (!qs.isEmpty)) s := W_ne_nil
theorem W_gne_nil {qs : List Rat} {s : S} {Q : PV → S → Prop} : W (gEq true (.lst (qs.map fr)) (.lst []) s) Q = Q (.bl (!qs.isEmpty)) s := by
  unfold gEq
  rw [if_pos ⟨okD_frs qs, okD_nil⟩, show eqP (.lst (qs.map fr)) (.lst []) = eqPL (qs.map fr) [] from by simp [eqP], eqPL_nil, Bool.true_xor, List.isEmpty_map, W_ok]
@[simp ↓] theorem I_gne_nil {qs : List Rat} {s : S} {Q : PV → S → Prop} : WI (gEq true (.lst (qs.map fr)) (.lst []) s) (K := ⟨Q⟩) = Q (.bl (!qs.isEmpty)) s := W_gne_nil
theorem cd0 : Cd 60 30 12 := ⟨by decide, by decide, by decide, by decide, ⟨by decide, by decide +kernel, by decide +kernel⟩⟩
theorem prs_step {pre suf acc qs : List Rat} {q : Rat} (h : acc ++ prs (q :: suf) = prs qs) : (acc ++ PX.far suf q) ++ prs suf = prs qs := by
  rw [← h, List.append_assoc]; rfl
theorem turn16 (C : Addr) {ns : List Int} {i : Nat} (hi : i ≤ 4) {mu : List MO} {o2 o3 o4 o5 o6 o7 o8 o9 o10 : Option SV} (hf : flatMs mu = true) (P : Fl → S → Prop)
    (hP : ∀ o2 o3 o4 o5 o6 o7 o8 o9 o10 mu', flatMs mu' = true → P .nx ⟨[some (.val (.frz (ns.map .int))), some (.val (.int (i : Int))), o2, o3, o4, o5, o6, o7, o8, o9, o10], mu'⟩) :
    W (b_law_k16_2 C ⟨[some (.val (.frz (ns.map .int))), some (.val (.int (i : Int))), o2, o3, o4, o5, o6, o7, o8, o9, o10], mu⟩) P := by
  unfold b_law_k16_2
  simp
  refine w_source (by omega) hf fun m1 h1 => ?_
  simp
  refine w_filled (m := 12) h1 (by omega) (by omega) (by omega) fun qs m2 hz hl hne h2 => ?_
  simp
  refine w_drawn h2 (by omega) fun c m3 hc h3 => ?_
  have c0 := cd0
  have s0 := c0.s0
  have sq : Sm 60 30 := s0.le (by decide) (by decide) (by decide)
  have h0 : 0 < qs.length := List.length_pos_iff.mpr hne
  simp
  refine w_framed sq h3 (by omega) hz (by omega) fun sm ps m4 hs ha h4 => ?_
  have es := fun mu => e_sorted sq hz (by omega) mu
  have hm1 : Zd (60 * 232792560) (12 * 30) (mn qs) := Zd.mean (by decide) hz hne hl (by decide)
  have hm2 : Zd (60 * 232792560) (12 * 30) c := hc.mono (Nat.dvd_mul_right _ _) (by decide)
  have hm3 : Zd (60 * 232792560) (12 * 30) (mn (medl qs)) := (medl_zd (by decide) hz hne).mono (Nat.dvd_refl _) (by decide)
  have zq : ∀ q ∈ qs, Zb q 3990 := fun q hq => (hz q hq).sm sq
  have zm : ∀ {m : Rat}, Zd (60 * 232792560) (12 * 30) m → Zb m 3990 := fun h => h.sm (c0.sB.le c0.s.pos (Nat.le_refl _) (Nat.le_add_left _ _))
  have km := fun mu => z_lmean s0 hz hne hl (by decide) mu
  have km : ∀ mu, F_w_mean [.lst (qs.map fr)] mu = .ok (fr (mn qs)) mu := km
  have kf1 := fun mu => e_lfar zq (zm hm1) (by decide) (by omega) mu
  have kf2 := fun mu => e_lfar zq (zm hm2) (by decide) (by omega) mu
  have kf3 := fun mu => e_lfar zq (zm hm3) (by decide) (by omega) mu
  have fne : ∀ m, PX.far qs m ≠ [] := fun m z => hne (List.map_eq_nil_iff.mp z)
  have kd : ∀ {m}, Zd (60 * 232792560) (12 * 30) m → ∀ mu, F_w_mean [.lst ((PX.far qs m).map fr)] mu = .ok (fr (mn (PX.far qs m))) mu := fun h mu => z_lmean c0.s1 (c0.far hz h) (fne _) (by rw [far_len]; exact hl) (by decide) mu
  have kd1 := kd hm1
  have kd2 := kd hm2
  have kl := fun mu => e_lmedian (s0.le (by decide) (by decide) (by decide)) hz hne (by omega) mu
  have kl3 := fun mu => e_lmedian (c0.s1.le c0.s.pos (Nat.le_refl _) (by decide)) (c0.far hz hm3) (fne _) (by rw [far_len]; omega) mu
  have p1 := fun mu => e_mean_distance c0 ha hs hz hne hl hm1 (p := .non) (.inr ⟨rfl, rfl⟩) mu
  have p2 := fun mu => e_mean_distance c0 ha hs hz hne hl hm2 (.inl (gv_is c)) mu
  have p3 := fun mu => e_median_distance c0 ha hs hz hne hl mu
  have p4 := fun mu => e_extent c0 ha hs hz hne hl mu
  have hr : rsort qs ≠ [] := fun z => by have := rsort_len qs; rw [z] at this; exact hne (List.eq_nil_of_length_eq_zero this.symm)
  have mem : ∀ {q}, q ∈ rsort qs → q ∈ qs := fun hq => (rsort_perm qs).mem_iff.mp hq
  have r1 : (rsort qs).getLastD 0 ∈ qs := mem (by rw [List.getLastD_eq_getLast?, List.getLast?_eq_some_getLast hr]; exact List.getLast_mem hr)
  have r2 : (rsort qs).headD 0 ∈ qs := mem (by rw [List.headD_eq_head?_getD, List.head?_eq_some_head hr]; exact List.head_mem hr)
  have a1 := at_head (f := fr) hr
  have a2 := at_last (f := fr) hr
  have k9 := fun mu => e_minus (zq _ r1) (zq _ r2) (by decide) mu
  have kg := fun mu => z_given sq (qs := [c]) (fun q hq => by rw [List.mem_singleton.mp hq]; exact hc) (Nat.le_of_ble_eq_true rfl) mu
  have kg : ∀ mu, F_w_given [.lst [fr c]] mu = .ok (.lst [gv c]) mu := kg
  have ke := fun (x : Rat) mu => e_eq (x := x) (y := x) (.inl rfl) mu
  have at0 : L2.atI [gv c] 0 = some (gv c) := rfl
  simp [-List.headD_eq_head?_getD, -List.getLastD_eq_getLast?, es, km, kf1, kf2, kf3, kd1, kd2, kl, kl3, p1, p2, p3, p4, a1, a2, k9, kg, ke, at0, e_taken]
  rw [enumP_ix]
  refine W_forL (I := fun xs s => ∃ o9 o10 pre suf acc, qs = pre ++ suf ∧ xs = (ix pre.length suf).map (fun p => .tup [.int (p.1 : Int), fr p.2]) ∧ acc ++ prs suf = prs qs ∧ s = ⟨[some (.val (.frz (ns.map .int))), some (.val (.int (i : Int))), some (.val (.ptr mu.length)), some (.val (gv c)), some (.val (.lst (acc.map fr))), some (.val (.lst (qs.map fr))), some (.val (fr c)), some (.val sm), some (.val (.lst ((rsort qs).map fr))), o9, o10], m4⟩)
    ⟨o9, o10, [], qs, [], rfl, rfl, rfl, rfl⟩ ?_ ?_
  · intro x xs s hI
    obtain ⟨o9, o10, pre, suf, acc, hq, hx, hacc, hs'⟩ := hI
    subst hs'
    match suf, hx with
    | q :: suf, hx =>
      simp only [ix, List.map_cons, List.cons.injEq] at hx
      obtain ⟨hx1, hx2⟩ := hx
      subst hx1
      have hm : ∀ y ∈ suf, y ∈ qs := fun y hy => by rw [hq]; exact List.mem_append_right _ (List.mem_cons_of_mem _ hy)
      have hmq : q ∈ qs := by rw [hq]; exact List.mem_append_right _ List.mem_cons_self
      have hlen : qs.length = pre.length + suf.length + 1 := by rw [hq, List.length_append, List.length_cons]; omega
      have kf := fun mu => e_lfar (fun y hy => zq y (hm y hy)) (zq q hmq) (by decide) (by omega) mu
      have ed : cutP (qs.map fr) (some ((pre.length : Int) + 1)) none = suf.map fr := by
        rw [cut_drop (by omega), ← List.map_drop, show ((pre.length : Int) + 1).toNat = pre.length + 1 by omega, hq, List.drop_append, List.drop_eq_nil_of_le (by omega), show pre.length + 1 - pre.length = 1 by omega]
        rfl
      have ha2 : acc.length + suf.length ≤ 16777216 := by
        have e := congrArg List.length (prs_step (pre := pre) hacc)
        rw [List.length_append, List.length_append, far_len] at e
        have := prs_small hl
        omega
      unfold b_law_k16_1
      simp [-List.map_append, ed, kf, far_len, ha2]
      exact ⟨_, _, pre ++ [q], suf, by rw [hq]; simp, by rw [hx2, List.length_append]; rfl, acc ++ PX.far suf q, prs_step (pre := pre) hacc, by rw [List.map_append], rfl, rfl⟩
  · intro s hI
    obtain ⟨o9, o10, pre, suf, acc, hq, hx, hacc, hs'⟩ := hI
    subst hs'
    match suf, hx with
    | [], _ =>
      rw [show acc = prs qs by rw [← hacc]; simp [prs]]
      by_cases z : 2 ≤ qs.length
      · have zp : (prs qs).isEmpty = false := by
          have := prs_pos z
          cases e : prs qs with
          | nil => rw [e] at this; cases this
          | cons _ _ => rfl
        have pne : prs qs ≠ [] := fun e => by rw [e] at zp; cases zp
        have q1 := fun mu => e_mean_difference c0 ha hs hz z hl mu
        have q2 := fun mu => z_lmean (D := 60) (B := 30 + 30) (N := 12 * 12) ⟨Nat.le_of_ble_eq_true rfl, by decide +kernel, by decide +kernel⟩ (prs_zd (by decide) hz) pne (prs_small hl) (by decide) mu
        have q2 : ∀ mu, F_w_mean [.lst ((prs qs).map fr)] mu = .ok (fr (mn (prs qs))) mu := q2
        simp [zp, q1, q2, e_taken]
        exact hP _ _ _ _ _ _ _ _ _ _ h4.flat
      · have zp : (prs qs).isEmpty = true := by rw [prs_nil (by omega)]; rfl
        simp [zp]
        exact hP _ _ _ _ _ _ _ _ _ _ h4.flat
theorem cs3 : All2 [1, 2, 6] [.int 1, .int 2, .int 6] := .cons (.inr ⟨rfl, rfl⟩) (.cons (.inr ⟨rfl, rfl⟩) (.cons (.inr ⟨rfl, rfl⟩) .nil))
theorem hz3 : ∀ q ∈ ([1, 2, 6] : List Rat), Zd 60 30 q := fun q hq => by
  simp only [List.mem_cons, List.not_mem_nil, or_false] at hq
  rcases hq with rfl | rfl | rfl <;> exact ⟨by decide, by decide +kernel⟩
theorem law_k16 (C : Addr) (ns : List Int) (hn : ns.length ≤ 63) : ∃ mu', F_law_k16 C [.frz (ns.map .int)] [] = .ok (.bl true) mu' := by
  have h : W (F_law_k16 C [.frz (ns.map .int)] []) (fun v _ => v = .bl true) := by
    unfold F_law_k16 d_law_k16
    simp [W_runBody]
    refine ⟨by omega, ?_⟩
    refine turns (by omega) (fun r => ∃ o2 o3 o4 o5 o6 o7 o8 o9 o10, r = [o2, o3, o4, o5, o6, o7, o8, o9, o10]) ⟨none, none, none, none, none, none, none, none, none, rfl⟩ rfl ?_ ?_
    · rintro i rest mu hi ⟨o2, o3, o4, o5, o6, o7, o8, o9, o10, rfl⟩ hf
      refine turn16 C (ns := ns) (i := i) (o2 := o2) (o3 := o3) (o4 := o4) (o5 := o5) (o6 := o6) (o7 := o7) (o8 := o8) (o9 := o9) (o10 := o10) hi hf _ ?_
      intro a2 a3 a4 a5 a6 a7 a8 a9 a10 mu' hf'
      exact ⟨rfl, _, mu', ⟨a2, a3, a4, a5, a6, a7, a8, a9, a10, rfl⟩, hf', rfl⟩
    · rintro o1 rest mu ⟨o2, o3, o4, o5, o6, o7, o8, o9, o10, rfl⟩ hf
      have k1 := fun mu => e_mean_difference cd0 cs3 (.inl rfl) hz3 (by decide) (by decide) mu
      have k2 := fun mu => e_median_distance cd0 cs3 (.inl rfl) hz3 (by decide) (by decide) mu
      have v1 : mn (prs [1, 2, 6]) = Rat.divInt 10 3 := by decide +kernel
      have v2 : mn (medl (PX.far [1, 2, 6] (mn (medl [1, 2, 6])))) = 1 := by decide +kernel
      rw [v1] at k1
      rw [v2] at k2
      have k4 := fun mu => e_all_taken [Rat.divInt 10 3, 1] (by decide) mu
      have f1 : fr (Rat.divInt 10 3) = .tup [.int 10, .int 3] := fr_of (d := 3) (by decide +kernel) (by decide +kernel)
      have f2 : fr 1 = .tup [.int 1, .int 1] := rfl
      simp only [List.map_cons, List.map_nil] at k4
      rw [f1, f2] at k4
      simp [k1, k2, k4, okD, okDL, eqP, eqPL]
  obtain ⟨v, mu', e, rfl⟩ := h.out
  exact ⟨mu', e⟩
end PX

set_option maxHeartbeats 1000000
namespace PX
open PySem L3 LD PC PD
/-! ## operators -/
theorem e_add {x y : Rat} {p : PV} {a b : Nat} (h1 : Zb x a) (h2 : Zb y b) (hp : Is y p) (hab : a + b ≤ 8000) (mu : List MO) : F_Ratio___add__ [.rat x, p] mu = .ok (.rat (x + y)) mu := by
  have h9 : okR (x.num * y.den + y.num * x.den) ((x.den : Int) * y.den) = true := by
    have := ib_mul (i := (x.den : Int)) (j := (y.den : Int)) (a := a) (b := b) (by rw [Int.natAbs_natCast]; exact h1.2) (by rw [Int.natAbs_natCast]; exact h2.2)
    exact (decide_eq_true (by omega))
  have c1 : ib x.num + ib (y.den : Int) ≤ 1000000 := by have := h1.ib_num; have := h2.ib_den; omega
  have c2 : ib y.num + ib (x.den : Int) ≤ 1000000 := by have := h2.ib_num; have := h1.ib_den; omega
  have c3 : ib (x.den : Int) + ib (y.den : Int) ≤ 1000000 := by have := h2.ib_den; have := h1.ib_den; omega
  have e2 := e_ratio_of hp mu
  have hx : ¬ x.den = 0 := x.den_nz
  have hy : ¬ y.den = 0 := y.den_nz
  rw [← add_divInt]
  simp [F_Ratio___add__, runBody, d_Ratio___add__, e2, c1, c2, c3, h9, hx, hy]
theorem e_radd {x : Rat} {i : Int} {a b : Nat} (h1 : Zb x a) (h2 : Zb (i : Rat) b) (hab : b + a ≤ 8000) (mu : List MO) : F_Ratio___radd__ [.rat x, .int i] mu = .ok (.rat ((i : Rat) + x)) mu := by
  have e1 := e_add h2 h1 (.inl rfl) hab mu
  simp [F_Ratio___radd__, runBody, d_Ratio___radd__, gRL, e1]
theorem e_rsub {x : Rat} {i : Int} {a b : Nat} (h1 : Zb x a) (h2 : Zb (i : Rat) b) (hab : b + a ≤ 8000) (mu : List MO) : F_Ratio___rsub__ [.rat x, .int i] mu = .ok (.rat ((i : Rat) - x)) mu := by
  have e1 := e_sub h2 h1 (.inl rfl) hab mu
  simp [F_Ratio___rsub__, runBody, d_Ratio___rsub__, gRL, e1]
theorem e_rmul {x : Rat} {i : Int} {a b : Nat} (h1 : Zb x a) (h2 : Zb (i : Rat) b) (hab : b + a ≤ 8000) (mu : List MO) : F_Ratio___rmul__ [.rat x, .int i] mu = .ok (.rat ((i : Rat) * x)) mu := by
  have e1 := e_mul h2 h1 (.inl rfl) hab mu
  simp [F_Ratio___rmul__, runBody, d_Ratio___rmul__, gRL, e1]
theorem neg_divInt' (x : Rat) : Rat.divInt (-x.num) x.den = -x := by
  rw [← Rat.num_divInt_den (-x), Rat.neg_num, Rat.neg_den]
theorem e_neg {x : Rat} {a : Nat} (h : Zb x a) (ha : a ≤ 8000) (mu : List MO) : F_Ratio___neg__ [.rat x] mu = .ok (.rat (-x)) mu := by
  have h9 : okR (-x.num) (x.den : Int) = true := by
    have := h.ib_den
    exact (decide_eq_true (by omega))
  have hx : ¬ x.den = 0 := x.den_nz
  rw [← neg_divInt']
  simp [F_Ratio___neg__, runBody, d_Ratio___neg__, h9, hx]
/-! ## sums -/
theorem e_sumT {D B N : Nat} (sm : Sm D (N * B + B)) : ∀ (qs : List Rat) (acc : Rat) (n : Nat) (s : S), Zd D (n * B) acc → (∀ q ∈ qs, Zd D B q) → n + qs.length ≤ N → sumT F_Ratio___add__ (qs.map .rat) acc s = .ok (.rat (acc + sumQ qs)) s
  | [], acc, n, s, _, _, _ => by simp [sumT, sumQ, Rat.add_zero]
  | q :: qs, acc, n, s, ha, hz, hn => by
    rw [List.length_cons] at hn
    have h1 : n * B ≤ N * B + B := Nat.le_trans (Nat.mul_le_mul_right B (by omega : n ≤ N)) (Nat.le_add_right _ _)
    have e1 := e_add (p := .rat q) (ha.sm (sm.le sm.pos (Nat.le_refl _) h1)) ((hz q List.mem_cons_self).sm (sm.le sm.pos (Nat.le_refl _) (Nat.le_add_left _ _))) (.inl rfl) (by decide) s.mu
    have ih := e_sumT sm qs (acc + q) (n + 1) s (by rw [Nat.succ_mul]; exact Zd.add sm.pos ha (hz q List.mem_cons_self)) (fun x hx => hz x (List.mem_cons_of_mem _ hx)) (by omega)
    rw [sumQ_cons, ← Rat.add_assoc, ← ih]
    show thenR _ (fMt 2 F_Ratio___add__ [.rat acc, .rat q] s) = _
    simp [thenR, e1]
theorem e_gSum {D B N : Nat} (sm : Sm D (N * B + B)) {qs : List Rat} (hz : ∀ q ∈ qs, Zd D B q) (hn : qs.length ≤ N) (hne : qs ≠ []) (s : S) : gSum F_Ratio___add__ F_Ratio___radd__ [.lst (qs.map .rat)] s = .ok (.rat (sumQ qs)) s := by
  match qs, hne with
  | q :: qs, _ =>
    rw [List.length_cons] at hn
    have hzq := hz q List.mem_cons_self
    have e1 := e_radd (x := q) (i := 0) (hzq.sm (sm.le sm.pos (Nat.le_refl _) (Nat.le_add_left _ _))) (Zb_int (b := 0) (by decide)) (by decide) s.mu
    rw [Rat.intCast_zero, Rat.zero_add] at e1
    have ih := e_sumT sm qs q 1 s (by rw [Nat.one_mul]; exact hzq) (fun x hx => hz x (List.mem_cons_of_mem _ hx)) (by omega)
    rw [sumQ_cons, ← ih]
    show thenR _ (fMt 2 F_Ratio___radd__ [.rat q, .int 0] s) = _
    simp [thenR, e1]
section
variable {mu : List MO} {n k : Nat} {Q : PV → List MO → Prop}
theorem w_great (h : Src mu n k) (hk : k + 4 ≤ 2 ^ 49) (i : ∀ q mu', Zb q 160 → Src mu' n (k + 4) → Q (fr q) mu') : W (F_w_great [.ptr n] mu) Q := by
  unfold F_w_great d_w_great
  simp [W_runBody]
  refine w_next h (by omega) (by decide) (by decide) fun r1 m1 a1 a2 h1 => ?_
  simp
  split
  · refine w_drawn h1 (by omega) fun q m2 hq h2 => ?_
    exact i q m2 (hq.zb (by decide) (by decide) (by decide)) (h2.le (by omega))
  · refine w_next h1 (by omega) (by decide) (by decide) fun r2 m2 b1 b2 h2 => ?_
    simp
    refine w_next h2 (by omega) (by decide) (by decide) fun r3 m3 c1 c2 h3 => ?_
    simp
    have hb : ib (79792266297612001 + r3) ≤ 9000 := by
      have := ib_le (i := 79792266297612001 + r3) (b := 57) (by omega)
      omega
    have hz : Zb (Rat.divInt (10000000000000000000000000 + r2) (79792266297612001 + r3)) 160 := by
      have z := Zd.divInt (n := 10000000000000000000000000 + r2) (d := 79792266297612001 + r3) (D := (79792266297612001 + r3).natAbs) (B := 100000000000000000000000000) (by omega) (Nat.dvd_refl _) (by omega)
      exact z.zb (by omega) (by omega) (by omega)
    exact W.of (e_low _ _ m3 (by omega) hb) (i _ _ hz (h3.le (by omega)))
end
theorem W_ne_self {p : PV} {s : S} {Q : PV → S → Prop} (h : okD 8 p = true) : W (gEq true p p s) Q = Q (.bl false) s := by
  unfold gEq
  rw [if_pos ⟨h, h⟩, eqP_self 8 p h, W_ok]
  rfl
@[simp ↓] theorem I_ne_self {p : PV} {s : S} {Q : PV → S → Prop} (h : okD 8 p = true) : WI (gEq true p p s) (K := ⟨Q⟩) = Q (.bl false) s := W_ne_self h
theorem okD_fr7 (q : Rat) : okD 7 (fr q) = true := by simp [fr, okD, okDL]
theorem W_ix0 {q : Rat} {s : S} {Q : PV → S → Prop} : W (fIx (fr q) (.int 0) s) Q = Q (.int q.num) s := by
  rw [show fIx (fr q) (.int 0) s = .ok (.int q.num) s from rfl, W_ok]
@[simp ↓] theorem I_ix0 {q : Rat} {s : S} {Q : PV → S → Prop} : WI (fIx (fr q) (.int 0) s) (K := ⟨Q⟩) = Q (.int q.num) s := W_ix0
theorem W_ix1 {q : Rat} {s : S} {Q : PV → S → Prop} : W (fIx (fr q) (.int 1) s) Q = Q (.int q.den) s := by
  rw [show fIx (fr q) (.int 1) s = .ok (.int q.den) s from rfl, W_ok]
@[simp ↓] theorem I_ix1 {q : Rat} {s : S} {Q : PV → S → Prop} : WI (fIx (fr q) (.int 1) s) (K := ⟨Q⟩) = Q (.int q.den) s := W_ix1
theorem fr_neg (q : Rat) : fr (-q) = .tup [.int (-q.num), .int q.den] := by unfold fr; rw [Rat.neg_num, Rat.neg_den]
theorem fr_ab2 (q : Rat) : fr (ab q) = .tup [.int q.num.natAbs, .int q.den] := rfl
theorem at6 (a b c d e f : PV) : L2.atI [a, b, c, d, e, f] 3 = some d ∧ L2.atI [a, b, c, d, e, f] 4 = some e ∧ L2.atI [a, b, c, d, e, f] 5 = some f := ⟨rfl, rfl, rfl⟩
theorem e_alls {a b c : Rat} (mu : List MO) : F_w_all_taken [.lst [.rat a, .rat b, .rat c]] mu = .ok (.lst [fr a, fr b, fr c]) mu := e_all_taken [a, b, c] (Nat.le_of_ble_eq_true rfl) mu
theorem turn03 {mu : List MO} {n k : Nat} {sc kk : SV} {o3 o4 o5 o6 o7 o8 o9 o10 o11 o12 o13 o14 : Option SV} (h : Src mu n k) (hk : k + 9 ≤ 2 ^ 49) (P : Fl → S → Prop)
    (hP : ∀ o6 o7 o8 o9 o10 o11 o12 mu', Src mu' n (k + 9) → P .nx ⟨[some sc, some kk, some (.val (.ptr n)), o3, o4, o5, o6, o7, o8, o9, o10, o11, o12, o13, o14], mu'⟩) :
    W (b_law_k03_1 ⟨[some sc, some kk, some (.val (.ptr n)), o3, o4, o5, o6, o7, o8, o9, o10, o11, o12, o13, o14], mu⟩) P := by
  unfold b_law_k03_1
  simp
  refine w_great h (by omega) fun x m1 hx h1 => ?_
  simp
  refine w_great h1 (by omega) fun y m2 hy h2 => ?_
  simp
  refine w_next h2 (by omega) (by decide) (by decide) fun r m3 a1 a2 h3 => ?_
  simp
  obtain ⟨w, hw⟩ : ∃ w : Int, w = r - 20 := ⟨_, rfl⟩
  have zw : Zb (w : Rat) 160 := Zb_int (Nat.le_trans (show w.natAbs ≤ 40 by omega) (by decide))
  have x0 : ¬ x.den = 0 := x.den_nz
  have y0 : ¬ y.den = 0 := y.den_nz
  have okx : okR x.num (x.den : Int) = true := decide_eq_true (by have := hx.ib_den; omega)
  have oky : okR y.num (y.den : Int) = true := decide_eq_true (by have := hy.ib_den; omega)
  have dx : Rat.divInt x.num x.den = x := Rat.num_divInt_den x
  have dy : Rat.divInt y.num y.den = y := Rat.num_divInt_den y
  have a1 := fun mu => e_add (p := .rat y) hx hy (.inl rfl) (by decide) mu
  have a2 := fun mu => e_sub (p := .rat y) hx hy (.inl rfl) (by decide) mu
  have a3 := fun mu => e_mul (p := .rat y) hx hy (.inl rfl) (by decide) mu
  have a4 := fun mu => e_add (p := .int w) hx zw (.inr ⟨rfl, rfl⟩) (by decide) mu
  have a5 := fun mu => e_sub (p := .int w) hx zw (.inr ⟨rfl, rfl⟩) (by decide) mu
  have a6 := fun mu => e_mul (p := .int w) hx zw (.inr ⟨rfl, rfl⟩) (by decide) mu
  have b1 := fun mu => e_plus hx hy (by decide) mu
  have b2 := fun mu => e_minus hx hy (by decide) mu
  have b3 := fun mu => e_times hx hy (by decide) mu
  have b4 := fun mu => e_plus hx zw (by decide) mu
  have b5 := fun mu => e_minus hx zw (by decide) mu
  have b6 := fun mu => e_times hx zw (by decide) mu
  have fw : fr (w : Rat) = .tup [.int w, .int 1] := rfl
  rw [fw] at b4 b5 b6
  have t6 := fun mu => e_all_taken [x + y, x - y, x * y, x + w, x - w, x * w] (Nat.le_of_ble_eq_true rfl) mu
  simp only [List.map_cons, List.map_nil] at t6
  have c1 := fun mu => e_radd hx zw (by decide) mu
  have c2 := fun mu => e_rsub hx zw (by decide) mu
  have c3 := fun mu => e_rmul hx zw (by decide) mu
  have d1 := fun mu => e_neg hx (by decide) mu
  have d2 := fun mu => e_abs hx (by decide) mu
  have d3 := fun mu => e_neg hy (by decide) mu
  have k1 := fun mu => e_alls (a := x + w) (b := -(x - w)) (c := x * w) mu
  have k2 := fun mu => e_alls (a := -x) (b := ab x) (c := -y) mu
  have k3 := fun mu => e_all_taken [x, y] (Nat.le_of_ble_eq_true rfl) mu
  simp only [List.map_cons, List.map_nil] at k3
  have e2 : (w : Rat) - x = -(x - w) := by rw [Rat.neg_sub]
  simp only [Rat.add_comm (w : Rat) x] at c1
  simp only [e2] at c2
  simp only [Rat.mul_comm (w : Rat) x] at c3
  have g6 := fun a b c d e f => (at6 a b c d e f).1
  have g7 := fun a b c d e f => (at6 a b c d e f).2.1
  have g8 := fun a b c d e f => (at6 a b c d e f).2.2
  simp only [fr_neg, fr_ab2] at k1 k2
  rw [← hw]
  simp [-List.getElem?_cons_succ, x0, y0, okx, oky, dx, dy, gRR, gR1, gAbs, a1, a2, a3, a4, a5, a6, b1, b2, b3, b4, b5, b6, t6, c1, c2, c3, d1, d2, d3, k1, k2, k3, g6, g7, g8, okD, okDL, okD_fr7]
  exact hP _ _ _ _ _ _ _ m3 h3
theorem turn03b {ns : List Int} {i : Nat} (hi : i ≤ 4) {mu : List MO} {o2 o3 o4 o5 o6 o7 o8 o9 o10 o11 o12 o13 o14 : Option SV} (hf : flatMs mu = true) (P : Fl → S → Prop)
    (hP : ∀ o2 o3 o4 o5 o6 o7 o8 o9 o10 o11 o12 o13 o14 mu', flatMs mu' = true → P .nx ⟨[some (.val (.frz (ns.map .int))), some (.val (.int (i : Int))), o2, o3, o4, o5, o6, o7, o8, o9, o10, o11, o12, o13, o14], mu'⟩) :
    W (b_law_k03_3 ⟨[some (.val (.frz (ns.map .int))), some (.val (.int (i : Int))), o2, o3, o4, o5, o6, o7, o8, o9, o10, o11, o12, o13, o14], mu⟩) P := by
  unfold b_law_k03_3
  simp
  refine w_source (by omega) hf fun m1 h1 => ?_
  simp
  refine W_forL (I := fun xs s => ∃ o3 o6 o7 o8 o9 o10 o11 o12 m k, Src m mu.length k ∧ k + 9 * xs.length ≤ 4000 ∧ s = ⟨[some (.val (.frz (ns.map .int))), some (.val (.int (i : Int))), some (.val (.ptr mu.length)), o3, o4, o5, o6, o7, o8, o9, o10, o11, o12, o13, o14], m⟩)
    ⟨o3, o6, o7, o8, o9, o10, o11, o12, m1, _, h1, by simp [rangeP]; omega, rfl⟩ ?_ ?_
  · intro x xs s hI
    obtain ⟨o3, o6, o7, o8, o9, o10, o11, o12, m, k, hS, hk, hs'⟩ := hI
    subst hs'
    simp only [List.length_cons] at hk
    simp
    refine turn03 (o3 := some (.val x)) (o4 := o4) (o5 := o5) (o6 := o6) (o7 := o7) (o8 := o8) (o9 := o9) (o10 := o10) (o11 := o11) (o12 := o12) (o13 := o13) (o14 := o14) hS (by omega) _ ?_
    intro a6 a7 a8 a9 a10 a11 a12 mu' h'
    simp only []
    exact ⟨some (.val x), a6, a7, a8, a9, a10, a11, a12, mu', k + 9, h', by omega, rfl⟩
  · intro s hI
    obtain ⟨o3, o6, o7, o8, o9, o10, o11, o12, m, k, hS, hk, hs'⟩ := hI
    subst hs'
    simp
    refine w_row (m := 9) hS (by omega) (by omega) fun qs m2 hz hl h2 => ?_
    have sq : Sm 60 (9 * 30 + 30) := ⟨by decide, by decide +kernel, by decide +kernel⟩
    simp [-List.map_map]
    refine W_compMap qs fr (fun q => .rat q) (by omega) (fun q hq => ?_) ?_
    · have zq : Zb q 3990 := (hz q hq).sm (sq.le (by decide) (by decide) (by decide))
      have okq : okR q.num (q.den : Int) = true := decide_eq_true (by have := zq.ib_den; omega)
      have dq : Rat.divInt q.num q.den = q := Rat.num_divInt_den q
      have q0 : ¬ q.den = 0 := q.den_nz
      simp [e_law_k03_2, fr, okq, dq, q0, wipeE]
    · by_cases z : qs = []
      · subst z
        simp [wipeE, eqP, eqPL, okD, okDL]
        exact hP _ _ _ _ _ _ _ _ _ _ _ _ _ _ h2.flat
      · have ze : qs.isEmpty = false := by
          cases qs with
          | nil => exact absurd rfl z
          | cons _ _ => rfl
        have e1 := fun s => e_gSum (N := 9) sq hz hl z s
        have e2 := fun mu => z_sum (N := 9) sq hz hl mu
        simp [-List.map_map, wipeE, ze, e1, e2, e_taken]
        exact hP _ _ _ _ _ _ _ _ _ _ _ _ _ _ h2.flat
theorem law_k03 (ns : List Int) (hn : ns.length ≤ 63) : ∃ mu', F_law_k03 [.frz (ns.map .int)] [] = .ok (.bl true) mu' := by
  have h : W (F_law_k03 [.frz (ns.map .int)] []) (fun v _ => v = .bl true) := by
    unfold F_law_k03 d_law_k03
    simp [W_runBody]
    refine ⟨by omega, ?_⟩
    refine turns (by omega) (fun r => ∃ o2 o3 o4 o5 o6 o7 o8 o9 o10 o11 o12 o13 o14, r = [o2, o3, o4, o5, o6, o7, o8, o9, o10, o11, o12, o13, o14]) ⟨none, none, none, none, none, none, none, none, none, none, none, none, none, rfl⟩ rfl ?_ ?_
    · rintro i rest mu hi ⟨o2, o3, o4, o5, o6, o7, o8, o9, o10, o11, o12, o13, o14, rfl⟩ hf
      refine turn03b (ns := ns) (i := i) (o2 := o2) (o3 := o3) (o4 := o4) (o5 := o5) (o6 := o6) (o7 := o7) (o8 := o8) (o9 := o9) (o10 := o10) (o11 := o11) (o12 := o12) (o13 := o13) (o14 := o14) hi hf _ ?_
      intro a2 a3 a4 a5 a6 a7 a8 a9 a10 a11 a12 a13 a14 mu' hf'
      exact ⟨rfl, _, mu', ⟨a2, a3, a4, a5, a6, a7, a8, a9, a10, a11, a12, a13, a14, rfl⟩, hf', rfl⟩
    · rintro o1 rest mu ⟨o2, o3, o4, o5, o6, o7, o8, o9, o10, o11, o12, o13, o14, rfl⟩ hf
      have z2 : ∀ t b : Int, b = 2 ∨ b = 3 ∨ b = 6 → t = 1 → Zb (Rat.divInt t b) 10 := fun t b hb ht => by
        subst ht
        rcases hb with rfl | rfl | rfl <;> exact ⟨by decide +kernel, by decide +kernel⟩
      have k1 := fun mu => e_rsub (i := 2) (z2 1 2 (.inl rfl) rfl) (Zb_int (b := 10) (by decide)) (by decide) mu
      have k2 := fun mu => e_add (z2 1 6 (.inr (.inr rfl)) rfl) (z2 1 3 (.inr (.inl rfl)) rfl) (.inl rfl) (by decide) mu
      have f1 : fr ((2 : Rat) - Rat.divInt 1 2) = .tup [.int 3, .int 2] := fr_of (d := 2) (by decide +kernel) (by decide +kernel)
      have f2 : fr (Rat.divInt 1 6 + Rat.divInt 1 3) = .tup [.int 1, .int 2] := fr_of (d := 2) (by decide +kernel) (by decide +kernel)
      have o12 : okR 1 2 = true := by decide
      have o13 : okR 1 3 = true := by decide
      have o16 : okR 1 6 = true := by decide
      have t1 : ∀ mu, F_w_taken [.rat ((2 : Rat) - Rat.divInt 1 2)] mu = .ok (.tup [.int 3, .int 2]) mu := fun mu => by rw [← f1]; exact e_taken _ mu
      have t2 : ∀ mu, F_w_taken [.rat (Rat.divInt 1 6 + Rat.divInt 1 3)] mu = .ok (.tup [.int 1, .int 2]) mu := fun mu => by rw [← f2]; exact e_taken _ mu
      have f3 : fr (Rat.divInt 9 18) = .tup [.int 1, .int 2] := fr_of (d := 2) (by decide +kernel) (by decide +kernel)
      have t3 : ∀ mu, F_w_taken [.rat (Rat.divInt 9 18)] mu = .ok (.tup [.int 1, .int 2]) mu := fun mu => by rw [← f3]; exact e_taken _ mu
      simp [gRR, o12, o13, o16, k1, k2, t1, t2, t3, okD, okDL, eqP, eqPL]
  obtain ⟨v, mu', e, rfl⟩ := h.out
  exact ⟨mu', e⟩
end PX

set_option maxHeartbeats 1000000
namespace PX
open PySem L3 LD PC PD
/-! ## weights -/
theorem scanW {wm nn : PV} (mu : List MO) : ∀ (xs : List PV) (o1 o2 : Option SV), (∀ x ∈ xs, ∃ (i : Int) (p : PV) (q : Rat), x = .tup [.int i, p] ∧ Is q p ∧ 0 ≤ q.num) →
    ∃ o1' o2', forL (gT 2 (gCons (gN 2) (gCons (gN 3) gNil))) b_need_weights_1 xs ⟨[some (.val wm), some (.val nn), o1, o2], mu⟩ = .ok .nx ⟨[some (.val wm), some (.val nn), o1', o2'], mu⟩
  | [], o1, o2, _ => ⟨o1, o2, rfl⟩
  | x :: xs, o1, o2, h => by
    obtain ⟨i, p, q, rfl, hp, h0⟩ := h x List.mem_cons_self
    obtain ⟨o1', o2', ih⟩ := scanW (wm := wm) (nn := nn) mu xs (some (.val (.int i))) (some (.val p)) fun y hy => h y (List.mem_cons_of_mem _ hy)
    refine ⟨o1', o2', ?_⟩
    have e := e_is_number hp mu
    have e2 := e_ratio_of hp mu
    have h1 : ¬ q.num < 0 := by omega
    rw [← ih]
    show forL _ _ (_ :: xs) _ = _
    conv => lhs; unfold forL
    simp [b_need_weights_1, e, e2, h1]
theorem e_need_weights {ws : List Rat} {ps : List PV} {wm : PV} (h : All2 ws ps) (hs : wm = .lst ps ∨ wm = .tup ps) (hl : ws.length ≤ 1000) (h0 : ∀ w ∈ ws, 0 ≤ w.num) {n : Int} (hn : n = ws.length) (mu : List MO) : F_need_weights [wm, .int n] mu = .ok (.lst (ws.map .rat)) mu := by
  have hlen := h.len
  obtain ⟨o1, o2, e1⟩ := scanW (wm := wm) (nn := .int n) mu (enumP ps) none none (fun x hx => by
    obtain ⟨i, hi⟩ := List.mem_iff_getElem?.mp hx
    obtain ⟨y, hy, rfl⟩ := enumP_get hi
    obtain ⟨q, hq1, hq⟩ := h.mem (List.mem_of_getElem? hy)
    exact ⟨i, y, q, rfl, hq, h0 q hq1⟩)
  have e2 := compL_map (t := gN 3) (tt := dYes) (te := dFnS F_ratio_of (dCons (dVar 3) dNil)) (vs := [3]) (s0 := ⟨[some (.val wm), some (.val (.int n)), o1, none], mu⟩) (f := fun p => PV.rat (val p)) ps [] (fun x hx => by
    obtain ⟨q, _, hq⟩ := h.mem hx
    have e := e_ratio_of hq mu
    refine ⟨_, ⟨[some (.val wm), some (.val (.int n)), o1, some (.val x)], mu⟩, rfl, rfl, ?_, rfl⟩
    simp [e, val_is hq]) (by simp; omega)
  rw [h.vals] at e2
  have er : F_is_row [wm] mu = .ok (.bl true) mu := by
    have : (ps.length : Int) ≤ 1000 := by omega
    rcases hs with rfl | rfl <;> simp [F_is_row, runBody, d_is_row, this]
  have hn' : n = (ps.length : Int) := by omega
  have q1 : okD 8 (.int n) = true := rfl
  rcases hs with rfl | rfl
  · subst hn'
    simp [F_need_weights, runBody, d_need_weights, er, e1, e2, wipeE, okD, eqP]
  · subst hn'
    simp [F_need_weights, runBody, d_need_weights, er, e1, e2, wipeE, okD, eqP]
theorem boolsP_map : ∀ bs : List Bool, boolsP (bs.map PV.bl) = some bs
  | [] => rfl
  | b :: bs => by simp [boolsP, boolsP_map bs]
theorem e_need_some_weight {qs ws : List Rat} (hne : qs ≠ []) (hw : ∃ w ∈ ws, w ≠ 0) (hl : ws.length ≤ 10000) (mu : List MO) : F_need_some_weight [.lst (qs.map .rat), .lst (ws.map .rat)] mu = .ok .non mu := by
  have hx : ((qs.length : Int) == 0) = false := by simpa using hne
  have a2 : F_need_items [.lst (qs.map .rat)] mu = .ok .non mu := by simp [F_need_items, runBody, d_need_items, hx]
  have h : W (F_need_some_weight [.lst (qs.map .rat), .lst (ws.map .rat)] mu) (fun v mu' => v = .non ∧ mu' = mu) := by
    unfold F_need_some_weight d_need_some_weight
    simp [W_runBody, a2, -List.map_map]
    refine W_compMap ws .rat (fun w => .bl (decide (w = 0))) (by omega) ?_ ?_
    · intro w hw
      have e := fun mu => e_eq (x := w) (y := 0) (p := .int 0) (.inr ⟨rfl, rfl⟩) mu
      simp [e_need_some_weight_1, gEqR, e, wipeE]
    · have e : ws.map (fun w => PV.bl (decide (w = 0))) = (ws.map fun w => decide (w = 0)).map PV.bl := by rw [List.map_map]; rfl
      have e3 : (ws.map fun w => decide (w = 0)).all id = false := by
        obtain ⟨w, h1, h2⟩ := hw
        rw [List.all_eq_false]
        exact ⟨decide (w = 0), List.mem_map.mpr ⟨w, h1, rfl⟩, by simp [h2]⟩
      simp [wipeE, -List.map_map]
      rw [e, boolsP_map]
      simp only [e3]
      simp
  obtain ⟨v, mu', e, rfl, rfl⟩ := h.out
  exact e
def wpr (qs ws : List Rat) : List Rat := (qs.zip ws).map fun p => p.1 * p.2
theorem zipP_map {f g : Rat → PV} (qs ws : List Rat) : zipP (qs.map f) (ws.map g) = (qs.zip ws).map fun p => .tup [f p.1, g p.2] := by
  unfold zipP
  rw [List.zip_map, List.map_map]
  rfl
theorem wpr_zd {D B E C : Nat} {qs ws : List Rat} (hq : ∀ q ∈ qs, Zd D B q) (hw : ∀ w ∈ ws, Zd E C w) : ∀ x ∈ wpr qs ws, Zd (D * E) (B * C) x := fun x hx => by
  obtain ⟨⟨a, b⟩, h, rfl⟩ := List.mem_map.mp hx
  exact (hq a (List.of_mem_zip h).1).mul (hw b (List.of_mem_zip h).2)
theorem wpr_len {qs ws : List Rat} (h : ws.length = qs.length) : (wpr qs ws).length = qs.length := by
  unfold wpr
  rw [List.length_map, List.length_zip, h, Nat.min_self]
section
variable {D B E C N : Nat} {qs ws : List Rat} {ps wps : List PV} {sm wm : PV}
theorem e_weighted_total (s : Sm (D * E) (N * (B * C))) (sq : Sm D B) (sw : Sm E C) (hN : 1 ≤ N) (hq : ∀ q ∈ qs, Zd D B q) (hw : ∀ w ∈ ws, Zd E C w) (hl : ws.length = qs.length) (hn : qs.length ≤ 1000) (mu : List MO) :
    F_weighted_total [.lst (qs.map .rat), .lst (ws.map .rat)] mu = .ok (.rat (sumQ (wpr qs ws))) mu := by
  have e1 := fun mu => z_total (s.le s.pos (Nat.le_refl _) (Nat.le_mul_of_pos_left _ (by omega))) (wpr_zd hq hw) (by rw [wpr_len hl]; omega) mu
  have h : W (F_weighted_total [.lst (qs.map .rat), .lst (ws.map .rat)] mu) (fun v mu' => v = .rat (sumQ (wpr qs ws)) ∧ mu' = mu) := by
    unfold F_weighted_total d_weighted_total
    simp [W_runBody, zipP_map, -List.map_map]
    refine W_compMap (qs.zip ws) (fun p => .tup [.rat p.1, .rat p.2]) (fun p => .rat (p.1 * p.2)) (by rw [List.length_zip]; omega) ?_ ?_
    · rintro ⟨a, b⟩ hp
      have za := (hq a (List.of_mem_zip hp).1).sm sq
      have zb := (hw b (List.of_mem_zip hp).2).sm sw
      have e := fun mu => e_mul (p := .rat b) za zb (.inl rfl) (by decide) mu
      simp [e_weighted_total_1, gRL, e, wipeE]
    · have e : (qs.zip ws).map (fun p => PV.rat (p.1 * p.2)) = (wpr qs ws).map .rat := by unfold wpr; rw [List.map_map]; rfl
      simp [wipeE, -List.map_map]
      rw [e]
      simp [e1]
  obtain ⟨v, mu', e, rfl, rfl⟩ := h.out
  exact e
theorem e_weighted_mean (s : Sm (D * E) (N * (B * C))) (s2 : Sm E (N * C)) (sq : Sm D B) (hN : 1 ≤ N) (h : All2 qs ps) (hs : sm = .lst ps ∨ sm = .tup ps) (h2 : All2 ws wps) (hs2 : wm = .lst wps ∨ wm = .tup wps) (hq : ∀ q ∈ qs, Zd D B q) (hw : ∀ w ∈ ws, Zd E C w)
    (hl : ws.length = qs.length) (hn : qs.length ≤ N) (hN2 : N ≤ 1000) (hne : qs ≠ []) (h0 : ∀ w ∈ ws, 0 ≤ w.num) (hS : (sumQ ws).num ≠ 0) (mu : List MO) : F_weighted_mean [sm, wm] mu = .ok (.rat (sumQ (wpr qs ws) / sumQ ws)) mu := by
  have sw : Sm E C := s2.le s2.pos (Nat.le_refl _) (Nat.le_mul_of_pos_left _ (by omega))
  have e1 := e_need_sample h hs (by omega) mu
  have e2 := e_need_weights (n := (qs.length : Int)) h2 hs2 (by omega) h0 (by omega) mu
  have hw1 : ∃ w ∈ ws, w ≠ 0 := by
    apply Classical.byContradiction
    intro z
    have : ∀ w ∈ ws, w = 0 := fun w hw => Classical.byContradiction fun y => z ⟨w, hw, y⟩
    apply hS
    have e : ∀ l : List Rat, (∀ w ∈ l, w = 0) → sumQ l = 0 := by
      intro l
      induction l with
      | nil => intro _; rfl
      | cons a l ih => intro h; rw [sumQ_cons, h a List.mem_cons_self, ih fun x hx => h x (List.mem_cons_of_mem _ hx), Rat.add_zero]
    rw [e ws this]; rfl
  have e3 := e_need_some_weight hne hw1 (by omega) mu
  have e4 := e_weighted_total s sq sw hN hq hw hl (by omega) mu
  have e5 := z_total sw hw (by omega) mu
  have z1 := ((Zd.sumz s.pos (wpr_zd hq hw)).mono (Nat.dvd_refl _) (Nat.mul_le_mul_right _ (by rw [wpr_len hl]; exact hn))).sm s
  have z2 := ((Zd.sumz s2.pos hw).mono (Nat.dvd_refl _) (Nat.mul_le_mul_right _ (by rw [hl]; exact hn))).sm s2
  have e6 := e_over (x := sumQ (wpr qs ws)) (p := .rat (sumQ ws)) z1 z2 (.inl rfl) hS (by decide) mu
  simp [F_weighted_mean, runBody, d_weighted_mean, e1, e2, e3, e4, e5, e6]
end
end PX

set_option maxHeartbeats 1000000
namespace PX
open PySem L3 LD PC PD
/-! ## the harmonic mean -/
def inv (q : Rat) : Rat := Rat.divInt q.den q.num
theorem inv_zb {q : Rat} {a : Nat} (h : Zb q a) (h0 : 0 < q.num) : Zb (inv q) a := by
  have p := divInt_parts (q.den : Int) q.num (by omega)
  refine ⟨Nat.le_trans p.1 ?_, Nat.le_trans p.2 h.1⟩
  rw [Int.natAbs_natCast]; exact h.2
theorem inv_eq (q : Rat) : inv q = q⁻¹ := (Rat.inv_def q).symm
theorem scanH {qs : List Rat} {p0 p1 : PV} (mu : List MO) : ∀ (l : List (Nat × Rat)) (o2 o3 : Option SV), (∀ x ∈ l, 0 < x.2.num) →
    ∃ o2' o3', forL (gT 2 (gCons (gN 2) (gCons (gN 3) gNil))) b_harmonic_mean_1 (l.map fun p => .tup [.int (p.1 : Int), .rat p.2]) ⟨[some (.val p0), some (.val p1), o2, o3], mu⟩ = .ok .nx ⟨[some (.val p0), some (.val p1), o2', o3'], mu⟩
  | [], o2, o3, _ => ⟨o2, o3, rfl⟩
  | x :: xs, o2, o3, h => by
    obtain ⟨o2', o3', ih⟩ := scanH (qs := qs) (p0 := p0) (p1 := p1) mu xs (some (.val (.int (x.1 : Int)))) (some (.val (.rat x.2))) fun y hy => h y (List.mem_cons_of_mem _ hy)
    refine ⟨o2', o3', ?_⟩
    have h1 : ¬ x.2.num ≤ 0 := by have := h x List.mem_cons_self; omega
    rw [← ih, List.map_cons]
    conv => lhs; unfold forL
    simp [b_harmonic_mean_1, h1]
theorem scanB {p0 p1 : PV} {x : Nat × Rat} (hx : x.2.num ≤ 0) (mu : List MO) (l2 : List (Nat × Rat)) : ∀ (l : List (Nat × Rat)) (o2 o3 : Option SV), (∀ x ∈ l, 0 < x.2.num) →
    ∃ env', forL (gT 2 (gCons (gN 2) (gCons (gN 3) gNil))) b_harmonic_mean_1 ((l ++ x :: l2).map fun p => .tup [.int (p.1 : Int), .rat p.2]) ⟨[some (.val p0), some (.val p1), o2, o3], mu⟩ = .exn (.exc "NotPositive" ["index"] [.int (x.1 : Int)]) ⟨env', mu⟩
  | [], o2, o3, _ => by
    refine ⟨[some (.val p0), some (.val p1), some (.val (.int (x.1 : Int))), some (.val (.rat x.2))], ?_⟩
    rw [List.nil_append, List.map_cons]
    unfold forL
    simp [b_harmonic_mean_1, hx]
  | y :: ys, o2, o3, h => by
    obtain ⟨env', ih⟩ := scanB (p0 := p0) (p1 := p1) hx mu l2 ys (some (.val (.int (y.1 : Int)))) (some (.val (.rat y.2))) fun y hy => h y (List.mem_cons_of_mem _ hy)
    refine ⟨env', ?_⟩
    have h1 : ¬ y.2.num ≤ 0 := by have := h y List.mem_cons_self; omega
    rw [← ih, List.cons_append, List.map_cons]
    conv => lhs; unfold forL
    simp [b_harmonic_mean_1, h1]
section
variable {qs : List Rat} {ps : List PV} {sm : PV} {a : Nat}
theorem e_harmonic (h : All2 qs ps) (hs : sm = .lst ps ∨ sm = .tup ps) (hz : ∀ q ∈ qs, Zb q a) (ha : qs.length * (a + 1) + a + 20 ≤ 4000) (hn : qs.length ≤ 1000) (hne : qs ≠ []) (h0 : ∀ q ∈ qs, 0 < q.num) (hS : (sumQ (qs.map inv)).num ≠ 0) (mu : List MO) :
    F_harmonic_mean [sm] mu = .ok (.rat (((qs.length : Int) : Rat) / sumQ (qs.map inv))) mu := by
  have hl : 0 < qs.length := List.length_pos_iff.mpr hne
  have hla : qs.length * (a + 1) = qs.length * a + qs.length := by rw [Nat.mul_add, Nat.mul_one]
  have e1 := e_need_filled h hs hn hne mu
  obtain ⟨o2, o3, e2⟩ := scanH (qs := qs) (p0 := sm) (p1 := .lst (qs.map .rat)) mu (ix 0 qs) none none fun x hx => h0 _ (ix_mem hx).1
  have zi : ∀ q ∈ qs.map inv, Zb q a := fun q hq => by
    obtain ⟨x, hx, rfl⟩ := List.mem_map.mp hq
    exact inv_zb (hz x hx) (h0 x hx)
  have e3 := fun mu => e_total (qs.map inv) zi (by rw [List.length_map]; omega) (by omega) (by rw [List.length_map]; omega) mu
  have zs := Zb_sum (qs.map inv) 0 0 Zb0 zi
  rw [List.length_map] at zs
  have e4 := fun mu => e_over (x := ((qs.length : Int) : Rat)) (y := sumQ (qs.map inv)) (p := .rat (sumQ (qs.map inv))) (a := 14) (Zb_int (by omega)) zs (.inl rfl) hS (by omega) mu
  have okl : okR (qs.length : Int) 1 = true := by unfold okR; decide
  have dl : Rat.divInt (qs.length : Int) 1 = ((qs.length : Int) : Rat) := divInt_one _
  have hw : W (F_harmonic_mean [sm] mu) (fun v mu' => v = .rat (((qs.length : Int) : Rat) / sumQ (qs.map inv)) ∧ mu' = mu) := by
    unfold F_harmonic_mean d_harmonic_mean
    simp [W_runBody, e1, -List.map_map, enumP_ix]
    refine W.of e2 ?_
    simp [okl, -List.map_map]
    refine W_compMap qs .rat (fun q => .rat (inv q)) (by omega) ?_ ?_
    · intro q hq
      have hb : q.num ≠ 0 := by have := h0 q hq; omega
      have o9 : okR (q.den : Int) q.num = true := decide_eq_true (by have := (hz q hq).ib_num; omega)
      simp [e_harmonic_mean_2, hb, o9, inv, wipeE]
    · have e : qs.map (fun q => PV.rat (inv q)) = (qs.map inv).map .rat := by rw [List.map_map]; rfl
      simp [wipeE, -List.map_map]
      rw [e]
      simp [e3, e4, dl, -List.map_map]
  obtain ⟨v, mu', e, rfl, rfl⟩ := hw.out
  exact e
theorem e_harmonic_bad (h : All2 qs ps) (hs : sm = .lst ps ∨ sm = .tup ps) (hn : qs.length ≤ 1000) (hne : qs ≠ []) {l1 l2 : List (Nat × Rat)} {x : Nat × Rat} (hx : x.2.num ≤ 0) (h1 : ∀ x ∈ l1, 0 < x.2.num) (hi : ix 0 qs = l1 ++ x :: l2) (mu : List MO) :
    F_harmonic_mean [sm] mu = .exn (.exc "NotPositive" ["index"] [.int (x.1 : Int)]) mu := by
  have e1 := e_need_filled h hs hn hne mu
  obtain ⟨env', e2⟩ := scanB (p0 := sm) (p1 := .lst (qs.map .rat)) hx mu l2 l1 none none h1
  rw [← hi] at e2
  simp [F_harmonic_mean, runBody, d_harmonic_mean, e1, enumP_ix, e2]
end
end PX

set_option maxHeartbeats 1000000
namespace PX
open PySem L3 LD PC PD
/-! ## what is told -/
theorem e_told12 {sm : PV} {h : Rat} {mu : List MO} (e : F_harmonic_mean [sm] mu = .ok (.rat h) mu) : F_w_told [sm] mu = .ok (fr h) mu := by
  have t := e_taken h mu
  simp [F_w_told, runBody, d_w_told, b_w_told_2, e, t]
theorem e_told12x {sm : PV} {i : Int} {mu : List MO} (e : F_harmonic_mean [sm] mu = .exn (.exc "NotPositive" ["index"] [.int i]) mu) : F_w_told [sm] mu = .ok (.lst [.int i]) mu := by
  simp [F_w_told, runBody, d_w_told, b_w_told_2, h_w_told_1, e, wipeS, wipeE, getV, optR]
/-! ## sums -/
theorem sum_nn : ∀ {l : List Rat}, (∀ w ∈ l, 0 ≤ w) → 0 ≤ sumQ l
  | [], _ => by show (0 : Rat) ≤ 0; exact Rat.le_refl
  | a :: l, h => by
    rw [sumQ_cons]
    exact Rat.add_nonneg (h a List.mem_cons_self) (sum_nn fun x hx => h x (List.mem_cons_of_mem _ hx))
theorem pos_add {a b : Rat} (ha : 0 ≤ a) (hb : 0 < b) : 0 < a + b := by
  have h1 : 0 + b ≤ a + b := Rat.add_le_add_right.mpr ha
  rw [Rat.zero_add] at h1
  exact Std.lt_of_lt_of_le hb h1
theorem sum_pos_last {l : List Rat} {b : Rat} (h : ∀ w ∈ l, 0 ≤ w) (hb : 0 < b) : 0 < sumQ (l ++ [b]) := by
  rw [sumQ_append]
  refine pos_add (sum_nn h) ?_
  rw [sumQ_cons]
  show 0 < b + 0
  rw [Rat.add_zero]
  exact hb
theorem sum_pos : ∀ {l : List Rat}, l ≠ [] → (∀ w ∈ l, 0 < w) → 0 < sumQ l
  | [], h, _ => absurd rfl h
  | a :: l, _, h => by
    rw [sumQ_cons, Rat.add_comm]
    exact pos_add (sum_nn fun x hx => Rat.le_of_lt (h x (List.mem_cons_of_mem _ hx))) (h a List.mem_cons_self)
theorem ne_num {q : Rat} (h : 0 < q) : q.num ≠ 0 := fun z => by
  rw [Rat.num_eq_zero.mp z] at h
  exact absurd h Rat.lt_irrefl
theorem num_pos {q : Rat} (h : 0 < q.num) : 0 < q := by
  refine Rat.lt_of_le_of_ne (Rat.num_nonneg.mp (by omega)) fun z => ?_
  rw [← z] at h
  exact absurd h (by decide)
theorem inv_pos {q : Rat} (h : 0 < q) : 0 < inv q := by
  have h1 : 0 < q.num := by
    have := Rat.num_nonneg.mpr (Rat.le_of_lt h)
    have := ne_num h
    omega
  have e : inv q = Rat.divInt q.den q.num := rfl
  rw [Rat.lt_iff_le_and_ne]
  refine ⟨?_, fun z => ?_⟩
  · rw [e]
    exact (Rat.divInt_nonneg_iff_of_pos_right h1).mpr (Int.natCast_nonneg _)
  · have := Rat.mul_inv_cancel q (fun y => by rw [y] at h; exact absurd h Rat.lt_irrefl)
    rw [← inv_eq, ← z, Rat.mul_zero] at this
    exact absurd this (by decide)
theorem wpr_cons (q w : Rat) (qs ws : List Rat) : wpr (q :: qs) (w :: ws) = q * w :: wpr qs ws := rfl
theorem wpr_const (c : Rat) : ∀ qs : List Rat, sumQ (wpr qs (List.replicate qs.length c)) = sumQ qs * c
  | [] => by show (0 : Rat) = 0 * c; rw [Rat.zero_mul]
  | q :: qs => by rw [List.length_cons, List.replicate_succ, wpr_cons, sumQ_cons, sumQ_cons, wpr_const c qs, Rat.add_mul]
theorem sum_rep (c : Rat) : ∀ n : Nat, sumQ (List.replicate n c) = ((n : Int) : Rat) * c
  | 0 => by show (0 : Rat) = 0 * c; rw [Rat.zero_mul]
  | n + 1 => by rw [List.replicate_succ, sumQ_cons, sum_rep c n, cast_succ, Rat.add_mul, Rat.one_mul, Rat.add_comm]
theorem const_mean {c : Rat} (hc : c ≠ 0) {qs : List Rat} (hne : qs ≠ []) : sumQ (wpr qs (List.replicate qs.length c)) / sumQ (List.replicate qs.length c) = sumQ qs / ((qs.length : Int) : Rat) := by
  rw [wpr_const, sum_rep]
  have hn := len_ne hne
  generalize ((qs.length : Int) : Rat) = n at *
  generalize sumQ qs = s
  grind
def mrep (l : List (Rat × PV × Nat)) : List Rat := l.flatMap fun x => List.replicate x.2.2 x.1
theorem mrep_sum : ∀ l : List (Rat × PV × Nat), sumQ (mrep l) = sumQ (wpr (l.map (·.1)) (l.map fun x => ((x.2.2 : Int) : Rat))) ∧ (((mrep l).length : Int) : Rat) = sumQ (l.map fun x => ((x.2.2 : Int) : Rat))
  | [] => ⟨rfl, rfl⟩
  | x :: l => by
    obtain ⟨h1, h2⟩ := mrep_sum l
    refine ⟨?_, ?_⟩
    · show sumQ (List.replicate x.2.2 x.1 ++ mrep l) = _
      rw [sumQ_append, h1, sum_rep, List.map_cons, List.map_cons, wpr_cons, sumQ_cons, Rat.mul_comm]
    · show (((List.replicate x.2.2 x.1 ++ mrep l).length : Int) : Rat) = _
      rw [List.length_append, List.length_replicate, Int.natCast_add, Rat.intCast_add, h2, List.map_cons, sumQ_cons]
theorem rows_of : ∀ {qs : List Rat} {ps : List PV} {ms : List Nat}, All2 qs ps → ms.length = qs.length → ∃ l : List (Rat × PV × Nat), qs = l.map (·.1) ∧ ps = l.map (·.2.1) ∧ ms = l.map (·.2.2) ∧ ∀ x ∈ l, Is x.1 x.2.1
  | _, _, [], .nil, _ => ⟨[], rfl, rfl, rfl, by simp⟩
  | _, _, m :: ms, .nil, h => nomatch h
  | _, _, [], .cons _ _, h => nomatch h
  | q :: qs, p :: ps, m :: ms, .cons h t, hl => by
    obtain ⟨l, e1, e2, e3, e4⟩ := rows_of (ms := ms) t (by simpa using hl)
    refine ⟨(q, p, m) :: l, by rw [e1]; rfl, by rw [e2]; rfl, by rw [e3]; rfl, fun x hx => ?_⟩
    rcases List.mem_cons.mp hx with rfl | hx
    · exact h
    · exact e4 x hx
theorem all2_rep {q : Rat} {p : PV} (h : Is q p) {qs : List Rat} {ps : List PV} (t : All2 qs ps) : ∀ n : Nat, All2 (List.replicate n q ++ qs) (List.replicate n p ++ ps)
  | 0 => t
  | n + 1 => .cons h (all2_rep h t n)
theorem all2_mrep : ∀ {l : List (Rat × PV × Nat)}, (∀ x ∈ l, Is x.1 x.2.1) → All2 (mrep l) (l.flatMap fun x => List.replicate x.2.2 x.2.1)
  | [], _ => .nil
  | x :: l, h => all2_rep (h x List.mem_cons_self) (all2_mrep fun y hy => h y (List.mem_cons_of_mem _ hy)) x.2.2
theorem ex_list {α : Type} {f : α → PV} {p : α → Prop} : ∀ {ys : List PV}, (∀ y ∈ ys, ∃ a, y = f a ∧ p a) → ∃ as : List α, ys = as.map f ∧ ∀ a ∈ as, p a
  | [], _ => ⟨[], rfl, by simp⟩
  | y :: ys, h => by
    obtain ⟨a, rfl, ha⟩ := h y List.mem_cons_self
    obtain ⟨as, rfl, h2⟩ := ex_list (f := f) (p := p) (ys := ys) fun z hz => h z (List.mem_cons_of_mem _ hz)
    exact ⟨a :: as, rfl, fun x hx => (List.mem_cons.mp hx).elim (fun e => by rw [e]; exact ha) (h2 x)⟩
/-- a comprehension that draws -/
theorem W_compDraw {te : DE} {i n c k K : Nat} {env : List (Option SV)} {mu : List MO} (P : PV → Prop) {xs : List PV} {B : List PV → S → Prop} (hx : xs.length ≤ 1000) (h : Src mu n k) (hb : k + c * xs.length ≤ K)
    (hs : ∀ x mu k, Src mu n k → k + c ≤ K → W (te ⟨env.set i (some (.val x)), mu⟩) fun y s3 => P y ∧ ∃ mu', Src mu' n (k + c) ∧ wipeS [i] s3 = ⟨env, mu'⟩)
    (hB : ∀ ys mu', (∀ y ∈ ys, P y) → ys.length = xs.length → Src mu' n (k + c * xs.length) → B ys ⟨env, mu'⟩) : W (compL (gN i) dYes te [i] xs [] ⟨env, mu⟩) B := by
  refine W_compL (I := fun zs acc s => ∃ mu' k', s = ⟨env, mu'⟩ ∧ Src mu' n k' ∧ k' + c * zs.length = k + c * xs.length ∧ acc.length + zs.length = xs.length ∧ ∀ y ∈ acc, P y) ⟨mu, k, rfl, h, rfl, by simp, by simp⟩ ?_ ?_
  · rintro x ys acc s ⟨mu', k', rfl, h', e1, e2, e3⟩
    rw [List.length_cons] at e1 e2
    rw [Nat.mul_succ] at e1
    have q := hs x mu' k' h' (by omega)
    refine W.of (v := true) (t := ⟨env.set i (some (.val x)), mu'⟩) rfl ?_
    rw [if_pos rfl]
    refine W.mono q fun y s3 z => ?_
    obtain ⟨z1, mu2, z2, z3⟩ := z
    refine ⟨by omega, mu2, k' + c, z3, z2, by omega, by rw [List.length_append]; show acc.length + 1 + _ = _; omega, fun w hw => ?_⟩
    rcases List.mem_append.mp hw with hw | hw
    · exact e3 w hw
    · rw [List.mem_singleton.mp hw]; exact z1
  · rintro acc s ⟨mu', k', rfl, h', e1, e2, e3⟩
    simp at e1 e2
    refine hB acc mu' e3 e2 (by rw [← e1]; exact h')
end PX

set_option maxHeartbeats 1000000
namespace PX
open PySem L3 LD PC PD
theorem rep_flat (p : PV) : ∀ n : Nat, (List.replicate n [p]).flatten = List.replicate n p
  | 0 => rfl
  | n + 1 => by rw [List.replicate_succ, List.replicate_succ, List.flatten_cons, rep_flat p n]; rfl
def prep (l : List (Rat × PV × Nat)) : List PV := l.flatMap fun x => List.replicate x.2.2 x.2.1
theorem prep_len : ∀ {l : List (Rat × PV × Nat)}, (∀ x ∈ l, x.2.2 ≤ 3) → (prep l).length ≤ 3 * l.length ∧ (mrep l).length = (prep l).length
  | [], _ => ⟨by decide, rfl⟩
  | x :: l, h => by
    obtain ⟨h1, h2⟩ := prep_len fun y hy => h y (List.mem_cons_of_mem _ hy)
    have h3 := h x List.mem_cons_self
    have e1 : prep (x :: l) = List.replicate x.2.2 x.2.1 ++ prep l := rfl
    have e2 : mrep (x :: l) = List.replicate x.2.2 x.1 ++ mrep l := rfl
    rw [e1, e2, List.length_append, List.length_append, List.length_replicate, List.length_replicate, List.length_cons]
    exact ⟨by omega, by omega⟩
theorem prep_append (a b : List (Rat × PV × Nat)) : prep (a ++ b) = prep a ++ prep b := List.flatMap_append ..
theorem loop12 (C : Addr) {v0 v1 v2 v3 v4 v5 v6 v7 v8 v9 v10 v11 v12 v16 v17 v18 v19 v20 o14 o15 : Option SV} {m : List MO} (l : List (Rat × PV × Nat)) (h : ∀ x ∈ l, x.2.2 ≤ 3) (hl : l.length ≤ 100) (P : Fl → S → Prop)
    (hP : ∀ o14 o15, P .nx ⟨[v0, v1, v2, v3, v4, v5, v6, v7, v8, v9, v10, v11, v12, some (.val (.lst (prep l))), o14, o15, v16, v17, v18, v19, v20], m⟩) :
    W (forL (gT 2 (gCons (gN 14) (gCons (gN 15) gNil))) (b_law_k12_4 C) (l.map fun x => .tup [x.2.1, .int (x.2.2 : Int)]) ⟨[v0, v1, v2, v3, v4, v5, v6, v7, v8, v9, v10, v11, v12, some (.val (.lst [])), o14, o15, v16, v17, v18, v19, v20], m⟩) P := by
  refine W_forL (I := fun xs s => ∃ l1 l2 o14 o15, l = l1 ++ l2 ∧ xs = l2.map (fun x => .tup [x.2.1, .int (x.2.2 : Int)]) ∧ s = ⟨[v0, v1, v2, v3, v4, v5, v6, v7, v8, v9, v10, v11, v12, some (.val (.lst (prep l1))), o14, o15, v16, v17, v18, v19, v20], m⟩) ⟨[], l, o14, o15, rfl, rfl, rfl⟩ ?_ ?_
  · rintro x ys s ⟨l1, l2, o14, o15, e1, e2, rfl⟩
    cases l2 with
    | nil => cases e2
    | cons y l2 =>
      cases e2
      have h3 := h y (by rw [e1]; simp)
      have h4 := (prep_len (l := l1) fun z hz => h z (by rw [e1]; exact List.mem_append_left _ hz)).1
      have h5 : l1.length ≤ l.length := by rw [e1, List.length_append]; omega
      unfold b_law_k12_4
      simp [rep_flat]
      refine ⟨⟨by omega, by omega⟩, by omega, l1 ++ [y], l2, by rw [e1]; simp, rfl, ?_⟩
      rw [prep_append]
      simp [prep]
  · rintro s ⟨l1, l2, o14, o15, e1, e2, rfl⟩
    cases l2 with
    | cons y l2 => cases e2
    | nil =>
      rw [List.append_nil] at e1
      subst e1
      exact hP _ _
def gq (q : Rat) : Rat := Rat.divInt ((q.num.natAbs : Int) + 1) q.den
theorem gq_zd {q : Rat} (h : Zd 60 30 q) : Zd 60 31 (gq q) := by
  refine Zd.divInt (den_ne q) (by rw [Int.natAbs_natCast]; exact h.dvd) ?_
  rw [Int.natAbs_natCast]
  have h1 := h.le
  have h2 := q.den_pos
  omega
theorem gq_pos (q : Rat) : 0 < gq q := by
  refine Rat.lt_of_le_of_ne ((Rat.divInt_nonneg_iff_of_pos_right (den_pos q)).mpr (by omega)) fun z => ?_
  obtain ⟨m, hm, h1, h2⟩ := Rat.divInt_num_den (z' := (gq q).den_nz) (c := (gq q).reduced) (den_ne q) (show Rat.divInt ((q.num.natAbs : Int) + 1) q.den = _ from rfl)
  rw [← z] at h1
  have : (0 : Rat).num = 0 := rfl
  rw [this, Int.zero_mul] at h1
  omega
theorem gq_inv (q : Rat) : Rat.divInt q.den ((q.num.natAbs : Int) + 1) = inv (gq q) := by
  rw [inv_eq, gq, Rat.inv_divInt]
theorem pos_num {q : Rat} (h : 0 < q) : 0 < q.num := by
  have := Rat.num_nonneg.mpr (Rat.le_of_lt h)
  have := ne_num h
  omega
end PX

set_option maxHeartbeats 1000000
namespace PX
open PySem L3 LD PC PD
theorem cut1 (l : List PV) : cutP l (some 1) none = l.drop 1 := cut_drop (by decide)
theorem half12 {r : Int} (h0 : 0 ≤ r) (h4 : r < 4) : fr (Rat.divInt 1 (2 + r)) = .tup [.int 1, .int (2 + r)] ∧ Zd 60 8 (Rat.divInt 1 (2 + r)) ∧ 0 ≤ Rat.divInt 1 (2 + r) := by
  refine ⟨?_, Zd.divInt (by omega) ?_ (by omega), (Rat.divInt_nonneg_iff_of_pos_right (by omega)).mpr (by decide)⟩
  · obtain rfl | rfl | rfl | rfl : r = 0 ∨ r = 1 ∨ r = 2 ∨ r = 3 := by omega
    · exact fr_of (d := 2) (by decide +kernel) (by decide +kernel)
    · exact fr_of (d := 3) (by decide +kernel) (by decide +kernel)
    · exact fr_of (d := 4) (by decide +kernel) (by decide +kernel)
    · exact fr_of (d := 5) (by decide +kernel) (by decide +kernel)
  · obtain rfl | rfl | rfl | rfl : r = 0 ∨ r = 1 ∨ r = 2 ∨ r = 3 := by omega
    all_goals decide
theorem int12 {r : Int} (h0 : 0 ≤ r) (h4 : r ≤ 8) : fr (r : Rat) = .tup [.int r, .int 1] ∧ Zd 60 8 (r : Rat) ∧ 0 ≤ (r : Rat) :=
  ⟨rfl, (Zd.int (by omega)).mono (by decide) (Nat.le_refl _), Rat.num_nonneg.mp h0⟩
theorem menu12 {r1 r2 : Int} (a1 : 0 ≤ r1) (a2 : r1 < 9) (b1 : 0 ≤ r2) (b2 : r2 < 4) : ∀ x ∈ [PV.tup [PV.int 0, PV.int 1], PV.tup [PV.int 1, PV.int 1], PV.tup [PV.int r1, PV.int 1], PV.tup [PV.int 1, PV.int (2 + r2)]], ∃ w, x = fr w ∧ Zd 60 8 w ∧ 0 ≤ w := fun x hx => by
  rcases List.mem_cons.mp hx with rfl | hx
  · obtain ⟨e, h⟩ := int12 (r := 0) (by decide) (by decide)
    exact ⟨_, e.symm, h⟩
  · rcases List.mem_cons.mp hx with rfl | hx
    · obtain ⟨e, h⟩ := int12 (r := 1) (by decide) (by decide)
      exact ⟨_, e.symm, h⟩
    · rcases List.mem_cons.mp hx with rfl | hx
      · obtain ⟨e, h⟩ := int12 (r := r1) a1 (by omega)
        exact ⟨_, e.symm, h⟩
      · rw [List.mem_singleton.mp hx]
        obtain ⟨e, h⟩ := half12 b1 b2
        exact ⟨_, e.symm, h⟩
theorem turn12 (C : Addr) {ns : List Int} {i : Nat} (hi : i ≤ 4) {mu : List MO} {o2 o3 o4 o5 o6 o7 o8 o9 o10 o11 o12 o13 o14 o15 o16 o17 o18 o19 o20 : Option SV} (hf : flatMs mu = true) (P : Fl → S → Prop)
    (hP : ∀ o2 o3 o4 o5 o6 o7 o8 o9 o10 o11 o12 o13 o14 o15 o16 o17 o18 o19 o20 mu', flatMs mu' = true → P .nx ⟨[some (.val (.frz (ns.map .int))), some (.val (.int (i : Int))), o2, o3, o4, o5, o6, o7, o8, o9, o10, o11, o12, o13, o14, o15, o16, o17, o18, o19, o20], mu'⟩) :
    W (b_law_k12_8 C ⟨[some (.val (.frz (ns.map .int))), some (.val (.int (i : Int))), o2, o3, o4, o5, o6, o7, o8, o9, o10, o11, o12, o13, o14, o15, o16, o17, o18, o19, o20], mu⟩) P := by
  unfold b_law_k12_8
  simp
  refine w_source (by omega) hf fun m1 h1 => ?_
  simp
  refine w_filled (m := 10) h1 (by omega) (by omega) (by omega) fun qs m2 hz hl hne h2 => ?_
  have h0 : 0 < qs.length := List.length_pos_iff.mpr hne
  simp
  refine w_next h2 (by omega) (by decide) (by decide) fun r1 m3 a1 a2 h3 => ?_
  simp
  refine w_next h3 (by omega) (by decide) (by decide) fun r2 m4 b1 b2 h4 => ?_
  simp
  simp only [cut1]
  simp [wipeE]
  refine W_compDraw (c := 1) (K := 2 ^ 49) (n := mu.length) (fun y => ∃ w, y = fr w ∧ Zd 60 8 w ∧ 0 ≤ w) (by simp; omega) h4 (by simp; omega) ?_ ?_
  · intro x mu' k' h' hk
    unfold e_law_k12_1
    simp
    refine w_pick h' (by omega) ?_ ?_ fun y mu2 hy h2' => ?_
    · simp
    · simp
    · exact ⟨menu12 a1 a2 b1 b2 y hy, mu2, h2', rfl⟩
  intro ys m5 hys hyl h5
  obtain ⟨ws0, rfl, hw0⟩ := ex_list hys
  have h5 := h5.le (show _ ≤ 100 by simp; omega)
  simp at hyl
  simp
  refine w_next h5 (by omega) (by decide) (by decide) fun r3 m6 c1 c2 h6 => ?_
  simp
  have eR : PV.tup [PV.int (1 + r3), PV.int 1] = fr ((1 + r3 : Int) : Rat) := rfl
  rw [eR]
  obtain ⟨ws, hws⟩ : ∃ ws, ws = ws0 ++ [((1 + r3 : Int) : Rat)] := ⟨_, rfl⟩
  have hwm : ws0.map fr ++ [fr ((1 + r3 : Int) : Rat)] = ws.map fr := by rw [hws, List.map_append]; rfl
  have hwl : ws.length = qs.length := by rw [hws, List.length_append]; show ws0.length + 1 = _; omega
  obtain ⟨ri1, ri2, ri3⟩ := int12 (r := 1 + r3) (by omega) (by omega)
  have hwz : ∀ w ∈ ws, Zd 60 8 w := fun w hw => by
    rw [hws] at hw
    rcases List.mem_append.mp hw with hw | hw
    · exact (hw0 w hw).1
    · rw [List.mem_singleton.mp hw]; exact ri2
  have hwn : ∀ w ∈ ws, 0 ≤ w := fun w hw => by
    rw [hws] at hw
    rcases List.mem_append.mp hw with hw | hw
    · exact (hw0 w hw).2
    · rw [List.mem_singleton.mp hw]; exact ri3
  have hwp : 0 < sumQ ws := by
    rw [hws]
    exact sum_pos_last (fun w hw => (hw0 w hw).2) (num_pos (by show (0 : Int) < 1 + r3; omega))
  have s1 : Sm (60 * 60) (10 * (30 * 8)) := ⟨by decide, by decide +kernel, by decide +kernel⟩
  have s1' : Sm (60 * 60) (10 * (30 * 8) + 30 * 8) := ⟨by decide, by decide +kernel, by decide +kernel⟩
  have s2 : Sm 60 (10 * 8) := ⟨by decide, by decide +kernel, by decide +kernel⟩
  have s2' : Sm 60 (10 * 8 + 8) := ⟨by decide, by decide +kernel, by decide +kernel⟩
  have s3 : Sm 60 30 := ⟨by decide, by decide +kernel, by decide +kernel⟩
  have s4 : Sm 60 8 := ⟨by decide, by decide +kernel, by decide +kernel⟩
  simp only [hwm]
  simp only [zipP_map]
  refine ⟨by omega, ?_⟩
  refine W_compMap (qs.zip ws) (fun p => .tup [fr p.1, fr p.2]) (fun p => fr (p.1 * p.2)) (by rw [List.length_zip]; omega) ?_ ?_
  · rintro ⟨a, b⟩ hp
    have za := (hz a (List.of_mem_zip hp).1).sm s3
    have zb := (hwz b (List.of_mem_zip hp).2).sm s4
    have e := fun mu => e_times za zb (by decide) mu
    simp [e_law_k12_2, e, wipeE]
  rw [show (qs.zip ws).map (fun p => fr (p.1 * p.2)) = (wpr qs ws).map fr from by unfold wpr; rw [List.map_map]; rfl]
  have e1 := fun mu => z_sum s1' (wpr_zd hz hwz) (by rw [wpr_len hwl]; exact hl) mu
  have e2 := fun mu => z_sum s2' hwz (by omega) mu
  have y1 := ((Zd.sumz s1.pos (wpr_zd hz hwz)).mono (Nat.dvd_refl _) (Nat.mul_le_mul_right _ (show _ ≤ 10 by rw [wpr_len hwl]; exact hl))).sm s1
  have y2 := ((Zd.sumz s2.pos hwz).mono (Nat.dvd_refl _) (Nat.mul_le_mul_right _ (show _ ≤ 10 by omega))).sm s2
  have e3 := fun mu => e_through y1 y2 (ne_num hwp) (by decide) mu
  simp [e1, e2, e3, wipeE, -List.map_map]
  obtain ⟨due, hdue⟩ : ∃ due, due = sumQ (wpr qs ws) / sumQ ws := ⟨_, rfl⟩
  rw [← hdue]
  refine w_framed s3 h6 (by omega) hz (by omega) fun sm ps m7 hs ha h7 => ?_
  have eg := fun mu => z_given s4 hwz (by omega) mu
  simp [eg, -List.map_map]
  refine W_compMap ws gv (fun w => .bl (decide (1 < w.den))) (by omega) ?_ ?_
  · intro w hw
    unfold gv
    by_cases h : 1 < w.den <;> simp [h, wipeE]
  have haw : All2 ws (ws.map gv) := All2.gv ws
  have hw0' : ∀ w ∈ ws, 0 ≤ w.num := fun w hw => Rat.num_nonneg.mpr (hwn w hw)
  have f1 := fun mu => e_weighted_mean s1 s2 s3 (by decide) ha hs haw (.inl rfl) hz hwz hwl hl (by decide) hne hw0' (ne_num hwp) mu
  have f2 := fun mu => e_weighted_mean s1 s2 s3 (by decide) ha hs haw (.inr rfl) hz hwz hwl hl (by decide) hne hw0' (ne_num hwp) mu
  have f3 := fun mu => e_taken due mu
  rw [← hdue] at f1 f2
  simp [f1, f3, wipeE, -List.map_map]
  refine W_compMap ws gv (fun w => .bl (decide (1 < w.den))) (by omega) ?_ ?_
  · intro w hw
    unfold gv
    by_cases h : 1 < w.den <;> simp [h, wipeE]
  have ok8 : okD 8 (.lst (ws.map fun w => .bl (decide (1 < w.den)))) = true := by
    show okDL 7 _ = true
    clear hws hwm hwl hwz hwn hwp f1 f2 hdue haw hw0' eg e1 e2 e3 y1 y2
    induction ws with
    | nil => rfl
    | cons w ws ih => simp [okDL, okD, ih]
  have ep8 := eqP_self 8 _ ok8
  simp [f2, f3, ok8, ep8, -List.map_map, wipeE]
  refine w_next h7 (by omega) (by decide) (by decide) fun r5 m8 d1 d2 h8 => ?_
  have zz : ∀ q ∈ qs, Zb q 11 := fun q hq => (hz q hq).zb (by decide) (by decide) (by decide)
  have g1 := fun mu => e_mean ha hs zz (by omega) (by omega) hne mu
  have hlen : ((qs.length : Int)).toNat = qs.length := Int.toNat_natCast _
  have hrep := rep_flat (PV.int (r5 + 1)) qs.length
  have hall : ∀ (c : Int) (n : Nat), All2 (List.replicate n (c : Rat)) (List.replicate n (PV.int c)) := fun c n => by
    have := all2_rep (q := (c : Rat)) (p := PV.int c) (.inr ⟨rfl, rfl⟩) .nil n
    simpa using this
  have c0 : (0 : Rat) < ((r5 + 1 : Int) : Rat) := num_pos (by show (0 : Int) < r5 + 1; omega)
  have f4 := fun mu => e_weighted_mean (E := 60) (C := 8) (N := 10) s1 s2 s3 (by decide) ha hs (hall (r5 + 1) qs.length) (.inl rfl) hz (fun w hw => by rw [List.eq_of_mem_replicate hw]; exact (int12 (by omega) (by omega)).2.1) (List.length_replicate) hl (by decide) hne (fun w hw => by rw [List.eq_of_mem_replicate hw]; show (0 : Int) ≤ r5 + 1; omega)
    (ne_num (sum_pos (fun z => hne (List.length_eq_zero_iff.mp (by have := congrArg List.length z; simpa using this))) fun w hw => by rw [List.eq_of_mem_replicate hw]; exact c0)) mu
  rw [const_mean (fun z => by rw [z] at c0; exact absurd c0 Rat.lt_irrefl) hne] at f4
  simp [hlen, hrep]
  obtain ⟨mm, hmm⟩ : ∃ mm, mm = sumQ qs / ((qs.length : Int) : Rat) := ⟨_, rfl⟩
  rw [← hmm] at f4 g1
  have q1 := fun mu => e_eq (x := mm) (p := .rat mm) (.inl rfl) mu
  refine ⟨⟨by omega, by omega⟩, ?_⟩
  simp [f4, g1, gNeR, q1]
  simp only [cut1]
  simp [wipeE]
  refine W_compDraw (c := 1) (K := 2 ^ 49) (n := mu.length) (fun y => ∃ m : Nat, y = .int (m : Int) ∧ m ≤ 3) (by simp; omega) h8 (by simp; omega) ?_ ?_
  · intro x mu' k' h' hk
    unfold e_law_k12_3
    simp
    refine w_next h' (by omega) (by decide) (by decide) fun r mu2 t1 t2 h2' => ?_
    exact ⟨⟨r.toNat, by rw [Int.toNat_of_nonneg t1], by omega⟩, mu2, h2', rfl⟩
  intro zs m9 hzs hzl h9
  obtain ⟨ms0, rfl, hm0⟩ := ex_list hzs
  have h9 := h9.le (show _ ≤ 200 by simp; omega)
  simp at hzl
  obtain ⟨ms, hms⟩ : ∃ ms, ms = ms0 ++ [1] := ⟨_, rfl⟩
  have hmm2 : ms0.map (fun m : Nat => PV.int (m : Int)) ++ [PV.int 1] = ms.map fun m : Nat => PV.int (m : Int) := by rw [hms, List.map_append]; rfl
  have hml : ms.length = qs.length := by rw [hms, List.length_append]; show ms0.length + 1 = _; omega
  have hm3 : ∀ m ∈ ms, m ≤ 3 := fun m hm => by
    rw [hms] at hm
    rcases List.mem_append.mp hm with hm | hm
    · exact hm0 m hm
    · rw [List.mem_singleton.mp hm]; decide
  obtain ⟨l, el1, el2, el3, el4⟩ := rows_of ha hml
  have hsq : seqP sm = some ps := by rcases hs with rfl | rfl <;> rfl
  have hsl : ∀ ys, seqP (.lst ys) = some ys := fun _ => rfl
  simp [-List.map_map, -seqP, hsq, hsl]
  refine ⟨by omega, ?_⟩
  simp only [hmm2]
  have hzp : zipP ps (ms.map fun m : Nat => PV.int (m : Int)) = l.map fun x => .tup [x.2.1, .int (x.2.2 : Int)] := by
    rw [el2, el3]
    unfold zipP
    rw [List.map_map, List.zip_map', List.map_map]
    rfl
  rw [hzp]
  have hx3 : ∀ x ∈ l, x.2.2 ≤ 3 := fun x hx => hm3 _ (by rw [el3]; exact List.mem_map.mpr ⟨x, hx, rfl⟩)
  have hll : l.length = qs.length := by rw [el1, List.length_map]
  refine loop12 C l hx3 (by omega) _ fun o14' o15' => ?_
  obtain ⟨pl1, pl2⟩ := prep_len hx3
  have hml2 : All2 (mrep l) (prep l) := all2_mrep el4
  have hqm : ∀ q ∈ mrep l, q ∈ qs := fun q hq => by
    obtain ⟨x, hx, hq⟩ := List.mem_flatMap.mp hq
    rw [List.eq_of_mem_replicate hq, el1]
    exact List.mem_map.mpr ⟨x, hx, rfl⟩
  have hmq : All2 (ms.map fun m : Nat => ((m : Int) : Rat)) (ms.map fun m : Nat => PV.int (m : Int)) := by
    clear hms hmm2 hml hm3 hzp el3
    induction ms with
    | nil => exact .nil
    | cons m ms ih => exact .cons (.inr ⟨rfl, rfl⟩) ih
  have hmn : ∀ w ∈ ms.map (fun m : Nat => ((m : Int) : Rat)), Zd 60 8 w ∧ 0 ≤ w := fun w hw => by
    obtain ⟨m, hm, rfl⟩ := List.mem_map.mp hw
    have := hm3 m hm
    exact (int12 (by omega) (by omega)).2
  have hmp : 0 < sumQ (ms.map fun m : Nat => ((m : Int) : Rat)) := by
    rw [hms, List.map_append]
    exact sum_pos_last (fun w hw => (hmn w (by rw [hms, List.map_append]; exact List.mem_append_left _ hw)).2) (by decide)
  obtain ⟨ms1, ms2⟩ := mrep_sum l
  have emq : (ms.map fun m : Nat => ((m : Int) : Rat)) = l.map fun x => ((x.2.2 : Int) : Rat) := by rw [el3, List.map_map]; rfl
  have f5 := fun mu => e_weighted_mean s1 s2 s3 (by decide) ha hs hmq (.inl rfl) hz (fun w hw => (hmn w hw).1) (by rw [List.length_map, hml]) hl (by decide) hne (fun w hw => Rat.num_nonneg.mpr (hmn w hw).2) (ne_num hmp) mu
  have hne2 : mrep l ≠ [] := fun z => by
    rw [z, ← emq] at ms2
    rw [← ms2] at hmp
    exact absurd hmp (by decide)
  have f6 := fun mu => e_mean hml2 (sm := .lst (prep l)) (.inl rfl) (fun q hq => zz q (hqm q hq)) (by omega) (by omega) hne2 mu
  rw [ms1, ms2, ← el1, ← emq] at f6
  obtain ⟨m3', hm3'⟩ : ∃ m3', m3' = sumQ (wpr qs (ms.map fun m : Nat => ((m : Int) : Rat))) / sumQ (ms.map fun m : Nat => ((m : Int) : Rat)) := ⟨_, rfl⟩
  rw [← hm3'] at f5 f6
  have q2 := fun mu => e_eq (x := m3') (p := .rat m3') (.inl rfl) mu
  simp [f5, f6, gNeR, q2, -List.map_map]
  simp [wipeE]
  refine W_compMap qs fr (fun q => .tup [.int ((q.num.natAbs : Int) + 1), .int q.den]) (by omega) ?_ ?_
  · intro q hq
    simp [e_law_k12_5, fr, wipeE]
  have zg : ∀ q ∈ qs.map gq, Zd 60 31 q := fun q hq => by
    obtain ⟨x, hx, rfl⟩ := List.mem_map.mp hq
    exact gq_zd (hz x hx)
  have s5 : Sm 60 31 := ⟨by decide, by decide +kernel, by decide +kernel⟩
  have zgb : ∀ q ∈ qs.map gq, Zb q 11 := fun q hq => (zg q hq).zb (by decide) (by decide) (by decide)
  have pg : ∀ q ∈ qs.map gq, 0 < q := fun q hq => by
    obtain ⟨x, hx, rfl⟩ := List.mem_map.mp hq
    exact gq_pos x
  have png : ∀ q ∈ qs.map gq, 0 < q.num := fun q hq => pos_num (pg q hq)
  have zib : ∀ q ∈ (qs.map gq).map inv, Zb q 11 := fun q hq => by
    obtain ⟨x, hx, rfl⟩ := List.mem_map.mp hq
    exact inv_zb (zgb x hx) (png x hx)
  have gne : qs.map gq ≠ [] := fun z => hne (List.map_eq_nil_iff.mp z)
  have psum : 0 < sumQ ((qs.map gq).map inv) := sum_pos (fun z => gne (List.map_eq_nil_iff.mp z)) fun q hq => by
    obtain ⟨x, hx, rfl⟩ := List.mem_map.mp hq
    exact inv_pos (pg x hx)
  have zsum := Zb_sum ((qs.map gq).map inv) 0 0 Zb0 zib
  have i1 := fun mu => e_sum ((qs.map gq).map inv) zib (by simp; omega) mu
  have i2 := fun mu => e_through (x := ((qs.length : Int) : Rat)) (y := sumQ ((qs.map gq).map inv)) (a := 14) (Zb_int (by omega)) zsum (ne_num psum) (by simp; omega) mu
  have i2 : ∀ mu, F_w_through [.tup [.int (qs.length : Int), .int 1], fr (sumQ ((qs.map gq).map inv))] mu = .ok (fr (((qs.length : Int) : Rat) / sumQ ((qs.map gq).map inv))) mu := i2
  simp [wipeE, -List.map_map]
  refine W_compMap qs (fun q => .tup [.int ((q.num.natAbs : Int) + 1), .int q.den]) (fun q => fr (inv (gq q))) (by omega) ?_ ?_
  · intro q hq
    have zq := (hz q hq).sm s3
    have hb : ib ((q.num.natAbs : Int) + 1) ≤ 9000 := by
      have := ib_le (i := (q.num.natAbs : Int) + 1) (b := 3991) (by
        have := zq.1
        have e : (2 : Nat) ^ 3991 = 2 ^ 3990 + 2 ^ 3990 := by rw [Nat.pow_succ]; omega
        have e2 : 1 ≤ (2 : Nat) ^ 3990 := Nat.one_le_two_pow
        rw [e]
        generalize (2 : Nat) ^ 3990 = b at *
        omega)
      omega
    have e := fun mu => e_low (q.den : Int) ((q.num.natAbs : Int) + 1) mu (by omega) hb
    simp [e_law_k12_6, e, gq_inv, wipeE]
  rw [show qs.map (fun q => fr (inv (gq q))) = ((qs.map gq).map inv).map fr from by rw [List.map_map, List.map_map]; rfl]
  simp [i1, i2, wipeE, -List.map_map]
  refine W_compMap qs (fun q => .tup [.int ((q.num.natAbs : Int) + 1), .int q.den]) (fun q => fr (gq q)) (by omega) ?_ ?_
  · intro q hq
    have zq := (hz q hq).sm s3
    have hb : ib (q.den : Int) ≤ 9000 := by have := zq.ib_den; omega
    have e := fun mu => e_low ((q.num.natAbs : Int) + 1) (q.den : Int) mu (den_ne q) hb
    simp [e_law_k12_7, e, wipeE]
    rfl
  rw [show qs.map (fun q => fr (gq q)) = (qs.map gq).map fr from by rw [List.map_map]; rfl]
  simp [wipeE, -List.map_map]
  refine w_framed s5 h9 (by omega) zg (by simp; omega) fun sm2 ps2 m10 hs2 ha2 h10 => ?_
  have j1 := fun mu => e_told12 (e_harmonic ha2 hs2 zgb (by simp; omega) (by simp; omega) gne png (ne_num psum) mu)
  rw [List.length_map] at j1
  simp [j1, -List.map_map]
  rw [enumP_ix]
  refine W_compFilter (ix 0 qs) (fun p => .tup [.int (p.1 : Int), fr p.2]) (fun p => .int (p.1 : Int)) (fun p => decide (p.2.num ≤ 0)) (by rw [ix_len]; omega) ?_ ?_
  · rintro ⟨a, b⟩ hp
    by_cases h : b.num ≤ 0 <;> simp [fr, h, wipeE]
  cases hfl : (ix 0 qs).filter (fun p => decide (p.2.num ≤ 0)) with
  | nil =>
    simp [eqP, eqPL, okD, okDL, gNeR, wipeE]
    exact hP _ _ _ _ _ _ _ _ _ _ _ _ _ _ _ _ _ _ _ _ h10.flat
  | cons x r =>
    obtain ⟨l1, l2, hix, hl1, hx, hr⟩ := List.filter_eq_cons_iff.mp hfl
    have hx' : x.2.num ≤ 0 := by simpa using hx
    have hl1' : ∀ y ∈ l1, 0 < y.2.num := fun y hy => by
      have := hl1 y hy
      simp at this
      omega
    have j2 := fun mu => e_told12x (e_harmonic_bad ha hs (by omega) hne hx' hl1' hix mu)
    have n1 : ∀ s, gEq true (.lst (PV.int (x.1 : Int) :: r.map fun p => PV.int (p.1 : Int))) (.lst []) s = .ok (.bl true) s := fun s => gEq_nil true _ s
    have n2 : ∀ s, gEq true (.lst [PV.int (x.1 : Int)]) (.lst [PV.int (x.1 : Int)]) s = .ok (.bl false) s := fun s => gEq_self true rfl s
    simp [j2, wipeE, -gEq, n1, n2]
    exact hP _ _ _ _ _ _ _ _ _ _ _ _ _ _ _ _ _ _ _ _ h10.flat
theorem law_k12 (C : Addr) (ns : List Int) (hn : ns.length ≤ 63) : ∃ mu', F_law_k12 C [.frz (ns.map .int)] [] = .ok (.bl true) mu' := by
  have h : W (F_law_k12 C [.frz (ns.map .int)] []) (fun v _ => v = .bl true) := by
    unfold F_law_k12 d_law_k12
    simp [W_runBody]
    refine ⟨by omega, ?_⟩
    refine turns (by omega) (fun r => ∃ o2 o3 o4 o5 o6 o7 o8 o9 o10 o11 o12 o13 o14 o15 o16 o17 o18 o19 o20, r = [o2, o3, o4, o5, o6, o7, o8, o9, o10, o11, o12, o13, o14, o15, o16, o17, o18, o19, o20]) ⟨none, none, none, none, none, none, none, none, none, none, none, none, none, none, none, none, none, none, none, rfl⟩ rfl ?_ ?_
    · rintro i rest mu hi ⟨o2, o3, o4, o5, o6, o7, o8, o9, o10, o11, o12, o13, o14, o15, o16, o17, o18, o19, o20, rfl⟩ hf
      refine turn12 C (ns := ns) (i := i) hi hf _ ?_
      intro a2 a3 a4 a5 a6 a7 a8 a9 a10 a11 a12 a13 a14 a15 a16 a17 a18 a19 a20 mu' hf'
      exact ⟨rfl, _, mu', ⟨a2, a3, a4, a5, a6, a7, a8, a9, a10, a11, a12, a13, a14, a15, a16, a17, a18, a19, a20, rfl⟩, hf', rfl⟩
    · rintro o1 rest mu ⟨o2, o3, o4, o5, o6, o7, o8, o9, o10, o11, o12, o13, o14, o15, o16, o17, o18, o19, o20, rfl⟩ hf
      have q23 : All2 [2, 3] [.int 2, .int 3] := .cons (.inr ⟨rfl, rfl⟩) (.cons (.inr ⟨rfl, rfl⟩) .nil)
      have q14 : All2 [1, 4] [.int 1, .int 4] := .cons (.inr ⟨rfl, rfl⟩) (.cons (.inr ⟨rfl, rfl⟩) .nil)
      have q21 : All2 [2, 1] [.int 2, .int 1] := .cons (.inr ⟨rfl, rfl⟩) (.cons (.inr ⟨rfl, rfl⟩) .nil)
      have z23 : ∀ q ∈ ([2, 3] : List Rat), Zb q 10 := fun q hq => by
        rcases List.mem_cons.mp hq with rfl | hq
        · exact ⟨by decide, by decide⟩
        · rw [List.mem_singleton.mp hq]; exact ⟨by decide, by decide⟩
      have p23 : ∀ q ∈ ([2, 3] : List Rat), 0 < q.num := fun q hq => by
        rcases List.mem_cons.mp hq with rfl | hq
        · decide
        · rw [List.mem_singleton.mp hq]; decide
      have zd : ∀ l : List Rat, l = [1, 4] ∨ l = [2, 1] → ∀ q ∈ l, Zd 60 8 q := fun l hl q hq => by
        rcases hl with rfl | rfl
        · rcases List.mem_cons.mp hq with rfl | hq
          · exact ⟨by decide, by decide⟩
          · rw [List.mem_singleton.mp hq]; exact ⟨by decide, by decide⟩
        · rcases List.mem_cons.mp hq with rfl | hq
          · exact ⟨by decide, by decide⟩
          · rw [List.mem_singleton.mp hq]; exact ⟨by decide, by decide⟩
      have k1 := fun mu => e_harmonic q23 (sm := .lst [.int 2, .int 3]) (.inl rfl) z23 (by decide) (by decide) (by decide) p23 (by decide +kernel) mu
      have s1 : Sm (60 * 60) (10 * (8 * 8)) := ⟨by decide, by decide +kernel, by decide +kernel⟩
      have s2 : Sm 60 (10 * 8) := ⟨by decide, by decide +kernel, by decide +kernel⟩
      have s4 : Sm 60 8 := ⟨by decide, by decide +kernel, by decide +kernel⟩
      have k2 := fun mu => e_weighted_mean s1 s2 s4 (by decide) q14 (sm := .lst [.int 1, .int 4]) (.inl rfl) q21 (wm := .lst [.int 2, .int 1]) (.inl rfl) (zd _ (.inl rfl)) (zd _ (.inr rfl)) rfl (by decide) (by decide) (by decide) (fun w hw => by
        rcases List.mem_cons.mp hw with rfl | hw
        · decide
        · rw [List.mem_singleton.mp hw]; decide) (by decide +kernel) mu
      have f1 : fr (((([2, 3] : List Rat).length : Int) : Rat) / sumQ (([2, 3] : List Rat).map inv)) = .tup [.int 12, .int 5] := fr_of (d := 5) (by decide +kernel) (by decide +kernel)
      have f2 : fr (sumQ (wpr [1, 4] [2, 1]) / sumQ [2, 1]) = .tup [.int 2, .int 1] := fr_of (d := 1) (by decide +kernel) (by decide +kernel)
      have t1 := fun mu => e_taken (((([2, 3] : List Rat).length : Int) : Rat) / sumQ (([2, 3] : List Rat).map inv)) mu
      have t2 := fun mu => e_taken (sumQ (wpr [1, 4] [2, 1]) / sumQ [2, 1]) mu
      rw [f1] at t1
      rw [f2] at t2
      generalize ((([2, 3] : List Rat).length : Int) : Rat) / sumQ (([2, 3] : List Rat).map inv) = x1 at *
      generalize sumQ (wpr [1, 4] [2, 1]) / sumQ [2, 1] = x2 at *
      simp [k1, k2, t1, t2, okD, okDL, eqP, eqPL]
  obtain ⟨v, mu', e, rfl⟩ := h.out
  exact ⟨mu', e⟩
end PX

namespace Gk12
open PySem PySem.Spec PyProof.Rows L2 L3 LD
def loose : List Str := (["_wall", "BadInput", "Absent", "Undefined", "BadNumber", "BadSample", "BadWeights", "Empty", "DividedByZero", "NotPositive", "is_integer", "common_divisor"] : List Str) ++ (["Ratio", "is_number", "is_number_ratios", "need_number", "ratio_of", "common", "total", "MOST_ITEMS", "is_row", "need_sample", "need_items", "need_filled"] : List Str) ++ (["need_weights", "need_some_weight", "mean_of", "weighted_total", "mean", "weighted_mean", "harmonic_mean", "_law_source", "_law_next", "_law_pick", "_law_low", "_law_plus"] : List Str) ++ (["_law_times", "_law_through", "_law_sum", "_law_drawn", "_law_row", "_law_given", "_law_taken", "_law_framed", "_law_filled", "_law_told"] : List Str)
abbrev R : PySem.W.OpenRow := PySem.W.OpenLaw.row PySem.Challenge.rw_exactstats_k12_weighted_and_harmonic
abbrev hk : PySem.W.Hook := hookX 5 fa xs fn
def ob (s : PySem.W.SharedT) : AlX := obsXG 5 fa xs fn (HandSHeadRun.getT s)
theorem ob_eq (s : PySem.W.SharedT) : ob s = hk.obs s.abs := obsXG_eq (HandSHeadRun.getT_eq s)
theorem run (w : World) : HandSHeadRun.RunEq R (PySem.W.view R.prog [52]) hk ob 12000 loose w := by
  intro os
  kernel_rfl
end Gk12

open PySem PySem.W PySem.Calls PyProof.Rows
theorem PySem.Challenge.cw_exactstats_k12_weighted_and_harmonic_holds : PySem.Challenge.rw_exactstats_k12_weighted_and_harmonic.Holds := by
  w_on; o_law
  refine HandSHeadRun.head_any (r := OpenLaw.row PySem.Challenge.rw_exactstats_k12_weighted_and_harmonic) (q := view (OpenLaw.row PySem.Challenge.rw_exactstats_k12_weighted_and_harmonic).prog [52]) (H := Gk12.hk) (ob := Gk12.ob) (M := 12000) (loose := Gk12.loose) (d := HandSHeadRun.topDef (OpenLaw.row PySem.Challenge.rw_exactstats_k12_weighted_and_harmonic).prog 52) (kwd := []) Gk12.ob_eq
    (by kernel_rfl) (fun s => by kernel_rfl) Gk12.run (by kernel_rfl) (by kernel_rfl) (by kernel_rfl) (by rfl) (by first | assumption | decide +kernel) (by decide +kernel) ⟨rfl, rfl, rfl, rfl, rfl, by decide +kernel⟩ ?hw ?hc
  case hw => w_witness2
  case hc =>
    refine L3.walkG (l := PySem.Challenge.rw_exactstats_k12_weighted_and_harmonic) (n := 63) (k := 10) (x := "_law_script") (CX := L2.CX0) rfl (by decide) (by kernel_rfl) ⟨rfl, by decide, by decide⟩ ?F (fun _ _ _ _ z => z)
    intro w mg fa h Y G hmg0
    obtain ⟨K, KX, c⟩ := Y
    have hmg : mg ("law" : PySem.Str) = some (.ref fa) := by
      have e : (HandSHeadRun.topDef (OpenLaw.row PySem.Challenge.rw_exactstats_k12_weighted_and_harmonic).prog 52).name = ("law" : PySem.Str) := by kernel_rfl
      rw [← e]
      exact hmg0
    obtain ⟨hl, fd, hb, hF⟩ := Gk12.facts (P := (PySem.Challenge.rw_exactstats_k12_weighted_and_harmonic).prog) (w := w) KX G c
    have ee := hmg.symm.trans hl
    cases ee
    exact ⟨K, fd, (fun vs H Q _ => L3.spJ K (He.ga K "Ratio") 1 (LD.F_law_k12 (He.ga K "Ratio")) vs H Q fun _ _ _ => False), KX, hb, fun H a ns hn hS => L3.law_sp (n := 63) (fun ns h => PX.law_k12 _ ns h) H a ns hn hS, fun base _ _ => L3.FnG.mono (L3.calm_of (hF base)) (by decide)⟩



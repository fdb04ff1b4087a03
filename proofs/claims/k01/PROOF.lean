import PyProof.Rows.All
import Wide.All
import OpenK.AllK
import Wide.FinOn
import HandS.ForMost
import HandS.Wide
import HandS.Flow
import HandS.Exc
import HandS.ExcOwn
import HandS.CallSlots
import HandS.Defaults
import HandS.WordsExc
import HandS.TupAny
import HandS.TupLe
import HandS.TupMul
import HandS.IsInst
import HandS.Text
import HandS.Deep
import HandS.Conv
import HandS.Style
import PyProof.StrBlock2
import KE.KStateDown
import Lean
import HandS.Ends
import HandS.More
import HandS.Words
import HandS.Head0
import HandS.Head1
import HandS.Head2
import HandS.HeadEnd
import HandS.HeadHook1
import HandS.HeadHook2
import HandS.ExcInit
import HandS.ExcField
import HandS.ExcIs
import KE.KTryMore
import KE.KExcIs
import HandS.HeadHook4
import PySem.Challenge.RW_innerlook_k01_kinds_of_any_thing
set_option Elab.async false
set_option linter.all false
set_option maxRecDepth 100000
set_option maxHeartbeats 1000000
namespace EX
open PySem L2

/-- what is fixed: the written part, the module's names, the world -/
structure Gw where
  K : PySem.W.Frag
  mg : Str → Option Value
  w : World
abbrev gw (X : Cx) : Gw := ⟨X.K, X.mg, X.w⟩
inductive Val where
  | non
  | bl (b : Bool)
  | int (i : Int)
  | str (s : Str)
  | tup (xs : List Val)
  | scr (xs : List Val)
  | loc (n : Nat)
  | ref (x : Str)
  | ty (n : String)

inductive Ob where
  | lst (xs : List Val)
  | dct (kvs : List (Key × Val))
  | ins (C : Str) (fs : List (Str × Val))

abbrev Hh := List Ob
abbrev En := List (Option Val)

inductive Res (α : Type) where
  | ok (a : α) (h : Hh)
  | exc (c : Str) (fs : List (Str × Val)) (h : Hh)
  | stuck

def Res.bind {α β : Type} (r : Res α) (f : α → Hh → Res β) : Res β := match r with
  | .ok a h => f a h
  | .exc c fs h => .exc c fs h
  | .stuck => .stuck
@[simp] theorem Res.bind_ok {α β : Type} (a : α) (h : Hh) (f : α → Hh → Res β) : (Res.ok a h).bind f = f a h := rfl
@[simp] theorem Res.bind_exc {α β : Type} (c : Str) (fs : List (Str × Val)) (h : Hh) (f : α → Hh → Res β) : (Res.exc c fs h).bind f = .exc c fs h := rfl
@[simp] theorem Res.bind_stuck {α β : Type} (f : α → Hh → Res β) : (Res.stuck : Res α).bind f = .stuck := rfl

/-- an expression, an argument list, a test -/
abbrev XE := En → Hh → Res Val
abbrev XA := En → Hh → Res (List Val)
abbrev XT := En → Hh → Res Bool
/-- an operation on values: none where it is not served -/
abbrev Op1 := Val → Hh → Option (Val × Hh)
abbrev Op2 := Val → Val → Hh → Option (Val × Hh)
abbrev OpN := List Val → Hh → Option (Val × Hh)
def Res.of {α : Type} : Option (α × Hh) → Res α
  | some (a, h) => .ok a h
  | none => .stuck
@[simp] theorem Res.of_some {α : Type} (p : α × Hh) : Res.of (some p) = .ok p.1 p.2 := rfl
@[simp] theorem Res.of_none {α : Type} : Res.of (none : Option (α × Hh)) = .stuck := rfl

inductive RS where
  | nx (e : En) (h : Hh)
  | rt (v : Val) (h : Hh)
  | bk (e : En) (h : Hh)
  | ct (e : En) (h : Hh)
  | exc (c : Str) (fs : List (Str × Val)) (e : En) (h : Hh)
  | stuck
abbrev XS := En → Hh → RS

/-- in an except suite: the slot of its name, the exception's address, its dict's, its fields -/
structure Sx where
  slot : Nat
  a : Addr
  d : Option Addr
  fs : List (Str × Val)
/-- what is wished of exceptions; the suite one is in -/
structure Wd where
  w : WX
  s : Option Sx := none

/-! ### the relation to the abstract heap -/
structure Grow (ρ ρ' : List Addr) (H H' : Hp) : Prop where
  pre : ∃ m, ρ' = ρ ++ m
  xd : ∀ a fs, H a = some (.xd fs) → H' a = some (.xd fs)
  tup : ∀ a xs, H a = some (.tup xs) → H' a = some (.tup xs)
  frz : ∀ a o u, H a = some (.frz o u) → H' a = some (.frz o u)
theorem Grow.refl (ρ : List Addr) (H : Hp) : Grow ρ ρ H H := ⟨⟨[], by simp⟩, fun _ _ h => h, fun _ _ h => h, fun _ _ _ h => h⟩
theorem Grow.trans {ρ ρ1 ρ2 : List Addr} {H H1 H2 : Hp} (a : Grow ρ ρ1 H H1) (b : Grow ρ1 ρ2 H1 H2) : Grow ρ ρ2 H H2 := by
  obtain ⟨m, rfl⟩ := a.pre
  obtain ⟨n, rfl⟩ := b.pre
  exact ⟨⟨m ++ n, by rw [List.append_assoc]⟩, fun x xs h => b.xd _ _ (a.xd _ _ h), fun x xs h => b.tup _ _ (a.tup _ _ h), fun x o u h => b.frz _ _ _ (a.frz _ _ _ h)⟩

def RoS (K : PySem.W.Frag) (H : Hp) (a : Addr) (vs : List V) : Prop := (∃ o, H a = some (.frz o (.lst vs))) ∨
  ∃ (o : Obj) (its : Array Value) (n : Nat), K.lookup a = some o ∧ o.cls = .type "list" ∧ o.dict = none ∧ o.data = .seq its n ∧ its.size ≤ sizeLine ∧ Vals vs its.toList
theorem RoS.sql {K : PySem.W.Frag} {H : Hp} {a : Addr} {vs : List V} (h : RoS K H a vs) : SqL K H a vs := by
  rcases h with ⟨o, h⟩ | h
  · exact .inl (.inr ⟨o, h⟩)
  · exact .inr h

section
variable (K : Gw) (ρ : List Addr) (H : Hp)
mutual
inductive Rep : Val → V → Prop
  | non : Rep .non .non
  | bl (b : Bool) : Rep (.bl b) (.bl b)
  | int (i : Int) : Rep (.int i) (.int i)
  | str (s : Str) : Rep (.str s) (.str s)
  | tup {a : Addr} {xs : List Val} {vs : List V} : SqT K.K H a vs → RepL xs vs → Rep (.tup xs) (.ref a)
  | scr {a : Addr} {xs : List Val} {vs : List V} : RoS K.K H a vs → RepL xs vs → Rep (.scr xs) (.ref a)
  | loc {n : Nat} {a : Addr} : ρ[n]? = some a → Rep (.loc n) (.ref a)
  | ref {x : Str} {a : Addr} : K.mg x = some (.ref a) → Rep (.ref x) (.ref a)
  | ty (n : String) : Rep (.ty n) (.ty n)
inductive RepL : List Val → List V → Prop
  | nil : RepL [] []
  | cons {x : Val} {v : V} {xs : List Val} {vs : List V} : Rep x v → RepL xs vs → RepL (x :: xs) (v :: vs)
end
/-- fields, entries -/
def RepF {κ : Type} (fs : List (κ × Val)) (vs : List (κ × V)) : Prop := Paired (fun (p : κ × Val) (q : κ × V) => p.1 = q.1 ∧ Rep K ρ H p.2 q.2) fs vs

def ObR (a : Addr) : Ob → Prop
  | .lst xs => ∃ vs, H a = some (.lst vs) ∧ RepL K ρ H xs vs
  | .dct kvs => ∃ vs, H a = some (.dK vs) ∧ RepF K ρ H kvs vs
  | .ins C fs => ∃ Ca dx vs, K.mg C = some (.ref Ca) ∧ H a = some (.ins Ca dx vs) ∧ H dx = some (.own a) ∧ RepF K ρ H fs vs

structure Sim (h : Hh) : Prop where
  len : ρ.length = h.length
  nd : ρ.Nodup
  at_ : ∀ (n : Nat) (o : Ob), h[n]? = some o → ∃ a, ρ[n]? = some a ∧ ObR K ρ H a o

/-- the fields of an exception at its dict -/
def XcR (fs : List (Str × Val)) : Option Addr → Prop
  | none => fs = []
  | some d => ∃ vs, H d = some (.xd vs) ∧ RepF K ρ H fs vs
def EnvR (sx : Option Sx) (env : En) (σ : St) : Prop := env.length = σ.length ∧ (∀ (i : Nat) (x : Val), env[i]? = some (some x) → ∃ v, σ[i]? = some (some v) ∧ Rep K ρ H x v) ∧
  ∀ q, sx = some q → σ[q.slot]? = some (some (.ref q.a)) ∧ XcR K ρ H q.fs q.d
end

section
variable {K : Gw} {ρ ρ' : List Addr} {H H' : Hp}
theorem Grow.get {n : Nat} {a : Addr} (g : Grow ρ ρ' H H') (h : ρ[n]? = some a) : ρ'[n]? = some a := by
  obtain ⟨m, rfl⟩ := g.pre
  have hl := (List.getElem?_eq_some_iff.mp h).1
  rw [List.getElem?_append_left hl]
  exact h
theorem Grow.sqt {a : Addr} {xs : List V} (g : Grow ρ ρ' H H') (h : SqT K.K H a xs) : SqT K.K H' a xs := by
  rcases h with (h | ⟨o, h⟩) | h
  · exact .inl (.inl (g.tup _ _ h))
  · exact .inl (.inr ⟨o, g.frz _ _ _ h⟩)
  · exact .inr h
theorem Grow.ros {a : Addr} {xs : List V} (g : Grow ρ ρ' H H') (h : RoS K.K H a xs) : RoS K.K H' a xs := by
  rcases h with ⟨o, h⟩ | h
  · exact .inl ⟨o, g.frz _ _ _ h⟩
  · exact .inr h
mutual
theorem Rep.mono (g : Grow ρ ρ' H H') : ∀ {x : Val} {v : V}, Rep K ρ H x v → Rep K ρ' H' x v
  | _, _, .non => .non
  | _, _, .bl b => .bl b
  | _, _, .int i => .int i
  | _, _, .str s => .str s
  | _, _, .tup s r => .tup (g.sqt s) (RepL.mono g r)
  | _, _, .scr s r => .scr (g.ros s) (RepL.mono g r)
  | _, _, .loc e => .loc (g.get e)
  | _, _, .ref e => .ref e
  | _, _, .ty n => .ty n
theorem RepL.mono (g : Grow ρ ρ' H H') : ∀ {xs : List Val} {vs : List V}, RepL K ρ H xs vs → RepL K ρ' H' xs vs
  | _, _, .nil => .nil
  | _, _, .cons a b => .cons (Rep.mono g a) (RepL.mono g b)
end
theorem RepF.mono {κ : Type} (g : Grow ρ ρ' H H') {fs : List (κ × Val)} {vs : List (κ × V)} (h : RepF K ρ H fs vs) : RepF K ρ' H' fs vs :=
  Paired.mapP h fun _ _ z => ⟨z.1, z.2.mono g⟩
theorem XcR.mono {fs : List (Str × Val)} {d : Option Addr} (g : Grow ρ ρ' H H') (h : XcR K ρ H fs d) : XcR K ρ' H' fs d := by
  cases d with
  | none => exact h
  | some a => obtain ⟨vs, e, r⟩ := h; exact ⟨vs, g.xd _ _ e, r.mono g⟩
variable {sx : Option Sx}
theorem EnvR.mono {env : En} {σ : St} (g : Grow ρ ρ' H H') (h : EnvR K ρ H sx env σ) : EnvR K ρ' H' sx env σ :=
  ⟨h.1, fun i x e => let ⟨v, e1, r⟩ := h.2.1 i x e; ⟨v, e1, r.mono g⟩, fun q e => ⟨(h.2.2 q e).1, (h.2.2 q e).2.mono g⟩⟩
theorem EnvR.drop {env : En} {σ : St} (h : EnvR K ρ H sx env σ) : EnvR K ρ H none env σ := ⟨h.1, h.2.1, fun _ e => by cases e⟩
theorem EnvR.set {env : En} {σ : St} {x : Val} {v : V} (h : EnvR K ρ H sx env σ) (i : Nat) (r : Rep K ρ H x v) (hn : ∀ q, sx = some q → q.slot ≠ i) : EnvR K ρ H sx (env.set i (some x)) (σ.set i (some v)) := by
  refine ⟨by rw [List.length_set, List.length_set]; exact h.1, fun j y e => ?_, fun q e => ⟨by rw [List.getElem?_set_ne (Ne.symm (hn q e))]; exact (h.2.2 q e).1, (h.2.2 q e).2⟩⟩
  by_cases hj : i = j
  · subst hj
    by_cases hl : i < env.length
    · rw [List.getElem?_set_self hl] at e
      cases e
      exact ⟨v, List.getElem?_set_self (by rw [← h.1]; exact hl), r⟩
    · rw [List.getElem?_eq_none (by rw [List.length_set]; omega)] at e
      cases e
  · rw [List.getElem?_set_ne hj] at e
    rw [List.getElem?_set_ne hj]
    exact h.2.1 j y e
theorem EnvR.unset {env : En} {σ : St} (h : EnvR K ρ H none env σ) (i : Nat) (z : Option V) : EnvR K ρ H none (env.set i none) (σ.set i z) := by
  refine ⟨by rw [List.length_set, List.length_set]; exact h.1, fun j y e => ?_, fun _ e => by cases e⟩
  by_cases hj : i = j
  · subst hj
    by_cases hl : i < env.length
    · rw [List.getElem?_set_self hl] at e
      cases e
    · rw [List.getElem?_eq_none (by rw [List.length_set]; omega)] at e
      cases e
  · rw [List.getElem?_set_ne hj] at e
    rw [List.getElem?_set_ne hj]
    exact h.2.1 j y e
theorem RepL.length : ∀ {xs : List Val} {vs : List V}, RepL K ρ H xs vs → xs.length = vs.length
  | _, _, .nil => rfl
  | _, _, .cons _ b => by rw [List.length_cons, List.length_cons, RepL.length b]
theorem RepL.get : ∀ {xs : List Val} {vs : List V} {i : Nat} {x : Val}, RepL K ρ H xs vs → xs[i]? = some x → ∃ v, vs[i]? = some v ∧ Rep K ρ H x v
  | _, _, _, _, .nil, e => by simp at e
  | _, _, 0, _, .cons r _, e => by simp at e; subst e; exact ⟨_, rfl, r⟩
  | _, _, i + 1, x, .cons _ t, e => by
    obtain ⟨u, h1, h2⟩ := RepL.get (i := i) (x := x) t (by simpa using e)
    exact ⟨u, by simpa using h1, h2⟩
theorem RepL.getV : ∀ {xs : List Val} {vs : List V} {i : Nat} {v : V}, RepL K ρ H xs vs → vs[i]? = some v → ∃ x, xs[i]? = some x ∧ Rep K ρ H x v
  | _, _, _, _, .nil, e => by simp at e
  | _, _, 0, _, .cons r _, e => by simp at e; subst e; exact ⟨_, rfl, r⟩
  | _, _, i + 1, x, .cons _ t, e => by
    obtain ⟨u, h1, h2⟩ := RepL.getV (i := i) (v := x) t (by simpa using e)
    exact ⟨u, by simpa using h1, h2⟩
theorem RepL.append : ∀ {xs ys : List Val} {vs ws : List V}, RepL K ρ H xs vs → RepL K ρ H ys ws → RepL K ρ H (xs ++ ys) (vs ++ ws)
  | _, _, _, _, .nil, s => s
  | _, _, _, _, .cons r t, s => .cons r (RepL.append t s)
theorem RepL.take : ∀ {xs : List Val} {vs : List V} (n : Nat), RepL K ρ H xs vs → RepL K ρ H (xs.take n) (vs.take n)
  | _, _, 0, _ => .nil
  | _, _, _ + 1, .nil => .nil
  | _, _, n + 1, .cons r t => .cons r (RepL.take n t)
theorem RepL.drop : ∀ {xs : List Val} {vs : List V} (n : Nat), RepL K ρ H xs vs → RepL K ρ H (xs.drop n) (vs.drop n)
  | _, _, 0, r => r
  | _, _, _ + 1, .nil => .nil
  | _, _, n + 1, .cons _ t => RepL.drop n t
theorem RepL.set {x : Val} {v : V} (r : Rep K ρ H x v) : ∀ {xs : List Val} {vs : List V} (i : Nat), RepL K ρ H xs vs → RepL K ρ H (xs.set i x) (vs.set i v)
  | _, _, _, .nil => .nil
  | _, _, 0, .cons _ t => .cons r t
  | _, _, i + 1, .cons q t => .cons q (RepL.set r i t)
theorem RepL.reverse {xs : List Val} {vs : List V} (h : RepL K ρ H xs vs) : RepL K ρ H xs.reverse vs.reverse := by
  induction xs generalizing vs with
  | nil => cases h; exact .nil
  | cons x xs ih =>
    cases h with
    | cons r t =>
      rw [List.reverse_cons, List.reverse_cons]
      exact (ih t).append (.cons r .nil)

/-! ### the heap grows, changes -/
theorem ObR.mono {a : Addr} {o : Ob} (g : Grow ρ ρ' H H') (k : H' a = H a) (kd : ∀ d, H d = some (.own a) → H' d = some (.own a)) (h : ObR K ρ H a o) : ObR K ρ' H' a o := by
  cases o with
  | lst xs => obtain ⟨vs, e, r⟩ := h; exact ⟨vs, k.trans e, r.mono g⟩
  | dct kvs => obtain ⟨vs, e, r⟩ := h; exact ⟨vs, k.trans e, r.mono g⟩
  | ins C fs => obtain ⟨Ca, dx, vs, m, e, d, r⟩ := h; exact ⟨Ca, dx, vs, m, k.trans e, kd _ d, r.mono g⟩
theorem ObR.some {a : Addr} {o : Ob} (h : ObR K ρ H a o) : H a ≠ none := by
  cases o with
  | lst xs => obtain ⟨vs, e, r⟩ := h; rw [e]; simp
  | dct kvs => obtain ⟨vs, e, r⟩ := h; rw [e]; simp
  | ins C fs => obtain ⟨Ca, dx, vs, m, e, d, r⟩ := h; rw [e]; simp
theorem Sim.get {h : Hh} (S : Sim K ρ H h) {n : Nat} {a : Addr} (e : ρ[n]? = some a) : ∃ o, h[n]? = some o ∧ ObR K ρ H a o := by
  have hl := (List.getElem?_eq_some_iff.mp e).1
  have hl' : n < h.length := by rw [← S.len]; exact hl
  obtain ⟨b, e', r⟩ := S.at_ n _ (List.getElem?_eq_getElem hl')
  rw [e] at e'
  cases e'
  exact ⟨_, List.getElem?_eq_getElem hl', r⟩
theorem Sim.tracked {h : Hh} (S : Sim K ρ H h) {a : Addr} (m : a ∈ ρ) : H a ≠ none := by
  obtain ⟨n, hn⟩ := List.getElem?_of_mem m
  obtain ⟨o, _, r⟩ := S.get hn
  exact r.some
theorem Grow.new {p : Addr} {o : HO} (hp : H p = none) : Grow ρ ρ H (upd H p o) :=
  ⟨⟨[], by simp⟩, fun a xs h => by rw [upd_ne (ne_of_none h hp)]; exact h, fun a xs h => by rw [upd_ne (ne_of_none h hp)]; exact h, fun a o u h => by rw [upd_ne (ne_of_none h hp)]; exact h⟩
/-- a new untracked-by-us object (a tuple) -/
theorem Sim.new {h : Hh} {p : Addr} {o : HO} (S : Sim K ρ H h) (hp : H p = none) : Sim K ρ (upd H p o) h :=
  ⟨S.len, S.nd, fun n u e => let ⟨a, e1, r⟩ := S.at_ n u e
    ⟨a, e1, r.mono (Grow.new hp) (upd_ne (fun z => r.some (z ▸ hp))) fun d hd => by rw [upd_ne (ne_of_none hd hp)]; exact hd⟩⟩
theorem nodup_snoc {α : Type} {l : List α} {a : α} (h : l.Nodup) (n : a ∉ l) : (l ++ [a]).Nodup := by
  rw [List.nodup_append]
  refine ⟨h, by simp, fun x hx y hy => ?_⟩
  rw [List.mem_singleton] at hy
  subst hy
  exact fun z => n (z ▸ hx)
theorem Grow.snoc {p : Addr} (g : Grow ρ ρ H H') : Grow ρ (ρ ++ [p]) H H' := ⟨⟨[p], rfl⟩, g.xd, g.tup, g.frz⟩
/-- a new object of ours -/
theorem Sim.laid {h : Hh} {p : Addr} {o : HO} {u : Ob} (S : Sim K ρ H h) (hp : H p = none) (hu : ObR K (ρ ++ [p]) (upd H p o) p u) : Sim K (ρ ++ [p]) (upd H p o) (h ++ [u]) := by
  have np : p ∉ ρ := fun z => S.tracked z hp
  refine ⟨by rw [List.length_append, List.length_append, S.len]; rfl, nodup_snoc S.nd np, fun n w e => ?_⟩
  by_cases hn : n < h.length
  · rw [List.getElem?_append_left hn] at e
    obtain ⟨a, e1, r⟩ := S.at_ n w e
    refine ⟨a, by rw [List.getElem?_append_left (by rw [S.len]; exact hn)]; exact e1, r.mono (Grow.new hp).snoc (upd_ne (fun z => r.some (z ▸ hp))) fun d hd => ?_⟩
    rw [upd_ne (ne_of_none hd hp)]; exact hd
  · have e0 : n = h.length := by
      have := (List.getElem?_eq_some_iff.mp e).1
      rw [List.length_append, List.length_singleton] at this
      omega
    subst e0
    rw [List.getElem?_append_right (Nat.le_refl _), Nat.sub_self] at e
    cases e
    refine ⟨p, ?_, hu⟩
    rw [List.getElem?_append_right (by rw [S.len]; exact Nat.le_refl _), S.len, Nat.sub_self]
    rfl
/-- what is mutable of ours -/
def Mu : Option HO → Prop
  | some (.lst _) => True
  | some (.dK _) => True
  | some (.ins _ _ _) => True
  | _ => False
theorem Grow.put {a : Addr} {o : HO} (m : Mu (H a)) : Grow ρ ρ H (upd H a o) :=
  ⟨⟨[], by simp⟩, fun b xs h => by
    by_cases e : b = a
    · subst e; rw [h] at m; exact m.elim
    · rw [upd_ne e]; exact h, fun b xs h => by
    by_cases e : b = a
    · subst e; rw [h] at m; exact m.elim
    · rw [upd_ne e]; exact h, fun b z u h => by
    by_cases e : b = a
    · subst e; rw [h] at m; exact m.elim
    · rw [upd_ne e]; exact h⟩
theorem nodup_idx {α : Type} {l : List α} (h : l.Nodup) {i j : Nat} {a : α} (hi : l[i]? = some a) (hj : l[j]? = some a) : i = j := by
  obtain ⟨h1, e1⟩ := List.getElem?_eq_some_iff.mp hi
  obtain ⟨h2, e2⟩ := List.getElem?_eq_some_iff.mp hj
  exact (List.getElem_inj (h₀ := h1) (h₁ := h2) h).mp (e1.trans e2.symm)
theorem Sim.put {h : Hh} {n : Nat} {a : Addr} {o : HO} {u : Ob} (S : Sim K ρ H h) (ha : ρ[n]? = some a) (m : Mu (H a)) (hu : ObR K ρ (upd H a o) a u) : Sim K ρ (upd H a o) (h.set n u) := by
  refine ⟨by rw [List.length_set]; exact S.len, S.nd, fun j w e => ?_⟩
  by_cases hj : n = j
  · subst hj
    by_cases hl : n < h.length
    · rw [List.getElem?_set_self hl] at e
      cases e
      exact ⟨a, ha, hu⟩
    · rw [List.getElem?_eq_none (by rw [List.length_set]; omega)] at e
      cases e
  · rw [List.getElem?_set_ne hj] at e
    obtain ⟨b, e1, r⟩ := S.at_ j w e
    have nb : b ≠ a := fun z => hj (nodup_idx S.nd ha (z ▸ e1))
    refine ⟨b, e1, r.mono (Grow.put m) (upd_ne nb) fun d hd => ?_⟩
    have nd : d ≠ a := fun z => by subst z; rw [hd] at m; exact m
    rw [upd_ne nd]; exact hd
end

/-! ### what is wished behind -/
def Post {α : Type} (K : Gw) (W : Wd) (σ : St) (ρ : List Addr) (H : Hp) (R : α → Hh → List Addr → Hp → Prop) : Res α → Prop
  | .ok a h => ∀ ρ' H', Grow ρ ρ' H H' → Sim K ρ' H' h → R a h ρ' H'
  | .exc c fs h => ∀ ρ' H' d cv, Grow ρ ρ' H H' → Sim K ρ' H' h → XcR K ρ' H' fs d → K.mg c = some cv → W.w cv d σ H'
  | .stuck => False
section
variable {α β : Type} {K : Gw} {W : Wd} {σ : St} {ρ ρ' : List Addr} {H H' : Hp}
theorem Post.mono {R : α → Hh → List Addr → Hp → Prop} {r : Res α} (g : Grow ρ ρ' H H') (h : Post K W σ ρ H R r) : Post K W σ ρ' H' R r := by
  cases r with
  | ok a h' => exact fun ρ2 H2 g2 s => h ρ2 H2 (g.trans g2) s
  | exc c fs h' => exact fun ρ2 H2 d cv g2 s x => h ρ2 H2 d cv (g.trans g2) s x
  | stuck => exact h
theorem Post.bind {R : β → Hh → List Addr → Hp → Prop} {r : Res α} {f : α → Hh → Res β} (h : Post K W σ ρ H R (r.bind f)) : Post K W σ ρ H (fun a h1 ρ1 H1 => Post K W σ ρ1 H1 R (f a h1)) r := by
  cases r with
  | ok a h' => exact fun ρ2 H2 g2 _ => Post.mono g2 h
  | exc c fs h' => exact h
  | stuck => exact h
theorem Post.imp {R R' : α → Hh → List Addr → Hp → Prop} {r : Res α} (h : Post K W σ ρ H R r) (k : ∀ a h' ρ' H', Grow ρ ρ' H H' → Sim K ρ' H' h' → R a h' ρ' H' → R' a h' ρ' H') : Post K W σ ρ H R' r := by
  cases r with
  | ok a h' => exact fun ρ2 H2 g2 s => k _ _ _ _ g2 s (h ρ2 H2 g2 s)
  | exc c fs h' => exact h
  | stuck => exact h
end
def RV (K : Gw) (Q : VK) : Val → Hh → List Addr → Hp → Prop := fun a _ ρ H => ∀ u, Rep K ρ H a u → Q u H
def RL (K : Gw) (Q : List V → Hp → Prop) : List Val → Hh → List Addr → Hp → Prop := fun a _ ρ H => ∀ us, RepL K ρ H a us → Q us H
def RB (Q : Bool → Hp → Prop) : Bool → Hh → List Addr → Hp → Prop := fun b _ _ H => Q b H
/-- the readings -/
def tX (K : Gw) (W : Wd) (x : XE) : TE := fun σ H Q => ∃ ρ env h, Sim K ρ H h ∧ EnvR K ρ H W.s env σ ∧ Post K W σ ρ H (RV K Q) (x env h)
def tXT (K : Gw) (W : Wd) (x : XT) : TT := fun σ H Q => ∃ ρ env h, Sim K ρ H h ∧ EnvR K ρ H W.s env σ ∧ Post K W σ ρ H (RB Q) (x env h)
def tXA (K : Gw) (W : Wd) (x : XA) : TA := fun σ H Q => ∃ ρ env h, Sim K ρ H h ∧ EnvR K ρ H W.s env σ ∧ Post K W σ ρ H (RL K Q) (x env h)
def PostS (K : Gw) (W : Wd) (ρ : List Addr) (H : Hp) (D : Ends) : RS → Prop
  | .nx e h => ∀ ρ' H' σ', Grow ρ ρ' H H' → Sim K ρ' H' h → EnvR K ρ' H' W.s e σ' → D.nx σ' H'
  | .rt v h => ∀ ρ' H' u, Grow ρ ρ' H H' → Sim K ρ' H' h → Rep K ρ' H' v u → D.rt u H'
  | .bk e h => ∀ ρ' H' σ', Grow ρ ρ' H H' → Sim K ρ' H' h → EnvR K ρ' H' W.s e σ' → D.bk σ' H'
  | .ct e h => ∀ ρ' H' σ', Grow ρ ρ' H H' → Sim K ρ' H' h → EnvR K ρ' H' W.s e σ' → D.ct σ' H'
  | .exc c fs e h => ∀ ρ' H' d σ' cv, Grow ρ ρ' H H' → Sim K ρ' H' h → EnvR K ρ' H' W.s e σ' → XcR K ρ' H' fs d → K.mg c = some cv → W.w cv d σ' H'
  | .stuck => False
def tXS (K : Gw) (W : Wd) (x : XS) : TS := fun D σ H => ∃ ρ env h, Sim K ρ H h ∧ EnvR K ρ H W.s env σ ∧ PostS K W ρ H D (x env h)
theorem PostS.mono {K : Gw} {W : Wd} {ρ ρ' : List Addr} {H H' : Hp} {D : Ends} {r : RS} (g : Grow ρ ρ' H H') (h : PostS K W ρ H D r) : PostS K W ρ' H' D r := by
  cases r with
  | nx e h' => exact fun ρ2 H2 σ' g2 => h ρ2 H2 σ' (g.trans g2)
  | rt e h' => exact fun ρ2 H2 σ' g2 => h ρ2 H2 σ' (g.trans g2)
  | bk e h' => exact fun ρ2 H2 σ' g2 => h ρ2 H2 σ' (g.trans g2)
  | ct e h' => exact fun ρ2 H2 σ' g2 => h ρ2 H2 σ' (g.trans g2)
  | exc c fs e h' => exact fun ρ2 H2 d σ' cv g2 => h ρ2 H2 d σ' cv (g.trans g2)
  | stuck => exact h

section
variable {X : Cx}
theorem PE.of {e : Expr} {t t' : TE} (h : PE X e t) (w : ∀ σ H Q, t' σ H Q → t σ H Q) : PE X e t' := ⟨fun pins s σ H Q I q => h.run pins s σ H Q I (w σ H Q q)⟩
theorem PT.of {e : Expr} {t t' : TT} (h : PT X e t) (w : ∀ σ H Q, t' σ H Q → t σ H Q) : PT X e t' := ⟨fun pins s σ H Q I q => h.run pins s σ H Q I (w σ H Q q)⟩
theorem PW.of {e : Expr} {t t' : TT} (h : PW X e t) (w : ∀ σ H Q, t' σ H Q → t σ H Q) : PW X e t' := ⟨fun wh pins s σ H Q I q => h.run wh pins s σ H Q I (w σ H Q q)⟩
theorem PA.of {es : List Expr} {t t' : TA} (h : PA X es t) (w : ∀ σ H Q, t' σ H Q → t σ H Q) : PA X es t' := ⟨fun pos pins s σ H Q I q => h.run pos pins s σ H Q I (w σ H Q q)⟩
theorem PS.of {st : Stmt} {t t' : TS} (h : PS X st t) (w : ∀ D σ H, t' D σ H → t D σ H) : PS X st t' := ⟨fun pins s σ H D I q => h.run pins s σ H D I (w D σ H q)⟩
theorem PSs.of {st : List Stmt} {t t' : TS} (h : PSs X st t) (w : ∀ D σ H, t' D σ H → t D σ H) : PSs X st t' := ⟨fun pins s σ H D I q => h.run pins s σ H D I (w D σ H q)⟩
end
/-- the judgements -/
abbrev QE (X : Cx) (W : Wd) (e : Expr) (x : XE) : Prop := PE X e (tX (gw X) W x)
abbrev QT (X : Cx) (W : Wd) (e : Expr) (x : XT) : Prop := PT X e (tXT (gw X) W x)
abbrev QW (X : Cx) (W : Wd) (e : Expr) (x : XT) : Prop := PW X e (tXT (gw X) W x)
abbrev QA (X : Cx) (W : Wd) (e : List Expr) (x : XA) : Prop := PA X e (tXA (gw X) W x)
abbrev QS (X : Cx) (W : Wd) (e : Stmt) (x : XS) : Prop := PS X e (tXS (gw X) W x)
abbrev QSs (X : Cx) (W : Wd) (e : List Stmt) (x : XS) : Prop := PSs X e (tXS (gw X) W x)

/-! ### names, constants, operators -/
def xVar (i : Nat) : XE := fun env h => match env[i]? with
  | some (some v) => .ok v h
  | _ => .stuck
def xC (v : Val) : XE := fun _ h => .ok v h
def xBin (o : Op2) (a b : XE) : XE := fun env h => (a env h).bind fun x h1 => (b env h1).bind fun y h2 => Res.of (o x y h2)
def xUn (o : Op1) (a : XE) : XE := fun env h => (a env h).bind fun x h1 => Res.of (o x h1)
section
variable {X : Cx} {W : Wd} {a b c : Expr} {pos : Pos} {xa xb xc : XE}
theorem q_var (i : Nat) {x : Str} (h : PE X (.Name x pos) (tVar i)) : QE X W (.Name x pos) (xVar i) := PE.of h fun σ H Q ⟨ρ, env, h, S, E, p⟩ => by
  unfold xVar at p
  cases e : env[i]? with
  | none => rw [e] at p; exact p.elim
  | some o =>
    cases o with
    | none => rw [e] at p; exact p.elim
    | some v =>
      rw [e] at p
      obtain ⟨u, e1, r⟩ := E.2.1 i v e
      exact ⟨u, e1, p ρ H (Grow.refl _ _) S u r⟩
theorem q_c {e : Expr} {v : Val} {u : V} (h : PE X e (tC u)) (r : ∀ ρ H, Rep (gw X) ρ H v u) : QE X W e (xC v) := PE.of h fun σ H Q ⟨ρ, env, h, S, E, p⟩ => p ρ H (Grow.refl _ _) S u (r ρ H)
theorem q_int {i : Int} {j : Nat} : QE X W (.Constant (.int i) j pos) (xC (.int i)) := q_c pe_int fun _ _ => .int i
theorem q_bl {i : Bool} {j : Nat} : QE X W (.Constant (.bool i) j pos) (xC (.bl i)) := q_c pe_bl fun _ _ => .bl i
theorem q_non {j : Nat} : QE X W (.Constant .none j pos) (xC .non) := q_c pe_non fun _ _ => .non
theorem q_str {i : Str} {j : Nat} : QE X W (.Constant (.str i) j pos) (xC (.str i)) := q_c pe_str fun _ _ => .str i
/-- an operation on values -/
def rS2 (K : Gw) (o : Op2) : R2 := fun x y H Q => ∃ ρ h a b v h', Sim K ρ H h ∧ Rep K ρ H a x ∧ Rep K ρ H b y ∧ o a b h = some (v, h') ∧ ∀ ρ' H' u, Grow ρ ρ' H H' → Sim K ρ' H' h' → Rep K ρ' H' v u → Q u H'
def rS1 (K : Gw) (o : Op1) : V → Hp → VK → Prop := fun x H Q => ∃ ρ h a v h', Sim K ρ H h ∧ Rep K ρ H a x ∧ o a h = some (v, h') ∧ ∀ ρ' H' u, Grow ρ ρ' H H' → Sim K ρ' H' h' → Rep K ρ' H' v u → Q u H'
def rSN (K : Gw) (o : OpN) : List V → Hp → VK → Prop := fun xs H Q => ∃ ρ h as v h', Sim K ρ H h ∧ RepL K ρ H as xs ∧ o as h = some (v, h') ∧ ∀ ρ' H' u, Grow ρ ρ' H H' → Sim K ρ' H' h' → Rep K ρ' H' v u → Q u H'
theorem Post.of {ρ : List Addr} {H : Hp} {σ : St} {K : Gw} {Q : VK} {r : Option (Val × Hh)} (p : Post K W σ ρ H (RV K Q) (Res.of r)) : ∃ v h', r = some (v, h') ∧ ∀ ρ' H' u, Grow ρ ρ' H H' → Sim K ρ' H' h' → Rep K ρ' H' v u → Q u H' := by
  cases r with
  | none => exact p.elim
  | some q => exact ⟨q.1, q.2, rfl, fun ρ' H' u g s r => p ρ' H' g s u r⟩
theorem bin_of {o : Op2} {σ : St} {H : Hp} {Q : VK} {K : Gw} (h : tX K W (xBin o xa xb) σ H Q) : tOp (rS2 K o) (tX K W xa) (tX K W xb) σ H Q := by
  obtain ⟨ρ, env, h, S, E, p⟩ := h
  refine ⟨ρ, env, h, S, E, (Post.bind p).imp fun a h1 ρ1 H1 g1 S1 q1 u ru => ⟨ρ1, env, h1, S1, E.mono g1, (Post.bind q1).imp fun b h2 ρ2 H2 g2 S2 q2 y ry => ?_⟩⟩
  obtain ⟨v, h', e, k⟩ := Post.of q2
  exact ⟨ρ2, h2, a, b, v, h', S2, ru.mono g2, ry, e, k⟩
theorem q_op {op : Operator} {o : Op2} (ho : OpR X (binaryOp op) (rS2 (gw X) o)) (ha : QE X W a xa) (hb : QE X W b xb) : QE X W (.BinOp a op b pos) (xBin o xa xb) :=
  PE.of (pe_op ho ha hb) fun _ _ _ => bin_of
theorem q_cmp {op : CmpOp} {o : Op2} (ho : OpR X (compareOp op) (rS2 (gw X) o)) (ha : QE X W a xa) (hb : QE X W b xb) (hm : behindInMarks op b = false) : QE X W (.Compare a [op] [b] pos) (xBin o xa xb) :=
  PE.of (pe_cmpR ho ha hb hm) fun _ _ _ => bin_of
theorem un_of {o : Op1} {σ : St} {H : Hp} {Q : VK} {K : Gw} (h : tX K W (xUn o xa) σ H Q) : tUn (rS1 K o) (tX K W xa) σ H Q := by
  obtain ⟨ρ, env, h, S, E, p⟩ := h
  refine ⟨ρ, env, h, S, E, (Post.bind p).imp fun a h1 ρ1 H1 g1 S1 q1 u ru => ?_⟩
  obtain ⟨v, h', e, k⟩ := Post.of q1
  exact ⟨ρ1, h1, a, v, h', S1, ru, e, k⟩
theorem q_un {op : UnaryOp} {o : Op1} (ho : UnR X (unaryOp op) (rS1 (gw X) o)) (ha : QE X W a xa) : QE X W (.UnaryOp op a pos) (xUn o xa) :=
  PE.of (pe_un ho ha) fun _ _ _ => un_of
theorem q_ix {o : Op2} (hr : IxR X (rS2 (gw X) o)) (ha : QE X W a xa) (hb : QE X W b xb) (hs : PlainIx b) : QE X W (.Subscript a b pos) (xBin o xa xb) :=
  PE.of (pe_ix hr ha hb hs) fun _ _ _ => bin_of

/-! ### tests -/
/-- a value that is a truth, as a test -/
def xTest (x : XE) : XT := fun env h => (x env h).bind fun v h1 => match v with
  | .bl b => .ok b h1
  | _ => .stuck
/-- truth of a value -/
def truth (v : Val) (h : Hh) : Option Bool := match v with
  | .non => some false
  | .bl b => some b
  | .int i => some (i != 0)
  | .str y => if y.length ≤ sizeLine then some ((y.length : Int) != 0) else none
  | .tup xs => some (!xs.isEmpty)
  | .scr xs => some (!xs.isEmpty)
  | .loc n => match h[n]? with
    | some (.lst xs) => some (!xs.isEmpty)
    | some (.dct kvs) => some (!kvs.isEmpty)
    | _ => none
  | _ => none
def xTru (x : XE) : XT := fun env h => (x env h).bind fun v h1 => match truth v h1 with
  | some b => .ok b h1
  | none => .stuck
theorem isEmpty_len {α β : Type} {xs : List α} {ys : List β} (h : xs.length = ys.length) : xs.isEmpty = ys.isEmpty := by
  cases xs <;> cases ys <;> first | rfl | (simp at h)
theorem truth_ok {K : Gw} {ρ : List Addr} {H : Hp} {h : Hh} {v : Val} {u : V} {b : Bool} (S : Sim K ρ H h) (r : Rep K ρ H v u) (e : truth v h = some b) : TruV K.K u H b := by
  cases r with
  | non => cases e; exact rfl
  | bl b => cases e; exact rfl
  | int i => cases e; exact rfl
  | str s =>
    have e : (if s.length ≤ sizeLine then some ((s.length : Int) != 0) else none) = some b := e
    by_cases hl : s.length ≤ sizeLine
    · rw [if_pos hl] at e
      cases e
      exact ⟨hl, rfl⟩
    · rw [if_neg hl] at e
      cases e
  | tup s r =>
    cases e
    exact .inr (.inl ⟨_, s, by rw [isEmpty_len r.length]⟩)
  | scr s r =>
    cases e
    exact .inl ⟨_, s.sql, by rw [isEmpty_len r.length]⟩
  | loc e1 =>
    rename_i n a
    obtain ⟨o, e2, ro⟩ := S.get e1
    have e : (match h[n]? with | some (.lst xs) => some (!xs.isEmpty) | some (.dct kvs) => some (!kvs.isEmpty) | _ => none) = some b := e
    rw [e2] at e
    cases o with
    | lst xs => cases e; obtain ⟨vs, e3, r⟩ := ro; exact .inl ⟨vs, .inl (.inl e3), by rw [isEmpty_len r.length]⟩
    | dct kvs => cases e; obtain ⟨vs, e3, r⟩ := ro; exact .inr (.inr ⟨vs, e3, by rw [isEmpty_len (Paired.length r)]⟩)
    | ins C fs => cases e
  | ref a => cases e
  | ty n => cases e
theorem Post.test {K : Gw} {ρ : List Addr} {H : Hp} {σ : St} {Q : Bool → Hp → Prop} {v : Val} {h : Hh} (p : Post K W σ ρ H (RB Q) (match v with | .bl b => .ok b h | _ => .stuck)) (S : Sim K ρ H h) {u : V} (r : Rep K ρ H v u) : ∃ k, u = .bl k ∧ Q k H := by
  cases r with
  | bl b => exact ⟨b, rfl, p ρ H (Grow.refl _ _) S⟩
  | _ => exact p.elim
theorem test_of {x : XE} {K : Gw} {σ : St} {H : Hp} {Q : Bool → Hp → Prop} (h : tXT K W (xTest x) σ H Q) : tX K W x σ H fun u H' => ∃ k, u = .bl k ∧ Q k H' := by
  obtain ⟨ρ, env, h, S, E, p⟩ := h
  exact ⟨ρ, env, h, S, E, (Post.bind p).imp fun a h1 ρ1 H1 g1 S1 q1 u ru => Post.test q1 S1 ru⟩
theorem tru_of {x : XE} {K : Gw} {σ : St} {H : Hp} {Q : Bool → Hp → Prop} (h : tXT K W (xTru x) σ H Q) : tX K W x σ H fun u H' => ∃ k, TruV K.K u H' k ∧ Q k H' := by
  obtain ⟨ρ, env, h, S, E, p⟩ := h
  refine ⟨ρ, env, h, S, E, (Post.bind p).imp fun a h1 ρ1 H1 g1 S1 q1 u ru => ?_⟩
  cases e : truth a h1 with
  | none => rw [e] at q1; exact q1.elim
  | some b => rw [e] at q1; exact ⟨b, truth_ok S1 ru e, q1 ρ1 H1 (Grow.refl _ _) S1⟩
/-- a name, a call, a subscript .. as a test -/
theorem qt_tru (ha : QE X W a xa) (he : ∀ whole, isTrue a X.env whole = (do let v ← whole; standAt a.pos; holding [v] (truthy v)) := by intro _; rfl) : QT X W a (xTru xa) :=
  PT.of (pt_truth ha he) fun _ _ _ => tru_of
theorem qt_val (ha : QE X W a xa) (he : ∀ whole, isTrue a X.env whole = (do let v ← whole; standAt a.pos; holding [v] (truthy v)) := by intro _; rfl) : QT X W a (xTest xa) :=
  PT.of (pt_val ha he) fun _ _ _ => test_of
/-- a comparison as a test -/
theorem cmp_of {o : Op2} {σ : St} {H : Hp} {Q : Bool → Hp → Prop} {K : Gw} (h : tXT K W (xTest (xBin o xa xb)) σ H Q) : tTest (tOp (rS2 K o) (tX K W xa) (tX K W xb)) σ H Q := bin_of (test_of h)
theorem qt_cmp {op : CmpOp} {o : Op2} (ho : OpR X (compareOp op) (rS2 (gw X) o)) (ha : QE X W a xa) (hb : QE X W b xb) (hm : behindInMarks op b = false) : QT X W (.Compare a [op] [b] pos) (xTest (xBin o xa xb)) :=
  PT.of (pt_cmpR ho ha hb hm) fun _ _ _ => cmp_of
def xAndT (a b : XT) : XT := fun env h => (a env h).bind fun c h1 => if c = true then b env h1 else .ok false h1
def xOrT (a b : XT) : XT := fun env h => (a env h).bind fun c h1 => if c = true then .ok true h1 else b env h1
def xNotT (a : XT) : XT := fun env h => (a env h).bind fun c h1 => .ok (!c) h1
variable {ya yb : XT}
theorem qw_and1 (ha : QT X W a ya) : QW X W (.BoolOp .And [a] pos) ya := pw_and1 ha
theorem qw_or1 (ha : QT X W a ya) : QW X W (.BoolOp .Or [a] pos) ya := pw_or1 ha
theorem qw_and {rest : List Expr} (ha : QT X W a ya) (hb : QW X W (.BoolOp .And (b :: rest) pos) yb) : QW X W (.BoolOp .And (a :: b :: rest) pos) (xAndT ya yb) :=
  PW.of (pw_and ha hb) fun σ H Q ⟨ρ, env, h, S, E, p⟩ => ⟨ρ, env, h, S, E, (Post.bind p).imp fun c h1 ρ1 H1 g1 S1 q1 => by
    cases c with
    | true => exact ⟨ρ1, env, h1, S1, E.mono g1, q1⟩
    | false => exact q1 ρ1 H1 (Grow.refl _ _) S1⟩
theorem qw_or {rest : List Expr} (ha : QT X W a ya) (hb : QW X W (.BoolOp .Or (b :: rest) pos) yb) : QW X W (.BoolOp .Or (a :: b :: rest) pos) (xOrT ya yb) :=
  PW.of (pw_or ha hb) fun σ H Q ⟨ρ, env, h, S, E, p⟩ => ⟨ρ, env, h, S, E, (Post.bind p).imp fun c h1 ρ1 H1 g1 S1 q1 => by
    cases c with
    | true => exact q1 ρ1 H1 (Grow.refl _ _) S1
    | false => exact ⟨ρ1, env, h1, S1, E.mono g1, q1⟩⟩
theorem qt_not (ha : QT X W a ya) : QT X W (.UnaryOp .Not a pos) (xNotT ya) :=
  PT.of (pt_not ha) fun σ H Q ⟨ρ, env, h, S, E, p⟩ => ⟨ρ, env, h, S, E, (Post.bind p).imp fun c h1 ρ1 H1 g1 S1 q1 => q1 ρ1 H1 (Grow.refl _ _) S1⟩

/-! ### and, or, not as values (truths) -/
def xAndV (a b : XE) : XE := fun env h => (a env h).bind fun v h1 => match v with
  | .bl true => b env h1
  | .bl false => .ok (.bl false) h1
  | _ => .stuck
def xOrV (a b : XE) : XE := fun env h => (a env h).bind fun v h1 => match v with
  | .bl true => .ok (.bl true) h1
  | .bl false => b env h1
  | _ => .stuck
def xNotV (a : XE) : XE := fun env h => (a env h).bind fun v h1 => match v with
  | .bl b => .ok (.bl (!b)) h1
  | _ => .stuck
theorem q_one {op : BoolOp} (h : QE X W a xa) : QE X W (.BoolOp op [a] pos) xa := pe_one h
theorem q_and {rest : List Expr} (ha : QE X W a xa) (hb : QE X W (.BoolOp .And (b :: rest) pos) xb) : QE X W (.BoolOp .And (a :: b :: rest) pos) (xAndV xa xb) :=
  PE.of (pe_and ha hb) fun σ H Q ⟨ρ, env, h, S, E, p⟩ => ⟨ρ, env, h, S, E, (Post.bind p).imp fun v h1 ρ1 H1 g1 S1 q1 u ru => by
    cases ru with
    | bl c =>
      cases c with
      | true => exact ⟨true, rfl, ⟨ρ1, env, h1, S1, E.mono g1, q1⟩⟩
      | false => exact ⟨false, rfl, q1 ρ1 H1 (Grow.refl _ _) S1 _ (.bl false)⟩
    | _ => exact q1.elim⟩
theorem q_or {rest : List Expr} (ha : QE X W a xa) (hb : QE X W (.BoolOp .Or (b :: rest) pos) xb) : QE X W (.BoolOp .Or (a :: b :: rest) pos) (xOrV xa xb) :=
  PE.of (pe_or ha hb) fun σ H Q ⟨ρ, env, h, S, E, p⟩ => ⟨ρ, env, h, S, E, (Post.bind p).imp fun v h1 ρ1 H1 g1 S1 q1 u ru => by
    cases ru with
    | bl c =>
      cases c with
      | true => exact ⟨true, rfl, q1 ρ1 H1 (Grow.refl _ _) S1 _ (.bl true)⟩
      | false => exact ⟨false, rfl, ⟨ρ1, env, h1, S1, E.mono g1, q1⟩⟩
    | _ => exact q1.elim⟩
theorem q_not (ha : QE X W a xa) : QE X W (.UnaryOp .Not a pos) (xNotV xa) :=
  PE.of (pe_not ha) fun σ H Q ⟨ρ, env, h, S, E, p⟩ => ⟨ρ, env, h, S, E, (Post.bind p).imp fun v h1 ρ1 H1 g1 S1 q1 u ru => by
    cases ru with
    | bl c => exact ⟨c, rfl, q1 ρ1 H1 (Grow.refl _ _) S1 _ (.bl _)⟩
    | _ => exact q1.elim⟩
def xIf (t : XT) (a b : XE) : XE := fun env h => (t env h).bind fun c h1 => if c = true then a env h1 else b env h1
theorem q_if {e : Expr} {y : XT} (hc : QT X W e y) (ha : QE X W a xa) (hb : QE X W b xb) : QE X W (.IfExp e a b pos) (xIf y xa xb) :=
  PE.of (pe_ifExp hc ha hb) fun σ H Q ⟨ρ, env, h, S, E, p⟩ => ⟨ρ, env, h, S, E, (Post.bind p).imp fun c h1 ρ1 H1 g1 S1 q1 => by
    cases c with
    | true => exact ⟨ρ1, env, h1, S1, E.mono g1, q1⟩
    | false => exact ⟨ρ1, env, h1, S1, E.mono g1, q1⟩⟩
/-- a op b op' c -/
def xChain (o o' : Op2) (a b c : XE) : XE := fun env h => (a env h).bind fun x h1 => (b env h1).bind fun y h2 => (Res.of (o x y h2)).bind fun z h3 => match z with
  | .bl true => (c env h3).bind fun w h4 => Res.of (o' y w h4)
  | .bl false => .ok (.bl false) h3
  | _ => .stuck
theorem chain_of {o o' : Op2} {σ : St} {H : Hp} {Q : VK} {K : Gw} (h : tX K W (xChain o o' xa xb xc) σ H Q) : tChain (rS2 K o) (rS2 K o') (tX K W xa) (tX K W xb) (tX K W xc) σ H Q := by
  obtain ⟨ρ, env, h, S, E, p⟩ := h
  refine ⟨ρ, env, h, S, E, (Post.bind p).imp fun a h1 ρ1 H1 g1 S1 q1 u ru => ⟨ρ1, env, h1, S1, E.mono g1, (Post.bind q1).imp fun b h2 ρ2 H2 g2 S2 q2 y ry => ?_⟩⟩
  cases eo : o a b h2 with
  | none => rw [eo] at q2; exact q2.elim
  | some w =>
    rw [eo] at q2
    refine ⟨ρ2, h2, a, b, w.1, w.2, S2, ru.mono g2, ry, eo, fun ρ3 H3 z g3 S3 rz => ?_⟩
    have q3 := Post.bind q2 ρ3 H3 g3 S3
    generalize w.1 = w1 at rz q3
    cases rz with
    | bl k =>
      refine ⟨k, rfl, ?_⟩
      cases k with
      | true =>
        refine ⟨ρ3, env, w.2, S3, ((E.mono g1).mono g2).mono g3, (Post.bind q3).imp fun d h4 ρ4 H4 g4 S4 q4 v rv => ?_⟩
        obtain ⟨v', h', e, k⟩ := Post.of q4
        exact ⟨ρ4, h4, b, d, v', h', S4, (ry.mono g3).mono g4, rv, e, k⟩
      | false => exact q3 ρ3 H3 (Grow.refl _ _) S3 _ (.bl false)
    | _ => exact q3.elim
theorem q_chain {op op' : CmpOp} {o o' : Op2} (ho : OpR X (compareOp op) (rS2 (gw X) o)) (ho' : OpR X (compareOp op') (rS2 (gw X) o')) (ha : QE X W a xa) (hb : QE X W b xb) (hc : QE X W c xc)
    (hm : lastMarks [op, op'] [b, c] = false := by with_unfolding_all rfl) : QE X W (.Compare a [op, op'] [b, c] pos) (xChain o o' xa xb xc) := PE.of (pe_chain ho ho' ha hb hc hm) fun _ _ _ => chain_of
theorem qt_chain {op op' : CmpOp} {o o' : Op2} (ho : OpR X (compareOp op) (rS2 (gw X) o)) (ho' : OpR X (compareOp op') (rS2 (gw X) o')) (ha : QE X W a xa) (hb : QE X W b xb) (hc : QE X W c xc)
    (hm : lastMarks [op, op'] [b, c] = false := by with_unfolding_all rfl) : QT X W (.Compare a [op, op'] [b, c] pos) (xTest (xChain o o' xa xb xc)) := PT.of (pt_chain ho ho' ha hb hc hm) fun _ _ _ h => chain_of (test_of h)

/-! ### argument lists, displays -/
def xNil : XA := fun _ h => .ok [] h
def xCons (a : XE) (r : XA) : XA := fun env h => (a env h).bind fun x h1 => (r env h1).bind fun xs h2 => .ok (x :: xs) h2
def xTup (r : XA) : XE := fun env h => (r env h).bind fun xs h1 => if xs.length ≤ sizeLine then .ok (.tup xs) h1 else .stuck
def xLst (r : XA) : XE := fun env h => (r env h).bind fun xs h1 => if xs.length ≤ sizeLine then .ok (.loc h1.length) (h1 ++ [.lst xs]) else .stuck
def xCallN (o : OpN) (r : XA) : XE := fun env h => (r env h).bind fun xs h1 => Res.of (o xs h1)
variable {es : List Expr} {xr : XA}
theorem qa_nil : QA X W [] xNil := PA.of pa_nil fun σ H Q ⟨ρ, env, h, S, E, p⟩ => p ρ H (Grow.refl _ _) S _ .nil
theorem qa_cons_of {σ : St} {H : Hp} {Q : List V → Hp → Prop} {K : Gw} (h : tXA K W (xCons xa xr) σ H Q) : tCons (tX K W xa) (tXA K W xr) σ H Q := by
  obtain ⟨ρ, env, h, S, E, p⟩ := h
  exact ⟨ρ, env, h, S, E, (Post.bind p).imp fun a h1 ρ1 H1 g1 S1 q1 u ru => ⟨ρ1, env, h1, S1, E.mono g1, (Post.bind q1).imp fun b h2 ρ2 H2 g2 S2 q2 y ry => q2 ρ2 H2 (Grow.refl _ _) S2 _ (.cons (ru.mono g2) ry)⟩⟩
theorem new_loc {K : Gw} {ρ : List Addr} {H : Hp} {h : Hh} {xs : List Val} {vs : List V} {p : Addr} (S : Sim K ρ H h) (hp : H p = none) (r : RepL K ρ H xs vs) :
    Grow ρ (ρ ++ [p]) H (upd H p (.lst vs)) ∧ Sim K (ρ ++ [p]) (upd H p (.lst vs)) (h ++ [.lst xs]) ∧ Rep K (ρ ++ [p]) (upd H p (.lst vs)) (.loc h.length) (.ref p) := by
  have g : Grow ρ (ρ ++ [p]) H (upd H p (.lst vs)) := (Grow.new hp).snoc
  refine ⟨g, S.laid hp ⟨vs, upd_same, r.mono g⟩, .loc ?_⟩
  rw [List.getElem?_append_right (by rw [S.len]; exact Nat.le_refl _), S.len, Nat.sub_self]
  rfl
theorem new_tup {K : Gw} {ρ : List Addr} {H : Hp} {h : Hh} {xs : List Val} {vs : List V} {p : Addr} (S : Sim K ρ H h) (hp : H p = none) (r : RepL K ρ H xs vs) :
    Grow ρ ρ H (upd H p (.tup vs)) ∧ Sim K ρ (upd H p (.tup vs)) h ∧ Rep K ρ (upd H p (.tup vs)) (.tup xs) (.ref p) :=
  ⟨Grow.new hp, S.new hp, .tup (.inl (.inl upd_same)) (r.mono (Grow.new hp))⟩
theorem q_tup {k : Nat} (h : QA X W es xr) : QE X W (.Tuple es k pos) (xTup xr) := PE.of (pe_tup h) fun σ H Q ⟨ρ, env, h, S, E, p⟩ =>
  ⟨ρ, env, h, S, E, (Post.bind p).imp fun xs h1 ρ1 H1 g1 S1 q1 us rs => by
    by_cases hl : xs.length ≤ sizeLine
    · rw [if_pos hl] at q1
      refine ⟨by rw [← rs.length]; exact hl, fun p hp => ?_⟩
      obtain ⟨g, s, r⟩ := new_tup S1 hp rs
      exact q1 ρ1 _ g s _ r
    · rw [if_neg hl] at q1
      exact q1.elim⟩
theorem q_lst (h : QA X W es xr) : QE X W (.List es pos) (xLst xr) := PE.of (pe_lst h) fun σ H Q ⟨ρ, env, h, S, E, p⟩ =>
  ⟨ρ, env, h, S, E, (Post.bind p).imp fun xs h1 ρ1 H1 g1 S1 q1 us rs => by
    by_cases hl : xs.length ≤ sizeLine
    · rw [if_pos hl] at q1
      refine ⟨by rw [← rs.length]; exact hl, fun p hp => ?_⟩
      obtain ⟨g, s, r⟩ := new_loc S1 hp rs
      exact q1 _ _ g s _ r
    · rw [if_neg hl] at q1
      exact q1.elim⟩
theorem callN_of {o : OpN} {σ : St} {H : Hp} {Q : VK} {K : Gw} (h : tX K W (xCallN o xr) σ H Q) : tXA K W xr σ H fun vs H1 => rSN K o vs H1 Q := by
  obtain ⟨ρ, env, h, S, E, p⟩ := h
  refine ⟨ρ, env, h, S, E, (Post.bind p).imp fun xs h1 ρ1 H1 g1 S1 q1 us rs => ?_⟩
  obtain ⟨v, h', e, k⟩ := Post.of q1
  exact ⟨ρ1, h1, xs, v, h', S1, rs, e, k⟩
end
end EX

set_option Elab.async false
set_option linter.all false
set_option maxRecDepth 100000
set_option maxHeartbeats 1000000
namespace EX
open PySem L2

/-! ### statements -/
def sNil : XS := fun e h => .nx e h
def sSeq (a b : XS) : XS := fun e h => match a e h with
  | .nx e1 h1 => b e1 h1
  | r => r
def sRet (x : XE) : XS := fun e h => match x e h with
  | .ok v h1 => .rt v h1
  | .exc c fs h1 => .exc c fs e h1
  | .stuck => .stuck
def sExpr (x : XE) : XS := fun e h => match x e h with
  | .ok _ h1 => .nx e h1
  | .exc c fs h1 => .exc c fs e h1
  | .stuck => .stuck
def sSet (i : Nat) (x : XE) : XS := fun e h => match x e h with
  | .ok v h1 => .nx (e.set i (some v)) h1
  | .exc c fs h1 => .exc c fs e h1
  | .stuck => .stuck
def sIf (t : XT) (a b : XS) : XS := fun e h => match t e h with
  | .ok c h1 => if c = true then a e h1 else b e h1
  | .exc c fs h1 => .exc c fs e h1
  | .stuck => .stuck
def sRetN : XS := fun _ h => .rt .non h
def sBreak : XS := fun e h => .bk e h
def sCont : XS := fun e h => .ct e h
section
variable {X : Cx} {W : Wd} {st : Stmt} {rest : List Stmt} {a b : XS} {e : Expr} {x : XE} {pos : Pos}
theorem qss_nil : QSs X W [] sNil := PSs.of pss_nil fun D σ H ⟨ρ, env, h, S, E, p⟩ => p ρ H σ (Grow.refl _ _) S E
theorem seq_of {K : Gw} {D : Ends} {σ : St} {H : Hp} (h : tXS K W (sSeq a b) D σ H) : tSeq (tXS K W a) (tXS K W b) D σ H := by
  obtain ⟨ρ, env, h, S, E, p⟩ := h
  refine ⟨ρ, env, h, S, E, ?_⟩
  unfold sSeq at p
  cases e : a env h with
  | nx e1 h1 => rw [e] at p; exact fun ρ' H' σ' g s er => ⟨ρ', e1, h1, s, er, PostS.mono g p⟩
  | rt v h1 => rw [e] at p; exact p
  | bk e1 h1 => rw [e] at p; exact p
  | ct e1 h1 => rw [e] at p; exact p
  | exc c fs e1 h1 => rw [e] at p; exact p
  | stuck => rw [e] at p; exact p
theorem qss_cons (h1 : QS X W st a) (h2 : QSs X W rest b) : QSs X W (st :: rest) (sSeq a b) := PSs.of (pss_cons h1 h2) fun _ _ _ => seq_of
theorem qss_one (h1 : QS X W st a) : QSs X W [st] a := pss_one h1
/-- behind an expression: R says what -/
theorem afterE {K : Gw} {ρ : List Addr} {H : Hp} {σ : St} {env : En} {h : Hh} {D : Ends} {f : Val → Hh → RS} (E : EnvR K ρ H W.s env σ)
    (p : PostS K W ρ H D (match x env h with | .ok v h1 => f v h1 | .exc c fs h1 => .exc c fs env h1 | .stuck => .stuck)) : Post K W σ ρ H (fun v h1 ρ1 H1 => PostS K W ρ1 H1 D (f v h1)) (x env h) := by
  cases e : x env h with
  | ok v h1 => rw [e] at p; exact fun ρ1 H1 g1 S1 => PostS.mono g1 p
  | exc c fs h1 => rw [e] at p; exact fun ρ1 H1 d cv g1 S1 xc => p ρ1 H1 d σ cv g1 S1 (E.mono g1) xc
  | stuck => rw [e] at p; exact p
theorem qs_ret (he : QE X W e x) : QS X W (.Return (some e) pos) (sRet x) := PS.of (ps_ret he) fun D σ H ⟨ρ, env, h, S, E, p⟩ =>
  ⟨ρ, env, h, S, E, (afterE (f := fun v h1 => .rt v h1) E p).imp fun v h1 ρ1 H1 g1 S1 q u ru => q ρ1 H1 u (Grow.refl _ _) S1 ru⟩
theorem qs_retN : QS X W (.Return none pos) sRetN := PS.of ps_retN fun D σ H ⟨ρ, env, h, S, E, p⟩ => p ρ H _ (Grow.refl _ _) S .non
theorem qs_pass : QS X W (.Pass pos) sNil := PS.of ps_pass fun D σ H ⟨ρ, env, h, S, E, p⟩ => p ρ H σ (Grow.refl _ _) S E
theorem qs_break : QS X W (.Break pos) sBreak := PS.of ps_break fun D σ H ⟨ρ, env, h, S, E, p⟩ => p ρ H σ (Grow.refl _ _) S E
theorem qs_cont : QS X W (.Continue pos) sCont := PS.of ps_continue fun D σ H ⟨ρ, env, h, S, E, p⟩ => p ρ H σ (Grow.refl _ _) S E
theorem qs_expr (he : QE X W e x) (hs : swapsWith e none pos.line X.env = pure false := by rfl) : QS X W (.Expr e pos) (sExpr x) := PS.of (ps_expr he hs) fun D σ H ⟨ρ, env, h, S, E, p⟩ =>
  ⟨ρ, env, h, S, E, (afterE (f := fun v h1 => .nx env h1) E p).imp fun v h1 ρ1 H1 g1 S1 q u ru => q ρ1 H1 σ (Grow.refl _ _) S1 (E.mono g1)⟩
theorem set_of {K : Gw} {i : Nat} {D : Ends} {σ : St} {H : Hp} (hn : ∀ q, W.s = some q → q.slot ≠ i) (h : tXS K W (sSet i x) D σ H) : tAsg (tX K W x) (gName i) D σ H := by
  obtain ⟨ρ, env, h, S, E, p⟩ := h
  exact ⟨ρ, env, h, S, E, (afterE (f := fun v h1 => .nx (env.set i (some v)) h1) E p).imp fun v h1 ρ1 H1 g1 S1 q u ru => q ρ1 H1 _ (Grow.refl _ _) S1 ((E.mono g1).set i ru hn)⟩
theorem qs_set (i : Nat) {x' : Str} {pos' : Pos} (hN : X.N.Nodup) (hi : X.N[i]? = some x') (hx : Loc X.env.scope x') (he : QE X W e x) (hs : swapsWith e (some (.Name x' pos')) pos.line X.env = pure false := by rfl)
    (hf : X.fn x' = true ∨ X.env.scope.names.lookup x' = some .local := by first | exact .inl rfl | exact .inr rfl | assumption) (hn : ∀ q, W.s = some q → q.slot ≠ i := by first | (intro _ h; cases h; done) | (intro _ h; cases h; decide)) : QS X W (.Assign [.Name x' pos'] e pos) (sSet i x) := PS.of (ps_set hN hi hx he hs hf) fun _ _ _ => set_of hn
theorem qs_if {c : Expr} {sa sb : List Stmt} {y : XT} (hc : QT X W c y) (ha : QSs X W sa a) (hb : QSs X W sb b) : QS X W (.If c sa sb pos) (sIf y a b) := PS.of (ps_if hc ha hb) fun D σ H ⟨ρ, env, h, S, E, p⟩ => by
  refine ⟨ρ, env, h, S, E, ?_⟩
  unfold sIf at p
  cases e : y env h with
  | ok c h1 =>
    rw [e] at p
    intro ρ1 H1 g1 S1
    cases c with
    | true => exact ⟨ρ1, env, h1, S1, E.mono g1, PostS.mono g1 p⟩
    | false => exact ⟨ρ1, env, h1, S1, E.mono g1, PostS.mono g1 p⟩
  | exc c fs h1 => rw [e] at p; exact fun ρ1 H1 d cv g1 S1 xc => p ρ1 H1 d σ cv g1 S1 (E.mono g1) xc
  | stuck => rw [e] at p; exact p.elim
end

/-! ### targets -/
inductive Tg where
  | name (i : Nat)
  | tup (ts : List Tg)
mutual
def Tg.slots : Tg → List Nat
  | .name i => [i]
  | .tup ts => slotsL ts
def slotsL : List Tg → List Nat
  | [] => []
  | t :: ts => t.slots ++ slotsL ts
end
mutual
def Tg.put : Tg → Val → En → Option En
  | .name i, v, e => some (e.set i (some v))
  | .tup ts, .tup xs, e => putL ts xs e
  | .tup _, _, _ => none
def putL : List Tg → List Val → En → Option En
  | [], [], e => some e
  | t :: ts, x :: xs, e => (t.put x e).bind fun e1 => putL ts xs e1
  | _, _, _ => none
end
/-- slots but these are as they were -/
def But (vs : List Nat) (σ σ' : St) : Prop := σ'.length = σ.length ∧ ∀ i, i ∉ vs → σ'[i]? = σ[i]?
/-- what a target does -/
def tTg (K : Gw) (t : Tg) : TG := fun v σ H Q => ∃ ρ env h x e1, Sim K ρ H h ∧ EnvR K ρ H none env σ ∧ Rep K ρ H x v ∧ t.put x env = some e1 ∧ ∀ σ1, EnvR K ρ H none e1 σ1 → But t.slots σ σ1 → Q σ1 H
def tTgs (K : Gw) (ts : List Tg) : TGs := fun vs σ H Q => ∃ ρ env h xs e1, Sim K ρ H h ∧ EnvR K ρ H none env σ ∧ RepL K ρ H xs vs ∧ putL ts xs env = some e1 ∧ ∀ σ1, EnvR K ρ H none e1 σ1 → But (slotsL ts) σ σ1 → Q σ1 H
section
variable {X : Cx} {e : Expr} {es : List Expr} {pos : Pos}
theorem PG.of {t t' : TG} (h : PG X e t) (w : ∀ v σ H Q, t' v σ H Q → t v σ H Q) : PG X e t' := ⟨fun pins s σ H v u Q I r q => h.run pins s σ H v u Q I r (w v σ H Q q)⟩
theorem qg_name (i : Nat) {x : Str} (hN : X.N.Nodup) (hi : X.N[i]? = some x) (hx : Loc X.env.scope x) (hf : X.fn x = true ∨ X.env.scope.names.lookup x = some .local := by first | exact .inl rfl | exact .inr rfl | assumption) : PG X (.Name x pos) (tTg (gw X) (.name i)) :=
  PG.of (pg_name hN hi hx hf) fun v σ H Q ⟨ρ, env, h, x, e1, S, E, r, ep, q⟩ => by
    cases ep
    exact q _ (E.set i r (fun _ z => by cases z)) ⟨List.length_set, fun j hj => List.getElem?_set_ne fun z => hj (by rw [z]; exact List.mem_singleton.mpr rfl)⟩
theorem qgs_nil : PGs X [] (tTgs (gw X) []) := by
  refine ⟨fun pins s σ H vs us Q I r ⟨ρ, env, h, xs, e1, S, E, rx, ep, q⟩ => pgs_nil.run pins s σ H vs us Q I r ?_⟩
  cases rx with
  | nil => cases ep; exact ⟨rfl, q σ E ⟨rfl, fun _ _ => rfl⟩⟩
  | cons _ _ => cases ep
theorem But.trans {vs us : List Nat} {σ σ1 σ2 : St} (a : But vs σ σ1) (b : But us σ1 σ2) : But (vs ++ us) σ σ2 :=
  ⟨b.1.trans a.1, fun i hi => (b.2 i fun z => hi (List.mem_append_right _ z)).trans (a.2 i fun z => hi (List.mem_append_left _ z))⟩
theorem qgs_cons {t : Tg} {ts : List Tg} (h1 : PG X e (tTg (gw X) t)) (h2 : PGs X es (tTgs (gw X) ts))
    (hs : (assignEach (e :: es) X.env).map (·.2) = assign e X.env :: (assignEach es X.env).map (·.2) := by rfl) : PGs X (e :: es) (tTgs (gw X) (t :: ts)) := by
  refine ⟨fun pins s σ H vs us Q I r ⟨ρ, env, h, xs, e1, S, E, rx, ep, q⟩ => (pgs_cons h1 h2 hs).run pins s σ H vs us Q I r ?_⟩
  cases rx with
  | nil => cases ep
  | @cons y v ys ws r1 r2 =>
    have ep : (t.put y env).bind (fun e1 => putL ts ys e1) = some e1 := ep
    cases e2 : t.put y env with
    | none => rw [e2] at ep; cases ep
    | some e3 =>
      rw [e2] at ep
      exact ⟨_, _, rfl, ρ, env, h, y, e3, S, E, r1, e2, fun σ1 E1 B1 => ⟨ρ, e3, h, ys, e1, S, E1, r2, ep, fun σ2 E2 B2 => q σ2 E2 (B1.trans B2)⟩⟩
theorem putL_len : ∀ {ts : List Tg} {xs : List Val} {e e1 : En}, putL ts xs e = some e1 → xs.length = ts.length
  | [], [], _, _, _ => rfl
  | [], _ :: _, _, _, h => by cases h
  | _ :: _, [], _, _, h => by cases h
  | t :: ts, x :: xs, e, e1, h => by
    have h : (t.put x e).bind (fun e1 => putL ts xs e1) = some e1 := h
    cases e2 : t.put x e with
    | none => rw [e2] at h; cases h
    | some e3 => rw [e2] at h; rw [List.length_cons, List.length_cons, putL_len (ts := ts) h]
theorem qg_tup {ts : List Tg} {k : Nat} (hc : X.calm = true) (h : PGs X es (tTgs (gw X) ts))
    (hn : (assignEach es X.env).length = ts.length := by rfl) (hst : (assignEach es X.env).findIdx? (·.1) = none := by rfl) : PG X (.Tuple es k pos) (tTg (gw X) (.tup ts)) :=
  PG.of (pg_tup hc h hn hst) fun v σ H Q ⟨ρ, env, h, x, e1, S, E, r, ep, q⟩ => by
    cases r with
    | @tup a xs vs sq rs =>
      have ep : putL ts xs env = some e1 := ep
      exact ⟨a, vs, rfl, sq, by rw [← rs.length, putL_len ep], ρ, env, h, xs, e1, S, E, rs, ep, q⟩
    | _ => cases ep
/-- target = expression -/
def sAsg (t : Tg) (x : XE) : XS := fun e h => match x e h with
  | .ok v h1 => (match t.put v e with
    | some e1 => .nx e1 h1
    | none => .stuck)
  | .exc c fs h1 => .exc c fs e h1
  | .stuck => .stuck
theorem asg_of {K : Gw} {W : Wd} {t : Tg} {x : XE} {D : Ends} {σ : St} {H : Hp} (h0 : W.s = none) (h : tXS K W (sAsg t x) D σ H) : tAsg (tX K W x) (tTg K t) D σ H := by
  obtain ⟨ρ, env, h, S, E, p⟩ := h
  refine ⟨ρ, env, h, S, E, (afterE (f := fun v h1 => match t.put v env with | some e1 => .nx e1 h1 | none => .stuck) E p).imp fun v h1 ρ1 H1 g1 S1 q u ru => ?_⟩
  cases e1 : t.put v env with
  | none => rw [e1] at q; exact q.elim
  | some e2 => rw [e1] at q; exact ⟨ρ1, env, h1, v, e2, S1, (E.mono g1).drop, ru, e1, fun σ1 E1 _ => q ρ1 H1 σ1 (Grow.refl _ _) S1 (by rw [h0]; exact E1)⟩
theorem qs_asg {W : Wd} {t : Tg} {x : XE} {tg : Expr} (he : QE X W e x) (hg : PG X tg (tTg (gw X) t)) (hs : swapsWithSole [tg] e pos.line X.env = pure false := by rfl) (hw : swappedStores [tg] e X.env = pure none := by rfl)
    (h1 : (assignEach [tg] X.env).map (·.2) = [assign tg X.env] := by rfl) (h0 : W.s = none := by rfl) : QS X W (.Assign [tg] e pos) (sAsg t x) :=
  PS.of (ps_asg he hg hs hw h1) fun _ _ _ => asg_of h0
end

/-! ### what is walked -/
inductive Itn where
  | items (xs : List Val)
  | live (n : Nat) (xs : List Val)
def Itn.xs : Itn → List Val
  | .items xs => xs
  | .live _ xs => xs
def Itn.okAt : Itn → Hh → Prop
  | .items _, _ => True
  | .live n xs, h => h[n]? = some (.lst xs)
structure ItR (K : Gw) (ρ : List Addr) (H : Hp) (it : Itn) (J : It) : Prop where
  go : ∀ (i : Nat) (ρ' : List Addr) (H' : Hp) (h : Hh), Grow ρ ρ' H H' → Sim K ρ' H' h → it.okAt h → i < it.xs.length → J.go i H'
  yld : ∀ (i : Nat) (ρ' : List Addr) (H' : Hp) (h : Hh) (x : Val) (v : V) (H2 : Hp), Grow ρ ρ' H H' → Sim K ρ' H' h → it.okAt h → it.xs[i]? = some x → J.yld i H' v H2 → Grow ρ' ρ' H' H2 ∧ Sim K ρ' H2 h ∧ Rep K ρ' H2 x v
  stop : ∀ (i : Nat) (ρ' : List Addr) (H' : Hp) (h : Hh), Grow ρ ρ' H H' → Sim K ρ' H' h → it.okAt h → it.xs.length ≤ i → J.stop i H'
abbrev XI := En → Hh → Res Itn
def tXI (K : Gw) (W : Wd) (xi : XI) : TI := fun σ H R => ∃ ρ env h, Sim K ρ H h ∧ EnvR K ρ H W.s env σ ∧ Post K W σ ρ H (fun it h1 ρ1 H1 => ∀ J, it.okAt h1 → ItR K ρ1 H1 it J → R J H1) (xi env h)
abbrev QI (X : Cx) (W : Wd) (tg iter : Expr) (xi : XI) : Prop := PI X tg iter (tXI (gw X) W xi)
section
variable {X : Cx} {W : Wd} {tg iter : Expr}
theorem PI.of {t t' : TI} (h : PI X tg iter t) (w : ∀ σ H R, t' σ H R → t σ H R) : PI X tg iter t' := ⟨fun pins s σ H R I q => h.run pins s σ H R I (w σ H R q)⟩
/-- any value that may be walked: a list, a tuple, a text -/
def itOf (v : Val) (h : Hh) : Option Itn := match v with
  | .tup xs => some (.items xs)
  | .scr xs => some (.items xs)
  | .str s => some (.items (s.cps.toList.map fun c => .str ⟨#[c]⟩))
  | .loc n => (match h[n]? with
    | some (.lst xs) => some (.live n xs)
    | _ => none)
  | _ => none
def xIter (x : XE) : XI := fun e h => (x e h).bind fun v h1 => match itOf v h1 with
  | some it => .ok it h1
  | none => .stuck
def iAny (K : PySem.W.Frag) (te : TE) : TI := fun σ H R => te σ H fun x H1 => (∃ a, x = .ref a ∧ (∃ xs, SqL K H1 a xs) ∧ R (Itl K a) H1) ∨ (∃ a, x = .ref a ∧ (∃ xs, SqT K H1 a xs) ∧ R (Itt K a) H1) ∨ ∃ y, x = .str y ∧ R (Its y) H1
theorem pi_any {l : Expr} {tl : TE} (hl : PE X l tl) : PI X tg l (iAny X.K tl) := by
  refine ⟨fun pins s σ H R I h => ?_⟩
  refine thn (hl.run pins s σ H _ I h) fun v s1 ⟨x, H1, I1, r1, q1⟩ => ?_
  rcases q1 with ⟨a, rfl, ⟨xs, hq⟩, q⟩ | ⟨a, rfl, ⟨xs, hq⟩, q⟩ | ⟨y, rfl, q⟩
  · cases r1
    obtain ⟨_, _, pl, _⟩ := I1.list hq
    exact wpAny_pyIter_list pl.isList (pi_one (tk := s1.toks) I1 _ (turn_list a _) ⟨_, Heap.get?_push_size _ rfl, rfl, rfl⟩ q)
  · cases r1
    obtain ⟨its, _, pt, _⟩ := I1.tuple hq
    exact wpAny_pyIter_tuple (show s1.heap.IsTuple a its.toArray from pt) (pi_one (tk := s1.toks) I1 _ (turn_tuple a _) ⟨_, Heap.get?_push_size _ rfl, rfl, rfl⟩ q)
  · obtain ⟨t, rfl⟩ := r1
    by_cases asc : y.cps.all (· < 128) = true
    · exact wpAny_pyIter_ascii asc (pi_one (tk := s1.toks) I1 _ (turn_str _ y t "str_ascii_iterator" (.inl rfl)) ⟨_, Heap.get?_push_size _ rfl, rfl, rfl⟩ q)
    · exact wpAny_pyIter_wide (Bool.not_eq_true _ ▸ asc) (pi_one (tk := s1.toks) I1 _ (turn_str _ y t "str_iterator" (.inr rfl)) ⟨_, Heap.get?_push_size _ rfl, rfl, rfl⟩ q)
theorem itR_list {K : Gw} {ρ : List Addr} {H : Hp} {n : Nat} {a : Addr} {xs : List Val} (ha : ρ[n]? = some a) : ItR K ρ H (.live n xs) (Itl K.K a) := by
  have key : ∀ {ρ' : List Addr} {H' : Hp} {h : Hh}, Grow ρ ρ' H H' → Sim K ρ' H' h → (Itn.live n xs).okAt h → ∃ vs, SqL K.K H' a vs ∧ RepL K ρ' H' xs vs := fun {ρ' H' h} g S ok => by
    obtain ⟨b, e, r⟩ := S.at_ n _ ok
    rw [g.get ha] at e
    cases e
    obtain ⟨vs, e2, r2⟩ := r
    exact ⟨vs, .inl (.inl e2), r2⟩
  refine ⟨fun i ρ' H' h g S ok hi => ?_, fun i ρ' H' h x v H2 g S ok hx y => ?_, fun i ρ' H' h g S ok hi => ?_⟩
  · obtain ⟨vs, q, r⟩ := key g S ok
    exact ⟨vs, vs[i]'(by rw [← r.length]; exact hi), q, List.getElem?_eq_getElem _⟩
  · obtain ⟨vs, q, r⟩ := key g S ok
    obtain ⟨rfl, z⟩ := y
    obtain ⟨u, e, ru⟩ := r.get hx
    rw [z vs q] at e
    cases e
    exact ⟨Grow.refl _ _, S, ru⟩
  · obtain ⟨vs, q, r⟩ := key g S ok
    exact ⟨vs, q, by rw [← r.length]; exact hi⟩
theorem itR_tup {K : Gw} {ρ : List Addr} {H : Hp} {a : Addr} {xs : List Val} {vs : List V} (hq : SqT K.K H a vs) (r : RepL K ρ H xs vs) : ItR K ρ H (.items xs) (Itt K.K a) := by
  refine ⟨fun i ρ' H' h g S ok hi => ?_, fun i ρ' H' h x v H2 g S ok hx y => ?_, fun i ρ' H' h g S ok hi => ?_⟩
  · exact ⟨vs, vs[i]'(by rw [← r.length]; exact hi), g.sqt hq, List.getElem?_eq_getElem _⟩
  · obtain ⟨rfl, z⟩ := y
    obtain ⟨u, e, ru⟩ := r.get hx
    rw [z vs (g.sqt hq)] at e
    cases e
    exact ⟨Grow.refl _ _, S, ru.mono g⟩
  · exact ⟨vs, g.sqt hq, by rw [← r.length]; exact hi⟩
theorem itR_scr {K : Gw} {ρ : List Addr} {H : Hp} {a : Addr} {xs : List Val} {vs : List V} (hq : RoS K.K H a vs) (r : RepL K ρ H xs vs) : ItR K ρ H (.items xs) (Itl K.K a) := by
  refine ⟨fun i ρ' H' h g S ok hi => ?_, fun i ρ' H' h x v H2 g S ok hx y => ?_, fun i ρ' H' h g S ok hi => ?_⟩
  · exact ⟨vs, vs[i]'(by rw [← r.length]; exact hi), (g.ros hq).sql, List.getElem?_eq_getElem _⟩
  · obtain ⟨rfl, z⟩ := y
    obtain ⟨u, e, ru⟩ := r.get hx
    rw [z vs (g.ros hq).sql] at e
    cases e
    exact ⟨Grow.refl _ _, S, ru.mono g⟩
  · exact ⟨vs, (g.ros hq).sql, by rw [← r.length]; exact hi⟩
theorem itR_str {K : Gw} {ρ : List Addr} {H : Hp} (s : Str) : ItR K ρ H (.items (s.cps.toList.map fun c => .str ⟨#[c]⟩)) (Its s) := by
  have hl : (s.cps.toList.map fun c => (Val.str ⟨#[c]⟩)).length = s.cps.size := by rw [List.length_map, Array.length_toList]
  refine ⟨fun i ρ' H' h g S ok hi => ?_, fun i ρ' H' h x v H2 g S ok hx y => ?_, fun i ρ' H' h g S ok hi => ?_⟩
  · have hi : i < (s.cps.toList.map fun c => (Val.str ⟨#[c]⟩)).length := hi
    rw [hl] at hi
    exact hi
  · obtain ⟨rfl, c, ec, rfl⟩ := y
    have hx : (s.cps.toList.map fun c => (Val.str ⟨#[c]⟩))[i]? = some x := hx
    rw [List.getElem?_map, Array.getElem?_toList, ec] at hx
    cases hx
    exact ⟨Grow.refl _ _, S, .str _⟩
  · have hi : (s.cps.toList.map fun c => (Val.str ⟨#[c]⟩)).length ≤ i := hi
    rw [hl] at hi
    exact hi
theorem itR_range {K : Gw} {ρ : List Addr} {H : Hp} (lo : Int) (n : Nat) : ItR K ρ H (.items ((List.range n).map fun (i : Nat) => .int (lo + i))) (Itr lo n) := by
  have hl : ((List.range n).map fun (i : Nat) => Val.int (lo + i)).length = n := by rw [List.length_map, List.length_range]
  refine ⟨fun i ρ' H' h g S ok hi => ?_, fun i ρ' H' h x v H2 g S ok hx y => ?_, fun i ρ' H' h g S ok hi => ?_⟩
  · have hi : i < ((List.range n).map fun (i : Nat) => Val.int (lo + i)).length := hi
    rw [hl] at hi
    exact hi
  · obtain ⟨rfl, rfl⟩ := y
    have hx : ((List.range n).map fun (i : Nat) => Val.int (lo + i))[i]? = some x := hx
    rw [List.getElem?_map] at hx
    have hi : i < n := by
      by_cases hi : i < n
      · exact hi
      · rw [List.getElem?_eq_none (by rw [List.length_range]; omega)] at hx
        cases hx
    rw [List.getElem?_range hi] at hx
    cases hx
    exact ⟨Grow.refl _ _, S, .int _⟩
  · have hi : ((List.range n).map fun (i : Nat) => Val.int (lo + i)).length ≤ i := hi
    rw [hl] at hi
    exact hi
theorem iter_of {K : Gw} {x : XE} {σ : St} {H : Hp} {R : It → Hp → Prop} (h : tXI K W (xIter x) σ H R) : iAny K.K (tX K W x) σ H R := by
  obtain ⟨ρ, env, h, S, E, p⟩ := h
  refine ⟨ρ, env, h, S, E, (Post.bind p).imp fun v h1 ρ1 H1 g1 S1 q u ru => ?_⟩
  cases ru with
  | @tup a xs vs sq rs => exact .inr (.inl ⟨a, rfl, ⟨_, sq⟩, q ρ1 H1 (Grow.refl _ _) S1 _ trivial (itR_tup sq rs)⟩)
  | @scr a xs vs sq rs => exact .inl ⟨a, rfl, ⟨_, sq.sql⟩, q ρ1 H1 (Grow.refl _ _) S1 _ trivial (itR_scr sq rs)⟩
  | str s => exact .inr (.inr ⟨s, rfl, q ρ1 H1 (Grow.refl _ _) S1 _ trivial (itR_str s)⟩)
  | @loc n a ea =>
    obtain ⟨o, e2, ro⟩ := S1.get ea
    have q : Post K W σ ρ1 H1 (fun it h1 ρ1 H1 => ∀ J, it.okAt h1 → ItR K ρ1 H1 it J → R J H1) (match (match h1[n]? with | some (.lst xs) => some (Itn.live n xs) | _ => none) with | some it => Res.ok it h1 | none => .stuck) := q
    rw [e2] at q
    cases o with
    | lst xs =>
      obtain ⟨vs, e3, r3⟩ := ro
      exact .inl ⟨a, rfl, ⟨vs, .inl (.inl e3)⟩, q ρ1 H1 (Grow.refl _ _) S1 _ e2 (itR_list ea)⟩
    | dct kvs => exact q.elim
    | ins C fs => exact q.elim
  | _ => exact q.elim
theorem qi_any {x : XE} (h : QE X W iter x) : QI X W tg iter (xIter x) := PI.of (pi_any h) fun _ _ _ => iter_of
/-- range(n), range(a, b) -/
def xRange1 (a : XE) : XI := fun e h => (a e h).bind fun v h1 => match v with
  | .int j => if -(2 ^ 62) ≤ j ∧ j < 2 ^ 62 then .ok (.items ((List.range j.toNat).map fun (i : Nat) => .int ((0 : Int) + i))) h1 else .stuck
  | _ => .stuck
def xRange2 (a b : XE) : XI := fun e h => (a e h).bind fun v h1 => (b e h1).bind fun w h2 => match v, w with
  | .int i, .int j => if -(2 ^ 62) ≤ i ∧ i < 2 ^ 62 ∧ -(2 ^ 62) ≤ j ∧ j < 2 ^ 62 then .ok (.items ((List.range (j - i).toNat).map fun (k : Nat) => .int (i + k))) h2 else .stuck
  | _, _ => .stuck
theorem qi_range1 {a : Expr} {xa : XE} {p pos : Pos} (hg : Gl X "range") (hm : X.mg "range" = none) (ha : QE X W a xa) (hs : starEach [a] X.env = [(false, eval a X.env)] := by rfl)
    (hs2 : starEach (a :: []) X.env = (false, eval a X.env) :: starEach [] X.env := by rfl) : QI X W tg (.Call (.Name "range" p) [a] [] pos) (xRange1 xa) :=
  PI.of (pi_range1 hg hm (pa_cons ha pa_nil hs2) hs) fun σ H R ⟨ρ, env, h, S, E, pp⟩ => ⟨ρ, env, h, S, E, (Post.bind pp).imp fun v h1 ρ1 H1 g1 S1 q u ru => by
    cases ru with
    | int i =>
      have q : Post (gw X) W σ ρ1 H1 (fun (it : Itn) (h1 : Hh) ρ1 H1 => ∀ J, it.okAt h1 → ItR (gw X) ρ1 H1 it J → R J H1) (if -(2 ^ 62) ≤ i ∧ i < 2 ^ 62 then .ok (.items ((List.range i.toNat).map fun (k : Nat) => .int ((0 : Int) + k))) h1 else .stuck) := q
      by_cases hi : -(2 ^ 62) ≤ i ∧ i < 2 ^ 62
      · rw [if_pos hi] at q
        exact ⟨i, rfl, hi.1, hi.2, q ρ1 H1 (Grow.refl _ _) S1 _ trivial (itR_range 0 _)⟩
      · rw [if_neg hi] at q
        exact q.elim
    | _ => exact q.elim⟩
theorem qi_range2 {a b : Expr} {xa xb : XE} {p pos : Pos} (hg : Gl X "range") (hm : X.mg "range" = none) (ha : QE X W a xa) (hb : QE X W b xb) (hs : starEach [a, b] X.env = [(false, eval a X.env), (false, eval b X.env)] := by rfl) (hs2 : starEach [b] X.env = [(false, eval b X.env)] := by rfl)
    (hs3 : starEach (a :: [b]) X.env = (false, eval a X.env) :: starEach [b] X.env := by rfl) (hs4 : starEach (b :: []) X.env = (false, eval b X.env) :: starEach [] X.env := by rfl) : QI X W tg (.Call (.Name "range" p) [a, b] [] pos) (xRange2 xa xb) :=
  PI.of (pi_range2 hg hm (pa_cons ha (pa_cons hb pa_nil hs4) hs3) hs hs2) fun σ H R ⟨ρ, env, h, S, E, pp⟩ => ⟨ρ, env, h, S, E, (Post.bind pp).imp fun v h1 ρ1 H1 g1 S1 q u ru => ⟨ρ1, env, h1, S1, E.mono g1, (Post.bind q).imp fun w h2 ρ2 H2 g2 S2 q2 u2 ru2 => by
    cases ru with
    | int i =>
      cases ru2 with
      | int j =>
        have q : Post (gw X) W σ ρ2 H2 (fun (it : Itn) (h1 : Hh) ρ1 H1 => ∀ J, it.okAt h1 → ItR (gw X) ρ1 H1 it J → R J H1) (if -(2 ^ 62) ≤ i ∧ i < 2 ^ 62 ∧ -(2 ^ 62) ≤ j ∧ j < 2 ^ 62 then .ok (.items ((List.range (j - i).toNat).map fun (k : Nat) => .int (i + k))) h2 else .stuck) := q2
        by_cases hi : -(2 ^ 62) ≤ i ∧ i < 2 ^ 62 ∧ -(2 ^ 62) ≤ j ∧ j < 2 ^ 62
        · rw [if_pos hi] at q
          exact ⟨i, j, rfl, hi, q ρ2 H2 (Grow.refl _ _) S2 _ trivial (itR_range i _)⟩
        · rw [if_neg hi] at q
          exact q.elim
      | _ => exact q2.elim
    | _ => exact q2.elim⟩⟩
end

/-! ### for -/
open Classical in
noncomputable def forLoop (it : Itn) (t : Tg) (body : XS) : List Val → En → Hh → RS
  | [], e, h => if it.okAt h then .nx e h else .stuck
  | v :: vs, e, h => if it.okAt h then (match t.put v e with
    | none => .stuck
    | some e1 => (match body e1 h with
      | .nx e2 h2 => forLoop it t body vs e2 h2
      | .ct e2 h2 => forLoop it t body vs e2 h2
      | .bk e2 h2 => .nx e2 h2
      | .rt v h2 => .rt v h2
      | .exc c fs e2 h2 => .exc c fs e2 h2
      | .stuck => .stuck)) else .stuck
noncomputable def sFor (xi : XI) (t : Tg) (body : XS) : XS := fun e h => match xi e h with
  | .ok it h1 => forLoop it t body it.xs e h1
  | .exc c fs h1 => .exc c fs e h1
  | .stuck => .stuck
section
variable {X : Cx} {W : Wd} {tg iter : Expr} {body : List Stmt} {pos : Pos} {xi : XI} {t : Tg} {xb : XS}
theorem for_of {K : Gw} {D : Ends} {σ : St} {H : Hp} (h0 : W.s = none) (h : tXS K W (sFor xi t xb) D σ H) : tFor (tXI K W xi) (tTg K t) (tXS K W xb) D σ H := by
  obtain ⟨ρ, env, h, S, E, p⟩ := h
  refine ⟨ρ, env, h, S, E, ?_⟩
  unfold sFor at p
  cases e : xi env h with
  | exc c fs h1 => rw [e] at p; exact fun ρ1 H1 d cv g1 S1 xc => p ρ1 H1 d σ cv g1 S1 (E.mono g1) xc
  | stuck => rw [e] at p; exact p.elim
  | ok it h1 =>
    rw [e] at p
    intro ρ1 H1 g1 S1
    have p1 : PostS K W ρ1 H1 D (forLoop it t xb it.xs env h1) := PostS.mono g1 p
    intro J ok0 hJ
    refine ⟨fun i m σ2 H2 => m = it.xs.length - i ∧ i ≤ it.xs.length ∧ ∃ ρ2 env2 h2, Grow ρ1 ρ2 H1 H2 ∧ Sim K ρ2 H2 h2 ∧ EnvR K ρ2 H2 W.s env2 σ2 ∧ PostS K W ρ2 H2 D (forLoop it t xb (it.xs.drop i) env2 h2), ⟨it.xs.length, by simp, Nat.zero_le _, ρ1, env, h1, Grow.refl _ _, S1, E.mono g1, by rw [List.drop_zero]; exact p1⟩, ?_⟩
    rintro i m σ2 H2 ⟨rfl, hi, ρ2, env2, h2, g2, S2, E2, p2⟩
    by_cases hlt : i < it.xs.length
    · rw [List.drop_eq_getElem_cons hlt] at p2
      unfold forLoop at p2
      by_cases ok : it.okAt h2
      · rw [if_pos ok] at p2
        refine .inr ⟨hJ.go i ρ2 H2 h2 g2 S2 ok hlt, fun σ' H' => ∃ ρ' env' h', Grow ρ1 ρ' H1 H' ∧ Sim K ρ' H' h' ∧ EnvR K ρ' H' W.s env' σ' ∧ PostS K W ρ' H' D (forLoop it t xb (it.xs.drop (i + 1)) env' h'), fun σ' H' hn => ⟨it.xs.length - (i + 1), by omega, rfl, hlt, hn⟩, fun x H3 y => ?_⟩
        obtain ⟨g3, S3, r3⟩ := hJ.yld i ρ2 H2 h2 _ x H3 g2 S2 ok (List.getElem?_eq_getElem hlt) y
        cases e2 : t.put it.xs[i] env2 with
        | none => rw [e2] at p2; exact p2.elim
        | some e1 =>
          rw [e2] at p2
          dsimp only at p2
          refine ⟨ρ2, env2, h2, it.xs[i], e1, S3, (E2.mono g3).drop, r3, e2, fun σ1 E1 _ => ⟨ρ2, e1, h2, S3, by rw [h0]; exact E1, ?_⟩⟩
          have g23 := g2.trans g3
          have p3 := PostS.mono g3 p2
          cases e3 : xb e1 h2 with
          | nx e4 h4 => rw [e3] at p3; exact fun ρ' H' σ' g s er => ⟨ρ', e4, h4, g23.trans g, s, er, PostS.mono g p3⟩
          | ct e4 h4 => rw [e3] at p3; exact fun ρ' H' σ' g s er => ⟨ρ', e4, h4, g23.trans g, s, er, PostS.mono g p3⟩
          | bk e4 h4 => rw [e3] at p3; exact p3
          | rt v h4 => rw [e3] at p3; exact p3
          | exc c fs e4 h4 => rw [e3] at p3; exact p3
          | stuck => rw [e3] at p3; exact p3
      · rw [if_neg ok] at p2; exact p2.elim
    · have e1 : i = it.xs.length := by omega
      subst e1
      rw [List.drop_length] at p2
      unfold forLoop at p2
      by_cases ok : it.okAt h2
      · rw [if_pos ok] at p2
        exact .inl ⟨hJ.stop _ ρ2 H2 h2 g2 S2 ok (Nat.le_refl _), p2 ρ2 H2 σ2 (Grow.refl _ _) S2 E2⟩
      · rw [if_neg ok] at p2; exact p2.elim
theorem qs_for (hp : PassesOwn (model X.prog X.w) X.A X.env X.xe) (hc : X.calm = true) (hi : QI X W tg iter xi) (hg : PG X tg (tTg (gw X) t)) (hb : QSs X W body xb)
    (hs : ∀ x, foldedSetIterable iter X.env x = pure x := by intro _; rfl) (h0 : W.s = none := by rfl) : QS X W (.For tg iter body [] pos) (sFor xi t xb) := PS.of (ps_for hp hc hi hg hb hs) fun _ _ _ => for_of h0
end
end EX

set_option Elab.async false
set_option linter.all false
set_option maxRecDepth 100000
set_option maxHeartbeats 1000000
namespace EX
open PySem L2

/-! ### comprehensions -/
def wipeE (e : En) : List Nat → En
  | [] => e
  | v :: vs => (wipeE e vs).set v none
def Res.bindS {α β : Type} (r : Res α) (f : α → Hh → Res β) : Res β := match r with
  | .ok a h => f a h
  | _ => .stuck
@[simp] theorem Res.bindS_ok {α β : Type} (a : α) (h : Hh) (f : α → Hh → Res β) : (Res.ok a h).bindS f = f a h := rfl
open Classical in
noncomputable def compLoop (it : Itn) (t : Tg) (tt : XT) (x : XE) (n : Nat) (e : En) : List Val → Hh → Res Unit
  | [], h => if it.okAt h then .ok () h else .stuck
  | v :: vs, h => if it.okAt h then (match t.put v e with
    | none => .stuck
    | some e1 => (tt e1 h).bindS fun b h1 => if b = true then (x e1 h1).bindS fun y h2 => (match h2[n]? with
        | some (.lst acc) => if acc.length < sizeLine then compLoop it t tt x n e vs (h2.set n (.lst (acc ++ [y]))) else .stuck
        | _ => .stuck)
      else compLoop it t tt x n e vs h1) else .stuck
noncomputable def xComp (xi : XI) (t : Tg) (tt : XT) (x : XE) (vs : List Nat) : XE := fun e h => (xi e h).bind fun it h1 =>
  (compLoop it t tt x h1.length (wipeE e vs) it.xs (h1 ++ [.lst []])).bind fun _ h2 => .ok (.loc h1.length) h2
def xYes : XT := fun _ h => .ok true h
abbrev WN : Wd := ⟨fun _ _ _ _ => False, none⟩
theorem EnvR.wipe {K : Gw} {ρ : List Addr} {H : Hp} {env : En} {σ : St} {sx : Option Sx} (h : EnvR K ρ H sx env σ) : ∀ vs : List Nat, EnvR K ρ H none (wipeE env vs) (L2.wipe σ vs)
  | [] => h.drop
  | v :: vs => (EnvR.wipe h vs).unset v none
theorem wipe_get (σ : St) (i : Nat) : ∀ vs : List Nat, (L2.wipe σ vs)[i]? = if i ∈ vs then σ[i]?.map (fun _ => none) else σ[i]?
  | [] => by simp [L2.wipe]
  | v :: vs => by
    unfold L2.wipe
    have ih := wipe_get σ i vs
    by_cases hv : v = i
    · subst hv
      rw [if_pos List.mem_cons_self]
      by_cases hl : v < σ.length
      · rw [List.getElem?_set_self (by rw [L2.wipe_length]; exact hl), List.getElem?_eq_getElem hl]
        rfl
      · rw [List.getElem?_eq_none (by rw [List.length_set, L2.wipe_length]; omega), List.getElem?_eq_none (by omega)]
        rfl
    · rw [List.getElem?_set_ne hv, ih]
      by_cases hm : i ∈ vs
      · rw [if_pos hm, if_pos (List.mem_cons_of_mem _ hm)]
      · rw [if_neg hm, if_neg (by simp only [List.mem_cons, not_or]; exact ⟨fun z => hv z.symm, hm⟩)]
theorem wipe_but {vs us : List Nat} {σ σ1 : St} (b : But us (L2.wipe σ vs) σ1) (hv : ∀ i ∈ us, i ∈ vs) : L2.wipe σ1 vs = L2.wipe σ vs := by
  apply List.ext_getElem?
  intro i
  rw [wipe_get, wipe_get]
  have hl : σ1.length = σ.length := by rw [b.1, L2.wipe_length]
  by_cases hm : i ∈ vs
  · rw [if_pos hm, if_pos hm]
    by_cases hi : i < σ.length
    · rw [List.getElem?_eq_getElem hi, List.getElem?_eq_getElem (by rw [hl]; exact hi)]
      rfl
    · rw [List.getElem?_eq_none (by omega), List.getElem?_eq_none (by omega)]
  · rw [if_neg hm, if_neg hm, b.2 i (fun z => hm (hv i z)), wipe_get, if_neg hm]
theorem Post.bindS {α β γ : Type} {K : Gw} {W : Wd} {σ σ' : St} {ρ : List Addr} {H : Hp} {R : γ → Hh → List Addr → Hp → Prop} {r : Res α} {f : α → Hh → Res β} {g : β → Hh → Res γ} (h : Post K W σ ρ H R ((r.bindS f).bind g)) :
    Post K WN σ' ρ H (fun a h1 ρ1 H1 => Post K W σ ρ1 H1 R ((f a h1).bind g)) r := by
  cases r with
  | ok a h' => exact fun ρ2 H2 g2 _ => Post.mono g2 h
  | exc c fs h' => exact h.elim
  | stuck => exact h
section
variable {X : Cx} {W : Wd}
theorem comp_of {K : Gw} {xi : XI} {t : Tg} {tt : XT} {x : XE} {vs : List Nat} {σ : St} {H : Hp} {Q : VK} (hv : ∀ i ∈ t.slots, i ∈ vs) (h : tX K W (xComp xi t tt x vs) σ H Q) : tLc (tXI K W xi) (tTg K t) (tXT K WN tt) (tX K WN x) vs σ H Q := by
  obtain ⟨ρ, env, h, S, E, p⟩ := h
  refine ⟨ρ, env, h, S, E, (Post.bind p).imp fun it h1 ρ1 H1 g1 S1 q J ok0 hJ D hD => ?_⟩
  obtain ⟨g2, S2, r2⟩ := new_loc (xs := []) (vs := []) S1 hD .nil
  have hat : (ρ1 ++ [D])[h1.length]? = some D := by
    rw [List.getElem?_append_right (by rw [S1.len]; exact Nat.le_refl _), S1.len, Nat.sub_self]
    rfl
  refine ⟨fun i m H3 => m = it.xs.length - i ∧ i ≤ it.xs.length ∧ ∃ ρ3 h3, Grow (ρ1 ++ [D]) ρ3 (upd H1 D (.lst [])) H3 ∧ Sim K ρ3 H3 h3 ∧ Post K W σ ρ3 H3 (RV K Q) ((compLoop it t tt x h1.length (wipeE env vs) (it.xs.drop i) h3).bind fun _ h2 => .ok (.loc h1.length) h2),
    ⟨it.xs.length, by simp, Nat.zero_le _, _, _, Grow.refl _ _, S2, by rw [List.drop_zero]; exact Post.mono g2 q⟩, ?_⟩
  rintro i m H3 ⟨rfl, hi, ρ3, h3, g3, S3, p3⟩
  have g13 := g2.trans g3
  by_cases hlt : i < it.xs.length
  · rw [List.drop_eq_getElem_cons hlt] at p3
    unfold compLoop at p3
    by_cases ok : it.okAt h3
    · rw [if_pos ok] at p3
      refine .inr ⟨hJ.go i ρ3 H3 h3 g13 S3 ok hlt, fun H' => ∃ ρ' h', Grow (ρ1 ++ [D]) ρ' (upd H1 D (.lst [])) H' ∧ Sim K ρ' H' h' ∧ Post K W σ ρ' H' (RV K Q) ((compLoop it t tt x h1.length (wipeE env vs) (it.xs.drop (i + 1)) h').bind fun _ h2 => .ok (.loc h1.length) h2), fun H' hn => ⟨it.xs.length - (i + 1), by omega, rfl, hlt, hn⟩, fun y H4 hy => ?_⟩
      obtain ⟨g4, S4, r4⟩ := hJ.yld i ρ3 H3 h3 _ y H4 g13 S3 ok (List.getElem?_eq_getElem hlt) hy
      cases e2 : t.put it.xs[i] (wipeE env vs) with
      | none => rw [e2] at p3; exact p3.elim
      | some e1 =>
        rw [e2] at p3
        dsimp only at p3
        have g34 := g3.trans g4
        refine ⟨ρ3, wipeE env vs, h3, it.xs[i], e1, S4, (((E.mono g1).mono g13).mono g4).wipe vs, r4, e2, fun σ1 E1 B1 => ⟨wipe_but B1 hv, ρ3, e1, h3, S4, E1, ?_⟩⟩
        refine (Post.bindS (Post.mono g4 p3)).imp fun b h5 ρ5 H5 g5 S5 q5 => ?_
        have g35 := g34.trans g5
        cases b with
        | false => exact ⟨ρ5, h5, g35, S5, q5⟩
        | true =>
          refine ⟨ρ5, e1, h5, S5, E1.mono g5, ?_⟩
          refine (Post.bindS q5).imp fun z h6 ρ6 H6 g6 S6 q6 u ru => ?_
          have g36 := g35.trans g6
          obtain ⟨o, eo, ro⟩ := S6.get (g36.get hat)
          rw [eo] at q6
          cases o with
          | lst acc =>
            obtain ⟨va, ea, ra⟩ := ro
            dsimp only at q6
            by_cases hz : acc.length < sizeLine
            · rw [if_pos hz] at q6
              have mu : Mu (H6 D) := by rw [ea]; trivial
              have g7 : Grow ρ6 ρ6 H6 (upd H6 D (.lst (va ++ [u]))) := Grow.put mu
              exact ⟨va, ea, by rw [← ra.length]; exact hz, ρ6, _, g36.trans g7, S6.put (u := .lst (acc ++ [z])) (g36.get hat) mu ⟨_, upd_same, (ra.mono g7).append (.cons (ru.mono g7) .nil)⟩, Post.mono g7 q6⟩
            · rw [if_neg hz] at q6; exact q6.elim
          | dct kvs => exact q6.elim
          | ins C fs => exact q6.elim
    · rw [if_neg ok] at p3; exact p3.elim
  · have e1 : i = it.xs.length := by omega
    subst e1
    rw [List.drop_length] at p3
    unfold compLoop at p3
    by_cases ok : it.okAt h3
    · rw [if_pos ok] at p3
      exact .inl ⟨hJ.stop _ ρ3 H3 h3 g13 S3 ok (Nat.le_refl _), p3 ρ3 H3 (Grow.refl _ _) S3 _ (.loc (g3.get hat))⟩
    · rw [if_neg ok] at p3; exact p3.elim
theorem PTs.of {ifs : List Expr} {t t' : TT} (h : PTs X ifs t) (w : ∀ σ H Q, t' σ H Q → t σ H Q) : PTs X ifs t' := ⟨fun pins s σ H Q I q => h.run pins s σ H Q I (w σ H Q q)⟩
theorem qts_nil : PTs X [] (tXT (gw X) W xYes) := PTs.of pts_nil fun σ H Q ⟨ρ, env, h, S, E, p⟩ => p ρ H (Grow.refl _ _) S
theorem qts_one {c : Expr} {y : XT} (h : QT X W c y) : PTs X [c] (tXT (gw X) W y) := pts_one h
theorem q_lc {elt tg iter : Expr} {ifs : List Expr} {scope : Scope} {own : List (Str × Nat)} {pos : Pos} {xi : XI} {t : Tg} {tt : XT} {x : XE} (hc : X.calm = true) (hN : X.N.Nodup) (hi : QI X W tg iter xi) (ok : BlkOk X.N X.env.scope scope own)
    (hg : ∀ (s : Shared) (H : Hp) (C : Addr) (cl : List (Str × Addr)) (fp : List Addr), PG (X.blk s H scope (compEnvC scope cl C X.env) fp) tg (tTg (gw X) t))
    (ht : ∀ (s : Shared) (H : Hp) (C : Addr) (cl : List (Str × Addr)) (fp : List Addr), PTs (X.blk s H scope (compEnvC scope cl C X.env) fp) ifs (tXT (gw X) WN tt))
    (he : ∀ (s : Shared) (H : Hp) (C : Addr) (cl : List (Str × Addr)) (fp : List Addr), PE (X.blk s H scope (compEnvC scope cl C X.env) fp) elt (tX (gw X) WN x))
    (hv : ∀ i ∈ t.slots, i ∈ own.map (·.2) := by decide) (hs : ∀ x, foldedSetIterable iter X.env x = pure x := by intro _; rfl) :
    QE X W (.ListComp elt [⟨tg, iter, ifs, 0⟩] scope pos) (xComp xi t tt x (own.map (·.2))) := PE.of (pe_lc hc hN hi ok hg ht he hs) fun _ _ _ => comp_of hv
/-- name = [..] on one line -/
theorem qs_setLc (i : Nat) {y : Str} {py spos : Pos} {elt tg iter : Expr} {ifs : List Expr} {scope : Scope} {own : List (Str × Nat)} {pos : Pos} {xi : XI} {t : Tg} {tt : XT} {x : XE} (hc : X.calm = true) (hN : X.N.Nodup) (hy : X.N[i]? = some y) (hyl : X.env.scope.names.lookup y = some .local)
    (hsw : swapsWith (.ListComp elt [⟨tg, iter, ifs, 0⟩] scope pos) (some (.Name y py)) spos.line X.env = pure true) (hi : QI X W tg iter xi) (ok : BlkOk X.N X.env.scope scope own)
    (hg : ∀ (s : Shared) (H : Hp) (C : Addr) (cl : List (Str × Addr)) (fp : List Addr), PG (X.blk s H scope (compEnvC scope cl C X.env) fp) tg (tTg (gw X) t))
    (ht : ∀ (s : Shared) (H : Hp) (C : Addr) (cl : List (Str × Addr)) (fp : List Addr), PTs (X.blk s H scope (compEnvC scope cl C X.env) fp) ifs (tXT (gw X) WN tt))
    (he : ∀ (s : Shared) (H : Hp) (C : Addr) (cl : List (Str × Addr)) (fp : List Addr), PE (X.blk s H scope (compEnvC scope cl C X.env) fp) elt (tX (gw X) WN x))
    (hv : ∀ i ∈ t.slots, i ∈ own.map (·.2) := by decide) (hs : ∀ x, foldedSetIterable iter X.env x = pure x := by intro _; rfl) (hn : ∀ q, W.s = some q → q.slot ≠ i := by first | (intro _ h; cases h; done) | (intro _ h; cases h; decide)) :
    QS X W (.Assign [.Name y py] (.ListComp elt [⟨tg, iter, ifs, 0⟩] scope pos) spos) (sSet i (xComp xi t tt x (own.map (·.2)))) :=
  PS.of (ps_setLc hc hN hy hyl hsw hi ok hg ht he hs) fun D σ H h => comp_of hv (set_of hn h)

/-! ### while -/
def whileLoop (y : XT) (body : XS) : Nat → En → Hh → RS
  | 0, _, _ => .stuck
  | n + 1, e, h => match y e h with
    | .ok c h1 => if c = true then (match body e h1 with
        | .nx e2 h2 => whileLoop y body n e2 h2
        | .ct e2 h2 => whileLoop y body n e2 h2
        | .bk e2 h2 => .nx e2 h2
        | .rt v h2 => .rt v h2
        | .exc c fs e2 h2 => .exc c fs e2 h2
        | .stuck => .stuck)
      else .nx e h1
    | .exc c fs h1 => .exc c fs e h1
    | .stuck => .stuck
def sWhile (n : Nat) (y : XT) (body : XS) : XS := fun e h => whileLoop y body n e h
theorem while_of {K : Gw} {n : Nat} {y : XT} {xb : XS} {D : Ends} {σ : St} {H : Hp} (h : tXS K W (sWhile n y xb) D σ H) : tWhile (tXT K W y) (tXS K W xb) D σ H := by
  obtain ⟨ρ, env, h, S, E, p⟩ := h
  refine ⟨fun m σ' H' => ∃ ρ' e' h', Sim K ρ' H' h' ∧ EnvR K ρ' H' W.s e' σ' ∧ PostS K W ρ' H' D (whileLoop y xb m e' h'), ⟨n, ρ, env, h, S, E, p⟩, ?_⟩
  rintro m σ1 H1 ⟨ρ1, e1, h1, S1, E1, p1⟩
  cases m with
  | zero => exact p1.elim
  | succ m =>
    refine ⟨ρ1, e1, h1, S1, E1, ?_⟩
    unfold whileLoop at p1
    cases ey : y e1 h1 with
    | exc c fs h2 => rw [ey] at p1; exact fun ρ2 H2 d cv g2 S2 xc => p1 ρ2 H2 d σ1 cv g2 S2 (E1.mono g2) xc
    | stuck => rw [ey] at p1; exact p1.elim
    | ok c h2 =>
      rw [ey] at p1
      dsimp only at p1
      intro ρ2 H2 g2 S2
      cases c with
      | false =>
        rw [if_neg Bool.false_ne_true] at p1
        exact p1 ρ2 H2 σ1 g2 S2 (E1.mono g2)
      | true =>
        rw [if_pos rfl] at p1
        refine ⟨fun σ' H' => ∃ ρ' e' h', Sim K ρ' H' h' ∧ EnvR K ρ' H' W.s e' σ' ∧ PostS K W ρ' H' D (whileLoop y xb m e' h'), fun σ' H' hn => ⟨m, Nat.lt_succ_self _, hn⟩, ρ2, e1, h2, S2, E1.mono g2, ?_⟩
        have p3 := PostS.mono g2 p1
        cases e3 : xb e1 h2 with
        | nx e4 h4 => rw [e3] at p3; exact fun ρ' H' σ' g s er => ⟨ρ', e4, h4, s, er, PostS.mono g p3⟩
        | ct e4 h4 => rw [e3] at p3; exact fun ρ' H' σ' g s er => ⟨ρ', e4, h4, s, er, PostS.mono g p3⟩
        | bk e4 h4 => rw [e3] at p3; exact p3
        | rt v h4 => rw [e3] at p3; exact p3
        | exc c fs e4 h4 => rw [e3] at p3; exact p3
        | stuck => rw [e3] at p3; exact p3
theorem qs_while (n : Nat) {c : Expr} {body : List Stmt} {pos : Pos} {y : XT} {xb : XS} (hp : PassesOwn (model X.prog X.w) X.A X.env X.xe) (hc : QT X W c y) (hb : QSs X W body xb) : QS X W (.While c body [] pos) (sWhile n y xb) :=
  PS.of (ps_while hp hc hb) fun _ _ _ => while_of
end

/-! ### calls of defs -/
abbrev Fn := List Val → Hh → Res Val
def spX (K : Gw) (n : Nat) (G : Fn) : Sp := fun vs H Q E => ∃ ρ h as, Sim K ρ H h ∧ RepL K ρ H as vs ∧ as.length = n ∧ Post K ⟨fun c d _ H => E c d H, none⟩ [] ρ H (RV K Q) (G as h)
def xCall (n : Nat) (G : Fn) (a : XA) : XE := fun e h => (a e h).bind fun vs h1 => if vs.length = n then G vs h1 else .stuck
mutual
def Val.und (n : Nat) : Val → Bool
  | .tup xs => undL n xs
  | .scr xs => undL n xs
  | .loc m => decide (m < n)
  | _ => true
def undL (n : Nat) : List Val → Bool
  | [] => true
  | x :: xs => x.und n && undL n xs
end
def Ob.und (n : Nat) : Ob → Bool
  | .lst xs => undL n xs
  | .dct kvs => undL n (kvs.map (·.2))
  | .ins _ fs => undL n (fs.map (·.2))
def gc (n : Nat) (v : Val) (h : Hh) : Hh := if v.und n = true ∧ (h.take n).all (Ob.und n) = true then h.take n else h
def gcX (n : Nat) (fs : List (Str × Val)) (h : Hh) : Hh := if undL n (fs.map (·.2)) = true ∧ (h.take n).all (Ob.und n) = true then h.take n else h
def callF (N : Nat) (body : XS) : Fn := fun as h => match body (as.map some ++ List.replicate (N - as.length) none) h with
  | .rt v h' => .ok v (gc h.length v h')
  | .nx _ h' => .ok .non (gc h.length .non h')
  | .exc c fs _ h' => .exc c fs (gcX h.length fs h')
  | _ => .stuck
section
variable {K : Gw} {ρ : List Addr} {H : Hp} {n : Nat}
mutual
theorem Rep.cut : ∀ {x : Val} {v : V}, Rep K ρ H x v → x.und n = true → Rep K (ρ.take n) H x v
  | _, _, .non, _ => .non
  | _, _, .bl b, _ => .bl b
  | _, _, .int i, _ => .int i
  | _, _, .str s, _ => .str s
  | _, _, .tup s r, h => .tup s (RepL.cut r (by simpa [Val.und] using h))
  | _, _, .scr s r, h => .scr s (RepL.cut r (by simpa [Val.und] using h))
  | _, _, .loc e, h => .loc (by rw [List.getElem?_take_of_lt (by simpa [Val.und] using h)]; exact e)
  | _, _, .ref e, _ => .ref e
  | _, _, .ty n, _ => .ty n
theorem RepL.cut : ∀ {xs : List Val} {vs : List V}, RepL K ρ H xs vs → undL n xs = true → RepL K (ρ.take n) H xs vs
  | _, _, .nil, _ => .nil
  | _, _, .cons a b, h => by
    simp only [undL, Bool.and_eq_true] at h
    exact .cons (Rep.cut a h.1) (RepL.cut b h.2)
end
theorem RepF.cut {κ : Type} : ∀ {fs : List (κ × Val)} {vs : List (κ × V)}, RepF K ρ H fs vs → undL n (fs.map (·.2)) = true → RepF K (ρ.take n) H fs vs
  | _, _, .nil, _ => .nil
  | _, _, .cons a b, h => by
    simp only [List.map_cons, undL, Bool.and_eq_true] at h
    exact .cons ⟨a.1, a.2.cut h.1⟩ (RepF.cut b h.2)
theorem Sim.cut {h : Hh} (S : Sim K ρ H h) (hb : (h.take n).all (Ob.und n) = true) : Sim K (ρ.take n) H (h.take n) := by
  refine ⟨by rw [List.length_take, List.length_take, S.len], S.nd.sublist (List.take_sublist _ _), fun j o e => ?_⟩
  have hj : j < n := by
    have := (List.getElem?_eq_some_iff.mp e).1
    rw [List.length_take] at this
    omega
  have hbo : o.und n = true := List.all_eq_true.mp hb o (List.mem_of_getElem? e)
  rw [List.getElem?_take_of_lt hj] at e
  obtain ⟨a, e1, r⟩ := S.at_ j o e
  refine ⟨a, by rw [List.getElem?_take_of_lt hj]; exact e1, ?_⟩
  cases o with
  | lst xs => obtain ⟨vs, e2, r2⟩ := r; exact ⟨vs, e2, r2.cut hbo⟩
  | dct kvs => obtain ⟨vs, e2, r2⟩ := r; exact ⟨vs, e2, r2.cut hbo⟩
  | ins C fs => obtain ⟨Ca, dx, vs, m, e2, d, r2⟩ := r; exact ⟨Ca, dx, vs, m, e2, d, r2.cut hbo⟩
theorem Grow.cut {ρ' : List Addr} {H' : Hp} (g : Grow ρ ρ' H H') (hn : ρ.length = n) : Grow ρ (ρ'.take n) H H' := by
  obtain ⟨m, rfl⟩ := g.pre
  rw [List.take_append_of_le_length (by omega), List.take_of_length_le (by omega)]
  exact ⟨⟨[], by simp⟩, g.xd, g.tup, g.frz⟩
theorem XcR.cut {fs : List (Str × Val)} {d : Option Addr} (x : XcR K ρ H fs d) (h : undL n (fs.map (·.2)) = true) : XcR K (ρ.take n) H fs d := by
  cases d with
  | none => exact x
  | some a => obtain ⟨vs, e, r⟩ := x; exact ⟨vs, e, r.cut h⟩
theorem start_env {as : List Val} {vs : List V} {N : List Str} (r : RepL K ρ H as vs) : EnvR K ρ H none (as.map some ++ List.replicate (N.length - as.length) none) (L2.start N vs) := by
  unfold L2.start
  refine ⟨by rw [List.length_append, List.length_append, List.length_map, List.length_map, List.length_replicate, List.length_replicate, r.length], fun i x e => ?_, fun _ e => by cases e⟩
  by_cases hi : i < as.length
  · rw [List.getElem?_append_left (by rw [List.length_map]; exact hi), List.getElem?_map] at e
    cases e1 : as[i]? with
    | none => rw [e1] at e; cases e
    | some y =>
      rw [e1] at e
      cases e
      obtain ⟨v, e2, rv⟩ := r.get e1
      exact ⟨v, by rw [List.getElem?_append_left (by rw [List.length_map, ← r.length]; exact hi), List.getElem?_map, e2]; rfl, rv⟩
  · rw [List.getElem?_append_right (by rw [List.length_map]; omega), List.getElem?_replicate] at e
    split at e <;> cases e
theorem call_post {E : XK} {Q : VK} {h : Hh} {N : Nat} {body : XS} {as : List Val} (hl : ρ.length = h.length) (p : Post K ⟨fun c d _ H => E c d H, none⟩ [] ρ H (RV K Q) (callF N body as h)) :
    PostS K ⟨fun c d _ H => E c d H, none⟩ ρ H { nx := fun _ H' => Q .non H', rt := Q } (body (as.map some ++ List.replicate (N - as.length) none) h) := by
  unfold callF at p
  cases e : body (as.map some ++ List.replicate (N - as.length) none) h with
  | rt v h' =>
    rw [e] at p
    intro ρ' H' u g s r
    unfold gc at p
    by_cases hc : v.und h.length = true ∧ (h'.take h.length).all (Ob.und h.length) = true
    · dsimp only at p
      rw [if_pos hc] at p
      exact p (ρ'.take h.length) H' (g.cut hl) (s.cut hc.2) u (r.cut hc.1)
    · dsimp only at p
      rw [if_neg hc] at p
      exact p ρ' H' g s u r
  | nx e1 h' =>
    rw [e] at p
    intro ρ' H' σ' g s r
    unfold gc at p
    by_cases hc : Val.non.und h.length = true ∧ (h'.take h.length).all (Ob.und h.length) = true
    · dsimp only at p
      rw [if_pos hc] at p
      exact p (ρ'.take h.length) H' (g.cut hl) (s.cut hc.2) _ .non
    · dsimp only at p
      rw [if_neg hc] at p
      exact p ρ' H' g s _ .non
  | exc c fs e1 h' =>
    rw [e] at p
    intro ρ' H' d σ' cv g s r xc m
    unfold gcX at p
    by_cases hc : undL h.length (fs.map (·.2)) = true ∧ (h'.take h.length).all (Ob.und h.length) = true
    · dsimp only at p
      rw [if_pos hc] at p
      exact p (ρ'.take h.length) H' d cv (g.cut hl) (s.cut hc.2) (xc.cut hc.1) m
    · dsimp only at p
      rw [if_neg hc] at p
      exact p ρ' H' d cv g s xc m
  | bk e1 h' => rw [e] at p; exact p.elim
  | ct e1 h' => rw [e] at p; exact p.elim
  | stuck => rw [e] at p; exact p.elim
end
/-! ### defs, over contexts in which no repr is under way -/
/-- as FnOk, but only where the guards are none -/
structure FnG (P : Program) (w : World) (K : PySem.W.Frag) (mg : Str → Option Value) (base : Heap) (k : Nat) (f : Addr) (fd : FuncData) (ps : List Str) (sp : Sp) : Prop where
  len : ∀ vs H Q E, sp vs H Q E → vs.length = ps.length
  run : ∀ (A : Around) (outer : List Env) (s : Shared) (H : Hp) (args : Args) (us : List Value) (vs : List V) (Q : VK) (E : XK), Room k A → A.guards = some [] →
    Env0 P w K mg base A outer s H → BindsTo s fd args (ps.zip us) → Vals vs us → sp vs H Q E →
    codeAny (model P w) A (.call (.ref f) args) (CR (L2.CX P w) outer P w H s Q E) s
theorem FnG.mono {P : Program} {w : World} {K : PySem.W.Frag} {mg : Str → Option Value} {base : Heap} {j k : Nat} {f : Addr} {fd : FuncData} {ps : List Str} {sp : Sp} (F : FnG P w K mg base j f fd ps sp) (h : j ≤ k) : FnG P w K mg base k f fd ps sp :=
  ⟨F.len, fun A outer s H args us vs Q E r => F.run A outer s H args us vs Q E (r.mono h)⟩
section
variable {P : Program} {w : World} {K : PySem.W.Frag} {mg : Str → Option Value} {base : Heap} {x qual : Str} {params : Arguments} {body : List Stmt} {scope : Scope} {dvs : List V} {kws : List (Str × V)} {f : Addr} {fd : FuncData}
/-- a def keeps a promise by its body -/
theorem fn_g {N ps : List Str} {k : Nat} {sp : Sp} (F : FunD K x qual params body scope dvs kws f fd) (S : FnScope N ps scope) (len : ∀ vs H Q E, sp vs H Q E → vs.length = ps.length)
    (hb : ∀ (cdv : Value) (A : Around) (outer : List Env) (s : Shared) (H : Hp) (vs : List V) (Q : VK) (E : XK), Room k (A.deeper (PyProof.Rows.envOfC qual scope s.heap.objs.size f cdv)) → A.guards = some [] → sp vs H Q E →
      ∃ t, PSs (cxOf (L2.CX P w) P w K mg base N qual scope f cdv A outer s H E) body t ∧ t { nx := fun _ H' => Q .non H', rt := Q } (L2.start N vs) H) : FnG P w K mg base (k + 1) f fd ps sp := by
  obtain ⟨oc, od, dV, kV, doc, pm, an, cdv, ct, osl, rfl, lk, hcd, -, -⟩ := F.ex
  refine ⟨len, fun A outer s H args us vs Q E hr hg e0 hbind rv hsp => ?_⟩
  have stay : ∀ b o, base.get? b = some o → s.heap.get? b = some o := fun b o z => (e0.bs b o z).1
  have KX := e0.mod.kin.keeps stay
  refine codeAny_call_function hr.depth (KX _ _ lk) rfl S.co S.gen rfl (PySem.W.codeRec_of KX hcd) (hbind _ _ _ _ (wpAny_newFunctionEnv_cells S.kind ?kinds fun env he s1 ic => ?_))
  case kinds =>
    intro y hy
    exact (S.par y.1 (List.of_mem_zip hy).1).imp id fun z => ⟨z, PySem.W.cellsFrom_some _ _ _ (.inl z)⟩
  · cases he
    refine ⟨(e0.mod.nolimit.keeps stay).keeps ic.toInCall.keep, codeAny_func ?_⟩
    obtain ⟨t, ht, q⟩ := hb cdv A outer s H vs Q E (hr.deeper _) hg hsp
    refine wpAny_mono (ht.run [] s1 _ H _ (inv_start S hr.hd e0 (len _ _ _ _ hsp) rv ic) q) (fun fl s' z => ?_) fun _ _ z => z
    cases fl with
    | ret u => exact match z with | ⟨v, _, H', J, r, q⟩ => ⟨v, H', J.os, J.bare, J.base, J.hok, r, q⟩
    | next => exact match z with | ⟨_, H', J, q⟩ => ⟨V.non, H', J.os, J.bare, J.base, J.hok, rfl, q⟩
    | brk => exact match z with | ⟨_, _, _, q⟩ => q.elim
    | cont => exact match z with | ⟨_, _, _, q⟩ => q.elim
/-- a def keeps the promise made of its body -/
theorem fn_x {N ps : List Str} {k : Nat} {xs : XS} (F : FunD K x qual params body scope dvs kws f fd) (S : FnScope N ps scope)
    (hb : ∀ (cdv : Value) (A : Around) (outer : List Env) (s : Shared) (H : Hp) (E : XK), Room k (A.deeper (PyProof.Rows.envOfC qual scope s.heap.objs.size f cdv)) → A.guards = some [] →
      QSs (cxOf (L2.CX P w) P w K mg base N qual scope f cdv A outer s H E) ⟨fun c d _ H => E c d H, none⟩ body xs) : FnG P w K mg base (k + 1) f fd ps (spX ⟨K, mg, w⟩ ps.length (callF N.length xs)) := by
  refine fn_g F S (fun vs H Q E ⟨ρ, h, as, _, r, hl, _⟩ => by rw [← r.length, hl]) (fun cdv A outer s H vs Q E hr hg hsp => ?_)
  obtain ⟨ρ, h, as, Sm, r, hl, p⟩ := hsp
  exact ⟨_, hb cdv A outer s H E hr hg, ρ, _, h, Sm, start_env r, call_post Sm.len p⟩
end
section
variable {X : Cx} {W : Wd} {k : Nat} {f : Addr} {fd : FuncData} {ps : List Str} {sp : Sp} {G : Fn} {x : Str} {p pos : Pos} {e : Expr} {es : List Expr} {xa : XA} {dvs : List V} {ds : List Value}
theorem run_g {pins : List (Addr × Obj)} {σ : St} {H : Hp} {s : Shared} {Q : VK} {us : List Value} {vs : List V} (F : FnG X.prog X.w X.K X.mg X.base k f fd ps sp) (hr : Room k X.A) (hgd : X.A.guards = some []) (hb : Binds X.K fd ps ds) (hd : Vals dvs ds) (tk : Takes X W.w)
    (I : Inv X pins σ H s) (r : Vals vs us) (h : sp (vs ++ dvs) H Q (WE W.w σ)) : wpAny (model X.prog X.w) X.A (call (.ref f) us) (EP X pins σ Q) X.xe s := by
  have r2 := r.append hd
  refine wpAny_call (codeAny_mono (F.run X.A X.stack s H ⟨us, []⟩ _ _ Q (WE W.w σ) hr hgd I.env0 (hb s us I.kIn (r2.length ▸ F.len _ _ _ _ h)) r2 h) fun res s' z => ?_)
  match res, z with
  | .error e, z => exact passAt tk σ pins H s e s' I z
  | .ok (.ret u), z => exact I.after z
theorem pe_g (F : FnG X.prog X.w X.K X.mg X.base k f fd ps sp) (hr : Room k X.A) (hgd : X.A.guards = some []) (hg : Gl X x) (hm : X.mg x = some (.ref f)) (hk : PySem.W.keepIn X.K (.ref f) = true) (hb : Binds X.K fd ps ds) (hd : Vals dvs ds) (tk : Takes X W.w) {t : TA}
    (ha : PA X (e :: es) t) (hdb : (x == ("__debug__" : Str)) = false) (he : starEach (e :: es) X.env = (false, eval e X.env) :: starEach es X.env) (hpl : (backTo pos (starEach es X.env)).any (·.1) = false) :
    PE X (.Call (.Name x p) (e :: es) [] pos) (tCallSD sp dvs (WE W.w) t) :=
  ⟨fun pins s σ H Q I h => wpAny_Call_Name_kw (ld_glob I hg hm (PySem.W.callWith_K (h₀ := X.base) I.ok.mod.kin hk (thn (ha.run pos pins s σ H _ I h) fun us s1 ⟨vs, H1, I1, r, q⟩ => ⟨I1.kIn, run_g F hr hgd hb hd tk I1 r q⟩) he hpl) hdb)⟩
theorem callX_of {K : Gw} {n : Nat} {σ : St} {H : Hp} {Q : VK} (h : tX K W (xCall n G xa) σ H Q) : tXA K W xa σ H fun vs H1 => spX K n G (vs ++ []) H1 Q (WE W.w σ) := by
  obtain ⟨ρ, env, h, S, E, p⟩ := h
  refine ⟨ρ, env, h, S, E, (Post.bind p).imp fun as h1 ρ1 H1 g1 S1 q us rs => ?_⟩
  by_cases hl : as.length = n
  · rw [if_pos hl] at q
    refine ⟨ρ1, h1, as, S1, by rw [List.append_nil]; exact rs, hl, ?_⟩
    cases eg : G as h1 with
    | ok v h2 => rw [eg] at q; exact q
    | exc c fs h2 => rw [eg] at q; exact q
    | stuck => rw [eg] at q; exact q
  · rw [if_neg hl] at q
    exact q.elim
theorem q_call {n : Nat} (F : FnG X.prog X.w X.K X.mg X.base k f fd ps (spX (gw X) n G)) (hr : Room k X.A) (hgd : X.A.guards = some []) (hg : Gl X x) (hm : X.mg x = some (.ref f)) (hk : PySem.W.keepIn X.K (.ref f) = true) (hb : Binds X.K fd ps []) (tk : Takes X W.w)
    (ha : QA X W (e :: es) xa) (hdb : (x == ("__debug__" : Str)) = false := by decide) (he : starEach (e :: es) X.env = (false, eval e X.env) :: starEach es X.env := by rfl) (hpl : (backTo pos (starEach es X.env)).any (·.1) = false := by rfl) :
    QE X W (.Call (.Name x p) (e :: es) [] pos) (xCall n G xa) := PE.of (pe_g F hr hgd hg hm hk hb .nil tk ha hdb he hpl) fun _ _ _ => callX_of
theorem callN_of2 {K : Gw} {o : OpN} {σ : St} {H : Hp} {Q : VK} (h : tX K W (xCallN o xa) σ H Q) : tCB (rSN K o) (tXA K W xa) σ H Q := callN_of h
/-- a builtin, a built-in class, called by its name -/
theorem q_callB {id : String} {o : OpN} (hc : CallR X (.builtin id) (rSN (gw X) o)) (hg : Gl X x) (hm : X.mg x = none) (hv : bootBuiltins x = some (.builtin id)) (ha : QA X W (e :: es) xa) (hn : x ≠ "__name__" := by decide) (hdb : (x == ("__debug__" : Str)) = false := by decide)
    (he : starEach (e :: es) X.env = (false, eval e X.env) :: starEach es X.env := by rfl) (hpl : (backTo pos (starEach es X.env)).any (·.1) = false := by rfl) :
    QE X W (.Call (.Name x p) (e :: es) [] pos) (xCallN o xa) := PE.of (pe_callB hc hg hm hv ha hn hdb he hpl) fun _ _ _ => callN_of2
theorem q_callTy {T : String} {o : OpN} (hc : CallR X (.type T) (rSN (gw X) o)) (hg : Gl X x) (hm : X.mg x = none) (hv : bootBuiltins x = some (.type T)) (ha : QA X W (e :: es) xa) (hn : x ≠ "__name__" := by decide) (hdb : (x == ("__debug__" : Str)) = false := by decide)
    (he : starEach (e :: es) X.env = (false, eval e X.env) :: starEach es X.env := by rfl) (hpl : (backTo pos (starEach es X.env)).any (·.1) = false := by rfl) :
    QE X W (.Call (.Name x p) (e :: es) [] pos) (xCallN o xa) := PE.of (pe_callTy hc hg hm hv ha hn hdb he hpl) fun _ _ _ => callN_of2
theorem qa_cons {xe : XE} {xr : XA} (h : QE X W e xe) (hr : QA X W es xr) (he : starEach (e :: es) X.env = (false, eval e X.env) :: starEach es X.env := by rfl) : QA X W (e :: es) (xCons xe xr) :=
  PA.of (pa_cons h hr he) fun _ _ _ => qa_cons_of
end
end EX

set_option Elab.async false
set_option linter.all false
set_option maxRecDepth 100000
set_option maxHeartbeats 1000000
namespace EX
open PySem L2
section
variable {X : Cx}
/-! ### numbers -/
def oAdd : Op2 := fun a b h => match a, b with
  | .int i, .int j => some (.int (i + j), h)
  | .str x, .str y => if x.length + y.length ≤ sizeLine then some (.str (x ++ y), h) else none
  | .tup xs, .tup ys => if xs.length + ys.length ≤ sizeLine then some (.tup (xs ++ ys), h) else none
  | .loc m, .loc n => (match h[m]?, h[n]? with
    | some (.lst xs), some (.lst ys) => if xs.length + ys.length ≤ sizeLine then some (.loc h.length, h ++ [.lst (xs ++ ys)]) else none
    | _, _ => none)
  | _, _ => none
def oSub : Op2 := fun a b h => match a, b with
  | .int i, .int j => some (.int (i - j), h)
  | _, _ => none
def oMod : Op2 := fun a b h => match a, b with
  | .int i, .int j => if 0 < j then some (.int (i % j), h) else none
  | _, _ => none
def oFdiv : Op2 := fun a b h => match a, b with
  | .int i, .int j => if 0 < j ∧ j.natAbs.log2 < 9000 then some (.int (i / j), h) else none
  | _, _ => none
def oPow : Op2 := fun a b h => match a, b with
  | .int i, .int j => if 0 ≤ j ∧ j ≤ 1000000 ∧ i.natAbs < 2 ^ 64 then some (.int (i ^ j.toNat), h) else none
  | _, _ => none
def oMul : Op2 := fun a b h => match a, b with
  | .int i, .int j => if (-(2 ^ 64) < i ∧ i < 2 ^ 64) ∨ (-(2 ^ 64) < j ∧ j < 2 ^ 64) then some (.int (i * j), h) else none
  | .tup xs, .int k => if xs ≠ [] ∧ 2 ≤ k ∧ k ≤ 1000 ∧ xs.length ≤ 1000 then some (.tup (List.replicate k.toNat xs).flatten, h) else none
  | _, _ => none
def oNeg : Op1 := fun a h => match a with
  | .int i => some (.int (-i), h)
  | _ => none
theorem Sim.lst {K : Gw} {ρ : List Addr} {H : Hp} {h : Hh} {n : Nat} {a : Addr} {xs : List Val} (S : Sim K ρ H h) (ha : ρ[n]? = some a) (e : h[n]? = some (.lst xs)) : ∃ vs, H a = some (.lst vs) ∧ RepL K ρ H xs vs := by
  obtain ⟨b, e1, r⟩ := S.at_ n _ e
  rw [ha] at e1
  cases e1
  exact r
theorem op_add_x : OpR X (binaryOp .Add) (rS2 (gw X) oAdd) := by
  intro pins s σ H x y v u Q I rx ry ⟨ρ, h, a, b, z, h', S, ra, rb, e, k⟩
  unfold oAdd at e
  split at e
  · cases ra; cases rb; cases e
    exact op_add pins s σ H _ _ v u Q I rx ry ⟨_, _, rfl, rfl, k ρ H _ (Grow.refl _ _) S (.int _)⟩
  · cases ra; cases rb
    split at e
    · rename_i hl
      cases e
      exact op_add_str pins s σ H _ _ v u Q I rx ry ⟨_, _, rfl, rfl, hl, k ρ H _ (Grow.refl _ _) S (.str _)⟩
    · cases e
  · cases ra with
    | @tup a1 xs vs s1 r1 =>
      cases rb with
      | @tup a2 ys ws s2 r2 =>
        split at e
        · rename_i hl
          cases e
          refine op_catA pins s σ H _ _ v u Q I rx ry ⟨a1, a2, vs, ws, rfl, rfl, s1, s2, by rw [← r1.length, ← r2.length]; exact hl, fun z => ?_, fun _ z => ?_, fun _ _ p hp => ?_⟩
          · subst z
            cases r1
            exact k ρ H _ (Grow.refl _ _) S (.tup s2 r2)
          · subst z
            cases r2
            rw [List.append_nil] at k
            exact k ρ H _ (Grow.refl _ _) S (.tup s1 r1)
          · obtain ⟨g, s3, r3⟩ := new_tup S hp (r1.append r2)
            exact k ρ _ _ g s3 r3
        · cases e
  · cases ra with
    | @loc m a1 e1 =>
      cases rb with
      | @loc n a2 e2 =>
        split at e
        · rename_i xs ys h1 h2
          split at e
          · rename_i hl
            cases e
            obtain ⟨vs, q1, r1⟩ := S.lst e1 h1
            obtain ⟨ws, q2, r2⟩ := S.lst e2 h2
            refine op_cat pins s σ H _ _ v u Q I rx ry ⟨a1, a2, vs, ws, rfl, rfl, q1, q2, by rw [← r1.length, ← r2.length]; exact hl, fun p hp => ?_⟩
            obtain ⟨g, s3, r3⟩ := new_loc S hp (r1.append r2)
            exact k _ _ _ g s3 r3
          · cases e
        · cases e
  · cases e
theorem op_sub_x : OpR X (binaryOp .Sub) (rS2 (gw X) oSub) := by
  intro pins s σ H x y v u Q I rx ry ⟨ρ, h, a, b, z, h', S, ra, rb, e, k⟩
  unfold oSub at e
  split at e
  · cases ra; cases rb; cases e
    exact op_sub pins s σ H _ _ v u Q I rx ry ⟨_, _, rfl, rfl, k ρ H _ (Grow.refl _ _) S (.int _)⟩
  · cases e
theorem op_mod_x : OpR X (binaryOp .Mod) (rS2 (gw X) oMod) := by
  intro pins s σ H x y v u Q I rx ry ⟨ρ, h, a, b, z, h', S, ra, rb, e, k⟩
  unfold oMod at e
  split at e
  · cases ra; cases rb
    split at e
    · rename_i hc
      cases e
      exact op_mod pins s σ H _ _ v u Q I rx ry ⟨_, _, rfl, rfl, hc, k ρ H _ (Grow.refl _ _) S (.int _)⟩
    · cases e
  · cases e
theorem op_fdiv_x : OpR X (binaryOp .FloorDiv) (rS2 (gw X) oFdiv) := by
  intro pins s σ H x y v u Q I rx ry ⟨ρ, h, a, b, z, h', S, ra, rb, e, k⟩
  unfold oFdiv at e
  split at e
  · cases ra; cases rb
    split at e
    · rename_i hc
      cases e
      exact op_fdivW pins s σ H _ _ v u Q I rx ry ⟨_, _, rfl, rfl, hc, k ρ H _ (Grow.refl _ _) S (.int _)⟩
    · cases e
  · cases e
theorem op_pow_x : OpR X (binaryOp .Pow) (rS2 (gw X) oPow) := by
  intro pins s σ H x y v u Q I rx ry ⟨ρ, h, a, b, z, h', S, ra, rb, e, k⟩
  unfold oPow at e
  split at e
  · cases ra; cases rb
    split at e
    · rename_i hc
      cases e
      exact op_pow pins s σ H _ _ v u Q I rx ry ⟨_, _, rfl, rfl, hc, k ρ H _ (Grow.refl _ _) S (.int _)⟩
    · cases e
  · cases e
theorem repL_flat {K : Gw} {ρ : List Addr} {H : Hp} {xs : List Val} {vs : List V} (r : RepL K ρ H xs vs) : ∀ n : Nat, RepL K ρ H (List.replicate n xs).flatten (List.replicate n vs).flatten
  | 0 => .nil
  | n + 1 => by
    rw [List.replicate_succ, List.replicate_succ, List.flatten_cons, List.flatten_cons]
    exact r.append (repL_flat r n)
theorem op_mul_x : OpR X (binaryOp .Mult) (rS2 (gw X) oMul) := by
  intro pins s σ H x y v u Q I rx ry ⟨ρ, h, a, b, z, h', S, ra, rb, e, k⟩
  unfold oMul at e
  split at e
  · cases ra; cases rb
    split at e
    · rename_i hc
      cases e
      exact op_mul pins s σ H _ _ v u Q I rx ry ⟨_, _, rfl, rfl, hc, k ρ H _ (Grow.refl _ _) S (.int _)⟩
    · cases e
  · cases ra with
    | @tup a1 xs vs s1 r1 =>
      cases rb
      split at e
      · rename_i hc
        cases e
        refine op_repT pins s σ H _ _ v u Q I rx ry ⟨a1, _, vs, rfl, rfl, s1, fun z => hc.1 ?_, hc.2.1, hc.2.2.1, by rw [← r1.length]; exact hc.2.2.2, fun p hp => ?_⟩
        · subst z
          cases r1
          rfl
        · obtain ⟨g, s3, r3⟩ := new_tup S hp (repL_flat r1 _)
          exact k ρ _ _ g s3 r3
      · cases e
  · cases e
theorem un_neg_x : UnR X (unaryOp .USub) (rS1 (gw X) oNeg) := by
  intro pins s σ H x v Q I rx ⟨ρ, h, a, z, h', S, ra, e, k⟩
  unfold oNeg at e
  split at e
  · cases ra; cases e
    exact un_neg pins s σ H _ v Q I rx ⟨_, rfl, k ρ H _ (Grow.refl _ _) S (.int _)⟩
  · cases e

/-! ### order -/
def oLt : Op2 := fun a b h => match a, b with
  | .int i, .int j => some (.bl (decide (i < j)), h)
  | .str x, .str y => some (.bl (decide (x.cps.toList < y.cps.toList)), h)
  | _, _ => none
def oLe : Op2 := fun a b h => match a, b with
  | .int i, .int j => some (.bl (decide (i ≤ j)), h)
  | .str x, .str y => some (.bl (!decide (y.cps.toList < x.cps.toList)), h)
  | _, _ => none
def oGt : Op2 := fun a b h => match a, b with
  | .int i, .int j => some (.bl (decide (j < i)), h)
  | _, _ => none
def oGe : Op2 := fun a b h => match a, b with
  | .int i, .int j => some (.bl (decide (j ≤ i)), h)
  | _, _ => none
theorem op_lt_x : OpR X (compareOp .Lt) (rS2 (gw X) oLt) := by
  intro pins s σ H x y v u Q I rx ry ⟨ρ, h, a, b, z, h', S, ra, rb, e, k⟩
  unfold oLt at e
  split at e
  · cases ra; cases rb; cases e
    exact op_lt pins s σ H _ _ v u Q I rx ry ⟨_, _, rfl, rfl, k ρ H _ (Grow.refl _ _) S (.bl _)⟩
  · cases ra; cases rb; cases e
    exact op_lt_str pins s σ H _ _ v u Q I rx ry ⟨_, _, rfl, rfl, k ρ H _ (Grow.refl _ _) S (.bl _)⟩
  · cases e
theorem op_le_x : OpR X (compareOp .LtE) (rS2 (gw X) oLe) := by
  intro pins s σ H x y v u Q I rx ry ⟨ρ, h, a, b, z, h', S, ra, rb, e, k⟩
  unfold oLe at e
  split at e
  · cases ra; cases rb; cases e
    exact op_le pins s σ H _ _ v u Q I rx ry ⟨_, _, rfl, rfl, k ρ H _ (Grow.refl _ _) S (.bl _)⟩
  · cases ra; cases rb; cases e
    exact op_le_str pins s σ H _ _ v u Q I rx ry ⟨_, _, rfl, rfl, k ρ H _ (Grow.refl _ _) S (.bl _)⟩
  · cases e
theorem op_gt_x : OpR X (compareOp .Gt) (rS2 (gw X) oGt) := by
  intro pins s σ H x y v u Q I rx ry ⟨ρ, h, a, b, z, h', S, ra, rb, e, k⟩
  unfold oGt at e
  split at e
  · cases ra; cases rb; cases e
    exact op_gt pins s σ H _ _ v u Q I rx ry ⟨_, _, rfl, rfl, k ρ H _ (Grow.refl _ _) S (.bl _)⟩
  · cases e
theorem op_ge_x : OpR X (compareOp .GtE) (rS2 (gw X) oGe) := by
  intro pins s σ H x y v u Q I rx ry ⟨ρ, h, a, b, z, h', S, ra, rb, e, k⟩
  unfold oGe at e
  split at e
  · cases ra; cases rb; cases e
    exact op_ge pins s σ H _ _ v u Q I rx ry ⟨_, _, rfl, rfl, k ρ H _ (Grow.refl _ _) S (.bl _)⟩
  · cases e

/-! ### values as data; ==, in, repr -/
def datL (f : Val → Option PyData) : List Val → Option (List PyData)
  | [] => some []
  | x :: xs => match f x, datL f xs with
    | some d, some ds => some (d :: ds)
    | _, _ => none
def keyD : Key → PyData
  | .inl i => .int i
  | .inr x => .str x
def dat (h : Hh) : Nat → Val → Option PyData
  | 0, _ => none
  | n + 1, v => match v with
    | .non => some .none
    | .bl b => some (.bool b)
    | .int i => some (.int i)
    | .str s => some (.str s)
    | .tup xs => (datL (dat h n) xs).map .tuple
    | .scr xs => (datL (dat h n) xs).map .list
    | .loc m => (match h[m]? with
      | some (.lst xs) => (datL (dat h n) xs).map .list
      | some (.dct kvs) => (datL (dat h n) (kvs.map (·.2))).map fun ds => .dict ((kvs.map fun p => keyD p.1).zip ds)
      | _ => none)
    | _ => none
/-- sys.modules stands in the written part -/
def SmIn (K : PySem.W.Frag) : Prop := ∃ o es n, K.lookup sysModules = some o ∧ o.data = .dict es n
theorem datL_reads {K : Gw} {ρ : List Addr} {H : Hp} {hp : Heap} {f : Val → Option PyData} {Sm : Prop} (hf : ∀ v u uv d, f v = some d → Rep K ρ H v u → RelV u uv → ∃ as, Reads hp uv d as ∧ (Sm → sysModules ∉ as)) :
    ∀ (xs : List Val) (vs : List V) (us : List Value) (ds : List PyData), datL f xs = some ds → RepL K ρ H xs vs → Vals vs us → ∃ as, ReadsAll hp us ds as ∧ (Sm → sysModules ∉ as)
  | [], _, _, _, e, r, rv => by
    cases r; cases rv; cases e
    exact ⟨_, .nil, fun _ z => by cases z⟩
  | x :: xs, _, _, ds, e, r, rv => by
    cases r with
    | cons r1 r2 =>
      cases rv with
      | cons q1 q2 =>
        unfold datL at e
        split at e
        · rename_i d ds' e1 e2
          cases e
          obtain ⟨a1, z1, n1⟩ := hf x _ _ d e1 r1 q1
          obtain ⟨a2, z2, n2⟩ := datL_reads hf xs _ _ ds' e2 r2 q2
          exact ⟨_, .cons z1 z2, fun sm z => (List.mem_append.mp z).elim (n1 sm) (n2 sm)⟩
        · cases e
theorem zip_fst {α β : Type} : ∀ {as : List α} {bs : List β}, as.length = bs.length → (as.zip bs).map (·.1) = as
  | [], _, _ => rfl
  | _ :: _, [], h => by cases h
  | a :: as, b :: bs, h => by
    rw [List.zip_cons_cons, List.map_cons, zip_fst (by simpa using h)]
theorem zip_snd {α β : Type} : ∀ {as : List α} {bs : List β}, as.length = bs.length → (as.zip bs).map (·.2) = bs
  | [], [], _ => rfl
  | [], _ :: _, h => by cases h
  | _ :: _, [], h => by cases h
  | a :: as, b :: bs, h => by
    rw [List.zip_cons_cons, List.map_cons, zip_snd (by simpa using h)]
theorem datL_len {f : Val → Option PyData} : ∀ {xs : List Val} {ds : List PyData}, datL f xs = some ds → xs.length = ds.length
  | [], _, e => by cases e; rfl
  | x :: xs, ds, e => by
    unfold datL at e
    split at e
    · rename_i d ds' e1 e2
      cases e
      rw [List.length_cons, List.length_cons, datL_len e2]
    · cases e
theorem key_reads {hp : Heap} {P : Program} {w : World} : ∀ {es : List DictEntry} {kvs : List (Key × Value)}, Pairs (mixKind P w) es kvs → ∀ {xs : List (Key × Val)}, kvs.map (·.1) = xs.map (·.1) → ReadsAll hp (es.map (·.key)) (xs.map fun p => keyD p.1) []
  | _, _, .nil, [], _ => .nil
  | _, _, .nil, _ :: _, h => by cases h
  | _, _, .cons _ _ _, [], h => by cases h
  | _, _, .cons (e := e) p1 _ p2, x :: xs, h => by
    rw [List.map_cons, List.map_cons] at h
    injection h with h1 h2
    have k1 : keyIs x.1 e.key = true := h1 ▸ p1
    refine .cons (as := []) (bs := []) ?_ (key_reads p2 h2)
    rcases keyIs_shape k1 with ⟨i, t, e1, e2⟩ | ⟨y, t, e1, e2⟩
    · dsimp only; rw [e1, e2]; exact .int i t
    · dsimp only; rw [e1, e2]; exact .str y t
theorem keys_same {K : Gw} {ρ : List Addr} {H : Hp} : ∀ {kvs : List (Key × Val)} {vs : List (Key × V)} {ws : List (Key × Value)}, RepF K ρ H kvs vs → KV vs ws → ws.map (·.1) = kvs.map (·.1)
  | _, _, _, .nil, .nil => rfl
  | _, _, _, .cons r t, .cons q u => by rw [List.map_cons, List.map_cons, keys_same t u, r.1, q.1]
theorem vals_of_pairs {P : Program} {w : World} {K : Gw} {ρ : List Addr} {H : Hp} : ∀ {kvs : List (Key × Val)} {vs : List (Key × V)} {ws : List (Key × Value)} {es : List DictEntry}, RepF K ρ H kvs vs → KV vs ws → Pairs (mixKind P w) es ws →
    RepL K ρ H (kvs.map (·.2)) (vs.map (·.2)) ∧ Vals (vs.map (·.2)) (es.map (·.val))
  | _, _, _, _, .nil, .nil, .nil => ⟨.nil, .nil⟩
  | _, _, _, _, .cons r t, .cons q u, .cons _ p1 p2 => by
    obtain ⟨a, b⟩ := vals_of_pairs t u p2
    exact ⟨.cons r.2 a, .cons (by dsimp only; rw [p1]; exact q.2) b⟩
theorem dat_reads {pins : List (Addr × Obj)} {σ : St} {H : Hp} {s : Shared} {ρ : List Addr} {h : Hh} (I : Inv X pins σ H s) (S : Sim (gw X) ρ H h) :
    ∀ (n : Nat) (v : Val) (u : V) (uv : Value) (d : PyData), dat h n v = some d → Rep (gw X) ρ H v u → RelV u uv → ∃ as, Reads s.heap uv d as ∧ (SmIn X.K → sysModules ∉ as)
  | 0, _, _, _, _, e, _, _ => by cases e
  | n + 1, v, u, uv, d, e, r, q => by
    have ih := dat_reads I S n
    have smH : SmIn X.K → H sysModules = none := fun ⟨o, _, _, l, _⟩ => (I.bs _ _ (I.ok.mod.kin _ _ l)).2
    have smL : ∀ {a : Addr} {xs : List V}, SqL X.K H a xs → SmIn X.K → sysModules ≠ a := fun {a xs} hq sm z => by
      subst z
      have hn := smH sm
      obtain ⟨o, es, m, l, hd⟩ := sm
      rcases hq with (z | ⟨_, z⟩) | ⟨o2, its, m2, l2, _, _, hd2, _⟩
      · rw [hn] at z; cases z
      · rw [hn] at z; cases z
      · rw [l] at l2
        cases l2
        rw [hd] at hd2
        cases hd2
    cases r with
    | non => cases e; cases q; exact ⟨_, .none, fun _ z => by cases z⟩
    | bl b => cases e; cases q; exact ⟨_, .bool b, fun _ z => by cases z⟩
    | int i => cases e; obtain ⟨t, rfl⟩ := q; exact ⟨_, .int i t, fun _ z => by cases z⟩
    | str x => cases e; obtain ⟨t, rfl⟩ := q; exact ⟨_, .str x t, fun _ z => by cases z⟩
    | @tup a xs vs sq rs =>
      have e : (datL (dat h n) xs).map PyData.tuple = some d := e
      cases e1 : datL (dat h n) xs with
      | none => rw [e1] at e; cases e
      | some ds =>
        rw [e1] at e
        cases e
        cases q
        obtain ⟨its, rv, ⟨o, ho, hc, m, hd⟩, _⟩ := I.tuple sq
        obtain ⟨as, hr, hn⟩ := datL_reads ih xs _ its ds e1 rs rv
        exact ⟨_, .tuple ho hc hd (by simpa using hr), hn⟩
    | @scr a xs vs sq rs =>
      have e : (datL (dat h n) xs).map PyData.list = some d := e
      cases e1 : datL (dat h n) xs with
      | none => rw [e1] at e; cases e
      | some ds =>
        rw [e1] at e
        cases e
        cases q
        obtain ⟨its, rv, ⟨o, m, ho, hc, _, hd⟩, _⟩ := I.list sq.sql
        obtain ⟨as, hr, hn⟩ := datL_reads ih xs _ its ds e1 rs rv
        exact ⟨_, .list ho hc hd (by simpa using hr), fun sm z => (List.mem_cons.mp z).elim (smL sq.sql sm) (hn sm)⟩
    | @loc m a ea =>
      have e : (match h[m]? with | some (.lst xs) => (datL (dat h n) xs).map .list | some (.dct kvs) => (datL (dat h n) (kvs.map (·.2))).map fun ds => PyData.dict ((kvs.map fun p => keyD p.1).zip ds) | _ => none) = some d := e
      split at e
      · rename_i xs e2
        obtain ⟨vs, e3, rs⟩ := S.lst ea e2
        cases e1 : datL (dat h n) xs with
        | none => rw [e1] at e; cases e
        | some ds =>
          rw [e1] at e
          cases e
          cases q
          obtain ⟨its, rv, ⟨o, m, ho, hc, _, hd⟩, _⟩ := I.list (.inl (.inl e3))
          obtain ⟨as, hr, hn⟩ := datL_reads ih xs _ its ds e1 rs rv
          exact ⟨_, .list ho hc hd (by simpa using hr), fun sm z => (List.mem_cons.mp z).elim (smL (.inl (.inl e3)) sm) (hn sm)⟩
      · rename_i kvs e2
        obtain ⟨b, e4, vs, e3, rs⟩ := S.at_ m _ e2
        rw [ea] at e4
        cases e4
        cases e1 : datL (dat h n) (kvs.map (·.2)) with
        | none => rw [e1] at e; cases e
        | some ds =>
          rw [e1] at e
          cases e
          cases q
          obtain ⟨_, nsm, ws, kv, o, es, ep, ho, hx, hd, _, hp, _⟩ : ObjOk X.prog X.w H s.heap a (.dK vs) := I.hok a _ e3
          have k1 : ws.map (·.1) = kvs.map (·.1) := keys_same rs kv
          have p1 := vals_of_pairs rs kv hp
          obtain ⟨as, hr, hn⟩ := datL_reads ih (kvs.map (·.2)) _ _ ds e1 p1.1 p1.2
          have hl : (kvs.map fun p => keyD p.1).length = ds.length := by rw [List.length_map, ← datL_len e1, List.length_map]
          refine ⟨_, .dict (as := []) (bs := as) ho hx.1 hd (by rw [zip_fst hl]; exact key_reads hp k1) (by rw [zip_snd hl]; exact hr), fun sm z => ?_⟩
          rcases List.mem_append.mp z with z | z
          · rcases List.mem_cons.mp z with z | z
            · rw [← z] at nsm
              simp at nsm
            · cases z
          · exact hn sm z
      · cases e
    | ref _ => cases e
    | ty _ => cases e
/-- == of two that are no containers -/
def scEq : Val → Val → Option Bool
  | .non, .non => some true
  | .int i, .int j => some (decide (i = j))
  | .bl i, .bl j => some (decide (i = j))
  | .str i, .str j => some (decide (i = j))
  | .non, .int _ => some false
  | .int _, .non => some false
  | .non, .bl _ => some false
  | .bl _, .non => some false
  | .non, .str _ => some false
  | .str _, .non => some false
  | .int _, .str _ => some false
  | .str _, .int _ => some false
  | .bl _, .str _ => some false
  | .str _, .bl _ => some false
  | _, _ => none
def vEq (a b : Val) (h : Hh) : Option Bool := match scEq a b with
  | some r => some r
  | none => (match dat h 40 a, dat h 40 b with
    | some d, some e => if SeqAt.shaped d = true ∧ SeqAt.shaped e = true then some (PyData.eqv d e) else none
    | _, _ => none)
/-- lists of unlike lengths -/
def lensOf (v : Val) (h : Hh) : Option Nat := match v with
  | .loc n => (match h[n]? with
    | some (.lst xs) => some xs.length
    | _ => none)
  | _ => none
def unlike (a b : Val) (h : Hh) : Bool := match lensOf a h, lensOf b h with
  | some m, some n => m != n
  | _, _ => false
def vEqL (a b : Val) (h : Hh) : Option Bool := if unlike a b h = true then some false else vEq a b h
def oEq : Op2 := fun a b h => (vEqL a b h).map fun r => (.bl r, h)
def oNe : Op2 := fun a b h => (vEq a b h).map fun r => (.bl (!r), h)
theorem scEq_ok {K : Gw} {ρ : List Addr} {H : Hp} {a b : Val} {x y : V} {r : Bool} (ra : Rep K ρ H a x) (rb : Rep K ρ H b y) (e : scEq a b = some r) : scal x y = true ∧ r = decide (x = y) := by
  cases ra <;> cases rb <;> first
    | (cases e; exact ⟨rfl, by simp⟩)
    | (exact absurd e (by simp [scEq]))
theorem vEq_cases {a b : Val} {h : Hh} {r : Bool} (e : vEq a b h = some r) : scEq a b = some r ∨ ∃ d d', dat h 40 a = some d ∧ dat h 40 b = some d' ∧ SeqAt.shaped d = true ∧ SeqAt.shaped d' = true ∧ r = PyData.eqv d d' := by
  unfold vEq at e
  split at e
  · rename_i r' e'
    cases e
    exact .inl e'
  · split at e
    · rename_i d d' e1 e2
      split at e
      · rename_i hc
        cases e
        exact .inr ⟨d, d', e1, e2, hc.1, hc.2, rfl⟩
      · cases e
    · cases e
theorem lensOf_ok {pins : List (Addr × Obj)} {σ : St} {H : Hp} {s : Shared} {ρ : List Addr} {h : Hh} {a : Val} {x : V} {v : Value} {n : Nat} (I : Inv X pins σ H s) (S : Sim (gw X) ρ H h) (ra : Rep (gw X) ρ H a x) (rx : RelV x v) (e : lensOf a h = some n) :
    ∃ p its, v = .ref p ∧ s.heap.IsList p its ∧ its.size = n := by
  unfold lensOf at e
  split at e
  · cases ra with
    | @loc m p ea =>
    split at e
    · rename_i xs e2
      cases e
      obtain ⟨vs, q1, r1⟩ := S.lst ea e2
      obtain ⟨its, rv, pl, _⟩ := I.list (.inl (.inl q1))
      cases (show v = Value.ref p from rx)
      exact ⟨p, _, rfl, pl.isList, by rw [List.size_toArray, ← Paired.length rv, r1.length]⟩
    · cases e
  · cases e
theorem op_eq_x (hu : X.A.units + 64 < cLine) : OpR X (compareOp .Eq) (rS2 (gw X) oEq) := by
  intro pins s σ H x y v u Q I rx ry ⟨ρ, h, a, b, z, h', S, ra, rb, e, k⟩
  unfold oEq at e
  cases e1 : vEqL a b h with
  | none => rw [e1] at e; cases e
  | some r =>
    rw [e1] at e
    cases e
    have fin : Q (.bl r) H := k ρ H _ (Grow.refl _ _) S (.bl _)
    unfold vEqL at e1
    by_cases hu2 : unlike a b h = true
    · rw [if_pos hu2] at e1
      cases e1
      unfold unlike at hu2
      split at hu2
      · rename_i m n l1 l2
        obtain ⟨p, its, rfl, il, sz⟩ := lensOf_ok I S ra rx l1
        obtain ⟨p2, its2, rfl, il2, sz2⟩ := lensOf_ok I S rb ry l2
        exact PySem.SeqAt.eq_list_lengthsAt il il2 (by rw [sz, sz2]; exact hu2) (by omega) ⟨.bl _, H, I, rfl, fin⟩
      · cases hu2
    rw [if_neg hu2] at e1
    rcases vEq_cases e1 with e2 | ⟨d, d', e2, e3, s2, s3, rfl⟩
    · obtain ⟨hs, rfl⟩ := scEq_ok ra rb e2
      exact op_eq pins s σ H x y v u Q I rx ry ⟨hs, fin⟩
    · obtain ⟨as, r1, _⟩ := dat_reads I S 40 a x v d e2 ra rx
      obtain ⟨bs, r2, _⟩ := dat_reads I S 40 b y u d' e3 rb ry
      exact SeqAt.compareEq_shaped r1 r2 s2 s3 hu ⟨.bl _, H, I, rfl, fin⟩
theorem op_ne_x (hu : X.A.units + 64 < cLine) : OpR X (compareOp .NotEq) (rS2 (gw X) oNe) := by
  intro pins s σ H x y v u Q I rx ry ⟨ρ, h, a, b, z, h', S, ra, rb, e, k⟩
  unfold oNe at e
  cases e1 : vEq a b h with
  | none => rw [e1] at e; cases e
  | some r =>
    rw [e1] at e
    cases e
    have fin : Q (.bl (!r)) H := k ρ H _ (Grow.refl _ _) S (.bl _)
    rcases vEq_cases e1 with e2 | ⟨d, d', e2, e3, s2, s3, rfl⟩
    · obtain ⟨hs, rfl⟩ := scEq_ok ra rb e2
      exact op_ne pins s σ H x y v u Q I rx ry ⟨hs, fin⟩
    · obtain ⟨as, r1, _⟩ := dat_reads I S 40 a x v d e2 ra rx
      obtain ⟨bs, r2, _⟩ := dat_reads I S 40 b y u d' e3 rb ry
      exact SeqAt.compareNe_shaped r1 r2 s2 s3 hu ⟨.bl _, H, I, rfl, fin⟩
def oRepr : OpN := fun as h => match as with
  | [v] => (match dat h 40 v with
    | some d => if d.showable = true ∧ d.shown.length ≤ sizeLine ∧ d.depth ≤ 64 then some (.str d.shown, h) else none
    | none => none)
  | _ => none
theorem call_repr_x (hu : X.A.units + 70 < cLine) (hg : X.A.guards = some []) (sm : SmIn X.K) : CallR X (.builtin "repr") (rSN (gw X) oRepr) := by
  intro pins s σ H xs us Q I rs ⟨ρ, h, as, z, h', S, ra, e, k⟩
  unfold oRepr at e
  split at e
  · rename_i v
    cases ra with
    | @cons _ x _ _ r1 r2 =>
    cases r2
    cases rs with
    | @cons _ uv _ _ q1 q2 =>
    cases q2
    split at e
    · rename_i d ed
      split at e
      · rename_i hc
        cases e
        have fin : Q (.str d.shown) H := k ρ H _ (Grow.refl _ _) S (.str _)
        obtain ⟨as, rd, nsm⟩ := dat_reads I S 40 v x uv d ed r1 q1
        cases rd with
        | none => exact PySem.P.repr_of_none ⟨.str _, H, I.tok _, ⟨_, rfl⟩, fin⟩
        | bool b => exact PySem.P.repr_of_bool ⟨.str _, H, I.tok _, ⟨_, rfl⟩, fin⟩
        | int i t => exact PySem.P.repr_of_int (by simpa [PyData.showable] using hc.1) ⟨.str _, H, I.tok _, ⟨_, rfl⟩, fin⟩
        | str y t => exact PySem.P.repr_of_str ⟨.str _, H, I.tok _, ⟨_, rfl⟩, fin⟩ hc.2.1
        | list h1 h2 h3 h4 => exact repr_of_reads' (.list h1 h2 h3 h4) hc.1 (fun _ => nsm sm) hg (by have := hc.2.2; omega) (fun _ _ e => e) (fun h' u tk hk => ⟨.str _, H, I.kept hk, ⟨_, rfl⟩, fin⟩) hc.2.1
        | tuple h1 h2 h3 h4 => exact repr_of_reads' (.tuple h1 h2 h3 h4) hc.1 (fun _ => nsm sm) hg (by have := hc.2.2; omega) (fun _ _ e => e) (fun h' u tk hk => ⟨.str _, H, I.kept hk, ⟨_, rfl⟩, fin⟩) hc.2.1
        | dict h1 h2 h3 h4 h5 => exact repr_of_reads' (.dict h1 h2 h3 h4 h5) hc.1 (fun _ => nsm sm) hg (by have := hc.2.2; omega) (fun _ _ e => e) (fun h' u tk hk => ⟨.str _, H, I.kept hk, ⟨_, rfl⟩, fin⟩) hc.2.1
      · cases e
    · cases e
  · cases e
end
end EX

set_option Elab.async false
set_option linter.all false
set_option maxRecDepth 100000
set_option maxHeartbeats 1000000
namespace EX
open PySem L2
section
variable {X : Cx} {W : Wd}
/-! ### subscripts -/
def oIx : Op2 := fun a b h => match a, b with
  | .tup xs, .int i => (atI xs i).map fun v => (v, h)
  | .scr xs, .int i => (atI xs i).map fun v => (v, h)
  | .str s, .int i => if s.length ≤ sizeLine then (atI s.cps.toList i).map fun c => (.str ⟨#[c]⟩, h) else none
  | .loc n, .int i => (match h[n]? with
    | some (.lst xs) => (atI xs i).map fun v => (v, h)
    | _ => none)
  | _, _ => none
theorem RepL.atI {K : Gw} {ρ : List Addr} {H : Hp} {xs : List Val} {vs : List V} {i : Int} {v : Val} (r : RepL K ρ H xs vs) (e : L2.atI xs i = some v) : ∃ u, L2.atI vs i = some u ∧ Rep K ρ H v u := by
  unfold L2.atI at e ⊢
  rw [← r.length]
  cases q : ixN xs.length i with
  | none => rw [q] at e; cases e
  | some j =>
    rw [q] at e
    exact r.get (i := j) e
theorem ix_x : IxR X (rS2 (gw X) oIx) := by
  intro value slice pins s σ H x y v u Q I rx ry ⟨ρ, h, a, b, z, h', S, ra, rb, e, k⟩ hs
  unfold oIx at e
  split at e
  · rename_i xs i
    cases ra with
    | @tup a1 _ vs s1 r1 =>
      cases rb
      cases e1 : L2.atI xs i with
      | none => rw [e1] at e; cases e
      | some w =>
        rw [e1] at e
        cases e
        obtain ⟨u1, e2, r2⟩ := r1.atI e1
        exact ix_tup value slice pins s σ H _ _ v u Q I rx ry ⟨a1, vs, _, u1, rfl, rfl, s1, e2, k ρ H _ (Grow.refl _ _) S r2⟩ hs
  · rename_i xs i
    cases ra with
    | @scr a1 _ vs s1 r1 =>
      cases rb
      cases e1 : L2.atI xs i with
      | none => rw [e1] at e; cases e
      | some w =>
        rw [e1] at e
        cases e
        obtain ⟨u1, e2, r2⟩ := r1.atI e1
        exact ix_list value slice pins s σ H _ _ v u Q I rx ry ⟨a1, vs, _, u1, rfl, rfl, s1.sql, e2, k ρ H _ (Grow.refl _ _) S r2⟩ hs
  · rename_i t i
    cases ra
    cases rb
    split at e
    · rename_i hl
      cases e1 : L2.atI t.cps.toList i with
      | none => rw [e1] at e; cases e
      | some w =>
        rw [e1] at e
        cases e
        exact ix_str value slice pins s σ H _ _ v u Q I rx ry ⟨_, _, w, rfl, rfl, hl, e1, k ρ H _ (Grow.refl _ _) S (.str _)⟩ hs
    · cases e
  · rename_i n i
    cases ra with
    | @loc _ a1 ea =>
      cases rb
      split at e
      · rename_i xs e2
        obtain ⟨vs, q1, r1⟩ := S.lst ea e2
        cases e1 : L2.atI xs i with
        | none => rw [e1] at e; cases e
        | some w =>
          rw [e1] at e
          cases e
          obtain ⟨u1, e3, r2⟩ := r1.atI e1
          exact ix_list value slice pins s σ H _ _ v u Q I rx ry ⟨a1, vs, _, u1, rfl, rfl, .inl (.inl q1), e3, k ρ H _ (Grow.refl _ _) S r2⟩ hs
      · cases e
  · cases e

/-! ### slices -/
abbrev OpS := Val → Option Int → Option Int → Hh → Option (Val × Hh)
def cutX {α : Type} (xs : List α) (lo hi : Option Int) : List α := (xs.drop (HT.sIx xs.length 0 lo)).take (HT.sIx xs.length xs.length hi - HT.sIx xs.length 0 lo)
def oSl : OpS := fun a lo hi h => match a with
  | .tup xs => some (.tup (cutX xs lo hi), h)
  | .str s => if s.length ≤ sizeLine then some (.str (cutS s lo hi), h) else none
  | .loc n => (match h[n]? with
    | some (.lst xs) => some (.loc h.length, h ++ [.lst (cutX xs lo hi)])
    | _ => none)
  | _ => none
def rSl (K : Gw) (o : OpS) : V → Option Int → Option Int → Hp → VK → Prop := fun x lo hi H Q => ∃ ρ h a v h', Sim K ρ H h ∧ Rep K ρ H a x ∧ o a lo hi h = some (v, h') ∧ ∀ ρ' H' u, Grow ρ ρ' H H' → Sim K ρ' H' h' → Rep K ρ' H' v u → Q u H'
theorem cut_rep {K : Gw} {ρ : List Addr} {H : Hp} {xs : List Val} {vs : List V} (r : RepL K ρ H xs vs) (lo hi : Option Int) : RepL K ρ H (cutX xs lo hi) (cutV vs lo hi) := by
  unfold cutX cutV
  rw [← r.length]
  exact (r.drop _).take _
theorem sl_x : SlR X (rSl (gw X) oSl) := by
  intro pins s σ H x v vl vu lo hi sl Q I rx hs pl pu ⟨ρ, h, a, z, h', S, ra, e, k⟩
  unfold oSl at e
  split at e
  · rename_i xs
    cases ra with
    | @tup a1 _ vs s1 r1 =>
      cases e
      refine sl_tupA pins s σ H _ v vl vu lo hi sl Q I rx hs pl pu ⟨a1, vs, rfl, s1, fun z => k ρ H _ (Grow.refl _ _) S (.tup s1 ?_), fun z p hp => ?_⟩
      · have e2 : cutX xs lo hi = xs := by
          unfold cutX
          rw [r1.length, z.1, z.2, List.drop_zero, Nat.sub_zero, ← r1.length, List.take_length]
        rw [e2]
        exact r1
      · obtain ⟨g, s3, r3⟩ := new_tup S hp (cut_rep r1 lo hi)
        exact k ρ _ _ g s3 r3
  · cases ra
    split at e
    · rename_i hl
      cases e
      exact sl_str pins s σ H _ v vl vu lo hi sl Q I rx hs pl pu ⟨_, rfl, hl, k ρ H _ (Grow.refl _ _) S (.str _)⟩
    · cases e
  · cases ra with
    | @loc _ a1 ea =>
      split at e
      · rename_i xs e2
        cases e
        obtain ⟨vs, q1, r1⟩ := S.lst ea e2
        refine sl_list pins s σ H _ v vl vu lo hi sl Q I rx hs pl pu ⟨a1, vs, rfl, .inl (.inl q1), fun p hp => ?_⟩
        obtain ⟨g, s3, r3⟩ := new_loc S hp (cut_rep r1 lo hi)
        exact k _ _ _ g s3 r3
      · cases e
  · cases e
def xPart : Option XE → En → Hh → Res (Option Int)
  | none, _, h => .ok none h
  | some x, e, h => (x e h).bind fun v h1 => match v with
    | .int i => .ok (some i) h1
    | _ => .stuck
def xSl (o : OpS) (a : XE) (lo hi : Option XE) : XE := fun e h => (a e h).bind fun v h1 => (xPart lo e h1).bind fun l h2 => (xPart hi e h2).bind fun u h3 => Res.of (o v l u h3)
def tXO (K : Gw) (W : Wd) (x : Option XE) : TO := fun σ H Q => ∃ ρ env h, Sim K ρ H h ∧ EnvR K ρ H W.s env σ ∧ Post K W σ ρ H (fun o _ _ H1 => Q o H1) (xPart x env h)
theorem PO.of {e : Option Expr} {t t' : TO} (h : PO X e t) (w : ∀ σ H Q, t' σ H Q → t σ H Q) : PO X e t' := ⟨fun pins s σ H Q I q => h.run pins s σ H Q I (w σ H Q q)⟩
theorem qo_none : PO X none (tXO (gw X) W none) := PO.of po_none fun σ H Q ⟨ρ, env, h, S, E, p⟩ => p ρ H (Grow.refl _ _) S
theorem qo_some {e : Expr} {x : XE} (h : QE X W e x) : PO X (some e) (tXO (gw X) W (some x)) := PO.of (po_some h) fun σ H Q ⟨ρ, env, h, S, E, p⟩ =>
  ⟨ρ, env, h, S, E, (Post.bind p).imp fun v h1 ρ1 H1 g1 S1 q u ru => by
    cases ru with
    | int i => exact ⟨i, rfl, q ρ1 H1 (Grow.refl _ _) S1⟩
    | _ => exact q.elim⟩
theorem q_slice {a : Expr} {lo hi : Option Expr} {xa : XE} {xl xh : Option XE} {p2 pos : Pos} {o : OpS} (hr : SlR X (rSl (gw X) o)) (ha : QE X W a xa) (hl : PO X lo (tXO (gw X) W xl)) (hh : PO X hi (tXO (gw X) W xh)) :
    QE X W (.Subscript a (.Slice lo hi none p2) pos) (xSl o xa xl xh) := PE.of (pe_slice hr ha hl hh) fun σ H Q ⟨ρ, env, h, S, E, p⟩ =>
  ⟨ρ, env, h, S, E, (Post.bind p).imp fun v h1 ρ1 H1 g1 S1 q1 u ru => ⟨ρ1, env, h1, S1, E.mono g1, (Post.bind q1).imp fun l h2 ρ2 H2 g2 S2 q2 => ⟨ρ2, env, h2, S2, (E.mono g1).mono g2, (Post.bind q2).imp fun m h3 ρ3 H3 g3 S3 q3 => by
    obtain ⟨z, h', e, k⟩ := Post.of q3
    exact ⟨ρ3, h3, v, z, h', S3, (ru.mono g2).mono g3, e, k⟩⟩⟩⟩

/-! ### in, is -/
def flatX : Val → Bool
  | .non => true
  | .bl _ => true
  | .int _ => true
  | .str _ => true
  | _ => false
def eqX : Val → Val → Bool
  | .non, .non => true
  | .bl a, .bl b => a == b
  | .bl a, .int b => (if a then 1 else 0) == b
  | .int a, .bl b => a == (if b then 1 else 0)
  | .int a, .int b => a == b
  | .str a, .str b => a == b
  | _, _ => false
def inX (x : Val) (xs : List Val) : Bool := xs.any fun y => eqX y x
def vIn (a b : Val) (h : Hh) : Option Bool := match b with
  | .str z => (match a with
    | .str y => if y.cps.size = 1 then some (decide (y.cps.getD 0 0 ∈ z.cps.toList)) else none
    | _ => none)
  | .tup xs => if flatX a = true ∧ xs.all flatX = true then some (inX a xs) else none
  | .loc n => (match h[n]? with
    | some (.lst xs) => if flatX a = true ∧ xs.all flatX = true then some (inX a xs) else none
    | _ => none)
  | _ => none
def oIn : Op2 := fun a b h => (vIn a b h).map fun r => (.bl r, h)
def oNotIn : Op2 := fun a b h => (vIn a b h).map fun r => (.bl (!r), h)
theorem flat_rep {K : Gw} {ρ : List Addr} {H : Hp} {a : Val} {x : V} (r : Rep K ρ H a x) (h : flatX a = true) : flatV x = true := by
  cases r <;> first | rfl | (exact absurd h (by simp [flatX]))
theorem flatL_rep {K : Gw} {ρ : List Addr} {H : Hp} : ∀ {xs : List Val} {vs : List V}, RepL K ρ H xs vs → xs.all flatX = true → vs.all flatV = true
  | _, _, .nil, _ => rfl
  | _, _, .cons r t, h => by
    rw [List.all_cons, Bool.and_eq_true] at h ⊢
    exact ⟨flat_rep r h.1, flatL_rep t h.2⟩
theorem eq_rep {K : Gw} {ρ : List Addr} {H : Hp} {a b : Val} {x y : V} (ra : Rep K ρ H a x) (rb : Rep K ρ H b y) (ha : flatX a = true) (hb : flatX b = true) : eqV x y = eqX a b := by
  cases ra <;> cases rb <;> first | rfl | (exact absurd ha (by simp [flatX])) | (exact absurd hb (by simp [flatX]))
theorem in_rep {K : Gw} {ρ : List Addr} {H : Hp} {a : Val} {x : V} (ra : Rep K ρ H a x) (ha : flatX a = true) : ∀ {xs : List Val} {vs : List V}, RepL K ρ H xs vs → xs.all flatX = true → inV x vs = inX a xs
  | _, _, .nil, _ => rfl
  | _, _, .cons r t, h => by
    rw [List.all_cons, Bool.and_eq_true] at h
    unfold inV inX
    rw [List.any_cons, List.any_cons, eq_rep r ra h.1 ha]
    have ih := in_rep ra ha t h.2
    unfold inV inX at ih
    rw [ih]
theorem sign_of (y : Str) (h : y.cps.size = 1) : y = ⟨#[y.cps.getD 0 0]⟩ := by
  obtain ⟨c⟩ := y
  have : c = #[c.getD 0 0] := by
    apply Array.ext
    · simpa using h
    · intro i h1 h2
      have hi : i = 0 := by
        have : i < 1 := by simpa using h2
        omega
      subst hi
      simp [Array.getD, h1]
  exact congrArg Str.mk this
theorem vIn_cases {pins : List (Addr × Obj)} {σ : St} {H : Hp} {s : Shared} {ρ : List Addr} {h : Hh} {a b : Val} {x y : V} {r : Bool} (S : Sim (gw X) ρ H h) (ra : Rep (gw X) ρ H a x) (rb : Rep (gw X) ρ H b y) (e : vIn a b h = some r) :
    (∃ (c : Nat) (z : Str), x = .str ⟨#[c]⟩ ∧ y = .str z ∧ r = decide (c ∈ z.cps.toList)) ∨ ∃ p xs, y = .ref p ∧ (SqL X.K H p xs ∨ SqT X.K H p xs) ∧ flatV x = true ∧ xs.all flatV = true ∧ r = inV x xs := by
  unfold vIn at e
  split at e
  · cases rb
    split at e
    · rename_i y1
      cases ra
      split at e
      · rename_i hy
        cases e
        exact .inl ⟨y1.cps.getD 0 0, _, by rw [← sign_of y1 hy], rfl, rfl⟩
      · cases e
    · cases e
  · cases rb with
    | @tup a1 xs vs s1 r1 =>
      split at e
      · rename_i hc
        cases e
        exact .inr ⟨a1, vs, rfl, .inr s1, flat_rep ra hc.1, flatL_rep r1 hc.2, (in_rep ra hc.1 r1 hc.2).symm⟩
      · cases e
  · cases rb with
    | @loc n a1 ea =>
      split at e
      · rename_i xs e2
        obtain ⟨vs, q1, r1⟩ := S.lst ea e2
        split at e
        · rename_i hc
          cases e
          exact .inr ⟨a1, vs, rfl, .inl (.inl (.inl q1)), flat_rep ra hc.1, flatL_rep r1 hc.2, (in_rep ra hc.1 r1 hc.2).symm⟩
        · cases e
      · cases e
  · cases e
theorem op_in_x : OpR X (compareOp .In) (rS2 (gw X) oIn) := by
  intro pins s σ H x y v u Q I rx ry ⟨ρ, h, a, b, z, h', S, ra, rb, e, k⟩
  unfold oIn at e
  cases e1 : vIn a b h with
  | none => rw [e1] at e; cases e
  | some r =>
    rw [e1] at e
    cases e
    have fin : Q (.bl r) H := k ρ H _ (Grow.refl _ _) S (.bl _)
    rcases vIn_cases (pins := pins) (σ := σ) (s := s) S ra rb e1 with ⟨c, z, e2, e3, e4⟩ | ⟨p, xs, e2, e3, e4, e5, e6⟩
    · rw [e4] at fin
      exact op_in_sign pins s σ H x y v u Q I rx ry ⟨c, z, e2, e3, fin⟩
    · rw [e6] at fin
      exact op_in_seq pins s σ H x y v u Q I rx ry ⟨p, xs, e2, e3, e4, e5, fin⟩
theorem op_notIn_x : OpR X (compareOp .NotIn) (rS2 (gw X) oNotIn) := by
  intro pins s σ H x y v u Q I rx ry ⟨ρ, h, a, b, z, h', S, ra, rb, e, k⟩
  unfold oNotIn at e
  cases e1 : vIn a b h with
  | none => rw [e1] at e; cases e
  | some r =>
    rw [e1] at e
    cases e
    have fin : Q (.bl (!r)) H := k ρ H _ (Grow.refl _ _) S (.bl _)
    rcases vIn_cases (pins := pins) (σ := σ) (s := s) S ra rb e1 with ⟨c, z, e2, e3, e4⟩ | ⟨p, xs, e2, e3, e4, e5, e6⟩
    · rw [e4] at fin
      exact op_notIn_sign pins s σ H x y v u Q I rx ry ⟨c, z, e2, e3, fin⟩
    · rw [e6] at fin
      exact op_notIn_seq pins s σ H x y v u Q I rx ry ⟨p, xs, e2, e3, e4, e5, fin⟩
def isNon : Val → Bool
  | .non => true
  | _ => false
def vIs (a b : Val) : Option Bool := match b with
  | .non => some (isNon a)
  | .bl c => (match a with
    | .bl d => some (decide (d = c))
    | _ => none)
  | _ => none
def oIs : Op2 := fun a b h => (vIs a b).map fun r => (.bl r, h)
def oIsNot : Op2 := fun a b h => (vIs a b).map fun r => (.bl (!r), h)
theorem isNon_rep {K : Gw} {ρ : List Addr} {H : Hp} {a : Val} {x : V} (r : Rep K ρ H a x) : isNon a = decide (x = .non) := by
  cases r <;> simp [isNon]
theorem op_is_x : OpR X (compareOp .Is) (rS2 (gw X) oIs) := by
  intro pins s σ H x y v u Q I rx ry ⟨ρ, h, a, b, z, h', S, ra, rb, e, k⟩
  unfold oIs at e
  cases e1 : vIs a b with
  | none => rw [e1] at e; cases e
  | some r =>
    rw [e1] at e
    cases e
    have fin : Q (.bl r) H := k ρ H _ (Grow.refl _ _) S (.bl _)
    unfold vIs at e1
    split at e1
    · cases rb; cases e1
      rw [isNon_rep ra] at fin
      exact op_isN pins s σ H x _ v u Q I rx ry ⟨rfl, fin⟩
    · cases rb
      split at e1
      · cases ra; cases e1
        exact op_isBl pins s σ H _ _ v u Q I rx ry ⟨_, _, rfl, rfl, fin⟩
      · cases e1
    · cases e1
theorem op_isNot_x : OpR X (compareOp .IsNot) (rS2 (gw X) oIsNot) := by
  intro pins s σ H x y v u Q I rx ry ⟨ρ, h, a, b, z, h', S, ra, rb, e, k⟩
  unfold oIsNot at e
  cases e1 : vIs a b with
  | none => rw [e1] at e; cases e
  | some r =>
    rw [e1] at e
    cases e
    have fin : Q (.bl (!r)) H := k ρ H _ (Grow.refl _ _) S (.bl _)
    unfold vIs at e1
    split at e1
    · cases rb; cases e1
      rw [isNon_rep ra] at fin
      exact op_notN pins s σ H x _ v u Q I rx ry ⟨rfl, fin⟩
    · cases rb
      split at e1
      · cases ra; cases e1
        exact op_notBl pins s σ H _ _ v u Q I rx ry ⟨_, _, rfl, rfl, fin⟩
      · cases e1
    · cases e1

/-! ### builtins -/
def vLen (v : Val) (h : Hh) : Option Nat := match v with
  | .str s => if s.length ≤ sizeLine then some s.length else none
  | .tup xs => some xs.length
  | .scr xs => some xs.length
  | .loc n => (match h[n]? with
    | some (.lst xs) => some xs.length
    | _ => none)
  | _ => none
def oLen : OpN := fun as h => match as with
  | [v] => (vLen v h).map fun n => (.int n, h)
  | _ => none
theorem call_len_x : CallR X (.builtin "len") (rSN (gw X) oLen) := by
  intro pins s σ H xs us Q I rs ⟨ρ, h, as, z, h', S, ra, e, k⟩
  unfold oLen at e
  split at e
  · rename_i v
    cases ra with
    | @cons _ x _ _ r1 r2 =>
    cases r2
    cases e1 : vLen v h with
    | none => rw [e1] at e; cases e
    | some n =>
      rw [e1] at e
      cases e
      refine call_len pins s σ H _ us Q I rs ⟨x, n, rfl, ?_, k ρ H _ (Grow.refl _ _) S (.int _)⟩
      unfold vLen at e1
      split at e1
      · cases r1
        split at e1
        · rename_i hl
          cases e1
          exact ⟨hl, rfl⟩
        · cases e1
      · cases r1 with
        | tup s1 q1 => cases e1; exact .inr ⟨_, s1, q1.length⟩
      · cases r1 with
        | scr s1 q1 => cases e1; exact .inl ⟨_, s1.sql, q1.length⟩
      · cases r1 with
        | loc ea =>
          split at e1
          · rename_i e2
            cases e1
            obtain ⟨vs, q2, q3⟩ := S.lst ea e2
            exact .inl ⟨vs, .inl (.inl q2), q3.length⟩
          · cases e1
      · cases e1
  · cases e
def bools : List Val → Option (List Bool)
  | [] => some []
  | .bl b :: r => (bools r).map (b :: ·)
  | _ :: _ => none
theorem bools_rep {K : Gw} {ρ : List Addr} {H : Hp} : ∀ {xs : List Val} {vs : List V} {bs : List Bool}, RepL K ρ H xs vs → bools xs = some bs → vs = bs.map V.bl
  | _, _, _, .nil, e => by cases e; rfl
  | _, _, bs, .cons r t, e => by
    cases r with
    | bl b =>
      rename_i xs vs
      have e : (bools xs).map (b :: ·) = some bs := e
      cases e1 : bools xs with
      | none => rw [e1] at e; cases e
      | some cs => rw [e1] at e; cases e; rw [bools_rep t e1]; rfl
    | _ => cases e
def oAll : OpN := fun as h => match as with
  | [.loc n] => (match h[n]? with
    | some (.lst xs) => (bools xs).map fun bs => (.bl (bs.all id), h)
    | _ => none)
  | _ => none
theorem call_all_x (hc : X.calm = true) : CallR X (.builtin "all") (rSN (gw X) oAll) := by
  intro pins s σ H xs us Q I rs ⟨ρ, h, as, z, h', S, ra, e, k⟩
  unfold oAll at e
  split at e
  · cases ra with
    | @cons _ x _ _ r1 r2 =>
    cases r2
    cases r1 with
    | @loc n a ea =>
    split at e
    · rename_i ys e2
      obtain ⟨vs, q1, r3⟩ := S.lst ea e2
      cases e1 : bools ys with
      | none => rw [e1] at e; cases e
      | some bs =>
        rw [e1] at e
        cases e
        have ev := bools_rep r3 e1
        subst ev
        exact cr_all hc pins s σ H _ us Q I rs ⟨a, bs, rfl, .inl (.inl q1), k ρ H _ (Grow.refl _ _) S (.bl _)⟩
    · cases e
  · cases e
def oOrd : OpN := fun as h => match as with
  | [.str s] => if s.length = 1 then some (.int (s.cps.getD 0 0 : Nat), h) else none
  | _ => none
theorem call_ord_x : CallR X (.builtin "ord") (rSN (gw X) oOrd) := by
  intro pins s σ H xs us Q I rs ⟨ρ, h, as, z, h', S, ra, e, k⟩
  unfold oOrd at e
  split at e
  · cases ra with
    | cons r1 r2 =>
    cases r2; cases r1
    split at e
    · rename_i hl
      cases e
      exact call_ord pins s σ H _ us Q I rs ⟨_, rfl, hl, k ρ H _ (Grow.refl _ _) S (.int _)⟩
    · cases e
  · cases e
def oMax : OpN := fun as h => match as with
  | [.int i, .int j] => some (.int (if j > i then j else i), h)
  | _ => none
def oMin : OpN := fun as h => match as with
  | [.int i, .int j] => some (.int (if j < i then j else i), h)
  | _ => none
theorem call_max_x (hc : X.calm = true) : CallR X (.builtin "max") (rSN (gw X) oMax) := by
  intro pins s σ H xs us Q I rs ⟨ρ, h, as, z, h', S, ra, e, k⟩
  unfold oMax at e
  split at e
  · cases ra with
    | cons r1 r2 =>
    cases r2 with
    | cons r3 r4 =>
    cases r4; cases r1; cases r3; cases e
    exact call_max2 hc pins s σ H _ us Q I rs ⟨_, _, rfl, k ρ H _ (Grow.refl _ _) S (.int _)⟩
  · cases e
theorem call_min_x (hc : X.calm = true) : CallR X (.builtin "min") (rSN (gw X) oMin) := by
  intro pins s σ H xs us Q I rs ⟨ρ, h, as, z, h', S, ra, e, k⟩
  unfold oMin at e
  split at e
  · cases ra with
    | cons r1 r2 =>
    cases r2 with
    | cons r3 r4 =>
    cases r4; cases r1; cases r3; cases e
    exact call_min2 hc pins s σ H _ us Q I rs ⟨_, _, rfl, k ρ H _ (Grow.refl _ _) S (.int _)⟩
  · cases e
def oInt : OpN := fun as h => match as with
  | [.int i] => some (.int i, h)
  | [.bl b] => some (.int (if b then 1 else 0), h)
  | _ => none
theorem call_int_x : CallR X (.type "int") (rSN (gw X) oInt) := by
  intro pins s σ H xs us Q I rs ⟨ρ, h, as, z, h', S, ra, e, k⟩
  unfold oInt at e
  split at e
  · cases ra with
    | cons r1 r2 =>
    cases r2; cases r1; cases e
    exact call_int1 pins s σ H _ us Q I rs (.inl ⟨_, rfl, k ρ H _ (Grow.refl _ _) S (.int _)⟩)
  · cases ra with
    | cons r1 r2 =>
    cases r2; cases r1; cases e
    exact call_int1 pins s σ H _ us Q I rs (.inr ⟨_, rfl, k ρ H _ (Grow.refl _ _) S (.int _)⟩)
  · cases e
/-- tuple(x), list(x) of lists and tuples -/
def oTuple : OpN := fun as h => match as with
  | [.tup xs] => some (.tup xs, h)
  | [.loc n] => (match h[n]? with
    | some (.lst xs) => some (.tup xs, h)
    | _ => none)
  | _ => none
def oList : OpN := fun as h => match as with
  | [.tup xs] => some (.loc h.length, h ++ [.lst xs])
  | [.loc n] => (match h[n]? with
    | some (.lst xs) => some (.loc h.length, h ++ [.lst xs])
    | _ => none)
  | _ => none
theorem call_tuple_x : CallR X (.type "tuple") (rSN (gw X) oTuple) := by
  intro pins s σ H xs us Q I rs ⟨ρ, h, as, z, h', S, ra, e, k⟩
  unfold oTuple at e
  split at e
  · cases ra with
    | cons r1 r2 =>
    cases r2
    cases r1 with
    | @tup a ys vs s1 q1 =>
    cases e
    exact call_tuple_of pins s σ H _ us Q I rs ⟨a, vs, rfl, .inr ⟨s1, k ρ H _ (Grow.refl _ _) S (.tup s1 q1)⟩⟩
  · cases ra with
    | cons r1 r2 =>
    cases r2
    cases r1 with
    | @loc n a ea =>
    split at e
    · rename_i ys e2
      cases e
      obtain ⟨vs, q1, r3⟩ := S.lst ea e2
      refine call_tuple_of pins s σ H _ us Q I rs ⟨a, vs, rfl, .inl ⟨.inl (.inl q1), fun p hp => ?_⟩⟩
      obtain ⟨g, s3, r4⟩ := new_tup S hp r3
      exact k ρ _ _ g s3 r4
    · cases e
  · cases e
theorem call_list_x : CallR X (.type "list") (rSN (gw X) oList) := by
  intro pins s σ H xs us Q I rs ⟨ρ, h, as, z, h', S, ra, e, k⟩
  unfold oList at e
  split at e
  · cases ra with
    | cons r1 r2 =>
    cases r2
    cases r1 with
    | @tup a ys vs s1 q1 =>
    cases e
    refine call_list_of pins s σ H _ us Q I rs ⟨a, vs, rfl, .inr s1, fun p hp => ?_⟩
    obtain ⟨g, s3, r4⟩ := new_loc S hp q1
    exact k _ _ _ g s3 r4
  · cases ra with
    | cons r1 r2 =>
    cases r2
    cases r1 with
    | @loc n a ea =>
    split at e
    · rename_i ys e2
      cases e
      obtain ⟨vs, q1, r3⟩ := S.lst ea e2
      refine call_list_of pins s σ H _ us Q I rs ⟨a, vs, rfl, .inl (.inl (.inl q1)), fun p hp => ?_⟩
      obtain ⟨g, s3, r4⟩ := new_loc S hp r3
      exact k _ _ _ g s3 r4
    · cases e
  · cases e
/-- isinstance with a built-in class -/
def tyName (v : Val) (h : Hh) : Option String := match v with
  | .non => some "NoneType"
  | .bl _ => some "bool"
  | .int _ => some "int"
  | .str _ => some "str"
  | .tup _ => some "tuple"
  | .loc n => (match h[n]? with
    | some (.lst _) => some "list"
    | some (.dct _) => some "dict"
    | _ => none)
  | _ => none
def oIsi : OpN := fun as h => match as with
  | [v, .ty T] => (match tyName v h with
    | some a => (kitB a T).map fun b => (.bl b, h)
    | none => none)
  | _ => none
theorem tup_ty {K : PySem.W.Frag} {H : Hp} {a : Addr} {vs : List V} (h : SqT K H a vs) : TyX K H (.ref a) (.type "tuple") := by
  rcases h with (h | ⟨o, h⟩) | ⟨o, its, n, h, c, _⟩
  · exact .base (.tup h)
  · exact .fTuple h
  · exact .kTuple h c
theorem call_isi_x : CallR X (.builtin "isinstance") (rSN (gw X) oIsi) := by
  intro pins s σ H xs us Q I rs ⟨ρ, h, as, z, h', S, ra, e, k⟩
  unfold oIsi at e
  split at e
  · rename_i v T
    cases ra with
    | @cons _ x _ _ r1 r2 =>
    cases r2 with
    | cons r3 r4 =>
    cases r4; cases r3
    split at e
    · rename_i a et
      cases e1 : kitB a T with
      | none => rw [e1] at e; cases e
      | some b =>
        rw [e1] at e
        cases e
        refine call_isi pins s σ H _ us Q I rs ⟨x, .ty T, .type a, .type T, b, rfl, .ty T, ?_, kit_ty e1, k ρ H _ (Grow.refl _ _) S (.bl _)⟩
        unfold tyName at et
        split at et
        · cases r1; cases et; exact .base .non
        · cases r1; cases et; exact .base (.bl _)
        · cases r1; cases et; exact .base (.int _)
        · cases r1; cases et; exact .base (.str _)
        · cases r1 with
          | tup s1 q1 => cases et; exact tup_ty s1
        · cases r1 with
          | @loc n a ea =>
          split at et
          · rename_i e2
            cases et
            obtain ⟨vs, q1, _⟩ := S.lst ea e2
            exact .base (.lst q1)
          · rename_i e2
            cases et
            obtain ⟨b2, e3, q0⟩ := S.at_ _ _ e2
            obtain ⟨vs, q1, _⟩ := q0
            rw [ea] at e3
            cases e3
            exact .base (.dK q1)
          · cases et
        · cases et
    · cases e
  · cases e
end
end EX

set_option Elab.async false
set_option linter.all false
set_option maxRecDepth 100000
set_option maxHeartbeats 1000000
namespace EX
open PySem L2
section
variable {X : Cx} {W : Wd}
/-! ### methods of built-in types -/
abbrev OpM := Val → List Val → Hh → Option (Val × Hh)
def isTy (T : String) (v : Val) (h : Hh) : Bool := match v with
  | .str _ => decide (T = "str")
  | .scr _ => decide (T = "list")
  | .loc n => (match h[n]? with
    | some (.lst _) => decide (T = "list")
    | some (.dct _) => decide (T = "dict")
    | _ => false)
  | _ => false
def xMeth (T : String) (o : OpM) (a : XE) (r : XA) : XE := fun e h => (a e h).bind fun v h1 => if isTy T v h1 = true then (r e h1).bind fun xs h2 => Res.of (o v xs h2) else .stuck
def rSM (K : Gw) (o : OpM) : V → List V → Hp → VK → Prop := fun x xs H Q => ∃ ρ h a as v h', Sim K ρ H h ∧ Rep K ρ H a x ∧ RepL K ρ H as xs ∧ o a as h = some (v, h') ∧ ∀ ρ' H' u, Grow ρ ρ' H H' → Sim K ρ' H' h' → Rep K ρ' H' v u → Q u H'
theorem isTy_ok {K : Gw} {ρ : List Addr} {H : Hp} {h : Hh} {T : String} {v : Val} {u : V} (S : Sim K ρ H h) (r : Rep K ρ H v u) (e : isTy T v h = true) : tyV K.K T u H := by
  cases r with
  | str s =>
    have e' : T = "str" := of_decide_eq_true (show decide (T = "str") = true from e)
    exact e'
  | scr s q => exact .inl ⟨of_decide_eq_true e, _, s.sql⟩
  | @loc n a ea =>
    have e : (match h[n]? with | some (.lst _) => decide (T = "list") | some (.dct _) => decide (T = "dict") | _ => false) = true := e
    split at e
    · rename_i xs e2
      obtain ⟨vs, q1, _⟩ := S.lst ea e2
      exact .inl ⟨of_decide_eq_true e, _, .inl (.inl q1)⟩
    · rename_i kvs e2
      obtain ⟨b2, e3, q0⟩ := S.at_ _ _ e2
      rw [ea] at e3
      cases e3
      obtain ⟨vs, q1, _⟩ := q0
      exact .inr (.inr (.inl ⟨of_decide_eq_true e, .inl ⟨_, q1⟩⟩))
    · cases e
  | _ => cases e
theorem meth_of {K : Gw} {T : String} {o : OpM} {a : XE} {r : XA} {σ : St} {H : Hp} {Q : VK} (h : tX K W (xMeth T o a r) σ H Q) : tBM K.K T (rSM K o) (tX K W a) (tXA K W r) σ H Q := by
  obtain ⟨ρ, env, h, S, E, p⟩ := h
  refine ⟨ρ, env, h, S, E, (Post.bind p).imp fun v h1 ρ1 H1 g1 S1 q u ru => ?_⟩
  by_cases ht : isTy T v h1 = true
  · rw [if_pos ht] at q
    refine ⟨isTy_ok S1 ru ht, ρ1, env, h1, S1, E.mono g1, (Post.bind q).imp fun xs h2 ρ2 H2 g2 S2 q2 us rs => ?_⟩
    obtain ⟨z, h', e, k⟩ := Post.of q2
    exact ⟨ρ2, h2, v, xs, z, h', S2, ru.mono g2, rs, e, k⟩
  · rw [if_neg ht] at q
    exact q.elim
theorem q_bm {o : Expr} {e : Expr} {es : List Expr} {name : Str} {apos cpos : Pos} {T id : String} {op : OpM} {xo : XE} {xa : XA} (pa : PlainAttrs T) (slot : Slot T name id) (hty : typeOf (.builtin id) = pure (.type "method_descriptor")) (hm : MtR X id (rSM (gw X) op)) (ho : QE X W o xo) (ha : QA X W (e :: es) xa)
    (hbase : attributeBase o name X.env (eval o X.env) = eval o X.env := by rfl)
    (hfew : ((backTo cpos (starEach (e :: es) X.env)).all (fun x => !x.1) && (backToKw cpos (keywordEach [] X.env)).all (fun x => x.1.isSome)
      && decide ((e :: es).length + ([] : List Keyword).length + (if ([] : List Keyword).isEmpty then 0 else 1) < 30)) = true := by rfl)
    (hline : (apos.endLine == cpos.line) = true := by rfl) (hs : starEach (e :: es) X.env = (false, eval e X.env) :: starEach es X.env := by rfl) (hplain : (backTo cpos (starEach es X.env)).any (·.1) = false := by rfl) :
    QE X W (.Call (.Attribute o name apos) (e :: es) [] cpos) (xMeth T op xo xa) := PE.of (pe_bm pa slot hty hm ho ha hbase hfew hline hs hplain) fun _ _ _ => meth_of
def oAppend : OpM := fun a as h => match a, as with
  | .loc n, [v] => (match h[n]? with
    | some (.lst xs) => if xs.length < sizeLine then some (.non, h.set n (.lst (xs ++ [v]))) else none
    | _ => none)
  | _, _ => none
theorem mt_append_x : MtR X "list.append" (rSM (gw X) oAppend) := by
  intro pins s σ H x xs v us Q I rx rs ⟨ρ, h, a, as, z, h', S, ra, ras, e, k⟩
  unfold oAppend at e
  split at e
  · rename_i n w
    cases ra with
    | @loc _ a1 ea =>
    cases ras with
    | @cons _ y _ _ r1 r2 =>
    cases r2
    split at e
    · rename_i ys e2
      obtain ⟨vs, q1, r3⟩ := S.lst ea e2
      split at e
      · rename_i hl
        cases e
        have mu : Mu (H a1) := by rw [q1]; trivial
        have g : Grow ρ ρ H (upd H a1 (.lst (vs ++ [y]))) := Grow.put mu
        exact mt_append pins s σ H _ _ v us Q I rx rs ⟨a1, vs, y, rfl, rfl, q1, by rw [← r3.length]; exact hl, k ρ _ _ g (S.put (u := .lst (ys ++ [w])) ea mu ⟨_, upd_same, (r3.mono g).append (.cons (r1.mono g) .nil)⟩) .non⟩
      · cases e
    · cases e
  · cases e
def txts : List Val → Option (List Str)
  | [] => some []
  | .str s :: r => (txts r).map (s :: ·)
  | _ :: _ => none
theorem txts_rep {K : Gw} {ρ : List Addr} {H : Hp} : ∀ {xs : List Val} {vs : List V} {ss : List Str}, RepL K ρ H xs vs → txts xs = some ss → vs = ss.map V.str
  | _, _, _, .nil, e => by cases e; rfl
  | _, _, ss, .cons r t, e => by
    cases r with
    | str b =>
      rename_i xs vs
      have e : (txts xs).map (b :: ·) = some ss := e
      cases e1 : txts xs with
      | none => rw [e1] at e; cases e
      | some cs => rw [e1] at e; cases e; rw [txts_rep t e1]; rfl
    | _ => cases e
def vStrs (v : Val) (h : Hh) : Option (List Str) := match v with
  | .tup xs => txts xs
  | .loc n => (match h[n]? with
    | some (.lst xs) => txts xs
    | _ => none)
  | _ => none
def oJoin : OpM := fun a as h => match a, as with
  | .str s, [v] => (match vStrs v h with
    | some ys => if (ys.map (·.length)).sum + ys.length * s.length ≤ 16777216 then some (.str (Txt.join s ys), h) else none
    | none => none)
  | _, _ => none
theorem mt_join_x : MtR X "str.join" (rSM (gw X) oJoin) := by
  intro pins s σ H x xs v us Q I rx rs ⟨ρ, h, a, as, z, h', S, ra, ras, e, k⟩
  unfold oJoin at e
  split at e
  · rename_i t w
    cases ra
    cases ras with
    | @cons _ y _ _ r1 r2 =>
    cases r2
    split at e
    · rename_i ys ey
      split at e
      · rename_i hl
        cases e
        have fin := k ρ H _ (Grow.refl _ _) S (.str _)
        unfold vStrs at ey
        split at ey
        · cases r1 with
          | @tup a1 zs vs s1 q1 =>
          have ev := txts_rep q1 ey
          subst ev
          exact mt_join pins s σ H _ _ v us Q I rx rs ⟨_, a1, ys, rfl, rfl, .inr s1, hl, fin⟩
        · cases r1 with
          | @loc n a1 ea =>
          split at ey
          · rename_i zs e2
            obtain ⟨vs, q1, r3⟩ := S.lst ea e2
            have ev := txts_rep r3 ey
            subst ev
            exact mt_join pins s σ H _ _ v us Q I rx rs ⟨_, a1, ys, rfl, rfl, .inl (.inl (.inl q1)), hl, fin⟩
          · cases ey
        · cases ey
      · cases e
    · cases e
  · cases e

/-! ### x[i] = e -/
def putX {κ : Type} [DecidableEq κ] (kvs : List (κ × Val)) (k : κ) (v : Val) : List (κ × Val) :=
  if (kvs.any fun kv => decide (kv.1 = k)) = true then kvs.map (fun kv => if kv.1 = k then (kv.1, v) else kv) else kvs ++ [(k, v)]
def keyOf : Val → Option Key
  | .int i => some (.inl i)
  | .str s => some (.inr s)
  | _ => none
def oSet (o i v : Val) (h : Hh) : Option Hh := match o with
  | .loc n => (match h[n]? with
    | some (.lst xs) => (match i with
      | .int k => (ixN xs.length k).map fun j => h.set n (.lst (xs.set j v))
      | _ => none)
    | some (.dct kvs) => (match keyOf i with
      | some k => if kvs.length < sizeLine then some (h.set n (.dct (putX kvs k v))) else none
      | none => none)
    | _ => none)
  | _ => none
def rSetX (K : Gw) : TSet := fun o i v H Q => ∃ ρ h a b c h', Sim K ρ H h ∧ Rep K ρ H a o ∧ Rep K ρ H b i ∧ Rep K ρ H c v ∧ oSet a b c h = some h' ∧ ∀ ρ' H', Grow ρ ρ' H H' → Sim K ρ' H' h' → Q H'
theorem Sim.dct {K : Gw} {ρ : List Addr} {H : Hp} {h : Hh} {n : Nat} {a : Addr} {xs : List (Key × Val)} (S : Sim K ρ H h) (ha : ρ[n]? = some a) (e : h[n]? = some (.dct xs)) : ∃ vs, H a = some (.dK vs) ∧ RepF K ρ H xs vs := by
  obtain ⟨b, e1, r⟩ := S.at_ n _ e
  rw [ha] at e1
  cases e1
  exact r
theorem keyOf_rep {K : Gw} {ρ : List Addr} {H : Hp} {v : Val} {u : V} {k : Key} (r : Rep K ρ H v u) (e : keyOf v = some k) : u = kV k := by
  cases r <;> first | (cases e; rfl) | (cases e)
theorem any_rep {K : Gw} {ρ : List Addr} {H : Hp} (k : Key) : ∀ {xs : List (Key × Val)} {vs : List (Key × V)}, RepF K ρ H xs vs → (vs.any fun kv => decide (kv.1 = k)) = xs.any fun kv => decide (kv.1 = k)
  | _, _, .nil => rfl
  | _, _, .cons r t => by
    rw [List.any_cons, List.any_cons, any_rep k t, r.1]
theorem RepF.append {κ : Type} {K : Gw} {ρ : List Addr} {H : Hp} : ∀ {xs ys : List (κ × Val)} {vs ws : List (κ × V)}, RepF K ρ H xs vs → RepF K ρ H ys ws → RepF K ρ H (xs ++ ys) (vs ++ ws)
  | _, _, _, _, .nil, s => s
  | _, _, _, _, .cons r t, s => .cons r (RepF.append t s)
theorem map_rep {K : Gw} {ρ : List Addr} {H : Hp} {k : Key} {v : Val} {u : V} (rv : Rep K ρ H v u) : ∀ {xs : List (Key × Val)} {vs : List (Key × V)}, RepF K ρ H xs vs →
    RepF K ρ H (xs.map fun kv => if kv.1 = k then (kv.1, v) else kv) (vs.map fun kv => if kv.1 = k then (kv.1, u) else kv)
  | _, _, .nil => .nil
  | _, _, .cons (a := p) (b := q) r t => by
    rw [List.map_cons, List.map_cons]
    refine .cons ?_ (map_rep rv t)
    by_cases h : p.1 = k
    · rw [if_pos h, if_pos (r.1 ▸ h)]
      exact ⟨r.1, rv⟩
    · rw [if_neg h, if_neg (r.1 ▸ h)]
      exact r
theorem putX_rep {K : Gw} {ρ : List Addr} {H : Hp} {k : Key} {v : Val} {u : V} {xs : List (Key × Val)} {vs : List (Key × V)} (rv : Rep K ρ H v u) (r : RepF K ρ H xs vs) : RepF K ρ H (putX xs k v) (putK vs k u) := by
  unfold putX putK
  rw [any_rep k r]
  split
  · exact map_rep rv r
  · exact r.append (.cons ⟨rfl, rv⟩ .nil)
theorem set_x (hu : X.A.units + 1 < cLine) : PSet X (rSetX (gw X)) := by
  intro pins s σ H o i v ov iv u Q I ro ri rv ⟨ρ, h, a, b, c, h', S, ra, rb, rc, e, k⟩
  unfold oSet at e
  split at e
  · cases ra with
    | @loc n a1 ea =>
    split at e
    · rename_i xs e2
      obtain ⟨vs, q1, r3⟩ := S.lst ea e2
      split at e
      · rename_i j
        cases rb
        cases e1 : ixN xs.length j with
        | none => rw [e1] at e; cases e
        | some m =>
          rw [e1] at e
          cases e
          have mu : Mu (H a1) := by rw [q1]; trivial
          have g : Grow ρ ρ H (upd H a1 (.lst (vs.set m v))) := Grow.put mu
          exact set_list pins s σ H _ _ v ov iv u Q I ro ri rv ⟨a1, vs, j, m, rfl, rfl, q1, by rw [← r3.length]; exact e1, k ρ _ g (S.put (u := .lst (xs.set m c)) ea mu ⟨_, upd_same, RepL.set (rc.mono g) m (r3.mono g)⟩)⟩
      · cases e
    · rename_i kvs e2
      obtain ⟨vs, q1, r3⟩ := S.dct ea e2
      split at e
      · rename_i key ek
        split at e
        · rename_i hl
          cases e
          have mu : Mu (H a1) := by rw [q1]; trivial
          have eb := keyOf_rep rb ek
          subst eb
          have g : Grow ρ ρ H (upd H a1 (.dK (putK vs key v))) := Grow.put mu
          cases (show ov = Value.ref a1 from ro)
          exact d_setItem hu I (DPut.k q1 (by rw [← Paired.length r3]; exact hl)) ri rv fun s' I' => ⟨_, I', k ρ _ g (S.put (u := .dct (putX kvs key c)) ea mu ⟨_, upd_same, putX_rep (rc.mono g) (r3.mono g)⟩)⟩
        · cases e
      · cases e
    · cases e
  · cases e
def sSetIx (o i x : XE) : XS := fun e h => match x e h with
  | .ok v h1 => (match o e h1 with
    | .ok ov h2 => (match i e h2 with
      | .ok iv h3 => (match oSet ov iv v h3 with
        | some h4 => .nx e h4
        | none => .stuck)
      | .exc c fs h3 => .exc c fs e h3
      | .stuck => .stuck)
    | .exc c fs h2 => .exc c fs e h2
    | .stuck => .stuck)
  | .exc c fs h1 => .exc c fs e h1
  | .stuck => .stuck
theorem setIx_of {K : Gw} {o i x : XE} {D : Ends} {σ : St} {H : Hp} (h : tXS K W (sSetIx o i x) D σ H) : tAsg (tX K W x) (gSub (tX K W o) (tX K W i) (rSetX K)) D σ H := by
  obtain ⟨ρ, env, h, S, E, p⟩ := h
  refine ⟨ρ, env, h, S, E, (afterE (f := fun v h1 => match o env h1 with
    | .ok ov h2 => (match i env h2 with
      | .ok iv h3 => (match oSet ov iv v h3 with
        | some h4 => .nx env h4
        | none => .stuck)
      | .exc c fs h3 => .exc c fs env h3
      | .stuck => .stuck)
    | .exc c fs h2 => .exc c fs env h2
    | .stuck => .stuck) E p).imp fun v h1 ρ1 H1 g1 S1 q1 u ru => ⟨ρ1, env, h1, S1, E.mono g1, (afterE (f := fun ov h2 => match i env h2 with
      | .ok iv h3 => (match oSet ov iv v h3 with
        | some h4 => .nx env h4
        | none => .stuck)
      | .exc c fs h3 => .exc c fs env h3
      | .stuck => .stuck) (E.mono g1) q1).imp fun ov h2 ρ2 H2 g2 S2 q2 u2 ru2 => ⟨ρ2, env, h2, S2, (E.mono g1).mono g2, (afterE (f := fun iv h3 => match oSet ov iv v h3 with
        | some h4 => .nx env h4
        | none => .stuck) ((E.mono g1).mono g2) q2).imp fun iv h3 ρ3 H3 g3 S3 q3 u3 ru3 => ?_⟩⟩⟩
  cases e1 : oSet ov iv v h3 with
  | none => rw [e1] at q3; exact q3.elim
  | some h4 =>
    rw [e1] at q3
    exact ⟨ρ3, h3, ov, iv, v, h4, S3, ru2.mono g3, ru3, (ru.mono g2).mono g3, e1, fun ρ' H' g s => q3 ρ' H' σ g s ((((E.mono g1).mono g2).mono g3).mono g)⟩
theorem qs_setIx {o i e : Expr} {xo xi x : XE} {pos pos' : Pos} (hu : X.A.units + 1 < cLine) (ho : QE X W o xo) (hi : QE X W i xi) (he : QE X W e x) (hs : swapsWithSole [.Subscript o i pos'] e pos.line X.env = pure false := by rfl) (hw : swappedStores [.Subscript o i pos'] e X.env = pure none := by rfl)
    (ha : ∀ v, assign (.Subscript o i pos') X.env v = (do
      let ov ← holding [v] (eval o X.env)
      let iv ← holding [v, ov] (eval i X.env)
      standAt pos'
      holding [v, ov, iv] (setItem ov iv v)
      release [v, ov, iv] []) := by intro _; rfl)
    (h1 : (assignEach [.Subscript o i pos'] X.env).map (·.2) = [assign (.Subscript o i pos') X.env] := by rfl) : QS X W (.Assign [.Subscript o i pos'] e pos) (sSetIx xo xi x) :=
  PS.of (ps_asg he (pg_sub ho hi (set_x hu) ha) hs hw h1) fun _ _ _ => setIx_of

/-! ### a, b = x, y; a, b, c = x, y, z (plain locals) -/
def sPar (is : List Nat) (a : XA) : XS := fun e h => match a e h with
  | .ok vs h1 => (match is, vs with
    | [i, j], [v, w] => .nx ((e.set i (some v)).set j (some w)) h1
    | [i, j, l], [u, v, w] => .nx (((e.set i (some u)).set j (some v)).set l (some w)) h1
    | _, _ => .stuck)
  | .exc c fs h1 => .exc c fs e h1
  | .stuck => .stuck
theorem afterA {K : Gw} {x : XA} {ρ : List Addr} {H : Hp} {σ : St} {env : En} {h : Hh} {D : Ends} {f : List Val → Hh → RS} (E : EnvR K ρ H W.s env σ)
    (p : PostS K W ρ H D (match x env h with | .ok v h1 => f v h1 | .exc c fs h1 => .exc c fs env h1 | .stuck => .stuck)) : Post K W σ ρ H (fun v h1 ρ1 H1 => PostS K W ρ1 H1 D (f v h1)) (x env h) := by
  cases e : x env h with
  | ok v h1 => rw [e] at p; exact fun ρ1 H1 g1 S1 => PostS.mono g1 p
  | exc c fs h1 => rw [e] at p; exact fun ρ1 H1 d cv g1 S1 xc => p ρ1 H1 d σ cv g1 S1 (E.mono g1) xc
  | stuck => rw [e] at p; exact p
theorem qs_par {i j : Nat} {x y : Str} {a b : Expr} {ta : XA} {px py pt pos : Pos} {kt k2 : Nat} {pt2 : Pos} (hc : X.calm = true) (hN : X.N.Nodup) (hi : X.N[i]? = some x) (hj : X.N[j]? = some y) (hij : i ≠ j)
    (hx : X.env.scope.names.lookup x = some .local) (hy : X.env.scope.names.lookup y = some .local) (ha : QA X W [a, b] ta)
    (hw : swappedStores [.Tuple [.Name x px, .Name y py] kt pt] (.Tuple [a, b] k2 pt2) X.env = pure (some [x, y]))
    (hs : swapsWithSole [.Tuple [.Name x px, .Name y py] kt pt] (.Tuple [a, b] k2 pt2) pos.line X.env = pure false := by rfl) (h0 : W.s = none := by rfl) :
    QS X W (.Assign [.Tuple [.Name x px, .Name y py] kt pt] (.Tuple [a, b] k2 pt2) pos) (sPar [i, j] ta) := PS.of (ps_par hc hN hi hj hij hx hy ha hw hs) fun D σ H ⟨ρ, env, h, S, E, p⟩ =>
  ⟨ρ, env, h, S, E, (afterA (f := fun vs h1 => match [i, j], vs with
    | [i, j], [v, w] => .nx ((env.set i (some v)).set j (some w)) h1
    | [i, j, l], [u, v, w] => .nx (((env.set i (some u)).set j (some v)).set l (some w)) h1
    | _, _ => .stuck) E p).imp fun vs h1 ρ1 H1 g1 S1 q us rs => by
      cases rs with
      | nil => exact q.elim
      | cons r1 r2 =>
        cases r2 with
        | nil => exact q.elim
        | cons r3 r4 =>
          cases r4 with
          | nil => exact ⟨_, _, rfl, q ρ1 H1 _ (Grow.refl _ _) S1 (((E.mono g1).set i r1 (fun q z => by rw [h0] at z; cases z)).set j r3 (fun q z => by rw [h0] at z; cases z))⟩
          | cons _ _ => exact q.elim⟩

/-! ### dict displays -/
def xPairs : List (XE × XE) → En → Hh → Res (List (Val × Val))
  | [], _, h => .ok [] h
  | (a, b) :: r, e, h => (a e h).bind fun x h1 => (b e h1).bind fun y h2 => (xPairs r e h2).bind fun ps h3 => .ok ((x, y) :: ps) h3
def keysOf : List (Val × Val) → Option (List (Key × Val))
  | [] => some []
  | (a, b) :: r => match keyOf a, keysOf r with
    | some k, some ks => some ((k, b) :: ks)
    | _, _ => none
def mergeX (kvs more : List (Key × Val)) : List (Key × Val) := more.foldl (fun acc kv => putX acc kv.1 kv.2) kvs
def xDict (ps : List (XE × XE)) : XE := fun e h => (xPairs ps e (h ++ [.dct []])).bind fun qs h2 => match keysOf qs, h2[h.length]? with
  | some kvs, some (.dct []) => if kvs.length ≤ 15 then .ok (.loc h.length) (h2.set h.length (.dct (mergeX [] kvs))) else .stuck
  | _, _ => .stuck
def RepP (K : Gw) (ρ : List Addr) (H : Hp) : List (Val × Val) → List (V × V) → Prop := Paired fun p q => Rep K ρ H p.1 q.1 ∧ Rep K ρ H p.2 q.2
theorem pairs_of {K : Gw} {env : En} {σ : St} : ∀ {ps : List (XE × XE)} {ρ : List Addr} {H : Hp} {h : Hh} {Q : List (V × V) → Hp → Prop}, Sim K ρ H h → EnvR K ρ H W.s env σ →
    Post K W σ ρ H (fun qs _ ρ1 H1 => ∀ us, RepP K ρ1 H1 qs us → Q us H1) (xPairs ps env h) → tPairs (ps.map fun p => (tX K W p.1, tX K W p.2)) σ H Q
  | [], ρ, H, h, Q, S, E, p => p ρ H (Grow.refl _ _) S [] .nil
  | (a, b) :: r, ρ, H, h, Q, S, E, p => ⟨ρ, env, h, S, E, (Post.bind p).imp fun x h1 ρ1 H1 g1 S1 q1 u ru => ⟨ρ1, env, h1, S1, E.mono g1, (Post.bind q1).imp fun y h2 ρ2 H2 g2 S2 q2 w rw' =>
      pairs_of S2 ((E.mono g1).mono g2) ((Post.bind q2).imp fun qs h3 ρ3 H3 g3 S3 q3 us rs => q3 ρ3 H3 (Grow.refl _ _) S3 _ (.cons ⟨(ru.mono g2).mono g3, rw'.mono g3⟩ rs))⟩⟩
theorem keysOf_rep {K : Gw} {ρ : List Addr} {H : Hp} : ∀ {qs : List (Val × Val)} {us : List (V × V)} {kvs : List (Key × Val)}, RepP K ρ H qs us → keysOf qs = some kvs → ∃ vs : List (Key × V), us = vs.map (fun kv => (kV kv.1, kv.2)) ∧ RepF K ρ H kvs vs
  | _, _, _, .nil, e => by cases e; exact ⟨[], rfl, .nil⟩
  | _, _, kvs, .cons (a := p) (b := q) (l₁ := l1) r t, e => by
    have e : (match keyOf p.1, keysOf l1 with | some k, some ks => some ((k, p.2) :: ks) | _, _ => none) = some kvs := e
    split at e
    · rename_i k ks e1 e2
      cases e
      obtain ⟨vs, e3, r3⟩ := keysOf_rep t e2
      refine ⟨(k, q.2) :: vs, ?_, .cons ⟨rfl, r.2⟩ r3⟩
      rw [List.map_cons, e3, ← keyOf_rep r.1 e1]
    · cases e
theorem merge_rep {K : Gw} {ρ : List Addr} {H : Hp} : ∀ {more : List (Key × Val)} {rs : List (Key × V)} {kvs : List (Key × Val)} {vs : List (Key × V)}, RepF K ρ H more rs → RepF K ρ H kvs vs → RepF K ρ H (mergeX kvs more) (mergeK vs rs)
  | _, _, _, _, .nil, s => s
  | _, _, _, _, .cons (a := p) (b := q) r t, s => by
    unfold mergeX mergeK
    rw [List.foldl_cons, List.foldl_cons, ← r.1]
    exact merge_rep t (putX_rep r.2 s)
theorem new_dct {K : Gw} {ρ : List Addr} {H : Hp} {h : Hh} {p : Addr} (S : Sim K ρ H h) (hp : H p = none) :
    Grow ρ (ρ ++ [p]) H (upd H p (.dK [])) ∧ Sim K (ρ ++ [p]) (upd H p (.dK [])) (h ++ [.dct []]) ∧ (ρ ++ [p])[h.length]? = some p := by
  have g : Grow ρ (ρ ++ [p]) H (upd H p (.dK [])) := (Grow.new hp).snoc
  refine ⟨g, S.laid hp ⟨[], upd_same, .nil⟩, ?_⟩
  rw [List.getElem?_append_right (by rw [S.len]; exact Nat.le_refl _), S.len, Nat.sub_self]
  rfl
theorem q_dict0 {pos : Pos} : QE X W (.Dict [] [] pos) (xDict []) := PE.of pe_dnewK fun σ H Q ⟨ρ, env, h, S, E, p⟩ q hq => by
  obtain ⟨g, s, r⟩ := new_dct S hq
  have e1 : (h ++ [Ob.dct []])[h.length]? = some (.dct []) := by simp
  have e2 : (h ++ [Ob.dct []]).set h.length (.dct []) = h ++ [.dct []] := by simp
  have p : Post (gw X) W σ ρ H (RV (gw X) Q) (match (some [] : Option (List (Key × Val))), (h ++ [Ob.dct []])[h.length]? with
    | some kvs, some (.dct []) => if kvs.length ≤ 15 then .ok (.loc h.length) ((h ++ [Ob.dct []]).set h.length (.dct (mergeX [] kvs))) else .stuck
    | _, _ => .stuck) := p
  rw [e1] at p
  have p : Post (gw X) W σ ρ H (RV (gw X) Q) (.ok (.loc h.length) ((h ++ [Ob.dct []]).set h.length (.dct []))) := p
  rw [e2] at p
  exact p _ _ g s _ (.loc r)
theorem dict_of {K : Gw} {ps : List (XE × XE)} {σ : St} {H : Hp} {Q : VK} (h : tX K W (xDict ps) σ H Q) : tDisp (ps.map fun p => (tX K W p.1, tX K W p.2)) σ H Q := by
  obtain ⟨ρ, env, h, S, E, p⟩ := h
  intro a ha
  obtain ⟨g, s, r⟩ := new_dct S ha
  refine pairs_of s (E.mono g) ((Post.bind (Post.mono g p)).imp fun qs h2 ρ2 H2 g2 S2 q us rs => ?_)
  split at q
  · rename_i kvs e1 e2
    split at q
    · rename_i hl
      obtain ⟨vs, e3, r3⟩ := keysOf_rep rs e1
      obtain ⟨ws, e4, r4⟩ := S2.dct (g2.get r) e2
      cases r4
      have mu : Mu (H2 a) := by rw [e4]; trivial
      have g3 : Grow ρ2 ρ2 H2 (upd H2 a (.dK (mergeK [] vs))) := Grow.put mu
      exact ⟨e4, vs, e3, by rw [← Paired.length r3]; exact hl, q ρ2 _ g3 (S2.put (u := .dct (mergeX [] kvs)) (g2.get r) mu ⟨_, upd_same, (merge_rep r3 .nil).mono g3⟩) _ (.loc (g2.get r))⟩
    · exact q.elim
  · exact q.elim
theorem q_dict {keys : List (Option Expr)} {values : List Expr} {pos : Pos} {ps : List (XE × XE)} (h : PPs X pos keys values (ps.map fun p => (tX (gw X) W p.1, tX (gw X) W p.2))) (hall : keys.all (·.isSome) = true := by rfl) (hl : keys.length = values.length := by rfl) (h0 : keys ≠ [] := by simp)
    (h15 : keys.length ≤ 15 := by decide) : QE X W (.Dict keys values pos) (xDict ps) := PE.of (pe_disp h hall hl h0 h15) fun _ _ _ => dict_of
end
end EX

set_option Elab.async false
set_option linter.all false
set_option maxRecDepth 100000
set_option maxHeartbeats 1000000
namespace EX
open PySem L2
section
variable {X : Cx} {W : Wd} {k : Nat} {f : Addr} {fd : FuncData} {ps : List Str} {sp : Sp} {G : Fn} {x : Str} {p pos : Pos} {e : Expr} {es : List Expr}
theorem pe_g0 (F : FnG X.prog X.w X.K X.mg X.base k f fd ps sp) (hr : Room k X.A) (hgd : X.A.guards = some []) (hg : Gl X x) (hm : X.mg x = some (.ref f)) (hk : PySem.W.keepIn X.K (.ref f) = true) (hb : Binds X.K fd ps []) (tk : Takes X W.w)
    (hdb : (x == ("__debug__" : Str)) = false) : PE X (.Call (.Name x p) [] [] pos) (tCallSD sp [] (WE W.w) tNil) :=
  ⟨fun pins s σ H Q I h => wpAny_Call_Name_kw (ld_glob I hg hm (PySem.W.callWith_K0 I.kIn hk (run_g (us := []) F hr hgd hb .nil tk I .nil h)) hdb)⟩
theorem q_call0 {n : Nat} (F : FnG X.prog X.w X.K X.mg X.base k f fd ps (spX (gw X) n G)) (hr : Room k X.A) (hgd : X.A.guards = some []) (hg : Gl X x) (hm : X.mg x = some (.ref f)) (hk : PySem.W.keepIn X.K (.ref f) = true) (hb : Binds X.K fd ps []) (tk : Takes X W.w)
    (hdb : (x == ("__debug__" : Str)) = false := by decide) : QE X W (.Call (.Name x p) [] [] pos) (xCall n G xNil) :=
  PE.of (pe_g0 F hr hgd hg hm hk hb tk hdb) fun σ H Q h => by
    obtain ⟨ρ, env, h1, S, E, q⟩ := callX_of h
    exact q ρ H (Grow.refl _ _) S [] .nil
/-- constants of the module -/
theorem q_gint {i : Int} (hm : ∃ t, X.mg x = some (.int i t)) (hg : Gl X x) (hd : (x == ("__debug__" : Str)) = false := by decide) : QE X W (.Name x pos) (xC (.int i)) := by
  obtain ⟨t, hm⟩ := hm
  exact q_c (pe_glob (v := .int i) hg hm ⟨t, rfl⟩ hd) fun _ _ => .int i
theorem q_gstr {i : Str} (hm : ∃ t, X.mg x = some (.str i t)) (hg : Gl X x) (hd : (x == ("__debug__" : Str)) = false := by decide) : QE X W (.Name x pos) (xC (.str i)) := by
  obtain ⟨t, hm⟩ := hm
  exact q_c (pe_glob (v := .str i) hg hm ⟨t, rfl⟩ hd) fun _ _ => .str i
/-- a tuple of the written part -/
def KTup (K : PySem.W.Frag) (mg : Str → Option Value) (x : Str) (vs : List V) : Prop := ∃ a, mg x = some (.ref a) ∧ ∀ H, SqT K H a vs
def flatV2 : Val → V
  | .non => .non
  | .bl b => .bl b
  | .int i => .int i
  | .str s => .str s
  | .ty n => .ty n
  | _ => .non
theorem repL_flatV {K : Gw} {ρ : List Addr} {H : Hp} : ∀ {xs : List Val}, xs.all flatX = true → RepL K ρ H xs (xs.map flatV2)
  | [], _ => .nil
  | x :: xs, h => by
    rw [List.all_cons, Bool.and_eq_true] at h
    refine .cons ?_ (repL_flatV h.2)
    have h1 := h.1
    cases x <;> first | exact .non | exact .bl _ | exact .int _ | exact .str _ | cases h1
theorem q_gtup {xs : List Val} (hm : KTup X.K X.mg x (xs.map flatV2)) (hg : Gl X x) (hf : xs.all flatX = true := by rfl) (hd : (x == ("__debug__" : Str)) = false := by decide) : QE X W (.Name x pos) (xC (.tup xs)) := by
  obtain ⟨a, hm, hs⟩ := hm
  exact q_c (pe_glob (v := .ref a) hg hm rfl hd) fun ρ H => .tup (hs H) (repL_flatV hf)
/-- a built-in class as a value -/
theorem q_ty {n : String} (hg : Gl X x) (hm : X.mg x = none) (hv : bootBuiltins x = some (.type n)) (hn : x ≠ "__name__" := by decide) (hd : (x == ("__debug__" : Str)) = false := by decide) : QE X W (.Name x pos) (xC (.ty n)) :=
  q_c (pe_bltn (v := .ty n) hg hm hv rfl hn hd) fun _ _ => .ty n
/-! ### text * number -/
def mulOk (x : Str) (n : Int) : Bool := !(decide (n < -(2 ^ 63 : Int)) || decide (n ≥ 2 ^ 63)) && (decide (n < 1) || (n == 1 || x.length == 0) || (decide (n ≤ 1000) && decide (x.length ≤ 1000)))
theorem mulOk_ok {x : Str} {n : Int} (h : mulOk x n = true) : MulOk x n := by
  unfold mulOk at h
  simp only [Bool.and_eq_true, Bool.or_eq_true, Bool.not_eq_true', Bool.or_eq_false_iff, decide_eq_false_iff_not, decide_eq_true_eq] at h
  obtain ⟨⟨h1, h2⟩, h3⟩ := h
  refine ⟨by simp only [Bool.or_eq_false_iff, decide_eq_false_iff_not]; exact ⟨h1, h2⟩, fun n1 n2 => ?_, fun n1 n2 => ?_⟩
  · rcases h3 with (h3 | h3) | h3
    · exact absurd h3 n1
    · rw [Bool.or_eq_false_iff] at n2
      rcases h3 with h3 | h3
      · rw [h3] at n2; exact absurd n2.1 (by decide)
      · rw [h3] at n2; exact absurd n2.2 (by decide)
    · have hx : (x.length : Int) ≤ 1000 := by omega
      have : (1000 : Int) ≤ (2 ^ 63 - 1) / n := by
        rw [Int.le_ediv_iff_mul_le (by omega)]
        have := h3.1
        omega
      omega
  · rcases h3 with (h3 | h3) | h3
    · exact absurd h3 n1
    · rw [Bool.or_eq_false_iff] at n2
      rcases h3 with h3 | h3
      · rw [h3] at n2; exact absurd n2.1 (by decide)
      · rw [h3] at n2; exact absurd n2.2 (by decide)
    · have h4 : x.length * n.toNat ≤ 1000 * 1000 := Nat.mul_le_mul h3.2 (by have := h3.1; omega)
      unfold Builtin.Str.tooLong
      simp only [decide_eq_false_iff_not]
      rw [sizeLine_eq]
      omega
def oMul2 : Op2 := fun a b h => match a, b with
  | .str x, .int n => if mulOk x n = true then some (.str (Txt.mul x n), h) else none
  | _, _ => oMul a b h
theorem op_mul2_x : OpR X (binaryOp .Mult) (rS2 (gw X) oMul2) := by
  intro pins s σ H x y v u Q I rx ry ⟨ρ, h, a, b, z, h', S, ra, rb, e, k⟩
  unfold oMul2 at e
  split at e
  · cases ra; cases rb
    split at e
    · rename_i hc
      cases e
      obtain ⟨t, rfl⟩ := rx
      obtain ⟨t2, rfl⟩ := ry
      exact SB.mul (mulOk_ok hc) fun t' k' => ⟨.str _, H, I.tok _, ⟨_, rfl⟩, k ρ H _ (Grow.refl _ _) S (.str _)⟩
    · cases e
  · exact op_mul_x pins s σ H x y v u Q I rx ry ⟨ρ, h, a, b, z, h', S, ra, rb, e, k⟩
end
theorem un70 {k : Nat} {A : Around} (hr : Room k A) : A.units + 70 < cLine := by have := hr.un; omega
theorem bt_len : bootBuiltins "len" = some (.builtin "len") := by decide +kernel
theorem bt_isinstance : bootBuiltins "isinstance" = some (.builtin "isinstance") := by decide +kernel
theorem bt_all : bootBuiltins "all" = some (.builtin "all") := by decide +kernel
theorem bt_ord : bootBuiltins "ord" = some (.builtin "ord") := by decide +kernel
theorem bt_max : bootBuiltins "max" = some (.builtin "max") := by decide +kernel
theorem bt_min : bootBuiltins "min" = some (.builtin "min") := by decide +kernel
theorem bt_repr : bootBuiltins "repr" = some (.builtin "repr") := by decide +kernel
theorem bt_int : bootBuiltins "int" = some (.type "int") := by decide +kernel
theorem bt_bool : bootBuiltins "bool" = some (.type "bool") := by decide +kernel
theorem bt_str : bootBuiltins "str" = some (.type "str") := by decide +kernel
theorem bt_tuple : bootBuiltins "tuple" = some (.type "tuple") := by decide +kernel
theorem bt_list : bootBuiltins "list" = some (.type "list") := by decide +kernel
theorem bt_dict : bootBuiltins "dict" = some (.type "dict") := by decide +kernel
end EX

set_option Elab.async false
set_option linter.all false
set_option maxRecDepth 100000
set_option maxHeartbeats 1000000
namespace EX
open PySem PySem.Spec PyProof.Rows L2
/-- the script as it is tracked at the law's entry -/
def entryH (K : PySem.W.Frag) (a : Addr) (o : Obj) (ns : List Int) : Hp := fun b => if b = a ∧ K.lookup a = none then some (.frz o (.lst (ns.map V.int))) else none
theorem entry_cases {K : PySem.W.Frag} {a b : Addr} {o : Obj} {ns : List Int} {u : HO} (h : entryH K a o ns b = some u) : b = a ∧ K.lookup a = none ∧ u = .frz o (.lst (ns.map V.int)) := by
  unfold entryH at h
  split at h
  · rename_i c
    cases h
    exact ⟨c.1, c.2, rfl⟩
  · cases h
theorem cx_never {P : Program} {w : World} {outer : List Env} {H : Hp} {s : Shared} {e : Value} {s' : Shared} (h : L2.CX P w outer H s (fun _ _ _ => False) e s') : False := by
  obtain ⟨_, _, _, _, _, _, _, _, _, _, _, _, z⟩ := h
  exact z
theorem law_g {P : Program} {w : World} {K : PySem.W.Frag} {mg mb : Str → Option Value} {k : Nat} {fa a : Addr} {fd : FuncData} {x : Str} {sp : Sp} {s1 : Shared} {vs : List Value} {ns : List Int}
    (KX : K.In s1.heap) (hns : s1.heap.Ns mainGlobals mg) (hb : s1.heap.Ns builtinsNs mb) (hbb : ∀ x : Str, x ≠ "__name__" → mb x = bootBuiltins x) (hlim : s1.heap.NoLimit) (hgen : s1.gens = #[])
    (ha : s1.heap.get? a = some { cls := .type "list", data := .seq vs.toArray }) (hi : IntsAre vs ns) (hl : ns.length ≤ sizeLine) (hr : Room k callerA)
    (F : ∀ base : Heap, K.In base → base.Ns mainGlobals mg → FnG P w K mg base k fa fd [x] sp) (hbind : ∀ (s : Shared) (u : Value), BindsTo s fd ⟨[u], []⟩ [(x, u)])
    (hsp : ∀ H : Hp, Only H → SqL K H a (ns.map V.int) → sp [.ref a] H (fun v _ => v = .bl true) fun _ _ _ => False) :
    codeAny (model P w) callerA (.call (.ref fa) ⟨[.ref a], []⟩) (fun r s' => r = .ok (.ret (.bool true)) ∧ OldK s1.heap s'.heap ∧ s'.os = s1.os ∧ AllBare s'.gens) s1 := by
  have rv := vals_ints hi
  generalize hH : entryH K a { cls := .type "list", data := .seq vs.toArray } ns = H
  have only : Only H := fun b => by
    cases q : H b with
    | none => exact .inl rfl
    | some u => rw [← hH] at q; exact .inr ⟨_, _, by rw [(entry_cases q).2.2]⟩
  have sq : SqL K H a (ns.map V.int) := by
    cases q : K.lookup a with
    | none => exact .inl (.inr ⟨{ cls := .type "list", data := .seq vs.toArray }, by rw [← hH]; exact if_pos ⟨rfl, q⟩⟩)
    | some o =>
      have z := KX a o q
      rw [ha] at z
      cases z
      exact .inr ⟨_, vs.toArray, _, q, rfl, rfl, rfl, by rw [List.size_toArray, hi.length]; exact hl, by simpa using rv⟩
  have hok : HOk P w H s1.heap := fun b u q => by
    rw [← hH] at q
    obtain ⟨rfl, -, rfl⟩ := entry_cases q
    exact ⟨ha, by rw [List.length_map]; exact hl, vs, _, rv, ha⟩
  have nodict : ∀ {b : Addr} {o : Obj} {es : Array DictEntry} {ep : Nat}, s1.heap.get? b = some o → o.data = .dict es ep → H b = none := fun {b o es ep} z d => by
    cases q : H b with
    | none => rfl
    | some u =>
      rw [← hH] at q
      obtain ⟨rfl, -, -⟩ := entry_cases q
      rw [ha] at z
      cases z
      exact absurd (show Data.seq vs.toArray _ = Data.dict es ep from d) (by simp)
  have ns' : ∀ {b : Addr} {m : Str → Option Value}, s1.heap.Ns b m → (hidT s1.heap H).Ns b m := fun ⟨o, es, ep, z, d, r⟩ => ⟨o, es, ep, hidT_get z (nodict z d), d, r⟩
  have kin : K.In (hidT s1.heap H) := fun b o z => hidT_get (KX b o z) (by
    cases q : H b with
    | none => rfl
    | some u =>
      rw [← hH] at q
      obtain ⟨rfl, n, -⟩ := entry_cases q
      rw [n] at z
      cases z)
  have e0 : Env0 P w K mg (hidT s1.heap H) callerA [] s1 H :=
    ⟨rfl, ⟨kin, ns' hns, ⟨mb, ns' hb, hbb⟩, match hlim with | ⟨mc, z1, z2⟩ => ⟨mc, ns' z1, z2⟩⟩, fun _ _ z => of_hidT z, Nat.le_of_eq (hidT_size _ _), trivial, fun _ z => (nomatch z), hok, AllBare.of_eq hgen⟩
  refine codeAny_mono ((F _ kin (ns' hns)).run callerA [] s1 H ⟨[.ref a], []⟩ [.ref a] [.ref a] _ _ hr rfl e0 (hbind s1 (.ref a)) (.cons rfl .nil) (hsp H only sq)) fun res s' z => ?_
  match res, z with
  | .error e, z => exact (cx_never z).elim
  | .ok (.ret u), ⟨v, H', hos, hbare, un, hok', rr, q⟩ =>
    cases (show v = .bl true from q)
    cases (show u = Value.bool true from rr)
    refine ⟨rfl, OldK.of_keep fun b o z => ?_, hos, hbare⟩
    rcases only b with n | ⟨ob, xs, n⟩
    · exact un.keep b o z n (by intro t; cases t) (by simp)
    · have z1 := (hok b _ n).1
      have z2 := (hok' b _ (un.frzs b ob _ n)).1
      rw [z] at z1
      cases z1
      exact z2
theorem walk_g {l : PySem.W.OpenLaw} {n k : Nat} {q : Program} {loose : List Str} {XP : (Str → Option Value) → Heap → Prop} {YP : World → Heap → Prop} {d : DefRec} {x : Str}
    (hn : l.most = some n) (hn2 : n ≤ sizeLine) (hdf : d.params.defaults = []) (hr : Room k callerA)
    (F : ∀ (w : World) (mg : Str → Option Value) (fa : Addr) (h : Heap), YP w h → h.Ns mainGlobals mg → mg d.name = some (.ref fa) →
      ∃ (K : PySem.W.Frag) (fd : FuncData) (sp : Sp), K.In h ∧ (∀ (s : Shared) (u : Value), BindsTo s fd ⟨[u], []⟩ [(x, u)]) ∧
        (∀ (H : Hp) (a : Addr) (ns : List Int), ns.length ≤ n → Only H → SqL K H a (ns.map V.int) → sp [.ref a] H (fun v _ => v = .bl true) fun _ _ _ => False) ∧
        ∀ base : Heap, K.In base → base.Ns mainGlobals mg → FnG l.prog w K mg base k fa fd [x] sp) :
    PySem.W.WalkO q loose XP YP l.row.toRowW d [] (fun f vs => PySem.call f vs) :=
  Att.attach_call hn hdf fun w s0 s1 mg mb fa o pm cd doc a vs ns G Y ho hd hcd hmg hobj hints hlen hg =>
    match F w mg fa _ Y G.T.g hmg with
    | ⟨_, _, _, KX, hb, hsp, hF⟩ => law_g KX G.T.g G.T.b G.T.builtins G.T.nolimit hg hobj hints (Nat.le_trans hlen hn2) hr hF hb fun H hO hS => hsp H a ns hlen hO hS
/-- the law's promise from what its function yields -/
theorem law_sp {K : Gw} {G : Fn} {H : Hp} {a : Addr} {ns : List Int} (h : ∃ h', G [.scr (ns.map Val.int)] [] = .ok (.bl true) h') (hO : Only H) (hS : SqL K.K H a (ns.map V.int)) : spX K 1 G [.ref a] H (fun v _ => v = .bl true) fun _ _ _ => False := by
  have hints : ∀ l : List Int, RepL K [] H (l.map Val.int) (l.map V.int) := fun l => by
    induction l with
    | nil => exact .nil
    | cons i l ih => exact .cons (.int i) ih
  have ro : RoS K.K H a (ns.map V.int) := by
    rcases hS with (z | ⟨o, z⟩) | z
    · rcases hO a with q | ⟨_, _, q⟩ <;> rw [q] at z <;> cases z
    · exact .inl ⟨o, z⟩
    · exact .inr z
  obtain ⟨h', e⟩ := h
  refine ⟨[], [], [.scr (ns.map Val.int)], ⟨rfl, List.nodup_nil, fun n o z => by simp at z⟩, .cons (.scr ro (hints ns)) .nil, rfl, ?_⟩
  rw [e]
  intro ρ' H' _ _ u r
  cases r
  rfl
end EX

set_option Elab.async false
set_option linter.all false
set_option maxRecDepth 100000
set_option maxHeartbeats 1000000
namespace EX
open PySem PySem.Spec L2
open PyProof.Rows hiding St
/-! ### an exception that is looked at by the clauses of a try -/
structure Caught (X : Cx) (pins : List (Addr × Obj)) (σ : St) (H : Hp) (cls : Value) (d : Option Addr) (a : Addr) (s : Shared) : Prop where
  ex : ∃ (B : Heap) (sI : Shared), Inv X pins σ H sI ∧ (∀ b o, sI.heap.get? b = some o → b ∉ frs X.stack → B.get? b = some o) ∧ sI.heap.UpToSlots s.heap ∧
    PySem.HandSPX.FlyingZ B (X.env :: X.outer) a (Zc cls d) s.heap ∧ s.os = sI.os ∧ AllBare s.gens
  na : H a = none
section
variable {X : Cx} {pins : List (Addr × Obj)} {σ : St} {H : Hp} {cls : Value} {d : Option Addr} {a : Addr} {s : Shared}
theorem Caught.inv (c : Caught X pins σ H cls d a s) : Inv X pins σ H s := match c.ex with
  | ⟨_, _, J, nb, up, fl, o, ag⟩ => J.landed nb fl.1 up o ag
theorem Caught.obj (c : Caught X pins σ H cls d a s) : ∃ (oe : Obj) (vs : Array Value), s.heap.get? a = some oe ∧ Zc cls d oe ∧ oe.data = .fields vs ∧ a ∉ frs (X.env :: X.outer) := by
  obtain ⟨B, sI, J, nb, up, fl, o, ag⟩ := c.ex
  obtain ⟨oe, vs, g, z, f⟩ := fl.there
  refine ⟨oe, vs, g, z, f, fun hm => ?_⟩
  obtain ⟨_, o2, g2, n2⟩ := fl.2.2.1.mem hm
  rw [g] at g2
  exact n2 vs (Option.some.inj g2 ▸ f)
theorem Caught.suite (c : Caught X pins σ H cls d a s) (hf : X.env.frame = some X.env.locals) : ∃ oe, Zc cls d oe ∧ (∃ vs, oe.data = .fields vs) ∧ s.heap.get? a = some oe ∧ Inv (X.suite a ((a, oe) :: (X.pn ++ pins))) [] σ H s := by
  obtain ⟨oe, vs, g, z, f, nm⟩ := c.obj
  refine ⟨oe, z, ⟨vs, f⟩, g, c.inv.suite g f c.na (fun q => nm ?_) fun q => nm ?_⟩
  · exact List.mem_filterMap.mpr ⟨X.env, .head _, by rw [hf, q]⟩
  · obtain ⟨e1, m1, q1⟩ := List.mem_filterMap.mp q
    exact List.mem_filterMap.mpr ⟨e1, .tail _ m1, q1⟩
theorem Caught.grow {h' : Heap} (c : Caught X pins σ H cls d a s) (k : ∀ b o, s.heap.get? b = some o → h'.get? b = some o) : Caught X pins σ H cls d a { s with heap := h' } := by
  obtain ⟨B, sI, J, nb, up, ⟨f1, f2, f3, oe, vs, T, oT, ts, z1, z2, z3, z4, z5, z6, z7, z8⟩, o, ag⟩ := c.ex
  exact ⟨⟨B, sI, J, nb, up.trans (Heap.UpToSlots.of_keeps k), ⟨fun b u e => k b u (f1 b u e), f2, f3.of_keeps fun b u e _ => ⟨u, k b u e, rfl⟩, oe, vs, T, oT, ts, k _ _ z1, z2, z3, z4, z5, z6, k _ _ z7, z8⟩, o, ag⟩, c.na⟩
theorem Caught.again {A : Around} {E : Value → Shared → Prop} {Q : Unit → Shared → Prop} (c : Caught X pins σ H cls d a s) (q : ∀ s', Caught X pins σ H cls d a s' → Q () s') : wpAny (model X.prog X.w) A (setFlight (.ref a) none) Q E s := by
  obtain ⟨B, sI, J, nb, up, fl, o, ag⟩ := c.ex
  exact PySem.HandSPX.lands_againZ fl fun h2 fl2 up2 => q _ ⟨⟨B, sI, J, nb, up.trans up2, fl2, o, ag⟩, c.na⟩
theorem Caught.type {M : Model} (c : Caught X pins σ H cls d a s) : PySem.W.Looks M s.heap (typeOf (.ref a)) cls := by
  obtain ⟨oe, vs, g, z, f, nm⟩ := c.obj
  exact fun A Q E s' k q => wpAny_typeOf_ref (k _ _ g) (by rw [z.1]; exact q)
/-- no clause is its -/
theorem Caught.out {W : WX} {Q : Flow → Shared → Prop} (hs : X.stack = X.env :: X.outer) (hf : X.env.frame = some X.env.locals) (tk : Takes X W) (c : Caught X pins σ H cls d a s) (w : W cls d σ H) :
    wpAny (model X.prog X.w) X.A (handleBy (.ref a) X.env []) Q X.xe s := by
  obtain ⟨B, sI, J, nb, up, fl, o, ag⟩ := c.ex
  refine wpAny_handleBy_nil ?_
  have last : ∀ {α : Type} {Q : α → Shared → Prop}, wpAny (model X.prog X.w) X.A (setFlight (.ref a) X.env.frame) (fun _ s4 => wpAny (model X.prog X.w) X.A (throw (.ref a)) Q X.xe s4) X.xe s := fun {α Q} => by
    rw [hf]
    exact PySem.HandSPX.setFlight_upZ fl fun h4 held up4 => wpAny_throw (tk _ _ ⟨a, B, sI, pins, σ, H, cls, d, rfl, J, nb, up.trans up4, .inr (.inr (hs ▸ held)), c.na, o, ag, w⟩)
  obtain ⟨_, _, _, oe, vs, T, oT, ts, g, z, f, v1, _⟩ := fl
  unfold PySem.passOn
  refine wpAny_bind (wpAny_field g f v1 ?_)
  rw [if_neg (by simp)]
  first
    | exact wpAny_bind (wpAny_pure (wpAny_bind last))
    | exact wpAny_bind last
/-- from the air to the clauses -/
theorem caught_of {W : WX} {xe E : Value → Shared → Prop} {u : Value} {Q : Unit → Shared → Prop} (ok : X.Ok) (hs : X.stack = X.env :: X.outer) (hf : X.env.frame = some X.env.locals) (x : L2.XE (X.tr (X.pn ++ pins) xe) W u s)
    (q : ∀ a cls d σ H s', u = .ref a → Caught X pins σ H cls d a s' → W cls d σ H → Q () s') :
    wpAny (model X.prog X.w) X.A (noteFrame u X.env) (fun _ s2 => wpAny (model X.prog X.w) X.A (setFlight u none) Q E s2) E s := by
  obtain ⟨a, B, sI, pn, σ, H, cls, d, rfl, J, nb, up, sky, na, o, ag, w⟩ := x
  have sky2 : Sky B (X.env :: X.outer) a (Zc cls d) X.env.locals s.heap := hs ▸ sky
  exact Sky.land Zc.steady (by rw [ok.frames, hs]) hf sky2 fun h3 fl up3 => q a cls d σ H _ rfl ⟨⟨B, sI, J.ofTry ok, nb, up.trans up3, fl, o, ag⟩, na⟩ w
/-! ### what a clause asks -/
def Tst (X : Cx) (t : Expr) (cs : List Value) : Prop := ∀ (a : Addr) (oe : Obj) (pn : List (Addr × Obj)) (σ : St) (H : Hp) (s : Shared) (cls : Value) (b : Bool) (R : Bool → Shared → Prop) (E : Value → Shared → Prop),
  Inv (X.suite a ((a, oe) :: pn)) [] σ H s → PySem.W.Looks (model X.prog X.w) s.heap (typeOf (.ref a)) cls → PySem.W.exmAny X.K cls cs = some b → (∀ h', (∀ b o, s.heap.get? b = some o → h'.get? b = some o) → R b { s with heap := h' }) →
  wpAny (model X.prog X.w) (X.A.mark (some (.ref a))) (eval t X.env) (fun c s1 => wpAny (model X.prog X.w) (X.A.mark (some (.ref a))) (excMatches (.ref a) c) R E s1) E s
theorem names_ld {x : Str} {c : Value} {np : Pos} (hc : Names X x c) {oe : Obj} {pn : List (Addr × Obj)} (S : Inv (X.suite a ((a, oe) :: pn)) [] σ H s) {Q : Value → Shared → Prop} {E : Value → Shared → Prop} (q : Q c s) :
    wpAny (model X.prog X.w) (X.A.mark (some (.ref a))) (eval (.Name x np) X.env) Q E s := by
  obtain ⟨g, n, m | ⟨m, v, n2⟩⟩ := hc
  · exact ld_glob (X := X.suite a ((a, oe) :: pn)) S g m q n
  · exact ld_blt (X := X.suite a ((a, oe) :: pn)) S g m v q n2 n
theorem tst_one {x : Str} {c : Value} {np : Pos} (hc : Names X x c) : Tst X (.Name x np) [c] := fun a oe pn σ H s cls b R E S L e k => by
  obtain ⟨b1, d1, e1, e2, e3⟩ := PySem.W.exmAny_cons e
  have e2 : some false = some d1 := e2
  cases e2
  rw [Bool.or_false] at e3
  subst e3
  exact names_ld hc S ((PySem.W.exm_one S.kIn L e1).here (k s.heap fun _ _ z => z))
theorem tst_two {x y : Str} {c1 c2 : Value} {p1 p2 tp : Pos} {j : Nat} (h1 : Names X x c1) (h2 : Names X y c2) : Tst X (.Tuple [.Name x p1, .Name y p2] j tp) [c1, c2] := fun a oe pn σ H s cls b R E S L e k => by
  refine wpAny_Tuple (spliced_more (names_ld h1 S (spliced_more (names_ld h2 S (spliced_none ⟨by show _ ≤ sizeLine; rw [sizeLine_eq]; simp, ?_⟩)))))
  have kp : ∀ b o, s.heap.get? b = some o → (s.heap.push { cls := .type "tuple", data := .seq [c1, c2].toArray }).get? b = some o := fun b o z => Heap.get?_push_of_some _ z
  exact (PySem.W.exm_tup2 (S.kIn.keeps kp) (L.keeps kp) (Heap.get?_push_size _ rfl) e).here (k _ kp)
theorem tst_three {x y z : Str} {c1 c2 c3 : Value} {p1 p2 p3 tp : Pos} {j : Nat} (h1 : Names X x c1) (h2 : Names X y c2) (h3 : Names X z c3) : Tst X (.Tuple [.Name x p1, .Name y p2, .Name z p3] j tp) [c1, c2, c3] := fun a oe pn σ H s cls b R E S L e k => by
  refine wpAny_Tuple (spliced_more (names_ld h1 S (spliced_more (names_ld h2 S (spliced_more (names_ld h3 S (spliced_none ⟨by show _ ≤ sizeLine; rw [sizeLine_eq]; simp, ?_⟩)))))))
  have kp : ∀ b o, s.heap.get? b = some o → (s.heap.push { cls := .type "tuple", data := .seq [c1, c2, c3].toArray }).get? b = some o := fun b o z => Heap.get?_push_of_some _ z
  exact (PySem.W.exm_tup3 (S.kIn.keeps kp) (L.keeps kp) (Heap.get?_push_size _ rfl) e).here (k _ kp)
end
/-! ### classes of exceptions, try -/
/-- each class with the names that it is of -/
abbrev Ct := List (Str × List Str)
def subX (ct : Ct) (c d : Str) : Option Bool := (ct.lookup c).map fun l => l.contains d
def anyX (ct : Ct) (c : Str) : List Str → Option Bool
  | [] => some false
  | d :: r => match subX ct c d, anyX ct c r with
    | some b, some e => some (b || e)
    | _, _ => none
structure Hdl where
  cs : List Str
  slot : Option Nat
  run : Str → List (Str × Val) → XS
def unS : Option Nat → En → En
  | none, e => e
  | some i, e => e.set i none
def unslot (i : Option Nat) : RS → RS
  | .nx e h => .nx (unS i e) h
  | .bk e h => .bk (unS i e) h
  | .ct e h => .ct (unS i e) h
  | .rt v h => .rt v h
  | .exc _ _ _ _ => .stuck
  | .stuck => .stuck
def handle (ct : Ct) (c : Str) (fs : List (Str × Val)) (e : En) (h : Hh) : List Hdl → RS
  | [] => .exc c fs e h
  | x :: r => match anyX ct c x.cs with
    | some true => unslot x.slot (x.run c fs (unS x.slot e) h)
    | some false => handle ct c fs e h r
    | none => .stuck
def sTry (ct : Ct) (body : XS) (l : List Hdl) : XS := fun e h => match body e h with
  | .exc c fs e1 h1 => handle ct c fs e1 h1 l
  | r => r
/-- the value of a class's name -/
def Nv (mg : Str → Option Value) (d : Str) (dv : Value) : Prop := mg d = some dv ∨ (mg d = none ∧ bootBuiltins d = some dv)
/-- what isinstance asks of a class of exceptions -/
structure IsC (K : PySem.W.Frag) (C : Addr) : Prop where
  hc : (PySem.W.clsIn K C).isSome = true
  ha : PySem.W.findIn K (.ref C) "__class__" = some (some (.builtin "object.__class__"))
  hn : PySem.W.specialIn K (.builtin "object.__class__") "__get__" = some (some (.builtin "getset_descriptor.__get__"))
  ht : PySem.W.takesIn K (.builtin "object.__class__") = some true
  hm : PySem.W.mroIn K C (.type "object") = some true
structure CtOk (K : PySem.W.Frag) (mg : Str → Option Value) (ct : Ct) (ds fl : List Str) : Prop where
  of : ∀ c l, ct.lookup c = some l → ∃ C, mg c = some (.ref C) ∧ XfC K C ∧ IsC K C ∧ (∀ f ∈ fl, PySem.W.findIn K (.ref C) f = some none) ∧
    ∀ d ∈ ds, ∀ dv, Nv mg d dv → PySem.W.exmOne K (.ref C) dv = some (l.contains d) ∧ PySem.W.kitOne K (.ref C) dv = some (l.contains d)
theorem CtOk.any {K : PySem.W.Frag} {mg : Str → Option Value} {ct : Ct} {ds fl : List Str} (T : CtOk K mg ct ds fl) {c : Str} {cls : Value} (hc : mg c = some cls) : ∀ {cs : List Str} {cvs : List Value} {b : Bool}, Paired (Nv mg) cs cvs → (∀ d ∈ cs, d ∈ ds) → anyX ct c cs = some b →
    PySem.W.exmAny K cls cvs = some b
  | [], _, b, .nil, _, e => e
  | d :: r, _, b, .cons (b := dv) (l₂ := rv) n t, hin, e => by
    have e : (match subX ct c d, anyX ct c r with | some b, some e => some (b || e) | _, _ => none) = some b := e
    split at e
    · rename_i b1 b2 e1 e2
      cases e
      have i2 := T.any hc t (fun z hz => hin z (.tail _ hz)) e2
      unfold subX at e1
      cases e3 : ct.lookup c with
      | none => rw [e3] at e1; cases e1
      | some l =>
        rw [e3] at e1
        cases e1
        obtain ⟨C, hC, _, _, _, hd⟩ := T.of c l e3
        rw [hc] at hC
        cases hC
        have i1 := (hd d (hin d (.head _)) dv n).1
        show (match PySem.W.exmOne K (.ref C) dv, PySem.W.exmAny K (.ref C) rv with | some b, some d => some (b || d) | _, _ => none) = _
        rw [i1, i2]
    · cases e
theorem any_known {ct : Ct} {c : Str} : ∀ {cs : List Str}, anyX ct c cs = some true → ∃ l, ct.lookup c = some l
  | [], e => by cases e
  | d :: r, e => by
    have e : (match subX ct c d, anyX ct c r with | some b, some e => some (b || e) | _, _ => none) = some true := e
    cases q : ct.lookup c with
    | none => unfold subX at e; rw [q] at e; cases e
    | some l => exact ⟨l, rfl⟩
def WNo : WX := fun _ _ _ _ => False
def TstN (X : Cx) (t : Expr) (cs : List Str) : Prop := ∃ cvs, Tst X t cvs ∧ Paired (Nv X.mg) cs cvs
theorem names_nv {X : Cx} {x : Str} {c : Value} (h : Names X x c) : Nv X.mg x c := h.2.2.imp id fun z => ⟨z.1, z.2.1⟩
theorem tn_one {X : Cx} {x : Str} {c : Value} {np : Pos} (h : Names X x c) : TstN X (.Name x np) [x] := ⟨_, tst_one h, .cons (names_nv h) .nil⟩
theorem tn_two {X : Cx} {x y : Str} {c d : Value} {p1 p2 tp : Pos} {j : Nat} (h : Names X x c) (h2 : Names X y d) : TstN X (.Tuple [.Name x p1, .Name y p2] j tp) [x, y] := ⟨_, tst_two h h2, .cons (names_nv h) (.cons (names_nv h2) .nil)⟩
theorem tn_three {X : Cx} {x y z : Str} {c d e : Value} {p1 p2 p3 tp : Pos} {j : Nat} (h : Names X x c) (h2 : Names X y d) (h3 : Names X z e) : TstN X (.Tuple [.Name x p1, .Name y p2, .Name z p3] j tp) [x, y, z] := ⟨_, tst_three h h2 h3, .cons (names_nv h) (.cons (names_nv h2) (.cons (names_nv h3) .nil))⟩
/-- the clauses -/
inductive HdsX (X : Cx) (ct : Ct) (ds : List Str) : List ExceptHandler → List Hdl → Prop
  | nil : HdsX X ct ds [] []
  | plain {t : Expr} {cs : List Str} {b₀ : Stmt} {su : List Stmt} {p : Pos} {run : Str → List (Str × Val) → XS} {hds : List ExceptHandler} {l : List Hdl} (ht : TstN X t cs) (hin : ∀ d ∈ cs, d ∈ ds)
      (hsu : ∀ (a : Addr) (oe : Obj) (cls : Value) (d : Option Addr) (pn : List (Addr × Obj)) (c : Str) (fs : List (Str × Val)), Zc cls d oe → (∃ vs, oe.data = .fields vs) → X.mg c = some cls → (∃ l, ct.lookup c = some l) → QSs (X.suite a ((a, oe) :: pn)) ⟨WNo, none⟩ (b₀ :: su) (run c fs)) (r : HdsX X ct ds hds l) :
      HdsX X ct ds (.ExceptHandler (some t) none (b₀ :: su) p :: hds) (⟨cs, none, run⟩ :: l)
  | named {t : Expr} {cs : List Str} {b₀ : Stmt} {su : List Stmt} {p : Pos} {run : Str → List (Str × Val) → XS} {hds : List ExceptHandler} {l : List Hdl} {n : Str} {i : Nat} (ht : TstN X t cs) (hin : ∀ d ∈ cs, d ∈ ds) (hi : X.N[i]? = some n) (hl : X.env.kindOf n = some .local)
      (hsu : ∀ (a : Addr) (oe : Obj) (cls : Value) (d : Option Addr) (pn : List (Addr × Obj)) (c : Str) (fs : List (Str × Val)), Zc cls d oe → (∃ vs, oe.data = .fields vs) → X.mg c = some cls → (∃ l, ct.lookup c = some l) → QSs (X.suite a ((a, oe) :: pn)) ⟨WNo, some ⟨i, a, d, fs⟩⟩ (b₀ :: su) (run c fs)) (r : HdsX X ct ds hds l) :
      HdsX X ct ds (.ExceptHandler (some t) (some n) (b₀ :: su) p :: hds) (⟨cs, some i, run⟩ :: l)
section
variable {X : Cx} {W : Wd} {pins : List (Addr × Obj)} {σ : St} {H : Hp} {s : Shared} {ct : Ct} {ds fl : List Str}
/-- behind a suite -/
theorem unslot_of {K : Gw} {ρ : List Addr} {D : Ends} {i : Option Nat} {q : Option Sx} {r : RS} (h0 : W.s = none) (p : PostS K W ρ H D (unslot i r)) :
    PostS K ⟨WNo, q⟩ ρ H { nx := fun σ' H' => D.nx (match i with | none => σ' | some i => σ'.set i none) H', rt := D.rt, bk := fun σ' H' => D.bk (match i with | none => σ' | some i => σ'.set i none) H', ct := fun σ' H' => D.ct (match i with | none => σ' | some i => σ'.set i none) H' } r := by
  have key : ∀ {ρ' : List Addr} {H' : Hp} {e : En} {σ' : St}, EnvR K ρ' H' q e σ' → EnvR K ρ' H' W.s (unS i e) (match i with | none => σ' | some i => σ'.set i none) := fun {ρ' H' e σ'} E => by
    rw [h0]
    cases i with
    | none => exact E.drop
    | some i => exact E.drop.unset i none
  cases r with
  | nx e h => exact fun ρ' H' σ' g S E => p ρ' H' _ g S (key E)
  | bk e h => exact fun ρ' H' σ' g S E => p ρ' H' _ g S (key E)
  | ct e h => exact fun ρ' H' σ' g S E => p ρ' H' _ g S (key E)
  | rt v h => exact p
  | exc c fs e h => exact p.elim
  | stuck => exact p
theorem handle_ok {hds : List ExceptHandler} {l : List Hdl} (T : CtOk X.K X.mg ct ds fl) (hh : HdsX X ct ds hds l) (hs : X.stack = X.env :: X.outer) (hf : X.env.frame = some X.env.locals) (hN : X.N.Nodup) (tk : Takes X W.w) (h0 : W.s = none) :
    ∀ {s : Shared} {σ : St} {H : Hp} {cls : Value} {d : Option Addr} {a : Addr} {ρ : List Addr} {c : Str} {fs : List (Str × Val)} {e : En} {h : Hh} {D : Ends}, Caught X pins σ H cls d a s → Sim (gw X) ρ H h → EnvR (gw X) ρ H none e σ → XcR (gw X) ρ H fs d → X.mg c = some cls →
      PostS (gw X) W ρ H D (handle ct c fs e h l) → wpAny (model X.prog X.w) X.A (handleBy (.ref a) X.env hds) (SP X pins D) X.xe s := by
  induction hh with
  | nil =>
    intro s σ H cls d a ρ c fs e h D C S E xc hc p
    exact C.out hs hf tk (p ρ H d σ cls (Grow.refl _ _) S (by rw [h0]; exact E) xc hc)
  | @plain t cs b₀ su ps run hds l ht hin hsu r ih =>
    intro s σ H cls d a ρ c fs e h D C S E xc hc p
    obtain ⟨cvs, ht, hcv⟩ := ht
    obtain ⟨oe, z, fv, g, I⟩ := C.suite hf
    have p : PostS (gw X) W ρ H D (match anyX ct c cs with | some true => unslot none (run c fs e h) | some false => handle ct c fs e h l | none => .stuck) := p
    cases ea : anyX ct c cs with
    | none => rw [ea] at p; exact p.elim
    | some b =>
      rw [ea] at p
      refine wpAny_handleBy_cons (codeAny_handlers_test (ht a oe _ σ H s cls b _ _ I C.type (T.any hc hcv hin ea) fun h' k => ?_)) (by intro q; cases q)
      have C2 := C.grow k
      cases b with
      | false => exact ih C2 S E xc hc p
      | true =>
        refine codeAny_handlers_suite (C2.again fun s3 C3 => ?_)
        obtain ⟨oe3, z3, fv3, g3, I3⟩ := C3.suite hf
        refine wpAny_mono ((hsu a oe3 cls d _ c fs z3 fv3 hc (any_known ea)).run [] s3 σ H _ I3 ⟨ρ, e, h, S, E, unslot_of (q := none) h0 p⟩) (fun f s6 q => ?_) fun _ _ q => q.elim
        cases f with
        | next => obtain ⟨σ6, H6, I6, q6⟩ := q; exact ⟨σ6, H6, I6.unsuite C.inv.ok, q6⟩
        | brk => obtain ⟨σ6, H6, I6, q6⟩ := q; exact ⟨σ6, H6, I6.unsuite C.inv.ok, q6⟩
        | cont => obtain ⟨σ6, H6, I6, q6⟩ := q; exact ⟨σ6, H6, I6.unsuite C.inv.ok, q6⟩
        | ret u => obtain ⟨v6, σ6, H6, I6, r6, q6⟩ := q; exact ⟨v6, σ6, H6, I6.unsuite C.inv.ok, r6, q6⟩
  | @named t cs b₀ su ps run hds l n i ht hin hi hl hsu r ih =>
    intro s σ H cls d a ρ c fs e h D C S E xc hc p
    obtain ⟨cvs, ht, hcv⟩ := ht
    obtain ⟨oe, z, fv, g, I⟩ := C.suite hf
    have p : PostS (gw X) W ρ H D (match anyX ct c cs with | some true => unslot (some i) (run c fs (e.set i none) h) | some false => handle ct c fs e h l | none => .stuck) := p
    cases ea : anyX ct c cs with
    | none => rw [ea] at p; exact p.elim
    | some b =>
      rw [ea] at p
      refine wpAny_handleBy_cons (codeAny_handlers_test (ht a oe _ σ H s cls b _ _ I C.type (T.any hc hcv hin ea) fun h' k => ?_)) (by intro q; cases q)
      have C2 := C.grow k
      cases b with
      | false => exact ih C2 S E xc hc p
      | true =>
        refine codeAny_handlers_suite_as (C2.again fun s3 C3 => ?_)
        obtain ⟨oe3, z3, fv3, g3, I3⟩ := C3.suite hf
        refine store_ok (X := X.suite a ((a, oe3) :: (X.pn ++ pins))) (v := .ref a) I3 hN hi (.inl hl) rfl (fun s5 I5 => ?_) (.inr hl)
        have hil : i < σ.length := by rw [C.inv.len]; exact (List.getElem?_eq_some_iff.mp hi).1
        have E5 : EnvR (gw X) ρ H (some ⟨i, a, d, fs⟩) (e.set i none) (σ.set i (some (.ref a))) := by
          have E4 := E.unset i (some (.ref a))
          refine ⟨E4.1, E4.2.1, fun q hq => ?_⟩
          cases hq
          exact ⟨List.getElem?_set_self hil, xc⟩
        refine wpAny_mono ((hsu a oe3 cls d _ c fs z3 fv3 hc (any_known ea)).run [] s5 _ H _ I5 ⟨ρ, _, h, S, E5, unslot_of (q := some ⟨i, a, d, fs⟩) h0 p⟩) (fun f s6 q => ?_) fun _ _ q => q.elim
        cases f with
        | next => obtain ⟨σ6, H6, I6, q6⟩ := q; exact gone_ok (I6.unsuite C.inv.ok) hN hi hl fun s7 I7 => ⟨_, H6, I7, q6⟩
        | brk => obtain ⟨σ6, H6, I6, q6⟩ := q; exact gone_ok (I6.unsuite C.inv.ok) hN hi hl fun s7 I7 => ⟨_, H6, I7, q6⟩
        | cont => obtain ⟨σ6, H6, I6, q6⟩ := q; exact gone_ok (I6.unsuite C.inv.ok) hN hi hl fun s7 I7 => ⟨_, H6, I7, q6⟩
        | ret u => obtain ⟨v6, σ6, H6, I6, r6, q6⟩ := q; exact gone_ok (I6.unsuite C.inv.ok) hN hi hl fun s7 I7 => ⟨v6, _, H6, I7, r6, q6⟩
/-- what the body's exceptions must meet -/
def WTry (K : Gw) (W : Wd) (ct : Ct) (l : List Hdl) (D : Ends) : WX := fun cls d σ H => ∃ ρ c fs e h, Sim K ρ H h ∧ EnvR K ρ H none e σ ∧ XcR K ρ H fs d ∧ K.mg c = some cls ∧ PostS K W ρ H D (handle ct c fs e h l)
theorem try_of {K : Gw} {xb : XS} {l : List Hdl} {D : Ends} (h0 : W.s = none) (h : tXS K W (sTry ct xb l) D σ H) : tXS K ⟨WTry K W ct l D, none⟩ xb D σ H := by
  obtain ⟨ρ, env, h, S, E, p⟩ := h
  rw [h0] at E
  refine ⟨ρ, env, h, S, E, ?_⟩
  unfold sTry at p
  cases e : xb env h with
  | nx e1 h1 => rw [e] at p; exact fun ρ' H' σ' g S' E' => p ρ' H' σ' g S' (by rw [h0]; exact E')
  | rt v h1 => rw [e] at p; exact p
  | bk e1 h1 => rw [e] at p; exact fun ρ' H' σ' g S' E' => p ρ' H' σ' g S' (by rw [h0]; exact E')
  | ct e1 h1 => rw [e] at p; exact fun ρ' H' σ' g S' E' => p ρ' H' σ' g S' (by rw [h0]; exact E')
  | exc c fs e1 h1 => rw [e] at p; exact fun ρ' H' d σ' cv g S' E' xc hc => ⟨ρ', c, fs, e1, h1, S', E', xc, hc, PostS.mono g p⟩
  | stuck => rw [e] at p; exact p.elim
theorem qs_try {body : List Stmt} {h₀ : ExceptHandler} {hds : List ExceptHandler} {l : List Hdl} {pos : Pos} {xb : XS} (T : CtOk X.K X.mg ct ds fl) (hs : X.stack = X.env :: X.outer) (hf : X.env.frame = some X.env.locals) (hN : X.N.Nodup) (tk : Takes X W.w) (h0 : W.s = none)
    (hb : ∀ (Wb : WX) (pn : List (Addr × Obj)) (xe : Value → Shared → Prop), Takes (X.tr pn xe) Wb → PassesOwn (model X.prog X.w) X.A X.env xe → QSs (X.tr pn xe) ⟨Wb, none⟩ body xb) (hh : HdsX X ct ds (h₀ :: hds) l) :
    QS X W (.Try body (h₀ :: hds) [] [] pos) (sTry ct xb l) := by
  refine ⟨fun pins s σ H D I h => ?_⟩
  refine wpAny_Try_except (wpAny_mono ((hb (WTry (gw X) W ct l D) (X.pn ++ pins) _ (fun u s' xx => ?_) PassesOwn.looking).run [] s σ H D (I.toTry _) (try_of h0 h)) (fun f s1 q => ?_) fun e s1 q => q)
  · exact caught_of I.ok hs hf xx fun a cls d σ' H' s3 eu C w => by
      subst eu
      obtain ⟨ρ, c, fs, e, h1, S, E, xc, hc, p⟩ := w
      exact handle_ok T hh hs hf hN tk h0 C S E xc hc p
  · cases f with
    | next => obtain ⟨σ6, H6, I6, q6⟩ := q; exact wpAny_execs_nil ⟨σ6, H6, I6.ofTry I.ok, q6⟩
    | brk => obtain ⟨σ6, H6, I6, q6⟩ := q; exact ⟨σ6, H6, I6.ofTry I.ok, q6⟩
    | cont => obtain ⟨σ6, H6, I6, q6⟩ := q; exact ⟨σ6, H6, I6.ofTry I.ok, q6⟩
    | ret u => obtain ⟨v6, σ6, H6, I6, r6, q6⟩ := q; exact ⟨v6, σ6, H6, I6.ofTry I.ok, r6, q6⟩
end
end EX

set_option Elab.async false
set_option linter.all false
set_option maxRecDepth 100000
set_option maxHeartbeats 1000000
namespace EX
open PySem PySem.Spec L2
open PyProof.Rows hiding St
/-! ### in an except suite: a field of the exception, isinstance of it -/
def xFld (fs : List (Str × Val)) (f : Str) : XE := fun _ h => match fs.lookup f with
  | some v => .ok v h
  | none => .stuck
def xIsE (ct : Ct) (c d : Str) : XE := fun _ h => match subX ct c d with
  | some b => .ok (.bl b) h
  | none => .stuck
section
variable {X : Cx} {a : Addr} {oe : Obj} {pn : List (Addr × Obj)} {w : WX} {i : Nat} {cls : Value} {dd : Option Addr} {fs : List (Str × Val)} {ct : Ct} {ds fl : List Str} {c n : Str}
theorem repF_lookup {K : Gw} {ρ : List Addr} {H : Hp} {f : Str} {v : Val} : ∀ {xs : List (Str × Val)} {vs : List (Str × V)}, RepF K ρ H xs vs → xs.lookup f = some v → ∃ u, vs.lookup f = some u ∧ Rep K ρ H v u
  | _, _, .nil, e => by cases e
  | (x, y) :: _, (x', y') :: _, .cons r t, e => by
    obtain ⟨r1, r2⟩ := r
    dsimp only at r1 r2
    subst r1
    by_cases hx : f = x
    · subst hx
      rw [List.lookup_cons_self] at e
      cases e
      exact ⟨y', List.lookup_cons_self, r2⟩
    · have hb : (f == x) = false := by simpa using hx
      rw [List.lookup, hb] at e
      obtain ⟨u, e1, r3⟩ := repF_lookup t e
      exact ⟨u, by rw [List.lookup, hb]; exact e1, r3⟩
theorem q_fld {f : Str} {p pos : Pos} {l : List Str} (T : CtOk X.K X.mg ct ds fl) (hl : ct.lookup c = some l) (hf : f ∈ fl) (hz : Zc cls dd oe) (hv : ∃ vs, oe.data = .fields vs) (hc : X.mg c = some cls) (hn : PE (X.suite a ((a, oe) :: pn)) (.Name n p) (tVar i)) (hb : attributeBase (.Name n p) f X.env (eval (.Name n p) X.env) = eval (.Name n p) X.env := by rfl) :
    QE (X.suite a ((a, oe) :: pn)) ⟨w, some ⟨i, a, dd, fs⟩⟩ (.Attribute (.Name n p) f pos) (xFld fs f) := by
  obtain ⟨C, hC, xf, _, no, _⟩ := T.of c l hl
  rw [hc] at hC
  cases hC
  refine PE.of (pe_xf xf (no f hf) hz hv hn hb) fun σ H Q ⟨ρ, env, h, S, E, p⟩ => ?_
  obtain ⟨e1, xc⟩ := E.2.2 _ rfl
  refine ⟨_, e1, rfl, rfl, ?_⟩
  unfold xFld at p
  cases ef : fs.lookup f with
  | none => rw [ef] at p; exact p.elim
  | some v =>
    rw [ef] at p
    cases dd with
    | none => cases (show fs = [] from xc); cases ef
    | some d =>
      obtain ⟨vs, ev, rf⟩ := xc
      obtain ⟨u, eu, ru⟩ := repF_lookup rf ef
      exact ⟨d, vs, u, rfl, ev, eu, p ρ H (Grow.refl _ _) S u ru⟩
def rIsX (K : PySem.W.Frag) (cls : Value) (a : Addr) (dd : Option Addr) : List V → Hp → VK → Prop := fun xs H Q => ∃ (v : V) (b : Bool), xs = [.ref a, v] ∧ (∀ u, RelV v u → PySem.W.kitOne K cls u = some b) ∧ (∀ d, dd = some d → ∃ vs, H d = some (.xd vs)) ∧ Q (.bl b) H
theorem call_isX {C : Addr} (xf : XfC X.K C) (ic : IsC X.K C) (hz : Zc (.ref C) dd oe) (hv : ∃ vs, oe.data = .fields vs) : CallR (X.suite a ((a, oe) :: pn)) (.builtin "isinstance") (rIsX X.K (.ref C) a dd) := by
  intro pins s σ H xs us Q I r ⟨v, b, e, hk, hd, q⟩
  subst e
  cases r with
  | cons r1 r2 =>
  cases r2 with
  | cons r2 r3 =>
  cases r3
  cases r1
  obtain ⟨hget, _⟩ := I.pin (a, oe) (List.mem_append_left _ (.head _))
  obtain ⟨vs, hv⟩ := hv
  have J : ∃ od, PySem.W.InstAt s.heap a oe C od := by
    obtain ⟨z1, z2⟩ := hz
    cases dd with
    | none => exact ⟨none, hget, z1, by unfold PySem.W.notCls; rw [hv] <;> rfl, by rw [z2]; trivial⟩
    | some d =>
      obtain ⟨ws, hx⟩ := hd d rfl
      obtain ⟨mA, ⟨od, _, _, ho, _⟩, _⟩ : ObjOk X.prog X.w H s.heap d (.xd ws) := I.hok d _ hx
      exact ⟨some od, hget, z1, by unfold PySem.W.notCls; rw [hv] <;> rfl, by rw [z2]; exact ho⟩
  obtain ⟨od, J⟩ := J
  exact PySem.W.kia_one (PySem.W.kitx_exc ic.hc xf.ga xf.gg xf.exC ic.ha ic.hn ic.ht ic.hm) I.kIn J (hk _ r2) (fun z => nomatch z) fun tk => ⟨.bl b, H, I.kept (t' := tk) fun _ _ z => z, rfl, q⟩
theorem q_isE {d : Str} {l : List Str} {p p1 p2 pos : Pos} {v : V} (T : CtOk X.K X.mg ct ds fl) (hl : ct.lookup c = some l) (hd : d ∈ ds) (hz : Zc cls dd oe) (hv : ∃ vs, oe.data = .fields vs) (hc : X.mg c = some cls)
    (hg : Gl X "isinstance") (hm : X.mg "isinstance" = none) (hn : PE (X.suite a ((a, oe) :: pn)) (.Name n p1) (tVar i)) (hdn : PE (X.suite a ((a, oe) :: pn)) (.Name d p2) (tC v)) (hr : ∀ u, RelV v u → Nv X.mg d u) :
    QE (X.suite a ((a, oe) :: pn)) ⟨w, some ⟨i, a, dd, fs⟩⟩ (.Call (.Name "isinstance" p) [.Name n p1, .Name d p2] [] pos) (xIsE ct c d) := by
  obtain ⟨C, hC, xf, ic, _, hk⟩ := T.of c l hl
  rw [hc] at hC
  cases hC
  refine PE.of (pe_callB (call_isX xf ic hz hv) hg hm bt_isinstance (pa_cons hn (pa_cons hdn pa_nil))) fun σ H Q ⟨ρ, env, h, S, E, p⟩ => ?_
  obtain ⟨e1, xc⟩ := E.2.2 _ rfl
  have es : subX ct c d = some (l.contains d) := by unfold subX; rw [hl]; rfl
  unfold xIsE at p
  rw [es] at p
  exact ⟨_, e1, v, l.contains d, rfl, fun u ru => (hk d hd u (hr u ru)).2, fun d' e => by subst e; obtain ⟨vs, ev, _⟩ := xc; exact ⟨vs, ev⟩, p ρ H (Grow.refl _ _) S _ (.bl _)⟩
end
/-! ### defs called where an exception is handled -/
structure Rm (k : Nat) (A : Around) : Prop where
  dp : A.depth + 3 * k + 5 < recursionLimit
  un : A.units + 16 * k + 200 < cLine
theorem Rm.of {k : Nat} {A : Around} (r : Room k A) (h : Option Value) : Rm k (A.mark h) := ⟨r.dp, r.un⟩
theorem Rm.mono {j k : Nat} {A : Around} (r : Rm k A) (h : j ≤ k) : Rm j A := ⟨by have := r.dp; omega, by have := r.un; omega⟩
theorem Rm.deeper {k : Nat} {A : Around} (r : Rm (k + 1) A) (env : Env) : Rm k (A.deeper env) := ⟨by have := r.dp; show A.depth + 1 + 3 * k + 5 < _; omega, by have := r.un; show A.units + 3 + 16 * k + 200 < _; omega⟩
theorem Rm.u70 {k : Nat} {A : Around} (r : Rm k A) : A.units + 70 < cLine := by have := r.un; omega
theorem Rm.u64 {k : Nat} {A : Around} (r : Rm k A) : A.units + 64 < cLine := by have := r.un; omega
theorem Rm.u1 {k : Nat} {A : Around} (r : Rm k A) : A.units + 1 < cLine := by have := r.un; omega
abbrev never : XK := fun _ _ _ => False
structure FnW (P : Program) (w : World) (K : PySem.W.Frag) (mg : Str → Option Value) (base : Heap) (k : Nat) (f : Addr) (fd : FuncData) (ps : List Str) (sp : Sp) : Prop where
  len : ∀ vs H Q E, sp vs H Q E → vs.length = ps.length
  run : ∀ (A : Around) (outer : List Env) (s : Shared) (H : Hp) (args : Args) (us : List Value) (vs : List V) (Q : VK), Rm k A → A.guards = some [] →
    Env0 P w K mg base A outer s H → BindsTo s fd args (ps.zip us) → Vals vs us → sp vs H Q never → codeAny (model P w) A (.call (.ref f) args) (CR (L2.CX P w) outer P w H s Q never) s
theorem FnW.mono {P : Program} {w : World} {K : PySem.W.Frag} {mg : Str → Option Value} {base : Heap} {j k : Nat} {f : Addr} {fd : FuncData} {ps : List Str} {sp : Sp} (F : FnW P w K mg base j f fd ps sp) (h : j ≤ k) : FnW P w K mg base k f fd ps sp :=
  ⟨F.len, fun A outer s H args us vs Q r => F.run A outer s H args us vs Q (r.mono h)⟩
def cxW (P : Program) (w : World) (K : PySem.W.Frag) (mg : Str → Option Value) (base : Heap) (N : List Str) (qual : Str) (scope : Scope) (f : Addr) (cd : Value) (A : Around) (outer : List Env) (s : Shared) (H : Hp) : Cx :=
  { cxOf (L2.CX P w) P w K mg base N qual scope f cd A outer s H never with calm := false, xe := fun _ _ => False }
theorem inv_hot {P : Program} {w : World} {K : PySem.W.Frag} {mg : Str → Option Value} {base : Heap} {N : List Str} {qual : Str} {scope : Scope} {f : Addr} {cd : Value} {A : Around} {outer : List Env} {s s1 : Shared} {H H1 : Hp} {σ : St}
    (I : Inv (cxOf (L2.CX P w) P w K mg base N qual scope f cd { A with handled := none } outer s H never) [] σ H1 s1) : Inv (cxW P w K mg base N qual scope f cd A outer s H) [] σ H1 s1 :=
  ⟨⟨I.ok.mod, I.ok.kind, I.ok.glob, I.ok.blt, I.ok.above, I.ok.inj, I.ok.has, I.ok.cab, (fun z => Bool.noConfusion (show false = true from z)), I.ok.frames, I.ok.stk, I.ok.exf, I.ok.bs, I.ok.bsz, I.ok.noex, I.ok.exfs, I.ok.funs, I.ok.frf⟩,
    I.os, I.bare, I.base, I.loc, I.cell, I.free, I.freeC, I.pin, I.hok, I.len⟩
theorem takesNo {X : Cx} : Takes X WNo := fun _ _ ⟨_, _, _, _, _, _, _, _, _, _, _, _, _, _, _, _, z⟩ => z.elim
section
variable {P : Program} {w : World} {K : PySem.W.Frag} {mg : Str → Option Value} {base : Heap} {x qual : Str} {params : Arguments} {body : List Stmt} {scope : Scope} {dvs : List V} {kws : List (Str × V)} {f : Addr} {fd : FuncData}
theorem fnw_x {N ps : List Str} {k : Nat} {xs : XS} (F : FunD K x qual params body scope dvs kws f fd) (S : FnScope N ps scope)
    (hb : ∀ (cdv : Value) (A : Around) (outer : List Env) (s : Shared) (H : Hp), Rm k (A.deeper (PyProof.Rows.envOfC qual scope s.heap.objs.size f cdv)) → A.guards = some [] →
      QSs (cxW P w K mg base N qual scope f cdv A outer s H) ⟨WNo, none⟩ body xs) : FnW P w K mg base (k + 1) f fd ps (spX ⟨K, mg, w⟩ ps.length (callF N.length xs)) := by
  obtain ⟨oc, od, dV, kV, doc, pm, an, cdv, ct, osl, rfl, lk, hcd, -, -⟩ := F.ex
  have len : ∀ vs H Q E, spX ⟨K, mg, w⟩ ps.length (callF N.length xs) vs H Q E → vs.length = ps.length := fun vs H Q E ⟨ρ, h, as, _, r, hl, _⟩ => by rw [← r.length, hl]
  refine ⟨len, fun A outer s H args us vs Q hr hg e0 hbind rv hsp => ?_⟩
  have stay : ∀ b o, base.get? b = some o → s.heap.get? b = some o := fun b o z => (e0.bs b o z).1
  have KX := e0.mod.kin.keeps stay
  have dep : A.depth < recursionLimit := by have := hr.dp; omega
  refine codeAny_call_function dep (KX _ _ lk) rfl S.co S.gen rfl (PySem.W.codeRec_of KX hcd) (hbind _ _ _ _ (wpAny_newFunctionEnv_cells S.kind ?kinds fun env he s1 ic => ?_))
  case kinds =>
    intro y hy
    exact (S.par y.1 (List.of_mem_zip hy).1).imp id fun z => ⟨z, PySem.W.cellsFrom_some _ _ _ (.inl z)⟩
  cases he
  refine ⟨(e0.mod.nolimit.keeps stay).keeps ic.toInCall.keep, codeAny_func ?_⟩
  have e1 : Env0 P w K mg base { A with handled := none } outer s H := ⟨e0.frames, e0.mod, e0.bs, e0.bsz, e0.funs, e0.frf, e0.hok, e0.bare⟩
  have I := inv_hot (inv_start (CX := L2.CX P w) (E := never) S rfl e1 (len _ _ _ _ hsp) rv ic)
  obtain ⟨ρ, h, as, Sm, r, hl, p⟩ := hsp
  refine wpAny_mono ((hb cdv A outer s H (hr.deeper _) hg).run [] s1 _ H { nx := fun _ H' => Q .non H', rt := Q } I ⟨ρ, _, h, Sm, start_env r, call_post (E := never) Sm.len p⟩) (fun fl s' z => ?_) fun _ _ z => z.elim
  cases fl with
  | ret u => exact match z with | ⟨v, _, H', J, r, q⟩ => ⟨v, H', J.os, J.bare, J.base, J.hok, r, q⟩
  | next => exact match z with | ⟨_, H', J, q⟩ => ⟨V.non, H', J.os, J.bare, J.base, J.hok, rfl, q⟩
  | brk => exact match z with | ⟨_, _, _, q⟩ => q.elim
  | cont => exact match z with | ⟨_, _, _, q⟩ => q.elim
end
section
variable {X : Cx} {sx : Option Sx} {k : Nat} {f : Addr} {fd : FuncData} {ps : List Str} {sp : Sp} {G : Fn} {x : Str} {p pos : Pos} {e : Expr} {es : List Expr} {xa : XA}
theorem pe_gw (F : FnW X.prog X.w X.K X.mg X.base k f fd ps sp) (hr : Rm k X.A) (hgd : X.A.guards = some []) (hg : Gl X x) (hm : X.mg x = some (.ref f)) (hk : PySem.W.keepIn X.K (.ref f) = true) (hb : Binds X.K fd ps []) {t : TA}
    (ha : PA X (e :: es) t) (hdb : (x == ("__debug__" : Str)) = false) (he : starEach (e :: es) X.env = (false, eval e X.env) :: starEach es X.env) (hpl : (backTo pos (starEach es X.env)).any (·.1) = false) :
    PE X (.Call (.Name x p) (e :: es) [] pos) (fun σ H Q => t σ H fun vs H1 => sp (vs ++ []) H1 Q never) :=
  ⟨fun pins s σ H Q I h => wpAny_Call_Name_kw (ld_glob I hg hm (PySem.W.callWith_K (h₀ := X.base) I.ok.mod.kin hk (thn (ha.run pos pins s σ H _ I h) fun us s1 ⟨vs, H1, I1, r, q⟩ => ⟨I1.kIn, by
    have r2 : Vals (vs ++ []) (us ++ []) := r.append .nil
    refine wpAny_call (codeAny_mono (F.run X.A X.stack s1 H1 ⟨us, []⟩ _ _ Q hr hgd I1.env0 (hb s1 us I1.kIn (r2.length ▸ F.len _ _ _ _ q)) r2 q) fun res s' z => ?_)
    match res, z with
    | .error e, z => exact (cx_never z).elim
    | .ok (.ret u), z => exact I1.after z⟩) he hpl) hdb)⟩
theorem q_callW {n : Nat} (F : FnW X.prog X.w X.K X.mg X.base k f fd ps (spX (gw X) n G)) (hr : Rm k X.A) (hgd : X.A.guards = some []) (hg : Gl X x) (hm : X.mg x = some (.ref f)) (hk : PySem.W.keepIn X.K (.ref f) = true) (hb : Binds X.K fd ps [])
    (ha : QA X ⟨WNo, sx⟩ (e :: es) xa) (hdb : (x == ("__debug__" : Str)) = false := by decide) (he : starEach (e :: es) X.env = (false, eval e X.env) :: starEach es X.env := by rfl) (hpl : (backTo pos (starEach es X.env)).any (·.1) = false := by rfl) :
    QE X ⟨WNo, sx⟩ (.Call (.Name x p) (e :: es) [] pos) (xCall n G xa) := PE.of (pe_gw F hr hgd hg hm hk hb ha hdb he hpl) fun _ _ _ h => callX_of h
end
/-! ### own classes of exceptions: made, raised -/
def spI (K : PySem.W.Frag) (fl : List Str) : Sp := fun vs H Q _ => ∃ (a C : Addr) (ws : List V), vs = .ref a :: ws ∧ ws.length = fl.length ∧ OexC K C ∧ (∀ f ∈ fl, PySem.W.findIn K (.ref C) f = some none) ∧ H a = some (exo a C none) ∧
  ∀ dx, H dx = none → dx ≠ a → Q .non (upd (upd H dx (exd dx (fl.zip ws).reverse)) a (exo a C (some dx)))
/-- what Base.__init__ is, Base an own class over ValueError -/
structure BaseI (K : PySem.W.Frag) (D : Addr) : Prop where
  sp : PySem.W.specialIn K (.ref D) "__getattribute__" = some (some (.builtin "type.__getattribute__"))
  rd : PySem.W.readsIn K D (.type "type") = true
  fi : PySem.W.findCls K (.ref D) (.type "type") "__init__" = some (.val (.builtin "ValueError.__init__"))
section
variable {X : Cx} {B : Str} {D : Addr} {e : Expr} {es : List Expr} {ta : TA} {p1 p2 pos : Pos}
theorem pe_binit {pl : Sem Bool} (hg : Gl X B) (hm : X.mg B = some (.ref D)) (bi : BaseI X.K D) (ha : PA X (e :: es) ta) (hdb : (B == ("__debug__" : Str)) = false)
    (hc : eval (.Call (.Attribute (.Name B p1) "__init__" p2) (e :: es) [] pos) X.env = (do
      let ov ← eval (.Name B p1) X.env
      standAt p2.atName
      let (f, first) ← holding [ov] (getMethod ov "__init__" pl)
      callWith pos f first (backTo pos (starEach (e :: es) X.env)) (backToKw pos (keywordEach [] X.env))))
    (he : starEach (e :: es) X.env = (false, eval e X.env) :: starEach es X.env) (hpl : (backTo pos (starEach es X.env)).any (·.1) = false) :
    PE X (.Call (.Attribute (.Name B p1) "__init__" p2) (e :: es) [] pos) (tVeI X.K ta) := by
  refine ⟨fun pins s σ H Q I h => PySem.W.methodCall_KW (ld_glob I hg hm (PySem.W.method_cls I.kIn bi.sp (PySem.W.cls_value I.kIn bi.rd bi.fi (by decide +kernel) ?_)) hdb) hc⟩
  show wpAny _ _ (callWith pos (Value.builtin "ValueError.__init__") [] (backTo pos (starEach (e :: es) X.env)) []) _ _ _
  refine PyProof.Rows.callWith_method1 (thn (ha.run pos pins _ σ H _ (I.tok _) h) fun us s1 ⟨vs, H1, I1, r1, a, C, ws, ev, hl, T, ea, q⟩ => ?_) he hpl
  subst ev
  cases r1 with
  | @cons _ u0 _ ur ra rw' =>
    cases (show u0 = Value.ref a from ra)
    exact oinit_ok T I1 ea (by rw [← Paired.length rw', sizeLine_eq]; omega) fun s' J => ⟨.non, H1, J, rfl, q⟩
end
section
variable {P : Program} {w : World} {K : PySem.W.Frag} {mg : Str → Option Value} {base : Heap} {x qual B m f g : Str} {params : Arguments} {scope : Scope} {dvs : List V} {kws : List (Str × V)} {fI D : Addr} {fd : FuncData}
variable {p1 p2 p3 p4 p5 p6 p7 p8 p9 q1 q2 q3 q4 : Pos} {j k : Nat}
/-- def __init__(self, f): Base.__init__(self, 'm'); self.f = f -/
theorem init1 (F : FunD K x qual params [.Expr (.Call (.Attribute (.Name B p1) "__init__" p2) [.Name "self" p3, .Constant (.str m) j p4] [] p5) p6, .Assign [.Attribute (.Name "self" p7) f p8] (.Name f p9) q1] scope dvs kws fI fd)
    (S : FnScope ["self", f] ["self", f] scope) (hg : scope.names.lookup B = some .globalImplicit) (hs : scope.names.lookup ("self" : Str) = some .local) (hf : scope.names.lookup f = some .local) (hm : mg B = some (.ref D)) (bi : BaseI K D)
    (db : (B == ("__debug__" : Str)) = false) (df : (f == ("__debug__" : Str)) = false) (dc : (f == ("__classdict__" : Str)) = false)
    (hc : ∀ env : Env, ∃ pl : Sem Bool, eval (.Call (.Attribute (.Name B p1) "__init__" p2) [.Name "self" p3, .Constant (.str m) j p4] [] p5) env = (do
      let ov ← eval (.Name B p1) env
      standAt p2.atName
      let (f, first) ← holding [ov] (getMethod ov "__init__" pl)
      callWith p5 f first (backTo p5 (starEach [.Name "self" p3, .Constant (.str m) j p4] env)) (backToKw p5 (keywordEach [] env)))) : FnOk P w K mg base (L2.CX P w) (k + 1) fI fd ["self", f] (spI K [f]) := by
  refine F.ok S (fun vs H Q E ⟨a, C, ws, e, hl, _⟩ => by rw [e, List.length_cons, hl]; rfl) fun cdv A outer s H vs Q E hr ⟨a, C, ws, e, hl, T, no, ea, q⟩ => ⟨_, pss_cons (ps_expr (pe_binit hg hm bi (pa_cons (pe_var (i := 0) rfl (.inl hs) (by decide) (by decide)) (pa_cons pe_str pa_nil)) db (hc _).choose_spec rfl rfl)) (pss_one (ps_ost (pe_var (i := 0) rfl (.inl hs) (by decide) (by decide)) (pe_var (i := 1) rfl (.inl hf) df dc))), ?_⟩
  subst e
  match ws, hl with
  | [y], _ =>
    exact ⟨_, rfl, a, C, [.str m], rfl, by simp, T, ea, _, rfl, _, rfl, a, C, rfl, T, no f (.head _), .inl ⟨ea, fun dx n ne => q dx n ne⟩⟩
/-- def __init__(self, f, g): Base.__init__(self, 'm'); self.f = f; self.g = g -/
theorem init2 (F : FunD K x qual params [.Expr (.Call (.Attribute (.Name B p1) "__init__" p2) [.Name "self" p3, .Constant (.str m) j p4] [] p5) p6, .Assign [.Attribute (.Name "self" p7) f p8] (.Name f p9) q1, .Assign [.Attribute (.Name "self" q2) g q3] (.Name g q4) q5] scope dvs kws fI fd)
    (S : FnScope ["self", f, g] ["self", f, g] scope) (hg : scope.names.lookup B = some .globalImplicit) (hs : scope.names.lookup ("self" : Str) = some .local) (hf : scope.names.lookup f = some .local) (hf2 : scope.names.lookup g = some .local) (hm : mg B = some (.ref D)) (bi : BaseI K D)
    (db : (B == ("__debug__" : Str)) = false) (df : (f == ("__debug__" : Str)) = false) (dc : (f == ("__classdict__" : Str)) = false) (df2 : (g == ("__debug__" : Str)) = false) (dc2 : (g == ("__classdict__" : Str)) = false)
    (hc : ∀ env : Env, ∃ pl : Sem Bool, eval (.Call (.Attribute (.Name B p1) "__init__" p2) [.Name "self" p3, .Constant (.str m) j p4] [] p5) env = (do
      let ov ← eval (.Name B p1) env
      standAt p2.atName
      let (f, first) ← holding [ov] (getMethod ov "__init__" pl)
      callWith p5 f first (backTo p5 (starEach [.Name "self" p3, .Constant (.str m) j p4] env)) (backToKw p5 (keywordEach [] env)))) : FnOk P w K mg base (L2.CX P w) (k + 1) fI fd ["self", f, g] (spI K [f, g]) := by
  refine F.ok S (fun vs H Q E ⟨a, C, ws, e, hl, _⟩ => by rw [e, List.length_cons, hl]; rfl) fun cdv A outer s H vs Q E hr ⟨a, C, ws, e, hl, T, no, ea, q⟩ => ⟨_, pss_cons (ps_expr (pe_binit hg hm bi (pa_cons (pe_var (i := 0) rfl (.inl hs) (by decide) (by decide)) (pa_cons pe_str pa_nil)) db (hc _).choose_spec rfl rfl)) (pss_cons (ps_ost (pe_var (i := 0) rfl (.inl hs) (by decide) (by decide)) (pe_var (i := 1) rfl (.inl hf) df dc)) (pss_one (ps_ost (pe_var (i := 0) rfl (.inl hs) (by decide) (by decide)) (pe_var (i := 2) rfl (.inl hf2) df2 dc2)))), ?_⟩
  subst e
  match ws, hl with
  | [y, z], _ =>
    refine ⟨_, rfl, a, C, [.str m], rfl, by simp, T, ea, _, rfl, _, rfl, a, C, rfl, T, no f (.head _), .inl ⟨ea, fun dx n ne => ⟨_, rfl, _, rfl, a, C, rfl, T, no g (.tail _ (.head _)), .inr ⟨dx, [(f, y)], upd_same, by rw [upd_ne ne]; exact upd_same, by simp, ?_⟩⟩⟩⟩
    have e : upd (upd (upd H dx (exd dx [(f, y)])) a (exo a C (some dx))) dx (exd dx [(g, z), (f, y)]) = upd (upd H dx (exd dx [(g, z), (f, y)])) a (exo a C (some dx)) := by
      funext b
      by_cases h1 : b = dx
      · subst h1; rw [upd_same, upd_ne ne, upd_same]
      · rw [upd_ne h1]
        by_cases h2 : b = a
        · subst h2; rw [upd_same, upd_same]
        · rw [upd_ne h2, upd_ne h2, upd_ne h1, upd_ne h1]
    rw [e]
    exact q dx n ne
end
def sRaise (c : Str) (fl : List Str) (xa : XA) : XS := fun e h => match xa e h with
  | .ok vs h1 => if vs.length = fl.length ∧ vs.length ≤ 1000 then .exc c (fl.zip vs).reverse e h1 else .stuck
  | .exc c fs h1 => .exc c fs e h1
  | .stuck => .stuck
theorem repF_zip {K : Gw} {ρ : List Addr} {H : Hp} : ∀ {fl : List Str} {xs : List Val} {vs : List V}, RepL K ρ H xs vs → RepF K ρ H (fl.zip xs) (fl.zip vs)
  | [], _, _, _ => .nil
  | _ :: _, _, _, .nil => .nil
  | _ :: _, _, _, .cons r t => .cons ⟨rfl, r⟩ (repF_zip t)
theorem repF_reverse {κ : Type} {K : Gw} {ρ : List Addr} {H : Hp} {xs : List (κ × Val)} {vs : List (κ × V)} (h : RepF K ρ H xs vs) : RepF K ρ H xs.reverse vs.reverse := by
  induction xs generalizing vs with
  | nil => cases h; exact .nil
  | cons x xs ih =>
    cases h with
    | cons r t =>
      rw [List.reverse_cons, List.reverse_cons]
      exact (ih t).append (.cons r .nil)
section
variable {X : Cx} {W : Wd} {e : Expr} {es : List Expr} {xa : XA} {x : Str} {fl : List Str} {C fI : Addr} {fd : FuncData} {ps : List Str} {k : Nat} {p pos rpos : Pos}
theorem raise_of {K : Gw} (hm : K.mg x = some (.ref C)) (T : OexC K.K C) (no : ∀ f ∈ fl, PySem.W.findIn K.K (.ref C) f = some none) {D : Ends} {σ : St} {H : Hp} (h : tXS K W (sRaise x fl xa) D σ H) : tMkO C (spI K.K fl) [] (tXA K W xa) σ H fun cls d H' => W.w cls d σ H' := by
  obtain ⟨ρ, env, h, S, E, q⟩ := h
  refine ⟨ρ, env, h, S, E, (afterA (f := fun vs h1 => if vs.length = fl.length ∧ vs.length ≤ 1000 then .exc x (fl.zip vs).reverse env h1 else .stuck) E q).imp fun vs h1 ρ1 H1 g1 S1 q1 us rs => ?_⟩
  by_cases hl : vs.length = fl.length ∧ vs.length ≤ 1000
  · rw [if_pos hl] at q1
    refine ⟨by rw [← rs.length]; exact hl.2, fun a na => ⟨a, C, us ++ [], rfl, by rw [List.append_nil, ← rs.length]; exact hl.1, T, no, upd_same, fun dx nx ne => ?_⟩⟩
    rw [List.append_nil]
    have nd : H1 dx = none := by rw [upd_ne ne] at nx; exact nx
    refine ⟨rfl, dx, _, upd_same, by rw [upd_ne ne]; exact upd_same, nd, ?_⟩
    have e : upd (del (upd (upd (upd H1 a (exo a C none)) dx (exd dx (fl.zip us).reverse)) a (exo a C (some dx))) a) dx (.xd (fl.zip us).reverse) = upd H1 dx (.xd (fl.zip us).reverse) := by
      funext b
      by_cases h1 : b = dx
      · subst h1; rw [upd_same, upd_same]
      · rw [upd_ne h1, upd_ne h1]
        by_cases h2 : b = a
        · subst h2; rw [del_same, na]
        · rw [del_ne h2, upd_ne h2, upd_ne h1, upd_ne h2]
    rw [e]
    have g := Grow.new (ρ := ρ1) (o := .xd (fl.zip us).reverse) nd
    exact q1 ρ1 _ (some dx) σ (.ref C) g (S1.new nd) ((E.mono g1).mono g) ⟨_, upd_same, (repF_reverse (repF_zip rs)).mono g⟩ hm
  · rw [if_neg hl] at q1
    exact q1.elim
theorem qs_raise (hc : X.calm = true) (tk : Takes X W.w) (T : OexC X.K C) (no : ∀ f ∈ fl, PySem.W.findIn X.K (.ref C) f = some none) (iC : PySem.W.findIn X.K (.ref C) "__init__" = some (some (.ref fI))) (tI : PySem.W.typeIn X.K (.ref fI) = some (.type "function"))
    (F1 : FnOk X.prog X.w X.K X.mg X.base (L2.CX X.prog X.w) k fI fd ps (spI X.K fl)) (hr : Room (k + 1) X.A) (hb : Binds X.K fd ps []) (hg : Gl X x) (hm : X.mg x = some (.ref C)) (ha : QA X W (e :: es) xa)
    (hdb : (x == ("__debug__" : Str)) = false := by decide) (he : starEach (e :: es) X.env = (false, eval e X.env) :: starEach es X.env := by rfl) (hpl : (backTo pos (starEach es X.env)).any (·.1) = false := by rfl) :
    QS X W (.Raise (some (.Call (.Name x p) (e :: es) [] pos)) none rpos) (sRaise x fl xa) :=
  PS.of (ps_raise hc tk (pmk_oex T iC tI F1 hr hb .nil (passes_call tk fun _ _ _ _ z => z.elim) hg hm ha hdb he hpl)) fun _ _ _ => raise_of hm T no
end
end EX

set_option Elab.async false
set_option linter.all false
set_option maxRecDepth 100000
set_option maxHeartbeats 1000000
namespace EX
open PySem PySem.Spec L2 He
open PyProof.Rows hiding St
/-! ### what a head tells: facts of the written part as truths -/
theorem mem_lookup {α β : Type} [BEq α] [LawfulBEq α] {a : α} {b : β} : ∀ {l : List (α × β)}, l.lookup a = some b → (a, b) ∈ l
  | [], h => by cases h
  | (c, d) :: r, h => by
    by_cases e : a = c
    · subst e
      rw [List.lookup_cons_self] at h
      cases h
      exact .head _
    · have e2 : (a == c) = false := by simpa using e
      rw [List.lookup, e2] at h
      exact .tail _ (mem_lookup h)
def smB (K : PySem.W.Frag) : Bool := match K.lookup sysModules with
  | some o => (match o.data with
    | .dict _ _ => true
    | _ => false)
  | none => false
theorem smB_ok {K : PySem.W.Frag} (h : smB K = true) : SmIn K := by
  unfold smB at h
  cases e : K.lookup sysModules with
  | none => rw [e] at h; cases h
  | some o =>
    rw [e] at h
    cases d : o.data with
    | dict es n => exact ⟨o, es, n, e, d⟩
    | _ => simp only [d] at h; cases h
def isB (K : PySem.W.Frag) (C : Addr) : Bool := (PySem.W.clsIn K C).isSome && (eqO (PySem.W.findIn K (.ref C) "__class__") (some (some (.builtin "object.__class__"))) && (eqO (PySem.W.specialIn K (.builtin "object.__class__") "__get__") (some (some (.builtin "getset_descriptor.__get__"))) &&
  (decide (PySem.W.takesIn K (.builtin "object.__class__") = some true) && decide (PySem.W.mroIn K C (.type "object") = some true))))
theorem isB_ok {K : PySem.W.Frag} {C : Addr} (h : isB K C = true) : IsC K C := by
  obtain ⟨h1, h⟩ := ba h
  obtain ⟨h2, h⟩ := ba h
  obtain ⟨h3, h⟩ := ba h
  obtain ⟨h4, h5⟩ := ba h
  exact ⟨h1, eqO_ok h2, eqO_ok h3, of_decide_eq_true h4, of_decide_eq_true h5⟩
/-- own classes ct, names asked for: own ones ds, built-in ones db; fields fl -/
def ctB (K : PySem.W.Frag) (ct : Ct) (ds : List Str) (db : List (Str × String)) (fl : List Str) : Bool := ct.all fun p => xfB K (ga K p.1) && (isB K (ga K p.1) && ((fl.all fun f => eqO (PySem.W.findIn K (.ref (ga K p.1)) f) (some none)) &&
  ((ds.all fun d => decide (PySem.W.exmOne K (.ref (ga K p.1)) (.ref (ga K d)) = some (p.2.contains d)) && decide (PySem.W.kitOne K (.ref (ga K p.1)) (.ref (ga K d)) = some (p.2.contains d))) &&
    db.all fun d => decide (PySem.W.exmOne K (.ref (ga K p.1)) (.type d.2) = some (p.2.contains d.1)) && decide (PySem.W.kitOne K (.ref (ga K p.1)) (.type d.2) = some (p.2.contains d.1)))))
theorem ctB_ok {K : PySem.W.Frag} {mg : Str → Option Value} {ct : Ct} {ds : List Str} {db : List (Str × String)} {fl : List Str} (h : ctB K ct ds db fl = true) (hc : ∀ p ∈ ct, mg p.1 = some (.ref (ga K p.1))) (hd : ∀ d ∈ ds, mg d = some (.ref (ga K d)))
    (hb : ∀ d ∈ db, mg d.1 = none ∧ bootBuiltins d.1 = some (.type d.2)) : CtOk K mg ct (ds ++ db.map (·.1)) fl := by
  refine ⟨fun c l e => ?_⟩
  have m := mem_lookup e
  obtain ⟨h1, h2⟩ := ba (List.all_eq_true.mp h _ m)
  obtain ⟨h2, h3⟩ := ba h2
  obtain ⟨h3, h4⟩ := ba h3
  obtain ⟨h4, h5⟩ := ba h4
  refine ⟨ga K c, hc _ m, xfB_ok h1, isB_ok h2, fun f hf => eqO_ok (List.all_eq_true.mp h3 f hf), fun d md dv nv => ?_⟩
  rcases List.mem_append.mp md with md | md
  · obtain ⟨z1, z2⟩ := ba (List.all_eq_true.mp h4 d md)
    have e2 := hd d md
    rcases nv with n | ⟨n, _⟩
    · rw [e2] at n
      cases n
      exact ⟨of_decide_eq_true z1, of_decide_eq_true z2⟩
    · rw [e2] at n; cases n
  · obtain ⟨q, mq, eq⟩ := List.mem_map.mp md
    subst eq
    obtain ⟨z1, z2⟩ := ba (List.all_eq_true.mp h5 q mq)
    obtain ⟨n1, n2⟩ := hb q mq
    rcases nv with n | ⟨_, n⟩
    · rw [n1] at n; cases n
    · rw [n2] at n
      cases n
      exact ⟨of_decide_eq_true z1, of_decide_eq_true z2⟩
def baseB (K : PySem.W.Frag) (D : Addr) : Bool := eqO (PySem.W.specialIn K (.ref D) "__getattribute__") (some (some (.builtin "type.__getattribute__"))) && (PySem.W.readsIn K D (.type "type") && (match PySem.W.findCls K (.ref D) (.type "type") "__init__" with
  | some (.val v) => decide (v = .builtin "ValueError.__init__")
  | _ => false))
theorem baseB_ok {K : PySem.W.Frag} {D : Addr} (h : baseB K D = true) : BaseI K D := by
  obtain ⟨h1, h⟩ := ba h
  obtain ⟨h2, h3⟩ := ba h
  refine ⟨eqO_ok h1, h2, ?_⟩
  cases e : PySem.W.findCls K (.ref D) (.type "type") "__init__" with
  | none => rw [e] at h3; cases h3
  | some r =>
    cases r with
    | val v =>
      rw [e] at h3
      rw [of_decide_eq_true h3]
    | get a b c d => rw [e] at h3; cases h3
/-- a class over ValueError with an own __init__ -/
def oexB (K : PySem.W.Frag) (C : Addr) : Bool := (match K.lookup C with
  | some ⟨.type t, _, .cls cd, sl⟩ => decide (t = "type") && (!cd.hasDel && (cd.hasDict && ((match cd.mro with
    | .ref C' :: bm => decide (C' = C) && PySem.HandSPX.refsVE bm
    | _ => false) && (match sl.toList with
    | [_, _, _, _, some (.builtin n), _] => decide (n = "ValueError.__new__")
    | _ => false))))
  | _ => false) && (eqO (PySem.W.findIn K (.ref C) "__setattr__") (some (some (.builtin "object.__setattr__"))) && (decide (PySem.W.subIn K (.ref C) (.type "BaseException") = some true) && (decide (PySem.W.typeIn K (.ref C) = some (.type "type")) && PySem.W.keepIn K (.ref C))))
theorem oexB_ok {K : PySem.W.Frag} {C : Addr} (h : oexB K C = true) : OexC K C := by
  obtain ⟨h0, h⟩ := ba h
  obtain ⟨h1, h⟩ := ba h
  obtain ⟨h2, h⟩ := ba h
  obtain ⟨h3, h4⟩ := ba h
  refine ⟨?_, eqO_ok h1, of_decide_eq_true h2, of_decide_eq_true h3, h4⟩
  split at h0
  · rename_i t dd cd sl ho
    obtain ⟨z1, z⟩ := ba h0
    obtain ⟨z2, z⟩ := ba z
    obtain ⟨z3, z⟩ := ba z
    obtain ⟨z4, z5⟩ := ba z
    have e1 : t = "type" := of_decide_eq_true z1
    subst e1
    split at z4
    · rename_i C' bm hm
      obtain ⟨y1, y2⟩ := ba z4
      have e2 : C' = C := of_decide_eq_true y1
      subst e2
      split at z5
      · rename_i k0 k1 k2 k3 n k5 hs
        have e3 : n = "ValueError.__new__" := of_decide_eq_true z5
        subst e3
        obtain ⟨nm, bs, mro, ns, qn, hd, sn, sub, ab, col, del⟩ := cd
        dsimp only at hm z2 z3
        subst hm z3
        have e4 : del = false := by cases del <;> first | rfl | cases z2
        subst e4
        obtain ⟨l⟩ := sl
        dsimp only at hs
        subst hs
        exact ⟨nm, qn, ns, bs, bm, sn, sub, ab, col, dd, k0, k1, k2, k3, k5, ho, y2⟩
      · cases z5
    · cases z4
  · cases h0
/-- all that a raise of the class x asks -/
structure ClsF (K : PySem.W.Frag) (x : Str) (fl : List Str) : Prop where
  oex : OexC K (ga K x)
  no : ∀ f ∈ fl, PySem.W.findIn K (.ref (ga K x)) f = some none
  iC : PySem.W.findIn K (.ref (ga K x)) "__init__" = some (some (.ref (ma K (ga K x) "__init__")))
  tI : PySem.W.typeIn K (.ref (ma K (ga K x) "__init__")) = some (.type "function")
def clsFB (K : PySem.W.Frag) (x : Str) (fl : List Str) : Bool := oexB K (ga K x) && ((fl.all fun f => eqO (PySem.W.findIn K (.ref (ga K x)) f) (some none)) && (eqO (PySem.W.findIn K (.ref (ga K x)) "__init__") (some (some (.ref (ma K (ga K x) "__init__")))) &&
  decide (PySem.W.typeIn K (.ref (ma K (ga K x) "__init__")) = some (.type "function"))))
theorem clsFB_ok {K : PySem.W.Frag} {x : Str} {fl : List Str} (h : clsFB K x fl = true) : ClsF K x fl := by
  obtain ⟨h1, h⟩ := ba h
  obtain ⟨h2, h⟩ := ba h
  obtain ⟨h3, h4⟩ := ba h
  exact ⟨oexB_ok h1, fun f hf => eqO_ok (List.all_eq_true.mp h2 f hf), eqO_ok h3, of_decide_eq_true h4⟩
/-! ### the hook: what the module's names reach, and two tables of the machine -/
abbrev seeds (g : Addr → Option Obj) (n : Nat) : List Addr := asD g n ++ [cStatics, sysModules]
def obsE (n : Nat) (fa : List Fa) (fn : List DefD) (ex : PySem.W.Frag → Bool) (g : Addr → Option Obj) : AlD × Bool := (obsD fa fn (frT g (seeds g n)), ex (frT g (seeds g n)))
def hookE (n : Nat) (fa : List Fa) (fn : List DefD) (ex : PySem.W.Frag → Bool) : PySem.W.Hook where
  α := AlD × Bool
  obs := fun s => obsE n fa fn ex s.heap.get?
  val := fun _ => (valD fn, true)
  says := fun _ h => ∃ K : PySem.W.Frag, K.In h ∧ SaysD fa fn K ∧ ex K = true
  of := fun _ _ e => ⟨_, frT_in, congrArg Prod.fst e, congrArg Prod.snd e⟩
  keeps := fun _ _ _ ⟨K, hK, c⟩ k => ⟨K, PySem.W.Frag.In.keeps hK k, c⟩
theorem obsE_eq {n : Nat} {fa : List Fa} {fn : List DefD} {ex : PySem.W.Frag → Bool} {g : Addr → Option Obj} {s : Shared} (h : ∀ a, g a = s.heap.get? a) : obsE n fa fn ex g = (hookE n fa fn ex).obs s := by
  have e : g = s.heap.get? := funext h
  rw [e] <;> rfl
end EX

set_option Elab.async false
set_option linter.all false
set_option maxRecDepth 100000
set_option maxHeartbeats 4000000
namespace K
open PySem L2 EX
def ct : Ct := [("InnerError", ["InnerError", "ValueError"]), ("Barred", ["Barred", "LookupError"]), ("NoWorth", ["NoWorth", "InnerError", "ValueError"])]
def k_NO_NAMES : List Val := [.str "me", .str "here", .str "none"]
noncomputable def x_is_whole : XS := sRet (xAndV (xCallN oIsi (xCons (xVar 0) (xCons (xC (.ty "int")) (xNil)))) (xAndV (xNotV (xCallN oIsi (xCons (xVar 0) (xCons (xC (.ty "bool")) (xNil))))) (xChain oLe oLe (xVar 1) (xVar 0) (xVar 2))))
noncomputable def f_is_whole : Fn := callF 3 x_is_whole
noncomputable def x_is_name : XS := sSeq (sIf (xOrT (xNotT (xTru (xCallN oIsi (xCons (xVar 0) (xCons (xC (.ty "str")) (xNil)))))) (xOrT (xNotT (xTest (xChain oLe oLe (xC (.int 1)) (xCallN oLen (xCons (xVar 0) (xNil))) (xC (.int 8))))) (xTest (xBin oIn (xVar 0) (xC (.tup k_NO_NAMES)))))) (sRet (xC (.bl false))) (sNil)) (sRet (xCallN oAll (xCons (xComp (xIter (xVar 0)) (.name 1) (xYes) (xBin oIn (xVar 1) (xC (.str "abcdefghijklmnopqrstuvwxyz"))) [1]) (xNil))))
noncomputable def f_is_name : Fn := callF 2 x_is_name
noncomputable def x_is_text : XS := sSeq (sIf (xOrT (xNotT (xTru (xCallN oIsi (xCons (xVar 0) (xCons (xC (.ty "str")) (xNil)))))) (xTest (xBin oGt (xCallN oLen (xCons (xVar 0) (xNil))) (xC (.int 60))))) (sRet (xC (.bl false))) (sNil)) (sRet (xCallN oAll (xCons (xComp (xIter (xVar 0)) (.name 1) (xYes) (xAndV (xChain oLe oLe (xC (.str " ")) (xVar 1) (xC (.str "~"))) (xBin oNotIn (xCallN oOrd (xCons (xVar 1) (xNil))) (xTup (xCons (xC (.int 37)) (xCons (xC (.int 39)) (xNil)))))) [1]) (xNil))))
noncomputable def f_is_text : Fn := callF 2 x_is_text
noncomputable def x_is_number : XS := sRet (xCall 3 f_is_whole (xCons (xVar 0) (xCons (xUn oNeg (xC (.int 1000000000))) (xCons (xC (.int 1000000000)) (xNil)))))
noncomputable def f_is_number : Fn := callF 1 x_is_number
noncomputable def x_is_pair : XS := sRet (xAndV (xCallN oIsi (xCons (xVar 0) (xCons (xC (.ty "tuple")) (xNil)))) (xAndV (xBin oEq (xCallN oLen (xCons (xVar 0) (xNil))) (xC (.int 2))) (xAndV (xCallN oIsi (xCons (xBin oIx (xVar 0) (xC (.int 0))) (xCons (xC (.ty "str")) (xNil)))) (xBin oEq (xBin oIx (xVar 0) (xC (.int 0))) (xVar 1)))))
noncomputable def f_is_pair : Fn := callF 2 x_is_pair
noncomputable def x_is_thing : XS := sRet (xAndV (xCall 2 f_is_pair (xCons (xVar 0) (xCons (xC (.str "thing")) (xNil)))) (xCall 3 f_is_whole (xCons (xBin oIx (xVar 0) (xC (.int 1))) (xCons (xC (.int 0)) (xCons (xC (.int 999)) (xNil))))))
noncomputable def f_is_thing : Fn := callF 1 x_is_thing
noncomputable def x_is_worth_within (self : Fn) : XS := sSeq (sIf (xOrT (xTest (xBin oIs (xVar 0) (xC .non))) (xOrT (xTru (xCall 1 f_is_number (xCons (xVar 0) (xNil)))) (xOrT (xTru (xCall 1 f_is_text (xCons (xVar 0) (xNil)))) (xTru (xCall 1 f_is_thing (xCons (xVar 0) (xNil))))))) (sRet (xC (.bl true))) (sNil)) (sSeq (sIf (xOrT (xTest (xBin oEq (xVar 1) (xC (.int 0)))) (xOrT (xNotT (xTru (xCall 2 f_is_pair (xCons (xVar 0) (xCons (xC (.str "row")) (xNil)))))) (xOrT (xNotT (xTru (xCallN oIsi (xCons (xBin oIx (xVar 0) (xC (.int 1))) (xCons (xC (.ty "tuple")) (xNil)))))) (xTest (xBin oGt (xCallN oLen (xCons (xBin oIx (xVar 0) (xC (.int 1))) (xNil))) (xC (.int 30))))))) (sRet (xC (.bl false))) (sNil)) (sRet (xCallN oAll (xCons (xComp (xIter (xBin oIx (xVar 0) (xC (.int 1)))) (.name 2) (xYes) (xCall 2 self (xCons (xVar 2) (xCons (xBin oSub (xVar 1) (xC (.int 1))) (xNil)))) [2]) (xNil)))))
noncomputable def f_is_worth_within : Nat → Fn
  | 0 => fun _ _ => .stuck
  | n + 1 => callF 3 (x_is_worth_within (f_is_worth_within n))
noncomputable def x_is_worth : XS := sRet (xCall 2 (f_is_worth_within 12) (xCons (xVar 0) (xCons (xC (.int 4)) (xNil))))
noncomputable def f_is_worth : Fn := callF 1 x_is_worth
noncomputable def x_need_worth : XS := sIf (xNotT (xTru (xCall 1 f_is_worth (xCons (xVar 0) (xNil))))) (sRaise "NoWorth" ["found"] (xCons (xVar 0) (xNil))) (sNil)
noncomputable def f_need_worth : Fn := callF 1 x_need_worth
noncomputable def x_says_yes : XS := sSeq (sExpr (xCall 1 f_need_worth (xCons (xVar 0) (xNil)))) (sRet (xAndV (xBin oIsNot (xVar 0) (xC .non)) (xBin oNe (xVar 0) (xC (.int 0)))))
noncomputable def f_says_yes : Fn := callF 1 x_says_yes
noncomputable def x__law_cell : XS := sSeq (sIf (xTest (xBin oLt (xVar 1) (xCallN oLen (xCons (xVar 0) (xNil))))) (sRet (xBin oIx (xVar 0) (xVar 1))) (sNil)) (sRet (xBin oAdd (xBin oMul2 (xC (.int 7919)) (xVar 1)) (xC (.int 41))))
noncomputable def f__law_cell : Fn := callF 2 x__law_cell
noncomputable def x__law_box : XS := sRet (xLst (xCons (xCallN oMax (xCons (xC (.int 0)) (xCons (xBin oSub (xVar 0) (xBin oPow (xC (.int 10)) (xC (.int 18)))) (xNil)))) (xCons (xBin oMod (xVar 0) (xC (.int 2147483629))) (xCons (xC (.int 0)) (xNil)))))
noncomputable def f__law_box : Fn := callF 1 x__law_box
noncomputable def x__law_take : XS := sSeq (sIf (xTest (xBin oGt (xBin oIx (xVar 0) (xC (.int 0))) (xC (.int 0)))) (sSeq (sSet 2 (xBin oMod (xBin oIx (xVar 0) (xC (.int 0))) (xVar 1))) (sSeq (sSetIx (xVar 0) (xC (.int 0)) (xBin oFdiv (xBin oIx (xVar 0) (xC (.int 0))) (xVar 1))) (sRet (xVar 2)))) (sNil)) (sSeq (sSetIx (xVar 0) (xC (.int 2)) (xBin oAdd (xBin oIx (xVar 0) (xC (.int 2))) (xC (.int 1)))) (sSeq (sSet 3 (xBin oMod (xBin oPow (xBin oAdd (xBin oAdd (xBin oIx (xVar 0) (xC (.int 1))) (xBin oMul2 (xC (.int 7919)) (xBin oIx (xVar 0) (xC (.int 2))))) (xC (.int 31))) (xC (.int 5))) (xC (.int 2147483647)))) (sSeq (sSet 3 (xBin oMod (xBin oPow (xBin oAdd (xBin oFdiv (xVar 3) (xC (.int 8))) (xBin oMul2 (xBin oMul2 (xC (.int 104729)) (xBin oIx (xVar 0) (xC (.int 2)))) (xBin oIx (xVar 0) (xC (.int 2))))) (xC (.int 3))) (xC (.int 2147483587)))) (sRet (xBin oMod (xBin oFdiv (xVar 3) (xC (.int 8))) (xVar 1))))))
noncomputable def f__law_take : Fn := callF 4 x__law_take
noncomputable def x__law_signs : XS := sSeq (sSet 0 (xC (.str " !\"#$&()*+,-./0123456789:;<=>?@ABCDEFGHIJKLMNOPQRSTUVWXYZ[\\]^_`"))) (sRet (xBin oAdd (xVar 0) (xC (.str "abcdefghijklmnopqrstuvwxyz{|}~"))))
noncomputable def f__law_signs : Fn := callF 1 x__law_signs
noncomputable def x__law_text : XS := sSeq (sSet 1 (xCall 0 f__law_signs (xNil))) (sSeq (sSet 2 (xBin oIx (xLst (xCons (xC (.int 0)) (xCons (xC (.int 1)) (xCons (xC (.int 60)) (xCons (xCall 2 f__law_take (xCons (xVar 0) (xCons (xC (.int 61)) (xNil)))) (xCons (xCall 2 f__law_take (xCons (xVar 0) (xCons (xC (.int 9)) (xNil)))) (xNil))))))) (xCall 2 f__law_take (xCons (xVar 0) (xCons (xC (.int 5)) (xNil)))))) (sRet (xMeth "str" oJoin (xC (.str "")) (xCons (xComp (xRange1 (xVar 2)) (.name 3) (xYes) (xBin oIx (xVar 1) (xCall 2 f__law_take (xCons (xVar 0) (xCons (xCallN oLen (xCons (xVar 1) (xNil))) (xNil))))) [3]) (xNil)))))
noncomputable def f__law_text : Fn := callF 4 x__law_text
noncomputable def x__law_worth (self : Fn) : XS := sSeq (sSet 2 (xCall 2 f__law_take (xCons (xVar 0) (xCons (xC (.int 9)) (xNil))))) (sSeq (sIf (xTest (xBin oEq (xVar 2) (xC (.int 0)))) (sRet (xC .non)) (sNil)) (sSeq (sIf (xTest (xBin oLt (xVar 2) (xC (.int 3)))) (sSeq (sSet 3 (xBin oPow (xC (.int 10)) (xC (.int 9)))) (sRet (xBin oIx (xLst (xCons (xC (.int 0)) (xCons (xC (.int 1)) (xCons (xUn oNeg (xC (.int 1))) (xCons (xVar 3) (xCons (xBin oSub (xC (.int 0)) (xVar 3)) (xCons (xBin oSub (xCall 2 f__law_take (xCons (xVar 0) (xCons (xBin oAdd (xBin oMul2 (xC (.int 2)) (xVar 3)) (xC (.int 1))) (xNil)))) (xVar 3)) (xCons (xC (.int 10)) (xNil))))))))) (xCall 2 f__law_take (xCons (xVar 0) (xCons (xC (.int 7)) (xNil))))))) (sNil)) (sSeq (sIf (xTest (xBin oLt (xVar 2) (xC (.int 5)))) (sRet (xCall 1 f__law_text (xCons (xVar 0) (xNil)))) (sNil)) (sSeq (sIf (xOrT (xTest (xBin oEq (xVar 2) (xC (.int 5)))) (xTest (xBin oEq (xVar 1) (xC (.int 0))))) (sRet (xTup (xCons (xC (.str "thing")) (xCons (xBin oIx (xLst (xCons (xC (.int 0)) (xCons (xC (.int 999)) (xCons (xCall 2 f__law_take (xCons (xVar 0) (xCons (xC (.int 1000)) (xNil)))) (xNil))))) (xCall 2 f__law_take (xCons (xVar 0) (xCons (xC (.int 3)) (xNil))))) (xNil))))) (sNil)) (sSeq (sSet 4 (xBin oIx (xLst (xCons (xC (.int 0)) (xCons (xC (.int 1)) (xCons (xC (.int 2)) (xCons (xBin oIx (xLst (xCons (xC (.int 2)) (xCons (xC (.int 30)) (xNil)))) (xCallN oInt (xCons (xBin oEq (xVar 1) (xC (.int 4))) (xNil)))) (xCons (xC (.int 1)) (xNil))))))) (xCall 2 f__law_take (xCons (xVar 0) (xCons (xC (.int 5)) (xNil)))))) (sRet (xTup (xCons (xC (.str "row")) (xCons (xCallN oTuple (xCons (xComp (xRange1 (xVar 4)) (.name 5) (xYes) (xCall 2 self (xCons (xVar 0) (xCons (xBin oSub (xVar 1) (xC (.int 1))) (xNil)))) [5]) (xNil))) (xNil))))))))))
noncomputable def f__law_worth : Nat → Fn
  | 0 => fun _ _ => .stuck
  | n + 1 => callF 6 (x__law_worth (f__law_worth n))
noncomputable def x__law_deep : XS := sSeq (sSet 1 (xTup (xCons (xC (.str "row")) (xCons (xTup (xNil)) (xNil))))) (sSeq (sFor (xRange1 (xBin oSub (xVar 0) (xC (.int 1)))) (.name 2) (sSet 1 (xTup (xCons (xC (.str "row")) (xCons (xTup (xCons (xVar 1) (xNil))) (xNil)))))) (sRet (xVar 1)))
noncomputable def f__law_deep : Fn := callF 3 x__law_deep
noncomputable def x__law_bent (self : Fn) : XS := sSeq (sIf (xAndT (xTru (xCallN oIsi (xCons (xVar 1) (xCons (xC (.ty "tuple")) (xNil))))) (xAndT (xTest (xBin oEq (xBin oIx (xVar 1) (xC (.int 0))) (xC (.str "row")))) (xAndT (xTest (xBin oNe (xBin oIx (xVar 1) (xC (.int 1))) (xTup (xNil)))) (xTest (xBin oGt (xCall 2 f__law_take (xCons (xVar 0) (xCons (xC (.int 4)) (xNil)))) (xC (.int 0))))))) (sSeq (sSet 2 (xCall 2 f__law_take (xCons (xVar 0) (xCons (xCallN oLen (xCons (xBin oIx (xVar 1) (xC (.int 1))) (xNil))) (xNil))))) (sRet (xTup (xCons (xC (.str "row")) (xCons (xBin oAdd (xBin oAdd (xSl oSl (xBin oIx (xVar 1) (xC (.int 1))) none (some (xVar 2))) (xTup (xCons (xCall 2 self (xCons (xVar 0) (xCons (xBin oIx (xBin oIx (xVar 1) (xC (.int 1))) (xVar 2)) (xNil)))) (xNil)))) (xSl oSl (xBin oIx (xVar 1) (xC (.int 1))) (some (xBin oAdd (xVar 2) (xC (.int 1)))) none)) (xNil)))))) (sNil)) (sSeq (sSet 3 (xBin oPow (xC (.int 10)) (xC (.int 9)))) (sSeq (sSet 4 (xLst (xCons (xC (.bl true)) (xCons (xC (.bl false)) (xCons (xBin oAdd (xVar 3) (xC (.int 1))) (xCons (xBin oSub (xBin oSub (xC (.int 0)) (xVar 3)) (xC (.int 1))) (xCons (xBin oPow (xC (.int 10)) (xC (.int 29))) (xCons (xC (.str "a'b")) (xCons (xC (.str "'")) (xCons (xC (.str "a\n")) (xCons (xBin oMul2 (xC (.str "a")) (xC (.int 61))) (xCons (xBin oMul2 (xC (.str "a")) (xC (.int 60))) (xCons (xTup (xCons (xC (.str "thing")) (xCons (xC (.int 1000)) (xNil)))) (xNil)))))))))))))) (sSeq (sSet 4 (xBin oAdd (xVar 4) (xLst (xCons (xTup (xCons (xC (.str "thing")) (xCons (xUn oNeg (xC (.int 1))) (xNil)))) (xCons (xTup (xCons (xC (.str "thing")) (xCons (xC (.bl true)) (xNil)))) (xCons (xTup (xCons (xC (.str "thing")) (xCons (xC (.str "1")) (xNil)))) (xCons (xTup (xCons (xC (.str "thing")) (xNil))) (xCons (xTup (xCons (xC (.str "thing")) (xCons (xC (.int 1)) (xCons (xC (.int 2)) (xNil))))) (xCons (xLst (xCons (xC (.str "thing")) (xCons (xC (.int 1)) (xNil)))) (xCons (xTup (xCons (xC (.str "row")) (xNil))) (xNil))))))))))) (sSeq (sSet 4 (xBin oAdd (xVar 4) (xLst (xCons (xTup (xCons (xC (.str "row")) (xCons (xLst (xNil)) (xNil)))) (xCons (xTup (xCons (xC (.str "row")) (xCons (xTup (xCons (xC (.int 1)) (xCons (xC (.bl true)) (xNil)))) (xNil)))) (xCons (xTup (xCons (xC (.str "row")) (xCons (xTup (xNil)) (xCons (xTup (xNil)) (xNil))))) (xCons (xTup (xCons (xC (.str "rows")) (xCons (xTup (xNil)) (xNil)))) (xCons (xTup (xNil)) (xCons (xLst (xNil)) (xCons (xLst (xCons (xC (.int 1)) (xNil))) (xCons (xDict []) (xCons (xDict [(xC (.str "a"), xC (.int 1))]) (xCons (xTup (xCons (xC (.int 1)) (xCons (xC (.int 2)) (xNil)))) (xNil)))))))))))))) (sSeq (sSet 4 (xBin oAdd (xVar 4) (xLst (xCons (xTup (xCons (xC (.str "row")) (xCons (xBin oMul2 (xTup (xCons (xC (.int 0)) (xNil))) (xC (.int 31))) (xNil)))) (xCons (xTup (xCons (xC (.str "row")) (xCons (xBin oMul2 (xTup (xCons (xC .non) (xNil))) (xC (.int 30))) (xNil)))) (xCons (xCall 1 f__law_deep (xCons (xBin oAdd (xC (.int 1)) (xCall 2 f__law_take (xCons (xVar 0) (xCons (xC (.int 2)) (xNil))))) (xNil))) (xCons (xTup (xCons (xC (.str "thing")) (xCons (xC .non) (xNil)))) (xCons (xC (.str "row")) (xNil))))))))) (sRet (xBin oIx (xVar 4) (xCall 2 f__law_take (xCons (xVar 0) (xCons (xCallN oLen (xCons (xVar 4) (xNil))) (xNil)))))))))))
noncomputable def f__law_bent : Nat → Fn
  | 0 => fun _ _ => .stuck
  | n + 1 => callF 5 (x__law_bent (f__law_bent n))
noncomputable def x__law_is_text : XS := sSeq (sIf (xOrT (xNotT (xTru (xCallN oIsi (xCons (xVar 0) (xCons (xC (.ty "str")) (xNil)))))) (xTest (xBin oGt (xCallN oLen (xCons (xVar 0) (xNil))) (xC (.int 60))))) (sRet (xC (.bl false))) (sNil)) (sRet (xBin oEq (xComp (xIter (xVar 0)) (.name 1) (xTest (xBin oNotIn (xVar 1) (xCall 0 f__law_signs (xNil)))) (xVar 1) [1]) (xLst (xNil))))
noncomputable def f__law_is_text : Fn := callF 2 x__law_is_text
noncomputable def x__law_is_number : XS := sRet (xAndV (xCallN oIsi (xCons (xVar 0) (xCons (xC (.ty "int")) (xNil)))) (xAndV (xNotV (xCallN oIsi (xCons (xVar 0) (xCons (xC (.ty "bool")) (xNil))))) (xAndV (xBin oLe (xVar 1) (xVar 0)) (xBin oLe (xVar 0) (xVar 2)))))
noncomputable def f__law_is_number : Fn := callF 3 x__law_is_number
noncomputable def x__law_is_worth (self : Fn) : XS := sSeq (sIf (xOrT (xTest (xBin oIs (xVar 0) (xC .non))) (xOrT (xTru (xCall 3 f__law_is_number (xCons (xVar 0) (xCons (xBin oSub (xC (.int 0)) (xBin oPow (xC (.int 10)) (xC (.int 9)))) (xCons (xBin oPow (xC (.int 10)) (xC (.int 9))) (xNil)))))) (xTru (xCall 1 f__law_is_text (xCons (xVar 0) (xNil)))))) (sRet (xC (.bl true))) (sNil)) (sSeq (sIf (xOrT (xNotT (xTru (xCallN oIsi (xCons (xVar 0) (xCons (xC (.ty "tuple")) (xNil)))))) (xTest (xBin oNe (xCallN oLen (xCons (xVar 0) (xNil))) (xC (.int 2))))) (sRet (xC (.bl false))) (sNil)) (sSeq (sIf (xTest (xBin oEq (xBin oIx (xVar 0) (xC (.int 0))) (xC (.str "thing")))) (sRet (xCall 3 f__law_is_number (xCons (xBin oIx (xVar 0) (xC (.int 1))) (xCons (xC (.int 0)) (xCons (xC (.int 999)) (xNil)))))) (sNil)) (sSeq (sIf (xOrT (xTest (xBin oNe (xBin oIx (xVar 0) (xC (.int 0))) (xC (.str "row")))) (xOrT (xNotT (xTru (xCallN oIsi (xCons (xBin oIx (xVar 0) (xC (.int 1))) (xCons (xC (.ty "tuple")) (xNil)))))) (xOrT (xTest (xBin oGt (xCallN oLen (xCons (xBin oIx (xVar 0) (xC (.int 1))) (xNil))) (xC (.int 30)))) (xTest (xBin oEq (xVar 1) (xC (.int 0))))))) (sRet (xC (.bl false))) (sNil)) (sRet (xBin oEq (xComp (xIter (xBin oIx (xVar 0) (xC (.int 1)))) (.name 2) (xNotT (xTru (xCall 2 self (xCons (xVar 2) (xCons (xBin oSub (xVar 1) (xC (.int 1))) (xNil)))))) (xVar 2) [2]) (xLst (xNil)))))))
noncomputable def f__law_is_worth : Nat → Fn
  | 0 => fun _ _ => .stuck
  | n + 1 => callF 3 (x__law_is_worth (f__law_is_worth n))
noncomputable def x__law_same : XS := sSeq (sIf (xTest (xBin oNe (xCallN oRepr (xCons (xVar 0) (xNil))) (xCallN oRepr (xCons (xVar 1) (xNil))))) (sRet (xC (.bl false))) (sNil)) (sSeq (sIf (xTru (xCallN oIsi (xCons (xVar 1) (xCons (xC (.ty "list")) (xNil))))) (sExpr (xMeth "list" oAppend (xVar 1) (xCons (xC (.str "late")) (xNil)))) (sNil)) (sSeq (sIf (xTru (xCallN oIsi (xCons (xVar 1) (xCons (xC (.ty "dict")) (xNil))))) (sSetIx (xVar 1) (xC (.str "late")) (xC (.int 7))) (sNil)) (sRet (xBin oEq (xCallN oRepr (xCons (xVar 0) (xNil))) (xCallN oRepr (xCons (xVar 1) (xNil)))))))
noncomputable def f__law_same : Fn := callF 2 x__law_same
noncomputable def x__law_name : XS := sSeq (sSet 1 (xC (.str "abcdefghijklmnopqrstuvwxyz"))) (sSeq (sSet 2 (xMeth "str" oJoin (xC (.str "")) (xCons (xComp (xRange1 (xCall 2 f__law_take (xCons (xVar 0) (xCons (xC (.int 10)) (xNil))))) (.name 5) (xYes) (xBin oIx (xVar 1) (xCall 2 f__law_take (xCons (xVar 0) (xCons (xC (.int 26)) (xNil))))) [5]) (xNil)))) (sSeq (sSet 2 (xBin oIx (xLst (xCons (xVar 2) (xCons (xVar 2) (xCons (xBin oIx (xLst (xCons (xC (.str "me")) (xCons (xC (.str "here")) (xCons (xC (.str "none")) (xCons (xC (.str "m")) (xCons (xC (.str "hered")) (xCons (xC (.str "on")) (xNil)))))))) (xCall 2 f__law_take (xCons (xVar 0) (xCons (xC (.int 6)) (xNil))))) (xNil))))) (xCall 2 f__law_take (xCons (xVar 0) (xCons (xC (.int 3)) (xNil)))))) (sSeq (sSet 3 (xCall 2 f__law_take (xCons (xVar 0) (xCons (xBin oAdd (xCallN oLen (xCons (xVar 2) (xNil))) (xC (.int 1))) (xNil))))) (sSeq (sSet 4 (xBin oIx (xC (.str "aZ0 _-.")) (xCall 2 f__law_take (xCons (xVar 0) (xCons (xC (.int 7)) (xNil)))))) (sRet (xBin oIx (xLst (xCons (xVar 2) (xCons (xVar 2) (xCons (xBin oAdd (xBin oAdd (xSl oSl (xVar 2) none (some (xVar 3))) (xVar 4)) (xSl oSl (xVar 2) (some (xVar 3)) none)) (xCons (xBin oAdd (xBin oAdd (xSl oSl (xVar 2) none (some (xVar 3))) (xVar 4)) (xSl oSl (xVar 2) (some (xBin oAdd (xVar 3) (xC (.int 1)))) none)) (xNil)))))) (xCall 2 f__law_take (xCons (xVar 0) (xCons (xC (.int 4)) (xNil))))))))))
noncomputable def f__law_name : Fn := callF 6 x__law_name
noncomputable def x__law_is_name : XS := sSeq (sIf (xOrT (xNotT (xTru (xCallN oIsi (xCons (xVar 0) (xCons (xC (.ty "str")) (xNil)))))) (xOrT (xTest (xBin oLt (xCallN oLen (xCons (xVar 0) (xNil))) (xC (.int 1)))) (xOrT (xTest (xBin oGt (xCallN oLen (xCons (xVar 0) (xNil))) (xC (.int 8)))) (xTest (xBin oIn (xVar 0) (xLst (xCons (xC (.str "me")) (xCons (xC (.str "here")) (xCons (xC (.str "none")) (xNil)))))))))) (sRet (xC (.bl false))) (sNil)) (sRet (xBin oEq (xComp (xIter (xVar 0)) (.name 1) (xTest (xBin oNotIn (xVar 1) (xC (.str "abcdefghijklmnopqrstuvwxyz")))) (xVar 1) [1]) (xLst (xNil))))
noncomputable def f__law_is_name : Fn := callF 2 x__law_is_name
noncomputable def x__law_bound : XS := sSeq (sSet 2 (xIf (xTru (xCall 3 f__law_is_number (xCons (xVar 1) (xCons (xBin oSub (xC (.int 0)) (xBin oPow (xC (.int 10)) (xC (.int 30)))) (xCons (xBin oPow (xC (.int 10)) (xC (.int 30))) (xNil)))))) (xVar 1) (xC (.int 0)))) (sRet (xBin oSub (xBin oAdd (xBin oIx (xLst (xCons (xVar 2) (xCons (xVar 2) (xCons (xC (.int 0)) (xCons (xBin oSub (xCall 2 f__law_take (xCons (xVar 0) (xCons (xBin oPow (xC (.int 10)) (xC (.int 29))) (xNil)))) (xBin oMul2 (xC (.int 5)) (xBin oPow (xC (.int 10)) (xC (.int 28))))) (xNil)))))) (xCall 2 f__law_take (xCons (xVar 0) (xCons (xC (.int 4)) (xNil))))) (xCall 2 f__law_take (xCons (xVar 0) (xCons (xC (.int 3)) (xNil))))) (xC (.int 1))))
noncomputable def f__law_bound : Fn := callF 3 x__law_bound
noncomputable def x__law_yes_right : XS := sSeq (sSet 1 (xCall 2 (f__law_is_worth 12) (xCons (xVar 0) (xCons (xC (.int 4)) (xNil))))) (sSeq (sTry ct (sSet 2 (xCall 1 f_says_yes (xCons (xVar 0) (xNil)))) [⟨["NoWorth"], some 3, fun c fs => sRet (xAndV (xNotV (xVar 1)) (xAndV (xIsE ct c "InnerError") (xAndV (xNotV (xIsE ct c "Barred")) (xCall 2 f__law_same (xCons (xFld fs "found") (xCons (xVar 0) (xNil)))))))⟩, ⟨["InnerError", "Barred"], none, fun c fs => sRet (xC (.bl false))⟩]) (sSeq (sIf (xNotT (xTru (xVar 1))) (sRet (xC (.bl false))) (sNil)) (sRet (xBin oEq (xCallN oRepr (xCons (xVar 2) (xNil))) (xCallN oRepr (xCons (xAndV (xBin oIsNot (xVar 0) (xC .non)) (xOrV (xNotV (xCallN oIsi (xCons (xVar 0) (xCons (xC (.ty "int")) (xNil))))) (xBin oNe (xVar 0) (xC (.int 0))))) (xNil)))))))
noncomputable def f__law_yes_right : Fn := callF 4 x__law_yes_right
noncomputable def x__law_right : XS := sSeq (sSet 1 (xBin oPow (xC (.int 10)) (xC (.int 29)))) (sSeq (sSet 2 (xBin oIx (xLst (xCons (xC (.int 0)) (xCons (xUn oNeg (xC (.int 1))) (xCons (xCall 2 f__law_take (xCons (xVar 0) (xCons (xVar 1) (xNil)))) (xCons (xBin oSub (xC (.int 1)) (xCall 2 f__law_take (xCons (xVar 0) (xCons (xVar 1) (xNil))))) (xCons (xCall 2 f__law_take (xCons (xVar 0) (xCons (xBin oMul2 (xC (.int 2)) (xBin oPow (xC (.int 10)) (xC (.int 9)))) (xNil)))) (xNil))))))) (xCall 2 f__law_take (xCons (xVar 0) (xCons (xC (.int 5)) (xNil)))))) (sSeq (sSet 3 (xCall 2 (f__law_worth 12) (xCons (xVar 0) (xCons (xC (.int 4)) (xNil))))) (sSeq (sSet 4 (xCall 2 (f__law_bent 12) (xCons (xVar 0) (xCons (xC .non) (xNil))))) (sSeq (sFor (xIter (xLst (xCons (xVar 2) (xCons (xVar 3) (xCons (xVar 4) (xCons (xCall 1 f__law_name (xCons (xVar 0) (xNil))) (xCons (xCall 1 f__law_text (xCons (xVar 0) (xNil))) (xCons (xCall 2 (f__law_bent 12) (xCons (xVar 0) (xCons (xVar 3) (xNil)))) (xNil))))))))) (.name 5) (sSeq (sSet 6 (xCallN oRepr (xCons (xVar 5) (xNil)))) (sSeq (sPar [7, 8] (xCons (xCall 2 f__law_bound (xCons (xVar 0) (xCons (xVar 5) (xNil)))) (xCons (xCall 2 f__law_bound (xCons (xVar 0) (xCons (xVar 5) (xNil)))) (xNil)))) (sSeq (sFor (xRange1 (xC (.int 2))) (.name 9) (sSeq (sIf (xTest (xBin oNe (xCallN oRepr (xCons (xCall 3 f_is_whole (xCons (xVar 5) (xCons (xVar 7) (xCons (xVar 8) (xNil))))) (xNil))) (xCallN oRepr (xCons (xCall 3 f__law_is_number (xCons (xVar 5) (xCons (xVar 7) (xCons (xVar 8) (xNil))))) (xNil))))) (sRet (xC (.bl false))) (sNil)) (sSeq (sIf (xOrT (xTest (xBin oNe (xCallN oRepr (xCons (xCall 1 f_is_name (xCons (xVar 5) (xNil))) (xNil))) (xCallN oRepr (xCons (xCall 1 f__law_is_name (xCons (xVar 5) (xNil))) (xNil))))) (xTest (xBin oNe (xCallN oRepr (xCons (xCall 1 f_is_text (xCons (xVar 5) (xNil))) (xNil))) (xCallN oRepr (xCons (xCall 1 f__law_is_text (xCons (xVar 5) (xNil))) (xNil)))))) (sRet (xC (.bl false))) (sNil)) (sIf (xOrT (xTest (xBin oNe (xCallN oRepr (xCons (xCall 1 f_is_worth (xCons (xVar 5) (xNil))) (xNil))) (xCallN oRepr (xCons (xCall 2 (f__law_is_worth 12) (xCons (xVar 5) (xCons (xC (.int 4)) (xNil)))) (xNil))))) (xTest (xBin oNe (xCallN oRepr (xCons (xVar 5) (xNil))) (xVar 6)))) (sRet (xC (.bl false))) (sNil))))) (sIf (xNotT (xTru (xCall 1 f__law_yes_right (xCons (xVar 5) (xNil))))) (sRet (xC (.bl false))) (sNil)))))) (sRet (xC (.bl true)))))))
noncomputable def f__law_right : Fn := callF 10 x__law_right
noncomputable def x_law : XS := sSeq (sFor (xRange1 (xCallN oMax (xCons (xC (.int 3)) (xCons (xCallN oMin (xCons (xC (.int 12)) (xCons (xCallN oLen (xCons (xVar 0) (xNil))) (xNil)))) (xNil))))) (.name 1) (sIf (xNotT (xTru (xCall 1 f__law_right (xCons (xCall 1 f__law_box (xCons (xCall 2 f__law_cell (xCons (xVar 0) (xCons (xVar 1) (xNil)))) (xNil))) (xNil))))) (sRet (xC (.bl false))) (sNil))) (sRet (xC (.bl true)))
noncomputable def f_law : Fn := callF 2 x_law
end K
namespace K
open PySem L2 EX
def top (i : Nat) : Stmt := PySem.Challenge.pw_innerlook_k01_kinds_of_any_thing.main.body.getD i (.Pass ⟨0, 0, 0, 0⟩)
abbrev s_is_whole : Stmt := top 15
theorem sc_is_whole : FnScope ["thing", "low", "high"] ["thing", "low", "high"] (defScope s_is_whole) := ⟨rfl, rfl, rfl, by decide +kernel, rfl, by decide +kernel, by decide +kernel⟩
abbrev s_is_name : Stmt := top 16
theorem sc_is_name : FnScope ["thing", "sign"] ["thing"] (defScope s_is_name) := ⟨rfl, rfl, rfl, by decide +kernel, rfl, by decide +kernel, by decide +kernel⟩
abbrev s_is_text : Stmt := top 17
theorem sc_is_text : FnScope ["thing", "sign"] ["thing"] (defScope s_is_text) := ⟨rfl, rfl, rfl, by decide +kernel, rfl, by decide +kernel, by decide +kernel⟩
abbrev s_is_number : Stmt := top 18
theorem sc_is_number : FnScope ["thing"] ["thing"] (defScope s_is_number) := ⟨rfl, rfl, rfl, by decide +kernel, rfl, by decide +kernel, by decide +kernel⟩
abbrev s_is_pair : Stmt := top 19
theorem sc_is_pair : FnScope ["thing", "word"] ["thing", "word"] (defScope s_is_pair) := ⟨rfl, rfl, rfl, by decide +kernel, rfl, by decide +kernel, by decide +kernel⟩
abbrev s_is_thing : Stmt := top 20
theorem sc_is_thing : FnScope ["thing"] ["thing"] (defScope s_is_thing) := ⟨rfl, rfl, rfl, by decide +kernel, rfl, by decide +kernel, by decide +kernel⟩
abbrev s_is_worth_within : Stmt := top 21
theorem sc_is_worth_within : FnScope ["thing", "deep", "part"] ["thing", "deep"] (defScope s_is_worth_within) := ⟨rfl, rfl, rfl, by decide +kernel, rfl, by decide +kernel, by decide +kernel⟩
abbrev s_is_worth : Stmt := top 22
theorem sc_is_worth : FnScope ["thing"] ["thing"] (defScope s_is_worth) := ⟨rfl, rfl, rfl, by decide +kernel, rfl, by decide +kernel, by decide +kernel⟩
abbrev s_need_worth : Stmt := top 23
theorem sc_need_worth : FnScope ["thing"] ["thing"] (defScope s_need_worth) := ⟨rfl, rfl, rfl, by decide +kernel, rfl, by decide +kernel, by decide +kernel⟩
abbrev s_says_yes : Stmt := top 24
theorem sc_says_yes : FnScope ["worth"] ["worth"] (defScope s_says_yes) := ⟨rfl, rfl, rfl, by decide +kernel, rfl, by decide +kernel, by decide +kernel⟩
abbrev s__law_cell : Stmt := top 26
theorem sc__law_cell : FnScope ["_law_script", "_law_k"] ["_law_script", "_law_k"] (defScope s__law_cell) := ⟨rfl, rfl, rfl, by decide +kernel, rfl, by decide +kernel, by decide +kernel⟩
abbrev s__law_box : Stmt := top 27
theorem sc__law_box : FnScope ["_law_cell_here"] ["_law_cell_here"] (defScope s__law_box) := ⟨rfl, rfl, rfl, by decide +kernel, rfl, by decide +kernel, by decide +kernel⟩
abbrev s__law_take : Stmt := top 28
theorem sc__law_take : FnScope ["_law_box_here", "_law_many", "_law_digit", "_law_number"] ["_law_box_here", "_law_many"] (defScope s__law_take) := ⟨rfl, rfl, rfl, by decide +kernel, rfl, by decide +kernel, by decide +kernel⟩
abbrev s__law_signs : Stmt := top 29
theorem sc__law_signs : FnScope ["_law_signs_here"] [] (defScope s__law_signs) := ⟨rfl, rfl, rfl, by decide +kernel, rfl, by decide +kernel, by decide +kernel⟩
abbrev s__law_text : Stmt := top 30
theorem sc__law_text : FnScope ["_law_box_here", "_law_signs_here", "_law_many", "_law_k"] ["_law_box_here"] (defScope s__law_text) := ⟨rfl, rfl, rfl, by decide +kernel, rfl, by decide +kernel, by decide +kernel⟩
abbrev s__law_worth : Stmt := top 31
theorem sc__law_worth : FnScope ["_law_box_here", "_law_deep_here", "_law_way", "_law_most", "_law_many", "_law_k"] ["_law_box_here", "_law_deep_here"] (defScope s__law_worth) := ⟨rfl, rfl, rfl, by decide +kernel, rfl, by decide +kernel, by decide +kernel⟩
abbrev s__law_deep : Stmt := top 32
theorem sc__law_deep : FnScope ["_law_many", "_law_found", "_law_k"] ["_law_many"] (defScope s__law_deep) := ⟨rfl, rfl, rfl, by decide +kernel, rfl, by decide +kernel, by decide +kernel⟩
abbrev s__law_bent : Stmt := top 33
theorem sc__law_bent : FnScope ["_law_box_here", "_law_worth_here", "_law_at", "_law_most", "_law_some"] ["_law_box_here", "_law_worth_here"] (defScope s__law_bent) := ⟨rfl, rfl, rfl, by decide +kernel, rfl, by decide +kernel, by decide +kernel⟩
abbrev s__law_is_text : Stmt := top 34
theorem sc__law_is_text : FnScope ["_law_thing", "_law_sign"] ["_law_thing"] (defScope s__law_is_text) := ⟨rfl, rfl, rfl, by decide +kernel, rfl, by decide +kernel, by decide +kernel⟩
abbrev s__law_is_number : Stmt := top 35
theorem sc__law_is_number : FnScope ["_law_thing", "_law_low", "_law_high"] ["_law_thing", "_law_low", "_law_high"] (defScope s__law_is_number) := ⟨rfl, rfl, rfl, by decide +kernel, rfl, by decide +kernel, by decide +kernel⟩
abbrev s__law_is_worth : Stmt := top 36
theorem sc__law_is_worth : FnScope ["_law_thing", "_law_deep_here", "_law_part"] ["_law_thing", "_law_deep_here"] (defScope s__law_is_worth) := ⟨rfl, rfl, rfl, by decide +kernel, rfl, by decide +kernel, by decide +kernel⟩
abbrev s__law_same : Stmt := top 37
theorem sc__law_same : FnScope ["_law_found", "_law_thing"] ["_law_found", "_law_thing"] (defScope s__law_same) := ⟨rfl, rfl, rfl, by decide +kernel, rfl, by decide +kernel, by decide +kernel⟩
abbrev s__law_name : Stmt := top 38
theorem sc__law_name : FnScope ["_law_box_here", "_law_letters", "_law_word", "_law_at", "_law_sign", "_law_k"] ["_law_box_here"] (defScope s__law_name) := ⟨rfl, rfl, rfl, by decide +kernel, rfl, by decide +kernel, by decide +kernel⟩
abbrev s__law_is_name : Stmt := top 39
theorem sc__law_is_name : FnScope ["_law_thing", "_law_sign"] ["_law_thing"] (defScope s__law_is_name) := ⟨rfl, rfl, rfl, by decide +kernel, rfl, by decide +kernel, by decide +kernel⟩
abbrev s__law_bound : Stmt := top 40
theorem sc__law_bound : FnScope ["_law_box_here", "_law_number", "_law_base"] ["_law_box_here", "_law_number"] (defScope s__law_bound) := ⟨rfl, rfl, rfl, by decide +kernel, rfl, by decide +kernel, by decide +kernel⟩
abbrev s__law_yes_right : Stmt := top 41
theorem sc__law_yes_right : FnScope ["_law_thing", "_law_good", "_law_told", "e"] ["_law_thing"] (defScope s__law_yes_right) := ⟨rfl, rfl, rfl, by decide +kernel, rfl, by decide +kernel, by decide +kernel⟩
abbrev s__law_right : Stmt := top 42
theorem sc__law_right : FnScope ["_law_box_here", "_law_most", "_law_number", "_law_worth_here", "_law_odd", "_law_thing", "_law_kept", "_law_low", "_law_high", "_law_turn"] ["_law_box_here"] (defScope s__law_right) := ⟨rfl, rfl, rfl, by decide +kernel, rfl, by decide +kernel, by decide +kernel⟩
abbrev s_law : Stmt := top 43
theorem sc_law : FnScope ["_law_script", "_law_k"] ["_law_script"] (defScope s_law) := ⟨rfl, rfl, rfl, by decide +kernel, rfl, by decide +kernel, by decide +kernel⟩
abbrev FnP (K : PySem.W.Frag) (x : Str) (st : Stmt) (fd : Str → FuncData) : Prop := FunD K x x (defArgs st) (defBody st) (defScope st) [] [] (He.ga K x) (fd x)
abbrev s_NoWorth : Stmt := inClass (top 3) 0
theorem sc_NoWorth : FnScope ["self", "found"] ["self", "found"] (defScope s_NoWorth) := ⟨rfl, rfl, rfl, by decide +kernel, rfl, by decide +kernel, by decide +kernel⟩
structure Facts (K : PySem.W.Frag) (mg : Str → Option Value) (fd : Str → FuncData) : Prop where
  d_is_whole : FnP K "is_whole" s_is_whole fd
  g_is_whole : mg "is_whole" = some (.ref (He.ga K "is_whole"))
  d_is_name : FnP K "is_name" s_is_name fd
  g_is_name : mg "is_name" = some (.ref (He.ga K "is_name"))
  d_is_text : FnP K "is_text" s_is_text fd
  g_is_text : mg "is_text" = some (.ref (He.ga K "is_text"))
  d_is_number : FnP K "is_number" s_is_number fd
  g_is_number : mg "is_number" = some (.ref (He.ga K "is_number"))
  d_is_pair : FnP K "is_pair" s_is_pair fd
  g_is_pair : mg "is_pair" = some (.ref (He.ga K "is_pair"))
  d_is_thing : FnP K "is_thing" s_is_thing fd
  g_is_thing : mg "is_thing" = some (.ref (He.ga K "is_thing"))
  d_is_worth_within : FnP K "is_worth_within" s_is_worth_within fd
  g_is_worth_within : mg "is_worth_within" = some (.ref (He.ga K "is_worth_within"))
  d_is_worth : FnP K "is_worth" s_is_worth fd
  g_is_worth : mg "is_worth" = some (.ref (He.ga K "is_worth"))
  d_need_worth : FnP K "need_worth" s_need_worth fd
  g_need_worth : mg "need_worth" = some (.ref (He.ga K "need_worth"))
  d_says_yes : FnP K "says_yes" s_says_yes fd
  g_says_yes : mg "says_yes" = some (.ref (He.ga K "says_yes"))
  d__law_cell : FnP K "_law_cell" s__law_cell fd
  g__law_cell : mg "_law_cell" = some (.ref (He.ga K "_law_cell"))
  d__law_box : FnP K "_law_box" s__law_box fd
  g__law_box : mg "_law_box" = some (.ref (He.ga K "_law_box"))
  d__law_take : FnP K "_law_take" s__law_take fd
  g__law_take : mg "_law_take" = some (.ref (He.ga K "_law_take"))
  d__law_signs : FnP K "_law_signs" s__law_signs fd
  g__law_signs : mg "_law_signs" = some (.ref (He.ga K "_law_signs"))
  d__law_text : FnP K "_law_text" s__law_text fd
  g__law_text : mg "_law_text" = some (.ref (He.ga K "_law_text"))
  d__law_worth : FnP K "_law_worth" s__law_worth fd
  g__law_worth : mg "_law_worth" = some (.ref (He.ga K "_law_worth"))
  d__law_deep : FnP K "_law_deep" s__law_deep fd
  g__law_deep : mg "_law_deep" = some (.ref (He.ga K "_law_deep"))
  d__law_bent : FnP K "_law_bent" s__law_bent fd
  g__law_bent : mg "_law_bent" = some (.ref (He.ga K "_law_bent"))
  d__law_is_text : FnP K "_law_is_text" s__law_is_text fd
  g__law_is_text : mg "_law_is_text" = some (.ref (He.ga K "_law_is_text"))
  d__law_is_number : FnP K "_law_is_number" s__law_is_number fd
  g__law_is_number : mg "_law_is_number" = some (.ref (He.ga K "_law_is_number"))
  d__law_is_worth : FnP K "_law_is_worth" s__law_is_worth fd
  g__law_is_worth : mg "_law_is_worth" = some (.ref (He.ga K "_law_is_worth"))
  d__law_same : FnP K "_law_same" s__law_same fd
  g__law_same : mg "_law_same" = some (.ref (He.ga K "_law_same"))
  d__law_name : FnP K "_law_name" s__law_name fd
  g__law_name : mg "_law_name" = some (.ref (He.ga K "_law_name"))
  d__law_is_name : FnP K "_law_is_name" s__law_is_name fd
  g__law_is_name : mg "_law_is_name" = some (.ref (He.ga K "_law_is_name"))
  d__law_bound : FnP K "_law_bound" s__law_bound fd
  g__law_bound : mg "_law_bound" = some (.ref (He.ga K "_law_bound"))
  d__law_yes_right : FnP K "_law_yes_right" s__law_yes_right fd
  g__law_yes_right : mg "_law_yes_right" = some (.ref (He.ga K "_law_yes_right"))
  d__law_right : FnP K "_law_right" s__law_right fd
  g__law_right : mg "_law_right" = some (.ref (He.ga K "_law_right"))
  d_law : FnP K "law" s_law fd
  g_law : mg "law" = some (.ref (He.ga K "law"))
  n_all : mg "all" = none
  n_bool : mg "bool" = none
  n_dict : mg "dict" = none
  n_int : mg "int" = none
  n_isinstance : mg "isinstance" = none
  n_len : mg "len" = none
  n_list : mg "list" = none
  n_max : mg "max" = none
  n_min : mg "min" = none
  n_ord : mg "ord" = none
  n_range : mg "range" = none
  n_repr : mg "repr" = none
  n_str : mg "str" = none
  n_tuple : mg "tuple" = none
  c_LETTERS : ∃ t, mg "LETTERS" = some (.str "abcdefghijklmnopqrstuvwxyz" t)
  c_MOST_DEEP : ∃ t, mg "MOST_DEEP" = some (.int 4 t)
  c_MOST_NAME : ∃ t, mg "MOST_NAME" = some (.int 8 t)
  c_MOST_NUMBER : ∃ t, mg "MOST_NUMBER" = some (.int 1000000000 t)
  c_MOST_PARTS : ∃ t, mg "MOST_PARTS" = some (.int 30 t)
  c_MOST_SIGNS : ∃ t, mg "MOST_SIGNS" = some (.int 60 t)
  c_MOST_THING : ∃ t, mg "MOST_THING" = some (.int 999 t)
  c_NO_NAMES : KTup K mg "NO_NAMES" (k_NO_NAMES.map flatV2)
  c_PER_CENT : ∃ t, mg "PER_CENT" = some (.int 37 t)
  c_QUOTE : ∃ t, mg "QUOTE" = some (.int 39 t)
  sm : SmIn K
  ct : CtOk K mg _root_.K.ct ["NoWorth", "InnerError", "Barred"] ["found"]
  x_NoWorth : ClsF K "NoWorth" ["found"]
  i_NoWorth : FunD K "__init__" "NoWorth.__init__" (defArgs s_NoWorth) (defBody s_NoWorth) (defScope s_NoWorth) [] [] (He.ma K (He.ga K "NoWorth") "__init__") (fd "NoWorth.__init__")
  bs_InnerError : BaseI K (He.ga K "InnerError")
  g_Barred : mg "Barred" = some (.ref (He.ga K "Barred"))
  g_InnerError : mg "InnerError" = some (.ref (He.ga K "InnerError"))
  g_NoWorth : mg "NoWorth" = some (.ref (He.ga K "NoWorth"))
section
variable {P : Program} {w : World} {K : PySem.W.Frag} {mg : Str → Option Value} {base : Heap} {fd : Str → FuncData}
theorem bi_NoWorth (T : Facts K mg fd) : Binds K (fd "NoWorth.__init__") ["self", "found"] [] := T.i_NoWorth.bindsN fun _ _ _ _ _ _ us hl => match us, hl with | [_, _], _ => rfl
theorem ini_NoWorth (T : Facts K mg fd) : FnOk P w K mg base (L2.CX P w) 1 (He.ma K (He.ga K "NoWorth") "__init__") (fd "NoWorth.__init__") ["self", "found"] (spI K ["found"]) :=
  init1 T.i_NoWorth sc_NoWorth rfl rfl rfl T.g_InnerError T.bs_InnerError (by decide) (by decide) (by decide) (fun _ => ⟨_, rfl⟩)
theorem b_is_whole (T : Facts K mg fd) : Binds K (fd "is_whole") ["thing", "low", "high"] [] := T.d_is_whole.bindsN fun _ _ _ _ _ _ us hl => match us, hl with | [_, _, _], _ => rfl
theorem ok_is_whole (T : Facts K mg fd) : FnG P w K mg base 1 (He.ga K "is_whole") (fd "is_whole") ["thing", "low", "high"] (spX ⟨K, mg, w⟩ 3 f_is_whole) :=
  fn_x (k := 0) T.d_is_whole sc_is_whole fun cdv A outer s H E hr hgd => by
    have tk := takes_of (X := cxOf (L2.CX P w) P w K mg base ["thing", "low", "high"] "is_whole" (defScope s_is_whole) (He.ga K "is_whole") cdv A outer s H E) (E := E) rfl rfl rfl rfl
    have hpo := passes_of (X := cxOf (L2.CX P w) P w K mg base ["thing", "low", "high"] "is_whole" (defScope s_is_whole) (He.ga K "is_whole") cdv A outer s H E) rfl
    have hu1 := hu_of hr; have hu64 := hr.units; have hu70 := un70 hr
    exact (qss_one (qs_ret (q_and (q_callB call_isi_x rfl T.n_isinstance bt_isinstance (qa_cons (q_var 0 (pv 0)) (qa_cons (q_ty rfl T.n_int bt_int) qa_nil))) (q_and (q_not (q_callB call_isi_x rfl T.n_isinstance bt_isinstance (qa_cons (q_var 0 (pv 0)) (qa_cons (q_ty rfl T.n_bool bt_bool) qa_nil)))) (q_one (q_chain op_le_x op_le_x (q_var 1 (pv 1)) (q_var 0 (pv 0)) (q_var 2 (pv 2))))))))
theorem b_is_name (T : Facts K mg fd) : Binds K (fd "is_name") ["thing"] [] := T.d_is_name.bindsN fun _ _ _ _ _ _ us hl => match us, hl with | [_], _ => rfl
theorem ok_is_name (T : Facts K mg fd) : FnG P w K mg base 1 (He.ga K "is_name") (fd "is_name") ["thing"] (spX ⟨K, mg, w⟩ 1 f_is_name) :=
  fn_x (k := 0) T.d_is_name sc_is_name fun cdv A outer s H E hr hgd => by
    have tk := takes_of (X := cxOf (L2.CX P w) P w K mg base ["thing", "sign"] "is_name" (defScope s_is_name) (He.ga K "is_name") cdv A outer s H E) (E := E) rfl rfl rfl rfl
    have hpo := passes_of (X := cxOf (L2.CX P w) P w K mg base ["thing", "sign"] "is_name" (defScope s_is_name) (He.ga K "is_name") cdv A outer s H E) rfl
    have hu1 := hu_of hr; have hu64 := hr.units; have hu70 := un70 hr
    exact (qss_cons (qs_if (PW.pt (qw_or (qt_not (qt_tru (q_callB call_isi_x rfl T.n_isinstance bt_isinstance (qa_cons (q_var 0 (pv 0)) (qa_cons (q_ty rfl T.n_str bt_str) qa_nil))))) (qw_or (qt_not (qt_chain op_le_x op_le_x q_int (q_callB call_len_x rfl T.n_len bt_len (qa_cons (q_var 0 (pv 0)) qa_nil)) (q_gint T.c_MOST_NAME rfl))) (qw_or1 (qt_cmp op_in_x (q_var 0 (pv 0)) (q_gtup (xs := k_NO_NAMES) T.c_NO_NAMES rfl) (by rfl)))))) (qss_one (qs_ret q_bl)) qss_nil) (qss_one (qs_ret (q_callB (call_all_x rfl) rfl T.n_all bt_all (qa_cons (q_lc (own := [("sign", 1)]) rfl sc_is_name.nd (qi_any (q_var 0 (pv 0))) (blkOk_by (N := ["thing", "sign"]) (sc := defScope s_is_name) (by decide +kernel)) (fun _ _ _ _ _ => (qg_name 1 sc_is_name.nd rfl (Or.inl rfl))) (fun _ _ _ _ _ => qts_nil) (fun _ _ _ _ _ => (q_cmp op_in_x (q_var 1 (pv 1)) (q_gstr T.c_LETTERS rfl) (by rfl)))) qa_nil)))))
theorem b_is_text (T : Facts K mg fd) : Binds K (fd "is_text") ["thing"] [] := T.d_is_text.bindsN fun _ _ _ _ _ _ us hl => match us, hl with | [_], _ => rfl
theorem ok_is_text (T : Facts K mg fd) : FnG P w K mg base 1 (He.ga K "is_text") (fd "is_text") ["thing"] (spX ⟨K, mg, w⟩ 1 f_is_text) :=
  fn_x (k := 0) T.d_is_text sc_is_text fun cdv A outer s H E hr hgd => by
    have tk := takes_of (X := cxOf (L2.CX P w) P w K mg base ["thing", "sign"] "is_text" (defScope s_is_text) (He.ga K "is_text") cdv A outer s H E) (E := E) rfl rfl rfl rfl
    have hpo := passes_of (X := cxOf (L2.CX P w) P w K mg base ["thing", "sign"] "is_text" (defScope s_is_text) (He.ga K "is_text") cdv A outer s H E) rfl
    have hu1 := hu_of hr; have hu64 := hr.units; have hu70 := un70 hr
    exact (qss_cons (qs_if (PW.pt (qw_or (qt_not (qt_tru (q_callB call_isi_x rfl T.n_isinstance bt_isinstance (qa_cons (q_var 0 (pv 0)) (qa_cons (q_ty rfl T.n_str bt_str) qa_nil))))) (qw_or1 (qt_cmp op_gt_x (q_callB call_len_x rfl T.n_len bt_len (qa_cons (q_var 0 (pv 0)) qa_nil)) (q_gint T.c_MOST_SIGNS rfl) (nomark _))))) (qss_one (qs_ret q_bl)) qss_nil) (qss_one (qs_ret (q_callB (call_all_x rfl) rfl T.n_all bt_all (qa_cons (q_lc (own := [("sign", 1)]) rfl sc_is_text.nd (qi_any (q_var 0 (pv 0))) (blkOk_by (N := ["thing", "sign"]) (sc := defScope s_is_text) (by decide +kernel)) (fun _ _ _ _ _ => (qg_name 1 sc_is_text.nd rfl (Or.inl rfl))) (fun _ _ _ _ _ => qts_nil) (fun _ _ _ _ _ => (q_and (q_chain op_le_x op_le_x q_str (q_var 1 (pv 1)) q_str) (q_one (q_cmp op_notIn_x (q_callB call_ord_x rfl T.n_ord bt_ord (qa_cons (q_var 1 (pv 1)) qa_nil)) (q_tup (qa_cons (q_gint T.c_PER_CENT rfl) (qa_cons (q_gint T.c_QUOTE rfl) qa_nil))) (by rfl)))))) qa_nil)))))
theorem b_is_number (T : Facts K mg fd) : Binds K (fd "is_number") ["thing"] [] := T.d_is_number.bindsN fun _ _ _ _ _ _ us hl => match us, hl with | [_], _ => rfl
theorem ok_is_number (T : Facts K mg fd) : FnG P w K mg base 2 (He.ga K "is_number") (fd "is_number") ["thing"] (spX ⟨K, mg, w⟩ 1 f_is_number) :=
  fn_x (k := 1) T.d_is_number sc_is_number fun cdv A outer s H E hr hgd => by
    have tk := takes_of (X := cxOf (L2.CX P w) P w K mg base ["thing"] "is_number" (defScope s_is_number) (He.ga K "is_number") cdv A outer s H E) (E := E) rfl rfl rfl rfl
    have hpo := passes_of (X := cxOf (L2.CX P w) P w K mg base ["thing"] "is_number" (defScope s_is_number) (He.ga K "is_number") cdv A outer s H E) rfl
    have hu1 := hu_of hr; have hu64 := hr.units; have hu70 := un70 hr
    exact (qss_one (qs_ret (q_call ((ok_is_whole T).mono (by decide)) hr hgd rfl T.g_is_whole T.d_is_whole.kp (b_is_whole T) tk (qa_cons (q_var 0 (pv 0)) (qa_cons (q_un un_neg_x (q_gint T.c_MOST_NUMBER rfl)) (qa_cons (q_gint T.c_MOST_NUMBER rfl) qa_nil))))))
theorem b_is_pair (T : Facts K mg fd) : Binds K (fd "is_pair") ["thing", "word"] [] := T.d_is_pair.bindsN fun _ _ _ _ _ _ us hl => match us, hl with | [_, _], _ => rfl
theorem ok_is_pair (T : Facts K mg fd) : FnG P w K mg base 1 (He.ga K "is_pair") (fd "is_pair") ["thing", "word"] (spX ⟨K, mg, w⟩ 2 f_is_pair) :=
  fn_x (k := 0) T.d_is_pair sc_is_pair fun cdv A outer s H E hr hgd => by
    have tk := takes_of (X := cxOf (L2.CX P w) P w K mg base ["thing", "word"] "is_pair" (defScope s_is_pair) (He.ga K "is_pair") cdv A outer s H E) (E := E) rfl rfl rfl rfl
    have hpo := passes_of (X := cxOf (L2.CX P w) P w K mg base ["thing", "word"] "is_pair" (defScope s_is_pair) (He.ga K "is_pair") cdv A outer s H E) rfl
    have hu1 := hu_of hr; have hu64 := hr.units; have hu70 := un70 hr
    exact (qss_one (qs_ret (q_and (q_callB call_isi_x rfl T.n_isinstance bt_isinstance (qa_cons (q_var 0 (pv 0)) (qa_cons (q_ty rfl T.n_tuple bt_tuple) qa_nil))) (q_and (q_cmp (op_eq_x hu64) (q_callB call_len_x rfl T.n_len bt_len (qa_cons (q_var 0 (pv 0)) qa_nil)) q_int (nomark _)) (q_and (q_callB call_isi_x rfl T.n_isinstance bt_isinstance (qa_cons (q_ix ix_x (q_var 0 (pv 0)) q_int (fun _ _ => rfl)) (qa_cons (q_ty rfl T.n_str bt_str) qa_nil))) (q_one (q_cmp (op_eq_x hu64) (q_ix ix_x (q_var 0 (pv 0)) q_int (fun _ _ => rfl)) (q_var 1 (pv 1)) (nomark _))))))))
theorem b_is_thing (T : Facts K mg fd) : Binds K (fd "is_thing") ["thing"] [] := T.d_is_thing.bindsN fun _ _ _ _ _ _ us hl => match us, hl with | [_], _ => rfl
theorem ok_is_thing (T : Facts K mg fd) : FnG P w K mg base 2 (He.ga K "is_thing") (fd "is_thing") ["thing"] (spX ⟨K, mg, w⟩ 1 f_is_thing) :=
  fn_x (k := 1) T.d_is_thing sc_is_thing fun cdv A outer s H E hr hgd => by
    have tk := takes_of (X := cxOf (L2.CX P w) P w K mg base ["thing"] "is_thing" (defScope s_is_thing) (He.ga K "is_thing") cdv A outer s H E) (E := E) rfl rfl rfl rfl
    have hpo := passes_of (X := cxOf (L2.CX P w) P w K mg base ["thing"] "is_thing" (defScope s_is_thing) (He.ga K "is_thing") cdv A outer s H E) rfl
    have hu1 := hu_of hr; have hu64 := hr.units; have hu70 := un70 hr
    exact (qss_one (qs_ret (q_and (q_call ((ok_is_pair T).mono (by decide)) hr hgd rfl T.g_is_pair T.d_is_pair.kp (b_is_pair T) tk (qa_cons (q_var 0 (pv 0)) (qa_cons q_str qa_nil))) (q_one (q_call ((ok_is_whole T).mono (by decide)) hr hgd rfl T.g_is_whole T.d_is_whole.kp (b_is_whole T) tk (qa_cons (q_ix ix_x (q_var 0 (pv 0)) q_int (fun _ _ => rfl)) (qa_cons q_int (qa_cons (q_gint T.c_MOST_THING rfl) qa_nil))))))))
theorem b_is_worth_within (T : Facts K mg fd) : Binds K (fd "is_worth_within") ["thing", "deep"] [] := T.d_is_worth_within.bindsN fun _ _ _ _ _ _ us hl => match us, hl with | [_, _], _ => rfl
theorem ok_is_worth_within (T : Facts K mg fd) : ∀ {n : Nat}, FnG P w K mg base (2 + 1 + n) (He.ga K "is_worth_within") (fd "is_worth_within") ["thing", "deep"] (spX ⟨K, mg, w⟩ 2 (f_is_worth_within n))
  | 0 => ⟨fun _ _ _ _ ⟨_, _, _, _, r, hl, _⟩ => by rw [← r.length, hl]; rfl, fun _ _ _ _ _ _ _ _ _ _ _ _ _ _ ⟨_, _, _, _, _, _, z⟩ => z.elim⟩
  | n + 1 => fn_x (k := 2 + 1 + n) T.d_is_worth_within sc_is_worth_within fun cdv A outer s H E hr hgd => by
    have hself := ok_is_worth_within T (n := n)
    have tk := takes_of (X := cxOf (L2.CX P w) P w K mg base ["thing", "deep", "part"] "is_worth_within" (defScope s_is_worth_within) (He.ga K "is_worth_within") cdv A outer s H E) (E := E) rfl rfl rfl rfl
    have hpo := passes_of (X := cxOf (L2.CX P w) P w K mg base ["thing", "deep", "part"] "is_worth_within" (defScope s_is_worth_within) (He.ga K "is_worth_within") cdv A outer s H E) rfl
    have hu1 := hu_of hr; have hu64 := hr.units; have hu70 := un70 hr
    exact (qss_cons (qs_if (PW.pt (qw_or (qt_cmp op_is_x (q_var 0 (pv 0)) q_non (nomark _)) (qw_or (qt_tru (q_call ((ok_is_number T).mono (by omega)) hr hgd rfl T.g_is_number T.d_is_number.kp (b_is_number T) tk (qa_cons (q_var 0 (pv 0)) qa_nil))) (qw_or (qt_tru (q_call ((ok_is_text T).mono (by omega)) hr hgd rfl T.g_is_text T.d_is_text.kp (b_is_text T) tk (qa_cons (q_var 0 (pv 0)) qa_nil))) (qw_or1 (qt_tru (q_call ((ok_is_thing T).mono (by omega)) hr hgd rfl T.g_is_thing T.d_is_thing.kp (b_is_thing T) tk (qa_cons (q_var 0 (pv 0)) qa_nil)))))))) (qss_one (qs_ret q_bl)) qss_nil) (qss_cons (qs_if (PW.pt (qw_or (qt_cmp (op_eq_x hu64) (q_var 1 (pv 1)) q_int (nomark _)) (qw_or (qt_not (qt_tru (q_call ((ok_is_pair T).mono (by omega)) hr hgd rfl T.g_is_pair T.d_is_pair.kp (b_is_pair T) tk (qa_cons (q_var 0 (pv 0)) (qa_cons q_str qa_nil))))) (qw_or (qt_not (qt_tru (q_callB call_isi_x rfl T.n_isinstance bt_isinstance (qa_cons (q_ix ix_x (q_var 0 (pv 0)) q_int (fun _ _ => rfl)) (qa_cons (q_ty rfl T.n_tuple bt_tuple) qa_nil))))) (qw_or1 (qt_cmp op_gt_x (q_callB call_len_x rfl T.n_len bt_len (qa_cons (q_ix ix_x (q_var 0 (pv 0)) q_int (fun _ _ => rfl)) qa_nil)) (q_gint T.c_MOST_PARTS rfl) (nomark _))))))) (qss_one (qs_ret q_bl)) qss_nil) (qss_one (qs_ret (q_callB (call_all_x rfl) rfl T.n_all bt_all (qa_cons (q_lc (own := [("part", 2)]) rfl sc_is_worth_within.nd (qi_any (q_ix ix_x (q_var 0 (pv 0)) q_int (fun _ _ => rfl))) (blkOk_by (N := ["thing", "deep", "part"]) (sc := defScope s_is_worth_within) (by decide +kernel)) (fun _ _ _ _ _ => (qg_name 2 sc_is_worth_within.nd rfl (Or.inl rfl))) (fun _ _ _ _ _ => qts_nil) (fun _ _ _ _ _ => (q_call hself hr hgd rfl T.g_is_worth_within T.d_is_worth_within.kp (b_is_worth_within T) takes0 (qa_cons (q_var 2 (pv 2)) (qa_cons (q_op op_sub_x (q_var 1 (pv 1)) q_int) qa_nil))))) qa_nil))))))
theorem b_is_worth (T : Facts K mg fd) : Binds K (fd "is_worth") ["thing"] [] := T.d_is_worth.bindsN fun _ _ _ _ _ _ us hl => match us, hl with | [_], _ => rfl
theorem ok_is_worth (T : Facts K mg fd) : FnG P w K mg base 16 (He.ga K "is_worth") (fd "is_worth") ["thing"] (spX ⟨K, mg, w⟩ 1 f_is_worth) :=
  fn_x (k := 15) T.d_is_worth sc_is_worth fun cdv A outer s H E hr hgd => by
    have tk := takes_of (X := cxOf (L2.CX P w) P w K mg base ["thing"] "is_worth" (defScope s_is_worth) (He.ga K "is_worth") cdv A outer s H E) (E := E) rfl rfl rfl rfl
    have hpo := passes_of (X := cxOf (L2.CX P w) P w K mg base ["thing"] "is_worth" (defScope s_is_worth) (He.ga K "is_worth") cdv A outer s H E) rfl
    have hu1 := hu_of hr; have hu64 := hr.units; have hu70 := un70 hr
    exact (qss_one (qs_ret (q_call ((ok_is_worth_within T (n := 12)).mono (by decide)) hr hgd rfl T.g_is_worth_within T.d_is_worth_within.kp (b_is_worth_within T) tk (qa_cons (q_var 0 (pv 0)) (qa_cons (q_gint T.c_MOST_DEEP rfl) qa_nil)))))
theorem b_need_worth (T : Facts K mg fd) : Binds K (fd "need_worth") ["thing"] [] := T.d_need_worth.bindsN fun _ _ _ _ _ _ us hl => match us, hl with | [_], _ => rfl
theorem ok_need_worth (T : Facts K mg fd) : FnG P w K mg base 17 (He.ga K "need_worth") (fd "need_worth") ["thing"] (spX ⟨K, mg, w⟩ 1 f_need_worth) :=
  fn_x (k := 16) T.d_need_worth sc_need_worth fun cdv A outer s H E hr hgd => by
    have tk := takes_of (X := cxOf (L2.CX P w) P w K mg base ["thing"] "need_worth" (defScope s_need_worth) (He.ga K "need_worth") cdv A outer s H E) (E := E) rfl rfl rfl rfl
    have hpo := passes_of (X := cxOf (L2.CX P w) P w K mg base ["thing"] "need_worth" (defScope s_need_worth) (He.ga K "need_worth") cdv A outer s H E) rfl
    have hu1 := hu_of hr; have hu64 := hr.units; have hu70 := un70 hr
    exact (qss_one (qs_if (qt_not (qt_tru (q_call ((ok_is_worth T).mono (by decide)) hr hgd rfl T.g_is_worth T.d_is_worth.kp (b_is_worth T) tk (qa_cons (q_var 0 (pv 0)) qa_nil)))) (qss_one (qs_raise rfl tk T.x_NoWorth.oex T.x_NoWorth.no T.x_NoWorth.iC T.x_NoWorth.tI (ini_NoWorth T) (hr.mono (by decide)) (bi_NoWorth T) rfl T.g_NoWorth (qa_cons (q_var 0 (pv 0)) qa_nil))) qss_nil))
theorem b_says_yes (T : Facts K mg fd) : Binds K (fd "says_yes") ["worth"] [] := T.d_says_yes.bindsN fun _ _ _ _ _ _ us hl => match us, hl with | [_], _ => rfl
theorem ok_says_yes (T : Facts K mg fd) : FnG P w K mg base 18 (He.ga K "says_yes") (fd "says_yes") ["worth"] (spX ⟨K, mg, w⟩ 1 f_says_yes) :=
  fn_x (k := 17) T.d_says_yes sc_says_yes fun cdv A outer s H E hr hgd => by
    have tk := takes_of (X := cxOf (L2.CX P w) P w K mg base ["worth"] "says_yes" (defScope s_says_yes) (He.ga K "says_yes") cdv A outer s H E) (E := E) rfl rfl rfl rfl
    have hpo := passes_of (X := cxOf (L2.CX P w) P w K mg base ["worth"] "says_yes" (defScope s_says_yes) (He.ga K "says_yes") cdv A outer s H E) rfl
    have hu1 := hu_of hr; have hu64 := hr.units; have hu70 := un70 hr
    exact (qss_cons (qs_expr (q_call ((ok_need_worth T).mono (by decide)) hr hgd rfl T.g_need_worth T.d_need_worth.kp (b_need_worth T) tk (qa_cons (q_var 0 (pv 0)) qa_nil))) (qss_one (qs_ret (q_and (q_cmp op_isNot_x (q_var 0 (pv 0)) q_non (nomark _)) (q_one (q_cmp (op_ne_x hu64) (q_var 0 (pv 0)) q_int (nomark _)))))))
theorem b__law_cell (T : Facts K mg fd) : Binds K (fd "_law_cell") ["_law_script", "_law_k"] [] := T.d__law_cell.bindsN fun _ _ _ _ _ _ us hl => match us, hl with | [_, _], _ => rfl
theorem ok__law_cell (T : Facts K mg fd) : FnG P w K mg base 1 (He.ga K "_law_cell") (fd "_law_cell") ["_law_script", "_law_k"] (spX ⟨K, mg, w⟩ 2 f__law_cell) :=
  fn_x (k := 0) T.d__law_cell sc__law_cell fun cdv A outer s H E hr hgd => by
    have tk := takes_of (X := cxOf (L2.CX P w) P w K mg base ["_law_script", "_law_k"] "_law_cell" (defScope s__law_cell) (He.ga K "_law_cell") cdv A outer s H E) (E := E) rfl rfl rfl rfl
    have hpo := passes_of (X := cxOf (L2.CX P w) P w K mg base ["_law_script", "_law_k"] "_law_cell" (defScope s__law_cell) (He.ga K "_law_cell") cdv A outer s H E) rfl
    have hu1 := hu_of hr; have hu64 := hr.units; have hu70 := un70 hr
    exact (qss_cons (qs_if (qt_cmp op_lt_x (q_var 1 (pv 1)) (q_callB call_len_x rfl T.n_len bt_len (qa_cons (q_var 0 (pv 0)) qa_nil)) (nomark _)) (qss_one (qs_ret (q_ix ix_x (q_var 0 (pv 0)) (q_var 1 (pv 1)) (fun _ _ => rfl)))) qss_nil) (qss_one (qs_ret (q_op op_add_x (q_op op_mul2_x q_int (q_var 1 (pv 1))) q_int))))
theorem b__law_box (T : Facts K mg fd) : Binds K (fd "_law_box") ["_law_cell_here"] [] := T.d__law_box.bindsN fun _ _ _ _ _ _ us hl => match us, hl with | [_], _ => rfl
theorem ok__law_box (T : Facts K mg fd) : FnG P w K mg base 1 (He.ga K "_law_box") (fd "_law_box") ["_law_cell_here"] (spX ⟨K, mg, w⟩ 1 f__law_box) :=
  fn_x (k := 0) T.d__law_box sc__law_box fun cdv A outer s H E hr hgd => by
    have tk := takes_of (X := cxOf (L2.CX P w) P w K mg base ["_law_cell_here"] "_law_box" (defScope s__law_box) (He.ga K "_law_box") cdv A outer s H E) (E := E) rfl rfl rfl rfl
    have hpo := passes_of (X := cxOf (L2.CX P w) P w K mg base ["_law_cell_here"] "_law_box" (defScope s__law_box) (He.ga K "_law_box") cdv A outer s H E) rfl
    have hu1 := hu_of hr; have hu64 := hr.units; have hu70 := un70 hr
    exact (qss_one (qs_ret (q_lst (qa_cons (q_callB (call_max_x rfl) rfl T.n_max bt_max (qa_cons q_int (qa_cons (q_op op_sub_x (q_var 0 (pv 0)) (q_op op_pow_x q_int q_int)) qa_nil))) (qa_cons (q_op op_mod_x (q_var 0 (pv 0)) q_int) (qa_cons q_int qa_nil))))))
theorem b__law_take (T : Facts K mg fd) : Binds K (fd "_law_take") ["_law_box_here", "_law_many"] [] := T.d__law_take.bindsN fun _ _ _ _ _ _ us hl => match us, hl with | [_, _], _ => rfl
theorem ok__law_take (T : Facts K mg fd) : FnG P w K mg base 1 (He.ga K "_law_take") (fd "_law_take") ["_law_box_here", "_law_many"] (spX ⟨K, mg, w⟩ 2 f__law_take) :=
  fn_x (k := 0) T.d__law_take sc__law_take fun cdv A outer s H E hr hgd => by
    have tk := takes_of (X := cxOf (L2.CX P w) P w K mg base ["_law_box_here", "_law_many", "_law_digit", "_law_number"] "_law_take" (defScope s__law_take) (He.ga K "_law_take") cdv A outer s H E) (E := E) rfl rfl rfl rfl
    have hpo := passes_of (X := cxOf (L2.CX P w) P w K mg base ["_law_box_here", "_law_many", "_law_digit", "_law_number"] "_law_take" (defScope s__law_take) (He.ga K "_law_take") cdv A outer s H E) rfl
    have hu1 := hu_of hr; have hu64 := hr.units; have hu70 := un70 hr
    exact (qss_cons (qs_if (qt_cmp op_gt_x (q_ix ix_x (q_var 0 (pv 0)) q_int (fun _ _ => rfl)) q_int (nomark _)) (qss_cons (qs_set 2 sc__law_take.nd rfl (Or.inl rfl) (q_op op_mod_x (q_ix ix_x (q_var 0 (pv 0)) q_int (fun _ _ => rfl)) (q_var 1 (pv 1)))) (qss_cons (qs_setIx hu1 (q_var 0 (pv 0)) q_int (q_op op_fdiv_x (q_ix ix_x (q_var 0 (pv 0)) q_int (fun _ _ => rfl)) (q_var 1 (pv 1)))) (qss_one (qs_ret (q_var 2 (pv 2)))))) qss_nil) (qss_cons (qs_setIx hu1 (q_var 0 (pv 0)) q_int (q_op op_add_x (q_ix ix_x (q_var 0 (pv 0)) q_int (fun _ _ => rfl)) q_int)) (qss_cons (qs_set 3 sc__law_take.nd rfl (Or.inl rfl) (q_op op_mod_x (q_op op_pow_x (q_op op_add_x (q_op op_add_x (q_ix ix_x (q_var 0 (pv 0)) q_int (fun _ _ => rfl)) (q_op op_mul2_x q_int (q_ix ix_x (q_var 0 (pv 0)) q_int (fun _ _ => rfl)))) q_int) q_int) q_int)) (qss_cons (qs_set 3 sc__law_take.nd rfl (Or.inl rfl) (q_op op_mod_x (q_op op_pow_x (q_op op_add_x (q_op op_fdiv_x (q_var 3 (pv 3)) q_int) (q_op op_mul2_x (q_op op_mul2_x q_int (q_ix ix_x (q_var 0 (pv 0)) q_int (fun _ _ => rfl))) (q_ix ix_x (q_var 0 (pv 0)) q_int (fun _ _ => rfl)))) q_int) q_int)) (qss_one (qs_ret (q_op op_mod_x (q_op op_fdiv_x (q_var 3 (pv 3)) q_int) (q_var 1 (pv 1)))))))))
theorem b__law_signs (T : Facts K mg fd) : Binds K (fd "_law_signs") [] [] := T.d__law_signs.bindsN fun _ _ _ _ _ _ us hl => match us, hl with | [], _ => rfl
theorem ok__law_signs (T : Facts K mg fd) : FnG P w K mg base 1 (He.ga K "_law_signs") (fd "_law_signs") [] (spX ⟨K, mg, w⟩ 0 f__law_signs) :=
  fn_x (k := 0) T.d__law_signs sc__law_signs fun cdv A outer s H E hr hgd => by
    have tk := takes_of (X := cxOf (L2.CX P w) P w K mg base ["_law_signs_here"] "_law_signs" (defScope s__law_signs) (He.ga K "_law_signs") cdv A outer s H E) (E := E) rfl rfl rfl rfl
    have hpo := passes_of (X := cxOf (L2.CX P w) P w K mg base ["_law_signs_here"] "_law_signs" (defScope s__law_signs) (He.ga K "_law_signs") cdv A outer s H E) rfl
    have hu1 := hu_of hr; have hu64 := hr.units; have hu70 := un70 hr
    exact (qss_cons (qs_set 0 sc__law_signs.nd rfl (Or.inl rfl) q_str) (qss_one (qs_ret (q_op op_add_x (q_var 0 (pv 0)) q_str))))
theorem b__law_text (T : Facts K mg fd) : Binds K (fd "_law_text") ["_law_box_here"] [] := T.d__law_text.bindsN fun _ _ _ _ _ _ us hl => match us, hl with | [_], _ => rfl
theorem ok__law_text (T : Facts K mg fd) : FnG P w K mg base 2 (He.ga K "_law_text") (fd "_law_text") ["_law_box_here"] (spX ⟨K, mg, w⟩ 1 f__law_text) :=
  fn_x (k := 1) T.d__law_text sc__law_text fun cdv A outer s H E hr hgd => by
    have tk := takes_of (X := cxOf (L2.CX P w) P w K mg base ["_law_box_here", "_law_signs_here", "_law_many", "_law_k"] "_law_text" (defScope s__law_text) (He.ga K "_law_text") cdv A outer s H E) (E := E) rfl rfl rfl rfl
    have hpo := passes_of (X := cxOf (L2.CX P w) P w K mg base ["_law_box_here", "_law_signs_here", "_law_many", "_law_k"] "_law_text" (defScope s__law_text) (He.ga K "_law_text") cdv A outer s H E) rfl
    have hu1 := hu_of hr; have hu64 := hr.units; have hu70 := un70 hr
    exact (qss_cons (qs_set 1 sc__law_text.nd rfl (Or.inr rfl) (q_call0 ((ok__law_signs T).mono (by decide)) hr hgd rfl T.g__law_signs T.d__law_signs.kp (b__law_signs T) tk)) (qss_cons (qs_set 2 sc__law_text.nd rfl (Or.inl rfl) (q_ix ix_x (q_lst (qa_cons q_int (qa_cons q_int (qa_cons q_int (qa_cons (q_call ((ok__law_take T).mono (by decide)) hr hgd rfl T.g__law_take T.d__law_take.kp (b__law_take T) tk (qa_cons (q_var 0 (pv 0)) (qa_cons q_int qa_nil))) (qa_cons (q_call ((ok__law_take T).mono (by decide)) hr hgd rfl T.g__law_take T.d__law_take.kp (b__law_take T) tk (qa_cons (q_var 0 (pv 0)) (qa_cons q_int qa_nil))) qa_nil)))))) (q_call ((ok__law_take T).mono (by decide)) hr hgd rfl T.g__law_take T.d__law_take.kp (b__law_take T) tk (qa_cons (q_var 0 (pv 0)) (qa_cons q_int qa_nil))) (fun _ _ => rfl))) (qss_one (qs_ret (q_bm PySem.F.plainAttrs_str PySem.F.slot_str_join PySem.F.type_str_join mt_join_x q_str (qa_cons (q_lc (own := [("_law_k", 3)]) rfl sc__law_text.nd (qi_range1 rfl T.n_range (q_var 2 (pv 2))) (blkOk_by (N := ["_law_box_here", "_law_signs_here", "_law_many", "_law_k"]) (sc := defScope s__law_text) (by decide +kernel)) (fun _ _ _ _ _ => (qg_name 3 sc__law_text.nd rfl (Or.inl rfl))) (fun _ _ _ _ _ => qts_nil) (fun _ _ _ _ _ => (q_ix ix_x (q_var 1 (pv 1)) (q_call ((ok__law_take T).mono (by decide)) hr hgd rfl T.g__law_take T.d__law_take.kp (b__law_take T) takes0 (qa_cons (q_var 0 (pv 0)) (qa_cons (q_callB call_len_x rfl T.n_len bt_len (qa_cons (q_var 1 (pv 1)) qa_nil)) qa_nil))) (fun _ _ => rfl)))) qa_nil))))))
theorem b__law_worth (T : Facts K mg fd) : Binds K (fd "_law_worth") ["_law_box_here", "_law_deep_here"] [] := T.d__law_worth.bindsN fun _ _ _ _ _ _ us hl => match us, hl with | [_, _], _ => rfl
theorem ok__law_worth (T : Facts K mg fd) : ∀ {n : Nat}, FnG P w K mg base (2 + 1 + n) (He.ga K "_law_worth") (fd "_law_worth") ["_law_box_here", "_law_deep_here"] (spX ⟨K, mg, w⟩ 2 (f__law_worth n))
  | 0 => ⟨fun _ _ _ _ ⟨_, _, _, _, r, hl, _⟩ => by rw [← r.length, hl]; rfl, fun _ _ _ _ _ _ _ _ _ _ _ _ _ _ ⟨_, _, _, _, _, _, z⟩ => z.elim⟩
  | n + 1 => fn_x (k := 2 + 1 + n) T.d__law_worth sc__law_worth fun cdv A outer s H E hr hgd => by
    have hself := ok__law_worth T (n := n)
    have tk := takes_of (X := cxOf (L2.CX P w) P w K mg base ["_law_box_here", "_law_deep_here", "_law_way", "_law_most", "_law_many", "_law_k"] "_law_worth" (defScope s__law_worth) (He.ga K "_law_worth") cdv A outer s H E) (E := E) rfl rfl rfl rfl
    have hpo := passes_of (X := cxOf (L2.CX P w) P w K mg base ["_law_box_here", "_law_deep_here", "_law_way", "_law_most", "_law_many", "_law_k"] "_law_worth" (defScope s__law_worth) (He.ga K "_law_worth") cdv A outer s H E) rfl
    have hu1 := hu_of hr; have hu64 := hr.units; have hu70 := un70 hr
    exact (qss_cons (qs_set 2 sc__law_worth.nd rfl (Or.inl rfl) (q_call ((ok__law_take T).mono (by omega)) hr hgd rfl T.g__law_take T.d__law_take.kp (b__law_take T) tk (qa_cons (q_var 0 (pv 0)) (qa_cons q_int qa_nil)))) (qss_cons (qs_if (qt_cmp (op_eq_x hu64) (q_var 2 (pv 2)) q_int (nomark _)) (qss_one (qs_ret q_non)) qss_nil) (qss_cons (qs_if (qt_cmp op_lt_x (q_var 2 (pv 2)) q_int (nomark _)) (qss_cons (qs_set 3 sc__law_worth.nd rfl (Or.inl rfl) (q_op op_pow_x q_int q_int)) (qss_one (qs_ret (q_ix ix_x (q_lst (qa_cons q_int (qa_cons q_int (qa_cons (q_un un_neg_x q_int) (qa_cons (q_var 3 (pv 3)) (qa_cons (q_op op_sub_x q_int (q_var 3 (pv 3))) (qa_cons (q_op op_sub_x (q_call ((ok__law_take T).mono (by omega)) hr hgd rfl T.g__law_take T.d__law_take.kp (b__law_take T) tk (qa_cons (q_var 0 (pv 0)) (qa_cons (q_op op_add_x (q_op op_mul2_x q_int (q_var 3 (pv 3))) q_int) qa_nil))) (q_var 3 (pv 3))) (qa_cons q_int qa_nil)))))))) (q_call ((ok__law_take T).mono (by omega)) hr hgd rfl T.g__law_take T.d__law_take.kp (b__law_take T) tk (qa_cons (q_var 0 (pv 0)) (qa_cons q_int qa_nil))) (fun _ _ => rfl))))) qss_nil) (qss_cons (qs_if (qt_cmp op_lt_x (q_var 2 (pv 2)) q_int (nomark _)) (qss_one (qs_ret (q_call ((ok__law_text T).mono (by omega)) hr hgd rfl T.g__law_text T.d__law_text.kp (b__law_text T) tk (qa_cons (q_var 0 (pv 0)) qa_nil)))) qss_nil) (qss_cons (qs_if (PW.pt (qw_or (qt_cmp (op_eq_x hu64) (q_var 2 (pv 2)) q_int (nomark _)) (qw_or1 (qt_cmp (op_eq_x hu64) (q_var 1 (pv 1)) q_int (nomark _))))) (qss_one (qs_ret (q_tup (qa_cons q_str (qa_cons (q_ix ix_x (q_lst (qa_cons q_int (qa_cons q_int (qa_cons (q_call ((ok__law_take T).mono (by omega)) hr hgd rfl T.g__law_take T.d__law_take.kp (b__law_take T) tk (qa_cons (q_var 0 (pv 0)) (qa_cons q_int qa_nil))) qa_nil)))) (q_call ((ok__law_take T).mono (by omega)) hr hgd rfl T.g__law_take T.d__law_take.kp (b__law_take T) tk (qa_cons (q_var 0 (pv 0)) (qa_cons q_int qa_nil))) (fun _ _ => rfl)) qa_nil))))) qss_nil) (qss_cons (qs_set 4 sc__law_worth.nd rfl (Or.inl rfl) (q_ix ix_x (q_lst (qa_cons q_int (qa_cons q_int (qa_cons q_int (qa_cons (q_ix ix_x (q_lst (qa_cons q_int (qa_cons q_int qa_nil))) (q_callTy call_int_x rfl T.n_int bt_int (qa_cons (q_cmp (op_eq_x hu64) (q_var 1 (pv 1)) q_int (nomark _)) qa_nil)) (fun _ _ => rfl)) (qa_cons q_int qa_nil)))))) (q_call ((ok__law_take T).mono (by omega)) hr hgd rfl T.g__law_take T.d__law_take.kp (b__law_take T) tk (qa_cons (q_var 0 (pv 0)) (qa_cons q_int qa_nil))) (fun _ _ => rfl))) (qss_one (qs_ret (q_tup (qa_cons q_str (qa_cons (q_callTy call_tuple_x rfl T.n_tuple bt_tuple (qa_cons (q_lc (own := [("_law_k", 5)]) rfl sc__law_worth.nd (qi_range1 rfl T.n_range (q_var 4 (pv 4))) (blkOk_by (N := ["_law_box_here", "_law_deep_here", "_law_way", "_law_most", "_law_many", "_law_k"]) (sc := defScope s__law_worth) (by decide +kernel)) (fun _ _ _ _ _ => (qg_name 5 sc__law_worth.nd rfl (Or.inl rfl))) (fun _ _ _ _ _ => qts_nil) (fun _ _ _ _ _ => (q_call hself hr hgd rfl T.g__law_worth T.d__law_worth.kp (b__law_worth T) takes0 (qa_cons (q_var 0 (pv 0)) (qa_cons (q_op op_sub_x (q_var 1 (pv 1)) q_int) qa_nil))))) qa_nil)) qa_nil)))))))))))
theorem b__law_deep (T : Facts K mg fd) : Binds K (fd "_law_deep") ["_law_many"] [] := T.d__law_deep.bindsN fun _ _ _ _ _ _ us hl => match us, hl with | [_], _ => rfl
theorem ok__law_deep (T : Facts K mg fd) : FnG P w K mg base 1 (He.ga K "_law_deep") (fd "_law_deep") ["_law_many"] (spX ⟨K, mg, w⟩ 1 f__law_deep) :=
  fn_x (k := 0) T.d__law_deep sc__law_deep fun cdv A outer s H E hr hgd => by
    have tk := takes_of (X := cxOf (L2.CX P w) P w K mg base ["_law_many", "_law_found", "_law_k"] "_law_deep" (defScope s__law_deep) (He.ga K "_law_deep") cdv A outer s H E) (E := E) rfl rfl rfl rfl
    have hpo := passes_of (X := cxOf (L2.CX P w) P w K mg base ["_law_many", "_law_found", "_law_k"] "_law_deep" (defScope s__law_deep) (He.ga K "_law_deep") cdv A outer s H E) rfl
    have hu1 := hu_of hr; have hu64 := hr.units; have hu70 := un70 hr
    exact (qss_cons (qs_set 1 sc__law_deep.nd rfl (Or.inl rfl) (q_tup (qa_cons q_str (qa_cons (q_tup qa_nil) qa_nil)))) (qss_cons (qs_for hpo rfl (qi_range1 rfl T.n_range (q_op op_sub_x (q_var 0 (pv 0)) q_int)) (qg_name 2 sc__law_deep.nd rfl (Or.inl rfl)) (qss_one (qs_set 1 sc__law_deep.nd rfl (Or.inl rfl) (q_tup (qa_cons q_str (qa_cons (q_tup (qa_cons (q_var 1 (pv 1)) qa_nil)) qa_nil)))))) (qss_one (qs_ret (q_var 1 (pv 1))))))
theorem b__law_bent (T : Facts K mg fd) : Binds K (fd "_law_bent") ["_law_box_here", "_law_worth_here"] [] := T.d__law_bent.bindsN fun _ _ _ _ _ _ us hl => match us, hl with | [_, _], _ => rfl
theorem ok__law_bent (T : Facts K mg fd) : ∀ {n : Nat}, FnG P w K mg base (1 + 1 + n) (He.ga K "_law_bent") (fd "_law_bent") ["_law_box_here", "_law_worth_here"] (spX ⟨K, mg, w⟩ 2 (f__law_bent n))
  | 0 => ⟨fun _ _ _ _ ⟨_, _, _, _, r, hl, _⟩ => by rw [← r.length, hl]; rfl, fun _ _ _ _ _ _ _ _ _ _ _ _ _ _ ⟨_, _, _, _, _, _, z⟩ => z.elim⟩
  | n + 1 => fn_x (k := 1 + 1 + n) T.d__law_bent sc__law_bent fun cdv A outer s H E hr hgd => by
    have hself := ok__law_bent T (n := n)
    have tk := takes_of (X := cxOf (L2.CX P w) P w K mg base ["_law_box_here", "_law_worth_here", "_law_at", "_law_most", "_law_some"] "_law_bent" (defScope s__law_bent) (He.ga K "_law_bent") cdv A outer s H E) (E := E) rfl rfl rfl rfl
    have hpo := passes_of (X := cxOf (L2.CX P w) P w K mg base ["_law_box_here", "_law_worth_here", "_law_at", "_law_most", "_law_some"] "_law_bent" (defScope s__law_bent) (He.ga K "_law_bent") cdv A outer s H E) rfl
    have hu1 := hu_of hr; have hu64 := hr.units; have hu70 := un70 hr
    exact (qss_cons (qs_if (PW.pt (qw_and (qt_tru (q_callB call_isi_x rfl T.n_isinstance bt_isinstance (qa_cons (q_var 1 (pv 1)) (qa_cons (q_ty rfl T.n_tuple bt_tuple) qa_nil)))) (qw_and (qt_cmp (op_eq_x hu64) (q_ix ix_x (q_var 1 (pv 1)) q_int (fun _ _ => rfl)) q_str (nomark _)) (qw_and (qt_cmp (op_ne_x hu64) (q_ix ix_x (q_var 1 (pv 1)) q_int (fun _ _ => rfl)) (q_tup qa_nil) (nomark _)) (qw_and1 (qt_cmp op_gt_x (q_call ((ok__law_take T).mono (by omega)) hr hgd rfl T.g__law_take T.d__law_take.kp (b__law_take T) tk (qa_cons (q_var 0 (pv 0)) (qa_cons q_int qa_nil))) q_int (nomark _))))))) (qss_cons (qs_set 2 sc__law_bent.nd rfl (Or.inl rfl) (q_call ((ok__law_take T).mono (by omega)) hr hgd rfl T.g__law_take T.d__law_take.kp (b__law_take T) tk (qa_cons (q_var 0 (pv 0)) (qa_cons (q_callB call_len_x rfl T.n_len bt_len (qa_cons (q_ix ix_x (q_var 1 (pv 1)) q_int (fun _ _ => rfl)) qa_nil)) qa_nil)))) (qss_one (qs_ret (q_tup (qa_cons q_str (qa_cons (q_op op_add_x (q_op op_add_x (q_slice sl_x (q_ix ix_x (q_var 1 (pv 1)) q_int (fun _ _ => rfl)) qo_none (qo_some (q_var 2 (pv 2)))) (q_tup (qa_cons (q_call hself hr hgd rfl T.g__law_bent T.d__law_bent.kp (b__law_bent T) tk (qa_cons (q_var 0 (pv 0)) (qa_cons (q_ix ix_x (q_ix ix_x (q_var 1 (pv 1)) q_int (fun _ _ => rfl)) (q_var 2 (pv 2)) (fun _ _ => rfl)) qa_nil))) qa_nil))) (q_slice sl_x (q_ix ix_x (q_var 1 (pv 1)) q_int (fun _ _ => rfl)) (qo_some (q_op op_add_x (q_var 2 (pv 2)) q_int)) qo_none)) qa_nil)))))) qss_nil) (qss_cons (qs_set 3 sc__law_bent.nd rfl (Or.inl rfl) (q_op op_pow_x q_int q_int)) (qss_cons (qs_set 4 sc__law_bent.nd rfl (Or.inl rfl) (q_lst (qa_cons q_bl (qa_cons q_bl (qa_cons (q_op op_add_x (q_var 3 (pv 3)) q_int) (qa_cons (q_op op_sub_x (q_op op_sub_x q_int (q_var 3 (pv 3))) q_int) (qa_cons (q_op op_pow_x q_int q_int) (qa_cons q_str (qa_cons q_str (qa_cons q_str (qa_cons (q_op op_mul2_x q_str q_int) (qa_cons (q_op op_mul2_x q_str q_int) (qa_cons (q_tup (qa_cons q_str (qa_cons q_int qa_nil))) qa_nil))))))))))))) (qss_cons (qs_set 4 sc__law_bent.nd rfl (Or.inl rfl) (q_op op_add_x (q_var 4 (pv 4)) (q_lst (qa_cons (q_tup (qa_cons q_str (qa_cons (q_un un_neg_x q_int) qa_nil))) (qa_cons (q_tup (qa_cons q_str (qa_cons q_bl qa_nil))) (qa_cons (q_tup (qa_cons q_str (qa_cons q_str qa_nil))) (qa_cons (q_tup (qa_cons q_str qa_nil)) (qa_cons (q_tup (qa_cons q_str (qa_cons q_int (qa_cons q_int qa_nil)))) (qa_cons (q_lst (qa_cons q_str (qa_cons q_int qa_nil))) (qa_cons (q_tup (qa_cons q_str qa_nil)) qa_nil)))))))))) (qss_cons (qs_set 4 sc__law_bent.nd rfl (Or.inl rfl) (q_op op_add_x (q_var 4 (pv 4)) (q_lst (qa_cons (q_tup (qa_cons q_str (qa_cons (q_lst qa_nil) qa_nil))) (qa_cons (q_tup (qa_cons q_str (qa_cons (q_tup (qa_cons q_int (qa_cons q_bl qa_nil))) qa_nil))) (qa_cons (q_tup (qa_cons q_str (qa_cons (q_tup qa_nil) (qa_cons (q_tup qa_nil) qa_nil)))) (qa_cons (q_tup (qa_cons q_str (qa_cons (q_tup qa_nil) qa_nil))) (qa_cons (q_tup qa_nil) (qa_cons (q_lst qa_nil) (qa_cons (q_lst (qa_cons q_int qa_nil)) (qa_cons q_dict0 (qa_cons (q_dict (ps := [(xC (.str "a"), xC (.int 1))]) (pps_cons q_str q_int pps_nil)) (qa_cons (q_tup (qa_cons q_int (qa_cons q_int qa_nil))) qa_nil))))))))))))) (qss_cons (qs_set 4 sc__law_bent.nd rfl (Or.inl rfl) (q_op op_add_x (q_var 4 (pv 4)) (q_lst (qa_cons (q_tup (qa_cons q_str (qa_cons (q_op op_mul2_x (q_tup (qa_cons q_int qa_nil)) q_int) qa_nil))) (qa_cons (q_tup (qa_cons q_str (qa_cons (q_op op_mul2_x (q_tup (qa_cons q_non qa_nil)) q_int) qa_nil))) (qa_cons (q_call ((ok__law_deep T).mono (by omega)) hr hgd rfl T.g__law_deep T.d__law_deep.kp (b__law_deep T) tk (qa_cons (q_op op_add_x q_int (q_call ((ok__law_take T).mono (by omega)) hr hgd rfl T.g__law_take T.d__law_take.kp (b__law_take T) tk (qa_cons (q_var 0 (pv 0)) (qa_cons q_int qa_nil)))) qa_nil)) (qa_cons (q_tup (qa_cons q_str (qa_cons q_non qa_nil))) (qa_cons q_str qa_nil)))))))) (qss_one (qs_ret (q_ix ix_x (q_var 4 (pv 4)) (q_call ((ok__law_take T).mono (by omega)) hr hgd rfl T.g__law_take T.d__law_take.kp (b__law_take T) tk (qa_cons (q_var 0 (pv 0)) (qa_cons (q_callB call_len_x rfl T.n_len bt_len (qa_cons (q_var 4 (pv 4)) qa_nil)) qa_nil))) (fun _ _ => rfl))))))))))
theorem b__law_is_text (T : Facts K mg fd) : Binds K (fd "_law_is_text") ["_law_thing"] [] := T.d__law_is_text.bindsN fun _ _ _ _ _ _ us hl => match us, hl with | [_], _ => rfl
theorem ok__law_is_text (T : Facts K mg fd) : FnG P w K mg base 2 (He.ga K "_law_is_text") (fd "_law_is_text") ["_law_thing"] (spX ⟨K, mg, w⟩ 1 f__law_is_text) :=
  fn_x (k := 1) T.d__law_is_text sc__law_is_text fun cdv A outer s H E hr hgd => by
    have tk := takes_of (X := cxOf (L2.CX P w) P w K mg base ["_law_thing", "_law_sign"] "_law_is_text" (defScope s__law_is_text) (He.ga K "_law_is_text") cdv A outer s H E) (E := E) rfl rfl rfl rfl
    have hpo := passes_of (X := cxOf (L2.CX P w) P w K mg base ["_law_thing", "_law_sign"] "_law_is_text" (defScope s__law_is_text) (He.ga K "_law_is_text") cdv A outer s H E) rfl
    have hu1 := hu_of hr; have hu64 := hr.units; have hu70 := un70 hr
    exact (qss_cons (qs_if (PW.pt (qw_or (qt_not (qt_tru (q_callB call_isi_x rfl T.n_isinstance bt_isinstance (qa_cons (q_var 0 (pv 0)) (qa_cons (q_ty rfl T.n_str bt_str) qa_nil))))) (qw_or1 (qt_cmp op_gt_x (q_callB call_len_x rfl T.n_len bt_len (qa_cons (q_var 0 (pv 0)) qa_nil)) q_int (nomark _))))) (qss_one (qs_ret q_bl)) qss_nil) (qss_one (qs_ret (q_cmp (op_eq_x hu64) (q_lc (own := [("_law_sign", 1)]) rfl sc__law_is_text.nd (qi_any (q_var 0 (pv 0))) (blkOk_by (N := ["_law_thing", "_law_sign"]) (sc := defScope s__law_is_text) (by decide +kernel)) (fun _ _ _ _ _ => (qg_name 1 sc__law_is_text.nd rfl (Or.inl rfl))) (fun _ _ _ _ _ => (qts_one (qt_cmp op_notIn_x (q_var 1 (pv 1)) (q_call0 ((ok__law_signs T).mono (by decide)) hr hgd rfl T.g__law_signs T.d__law_signs.kp (b__law_signs T) takes0) (by rfl)))) (fun _ _ _ _ _ => (q_var 1 (pv 1)))) (q_lst qa_nil) (nomark _)))))
theorem b__law_is_number (T : Facts K mg fd) : Binds K (fd "_law_is_number") ["_law_thing", "_law_low", "_law_high"] [] := T.d__law_is_number.bindsN fun _ _ _ _ _ _ us hl => match us, hl with | [_, _, _], _ => rfl
theorem ok__law_is_number (T : Facts K mg fd) : FnG P w K mg base 1 (He.ga K "_law_is_number") (fd "_law_is_number") ["_law_thing", "_law_low", "_law_high"] (spX ⟨K, mg, w⟩ 3 f__law_is_number) :=
  fn_x (k := 0) T.d__law_is_number sc__law_is_number fun cdv A outer s H E hr hgd => by
    have tk := takes_of (X := cxOf (L2.CX P w) P w K mg base ["_law_thing", "_law_low", "_law_high"] "_law_is_number" (defScope s__law_is_number) (He.ga K "_law_is_number") cdv A outer s H E) (E := E) rfl rfl rfl rfl
    have hpo := passes_of (X := cxOf (L2.CX P w) P w K mg base ["_law_thing", "_law_low", "_law_high"] "_law_is_number" (defScope s__law_is_number) (He.ga K "_law_is_number") cdv A outer s H E) rfl
    have hu1 := hu_of hr; have hu64 := hr.units; have hu70 := un70 hr
    exact (qss_one (qs_ret (q_and (q_callB call_isi_x rfl T.n_isinstance bt_isinstance (qa_cons (q_var 0 (pv 0)) (qa_cons (q_ty rfl T.n_int bt_int) qa_nil))) (q_and (q_not (q_callB call_isi_x rfl T.n_isinstance bt_isinstance (qa_cons (q_var 0 (pv 0)) (qa_cons (q_ty rfl T.n_bool bt_bool) qa_nil)))) (q_and (q_cmp op_le_x (q_var 1 (pv 1)) (q_var 0 (pv 0)) (nomark _)) (q_one (q_cmp op_le_x (q_var 0 (pv 0)) (q_var 2 (pv 2)) (nomark _))))))))
theorem b__law_is_worth (T : Facts K mg fd) : Binds K (fd "_law_is_worth") ["_law_thing", "_law_deep_here"] [] := T.d__law_is_worth.bindsN fun _ _ _ _ _ _ us hl => match us, hl with | [_, _], _ => rfl
theorem ok__law_is_worth (T : Facts K mg fd) : ∀ {n : Nat}, FnG P w K mg base (2 + 1 + n) (He.ga K "_law_is_worth") (fd "_law_is_worth") ["_law_thing", "_law_deep_here"] (spX ⟨K, mg, w⟩ 2 (f__law_is_worth n))
  | 0 => ⟨fun _ _ _ _ ⟨_, _, _, _, r, hl, _⟩ => by rw [← r.length, hl]; rfl, fun _ _ _ _ _ _ _ _ _ _ _ _ _ _ ⟨_, _, _, _, _, _, z⟩ => z.elim⟩
  | n + 1 => fn_x (k := 2 + 1 + n) T.d__law_is_worth sc__law_is_worth fun cdv A outer s H E hr hgd => by
    have hself := ok__law_is_worth T (n := n)
    have tk := takes_of (X := cxOf (L2.CX P w) P w K mg base ["_law_thing", "_law_deep_here", "_law_part"] "_law_is_worth" (defScope s__law_is_worth) (He.ga K "_law_is_worth") cdv A outer s H E) (E := E) rfl rfl rfl rfl
    have hpo := passes_of (X := cxOf (L2.CX P w) P w K mg base ["_law_thing", "_law_deep_here", "_law_part"] "_law_is_worth" (defScope s__law_is_worth) (He.ga K "_law_is_worth") cdv A outer s H E) rfl
    have hu1 := hu_of hr; have hu64 := hr.units; have hu70 := un70 hr
    exact (qss_cons (qs_if (PW.pt (qw_or (qt_cmp op_is_x (q_var 0 (pv 0)) q_non (nomark _)) (qw_or (qt_tru (q_call ((ok__law_is_number T).mono (by omega)) hr hgd rfl T.g__law_is_number T.d__law_is_number.kp (b__law_is_number T) tk (qa_cons (q_var 0 (pv 0)) (qa_cons (q_op op_sub_x q_int (q_op op_pow_x q_int q_int)) (qa_cons (q_op op_pow_x q_int q_int) qa_nil))))) (qw_or1 (qt_tru (q_call ((ok__law_is_text T).mono (by omega)) hr hgd rfl T.g__law_is_text T.d__law_is_text.kp (b__law_is_text T) tk (qa_cons (q_var 0 (pv 0)) qa_nil))))))) (qss_one (qs_ret q_bl)) qss_nil) (qss_cons (qs_if (PW.pt (qw_or (qt_not (qt_tru (q_callB call_isi_x rfl T.n_isinstance bt_isinstance (qa_cons (q_var 0 (pv 0)) (qa_cons (q_ty rfl T.n_tuple bt_tuple) qa_nil))))) (qw_or1 (qt_cmp (op_ne_x hu64) (q_callB call_len_x rfl T.n_len bt_len (qa_cons (q_var 0 (pv 0)) qa_nil)) q_int (nomark _))))) (qss_one (qs_ret q_bl)) qss_nil) (qss_cons (qs_if (qt_cmp (op_eq_x hu64) (q_ix ix_x (q_var 0 (pv 0)) q_int (fun _ _ => rfl)) q_str (nomark _)) (qss_one (qs_ret (q_call ((ok__law_is_number T).mono (by omega)) hr hgd rfl T.g__law_is_number T.d__law_is_number.kp (b__law_is_number T) tk (qa_cons (q_ix ix_x (q_var 0 (pv 0)) q_int (fun _ _ => rfl)) (qa_cons q_int (qa_cons q_int qa_nil)))))) qss_nil) (qss_cons (qs_if (PW.pt (qw_or (qt_cmp (op_ne_x hu64) (q_ix ix_x (q_var 0 (pv 0)) q_int (fun _ _ => rfl)) q_str (nomark _)) (qw_or (qt_not (qt_tru (q_callB call_isi_x rfl T.n_isinstance bt_isinstance (qa_cons (q_ix ix_x (q_var 0 (pv 0)) q_int (fun _ _ => rfl)) (qa_cons (q_ty rfl T.n_tuple bt_tuple) qa_nil))))) (qw_or (qt_cmp op_gt_x (q_callB call_len_x rfl T.n_len bt_len (qa_cons (q_ix ix_x (q_var 0 (pv 0)) q_int (fun _ _ => rfl)) qa_nil)) q_int (nomark _)) (qw_or1 (qt_cmp (op_eq_x hu64) (q_var 1 (pv 1)) q_int (nomark _))))))) (qss_one (qs_ret q_bl)) qss_nil) (qss_one (qs_ret (q_cmp (op_eq_x hu64) (q_lc (own := [("_law_part", 2)]) rfl sc__law_is_worth.nd (qi_any (q_ix ix_x (q_var 0 (pv 0)) q_int (fun _ _ => rfl))) (blkOk_by (N := ["_law_thing", "_law_deep_here", "_law_part"]) (sc := defScope s__law_is_worth) (by decide +kernel)) (fun _ _ _ _ _ => (qg_name 2 sc__law_is_worth.nd rfl (Or.inl rfl))) (fun _ _ _ _ _ => (qts_one (qt_not (qt_tru (q_call hself hr hgd rfl T.g__law_is_worth T.d__law_is_worth.kp (b__law_is_worth T) takes0 (qa_cons (q_var 2 (pv 2)) (qa_cons (q_op op_sub_x (q_var 1 (pv 1)) q_int) qa_nil))))))) (fun _ _ _ _ _ => (q_var 2 (pv 2)))) (q_lst qa_nil) (nomark _))))))))
theorem b__law_same (T : Facts K mg fd) : Binds K (fd "_law_same") ["_law_found", "_law_thing"] [] := T.d__law_same.bindsN fun _ _ _ _ _ _ us hl => match us, hl with | [_, _], _ => rfl
theorem ok__law_same (T : Facts K mg fd) : FnG P w K mg base 1 (He.ga K "_law_same") (fd "_law_same") ["_law_found", "_law_thing"] (spX ⟨K, mg, w⟩ 2 f__law_same) :=
  fn_x (k := 0) T.d__law_same sc__law_same fun cdv A outer s H E hr hgd => by
    have tk := takes_of (X := cxOf (L2.CX P w) P w K mg base ["_law_found", "_law_thing"] "_law_same" (defScope s__law_same) (He.ga K "_law_same") cdv A outer s H E) (E := E) rfl rfl rfl rfl
    have hpo := passes_of (X := cxOf (L2.CX P w) P w K mg base ["_law_found", "_law_thing"] "_law_same" (defScope s__law_same) (He.ga K "_law_same") cdv A outer s H E) rfl
    have hu1 := hu_of hr; have hu64 := hr.units; have hu70 := un70 hr
    exact (qss_cons (qs_if (qt_cmp (op_ne_x hu64) (q_callB (call_repr_x hu70 hgd T.sm) rfl T.n_repr bt_repr (qa_cons (q_var 0 (pv 0)) qa_nil)) (q_callB (call_repr_x hu70 hgd T.sm) rfl T.n_repr bt_repr (qa_cons (q_var 1 (pv 1)) qa_nil)) (nomark _)) (qss_one (qs_ret q_bl)) qss_nil) (qss_cons (qs_if (qt_tru (q_callB call_isi_x rfl T.n_isinstance bt_isinstance (qa_cons (q_var 1 (pv 1)) (qa_cons (q_ty rfl T.n_list bt_list) qa_nil)))) (qss_one (qs_expr (q_bm PySem.F.plainAttrs_list PySem.F.slot_list_append PySem.F.type_list_append mt_append_x (q_var 1 (pv 1)) (qa_cons q_str qa_nil)))) qss_nil) (qss_cons (qs_if (qt_tru (q_callB call_isi_x rfl T.n_isinstance bt_isinstance (qa_cons (q_var 1 (pv 1)) (qa_cons (q_ty rfl T.n_dict bt_dict) qa_nil)))) (qss_one (qs_setIx hu1 (q_var 1 (pv 1)) q_str q_int)) qss_nil) (qss_one (qs_ret (q_cmp (op_eq_x hu64) (q_callB (call_repr_x hu70 hgd T.sm) rfl T.n_repr bt_repr (qa_cons (q_var 0 (pv 0)) qa_nil)) (q_callB (call_repr_x hu70 hgd T.sm) rfl T.n_repr bt_repr (qa_cons (q_var 1 (pv 1)) qa_nil)) (nomark _)))))))
theorem okh__law_same (T : Facts K mg fd) : FnW P w K mg base 1 (He.ga K "_law_same") (fd "_law_same") ["_law_found", "_law_thing"] (spX ⟨K, mg, w⟩ 2 f__law_same) :=
  fnw_x (k := 0) T.d__law_same sc__law_same fun cdv A outer s H hr hgd => by
    have tk := takesNo (X := cxW P w K mg base ["_law_found", "_law_thing"] "_law_same" (defScope s__law_same) (He.ga K "_law_same") cdv A outer s H)
    have hu1 := hr.u1; have hu64 := hr.u64; have hu70 := hr.u70
    exact (qss_cons (qs_if (qt_cmp (op_ne_x hu64) (q_callB (call_repr_x hu70 hgd T.sm) rfl T.n_repr bt_repr (qa_cons (q_var 0 (pv 0)) qa_nil)) (q_callB (call_repr_x hu70 hgd T.sm) rfl T.n_repr bt_repr (qa_cons (q_var 1 (pv 1)) qa_nil)) (nomark _)) (qss_one (qs_ret q_bl)) qss_nil) (qss_cons (qs_if (qt_tru (q_callB call_isi_x rfl T.n_isinstance bt_isinstance (qa_cons (q_var 1 (pv 1)) (qa_cons (q_ty rfl T.n_list bt_list) qa_nil)))) (qss_one (qs_expr (q_bm PySem.F.plainAttrs_list PySem.F.slot_list_append PySem.F.type_list_append mt_append_x (q_var 1 (pv 1)) (qa_cons q_str qa_nil)))) qss_nil) (qss_cons (qs_if (qt_tru (q_callB call_isi_x rfl T.n_isinstance bt_isinstance (qa_cons (q_var 1 (pv 1)) (qa_cons (q_ty rfl T.n_dict bt_dict) qa_nil)))) (qss_one (qs_setIx hu1 (q_var 1 (pv 1)) q_str q_int)) qss_nil) (qss_one (qs_ret (q_cmp (op_eq_x hu64) (q_callB (call_repr_x hu70 hgd T.sm) rfl T.n_repr bt_repr (qa_cons (q_var 0 (pv 0)) qa_nil)) (q_callB (call_repr_x hu70 hgd T.sm) rfl T.n_repr bt_repr (qa_cons (q_var 1 (pv 1)) qa_nil)) (nomark _)))))))
theorem b__law_name (T : Facts K mg fd) : Binds K (fd "_law_name") ["_law_box_here"] [] := T.d__law_name.bindsN fun _ _ _ _ _ _ us hl => match us, hl with | [_], _ => rfl
theorem ok__law_name (T : Facts K mg fd) : FnG P w K mg base 2 (He.ga K "_law_name") (fd "_law_name") ["_law_box_here"] (spX ⟨K, mg, w⟩ 1 f__law_name) :=
  fn_x (k := 1) T.d__law_name sc__law_name fun cdv A outer s H E hr hgd => by
    have tk := takes_of (X := cxOf (L2.CX P w) P w K mg base ["_law_box_here", "_law_letters", "_law_word", "_law_at", "_law_sign", "_law_k"] "_law_name" (defScope s__law_name) (He.ga K "_law_name") cdv A outer s H E) (E := E) rfl rfl rfl rfl
    have hpo := passes_of (X := cxOf (L2.CX P w) P w K mg base ["_law_box_here", "_law_letters", "_law_word", "_law_at", "_law_sign", "_law_k"] "_law_name" (defScope s__law_name) (He.ga K "_law_name") cdv A outer s H E) rfl
    have hu1 := hu_of hr; have hu64 := hr.units; have hu70 := un70 hr
    exact (qss_cons (qs_set 1 sc__law_name.nd rfl (Or.inr rfl) q_str) (qss_cons (qs_set 2 sc__law_name.nd rfl (Or.inl rfl) (q_bm PySem.F.plainAttrs_str PySem.F.slot_str_join PySem.F.type_str_join mt_join_x q_str (qa_cons (q_lc (own := [("_law_k", 5)]) rfl sc__law_name.nd (qi_range1 rfl T.n_range (q_call ((ok__law_take T).mono (by decide)) hr hgd rfl T.g__law_take T.d__law_take.kp (b__law_take T) tk (qa_cons (q_var 0 (pv 0)) (qa_cons q_int qa_nil)))) (blkOk_by (N := ["_law_box_here", "_law_letters", "_law_word", "_law_at", "_law_sign", "_law_k"]) (sc := defScope s__law_name) (by decide +kernel)) (fun _ _ _ _ _ => (qg_name 5 sc__law_name.nd rfl (Or.inl rfl))) (fun _ _ _ _ _ => qts_nil) (fun _ _ _ _ _ => (q_ix ix_x (q_var 1 (pv 1)) (q_call ((ok__law_take T).mono (by decide)) hr hgd rfl T.g__law_take T.d__law_take.kp (b__law_take T) takes0 (qa_cons (q_var 0 (pv 0)) (qa_cons q_int qa_nil))) (fun _ _ => rfl)))) qa_nil))) (qss_cons (qs_set 2 sc__law_name.nd rfl (Or.inl rfl) (q_ix ix_x (q_lst (qa_cons (q_var 2 (pv 2)) (qa_cons (q_var 2 (pv 2)) (qa_cons (q_ix ix_x (q_lst (qa_cons q_str (qa_cons q_str (qa_cons q_str (qa_cons q_str (qa_cons q_str (qa_cons q_str qa_nil))))))) (q_call ((ok__law_take T).mono (by decide)) hr hgd rfl T.g__law_take T.d__law_take.kp (b__law_take T) tk (qa_cons (q_var 0 (pv 0)) (qa_cons q_int qa_nil))) (fun _ _ => rfl)) qa_nil)))) (q_call ((ok__law_take T).mono (by decide)) hr hgd rfl T.g__law_take T.d__law_take.kp (b__law_take T) tk (qa_cons (q_var 0 (pv 0)) (qa_cons q_int qa_nil))) (fun _ _ => rfl))) (qss_cons (qs_set 3 sc__law_name.nd rfl (Or.inl rfl) (q_call ((ok__law_take T).mono (by decide)) hr hgd rfl T.g__law_take T.d__law_take.kp (b__law_take T) tk (qa_cons (q_var 0 (pv 0)) (qa_cons (q_op op_add_x (q_callB call_len_x rfl T.n_len bt_len (qa_cons (q_var 2 (pv 2)) qa_nil)) q_int) qa_nil)))) (qss_cons (qs_set 4 sc__law_name.nd rfl (Or.inl rfl) (q_ix ix_x q_str (q_call ((ok__law_take T).mono (by decide)) hr hgd rfl T.g__law_take T.d__law_take.kp (b__law_take T) tk (qa_cons (q_var 0 (pv 0)) (qa_cons q_int qa_nil))) (fun _ _ => rfl))) (qss_one (qs_ret (q_ix ix_x (q_lst (qa_cons (q_var 2 (pv 2)) (qa_cons (q_var 2 (pv 2)) (qa_cons (q_op op_add_x (q_op op_add_x (q_slice sl_x (q_var 2 (pv 2)) qo_none (qo_some (q_var 3 (pv 3)))) (q_var 4 (pv 4))) (q_slice sl_x (q_var 2 (pv 2)) (qo_some (q_var 3 (pv 3))) qo_none)) (qa_cons (q_op op_add_x (q_op op_add_x (q_slice sl_x (q_var 2 (pv 2)) qo_none (qo_some (q_var 3 (pv 3)))) (q_var 4 (pv 4))) (q_slice sl_x (q_var 2 (pv 2)) (qo_some (q_op op_add_x (q_var 3 (pv 3)) q_int)) qo_none)) qa_nil))))) (q_call ((ok__law_take T).mono (by decide)) hr hgd rfl T.g__law_take T.d__law_take.kp (b__law_take T) tk (qa_cons (q_var 0 (pv 0)) (qa_cons q_int qa_nil))) (fun _ _ => rfl)))))))))
theorem b__law_is_name (T : Facts K mg fd) : Binds K (fd "_law_is_name") ["_law_thing"] [] := T.d__law_is_name.bindsN fun _ _ _ _ _ _ us hl => match us, hl with | [_], _ => rfl
theorem ok__law_is_name (T : Facts K mg fd) : FnG P w K mg base 1 (He.ga K "_law_is_name") (fd "_law_is_name") ["_law_thing"] (spX ⟨K, mg, w⟩ 1 f__law_is_name) :=
  fn_x (k := 0) T.d__law_is_name sc__law_is_name fun cdv A outer s H E hr hgd => by
    have tk := takes_of (X := cxOf (L2.CX P w) P w K mg base ["_law_thing", "_law_sign"] "_law_is_name" (defScope s__law_is_name) (He.ga K "_law_is_name") cdv A outer s H E) (E := E) rfl rfl rfl rfl
    have hpo := passes_of (X := cxOf (L2.CX P w) P w K mg base ["_law_thing", "_law_sign"] "_law_is_name" (defScope s__law_is_name) (He.ga K "_law_is_name") cdv A outer s H E) rfl
    have hu1 := hu_of hr; have hu64 := hr.units; have hu70 := un70 hr
    exact (qss_cons (qs_if (PW.pt (qw_or (qt_not (qt_tru (q_callB call_isi_x rfl T.n_isinstance bt_isinstance (qa_cons (q_var 0 (pv 0)) (qa_cons (q_ty rfl T.n_str bt_str) qa_nil))))) (qw_or (qt_cmp op_lt_x (q_callB call_len_x rfl T.n_len bt_len (qa_cons (q_var 0 (pv 0)) qa_nil)) q_int (nomark _)) (qw_or (qt_cmp op_gt_x (q_callB call_len_x rfl T.n_len bt_len (qa_cons (q_var 0 (pv 0)) qa_nil)) q_int (nomark _)) (qw_or1 (qt_cmp op_in_x (q_var 0 (pv 0)) (q_lst (qa_cons q_str (qa_cons q_str (qa_cons q_str qa_nil)))) (by rfl))))))) (qss_one (qs_ret q_bl)) qss_nil) (qss_one (qs_ret (q_cmp (op_eq_x hu64) (q_lc (own := [("_law_sign", 1)]) rfl sc__law_is_name.nd (qi_any (q_var 0 (pv 0))) (blkOk_by (N := ["_law_thing", "_law_sign"]) (sc := defScope s__law_is_name) (by decide +kernel)) (fun _ _ _ _ _ => (qg_name 1 sc__law_is_name.nd rfl (Or.inl rfl))) (fun _ _ _ _ _ => (qts_one (qt_cmp op_notIn_x (q_var 1 (pv 1)) q_str (by rfl)))) (fun _ _ _ _ _ => (q_var 1 (pv 1)))) (q_lst qa_nil) (nomark _)))))
theorem b__law_bound (T : Facts K mg fd) : Binds K (fd "_law_bound") ["_law_box_here", "_law_number"] [] := T.d__law_bound.bindsN fun _ _ _ _ _ _ us hl => match us, hl with | [_, _], _ => rfl
theorem ok__law_bound (T : Facts K mg fd) : FnG P w K mg base 2 (He.ga K "_law_bound") (fd "_law_bound") ["_law_box_here", "_law_number"] (spX ⟨K, mg, w⟩ 2 f__law_bound) :=
  fn_x (k := 1) T.d__law_bound sc__law_bound fun cdv A outer s H E hr hgd => by
    have tk := takes_of (X := cxOf (L2.CX P w) P w K mg base ["_law_box_here", "_law_number", "_law_base"] "_law_bound" (defScope s__law_bound) (He.ga K "_law_bound") cdv A outer s H E) (E := E) rfl rfl rfl rfl
    have hpo := passes_of (X := cxOf (L2.CX P w) P w K mg base ["_law_box_here", "_law_number", "_law_base"] "_law_bound" (defScope s__law_bound) (He.ga K "_law_bound") cdv A outer s H E) rfl
    have hu1 := hu_of hr; have hu64 := hr.units; have hu70 := un70 hr
    exact (qss_cons (qs_set 2 sc__law_bound.nd rfl (Or.inl rfl) (q_if (qt_tru (q_call ((ok__law_is_number T).mono (by decide)) hr hgd rfl T.g__law_is_number T.d__law_is_number.kp (b__law_is_number T) tk (qa_cons (q_var 1 (pv 1)) (qa_cons (q_op op_sub_x q_int (q_op op_pow_x q_int q_int)) (qa_cons (q_op op_pow_x q_int q_int) qa_nil))))) (q_var 1 (pv 1)) q_int)) (qss_one (qs_ret (q_op op_sub_x (q_op op_add_x (q_ix ix_x (q_lst (qa_cons (q_var 2 (pv 2)) (qa_cons (q_var 2 (pv 2)) (qa_cons q_int (qa_cons (q_op op_sub_x (q_call ((ok__law_take T).mono (by decide)) hr hgd rfl T.g__law_take T.d__law_take.kp (b__law_take T) tk (qa_cons (q_var 0 (pv 0)) (qa_cons (q_op op_pow_x q_int q_int) qa_nil))) (q_op op_mul2_x q_int (q_op op_pow_x q_int q_int))) qa_nil))))) (q_call ((ok__law_take T).mono (by decide)) hr hgd rfl T.g__law_take T.d__law_take.kp (b__law_take T) tk (qa_cons (q_var 0 (pv 0)) (qa_cons q_int qa_nil))) (fun _ _ => rfl)) (q_call ((ok__law_take T).mono (by decide)) hr hgd rfl T.g__law_take T.d__law_take.kp (b__law_take T) tk (qa_cons (q_var 0 (pv 0)) (qa_cons q_int qa_nil)))) q_int))))
theorem b__law_yes_right (T : Facts K mg fd) : Binds K (fd "_law_yes_right") ["_law_thing"] [] := T.d__law_yes_right.bindsN fun _ _ _ _ _ _ us hl => match us, hl with | [_], _ => rfl
theorem ok__law_yes_right (T : Facts K mg fd) : FnG P w K mg base 19 (He.ga K "_law_yes_right") (fd "_law_yes_right") ["_law_thing"] (spX ⟨K, mg, w⟩ 1 f__law_yes_right) :=
  fn_x (k := 18) T.d__law_yes_right sc__law_yes_right fun cdv A outer s H E hr hgd => by
    have tk := takes_of (X := cxOf (L2.CX P w) P w K mg base ["_law_thing", "_law_good", "_law_told", "e"] "_law_yes_right" (defScope s__law_yes_right) (He.ga K "_law_yes_right") cdv A outer s H E) (E := E) rfl rfl rfl rfl
    have hpo := passes_of (X := cxOf (L2.CX P w) P w K mg base ["_law_thing", "_law_good", "_law_told", "e"] "_law_yes_right" (defScope s__law_yes_right) (He.ga K "_law_yes_right") cdv A outer s H E) rfl
    have hu1 := hu_of hr; have hu64 := hr.units; have hu70 := un70 hr
    exact (qss_cons (qs_set 1 sc__law_yes_right.nd rfl (Or.inl rfl) (q_call ((ok__law_is_worth T (n := 12)).mono (by decide)) hr hgd rfl T.g__law_is_worth T.d__law_is_worth.kp (b__law_is_worth T) tk (qa_cons (q_var 0 (pv 0)) (qa_cons q_int qa_nil)))) (qss_cons (qs_try T.ct rfl rfl sc__law_yes_right.nd tk rfl (fun Wb pn xe tk hpo => (qss_one (qs_set 2 sc__law_yes_right.nd rfl (Or.inl rfl) (q_call ((ok_says_yes T).mono (by decide)) hr hgd rfl T.g_says_yes T.d_says_yes.kp (b_says_yes T) tk (qa_cons (q_var 0 (pv 0)) qa_nil))))) (.named (tn_one ⟨rfl, by decide, .inl T.g_NoWorth⟩) (by decide) rfl rfl (fun a oe cls d pn c fs hz hv hc ⟨_, hl⟩ => (qss_one (qs_ret (q_and (q_not (q_var 1 (pv 1))) (q_and (q_isE (v := .ref _) T.ct hl (by decide) hz hv hc rfl T.n_isinstance (pv 3) (pe_glob rfl T.g_InnerError rfl) (fun u r => .inl (by cases r; exact T.g_InnerError))) (q_and (q_not (q_isE (v := .ref _) T.ct hl (by decide) hz hv hc rfl T.n_isinstance (pv 3) (pe_glob rfl T.g_Barred rfl) (fun u r => .inl (by cases r; exact T.g_Barred)))) (q_one (q_callW ((okh__law_same T).mono (by decide)) (Rm.of hr _) hgd rfl T.g__law_same T.d__law_same.kp (b__law_same T) (qa_cons (q_fld T.ct hl (by decide) hz hv hc (pv 3)) (qa_cons (q_var 0 (pv 0)) qa_nil)))))))))) (.plain (tn_two ⟨rfl, by decide, .inl T.g_InnerError⟩ ⟨rfl, by decide, .inl T.g_Barred⟩) (by decide) (fun a oe cls d pn c fs hz hv hc hl => (qss_one (qs_ret q_bl))) .nil))) (qss_cons (qs_if (qt_not (qt_tru (q_var 1 (pv 1)))) (qss_one (qs_ret q_bl)) qss_nil) (qss_one (qs_ret (q_cmp (op_eq_x hu64) (q_callB (call_repr_x hu70 hgd T.sm) rfl T.n_repr bt_repr (qa_cons (q_var 2 (pv 2)) qa_nil)) (q_callB (call_repr_x hu70 hgd T.sm) rfl T.n_repr bt_repr (qa_cons (q_and (q_cmp op_isNot_x (q_var 0 (pv 0)) q_non (nomark _)) (q_one (q_or (q_not (q_callB call_isi_x rfl T.n_isinstance bt_isinstance (qa_cons (q_var 0 (pv 0)) (qa_cons (q_ty rfl T.n_int bt_int) qa_nil)))) (q_one (q_cmp (op_ne_x hu64) (q_var 0 (pv 0)) q_int (nomark _)))))) qa_nil)) (nomark _)))))))
theorem b__law_right (T : Facts K mg fd) : Binds K (fd "_law_right") ["_law_box_here"] [] := T.d__law_right.bindsN fun _ _ _ _ _ _ us hl => match us, hl with | [_], _ => rfl
theorem ok__law_right (T : Facts K mg fd) : FnG P w K mg base 20 (He.ga K "_law_right") (fd "_law_right") ["_law_box_here"] (spX ⟨K, mg, w⟩ 1 f__law_right) :=
  fn_x (k := 19) T.d__law_right sc__law_right fun cdv A outer s H E hr hgd => by
    have tk := takes_of (X := cxOf (L2.CX P w) P w K mg base ["_law_box_here", "_law_most", "_law_number", "_law_worth_here", "_law_odd", "_law_thing", "_law_kept", "_law_low", "_law_high", "_law_turn"] "_law_right" (defScope s__law_right) (He.ga K "_law_right") cdv A outer s H E) (E := E) rfl rfl rfl rfl
    have hpo := passes_of (X := cxOf (L2.CX P w) P w K mg base ["_law_box_here", "_law_most", "_law_number", "_law_worth_here", "_law_odd", "_law_thing", "_law_kept", "_law_low", "_law_high", "_law_turn"] "_law_right" (defScope s__law_right) (He.ga K "_law_right") cdv A outer s H E) rfl
    have hu1 := hu_of hr; have hu64 := hr.units; have hu70 := un70 hr
    exact (qss_cons (qs_set 1 sc__law_right.nd rfl (Or.inl rfl) (q_op op_pow_x q_int q_int)) (qss_cons (qs_set 2 sc__law_right.nd rfl (Or.inl rfl) (q_ix ix_x (q_lst (qa_cons q_int (qa_cons (q_un un_neg_x q_int) (qa_cons (q_call ((ok__law_take T).mono (by decide)) hr hgd rfl T.g__law_take T.d__law_take.kp (b__law_take T) tk (qa_cons (q_var 0 (pv 0)) (qa_cons (q_var 1 (pv 1)) qa_nil))) (qa_cons (q_op op_sub_x q_int (q_call ((ok__law_take T).mono (by decide)) hr hgd rfl T.g__law_take T.d__law_take.kp (b__law_take T) tk (qa_cons (q_var 0 (pv 0)) (qa_cons (q_var 1 (pv 1)) qa_nil)))) (qa_cons (q_call ((ok__law_take T).mono (by decide)) hr hgd rfl T.g__law_take T.d__law_take.kp (b__law_take T) tk (qa_cons (q_var 0 (pv 0)) (qa_cons (q_op op_mul2_x q_int (q_op op_pow_x q_int q_int)) qa_nil))) qa_nil)))))) (q_call ((ok__law_take T).mono (by decide)) hr hgd rfl T.g__law_take T.d__law_take.kp (b__law_take T) tk (qa_cons (q_var 0 (pv 0)) (qa_cons q_int qa_nil))) (fun _ _ => rfl))) (qss_cons (qs_set 3 sc__law_right.nd rfl (Or.inl rfl) (q_call ((ok__law_worth T (n := 12)).mono (by decide)) hr hgd rfl T.g__law_worth T.d__law_worth.kp (b__law_worth T) tk (qa_cons (q_var 0 (pv 0)) (qa_cons q_int qa_nil)))) (qss_cons (qs_set 4 sc__law_right.nd rfl (Or.inl rfl) (q_call ((ok__law_bent T (n := 12)).mono (by decide)) hr hgd rfl T.g__law_bent T.d__law_bent.kp (b__law_bent T) tk (qa_cons (q_var 0 (pv 0)) (qa_cons q_non qa_nil)))) (qss_cons (qs_for hpo rfl (qi_any (q_lst (qa_cons (q_var 2 (pv 2)) (qa_cons (q_var 3 (pv 3)) (qa_cons (q_var 4 (pv 4)) (qa_cons (q_call ((ok__law_name T).mono (by decide)) hr hgd rfl T.g__law_name T.d__law_name.kp (b__law_name T) tk (qa_cons (q_var 0 (pv 0)) qa_nil)) (qa_cons (q_call ((ok__law_text T).mono (by decide)) hr hgd rfl T.g__law_text T.d__law_text.kp (b__law_text T) tk (qa_cons (q_var 0 (pv 0)) qa_nil)) (qa_cons (q_call ((ok__law_bent T (n := 12)).mono (by decide)) hr hgd rfl T.g__law_bent T.d__law_bent.kp (b__law_bent T) tk (qa_cons (q_var 0 (pv 0)) (qa_cons (q_var 3 (pv 3)) qa_nil))) qa_nil)))))))) (qg_name 5 sc__law_right.nd rfl (Or.inl rfl)) (qss_cons (qs_set 6 sc__law_right.nd rfl (Or.inl rfl) (q_callB (call_repr_x hu70 hgd T.sm) rfl T.n_repr bt_repr (qa_cons (q_var 5 (pv 5)) qa_nil))) (qss_cons (qs_par rfl sc__law_right.nd rfl rfl (by decide) rfl rfl (qa_cons (q_call ((ok__law_bound T).mono (by decide)) hr hgd rfl T.g__law_bound T.d__law_bound.kp (b__law_bound T) tk (qa_cons (q_var 0 (pv 0)) (qa_cons (q_var 5 (pv 5)) qa_nil))) (qa_cons (q_call ((ok__law_bound T).mono (by decide)) hr hgd rfl T.g__law_bound T.d__law_bound.kp (b__law_bound T) tk (qa_cons (q_var 0 (pv 0)) (qa_cons (q_var 5 (pv 5)) qa_nil))) qa_nil)) (by rfl)) (qss_cons (qs_for hpo rfl (qi_range1 rfl T.n_range q_int) (qg_name 9 sc__law_right.nd rfl (Or.inl rfl)) (qss_cons (qs_if (qt_cmp (op_ne_x hu64) (q_callB (call_repr_x hu70 hgd T.sm) rfl T.n_repr bt_repr (qa_cons (q_call ((ok_is_whole T).mono (by decide)) hr hgd rfl T.g_is_whole T.d_is_whole.kp (b_is_whole T) tk (qa_cons (q_var 5 (pv 5)) (qa_cons (q_var 7 (pv 7)) (qa_cons (q_var 8 (pv 8)) qa_nil)))) qa_nil)) (q_callB (call_repr_x hu70 hgd T.sm) rfl T.n_repr bt_repr (qa_cons (q_call ((ok__law_is_number T).mono (by decide)) hr hgd rfl T.g__law_is_number T.d__law_is_number.kp (b__law_is_number T) tk (qa_cons (q_var 5 (pv 5)) (qa_cons (q_var 7 (pv 7)) (qa_cons (q_var 8 (pv 8)) qa_nil)))) qa_nil)) (nomark _)) (qss_one (qs_ret q_bl)) qss_nil) (qss_cons (qs_if (PW.pt (qw_or (qt_cmp (op_ne_x hu64) (q_callB (call_repr_x hu70 hgd T.sm) rfl T.n_repr bt_repr (qa_cons (q_call ((ok_is_name T).mono (by decide)) hr hgd rfl T.g_is_name T.d_is_name.kp (b_is_name T) tk (qa_cons (q_var 5 (pv 5)) qa_nil)) qa_nil)) (q_callB (call_repr_x hu70 hgd T.sm) rfl T.n_repr bt_repr (qa_cons (q_call ((ok__law_is_name T).mono (by decide)) hr hgd rfl T.g__law_is_name T.d__law_is_name.kp (b__law_is_name T) tk (qa_cons (q_var 5 (pv 5)) qa_nil)) qa_nil)) (nomark _)) (qw_or1 (qt_cmp (op_ne_x hu64) (q_callB (call_repr_x hu70 hgd T.sm) rfl T.n_repr bt_repr (qa_cons (q_call ((ok_is_text T).mono (by decide)) hr hgd rfl T.g_is_text T.d_is_text.kp (b_is_text T) tk (qa_cons (q_var 5 (pv 5)) qa_nil)) qa_nil)) (q_callB (call_repr_x hu70 hgd T.sm) rfl T.n_repr bt_repr (qa_cons (q_call ((ok__law_is_text T).mono (by decide)) hr hgd rfl T.g__law_is_text T.d__law_is_text.kp (b__law_is_text T) tk (qa_cons (q_var 5 (pv 5)) qa_nil)) qa_nil)) (nomark _))))) (qss_one (qs_ret q_bl)) qss_nil) (qss_one (qs_if (PW.pt (qw_or (qt_cmp (op_ne_x hu64) (q_callB (call_repr_x hu70 hgd T.sm) rfl T.n_repr bt_repr (qa_cons (q_call ((ok_is_worth T).mono (by decide)) hr hgd rfl T.g_is_worth T.d_is_worth.kp (b_is_worth T) tk (qa_cons (q_var 5 (pv 5)) qa_nil)) qa_nil)) (q_callB (call_repr_x hu70 hgd T.sm) rfl T.n_repr bt_repr (qa_cons (q_call ((ok__law_is_worth T (n := 12)).mono (by decide)) hr hgd rfl T.g__law_is_worth T.d__law_is_worth.kp (b__law_is_worth T) tk (qa_cons (q_var 5 (pv 5)) (qa_cons q_int qa_nil))) qa_nil)) (nomark _)) (qw_or1 (qt_cmp (op_ne_x hu64) (q_callB (call_repr_x hu70 hgd T.sm) rfl T.n_repr bt_repr (qa_cons (q_var 5 (pv 5)) qa_nil)) (q_var 6 (pv 6)) (nomark _))))) (qss_one (qs_ret q_bl)) qss_nil))))) (qss_one (qs_if (qt_not (qt_tru (q_call ((ok__law_yes_right T).mono (by decide)) hr hgd rfl T.g__law_yes_right T.d__law_yes_right.kp (b__law_yes_right T) tk (qa_cons (q_var 5 (pv 5)) qa_nil)))) (qss_one (qs_ret q_bl)) qss_nil)))))) (qss_one (qs_ret q_bl)))))))
theorem b_law (T : Facts K mg fd) : Binds K (fd "law") ["_law_script"] [] := T.d_law.bindsN fun _ _ _ _ _ _ us hl => match us, hl with | [_], _ => rfl
theorem ok_law (T : Facts K mg fd) : FnG P w K mg base 21 (He.ga K "law") (fd "law") ["_law_script"] (spX ⟨K, mg, w⟩ 1 f_law) :=
  fn_x (k := 20) T.d_law sc_law fun cdv A outer s H E hr hgd => by
    have tk := takes_of (X := cxOf (L2.CX P w) P w K mg base ["_law_script", "_law_k"] "law" (defScope s_law) (He.ga K "law") cdv A outer s H E) (E := E) rfl rfl rfl rfl
    have hpo := passes_of (X := cxOf (L2.CX P w) P w K mg base ["_law_script", "_law_k"] "law" (defScope s_law) (He.ga K "law") cdv A outer s H E) rfl
    have hu1 := hu_of hr; have hu64 := hr.units; have hu70 := un70 hr
    exact (qss_cons (qs_for hpo rfl (qi_range1 rfl T.n_range (q_callB (call_max_x rfl) rfl T.n_max bt_max (qa_cons q_int (qa_cons (q_callB (call_min_x rfl) rfl T.n_min bt_min (qa_cons q_int (qa_cons (q_callB call_len_x rfl T.n_len bt_len (qa_cons (q_var 0 (pv 0)) qa_nil)) qa_nil))) qa_nil)))) (qg_name 1 sc_law.nd rfl (Or.inl rfl)) (qss_one (qs_if (qt_not (qt_tru (q_call ((ok__law_right T).mono (by decide)) hr hgd rfl T.g__law_right T.d__law_right.kp (b__law_right T) tk (qa_cons (q_call ((ok__law_box T).mono (by decide)) hr hgd rfl T.g__law_box T.d__law_box.kp (b__law_box T) tk (qa_cons (q_call ((ok__law_cell T).mono (by decide)) hr hgd rfl T.g__law_cell T.d__law_cell.kp (b__law_cell T) tk (qa_cons (q_var 0 (pv 0)) (qa_cons (q_var 1 (pv 1)) qa_nil))) qa_nil)) qa_nil)))) (qss_one (qs_ret q_bl)) qss_nil))) (qss_one (qs_ret q_bl)))
end
end K

set_option Elab.async false
set_option linter.all false
set_option maxRecDepth 100000
set_option maxHeartbeats 4000000
namespace K
open PySem L2 EX
/-! ### heaps -/
theorem gc_self {n : Nat} {v : Val} {h : Hh} (e : h.length = n) : gc n v h = h := by
  unfold gc
  split
  · exact List.take_of_length_le (by omega)
  · rfl
theorem gcX_self {n : Nat} {fs : List (Str × Val)} {h : Hh} (e : h.length = n) : gcX n fs h = h := by
  unfold gcX
  split
  · exact List.take_of_length_le (by omega)
  · rfl
def Cl (h : Hh) : Prop := h.all (Ob.und h.length) = true
theorem gc_app {n : Nat} {v : Val} {h l : Hh} (e : h.length = n) (hv : v.und n = true) (hc : Cl h) : gc n v (h ++ l) = h := by
  unfold gc
  have e1 : (h ++ l).take n = h := by rw [← e]; exact List.take_left
  rw [e1, if_pos ⟨hv, by rw [← e]; exact hc⟩]
/-- the state of the draws -/
structure Bs where
  x : Int
  y : Int
  z : Int
def box (s : Bs) : Ob := .lst [.int s.x, .int s.y, .int s.z]
def zM : Int := 2 ^ 22
structure Gd (s : Bs) : Prop where
  x0 : 0 ≤ s.x
  y0 : 0 ≤ s.y
  y1 : s.y < 2147483629
  z0 : 0 ≤ s.z
theorem und_box (n : Nat) (s : Bs) : (box s).und n = true := rfl
theorem Cl.set {h : Hh} (c : Cl h) (b : Nat) (s : Bs) : Cl (h.set b (box s)) := by
  unfold Cl at c ⊢
  rw [List.length_set]
  rw [List.all_eq_true] at c ⊢
  intro o m
  rcases List.mem_or_eq_of_mem_set m with m | m
  · exact c o m
  · rw [m]; rfl
theorem set_get {h : Hh} {b : Nat} {o o' : Ob} (e : h[b]? = some o) : (h.set b o')[b]? = some o' := by
  rw [List.getElem?_set_self (List.getElem?_eq_some_iff.mp e).1]
/-- one draw -/
theorem take_spec {h : Hh} {b : Nat} {s : Bs} {m : Int} (hb : h[b]? = some (box s)) (g : Gd s) (hz : s.z + 1 ≤ zM) (hm : 0 < m) (hm2 : m.natAbs.log2 < 9000) :
    ∃ (r : Int) (s' : Bs), f__law_take [.loc b, .int m] h = .ok (.int r) (h.set b (box s')) ∧ 0 ≤ r ∧ r < m ∧ Gd s' ∧ s'.z ≤ s.z + 1 := by
  have hl : b < h.length := (List.getElem?_eq_some_iff.mp hb).1
  by_cases hx : 0 < s.x
  · refine ⟨s.x % m, ⟨s.x / m, s.y, s.z⟩, ?_, Int.emod_nonneg _ (by omega), Int.emod_lt_of_pos _ hm, ⟨Int.ediv_nonneg g.x0 (by omega), g.y0, g.y1, g.z0⟩, by show s.z ≤ s.z + 1; omega⟩
    simp [f__law_take, callF, x__law_take, sSeq, sIf, xTest, xBin, xVar, xC, oIx, hb, box, atI, ixN, oGt, hx, sSet, oMod, hm, sSetIx, oFdiv, hm2, oSet, sRet, gc_self]
  · have hx0 : s.x = 0 := by have := g.x0; omega
    have hz' : s.z + 1 ≤ 4194304 := hz
    have z0 := g.z0; have y0 := g.y0; have y1 := g.y1
    have a1 : (s.y + 7919 * (s.z + 1) + 31).natAbs < 2 ^ 64 := by omega
    have n0 := Int.emod_nonneg ((s.y + 7919 * (s.z + 1) + 31) ^ 5) (show (2147483647 : Int) ≠ 0 by decide)
    have n1 := Int.emod_lt_of_pos ((s.y + 7919 * (s.z + 1) + 31) ^ 5) (show (0 : Int) < 2147483647 by decide)
    generalize hn : (s.y + 7919 * (s.z + 1) + 31) ^ 5 % 2147483647 = n at n0 n1
    have q0 : 0 ≤ 104729 * (s.z + 1) * (s.z + 1) := Int.mul_nonneg (by omega) (by omega)
    have q1 : 104729 * (s.z + 1) * (s.z + 1) ≤ 104729 * 4194304 * 4194304 := Int.mul_le_mul (by omega) (by omega) (by omega) (by omega)
    have c1 : (n / 8 + 104729 * (s.z + 1) * (s.z + 1)).natAbs < 2 ^ 64 := by omega
    have c2 : -18446744073709551616 < 104729 * (s.z + 1) ∧ 104729 * (s.z + 1) < 18446744073709551616 := by omega
    refine ⟨(n / 8 + 104729 * (s.z + 1) * (s.z + 1)) ^ 3 % 2147483587 / 8 % m, ⟨0, s.y, s.z + 1⟩, ?_, Int.emod_nonneg _ (by omega), Int.emod_lt_of_pos _ hm, ⟨Int.le_refl _, y0, y1, by show 0 ≤ s.z + 1; omega⟩, Int.le_refl _⟩
    have l8 : Nat.log2 8 < 9000 := by decide
    have e1 : f__law_take [.loc b, .int m] h = .ok (.int ((n / 8 + 104729 * (s.z + 1) * (s.z + 1)) ^ 3 % 2147483587 / 8 % m)) (h.set b (box ⟨0, s.y, s.z + 1⟩)) := by
      simp [f__law_take, callF, x__law_take, sSeq, sIf, xTest, xBin, xVar, xC, oIx, hb, box, atI, ixN, oGt, hx0, sNil, sSet, oMod, hm, sSetIx, oFdiv, hm2, oSet, sRet, gc_self, oAdd, oMul2, oMul, oPow, List.getElem?_set_self hl, a1, hn, c1, c2, l8]
    exact e1
end K

set_option Elab.async false
set_option linter.all false
set_option maxRecDepth 100000
set_option maxHeartbeats 4000000
namespace K
open PySem L2 EX
/-- a comprehension over given things whose body gives one thing each, heap part by heap part -/
theorem comp_run {xs : List Val} {t : Tg} {x : XE} {n : Nat} {e : En} {P : Nat → Hh → Prop} {V : Val → Prop}
    (step : ∀ (k : Nat) (h' : Hh) (acc : List Val) (v : Val), v ∈ xs → P (k + 1) h' → h'.length = n → (∀ y ∈ acc, V y) → ∃ e1, t.put v e = some e1 ∧ ∃ y h'', x e1 (h' ++ [.lst acc]) = .ok y (h'' ++ [.lst acc]) ∧ h''.length = n ∧ P k h'' ∧ V y) :
    ∀ (items : List Val) (h' : Hh) (acc : List Val), (∀ v ∈ items, v ∈ xs) → P items.length h' → h'.length = n → (∀ y ∈ acc, V y) → acc.length + items.length ≤ sizeLine →
      ∃ ys h'', compLoop (.items xs) t xYes x n e items (h' ++ [.lst acc]) = .ok () (h'' ++ [.lst (acc ++ ys)]) ∧ h''.length = n ∧ P 0 h'' ∧ ys.length = items.length ∧ ∀ y ∈ ys, V y
  | [], h', acc, _, p, hl, _, _ => ⟨[], h', by simp [compLoop, Itn.okAt], hl, p, rfl, fun _ m => nomatch m⟩
  | v :: vs, h', acc, hin, p, hl, ha, hs => by
    obtain ⟨e1, et, y, h1, ex, hl1, p1, vy⟩ := step vs.length h' acc v (hin v (.head _)) p hl ha
    rw [List.length_cons] at hs
    obtain ⟨ys, h2, e2, hl2, p2, l2, v2⟩ := comp_run step vs h1 (acc ++ [y]) (fun z m => hin z (.tail _ m)) p1 hl1 (fun z m => (List.mem_append.mp m).elim (ha z) (fun q => by rw [List.mem_singleton.mp q]; exact vy)) (by rw [List.length_append, List.length_singleton]; omega)
    refine ⟨y :: ys, h2, ?_, hl2, p2, by rw [List.length_cons, List.length_cons, l2], fun z m => (List.mem_cons.mp m).elim (fun q => by rw [q]; exact vy) (v2 z)⟩
    have g : (h1 ++ [Ob.lst acc])[n]? = some (.lst acc) := by rw [List.getElem?_append_right (by omega), hl1, Nat.sub_self]; rfl
    have st : (h1 ++ [Ob.lst acc]).set n (.lst (acc ++ [y])) = h1 ++ [.lst (acc ++ [y])] := by
      rw [List.set_append_right _ _ (by omega), hl1, Nat.sub_self]; rfl
    have hlt : acc.length < sizeLine := by omega
    unfold compLoop
    simp only [Itn.okAt, if_true, et, xYes, Res.bindS_ok, ex, g, hlt, st]
    rw [e2, List.append_assoc]
    rfl
/-- .. over range(m) -/
theorem comp_range {a : XE} {t : Tg} {x : XE} {vs : List Nat} {e : En} {h h1 : Hh} {m : Int} {P : Nat → Hh → Prop} {V : Val → Prop} (ea : a e h = .ok (.int m) h1) (hm : m ≤ 1000)
    (step : ∀ (k : Nat) (h' : Hh) (acc : List Val) (v : Val), P (k + 1) h' → h'.length = h1.length → (∀ y ∈ acc, V y) → ∃ e1, t.put v (wipeE e vs) = some e1 ∧ ∃ y h'', x e1 (h' ++ [.lst acc]) = .ok y (h'' ++ [.lst acc]) ∧ h''.length = h1.length ∧ P k h'' ∧ V y)
    (p : P m.toNat h1) (hm0 : 0 ≤ m := by omega) : ∃ ys h'', xComp (xRange1 a) t xYes x vs e h = .ok (.loc h1.length) (h'' ++ [.lst ys]) ∧ h''.length = h1.length ∧ P 0 h'' ∧ ys.length = m.toNat ∧ ∀ y ∈ ys, V y := by
  obtain ⟨ys, h2, e2, l2, p2, ly, vy⟩ := comp_run (xs := (List.range m.toNat).map fun (i : Nat) => Val.int ((0 : Int) + i)) (fun k h' acc v _ => step k h' acc v) ((List.range m.toNat).map fun (i : Nat) => Val.int ((0 : Int) + i)) h1 [] (fun _ q => q) (by simpa using p) rfl (fun _ q => nomatch q) (by simp [sizeLine_eq]; omega)
  refine ⟨ys, h2, ?_, l2, p2, by simpa using ly, vy⟩
  unfold xComp xRange1
  rw [ea]
  have c : -(2 ^ 62) ≤ m ∧ m < 2 ^ 62 := by omega
  simp only [Res.bind_ok, c, if_true, and_self, Itn.xs, e2, List.nil_append]
theorem get_new {h : Hh} {o : Ob} {n : Nat} (e : h.length = n) : (h ++ [o])[n]? = some o := by
  rw [List.getElem?_append_right (by omega), e, Nat.sub_self]; rfl
/-- an item at a place in range -/
theorem atI_mem {α : Type} {xs : List α} {r : Int} (h0 : 0 ≤ r) (h1 : r < xs.length) : ∃ v, atI xs r = some v ∧ v ∈ xs := by
  have hn : r.toNat < xs.length := by omega
  refine ⟨xs[r.toNat], ?_, List.getElem_mem _⟩
  unfold atI ixN
  rw [if_pos h0, if_pos h1]
  exact List.getElem?_eq_getElem hn
/-! ### what is reached is below -/
mutual
theorem und_mono {n m : Nat} (h : n ≤ m) : ∀ {v : Val}, v.und n = true → v.und m = true
  | .non, _ => rfl
  | .bl _, _ => rfl
  | .int _, _ => rfl
  | .str _, _ => rfl
  | .ref _, _ => rfl
  | .ty _, _ => rfl
  | .tup xs, e => by
    have e : undL n xs = true := by simpa [Val.und] using e
    simpa [Val.und] using undL_mono h e
  | .scr xs, e => by
    have e : undL n xs = true := by simpa [Val.und] using e
    simpa [Val.und] using undL_mono h e
  | .loc k, e => by
    have e : k < n := by simpa [Val.und] using e
    have : k < m := by omega
    simpa [Val.und] using this
theorem undL_mono {n m : Nat} (h : n ≤ m) : ∀ {xs : List Val}, undL n xs = true → undL m xs = true
  | [], _ => rfl
  | x :: xs, e => by
    simp only [undL, Bool.and_eq_true] at e ⊢
    exact ⟨und_mono h e.1, undL_mono h e.2⟩
end
theorem Ob.und_mono {n m : Nat} (h : n ≤ m) {o : Ob} (e : o.und n = true) : o.und m = true := by
  cases o with
  | lst xs => exact undL_mono h e
  | dct kvs => exact undL_mono h e
  | ins C fs => exact undL_mono h e
theorem undL_of {n : Nat} : ∀ {xs : List Val}, (∀ x ∈ xs, x.und n = true) → undL n xs = true
  | [], _ => rfl
  | x :: xs, h => by
    simp only [undL, Bool.and_eq_true]
    exact ⟨h x (.head _), undL_of fun y m => h y (.tail _ m)⟩
theorem of_undL {n : Nat} : ∀ {xs : List Val}, undL n xs = true → ∀ x ∈ xs, x.und n = true
  | [], _, _, m => nomatch m
  | x :: xs, h, y, m => by
    simp only [undL, Bool.and_eq_true] at h
    rcases List.mem_cons.mp m with rfl | m
    · exact h.1
    · exact of_undL h.2 y m
theorem Cl.app {h : Hh} {o : Ob} (c : Cl h) (ho : o.und (h.length + 1) = true) : Cl (h ++ [o]) := by
  unfold Cl at c ⊢
  rw [List.all_append, List.length_append, List.length_singleton]
  rw [List.all_eq_true] at c
  rw [Bool.and_eq_true, List.all_eq_true]
  exact ⟨fun x m => Ob.und_mono (Nat.le_succ _) (c x m), by simpa using ho⟩
/-! ### what draws -/
/-- h but for the draws' state at b, and what was laid behind -/
def Du (h : Hh) (b : Nat) (z : Int) (h' : Hh) : Prop := ∃ s l, h' = h.set b (box s) ++ l ∧ Gd s ∧ s.z ≤ z ∧ Cl h'
/-- a def that draws n times at most and tells a thing -/
def SpD (n : Int) (G : Fn) (as : List Val) (V : Val → Prop) : Prop := ∀ (h : Hh) (b : Nat) (s : Bs), h[b]? = some (box s) → Gd s → Cl h → s.z + n ≤ zM →
  ∃ v s', G (.loc b :: as) h = .ok v (h.set b (box s')) ∧ Gd s' ∧ s'.z ≤ s.z + n ∧ V v
theorem Du.self {h : Hh} {b : Nat} {s : Bs} (e : h[b]? = some (box s)) (g : Gd s) (c : Cl h) : Du h b s.z h := by
  refine ⟨s, [], ?_, g, Int.le_refl _, c⟩
  obtain ⟨hl, e⟩ := List.getElem?_eq_some_iff.mp e
  rw [← e, List.set_getElem_self, List.append_nil]
theorem Du.mono {h : Hh} {b : Nat} {z z' : Int} {h' : Hh} (d : Du h b z h') (hz : z ≤ z') : Du h b z' h' := let ⟨s, l, e, g, q, c⟩ := d; ⟨s, l, e, g, by omega, c⟩
theorem Du.cl {h : Hh} {b : Nat} {z : Int} {h' : Hh} (d : Du h b z h') : Cl h' := let ⟨_, _, _, _, _, c⟩ := d; c
theorem Du.le {h : Hh} {b : Nat} {z : Int} {h' : Hh} (d : Du h b z h') : h.length ≤ h'.length := by
  obtain ⟨s, l, e, g, q, c⟩ := d
  rw [e, List.length_append, List.length_set]
  omega
theorem Du.new {h : Hh} {b : Nat} {z : Int} {h' : Hh} {o : Ob} (d : Du h b z h') (ho : o.und (h'.length + 1) = true) : Du h b z (h' ++ [o]) := by
  obtain ⟨s, l, e, g, q, c⟩ := d
  exact ⟨s, l ++ [o], by rw [e, List.append_assoc], g, q, c.app ho⟩
/-- a draw, by a def that keeps SpD -/
theorem Du.call {h : Hh} {b : Nat} {z n : Int} {h' : Hh} {G : Fn} {as : List Val} {V : Val → Prop} (S : SpD n G as V) (d : Du h b z h') (hl : b < h.length) (hz : z + n ≤ zM) :
    ∃ v s', G (.loc b :: as) h' = .ok v (h'.set b (box s')) ∧ Du h b (z + n) (h'.set b (box s')) ∧ V v := by
  obtain ⟨s, l, e, g, q, c⟩ := d
  have hl' : b < (h.set b (box s)).length := by rw [List.length_set]; exact hl
  obtain ⟨v, s', e1, g1, z1, v1⟩ := S h' b s (by rw [e, List.getElem?_append_left hl', List.getElem?_set_self hl]) g c (by omega)
  exact ⟨v, s', e1, ⟨s', l, by rw [e, List.set_append_left _ _ hl', List.set_set], g1, by omega, c.set b s'⟩, v1⟩
/-- .. with one more object behind -/
theorem Du.call_app {h : Hh} {b : Nat} {z n : Int} {g : Hh} {o : Ob} {G : Fn} {as : List Val} {V : Val → Prop} (S : SpD n G as V) (d : Du h b z g) (hl : b < h.length) (hz : z + n ≤ zM) (ho : o.und (g.length + 1) = true) :
    ∃ v s', G (.loc b :: as) (g ++ [o]) = .ok v (g.set b (box s') ++ [o]) ∧ Du h b (z + n) (g.set b (box s')) ∧ V v := by
  have hg : b < g.length := Nat.lt_of_lt_of_le hl d.le
  obtain ⟨s, l, e, gd, q, c⟩ := d
  have hl' : b < (h.set b (box s)).length := by rw [List.length_set]; exact hl
  obtain ⟨v, s', e1, g1, z1, v1⟩ := S (g ++ [o]) b s (by rw [List.getElem?_append_left hg, e, List.getElem?_append_left hl', List.getElem?_set_self hl]) gd (c.app ho) (by omega)
  rw [List.set_append_left _ _ hg] at e1
  exact ⟨v, s', e1, ⟨s', l, by rw [e, List.set_append_left _ _ hl', List.set_set], g1, by omega, c.set b s'⟩, v1⟩
/-- the end of such a def -/
theorem Du.done {h : Hh} {b : Nat} {z : Int} {h' : Hh} {v : Val} (d : Du h b z h') (c : Cl h) (hv : v.und h.length = true) : ∃ s', gc h.length v h' = h.set b (box s') ∧ Gd s' ∧ s'.z ≤ z := by
  obtain ⟨s, l, e, g, q, _⟩ := d
  exact ⟨s, by rw [e]; exact gc_app (by rw [List.length_set]) hv (c.set b s), g, q⟩
def Rg (m : Int) (v : Val) : Prop := ∃ r : Int, v = .int r ∧ 0 ≤ r ∧ r < m
theorem take_sp {m : Int} (hm : 0 < m) (hm2 : m.natAbs.log2 < 9000 := by decide) : SpD 1 f__law_take [.int m] (Rg m) := fun h b s e g c hz => by
  obtain ⟨r, s', e1, r0, r1, g', z'⟩ := take_spec e g hz hm hm2
  exact ⟨_, s', e1, g', z', r, rfl, r0, r1⟩
theorem set_len {h : Hh} {b : Nat} {o : Ob} : (h.set b o).length = h.length := List.length_set
/-- [..][take(box, n)] -/
theorem pick {h : Hh} {b : Nat} {z m : Int} {h0 h1 : Hh} {A : XA} {e : En} {vs : List Val} (eA : A e h0 = .ok vs h1) (he : e[0]? = some (some (.loc b))) (d : Du h b z h1) (hl : b < h.length) (hz : z + 1 ≤ zM) (hn : (vs.length : Int) = m) (h0n : 0 < m) (hs : m ≤ 1000) (hu : undL h1.length vs = true) (hm2 : m.natAbs.log2 < 9000 := by decide) :
    ∃ v h2, xBin oIx (xLst A) (xCall 2 f__law_take (xCons (xVar 0) (xCons (xC (.int m)) xNil))) e h0 = .ok v h2 ∧ Du h b (z + 1) h2 ∧ v ∈ vs ∧ h2.length = h1.length + 1 := by
  obtain ⟨v, s', e1, d1, r, rfl, r0, r1⟩ := (d.new (o := .lst vs) (undL_mono (Nat.le_succ _) hu)).call (take_sp h0n hm2) hl hz
  have hb : b < h1.length := Nat.lt_of_lt_of_le hl d.le
  obtain ⟨v, ev, mv⟩ := atI_mem (xs := vs) r0 (by omega)
  refine ⟨v, _, ?_, d1, mv, by rw [List.length_set, List.length_append, List.length_singleton]⟩
  have hsz : vs.length ≤ sizeLine := by rw [sizeLine_eq]; omega
  have g1 : ((h1 ++ [Ob.lst vs]).set b (box s'))[h1.length]? = some (.lst vs) := by
    rw [List.getElem?_set_ne (by omega), List.getElem?_append_right (Nat.le_refl _), Nat.sub_self]; rfl
  simp only [xBin, xLst, eA, Res.bind_ok, hsz, if_true, xCall, xCons, xVar, he, xC, xNil, List.length_cons, List.length_nil, Nat.zero_add, Nat.reduceAdd, e1, oIx, g1, ev, Option.map_some, Res.of_some]
def signs : Str := " !\"#$&()*+,-./0123456789:;<=>?@ABCDEFGHIJKLMNOPQRSTUVWXYZ[\\]^_`abcdefghijklmnopqrstuvwxyz{|}~"
theorem signs_eq {h : Hh} : f__law_signs [] h = .ok (.str signs) h := by
  have e : (Str.ofString " !\"#$&()*+,-./0123456789:;<=>?@ABCDEFGHIJKLMNOPQRSTUVWXYZ[\\]^_`" ++ Str.ofString "abcdefghijklmnopqrstuvwxyz{|}~" : Str) = signs := by decide +kernel
  have l : (Str.ofString " !\"#$&()*+,-./0123456789:;<=>?@ABCDEFGHIJKLMNOPQRSTUVWXYZ[\\]^_`").length + (Str.ofString "abcdefghijklmnopqrstuvwxyz{|}~").length ≤ sizeLine := by decide +kernel
  simp [f__law_signs, callF, x__law_signs, sSeq, sSet, xC, sRet, xBin, xVar, oAdd, gc_self, e, l]
end K

set_option Elab.async false
set_option linter.all false
set_option maxRecDepth 100000
set_option maxHeartbeats 4000000
namespace K
open PySem L2 EX
def sgn (c : Nat) : Val := .str ⟨#[c]⟩
theorem txts_sgn : ∀ cs : List Nat, txts (cs.map sgn) = some (cs.map fun c => (⟨#[c]⟩ : Str))
  | [] => rfl
  | c :: cs => by
    show (txts (cs.map sgn)).map _ = _
    rw [txts_sgn cs]
    rfl
theorem sgn_of {P : Nat → Prop} : ∀ ys : List Val, (∀ y ∈ ys, ∃ c, y = sgn c ∧ P c) → ∃ cs : List Nat, ys = cs.map sgn ∧ ∀ c ∈ cs, P c
  | [], _ => ⟨[], rfl, fun _ m => nomatch m⟩
  | y :: ys, h => by
    obtain ⟨c, e, p⟩ := h y (.head _)
    obtain ⟨cs, e2, p2⟩ := sgn_of ys fun z m => h z (.tail _ m)
    exact ⟨c :: cs, by rw [e, e2]; rfl, fun z m => (List.mem_cons.mp m).elim (fun q => by rw [q]; exact p) (p2 z)⟩
theorem glue_fold : ∀ (cs : List Nat) (acc : Array Nat), (cs.map fun c => (⟨#[c]⟩ : Str)).foldl (fun acc p => acc ++ (Str.ofString "").cps ++ p.cps) acc = acc ++ cs.toArray
  | [], acc => by simp
  | c :: cs, acc => by
    have e0 : (Str.ofString "").cps = #[] := by decide +kernel
    rw [List.map_cons, List.foldl_cons, glue_fold cs, e0]
    simp
theorem glue_sgn (cs : List Nat) : Txt.join "" (cs.map fun c => (⟨#[c]⟩ : Str)) = ⟨cs.toArray⟩ := by
  unfold Txt.join Builtin.Str.glued
  cases cs with
  | nil => rfl
  | cons c cs =>
    congr 1
    show (((cs.map fun c => (⟨#[c]⟩ : Str))).foldl _ _) = _
    rw [glue_fold cs]
    simp
theorem sgn_len (cs : List Nat) : ((cs.map fun c => (⟨#[c]⟩ : Str)).map (·.length)).sum = cs.length := by
  induction cs with
  | nil => rfl
  | cons c cs ih =>
    rw [List.map_cons, List.map_cons, List.sum_cons, ih, List.length_cons]
    show 1 + _ = _
    omega
theorem signs_len : signs.length = 93 := by decide +kernel
theorem len_signs {g : Hh} : oLen [.str signs] g = some (.int 93, g) := by
  simp [oLen, vLen, signs_len, sizeLine_eq]
theorem sign_at {r : Int} (h0 : 0 ≤ r) (h1 : r < 93) {h : Hh} : ∃ c, oIx (.str signs) (.int r) h = some (sgn c, h) ∧ c ∈ signs.cps.toList := by
  have l : signs.cps.toList.length = 93 := by decide +kernel
  obtain ⟨c, e, m⟩ := atI_mem (xs := signs.cps.toList) h0 (by rw [l]; exact h1)
  have hs : signs.length ≤ sizeLine := by decide +kernel
  refine ⟨c, ?_, m⟩
  simp [oIx, hs, e, sgn]
theorem join_sgn {g : Hh} {n : Nat} {cs : List Nat} (e : g[n]? = some (.lst (cs.map sgn))) (hl : cs.length ≤ 16777216) : oJoin (.str "") [.loc n] g = some (.str ⟨cs.toArray⟩, g) := by
  have js : ((cs.map fun c => (⟨#[c]⟩ : Str)).map (·.length)).sum + (cs.map fun c => (⟨#[c]⟩ : Str)).length * (Str.ofString "").length ≤ 16777216 := by
    rw [sgn_len, show (Str.ofString "").length = 0 from by decide +kernel, Nat.mul_zero]; omega
  unfold oJoin
  simp only [vStrs, e, txts_sgn]
  rw [if_pos js, glue_sgn]
/-- short, of plain signs -/
structure Sh (n : Nat) (s : Str) : Prop where
  len : s.length ≤ n
  asc : ∀ c ∈ s.cps.toList, c < 128
theorem signs_asc : ∀ c ∈ signs.cps.toList, c < 128 := by decide +kernel
theorem sgn_und {n : Nat} {ys : List Val} {P : Nat → Prop} (h : ∀ y ∈ ys, ∃ c, y = sgn c ∧ P c) : (Ob.lst ys).und n = true := undL_of fun y m => by obtain ⟨c, e, _⟩ := h y m; rw [e]; rfl
/-- a text that is drawn -/
theorem text_sp : SpD 63 f__law_text [] (fun v => ∃ s, v = .str s ∧ Sh 60 s ∧ ∀ c ∈ s.cps.toList, c ∈ signs.cps.toList) := fun h b s eb g c hz => by
  have hl : b < h.length := (List.getElem?_eq_some_iff.mp eb).1
  obtain ⟨v1, s1, e1, d1, r1, rfl, a1, b1⟩ := (Du.self eb g c).call (take_sp (m := 61) (by decide)) hl (by omega)
  obtain ⟨v2, s2, e2, d2, r2, rfl, a2, b2⟩ := d1.call (take_sp (m := 9) (by decide)) hl (by omega)
  obtain ⟨v, h3, e3, d3, mv, l3⟩ := pick (A := xCons (xC (.int 0)) (xCons (xC (.int 1)) (xCons (xC (.int 60)) (xCons (xCall 2 f__law_take (xCons (xVar 0) (xCons (xC (.int 61)) (xNil)))) (xCons (xCall 2 f__law_take (xCons (xVar 0) (xCons (xC (.int 9)) (xNil)))) (xNil))))))
    (e := [some (.loc b), some (.str signs), none, none]) (h0 := h) (m := 5) (by simp only [callF, sSeq, sSet, sRet, sRetN, sIf, sExpr, sNil, sPar, xCall, xNil, xCons, xC, xVar, xBin, xUn, xTest, xTru, xAndT, xOrT, xNotT, xAndV, xOrV, xNotV, xIf, xChain, xTup, xLst, xCallN, xMeth, Res.bind_ok, Res.bind_exc, Res.of_some, List.map_cons, List.map_nil, List.length_cons, List.length_nil, List.replicate_succ, List.replicate_zero, Nat.reduceSub, Nat.reduceAdd, Nat.reduceMul, Nat.reduceLeDiff, Nat.reduceEqDiff, Nat.zero_add, Nat.sub_self, List.cons_append, List.nil_append, List.getElem?_cons_zero, List.getElem?_cons_succ, List.set_cons_zero, List.set_cons_succ, if_true, if_false, reduceIte, reduceCtorEq, Bool.not_true, Bool.not_false, Bool.false_eq_true, decide_true, decide_false, Option.map_some, e1, e2]; rfl) rfl d2 hl (by omega) rfl (by decide) (by decide) rfl
  have hm : ∃ m : Int, v = .int m ∧ 0 ≤ m ∧ m ≤ 60 := by
    simp only [List.mem_cons, List.not_mem_nil, or_false] at mv
    rcases mv with rfl | rfl | rfl | rfl | rfl <;> exact ⟨_, rfl, by omega, by omega⟩
  obtain ⟨m, rfl, m0, m1⟩ := hm
  obtain ⟨ys, h4, e4, l4, ⟨d4, _⟩, ly, vy⟩ := comp_range (a := xVar 2) (t := .name 3) (vs := [3]) (h := h3) (m := m) (h1 := h3)
    (x := xBin oIx (xVar 1) (xCall 2 f__law_take (xCons (xVar 0) (xCons (xCallN oLen (xCons (xVar 1) xNil)) xNil))))
    (e := [some (.loc b), some (.str signs), some (.int m), none])
    (P := fun k g => Du h b (s.z + 63 - k) g ∧ (k : Int) ≤ 60) (V := fun y => ∃ c, y = sgn c ∧ c ∈ signs.cps.toList) rfl (by omega)
    (fun k g acc v ⟨p, pk⟩ hg ha => by
      obtain ⟨_, s', er, dr, r, rfl, ra, rb⟩ := p.call_app (take_sp (m := 93) (by decide)) hl (by omega) (o := .lst acc) (sgn_und ha)
      obtain ⟨c, ec, mc⟩ := sign_at (h := g.set b (box s') ++ [.lst acc]) ra rb
      refine ⟨_, rfl, sgn c, _, ?_, by rw [set_len, hg], ⟨dr.mono (by omega), by omega⟩, c, rfl, mc⟩
      simp only [wipeE, callF, sSeq, sSet, sRet, sRetN, sIf, sExpr, sNil, sPar, xCall, xNil, xCons, xC, xVar, xBin, xUn, xTest, xTru, xAndT, xOrT, xNotT, xAndV, xOrV, xNotV, xIf, xChain, xTup, xLst, xCallN, xMeth, Res.bind_ok, Res.bind_exc, Res.of_some, List.map_cons, List.map_nil, List.length_cons, List.length_nil, List.replicate_succ, List.replicate_zero, Nat.reduceSub, Nat.reduceAdd, Nat.reduceMul, Nat.reduceLeDiff, Nat.reduceEqDiff, Nat.zero_add, Nat.sub_self, List.cons_append, List.nil_append, List.getElem?_cons_zero, List.getElem?_cons_succ, List.set_cons_zero, List.set_cons_succ, if_true, if_false, reduceIte, reduceCtorEq, Bool.not_true, Bool.not_false, Bool.false_eq_true, decide_true, decide_false, Option.map_some, len_signs, er, ec])
    ⟨d3.mono (by omega), by omega⟩
  obtain ⟨cs, rfl, hcs⟩ := sgn_of ys vy
  have hcl : cs.length ≤ 60 := by simp at ly; omega
  have d5 : Du h b (s.z + 63) (h4 ++ [Ob.lst (cs.map sgn)]) := (d4.mono (by omega)).new (sgn_und vy)
  obtain ⟨s5, g5, gd5, z5⟩ := d5.done (v := .str ⟨cs.toArray⟩) c rfl
  refine ⟨_, s5, ?_, gd5, z5, ⟨cs.toArray⟩, rfl, ⟨by show cs.toArray.size ≤ 60; simpa using hcl, fun c m => signs_asc c (hcs c (by simpa using m))⟩, by simpa using hcs⟩
  have jn := join_sgn (g := h4 ++ [Ob.lst (cs.map sgn)]) (n := h3.length) (cs := cs) (get_new l4) (by omega)
  simp only [f__law_text, x__law_text, callF, sSeq, sSet, sRet, sRetN, sIf, sExpr, sNil, sPar, Res.bind_ok, Res.bind_exc, Res.of_some, List.map_cons, List.map_nil, List.length_cons, List.length_nil, List.replicate_succ, List.replicate_zero, Nat.reduceSub, Nat.reduceAdd, Nat.reduceMul, Nat.reduceLeDiff, Nat.reduceEqDiff, Nat.zero_add, Nat.sub_self, List.cons_append, List.nil_append, List.getElem?_cons_zero, List.getElem?_cons_succ, List.set_cons_zero, List.set_cons_succ, if_true, if_false, reduceIte, reduceCtorEq, Bool.not_true, Bool.not_false, Bool.false_eq_true, decide_true, decide_false, Option.map_some, xCall, xNil, signs_eq, e3]
  simp only [callF, sSeq, sSet, sRet, sRetN, sIf, sExpr, sNil, sPar, xCall, xNil, xCons, xC, xVar, xBin, xUn, xTest, xTru, xAndT, xOrT, xNotT, xAndV, xOrV, xNotV, xIf, xChain, xTup, xLst, xCallN, xMeth, Res.bind_ok, Res.bind_exc, Res.of_some, List.map_cons, List.map_nil, List.length_cons, List.length_nil, List.replicate_succ, List.replicate_zero, Nat.reduceSub, Nat.reduceAdd, Nat.reduceMul, Nat.reduceLeDiff, Nat.reduceEqDiff, Nat.zero_add, Nat.sub_self, List.cons_append, List.nil_append, List.getElem?_cons_zero, List.getElem?_cons_succ, List.set_cons_zero, List.set_cons_succ, if_true, if_false, reduceIte, reduceCtorEq, Bool.not_true, Bool.not_false, Bool.false_eq_true, decide_true, decide_false, Option.map_some, isTy, e4, jn, g5]
end K

set_option Elab.async false
set_option linter.all false
set_option maxRecDepth 100000
set_option maxHeartbeats 4000000
namespace K
open PySem L2 EX
/-! ### things as trees -/
mutual
def Is (h : Hh) : PyData → Val → Prop
  | .none, v => v = .non
  | .bool b, v => v = .bl b
  | .int i, v => v = .int i
  | .str s, v => v = .str s
  | .tuple ds, v => ∃ xs, v = .tup xs ∧ IsL h ds xs
  | .list ds, v => ∃ n xs, v = .loc n ∧ h[n]? = some (.lst xs) ∧ IsL h ds xs
  | .dict kvs, v => ∃ n xs, v = .loc n ∧ h[n]? = some (.dct xs) ∧ IsK h kvs xs
def IsL (h : Hh) : List PyData → List Val → Prop
  | [], xs => xs = []
  | d :: ds, xs => ∃ x r, xs = x :: r ∧ Is h d x ∧ IsL h ds r
def IsK (h : Hh) : List (PyData × PyData) → List (Key × Val) → Prop
  | [], xs => xs = []
  | (k, d) :: r, xs => ∃ key x q, xs = (key, x) :: q ∧ k = keyD key ∧ Is h d x ∧ IsK h r q
end
mutual
theorem Is.mono {h h' : Hh} (hm : ∀ (n : Nat) (o : Ob), h[n]? = some o → h'[n]? = some o) : ∀ {d : PyData} {v : Val}, Is h d v → Is h' d v
  | .none, _, e => e
  | .bool _, _, e => e
  | .int _, _, e => e
  | .str _, _, e => e
  | .tuple _, _, ⟨xs, e, r⟩ => ⟨xs, e, IsL.mono hm r⟩
  | .list _, _, ⟨n, xs, e, g, r⟩ => ⟨n, xs, e, hm _ _ g, IsL.mono hm r⟩
  | .dict _, _, ⟨n, xs, e, g, r⟩ => ⟨n, xs, e, hm _ _ g, IsK.mono hm r⟩
theorem IsL.mono {h h' : Hh} (hm : ∀ (n : Nat) (o : Ob), h[n]? = some o → h'[n]? = some o) : ∀ {ds : List PyData} {xs : List Val}, IsL h ds xs → IsL h' ds xs
  | [], _, e => e
  | _ :: _, _, ⟨x, r, e, a, b⟩ => ⟨x, r, e, Is.mono hm a, IsL.mono hm b⟩
theorem IsK.mono {h h' : Hh} (hm : ∀ (n : Nat) (o : Ob), h[n]? = some o → h'[n]? = some o) : ∀ {ds : List (PyData × PyData)} {xs : List (Key × Val)}, IsK h ds xs → IsK h' ds xs
  | [], _, e => e
  | (_, _) :: _, _, ⟨k, x, r, e, ek, a, b⟩ => ⟨k, x, r, e, ek, Is.mono hm a, IsK.mono hm b⟩
end
theorem Is.app {h l : Hh} {d : PyData} {v : Val} (i : Is h d v) : Is (h ++ l) d v := i.mono fun n o e => by rw [List.getElem?_append_left (List.getElem?_eq_some_iff.mp e).1]; exact e
mutual
theorem Is.dat {h : Hh} : ∀ {d : PyData} {v : Val} {n : Nat}, Is h d v → d.depth < n → EX.dat h n v = some d
  | _, _, 0, _, l => by omega
  | .none, _, n + 1, e, _ => by cases (show _ = _ from e); rfl
  | .bool _, _, n + 1, e, _ => by cases (show _ = _ from e); rfl
  | .int _, _, n + 1, e, _ => by cases (show _ = _ from e); rfl
  | .str _, _, n + 1, e, _ => by cases (show _ = _ from e); rfl
  | .tuple ds, _, n + 1, ⟨xs, e, r⟩, l => by
    subst e
    show (datL (EX.dat h n) xs).map _ = _
    rw [IsL.dat r (by simp only [PyData.depth] at l; omega)]
    rfl
  | .list ds, _, n + 1, ⟨m, xs, e, g, r⟩, l => by
    subst e
    simp only [EX.dat, g]
    rw [IsL.dat r (by simp only [PyData.depth] at l; omega)]
    rfl
  | .dict kvs, _, n + 1, ⟨m, xs, e, g, r⟩, l => by
    subst e
    simp only [EX.dat, g]
    obtain ⟨e1, e2⟩ := IsK.dat r (n := n) (by simp only [PyData.depth] at l; omega)
    rw [e1, Option.map_some, e2]
    congr 2
    clear e1 e2 r l g
    induction kvs with
    | nil => rfl
    | cons p q ih => rw [List.map_cons, List.map_cons, List.zip_cons_cons, ih]
theorem IsL.dat {h : Hh} : ∀ {ds : List PyData} {xs : List Val} {n : Nat}, IsL h ds xs → PyData.depthAll ds < n → datL (EX.dat h n) xs = some ds
  | [], _, n, e, _ => by cases (show _ = _ from e); rfl
  | d :: ds, _, n, ⟨x, r, e, a, b⟩, l => by
    subst e
    unfold datL
    rw [Is.dat a (by simp only [PyData.depthAll] at l; omega), IsL.dat b (by simp only [PyData.depthAll] at l; omega)]
theorem IsK.dat {h : Hh} : ∀ {kvs : List (PyData × PyData)} {xs : List (Key × Val)} {n : Nat}, IsK h kvs xs → PyData.depthKv kvs < n → datL (EX.dat h n) (xs.map (·.2)) = some (kvs.map (·.2)) ∧ (xs.map fun p => keyD p.1) = kvs.map (·.1)
  | [], _, n, e, _ => by cases (show _ = _ from e); exact ⟨rfl, rfl⟩
  | (k, d) :: r, _, n, ⟨key, x, q, e, ek, a, b⟩, l => by
    subst e ek
    simp only [PyData.depthKv] at l
    obtain ⟨e1, e2⟩ := IsK.dat b (n := n) (by omega)
    constructor
    · rw [List.map_cons]
      unfold datL
      rw [Is.dat a (by omega), e1]
      rfl
    · rw [List.map_cons, List.map_cons, e2]
end
/-! ### isinstance -/
def tyD : PyData → String
  | .none => "NoneType"
  | .bool _ => "bool"
  | .int _ => "int"
  | .str _ => "str"
  | .tuple _ => "tuple"
  | .list _ => "list"
  | .dict _ => "dict"
theorem Is.ty {h : Hh} {d : PyData} {v : Val} (i : Is h d v) : tyName v h = some (tyD d) := by
  cases d with
  | none => cases (show _ = _ from i); rfl
  | bool b => cases (show _ = _ from i); rfl
  | int b => cases (show _ = _ from i); rfl
  | str b => cases (show _ = _ from i); rfl
  | tuple ds => obtain ⟨xs, e, _⟩ := i; subst e; rfl
  | list ds => obtain ⟨n, xs, e, g, _⟩ := i; subst e; show (match h[n]? with | some (.lst _) => some "list" | some (.dct _) => some "dict" | _ => none) = _; rw [g]; rfl
  | dict ds => obtain ⟨n, xs, e, g, _⟩ := i; subst e; show (match h[n]? with | some (.lst _) => some "list" | some (.dct _) => some "dict" | _ => none) = _; rw [g]; rfl
def isA (d : PyData) (T : String) : Bool := decide (tyD d = T) || (decide (tyD d = "bool") && decide (T = "int"))
theorem kit_tab : ∀ a ∈ ["NoneType", "bool", "int", "str", "tuple", "list", "dict"], ∀ T ∈ ["int", "bool", "str", "tuple", "list", "dict"], kitB a T = some (decide (a = T) || (decide (a = "bool") && decide (T = "int"))) := by decide +kernel
theorem tyD_mem (d : PyData) : tyD d ∈ ["NoneType", "bool", "int", "str", "tuple", "list", "dict"] := by cases d <;> simp [tyD]
theorem Is.isi {h : Hh} {d : PyData} {v : Val} (i : Is h d v) (T : String) (hT : T ∈ ["int", "bool", "str", "tuple", "list", "dict"] := by decide) : oIsi [v, .ty T] h = some (.bl (isA d T), h) := by
  unfold oIsi
  simp only [i.ty]
  rw [kit_tab _ (tyD_mem d) T hT]
  rfl
/-! ### comprehensions that change nothing -/
theorem comp_pure_go {xs : List Val} {t : Tg} {tt : XT} {x : XE} {n : Nat} {e : En} {h1 : Hh} {F : Val → Val} {T : Val → Bool} (hn : h1.length = n)
    (step : ∀ v ∈ xs, ∃ e1, t.put v e = some e1 ∧ ∀ acc : List Val, (∀ y ∈ acc, ∃ u ∈ xs, y = F u) → tt e1 (h1 ++ [.lst acc]) = .ok (T v) (h1 ++ [.lst acc]) ∧ (T v = true → x e1 (h1 ++ [.lst acc]) = .ok (F v) (h1 ++ [.lst acc]))) :
    ∀ (items acc : List Val), (∀ v ∈ items, v ∈ xs) → (∀ y ∈ acc, ∃ u ∈ xs, y = F u) → acc.length + items.length ≤ sizeLine →
      compLoop (.items xs) t tt x n e items (h1 ++ [.lst acc]) = .ok () (h1 ++ [.lst (acc ++ (items.filter T).map F)])
  | [], acc, _, _, _ => by simp [compLoop, Itn.okAt]
  | v :: vs, acc, hin, ha, hs => by
    rw [List.length_cons] at hs
    obtain ⟨e1, et, st⟩ := step v (hin v (.head _))
    obtain ⟨s1, s2⟩ := st acc ha
    have g : (h1 ++ [Ob.lst acc])[n]? = some (.lst acc) := get_new hn
    unfold compLoop
    simp only [Itn.okAt, if_true, et, s1, Res.bindS_ok]
    cases ht : T v with
    | false =>
      rw [List.filter_cons, ht]
      simp only [Bool.false_eq_true, if_false]
      exact comp_pure_go hn step vs acc (fun z m => hin z (.tail _ m)) ha (by omega)
    | true =>
      have hlt : acc.length < sizeLine := by omega
      have st2 : (h1 ++ [Ob.lst acc]).set n (.lst (acc ++ [F v])) = h1 ++ [.lst (acc ++ [F v])] := by
        rw [List.set_append_right _ _ (by omega), hn, Nat.sub_self]; rfl
      simp only [if_true, s2 ht, Res.bindS_ok, g, hlt, st2]
      rw [comp_pure_go hn step vs (acc ++ [F v]) (fun z m => hin z (.tail _ m)) (fun y m => (List.mem_append.mp m).elim (ha y) fun q => ⟨v, hin v (.head _), List.mem_singleton.mp q⟩) (by rw [List.length_append, List.length_singleton]; omega)]
      rw [List.filter_cons, ht, if_pos rfl, List.map_cons, List.append_assoc]
      rfl
theorem comp_pure {xi : XI} {t : Tg} {tt : XT} {x : XE} {vs : List Nat} {e : En} {h h1 : Hh} {xs : List Val} (F : Val → Val) (T : Val → Bool) (ei : xi e h = .ok (.items xs) h1) (hs : xs.length ≤ sizeLine)
    (step : ∀ v ∈ xs, ∃ e1, t.put v (wipeE e vs) = some e1 ∧ ∀ acc : List Val, (∀ y ∈ acc, ∃ u ∈ xs, y = F u) → tt e1 (h1 ++ [.lst acc]) = .ok (T v) (h1 ++ [.lst acc]) ∧ (T v = true → x e1 (h1 ++ [.lst acc]) = .ok (F v) (h1 ++ [.lst acc]))) :
    xComp xi t tt x vs e h = .ok (.loc h1.length) (h1 ++ [.lst ((xs.filter T).map F)]) := by
  unfold xComp
  rw [ei]
  simp only [Res.bind_ok, Itn.xs]
  rw [comp_pure_go rfl step xs [] (fun _ q => q) (fun _ q => nomatch q) (by simpa using hs)]
  rfl
/-! ### numbers, names, texts -/
def numD (d : PyData) (lo hi : Int) : Bool := match d with
  | .int i => decide (lo ≤ i) && decide (i ≤ hi)
  | _ => false
theorem whole_eq {h : Hh} {d : PyData} {v : Val} (i : Is h d v) (lo hi : Int) : f_is_whole [v, .int lo, .int hi] h = .ok (.bl (numD d lo hi)) h := by
  have i1 := i.isi "int"
  have i2 := i.isi "bool"
  simp only [f_is_whole, x_is_whole, callF, sSeq, sSet, sRet, sRetN, sIf, sExpr, sNil, sPar, xCall, xNil, xCons, xC, xVar, xBin, xUn, xTest, xTru, xAndT, xOrT, xNotT, xAndV, xOrV, xNotV, xIf, xChain, xTup, xLst, xCallN, xMeth, Res.bind_ok, Res.bind_exc, Res.of_some, List.map_cons, List.map_nil, List.length_cons, List.length_nil, List.replicate_succ, List.replicate_zero, Nat.reduceSub, Nat.reduceAdd, Nat.reduceMul, Nat.reduceLeDiff, Nat.reduceEqDiff, Nat.zero_add, Nat.sub_self, List.cons_append, List.nil_append, List.getElem?_cons_zero, List.getElem?_cons_succ, List.set_cons_zero, List.set_cons_succ, if_true, if_false, reduceIte, reduceCtorEq, Bool.not_true, Bool.not_false, Bool.false_eq_true, decide_true, decide_false, Option.map_some, i1, i2]
  cases d with
  | int k =>
    cases (show _ = _ from i)
    have a1 : isA (.int k) "int" = true := rfl
    have a2 : isA (.int k) "bool" = false := rfl
    simp only [a1, a2, callF, sSeq, sSet, sRet, sRetN, sIf, sExpr, sNil, sPar, xCall, xNil, xCons, xC, xVar, xBin, xUn, xTest, xTru, xAndT, xOrT, xNotT, xAndV, xOrV, xNotV, xIf, xChain, xTup, xLst, xCallN, xMeth, Res.bind_ok, Res.bind_exc, Res.of_some, List.map_cons, List.map_nil, List.length_cons, List.length_nil, List.replicate_succ, List.replicate_zero, Nat.reduceSub, Nat.reduceAdd, Nat.reduceMul, Nat.reduceLeDiff, Nat.reduceEqDiff, Nat.zero_add, Nat.sub_self, List.cons_append, List.nil_append, List.getElem?_cons_zero, List.getElem?_cons_succ, List.set_cons_zero, List.set_cons_succ, if_true, if_false, reduceIte, reduceCtorEq, Bool.not_true, Bool.not_false, Bool.false_eq_true, decide_true, decide_false, Option.map_some, oLe, numD]
    cases decide (lo ≤ k) <;> simp only [callF, sSeq, sSet, sRet, sRetN, sIf, sExpr, sNil, sPar, xCall, xNil, xCons, xC, xVar, xBin, xUn, xTest, xTru, xAndT, xOrT, xNotT, xAndV, xOrV, xNotV, xIf, xChain, xTup, xLst, xCallN, xMeth, Res.bind_ok, Res.bind_exc, Res.of_some, List.map_cons, List.map_nil, List.length_cons, List.length_nil, List.replicate_succ, List.replicate_zero, Nat.reduceSub, Nat.reduceAdd, Nat.reduceMul, Nat.reduceLeDiff, Nat.reduceEqDiff, Nat.zero_add, Nat.sub_self, List.cons_append, List.nil_append, List.getElem?_cons_zero, List.getElem?_cons_succ, List.set_cons_zero, List.set_cons_succ, if_true, if_false, reduceIte, reduceCtorEq, Bool.not_true, Bool.not_false, Bool.false_eq_true, decide_true, decide_false, Option.map_some, gc_self, Bool.true_and, Bool.false_and]
  | bool k =>
    have a1 : isA (.bool k) "int" = true := rfl
    have a2 : isA (.bool k) "bool" = true := rfl
    simp only [a1, a2, callF, sSeq, sSet, sRet, sRetN, sIf, sExpr, sNil, sPar, xCall, xNil, xCons, xC, xVar, xBin, xUn, xTest, xTru, xAndT, xOrT, xNotT, xAndV, xOrV, xNotV, xIf, xChain, xTup, xLst, xCallN, xMeth, Res.bind_ok, Res.bind_exc, Res.of_some, List.map_cons, List.map_nil, List.length_cons, List.length_nil, List.replicate_succ, List.replicate_zero, Nat.reduceSub, Nat.reduceAdd, Nat.reduceMul, Nat.reduceLeDiff, Nat.reduceEqDiff, Nat.zero_add, Nat.sub_self, List.cons_append, List.nil_append, List.getElem?_cons_zero, List.getElem?_cons_succ, List.set_cons_zero, List.set_cons_succ, if_true, if_false, reduceIte, reduceCtorEq, Bool.not_true, Bool.not_false, Bool.false_eq_true, decide_true, decide_false, Option.map_some, numD, gc_self]
  | _ => simp only [isA, tyD, numD, String.reduceEq, callF, sSeq, sSet, sRet, sRetN, sIf, sExpr, sNil, sPar, xCall, xNil, xCons, xC, xVar, xBin, xUn, xTest, xTru, xAndT, xOrT, xNotT, xAndV, xOrV, xNotV, xIf, xChain, xTup, xLst, xCallN, xMeth, Res.bind_ok, Res.bind_exc, Res.of_some, List.map_cons, List.map_nil, List.length_cons, List.length_nil, List.replicate_succ, List.replicate_zero, Nat.reduceSub, Nat.reduceAdd, Nat.reduceMul, Nat.reduceLeDiff, Nat.reduceEqDiff, Nat.zero_add, Nat.sub_self, List.cons_append, List.nil_append, List.getElem?_cons_zero, List.getElem?_cons_succ, List.set_cons_zero, List.set_cons_succ, if_true, if_false, reduceIte, reduceCtorEq, Bool.not_true, Bool.not_false, Bool.false_eq_true, decide_true, decide_false, Option.map_some, Bool.or_false, Bool.false_or, Bool.false_and, Bool.and_false, Bool.and_true, gc_self]
theorem number_eq {h : Hh} {d : PyData} {v : Val} (i : Is h d v) (lo hi : Int) : f__law_is_number [v, .int lo, .int hi] h = .ok (.bl (numD d lo hi)) h := by
  have i1 := i.isi "int"
  have i2 := i.isi "bool"
  simp only [f__law_is_number, x__law_is_number, callF, sSeq, sSet, sRet, sRetN, sIf, sExpr, sNil, sPar, xCall, xNil, xCons, xC, xVar, xBin, xUn, xTest, xTru, xAndT, xOrT, xNotT, xAndV, xOrV, xNotV, xIf, xChain, xTup, xLst, xCallN, xMeth, Res.bind_ok, Res.bind_exc, Res.of_some, List.map_cons, List.map_nil, List.length_cons, List.length_nil, List.replicate_succ, List.replicate_zero, Nat.reduceSub, Nat.reduceAdd, Nat.reduceMul, Nat.reduceLeDiff, Nat.reduceEqDiff, Nat.zero_add, Nat.sub_self, List.cons_append, List.nil_append, List.getElem?_cons_zero, List.getElem?_cons_succ, List.set_cons_zero, List.set_cons_succ, if_true, if_false, reduceIte, reduceCtorEq, Bool.not_true, Bool.not_false, Bool.false_eq_true, decide_true, decide_false, Option.map_some, i1, i2]
  cases d with
  | int k =>
    cases (show _ = _ from i)
    have a1 : isA (.int k) "int" = true := rfl
    have a2 : isA (.int k) "bool" = false := rfl
    simp only [a1, a2, callF, sSeq, sSet, sRet, sRetN, sIf, sExpr, sNil, sPar, xCall, xNil, xCons, xC, xVar, xBin, xUn, xTest, xTru, xAndT, xOrT, xNotT, xAndV, xOrV, xNotV, xIf, xChain, xTup, xLst, xCallN, xMeth, Res.bind_ok, Res.bind_exc, Res.of_some, List.map_cons, List.map_nil, List.length_cons, List.length_nil, List.replicate_succ, List.replicate_zero, Nat.reduceSub, Nat.reduceAdd, Nat.reduceMul, Nat.reduceLeDiff, Nat.reduceEqDiff, Nat.zero_add, Nat.sub_self, List.cons_append, List.nil_append, List.getElem?_cons_zero, List.getElem?_cons_succ, List.set_cons_zero, List.set_cons_succ, if_true, if_false, reduceIte, reduceCtorEq, Bool.not_true, Bool.not_false, Bool.false_eq_true, decide_true, decide_false, Option.map_some, oLe, numD]
    cases decide (lo ≤ k) <;> simp only [callF, sSeq, sSet, sRet, sRetN, sIf, sExpr, sNil, sPar, xCall, xNil, xCons, xC, xVar, xBin, xUn, xTest, xTru, xAndT, xOrT, xNotT, xAndV, xOrV, xNotV, xIf, xChain, xTup, xLst, xCallN, xMeth, Res.bind_ok, Res.bind_exc, Res.of_some, List.map_cons, List.map_nil, List.length_cons, List.length_nil, List.replicate_succ, List.replicate_zero, Nat.reduceSub, Nat.reduceAdd, Nat.reduceMul, Nat.reduceLeDiff, Nat.reduceEqDiff, Nat.zero_add, Nat.sub_self, List.cons_append, List.nil_append, List.getElem?_cons_zero, List.getElem?_cons_succ, List.set_cons_zero, List.set_cons_succ, if_true, if_false, reduceIte, reduceCtorEq, Bool.not_true, Bool.not_false, Bool.false_eq_true, decide_true, decide_false, Option.map_some, gc_self, Bool.true_and, Bool.false_and]
  | bool k =>
    have a1 : isA (.bool k) "int" = true := rfl
    have a2 : isA (.bool k) "bool" = true := rfl
    simp only [a1, a2, callF, sSeq, sSet, sRet, sRetN, sIf, sExpr, sNil, sPar, xCall, xNil, xCons, xC, xVar, xBin, xUn, xTest, xTru, xAndT, xOrT, xNotT, xAndV, xOrV, xNotV, xIf, xChain, xTup, xLst, xCallN, xMeth, Res.bind_ok, Res.bind_exc, Res.of_some, List.map_cons, List.map_nil, List.length_cons, List.length_nil, List.replicate_succ, List.replicate_zero, Nat.reduceSub, Nat.reduceAdd, Nat.reduceMul, Nat.reduceLeDiff, Nat.reduceEqDiff, Nat.zero_add, Nat.sub_self, List.cons_append, List.nil_append, List.getElem?_cons_zero, List.getElem?_cons_succ, List.set_cons_zero, List.set_cons_succ, if_true, if_false, reduceIte, reduceCtorEq, Bool.not_true, Bool.not_false, Bool.false_eq_true, decide_true, decide_false, Option.map_some, numD, gc_self]
  | _ => simp only [isA, tyD, numD, String.reduceEq, callF, sSeq, sSet, sRet, sRetN, sIf, sExpr, sNil, sPar, xCall, xNil, xCons, xC, xVar, xBin, xUn, xTest, xTru, xAndT, xOrT, xNotT, xAndV, xOrV, xNotV, xIf, xChain, xTup, xLst, xCallN, xMeth, Res.bind_ok, Res.bind_exc, Res.of_some, List.map_cons, List.map_nil, List.length_cons, List.length_nil, List.replicate_succ, List.replicate_zero, Nat.reduceSub, Nat.reduceAdd, Nat.reduceMul, Nat.reduceLeDiff, Nat.reduceEqDiff, Nat.zero_add, Nat.sub_self, List.cons_append, List.nil_append, List.getElem?_cons_zero, List.getElem?_cons_succ, List.set_cons_zero, List.set_cons_succ, if_true, if_false, reduceIte, reduceCtorEq, Bool.not_true, Bool.not_false, Bool.false_eq_true, decide_true, decide_false, Option.map_some, Bool.or_false, Bool.false_or, Bool.false_and, Bool.and_false, Bool.and_true, gc_self]
end K

set_option Elab.async false
set_option linter.all false
set_option maxRecDepth 100000
set_option maxHeartbeats 4000000
namespace K
open PySem L2 EX
theorem eq_nil {g : Hh} {n m : Nat} {ys : List Val} (e1 : g[n]? = some (.lst ys)) (e2 : g[m]? = some (.lst [])) : oEq (.loc n) (.loc m) g = some (.bl ys.isEmpty, g) := by
  unfold oEq vEqL unlike lensOf
  simp only [e1, e2, List.length_nil]
  cases ys with
  | nil =>
    have d1 : EX.dat g 40 (.loc n) = some (.list []) := by simp only [EX.dat, e1, datL, Option.map_some]
    have d2 : EX.dat g 40 (.loc m) = some (.list []) := by simp only [EX.dat, e2, datL, Option.map_some]
    simp only [List.length_nil, bne_self_eq_false, Bool.false_eq_true, if_false, vEq, scEq, d1, d2]
    rfl
  | cons y ys =>
    have : (((y :: ys).length != 0) = true) := by simp
    simp only [this, if_true, Option.map_some, List.isEmpty_cons]
theorem in_sgn {c : Nat} {z : Str} {g : Hh} : oIn (sgn c) (.str z) g = some (.bl (decide (c ∈ z.cps.toList)), g) := by
  unfold oIn vIn sgn
  simp only [List.size_toArray, List.length_cons, List.length_nil, Nat.zero_add, if_true, Option.map_some]
  rfl
theorem notIn_sgn {c : Nat} {z : Str} {g : Hh} : oNotIn (sgn c) (.str z) g = some (.bl (!decide (c ∈ z.cps.toList)), g) := by
  unfold oNotIn vIn sgn
  simp only [List.size_toArray, List.length_cons, List.length_nil, Nat.zero_add, if_true, Option.map_some]
  rfl
def chr : Val → Nat
  | .str s => s.cps.getD 0 0
  | _ => 0
theorem chr_sgn (c : Nat) : chr (sgn c) = c := rfl
theorem iter_str {s : Str} {h : Hh} : itOf (.str s) h = some (.items (s.cps.toList.map sgn)) := rfl
theorem bools_map {α : Type} (p : α → Bool) : ∀ xs : List α, bools (xs.map fun x => Val.bl (p x)) = some (xs.map p)
  | [] => rfl
  | x :: xs => by
    show (bools (xs.map fun x => Val.bl (p x))).map _ = _
    rw [bools_map p xs]
    rfl
theorem all_bl {g : Hh} {n : Nat} {α : Type} {p : α → Bool} {xs : List α} (e : g[n]? = some (.lst (xs.map fun x => Val.bl (p x)))) : oAll [.loc n] g = some (.bl (xs.all p), g) := by
  unfold oAll
  simp only [e, bools_map, Option.map_some]
  rw [List.all_map]
  rfl
theorem len_str {s : Str} {g : Hh} (h : s.length ≤ sizeLine) : oLen [.str s] g = some (.int s.length, g) := by
  unfold oLen vLen
  simp only [h, if_true]
  rfl
theorem mem_sgn {s : Str} {v : Val} (m : v ∈ s.cps.toList.map sgn) : ∃ c, v = sgn c ∧ c ∈ s.cps.toList := by
  obtain ⟨c, mc, e⟩ := List.mem_map.mp m
  exact ⟨c, e.symm, mc⟩
theorem len_sgn {s : Str} (h : s.length ≤ sizeLine) : (s.cps.toList.map sgn).length ≤ sizeLine := by
  rw [List.length_map, Array.length_toList]; exact h
theorem filter_all {α : Type} (xs : List α) : xs.filter (fun _ => true) = xs := by
  induction xs with
  | nil => rfl
  | cons x xs ih => rw [List.filter_cons, if_pos rfl, ih]
theorem empty_filter {α β : Type} (f : α → β) (q : β → Bool) (p : α → Bool) (hq : ∀ a, q (f a) = !p a) : ∀ xs : List α, ((xs.map f).filter q).isEmpty = xs.all p
  | [] => rfl
  | x :: xs => by
    rw [List.map_cons, List.filter_cons, List.all_cons, ← empty_filter f q p hq xs, hq x]
    cases p x <;> rfl
def letters : Str := "abcdefghijklmnopqrstuvwxyz"
def nameD (d : PyData) : Bool := match d with
  | .str s => decide (1 ≤ s.length) && (decide (s.length ≤ 8) && (!inX (.str s) k_NO_NAMES && s.cps.toList.all fun c => decide (c ∈ letters.cps.toList)))
  | _ => false
def strShort (d : PyData) : Prop := ∀ s, d = .str s → s.length ≤ sizeLine
theorem strNot {d : PyData} (h : ∀ s, d ≠ .str s) : isA d "str" = false := by
  cases d with
  | str s => exact absurd rfl (h s)
  | _ => simp [isA, tyD]
theorem name_eq {h : Hh} {d : PyData} {v : Val} (i : Is h d v) (c : Cl h) (hs : strShort d) : f_is_name [v] h = .ok (.bl (nameD d)) h := by
  have i1 := i.isi "str"
  by_cases hd : ∃ s, d = .str s
  · obtain ⟨s, rfl⟩ := hd
    cases (show _ = _ from i)
    have hl := hs s rfl
    have a1 : isA (.str s) "str" = true := rfl
    have fl : (k_NO_NAMES.all flatX) = true := by decide +kernel
    have inn : oIn (.str s) (.tup k_NO_NAMES) h = some (.bl (inX (.str s) k_NO_NAMES), h) := by
      unfold oIn vIn
      simp only [flatX, fl, and_self, if_true, Option.map_some]
    have cp0 := comp_pure (xi := xIter (xVar 0)) (t := .name 1) (tt := xYes) (x := xBin oIn (xVar 1) (xC (.str "abcdefghijklmnopqrstuvwxyz"))) (vs := [1]) (e := [some (.str s), none]) (h := h) (h1 := h) (xs := s.cps.toList.map sgn)
      (fun v => .bl (decide (chr v ∈ letters.cps.toList))) (fun _ => true) rfl (len_sgn hl) (fun v m => by
        obtain ⟨c, rfl, mc⟩ := mem_sgn m
        refine ⟨_, rfl, fun acc _ => ⟨rfl, fun _ => ?_⟩⟩
        simp only [wipeE, callF, sSeq, sSet, sRet, sRetN, sIf, sExpr, sNil, sPar, xCall, xNil, xCons, xC, xVar, xBin, xUn, xTest, xTru, xAndT, xOrT, xNotT, xAndV, xOrV, xNotV, xIf, xChain, xTup, xLst, xCallN, xMeth, Res.bind_ok, Res.bind_exc, Res.of_some, List.map_cons, List.map_nil, List.length_cons, List.length_nil, List.replicate_succ, List.replicate_zero, Nat.reduceSub, Nat.reduceAdd, Nat.reduceMul, Nat.reduceLeDiff, Nat.reduceEqDiff, Nat.zero_add, Nat.sub_self, List.cons_append, List.nil_append, List.getElem?_cons_zero, List.getElem?_cons_succ, List.set_cons_zero, List.set_cons_succ, if_true, if_false, reduceIte, reduceCtorEq, Bool.not_true, Bool.not_false, Bool.false_eq_true, decide_true, decide_false, Option.map_some, in_sgn]
        rfl)
    rw [filter_all, List.map_map] at cp0
    have cp : xComp (xIter (xVar 0)) (.name 1) xYes (xBin oIn (xVar 1) (xC (.str "abcdefghijklmnopqrstuvwxyz"))) [1] [some (.str s), none] h = .ok (.loc h.length) (h ++ [Ob.lst (s.cps.toList.map fun c => Val.bl (decide (c ∈ letters.cps.toList)))]) := cp0
    have al := all_bl (g := h ++ [Ob.lst (s.cps.toList.map fun c => Val.bl (decide (c ∈ letters.cps.toList)))]) (n := h.length) (get_new rfl)
    have gE : ∀ b : Bool, gc h.length (.bl b) (h ++ [Ob.lst (s.cps.toList.map fun c => Val.bl (decide (c ∈ letters.cps.toList)))]) = h := fun b => gc_app rfl rfl c
    simp only [f_is_name, x_is_name, callF, sSeq, sSet, sRet, sRetN, sIf, sExpr, sNil, sPar, xCall, xNil, xCons, xC, xVar, xBin, xUn, xTest, xTru, xAndT, xOrT, xNotT, xAndV, xOrV, xNotV, xIf, xChain, xTup, xLst, xCallN, xMeth, Res.bind_ok, Res.bind_exc, Res.of_some, List.map_cons, List.map_nil, List.length_cons, List.length_nil, List.replicate_succ, List.replicate_zero, Nat.reduceSub, Nat.reduceAdd, Nat.reduceMul, Nat.reduceLeDiff, Nat.reduceEqDiff, Nat.zero_add, Nat.sub_self, List.cons_append, List.nil_append, List.getElem?_cons_zero, List.getElem?_cons_succ, List.set_cons_zero, List.set_cons_succ, if_true, if_false, reduceIte, reduceCtorEq, Bool.not_true, Bool.not_false, Bool.false_eq_true, decide_true, decide_false, Option.map_some, i1, a1, truth, len_str hl, oLe, nameD, inn]
    have q1 : decide ((1 : Int) ≤ (s.length : Int)) = decide (1 ≤ s.length) := by congr 1; exact propext (by omega)
    have q2 : decide ((s.length : Int) ≤ 8) = decide (s.length ≤ 8) := by congr 1; exact propext (by omega)
    simp only [q1, q2]
    cases decide (1 ≤ s.length) with
    | false => simp only [callF, sSeq, sSet, sRet, sRetN, sIf, sExpr, sNil, sPar, xCall, xNil, xCons, xC, xVar, xBin, xUn, xTest, xTru, xAndT, xOrT, xNotT, xAndV, xOrV, xNotV, xIf, xChain, xTup, xLst, xCallN, xMeth, Res.bind_ok, Res.bind_exc, Res.of_some, List.map_cons, List.map_nil, List.length_cons, List.length_nil, List.replicate_succ, List.replicate_zero, Nat.reduceSub, Nat.reduceAdd, Nat.reduceMul, Nat.reduceLeDiff, Nat.reduceEqDiff, Nat.zero_add, Nat.sub_self, List.cons_append, List.nil_append, List.getElem?_cons_zero, List.getElem?_cons_succ, List.set_cons_zero, List.set_cons_succ, if_true, if_false, reduceIte, reduceCtorEq, Bool.not_true, Bool.not_false, Bool.false_eq_true, decide_true, decide_false, Option.map_some, gc_self, Bool.false_and]
    | true =>
      cases decide (s.length ≤ 8) with
      | false => simp only [callF, sSeq, sSet, sRet, sRetN, sIf, sExpr, sNil, sPar, xCall, xNil, xCons, xC, xVar, xBin, xUn, xTest, xTru, xAndT, xOrT, xNotT, xAndV, xOrV, xNotV, xIf, xChain, xTup, xLst, xCallN, xMeth, Res.bind_ok, Res.bind_exc, Res.of_some, List.map_cons, List.map_nil, List.length_cons, List.length_nil, List.replicate_succ, List.replicate_zero, Nat.reduceSub, Nat.reduceAdd, Nat.reduceMul, Nat.reduceLeDiff, Nat.reduceEqDiff, Nat.zero_add, Nat.sub_self, List.cons_append, List.nil_append, List.getElem?_cons_zero, List.getElem?_cons_succ, List.set_cons_zero, List.set_cons_succ, if_true, if_false, reduceIte, reduceCtorEq, Bool.not_true, Bool.not_false, Bool.false_eq_true, decide_true, decide_false, Option.map_some, gc_self, Bool.false_and, Bool.and_false]
      | true =>
        simp only [callF, sSeq, sSet, sRet, sRetN, sIf, sExpr, sNil, sPar, xCall, xNil, xCons, xC, xVar, xBin, xUn, xTest, xTru, xAndT, xOrT, xNotT, xAndV, xOrV, xNotV, xIf, xChain, xTup, xLst, xCallN, xMeth, Res.bind_ok, Res.bind_exc, Res.of_some, List.map_cons, List.map_nil, List.length_cons, List.length_nil, List.replicate_succ, List.replicate_zero, Nat.reduceSub, Nat.reduceAdd, Nat.reduceMul, Nat.reduceLeDiff, Nat.reduceEqDiff, Nat.zero_add, Nat.sub_self, List.cons_append, List.nil_append, List.getElem?_cons_zero, List.getElem?_cons_succ, List.set_cons_zero, List.set_cons_succ, if_true, if_false, reduceIte, reduceCtorEq, Bool.not_true, Bool.not_false, Bool.false_eq_true, decide_true, decide_false, Option.map_some, inn, Bool.true_and]
        cases inX (.str s) k_NO_NAMES with
        | true => simp only [callF, sSeq, sSet, sRet, sRetN, sIf, sExpr, sNil, sPar, xCall, xNil, xCons, xC, xVar, xBin, xUn, xTest, xTru, xAndT, xOrT, xNotT, xAndV, xOrV, xNotV, xIf, xChain, xTup, xLst, xCallN, xMeth, Res.bind_ok, Res.bind_exc, Res.of_some, List.map_cons, List.map_nil, List.length_cons, List.length_nil, List.replicate_succ, List.replicate_zero, Nat.reduceSub, Nat.reduceAdd, Nat.reduceMul, Nat.reduceLeDiff, Nat.reduceEqDiff, Nat.zero_add, Nat.sub_self, List.cons_append, List.nil_append, List.getElem?_cons_zero, List.getElem?_cons_succ, List.set_cons_zero, List.set_cons_succ, if_true, if_false, reduceIte, reduceCtorEq, Bool.not_true, Bool.not_false, Bool.false_eq_true, decide_true, decide_false, Option.map_some, gc_self, Bool.false_and]
        | false => simp only [callF, sSeq, sSet, sRet, sRetN, sIf, sExpr, sNil, sPar, xCall, xNil, xCons, xC, xVar, xBin, xUn, xTest, xTru, xAndT, xOrT, xNotT, xAndV, xOrV, xNotV, xIf, xChain, xTup, xLst, xCallN, xMeth, Res.bind_ok, Res.bind_exc, Res.of_some, List.map_cons, List.map_nil, List.length_cons, List.length_nil, List.replicate_succ, List.replicate_zero, Nat.reduceSub, Nat.reduceAdd, Nat.reduceMul, Nat.reduceLeDiff, Nat.reduceEqDiff, Nat.zero_add, Nat.sub_self, List.cons_append, List.nil_append, List.getElem?_cons_zero, List.getElem?_cons_succ, List.set_cons_zero, List.set_cons_succ, if_true, if_false, reduceIte, reduceCtorEq, Bool.not_true, Bool.not_false, Bool.false_eq_true, decide_true, decide_false, Option.map_some, cp, al, gE, Bool.true_and]
  · have a1 := strNot fun s e => hd ⟨s, e⟩
    have nd : nameD d = false := by
      cases d with
      | str s => exact absurd ⟨s, rfl⟩ hd
      | _ => rfl
    simp only [f_is_name, x_is_name, callF, sSeq, sSet, sRet, sRetN, sIf, sExpr, sNil, sPar, xCall, xNil, xCons, xC, xVar, xBin, xUn, xTest, xTru, xAndT, xOrT, xNotT, xAndV, xOrV, xNotV, xIf, xChain, xTup, xLst, xCallN, xMeth, Res.bind_ok, Res.bind_exc, Res.of_some, List.map_cons, List.map_nil, List.length_cons, List.length_nil, List.replicate_succ, List.replicate_zero, Nat.reduceSub, Nat.reduceAdd, Nat.reduceMul, Nat.reduceLeDiff, Nat.reduceEqDiff, Nat.zero_add, Nat.sub_self, List.cons_append, List.nil_append, List.getElem?_cons_zero, List.getElem?_cons_succ, List.set_cons_zero, List.set_cons_succ, if_true, if_false, reduceIte, reduceCtorEq, Bool.not_true, Bool.not_false, Bool.false_eq_true, decide_true, decide_false, Option.map_some, i1, a1, truth, gc_self, nd]
end K

set_option Elab.async false
set_option linter.all false
set_option maxRecDepth 100000
set_option maxHeartbeats 4000000
namespace K
open PySem L2 EX
theorem lname_eq {h : Hh} {d : PyData} {v : Val} (i : Is h d v) (c : Cl h) (hs : strShort d) : f__law_is_name [v] h = .ok (.bl (nameD d)) h := by
  have i1 := i.isi "str"
  by_cases hd : ∃ s, d = .str s
  · obtain ⟨s, rfl⟩ := hd
    cases (show _ = _ from i)
    have hl := hs s rfl
    have a1 : isA (.str s) "str" = true := rfl
    have fl : ([Val.str "me", Val.str "here", Val.str "none"].all flatX) = true := rfl
    have sz : (3 ≤ sizeLine) = True := by rw [sizeLine_eq]; simp
    have inn : oIn (.str s) (.loc h.length) (h ++ [Ob.lst [Val.str "me", Val.str "here", Val.str "none"]]) = some (.bl (inX (.str s) k_NO_NAMES), h ++ [Ob.lst [Val.str "me", Val.str "here", Val.str "none"]]) := by
      have gN : (h ++ [Ob.lst [Val.str "me", Val.str "here", Val.str "none"]])[h.length]? = some (Ob.lst [Val.str "me", Val.str "here", Val.str "none"]) := get_new rfl
      unfold oIn vIn
      simp only [gN, flatX, fl, and_self, if_true, Option.map_some]
      rfl
    have cp := comp_pure (xi := xIter (xVar 0)) (t := .name 1) (tt := xTest (xBin oNotIn (xVar 1) (xC (.str "abcdefghijklmnopqrstuvwxyz")))) (x := xVar 1) (vs := [1]) (e := [some (.str s), none]) (h := h ++ [Ob.lst [Val.str "me", Val.str "here", Val.str "none"]]) (h1 := h ++ [Ob.lst [Val.str "me", Val.str "here", Val.str "none"]]) (xs := s.cps.toList.map sgn)
      (fun v => v) (fun v => !decide (chr v ∈ letters.cps.toList)) rfl (len_sgn hl) (fun v m => by
        obtain ⟨c, rfl, mc⟩ := mem_sgn m
        refine ⟨_, rfl, fun acc _ => ⟨?_, fun _ => rfl⟩⟩
        simp only [wipeE, callF, sSeq, sSet, sRet, sRetN, sIf, sExpr, sNil, sPar, xCall, xNil, xCons, xC, xVar, xBin, xUn, xTest, xTru, xAndT, xOrT, xNotT, xAndV, xOrV, xNotV, xIf, xChain, xTup, xLst, xCallN, xMeth, Res.bind_ok, Res.bind_exc, Res.of_some, List.map_cons, List.map_nil, List.length_cons, List.length_nil, List.replicate_succ, List.replicate_zero, Nat.reduceSub, Nat.reduceAdd, Nat.reduceMul, Nat.reduceLeDiff, Nat.reduceEqDiff, Nat.zero_add, Nat.sub_self, List.cons_append, List.nil_append, List.getElem?_cons_zero, List.getElem?_cons_succ, List.set_cons_zero, List.set_cons_succ, if_true, if_false, reduceIte, reduceCtorEq, Bool.not_true, Bool.not_false, Bool.false_eq_true, decide_true, decide_false, Option.map_some, notIn_sgn]
        rfl)
    generalize hys : ((s.cps.toList.map sgn).filter fun v => !decide (chr v ∈ letters.cps.toList)).map (fun v => v) = ys at cp
    have en : ys.isEmpty = s.cps.toList.all fun c => decide (c ∈ letters.cps.toList) := by
      rw [← hys, List.map_id']
      exact empty_filter sgn _ _ (fun a => rfl) _
    have eq := eq_nil (g := (h ++ [Ob.lst [Val.str "me", Val.str "here", Val.str "none"]]) ++ [Ob.lst ys] ++ [Ob.lst []]) (n := (h ++ [Ob.lst [Val.str "me", Val.str "here", Val.str "none"]]).length) (m := ((h ++ [Ob.lst [Val.str "me", Val.str "here", Val.str "none"]]) ++ [Ob.lst ys]).length) (ys := ys)
      (by rw [List.getElem?_append_left (by simp)]; exact get_new rfl) (get_new rfl)
    have gE : ∀ b : Bool, gc h.length (.bl b) ((h ++ [Ob.lst [Val.str "me", Val.str "here", Val.str "none"]]) ++ [Ob.lst ys] ++ [Ob.lst []]) = h := fun b => by
      rw [List.append_assoc, List.append_assoc]
      exact gc_app rfl rfl c
    have gE1 : ∀ b : Bool, gc h.length (.bl b) (h ++ [Ob.lst [Val.str "me", Val.str "here", Val.str "none"]]) = h := fun b => gc_app rfl rfl c
    have q1 : decide ((s.length : Int) < 1) = !decide (1 ≤ s.length) := by
      rw [← decide_not]; congr 1; exact propext (by omega)
    have q2 : decide ((8 : Int) < (s.length : Int)) = !decide (s.length ≤ 8) := by
      rw [← decide_not]; congr 1; exact propext (by omega)
    simp only [f__law_is_name, x__law_is_name, callF, sSeq, sSet, sRet, sRetN, sIf, sExpr, sNil, sPar, xCall, xNil, xCons, xC, xVar, xBin, xUn, xTest, xTru, xAndT, xOrT, xNotT, xAndV, xOrV, xNotV, xIf, xChain, xTup, xLst, xCallN, xMeth, Res.bind_ok, Res.bind_exc, Res.of_some, List.map_cons, List.map_nil, List.length_cons, List.length_nil, List.replicate_succ, List.replicate_zero, Nat.reduceSub, Nat.reduceAdd, Nat.reduceMul, Nat.reduceLeDiff, Nat.reduceEqDiff, Nat.zero_add, Nat.sub_self, List.cons_append, List.nil_append, List.getElem?_cons_zero, List.getElem?_cons_succ, List.set_cons_zero, List.set_cons_succ, if_true, if_false, reduceIte, reduceCtorEq, Bool.not_true, Bool.not_false, Bool.false_eq_true, decide_true, decide_false, Option.map_some, i1, a1, truth, len_str hl, oLt, oGt, nameD, q1, q2]
    cases decide (1 ≤ s.length) with
    | false => simp only [callF, sSeq, sSet, sRet, sRetN, sIf, sExpr, sNil, sPar, xCall, xNil, xCons, xC, xVar, xBin, xUn, xTest, xTru, xAndT, xOrT, xNotT, xAndV, xOrV, xNotV, xIf, xChain, xTup, xLst, xCallN, xMeth, Res.bind_ok, Res.bind_exc, Res.of_some, List.map_cons, List.map_nil, List.length_cons, List.length_nil, List.replicate_succ, List.replicate_zero, Nat.reduceSub, Nat.reduceAdd, Nat.reduceMul, Nat.reduceLeDiff, Nat.reduceEqDiff, Nat.zero_add, Nat.sub_self, List.cons_append, List.nil_append, List.getElem?_cons_zero, List.getElem?_cons_succ, List.set_cons_zero, List.set_cons_succ, if_true, if_false, reduceIte, reduceCtorEq, Bool.not_true, Bool.not_false, Bool.false_eq_true, decide_true, decide_false, Option.map_some, gc_self, Bool.false_and]
    | true =>
      cases decide (s.length ≤ 8) with
      | false => simp only [callF, sSeq, sSet, sRet, sRetN, sIf, sExpr, sNil, sPar, xCall, xNil, xCons, xC, xVar, xBin, xUn, xTest, xTru, xAndT, xOrT, xNotT, xAndV, xOrV, xNotV, xIf, xChain, xTup, xLst, xCallN, xMeth, Res.bind_ok, Res.bind_exc, Res.of_some, List.map_cons, List.map_nil, List.length_cons, List.length_nil, List.replicate_succ, List.replicate_zero, Nat.reduceSub, Nat.reduceAdd, Nat.reduceMul, Nat.reduceLeDiff, Nat.reduceEqDiff, Nat.zero_add, Nat.sub_self, List.cons_append, List.nil_append, List.getElem?_cons_zero, List.getElem?_cons_succ, List.set_cons_zero, List.set_cons_succ, if_true, if_false, reduceIte, reduceCtorEq, Bool.not_true, Bool.not_false, Bool.false_eq_true, decide_true, decide_false, Option.map_some, gc_self, Bool.false_and, Bool.and_false]
      | true =>
        simp only [callF, sSeq, sSet, sRet, sRetN, sIf, sExpr, sNil, sPar, xCall, xNil, xCons, xC, xVar, xBin, xUn, xTest, xTru, xAndT, xOrT, xNotT, xAndV, xOrV, xNotV, xIf, xChain, xTup, xLst, xCallN, xMeth, Res.bind_ok, Res.bind_exc, Res.of_some, List.map_cons, List.map_nil, List.length_cons, List.length_nil, List.replicate_succ, List.replicate_zero, Nat.reduceSub, Nat.reduceAdd, Nat.reduceMul, Nat.reduceLeDiff, Nat.reduceEqDiff, Nat.zero_add, Nat.sub_self, List.cons_append, List.nil_append, List.getElem?_cons_zero, List.getElem?_cons_succ, List.set_cons_zero, List.set_cons_succ, if_true, if_false, reduceIte, reduceCtorEq, Bool.not_true, Bool.not_false, Bool.false_eq_true, decide_true, decide_false, Option.map_some, sz, inn, Bool.true_and]
        cases inX (.str s) k_NO_NAMES with
        | true => simp only [callF, sSeq, sSet, sRet, sRetN, sIf, sExpr, sNil, sPar, xCall, xNil, xCons, xC, xVar, xBin, xUn, xTest, xTru, xAndT, xOrT, xNotT, xAndV, xOrV, xNotV, xIf, xChain, xTup, xLst, xCallN, xMeth, Res.bind_ok, Res.bind_exc, Res.of_some, List.map_cons, List.map_nil, List.length_cons, List.length_nil, List.replicate_succ, List.replicate_zero, Nat.reduceSub, Nat.reduceAdd, Nat.reduceMul, Nat.reduceLeDiff, Nat.reduceEqDiff, Nat.zero_add, Nat.sub_self, List.cons_append, List.nil_append, List.getElem?_cons_zero, List.getElem?_cons_succ, List.set_cons_zero, List.set_cons_succ, if_true, if_false, reduceIte, reduceCtorEq, Bool.not_true, Bool.not_false, Bool.false_eq_true, decide_true, decide_false, Option.map_some, gE1, Bool.false_and]
        | false =>
          have z0 : (0 ≤ sizeLine) = True := by simp
          simp only [callF, sSeq, sSet, sRet, sRetN, sIf, sExpr, sNil, sPar, xCall, xNil, xCons, xC, xVar, xBin, xUn, xTest, xTru, xAndT, xOrT, xNotT, xAndV, xOrV, xNotV, xIf, xChain, xTup, xLst, xCallN, xMeth, Res.bind_ok, Res.bind_exc, Res.of_some, List.map_cons, List.map_nil, List.length_cons, List.length_nil, List.replicate_succ, List.replicate_zero, Nat.reduceSub, Nat.reduceAdd, Nat.reduceMul, Nat.reduceLeDiff, Nat.reduceEqDiff, Nat.zero_add, Nat.sub_self, List.cons_append, List.nil_append, List.getElem?_cons_zero, List.getElem?_cons_succ, List.set_cons_zero, List.set_cons_succ, if_true, if_false, reduceIte, reduceCtorEq, Bool.not_true, Bool.not_false, Bool.false_eq_true, decide_true, decide_false, Option.map_some, cp, z0, eq, gE, Bool.true_and, en]
  · have a1 := strNot fun s e => hd ⟨s, e⟩
    have nd : nameD d = false := by
      cases d with
      | str s => exact absurd ⟨s, rfl⟩ hd
      | _ => rfl
    simp only [f__law_is_name, x__law_is_name, callF, sSeq, sSet, sRet, sRetN, sIf, sExpr, sNil, sPar, xCall, xNil, xCons, xC, xVar, xBin, xUn, xTest, xTru, xAndT, xOrT, xNotT, xAndV, xOrV, xNotV, xIf, xChain, xTup, xLst, xCallN, xMeth, Res.bind_ok, Res.bind_exc, Res.of_some, List.map_cons, List.map_nil, List.length_cons, List.length_nil, List.replicate_succ, List.replicate_zero, Nat.reduceSub, Nat.reduceAdd, Nat.reduceMul, Nat.reduceLeDiff, Nat.reduceEqDiff, Nat.zero_add, Nat.sub_self, List.cons_append, List.nil_append, List.getElem?_cons_zero, List.getElem?_cons_succ, List.set_cons_zero, List.set_cons_succ, if_true, if_false, reduceIte, reduceCtorEq, Bool.not_true, Bool.not_false, Bool.false_eq_true, decide_true, decide_false, Option.map_some, i1, a1, truth, gc_self, nd]
/-! ### texts -/
def okC (c : Nat) : Bool := decide (32 ≤ c) && (decide (c ≤ 126) && (!decide (c = 37) && !decide (c = 39)))
def textD (d : PyData) : Bool := match d with
  | .str s => decide (s.length ≤ 60) && s.cps.toList.all okC
  | _ => false
theorem okC_small : ∀ c < 128, okC c = decide (c ∈ signs.cps.toList) := by decide +kernel
theorem okC_eq (c : Nat) : okC c = decide (c ∈ signs.cps.toList) := by
  by_cases h : c < 128
  · exact okC_small c h
  · have e1 : okC c = false := by
      unfold okC
      have : decide (c ≤ 126) = false := by simp; omega
      rw [this]; simp
    have e2 : decide (c ∈ signs.cps.toList) = false := decide_eq_false fun m => h (signs_asc c m)
    rw [e1, e2]
theorem lex_one (a b : Nat) : decide (([a] : List Nat) < [b]) = decide (a < b) := by
  refine decide_eq_decide.mpr ?_
  rw [List.cons_lt_cons_iff]
  simp
theorem le_sgn (a : String) {k c : Nat} {g : Hh} (e : (Str.ofString a).cps.toList = [k]) : oLe (.str (Str.ofString a)) (sgn c) g = some (.bl (decide (k ≤ c)), g) := by
  unfold oLe sgn
  simp only [e]
  have : decide ((#[c] : Array Nat).toList < [k]) = decide (c < k) := lex_one c k
  rw [this, ← decide_not]
  congr 3
  exact decide_eq_decide.mpr (by omega)
theorem sgn_le (a : String) {k c : Nat} {g : Hh} (e : (Str.ofString a).cps.toList = [k]) : oLe (sgn c) (.str (Str.ofString a)) g = some (.bl (decide (c ≤ k)), g) := by
  unfold oLe sgn
  simp only [e]
  have : decide ([k] < (#[c] : Array Nat).toList) = decide (k < c) := lex_one k c
  rw [this, ← decide_not]
  congr 3
  exact decide_eq_decide.mpr (by omega)
theorem ord_sgn {c : Nat} {g : Hh} : oOrd [sgn c] g = some (.int c, g) := rfl
theorem notIn_two {c : Nat} {g : Hh} : oNotIn (.int c) (.tup [.int 37, .int 39]) g = some (.bl (!decide (c = 37) && !decide (c = 39)), g) := by
  unfold oNotIn vIn
  have : inX (.int c) [.int 37, .int 39] = (decide (c = 37) || decide (c = 39)) := by
    unfold inX eqX
    simp only [List.any_cons, List.any_nil, Bool.or_false]
    have h1 : ((37 : Int) == (c : Int)) = decide (c = 37) := by rw [Bool.eq_iff_iff]; simp; omega
    have h2 : ((39 : Int) == (c : Int)) = decide (c = 39) := by rw [Bool.eq_iff_iff]; simp; omega
    rw [h1, h2]
  have fl : ([Val.int 37, Val.int 39].all flatX) = true := rfl
  simp only [flatX, fl, and_self, if_true, Option.map_some, this, Bool.not_or]
theorem sp_cps : (Str.ofString " ").cps.toList = [32] := by decide +kernel
theorem ti_cps : (Str.ofString "~").cps.toList = [126] := by decide +kernel
theorem text_eq {h : Hh} {d : PyData} {v : Val} (i : Is h d v) (c : Cl h) (hs : strShort d) : f_is_text [v] h = .ok (.bl (textD d)) h := by
  have i1 := i.isi "str"
  by_cases hd : ∃ s, d = .str s
  · obtain ⟨s, rfl⟩ := hd
    cases (show _ = _ from i)
    have hl := hs s rfl
    have a1 : isA (.str s) "str" = true := rfl
    have sz : (2 ≤ sizeLine) = True := by rw [sizeLine_eq]; simp
    have cp0 := comp_pure (xi := xIter (xVar 0)) (t := .name 1) (tt := xYes) (x := xAndV (xChain oLe oLe (xC (.str " ")) (xVar 1) (xC (.str "~"))) (xBin oNotIn (xCallN oOrd (xCons (xVar 1) (xNil))) (xTup (xCons (xC (.int 37)) (xCons (xC (.int 39)) (xNil)))))) (vs := [1]) (e := [some (.str s), none]) (h := h) (h1 := h) (xs := s.cps.toList.map sgn)
      (fun v => .bl (okC (chr v))) (fun _ => true) rfl (len_sgn hl) (fun v m => by
        obtain ⟨c, rfl, mc⟩ := mem_sgn m
        refine ⟨_, rfl, fun acc _ => ⟨rfl, fun _ => ?_⟩⟩
        simp only [wipeE, callF, sSeq, sSet, sRet, sRetN, sIf, sExpr, sNil, sPar, xCall, xNil, xCons, xC, xVar, xBin, xUn, xTest, xTru, xAndT, xOrT, xNotT, xAndV, xOrV, xNotV, xIf, xChain, xTup, xLst, xCallN, xMeth, Res.bind_ok, Res.bind_exc, Res.of_some, List.map_cons, List.map_nil, List.length_cons, List.length_nil, List.replicate_succ, List.replicate_zero, Nat.reduceSub, Nat.reduceAdd, Nat.reduceMul, Nat.reduceLeDiff, Nat.reduceEqDiff, Nat.zero_add, Nat.sub_self, List.cons_append, List.nil_append, List.getElem?_cons_zero, List.getElem?_cons_succ, List.set_cons_zero, List.set_cons_succ, if_true, if_false, reduceIte, reduceCtorEq, Bool.not_true, Bool.not_false, Bool.false_eq_true, decide_true, decide_false, Option.map_some, le_sgn " " sp_cps, chr_sgn, okC]
        by_cases h1 : 32 ≤ c
        · simp only [h1, callF, sSeq, sSet, sRet, sRetN, sIf, sExpr, sNil, sPar, xCall, xNil, xCons, xC, xVar, xBin, xUn, xTest, xTru, xAndT, xOrT, xNotT, xAndV, xOrV, xNotV, xIf, xChain, xTup, xLst, xCallN, xMeth, Res.bind_ok, Res.bind_exc, Res.of_some, List.map_cons, List.map_nil, List.length_cons, List.length_nil, List.replicate_succ, List.replicate_zero, Nat.reduceSub, Nat.reduceAdd, Nat.reduceMul, Nat.reduceLeDiff, Nat.reduceEqDiff, Nat.zero_add, Nat.sub_self, List.cons_append, List.nil_append, List.getElem?_cons_zero, List.getElem?_cons_succ, List.set_cons_zero, List.set_cons_succ, if_true, if_false, reduceIte, reduceCtorEq, Bool.not_true, Bool.not_false, Bool.false_eq_true, decide_true, decide_false, Option.map_some, sgn_le "~" ti_cps, Bool.true_and]
          by_cases h2 : c ≤ 126
          · simp only [h2, callF, sSeq, sSet, sRet, sRetN, sIf, sExpr, sNil, sPar, xCall, xNil, xCons, xC, xVar, xBin, xUn, xTest, xTru, xAndT, xOrT, xNotT, xAndV, xOrV, xNotV, xIf, xChain, xTup, xLst, xCallN, xMeth, Res.bind_ok, Res.bind_exc, Res.of_some, List.map_cons, List.map_nil, List.length_cons, List.length_nil, List.replicate_succ, List.replicate_zero, Nat.reduceSub, Nat.reduceAdd, Nat.reduceMul, Nat.reduceLeDiff, Nat.reduceEqDiff, Nat.zero_add, Nat.sub_self, List.cons_append, List.nil_append, List.getElem?_cons_zero, List.getElem?_cons_succ, List.set_cons_zero, List.set_cons_succ, if_true, if_false, reduceIte, reduceCtorEq, Bool.not_true, Bool.not_false, Bool.false_eq_true, decide_true, decide_false, Option.map_some, ord_sgn, sz, notIn_two, Bool.true_and]
            rfl
          · simp only [h2, callF, sSeq, sSet, sRet, sRetN, sIf, sExpr, sNil, sPar, xCall, xNil, xCons, xC, xVar, xBin, xUn, xTest, xTru, xAndT, xOrT, xNotT, xAndV, xOrV, xNotV, xIf, xChain, xTup, xLst, xCallN, xMeth, Res.bind_ok, Res.bind_exc, Res.of_some, List.map_cons, List.map_nil, List.length_cons, List.length_nil, List.replicate_succ, List.replicate_zero, Nat.reduceSub, Nat.reduceAdd, Nat.reduceMul, Nat.reduceLeDiff, Nat.reduceEqDiff, Nat.zero_add, Nat.sub_self, List.cons_append, List.nil_append, List.getElem?_cons_zero, List.getElem?_cons_succ, List.set_cons_zero, List.set_cons_succ, if_true, if_false, reduceIte, reduceCtorEq, Bool.not_true, Bool.not_false, Bool.false_eq_true, decide_true, decide_false, Option.map_some, Bool.false_and]
        · simp only [h1, callF, sSeq, sSet, sRet, sRetN, sIf, sExpr, sNil, sPar, xCall, xNil, xCons, xC, xVar, xBin, xUn, xTest, xTru, xAndT, xOrT, xNotT, xAndV, xOrV, xNotV, xIf, xChain, xTup, xLst, xCallN, xMeth, Res.bind_ok, Res.bind_exc, Res.of_some, List.map_cons, List.map_nil, List.length_cons, List.length_nil, List.replicate_succ, List.replicate_zero, Nat.reduceSub, Nat.reduceAdd, Nat.reduceMul, Nat.reduceLeDiff, Nat.reduceEqDiff, Nat.zero_add, Nat.sub_self, List.cons_append, List.nil_append, List.getElem?_cons_zero, List.getElem?_cons_succ, List.set_cons_zero, List.set_cons_succ, if_true, if_false, reduceIte, reduceCtorEq, Bool.not_true, Bool.not_false, Bool.false_eq_true, decide_true, decide_false, Option.map_some, Bool.false_and])
    rw [filter_all, List.map_map] at cp0
    have cp : xComp (xIter (xVar 0)) (.name 1) xYes (xAndV (xChain oLe oLe (xC (.str " ")) (xVar 1) (xC (.str "~"))) (xBin oNotIn (xCallN oOrd (xCons (xVar 1) (xNil))) (xTup (xCons (xC (.int 37)) (xCons (xC (.int 39)) (xNil)))))) [1] [some (.str s), none] h = .ok (.loc h.length) (h ++ [Ob.lst (s.cps.toList.map fun c => Val.bl (okC c))]) := cp0
    have al := all_bl (g := h ++ [Ob.lst (s.cps.toList.map fun c => Val.bl (okC c))]) (n := h.length) (get_new rfl)
    have gE : ∀ b : Bool, gc h.length (.bl b) (h ++ [Ob.lst (s.cps.toList.map fun c => Val.bl (okC c))]) = h := fun b => gc_app rfl rfl c
    have q2 : decide ((60 : Int) < (s.length : Int)) = !decide (s.length ≤ 60) := by
      rw [← decide_not]; congr 1; exact propext (by omega)
    simp only [f_is_text, x_is_text, callF, sSeq, sSet, sRet, sRetN, sIf, sExpr, sNil, sPar, xCall, xNil, xCons, xC, xVar, xBin, xUn, xTest, xTru, xAndT, xOrT, xNotT, xAndV, xOrV, xNotV, xIf, xChain, xTup, xLst, xCallN, xMeth, Res.bind_ok, Res.bind_exc, Res.of_some, List.map_cons, List.map_nil, List.length_cons, List.length_nil, List.replicate_succ, List.replicate_zero, Nat.reduceSub, Nat.reduceAdd, Nat.reduceMul, Nat.reduceLeDiff, Nat.reduceEqDiff, Nat.zero_add, Nat.sub_self, List.cons_append, List.nil_append, List.getElem?_cons_zero, List.getElem?_cons_succ, List.set_cons_zero, List.set_cons_succ, if_true, if_false, reduceIte, reduceCtorEq, Bool.not_true, Bool.not_false, Bool.false_eq_true, decide_true, decide_false, Option.map_some, i1, a1, truth, len_str hl, oGt, textD, q2]
    cases decide (s.length ≤ 60) with
    | false => simp only [callF, sSeq, sSet, sRet, sRetN, sIf, sExpr, sNil, sPar, xCall, xNil, xCons, xC, xVar, xBin, xUn, xTest, xTru, xAndT, xOrT, xNotT, xAndV, xOrV, xNotV, xIf, xChain, xTup, xLst, xCallN, xMeth, Res.bind_ok, Res.bind_exc, Res.of_some, List.map_cons, List.map_nil, List.length_cons, List.length_nil, List.replicate_succ, List.replicate_zero, Nat.reduceSub, Nat.reduceAdd, Nat.reduceMul, Nat.reduceLeDiff, Nat.reduceEqDiff, Nat.zero_add, Nat.sub_self, List.cons_append, List.nil_append, List.getElem?_cons_zero, List.getElem?_cons_succ, List.set_cons_zero, List.set_cons_succ, if_true, if_false, reduceIte, reduceCtorEq, Bool.not_true, Bool.not_false, Bool.false_eq_true, decide_true, decide_false, Option.map_some, gc_self, Bool.false_and]
    | true => simp only [callF, sSeq, sSet, sRet, sRetN, sIf, sExpr, sNil, sPar, xCall, xNil, xCons, xC, xVar, xBin, xUn, xTest, xTru, xAndT, xOrT, xNotT, xAndV, xOrV, xNotV, xIf, xChain, xTup, xLst, xCallN, xMeth, Res.bind_ok, Res.bind_exc, Res.of_some, List.map_cons, List.map_nil, List.length_cons, List.length_nil, List.replicate_succ, List.replicate_zero, Nat.reduceSub, Nat.reduceAdd, Nat.reduceMul, Nat.reduceLeDiff, Nat.reduceEqDiff, Nat.zero_add, Nat.sub_self, List.cons_append, List.nil_append, List.getElem?_cons_zero, List.getElem?_cons_succ, List.set_cons_zero, List.set_cons_succ, if_true, if_false, reduceIte, reduceCtorEq, Bool.not_true, Bool.not_false, Bool.false_eq_true, decide_true, decide_false, Option.map_some, cp, al, gE, Bool.true_and]
  · have a1 := strNot fun s e => hd ⟨s, e⟩
    have nd : textD d = false := by
      cases d with
      | str s => exact absurd ⟨s, rfl⟩ hd
      | _ => rfl
    simp only [f_is_text, x_is_text, callF, sSeq, sSet, sRet, sRetN, sIf, sExpr, sNil, sPar, xCall, xNil, xCons, xC, xVar, xBin, xUn, xTest, xTru, xAndT, xOrT, xNotT, xAndV, xOrV, xNotV, xIf, xChain, xTup, xLst, xCallN, xMeth, Res.bind_ok, Res.bind_exc, Res.of_some, List.map_cons, List.map_nil, List.length_cons, List.length_nil, List.replicate_succ, List.replicate_zero, Nat.reduceSub, Nat.reduceAdd, Nat.reduceMul, Nat.reduceLeDiff, Nat.reduceEqDiff, Nat.zero_add, Nat.sub_self, List.cons_append, List.nil_append, List.getElem?_cons_zero, List.getElem?_cons_succ, List.set_cons_zero, List.set_cons_succ, if_true, if_false, reduceIte, reduceCtorEq, Bool.not_true, Bool.not_false, Bool.false_eq_true, decide_true, decide_false, Option.map_some, i1, a1, truth, gc_self, nd]
theorem ltext_eq {h : Hh} {d : PyData} {v : Val} (i : Is h d v) (c : Cl h) (hs : strShort d) : f__law_is_text [v] h = .ok (.bl (textD d)) h := by
  have i1 := i.isi "str"
  by_cases hd : ∃ s, d = .str s
  · obtain ⟨s, rfl⟩ := hd
    cases (show _ = _ from i)
    have hl := hs s rfl
    have a1 : isA (.str s) "str" = true := rfl
    have cp := comp_pure (xi := xIter (xVar 0)) (t := .name 1) (tt := xTest (xBin oNotIn (xVar 1) (xCall 0 f__law_signs (xNil)))) (x := xVar 1) (vs := [1]) (e := [some (.str s), none]) (h := h) (h1 := h) (xs := s.cps.toList.map sgn)
      (fun v => v) (fun v => !okC (chr v)) rfl (len_sgn hl) (fun v m => by
        obtain ⟨c, rfl, mc⟩ := mem_sgn m
        refine ⟨_, rfl, fun acc _ => ⟨?_, fun _ => rfl⟩⟩
        simp only [wipeE, callF, sSeq, sSet, sRet, sRetN, sIf, sExpr, sNil, sPar, xCall, xNil, xCons, xC, xVar, xBin, xUn, xTest, xTru, xAndT, xOrT, xNotT, xAndV, xOrV, xNotV, xIf, xChain, xTup, xLst, xCallN, xMeth, Res.bind_ok, Res.bind_exc, Res.of_some, List.map_cons, List.map_nil, List.length_cons, List.length_nil, List.replicate_succ, List.replicate_zero, Nat.reduceSub, Nat.reduceAdd, Nat.reduceMul, Nat.reduceLeDiff, Nat.reduceEqDiff, Nat.zero_add, Nat.sub_self, List.cons_append, List.nil_append, List.getElem?_cons_zero, List.getElem?_cons_succ, List.set_cons_zero, List.set_cons_succ, if_true, if_false, reduceIte, reduceCtorEq, Bool.not_true, Bool.not_false, Bool.false_eq_true, decide_true, decide_false, Option.map_some, signs_eq, notIn_sgn, chr_sgn, okC_eq])
    generalize hys : ((s.cps.toList.map sgn).filter fun v => !okC (chr v)).map (fun v => v) = ys at cp
    have en : ys.isEmpty = s.cps.toList.all okC := by
      rw [← hys, List.map_id']
      exact empty_filter sgn _ _ (fun a => rfl) _
    have eq := eq_nil (g := h ++ [Ob.lst ys] ++ [Ob.lst []]) (n := h.length) (m := (h ++ [Ob.lst ys]).length) (ys := ys) (by rw [List.getElem?_append_left (by simp)]; exact get_new rfl) (get_new rfl)
    have gE : ∀ b : Bool, gc h.length (.bl b) (h ++ [Ob.lst ys] ++ [Ob.lst []]) = h := fun b => by
      rw [List.append_assoc]
      exact gc_app rfl rfl c
    have q2 : decide ((60 : Int) < (s.length : Int)) = !decide (s.length ≤ 60) := by
      rw [← decide_not]; congr 1; exact propext (by omega)
    simp only [f__law_is_text, x__law_is_text, callF, sSeq, sSet, sRet, sRetN, sIf, sExpr, sNil, sPar, xCall, xNil, xCons, xC, xVar, xBin, xUn, xTest, xTru, xAndT, xOrT, xNotT, xAndV, xOrV, xNotV, xIf, xChain, xTup, xLst, xCallN, xMeth, Res.bind_ok, Res.bind_exc, Res.of_some, List.map_cons, List.map_nil, List.length_cons, List.length_nil, List.replicate_succ, List.replicate_zero, Nat.reduceSub, Nat.reduceAdd, Nat.reduceMul, Nat.reduceLeDiff, Nat.reduceEqDiff, Nat.zero_add, Nat.sub_self, List.cons_append, List.nil_append, List.getElem?_cons_zero, List.getElem?_cons_succ, List.set_cons_zero, List.set_cons_succ, if_true, if_false, reduceIte, reduceCtorEq, Bool.not_true, Bool.not_false, Bool.false_eq_true, decide_true, decide_false, Option.map_some, i1, a1, truth, len_str hl, oGt, textD, q2]
    cases decide (s.length ≤ 60) with
    | false => simp only [callF, sSeq, sSet, sRet, sRetN, sIf, sExpr, sNil, sPar, xCall, xNil, xCons, xC, xVar, xBin, xUn, xTest, xTru, xAndT, xOrT, xNotT, xAndV, xOrV, xNotV, xIf, xChain, xTup, xLst, xCallN, xMeth, Res.bind_ok, Res.bind_exc, Res.of_some, List.map_cons, List.map_nil, List.length_cons, List.length_nil, List.replicate_succ, List.replicate_zero, Nat.reduceSub, Nat.reduceAdd, Nat.reduceMul, Nat.reduceLeDiff, Nat.reduceEqDiff, Nat.zero_add, Nat.sub_self, List.cons_append, List.nil_append, List.getElem?_cons_zero, List.getElem?_cons_succ, List.set_cons_zero, List.set_cons_succ, if_true, if_false, reduceIte, reduceCtorEq, Bool.not_true, Bool.not_false, Bool.false_eq_true, decide_true, decide_false, Option.map_some, gc_self, Bool.false_and]
    | true =>
      have z0 : (0 ≤ sizeLine) = True := by simp
      simp only [callF, sSeq, sSet, sRet, sRetN, sIf, sExpr, sNil, sPar, xCall, xNil, xCons, xC, xVar, xBin, xUn, xTest, xTru, xAndT, xOrT, xNotT, xAndV, xOrV, xNotV, xIf, xChain, xTup, xLst, xCallN, xMeth, Res.bind_ok, Res.bind_exc, Res.of_some, List.map_cons, List.map_nil, List.length_cons, List.length_nil, List.replicate_succ, List.replicate_zero, Nat.reduceSub, Nat.reduceAdd, Nat.reduceMul, Nat.reduceLeDiff, Nat.reduceEqDiff, Nat.zero_add, Nat.sub_self, List.cons_append, List.nil_append, List.getElem?_cons_zero, List.getElem?_cons_succ, List.set_cons_zero, List.set_cons_succ, if_true, if_false, reduceIte, reduceCtorEq, Bool.not_true, Bool.not_false, Bool.false_eq_true, decide_true, decide_false, Option.map_some, cp, z0, eq, gE, Bool.true_and, en]
  · have a1 := strNot fun s e => hd ⟨s, e⟩
    have nd : textD d = false := by
      cases d with
      | str s => exact absurd ⟨s, rfl⟩ hd
      | _ => rfl
    simp only [f__law_is_text, x__law_is_text, callF, sSeq, sSet, sRet, sRetN, sIf, sExpr, sNil, sPar, xCall, xNil, xCons, xC, xVar, xBin, xUn, xTest, xTru, xAndT, xOrT, xNotT, xAndV, xOrV, xNotV, xIf, xChain, xTup, xLst, xCallN, xMeth, Res.bind_ok, Res.bind_exc, Res.of_some, List.map_cons, List.map_nil, List.length_cons, List.length_nil, List.replicate_succ, List.replicate_zero, Nat.reduceSub, Nat.reduceAdd, Nat.reduceMul, Nat.reduceLeDiff, Nat.reduceEqDiff, Nat.zero_add, Nat.sub_self, List.cons_append, List.nil_append, List.getElem?_cons_zero, List.getElem?_cons_succ, List.set_cons_zero, List.set_cons_succ, if_true, if_false, reduceIte, reduceCtorEq, Bool.not_true, Bool.not_false, Bool.false_eq_true, decide_true, decide_false, Option.map_some, i1, a1, truth, gc_self, nd]
end K

set_option Elab.async false
set_option linter.all false
set_option maxRecDepth 100000
set_option maxHeartbeats 4000000
namespace K
open PySem L2 EX
/-! ### what things may be -/
def scalarD : PyData → Bool
  | .none => true
  | .bool _ => true
  | .int _ => true
  | .str _ => true
  | _ => false
def hd2 : List PyData → Bool
  | [d, _] => scalarD d
  | _ => true
def lateD : PyData → Bool
  | .str s => decide (s = "late")
  | _ => false
mutual
def okD : PyData → Bool
  | .none => true
  | .bool _ => true
  | .int i => decide (i.natAbs < 10 ^ 31)
  | .str s => decide (s.length ≤ 100) && s.cps.toList.all fun c => decide (c < 128)
  | .tuple [.str t, .tuple ps] => okD (.str t) && okL ps
  | .tuple ds => hd2 ds && okL ds
  | .list ds => ds.all scalarD && okL ds
  | .dict kvs => kvs.all (fun p => scalarD p.2 && !lateD p.1) && okK kvs
def okL : List PyData → Bool
  | [] => true
  | d :: ds => okD d && okL ds
def okK : List (PyData × PyData) → Bool
  | [] => true
  | (k, d) :: r => okD k && (okD d && okK r)
end
theorem okD_row {t : Str} {ps : List PyData} (h : okD (.tuple [.str t, .tuple ps]) = true) : okD (.str t) = true ∧ okL ps = true := by
  rw [okD, Bool.and_eq_true] at h
  exact h
theorem okD_tup {ds : List PyData} (h : okD (.tuple ds) = true) : (∃ t ps, ds = [.str t, .tuple ps] ∧ okD (.str t) = true ∧ okL ps = true) ∨ (hd2 ds = true ∧ okL ds = true) := by
  by_cases hd : ∃ t ps, ds = [.str t, .tuple ps]
  · obtain ⟨t, ps, rfl⟩ := hd
    exact .inl ⟨t, ps, rfl, okD_row h⟩
  · rw [okD, Bool.and_eq_true] at h
    · exact .inr h
    · intro t ps e
      exact hd ⟨t, ps, e⟩
theorem okD_of {ds : List PyData} (h2 : hd2 ds = true) (o : okL ds = true) (hd : ∀ t ps, ds ≠ [.str t, .tuple ps]) : okD (.tuple ds) = true := by
  rw [okD, Bool.and_eq_true]
  · exact ⟨h2, o⟩
  · intro t ps e
    exact hd t ps e
theorem okL_mem : ∀ {ds : List PyData}, okL ds = true → ∀ d ∈ ds, okD d = true
  | [], _, _, m => nomatch m
  | d :: ds, h, e, m => by
    simp only [okL, Bool.and_eq_true] at h
    rcases List.mem_cons.mp m with rfl | m
    · exact h.1
    · exact okL_mem h.2 e m
theorem okD.short {d : PyData} (h : okD d = true) : strShort d := fun s e => by
  subst e
  simp only [okD, Bool.and_eq_true, decide_eq_true_eq] at h
  rw [sizeLine_eq]
  omega
theorem depthAll_mem : ∀ {ds : List PyData} {d : PyData}, d ∈ ds → d.depth ≤ PyData.depthAll ds
  | d :: ds, e, m => by
    simp only [PyData.depthAll]
    rcases List.mem_cons.mp m with rfl | m
    · omega
    · have := depthAll_mem m
      omega
mutual
theorem Is.und {h : Hh} : ∀ {d : PyData} {v : Val}, Is h d v → v.und h.length = true
  | .none, _, e => by cases (show _ = _ from e); rfl
  | .bool _, _, e => by cases (show _ = _ from e); rfl
  | .int _, _, e => by cases (show _ = _ from e); rfl
  | .str _, _, e => by cases (show _ = _ from e); rfl
  | .tuple _, _, ⟨xs, e, r⟩ => by subst e; simpa [Val.und] using IsL.und r
  | .list _, _, ⟨n, xs, e, g, r⟩ => by subst e; simpa [Val.und] using (List.getElem?_eq_some_iff.mp g).1
  | .dict _, _, ⟨n, xs, e, g, r⟩ => by subst e; simpa [Val.und] using (List.getElem?_eq_some_iff.mp g).1
theorem IsL.und {h : Hh} : ∀ {ds : List PyData} {xs : List Val}, IsL h ds xs → undL h.length xs = true
  | [], _, e => by cases (show _ = _ from e); rfl
  | _ :: _, _, ⟨x, r, e, a, b⟩ => by
    subst e
    simp only [undL, Bool.and_eq_true]
    exact ⟨Is.und a, IsL.und b⟩
end
theorem IsL.len {h : Hh} : ∀ {ds : List PyData} {xs : List Val}, IsL h ds xs → xs.length = ds.length
  | [], _, e => by cases (show _ = _ from e); rfl
  | _ :: _, _, ⟨x, r, e, a, b⟩ => by subst e; rw [List.length_cons, List.length_cons, IsL.len b]
/-- the tree of a value -/
def dv (h : Hh) (v : Val) : PyData := (EX.dat h 40 v).getD .none
theorem Is.dv {h : Hh} {d : PyData} {v : Val} (i : Is h d v) (hd : d.depth < 40) : K.dv h v = d := by unfold K.dv; rw [i.dat hd]; rfl
theorem IsL.dv {h : Hh} : ∀ {ds : List PyData} {xs : List Val}, IsL h ds xs → PyData.depthAll ds < 40 → xs.map (K.dv h) = ds
  | [], _, e, _ => by cases (show _ = _ from e); rfl
  | _ :: _, _, ⟨x, r, e, a, b⟩, hd => by
    subst e
    simp only [PyData.depthAll] at hd
    rw [List.map_cons, Is.dv a (by omega), IsL.dv b (by omega)]
theorem IsL.mem {h : Hh} : ∀ {ds : List PyData} {xs : List Val}, IsL h ds xs → ∀ x ∈ xs, ∃ d ∈ ds, Is h d x
  | [], _, e, x, m => by cases (show _ = _ from e); cases m
  | d :: _, _, ⟨y, r, e, a, b⟩, x, m => by
    subst e
    rcases List.mem_cons.mp m with rfl | m
    · exact ⟨d, .head _, a⟩
    · obtain ⟨d', m', i⟩ := IsL.mem b x m
      exact ⟨d', .tail _ m', i⟩
/-! ### pairs -/
def pairD (d : PyData) (w : Str) : Bool := match d with
  | .tuple [.str t, _] => decide (t = w)
  | _ => false
theorem eq_int {a b : Int} {g : Hh} : oEq (.int a) (.int b) g = some (.bl (decide (a = b)), g) := rfl
theorem eq_str {a b : Str} {g : Hh} : oEq (.str a) (.str b) g = some (.bl (decide (a = b)), g) := rfl
theorem ne_str {a b : Str} {g : Hh} : oNe (.str a) (.str b) g = some (.bl (!decide (a = b)), g) := rfl
theorem ne_int {a b : Int} {g : Hh} : oNe (.int a) (.int b) g = some (.bl (!decide (a = b)), g) := rfl
theorem len_tup {xs : List Val} {g : Hh} : oLen [.tup xs] g = some (.int xs.length, g) := rfl
theorem ix0 {x : Val} {xs : List Val} {g : Hh} : oIx (.tup (x :: xs)) (.int 0) g = some (x, g) := by
  unfold oIx atI ixN
  simp
theorem ix1 {x y : Val} {xs : List Val} {g : Hh} : oIx (.tup (x :: y :: xs)) (.int 1) g = some (y, g) := by
  have e : ixN (x :: y :: xs).length 1 = some 1 := by
    unfold ixN
    rw [if_pos (by decide), if_pos (by simp only [List.length_cons]; omega)]
    rfl
  unfold oIx atI
  simp only [e, Option.bind_some, List.getElem?_cons_succ, List.getElem?_cons_zero, Option.map_some]
theorem two_of {α : Type} {xs : List α} (h : xs.length = 2) : ∃ a b, xs = [a, b] := match xs, h with
  | [a, b], _ => ⟨a, b, rfl⟩
theorem IsL.two {h : Hh} {a b : PyData} {xs : List Val} (i : IsL h [a, b] xs) : ∃ x y, xs = [x, y] ∧ Is h a x ∧ Is h b y := by
  obtain ⟨x, _, rfl, j0, y, _, rfl, j1, e⟩ := i
  cases (show _ = _ from e)
  exact ⟨x, y, rfl, j0, j1⟩
theorem tupNot {d : PyData} (h : ∀ s, d ≠ .tuple s) : isA d "tuple" = false := by
  cases d with
  | tuple s => exact absurd rfl (h s)
  | _ => simp [isA, tyD]
theorem pair_eq {h : Hh} {d : PyData} {v : Val} (i : Is h d v) (w : Str) : f_is_pair [v, .str w] h = .ok (.bl (pairD d w)) h := by
  have i1 := i.isi "tuple"
  by_cases hd : ∃ s, d = .tuple s
  · obtain ⟨ds, rfl⟩ := hd
    obtain ⟨xs, rfl, il⟩ := i
    have a1 : isA (.tuple ds) "tuple" = true := rfl
    simp only [f_is_pair, x_is_pair, callF, sSeq, sSet, sRet, sRetN, sIf, sExpr, sNil, sPar, xCall, xNil, xCons, xC, xVar, xBin, xUn, xTest, xTru, xAndT, xOrT, xNotT, xAndV, xOrV, xNotV, xIf, xChain, xTup, xLst, xCallN, xMeth, Res.bind_ok, Res.bind_exc, Res.of_some, List.map_cons, List.map_nil, List.length_cons, List.length_nil, List.replicate_succ, List.replicate_zero, Nat.reduceSub, Nat.reduceAdd, Nat.reduceMul, Nat.reduceLeDiff, Nat.reduceEqDiff, Nat.zero_add, Nat.sub_self, List.cons_append, List.nil_append, List.getElem?_cons_zero, List.getElem?_cons_succ, List.set_cons_zero, List.set_cons_succ, if_true, if_false, reduceIte, reduceCtorEq, Bool.not_true, Bool.not_false, Bool.false_eq_true, decide_true, decide_false, Option.map_some, i1, a1, len_tup, eq_int, il.len]
    by_cases hl : ds.length = 2
    · obtain ⟨d0, d1, rfl⟩ := two_of hl
      obtain ⟨x0, x1, rfl, j0, j1⟩ := il.two
      have i2 := j0.isi "str"
      have q : decide (((2 : Nat) : Int) = 2) = true := rfl
      simp only [q, callF, sSeq, sSet, sRet, sRetN, sIf, sExpr, sNil, sPar, xCall, xNil, xCons, xC, xVar, xBin, xUn, xTest, xTru, xAndT, xOrT, xNotT, xAndV, xOrV, xNotV, xIf, xChain, xTup, xLst, xCallN, xMeth, Res.bind_ok, Res.bind_exc, Res.of_some, List.map_cons, List.map_nil, List.length_cons, List.length_nil, List.replicate_succ, List.replicate_zero, Nat.reduceSub, Nat.reduceAdd, Nat.reduceMul, Nat.reduceLeDiff, Nat.reduceEqDiff, Nat.zero_add, Nat.sub_self, List.cons_append, List.nil_append, List.getElem?_cons_zero, List.getElem?_cons_succ, List.set_cons_zero, List.set_cons_succ, if_true, if_false, reduceIte, reduceCtorEq, Bool.not_true, Bool.not_false, Bool.false_eq_true, decide_true, decide_false, Option.map_some, ix0, i2]
      by_cases hs : ∃ s, d0 = .str s
      · obtain ⟨s, rfl⟩ := hs
        cases (show _ = _ from j0)
        have a2 : isA (.str s) "str" = true := rfl
        simp only [a2, callF, sSeq, sSet, sRet, sRetN, sIf, sExpr, sNil, sPar, xCall, xNil, xCons, xC, xVar, xBin, xUn, xTest, xTru, xAndT, xOrT, xNotT, xAndV, xOrV, xNotV, xIf, xChain, xTup, xLst, xCallN, xMeth, Res.bind_ok, Res.bind_exc, Res.of_some, List.map_cons, List.map_nil, List.length_cons, List.length_nil, List.replicate_succ, List.replicate_zero, Nat.reduceSub, Nat.reduceAdd, Nat.reduceMul, Nat.reduceLeDiff, Nat.reduceEqDiff, Nat.zero_add, Nat.sub_self, List.cons_append, List.nil_append, List.getElem?_cons_zero, List.getElem?_cons_succ, List.set_cons_zero, List.set_cons_succ, if_true, if_false, reduceIte, reduceCtorEq, Bool.not_true, Bool.not_false, Bool.false_eq_true, decide_true, decide_false, Option.map_some, ix0, eq_str, gc_self, pairD]
      · have a2 := strNot fun s e => hs ⟨s, e⟩
        have nd : pairD (.tuple [d0, d1]) w = false := by
          cases d0 with
          | str s => exact absurd ⟨s, rfl⟩ hs
          | _ => rfl
        simp only [a2, callF, sSeq, sSet, sRet, sRetN, sIf, sExpr, sNil, sPar, xCall, xNil, xCons, xC, xVar, xBin, xUn, xTest, xTru, xAndT, xOrT, xNotT, xAndV, xOrV, xNotV, xIf, xChain, xTup, xLst, xCallN, xMeth, Res.bind_ok, Res.bind_exc, Res.of_some, List.map_cons, List.map_nil, List.length_cons, List.length_nil, List.replicate_succ, List.replicate_zero, Nat.reduceSub, Nat.reduceAdd, Nat.reduceMul, Nat.reduceLeDiff, Nat.reduceEqDiff, Nat.zero_add, Nat.sub_self, List.cons_append, List.nil_append, List.getElem?_cons_zero, List.getElem?_cons_succ, List.set_cons_zero, List.set_cons_succ, if_true, if_false, reduceIte, reduceCtorEq, Bool.not_true, Bool.not_false, Bool.false_eq_true, decide_true, decide_false, Option.map_some, gc_self, nd]
    · have q : decide (((ds.length : Nat) : Int) = 2) = false := decide_eq_false (by omega)
      have nd : pairD (.tuple ds) w = false := by
        unfold pairD
        split
        · rename_i e; cases e; exact absurd rfl hl
        · rfl
      simp only [q, callF, sSeq, sSet, sRet, sRetN, sIf, sExpr, sNil, sPar, xCall, xNil, xCons, xC, xVar, xBin, xUn, xTest, xTru, xAndT, xOrT, xNotT, xAndV, xOrV, xNotV, xIf, xChain, xTup, xLst, xCallN, xMeth, Res.bind_ok, Res.bind_exc, Res.of_some, List.map_cons, List.map_nil, List.length_cons, List.length_nil, List.replicate_succ, List.replicate_zero, Nat.reduceSub, Nat.reduceAdd, Nat.reduceMul, Nat.reduceLeDiff, Nat.reduceEqDiff, Nat.zero_add, Nat.sub_self, List.cons_append, List.nil_append, List.getElem?_cons_zero, List.getElem?_cons_succ, List.set_cons_zero, List.set_cons_succ, if_true, if_false, reduceIte, reduceCtorEq, Bool.not_true, Bool.not_false, Bool.false_eq_true, decide_true, decide_false, Option.map_some, gc_self, nd]
  · have a1 := tupNot fun s e => hd ⟨s, e⟩
    have nd : pairD d w = false := by
      cases d with
      | tuple s => exact absurd ⟨s, rfl⟩ hd
      | _ => rfl
    simp only [f_is_pair, x_is_pair, callF, sSeq, sSet, sRet, sRetN, sIf, sExpr, sNil, sPar, xCall, xNil, xCons, xC, xVar, xBin, xUn, xTest, xTru, xAndT, xOrT, xNotT, xAndV, xOrV, xNotV, xIf, xChain, xTup, xLst, xCallN, xMeth, Res.bind_ok, Res.bind_exc, Res.of_some, List.map_cons, List.map_nil, List.length_cons, List.length_nil, List.replicate_succ, List.replicate_zero, Nat.reduceSub, Nat.reduceAdd, Nat.reduceMul, Nat.reduceLeDiff, Nat.reduceEqDiff, Nat.zero_add, Nat.sub_self, List.cons_append, List.nil_append, List.getElem?_cons_zero, List.getElem?_cons_succ, List.set_cons_zero, List.set_cons_succ, if_true, if_false, reduceIte, reduceCtorEq, Bool.not_true, Bool.not_false, Bool.false_eq_true, decide_true, decide_false, Option.map_some, i1, a1, gc_self, nd]
def thingD (d : PyData) : Bool := match d with
  | .tuple [.str t, x] => decide (t = "thing") && numD x 0 999
  | _ => false
theorem thing_eq {h : Hh} {d : PyData} {v : Val} (i : Is h d v) : f_is_thing [v] h = .ok (.bl (thingD d)) h := by
  have p1 := pair_eq i "thing"
  simp only [f_is_thing, x_is_thing, callF, sSeq, sSet, sRet, sRetN, sIf, sExpr, sNil, sPar, xCall, xNil, xCons, xC, xVar, xBin, xUn, xTest, xTru, xAndT, xOrT, xNotT, xAndV, xOrV, xNotV, xIf, xChain, xTup, xLst, xCallN, xMeth, Res.bind_ok, Res.bind_exc, Res.of_some, List.map_cons, List.map_nil, List.length_cons, List.length_nil, List.replicate_succ, List.replicate_zero, Nat.reduceSub, Nat.reduceAdd, Nat.reduceMul, Nat.reduceLeDiff, Nat.reduceEqDiff, Nat.zero_add, Nat.sub_self, List.cons_append, List.nil_append, List.getElem?_cons_zero, List.getElem?_cons_succ, List.set_cons_zero, List.set_cons_succ, if_true, if_false, reduceIte, reduceCtorEq, Bool.not_true, Bool.not_false, Bool.false_eq_true, decide_true, decide_false, Option.map_some, p1]
  by_cases hd : ∃ t x, d = .tuple [.str t, x]
  · obtain ⟨t, x, rfl⟩ := hd
    obtain ⟨xs, rfl, il⟩ := i
    obtain ⟨x0, x1, rfl, j0, j1⟩ := il.two
    simp only [pairD, thingD]
    cases decide (t = Str.ofString "thing") with
    | false => simp only [callF, sSeq, sSet, sRet, sRetN, sIf, sExpr, sNil, sPar, xCall, xNil, xCons, xC, xVar, xBin, xUn, xTest, xTru, xAndT, xOrT, xNotT, xAndV, xOrV, xNotV, xIf, xChain, xTup, xLst, xCallN, xMeth, Res.bind_ok, Res.bind_exc, Res.of_some, List.map_cons, List.map_nil, List.length_cons, List.length_nil, List.replicate_succ, List.replicate_zero, Nat.reduceSub, Nat.reduceAdd, Nat.reduceMul, Nat.reduceLeDiff, Nat.reduceEqDiff, Nat.zero_add, Nat.sub_self, List.cons_append, List.nil_append, List.getElem?_cons_zero, List.getElem?_cons_succ, List.set_cons_zero, List.set_cons_succ, if_true, if_false, reduceIte, reduceCtorEq, Bool.not_true, Bool.not_false, Bool.false_eq_true, decide_true, decide_false, Option.map_some, gc_self, Bool.false_and]
    | true => simp only [callF, sSeq, sSet, sRet, sRetN, sIf, sExpr, sNil, sPar, xCall, xNil, xCons, xC, xVar, xBin, xUn, xTest, xTru, xAndT, xOrT, xNotT, xAndV, xOrV, xNotV, xIf, xChain, xTup, xLst, xCallN, xMeth, Res.bind_ok, Res.bind_exc, Res.of_some, List.map_cons, List.map_nil, List.length_cons, List.length_nil, List.replicate_succ, List.replicate_zero, Nat.reduceSub, Nat.reduceAdd, Nat.reduceMul, Nat.reduceLeDiff, Nat.reduceEqDiff, Nat.zero_add, Nat.sub_self, List.cons_append, List.nil_append, List.getElem?_cons_zero, List.getElem?_cons_succ, List.set_cons_zero, List.set_cons_succ, if_true, if_false, reduceIte, reduceCtorEq, Bool.not_true, Bool.not_false, Bool.false_eq_true, decide_true, decide_false, Option.map_some, ix1, whole_eq j1, gc_self, Bool.true_and]
  · have e1 : pairD d "thing" = false := by
      unfold pairD
      split
      · rename_i t x; exact absurd ⟨t, x, rfl⟩ hd
      · rfl
    have e2 : thingD d = false := by
      unfold thingD
      split
      · rename_i t x; exact absurd ⟨t, x, rfl⟩ hd
      · rfl
    simp only [e1, e2, callF, sSeq, sSet, sRet, sRetN, sIf, sExpr, sNil, sPar, xCall, xNil, xCons, xC, xVar, xBin, xUn, xTest, xTru, xAndT, xOrT, xNotT, xAndV, xOrV, xNotV, xIf, xChain, xTup, xLst, xCallN, xMeth, Res.bind_ok, Res.bind_exc, Res.of_some, List.map_cons, List.map_nil, List.length_cons, List.length_nil, List.replicate_succ, List.replicate_zero, Nat.reduceSub, Nat.reduceAdd, Nat.reduceMul, Nat.reduceLeDiff, Nat.reduceEqDiff, Nat.zero_add, Nat.sub_self, List.cons_append, List.nil_append, List.getElem?_cons_zero, List.getElem?_cons_succ, List.set_cons_zero, List.set_cons_succ, if_true, if_false, reduceIte, reduceCtorEq, Bool.not_true, Bool.not_false, Bool.false_eq_true, decide_true, decide_false, Option.map_some, gc_self]
theorem numb_eq {h : Hh} {d : PyData} {v : Val} (i : Is h d v) : f_is_number [v] h = .ok (.bl (numD d (-1000000000) 1000000000)) h := by
  have w := whole_eq i (-1000000000) 1000000000
  simp only [f_is_number, x_is_number, callF, sSeq, sSet, sRet, sRetN, sIf, sExpr, sNil, sPar, xCall, xNil, xCons, xC, xVar, xBin, xUn, xTest, xTru, xAndT, xOrT, xNotT, xAndV, xOrV, xNotV, xIf, xChain, xTup, xLst, xCallN, xMeth, Res.bind_ok, Res.bind_exc, Res.of_some, List.map_cons, List.map_nil, List.length_cons, List.length_nil, List.replicate_succ, List.replicate_zero, Nat.reduceSub, Nat.reduceAdd, Nat.reduceMul, Nat.reduceLeDiff, Nat.reduceEqDiff, Nat.zero_add, Nat.sub_self, List.cons_append, List.nil_append, List.getElem?_cons_zero, List.getElem?_cons_succ, List.set_cons_zero, List.set_cons_succ, if_true, if_false, reduceIte, reduceCtorEq, Bool.not_true, Bool.not_false, Bool.false_eq_true, decide_true, decide_false, Option.map_some, oNeg, w, gc_self]
def noneD : PyData → Bool
  | .none => true
  | _ => false
def baseD (d : PyData) : Bool := noneD d || (numD d (-1000000000) 1000000000 || (textD d || thingD d))
def rowF (f : PyData → Bool) (d : PyData) : Bool := match d with
  | .tuple [.str t, .tuple ps] => decide (t = "row") && (decide (ps.length ≤ 30) && ps.all f)
  | _ => false
/-- what is a worth, n deep -/
def worthD : Nat → PyData → Bool
  | 0, d => baseD d
  | n + 1, d => baseD d || rowF (worthD n) d
theorem base_worth {d : PyData} (h : baseD d = true) : ∀ n, worthD n d = true
  | 0 => h
  | n + 1 => by
    show (baseD d || _) = true
    rw [h]; rfl
theorem is_non {h : Hh} {d : PyData} {v : Val} (i : Is h d v) : oIs v .non h = some (.bl (noneD d), h) := by
  cases d with
  | none => cases (show _ = _ from i); rfl
  | bool b => cases (show _ = _ from i); rfl
  | int b => cases (show _ = _ from i); rfl
  | str b => cases (show _ = _ from i); rfl
  | tuple ds => obtain ⟨xs, rfl, _⟩ := i; rfl
  | list ds => obtain ⟨n, xs, rfl, g, _⟩ := i; rfl
  | dict ds => obtain ⟨n, xs, rfl, g, _⟩ := i; rfl
end K

set_option Elab.async false
set_option linter.all false
set_option maxRecDepth 100000
set_option maxHeartbeats 4000000
namespace K
open PySem L2 EX
abbrev rowD (n : Nat) (d : PyData) : Bool := rowF (worthD n) d
theorem gt_int {a b : Int} {g : Hh} : oGt (.int a) (.int b) g = some (.bl (decide (b < a)), g) := rfl
theorem IsT {h : Hh} {ds : List PyData} {v : Val} (i : Is h (.tuple ds) v) : ∃ xs, v = .tup xs ∧ IsL h ds xs := i
theorem iter_tup {xs : List Val} {h : Hh} : itOf (.tup xs) h = some (.items xs) := rfl
theorem bl_und {n : Nat} {acc : List Val} (h : ∀ y ∈ acc, ∃ b, y = Val.bl b) : (Ob.lst acc).und n = true := undL_of fun y m => by obtain ⟨b, e⟩ := h y m; rw [e]; rfl
theorem worth_eq : ∀ (n : Nat) {k : Nat} {h : Hh} {d : PyData} {v : Val}, Is h d v → Cl h → okD d = true → d.depth < 40 → n < k → f_is_worth_within k [v, .int n] h = .ok (.bl (worthD n d)) h
  | n, 0, h, d, v, _, _, _, _, hk => by omega
  | n, k + 1, h, d, v, i, c, ok, dp, hk => by
    have t1 := is_non i
    have t2 := numb_eq i
    have t3 := text_eq i c (okD.short ok)
    have t4 := thing_eq i
    have p1 := pair_eq i "row"
    simp only [f_is_worth_within, x_is_worth_within, callF, sSeq, sSet, sRet, sRetN, sIf, sExpr, sNil, sPar, xCall, xNil, xCons, xC, xVar, xBin, xUn, xTest, xTru, xAndT, xOrT, xNotT, xAndV, xOrV, xNotV, xIf, xChain, xTup, xLst, xCallN, xMeth, Res.bind_ok, Res.bind_exc, Res.of_some, List.map_cons, List.map_nil, List.length_cons, List.length_nil, List.replicate_succ, List.replicate_zero, Nat.reduceSub, Nat.reduceAdd, Nat.reduceMul, Nat.reduceLeDiff, Nat.reduceEqDiff, Nat.zero_add, Nat.sub_self, List.cons_append, List.nil_append, List.getElem?_cons_zero, List.getElem?_cons_succ, List.set_cons_zero, List.set_cons_succ, if_true, if_false, reduceIte, reduceCtorEq, Bool.not_true, Bool.not_false, Bool.false_eq_true, decide_true, decide_false, Option.map_some, t1]
    cases e1 : noneD d with
    | true =>
      have w : worthD n d = true := base_worth (by unfold baseD; rw [e1]; rfl) n
      simp only [callF, sSeq, sSet, sRet, sRetN, sIf, sExpr, sNil, sPar, xCall, xNil, xCons, xC, xVar, xBin, xUn, xTest, xTru, xAndT, xOrT, xNotT, xAndV, xOrV, xNotV, xIf, xChain, xTup, xLst, xCallN, xMeth, Res.bind_ok, Res.bind_exc, Res.of_some, List.map_cons, List.map_nil, List.length_cons, List.length_nil, List.replicate_succ, List.replicate_zero, Nat.reduceSub, Nat.reduceAdd, Nat.reduceMul, Nat.reduceLeDiff, Nat.reduceEqDiff, Nat.zero_add, Nat.sub_self, List.cons_append, List.nil_append, List.getElem?_cons_zero, List.getElem?_cons_succ, List.set_cons_zero, List.set_cons_succ, if_true, if_false, reduceIte, reduceCtorEq, Bool.not_true, Bool.not_false, Bool.false_eq_true, decide_true, decide_false, Option.map_some, gc_self, w]
    | false =>
    simp only [callF, sSeq, sSet, sRet, sRetN, sIf, sExpr, sNil, sPar, xCall, xNil, xCons, xC, xVar, xBin, xUn, xTest, xTru, xAndT, xOrT, xNotT, xAndV, xOrV, xNotV, xIf, xChain, xTup, xLst, xCallN, xMeth, Res.bind_ok, Res.bind_exc, Res.of_some, List.map_cons, List.map_nil, List.length_cons, List.length_nil, List.replicate_succ, List.replicate_zero, Nat.reduceSub, Nat.reduceAdd, Nat.reduceMul, Nat.reduceLeDiff, Nat.reduceEqDiff, Nat.zero_add, Nat.sub_self, List.cons_append, List.nil_append, List.getElem?_cons_zero, List.getElem?_cons_succ, List.set_cons_zero, List.set_cons_succ, if_true, if_false, reduceIte, reduceCtorEq, Bool.not_true, Bool.not_false, Bool.false_eq_true, decide_true, decide_false, Option.map_some, t2, truth]
    cases e2 : numD d (-1000000000) 1000000000 with
    | true =>
      have w : worthD n d = true := base_worth (by unfold baseD; rw [e1, e2]; rfl) n
      simp only [callF, sSeq, sSet, sRet, sRetN, sIf, sExpr, sNil, sPar, xCall, xNil, xCons, xC, xVar, xBin, xUn, xTest, xTru, xAndT, xOrT, xNotT, xAndV, xOrV, xNotV, xIf, xChain, xTup, xLst, xCallN, xMeth, Res.bind_ok, Res.bind_exc, Res.of_some, List.map_cons, List.map_nil, List.length_cons, List.length_nil, List.replicate_succ, List.replicate_zero, Nat.reduceSub, Nat.reduceAdd, Nat.reduceMul, Nat.reduceLeDiff, Nat.reduceEqDiff, Nat.zero_add, Nat.sub_self, List.cons_append, List.nil_append, List.getElem?_cons_zero, List.getElem?_cons_succ, List.set_cons_zero, List.set_cons_succ, if_true, if_false, reduceIte, reduceCtorEq, Bool.not_true, Bool.not_false, Bool.false_eq_true, decide_true, decide_false, Option.map_some, gc_self, w]
    | false =>
    simp only [callF, sSeq, sSet, sRet, sRetN, sIf, sExpr, sNil, sPar, xCall, xNil, xCons, xC, xVar, xBin, xUn, xTest, xTru, xAndT, xOrT, xNotT, xAndV, xOrV, xNotV, xIf, xChain, xTup, xLst, xCallN, xMeth, Res.bind_ok, Res.bind_exc, Res.of_some, List.map_cons, List.map_nil, List.length_cons, List.length_nil, List.replicate_succ, List.replicate_zero, Nat.reduceSub, Nat.reduceAdd, Nat.reduceMul, Nat.reduceLeDiff, Nat.reduceEqDiff, Nat.zero_add, Nat.sub_self, List.cons_append, List.nil_append, List.getElem?_cons_zero, List.getElem?_cons_succ, List.set_cons_zero, List.set_cons_succ, if_true, if_false, reduceIte, reduceCtorEq, Bool.not_true, Bool.not_false, Bool.false_eq_true, decide_true, decide_false, Option.map_some, t3, truth]
    cases e3 : textD d with
    | true =>
      have w : worthD n d = true := base_worth (by unfold baseD; rw [e1, e2, e3]; rfl) n
      simp only [callF, sSeq, sSet, sRet, sRetN, sIf, sExpr, sNil, sPar, xCall, xNil, xCons, xC, xVar, xBin, xUn, xTest, xTru, xAndT, xOrT, xNotT, xAndV, xOrV, xNotV, xIf, xChain, xTup, xLst, xCallN, xMeth, Res.bind_ok, Res.bind_exc, Res.of_some, List.map_cons, List.map_nil, List.length_cons, List.length_nil, List.replicate_succ, List.replicate_zero, Nat.reduceSub, Nat.reduceAdd, Nat.reduceMul, Nat.reduceLeDiff, Nat.reduceEqDiff, Nat.zero_add, Nat.sub_self, List.cons_append, List.nil_append, List.getElem?_cons_zero, List.getElem?_cons_succ, List.set_cons_zero, List.set_cons_succ, if_true, if_false, reduceIte, reduceCtorEq, Bool.not_true, Bool.not_false, Bool.false_eq_true, decide_true, decide_false, Option.map_some, gc_self, w]
    | false =>
    simp only [callF, sSeq, sSet, sRet, sRetN, sIf, sExpr, sNil, sPar, xCall, xNil, xCons, xC, xVar, xBin, xUn, xTest, xTru, xAndT, xOrT, xNotT, xAndV, xOrV, xNotV, xIf, xChain, xTup, xLst, xCallN, xMeth, Res.bind_ok, Res.bind_exc, Res.of_some, List.map_cons, List.map_nil, List.length_cons, List.length_nil, List.replicate_succ, List.replicate_zero, Nat.reduceSub, Nat.reduceAdd, Nat.reduceMul, Nat.reduceLeDiff, Nat.reduceEqDiff, Nat.zero_add, Nat.sub_self, List.cons_append, List.nil_append, List.getElem?_cons_zero, List.getElem?_cons_succ, List.set_cons_zero, List.set_cons_succ, if_true, if_false, reduceIte, reduceCtorEq, Bool.not_true, Bool.not_false, Bool.false_eq_true, decide_true, decide_false, Option.map_some, t4, truth]
    cases e4 : thingD d with
    | true =>
      have w : worthD n d = true := base_worth (by unfold baseD; rw [e1, e2, e3, e4]; rfl) n
      simp only [callF, sSeq, sSet, sRet, sRetN, sIf, sExpr, sNil, sPar, xCall, xNil, xCons, xC, xVar, xBin, xUn, xTest, xTru, xAndT, xOrT, xNotT, xAndV, xOrV, xNotV, xIf, xChain, xTup, xLst, xCallN, xMeth, Res.bind_ok, Res.bind_exc, Res.of_some, List.map_cons, List.map_nil, List.length_cons, List.length_nil, List.replicate_succ, List.replicate_zero, Nat.reduceSub, Nat.reduceAdd, Nat.reduceMul, Nat.reduceLeDiff, Nat.reduceEqDiff, Nat.zero_add, Nat.sub_self, List.cons_append, List.nil_append, List.getElem?_cons_zero, List.getElem?_cons_succ, List.set_cons_zero, List.set_cons_succ, if_true, if_false, reduceIte, reduceCtorEq, Bool.not_true, Bool.not_false, Bool.false_eq_true, decide_true, decide_false, Option.map_some, gc_self, w]
    | false =>
    match n with
    | 0 =>
      have w : worthD 0 d = false := by show baseD d = false; unfold baseD; rw [e1, e2, e3, e4]; rfl
      have q : decide (((0 : Nat) : Int) = 0) = true := rfl
      simp only [callF, sSeq, sSet, sRet, sRetN, sIf, sExpr, sNil, sPar, xCall, xNil, xCons, xC, xVar, xBin, xUn, xTest, xTru, xAndT, xOrT, xNotT, xAndV, xOrV, xNotV, xIf, xChain, xTup, xLst, xCallN, xMeth, Res.bind_ok, Res.bind_exc, Res.of_some, List.map_cons, List.map_nil, List.length_cons, List.length_nil, List.replicate_succ, List.replicate_zero, Nat.reduceSub, Nat.reduceAdd, Nat.reduceMul, Nat.reduceLeDiff, Nat.reduceEqDiff, Nat.zero_add, Nat.sub_self, List.cons_append, List.nil_append, List.getElem?_cons_zero, List.getElem?_cons_succ, List.set_cons_zero, List.set_cons_succ, if_true, if_false, reduceIte, reduceCtorEq, Bool.not_true, Bool.not_false, Bool.false_eq_true, decide_true, decide_false, Option.map_some, eq_int, q, gc_self, w]
    | n + 1 =>
      have w : worthD (n + 1) d = rowD n d := by show (baseD d || _) = _; unfold baseD; rw [e1, e2, e3, e4]; rfl
      have q : decide (((n + 1 : Nat) : Int) = 0) = false := decide_eq_false (by omega)
      simp only [callF, sSeq, sSet, sRet, sRetN, sIf, sExpr, sNil, sPar, xCall, xNil, xCons, xC, xVar, xBin, xUn, xTest, xTru, xAndT, xOrT, xNotT, xAndV, xOrV, xNotV, xIf, xChain, xTup, xLst, xCallN, xMeth, Res.bind_ok, Res.bind_exc, Res.of_some, List.map_cons, List.map_nil, List.length_cons, List.length_nil, List.replicate_succ, List.replicate_zero, Nat.reduceSub, Nat.reduceAdd, Nat.reduceMul, Nat.reduceLeDiff, Nat.reduceEqDiff, Nat.zero_add, Nat.sub_self, List.cons_append, List.nil_append, List.getElem?_cons_zero, List.getElem?_cons_succ, List.set_cons_zero, List.set_cons_succ, if_true, if_false, reduceIte, reduceCtorEq, Bool.not_true, Bool.not_false, Bool.false_eq_true, decide_true, decide_false, Option.map_some, eq_int, q, p1, truth, w]
      by_cases hd : ∃ t x, d = .tuple [.str t, x]
      · obtain ⟨t, x, rfl⟩ := hd
        obtain ⟨xs, rfl, il⟩ := i
        obtain ⟨x0, x1, rfl, j0, j1⟩ := il.two
        by_cases ht : t = "row"
        · subst ht
          have pe : pairD (.tuple [.str (Str.ofString "row"), x]) (Str.ofString "row") = true := by simp [pairD]
          have i3 := j1.isi "tuple"
          simp only [pe, callF, sSeq, sSet, sRet, sRetN, sIf, sExpr, sNil, sPar, xCall, xNil, xCons, xC, xVar, xBin, xUn, xTest, xTru, xAndT, xOrT, xNotT, xAndV, xOrV, xNotV, xIf, xChain, xTup, xLst, xCallN, xMeth, Res.bind_ok, Res.bind_exc, Res.of_some, List.map_cons, List.map_nil, List.length_cons, List.length_nil, List.replicate_succ, List.replicate_zero, Nat.reduceSub, Nat.reduceAdd, Nat.reduceMul, Nat.reduceLeDiff, Nat.reduceEqDiff, Nat.zero_add, Nat.sub_self, List.cons_append, List.nil_append, List.getElem?_cons_zero, List.getElem?_cons_succ, List.set_cons_zero, List.set_cons_succ, if_true, if_false, reduceIte, reduceCtorEq, Bool.not_true, Bool.not_false, Bool.false_eq_true, decide_true, decide_false, Option.map_some, ix1, i3, truth]
          by_cases hx : ∃ ps, x = .tuple ps
          · obtain ⟨ps, rfl⟩ := hx
            obtain ⟨ys, rfl, iy⟩ := IsT j1
            have a3 : isA (.tuple ps) "tuple" = true := rfl
            have okp : okL ps = true := by
              exact (okD_row ok).2
            have dpp : PyData.depthAll ps < 39 := by simp only [PyData.depth, PyData.depthAll] at dp; omega
            have hr : rowD n (.tuple [.str (Str.ofString "row"), .tuple ps]) = (decide (ps.length ≤ 30) && ps.all (worthD n)) := by simp [rowD, rowF]
            have q3 : decide ((30 : Int) < (ys.length : Int)) = !decide (ps.length ≤ 30) := by
              rw [← decide_not, iy.len]; congr 1; exact propext (by omega)
            simp only [a3, callF, sSeq, sSet, sRet, sRetN, sIf, sExpr, sNil, sPar, xCall, xNil, xCons, xC, xVar, xBin, xUn, xTest, xTru, xAndT, xOrT, xNotT, xAndV, xOrV, xNotV, xIf, xChain, xTup, xLst, xCallN, xMeth, Res.bind_ok, Res.bind_exc, Res.of_some, List.map_cons, List.map_nil, List.length_cons, List.length_nil, List.replicate_succ, List.replicate_zero, Nat.reduceSub, Nat.reduceAdd, Nat.reduceMul, Nat.reduceLeDiff, Nat.reduceEqDiff, Nat.zero_add, Nat.sub_self, List.cons_append, List.nil_append, List.getElem?_cons_zero, List.getElem?_cons_succ, List.set_cons_zero, List.set_cons_succ, if_true, if_false, reduceIte, reduceCtorEq, Bool.not_true, Bool.not_false, Bool.false_eq_true, decide_true, decide_false, Option.map_some, ix1, len_tup, gt_int, q3, hr]
            by_cases hl : ps.length ≤ 30
            · simp only [hl, callF, sSeq, sSet, sRet, sRetN, sIf, sExpr, sNil, sPar, xCall, xNil, xCons, xC, xVar, xBin, xUn, xTest, xTru, xAndT, xOrT, xNotT, xAndV, xOrV, xNotV, xIf, xChain, xTup, xLst, xCallN, xMeth, Res.bind_ok, Res.bind_exc, Res.of_some, List.map_cons, List.map_nil, List.length_cons, List.length_nil, List.replicate_succ, List.replicate_zero, Nat.reduceSub, Nat.reduceAdd, Nat.reduceMul, Nat.reduceLeDiff, Nat.reduceEqDiff, Nat.zero_add, Nat.sub_self, List.cons_append, List.nil_append, List.getElem?_cons_zero, List.getElem?_cons_succ, List.set_cons_zero, List.set_cons_succ, if_true, if_false, reduceIte, reduceCtorEq, Bool.not_true, Bool.not_false, Bool.false_eq_true, decide_true, decide_false, Option.map_some, Bool.true_and]
              have cp0 := comp_pure (xi := xIter (xBin oIx (xVar 0) (xC (.int 1)))) (t := .name 2) (tt := xYes) (x := xCall 2 (f_is_worth_within k) (xCons (xVar 2) (xCons (xBin oSub (xVar 1) (xC (.int 1))) (xNil)))) (vs := [2]) (e := [some (.tup [x0, .tup ys]), some (.int ((n + 1 : Nat) : Int)), none]) (h := h) (h1 := h) (xs := ys)
                (fun v => .bl (worthD n (dv h v))) (fun _ => true) (by simp only [xIter, callF, sSeq, sSet, sRet, sRetN, sIf, sExpr, sNil, sPar, xCall, xNil, xCons, xC, xVar, xBin, xUn, xTest, xTru, xAndT, xOrT, xNotT, xAndV, xOrV, xNotV, xIf, xChain, xTup, xLst, xCallN, xMeth, Res.bind_ok, Res.bind_exc, Res.of_some, List.map_cons, List.map_nil, List.length_cons, List.length_nil, List.replicate_succ, List.replicate_zero, Nat.reduceSub, Nat.reduceAdd, Nat.reduceMul, Nat.reduceLeDiff, Nat.reduceEqDiff, Nat.zero_add, Nat.sub_self, List.cons_append, List.nil_append, List.getElem?_cons_zero, List.getElem?_cons_succ, List.set_cons_zero, List.set_cons_succ, if_true, if_false, reduceIte, reduceCtorEq, Bool.not_true, Bool.not_false, Bool.false_eq_true, decide_true, decide_false, Option.map_some, ix1, iter_tup]) (by rw [iy.len, sizeLine_eq]; omega) (fun v m => by
                  obtain ⟨dd, md, iv⟩ := iy.mem v m
                  refine ⟨_, rfl, fun acc ha => ⟨rfl, fun _ => ?_⟩⟩
                  have dd1 := depthAll_mem md
                  have ih := worth_eq n (k := k) (iv.app (l := [.lst acc])) (c.app (bl_und fun y my => by obtain ⟨u, _, e⟩ := ha y my; exact ⟨_, e⟩)) (okL_mem okp dd md) (by omega) (by omega)
                  have es : ((n + 1 : Nat) : Int) - 1 = (n : Int) := by omega
                  simp only [wipeE, callF, sSeq, sSet, sRet, sRetN, sIf, sExpr, sNil, sPar, xCall, xNil, xCons, xC, xVar, xBin, xUn, xTest, xTru, xAndT, xOrT, xNotT, xAndV, xOrV, xNotV, xIf, xChain, xTup, xLst, xCallN, xMeth, Res.bind_ok, Res.bind_exc, Res.of_some, List.map_cons, List.map_nil, List.length_cons, List.length_nil, List.replicate_succ, List.replicate_zero, Nat.reduceSub, Nat.reduceAdd, Nat.reduceMul, Nat.reduceLeDiff, Nat.reduceEqDiff, Nat.zero_add, Nat.sub_self, List.cons_append, List.nil_append, List.getElem?_cons_zero, List.getElem?_cons_succ, List.set_cons_zero, List.set_cons_succ, if_true, if_false, reduceIte, reduceCtorEq, Bool.not_true, Bool.not_false, Bool.false_eq_true, decide_true, decide_false, Option.map_some, oSub, es, ih, iv.dv (by omega)])
              rw [filter_all] at cp0
              have em : (ys.map fun v => Val.bl (worthD n (dv h v))) = ps.map fun d => Val.bl (worthD n d) := by
                have := iy.dv (by omega)
                rw [← this, List.map_map]
                rfl
              rw [em] at cp0
              have al := all_bl (g := h ++ [Ob.lst (ps.map fun d => Val.bl (worthD n d))]) (n := h.length) (p := worthD n) (xs := ps) (get_new rfl)
              have gE : ∀ b : Bool, gc h.length (.bl b) (h ++ [Ob.lst (ps.map fun d => Val.bl (worthD n d))]) = h := fun b => gc_app rfl rfl c
              simp only [cp0, callF, sSeq, sSet, sRet, sRetN, sIf, sExpr, sNil, sPar, xCall, xNil, xCons, xC, xVar, xBin, xUn, xTest, xTru, xAndT, xOrT, xNotT, xAndV, xOrV, xNotV, xIf, xChain, xTup, xLst, xCallN, xMeth, Res.bind_ok, Res.bind_exc, Res.of_some, List.map_cons, List.map_nil, List.length_cons, List.length_nil, List.replicate_succ, List.replicate_zero, Nat.reduceSub, Nat.reduceAdd, Nat.reduceMul, Nat.reduceLeDiff, Nat.reduceEqDiff, Nat.zero_add, Nat.sub_self, List.cons_append, List.nil_append, List.getElem?_cons_zero, List.getElem?_cons_succ, List.set_cons_zero, List.set_cons_succ, if_true, if_false, reduceIte, reduceCtorEq, Bool.not_true, Bool.not_false, Bool.false_eq_true, decide_true, decide_false, Option.map_some, al, gE]
            · simp only [hl, callF, sSeq, sSet, sRet, sRetN, sIf, sExpr, sNil, sPar, xCall, xNil, xCons, xC, xVar, xBin, xUn, xTest, xTru, xAndT, xOrT, xNotT, xAndV, xOrV, xNotV, xIf, xChain, xTup, xLst, xCallN, xMeth, Res.bind_ok, Res.bind_exc, Res.of_some, List.map_cons, List.map_nil, List.length_cons, List.length_nil, List.replicate_succ, List.replicate_zero, Nat.reduceSub, Nat.reduceAdd, Nat.reduceMul, Nat.reduceLeDiff, Nat.reduceEqDiff, Nat.zero_add, Nat.sub_self, List.cons_append, List.nil_append, List.getElem?_cons_zero, List.getElem?_cons_succ, List.set_cons_zero, List.set_cons_succ, if_true, if_false, reduceIte, reduceCtorEq, Bool.not_true, Bool.not_false, Bool.false_eq_true, decide_true, decide_false, Option.map_some, gc_self, Bool.false_and]
          · have a3 := tupNot fun s e => hx ⟨s, e⟩
            have hr : rowD n (.tuple [.str (Str.ofString "row"), x]) = false := by
              cases x with
              | tuple ps => exact absurd ⟨ps, rfl⟩ hx
              | _ => rfl
            simp only [a3, callF, sSeq, sSet, sRet, sRetN, sIf, sExpr, sNil, sPar, xCall, xNil, xCons, xC, xVar, xBin, xUn, xTest, xTru, xAndT, xOrT, xNotT, xAndV, xOrV, xNotV, xIf, xChain, xTup, xLst, xCallN, xMeth, Res.bind_ok, Res.bind_exc, Res.of_some, List.map_cons, List.map_nil, List.length_cons, List.length_nil, List.replicate_succ, List.replicate_zero, Nat.reduceSub, Nat.reduceAdd, Nat.reduceMul, Nat.reduceLeDiff, Nat.reduceEqDiff, Nat.zero_add, Nat.sub_self, List.cons_append, List.nil_append, List.getElem?_cons_zero, List.getElem?_cons_succ, List.set_cons_zero, List.set_cons_succ, if_true, if_false, reduceIte, reduceCtorEq, Bool.not_true, Bool.not_false, Bool.false_eq_true, decide_true, decide_false, Option.map_some, gc_self, hr]
        · have pe : pairD (.tuple [.str t, x]) (Str.ofString "row") = false := by simpa [pairD] using ht
          have hr : rowD n (.tuple [.str t, x]) = false := by
            unfold rowD rowF
            split
            · rename_i e
              cases e
              simp [ht]
            · rfl
          simp only [pe, callF, sSeq, sSet, sRet, sRetN, sIf, sExpr, sNil, sPar, xCall, xNil, xCons, xC, xVar, xBin, xUn, xTest, xTru, xAndT, xOrT, xNotT, xAndV, xOrV, xNotV, xIf, xChain, xTup, xLst, xCallN, xMeth, Res.bind_ok, Res.bind_exc, Res.of_some, List.map_cons, List.map_nil, List.length_cons, List.length_nil, List.replicate_succ, List.replicate_zero, Nat.reduceSub, Nat.reduceAdd, Nat.reduceMul, Nat.reduceLeDiff, Nat.reduceEqDiff, Nat.zero_add, Nat.sub_self, List.cons_append, List.nil_append, List.getElem?_cons_zero, List.getElem?_cons_succ, List.set_cons_zero, List.set_cons_succ, if_true, if_false, reduceIte, reduceCtorEq, Bool.not_true, Bool.not_false, Bool.false_eq_true, decide_true, decide_false, Option.map_some, gc_self, hr]
      · have pe : pairD d (Str.ofString "row") = false := by
          unfold pairD
          split
          · rename_i t x; exact absurd ⟨t, x, rfl⟩ hd
          · rfl
        have hr : rowD n d = false := by
          unfold rowD rowF
          split
          · rename_i t x; exact absurd ⟨t, _, rfl⟩ hd
          · rfl
        simp only [pe, callF, sSeq, sSet, sRet, sRetN, sIf, sExpr, sNil, sPar, xCall, xNil, xCons, xC, xVar, xBin, xUn, xTest, xTru, xAndT, xOrT, xNotT, xAndV, xOrV, xNotV, xIf, xChain, xTup, xLst, xCallN, xMeth, Res.bind_ok, Res.bind_exc, Res.of_some, List.map_cons, List.map_nil, List.length_cons, List.length_nil, List.replicate_succ, List.replicate_zero, Nat.reduceSub, Nat.reduceAdd, Nat.reduceMul, Nat.reduceLeDiff, Nat.reduceEqDiff, Nat.zero_add, Nat.sub_self, List.cons_append, List.nil_append, List.getElem?_cons_zero, List.getElem?_cons_succ, List.set_cons_zero, List.set_cons_succ, if_true, if_false, reduceIte, reduceCtorEq, Bool.not_true, Bool.not_false, Bool.false_eq_true, decide_true, decide_false, Option.map_some, gc_self, hr]
end K

set_option Elab.async false
set_option linter.all false
set_option maxRecDepth 100000
set_option maxHeartbeats 4000000
namespace K
open PySem L2 EX
theorem pow9 {g : Hh} : oPow (.int 10) (.int 9) g = some (.int 1000000000, g) := rfl
theorem sub9 {g : Hh} : oSub (.int 0) (.int 1000000000) g = some (.int (-1000000000), g) := rfl
def strEqD (d : PyData) (w : Str) : Bool := match d with
  | .str t => decide (t = w)
  | _ => false
theorem eq_sc {h g : Hh} {d : PyData} {v : Val} {w : Str} (i : Is h d v) (hs : scalarD d = true) : oEq v (.str w) g = some (.bl (strEqD d w), g) := by
  cases d with
  | none => cases (show _ = _ from i); rfl
  | bool b => cases (show _ = _ from i); rfl
  | int b => cases (show _ = _ from i); rfl
  | str b => cases (show _ = _ from i); rfl
  | _ => cases hs
theorem ne_sc {h g : Hh} {d : PyData} {v : Val} {w : Str} (i : Is h d v) (hs : scalarD d = true) : oNe v (.str w) g = some (.bl (!strEqD d w), g) := by
  cases d with
  | none => cases (show _ = _ from i); rfl
  | bool b => cases (show _ = _ from i); rfl
  | int b => cases (show _ = _ from i); rfl
  | str b => cases (show _ = _ from i); rfl
  | _ => cases hs
theorem base_of3 {d : PyData} (h1 : noneD d = false) (h2 : numD d (-1000000000) 1000000000 = false) (h3 : textD d = false) (n : Nat) : worthD n d = (thingD d || match n with | 0 => false | n + 1 => rowD n d) := by
  cases n with
  | zero => show baseD d = _; unfold baseD; rw [h1, h2, h3]; simp
  | succ n => show (baseD d || _) = _; unfold baseD; rw [h1, h2, h3]; simp
theorem lworth_eq : ∀ (n : Nat) {k : Nat} {h : Hh} {d : PyData} {v : Val}, Is h d v → Cl h → okD d = true → d.depth < 40 → n < k → f__law_is_worth k [v, .int n] h = .ok (.bl (worthD n d)) h
  | n, 0, h, d, v, _, _, _, _, hk => by omega
  | n, k + 1, h, d, v, i, c, ok, dp, hk => by
    have t1 := is_non i
    have t2 := number_eq i (-1000000000) 1000000000
    have t3 := ltext_eq i c (okD.short ok)
    have i1 := i.isi "tuple"
    simp only [f__law_is_worth, x__law_is_worth, callF, sSeq, sSet, sRet, sRetN, sIf, sExpr, sNil, sPar, xCall, xNil, xCons, xC, xVar, xBin, xUn, xTest, xTru, xAndT, xOrT, xNotT, xAndV, xOrV, xNotV, xIf, xChain, xTup, xLst, xCallN, xMeth, Res.bind_ok, Res.bind_exc, Res.of_some, List.map_cons, List.map_nil, List.length_cons, List.length_nil, List.replicate_succ, List.replicate_zero, Nat.reduceSub, Nat.reduceAdd, Nat.reduceMul, Nat.reduceLeDiff, Nat.reduceEqDiff, Nat.zero_add, Nat.sub_self, List.cons_append, List.nil_append, List.getElem?_cons_zero, List.getElem?_cons_succ, List.set_cons_zero, List.set_cons_succ, if_true, if_false, reduceIte, reduceCtorEq, Bool.not_true, Bool.not_false, Bool.false_eq_true, decide_true, decide_false, Option.map_some, t1]
    cases e1 : noneD d with
    | true =>
      have w : worthD n d = true := base_worth (by unfold baseD; rw [e1]; rfl) n
      simp only [callF, sSeq, sSet, sRet, sRetN, sIf, sExpr, sNil, sPar, xCall, xNil, xCons, xC, xVar, xBin, xUn, xTest, xTru, xAndT, xOrT, xNotT, xAndV, xOrV, xNotV, xIf, xChain, xTup, xLst, xCallN, xMeth, Res.bind_ok, Res.bind_exc, Res.of_some, List.map_cons, List.map_nil, List.length_cons, List.length_nil, List.replicate_succ, List.replicate_zero, Nat.reduceSub, Nat.reduceAdd, Nat.reduceMul, Nat.reduceLeDiff, Nat.reduceEqDiff, Nat.zero_add, Nat.sub_self, List.cons_append, List.nil_append, List.getElem?_cons_zero, List.getElem?_cons_succ, List.set_cons_zero, List.set_cons_succ, if_true, if_false, reduceIte, reduceCtorEq, Bool.not_true, Bool.not_false, Bool.false_eq_true, decide_true, decide_false, Option.map_some, gc_self, w]
    | false =>
    simp only [callF, sSeq, sSet, sRet, sRetN, sIf, sExpr, sNil, sPar, xCall, xNil, xCons, xC, xVar, xBin, xUn, xTest, xTru, xAndT, xOrT, xNotT, xAndV, xOrV, xNotV, xIf, xChain, xTup, xLst, xCallN, xMeth, Res.bind_ok, Res.bind_exc, Res.of_some, List.map_cons, List.map_nil, List.length_cons, List.length_nil, List.replicate_succ, List.replicate_zero, Nat.reduceSub, Nat.reduceAdd, Nat.reduceMul, Nat.reduceLeDiff, Nat.reduceEqDiff, Nat.zero_add, Nat.sub_self, List.cons_append, List.nil_append, List.getElem?_cons_zero, List.getElem?_cons_succ, List.set_cons_zero, List.set_cons_succ, if_true, if_false, reduceIte, reduceCtorEq, Bool.not_true, Bool.not_false, Bool.false_eq_true, decide_true, decide_false, Option.map_some, pow9, sub9, t2, truth]
    cases e2 : numD d (-1000000000) 1000000000 with
    | true =>
      have w : worthD n d = true := base_worth (by unfold baseD; rw [e1, e2]; rfl) n
      simp only [callF, sSeq, sSet, sRet, sRetN, sIf, sExpr, sNil, sPar, xCall, xNil, xCons, xC, xVar, xBin, xUn, xTest, xTru, xAndT, xOrT, xNotT, xAndV, xOrV, xNotV, xIf, xChain, xTup, xLst, xCallN, xMeth, Res.bind_ok, Res.bind_exc, Res.of_some, List.map_cons, List.map_nil, List.length_cons, List.length_nil, List.replicate_succ, List.replicate_zero, Nat.reduceSub, Nat.reduceAdd, Nat.reduceMul, Nat.reduceLeDiff, Nat.reduceEqDiff, Nat.zero_add, Nat.sub_self, List.cons_append, List.nil_append, List.getElem?_cons_zero, List.getElem?_cons_succ, List.set_cons_zero, List.set_cons_succ, if_true, if_false, reduceIte, reduceCtorEq, Bool.not_true, Bool.not_false, Bool.false_eq_true, decide_true, decide_false, Option.map_some, gc_self, w]
    | false =>
    simp only [callF, sSeq, sSet, sRet, sRetN, sIf, sExpr, sNil, sPar, xCall, xNil, xCons, xC, xVar, xBin, xUn, xTest, xTru, xAndT, xOrT, xNotT, xAndV, xOrV, xNotV, xIf, xChain, xTup, xLst, xCallN, xMeth, Res.bind_ok, Res.bind_exc, Res.of_some, List.map_cons, List.map_nil, List.length_cons, List.length_nil, List.replicate_succ, List.replicate_zero, Nat.reduceSub, Nat.reduceAdd, Nat.reduceMul, Nat.reduceLeDiff, Nat.reduceEqDiff, Nat.zero_add, Nat.sub_self, List.cons_append, List.nil_append, List.getElem?_cons_zero, List.getElem?_cons_succ, List.set_cons_zero, List.set_cons_succ, if_true, if_false, reduceIte, reduceCtorEq, Bool.not_true, Bool.not_false, Bool.false_eq_true, decide_true, decide_false, Option.map_some, t3, truth]
    cases e3 : textD d with
    | true =>
      have w : worthD n d = true := base_worth (by unfold baseD; rw [e1, e2, e3]; rfl) n
      simp only [callF, sSeq, sSet, sRet, sRetN, sIf, sExpr, sNil, sPar, xCall, xNil, xCons, xC, xVar, xBin, xUn, xTest, xTru, xAndT, xOrT, xNotT, xAndV, xOrV, xNotV, xIf, xChain, xTup, xLst, xCallN, xMeth, Res.bind_ok, Res.bind_exc, Res.of_some, List.map_cons, List.map_nil, List.length_cons, List.length_nil, List.replicate_succ, List.replicate_zero, Nat.reduceSub, Nat.reduceAdd, Nat.reduceMul, Nat.reduceLeDiff, Nat.reduceEqDiff, Nat.zero_add, Nat.sub_self, List.cons_append, List.nil_append, List.getElem?_cons_zero, List.getElem?_cons_succ, List.set_cons_zero, List.set_cons_succ, if_true, if_false, reduceIte, reduceCtorEq, Bool.not_true, Bool.not_false, Bool.false_eq_true, decide_true, decide_false, Option.map_some, gc_self, w]
    | false =>
    have W := base_of3 e1 e2 e3 n
    simp only [callF, sSeq, sSet, sRet, sRetN, sIf, sExpr, sNil, sPar, xCall, xNil, xCons, xC, xVar, xBin, xUn, xTest, xTru, xAndT, xOrT, xNotT, xAndV, xOrV, xNotV, xIf, xChain, xTup, xLst, xCallN, xMeth, Res.bind_ok, Res.bind_exc, Res.of_some, List.map_cons, List.map_nil, List.length_cons, List.length_nil, List.replicate_succ, List.replicate_zero, Nat.reduceSub, Nat.reduceAdd, Nat.reduceMul, Nat.reduceLeDiff, Nat.reduceEqDiff, Nat.zero_add, Nat.sub_self, List.cons_append, List.nil_append, List.getElem?_cons_zero, List.getElem?_cons_succ, List.set_cons_zero, List.set_cons_succ, if_true, if_false, reduceIte, reduceCtorEq, Bool.not_true, Bool.not_false, Bool.false_eq_true, decide_true, decide_false, Option.map_some, i1, truth]
    by_cases hd : ∃ ds, d = .tuple ds
    · obtain ⟨ds, rfl⟩ := hd
      obtain ⟨xs, rfl, il⟩ := i
      have a1 : isA (.tuple ds) "tuple" = true := rfl
      simp only [a1, callF, sSeq, sSet, sRet, sRetN, sIf, sExpr, sNil, sPar, xCall, xNil, xCons, xC, xVar, xBin, xUn, xTest, xTru, xAndT, xOrT, xNotT, xAndV, xOrV, xNotV, xIf, xChain, xTup, xLst, xCallN, xMeth, Res.bind_ok, Res.bind_exc, Res.of_some, List.map_cons, List.map_nil, List.length_cons, List.length_nil, List.replicate_succ, List.replicate_zero, Nat.reduceSub, Nat.reduceAdd, Nat.reduceMul, Nat.reduceLeDiff, Nat.reduceEqDiff, Nat.zero_add, Nat.sub_self, List.cons_append, List.nil_append, List.getElem?_cons_zero, List.getElem?_cons_succ, List.set_cons_zero, List.set_cons_succ, if_true, if_false, reduceIte, reduceCtorEq, Bool.not_true, Bool.not_false, Bool.false_eq_true, decide_true, decide_false, Option.map_some, len_tup, ne_int, il.len]
      by_cases hl : ds.length = 2
      · obtain ⟨d0, d1, rfl⟩ := two_of hl
        obtain ⟨x0, x1, rfl, j0, j1⟩ := il.two
        have q : decide (((2 : Nat) : Int) = 2) = true := rfl
        have sc : scalarD d0 = true := by
          rcases okD_tup ok with ⟨t, ps, e, _⟩ | ⟨h2, _⟩
          · cases e; rfl
          · exact h2
        simp only [q, callF, sSeq, sSet, sRet, sRetN, sIf, sExpr, sNil, sPar, xCall, xNil, xCons, xC, xVar, xBin, xUn, xTest, xTru, xAndT, xOrT, xNotT, xAndV, xOrV, xNotV, xIf, xChain, xTup, xLst, xCallN, xMeth, Res.bind_ok, Res.bind_exc, Res.of_some, List.map_cons, List.map_nil, List.length_cons, List.length_nil, List.replicate_succ, List.replicate_zero, Nat.reduceSub, Nat.reduceAdd, Nat.reduceMul, Nat.reduceLeDiff, Nat.reduceEqDiff, Nat.zero_add, Nat.sub_self, List.cons_append, List.nil_append, List.getElem?_cons_zero, List.getElem?_cons_succ, List.set_cons_zero, List.set_cons_succ, if_true, if_false, reduceIte, reduceCtorEq, Bool.not_true, Bool.not_false, Bool.false_eq_true, decide_true, decide_false, Option.map_some, ix0, eq_sc j0 sc]
        cases et : strEqD d0 (Str.ofString "thing") with
        | true =>
          have ed : d0 = .str (Str.ofString "thing") := by
            cases d0 with
            | str t => rw [of_decide_eq_true (show decide (t = Str.ofString "thing") = true from et)]
            | _ => cases et
          subst ed
          have w : worthD n (.tuple [.str (Str.ofString "thing"), d1]) = numD d1 0 999 := by
            rw [W]
            have h1 : thingD (.tuple [.str (Str.ofString "thing"), d1]) = numD d1 0 999 := by simp [thingD]
            rw [h1]
            have hne : (Str.ofString "thing" = Str.ofString "row") = False := by decide +kernel
            cases n with
            | zero => simp
            | succ n =>
              have : rowD n (.tuple [.str (Str.ofString "thing"), d1]) = false := by
                unfold rowD rowF
                split
                · rename_i e
                  cases e
                  simp only [hne, decide_false, Bool.false_and]
                · rfl
              simp only [this, Bool.or_false]
          simp only [callF, sSeq, sSet, sRet, sRetN, sIf, sExpr, sNil, sPar, xCall, xNil, xCons, xC, xVar, xBin, xUn, xTest, xTru, xAndT, xOrT, xNotT, xAndV, xOrV, xNotV, xIf, xChain, xTup, xLst, xCallN, xMeth, Res.bind_ok, Res.bind_exc, Res.of_some, List.map_cons, List.map_nil, List.length_cons, List.length_nil, List.replicate_succ, List.replicate_zero, Nat.reduceSub, Nat.reduceAdd, Nat.reduceMul, Nat.reduceLeDiff, Nat.reduceEqDiff, Nat.zero_add, Nat.sub_self, List.cons_append, List.nil_append, List.getElem?_cons_zero, List.getElem?_cons_succ, List.set_cons_zero, List.set_cons_succ, if_true, if_false, reduceIte, reduceCtorEq, Bool.not_true, Bool.not_false, Bool.false_eq_true, decide_true, decide_false, Option.map_some, ix1, number_eq j1, gc_self, w]
        | false =>
          have ht : thingD (.tuple [d0, d1]) = false := by
            cases d0 with
            | str t =>
              have : decide (t = Str.ofString "thing") = false := et
              simp only [thingD, this, Bool.false_and]
            | _ => rfl
          rw [ht, Bool.false_or] at W
          simp only [callF, sSeq, sSet, sRet, sRetN, sIf, sExpr, sNil, sPar, xCall, xNil, xCons, xC, xVar, xBin, xUn, xTest, xTru, xAndT, xOrT, xNotT, xAndV, xOrV, xNotV, xIf, xChain, xTup, xLst, xCallN, xMeth, Res.bind_ok, Res.bind_exc, Res.of_some, List.map_cons, List.map_nil, List.length_cons, List.length_nil, List.replicate_succ, List.replicate_zero, Nat.reduceSub, Nat.reduceAdd, Nat.reduceMul, Nat.reduceLeDiff, Nat.reduceEqDiff, Nat.zero_add, Nat.sub_self, List.cons_append, List.nil_append, List.getElem?_cons_zero, List.getElem?_cons_succ, List.set_cons_zero, List.set_cons_succ, if_true, if_false, reduceIte, reduceCtorEq, Bool.not_true, Bool.not_false, Bool.false_eq_true, decide_true, decide_false, Option.map_some, ix0, ne_sc j0 sc]
          cases er : strEqD d0 (Str.ofString "row") with
          | false =>
            have w : worthD n (.tuple [d0, d1]) = false := by
              rw [W]
              cases n with
              | zero => rfl
              | succ n =>
                cases d0 with
                | str t =>
                  have : decide (t = Str.ofString "row") = false := er
                  cases d1 with
                  | tuple ps => simp only [rowD, rowF, this, Bool.false_and]
                  | _ => rfl
                | _ => rfl
            simp only [callF, sSeq, sSet, sRet, sRetN, sIf, sExpr, sNil, sPar, xCall, xNil, xCons, xC, xVar, xBin, xUn, xTest, xTru, xAndT, xOrT, xNotT, xAndV, xOrV, xNotV, xIf, xChain, xTup, xLst, xCallN, xMeth, Res.bind_ok, Res.bind_exc, Res.of_some, List.map_cons, List.map_nil, List.length_cons, List.length_nil, List.replicate_succ, List.replicate_zero, Nat.reduceSub, Nat.reduceAdd, Nat.reduceMul, Nat.reduceLeDiff, Nat.reduceEqDiff, Nat.zero_add, Nat.sub_self, List.cons_append, List.nil_append, List.getElem?_cons_zero, List.getElem?_cons_succ, List.set_cons_zero, List.set_cons_succ, if_true, if_false, reduceIte, reduceCtorEq, Bool.not_true, Bool.not_false, Bool.false_eq_true, decide_true, decide_false, Option.map_some, gc_self, w]
          | true =>
            have ed : d0 = .str (Str.ofString "row") := by
              cases d0 with
              | str t => rw [of_decide_eq_true (show decide (t = Str.ofString "row") = true from er)]
              | _ => cases er
            subst ed
            have i3 := j1.isi "tuple"
            simp only [callF, sSeq, sSet, sRet, sRetN, sIf, sExpr, sNil, sPar, xCall, xNil, xCons, xC, xVar, xBin, xUn, xTest, xTru, xAndT, xOrT, xNotT, xAndV, xOrV, xNotV, xIf, xChain, xTup, xLst, xCallN, xMeth, Res.bind_ok, Res.bind_exc, Res.of_some, List.map_cons, List.map_nil, List.length_cons, List.length_nil, List.replicate_succ, List.replicate_zero, Nat.reduceSub, Nat.reduceAdd, Nat.reduceMul, Nat.reduceLeDiff, Nat.reduceEqDiff, Nat.zero_add, Nat.sub_self, List.cons_append, List.nil_append, List.getElem?_cons_zero, List.getElem?_cons_succ, List.set_cons_zero, List.set_cons_succ, if_true, if_false, reduceIte, reduceCtorEq, Bool.not_true, Bool.not_false, Bool.false_eq_true, decide_true, decide_false, Option.map_some, ix1, i3, truth]
            by_cases hx : ∃ ps, d1 = .tuple ps
            · obtain ⟨ps, rfl⟩ := hx
              obtain ⟨ys, rfl, iy⟩ := IsT j1
              have a3 : isA (.tuple ps) "tuple" = true := rfl
              have okp : okL ps = true := by
                exact (okD_row ok).2
              have dpp : PyData.depthAll ps < 39 := by simp only [PyData.depth, PyData.depthAll] at dp; omega
              have q3 : decide ((30 : Int) < (ys.length : Int)) = !decide (ps.length ≤ 30) := by
                rw [← decide_not, iy.len]; congr 1; exact propext (by omega)
              simp only [a3, callF, sSeq, sSet, sRet, sRetN, sIf, sExpr, sNil, sPar, xCall, xNil, xCons, xC, xVar, xBin, xUn, xTest, xTru, xAndT, xOrT, xNotT, xAndV, xOrV, xNotV, xIf, xChain, xTup, xLst, xCallN, xMeth, Res.bind_ok, Res.bind_exc, Res.of_some, List.map_cons, List.map_nil, List.length_cons, List.length_nil, List.replicate_succ, List.replicate_zero, Nat.reduceSub, Nat.reduceAdd, Nat.reduceMul, Nat.reduceLeDiff, Nat.reduceEqDiff, Nat.zero_add, Nat.sub_self, List.cons_append, List.nil_append, List.getElem?_cons_zero, List.getElem?_cons_succ, List.set_cons_zero, List.set_cons_succ, if_true, if_false, reduceIte, reduceCtorEq, Bool.not_true, Bool.not_false, Bool.false_eq_true, decide_true, decide_false, Option.map_some, ix1, len_tup, gt_int, q3]
              by_cases hl : ps.length ≤ 30
              · simp only [hl, callF, sSeq, sSet, sRet, sRetN, sIf, sExpr, sNil, sPar, xCall, xNil, xCons, xC, xVar, xBin, xUn, xTest, xTru, xAndT, xOrT, xNotT, xAndV, xOrV, xNotV, xIf, xChain, xTup, xLst, xCallN, xMeth, Res.bind_ok, Res.bind_exc, Res.of_some, List.map_cons, List.map_nil, List.length_cons, List.length_nil, List.replicate_succ, List.replicate_zero, Nat.reduceSub, Nat.reduceAdd, Nat.reduceMul, Nat.reduceLeDiff, Nat.reduceEqDiff, Nat.zero_add, Nat.sub_self, List.cons_append, List.nil_append, List.getElem?_cons_zero, List.getElem?_cons_succ, List.set_cons_zero, List.set_cons_succ, if_true, if_false, reduceIte, reduceCtorEq, Bool.not_true, Bool.not_false, Bool.false_eq_true, decide_true, decide_false, Option.map_some, eq_int]
                match n, hk, W with
                | 0, _, W =>
                  have q : decide (((0 : Nat) : Int) = 0) = true := rfl
                  simp only [q, callF, sSeq, sSet, sRet, sRetN, sIf, sExpr, sNil, sPar, xCall, xNil, xCons, xC, xVar, xBin, xUn, xTest, xTru, xAndT, xOrT, xNotT, xAndV, xOrV, xNotV, xIf, xChain, xTup, xLst, xCallN, xMeth, Res.bind_ok, Res.bind_exc, Res.of_some, List.map_cons, List.map_nil, List.length_cons, List.length_nil, List.replicate_succ, List.replicate_zero, Nat.reduceSub, Nat.reduceAdd, Nat.reduceMul, Nat.reduceLeDiff, Nat.reduceEqDiff, Nat.zero_add, Nat.sub_self, List.cons_append, List.nil_append, List.getElem?_cons_zero, List.getElem?_cons_succ, List.set_cons_zero, List.set_cons_succ, if_true, if_false, reduceIte, reduceCtorEq, Bool.not_true, Bool.not_false, Bool.false_eq_true, decide_true, decide_false, Option.map_some, gc_self, W]
                | n + 1, hk, W =>
                  have q : decide (((n + 1 : Nat) : Int) = 0) = false := decide_eq_false (by omega)
                  have hr : rowD n (.tuple [.str (Str.ofString "row"), .tuple ps]) = ps.all (worthD n) := by simp [rowD, rowF, hl]
                  have W : worthD (n + 1) (.tuple [.str (Str.ofString "row"), .tuple ps]) = ps.all (worthD n) := by rw [W]; exact hr
                  have cp := comp_pure (xi := xIter (xBin oIx (xVar 0) (xC (.int 1)))) (t := .name 2) (tt := xNotT (xTru (xCall 2 (f__law_is_worth k) (xCons (xVar 2) (xCons (xBin oSub (xVar 1) (xC (.int 1))) (xNil)))))) (x := xVar 2) (vs := [2]) (e := [some (.tup [x0, .tup ys]), some (.int ((n + 1 : Nat) : Int)), none]) (h := h) (h1 := h) (xs := ys)
                    (fun v => v) (fun v => !worthD n (dv h v)) (by simp only [xIter, callF, sSeq, sSet, sRet, sRetN, sIf, sExpr, sNil, sPar, xCall, xNil, xCons, xC, xVar, xBin, xUn, xTest, xTru, xAndT, xOrT, xNotT, xAndV, xOrV, xNotV, xIf, xChain, xTup, xLst, xCallN, xMeth, Res.bind_ok, Res.bind_exc, Res.of_some, List.map_cons, List.map_nil, List.length_cons, List.length_nil, List.replicate_succ, List.replicate_zero, Nat.reduceSub, Nat.reduceAdd, Nat.reduceMul, Nat.reduceLeDiff, Nat.reduceEqDiff, Nat.zero_add, Nat.sub_self, List.cons_append, List.nil_append, List.getElem?_cons_zero, List.getElem?_cons_succ, List.set_cons_zero, List.set_cons_succ, if_true, if_false, reduceIte, reduceCtorEq, Bool.not_true, Bool.not_false, Bool.false_eq_true, decide_true, decide_false, Option.map_some, ix1, iter_tup]) (by rw [iy.len, sizeLine_eq]; omega) (fun v m => by
                      obtain ⟨dd, md, iv⟩ := iy.mem v m
                      refine ⟨_, rfl, fun acc ha => ⟨?_, fun _ => rfl⟩⟩
                      have dd1 := depthAll_mem md
                      have und : (Ob.lst acc).und (h.length + 1) = true := undL_of fun y my => by
                        obtain ⟨u, mu, e⟩ := ha y my
                        rw [e]
                        obtain ⟨_, _, iu⟩ := iy.mem u mu
                        exact und_mono (Nat.le_succ _) iu.und
                      have ih := lworth_eq n (k := k) (iv.app (l := [.lst acc])) (c.app und) (okL_mem okp dd md) (by omega) (by omega)
                      have es : ((n + 1 : Nat) : Int) - 1 = (n : Int) := by omega
                      simp only [wipeE, callF, sSeq, sSet, sRet, sRetN, sIf, sExpr, sNil, sPar, xCall, xNil, xCons, xC, xVar, xBin, xUn, xTest, xTru, xAndT, xOrT, xNotT, xAndV, xOrV, xNotV, xIf, xChain, xTup, xLst, xCallN, xMeth, Res.bind_ok, Res.bind_exc, Res.of_some, List.map_cons, List.map_nil, List.length_cons, List.length_nil, List.replicate_succ, List.replicate_zero, Nat.reduceSub, Nat.reduceAdd, Nat.reduceMul, Nat.reduceLeDiff, Nat.reduceEqDiff, Nat.zero_add, Nat.sub_self, List.cons_append, List.nil_append, List.getElem?_cons_zero, List.getElem?_cons_succ, List.set_cons_zero, List.set_cons_succ, if_true, if_false, reduceIte, reduceCtorEq, Bool.not_true, Bool.not_false, Bool.false_eq_true, decide_true, decide_false, Option.map_some, oSub, es, ih, iv.dv (by omega), truth])
                  generalize hzs : (ys.filter fun v => !worthD n (dv h v)).map (fun v => v) = zs at cp
                  have en : zs.isEmpty = ps.all (worthD n) := by
                    have e := iy.dv (by omega)
                    rw [← hzs, List.map_id']
                    have := empty_filter (fun v => v) (fun v => !worthD n (dv h v)) (fun v => worthD n (dv h v)) (fun a => rfl) ys
                    rw [List.map_id'] at this
                    rw [this, ← e, List.all_map]
                    rfl
                  have eq := eq_nil (g := h ++ [Ob.lst zs] ++ [Ob.lst []]) (n := h.length) (m := (h ++ [Ob.lst zs]).length) (ys := zs) (by rw [List.getElem?_append_left (by simp)]; exact get_new rfl) (get_new rfl)
                  have gE : ∀ b : Bool, gc h.length (.bl b) (h ++ [Ob.lst zs] ++ [Ob.lst []]) = h := fun b => by
                    rw [List.append_assoc]
                    exact gc_app rfl rfl c
                  have z0 : (0 ≤ sizeLine) = True := by simp
                  simp only [q, callF, sSeq, sSet, sRet, sRetN, sIf, sExpr, sNil, sPar, xCall, xNil, xCons, xC, xVar, xBin, xUn, xTest, xTru, xAndT, xOrT, xNotT, xAndV, xOrV, xNotV, xIf, xChain, xTup, xLst, xCallN, xMeth, Res.bind_ok, Res.bind_exc, Res.of_some, List.map_cons, List.map_nil, List.length_cons, List.length_nil, List.replicate_succ, List.replicate_zero, Nat.reduceSub, Nat.reduceAdd, Nat.reduceMul, Nat.reduceLeDiff, Nat.reduceEqDiff, Nat.zero_add, Nat.sub_self, List.cons_append, List.nil_append, List.getElem?_cons_zero, List.getElem?_cons_succ, List.set_cons_zero, List.set_cons_succ, if_true, if_false, reduceIte, reduceCtorEq, Bool.not_true, Bool.not_false, Bool.false_eq_true, decide_true, decide_false, Option.map_some, cp, z0, eq, gE, en, W]
              · have w : worthD n (.tuple [.str (Str.ofString "row"), .tuple ps]) = false := by
                  rw [W]
                  cases n with
                  | zero => rfl
                  | succ n => simp [rowD, rowF, hl]
                simp only [hl, callF, sSeq, sSet, sRet, sRetN, sIf, sExpr, sNil, sPar, xCall, xNil, xCons, xC, xVar, xBin, xUn, xTest, xTru, xAndT, xOrT, xNotT, xAndV, xOrV, xNotV, xIf, xChain, xTup, xLst, xCallN, xMeth, Res.bind_ok, Res.bind_exc, Res.of_some, List.map_cons, List.map_nil, List.length_cons, List.length_nil, List.replicate_succ, List.replicate_zero, Nat.reduceSub, Nat.reduceAdd, Nat.reduceMul, Nat.reduceLeDiff, Nat.reduceEqDiff, Nat.zero_add, Nat.sub_self, List.cons_append, List.nil_append, List.getElem?_cons_zero, List.getElem?_cons_succ, List.set_cons_zero, List.set_cons_succ, if_true, if_false, reduceIte, reduceCtorEq, Bool.not_true, Bool.not_false, Bool.false_eq_true, decide_true, decide_false, Option.map_some, gc_self, w]
            · have a3 := tupNot fun s e => hx ⟨s, e⟩
              have w : worthD n (.tuple [.str (Str.ofString "row"), d1]) = false := by
                rw [W]
                cases n with
                | zero => rfl
                | succ n =>
                  cases d1 with
                  | tuple ps => exact absurd ⟨ps, rfl⟩ hx
                  | _ => rfl
              simp only [a3, callF, sSeq, sSet, sRet, sRetN, sIf, sExpr, sNil, sPar, xCall, xNil, xCons, xC, xVar, xBin, xUn, xTest, xTru, xAndT, xOrT, xNotT, xAndV, xOrV, xNotV, xIf, xChain, xTup, xLst, xCallN, xMeth, Res.bind_ok, Res.bind_exc, Res.of_some, List.map_cons, List.map_nil, List.length_cons, List.length_nil, List.replicate_succ, List.replicate_zero, Nat.reduceSub, Nat.reduceAdd, Nat.reduceMul, Nat.reduceLeDiff, Nat.reduceEqDiff, Nat.zero_add, Nat.sub_self, List.cons_append, List.nil_append, List.getElem?_cons_zero, List.getElem?_cons_succ, List.set_cons_zero, List.set_cons_succ, if_true, if_false, reduceIte, reduceCtorEq, Bool.not_true, Bool.not_false, Bool.false_eq_true, decide_true, decide_false, Option.map_some, gc_self, w]
      · have q : decide (((ds.length : Nat) : Int) = 2) = false := decide_eq_false (by omega)
        have w : worthD n (.tuple ds) = false := by
          rw [W]
          have h1 : thingD (.tuple ds) = false := by
            unfold thingD
            split
            · rename_i e; cases e; exact absurd rfl hl
            · rfl
          rw [h1]
          cases n with
          | zero => rfl
          | succ n =>
            show rowD n _ = false
            unfold rowD rowF
            split
            · rename_i e; cases e; exact absurd rfl hl
            · rfl
        simp only [q, callF, sSeq, sSet, sRet, sRetN, sIf, sExpr, sNil, sPar, xCall, xNil, xCons, xC, xVar, xBin, xUn, xTest, xTru, xAndT, xOrT, xNotT, xAndV, xOrV, xNotV, xIf, xChain, xTup, xLst, xCallN, xMeth, Res.bind_ok, Res.bind_exc, Res.of_some, List.map_cons, List.map_nil, List.length_cons, List.length_nil, List.replicate_succ, List.replicate_zero, Nat.reduceSub, Nat.reduceAdd, Nat.reduceMul, Nat.reduceLeDiff, Nat.reduceEqDiff, Nat.zero_add, Nat.sub_self, List.cons_append, List.nil_append, List.getElem?_cons_zero, List.getElem?_cons_succ, List.set_cons_zero, List.set_cons_succ, if_true, if_false, reduceIte, reduceCtorEq, Bool.not_true, Bool.not_false, Bool.false_eq_true, decide_true, decide_false, Option.map_some, gc_self, w]
    · have a1 := tupNot fun s e => hd ⟨s, e⟩
      have w : worthD n d = false := by
        rw [W]
        cases d with
        | tuple ds => exact absurd ⟨ds, rfl⟩ hd
        | _ => cases n <;> rfl
      simp only [a1, callF, sSeq, sSet, sRet, sRetN, sIf, sExpr, sNil, sPar, xCall, xNil, xCons, xC, xVar, xBin, xUn, xTest, xTru, xAndT, xOrT, xNotT, xAndV, xOrV, xNotV, xIf, xChain, xTup, xLst, xCallN, xMeth, Res.bind_ok, Res.bind_exc, Res.of_some, List.map_cons, List.map_nil, List.length_cons, List.length_nil, List.replicate_succ, List.replicate_zero, Nat.reduceSub, Nat.reduceAdd, Nat.reduceMul, Nat.reduceLeDiff, Nat.reduceEqDiff, Nat.zero_add, Nat.sub_self, List.cons_append, List.nil_append, List.getElem?_cons_zero, List.getElem?_cons_succ, List.set_cons_zero, List.set_cons_succ, if_true, if_false, reduceIte, reduceCtorEq, Bool.not_true, Bool.not_false, Bool.false_eq_true, decide_true, decide_false, Option.map_some, gc_self, w]
end K

set_option Elab.async false
set_option linter.all false
set_option maxRecDepth 100000
set_option maxHeartbeats 4000000
namespace K
open PySem L2 EX
/-! ### repr -/
theorem log2_31 {i : Int} (h : i.natAbs < 10 ^ 31) : i.natAbs.log2 < 1920 := by
  by_cases h0 : i.natAbs = 0
  · rw [h0]; decide
  · exact (Nat.log2_lt h0).mpr (Nat.lt_of_lt_of_le h (by decide))
mutual
theorem ok_show : ∀ {d : PyData}, okD d = true → d.showable = true ∧ d.leavesShort 40 = true
  | .none, _ => ⟨rfl, rfl⟩
  | .bool _, _ => ⟨rfl, rfl⟩
  | .int i, h => by
    simp only [okD, decide_eq_true_eq] at h
    refine ⟨by simp only [PyData.showable, decide_eq_true_eq]; exact log2_31 h, ?_⟩
    have e := int_text_length_le10 (k := 31) (by decide) h
    simp only [PyData.leavesShort, decide_eq_true_eq]
    show (Str.ofString (toString i)).length ≤ 40
    rw [ofString_length]
    omega
  | .str s, h => by
    simp only [okD, Bool.and_eq_true, decide_eq_true_eq, List.all_eq_true] at h
    refine ⟨rfl, ?_⟩
    simp only [PyData.leavesShort, List.all_eq_true, decide_eq_true_eq]
    exact fun c m => Nat.lt_of_lt_of_le (h.2 c m) (by decide)
  | .tuple [.str t, .tuple ps], h => by
    have h := okD_row h
    obtain ⟨a, b⟩ := ok_showL h.2
    have h3 := h.1
    simp only [okD, Bool.and_eq_true, decide_eq_true_eq, List.all_eq_true] at h3
    refine ⟨?_, ?_⟩
    · simp only [PyData.showable, PyData.showableAll, Bool.and_eq_true]
      exact ⟨trivial, a, trivial⟩
    · simp only [PyData.leavesShort, PyData.leavesShortAll, Bool.and_eq_true, List.all_eq_true, decide_eq_true_eq]
      exact ⟨fun c m => Nat.lt_of_lt_of_le (h3.2 c m) (by decide), b, trivial⟩
  | .tuple ds, h => by
    rcases okD_tup h with ⟨t, ps, rfl, h1, h2⟩ | ⟨_, h2⟩
    · have h3 := h1
      simp only [okD, Bool.and_eq_true, decide_eq_true_eq, List.all_eq_true] at h3
      obtain ⟨a, b⟩ := ok_showL h2
      refine ⟨?_, ?_⟩
      · simp only [PyData.showable, PyData.showableAll, Bool.and_eq_true]
        exact ⟨trivial, a, trivial⟩
      · simp only [PyData.leavesShort, PyData.leavesShortAll, Bool.and_eq_true, List.all_eq_true, decide_eq_true_eq]
        exact ⟨fun c m => Nat.lt_of_lt_of_le (h3.2 c m) (by decide), b, trivial⟩
    · obtain ⟨a, b⟩ := ok_showL h2
      exact ⟨by simpa only [PyData.showable] using a, by simpa only [PyData.leavesShort] using b⟩
  | .list ds, h => by
    simp only [okD, Bool.and_eq_true] at h
    obtain ⟨a, b⟩ := ok_showL h.2
    exact ⟨by simpa only [PyData.showable] using a, by simpa only [PyData.leavesShort] using b⟩
  | .dict kvs, h => by
    simp only [okD, Bool.and_eq_true] at h
    obtain ⟨a, b⟩ := ok_showK h.2
    exact ⟨by simpa only [PyData.showable] using a, by simpa only [PyData.leavesShort] using b⟩
theorem ok_showL : ∀ {ds : List PyData}, okL ds = true → PyData.showableAll ds = true ∧ PyData.leavesShortAll 40 ds = true
  | [], _ => ⟨rfl, rfl⟩
  | d :: ds, h => by
    simp only [okL, Bool.and_eq_true] at h
    obtain ⟨a, b⟩ := ok_show h.1
    obtain ⟨a2, b2⟩ := ok_showL h.2
    simp only [PyData.showableAll, PyData.leavesShortAll, Bool.and_eq_true]
    exact ⟨⟨a, a2⟩, b, b2⟩
theorem ok_showK : ∀ {kvs : List (PyData × PyData)}, okK kvs = true → PyData.showableKv kvs = true ∧ PyData.leavesShortKv 40 kvs = true
  | [], _ => ⟨rfl, rfl⟩
  | (k, d) :: r, h => by
    simp only [okK, Bool.and_eq_true] at h
    obtain ⟨a, b⟩ := ok_show h.1
    obtain ⟨a1, b1⟩ := ok_show h.2.1
    obtain ⟨a2, b2⟩ := ok_showK h.2.2
    simp only [PyData.showableKv, PyData.leavesShortKv, Bool.and_eq_true]
    exact ⟨⟨⟨a, a1⟩, a2⟩, ⟨b, b1⟩, b2⟩
end
/-- of a size that repr bears -/
structure Fit (d : PyData) : Prop where
  ok : okD d = true
  dp : d.depth < 15
  bk : d.bulk ≤ 200000
theorem repr_of {h : Hh} {d : PyData} {v : Val} (i : Is h d v) (a : d.showable = true) (b : d.leavesShort 40 = true) (dp : d.depth < 20) (bk : d.bulk ≤ 300000) : oRepr [v] h = some (.str d.shown, h) := by
  have l := PyData.shown_le_bulk 40 (by decide) d b
  have l2 : d.shown.length ≤ sizeLine := by
    rw [sizeLine_eq]
    omega
  unfold oRepr
  simp only [i.dat (show d.depth < 40 by omega), a, l2, show d.depth ≤ 64 by omega, and_self, if_true]
theorem repr_eq {h : Hh} {d : PyData} {v : Val} (i : Is h d v) (f : Fit d) : oRepr [v] h = some (.str d.shown, h) :=
  repr_of i (ok_show f.ok).1 (ok_show f.ok).2 (by have := f.dp; omega) (by have := f.bk; omega)
theorem repr_bl {h : Hh} (b : Bool) : oRepr [.bl b] h = some (.str (PyData.bool b).shown, h) := repr_eq (d := .bool b) rfl ⟨rfl, by show 0 < 15; decide, by show 0 ≤ 200000; decide⟩
theorem isw_eq {h : Hh} {d : PyData} {v : Val} (i : Is h d v) (c : Cl h) (f : Fit d) : f_is_worth [v] h = .ok (.bl (worthD 4 d)) h := by
  have w := worth_eq 4 (k := 12) i c f.ok (by have := f.dp; omega) (by decide)
  simp only [f_is_worth, x_is_worth, callF, sSeq, sSet, sRet, sRetN, sIf, sExpr, sNil, sPar, xCall, xNil, xCons, xC, xVar, xBin, xUn, xTest, xTru, xAndT, xOrT, xNotT, xAndV, xOrV, xNotV, xIf, xChain, xTup, xLst, xCallN, xMeth, Res.bind_ok, Res.bind_exc, Res.of_some, List.map_cons, List.map_nil, List.length_cons, List.length_nil, List.replicate_succ, List.replicate_zero, Nat.reduceSub, Nat.reduceAdd, Nat.reduceMul, Nat.reduceLeDiff, Nat.reduceEqDiff, Nat.zero_add, Nat.sub_self, List.cons_append, List.nil_append, List.getElem?_cons_zero, List.getElem?_cons_succ, List.set_cons_zero, List.set_cons_succ, if_true, if_false, reduceIte, reduceCtorEq, Bool.not_true, Bool.not_false, Bool.false_eq_true, decide_true, decide_false, Option.map_some]
  have e : ((4 : Nat) : Int) = 4 := rfl
  rw [e] at w
  simp only [w, callF, sSeq, sSet, sRet, sRetN, sIf, sExpr, sNil, sPar, xCall, xNil, xCons, xC, xVar, xBin, xUn, xTest, xTru, xAndT, xOrT, xNotT, xAndV, xOrV, xNotV, xIf, xChain, xTup, xLst, xCallN, xMeth, Res.bind_ok, Res.bind_exc, Res.of_some, List.map_cons, List.map_nil, List.length_cons, List.length_nil, List.replicate_succ, List.replicate_zero, Nat.reduceSub, Nat.reduceAdd, Nat.reduceMul, Nat.reduceLeDiff, Nat.reduceEqDiff, Nat.zero_add, Nat.sub_self, List.cons_append, List.nil_append, List.getElem?_cons_zero, List.getElem?_cons_succ, List.set_cons_zero, List.set_cons_succ, if_true, if_false, reduceIte, reduceCtorEq, Bool.not_true, Bool.not_false, Bool.false_eq_true, decide_true, decide_false, Option.map_some, gc_self]
theorem lw_eq {h : Hh} {d : PyData} {v : Val} (i : Is h d v) (c : Cl h) (f : Fit d) : f__law_is_worth 12 [v, .int 4] h = .ok (.bl (worthD 4 d)) h :=
  lworth_eq 4 (k := 12) i c f.ok (by have := f.dp; omega) (by decide)
theorem need_yes {h : Hh} {d : PyData} {v : Val} (i : Is h d v) (c : Cl h) (f : Fit d) (w : worthD 4 d = true) : f_need_worth [v] h = .ok .non h := by
  have e := isw_eq i c f
  simp only [f_need_worth, x_need_worth, callF, sSeq, sSet, sRet, sRetN, sIf, sExpr, sNil, sPar, xCall, xNil, xCons, xC, xVar, xBin, xUn, xTest, xTru, xAndT, xOrT, xNotT, xAndV, xOrV, xNotV, xIf, xChain, xTup, xLst, xCallN, xMeth, Res.bind_ok, Res.bind_exc, Res.of_some, List.map_cons, List.map_nil, List.length_cons, List.length_nil, List.replicate_succ, List.replicate_zero, Nat.reduceSub, Nat.reduceAdd, Nat.reduceMul, Nat.reduceLeDiff, Nat.reduceEqDiff, Nat.zero_add, Nat.sub_self, List.cons_append, List.nil_append, List.getElem?_cons_zero, List.getElem?_cons_succ, List.set_cons_zero, List.set_cons_succ, if_true, if_false, reduceIte, reduceCtorEq, Bool.not_true, Bool.not_false, Bool.false_eq_true, decide_true, decide_false, Option.map_some, e, w, truth, gc_self]
theorem need_no {h : Hh} {d : PyData} {v : Val} (i : Is h d v) (c : Cl h) (f : Fit d) (w : worthD 4 d = false) : f_need_worth [v] h = .exc "NoWorth" [("found", v)] h := by
  have e := isw_eq i c f
  simp only [f_need_worth, x_need_worth, callF, sSeq, sSet, sRet, sRetN, sIf, sExpr, sNil, sPar, xCall, xNil, xCons, xC, xVar, xBin, xUn, xTest, xTru, xAndT, xOrT, xNotT, xAndV, xOrV, xNotV, xIf, xChain, xTup, xLst, xCallN, xMeth, Res.bind_ok, Res.bind_exc, Res.of_some, List.map_cons, List.map_nil, List.length_cons, List.length_nil, List.replicate_succ, List.replicate_zero, Nat.reduceSub, Nat.reduceAdd, Nat.reduceMul, Nat.reduceLeDiff, Nat.reduceEqDiff, Nat.zero_add, Nat.sub_self, List.cons_append, List.nil_append, List.getElem?_cons_zero, List.getElem?_cons_succ, List.set_cons_zero, List.set_cons_succ, if_true, if_false, reduceIte, reduceCtorEq, Bool.not_true, Bool.not_false, Bool.false_eq_true, decide_true, decide_false, Option.map_some, e, w, truth, sRaise, and_self, List.zip_cons_cons, List.zip_nil_right, List.reverse_cons, List.reverse_nil, gcX_self]
/-- yes or no of a worth -/
def yesD : PyData → Bool
  | .none => false
  | .int i => !decide (i = 0)
  | _ => true
theorem layAll : ∀ {ds : List PyData}, (∀ d ∈ ds, d.canLay0 = true) → PyData.canLayAll0 ds = true
  | [], _ => rfl
  | d :: ds, h => by
    simp only [PyData.canLayAll0, Bool.and_eq_true]
    exact ⟨h d (.head _), layAll fun e m => h e (.tail _ m)⟩
theorem str_lay {s : Str} (h : okD (.str s) = true) : (PyData.str s).canLay0 = true := by
  simp only [okD, Bool.and_eq_true, decide_eq_true_eq, List.all_eq_true] at h
  simp only [PyData.canLay0, PyData.strOk]
  rw [← Array.all_toList, List.all_eq_true]
  exact fun c m => by simpa using Nat.lt_of_lt_of_le (h.2 c m) (by decide)
theorem thing_lay {ds : List PyData} (h : okD (.tuple ds) = true) (w : thingD (.tuple ds) = true) : (PyData.tuple ds).canLay0 = true := by
  unfold thingD at w
  split at w
  · rename_i t x e
    cases e
    simp only [Bool.and_eq_true] at w
    have e : ∃ i, x = .int i := by
      cases x with
      | int i => exact ⟨i, rfl⟩
      | _ => exact absurd w.2 (by simp [numD])
    obtain ⟨i, rfl⟩ := e
    simp only [PyData.canLay0, PyData.canLayAll0, Bool.and_eq_true]
    have ht : okD (.str t) = true := by
      rcases okD_tup h with ⟨t', ps, e, _⟩ | ⟨_, h2⟩
      · cases e
      · rw [okL, Bool.and_eq_true] at h2; exact h2.1
    have := str_lay ht
    simp only [PyData.canLay0] at this
    exact ⟨this, trivial, trivial⟩
  · cases w
theorem ok_lay : ∀ (n : Nat) {d : PyData}, okD d = true → worthD n d = true → d.canLay0 = true
  | n, .none, _, _ => rfl
  | n, .bool _, _, _ => rfl
  | n, .int _, _, _ => rfl
  | n, .str s, h, _ => str_lay h
  | n, .list ds, _, w => by cases n <;> simp [worthD, baseD, noneD, numD, textD, thingD, rowF] at w
  | n, .dict ds, _, w => by cases n <;> simp [worthD, baseD, noneD, numD, textD, thingD, rowF] at w
  | 0, .tuple ds, h, w => by
    have : thingD (.tuple ds) = true := by simpa [worthD, baseD, noneD, numD, textD] using w
    exact thing_lay h this
  | n + 1, .tuple ds, h, w => by
    have w' : thingD (.tuple ds) = true ∨ rowF (worthD n) (.tuple ds) = true := by simpa [worthD, baseD, noneD, numD, textD] using w
    rcases w' with w' | w'
    · exact thing_lay h w'
    · unfold rowF at w'
      split at w'
      · rename_i t ps e
        cases e
        have h := okD_row h
        simp only [Bool.and_eq_true, List.all_eq_true] at w'
        have hs := str_lay h.1
        simp only [PyData.canLay0] at hs
        simp only [PyData.canLay0, PyData.canLayAll0, Bool.and_eq_true]
        exact ⟨hs, layAll fun d m => ok_lay n (okL_mem h.2 d m) (w'.2.2 d m), trivial⟩
      · cases w'
theorem isn_non {h : Hh} {d : PyData} {v : Val} (i : Is h d v) : oIsNot v .non h = some (.bl (!noneD d), h) := by
  cases d with
  | none => cases (show _ = _ from i); rfl
  | bool b => cases (show _ = _ from i); rfl
  | int b => cases (show _ = _ from i); rfl
  | str b => cases (show _ = _ from i); rfl
  | tuple ds => obtain ⟨xs, rfl, _⟩ := i; rfl
  | list ds => obtain ⟨n, xs, rfl, g, _⟩ := i; rfl
  | dict ds => obtain ⟨n, xs, rfl, g, _⟩ := i; rfl
theorem ne_zero {h : Hh} {d : PyData} {v : Val} (i : Is h d v) (f : Fit d) (w : worthD 4 d = true) (hn : noneD d = false) : oNe v (.int 0) h = some (.bl (yesD d), h) := by
  have ly := ok_lay 4 f.ok w
  cases d with
  | none => cases hn
  | bool b => simp [worthD, baseD, noneD, numD, textD, thingD, rowF] at w
  | int b => cases (show _ = _ from i); rfl
  | str b => cases (show _ = _ from i); rfl
  | tuple ds =>
    have dt := i.dat (n := 40) (by have := f.dp; omega)
    obtain ⟨xs, rfl, _⟩ := i
    have s1 : SeqAt.shaped (.tuple ds) = true := by
      unfold SeqAt.shaped
      rw [ly]
      have := f.dp
      simp only [Bool.true_and, decide_eq_true_eq]
      omega
    unfold oNe vEq
    have d0 : EX.dat h 40 (.int 0) = some (.int 0) := rfl
    have s0 : SeqAt.shaped (.int 0) = true := by decide
    simp only [scEq, dt, d0, s1, s0, and_self, if_true, Option.map_some]
    rfl
  | list ds => simp [worthD, baseD, noneD, numD, textD, thingD, rowF] at w
  | dict ds => simp [worthD, baseD, noneD, numD, textD, thingD, rowF] at w
theorem yes_eq {h : Hh} {d : PyData} {v : Val} (i : Is h d v) (c : Cl h) (f : Fit d) (w : worthD 4 d = true) : f_says_yes [v] h = .ok (.bl (yesD d)) h := by
  have n := need_yes i c f w
  simp only [f_says_yes, x_says_yes, callF, sSeq, sSet, sRet, sRetN, sIf, sExpr, sNil, sPar, xCall, xNil, xCons, xC, xVar, xBin, xUn, xTest, xTru, xAndT, xOrT, xNotT, xAndV, xOrV, xNotV, xIf, xChain, xTup, xLst, xCallN, xMeth, Res.bind_ok, Res.bind_exc, Res.of_some, List.map_cons, List.map_nil, List.length_cons, List.length_nil, List.replicate_succ, List.replicate_zero, Nat.reduceSub, Nat.reduceAdd, Nat.reduceMul, Nat.reduceLeDiff, Nat.reduceEqDiff, Nat.zero_add, Nat.sub_self, List.cons_append, List.nil_append, List.getElem?_cons_zero, List.getElem?_cons_succ, List.set_cons_zero, List.set_cons_succ, if_true, if_false, reduceIte, reduceCtorEq, Bool.not_true, Bool.not_false, Bool.false_eq_true, decide_true, decide_false, Option.map_some, n, isn_non i]
  cases hn : noneD d with
  | true =>
    have : yesD d = false := by cases d <;> first | rfl | cases hn
    simp only [callF, sSeq, sSet, sRet, sRetN, sIf, sExpr, sNil, sPar, xCall, xNil, xCons, xC, xVar, xBin, xUn, xTest, xTru, xAndT, xOrT, xNotT, xAndV, xOrV, xNotV, xIf, xChain, xTup, xLst, xCallN, xMeth, Res.bind_ok, Res.bind_exc, Res.of_some, List.map_cons, List.map_nil, List.length_cons, List.length_nil, List.replicate_succ, List.replicate_zero, Nat.reduceSub, Nat.reduceAdd, Nat.reduceMul, Nat.reduceLeDiff, Nat.reduceEqDiff, Nat.zero_add, Nat.sub_self, List.cons_append, List.nil_append, List.getElem?_cons_zero, List.getElem?_cons_succ, List.set_cons_zero, List.set_cons_succ, if_true, if_false, reduceIte, reduceCtorEq, Bool.not_true, Bool.not_false, Bool.false_eq_true, decide_true, decide_false, Option.map_some, this, gc_self]
  | false => simp only [callF, sSeq, sSet, sRet, sRetN, sIf, sExpr, sNil, sPar, xCall, xNil, xCons, xC, xVar, xBin, xUn, xTest, xTru, xAndT, xOrT, xNotT, xAndV, xOrV, xNotV, xIf, xChain, xTup, xLst, xCallN, xMeth, Res.bind_ok, Res.bind_exc, Res.of_some, List.map_cons, List.map_nil, List.length_cons, List.length_nil, List.replicate_succ, List.replicate_zero, Nat.reduceSub, Nat.reduceAdd, Nat.reduceMul, Nat.reduceLeDiff, Nat.reduceEqDiff, Nat.zero_add, Nat.sub_self, List.cons_append, List.nil_append, List.getElem?_cons_zero, List.getElem?_cons_succ, List.set_cons_zero, List.set_cons_succ, if_true, if_false, reduceIte, reduceCtorEq, Bool.not_true, Bool.not_false, Bool.false_eq_true, decide_true, decide_false, Option.map_some, ne_zero i f w hn, gc_self]
theorem yes_no {h : Hh} {d : PyData} {v : Val} (i : Is h d v) (c : Cl h) (f : Fit d) (w : worthD 4 d = false) : f_says_yes [v] h = .exc "NoWorth" [("found", v)] h := by
  have n := need_no i c f w
  simp only [f_says_yes, x_says_yes, callF, sSeq, sSet, sRet, sRetN, sIf, sExpr, sNil, sPar, xCall, xNil, xCons, xC, xVar, xBin, xUn, xTest, xTru, xAndT, xOrT, xNotT, xAndV, xOrV, xNotV, xIf, xChain, xTup, xLst, xCallN, xMeth, Res.bind_ok, Res.bind_exc, Res.of_some, List.map_cons, List.map_nil, List.length_cons, List.length_nil, List.replicate_succ, List.replicate_zero, Nat.reduceSub, Nat.reduceAdd, Nat.reduceMul, Nat.reduceLeDiff, Nat.reduceEqDiff, Nat.zero_add, Nat.sub_self, List.cons_append, List.nil_append, List.getElem?_cons_zero, List.getElem?_cons_succ, List.set_cons_zero, List.set_cons_succ, if_true, if_false, reduceIte, reduceCtorEq, Bool.not_true, Bool.not_false, Bool.false_eq_true, decide_true, decide_false, Option.map_some, n, gcX_self]
end K

set_option Elab.async false
set_option linter.all false
set_option maxRecDepth 100000
set_option maxHeartbeats 4000000
namespace K
open PySem L2 EX
theorem Is.flat {h h' : Hh} {d : PyData} {v : Val} (i : Is h d v) (hs : scalarD d = true) : Is h' d v := by
  cases d with
  | none => exact i
  | bool b => exact i
  | int b => exact i
  | str b => exact i
  | _ => cases hs
theorem IsL.flat {h h' : Hh} : ∀ {ds : List PyData} {xs : List Val}, IsL h ds xs → ds.all scalarD = true → IsL h' ds xs
  | [], _, e, _ => e
  | d :: ds, _, ⟨x, r, e, a, b⟩, hs => by
    rw [List.all_cons, Bool.and_eq_true] at hs
    exact ⟨x, r, e, a.flat hs.1, IsL.flat b hs.2⟩
theorem IsL.snoc {h : Hh} {d : PyData} {v : Val} (i : Is h d v) : ∀ {ds : List PyData} {xs : List Val}, IsL h ds xs → IsL h (ds ++ [d]) (xs ++ [v])
  | [], _, e => by cases (show _ = _ from e); exact ⟨v, [], rfl, i, rfl⟩
  | _ :: _, _, ⟨x, r, e, a, b⟩ => by subst e; exact ⟨x, r ++ [v], rfl, a, IsL.snoc i b⟩
theorem IsK.flat {h h' : Hh} : ∀ {ds : List (PyData × PyData)} {xs : List (Key × Val)}, IsK h ds xs → ds.all (fun p => scalarD p.2 && !lateD p.1) = true → IsK h' ds xs
  | [], _, e, _ => e
  | (k, d) :: ds, _, ⟨key, x, r, e, ek, a, b⟩, hs => by
    simp only [List.all_cons, Bool.and_eq_true] at hs
    exact ⟨key, x, r, e, ek, a.flat hs.1.1, IsK.flat b (by simpa only [Bool.and_eq_true] using hs.2)⟩
theorem IsK.snoc {h : Hh} {d : PyData} {v : Val} {key : Key} (i : Is h d v) : ∀ {ds : List (PyData × PyData)} {xs : List (Key × Val)}, IsK h ds xs → IsK h (ds ++ [(keyD key, d)]) (xs ++ [(key, v)])
  | [], _, e => by cases (show _ = _ from e); exact ⟨key, v, [], rfl, rfl, i, rfl⟩
  | (_, _) :: _, _, ⟨k, x, r, e, ek, a, b⟩ => by subst e; exact ⟨k, x, r ++ [(key, v)], rfl, ek, a, IsK.snoc i b⟩
theorem IsK.noLate {h : Hh} : ∀ {ds : List (PyData × PyData)} {xs : List (Key × Val)}, IsK h ds xs → ds.all (fun p => scalarD p.2 && !lateD p.1) = true → (xs.any fun kv => decide (kv.1 = Sum.inr (Str.ofString "late"))) = false
  | [], _, e, _ => by cases (show _ = _ from e); rfl
  | (k, d) :: ds, _, ⟨key, x, r, e, ek, a, b⟩, hs => by
    subst e ek
    simp only [List.all_cons, Bool.and_eq_true, Bool.not_eq_true'] at hs
    rw [List.any_cons, IsK.noLate b (by simpa only [Bool.and_eq_true, Bool.not_eq_true'] using hs.2), Bool.or_false]
    refine decide_eq_false fun z => ?_
    dsimp only at z
    subst z
    have := hs.1.2
    simp [keyD, lateD] at this
theorem IsK.len {h : Hh} : ∀ {ds : List (PyData × PyData)} {xs : List (Key × Val)}, IsK h ds xs → xs.length = ds.length
  | [], _, e => by cases (show _ = _ from e); rfl
  | (_, _) :: _, _, ⟨k, x, r, e, ek, a, b⟩ => by subst e; rw [List.length_cons, List.length_cons, IsK.len b]
theorem showAll_snoc {d : PyData} : ∀ {ds : List PyData}, PyData.showableAll ds = true → d.showable = true → PyData.showableAll (ds ++ [d]) = true
  | [], _, h => by simpa [PyData.showableAll] using h
  | e :: ds, h0, h => by
    simp only [PyData.showableAll, Bool.and_eq_true, List.cons_append] at h0 ⊢
    exact ⟨h0.1, showAll_snoc h0.2 h⟩
theorem leavAll_snoc {d : PyData} : ∀ {ds : List PyData}, PyData.leavesShortAll 40 ds = true → d.leavesShort 40 = true → PyData.leavesShortAll 40 (ds ++ [d]) = true
  | [], _, h => by simpa [PyData.leavesShortAll] using h
  | e :: ds, h0, h => by
    simp only [PyData.leavesShortAll, Bool.and_eq_true, List.cons_append] at h0 ⊢
    exact ⟨h0.1, leavAll_snoc h0.2 h⟩
theorem bulk_snoc {d : PyData} : ∀ {ds : List PyData}, PyData.bulkAll (ds ++ [d]) = PyData.bulkAll ds + d.bulk + 1
  | [] => by simp [PyData.bulkAll]
  | e :: ds => by simp only [List.cons_append, PyData.bulkAll, bulk_snoc]; omega
theorem depth_snoc {d : PyData} : ∀ {ds : List PyData}, PyData.depthAll (ds ++ [d]) = max (PyData.depthAll ds) d.depth
  | [] => by simp [PyData.depthAll]
  | e :: ds => by simp only [List.cons_append, PyData.depthAll, depth_snoc]; omega
theorem bulk_len : ∀ {ds : List PyData}, ds.length ≤ PyData.bulkAll ds
  | [] => Nat.le_refl _
  | d :: ds => by simp only [List.length_cons, PyData.bulkAll]; have := bulk_len (ds := ds); omega
theorem showKv_snoc {k d : PyData} : ∀ {ds : List (PyData × PyData)}, PyData.showableKv ds = true → k.showable = true → d.showable = true → PyData.showableKv (ds ++ [(k, d)]) = true
  | [], _, h, h2 => by simp [PyData.showableKv, h, h2]
  | (a, b) :: ds, h0, h, h2 => by
    simp only [PyData.showableKv, Bool.and_eq_true, List.cons_append] at h0 ⊢
    exact ⟨h0.1, showKv_snoc h0.2 h h2⟩
theorem leavKv_snoc {k d : PyData} : ∀ {ds : List (PyData × PyData)}, PyData.leavesShortKv 40 ds = true → k.leavesShort 40 = true → d.leavesShort 40 = true → PyData.leavesShortKv 40 (ds ++ [(k, d)]) = true
  | [], _, h, h2 => by simp [PyData.leavesShortKv, h, h2]
  | (a, b) :: ds, h0, h, h2 => by
    simp only [PyData.leavesShortKv, Bool.and_eq_true, List.cons_append] at h0 ⊢
    exact ⟨h0.1, leavKv_snoc h0.2 h h2⟩
theorem bulkKv_snoc {k d : PyData} : ∀ {ds : List (PyData × PyData)}, PyData.bulkKv (ds ++ [(k, d)]) = PyData.bulkKv ds + k.bulk + d.bulk + 2
  | [] => by simp [PyData.bulkKv]
  | (a, b) :: ds => by simp only [List.cons_append, PyData.bulkKv, bulkKv_snoc]; omega
theorem depthKv_snoc {k d : PyData} : ∀ {ds : List (PyData × PyData)}, PyData.depthKv (ds ++ [(k, d)]) = max (PyData.depthKv ds) (max k.depth d.depth)
  | [] => by simp [PyData.depthKv]
  | (a, b) :: ds => by simp only [List.cons_append, PyData.depthKv, depthKv_snoc]; omega
theorem bulkKv_len : ∀ {ds : List (PyData × PyData)}, ds.length ≤ PyData.bulkKv ds
  | [] => Nat.le_refl _
  | (a, b) :: ds => by simp only [List.length_cons, PyData.bulkKv]; have := bulkKv_len (ds := ds); omega
/-- what a later change of the thing at v leaves -/
structure Late (h : Hh) (v : Val) (h' : Hh) : Prop where
  len : h'.length = h.length
  cl : Cl h'
  at_ : ∀ i : Nat, v ≠ .loc i → h'[i]? = h[i]?
theorem Cl.put {h : Hh} (c : Cl h) (n : Nat) {o : Ob} (ho : o.und h.length = true) : Cl (h.set n o) := by
  unfold Cl at c ⊢
  rw [List.length_set]
  rw [List.all_eq_true] at c ⊢
  intro x m
  rcases List.mem_or_eq_of_mem_set m with m | m
  · exact c x m
  · rw [m]; exact ho
theorem Cl.get {h : Hh} (c : Cl h) {n : Nat} {o : Ob} (e : h[n]? = some o) : o.und h.length = true := List.all_eq_true.mp c o (List.mem_of_getElem? e)
theorem same_eq {h : Hh} {d : PyData} {v : Val} (i : Is h d v) (c : Cl h) (f : Fit d) : ∃ h', f__law_same [v, v] h = .ok (.bl true) h' ∧ Late h v h' := by
  have r0 := repr_eq i f
  have i1 := i.isi "list"
  have i2 := i.isi "dict"
  have l4 : (Str.ofString "late").cps.size = 4 := by decide +kernel
  have dT : ∀ s : Str, decide (s = s) = true := fun s => by simp
  by_cases hl : ∃ ds, d = .list ds
  · obtain ⟨ds, rfl⟩ := hl
    obtain ⟨n, xs, rfl, g, il⟩ := id i
    have ok := f.ok
    simp only [okD, Bool.and_eq_true] at ok
    obtain ⟨sh, lv⟩ := ok_show f.ok
    have bk := f.bk
    have dp := f.dp
    simp only [PyData.bulk] at bk
    simp only [PyData.depth] at dp
    have bl := bulk_len (ds := ds)
    have hn := (List.getElem?_eq_some_iff.mp g).1
    have iN : Is (h.set n (.lst (xs ++ [.str "late"]))) (.list (ds ++ [.str "late"])) (.loc n) := ⟨n, _, rfl, List.getElem?_set_self hn, IsL.snoc (d := .str "late") (v := .str "late") rfl (il.flat ok.1)⟩
    have r1 := repr_of iN (by simp only [PyData.showable] at sh ⊢; exact showAll_snoc sh rfl) (by simp only [PyData.leavesShort] at lv ⊢; exact leavAll_snoc lv (by decide +kernel))
      (by simp only [PyData.depth, depth_snoc]; omega) (by simp only [PyData.bulk, bulk_snoc]; omega)
    have i3 := iN.isi "dict"
    have a1 : isA (.list ds) "list" = true := rfl
    have a2 : isA (.list (ds ++ [.str (Str.ofString "late")])) "dict" = false := by simp [isA, tyD]
    have ap : oAppend (.loc n) [.str "late"] h = some (.non, h.set n (.lst (xs ++ [.str "late"]))) := by
      unfold oAppend
      simp only [g, show xs.length < sizeLine by rw [il.len, sizeLine_eq]; omega, if_true]
    have ty : isTy "list" (.loc n) h = true := by unfold isTy; simp only [g]; rfl
    refine ⟨h.set n (.lst (xs ++ [.str "late"])), ?_, by rw [List.length_set], c.put n ?_, fun j hj => List.getElem?_set_ne fun e => hj (by rw [e])⟩
    · simp only [f__law_same, x__law_same, callF, sSeq, sSet, sRet, sRetN, sIf, sExpr, sNil, sPar, xCall, xNil, xCons, xC, xVar, xBin, xUn, xTest, xTru, xAndT, xOrT, xNotT, xAndV, xOrV, xNotV, xIf, xChain, xTup, xLst, xCallN, xMeth, Res.bind_ok, Res.bind_exc, Res.of_some, List.map_cons, List.map_nil, List.length_cons, List.length_nil, List.replicate_succ, List.replicate_zero, Nat.reduceSub, Nat.reduceAdd, Nat.reduceMul, Nat.reduceLeDiff, Nat.reduceEqDiff, Nat.zero_add, Nat.sub_self, List.cons_append, List.nil_append, List.getElem?_cons_zero, List.getElem?_cons_succ, List.set_cons_zero, List.set_cons_succ, if_true, if_false, reduceIte, reduceCtorEq, Bool.not_true, Bool.not_false, Bool.false_eq_true, decide_true, decide_false, Option.map_some, r0, ne_str, dT, i1, a1, truth, ty, ap, i3, a2, r1, eq_str]
      rw [gc_self (by rw [List.length_set])]
    · have := c.get g
      refine undL_of fun y m => ?_
      rcases List.mem_append.mp m with m | m
      · exact of_undL this y m
      · rw [List.mem_singleton.mp m]; rfl
  · by_cases hk : ∃ kvs, d = .dict kvs
    · obtain ⟨kvs, rfl⟩ := hk
      obtain ⟨n, xs, rfl, g, il⟩ := id i
      have ok := f.ok
      simp only [okD, Bool.and_eq_true] at ok
      obtain ⟨sh, lv⟩ := ok_show f.ok
      have bk := f.bk
      have dp := f.dp
      simp only [PyData.bulk] at bk
      simp only [PyData.depth] at dp
      have bl := bulkKv_len (ds := kvs)
      have hn := (List.getElem?_eq_some_iff.mp g).1
      have nl := il.noLate ok.1
      have iN : Is (h.set n (.dct (xs ++ [(Sum.inr (Str.ofString "late"), .int 7)]))) (.dict (kvs ++ [(.str "late", .int 7)])) (.loc n) := ⟨n, _, rfl, List.getElem?_set_self hn, IsK.snoc (d := .int 7) (v := .int 7) (key := Sum.inr (Str.ofString "late")) rfl (il.flat ok.1)⟩
      have r1 := repr_of iN (by simp only [PyData.showable] at sh ⊢; exact showKv_snoc sh rfl (by decide)) (by simp only [PyData.leavesShort] at lv ⊢; exact leavKv_snoc lv (by decide +kernel) (by decide +kernel))
        (by simp only [PyData.depth, depthKv_snoc]; omega) (by simp only [PyData.bulk, bulkKv_snoc]; omega)
      have a1 : isA (.dict kvs) "list" = false := by simp [isA, tyD]
      have a2 : isA (.dict kvs) "dict" = true := rfl
      have st : oSet (.loc n) (.str "late") (.int 7) h = some (h.set n (.dct (xs ++ [(Sum.inr (Str.ofString "late"), .int 7)]))) := by
        unfold oSet putX
        simp only [g, keyOf, show xs.length < sizeLine by rw [il.len, sizeLine_eq]; omega, if_true, nl, Bool.false_eq_true, if_false]
      refine ⟨h.set n (.dct (xs ++ [(Sum.inr (Str.ofString "late"), .int 7)])), ?_, by rw [List.length_set], c.put n ?_, fun j hj => List.getElem?_set_ne fun e => hj (by rw [e])⟩
      · simp only [f__law_same, x__law_same, callF, sSeq, sSet, sRet, sRetN, sIf, sExpr, sNil, sPar, xCall, xNil, xCons, xC, xVar, xBin, xUn, xTest, xTru, xAndT, xOrT, xNotT, xAndV, xOrV, xNotV, xIf, xChain, xTup, xLst, xCallN, xMeth, Res.bind_ok, Res.bind_exc, Res.of_some, List.map_cons, List.map_nil, List.length_cons, List.length_nil, List.replicate_succ, List.replicate_zero, Nat.reduceSub, Nat.reduceAdd, Nat.reduceMul, Nat.reduceLeDiff, Nat.reduceEqDiff, Nat.zero_add, Nat.sub_self, List.cons_append, List.nil_append, List.getElem?_cons_zero, List.getElem?_cons_succ, List.set_cons_zero, List.set_cons_succ, if_true, if_false, reduceIte, reduceCtorEq, Bool.not_true, Bool.not_false, Bool.false_eq_true, decide_true, decide_false, Option.map_some, r0, ne_str, dT, i1, a1, truth, i2, a2, sSetIx, st, r1, eq_str]
        rw [gc_self (by rw [List.length_set])]
      · have := c.get g
        show undL _ _ = true
        refine undL_of fun y m => ?_
        rw [List.map_append] at m
        rcases List.mem_append.mp m with m | m
        · exact of_undL this y m
        · simp only [List.map_cons, List.map_nil, List.mem_singleton] at m
          rw [m]; rfl
    · have a1 : isA d "list" = false := by
        cases d with
        | list ds => exact absurd ⟨ds, rfl⟩ hl
        | _ => simp [isA, tyD]
      have a2 : isA d "dict" = false := by
        cases d with
        | dict ds => exact absurd ⟨ds, rfl⟩ hk
        | _ => simp [isA, tyD]
      refine ⟨h, ?_, rfl, c, fun _ _ => rfl⟩
      simp only [f__law_same, x__law_same, callF, sSeq, sSet, sRet, sRetN, sIf, sExpr, sNil, sPar, xCall, xNil, xCons, xC, xVar, xBin, xUn, xTest, xTru, xAndT, xOrT, xNotT, xAndV, xOrV, xNotV, xIf, xChain, xTup, xLst, xCallN, xMeth, Res.bind_ok, Res.bind_exc, Res.of_some, List.map_cons, List.map_nil, List.length_cons, List.length_nil, List.replicate_succ, List.replicate_zero, Nat.reduceSub, Nat.reduceAdd, Nat.reduceMul, Nat.reduceLeDiff, Nat.reduceEqDiff, Nat.zero_add, Nat.sub_self, List.cons_append, List.nil_append, List.getElem?_cons_zero, List.getElem?_cons_succ, List.set_cons_zero, List.set_cons_succ, if_true, if_false, reduceIte, reduceCtorEq, Bool.not_true, Bool.not_false, Bool.false_eq_true, decide_true, decide_false, Option.map_some, r0, ne_str, dT, i1, a1, truth, i2, a2, eq_str, gc_self]
end K

set_option Elab.async false
set_option linter.all false
set_option maxRecDepth 100000
set_option maxHeartbeats 4000000
namespace K
open PySem L2 EX
theorem any1 : anyX ct (Str.ofString "NoWorth") [Str.ofString "NoWorth"] = some true := by decide +kernel
theorem sub1 : subX ct (Str.ofString "NoWorth") (Str.ofString "InnerError") = some true := by decide +kernel
theorem sub2 : subX ct (Str.ofString "NoWorth") (Str.ofString "Barred") = some false := by decide +kernel
theorem fld1 {v : Val} : ([(Str.ofString "found", v)] : List (Str × Val)).lookup (Str.ofString "found") = some v := List.lookup_cons_self
theorem yr_eq {h : Hh} {d : PyData} {v : Val} (i : Is h d v) (c : Cl h) (f : Fit d) : ∃ h', f__law_yes_right [v] h = .ok (.bl true) h' ∧ Late h v h' := by
  have w0 := lw_eq i c f
  have dT : ∀ s : Str, decide (s = s) = true := fun s => by simp
  cases w : worthD 4 d with
  | true =>
    refine ⟨h, ?_, rfl, c, fun _ _ => rfl⟩
    have y := yes_eq i c f w
    have i1 := i.isi "int"
    have hy : ∀ (e : En), e[0]? = some (some v) → xAndV (xBin oIsNot (xVar 0) (xC .non)) (xOrV (xNotV (xCallN oIsi (xCons (xVar 0) (xCons (xC (.ty "int")) (xNil))))) (xBin oNe (xVar 0) (xC (.int 0)))) e h = .ok (.bl (yesD d)) h := fun e he => by
      simp only [xAndV, xBin, xVar, he, xC, Res.bind_ok, isn_non i, Res.of_some]
      cases hn : noneD d with
      | true =>
        have : yesD d = false := by cases d <;> first | rfl | cases hn
        simp only [callF, sSeq, sSet, sRet, sRetN, sIf, sExpr, sNil, sPar, xCall, xNil, xCons, xC, xVar, xBin, xUn, xTest, xTru, xAndT, xOrT, xNotT, xAndV, xOrV, xNotV, xIf, xChain, xTup, xLst, xCallN, xMeth, Res.bind_ok, Res.bind_exc, Res.of_some, List.map_cons, List.map_nil, List.length_cons, List.length_nil, List.replicate_succ, List.replicate_zero, Nat.reduceSub, Nat.reduceAdd, Nat.reduceMul, Nat.reduceLeDiff, Nat.reduceEqDiff, Nat.zero_add, Nat.sub_self, List.cons_append, List.nil_append, List.getElem?_cons_zero, List.getElem?_cons_succ, List.set_cons_zero, List.set_cons_succ, if_true, if_false, reduceIte, reduceCtorEq, Bool.not_true, Bool.not_false, Bool.false_eq_true, decide_true, decide_false, Option.map_some, this]
      | false =>
        simp only [callF, sSeq, sSet, sRet, sRetN, sIf, sExpr, sNil, sPar, xCall, xNil, xCons, xC, xVar, xBin, xUn, xTest, xTru, xAndT, xOrT, xNotT, xAndV, xOrV, xNotV, xIf, xChain, xTup, xLst, xCallN, xMeth, Res.bind_ok, Res.bind_exc, Res.of_some, List.map_cons, List.map_nil, List.length_cons, List.length_nil, List.replicate_succ, List.replicate_zero, Nat.reduceSub, Nat.reduceAdd, Nat.reduceMul, Nat.reduceLeDiff, Nat.reduceEqDiff, Nat.zero_add, Nat.sub_self, List.cons_append, List.nil_append, List.getElem?_cons_zero, List.getElem?_cons_succ, List.set_cons_zero, List.set_cons_succ, if_true, if_false, reduceIte, reduceCtorEq, Bool.not_true, Bool.not_false, Bool.false_eq_true, decide_true, decide_false, Option.map_some, he, i1]
        cases ha : isA d "int" with
        | true => simp only [callF, sSeq, sSet, sRet, sRetN, sIf, sExpr, sNil, sPar, xCall, xNil, xCons, xC, xVar, xBin, xUn, xTest, xTru, xAndT, xOrT, xNotT, xAndV, xOrV, xNotV, xIf, xChain, xTup, xLst, xCallN, xMeth, Res.bind_ok, Res.bind_exc, Res.of_some, List.map_cons, List.map_nil, List.length_cons, List.length_nil, List.replicate_succ, List.replicate_zero, Nat.reduceSub, Nat.reduceAdd, Nat.reduceMul, Nat.reduceLeDiff, Nat.reduceEqDiff, Nat.zero_add, Nat.sub_self, List.cons_append, List.nil_append, List.getElem?_cons_zero, List.getElem?_cons_succ, List.set_cons_zero, List.set_cons_succ, if_true, if_false, reduceIte, reduceCtorEq, Bool.not_true, Bool.not_false, Bool.false_eq_true, decide_true, decide_false, Option.map_some, he, ne_zero i f w hn]
        | false =>
          have : yesD d = true := by
            cases d with
            | none => cases hn
            | int k => cases ha
            | _ => rfl
          simp only [callF, sSeq, sSet, sRet, sRetN, sIf, sExpr, sNil, sPar, xCall, xNil, xCons, xC, xVar, xBin, xUn, xTest, xTru, xAndT, xOrT, xNotT, xAndV, xOrV, xNotV, xIf, xChain, xTup, xLst, xCallN, xMeth, Res.bind_ok, Res.bind_exc, Res.of_some, List.map_cons, List.map_nil, List.length_cons, List.length_nil, List.replicate_succ, List.replicate_zero, Nat.reduceSub, Nat.reduceAdd, Nat.reduceMul, Nat.reduceLeDiff, Nat.reduceEqDiff, Nat.zero_add, Nat.sub_self, List.cons_append, List.nil_append, List.getElem?_cons_zero, List.getElem?_cons_succ, List.set_cons_zero, List.set_cons_succ, if_true, if_false, reduceIte, reduceCtorEq, Bool.not_true, Bool.not_false, Bool.false_eq_true, decide_true, decide_false, Option.map_some, this]
    have hy2 := hy [some v, some (.bl true), some (.bl (yesD d)), none] rfl
    simp only [w] at w0
    simp only [f__law_yes_right, x__law_yes_right, callF, sSeq, sSet, sRet, sRetN, sIf, sExpr, sNil, sPar, Res.bind_ok, Res.bind_exc, Res.of_some, List.map_cons, List.map_nil, List.length_cons, List.length_nil, List.replicate_succ, List.replicate_zero, Nat.reduceSub, Nat.reduceAdd, Nat.reduceMul, Nat.reduceLeDiff, Nat.reduceEqDiff, Nat.zero_add, Nat.sub_self, List.cons_append, List.nil_append, List.getElem?_cons_zero, List.getElem?_cons_succ, List.set_cons_zero, List.set_cons_succ, if_true, if_false, reduceIte, reduceCtorEq, Bool.not_true, Bool.not_false, Bool.false_eq_true, decide_true, decide_false, Option.map_some, xCall, xCons, xNil, xVar, xC, w0, sTry, y, xNotT, xTru, truth]
    simp only [xBin, xCallN, xCons, xVar, xNil, hy2, callF, sSeq, sSet, sRet, sRetN, sIf, sExpr, sNil, sPar, Res.bind_ok, Res.bind_exc, Res.of_some, List.map_cons, List.map_nil, List.length_cons, List.length_nil, List.replicate_succ, List.replicate_zero, Nat.reduceSub, Nat.reduceAdd, Nat.reduceMul, Nat.reduceLeDiff, Nat.reduceEqDiff, Nat.zero_add, Nat.sub_self, List.cons_append, List.nil_append, List.getElem?_cons_zero, List.getElem?_cons_succ, List.set_cons_zero, List.set_cons_succ, if_true, if_false, reduceIte, reduceCtorEq, Bool.not_true, Bool.not_false, Bool.false_eq_true, decide_true, decide_false, Option.map_some, repr_bl, eq_str, dT, gc_self]
  | false =>
    have y := yes_no i c f w
    obtain ⟨h', e, L⟩ := same_eq i c f
    refine ⟨h', ?_, L⟩
    simp only [w] at w0
    simp only [f__law_yes_right, x__law_yes_right, callF, sSeq, sSet, sRet, sRetN, sIf, sExpr, sNil, sPar, Res.bind_ok, Res.bind_exc, Res.of_some, List.map_cons, List.map_nil, List.length_cons, List.length_nil, List.replicate_succ, List.replicate_zero, Nat.reduceSub, Nat.reduceAdd, Nat.reduceMul, Nat.reduceLeDiff, Nat.reduceEqDiff, Nat.zero_add, Nat.sub_self, List.cons_append, List.nil_append, List.getElem?_cons_zero, List.getElem?_cons_succ, List.set_cons_zero, List.set_cons_succ, if_true, if_false, reduceIte, reduceCtorEq, Bool.not_true, Bool.not_false, Bool.false_eq_true, decide_true, decide_false, Option.map_some, xCall, xCons, xNil, xVar, xC, w0, sTry, y, handle, any1, unS, unslot, xAndV, xNotV, xIsE, sub1, sub2, xFld, fld1, e]
    rw [gc_self L.len]
end K

set_option Elab.async false
set_option linter.all false
set_option maxRecDepth 100000
set_option maxHeartbeats 4000000
namespace K
open PySem L2 EX
theorem char_at {s : Str} {r : Int} {g : Hh} (h0 : 0 ≤ r) (h1 : r < s.length) (hs : s.length ≤ sizeLine) : ∃ c, oIx (.str s) (.int r) g = some (sgn c, g) ∧ c ∈ s.cps.toList := by
  obtain ⟨c, e, m⟩ := atI_mem (xs := s.cps.toList) h0 (by rw [Array.length_toList]; exact h1)
  refine ⟨c, ?_, m⟩
  unfold oIx
  simp only [hs, if_true, e, Option.map_some, sgn]
theorem Sh.mono {n m : Nat} {s : Str} (h : Sh n s) (l : n ≤ m) : Sh m s := ⟨Nat.le_trans h.len l, h.asc⟩
theorem Sh.size {n : Nat} {s : Str} (h : Sh n s) (l : n ≤ 1000) : s.length ≤ sizeLine := by rw [sizeLine_eq]; have := h.len; omega
theorem Sh.app {n m : Nat} {s t : Str} (h : Sh n s) (k : Sh m t) : Sh (n + m) (s ++ t) := by
  refine ⟨?_, fun c mc => ?_⟩
  · show (s.cps ++ t.cps).size ≤ n + m
    rw [Array.size_append]
    have := h.len; have := k.len
    show s.length + t.length ≤ _
    omega
  · have : c ∈ (s.cps ++ t.cps).toList := mc
    rw [Array.toList_append, List.mem_append] at this
    exact this.elim (h.asc c) (k.asc c)
theorem Sh.cut {n : Nat} {s : Str} (h : Sh n s) (lo hi : Option Int) : Sh n (cutS s lo hi) := by
  refine ⟨Nat.le_trans (cutS_length s lo hi) h.len, fun c mc => h.asc c ?_⟩
  have : c ∈ ((s.cps.toList.drop (HT.sIx s.length 0 lo)).take (HT.sIx s.length s.length hi - HT.sIx s.length 0 lo)).toArray.toList := mc
  rw [List.toList_toArray] at this
  exact List.mem_of_mem_drop (List.mem_of_mem_take this)
theorem Sh.lit (n : Nat) (a : String) (h : ((Str.ofString a).length ≤ n ∧ ∀ c ∈ (Str.ofString a).cps.toList, c < 128) := by decide +kernel) : Sh n (Str.ofString a) := ⟨h.1, h.2⟩
theorem Sh.one {c : Nat} (h : c < 128) : Sh 1 (⟨#[c]⟩ : Str) := ⟨Nat.le_refl 1, fun d m => by simp at m; rw [m]; exact h⟩
theorem sl_str {s : Str} {lo hi : Option Int} {g : Hh} (h : s.length ≤ sizeLine) : oSl (.str s) lo hi g = some (.str (cutS s lo hi), g) := by
  unfold oSl
  simp only [h, if_true]
theorem add_str {s t : Str} {g : Hh} (h : s.length + t.length ≤ sizeLine) : oAdd (.str s) (.str t) g = some (.str (s ++ t), g) := by
  unfold oAdd
  simp only [h, if_true]
theorem lg {m : Int} (h0 : 0 < m) (h : m < 9000) : m.natAbs.log2 < 9000 := Nat.lt_of_le_of_lt (Nat.log2_le_self _) (by omega)
def isSh (n : Nat) (v : Val) : Prop := ∃ s, v = .str s ∧ Sh n s
theorem isSh.und {n k : Nat} {v : Val} (h : isSh n v) : v.und k = true := by obtain ⟨s, e, _⟩ := h; rw [e]; rfl
theorem name_sp : SpD 16 f__law_name [] (isSh 40) := fun h b s eb g c hz => by
  have hl : b < h.length := (List.getElem?_eq_some_iff.mp eb).1
  have ll : (Str.ofString "abcdefghijklmnopqrstuvwxyz").length = 26 := by decide +kernel
  have ls : (Str.ofString "abcdefghijklmnopqrstuvwxyz").length ≤ sizeLine := by rw [ll, sizeLine_eq]; decide
  have la : Sh 26 (Str.ofString "abcdefghijklmnopqrstuvwxyz") := Sh.lit 26 _
  obtain ⟨_, s1, e1, d1, m, rfl, m0, m1⟩ := (Du.self eb g c).call (take_sp (m := 10) (by decide)) hl (by omega)
  obtain ⟨ys, h2, e2, l2, ⟨d2, _⟩, ly, vy⟩ := comp_range (a := xCall 2 f__law_take (xCons (xVar 0) (xCons (xC (.int 10)) (xNil)))) (t := .name 5) (vs := [5]) (h := h) (m := m) (h1 := h.set b (box s1))
    (x := xBin oIx (xVar 1) (xCall 2 f__law_take (xCons (xVar 0) (xCons (xC (.int 26)) (xNil)))))
    (e := [some (.loc b), some (.str "abcdefghijklmnopqrstuvwxyz"), none, none, none, none])
    (P := fun k g => Du h b (s.z + 10 - k) g ∧ (k : Int) ≤ 9) (V := fun y => ∃ c, y = sgn c ∧ c < 128) (by simp only [callF, sSeq, sSet, sRet, sRetN, sIf, sExpr, sNil, sPar, xCall, xNil, xCons, xC, xVar, xBin, xUn, xTest, xTru, xAndT, xOrT, xNotT, xAndV, xOrV, xNotV, xIf, xChain, xTup, xLst, xCallN, xMeth, Res.bind_ok, Res.bind_exc, Res.of_some, List.map_cons, List.map_nil, List.length_cons, List.length_nil, List.replicate_succ, List.replicate_zero, Nat.reduceSub, Nat.reduceAdd, Nat.reduceMul, Nat.reduceLeDiff, Nat.reduceEqDiff, Nat.zero_add, Nat.sub_self, List.cons_append, List.nil_append, List.getElem?_cons_zero, List.getElem?_cons_succ, List.set_cons_zero, List.set_cons_succ, if_true, if_false, reduceIte, reduceCtorEq, Bool.not_true, Bool.not_false, Bool.false_eq_true, decide_true, decide_false, Option.map_some, e1]) (by omega)
    (fun k g acc v ⟨p, pk⟩ hg ha => by
      obtain ⟨_, s', er, dr, r, rfl, ra, rb⟩ := p.call_app (take_sp (m := 26) (by decide)) hl (by omega) (o := .lst acc) (sgn_und ha)
      obtain ⟨c, ec, mc⟩ := char_at (s := "abcdefghijklmnopqrstuvwxyz") (g := g.set b (box s') ++ [.lst acc]) ra (by rw [ll]; exact rb) ls
      refine ⟨_, rfl, sgn c, _, ?_, by rw [set_len, hg], ⟨dr.mono (by omega), by omega⟩, c, rfl, la.asc c mc⟩
      simp only [wipeE, callF, sSeq, sSet, sRet, sRetN, sIf, sExpr, sNil, sPar, xCall, xNil, xCons, xC, xVar, xBin, xUn, xTest, xTru, xAndT, xOrT, xNotT, xAndV, xOrV, xNotV, xIf, xChain, xTup, xLst, xCallN, xMeth, Res.bind_ok, Res.bind_exc, Res.of_some, List.map_cons, List.map_nil, List.length_cons, List.length_nil, List.replicate_succ, List.replicate_zero, Nat.reduceSub, Nat.reduceAdd, Nat.reduceMul, Nat.reduceLeDiff, Nat.reduceEqDiff, Nat.zero_add, Nat.sub_self, List.cons_append, List.nil_append, List.getElem?_cons_zero, List.getElem?_cons_succ, List.set_cons_zero, List.set_cons_succ, if_true, if_false, reduceIte, reduceCtorEq, Bool.not_true, Bool.not_false, Bool.false_eq_true, decide_true, decide_false, Option.map_some, er, ec])
    ⟨d1.mono (by omega), by omega⟩
  obtain ⟨cs, rfl, hcs⟩ := sgn_of ys vy
  have hcl : cs.length ≤ 9 := by simp at ly; omega
  have d3 : Du h b (s.z + 10) (h2 ++ [Ob.lst (cs.map sgn)]) := (d2.mono (by omega)).new (sgn_und vy)
  have jn := join_sgn (g := h2 ++ [Ob.lst (cs.map sgn)]) (n := (h.set b (box s1)).length) (cs := cs) (get_new l2) (by omega)
  have w0 : Sh 9 (⟨cs.toArray⟩ : Str) := ⟨by show cs.toArray.size ≤ 9; simpa using hcl, fun c m => hcs c (by simpa using m)⟩
  generalize hw : (⟨cs.toArray⟩ : Str) = w at jn w0
  generalize h2 ++ [Ob.lst (cs.map sgn)] = h3 at d3 jn e2
  obtain ⟨v4, h4, e4, d4, m4, l4⟩ := pick (A := xCons (xC (.str "me")) (xCons (xC (.str "here")) (xCons (xC (.str "none")) (xCons (xC (.str "m")) (xCons (xC (.str "hered")) (xCons (xC (.str "on")) (xNil)))))))
    (e := [some (.loc b), some (.str "abcdefghijklmnopqrstuvwxyz"), some (.str w), none, none, none]) (h0 := h3) (m := 6) (by simp only [callF, sSeq, sSet, sRet, sRetN, sIf, sExpr, sNil, sPar, xCall, xNil, xCons, xC, xVar, xBin, xUn, xTest, xTru, xAndT, xOrT, xNotT, xAndV, xOrV, xNotV, xIf, xChain, xTup, xLst, xCallN, xMeth, Res.bind_ok, Res.bind_exc, Res.of_some, List.map_cons, List.map_nil, List.length_cons, List.length_nil, List.replicate_succ, List.replicate_zero, Nat.reduceSub, Nat.reduceAdd, Nat.reduceMul, Nat.reduceLeDiff, Nat.reduceEqDiff, Nat.zero_add, Nat.sub_self, List.cons_append, List.nil_append, List.getElem?_cons_zero, List.getElem?_cons_succ, List.set_cons_zero, List.set_cons_succ, if_true, if_false, reduceIte, reduceCtorEq, Bool.not_true, Bool.not_false, Bool.false_eq_true, decide_true, decide_false, Option.map_some]; rfl) rfl d3 hl (by omega) rfl (by decide) (by decide) rfl
  have s4 : isSh 9 v4 := by
    simp only [List.mem_cons, List.not_mem_nil, or_false] at m4
    rcases m4 with rfl | rfl | rfl | rfl | rfl | rfl <;> exact ⟨_, rfl, Sh.lit 9 _⟩
  obtain ⟨v5, h5, e5, d5, m5, l5⟩ := pick (A := xCons (xVar 2) (xCons (xVar 2) (xCons (xBin oIx (xLst (xCons (xC (.str "me")) (xCons (xC (.str "here")) (xCons (xC (.str "none")) (xCons (xC (.str "m")) (xCons (xC (.str "hered")) (xCons (xC (.str "on")) (xNil)))))))) (xCall 2 f__law_take (xCons (xVar 0) (xCons (xC (.int 6)) (xNil))))) (xNil))))
    (e := [some (.loc b), some (.str "abcdefghijklmnopqrstuvwxyz"), some (.str w), none, none, none]) (h0 := h3) (h1 := h4) (vs := [.str w, .str w, v4]) (m := 3) (by
      simp only [xCons, xVar, xNil, Res.bind_ok, List.getElem?_cons_zero, List.getElem?_cons_succ, e4]) rfl d4 hl (by omega) rfl (by decide) (by decide) (undL_of fun y my => by
        simp only [List.mem_cons, List.not_mem_nil, or_false] at my
        rcases my with rfl | rfl | rfl
        · rfl
        · rfl
        · exact s4.und)
  have s5 : isSh 9 v5 := by
    simp only [List.mem_cons, List.not_mem_nil, or_false] at m5
    rcases m5 with rfl | rfl | rfl
    · exact ⟨_, rfl, w0⟩
    · exact ⟨_, rfl, w0⟩
    · exact s4
  obtain ⟨w5, rfl, sh5⟩ := s5
  have z5 : w5.length ≤ sizeLine := sh5.size (by decide)
  have n5 := sh5.len
  obtain ⟨_, s6, e6, d6, r6, rfl, r60, r61⟩ := d5.call (take_sp (m := (w5.length : Int) + 1) (by omega) (lg (by omega) (by omega))) hl (by omega)
  have l7 : (Str.ofString "aZ0 _-.").length = 7 := by decide +kernel
  obtain ⟨_, s7, e7, d7, r7, rfl, r70, r71⟩ := d6.call (take_sp (m := 7) (by decide)) hl (by omega)
  obtain ⟨c7, ec7, mc7⟩ := char_at (s := "aZ0 _-.") (g := (h5.set b (box s6)).set b (box s7)) r70 (by rw [l7]; exact r71) (by rw [l7, sizeLine_eq]; decide)
  have a7 : c7 < 128 := (Sh.lit 7 "aZ0 _-.").asc c7 mc7
  have o7 : Sh 1 (⟨#[c7]⟩ : Str) := Sh.one a7
  have szc : ∀ (x y : Str) (p q : Nat), Sh p x → Sh q y → p + q ≤ 100 → x.length + y.length ≤ sizeLine := fun x y p q hx hy hpq => by
    have := hx.len; have := hy.len
    rw [sizeLine_eq]; omega
  have c1 := sh5.cut none (some r6)
  have c2 := sh5.cut (some r6) none
  have c3 := sh5.cut (some (r6 + 1)) none
  have p1 := szc _ _ 9 1 c1 o7 (by decide)
  have p2 := szc _ _ 10 9 (c1.app o7) c2 (by decide)
  have p3 := szc _ _ 10 9 (c1.app o7) c3 (by decide)
  obtain ⟨v8, h8, e8, d8, m8, l8⟩ := pick (A := xCons (xVar 2) (xCons (xVar 2) (xCons (xBin oAdd (xBin oAdd (xSl oSl (xVar 2) none (some (xVar 3))) (xVar 4)) (xSl oSl (xVar 2) (some (xVar 3)) none)) (xCons (xBin oAdd (xBin oAdd (xSl oSl (xVar 2) none (some (xVar 3))) (xVar 4)) (xSl oSl (xVar 2) (some (xBin oAdd (xVar 3) (xC (.int 1)))) none)) (xNil)))))
    (e := [some (.loc b), some (.str "abcdefghijklmnopqrstuvwxyz"), some (.str w5), some (.int r6), some (sgn c7), none]) (h0 := (h5.set b (box s6)).set b (box s7)) (h1 := (h5.set b (box s6)).set b (box s7)) (vs := [.str w5, .str w5, .str ((cutS w5 none (some r6) ++ ⟨#[c7]⟩) ++ cutS w5 (some r6) none), .str ((cutS w5 none (some r6) ++ ⟨#[c7]⟩) ++ cutS w5 (some (r6 + 1)) none)]) (m := 4)
    (by
      have ai : ∀ {g : Hh}, oAdd (.int r6) (.int 1) g = some (.int (r6 + 1), g) := rfl
      simp only [callF, sSeq, sSet, sRet, sRetN, sIf, sExpr, sNil, sPar, xCall, xNil, xCons, xC, xVar, xBin, xUn, xTest, xTru, xAndT, xOrT, xNotT, xAndV, xOrV, xNotV, xIf, xChain, xTup, xLst, xCallN, xMeth, Res.bind_ok, Res.bind_exc, Res.of_some, List.map_cons, List.map_nil, List.length_cons, List.length_nil, List.replicate_succ, List.replicate_zero, Nat.reduceSub, Nat.reduceAdd, Nat.reduceMul, Nat.reduceLeDiff, Nat.reduceEqDiff, Nat.zero_add, Nat.sub_self, List.cons_append, List.nil_append, List.getElem?_cons_zero, List.getElem?_cons_succ, List.set_cons_zero, List.set_cons_succ, if_true, if_false, reduceIte, reduceCtorEq, Bool.not_true, Bool.not_false, Bool.false_eq_true, decide_true, decide_false, Option.map_some, xSl, xPart, sl_str z5, sgn, add_str p1, add_str p2, add_str p3, ai]) rfl d7 hl (by omega) rfl (by decide) (by decide) rfl
  have s8 : isSh 40 v8 := by
    simp only [List.mem_cons, List.not_mem_nil, or_false] at m8
    rcases m8 with rfl | rfl | rfl | rfl
    · exact ⟨_, rfl, sh5.mono (by decide)⟩
    · exact ⟨_, rfl, sh5.mono (by decide)⟩
    · exact ⟨_, rfl, ((c1.app o7).app c2).mono (by decide)⟩
    · exact ⟨_, rfl, ((c1.app o7).app c3).mono (by decide)⟩
  obtain ⟨s9, g9, gd9, z9⟩ := d8.done (v := v8) c s8.und
  refine ⟨v8, s9, ?_, gd9, by omega, s8⟩
  have q3 : (xCall 2 f__law_take (xCons (xVar 0) (xCons (xBin oAdd (xCallN oLen (xCons (xVar 2) (xNil))) (xC (.int 1))) (xNil)))) [some (.loc b), some (.str "abcdefghijklmnopqrstuvwxyz"), some (.str w5), none, none, none] h5 = .ok (.int r6) (h5.set b (box s6)) := by
    have ai : ∀ {g : Hh}, oAdd (.int (w5.length : Int)) (.int 1) g = some (.int ((w5.length : Int) + 1), g) := rfl
    simp only [callF, sSeq, sSet, sRet, sRetN, sIf, sExpr, sNil, sPar, xCall, xNil, xCons, xC, xVar, xBin, xUn, xTest, xTru, xAndT, xOrT, xNotT, xAndV, xOrV, xNotV, xIf, xChain, xTup, xLst, xCallN, xMeth, Res.bind_ok, Res.bind_exc, Res.of_some, List.map_cons, List.map_nil, List.length_cons, List.length_nil, List.replicate_succ, List.replicate_zero, Nat.reduceSub, Nat.reduceAdd, Nat.reduceMul, Nat.reduceLeDiff, Nat.reduceEqDiff, Nat.zero_add, Nat.sub_self, List.cons_append, List.nil_append, List.getElem?_cons_zero, List.getElem?_cons_succ, List.set_cons_zero, List.set_cons_succ, if_true, if_false, reduceIte, reduceCtorEq, Bool.not_true, Bool.not_false, Bool.false_eq_true, decide_true, decide_false, Option.map_some, len_str z5, ai, e6]
  have q4 : (xBin oIx (xC (.str "aZ0 _-.")) (xCall 2 f__law_take (xCons (xVar 0) (xCons (xC (.int 7)) (xNil))))) [some (.loc b), some (.str "abcdefghijklmnopqrstuvwxyz"), some (.str w5), some (.int r6), none, none] (h5.set b (box s6)) = .ok (sgn c7) ((h5.set b (box s6)).set b (box s7)) := by
    simp only [callF, sSeq, sSet, sRet, sRetN, sIf, sExpr, sNil, sPar, xCall, xNil, xCons, xC, xVar, xBin, xUn, xTest, xTru, xAndT, xOrT, xNotT, xAndV, xOrV, xNotV, xIf, xChain, xTup, xLst, xCallN, xMeth, Res.bind_ok, Res.bind_exc, Res.of_some, List.map_cons, List.map_nil, List.length_cons, List.length_nil, List.replicate_succ, List.replicate_zero, Nat.reduceSub, Nat.reduceAdd, Nat.reduceMul, Nat.reduceLeDiff, Nat.reduceEqDiff, Nat.zero_add, Nat.sub_self, List.cons_append, List.nil_append, List.getElem?_cons_zero, List.getElem?_cons_succ, List.set_cons_zero, List.set_cons_succ, if_true, if_false, reduceIte, reduceCtorEq, Bool.not_true, Bool.not_false, Bool.false_eq_true, decide_true, decide_false, Option.map_some, e7, ec7]
  simp only [f__law_name, x__law_name, callF, sSeq, sSet, sRet, sRetN, sIf, sExpr, sNil, sPar, Res.bind_ok, Res.bind_exc, Res.of_some, List.map_cons, List.map_nil, List.length_cons, List.length_nil, List.replicate_succ, List.replicate_zero, Nat.reduceSub, Nat.reduceAdd, Nat.reduceMul, Nat.reduceLeDiff, Nat.reduceEqDiff, Nat.zero_add, Nat.sub_self, List.cons_append, List.nil_append, List.getElem?_cons_zero, List.getElem?_cons_succ, List.set_cons_zero, List.set_cons_succ, if_true, if_false, reduceIte, reduceCtorEq, Bool.not_true, Bool.not_false, Bool.false_eq_true, decide_true, decide_false, Option.map_some, xMeth, xC, xCons, xNil, isTy, e2, jn, hw, e5, q3, q4, e8, g9]
end K

set_option Elab.async false
set_option linter.all false
set_option maxRecDepth 100000
set_option maxHeartbeats 4000000
namespace K
open PySem L2 EX
def lim (n : Nat) : Nat := if n = 4 then 30 else 2
def Wb (v : Val) : Prop := v = .non ∨ (∃ i : Int, v = .int i ∧ -1000000000 ≤ i ∧ i ≤ 1000000000) ∨ isSh 60 v ∨ ∃ i : Int, v = .tup [.str "thing", .int i] ∧ 0 ≤ i ∧ i ≤ 999
def Wv : Nat → Val → Prop
  | 0, v => Wb v
  | n + 1, v => Wb v ∨ ∃ ps, v = .tup [.str "row", .tup ps] ∧ ps.length ≤ lim (n + 1) ∧ ∀ p ∈ ps, Wv n p
theorem Wb.wv {v : Val} (h : Wb v) : ∀ n, Wv n v
  | 0 => h
  | n + 1 => .inl h
theorem Wb.und {k : Nat} {v : Val} (h : Wb v) : v.und k = true := by
  rcases h with rfl | ⟨i, rfl, _⟩ | ⟨s, rfl, _⟩ | ⟨i, rfl, _⟩ <;> rfl
theorem Wv.und {k : Nat} : ∀ {n : Nat} {v : Val}, Wv n v → v.und k = true
  | 0, v, h => Wb.und h
  | n + 1, v, h => by
    rcases h with h | ⟨ps, rfl, _, hp⟩
    · exact Wb.und h
    · have : undL k ps = true := undL_of fun p m => Wv.und (hp p m)
      simp [Val.und, undL, this]
def DW : Nat → Nat
  | 0 => 70
  | n + 1 => 70 + lim (n + 1) * DW n
theorem DW_ge (n : Nat) : 70 ≤ DW n := by cases n <;> simp [DW]
theorem int_bl {b : Bool} {g : Hh} : oInt [.bl b] g = some (.int (if b then 1 else 0), g) := rfl
theorem tup_loc {g : Hh} {n : Nat} {xs : List Val} (e : g[n]? = some (.lst xs)) : oTuple [.loc n] g = some (.tup xs, g) := by
  unfold oTuple
  simp only [e]
theorem x_tup {h6 h7 : Hh} {e : En} {c : XE} {n : Nat} {ys : List Val} (e7 : c e h6 = .ok (.loc n) h7) (tl : oTuple [.loc n] h7 = some (.tup ys, h7)) : (xCallN oTuple (xCons c (xNil))) e h6 = .ok (.tup ys) h7 := by
  simp only [xCons, xCallN, xNil, Res.bind_ok, e7, tl, Res.of_some]
theorem x_row {h6 h7 : Hh} {e : En} {c : XE} {v : Val} (e7 : c e h6 = .ok v h7) : (xTup (xCons (xC (.str "row")) (xCons c (xNil)))) e h6 = .ok (.tup [.str "row", v]) h7 := by
  have sz : (2 ≤ sizeLine) = True := by rw [sizeLine_eq]; simp
  simp only [xTup, xCons, xC, xNil, Res.bind_ok, e7, List.length_cons, List.length_nil, Nat.zero_add, Nat.reduceAdd, sz, if_true]
theorem seq_nx {a b : XS} {e e1 : En} {h h1 : Hh} (p : a e h = .nx e1 h1) : sSeq a b e h = b e1 h1 := by unfold sSeq; rw [p]
theorem set_ok {i : Nat} {x : XE} {e : En} {h h1 : Hh} {v : Val} (p : x e h = .ok v h1) : sSet i x e h = .nx (e.set i (some v)) h1 := by unfold sSet; rw [p]
theorem if_no {t : XT} {a b : XS} {e : En} {h h1 : Hh} (p : t e h = .ok false h1) : sIf t a b e h = b e h1 := by unfold sIf; rw [p]; rfl
theorem ret_ok {x : XE} {e : En} {h h1 : Hh} {v : Val} (p : x e h = .ok v h1) : sRet x e h = .rt v h1 := by unfold sRet; rw [p]
theorem call_rt {N : Nat} {body : XS} {as : List Val} {h h1 : Hh} {v : Val} (p : body (as.map some ++ List.replicate (N - as.length) none) h = .rt v h1) : callF N body as h = .ok v (gc h.length v h1) := by unfold callF; rw [p]
theorem x_take {b : Nat} {m : Int} {e : En} {h : Hh} {r : Res Val} (he : e[0]? = some (some (.loc b))) (p : f__law_take [.loc b, .int m] h = r) : xCall 2 f__law_take (xCons (xVar 0) (xCons (xC (.int m)) xNil)) e h = r := by
  simp only [xCall, xCons, xVar, he, xC, xNil, Res.bind_ok, List.length_cons, List.length_nil, Nat.zero_add, Nat.reduceAdd, if_true, p]
theorem t_eq {i : Nat} {r m : Int} {e : En} {g : Hh} (he : e[i]? = some (some (.int r))) : xTest (xBin oEq (xVar i) (xC (.int m))) e g = .ok (decide (r = m)) g := by
  simp only [xTest, xBin, xVar, he, xC, Res.bind_ok, eq_int, Res.of_some]
theorem t_lt {i : Nat} {r m : Int} {e : En} {g : Hh} (he : e[i]? = some (some (.int r))) : xTest (xBin oLt (xVar i) (xC (.int m))) e g = .ok (decide (r < m)) g := by
  simp only [xTest, xBin, xVar, he, xC, Res.bind_ok, oLt, Res.of_some]
theorem e_pow9 {e : En} {g : Hh} : xBin oPow (xC (Val.int 10)) (xC (Val.int 9)) e g = .ok (.int 1000000000) g := rfl
theorem worth_sp (k : Nat) : ∀ n : Nat, n < k → n ≤ 4 → SpD (DW n) (f__law_worth k) [.int n] (Wv n) := by
  induction k with
  | zero => intro n hk; omega
  | succ k ih =>
    intro n hk hn4 h b s eb g c hz
    have hl : b < h.length := (List.getElem?_eq_some_iff.mp eb).1
    have dw := DW_ge n
    have dw' : (70 : Int) ≤ (DW n : Int) := by omega
    obtain ⟨_, s1, e1, d1, r, rfl, r0, r1⟩ := (Du.self eb g c).call (take_sp (m := 9) (by decide)) hl (by omega)
    by_cases c0 : r = 0
    · subst c0
      obtain ⟨s2, g2, gd2, z2⟩ := d1.done (v := .non) c rfl
      refine ⟨.non, s2, ?_, gd2, by omega, Wb.wv (.inl rfl) n⟩
      have q : decide ((0 : Int) = 0) = true := rfl
      simp only [f__law_worth, x__law_worth, callF, sSeq, sSet, sRet, sRetN, sIf, sExpr, sNil, sPar, xCall, xNil, xCons, xC, xVar, xBin, xUn, xTest, xTru, xAndT, xOrT, xNotT, xAndV, xOrV, xNotV, xIf, xChain, xTup, xLst, xCallN, xMeth, Res.bind_ok, Res.bind_exc, Res.of_some, List.map_cons, List.map_nil, List.length_cons, List.length_nil, List.replicate_succ, List.replicate_zero, Nat.reduceSub, Nat.reduceAdd, Nat.reduceMul, Nat.reduceLeDiff, Nat.reduceEqDiff, Nat.zero_add, Nat.sub_self, List.cons_append, List.nil_append, List.getElem?_cons_zero, List.getElem?_cons_succ, List.set_cons_zero, List.set_cons_succ, if_true, if_false, reduceIte, reduceCtorEq, Bool.not_true, Bool.not_false, Bool.false_eq_true, decide_true, decide_false, Option.map_some, e1, eq_int, q, g2]
    have q0 : decide (r = 0) = false := decide_eq_false c0
    have tq := fun (m : Int) (g : Hh) => t_eq (i := 2) (r := r) (m := m) (e := [some (.loc b), some (.int n), some (.int r), none, none, none]) (g := g) rfl
    have tlt := fun (m : Int) (g : Hh) => t_lt (i := 2) (r := r) (m := m) (e := [some (.loc b), some (.int n), some (.int r), none, none, none]) (g := g) rfl
    by_cases c1 : r < 3
    · have q1 : decide (r < 3) = true := decide_eq_true c1
      obtain ⟨_, s2, e2, d2, r2, rfl, r20, r21⟩ := d1.call (take_sp (m := 2000000001) (by decide)) hl (by omega)
      have mu : ∀ {g : Hh}, oMul2 (.int 2) (.int 1000000000) g = some (.int 2000000000, g) := rfl
      have ad : ∀ {g : Hh}, oAdd (.int 2000000000) (.int 1) g = some (.int 2000000001, g) := rfl
      have ng : ∀ {g : Hh}, oNeg (.int 1) g = some (.int (-1), g) := rfl
      have sb : ∀ {g : Hh}, oSub (.int r2) (.int 1000000000) g = some (.int (r2 - 1000000000), g) := rfl
      obtain ⟨v3, h3, e3, d3, m3, l3⟩ := pick (A := xCons (xC (.int 0)) (xCons (xC (.int 1)) (xCons (xUn oNeg (xC (.int 1))) (xCons (xVar 3) (xCons (xBin oSub (xC (.int 0)) (xVar 3)) (xCons (xBin oSub (xCall 2 f__law_take (xCons (xVar 0) (xCons (xBin oAdd (xBin oMul2 (xC (.int 2)) (xVar 3)) (xC (.int 1))) (xNil)))) (xVar 3)) (xCons (xC (.int 10)) (xNil))))))))
        (e := [some (.loc b), some (.int n), some (.int r), some (.int 1000000000), none, none]) (h0 := h.set b (box s1)) (m := 7) (by simp only [callF, sSeq, sSet, sRet, sRetN, sIf, sExpr, sNil, sPar, xCall, xNil, xCons, xC, xVar, xBin, xUn, xTest, xTru, xAndT, xOrT, xNotT, xAndV, xOrV, xNotV, xIf, xChain, xTup, xLst, xCallN, xMeth, Res.bind_ok, Res.bind_exc, Res.of_some, List.map_cons, List.map_nil, List.length_cons, List.length_nil, List.replicate_succ, List.replicate_zero, Nat.reduceSub, Nat.reduceAdd, Nat.reduceMul, Nat.reduceLeDiff, Nat.reduceEqDiff, Nat.zero_add, Nat.sub_self, List.cons_append, List.nil_append, List.getElem?_cons_zero, List.getElem?_cons_succ, List.set_cons_zero, List.set_cons_succ, if_true, if_false, reduceIte, reduceCtorEq, Bool.not_true, Bool.not_false, Bool.false_eq_true, decide_true, decide_false, Option.map_some, mu, ad, ng, sub9, e2, sb]; rfl) rfl d2 hl (by omega) rfl (by decide) (by decide) rfl
      have w3 : Wb v3 := by
        simp only [List.mem_cons, List.not_mem_nil, or_false] at m3
        rcases m3 with rfl | rfl | rfl | rfl | rfl | rfl | rfl <;> exact .inr (.inl ⟨_, rfl, by omega, by omega⟩)
      obtain ⟨s4, g4, gd4, z4⟩ := d3.done (v := v3) c w3.und
      refine ⟨v3, s4, ?_, gd4, by omega, w3.wv n⟩
      simp only [f__law_worth, x__law_worth, callF, sSeq, sSet, sRet, sRetN, sIf, sExpr, sNil, sPar, Res.bind_ok, Res.bind_exc, Res.of_some, List.map_cons, List.map_nil, List.length_cons, List.length_nil, List.replicate_succ, List.replicate_zero, Nat.reduceSub, Nat.reduceAdd, Nat.reduceMul, Nat.reduceLeDiff, Nat.reduceEqDiff, Nat.zero_add, Nat.sub_self, List.cons_append, List.nil_append, List.getElem?_cons_zero, List.getElem?_cons_succ, List.set_cons_zero, List.set_cons_succ, if_true, if_false, reduceIte, reduceCtorEq, Bool.not_true, Bool.not_false, Bool.false_eq_true, decide_true, decide_false, Option.map_some, xCall, xCons, xNil, xVar, xC, e1, tq, q0, tlt, q1, e_pow9, e3, g4]
    have q1 : decide (r < 3) = false := decide_eq_false c1
    by_cases c2 : r < 5
    · have q2 : decide (r < 5) = true := decide_eq_true c2
      obtain ⟨v2, s2, e2, d2, w, rfl, shw, _⟩ := d1.call text_sp hl (by omega)
      obtain ⟨s4, g4, gd4, z4⟩ := d2.done (v := .str w) c rfl
      refine ⟨.str w, s4, ?_, gd4, by omega, Wb.wv (.inr (.inr (.inl ⟨w, rfl, shw⟩))) n⟩
      simp only [f__law_worth, x__law_worth, callF, sSeq, sSet, sRet, sRetN, sIf, sExpr, sNil, sPar, Res.bind_ok, Res.bind_exc, Res.of_some, List.map_cons, List.map_nil, List.length_cons, List.length_nil, List.replicate_succ, List.replicate_zero, Nat.reduceSub, Nat.reduceAdd, Nat.reduceMul, Nat.reduceLeDiff, Nat.reduceEqDiff, Nat.zero_add, Nat.sub_self, List.cons_append, List.nil_append, List.getElem?_cons_zero, List.getElem?_cons_succ, List.set_cons_zero, List.set_cons_succ, if_true, if_false, reduceIte, reduceCtorEq, Bool.not_true, Bool.not_false, Bool.false_eq_true, decide_true, decide_false, Option.map_some, xCall, xCons, xNil, xVar, xC, e1, tq, q0, tlt, q1, q2, e2, g4]
    have q2 : decide (r < 5) = false := decide_eq_false c2
    by_cases c3 : r = 5 ∨ n = 0
    · obtain ⟨_, s2, e2, d2, r2, rfl, r20, r21⟩ := d1.call (take_sp (m := 1000) (by decide)) hl (by omega)
      obtain ⟨v3, h3, e3, d3, m3, l3⟩ := pick (A := xCons (xC (.int 0)) (xCons (xC (.int 999)) (xCons (xCall 2 f__law_take (xCons (xVar 0) (xCons (xC (.int 1000)) (xNil)))) (xNil))))
        (e := [some (.loc b), some (.int n), some (.int r), none, none, none]) (h0 := h.set b (box s1)) (m := 3) (by simp only [callF, sSeq, sSet, sRet, sRetN, sIf, sExpr, sNil, sPar, xCall, xNil, xCons, xC, xVar, xBin, xUn, xTest, xTru, xAndT, xOrT, xNotT, xAndV, xOrV, xNotV, xIf, xChain, xTup, xLst, xCallN, xMeth, Res.bind_ok, Res.bind_exc, Res.of_some, List.map_cons, List.map_nil, List.length_cons, List.length_nil, List.replicate_succ, List.replicate_zero, Nat.reduceSub, Nat.reduceAdd, Nat.reduceMul, Nat.reduceLeDiff, Nat.reduceEqDiff, Nat.zero_add, Nat.sub_self, List.cons_append, List.nil_append, List.getElem?_cons_zero, List.getElem?_cons_succ, List.set_cons_zero, List.set_cons_succ, if_true, if_false, reduceIte, reduceCtorEq, Bool.not_true, Bool.not_false, Bool.false_eq_true, decide_true, decide_false, Option.map_some, e2]; rfl) rfl d2 hl (by omega) rfl (by decide) (by decide) rfl
      have w3 : ∃ i : Int, v3 = .int i ∧ 0 ≤ i ∧ i ≤ 999 := by
        simp only [List.mem_cons, List.not_mem_nil, or_false] at m3
        rcases m3 with rfl | rfl | rfl <;> exact ⟨_, rfl, by omega, by omega⟩
      obtain ⟨j, rfl, j0, j1⟩ := w3
      obtain ⟨s4, g4, gd4, z4⟩ := d3.done (v := .tup [.str "thing", .int j]) c rfl
      refine ⟨.tup [.str "thing", .int j], s4, ?_, gd4, by omega, Wb.wv (.inr (.inr (.inr ⟨j, rfl, j0, j1⟩))) n⟩
      have sz : (2 ≤ sizeLine) = True := by rw [sizeLine_eq]; simp
      have tt : xOrT (xTest (xBin oEq (xVar 2) (xC (.int 5)))) (xTest (xBin oEq (xVar 1) (xC (.int 0)))) [some (.loc b), some (.int n), some (.int r), none, none, none] (h.set b (box s1)) = .ok true (h.set b (box s1)) := by
        unfold xOrT
        rw [t_eq (r := r) rfl, Res.bind_ok]
        by_cases c5 : r = 5
        · rw [if_pos (decide_eq_true c5)]
        · rw [if_neg (by simpa using c5), t_eq (r := (n : Int)) rfl]
          have : n = 0 := c3.resolve_left c5
          rw [decide_eq_true (by omega)]
      simp only [f__law_worth, x__law_worth, callF, sSeq, sSet, sRet, sRetN, sIf, sExpr, sNil, sPar, Res.bind_ok, Res.bind_exc, Res.of_some, List.map_cons, List.map_nil, List.length_cons, List.length_nil, List.replicate_succ, List.replicate_zero, Nat.reduceSub, Nat.reduceAdd, Nat.reduceMul, Nat.reduceLeDiff, Nat.reduceEqDiff, Nat.zero_add, Nat.sub_self, List.cons_append, List.nil_append, List.getElem?_cons_zero, List.getElem?_cons_succ, List.set_cons_zero, List.set_cons_succ, if_true, if_false, reduceIte, reduceCtorEq, Bool.not_true, Bool.not_false, Bool.false_eq_true, decide_true, decide_false, Option.map_some, xCall, xCons, xNil, xVar, xC, xTup, e1, tq, q0, tlt, q1, q2, tt, e3, sz, g4]
    · have n5 : ¬ r = 5 := fun z => c3 (.inl z)
      have n0 : n ≠ 0 := fun z => c3 (.inr z)
      obtain ⟨m, rfl⟩ : ∃ m, n = m + 1 := ⟨n - 1, by omega⟩
      have tt : xOrT (xTest (xBin oEq (xVar 2) (xC (.int 5)))) (xTest (xBin oEq (xVar 1) (xC (.int 0)))) [some (.loc b), some (.int ((m + 1 : Nat) : Int)), some (.int r), none, none, none] (h.set b (box s1)) = .ok false (h.set b (box s1)) := by
        unfold xOrT
        rw [t_eq (r := r) rfl, Res.bind_ok, if_neg (by simpa using n5), t_eq (r := ((m + 1 : Nat) : Int)) rfl, decide_eq_false (by omega)]
      have eL : ∃ g5, xBin oIx (xLst (xCons (xC (.int 2)) (xCons (xC (.int 30)) (xNil)))) (xCallN oInt (xCons (xBin oEq (xVar 1) (xC (.int 4))) (xNil))) [some (.loc b), some (.int ((m + 1 : Nat) : Int)), some (.int r), none, none, none] (h.set b (box s1)) = .ok (.int (lim (m + 1) : Int)) g5 ∧ Du h b (s.z + 1) g5 := by
        refine ⟨h.set b (box s1) ++ [.lst [.int 2, .int 30]], ?_, d1.new rfl⟩
        have sz : (2 ≤ sizeLine) = True := by rw [sizeLine_eq]; simp
        have gN : (h.set b (box s1) ++ [Ob.lst [Val.int 2, Val.int 30]])[(h.set b (box s1)).length]? = some (.lst [.int 2, .int 30]) := get_new rfl
        simp only [callF, sSeq, sSet, sRet, sRetN, sIf, sExpr, sNil, sPar, xCall, xNil, xCons, xC, xVar, xBin, xUn, xTest, xTru, xAndT, xOrT, xNotT, xAndV, xOrV, xNotV, xIf, xChain, xTup, xLst, xCallN, xMeth, Res.bind_ok, Res.bind_exc, Res.of_some, List.map_cons, List.map_nil, List.length_cons, List.length_nil, List.replicate_succ, List.replicate_zero, Nat.reduceSub, Nat.reduceAdd, Nat.reduceMul, Nat.reduceLeDiff, Nat.reduceEqDiff, Nat.zero_add, Nat.sub_self, List.cons_append, List.nil_append, List.getElem?_cons_zero, List.getElem?_cons_succ, List.set_cons_zero, List.set_cons_succ, if_true, if_false, reduceIte, reduceCtorEq, Bool.not_true, Bool.not_false, Bool.false_eq_true, decide_true, decide_false, Option.map_some, sz, eq_int, int_bl]
        unfold oIx
        simp only [gN]
        by_cases c4 : m + 1 = 4
        · have : decide (((m + 1 : Nat) : Int) = 4) = true := decide_eq_true (by omega)
          rw [this]
          simp [lim, c4, atI, ixN]
        · have : decide (((m + 1 : Nat) : Int) = 4) = false := decide_eq_false (by omega)
          rw [this]
          simp [lim, c4, atI, ixN]
      obtain ⟨g5, eL, dL⟩ := eL
      obtain ⟨v6, h6, e6, d6, m6, l6⟩ := pick (A := xCons (xC (.int 0)) (xCons (xC (.int 1)) (xCons (xC (.int 2)) (xCons (xBin oIx (xLst (xCons (xC (.int 2)) (xCons (xC (.int 30)) (xNil)))) (xCallN oInt (xCons (xBin oEq (xVar 1) (xC (.int 4))) (xNil)))) (xCons (xC (.int 1)) (xNil))))))
        (e := [some (.loc b), some (.int ((m + 1 : Nat) : Int)), some (.int r), none, none, none]) (h0 := h.set b (box s1)) (h1 := g5) (vs := [.int 0, .int 1, .int 2, .int (lim (m + 1) : Int), .int 1]) (m := 5) (by simp only [xCons, xC, xNil, Res.bind_ok, eL]) rfl dL hl (by omega) rfl (by decide) (by decide) rfl
      have l2 : 2 ≤ lim (m + 1) := by unfold lim; split <;> omega
      have l30 : lim (m + 1) ≤ 30 := by unfold lim; split <;> omega
      have w6 : ∃ p : Nat, v6 = .int (p : Int) ∧ p ≤ lim (m + 1) := by
        simp only [List.mem_cons, List.not_mem_nil, or_false] at m6
        rcases m6 with rfl | rfl | rfl | rfl | rfl
        · exact ⟨0, rfl, by omega⟩
        · exact ⟨1, rfl, by omega⟩
        · exact ⟨2, rfl, by omega⟩
        · exact ⟨_, rfl, Nat.le_refl _⟩
        · exact ⟨1, rfl, by omega⟩
      obtain ⟨p, rfl, hp⟩ := w6
      have hDW : (DW (m + 1) : Int) = 70 + (lim (m + 1) : Int) * (DW m : Int) := by simp [DW]
      have hmul : (p : Int) * (DW m : Int) ≤ (lim (m + 1) : Int) * (DW m : Int) := Int.mul_le_mul_of_nonneg_right (by omega) (by omega)
      obtain ⟨ys, h7, e7, l7, ⟨d7, _⟩, ly, vy⟩ := comp_range (a := xVar 4) (t := .name 5) (vs := [5]) (h := h6) (m := (p : Int)) (h1 := h6)
        (x := xCall 2 (f__law_worth k) (xCons (xVar 0) (xCons (xBin oSub (xVar 1) (xC (.int 1))) (xNil))))
        (e := [some (.loc b), some (.int ((m + 1 : Nat) : Int)), some (.int r), none, some (.int (p : Int)), none])
        (P := fun j g => Du h b (s.z + 2 + ((p : Int) - (j : Int)) * (DW m : Int)) g ∧ j ≤ p) (V := Wv m) rfl (by omega)
        (fun j g acc v ⟨pp, pj⟩ hg ha => by
          have ez : s.z + 2 + ((p : Int) - ((j + 1 : Nat) : Int)) * (DW m : Int) + (DW m : Int) = s.z + 2 + ((p : Int) - (j : Int)) * (DW m : Int) := by
            have : ((p : Int) - (j : Int)) = ((p : Int) - ((j + 1 : Nat) : Int)) + 1 := by omega
            rw [this, Int.add_mul, Int.one_mul]
            omega
          have hle : ((p : Int) - (j : Int)) * (DW m : Int) ≤ (lim (m + 1) : Int) * (DW m : Int) := Int.mul_le_mul_of_nonneg_right (by omega) (by omega)
          obtain ⟨y, s', er, dr, wy⟩ := pp.call_app (ih m (by omega) (by omega)) hl (by omega) (o := .lst acc) (undL_of fun y my => (ha y my).und)
          have es : ((m + 1 : Nat) : Int) - 1 = (m : Int) := by omega
          refine ⟨_, rfl, y, g.set b (box s'), ?_, by rw [set_len, hg], ⟨by rw [ez] at dr; exact dr, by omega⟩, wy⟩
          simp only [wipeE, callF, sSeq, sSet, sRet, sRetN, sIf, sExpr, sNil, sPar, xCall, xNil, xCons, xC, xVar, xBin, xUn, xTest, xTru, xAndT, xOrT, xNotT, xAndV, xOrV, xNotV, xIf, xChain, xTup, xLst, xCallN, xMeth, Res.bind_ok, Res.bind_exc, Res.of_some, List.map_cons, List.map_nil, List.length_cons, List.length_nil, List.replicate_succ, List.replicate_zero, Nat.reduceSub, Nat.reduceAdd, Nat.reduceMul, Nat.reduceLeDiff, Nat.reduceEqDiff, Nat.zero_add, Nat.sub_self, List.cons_append, List.nil_append, List.getElem?_cons_zero, List.getElem?_cons_succ, List.set_cons_zero, List.set_cons_succ, if_true, if_false, reduceIte, reduceCtorEq, Bool.not_true, Bool.not_false, Bool.false_eq_true, decide_true, decide_false, Option.map_some, oSub, es, er])
        ⟨d6.mono (by simp; omega), by simp⟩
      have hly : ys.length ≤ lim (m + 1) := by simp at ly; omega
      have d8 : Du h b (s.z + DW (m + 1)) (h7 ++ [Ob.lst ys]) := (d7.mono (by
        have : ((p : Int) - ((0 : Nat) : Int)) = (p : Int) := by omega
        rw [this]; omega)).new (undL_of fun y my => (vy y my).und)
      have wr : Wv (m + 1) (.tup [.str "row", .tup ys]) := .inr ⟨ys, rfl, hly, vy⟩
      obtain ⟨s9, g9, gd9, z9⟩ := d8.done (v := .tup [.str "row", .tup ys]) c wr.und
      refine ⟨_, s9, ?_, gd9, z9, wr⟩
      have tl := tup_loc (g := h7 ++ [Ob.lst ys]) (n := h6.length) (xs := ys) (get_new l7)
      have qr := x_row (x_tup e7 tl)
      have t0 := tq 0 (h.set b (box s1))
      rw [q0] at t0
      have t3 := tlt 3 (h.set b (box s1))
      rw [q1] at t3
      have t5 := tlt 5 (h.set b (box s1))
      rw [q2] at t5
      rw [← g9]
      show callF 6 (x__law_worth (f__law_worth k)) _ _ = _
      refine call_rt ?_
      unfold x__law_worth
      refine (seq_nx (e1 := [some (.loc b), some (.int ((m + 1 : Nat) : Int)), some (.int r), none, none, none]) (set_ok (x_take rfl e1))).trans ?_
      refine (seq_nx (if_no t0)).trans ?_
      refine (seq_nx (if_no t3)).trans ?_
      refine (seq_nx (if_no t5)).trans ?_
      refine (seq_nx (if_no tt)).trans ?_
      refine (seq_nx (e1 := [some (.loc b), some (.int ((m + 1 : Nat) : Int)), some (.int r), none, some (.int (p : Int)), none]) (set_ok e6)).trans ?_
      exact ret_ok qr
end K

set_option Elab.async false
set_option linter.all false
set_option maxRecDepth 100000
set_option maxHeartbeats 4000000
namespace K
open PySem L2 EX
/-! ### the trees of worths -/
def BW : Nat → Nat
  | 0 => 70
  | n + 1 => 70 + lim (n + 1) * (BW n + 1)
structure Tr (v : Val) (d : PyData) (dp bk : Nat) : Prop where
  is : ∀ h, Is h d v
  ok : okD d = true
  dp : d.depth ≤ dp
  bk : d.bulk ≤ bk
  ly : d.canLay0 = true
theorem Tr.mono {v : Val} {d : PyData} {a b a' b' : Nat} (t : Tr v d a b) (h1 : a ≤ a') (h2 : b ≤ b') : Tr v d a' b' := ⟨t.is, t.ok, Nat.le_trans t.dp h1, Nat.le_trans t.bk h2, t.ly⟩
theorem ok_str {n : Nat} {s : Str} (h : Sh n s) (hn : n ≤ 100) : okD (.str s) = true := by
  have := h.len
  simp only [okD, Bool.and_eq_true, decide_eq_true_eq, List.all_eq_true]
  exact ⟨by omega, h.asc⟩
theorem Tr.str {n : Nat} {s : Str} (h : Sh n s) (hn : n ≤ 100) : Tr (.str s) (.str s) 0 n := ⟨fun _ => rfl, ok_str h hn, Nat.le_refl _, h.len, str_lay (ok_str h hn)⟩
theorem Tr.int {i : Int} (h : i.natAbs < 10 ^ 31) : Tr (.int i) (.int i) 0 0 := ⟨fun _ => rfl, by simpa only [okD, decide_eq_true_eq] using h, Nat.le_refl _, Nat.le_refl _, rfl⟩
theorem Tr.non : Tr .non .none 0 0 := ⟨fun _ => rfl, rfl, Nat.le_refl _, Nat.le_refl _, rfl⟩
theorem Tr.bl (b : Bool) : Tr (.bl b) (.bool b) 0 0 := ⟨fun _ => rfl, rfl, Nat.le_refl _, Nat.le_refl _, rfl⟩
theorem Tr.all {dp bk : Nat} : ∀ {xs : List Val}, (∀ x ∈ xs, ∃ d, Tr x d dp bk) → ∃ ds : List PyData, (∀ h, IsL h ds xs) ∧ okL ds = true ∧ PyData.depthAll ds ≤ dp ∧ PyData.bulkAll ds ≤ xs.length * (bk + 1) ∧ PyData.canLayAll0 ds = true ∧ ds.length = xs.length
  | [], _ => ⟨[], fun _ => rfl, rfl, Nat.zero_le _, Nat.zero_le _, rfl, rfl⟩
  | x :: xs, h => by
    obtain ⟨d, t⟩ := h x (.head _)
    obtain ⟨ds, i, o, p, b, l, n⟩ := Tr.all fun y m => h y (.tail _ m)
    have tb := t.bk
    have tp := t.dp
    refine ⟨d :: ds, fun h => ⟨x, xs, rfl, t.is h, i h⟩, ?_, ?_, ?_, ?_, ?_⟩
    · simp only [okL, Bool.and_eq_true]; exact ⟨t.ok, o⟩
    · simp only [PyData.depthAll]; omega
    · simp only [PyData.bulkAll, List.length_cons, Nat.add_mul, Nat.one_mul]; omega
    · simp only [PyData.canLayAll0, Bool.and_eq_true]; exact ⟨t.ly, l⟩
    · rw [List.length_cons, List.length_cons, n]
theorem Tr.thing {v : Val} {d : PyData} (hs : scalarD d = true) {bk : Nat} (t : Tr v d 0 bk) : Tr (.tup [.str "thing", v]) (.tuple [.str "thing", d]) 1 (bk + 12) := by
  have s := Tr.str (Sh.lit 5 "thing") (by decide)
  have h1 := s.bk
  have h2 := t.bk
  have h3 := t.dp
  have h4 := s.dp
  refine ⟨fun h => ⟨_, rfl, _, _, rfl, s.is h, _, _, rfl, t.is h, rfl⟩, okD_of rfl ?_ ?_, ?_, ?_, ?_⟩
  · simp only [okL, Bool.and_eq_true]
    exact ⟨s.ok, t.ok, trivial⟩
  · intro t' ps e
    cases e
    cases hs
  · simp only [PyData.depth, PyData.depthAll]; omega
  · simp only [PyData.bulk, PyData.bulkAll] at h1 ⊢; omega
  · have := s.ly
    simp only [PyData.canLay0, PyData.canLayAll0, Bool.and_eq_true] at this ⊢
    exact ⟨this, t.ly, trivial⟩
theorem Tr.row {xs : List Val} {ds : List PyData} {dp bk : Nat} (i : ∀ h, IsL h ds xs) (o : okL ds = true) (p : PyData.depthAll ds ≤ dp) (b : PyData.bulkAll ds ≤ bk) (l : PyData.canLayAll0 ds = true) : Tr (.tup [.str "row", .tup xs]) (.tuple [.str "row", .tuple ds]) (dp + 2) (bk + 12) := by
  have s := Tr.str (Sh.lit 3 "row") (by decide)
  have h1 := s.bk
  refine ⟨fun h => ⟨_, rfl, _, _, rfl, s.is h, _, _, rfl, ⟨xs, rfl, i h⟩, rfl⟩, ?_, ?_, ?_, ?_⟩
  · rw [okD, Bool.and_eq_true]; exact ⟨s.ok, o⟩
  · simp only [PyData.depth, PyData.depthAll]; omega
  · simp only [PyData.bulk, PyData.bulkAll] at h1 ⊢; omega
  · have := s.ly
    simp only [PyData.canLay0, PyData.canLayAll0, Bool.and_eq_true] at this ⊢
    exact ⟨this, l, trivial⟩
theorem Wb.tree {v : Val} (h : Wb v) : ∃ d, Tr v d 1 70 := by
  rcases h with rfl | ⟨i, rfl, i0, i1⟩ | ⟨s, rfl, sh⟩ | ⟨i, rfl, i0, i1⟩
  · exact ⟨_, Tr.non.mono (by decide) (by decide)⟩
  · exact ⟨_, (Tr.int (Nat.lt_of_le_of_lt (show i.natAbs ≤ 1000000000 by omega) (by decide))).mono (by decide) (by decide)⟩
  · exact ⟨_, (Tr.str sh (by decide)).mono (by decide) (by decide)⟩
  · exact ⟨_, (Tr.thing rfl (Tr.int (Nat.lt_of_le_of_lt (show i.natAbs ≤ 1000000000 by omega) (by decide)))).mono (by decide) (by decide)⟩
theorem BW_ge (n : Nat) : 70 ≤ BW n := by cases n <;> simp [BW]
theorem Wv.tree : ∀ {n : Nat} {v : Val}, Wv n v → ∃ d, Tr v d (2 * n + 1) (BW n)
  | 0, v, h => by
    obtain ⟨d, t⟩ := Wb.tree h
    exact ⟨d, t⟩
  | n + 1, v, h => by
    rcases h with h | ⟨ps, rfl, hl, hp⟩
    · obtain ⟨d, t⟩ := Wb.tree h
      exact ⟨d, t.mono (by omega) (BW_ge _)⟩
    · obtain ⟨ds, i, o, p, b, l, hn⟩ := Tr.all fun x m => Wv.tree (hp x m)
      refine ⟨_, (Tr.row i o p b l).mono (by omega) ?_⟩
      have : ps.length * (BW n + 1) ≤ lim (n + 1) * (BW n + 1) := Nat.mul_le_mul_right _ hl
      simp only [BW]
      omega
end K

set_option Elab.async false
set_option linter.all false
set_option maxRecDepth 100000
set_option maxHeartbeats 4000000
namespace K
open PySem L2 EX
/-- the tree of v stands by places from n on alone -/
def Fr (n : Nat) (h : Hh) (d : PyData) (v : Val) : Prop := ∀ h2 : Hh, (∀ (i : Nat) (o : Ob), n ≤ i → h[i]? = some o → h2[i]? = some o) → Is h2 d v
theorem Tr.fr {v : Val} {d : PyData} {a b : Nat} (t : Tr v d a b) (n : Nat) (h : Hh) : Fr n h d v := fun h2 _ => t.is h2
theorem Fr.mono {n m : Nat} {h : Hh} {d : PyData} {v : Val} (f : Fr m h d v) (l : n ≤ m) : Fr n h d v := fun h2 a => f h2 fun i o hi e => a i o (by omega) e
theorem Fr.grow {n : Nat} {h h' : Hh} {d : PyData} {v : Val} (f : Fr n h d v) (k : ∀ (i : Nat) (o : Ob), n ≤ i → h[i]? = some o → h'[i]? = some o) : Fr n h' d v := fun h2 a => f h2 fun i o hi e => a i o hi (k i o hi e)
theorem Fr.is {n : Nat} {h : Hh} {d : PyData} {v : Val} (f : Fr n h d v) : Is h d v := f h fun _ _ _ e => e
mutual
theorem Is.noloc {h3 : Hh} {n : Nat} (hl : ∀ j < n, ∀ xs, h3[j]? ≠ some (.lst xs)) (hk : ∀ j < n, ∀ xs, h3[j]? ≠ some (.dct xs)) {h2 : Hh} : ∀ {d : PyData} {v : Val}, Is h3 d v → v.und n = true → Is h2 d v
  | .none, _, e, _ => e
  | .bool _, _, e, _ => e
  | .int _, _, e, _ => e
  | .str _, _, e, _ => e
  | .tuple _, _, ⟨xs, e, r⟩, u => by
    subst e
    exact ⟨xs, rfl, IsL.noloc hl hk r (by simpa [Val.und] using u)⟩
  | .list _, _, ⟨m, xs, e, g, r⟩, u => by
    subst e
    exact absurd g (hl m (by simpa [Val.und] using u) xs)
  | .dict _, _, ⟨m, xs, e, g, r⟩, u => by
    subst e
    exact absurd g (hk m (by simpa [Val.und] using u) xs)
theorem IsL.noloc {h3 : Hh} {n : Nat} (hl : ∀ j < n, ∀ xs, h3[j]? ≠ some (.lst xs)) (hk : ∀ j < n, ∀ xs, h3[j]? ≠ some (.dct xs)) {h2 : Hh} : ∀ {ds : List PyData} {xs : List Val}, IsL h3 ds xs → undL n xs = true → IsL h2 ds xs
  | [], _, e, _ => e
  | _ :: _, _, ⟨x, r, e, a, b⟩, u => by
    subst e
    simp only [undL, Bool.and_eq_true] at u
    exact ⟨x, r, rfl, Is.noloc hl hk a u.1, IsL.noloc hl hk b u.2⟩
end
theorem Fr.noloc {n : Nat} {h : Hh} {d : PyData} {v : Val} (f : Fr n h d v) (hn : n ≤ h.length) (u : v.und n = true) (h2 : Hh) : Is h2 d v := by
  have key : ∀ j < n, (List.replicate n (Ob.ins "" []) ++ h.drop n)[j]? = some (Ob.ins "" []) := fun j hj => by
    rw [List.getElem?_append_left (by rw [List.length_replicate]; exact hj), List.getElem?_replicate, if_pos hj]
  have i3 := f (List.replicate n (Ob.ins "" []) ++ h.drop n) fun i o hi e => by
    rw [List.getElem?_append_right (by rw [List.length_replicate]; exact hi), List.length_replicate, List.getElem?_drop, Nat.add_sub_cancel' hi]
    exact e
  exact i3.noloc (fun j hj xs e => by rw [key j hj] at e; cases e) (fun j hj xs e => by rw [key j hj] at e; cases e) u
theorem gc_fr {h : Hh} {b : Nat} {z : Int} {hF : Hh} {d : PyData} {v : Val} (D : Du h b z hF) (c : Cl h) (f : Fr h.length hF d v) : Du h b z (gc h.length v hF) ∧ Fr h.length (gc h.length v hF) d v := by
  unfold gc
  split
  · rename_i hu
    have nl := f.noloc D.le hu.1
    obtain ⟨s, l, e, g, q, _⟩ := D
    have et : hF.take h.length = h.set b (box s) := by
      rw [e]
      have : h.length = (h.set b (box s)).length := by rw [List.length_set]
      rw [this]
      exact List.take_left
    rw [et]
    exact ⟨⟨s, [], by rw [List.append_nil], g, q, c.set b s⟩, fun h2 _ => nl h2⟩
  · exact ⟨D, f⟩
theorem Du.trans {h h1 h2 : Hh} {b : Nat} {z z' : Int} (d : Du h b z h1) (d' : Du h1 b z' h2) (hl : b < h.length) : Du h b z' h2 := by
  obtain ⟨s, l, e, g, q, c⟩ := d
  obtain ⟨s', l', e', g', q', c'⟩ := d'
  have hl' : b < (h.set b (box s)).length := by rw [List.length_set]; exact hl
  exact ⟨s', l ++ l', by rw [e', e, List.set_append_left _ _ hl', List.set_set, List.append_assoc], g', q', c'⟩
/-! ### rows within rows -/
theorem deep1 {h : Hh} : f__law_deep [.int 1] h = .ok (.tup [.str "row", .tup []]) h := by
  have sz : (2 ≤ sizeLine) = True := by rw [sizeLine_eq]; simp
  have z0 : (0 ≤ sizeLine) = True := by simp
  have r0 : ∀ e : En, e[0]? = some (some (Val.int 1)) → xRange1 (xBin oSub (xVar 0) (xC (.int 1))) e h = .ok (.items []) h := fun e he => by
    simp [xRange1, xBin, xVar, he, xC, oSub]
  have r1 := r0 [some (.int 1), some (.tup [.str "row", .tup []]), none] rfl
  simp only [f__law_deep, x__law_deep, callF, sSeq, sSet, sRet, sRetN, sIf, sExpr, sNil, sPar, xCall, xNil, xCons, xC, xVar, xBin, xUn, xTest, xTru, xAndT, xOrT, xNotT, xAndV, xOrV, xNotV, xIf, xChain, xTup, xLst, xCallN, xMeth, Res.bind_ok, Res.bind_exc, Res.of_some, List.map_cons, List.map_nil, List.length_cons, List.length_nil, List.replicate_succ, List.replicate_zero, Nat.reduceSub, Nat.reduceAdd, Nat.reduceMul, Nat.reduceLeDiff, Nat.reduceEqDiff, Nat.zero_add, Nat.sub_self, List.cons_append, List.nil_append, List.getElem?_cons_zero, List.getElem?_cons_succ, List.set_cons_zero, List.set_cons_succ, if_true, if_false, reduceIte, reduceCtorEq, Bool.not_true, Bool.not_false, Bool.false_eq_true, decide_true, decide_false, Option.map_some, sz, z0, sFor, r1, forLoop, Itn.xs, Itn.okAt, gc_self]
theorem deep2 {h : Hh} : f__law_deep [.int 2] h = .ok (.tup [.str "row", .tup [.tup [.str "row", .tup []]]]) h := by
  have sz : (2 ≤ sizeLine) = True := by rw [sizeLine_eq]; simp
  have z0 : (0 ≤ sizeLine) = True := by simp
  have z1 : (1 ≤ sizeLine) = True := by rw [sizeLine_eq]; simp
  have r0 : ∀ e : En, e[0]? = some (some (Val.int 2)) → xRange1 (xBin oSub (xVar 0) (xC (.int 1))) e h = .ok (.items [.int 0]) h := fun e he => by
    simp [xRange1, xBin, xVar, he, xC, oSub, List.range_succ]
  have r1 := r0 [some (.int 2), some (.tup [.str "row", .tup []]), none] rfl
  simp only [f__law_deep, x__law_deep, callF, sSeq, sSet, sRet, sRetN, sIf, sExpr, sNil, sPar, xCall, xNil, xCons, xC, xVar, xBin, xUn, xTest, xTru, xAndT, xOrT, xNotT, xAndV, xOrV, xNotV, xIf, xChain, xTup, xLst, xCallN, xMeth, Res.bind_ok, Res.bind_exc, Res.of_some, List.map_cons, List.map_nil, List.length_cons, List.length_nil, List.replicate_succ, List.replicate_zero, Nat.reduceSub, Nat.reduceAdd, Nat.reduceMul, Nat.reduceLeDiff, Nat.reduceEqDiff, Nat.zero_add, Nat.sub_self, List.cons_append, List.nil_append, List.getElem?_cons_zero, List.getElem?_cons_succ, List.set_cons_zero, List.set_cons_succ, if_true, if_false, reduceIte, reduceCtorEq, Bool.not_true, Bool.not_false, Bool.false_eq_true, decide_true, decide_false, Option.map_some, sz, z0, z1, sFor, r1, forLoop, Itn.xs, Itn.okAt, Tg.put, gc_self]
end K

set_option Elab.async false
set_option linter.all false
set_option maxRecDepth 100000
set_option maxHeartbeats 4000000
namespace K
open PySem L2 EX
theorem gA {H l : Hh} {k : Nat} : (H ++ l)[H.length + k]? = l[k]? := by
  rw [List.getElem?_append_right (Nat.le_add_right _ _), Nat.add_sub_cancel_left]
theorem gA0 {H l : Hh} : (H ++ l)[H.length]? = l[0]? := by
  rw [List.getElem?_append_right (Nat.le_refl _), Nat.sub_self]
theorem pow29 {g : Hh} : oPow (.int 10) (.int 29) g = some (.int 100000000000000000000000000000, g) := rfl
def tx61 : Str := Txt.mul (Str.ofString "a") 61
def tx60 : Str := Txt.mul (Str.ofString "a") 60
theorem mul61 {g : Hh} : oMul2 (.str "a") (.int 61) g = some (.str tx61, g) := by
  have : mulOk (Str.ofString "a") 61 = true := by decide +kernel
  unfold oMul2
  simp only [this, if_true]
  rfl
theorem mul60 {g : Hh} : oMul2 (.str "a") (.int 60) g = some (.str tx60, g) := by
  have : mulOk (Str.ofString "a") 60 = true := by decide +kernel
  unfold oMul2
  simp only [this, if_true]
  rfl
def L1 : List Val := [.bl true, .bl false, .int 1000000001, .int (-1000000001), .int 100000000000000000000000000000, .str "a'b", .str "'", .str "a\n", .str tx61, .str tx60, .tup [.str "thing", .int 1000]]
def L2 (n : Nat) : List Val := [.tup [.str "thing", .int (-1)], .tup [.str "thing", .bl true], .tup [.str "thing", .str "1"], .tup [.str "thing"], .tup [.str "thing", .int 1, .int 2], .loc (n + 1), .tup [.str "row"]]
def L3 (n : Nat) : List Val := [.tup [.str "row", .loc (n + 4)], .tup [.str "row", .tup [.int 1, .bl true]], .tup [.str "row", .tup [], .tup []], .tup [.str "rows", .tup []], .tup [], .loc (n + 5), .loc (n + 6), .loc (n + 7), .loc (n + 8), .tup [.int 1, .int 2]]
def X1 : XE := xLst (xCons (xC (.bl true)) (xCons (xC (.bl false)) (xCons (xBin oAdd (xVar 3) (xC (.int 1))) (xCons (xBin oSub (xBin oSub (xC (.int 0)) (xVar 3)) (xC (.int 1))) (xCons (xBin oPow (xC (.int 10)) (xC (.int 29))) (xCons (xC (.str "a'b")) (xCons (xC (.str "'")) (xCons (xC (.str "a\n")) (xCons (xBin oMul2 (xC (.str "a")) (xC (.int 61))) (xCons (xBin oMul2 (xC (.str "a")) (xC (.int 60))) (xCons (xTup (xCons (xC (.str "thing")) (xCons (xC (.int 1000)) (xNil)))) (xNil))))))))))))
def X2 : XE := xBin oAdd (xVar 4) (xLst (xCons (xTup (xCons (xC (.str "thing")) (xCons (xUn oNeg (xC (.int 1))) (xNil)))) (xCons (xTup (xCons (xC (.str "thing")) (xCons (xC (.bl true)) (xNil)))) (xCons (xTup (xCons (xC (.str "thing")) (xCons (xC (.str "1")) (xNil)))) (xCons (xTup (xCons (xC (.str "thing")) (xNil))) (xCons (xTup (xCons (xC (.str "thing")) (xCons (xC (.int 1)) (xCons (xC (.int 2)) (xNil))))) (xCons (xLst (xCons (xC (.str "thing")) (xCons (xC (.int 1)) (xNil)))) (xCons (xTup (xCons (xC (.str "row")) (xNil))) (xNil)))))))))
def X3 : XE := xBin oAdd (xVar 4) (xLst (xCons (xTup (xCons (xC (.str "row")) (xCons (xLst (xNil)) (xNil)))) (xCons (xTup (xCons (xC (.str "row")) (xCons (xTup (xCons (xC (.int 1)) (xCons (xC (.bl true)) (xNil)))) (xNil)))) (xCons (xTup (xCons (xC (.str "row")) (xCons (xTup (xNil)) (xCons (xTup (xNil)) (xNil))))) (xCons (xTup (xCons (xC (.str "rows")) (xCons (xTup (xNil)) (xNil)))) (xCons (xTup (xNil)) (xCons (xLst (xNil)) (xCons (xLst (xCons (xC (.int 1)) (xNil))) (xCons (xDict []) (xCons (xDict [(xC (.str "a"), xC (.int 1))]) (xCons (xTup (xCons (xC (.int 1)) (xCons (xC (.int 2)) (xNil)))) (xNil))))))))))))
theorem ev1 {b : Nat} {w : Val} {H : Hh} : X1 [some (.loc b), some w, none, some (.int 1000000000), none] H = .ok (.loc H.length) (H ++ [.lst L1]) := by
  have a1 : ∀ {g : Hh}, oAdd (.int 1000000000) (.int 1) g = some (.int 1000000001, g) := rfl
  have a2 : ∀ {g : Hh}, oSub (.int (-1000000000)) (.int 1) g = some (.int (-1000000001), g) := rfl
  simp only [X1, callF, sSeq, sSet, sRet, sRetN, sIf, sExpr, sNil, sPar, xCall, xNil, xCons, xC, xVar, xBin, xUn, xTest, xTru, xAndT, xOrT, xNotT, xAndV, xOrV, xNotV, xIf, xChain, xTup, xLst, xCallN, xMeth, Res.bind_ok, Res.bind_exc, Res.of_some, List.map_cons, List.map_nil, List.length_cons, List.length_nil, List.replicate_succ, List.replicate_zero, Nat.reduceSub, Nat.reduceAdd, Nat.reduceMul, Nat.reduceLeDiff, Nat.reduceEqDiff, Nat.zero_add, Nat.sub_self, List.cons_append, List.nil_append, List.getElem?_cons_zero, List.getElem?_cons_succ, List.set_cons_zero, List.set_cons_succ, if_true, if_false, reduceIte, reduceCtorEq, Bool.not_true, Bool.not_false, Bool.false_eq_true, decide_true, decide_false, Option.map_some, a1, a2, sub9, pow29, mul61, mul60, sizeLine_eq, L1]
theorem ev2 {b : Nat} {w : Val} {H : Hh} : X2 [some (.loc b), some w, none, some (.int 1000000000), some (.loc H.length)] (H ++ [.lst L1]) = .ok (.loc (H.length + 3)) (H ++ [.lst L1, .lst [.str "thing", .int 1], .lst (L2 H.length), .lst (L1 ++ L2 H.length)]) := by
  have ng : ∀ {g : Hh}, oNeg (.int 1) g = some (.int (-1), g) := rfl
  have g0 : ∀ l : Hh, (H ++ (Ob.lst L1 :: l))[H.length]? = some (.lst L1) := fun l => by rw [gA0]; rfl
  have g2 : ∀ (a c o : Ob) (l : Hh), (H ++ (a :: c :: o :: l))[H.length + 2]? = some o := fun a c o l => by rw [gA]; rfl
  have ad : oAdd (.loc H.length) (.loc (H.length + 2)) (H ++ [.lst L1, .lst [.str "thing", .int 1], .lst (L2 H.length)]) = some (.loc (H.length + 3), H ++ [.lst L1, .lst [.str "thing", .int 1], .lst (L2 H.length), .lst (L1 ++ L2 H.length)]) := by
    have sz : L1.length + (L2 H.length).length ≤ sizeLine := by rw [sizeLine_eq]; simp [L1, L2]
    unfold oAdd
    simp only [g0, g2, sz, if_true, List.length_append, List.length_cons, List.length_nil, Nat.zero_add, Nat.reduceAdd, List.append_assoc, List.cons_append, List.nil_append]
  have xl : (xLst (xCons (xTup (xCons (xC (.str "thing")) (xCons (xUn oNeg (xC (.int 1))) (xNil)))) (xCons (xTup (xCons (xC (.str "thing")) (xCons (xC (.bl true)) (xNil)))) (xCons (xTup (xCons (xC (.str "thing")) (xCons (xC (.str "1")) (xNil)))) (xCons (xTup (xCons (xC (.str "thing")) (xNil))) (xCons (xTup (xCons (xC (.str "thing")) (xCons (xC (.int 1)) (xCons (xC (.int 2)) (xNil))))) (xCons (xLst (xCons (xC (.str "thing")) (xCons (xC (.int 1)) (xNil)))) (xCons (xTup (xCons (xC (.str "row")) (xNil))) (xNil))))))))) [some (.loc b), some w, none, some (.int 1000000000), some (.loc H.length)] (H ++ [.lst L1]) = .ok (.loc (H.length + 2)) (H ++ [.lst L1, .lst [.str "thing", .int 1], .lst (L2 H.length)]) := by
    simp only [callF, sSeq, sSet, sRet, sRetN, sIf, sExpr, sNil, sPar, xCall, xNil, xCons, xC, xVar, xBin, xUn, xTest, xTru, xAndT, xOrT, xNotT, xAndV, xOrV, xNotV, xIf, xChain, xTup, xLst, xCallN, xMeth, Res.bind_ok, Res.bind_exc, Res.of_some, List.map_cons, List.map_nil, List.length_cons, List.length_nil, List.replicate_succ, List.replicate_zero, Nat.reduceSub, Nat.reduceAdd, Nat.reduceMul, Nat.reduceLeDiff, Nat.reduceEqDiff, Nat.zero_add, Nat.sub_self, List.cons_append, List.nil_append, List.getElem?_cons_zero, List.getElem?_cons_succ, List.set_cons_zero, List.set_cons_succ, if_true, if_false, reduceIte, reduceCtorEq, Bool.not_true, Bool.not_false, Bool.false_eq_true, decide_true, decide_false, Option.map_some, ng, sizeLine_eq, List.append_assoc, List.length_append, L2]
  simp only [X2, xBin, xVar, xl, Res.bind_ok, List.getElem?_cons_zero, List.getElem?_cons_succ, ad, Res.of_some]
theorem dict0 {e : En} {H : Hh} : xDict [] e H = .ok (.loc H.length) (H ++ [.dct []]) := by
  have g : (H ++ [Ob.dct []])[H.length]? = some (.dct []) := get_new rfl
  simp [xDict, xPairs, keysOf, g, mergeX]
theorem dict1 {e : En} {H : Hh} : xDict [(xC (.str "a"), xC (.int 1))] e H = .ok (.loc H.length) (H ++ [.dct [(Sum.inr (Str.ofString "a"), .int 1)]]) := by
  have g : (H ++ [Ob.dct []])[H.length]? = some (.dct []) := get_new rfl
  simp [xDict, xPairs, keysOf, keyOf, xC, g, mergeX, putX, sizeLine_eq]
theorem ev3 {b : Nat} {w : Val} {H : Hh} : X3 [some (.loc b), some w, none, some (.int 1000000000), some (.loc (H.length + 3))] (H ++ [.lst L1, .lst [.str "thing", .int 1], .lst (L2 H.length), .lst (L1 ++ L2 H.length)]) = .ok (.loc (H.length + 10)) (H ++ [.lst L1, .lst [.str "thing", .int 1], .lst (L2 H.length), .lst (L1 ++ L2 H.length), .lst [], .lst [], .lst [.int 1], .dct [], .dct [(Sum.inr (Str.ofString "a"), .int 1)], .lst (L3 H.length), .lst (L1 ++ L2 H.length ++ L3 H.length)]) := by
  have g3 : ∀ (a1 a2 a3 o : Ob) (l : Hh), (H ++ (a1 :: a2 :: a3 :: o :: l))[H.length + 3]? = some o := fun a1 a2 a3 o l => by rw [gA]; rfl
  have g9 : ∀ (a1 a2 a3 a4 a5 a6 a7 a8 a9 o : Ob) (l : Hh), (H ++ (a1 :: a2 :: a3 :: a4 :: a5 :: a6 :: a7 :: a8 :: a9 :: o :: l))[H.length + 9]? = some o := fun a1 a2 a3 a4 a5 a6 a7 a8 a9 o l => by rw [gA]; rfl
  have ad : oAdd (.loc (H.length + 3)) (.loc (H.length + 9)) (H ++ [.lst L1, .lst [.str "thing", .int 1], .lst (L2 H.length), .lst (L1 ++ L2 H.length), .lst [], .lst [], .lst [.int 1], .dct [], .dct [(Sum.inr (Str.ofString "a"), .int 1)], .lst (L3 H.length)]) = some (.loc (H.length + 10), H ++ [.lst L1, .lst [.str "thing", .int 1], .lst (L2 H.length), .lst (L1 ++ L2 H.length), .lst [], .lst [], .lst [.int 1], .dct [], .dct [(Sum.inr (Str.ofString "a"), .int 1)], .lst (L3 H.length), .lst (L1 ++ L2 H.length ++ L3 H.length)]) := by
    have sz : L1.length + (L2 H.length).length + (L3 H.length).length ≤ sizeLine := by rw [sizeLine_eq]; simp [L1, L2, L3]
    unfold oAdd
    simp only [g3, g9, sz, if_true, List.length_append, List.length_cons, List.length_nil, Nat.zero_add, Nat.reduceAdd]
    simp only [List.append_assoc, List.cons_append, List.nil_append]
  have xl : (xLst (xCons (xTup (xCons (xC (.str "row")) (xCons (xLst (xNil)) (xNil)))) (xCons (xTup (xCons (xC (.str "row")) (xCons (xTup (xCons (xC (.int 1)) (xCons (xC (.bl true)) (xNil)))) (xNil)))) (xCons (xTup (xCons (xC (.str "row")) (xCons (xTup (xNil)) (xCons (xTup (xNil)) (xNil))))) (xCons (xTup (xCons (xC (.str "rows")) (xCons (xTup (xNil)) (xNil)))) (xCons (xTup (xNil)) (xCons (xLst (xNil)) (xCons (xLst (xCons (xC (.int 1)) (xNil))) (xCons (xDict []) (xCons (xDict [(xC (.str "a"), xC (.int 1))]) (xCons (xTup (xCons (xC (.int 1)) (xCons (xC (.int 2)) (xNil)))) (xNil)))))))))))) [some (.loc b), some w, none, some (.int 1000000000), some (.loc (H.length + 3))] (H ++ [.lst L1, .lst [.str "thing", .int 1], .lst (L2 H.length), .lst (L1 ++ L2 H.length)]) = .ok (.loc (H.length + 9)) (H ++ [.lst L1, .lst [.str "thing", .int 1], .lst (L2 H.length), .lst (L1 ++ L2 H.length), .lst [], .lst [], .lst [.int 1], .dct [], .dct [(Sum.inr (Str.ofString "a"), .int 1)], .lst (L3 H.length)]) := by
    have z0 : (0 ≤ 16777216) = True := by simp
    simp only [callF, sSeq, sSet, sRet, sRetN, sIf, sExpr, sNil, sPar, xCall, xNil, xCons, xC, xVar, xBin, xUn, xTest, xTru, xAndT, xOrT, xNotT, xAndV, xOrV, xNotV, xIf, xChain, xTup, xLst, xCallN, xMeth, Res.bind_ok, Res.bind_exc, Res.of_some, List.map_cons, List.map_nil, List.length_cons, List.length_nil, List.replicate_succ, List.replicate_zero, Nat.reduceSub, Nat.reduceAdd, Nat.reduceMul, Nat.reduceLeDiff, Nat.reduceEqDiff, Nat.zero_add, Nat.sub_self, List.cons_append, List.nil_append, List.getElem?_cons_zero, List.getElem?_cons_succ, List.set_cons_zero, List.set_cons_succ, if_true, if_false, reduceIte, reduceCtorEq, Bool.not_true, Bool.not_false, Bool.false_eq_true, decide_true, decide_false, Option.map_some, sizeLine_eq, z0, dict0, dict1, List.append_assoc, List.length_append, L3]
  simp only [X3, xBin, xVar, xl, Res.bind_ok, List.getElem?_cons_zero, List.getElem?_cons_succ, ad, Res.of_some]
end K

set_option Elab.async false
set_option linter.all false
set_option maxRecDepth 100000
set_option maxHeartbeats 4000000
namespace K
open PySem L2 EX
/-- the objects that the literal lists lay -/
def Ls (n : Nat) : Hh := [.lst L1, .lst [.str "thing", .int 1], .lst (L2 n), .lst (L1 ++ L2 n), .lst [], .lst [], .lst [.int 1], .dct [], .dct [(Sum.inr (Str.ofString "a"), .int 1)], .lst (L3 n), .lst (L1 ++ L2 n ++ L3 n)]
def L4 (v : Val) : List Val := [.tup [.str "row", .tup (List.replicate 31 (.int 0))], .tup [.str "row", .tup (List.replicate 30 .non)], v, .tup [.str "thing", .non], .str "row"]
noncomputable def X4 : XE := xBin oAdd (xVar 4) (xLst (xCons (xTup (xCons (xC (.str "row")) (xCons (xBin oMul2 (xTup (xCons (xC (.int 0)) (xNil))) (xC (.int 31))) (xNil)))) (xCons (xTup (xCons (xC (.str "row")) (xCons (xBin oMul2 (xTup (xCons (xC .non) (xNil))) (xC (.int 30))) (xNil)))) (xCons (xCall 1 f__law_deep (xCons (xBin oAdd (xC (.int 1)) (xCall 2 f__law_take (xCons (xVar 0) (xCons (xC (.int 2)) (xNil))))) (xNil))) (xCons (xTup (xCons (xC (.str "thing")) (xCons (xC .non) (xNil)))) (xCons (xC (.str "row")) (xNil)))))))
theorem m31 {g : Hh} : oMul2 (.tup [.int 0]) (.int 31) g = some (.tup (List.replicate 31 (.int 0)), g) := rfl
theorem m30 {g : Hh} : oMul2 (.tup [.non]) (.int 30) g = some (.tup (List.replicate 30 .non), g) := rfl
theorem deep_of {r : Int} (h0 : 0 ≤ r) (h1 : r < 2) {g : Hh} : ∃ v, f__law_deep [.int (1 + r)] g = .ok v g ∧ (v = .tup [.str "row", .tup []] ∨ v = .tup [.str "row", .tup [.tup [.str "row", .tup []]]]) := by
  have q : r = 0 ∨ r = 1 := by omega
  rcases q with rfl | rfl
  · exact ⟨_, deep1, .inl rfl⟩
  · exact ⟨_, deep2, .inr rfl⟩
theorem ev4 {b : Nat} {w v : Val} {n : Nat} {r : Int} {H H2 : Hh} (hn : H.length = n) (hn2 : H2.length = n) (et : f__law_take [.loc b, .int 2] (H ++ Ls n) = .ok (.int r) (H2 ++ Ls n)) (ed : ∀ g, f__law_deep [.int (1 + r)] g = .ok v g) :
    X4 [some (.loc b), some w, none, some (.int 1000000000), some (.loc (n + 10))] (H ++ Ls n) = .ok (.loc (n + 12)) (H2 ++ (Ls n ++ [.lst (L4 v), .lst (L1 ++ L2 n ++ L3 n ++ L4 v)])) := by
  have l11 : (Ls n).length = 11 := rfl
  have a1 : ∀ {g : Hh}, oAdd (.int 1) (.int r) g = some (.int (1 + r), g) := rfl
  have xl : (xLst (xCons (xTup (xCons (xC (.str "row")) (xCons (xBin oMul2 (xTup (xCons (xC (.int 0)) (xNil))) (xC (.int 31))) (xNil)))) (xCons (xTup (xCons (xC (.str "row")) (xCons (xBin oMul2 (xTup (xCons (xC .non) (xNil))) (xC (.int 30))) (xNil)))) (xCons (xCall 1 f__law_deep (xCons (xBin oAdd (xC (.int 1)) (xCall 2 f__law_take (xCons (xVar 0) (xCons (xC (.int 2)) (xNil))))) (xNil))) (xCons (xTup (xCons (xC (.str "thing")) (xCons (xC .non) (xNil)))) (xCons (xC (.str "row")) (xNil))))))) [some (.loc b), some w, none, some (.int 1000000000), some (.loc (n + 10))] (H ++ Ls n) = .ok (.loc (n + 11)) (H2 ++ Ls n ++ [.lst (L4 v)]) := by
    have ll : (H2 ++ Ls n).length = n + 11 := by rw [List.length_append, hn2, l11]
    simp only [callF, sSeq, sSet, sRet, sRetN, sIf, sExpr, sNil, sPar, xCall, xNil, xCons, xC, xVar, xBin, xUn, xTest, xTru, xAndT, xOrT, xNotT, xAndV, xOrV, xNotV, xIf, xChain, xTup, xLst, xCallN, xMeth, Res.bind_ok, Res.bind_exc, Res.of_some, List.map_cons, List.map_nil, List.length_cons, List.length_nil, List.replicate_succ, List.replicate_zero, Nat.reduceSub, Nat.reduceAdd, Nat.reduceMul, Nat.reduceLeDiff, Nat.reduceEqDiff, Nat.zero_add, Nat.sub_self, List.cons_append, List.nil_append, List.getElem?_cons_zero, List.getElem?_cons_succ, List.set_cons_zero, List.set_cons_succ, if_true, if_false, reduceIte, reduceCtorEq, Bool.not_true, Bool.not_false, Bool.false_eq_true, decide_true, decide_false, Option.map_some, sizeLine_eq, m31, m30, et, a1, ed, ll, L4]
  have g10 : (H2 ++ Ls n ++ [Ob.lst (L4 v)])[n + 10]? = some (.lst (L1 ++ L2 n ++ L3 n)) := by
    rw [List.append_assoc, ← hn2, gA]; rfl
  have g11 : (H2 ++ Ls n ++ [Ob.lst (L4 v)])[n + 11]? = some (.lst (L4 v)) := get_new (by rw [List.length_append, hn2, l11])
  have ad : oAdd (.loc (n + 10)) (.loc (n + 11)) (H2 ++ Ls n ++ [.lst (L4 v)]) = some (.loc (n + 12), H2 ++ Ls n ++ [.lst (L4 v)] ++ [.lst (L1 ++ L2 n ++ L3 n ++ L4 v)]) := by
    have sz : (L1 ++ L2 n ++ L3 n).length + (L4 v).length ≤ sizeLine := by rw [sizeLine_eq]; simp [L1, L2, L3, L4]
    have ll : (H2 ++ Ls n ++ [Ob.lst (L4 v)]).length = n + 12 := by rw [List.length_append, List.length_append, hn2, l11]; rfl
    unfold oAdd
    simp only [g10, g11, sz, if_true, ll]
  simp only [X4, xBin, xVar, xl, Res.bind_ok, List.getElem?_cons_zero, List.getElem?_cons_succ, ad, Res.of_some]
  simp only [List.append_assoc, List.cons_append, List.nil_append]
end K

set_option Elab.async false
set_option linter.all false
set_option maxRecDepth 100000
set_option maxHeartbeats 4000000
namespace K
open PySem L2 EX
theorem Cl.appL {h l : Hh} (c : Cl h) (ho : ∀ o ∈ l, o.und (h.length + l.length) = true) : Cl (h ++ l) := by
  unfold Cl at c ⊢
  rw [List.all_append, List.length_append]
  rw [List.all_eq_true] at c
  rw [Bool.and_eq_true, List.all_eq_true, List.all_eq_true]
  exact ⟨fun x m => Ob.und_mono (Nat.le_add_right _ _) (c x m), ho⟩
theorem Du.newL {h : Hh} {b : Nat} {z : Int} {h' l : Hh} (d : Du h b z h') (ho : ∀ o ∈ l, o.und (h'.length + l.length) = true) : Du h b z (h' ++ l) := by
  obtain ⟨s, l0, e, g, q, c⟩ := d
  exact ⟨s, l0 ++ l, by rw [e, List.append_assoc], g, q, c.appL ho⟩
theorem Du.callL {h : Hh} {b : Nat} {z n : Int} {g l : Hh} {G : Fn} {as : List Val} {V : Val → Prop} (S : SpD n G as V) (d : Du h b z g) (hl : b < h.length) (hz : z + n ≤ zM) (ho : ∀ o ∈ l, o.und (g.length + l.length) = true) :
    ∃ v s', G (.loc b :: as) (g ++ l) = .ok v (g.set b (box s') ++ l) ∧ Du h b (z + n) (g.set b (box s')) ∧ V v := by
  have hg : b < g.length := Nat.lt_of_lt_of_le hl d.le
  obtain ⟨s, l0, e, gd, q, c⟩ := d
  have hl' : b < (h.set b (box s)).length := by rw [List.length_set]; exact hl
  obtain ⟨v, s', e1, g1, z1, v1⟩ := S (g ++ l) b s (by rw [List.getElem?_append_left hg, e, List.getElem?_append_left hl', List.getElem?_set_self hl]) gd (c.appL ho) (by omega)
  rw [List.set_append_left _ _ hg] at e1
  exact ⟨v, s', e1, ⟨s', l0, by rw [e, List.set_append_left _ _ hl', List.set_set], g1, by omega, c.set b s'⟩, v1⟩
/-! ### trees of literals -/
mutual
def pD : Val → Option PyData
  | .non => some .none
  | .bl b => some (.bool b)
  | .int i => some (.int i)
  | .str s => some (.str s)
  | .tup xs => (pL xs).map .tuple
  | _ => none
def pL : List Val → Option (List PyData)
  | [] => some []
  | x :: xs => (pD x).bind fun d => (pL xs).map (d :: ·)
end
mutual
theorem pD_is {h : Hh} : ∀ {v : Val} {d : PyData}, pD v = some d → Is h d v
  | .non, _, e => by cases e; rfl
  | .bl _, _, e => by cases e; rfl
  | .int _, _, e => by cases e; rfl
  | .str _, _, e => by cases e; rfl
  | .tup xs, d, e => by
    simp only [pD] at e
    obtain ⟨ds, e1, e2⟩ := Option.map_eq_some_iff.mp e
    subst e2
    exact ⟨xs, rfl, pL_is e1⟩
  | .scr _, _, e => by simp [pD] at e
  | .loc _, _, e => by simp [pD] at e
  | .ref _, _, e => by simp [pD] at e
  | .ty _, _, e => by simp [pD] at e
theorem pL_is {h : Hh} : ∀ {xs : List Val} {ds : List PyData}, pL xs = some ds → IsL h ds xs
  | [], _, e => by simp [pL] at e; subst e; rfl
  | x :: xs, _, e => by
    simp only [pL] at e
    obtain ⟨d, e1, e2⟩ := Option.bind_eq_some_iff.mp e
    obtain ⟨ds, e3, e4⟩ := Option.map_eq_some_iff.mp e2
    subst e4
    exact ⟨x, xs, rfl, pD_is e1, pL_is e3⟩
end
def fits (d : PyData) : Bool := okD d && (decide (d.depth ≤ 6) && decide (d.bulk ≤ 300))
def chk (v : Val) : Bool := match pD v with
  | some d => fits d
  | none => false
/-- a thing of the literals -/
def Gv (n : Nat) (h : Hh) (v : Val) : Prop := ∃ d, Fr n h d v ∧ fits d = true
theorem chk_gv {v : Val} {n : Nat} {h : Hh} (c : chk v = true) : Gv n h v := by
  unfold chk at c
  split at c
  · rename_i d e
    exact ⟨d, fun h2 _ => pD_is e, c⟩
  · cases c
theorem L1_ok : ∀ v ∈ L1, chk v = true := by
  intro v m
  simp only [L1, List.mem_cons, List.not_mem_nil, or_false] at m
  rcases m with rfl | rfl | rfl | rfl | rfl | rfl | rfl | rfl | rfl | rfl | rfl <;> decide +kernel
theorem L4_ok {w : Val} (hw : w = .tup [.str "row", .tup []] ∨ w = .tup [.str "row", .tup [.tup [.str "row", .tup []]]]) : ∀ v ∈ L4 w, chk v = true := by
  intro v m
  simp only [L4, List.mem_cons, List.not_mem_nil, or_false] at m
  rcases m with rfl | rfl | rfl | rfl | rfl
  · decide +kernel
  · decide +kernel
  · rcases hw with rfl | rfl <;> decide +kernel
  · decide +kernel
  · decide +kernel
theorem L2_ok {n : Nat} {h : Hh} (h1 : h[n + 1]? = some (.lst [.str "thing", .int 1])) : ∀ v ∈ L2 n, Gv n h v := by
  intro v m
  simp only [L2, List.mem_cons, List.not_mem_nil, or_false] at m
  rcases m with rfl | rfl | rfl | rfl | rfl | rfl | rfl
  · exact chk_gv (by decide +kernel)
  · exact chk_gv (by decide +kernel)
  · exact chk_gv (by decide +kernel)
  · exact chk_gv (by decide +kernel)
  · exact chk_gv (by decide +kernel)
  · exact ⟨.list [.str "thing", .int 1], fun h2 a => ⟨n + 1, _, rfl, a _ _ (by omega) h1, _, _, rfl, rfl, _, _, rfl, rfl, rfl⟩, by decide +kernel⟩
  · exact chk_gv (by decide +kernel)
theorem L3_ok {n : Nat} {h : Hh} (h4 : h[n + 4]? = some (.lst [])) (h5 : h[n + 5]? = some (.lst [])) (h6 : h[n + 6]? = some (.lst [.int 1])) (h7 : h[n + 7]? = some (.dct [])) (h8 : h[n + 8]? = some (.dct [(Sum.inr (Str.ofString "a"), .int 1)])) : ∀ v ∈ L3 n, Gv n h v := by
  intro v m
  simp only [L3, List.mem_cons, List.not_mem_nil, or_false] at m
  rcases m with rfl | rfl | rfl | rfl | rfl | rfl | rfl | rfl | rfl | rfl
  · exact ⟨.tuple [.str "row", .list []], fun h2 a => ⟨_, rfl, _, _, rfl, rfl, _, _, rfl, ⟨n + 4, _, rfl, a _ _ (by omega) h4, rfl⟩, rfl⟩, by decide +kernel⟩
  · exact chk_gv (by decide +kernel)
  · exact chk_gv (by decide +kernel)
  · exact chk_gv (by decide +kernel)
  · exact chk_gv (by decide +kernel)
  · exact ⟨.list [], fun h2 a => ⟨n + 5, _, rfl, a _ _ (by omega) h5, rfl⟩, by decide +kernel⟩
  · exact ⟨.list [.int 1], fun h2 a => ⟨n + 6, _, rfl, a _ _ (by omega) h6, _, _, rfl, rfl, rfl⟩, by decide +kernel⟩
  · exact ⟨.dict [], fun h2 a => ⟨n + 7, _, rfl, a _ _ (by omega) h7, rfl⟩, by decide +kernel⟩
  · exact ⟨.dict [(.str "a", .int 1)], fun h2 a => ⟨n + 8, _, rfl, a _ _ (by omega) h8, _, _, _, rfl, rfl, rfl, rfl⟩, by decide +kernel⟩
  · exact chk_gv (by decide +kernel)
end K

set_option Elab.async false
set_option linter.all false
set_option maxRecDepth 100000
set_option maxHeartbeats 4000000
namespace K
open PySem L2 EX
noncomputable def XP : XE := xBin oIx (xVar 4) (xCall 2 f__law_take (xCons (xVar 0) (xCons (xCallN oLen (xCons (xVar 4) (xNil))) (xNil))))
noncomputable def XR : XS := sSeq (sSet 3 (xBin oPow (xC (.int 10)) (xC (.int 9)))) (sSeq (sSet 4 X1) (sSeq (sSet 4 X2) (sSeq (sSet 4 X3) (sSeq (sSet 4 X4) (sRet XP)))))
theorem Ls_und (n : Nat) : ∀ o ∈ Ls n, o.und (n + 11) = true := by
  intro o m
  have u2 : undL (n + 11) (L2 n) = true := by simp [L2, undL, Val.und]
  have u3 : undL (n + 11) (L3 n) = true := by simp [L3, undL, Val.und]
  have u1 : undL (n + 11) L1 = true := rfl
  have ua : ∀ xs ys : List Val, undL (n + 11) xs = true → undL (n + 11) ys = true → undL (n + 11) (xs ++ ys) = true := fun xs ys h1 h2 => undL_of fun x mx => (List.mem_append.mp mx).elim (of_undL h1 x) (of_undL h2 x)
  simp only [Ls, List.mem_cons, List.not_mem_nil, or_false] at m
  rcases m with rfl | rfl | rfl | rfl | rfl | rfl | rfl | rfl | rfl | rfl | rfl
  · exact u1
  · rfl
  · exact u2
  · exact ua _ _ u1 u2
  · rfl
  · rfl
  · rfl
  · rfl
  · rfl
  · exact u3
  · exact ua _ _ (ua _ _ u1 u2) u3
theorem some_sp {h : Hh} {b : Nat} {z : Int} {H : Hh} {w : Val} (D : Du h b z H) (hl : b < h.length) (hz : z + 2 ≤ zM) :
    ∃ v hF, XR [some (.loc b), some w, none, none, none] H = .rt v hF ∧ Du h b (z + 2) hF ∧ Gv H.length hF v ∧ H.length ≤ hF.length := by
  obtain ⟨_, s1, e1, d1, r, rfl, r0, r1⟩ := D.callL (l := Ls H.length) (take_sp (m := 2) (by decide)) hl (by omega) (Ls_und _)
  obtain ⟨dv, ed, hd⟩ : ∃ v, (∀ g, f__law_deep [.int (1 + r)] g = .ok v g) ∧ (v = .tup [.str "row", .tup []] ∨ v = .tup [.str "row", .tup [.tup [.str "row", .tup []]]]) := by
    have q : r = 0 ∨ r = 1 := by omega
    rcases q with rfl | rfl
    · exact ⟨_, fun _ => deep1, .inl rfl⟩
    · exact ⟨_, fun _ => deep2, .inr rfl⟩
  have E4 := ev4 (w := w) (v := dv) (H := H) (H2 := H.set b (box s1)) (n := H.length) rfl (by rw [List.length_set]) e1 ed
  generalize hH2 : H.set b (box s1) = H2 at E4 d1
  have l2 : H2.length = H.length := by rw [← hH2, List.length_set]
  generalize hn : H.length = n at E4 l2
  generalize hall : L1 ++ L2 n ++ L3 n ++ L4 dv = all at E4
  have l4 : undL (n + 13) (L4 dv) = true := by
    refine undL_of fun x mx => ?_
    simp only [L4, List.mem_cons, List.not_mem_nil, or_false] at mx
    rcases mx with rfl | rfl | rfl | rfl | rfl
    · rfl
    · rfl
    · rcases hd with rfl | rfl <;> rfl
    · rfl
    · rfl
  have ld : (Ls n ++ [Ob.lst (L4 dv), Ob.lst all]).length = 13 := rfl
  have D2 : Du h b (z + 1) (H2 ++ (Ls n ++ [Ob.lst (L4 dv), Ob.lst all])) := d1.newL (by
    intro o m
    rw [l2, ld]
    rcases List.mem_append.mp m with m | m
    · exact Ob.und_mono (by omega) (Ls_und n o m)
    · simp only [List.mem_cons, List.not_mem_nil, or_false] at m
      rcases m with rfl | rfl
      · exact l4
      · refine undL_of fun x mx => ?_
        rw [← hall] at mx
        rcases List.mem_append.mp mx with mx | mx
        · rcases List.mem_append.mp mx with mx | mx
          · rcases List.mem_append.mp mx with mx | mx
            · exact of_undL (show undL (n + 13) L1 = true from rfl) x mx
            · exact of_undL (show undL (n + 13) (L2 n) = true by simp [L2, undL, Val.und]) x mx
          · exact of_undL (show undL (n + 13) (L3 n) = true by simp [L3, undL, Val.und]) x mx
        · exact of_undL l4 x mx)
  obtain ⟨_, s3, e3, d3, q, rfl, q0, q1⟩ := D2.call (take_sp (m := 33) (by decide)) hl (by omega)
  have hb2 : b < H2.length := by have := D.le; omega
  rw [List.set_append_left _ _ hb2] at e3 d3
  have l3 : (H2.set b (box s3)).length = n := by rw [List.length_set, l2]
  generalize H2.set b (box s3) = H3 at e3 d3 l3
  have la : all.length = 33 := by rw [← hall]; rfl
  obtain ⟨v, ev, mv⟩ := atI_mem (xs := all) q0 (by omega)
  refine ⟨v, _, ?_, d3.mono (by omega), ?_, ?_⟩
  · have g12 : (H3 ++ (Ls n ++ [Ob.lst (L4 dv), Ob.lst all]))[n + 12]? = some (.lst all) := by rw [← l3, gA]; rfl
    have g12' : (H2 ++ (Ls n ++ [Ob.lst (L4 dv), Ob.lst all]))[n + 12]? = some (.lst all) := by rw [← l2, gA]; rfl
    have p1 : XP [some (.loc b), some w, none, some (.int 1000000000), some (.loc (n + 12))] (H2 ++ (Ls n ++ [Ob.lst (L4 dv), Ob.lst all])) = .ok v (H3 ++ (Ls n ++ [Ob.lst (L4 dv), Ob.lst all])) := by
      have ln : oLen [.loc (n + 12)] (H2 ++ (Ls n ++ [Ob.lst (L4 dv), Ob.lst all])) = some (.int 33, H2 ++ (Ls n ++ [Ob.lst (L4 dv), Ob.lst all])) := by
        unfold oLen vLen
        simp only [g12', la]
        rfl
      have ix : oIx (.loc (n + 12)) (.int q) (H3 ++ (Ls n ++ [Ob.lst (L4 dv), Ob.lst all])) = some (v, H3 ++ (Ls n ++ [Ob.lst (L4 dv), Ob.lst all])) := by
        unfold oIx
        simp only [g12, ev, Option.map_some]
      simp only [XP, xBin, xVar, xCall, xCons, xNil, xCallN, Res.bind_ok, List.getElem?_cons_zero, List.getElem?_cons_succ, ln, Res.of_some, List.length_cons, List.length_nil, Nat.zero_add, Nat.reduceAdd, if_true, e3, ix]
    unfold XR
    refine (seq_nx (e1 := [some (.loc b), some w, none, some (.int 1000000000), none]) (set_ok e_pow9)).trans ?_
    have E1 := ev1 (b := b) (w := w) (H := H)
    have E2 := ev2 (b := b) (w := w) (H := H)
    have E3 := ev3 (b := b) (w := w) (H := H)
    rw [hn] at E1 E2 E3
    refine (seq_nx (e1 := [some (.loc b), some w, none, some (.int 1000000000), some (.loc n)]) (set_ok E1)).trans ?_
    refine (seq_nx (e1 := [some (.loc b), some w, none, some (.int 1000000000), some (.loc (n + 3))]) (set_ok E2)).trans ?_
    refine (seq_nx (e1 := [some (.loc b), some w, none, some (.int 1000000000), some (.loc (n + 10))]) (set_ok E3)).trans ?_
    refine (seq_nx (e1 := [some (.loc b), some w, none, some (.int 1000000000), some (.loc (n + 12))]) (set_ok E4)).trans ?_
    exact ret_ok p1
  · have gk : ∀ k, (H3 ++ (Ls n ++ [Ob.lst (L4 dv), Ob.lst all]))[n + k]? = (Ls n ++ [Ob.lst (L4 dv), Ob.lst all])[k]? := fun k => by rw [← l3, gA]
    rw [← hall] at mv
    rcases List.mem_append.mp mv with mx | mx
    · rcases List.mem_append.mp mx with mx | mx
      · rcases List.mem_append.mp mx with mx | mx
        · exact chk_gv (L1_ok v mx)
        · exact L2_ok (by rw [gk]; rfl) v mx
      · exact L3_ok (by rw [gk]; rfl) (by rw [gk]; rfl) (by rw [gk]; rfl) (by rw [gk]; rfl) (by rw [gk]; rfl) v mx
    · exact chk_gv (L4_ok hd v mx)
  · rw [List.length_append, l3]; omega
end K

set_option Elab.async false
set_option linter.all false
set_option maxRecDepth 100000
set_option maxHeartbeats 4000000
namespace K
open PySem L2 EX
/-- a def that draws and may lay new objects -/
def SpB (n : Int) (G : Fn) (as : List Val) (B : PyData → Prop) : Prop := ∀ (h : Hh) (b : Nat) (s : Bs), h[b]? = some (box s) → Gd s → Cl h → s.z + n ≤ zM →
  ∃ v h' d, G (.loc b :: as) h = .ok v h' ∧ Du h b (s.z + n) h' ∧ Fr h.length h' d v ∧ B d
def BB : Nat → Nat
  | 0 => 400
  | n + 1 => BW (n + 1) + BB n + 20
structure Bd (n : Nat) (d : PyData) : Prop where
  ok : okD d = true
  dp : d.depth ≤ 2 * n + 6
  bk : d.bulk ≤ BB n
theorem BB_ge : ∀ n, 400 ≤ BB n
  | 0 => Nat.le_refl _
  | n + 1 => by have := BB_ge n; simp only [BB]; omega
theorem fits_bd {d : PyData} (h : fits d = true) (n : Nat) : Bd n d := by
  unfold fits at h
  simp only [Bool.and_eq_true, decide_eq_true_eq] at h
  have := BB_ge n
  exact ⟨h.1, by omega, by omega⟩
noncomputable def XC : XT := xAndT (xTru (xCallN oIsi (xCons (xVar 1) (xCons (xC (.ty "tuple")) (xNil))))) (xAndT (xTest (xBin oEq (xBin oIx (xVar 1) (xC (.int 0))) (xC (.str "row")))) (xAndT (xTest (xBin oNe (xBin oIx (xVar 1) (xC (.int 1))) (xTup (xNil)))) (xTest (xBin oGt (xCall 2 f__law_take (xCons (xVar 0) (xCons (xC (.int 4)) (xNil)))) (xC (.int 0))))))
theorem ne_nil {h : Hh} {ps : List Val} {ds : List PyData} (i : ∀ h, IsL h ds ps) (l : PyData.canLayAll0 ds = true) (dp : PyData.depthAll ds < 30) : oNe (.tup ps) (.tup []) h = some (.bl (!ps.isEmpty), h) := by
  have i1 : Is h (.tuple ds) (.tup ps) := ⟨ps, rfl, i h⟩
  have d1 := i1.dat (n := 40) (by simp only [PyData.depth]; omega)
  have d2 : EX.dat h 40 (.tup []) = some (.tuple []) := rfl
  have s1 : SeqAt.shaped (.tuple ds) = true := by
    unfold SeqAt.shaped
    have c0 : (PyData.tuple ds).canLay0 = true := by simpa only [PyData.canLay0] using l
    rw [c0, Bool.true_and]
    refine decide_eq_true ?_
    simp only [PyData.depth]
    omega
  have s2 : SeqAt.shaped (.tuple []) = true := by decide
  have e : PyData.eqv (.tuple ds) (.tuple []) = ps.isEmpty := by
    have := (i h).len
    cases ds with
    | nil => cases ps with
      | nil => rfl
      | cons _ _ => cases this
    | cons _ _ => cases ps with
      | nil => cases this
      | cons _ _ => rfl
  unfold oNe vEq
  simp only [scEq, d1, d2, s1, s2, and_self, if_true, Option.map_some, e]
theorem cond_no {b : Nat} {w : Val} {h : Hh} {d : PyData} (i : Is h d w) (hd : isA d "tuple" = false) : XC [some (.loc b), some w, none, none, none] h = .ok false h := by
  have i1 := i.isi "tuple"
  simp only [XC, callF, sSeq, sSet, sRet, sRetN, sIf, sExpr, sNil, sPar, xCall, xNil, xCons, xC, xVar, xBin, xUn, xTest, xTru, xAndT, xOrT, xNotT, xAndV, xOrV, xNotV, xIf, xChain, xTup, xLst, xCallN, xMeth, Res.bind_ok, Res.bind_exc, Res.of_some, List.map_cons, List.map_nil, List.length_cons, List.length_nil, List.replicate_succ, List.replicate_zero, Nat.reduceSub, Nat.reduceAdd, Nat.reduceMul, Nat.reduceLeDiff, Nat.reduceEqDiff, Nat.zero_add, Nat.sub_self, List.cons_append, List.nil_append, List.getElem?_cons_zero, List.getElem?_cons_succ, List.set_cons_zero, List.set_cons_succ, if_true, if_false, reduceIte, reduceCtorEq, Bool.not_true, Bool.not_false, Bool.false_eq_true, decide_true, decide_false, Option.map_some, i1, hd, truth]
theorem cond_thing {b : Nat} {v : Val} {h : Hh} : XC [some (.loc b), some (.tup [.str "thing", v]), none, none, none] h = .ok false h := by
  have i1 : oIsi [.tup [.str "thing", v], .ty "tuple"] h = some (.bl true, h) := by
    have : kitB "tuple" "tuple" = some true := by decide +kernel
    unfold oIsi tyName
    simp only [this, Option.map_some]
  have ne : decide (Str.ofString "thing" = Str.ofString "row") = false := by decide +kernel
  simp only [XC, callF, sSeq, sSet, sRet, sRetN, sIf, sExpr, sNil, sPar, xCall, xNil, xCons, xC, xVar, xBin, xUn, xTest, xTru, xAndT, xOrT, xNotT, xAndV, xOrV, xNotV, xIf, xChain, xTup, xLst, xCallN, xMeth, Res.bind_ok, Res.bind_exc, Res.of_some, List.map_cons, List.map_nil, List.length_cons, List.length_nil, List.replicate_succ, List.replicate_zero, Nat.reduceSub, Nat.reduceAdd, Nat.reduceMul, Nat.reduceLeDiff, Nat.reduceEqDiff, Nat.zero_add, Nat.sub_self, List.cons_append, List.nil_append, List.getElem?_cons_zero, List.getElem?_cons_succ, List.set_cons_zero, List.set_cons_succ, if_true, if_false, reduceIte, reduceCtorEq, Bool.not_true, Bool.not_false, Bool.false_eq_true, decide_true, decide_false, Option.map_some, i1, truth, ix0, eq_str, ne]
theorem isi_tup {xs : List Val} {h : Hh} : oIsi [.tup xs, .ty "tuple"] h = some (.bl true, h) := by
  have : kitB "tuple" "tuple" = some true := by decide +kernel
  unfold oIsi tyName
  simp only [this, Option.map_some]
theorem cond_nil {b : Nat} {h : Hh} : XC [some (.loc b), some (.tup [.str "row", .tup []]), none, none, none] h = .ok false h := by
  have q : decide (Str.ofString "row" = Str.ofString "row") = true := by simp
  have ne := ne_nil (h := h) (ps := []) (ds := []) (fun _ => rfl) rfl (by decide)
  have z0 : (0 ≤ sizeLine) = True := by simp
  have e : (!([] : List Val).isEmpty) = false := rfl
  rw [e] at ne
  simp only [XC, callF, sSeq, sSet, sRet, sRetN, sIf, sExpr, sNil, sPar, xCall, xNil, xCons, xC, xVar, xBin, xUn, xTest, xTru, xAndT, xOrT, xNotT, xAndV, xOrV, xNotV, xIf, xChain, xTup, xLst, xCallN, xMeth, Res.bind_ok, Res.bind_exc, Res.of_some, List.map_cons, List.map_nil, List.length_cons, List.length_nil, List.replicate_succ, List.replicate_zero, Nat.reduceSub, Nat.reduceAdd, Nat.reduceMul, Nat.reduceLeDiff, Nat.reduceEqDiff, Nat.zero_add, Nat.sub_self, List.cons_append, List.nil_append, List.getElem?_cons_zero, List.getElem?_cons_succ, List.set_cons_zero, List.set_cons_succ, if_true, if_false, reduceIte, reduceCtorEq, Bool.not_true, Bool.not_false, Bool.false_eq_true, decide_true, decide_false, Option.map_some, isi_tup, truth, ix0, ix1, eq_str, q, z0, ne]
theorem cond_row {b : Nat} {h h1 : Hh} {r : Int} {ps : List Val} {ds : List PyData} (i : ∀ h, IsL h ds ps) (l : PyData.canLayAll0 ds = true) (dp : PyData.depthAll ds < 30) (hp : ps.isEmpty = false) (et : f__law_take [.loc b, .int 4] h = .ok (.int r) h1) :
    XC [some (.loc b), some (.tup [.str "row", .tup ps]), none, none, none] h = .ok (decide (0 < r)) h1 := by
  have q : decide (Str.ofString "row" = Str.ofString "row") = true := by simp
  have ne := ne_nil (h := h) i l dp
  rw [hp] at ne
  have z0 : (0 ≤ sizeLine) = True := by simp
  simp only [XC, callF, sSeq, sSet, sRet, sRetN, sIf, sExpr, sNil, sPar, xCall, xNil, xCons, xC, xVar, xBin, xUn, xTest, xTru, xAndT, xOrT, xNotT, xAndV, xOrV, xNotV, xIf, xChain, xTup, xLst, xCallN, xMeth, Res.bind_ok, Res.bind_exc, Res.of_some, List.map_cons, List.map_nil, List.length_cons, List.length_nil, List.replicate_succ, List.replicate_zero, Nat.reduceSub, Nat.reduceAdd, Nat.reduceMul, Nat.reduceLeDiff, Nat.reduceEqDiff, Nat.zero_add, Nat.sub_self, List.cons_append, List.nil_append, List.getElem?_cons_zero, List.getElem?_cons_succ, List.set_cons_zero, List.set_cons_succ, if_true, if_false, reduceIte, reduceCtorEq, Bool.not_true, Bool.not_false, Bool.false_eq_true, decide_true, decide_false, Option.map_some, isi_tup, truth, ix0, ix1, eq_str, q, z0, ne, et, gt_int]
end K

set_option Elab.async false
set_option linter.all false
set_option maxRecDepth 100000
set_option maxHeartbeats 4000000
namespace K
open PySem L2 EX
theorem if_yes {t : XT} {a b : XS} {e : En} {h h1 : Hh} (p : t e h = .ok true h1) : sIf t a b e h = a e h1 := by unfold sIf; rw [p]; rfl
theorem cutX_take {α : Type} {xs : List α} {r : Int} (h0 : 0 ≤ r) (h1 : r ≤ xs.length) : cutX xs none (some r) = xs.take r.toNat := by
  unfold cutX
  have e : HT.sIx xs.length xs.length (some r) = r.toNat := by
    show (if r < 0 then (r + (xs.length : Int)).toNat else min r.toNat xs.length) = _
    rw [if_neg (by omega)]; omega
  rw [e, HT.sIx_none, Nat.sub_zero, List.drop_zero]
theorem cutX_drop {α : Type} {xs : List α} {r : Int} (h0 : 0 ≤ r) (h1 : r ≤ xs.length) : cutX xs (some r) none = xs.drop r.toNat := by
  unfold cutX
  have e : HT.sIx xs.length 0 (some r) = r.toNat := by
    show (if r < 0 then (r + (xs.length : Int)).toNat else min r.toNat xs.length) = _
    rw [if_neg (by omega)]; omega
  rw [e, HT.sIx_none, List.take_of_length_le (by rw [List.length_drop]; omega)]
theorem IsL.take {h : Hh} : ∀ {ds : List PyData} {xs : List Val} (k : Nat), IsL h ds xs → IsL h (ds.take k) (xs.take k)
  | _, _, 0, _ => rfl
  | [], _, k + 1, e => by cases (show _ = _ from e); rfl
  | d :: ds, _, k + 1, ⟨x, r, e, a, b⟩ => by subst e; exact ⟨x, r.take k, rfl, a, IsL.take k b⟩
theorem IsL.drop {h : Hh} : ∀ {ds : List PyData} {xs : List Val} (k : Nat), IsL h ds xs → IsL h (ds.drop k) (xs.drop k)
  | _, _, 0, e => e
  | [], _, k + 1, e => by cases (show _ = _ from e); rfl
  | d :: ds, _, k + 1, ⟨x, r, e, a, b⟩ => by subst e; exact IsL.drop k b
theorem IsL.app {h : Hh} : ∀ {ds es : List PyData} {xs ys : List Val}, IsL h ds xs → IsL h es ys → IsL h (ds ++ es) (xs ++ ys)
  | [], _, _, _, e, f => by cases (show _ = _ from e); exact f
  | d :: ds, _, _, _, ⟨x, r, e, a, b⟩, f => by subst e; exact ⟨x, r ++ _, rfl, a, IsL.app b f⟩
theorem okL_app : ∀ {ds es : List PyData}, okL ds = true → okL es = true → okL (ds ++ es) = true
  | [], _, _, h => h
  | d :: ds, _, h, k => by
    simp only [okL, Bool.and_eq_true, List.cons_append] at h ⊢
    exact ⟨h.1, okL_app h.2 k⟩
theorem okL_sub {ds es : List PyData} (h : okL ds = true) (hs : ∀ d ∈ es, d ∈ ds) : okL es = true := by
  induction es with
  | nil => rfl
  | cons e es ih =>
    simp only [okL, Bool.and_eq_true]
    exact ⟨okL_mem h e (hs e (.head _)), ih fun d m => hs d (.tail _ m)⟩
theorem depth_app : ∀ {ds es : List PyData}, PyData.depthAll (ds ++ es) = max (PyData.depthAll ds) (PyData.depthAll es)
  | [], es => by simp [PyData.depthAll]
  | d :: ds, es => by simp only [List.cons_append, PyData.depthAll, depth_app]; omega
theorem bulk_app : ∀ {ds es : List PyData}, PyData.bulkAll (ds ++ es) = PyData.bulkAll ds + PyData.bulkAll es
  | [], es => by simp [PyData.bulkAll]
  | d :: ds, es => by simp only [List.cons_append, PyData.bulkAll, bulk_app]; omega
theorem split_sum (f : List PyData → Nat) (hf : ∀ a b, f (a ++ b) = f a + f b) (ds : List PyData) (k : Nat) : f (ds.take k) + f (ds.drop k) = f ds := by
  rw [← hf, List.take_append_drop]
theorem bulk_cut (ds : List PyData) (k : Nat) : PyData.bulkAll (ds.take k) + PyData.bulkAll (ds.drop (k + 1)) ≤ PyData.bulkAll ds := by
  have h1 := split_sum PyData.bulkAll (fun _ _ => bulk_app) ds k
  have h2 := split_sum PyData.bulkAll (fun _ _ => bulk_app) (ds.drop k) 1
  rw [List.drop_drop] at h2
  have e : ds.drop (k + 1) = ds.drop (1 + k) := by rw [Nat.add_comm]
  rw [Nat.add_comm] at h2
  omega
theorem depth_cut (ds : List PyData) (k : Nat) : PyData.depthAll (ds.take k) ≤ PyData.depthAll ds ∧ PyData.depthAll (ds.drop k) ≤ PyData.depthAll ds := by
  have e : PyData.depthAll (ds.take k ++ ds.drop k) = PyData.depthAll ds := by rw [List.take_append_drop]
  rw [depth_app] at e
  omega
end K

set_option Elab.async false
set_option linter.all false
set_option maxRecDepth 100000
set_option maxHeartbeats 4000000
namespace K
open PySem L2 EX
noncomputable def XW (self : Fn) : XS := sSeq (sSet 2 (xCall 2 f__law_take (xCons (xVar 0) (xCons (xCallN oLen (xCons (xBin oIx (xVar 1) (xC (.int 1))) (xNil))) (xNil))))) (sRet (xTup (xCons (xC (.str "row")) (xCons (xBin oAdd (xBin oAdd (xSl oSl (xBin oIx (xVar 1) (xC (.int 1))) none (some (xVar 2))) (xTup (xCons (xCall 2 self (xCons (xVar 0) (xCons (xBin oIx (xBin oIx (xVar 1) (xC (.int 1))) (xVar 2)) (xNil)))) (xNil)))) (xSl oSl (xBin oIx (xVar 1) (xC (.int 1))) (some (xBin oAdd (xVar 2) (xC (.int 1)))) none)) (xNil)))))
theorem bent_form (self : Fn) : x__law_bent self = sSeq (sIf XC (XW self) sNil) XR := rfl
/-- no row is bent: a thing of the literals -/
theorem bent_end {self : Fn} {h H : Hh} {b : Nat} {z N : Int} {w : Val} (c : Cl h) (D : Du h b z H) (hl : b < h.length) (hlen : H.length = h.length) (hz : z + 2 ≤ zM) (hN : z + 2 ≤ N) (n : Nat)
    (ec : XC [some (.loc b), some w, none, none, none] h = .ok false H) :
    ∃ v h' d, callF 5 (x__law_bent self) [.loc b, w] h = .ok v h' ∧ Du h b N h' ∧ Fr h.length h' d v ∧ Bd n d := by
  obtain ⟨v, hF, e, dF, ⟨d, f, ft⟩, _⟩ := some_sp (w := w) D hl hz
  rw [hlen] at f
  obtain ⟨d2, f2⟩ := gc_fr dF c f
  refine ⟨v, _, d, call_rt ?_, d2.mono hN, f2, fits_bd ft n⟩
  rw [bent_form]
  refine (seq_nx (e1 := [some (.loc b), some w, none, none, none]) (h1 := H) ?_).trans e
  exact (if_no ec).trans rfl
theorem ix_tup {xs : List Val} {r : Int} {g : Hh} (h0 : 0 ≤ r) (h1 : r < xs.length) : ∃ v, oIx (.tup xs) (.int r) g = some (v, g) ∧ v ∈ xs ∧ xs[r.toNat]? = some v := by
  have hn : r.toNat < xs.length := by omega
  refine ⟨xs[r.toNat], ?_, List.getElem_mem _, List.getElem?_eq_getElem hn⟩
  have e : atI xs r = some xs[r.toNat] := by
    unfold atI ixN
    rw [if_pos h0, if_pos h1]
    exact List.getElem?_eq_getElem hn
  unfold oIx
  simp only [e, Option.map_some]
theorem bent_sp (k : Nat) : ∀ (n : Nat) (w : Val), n < k → n ≤ 4 → Wv n w → SpB (2 * n + 3) (f__law_bent k) [w] (Bd n) := by
  induction k with
  | zero => intro n w hk; omega
  | succ k ih =>
    intro n w hk h4 hw h b s eb g c hz
    have hl : b < h.length := (List.getElem?_eq_some_iff.mp eb).1
    have D0 := Du.self eb g c
    show ∃ v h' d, callF 5 (x__law_bent (f__law_bent k)) [.loc b, w] h = .ok v h' ∧ _
    have base : Wb w → ∃ v h' d, callF 5 (x__law_bent (f__law_bent k)) [.loc b, w] h = .ok v h' ∧ Du h b (s.z + (2 * n + 3)) h' ∧ Fr h.length h' d v ∧ Bd n d := fun hb => by
      refine bent_end c D0 hl rfl (by omega) (by omega) n ?_
      rcases hb with rfl | ⟨i, rfl, _⟩ | ⟨s', rfl, _⟩ | ⟨i, rfl, _⟩
      · exact cond_no (d := .none) rfl rfl
      · exact cond_no (d := .int i) rfl rfl
      · exact cond_no (d := .str s') rfl rfl
      · exact cond_thing
    cases n with
    | zero => exact base hw
    | succ n =>
      rcases hw with hw | ⟨ps, rfl, hlim, hp⟩
      · exact base hw
      obtain ⟨ds, i, o, dp, bk, ly, hn⟩ := Tr.all fun x m => Wv.tree (hp x m)
      cases hps : ps.isEmpty with
      | true =>
        have : ps = [] := by simpa using hps
        subst this
        exact bent_end c D0 hl rfl (by omega) (by omega) (n + 1) cond_nil
      | false =>
        obtain ⟨_, s1, e1, d1, r, rfl, r0, r1⟩ := D0.call (take_sp (m := 4) (by decide)) hl (by omega)
        have ec := cond_row (b := b) i ly (by omega) hps e1
        by_cases hr : 0 < r
        · rw [decide_eq_true hr] at ec
          have lp : 0 < ps.length := by
            cases ps with
            | nil => cases hps
            | cons _ _ => simp
          have l30 : ps.length ≤ 30 := by unfold lim at hlim; split at hlim <;> omega
          obtain ⟨_, s2, e2, d2, q, rfl, q0, q1⟩ := d1.call (take_sp (m := (ps.length : Int)) (by omega) (lg (by omega) (by omega))) hl (by omega)
          obtain ⟨x, ex, mx, _⟩ := ix_tup (xs := ps) (g := (h.set b (box s1)).set b (box s2)) q0 q1
          have lh2 : ((h.set b (box s1)).set b (box s2)).length = h.length := by rw [List.length_set, List.length_set]
          generalize hh2 : (h.set b (box s1)).set b (box s2) = H2 at e2 d2 ex lh2
          obtain ⟨s2', l2, eH, g2, z2, c2⟩ := id d2
          have hb2 : H2[b]? = some (box s2') := by rw [eH, List.getElem?_append_left (by rw [List.length_set]; exact hl), List.getElem?_set_self hl]
          obtain ⟨v, h3, d, e3, d3, f3, bd⟩ := ih n x (by omega) (by omega) (hp x mx) H2 b s2' hb2 g2 c2 (by omega)
          have D3 := d2.trans d3 hl
          rw [lh2] at f3
          have len3 : (1 ≤ sizeLine) = True := by rw [sizeLine_eq]; simp
          have len2 : (2 ≤ sizeLine) = True := by rw [sizeLine_eq]; simp
          have sl1 : ∀ g : Hh, oSl (.tup ps) none (some q) g = some (.tup (ps.take q.toNat), g) := fun g => by
            unfold oSl; simp only []; rw [cutX_take q0 (by omega)]
          have sl2 : ∀ g : Hh, oSl (.tup ps) (some (q + 1)) none g = some (.tup (ps.drop (q + 1).toNat), g) := fun g => by
            unfold oSl; simp only []; rw [cutX_drop (by omega) (by omega)]
          have tk : (ps.take q.toNat).length ≤ 30 := by rw [List.length_take]; omega
          have dk : (ps.drop (q + 1).toNat).length ≤ 30 := by rw [List.length_drop]; omega
          have ad1 : ∀ g : Hh, oAdd (.tup (ps.take q.toNat)) (.tup [v]) g = some (.tup (ps.take q.toNat ++ [v]), g) := fun g => by
            unfold oAdd
            simp only []
            rw [if_pos (by rw [sizeLine_eq, List.length_singleton]; omega)]
          have ad2 : ∀ g : Hh, oAdd (.tup (ps.take q.toNat ++ [v])) (.tup (ps.drop (q + 1).toNat)) g = some (.tup (ps.take q.toNat ++ [v] ++ ps.drop (q + 1).toNat), g) := fun g => by
            unfold oAdd
            simp only []
            rw [if_pos (by rw [sizeLine_eq, List.length_append, List.length_singleton]; omega)]
          have adq : ∀ g : Hh, oAdd (.int q) (.int 1) g = some (.int (q + 1), g) := fun g => rfl
          have eW : XW (f__law_bent k) [some (.loc b), some (.tup [.str "row", .tup ps]), none, none, none] (h.set b (box s1)) = .rt (.tup [.str "row", .tup (ps.take q.toNat ++ [v] ++ ps.drop (q + 1).toNat)]) h3 := by
            unfold XW
            refine (seq_nx (e1 := [some (.loc b), some (.tup [.str "row", .tup ps]), some (.int q), none, none]) (h1 := H2) (set_ok (v := .int q) ?_)).trans (ret_ok ?_)
            · simp only [callF, sSeq, sSet, sRet, sRetN, sIf, sExpr, sNil, sPar, xCall, xNil, xCons, xC, xVar, xBin, xUn, xTest, xTru, xAndT, xOrT, xNotT, xAndV, xOrV, xNotV, xIf, xChain, xTup, xLst, xCallN, xMeth, Res.bind_ok, Res.bind_exc, Res.of_some, List.map_cons, List.map_nil, List.length_cons, List.length_nil, List.replicate_succ, List.replicate_zero, Nat.reduceSub, Nat.reduceAdd, Nat.reduceMul, Nat.reduceLeDiff, Nat.reduceEqDiff, Nat.zero_add, Nat.sub_self, List.cons_append, List.nil_append, List.getElem?_cons_zero, List.getElem?_cons_succ, List.set_cons_zero, List.set_cons_succ, if_true, if_false, reduceIte, reduceCtorEq, Bool.not_true, Bool.not_false, Bool.false_eq_true, decide_true, decide_false, Option.map_some, ix1, len_tup, e2]
            · simp only [callF, sSeq, sSet, sRet, sRetN, sIf, sExpr, sNil, sPar, xCall, xNil, xCons, xC, xVar, xBin, xUn, xTest, xTru, xAndT, xOrT, xNotT, xAndV, xOrV, xNotV, xIf, xChain, xTup, xLst, xCallN, xMeth, Res.bind_ok, Res.bind_exc, Res.of_some, List.map_cons, List.map_nil, List.length_cons, List.length_nil, List.replicate_succ, List.replicate_zero, Nat.reduceSub, Nat.reduceAdd, Nat.reduceMul, Nat.reduceLeDiff, Nat.reduceEqDiff, Nat.zero_add, Nat.sub_self, List.cons_append, List.nil_append, List.getElem?_cons_zero, List.getElem?_cons_succ, List.set_cons_zero, List.set_cons_succ, if_true, if_false, reduceIte, reduceCtorEq, Bool.not_true, Bool.not_false, Bool.false_eq_true, decide_true, decide_false, Option.map_some, ix1, xSl, xPart, sl1, ex, e3, len3, ad1, adq, sl2, ad2, len2]
          have fW : Fr h.length h3 (.tuple [.str "row", .tuple (ds.take q.toNat ++ [d] ++ ds.drop (q + 1).toNat)]) (.tup [.str "row", .tup (ps.take q.toNat ++ [v] ++ ps.drop (q + 1).toNat)]) := fun hx a =>
            ⟨_, rfl, _, _, rfl, rfl, _, _, rfl, ⟨_, rfl, IsL.app (IsL.app (IsL.take _ (i hx)) ⟨_, _, rfl, f3 hx a, rfl⟩) (IsL.drop _ (i hx))⟩, rfl⟩
          have bdW : Bd (n + 1) (.tuple [.str "row", .tuple (ds.take q.toNat ++ [d] ++ ds.drop (q + 1).toNat)]) := by
            have sT := Tr.str (Sh.lit 3 "row") (by decide)
            have h1 := sT.bk
            have b1 := bd.bk
            have b2 := bd.dp
            have cut := bulk_cut ds q.toNat
            have dc1 := (depth_cut ds q.toNat).1
            have dc2 := (depth_cut ds (q + 1).toNat).2
            have eq1 : (q + 1).toNat = q.toNat + 1 := by omega
            have hmul : ps.length * (BW n + 1) ≤ lim (n + 1) * (BW n + 1) := Nat.mul_le_mul_right _ hlim
            refine ⟨?_, ?_, ?_⟩
            · rw [okD, Bool.and_eq_true]
              refine ⟨sT.ok, okL_app (okL_app (okL_sub o fun _ m => List.mem_of_mem_take m) ?_) (okL_sub o fun _ m => List.mem_of_mem_drop m)⟩
              simp only [okL, Bool.and_eq_true]
              exact ⟨bd.ok, trivial⟩
            · simp only [PyData.depth, PyData.depthAll, depth_app]; omega
            · rw [eq1]
              simp only [PyData.bulk, PyData.bulkAll, bulk_app, BB, BW] at h1 ⊢; omega
          obtain ⟨d5, f5⟩ := gc_fr D3 c fW
          refine ⟨_, _, _, call_rt ?_, d5.mono (by omega), f5, bdW⟩
          rw [bent_form]
          have : sIf XC (XW (f__law_bent k)) sNil [some (.loc b), some (.tup [.str "row", .tup ps]), none, none, none] h = .rt (.tup [.str "row", .tup (ps.take q.toNat ++ [v] ++ ps.drop (q + 1).toNat)]) h3 := (if_yes ec).trans eW
          show sSeq _ _ _ _ = _
          unfold sSeq
          rw [show (List.map some [Val.loc b, Val.tup [Val.str (Str.ofString "row"), Val.tup ps]] ++ List.replicate (5 - [Val.loc b, Val.tup [Val.str (Str.ofString "row"), Val.tup ps]].length) none) = [some (.loc b), some (.tup [.str "row", .tup ps]), none, none, none] from rfl, this]
        · rw [decide_eq_false hr] at ec
          exact bent_end c d1 hl (by rw [List.length_set]) (by omega) (by omega) (n + 1) ec
end K

set_option Elab.async false
set_option linter.all false
set_option maxRecDepth 100000
set_option maxHeartbeats 4000000
namespace K
open PySem L2 EX
theorem e_pow29 {e : En} {g : Hh} : xBin oPow (xC (Val.int 10)) (xC (Val.int 29)) e g = .ok (.int (10 ^ 29)) g := rfl
theorem e_pow30 {e : En} {g : Hh} : xBin oPow (xC (Val.int 10)) (xC (Val.int 30)) e g = .ok (.int (10 ^ 30)) g := rfl
theorem e_pow28 {e : En} {g : Hh} : xBin oPow (xC (Val.int 10)) (xC (Val.int 28)) e g = .ok (.int (10 ^ 28)) g := rfl
theorem lg29 : (((10 : Int) ^ 29).natAbs.log2 < 9000) := by decide +kernel
noncomputable def XB1 : XE := xIf (xTru (xCall 3 f__law_is_number (xCons (xVar 1) (xCons (xBin oSub (xC (.int 0)) (xBin oPow (xC (.int 10)) (xC (.int 30)))) (xCons (xBin oPow (xC (.int 10)) (xC (.int 30))) (xNil)))))) (xVar 1) (xC (.int 0))
theorem base_sp {b : Nat} {h : Hh} {d : PyData} {v : Val} (i : Is h d v) : ∃ k : Int, XB1 [some (.loc b), some v, none] h = .ok (.int k) h := by
  have n := number_eq i (0 - 10 ^ 30) (10 ^ 30)
  have sb : ∀ g : Hh, oSub (.int 0) (.int (10 ^ 30)) g = some (.int (0 - 10 ^ 30), g) := fun g => rfl
  simp only [XB1, xIf, xTru, xCall, xCons, xNil, xVar, xBin, xC, e_pow30, Res.bind_ok, List.getElem?_cons_zero, List.getElem?_cons_succ, Res.of_some, sb, List.length_cons, List.length_nil, Nat.zero_add, Nat.reduceAdd, if_true, show ∀ g : Hh, oPow (.int 10) (.int 30) g = some (.int (10 ^ 30), g) from fun g => rfl, n, truth]
  cases hn : numD d (0 - 10 ^ 30) (10 ^ 30) with
  | true =>
    cases d with
    | int k => cases (show _ = _ from i); exact ⟨k, rfl⟩
    | _ => cases hn
  | false => exact ⟨0, rfl⟩
theorem bound_sp {h : Hh} {b : Nat} {s : Bs} {d : PyData} {v : Val} (i : Is h d v) (eb : h[b]? = some (box s)) (g : Gd s) (c : Cl h) (hz : s.z + 3 ≤ zM) :
    ∃ (r : Int) (s' : Bs), f__law_bound [.loc b, v] h = .ok (.int r) (h.set b (box s')) ∧ Gd s' ∧ s'.z ≤ s.z + 3 := by
  have hl : b < h.length := (List.getElem?_eq_some_iff.mp eb).1
  obtain ⟨k, e0⟩ := base_sp (b := b) i
  obtain ⟨_, s1, e1, d1, r, rfl, r0, r1⟩ := (Du.self eb g c).call (take_sp (m := 10 ^ 29) (by decide) lg29) hl (by omega)
  have mu : ∀ {g : Hh}, oMul2 (.int 5) (.int (10 ^ 28)) g = some (.int (5 * 10 ^ 28), g) := rfl
  have sb : ∀ {g : Hh}, oSub (.int r) (.int (5 * 10 ^ 28)) g = some (.int (r - 5 * 10 ^ 28), g) := rfl
  obtain ⟨v3, h3, e3, d3, m3, l3⟩ := pick (A := xCons (xVar 2) (xCons (xVar 2) (xCons (xC (.int 0)) (xCons (xBin oSub (xCall 2 f__law_take (xCons (xVar 0) (xCons (xBin oPow (xC (.int 10)) (xC (.int 29))) (xNil)))) (xBin oMul2 (xC (.int 5)) (xBin oPow (xC (.int 10)) (xC (.int 28))))) (xNil)))))
    (e := [some (.loc b), some v, some (.int k)]) (h0 := h) (m := 4) (vs := [.int k, .int k, .int 0, .int (r - 5 * 10 ^ 28)]) (by simp only [callF, sSeq, sSet, sRet, sRetN, sIf, sExpr, sNil, sPar, xCall, xNil, xCons, xC, xVar, xBin, xUn, xTest, xTru, xAndT, xOrT, xNotT, xAndV, xOrV, xNotV, xIf, xChain, xTup, xLst, xCallN, xMeth, Res.bind_ok, Res.bind_exc, Res.of_some, List.map_cons, List.map_nil, List.length_cons, List.length_nil, List.replicate_succ, List.replicate_zero, Nat.reduceSub, Nat.reduceAdd, Nat.reduceMul, Nat.reduceLeDiff, Nat.reduceEqDiff, Nat.zero_add, Nat.sub_self, List.cons_append, List.nil_append, List.getElem?_cons_zero, List.getElem?_cons_succ, List.set_cons_zero, List.set_cons_succ, if_true, if_false, reduceIte, reduceCtorEq, Bool.not_true, Bool.not_false, Bool.false_eq_true, decide_true, decide_false, Option.map_some, show ∀ g : Hh, oPow (.int 10) (.int 29) g = some (.int (10 ^ 29), g) from fun g => rfl, show ∀ g : Hh, oPow (.int 10) (.int 28) g = some (.int (10 ^ 28), g) from fun g => rfl, mu, e1, sb]) rfl d1 hl (by omega) rfl (by decide) (by decide) rfl
  have w3 : ∃ j : Int, v3 = .int j := by
    simp only [List.mem_cons, List.not_mem_nil, or_false] at m3
    rcases m3 with rfl | rfl | rfl | rfl <;> exact ⟨_, rfl⟩
  obtain ⟨j, rfl⟩ := w3
  obtain ⟨_, s4, e4, d4, q, rfl, q0, q1⟩ := d3.call (take_sp (m := 3) (by decide)) hl (by omega)
  obtain ⟨s5, g5, gd5, z5⟩ := d4.done (v := .int (j + q - 1)) c rfl
  refine ⟨j + q - 1, s5, ?_, gd5, by omega⟩
  rw [← g5]
  refine call_rt ?_
  refine (seq_nx (e1 := [some (.loc b), some v, some (.int k)]) (set_ok e0)).trans (ret_ok ?_)
  have a1 : ∀ g : Hh, oAdd (.int j) (.int q) g = some (.int (j + q), g) := fun g => rfl
  have a2 : ∀ g : Hh, oSub (.int (j + q)) (.int 1) g = some (.int (j + q - 1), g) := fun g => rfl
  show xBin oSub (xBin oAdd _ (xCall 2 f__law_take (xCons (xVar 0) (xCons (xC (.int 3)) (xNil))))) (xC (.int 1)) _ _ = _
  unfold xBin
  unfold xBin at e3
  rw [e3]
  simp only [callF, sSeq, sSet, sRet, sRetN, sIf, sExpr, sNil, sPar, xCall, xNil, xCons, xC, xVar, xBin, xUn, xTest, xTru, xAndT, xOrT, xNotT, xAndV, xOrV, xNotV, xIf, xChain, xTup, xLst, xCallN, xMeth, Res.bind_ok, Res.bind_exc, Res.of_some, List.map_cons, List.map_nil, List.length_cons, List.length_nil, List.replicate_succ, List.replicate_zero, Nat.reduceSub, Nat.reduceAdd, Nat.reduceMul, Nat.reduceLeDiff, Nat.reduceEqDiff, Nat.zero_add, Nat.sub_self, List.cons_append, List.nil_append, List.getElem?_cons_zero, List.getElem?_cons_succ, List.set_cons_zero, List.set_cons_succ, if_true, if_false, reduceIte, reduceCtorEq, Bool.not_true, Bool.not_false, Bool.false_eq_true, decide_true, decide_false, Option.map_some, e4, a1, a2]
end K

set_option Elab.async false
set_option linter.all false
set_option maxRecDepth 100000
set_option maxHeartbeats 4000000
namespace K
open PySem L2 EX
/-! ### one turn of the looks -/
noncomputable def XT1 : XS := (sSeq (sIf (xTest (xBin oNe (xCallN oRepr (xCons (xCall 3 f_is_whole (xCons (xVar 5) (xCons (xVar 7) (xCons (xVar 8) (xNil))))) (xNil))) (xCallN oRepr (xCons (xCall 3 f__law_is_number (xCons (xVar 5) (xCons (xVar 7) (xCons (xVar 8) (xNil))))) (xNil))))) (sRet (xC (.bl false))) (sNil)) (sSeq (sIf (xOrT (xTest (xBin oNe (xCallN oRepr (xCons (xCall 1 f_is_name (xCons (xVar 5) (xNil))) (xNil))) (xCallN oRepr (xCons (xCall 1 f__law_is_name (xCons (xVar 5) (xNil))) (xNil))))) (xTest (xBin oNe (xCallN oRepr (xCons (xCall 1 f_is_text (xCons (xVar 5) (xNil))) (xNil))) (xCallN oRepr (xCons (xCall 1 f__law_is_text (xCons (xVar 5) (xNil))) (xNil)))))) (sRet (xC (.bl false))) (sNil)) (sIf (xOrT (xTest (xBin oNe (xCallN oRepr (xCons (xCall 1 f_is_worth (xCons (xVar 5) (xNil))) (xNil))) (xCallN oRepr (xCons (xCall 2 (f__law_is_worth 12) (xCons (xVar 5) (xCons (xC (.int 4)) (xNil)))) (xNil))))) (xTest (xBin oNe (xCallN oRepr (xCons (xVar 5) (xNil))) (xVar 6)))) (sRet (xC (.bl false))) (sNil))))
theorem turn_eq {a0 a1 a2 a3 a4 a9 : Option Val} {h : Hh} {d : PyData} {v : Val} {lo hi : Int} (i : Is h d v) (c : Cl h) (f : Fit d) :
    XT1 [a0, a1, a2, a3, a4, some v, some (.str d.shown), some (.int lo), some (.int hi), a9] h = .nx [a0, a1, a2, a3, a4, some v, some (.str d.shown), some (.int lo), some (.int hi), a9] h := by
  have dT : ∀ s : Str, decide (s = s) = true := fun s => by simp
  have e1 := whole_eq i lo hi
  have e2 := number_eq i lo hi
  have e3 := name_eq i c (okD.short f.ok)
  have e4 := lname_eq i c (okD.short f.ok)
  have e5 := text_eq i c (okD.short f.ok)
  have e6 := ltext_eq i c (okD.short f.ok)
  have e7 := isw_eq i c f
  have e8 := lw_eq i c f
  have e9 := repr_eq i f
  simp only [XT1, callF, sSeq, sSet, sRet, sRetN, sIf, sExpr, sNil, sPar, xCall, xNil, xCons, xC, xVar, xBin, xUn, xTest, xTru, xAndT, xOrT, xNotT, xAndV, xOrV, xNotV, xIf, xChain, xTup, xLst, xCallN, xMeth, Res.bind_ok, Res.bind_exc, Res.of_some, List.map_cons, List.map_nil, List.length_cons, List.length_nil, List.replicate_succ, List.replicate_zero, Nat.reduceSub, Nat.reduceAdd, Nat.reduceMul, Nat.reduceLeDiff, Nat.reduceEqDiff, Nat.zero_add, Nat.sub_self, List.cons_append, List.nil_append, List.getElem?_cons_zero, List.getElem?_cons_succ, List.set_cons_zero, List.set_cons_succ, if_true, if_false, reduceIte, reduceCtorEq, Bool.not_true, Bool.not_false, Bool.false_eq_true, decide_true, decide_false, Option.map_some, e1, e2, e3, e4, e5, e6, e7, e8, e9, repr_bl, ne_str, dT]
noncomputable def XT2 : XS := sFor (xRange1 (xC (.int 2))) (.name 9) XT1
theorem turns_eq {a0 a1 a2 a3 a4 a9 : Option Val} {h : Hh} {d : PyData} {v : Val} {lo hi : Int} (i : Is h d v) (c : Cl h) (f : Fit d) :
    ∃ x, XT2 [a0, a1, a2, a3, a4, some v, some (.str d.shown), some (.int lo), some (.int hi), a9] h = .nx [a0, a1, a2, a3, a4, some v, some (.str d.shown), some (.int lo), some (.int hi), x] h := by
  have r1 : ∀ e : En, xRange1 (xC (.int 2)) e h = .ok (.items [.int 0, .int 1]) h := fun e => by
    simp [xRange1, xC, List.range_succ]
  refine ⟨some (.int 1), ?_⟩
  have t := fun a9 => turn_eq (a0 := a0) (a1 := a1) (a2 := a2) (a3 := a3) (a4 := a4) (a9 := a9) (lo := lo) (hi := hi) i c f
  simp only [XT2, sFor, r1, forLoop, Itn.xs, Itn.okAt, Tg.put, if_true, List.length_cons, List.length_nil, Nat.zero_add, Nat.reduceAdd, Nat.reduceLT, Nat.reduceLeDiff, List.set_cons_zero, List.set_cons_succ, t]
  exact if_pos trivial
/-! ### one thing -/
noncomputable def XB2 : XS := sSeq (sSet 6 (xCallN oRepr (xCons (xVar 5) (xNil)))) (sSeq (sPar [7, 8] (xCons (xCall 2 f__law_bound (xCons (xVar 0) (xCons (xVar 5) (xNil)))) (xCons (xCall 2 f__law_bound (xCons (xVar 0) (xCons (xVar 5) (xNil)))) (xNil)))) (sSeq XT2 (sIf (xNotT (xTru (xCall 1 f__law_yes_right (xCons (xVar 5) (xNil))))) (sRet (xC (.bl false))) (sNil))))
/-- the tree of v stands by the places lo .. hi - 1 alone -/
def Frr (lo hi : Nat) (h : Hh) (d : PyData) (v : Val) : Prop := ∀ h2 : Hh, (∀ (i : Nat) (o : Ob), lo ≤ i → i < hi → h[i]? = some o → h2[i]? = some o) → Is h2 d v
theorem Frr.is {lo hi : Nat} {h : Hh} {d : PyData} {v : Val} (f : Frr lo hi h d v) : Is h d v := f h fun _ _ _ _ e => e
theorem Frr.grow {lo hi : Nat} {h h' : Hh} {d : PyData} {v : Val} (f : Frr lo hi h d v) (k : ∀ (i : Nat) (o : Ob), lo ≤ i → i < hi → h[i]? = some o → h'[i]? = some o) : Frr lo hi h' d v := fun h2 a => f h2 fun i o h1 h2 e => a i o h1 h2 (k i o h1 h2 e)
theorem Frr.at {lo hi : Nat} {h : Hh} {d : PyData} {v : Val} (f : Frr lo hi h d v) {j : Nat} (e : v = .loc j) : lo ≤ j ∧ j < hi := by
  subst e
  by_cases hj : lo ≤ j ∧ j < hi
  · exact hj
  · have i3 := f (h.set j (.ins "" [])) fun i o h1 h2 e => by
      rw [List.getElem?_set_ne (fun z => hj (by subst z; exact ⟨h1, h2⟩))]
      exact e
    have no : ∀ o, (h.set j (Ob.ins "" []))[j]? = some o → o = Ob.ins "" [] := fun o e => by
      have l := (List.getElem?_eq_some_iff.mp e).1
      rw [List.length_set] at l
      rw [List.getElem?_set_self l] at e
      cases e; rfl
    cases d with
    | none => cases (show _ = _ from i3)
    | bool b => cases (show _ = _ from i3)
    | int b => cases (show _ = _ from i3)
    | str b => cases (show _ = _ from i3)
    | tuple ds => obtain ⟨xs, e, _⟩ := i3; cases e
    | list ds => obtain ⟨n, xs, e, g, _⟩ := i3; cases e; cases no _ g
    | dict ds => obtain ⟨n, xs, e, g, _⟩ := i3; cases e; cases no _ g
theorem thing_step {a1 a2 a3 a4 a6 a7 a8 a9 : Option Val} {h : Hh} {b : Nat} {s : Bs} {d : PyData} {v : Val} {lo hi : Nat} (eb : h[b]? = some (box s)) (g : Gd s) (c : Cl h) (hz : s.z + 6 ≤ zM) (f : Frr lo hi h d v) (hb : b < lo) (ft : Fit d) :
    ∃ (h' : Hh) (s' : Bs) (b6 b7 b8 b9 : Option Val), XB2 [some (.loc b), a1, a2, a3, a4, some v, a6, a7, a8, a9] h = .nx [some (.loc b), a1, a2, a3, a4, some v, b6, b7, b8, b9] h' ∧ h'[b]? = some (box s') ∧ Gd s' ∧ s'.z ≤ s.z + 6 ∧ Cl h' ∧ h'.length = h.length ∧
      ∀ i, i ≠ b → (i < lo ∨ hi ≤ i) → h'[i]? = h[i]? := by
  have hl : b < h.length := (List.getElem?_eq_some_iff.mp eb).1
  have e0 := repr_eq f.is ft
  obtain ⟨r1, s1, e1, g1, z1⟩ := bound_sp f.is eb g c (by omega)
  have eb1 : (h.set b (box s1))[b]? = some (box s1) := List.getElem?_set_self hl
  have f1 : Frr lo hi (h.set b (box s1)) d v := f.grow fun i o h1 _ e => by rw [List.getElem?_set_ne (by omega)]; exact e
  have c1 : Cl (h.set b (box s1)) := c.set b s1
  obtain ⟨r2, s2, e2, g2, z2⟩ := bound_sp f1.is eb1 g1 c1 (by omega)
  rw [List.set_set] at e2
  have eb2 : (h.set b (box s2))[b]? = some (box s2) := List.getElem?_set_self hl
  have f2 : Frr lo hi (h.set b (box s2)) d v := f.grow fun i o h1 _ e => by rw [List.getElem?_set_ne (by omega)]; exact e
  have c2 : Cl (h.set b (box s2)) := c.set b s2
  obtain ⟨x, e3⟩ := turns_eq (a0 := some (.loc b)) (a1 := a1) (a2 := a2) (a3 := a3) (a4 := a4) (a9 := a9) (lo := r1) (hi := r2) f2.is c2 ft
  obtain ⟨h', e4, L⟩ := yr_eq f2.is c2 ft
  have nb : v ≠ .loc b := fun e => by have := f.at e; omega
  refine ⟨h', s2, some (.str d.shown), some (.int r1), some (.int r2), x, ?_, by rw [L.at_ b nb]; exact eb2, g2, by omega, L.cl, by rw [L.len, List.length_set], fun i hi1 hi2 => ?_⟩
  · unfold XB2
    refine (seq_nx (e1 := [some (.loc b), a1, a2, a3, a4, some v, some (.str d.shown), a7, a8, a9]) (h1 := h) (set_ok (v := .str d.shown) ?_)).trans ?_
    · simp only [callF, sSeq, sSet, sRet, sRetN, sIf, sExpr, sNil, sPar, xCall, xNil, xCons, xC, xVar, xBin, xUn, xTest, xTru, xAndT, xOrT, xNotT, xAndV, xOrV, xNotV, xIf, xChain, xTup, xLst, xCallN, xMeth, Res.bind_ok, Res.bind_exc, Res.of_some, List.map_cons, List.map_nil, List.length_cons, List.length_nil, List.replicate_succ, List.replicate_zero, Nat.reduceSub, Nat.reduceAdd, Nat.reduceMul, Nat.reduceLeDiff, Nat.reduceEqDiff, Nat.zero_add, Nat.sub_self, List.cons_append, List.nil_append, List.getElem?_cons_zero, List.getElem?_cons_succ, List.set_cons_zero, List.set_cons_succ, if_true, if_false, reduceIte, reduceCtorEq, Bool.not_true, Bool.not_false, Bool.false_eq_true, decide_true, decide_false, Option.map_some, e0]
    refine (seq_nx (e1 := [some (.loc b), a1, a2, a3, a4, some v, some (.str d.shown), some (.int r1), some (.int r2), a9]) (h1 := h.set b (box s2)) ?_).trans ?_
    · simp only [callF, sSeq, sSet, sRet, sRetN, sIf, sExpr, sNil, sPar, xCall, xNil, xCons, xC, xVar, xBin, xUn, xTest, xTru, xAndT, xOrT, xNotT, xAndV, xOrV, xNotV, xIf, xChain, xTup, xLst, xCallN, xMeth, Res.bind_ok, Res.bind_exc, Res.of_some, List.map_cons, List.map_nil, List.length_cons, List.length_nil, List.replicate_succ, List.replicate_zero, Nat.reduceSub, Nat.reduceAdd, Nat.reduceMul, Nat.reduceLeDiff, Nat.reduceEqDiff, Nat.zero_add, Nat.sub_self, List.cons_append, List.nil_append, List.getElem?_cons_zero, List.getElem?_cons_succ, List.set_cons_zero, List.set_cons_succ, if_true, if_false, reduceIte, reduceCtorEq, Bool.not_true, Bool.not_false, Bool.false_eq_true, decide_true, decide_false, Option.map_some, e1, e2, List.foldl_cons, List.foldl_nil, List.zip_cons_cons, List.zip_nil_right, and_self]
    refine (seq_nx e3).trans ?_
    simp only [callF, sSeq, sSet, sRet, sRetN, sIf, sExpr, sNil, sPar, xCall, xNil, xCons, xC, xVar, xBin, xUn, xTest, xTru, xAndT, xOrT, xNotT, xAndV, xOrV, xNotV, xIf, xChain, xTup, xLst, xCallN, xMeth, Res.bind_ok, Res.bind_exc, Res.of_some, List.map_cons, List.map_nil, List.length_cons, List.length_nil, List.replicate_succ, List.replicate_zero, Nat.reduceSub, Nat.reduceAdd, Nat.reduceMul, Nat.reduceLeDiff, Nat.reduceEqDiff, Nat.zero_add, Nat.sub_self, List.cons_append, List.nil_append, List.getElem?_cons_zero, List.getElem?_cons_succ, List.set_cons_zero, List.set_cons_succ, if_true, if_false, reduceIte, reduceCtorEq, Bool.not_true, Bool.not_false, Bool.false_eq_true, decide_true, decide_false, Option.map_some, e4, truth]
  · rw [L.at_ i ?_, List.getElem?_set_ne (Ne.symm hi1)]
    intro e
    have := f.at e
    omega
/-! ### all things -/
def Ch (n : Nat) : Nat → Hh → List Val → Prop
  | lo, h, [] => lo ≤ n
  | lo, h, v :: vs => ∃ mid d, lo ≤ mid ∧ Fit d ∧ Frr lo mid h d v ∧ Ch n mid h vs
theorem Ch.le {n : Nat} : ∀ {vs : List Val} {lo : Nat} {h : Hh}, Ch n lo h vs → lo ≤ n
  | [], _, _, e => e
  | _ :: _, _, _, ⟨_, _, l, _, _, r⟩ => Nat.le_trans l (Ch.le r)
theorem Ch.same {n : Nat} : ∀ {vs : List Val} {lo : Nat} {h h' : Hh}, (∀ i, lo ≤ i → i < n → h'[i]? = h[i]?) → Ch n lo h vs → Ch n lo h' vs
  | [], _, _, _, _, e => e
  | _ :: _, _, _, _, k, ⟨mid, d, l, ft, f, r⟩ => ⟨mid, d, l, ft, f.grow fun i o h1 h2 e => by rw [k i h1 (by have := r.le; omega)]; exact e, Ch.same (fun i h1 h2 => k i (by omega) h2) r⟩
theorem things_loop {n b : Nat} {all : List Val} {a1 a2 a3 a4 : Option Val} : ∀ {vs : List Val} {lo : Nat} {h : Hh} {s : Bs} {a5 a6 a7 a8 a9 : Option Val}, b < lo → h[b]? = some (box s) → Gd s → Cl h → s.z + 6 * vs.length ≤ zM → h[n]? = some (.lst all) → Ch n lo h vs →
    ∃ (h' : Hh) (b5 b6 b7 b8 b9 : Option Val), forLoop (.live n all) (.name 5) XB2 vs [some (.loc b), a1, a2, a3, a4, a5, a6, a7, a8, a9] h = .nx [some (.loc b), a1, a2, a3, a4, b5, b6, b7, b8, b9] h' ∧ Cl h' ∧ h'.length = h.length
  | [], lo, h, s, a5, a6, a7, a8, a9, hb, eb, g, c, hz, en, ch => ⟨h, a5, a6, a7, a8, a9, by simp [forLoop, Itn.okAt, en], c, rfl⟩
  | v :: vs, lo, h, s, a5, a6, a7, a8, a9, hb, eb, g, c, hz, en, ⟨mid, d, l, ft, f, r⟩ => by
    rw [List.length_cons] at hz
    obtain ⟨h', s', b6, b7, b8, b9, e, eb', g', z', c', l', k⟩ := thing_step (a1 := a1) (a2 := a2) (a3 := a3) (a4 := a4) (a6 := a6) (a7 := a7) (a8 := a8) (a9 := a9) eb g c (by omega) f hb ft
    have hm := r.le
    obtain ⟨h2, c5, c6, c7, c8, c9, e2, cl2, ll2⟩ := things_loop (n := n) (b := b) (all := all) (a1 := a1) (a2 := a2) (a3 := a3) (a4 := a4) (vs := vs) (lo := mid) (h := h') (s := s') (a5 := some v) (a6 := b6) (a7 := b7) (a8 := b8) (a9 := b9) (by omega) eb' g' c' (by omega) (by rw [k n (by omega) (.inr hm)]; exact en) (r.same fun i h1 h2 => k i (by omega) (.inr h1))
    refine ⟨h2, c5, c6, c7, c8, c9, ?_, cl2, by rw [ll2, l']⟩
    unfold forLoop
    have ok : (Itn.live n all).okAt h := en
    have pt : Tg.put (.name 5) v [some (.loc b), a1, a2, a3, a4, a5, a6, a7, a8, a9] = some [some (.loc b), a1, a2, a3, a4, some v, a6, a7, a8, a9] := by simp [Tg.put]
    rw [if_pos ok, pt]
    simp only [e]
    exact e2
end K

set_option Elab.async false
set_option linter.all false
set_option maxRecDepth 100000
set_option maxHeartbeats 4000000
namespace K
open PySem L2 EX
noncomputable def XN1 : XE := (xBin oIx (xLst (xCons (xC (.int 0)) (xCons (xUn oNeg (xC (.int 1))) (xCons (xCall 2 f__law_take (xCons (xVar 0) (xCons (xVar 1) (xNil)))) (xCons (xBin oSub (xC (.int 1)) (xCall 2 f__law_take (xCons (xVar 0) (xCons (xVar 1) (xNil))))) (xCons (xCall 2 f__law_take (xCons (xVar 0) (xCons (xBin oMul2 (xC (.int 2)) (xBin oPow (xC (.int 10)) (xC (.int 9)))) (xNil)))) (xNil))))))) (xCall 2 f__law_take (xCons (xVar 0) (xCons (xC (.int 5)) (xNil)))))
noncomputable def XL1 : XE := (xLst (xCons (xVar 2) (xCons (xVar 3) (xCons (xVar 4) (xCons (xCall 1 f__law_name (xCons (xVar 0) (xNil))) (xCons (xCall 1 f__law_text (xCons (xVar 0) (xNil))) (xCons (xCall 2 (f__law_bent 12) (xCons (xVar 0) (xCons (xVar 3) (xNil)))) (xNil))))))))
theorem right_form : x__law_right = sSeq (sSet 1 (xBin oPow (xC (.int 10)) (xC (.int 29)))) (sSeq (sSet 2 XN1) (sSeq (sSet 3 (xCall 2 (f__law_worth 12) (xCons (xVar 0) (xCons (xC (.int 4)) (xNil))))) (sSeq (sSet 4 (xCall 2 (f__law_bent 12) (xCons (xVar 0) (xCons (xC .non) (xNil))))) (sSeq (sFor (xIter XL1) (.name 5) XB2) (sRet (xC (.bl true))))))) := rfl
theorem num_sp {h : Hh} {b : Nat} {s : Bs} (eb : h[b]? = some (box s)) (g : Gd s) (c : Cl h) (hz : s.z + 4 ≤ zM) :
    ∃ (k : Int) (h' : Hh), XN1 [some (.loc b), some (.int (10 ^ 29)), none, none, none, none, none, none, none, none] h = .ok (.int k) h' ∧ Du h b (s.z + 4) h' ∧ k.natAbs < 10 ^ 31 := by
  have hl : b < h.length := (List.getElem?_eq_some_iff.mp eb).1
  obtain ⟨_, s1, e1, d1, r1, rfl, p1, q1⟩ := (Du.self eb g c).call (take_sp (m := 10 ^ 29) (by decide) lg29) hl (by omega)
  obtain ⟨_, s2, e2, d2, r2, rfl, p2, q2⟩ := d1.call (take_sp (m := 10 ^ 29) (by decide) lg29) hl (by omega)
  obtain ⟨_, s3, e3, d3, r3, rfl, p3, q3⟩ := d2.call (take_sp (m := 2000000000) (by decide)) hl (by omega)
  have mu : ∀ {g : Hh}, oMul2 (.int 2) (.int 1000000000) g = some (.int 2000000000, g) := rfl
  have pw : ∀ {g : Hh}, oPow (.int 10) (.int 9) g = some (.int 1000000000, g) := rfl
  have ng : ∀ {g : Hh}, oNeg (.int 1) g = some (.int (-1), g) := rfl
  have sb : ∀ {g : Hh}, oSub (.int 1) (.int r2) g = some (.int (1 - r2), g) := rfl
  obtain ⟨v3, h3, e4, d4, m3, l3⟩ := pick (A := (xCons (xC (.int 0)) (xCons (xUn oNeg (xC (.int 1))) (xCons (xCall 2 f__law_take (xCons (xVar 0) (xCons (xVar 1) (xNil)))) (xCons (xBin oSub (xC (.int 1)) (xCall 2 f__law_take (xCons (xVar 0) (xCons (xVar 1) (xNil))))) (xCons (xCall 2 f__law_take (xCons (xVar 0) (xCons (xBin oMul2 (xC (.int 2)) (xBin oPow (xC (.int 10)) (xC (.int 9)))) (xNil)))) (xNil)))))))
    (e := [some (.loc b), some (.int (10 ^ 29)), none, none, none, none, none, none, none, none]) (h0 := h) (m := 5) (vs := [.int 0, .int (-1), .int r1, .int (1 - r2), .int r3]) (by simp only [callF, sSeq, sSet, sRet, sRetN, sIf, sExpr, sNil, sPar, xCall, xNil, xCons, xC, xVar, xBin, xUn, xTest, xTru, xAndT, xOrT, xNotT, xAndV, xOrV, xNotV, xIf, xChain, xTup, xLst, xCallN, xMeth, Res.bind_ok, Res.bind_exc, Res.of_some, List.map_cons, List.map_nil, List.length_cons, List.length_nil, List.replicate_succ, List.replicate_zero, Nat.reduceSub, Nat.reduceAdd, Nat.reduceMul, Nat.reduceLeDiff, Nat.reduceEqDiff, Nat.zero_add, Nat.sub_self, List.cons_append, List.nil_append, List.getElem?_cons_zero, List.getElem?_cons_succ, List.set_cons_zero, List.set_cons_succ, if_true, if_false, reduceIte, reduceCtorEq, Bool.not_true, Bool.not_false, Bool.false_eq_true, decide_true, decide_false, Option.map_some, ng, e1, e2, sb, pw, mu, e3]) rfl d3 hl (by omega) rfl (by decide) (by decide) rfl
  have w3 : ∃ j : Int, v3 = .int j ∧ j.natAbs < 10 ^ 31 := by
    simp only [List.mem_cons, List.not_mem_nil, or_false] at m3
    rcases m3 with rfl | rfl | rfl | rfl | rfl <;> exact ⟨_, rfl, by omega⟩
  obtain ⟨j, rfl, hj⟩ := w3
  exact ⟨j, h3, e4, d4.mono (by omega), hj⟩
theorem Tr.frr {v : Val} {d : PyData} {a b : Nat} (t : Tr v d a b) (lo hi : Nat) (h : Hh) : Frr lo hi h d v := fun h2 _ => t.is h2
theorem Tr.fit {v : Val} {d : PyData} {a b : Nat} (t : Tr v d a b) (ha : a < 15) (hb : b ≤ 200000) : Fit d := ⟨t.ok, Nat.lt_of_le_of_lt t.dp ha, Nat.le_trans t.bk hb⟩
theorem Bd.fit {d : PyData} {n : Nat} (t : Bd n d) (hn : n ≤ 4) : Fit d := ⟨t.ok, by have := t.dp; omega, by
  have h := t.bk
  have : BB n ≤ 200000 := by
    have : n = 0 ∨ n = 1 ∨ n = 2 ∨ n = 3 ∨ n = 4 := by omega
    rcases this with rfl | rfl | rfl | rfl | rfl <;> decide
  omega⟩
theorem Du.box {h : Hh} {b : Nat} {z : Int} {h' : Hh} (d : Du h b z h') (hl : b < h.length) : ∃ s, h'[b]? = some (box s) ∧ Gd s ∧ s.z ≤ z := by
  obtain ⟨s, l, e, g, q, c⟩ := d
  exact ⟨s, by rw [e, List.getElem?_append_left (by rw [List.length_set]; exact hl), List.getElem?_set_self hl], g, q⟩
theorem Du.keep {h : Hh} {b : Nat} {z : Int} {h' : Hh} (d : Du h b z h') {i : Nat} {o : Ob} (hi : i ≠ b) (e : h[i]? = some o) : h'[i]? = some o := by
  obtain ⟨s, l, e1, g, q, c⟩ := d
  have hl := (List.getElem?_eq_some_iff.mp e).1
  rw [e1, List.getElem?_append_left (by rw [List.length_set]; exact hl), List.getElem?_set_ne (Ne.symm hi)]
  exact e
theorem Cl.gc {h : Hh} (c : Cl h) (n : Nat) (v : Val) (hn : n ≤ h.length) : Cl (EX.gc n v h) := by
  unfold EX.gc
  split
  · rename_i hu
    unfold Cl
    rw [List.length_take, Nat.min_eq_left hn]
    exact hu.2
  · exact c
theorem right_sp {h : Hh} {b : Nat} {s : Bs} (eb : h[b]? = some (box s)) (g : Gd s) (c : Cl h) (hz : s.z ≤ 0) : ∃ h', f__law_right [.loc b] h = .ok (.bl true) h' ∧ Cl h' := by
  have hl : b < h.length := (List.getElem?_eq_some_iff.mp eb).1
  have zm : zM = 4194304 := rfl
  obtain ⟨k, h1, e1, d1, hk⟩ := num_sp eb g c (by omega)
  have hDW : (DW 4 : Int) ≤ 100000 := by decide
  obtain ⟨v2, s2, e2, d2, w2⟩ := d1.call (worth_sp 12 4 (by decide) (by decide)) hl (by omega)
  generalize hH2 : h1.set b (box s2) = H2 at e2 d2
  obtain ⟨t2, eb2, g2, z2⟩ := d2.box hl
  have l2 : b < H2.length := Nat.lt_of_lt_of_le hl d2.le
  obtain ⟨v3, H3, d3, e3, D3, f3, bd3⟩ := bent_sp 12 0 .non (by decide) (by decide) (.inl rfl) H2 b t2 eb2 g2 d2.cl (by omega)
  obtain ⟨t3, eb3, g3, z3⟩ := D3.box l2
  have l3 : b < H3.length := Nat.lt_of_lt_of_le l2 D3.le
  obtain ⟨v4, s4, e4, D4, w, rfl, sh4⟩ := D3.call name_sp l2 (by omega)
  obtain ⟨v5, s5, e5, D5, w5, rfl, sh5, _⟩ := D4.call text_sp l2 (by omega)
  rw [List.set_set] at e5 D5
  obtain ⟨t5, eb5, g5, z5⟩ := D5.box l2
  have l5 : (H3.set b (box s5)).length = H3.length := List.length_set
  generalize hH5 : H3.set b (box s5) = H5 at e5 D5 eb5 l5
  have k5 : ∀ (i : Nat) (o : Ob), i ≠ b → H3[i]? = some o → H5[i]? = some o := fun i o hi e => by rw [← hH5, List.getElem?_set_ne (Ne.symm hi)]; exact e
  obtain ⟨v6, H6, d6, e6, D6, f6, bd6⟩ := bent_sp 12 4 v2 (by decide) (by decide) w2 H5 b t5 eb5 g5 D5.cl (by omega)
  have l5b : b < H5.length := by omega
  obtain ⟨t6, eb6, g6, z6⟩ := D6.box l5b
  obtain ⟨dw, tw⟩ := Wv.tree w2
  have u6 : undL H6.length [.int k, v2, v3, .str w, .str w5, v6] = true := by
    have a2 : v2.und H6.length = true := w2.und
    have a3 : v3.und H6.length = true := by
      have := f3.is.und
      exact und_mono (by have := D6.le; omega) this
    have a6 : v6.und H6.length = true := f6.is.und
    simp only [undL, a2, a3, a6, Val.und, Bool.and_true]
  have c7 : Cl (H6 ++ [.lst [.int k, v2, v3, .str w, .str w5, v6]]) := D6.cl.app (undL_mono (Nat.le_succ _) u6)
  have tN := Tr.int hk
  have tS4 := Tr.str sh4 (by decide)
  have tS5 := Tr.str sh5 (by decide)
  have b4 : BW 4 ≤ 200000 := by decide
  have keep7 : ∀ (i : Nat) (o : Ob) (l : Hh), H6[i]? = some o → (H6 ++ l)[i]? = some o := fun i o l e => by rw [List.getElem?_append_left (List.getElem?_eq_some_iff.mp e).1]; exact e
  have ch : Ch H6.length (b + 1) (H6 ++ [.lst [.int k, v2, v3, .str w, .str w5, v6]]) [.int k, v2, v3, .str w, .str w5, v6] := by
    refine ⟨b + 1, _, Nat.le_refl _, tN.fit (by decide) (by decide), tN.frr _ _ _, b + 1, _, Nat.le_refl _, tw.fit (by decide) b4, tw.frr _ _ _, ?_⟩
    refine ⟨H5.length, d3, by omega, bd3.fit (by decide), fun h2 a => f3 h2 fun i o hi e => ?_, ?_⟩
    · have hi3 := (List.getElem?_eq_some_iff.mp e).1
      exact a i o (by omega) (by omega) (keep7 _ _ _ (D6.keep (by omega) (k5 i o (by omega) e)))
    refine ⟨H5.length, _, Nat.le_refl _, tS4.fit (by decide) (by decide), tS4.frr _ _ _, H5.length, _, Nat.le_refl _, tS5.fit (by decide) (by decide), tS5.frr _ _ _, ?_⟩
    refine ⟨H6.length, d6, D6.le, bd6.fit (by decide), fun h2 a => f6 h2 fun i o hi e => ?_, Nat.le_refl _⟩
    have hi6 := (List.getElem?_eq_some_iff.mp e).1
    exact a i o (by omega) (by omega) (keep7 _ _ _ e)
  obtain ⟨h', c5, c6, c8, c9, c10, eL, cL, lL⟩ := things_loop (n := H6.length) (b := b) (all := [.int k, v2, v3, .str w, .str w5, v6]) (a1 := some (.int (10 ^ 29))) (a2 := some (.int k)) (a3 := some v2) (a4 := some v3) (a5 := none) (a6 := none) (a7 := none) (a8 := none) (a9 := none)
    (Nat.lt_succ_self b) (keep7 _ _ _ eb6) g6 c7 (by simp only [List.length_cons, List.length_nil]; omega) (get_new rfl) ch
  refine ⟨_, call_rt ?_, cL.gc h.length (.bl true) ?_⟩
  · rw [right_form]
    refine (seq_nx (e1 := [some (.loc b), some (.int (10 ^ 29)), none, none, none, none, none, none, none, none]) (set_ok e_pow29)).trans ?_
    refine (seq_nx (e1 := [some (.loc b), some (.int (10 ^ 29)), some (.int k), none, none, none, none, none, none, none]) (set_ok e1)).trans ?_
    refine (seq_nx (e1 := [some (.loc b), some (.int (10 ^ 29)), some (.int k), some v2, none, none, none, none, none, none]) (h1 := H2) (set_ok (v := v2) ?_)).trans ?_
    · have e2' : f__law_worth 12 [.loc b, .int 4] h1 = .ok v2 H2 := e2
      simp only [callF, sSeq, sSet, sRet, sRetN, sIf, sExpr, sNil, sPar, xCall, xNil, xCons, xC, xVar, xBin, xUn, xTest, xTru, xAndT, xOrT, xNotT, xAndV, xOrV, xNotV, xIf, xChain, xTup, xLst, xCallN, xMeth, Res.bind_ok, Res.bind_exc, Res.of_some, List.map_cons, List.map_nil, List.length_cons, List.length_nil, List.replicate_succ, List.replicate_zero, Nat.reduceSub, Nat.reduceAdd, Nat.reduceMul, Nat.reduceLeDiff, Nat.reduceEqDiff, Nat.zero_add, Nat.sub_self, List.cons_append, List.nil_append, List.getElem?_cons_zero, List.getElem?_cons_succ, List.set_cons_zero, List.set_cons_succ, if_true, if_false, reduceIte, reduceCtorEq, Bool.not_true, Bool.not_false, Bool.false_eq_true, decide_true, decide_false, Option.map_some, e2']
    refine (seq_nx (e1 := [some (.loc b), some (.int (10 ^ 29)), some (.int k), some v2, some v3, none, none, none, none, none]) (h1 := H3) (set_ok (v := v3) ?_)).trans ?_
    · simp only [callF, sSeq, sSet, sRet, sRetN, sIf, sExpr, sNil, sPar, xCall, xNil, xCons, xC, xVar, xBin, xUn, xTest, xTru, xAndT, xOrT, xNotT, xAndV, xOrV, xNotV, xIf, xChain, xTup, xLst, xCallN, xMeth, Res.bind_ok, Res.bind_exc, Res.of_some, List.map_cons, List.map_nil, List.length_cons, List.length_nil, List.replicate_succ, List.replicate_zero, Nat.reduceSub, Nat.reduceAdd, Nat.reduceMul, Nat.reduceLeDiff, Nat.reduceEqDiff, Nat.zero_add, Nat.sub_self, List.cons_append, List.nil_append, List.getElem?_cons_zero, List.getElem?_cons_succ, List.set_cons_zero, List.set_cons_succ, if_true, if_false, reduceIte, reduceCtorEq, Bool.not_true, Bool.not_false, Bool.false_eq_true, decide_true, decide_false, Option.map_some, e3]
    refine (seq_nx (e1 := [some (.loc b), some (.int (10 ^ 29)), some (.int k), some v2, some v3, c5, c6, c8, c9, c10]) (h1 := h') ?_).trans rfl
    have x1 : xIter XL1 [some (.loc b), some (.int (10 ^ 29)), some (.int k), some v2, some v3, none, none, none, none, none] H3 = .ok (.live H6.length [.int k, v2, v3, .str w, .str w5, v6]) (H6 ++ [.lst [.int k, v2, v3, .str w, .str w5, v6]]) := by
      have sz : (6 ≤ sizeLine) = True := by rw [sizeLine_eq]; simp
      have gN : (H6 ++ [Ob.lst [.int k, v2, v3, .str w, .str w5, v6]])[H6.length]? = some (.lst [.int k, v2, v3, .str w, .str w5, v6]) := get_new rfl
      simp only [xIter, XL1, callF, sSeq, sSet, sRet, sRetN, sIf, sExpr, sNil, sPar, xCall, xNil, xCons, xC, xVar, xBin, xUn, xTest, xTru, xAndT, xOrT, xNotT, xAndV, xOrV, xNotV, xIf, xChain, xTup, xLst, xCallN, xMeth, Res.bind_ok, Res.bind_exc, Res.of_some, List.map_cons, List.map_nil, List.length_cons, List.length_nil, List.replicate_succ, List.replicate_zero, Nat.reduceSub, Nat.reduceAdd, Nat.reduceMul, Nat.reduceLeDiff, Nat.reduceEqDiff, Nat.zero_add, Nat.sub_self, List.cons_append, List.nil_append, List.getElem?_cons_zero, List.getElem?_cons_succ, List.set_cons_zero, List.set_cons_succ, if_true, if_false, reduceIte, reduceCtorEq, Bool.not_true, Bool.not_false, Bool.false_eq_true, decide_true, decide_false, Option.map_some, e4, e5, e6, sz, itOf, gN]
    unfold sFor
    rw [x1]
    exact eL
  · rw [lL, List.length_append]
    have := d2.le; have := D3.le; have := D6.le
    omega
end K

set_option Elab.async false
set_option linter.all false
set_option maxRecDepth 100000
set_option maxHeartbeats 4000000
namespace K
open PySem L2 EX
theorem oMax2 (i j : Int) (g : Hh) : oMax [.int i, .int j] g = some (.int (max i j), g) := by
  have : (if j > i then j else i) = max i j := by split <;> omega
  unfold oMax
  simp only [this]
theorem oMin2 (i j : Int) (g : Hh) : oMin [.int i, .int j] g = some (.int (min i j), g) := by
  have : (if j < i then j else i) = min i j := by split <;> omega
  unfold oMin
  simp only [this]
theorem cell_eq {ns : List Int} {k : Nat} {h : Hh} (hn : ns.length ≤ 63) (hk : k < 13) : ∃ c : Int, f__law_cell [.scr (ns.map Val.int), .int k] h = .ok (.int c) h := by
  have ll : oLen [.scr (ns.map Val.int)] h = some (.int ns.length, h) := by
    unfold oLen vLen
    simp
  have lt : ∀ g : Hh, oLt (.int k) (.int ns.length) g = some (.bl (decide ((k : Int) < ns.length)), g) := fun g => rfl
  by_cases hc : k < ns.length
  · have q : decide ((k : Int) < (ns.length : Int)) = true := decide_eq_true (by omega)
    refine ⟨ns[k], ?_⟩
    have e : oIx (.scr (ns.map Val.int)) (.int k) h = some (.int ns[k], h) := by
      have : atI (ns.map Val.int) (k : Int) = some (.int ns[k]) := by
        unfold atI ixN
        rw [if_pos (by omega), if_pos (by rw [List.length_map]; omega)]
        simp [List.getElem?_eq_getElem hc]
      unfold oIx
      simp only [this, Option.map_some]
    simp only [f__law_cell, x__law_cell, callF, sSeq, sSet, sRet, sRetN, sIf, sExpr, sNil, sPar, xCall, xNil, xCons, xC, xVar, xBin, xUn, xTest, xTru, xAndT, xOrT, xNotT, xAndV, xOrV, xNotV, xIf, xChain, xTup, xLst, xCallN, xMeth, Res.bind_ok, Res.bind_exc, Res.of_some, List.map_cons, List.map_nil, List.length_cons, List.length_nil, List.replicate_succ, List.replicate_zero, Nat.reduceSub, Nat.reduceAdd, Nat.reduceMul, Nat.reduceLeDiff, Nat.reduceEqDiff, Nat.zero_add, Nat.sub_self, List.cons_append, List.nil_append, List.getElem?_cons_zero, List.getElem?_cons_succ, List.set_cons_zero, List.set_cons_succ, if_true, if_false, reduceIte, reduceCtorEq, Bool.not_true, Bool.not_false, Bool.false_eq_true, decide_true, decide_false, Option.map_some, ll, lt, q, e, gc_self]
  · have q : decide ((k : Int) < (ns.length : Int)) = false := decide_eq_false (by omega)
    refine ⟨7919 * k + 41, ?_⟩
    have mu : ∀ g : Hh, oMul2 (.int 7919) (.int k) g = some (.int (7919 * k), g) := fun g => by
      unfold oMul2 oMul
      simp
    have ad : ∀ g : Hh, oAdd (.int (7919 * k)) (.int 41) g = some (.int (7919 * k + 41), g) := fun g => rfl
    simp only [f__law_cell, x__law_cell, callF, sSeq, sSet, sRet, sRetN, sIf, sExpr, sNil, sPar, xCall, xNil, xCons, xC, xVar, xBin, xUn, xTest, xTru, xAndT, xOrT, xNotT, xAndV, xOrV, xNotV, xIf, xChain, xTup, xLst, xCallN, xMeth, Res.bind_ok, Res.bind_exc, Res.of_some, List.map_cons, List.map_nil, List.length_cons, List.length_nil, List.replicate_succ, List.replicate_zero, Nat.reduceSub, Nat.reduceAdd, Nat.reduceMul, Nat.reduceLeDiff, Nat.reduceEqDiff, Nat.zero_add, Nat.sub_self, List.cons_append, List.nil_append, List.getElem?_cons_zero, List.getElem?_cons_succ, List.set_cons_zero, List.set_cons_succ, if_true, if_false, reduceIte, reduceCtorEq, Bool.not_true, Bool.not_false, Bool.false_eq_true, decide_true, decide_false, Option.map_some, ll, lt, q, mu, ad, gc_self]
theorem box_eq {c : Int} {h : Hh} : ∃ s, f__law_box [.int c] h = .ok (.loc h.length) (h ++ [box s]) ∧ Gd s ∧ s.z ≤ 0 := by
  refine ⟨⟨max 0 (c - 10 ^ 18), c % 2147483629, 0⟩, ?_, ⟨Int.le_max_left _ _, Int.emod_nonneg _ (by decide), Int.emod_lt_of_pos _ (by decide), Int.le_refl _⟩, Int.le_refl _⟩
  have pw : ∀ g : Hh, oPow (.int 10) (.int 18) g = some (.int (10 ^ 18), g) := fun g => rfl
  have sb : ∀ g : Hh, oSub (.int c) (.int (10 ^ 18)) g = some (.int (c - 10 ^ 18), g) := fun g => rfl
  have mx : ∀ g : Hh, oMax [.int 0, .int (c - 10 ^ 18)] g = some (.int (max 0 (c - 10 ^ 18)), g) := fun g => by
    exact oMax2 _ _ _
  have md : ∀ g : Hh, oMod (.int c) (.int 2147483629) g = some (.int (c % 2147483629), g) := fun g => by
    unfold oMod; simp
  have sz : (3 ≤ sizeLine) = True := by rw [sizeLine_eq]; simp
  have gN : gc h.length (.loc h.length) (h ++ [box ⟨max 0 (c - 10 ^ 18), c % 2147483629, 0⟩]) = h ++ [box ⟨max 0 (c - 10 ^ 18), c % 2147483629, 0⟩] := by
    unfold gc
    rw [if_neg]
    rintro ⟨a, _⟩
    simp [Val.und] at a
  simp only [f__law_box, x__law_box, callF, sSeq, sSet, sRet, sRetN, sIf, sExpr, sNil, sPar, xCall, xNil, xCons, xC, xVar, xBin, xUn, xTest, xTru, xAndT, xOrT, xNotT, xAndV, xOrV, xNotV, xIf, xChain, xTup, xLst, xCallN, xMeth, Res.bind_ok, Res.bind_exc, Res.of_some, List.map_cons, List.map_nil, List.length_cons, List.length_nil, List.replicate_succ, List.replicate_zero, Nat.reduceSub, Nat.reduceAdd, Nat.reduceMul, Nat.reduceLeDiff, Nat.reduceEqDiff, Nat.zero_add, Nat.sub_self, List.cons_append, List.nil_append, List.getElem?_cons_zero, List.getElem?_cons_succ, List.set_cons_zero, List.set_cons_succ, if_true, if_false, reduceIte, reduceCtorEq, Bool.not_true, Bool.not_false, Bool.false_eq_true, decide_true, decide_false, Option.map_some, pw, sb, mx, md, sz]
  rw [← gN]; rfl
noncomputable def XK : XS := (sIf (xNotT (xTru (xCall 1 f__law_right (xCons (xCall 1 f__law_box (xCons (xCall 2 f__law_cell (xCons (xVar 0) (xCons (xVar 1) (xNil)))) (xNil))) (xNil))))) (sRet (xC (.bl false))) (sNil))
theorem step_sp {ns : List Int} {k : Nat} {h : Hh} (hn : ns.length ≤ 63) (hk : k < 13) (c : Cl h) : ∃ h', XK [some (.scr (ns.map Val.int)), some (.int k)] h = .nx [some (.scr (ns.map Val.int)), some (.int k)] h' ∧ Cl h' := by
  obtain ⟨cc, e1⟩ := cell_eq (h := h) hn hk
  obtain ⟨s, e2, g, z⟩ := box_eq (c := cc) (h := h)
  obtain ⟨h', e3, c3⟩ := right_sp (h := h ++ [box s]) (b := h.length) (s := s) (get_new rfl) g (c.app (und_box _ s)) z
  refine ⟨h', ?_, c3⟩
  simp only [XK, callF, sSeq, sSet, sRet, sRetN, sIf, sExpr, sNil, sPar, xCall, xNil, xCons, xC, xVar, xBin, xUn, xTest, xTru, xAndT, xOrT, xNotT, xAndV, xOrV, xNotV, xIf, xChain, xTup, xLst, xCallN, xMeth, Res.bind_ok, Res.bind_exc, Res.of_some, List.map_cons, List.map_nil, List.length_cons, List.length_nil, List.replicate_succ, List.replicate_zero, Nat.reduceSub, Nat.reduceAdd, Nat.reduceMul, Nat.reduceLeDiff, Nat.reduceEqDiff, Nat.zero_add, Nat.sub_self, List.cons_append, List.nil_append, List.getElem?_cons_zero, List.getElem?_cons_succ, List.set_cons_zero, List.set_cons_succ, if_true, if_false, reduceIte, reduceCtorEq, Bool.not_true, Bool.not_false, Bool.false_eq_true, decide_true, decide_false, Option.map_some, e1, e2, e3, truth]
theorem steps_sp {ns xs : List Int} (hn : ns.length ≤ 63) (all : List Val) : ∀ (ks : List Nat) (h : Hh) (a : Option Val), (∀ k ∈ ks, k < 13) → Cl h → ∃ h' a', forLoop (.items all) (.name 1) XK (ks.map fun (k : Nat) => Val.int ((0 : Int) + k)) [some (.scr (ns.map Val.int)), a] h = .nx [some (.scr (ns.map Val.int)), a'] h' ∧ Cl h'
  | [], h, a, _, c => ⟨h, a, by simp [forLoop, Itn.okAt], c⟩
  | k :: ks, h, a, hk, c => by
    obtain ⟨h1, e1, c1⟩ := step_sp hn (hk k (.head _)) c
    obtain ⟨h2, a2, e2, c2⟩ := steps_sp (xs := xs) hn all ks h1 (some (.int k)) (fun j m => hk j (.tail _ m)) c1
    refine ⟨h2, a2, ?_, c2⟩
    rw [List.map_cons]
    unfold forLoop
    have pt : Tg.put (.name 1) (Val.int ((0 : Int) + k)) [some (.scr (ns.map Val.int)), a] = some [some (.scr (ns.map Val.int)), some (.int k)] := by simp [Tg.put]
    have ok : (Itn.items all).okAt h := trivial
    rw [if_pos ok, pt]
    simp only [e1]
    exact e2
noncomputable def XRg : XI := xRange1 (xCallN oMax (xCons (xC (.int 3)) (xCons (xCallN oMin (xCons (xC (.int 12)) (xCons (xCallN oLen (xCons (xVar 0) (xNil))) (xNil)))) (xNil))))
theorem law_form : x_law = sSeq (sFor XRg (.name 1) XK) (sRet (xC (.bl true))) := rfl
theorem len_scr {ns : List Int} (h : Hh) : oLen [.scr (ns.map Val.int)] h = some (.int ns.length, h) := by
  unfold oLen vLen
  simp
theorem ea_eq {ns : List Int} : (xCallN oMax (xCons (xC (.int 3)) (xCons (xCallN oMin (xCons (xC (.int 12)) (xCons (xCallN oLen (xCons (xVar 0) (xNil))) (xNil)))) (xNil)))) [some (.scr (ns.map Val.int)), none] [] = .ok (.int (max 3 (min 12 (ns.length : Int)))) [] := by
  simp only [xCallN, xCons, xC, xNil, xVar, Res.bind_ok, List.getElem?_cons_zero, len_scr, Res.of_some, oMin2, oMax2]
theorem rg_ok {a : XE} {e : En} {h h1 : Hh} {m : Int} (ea : a e h = .ok (.int m) h1) (h0 : 0 ≤ m) (h2 : m ≤ 1000) : xRange1 a e h = .ok (.items ((List.range m.toNat).map fun (k : Nat) => Val.int ((0 : Int) + k))) h1 := by
  unfold xRange1
  rw [ea]
  have c : -(2 ^ 62) ≤ m ∧ m < 2 ^ 62 := by omega
  simp only [Res.bind_ok, c, and_self, if_true]
theorem range_eq {ns : List Int} : ∃ q : Nat, q ≤ 12 ∧ XRg [some (.scr (ns.map Val.int)), none] [] = .ok (.items ((List.range q).map fun (k : Nat) => Val.int ((0 : Int) + k))) [] :=
  ⟨(max 3 (min 12 (ns.length : Int))).toNat, by omega, rg_ok ea_eq (by omega) (by omega)⟩
theorem law_eq (ns : List Int) (hn : ns.length ≤ 63) : ∃ h', f_law [.scr (ns.map Val.int)] [] = .ok (.bl true) h' := by
  obtain ⟨q, q1, rg⟩ := range_eq (ns := ns)
  have c0 : Cl [] := rfl
  obtain ⟨h', a', e, c⟩ := steps_sp (ns := ns) (xs := []) hn ((List.range q).map fun (k : Nat) => Val.int ((0 : Int) + k)) (List.range q) [] none (fun k mk => by have := List.mem_range.mp mk; omega) c0
  refine ⟨gc ([] : Hh).length (.bl true) h', ?_⟩
  unfold f_law
  refine call_rt (v := .bl true) (h1 := h') ?_
  rw [law_form]
  refine (seq_nx (e1 := [some (.scr (ns.map Val.int)), a']) (h1 := h') ?_).trans (ret_ok rfl)
  have en : (List.map some [Val.scr (ns.map Val.int)] ++ List.replicate (2 - [Val.scr (ns.map Val.int)].length) none) = [some (.scr (ns.map Val.int)), none] := rfl
  rw [en]
  unfold sFor
  rw [rg]
  exact e
end K

set_option Elab.async false
set_option linter.all false
set_option maxRecDepth 100000
set_option maxHeartbeats 4000000
namespace K
open PySem PySem.Spec PyProof.Rows L2 EX
def dD_is_whole : He.DefD := ⟨("is_whole", none), "is_whole", "is_whole", defArgs s_is_whole, defBody s_is_whole, defScope s_is_whole, [], []⟩
def dD_is_name : He.DefD := ⟨("is_name", none), "is_name", "is_name", defArgs s_is_name, defBody s_is_name, defScope s_is_name, [], []⟩
def dD_is_text : He.DefD := ⟨("is_text", none), "is_text", "is_text", defArgs s_is_text, defBody s_is_text, defScope s_is_text, [], []⟩
def dD_is_number : He.DefD := ⟨("is_number", none), "is_number", "is_number", defArgs s_is_number, defBody s_is_number, defScope s_is_number, [], []⟩
def dD_is_pair : He.DefD := ⟨("is_pair", none), "is_pair", "is_pair", defArgs s_is_pair, defBody s_is_pair, defScope s_is_pair, [], []⟩
def dD_is_thing : He.DefD := ⟨("is_thing", none), "is_thing", "is_thing", defArgs s_is_thing, defBody s_is_thing, defScope s_is_thing, [], []⟩
def dD_is_worth_within : He.DefD := ⟨("is_worth_within", none), "is_worth_within", "is_worth_within", defArgs s_is_worth_within, defBody s_is_worth_within, defScope s_is_worth_within, [], []⟩
def dD_is_worth : He.DefD := ⟨("is_worth", none), "is_worth", "is_worth", defArgs s_is_worth, defBody s_is_worth, defScope s_is_worth, [], []⟩
def dD_need_worth : He.DefD := ⟨("need_worth", none), "need_worth", "need_worth", defArgs s_need_worth, defBody s_need_worth, defScope s_need_worth, [], []⟩
def dD_says_yes : He.DefD := ⟨("says_yes", none), "says_yes", "says_yes", defArgs s_says_yes, defBody s_says_yes, defScope s_says_yes, [], []⟩
def dD__law_cell : He.DefD := ⟨("_law_cell", none), "_law_cell", "_law_cell", defArgs s__law_cell, defBody s__law_cell, defScope s__law_cell, [], []⟩
def dD__law_box : He.DefD := ⟨("_law_box", none), "_law_box", "_law_box", defArgs s__law_box, defBody s__law_box, defScope s__law_box, [], []⟩
def dD__law_take : He.DefD := ⟨("_law_take", none), "_law_take", "_law_take", defArgs s__law_take, defBody s__law_take, defScope s__law_take, [], []⟩
def dD__law_signs : He.DefD := ⟨("_law_signs", none), "_law_signs", "_law_signs", defArgs s__law_signs, defBody s__law_signs, defScope s__law_signs, [], []⟩
def dD__law_text : He.DefD := ⟨("_law_text", none), "_law_text", "_law_text", defArgs s__law_text, defBody s__law_text, defScope s__law_text, [], []⟩
def dD__law_worth : He.DefD := ⟨("_law_worth", none), "_law_worth", "_law_worth", defArgs s__law_worth, defBody s__law_worth, defScope s__law_worth, [], []⟩
def dD__law_deep : He.DefD := ⟨("_law_deep", none), "_law_deep", "_law_deep", defArgs s__law_deep, defBody s__law_deep, defScope s__law_deep, [], []⟩
def dD__law_bent : He.DefD := ⟨("_law_bent", none), "_law_bent", "_law_bent", defArgs s__law_bent, defBody s__law_bent, defScope s__law_bent, [], []⟩
def dD__law_is_text : He.DefD := ⟨("_law_is_text", none), "_law_is_text", "_law_is_text", defArgs s__law_is_text, defBody s__law_is_text, defScope s__law_is_text, [], []⟩
def dD__law_is_number : He.DefD := ⟨("_law_is_number", none), "_law_is_number", "_law_is_number", defArgs s__law_is_number, defBody s__law_is_number, defScope s__law_is_number, [], []⟩
def dD__law_is_worth : He.DefD := ⟨("_law_is_worth", none), "_law_is_worth", "_law_is_worth", defArgs s__law_is_worth, defBody s__law_is_worth, defScope s__law_is_worth, [], []⟩
def dD__law_same : He.DefD := ⟨("_law_same", none), "_law_same", "_law_same", defArgs s__law_same, defBody s__law_same, defScope s__law_same, [], []⟩
def dD__law_name : He.DefD := ⟨("_law_name", none), "_law_name", "_law_name", defArgs s__law_name, defBody s__law_name, defScope s__law_name, [], []⟩
def dD__law_is_name : He.DefD := ⟨("_law_is_name", none), "_law_is_name", "_law_is_name", defArgs s__law_is_name, defBody s__law_is_name, defScope s__law_is_name, [], []⟩
def dD__law_bound : He.DefD := ⟨("_law_bound", none), "_law_bound", "_law_bound", defArgs s__law_bound, defBody s__law_bound, defScope s__law_bound, [], []⟩
def dD__law_yes_right : He.DefD := ⟨("_law_yes_right", none), "_law_yes_right", "_law_yes_right", defArgs s__law_yes_right, defBody s__law_yes_right, defScope s__law_yes_right, [], []⟩
def dD__law_right : He.DefD := ⟨("_law_right", none), "_law_right", "_law_right", defArgs s__law_right, defBody s__law_right, defScope s__law_right, [], []⟩
def dD_law : He.DefD := ⟨("law", none), "law", "law", defArgs s_law, defBody s_law, defScope s_law, [], []⟩
def dI_NoWorth : He.DefD := ⟨("NoWorth", some "__init__"), "__init__", "NoWorth.__init__", defArgs s_NoWorth, defBody s_NoWorth, defScope s_NoWorth, [], []⟩
def fn_0 : List He.DefD := [dD_is_whole, dD_is_name, dD_is_text, dD_is_number, dD_is_pair, dD_is_thing, dD_is_worth_within, dD_is_worth, dD_need_worth, dD_says_yes, dD__law_cell, dD__law_box, dD__law_take, dD__law_signs, dD__law_text, dD__law_worth, dD__law_deep, dD__law_bent, dD__law_is_text, dD__law_is_number, dD__law_is_worth, dD__law_same, dD__law_name, dD__law_is_name, dD__law_bound, dD__law_yes_right, dD__law_right, dD_law, dI_NoWorth]
def fn : List He.DefD := fn_0
def fa_0 : List He.Fa := [.glo "is_whole", .glo "is_name", .glo "is_text", .glo "is_number", .glo "is_pair", .glo "is_thing", .glo "is_worth_within", .glo "is_worth", .glo "need_worth", .glo "says_yes", .glo "_law_cell", .glo "_law_box", .glo "_law_take", .glo "_law_signs", .glo "_law_text", .glo "_law_worth", .glo "_law_deep", .glo "_law_bent", .glo "_law_is_text", .glo "_law_is_number", .glo "_law_is_worth", .glo "_law_same", .glo "_law_name", .glo "_law_is_name", .glo "_law_bound", .glo "_law_yes_right", .glo "_law_right", .glo "law", .glo "Barred", .glo "InnerError"]
def fa_1 : List He.Fa := [.glo "NoWorth", .free "all", .free "bool", .free "dict", .free "int", .free "isinstance", .free "len", .free "list", .free "max", .free "min", .free "ord", .free "range", .free "repr", .free "str", .free "tuple", .str "LETTERS" "abcdefghijklmnopqrstuvwxyz", .int "MOST_DEEP" 4, .int "MOST_NAME" 8, .int "MOST_NUMBER" 1000000000, .int "MOST_PARTS" 30, .int "MOST_SIGNS" 60, .int "MOST_THING" 999, .glo "NO_NAMES", .int "PER_CENT" 37, .int "QUOTE" 39]
def fa : List He.Fa := fa_0 ++ (fa_1)
def ex (K : PySem.W.Frag) : Bool := smB K && (ctB K ct ["NoWorth", "InnerError", "Barred"] [] ["found"] && (He.tupB K "NO_NAMES" [.str "me", .str "here", .str "none"] && (clsFB K "NoWorth" ["found"] && (baseB K (He.ga K "InnerError")))))
def loose_0 : List Str := ["InnerError", "Barred", "NoWorth", "MOST_NUMBER", "MOST_THING", "MOST_SIGNS", "MOST_PARTS", "MOST_DEEP", "MOST_NAME", "PER_CENT", "QUOTE", "LETTERS", "NO_NAMES", "is_whole", "is_name", "is_text", "is_number", "is_pair", "is_thing", "is_worth_within", "is_worth", "need_worth", "says_yes", "_law_cell", "_law_box", "_law_take", "_law_signs", "_law_text", "_law_worth", "_law_deep"]
def loose_1 : List Str := ["_law_bent", "_law_is_text", "_law_is_number", "_law_is_worth", "_law_same", "_law_name", "_law_is_name", "_law_bound", "_law_yes_right", "_law_right"]
def loose : List Str := loose_0 ++ (loose_1)
abbrev R : PySem.W.OpenRow := PySem.W.OpenLaw.row PySem.Challenge.rw_innerlook_k01_kinds_of_any_thing
abbrev hk : PySem.W.Hook := hookE 5 fa fn ex
def ob (s : PySem.W.SharedT) : He.AlD × Bool := obsE 5 fa fn ex (HandSHeadRun.getT s)
theorem ob_eq (s : PySem.W.SharedT) : ob s = hk.obs s.abs := obsE_eq (HandSHeadRun.getT_eq s)
theorem run (w : World) : HandSHeadRun.RunEq R (PySem.W.view R.prog [43]) hk ob 3000 loose w := by
  intro os
  kernel_rfl
theorem facts {K : PySem.W.Frag} {h : Heap} {mg : Str → Option Value} (X : K.In h) (G : h.Ns mainGlobals mg) (c : He.SaysD fa fn K) (e : _root_.K.ex K = true) : ∃ fd : Str → FuncData, Facts K mg fd := by
  obtain ⟨fd0, F0⟩ := c.def_ 0 (d := dD_is_whole) rfl
  obtain ⟨fd1, F1⟩ := c.def_ 1 (d := dD_is_name) rfl
  obtain ⟨fd2, F2⟩ := c.def_ 2 (d := dD_is_text) rfl
  obtain ⟨fd3, F3⟩ := c.def_ 3 (d := dD_is_number) rfl
  obtain ⟨fd4, F4⟩ := c.def_ 4 (d := dD_is_pair) rfl
  obtain ⟨fd5, F5⟩ := c.def_ 5 (d := dD_is_thing) rfl
  obtain ⟨fd6, F6⟩ := c.def_ 6 (d := dD_is_worth_within) rfl
  obtain ⟨fd7, F7⟩ := c.def_ 7 (d := dD_is_worth) rfl
  obtain ⟨fd8, F8⟩ := c.def_ 8 (d := dD_need_worth) rfl
  obtain ⟨fd9, F9⟩ := c.def_ 9 (d := dD_says_yes) rfl
  obtain ⟨fd10, F10⟩ := c.def_ 10 (d := dD__law_cell) rfl
  obtain ⟨fd11, F11⟩ := c.def_ 11 (d := dD__law_box) rfl
  obtain ⟨fd12, F12⟩ := c.def_ 12 (d := dD__law_take) rfl
  obtain ⟨fd13, F13⟩ := c.def_ 13 (d := dD__law_signs) rfl
  obtain ⟨fd14, F14⟩ := c.def_ 14 (d := dD__law_text) rfl
  obtain ⟨fd15, F15⟩ := c.def_ 15 (d := dD__law_worth) rfl
  obtain ⟨fd16, F16⟩ := c.def_ 16 (d := dD__law_deep) rfl
  obtain ⟨fd17, F17⟩ := c.def_ 17 (d := dD__law_bent) rfl
  obtain ⟨fd18, F18⟩ := c.def_ 18 (d := dD__law_is_text) rfl
  obtain ⟨fd19, F19⟩ := c.def_ 19 (d := dD__law_is_number) rfl
  obtain ⟨fd20, F20⟩ := c.def_ 20 (d := dD__law_is_worth) rfl
  obtain ⟨fd21, F21⟩ := c.def_ 21 (d := dD__law_same) rfl
  obtain ⟨fd22, F22⟩ := c.def_ 22 (d := dD__law_name) rfl
  obtain ⟨fd23, F23⟩ := c.def_ 23 (d := dD__law_is_name) rfl
  obtain ⟨fd24, F24⟩ := c.def_ 24 (d := dD__law_bound) rfl
  obtain ⟨fd25, F25⟩ := c.def_ 25 (d := dD__law_yes_right) rfl
  obtain ⟨fd26, F26⟩ := c.def_ 26 (d := dD__law_right) rfl
  obtain ⟨fd27, F27⟩ := c.def_ 27 (d := dD_law) rfl
  obtain ⟨fd28, F28⟩ := c.def_ 28 (d := dI_NoWorth) rfl
  obtain ⟨e0, e⟩ := He.ba e
  obtain ⟨e1, e⟩ := He.ba e
  obtain ⟨e2, e⟩ := He.ba e
  obtain ⟨e3, e⟩ := He.ba e
  have e4 := e
  let fd : Str → FuncData := fun x => (([("is_whole", fd0), ("is_name", fd1), ("is_text", fd2), ("is_number", fd3), ("is_pair", fd4), ("is_thing", fd5), ("is_worth_within", fd6), ("is_worth", fd7), ("need_worth", fd8), ("says_yes", fd9), ("_law_cell", fd10), ("_law_box", fd11), ("_law_take", fd12), ("_law_signs", fd13), ("_law_text", fd14), ("_law_worth", fd15), ("_law_deep", fd16), ("_law_bent", fd17), ("_law_is_text", fd18), ("_law_is_number", fd19), ("_law_is_worth", fd20), ("_law_same", fd21), ("_law_name", fd22), ("_law_is_name", fd23), ("_law_bound", fd24), ("_law_yes_right", fd25), ("_law_right", fd26), ("law", fd27), ("NoWorth.__init__", fd28)] : List (Str × FuncData)).lookup x).getD fd0
  refine ⟨fd, {
    d_is_whole := F0
    g_is_whole := He.glo_ok X G (c.fact 0 (f := .glo "is_whole") rfl)
    d_is_name := F1
    g_is_name := He.glo_ok X G (c.fact 1 (f := .glo "is_name") rfl)
    d_is_text := F2
    g_is_text := He.glo_ok X G (c.fact 2 (f := .glo "is_text") rfl)
    d_is_number := F3
    g_is_number := He.glo_ok X G (c.fact 3 (f := .glo "is_number") rfl)
    d_is_pair := F4
    g_is_pair := He.glo_ok X G (c.fact 4 (f := .glo "is_pair") rfl)
    d_is_thing := F5
    g_is_thing := He.glo_ok X G (c.fact 5 (f := .glo "is_thing") rfl)
    d_is_worth_within := F6
    g_is_worth_within := He.glo_ok X G (c.fact 6 (f := .glo "is_worth_within") rfl)
    d_is_worth := F7
    g_is_worth := He.glo_ok X G (c.fact 7 (f := .glo "is_worth") rfl)
    d_need_worth := F8
    g_need_worth := He.glo_ok X G (c.fact 8 (f := .glo "need_worth") rfl)
    d_says_yes := F9
    g_says_yes := He.glo_ok X G (c.fact 9 (f := .glo "says_yes") rfl)
    d__law_cell := F10
    g__law_cell := He.glo_ok X G (c.fact 10 (f := .glo "_law_cell") rfl)
    d__law_box := F11
    g__law_box := He.glo_ok X G (c.fact 11 (f := .glo "_law_box") rfl)
    d__law_take := F12
    g__law_take := He.glo_ok X G (c.fact 12 (f := .glo "_law_take") rfl)
    d__law_signs := F13
    g__law_signs := He.glo_ok X G (c.fact 13 (f := .glo "_law_signs") rfl)
    d__law_text := F14
    g__law_text := He.glo_ok X G (c.fact 14 (f := .glo "_law_text") rfl)
    d__law_worth := F15
    g__law_worth := He.glo_ok X G (c.fact 15 (f := .glo "_law_worth") rfl)
    d__law_deep := F16
    g__law_deep := He.glo_ok X G (c.fact 16 (f := .glo "_law_deep") rfl)
    d__law_bent := F17
    g__law_bent := He.glo_ok X G (c.fact 17 (f := .glo "_law_bent") rfl)
    d__law_is_text := F18
    g__law_is_text := He.glo_ok X G (c.fact 18 (f := .glo "_law_is_text") rfl)
    d__law_is_number := F19
    g__law_is_number := He.glo_ok X G (c.fact 19 (f := .glo "_law_is_number") rfl)
    d__law_is_worth := F20
    g__law_is_worth := He.glo_ok X G (c.fact 20 (f := .glo "_law_is_worth") rfl)
    d__law_same := F21
    g__law_same := He.glo_ok X G (c.fact 21 (f := .glo "_law_same") rfl)
    d__law_name := F22
    g__law_name := He.glo_ok X G (c.fact 22 (f := .glo "_law_name") rfl)
    d__law_is_name := F23
    g__law_is_name := He.glo_ok X G (c.fact 23 (f := .glo "_law_is_name") rfl)
    d__law_bound := F24
    g__law_bound := He.glo_ok X G (c.fact 24 (f := .glo "_law_bound") rfl)
    d__law_yes_right := F25
    g__law_yes_right := He.glo_ok X G (c.fact 25 (f := .glo "_law_yes_right") rfl)
    d__law_right := F26
    g__law_right := He.glo_ok X G (c.fact 26 (f := .glo "_law_right") rfl)
    d_law := F27
    g_law := He.glo_ok X G (c.fact 27 (f := .glo "law") rfl)
    n_all := He.free_ok X G (c.fact 31 (f := .free "all") rfl)
    n_bool := He.free_ok X G (c.fact 32 (f := .free "bool") rfl)
    n_dict := He.free_ok X G (c.fact 33 (f := .free "dict") rfl)
    n_int := He.free_ok X G (c.fact 34 (f := .free "int") rfl)
    n_isinstance := He.free_ok X G (c.fact 35 (f := .free "isinstance") rfl)
    n_len := He.free_ok X G (c.fact 36 (f := .free "len") rfl)
    n_list := He.free_ok X G (c.fact 37 (f := .free "list") rfl)
    n_max := He.free_ok X G (c.fact 38 (f := .free "max") rfl)
    n_min := He.free_ok X G (c.fact 39 (f := .free "min") rfl)
    n_ord := He.free_ok X G (c.fact 40 (f := .free "ord") rfl)
    n_range := He.free_ok X G (c.fact 41 (f := .free "range") rfl)
    n_repr := He.free_ok X G (c.fact 42 (f := .free "repr") rfl)
    n_str := He.free_ok X G (c.fact 43 (f := .free "str") rfl)
    n_tuple := He.free_ok X G (c.fact 44 (f := .free "tuple") rfl)
    c_LETTERS := He.str_ok X G (c.fact 45 (f := .str "LETTERS" "abcdefghijklmnopqrstuvwxyz") rfl)
    c_MOST_DEEP := He.int_ok X G (c.fact 46 (f := .int "MOST_DEEP" 4) rfl)
    c_MOST_NAME := He.int_ok X G (c.fact 47 (f := .int "MOST_NAME" 8) rfl)
    c_MOST_NUMBER := He.int_ok X G (c.fact 48 (f := .int "MOST_NUMBER" 1000000000) rfl)
    c_MOST_PARTS := He.int_ok X G (c.fact 49 (f := .int "MOST_PARTS" 30) rfl)
    c_MOST_SIGNS := He.int_ok X G (c.fact 50 (f := .int "MOST_SIGNS" 60) rfl)
    c_MOST_THING := He.int_ok X G (c.fact 51 (f := .int "MOST_THING" 999) rfl)
    c_NO_NAMES := ⟨_, He.glo_ok X G (c.fact 52 (f := .glo "NO_NAMES") rfl), fun H => He.tupB_ok e2 H⟩
    c_PER_CENT := He.int_ok X G (c.fact 53 (f := .int "PER_CENT" 37) rfl)
    c_QUOTE := He.int_ok X G (c.fact 54 (f := .int "QUOTE" 39) rfl)
    sm := smB_ok e0
    g_Barred := He.glo_ok X G (c.fact 28 (f := .glo "Barred") rfl)
    g_InnerError := He.glo_ok X G (c.fact 29 (f := .glo "InnerError") rfl)
    g_NoWorth := He.glo_ok X G (c.fact 30 (f := .glo "NoWorth") rfl)
    ct := ctB_ok (db := []) e1 (fun q m => by simp only [_root_.K.ct, List.mem_cons, List.not_mem_nil, or_false] at m; rcases m with m | m | m <;> subst m <;> first | exact He.glo_ok X G (c.fact 28 (f := .glo "Barred") rfl) | exact He.glo_ok X G (c.fact 29 (f := .glo "InnerError") rfl) | exact He.glo_ok X G (c.fact 30 (f := .glo "NoWorth") rfl)) (fun q m => by simp only [List.mem_cons, List.not_mem_nil, or_false] at m; rcases m with m | m | m <;> subst m <;> first | exact He.glo_ok X G (c.fact 30 (f := .glo "NoWorth") rfl) | exact He.glo_ok X G (c.fact 29 (f := .glo "InnerError") rfl) | exact He.glo_ok X G (c.fact 28 (f := .glo "Barred") rfl)) (fun d m => by simp at m)
    x_NoWorth := clsFB_ok e3
    i_NoWorth := F28
    bs_InnerError := baseB_ok e4
  }⟩
theorem holds_of (hlaw : ∀ ns : List Int, ns.length ≤ 63 → ∃ h', f_law [.scr (ns.map Val.int)] [] = .ok (.bl true) h') : PySem.W.WalkO (PySem.W.view R.prog [43]) loose (PySem.W.XL (PySem.W.view R.prog [43]) []) hk.says R.toRowW (HandSHeadRun.topDef R.prog 43) [] (fun f vs => PySem.call f vs) := by
  refine walk_g (l := PySem.Challenge.rw_innerlook_k01_kinds_of_any_thing) (n := 63) (k := 21) (x := "_law_script") rfl (by decide) (by kernel_rfl) ⟨rfl, by decide, by decide⟩ ?F
  intro w mg fa h Y G hmg0
  obtain ⟨K, KX, c, e⟩ := Y
  have hmg : mg ("law" : PySem.Str) = some (.ref fa) := by
    have e : (HandSHeadRun.topDef R.prog 43).name = ("law" : PySem.Str) := by kernel_rfl
    rw [← e]
    exact hmg0
  obtain ⟨fd, T⟩ := facts KX G c e
  have ef := hmg.symm.trans T.g_law
  cases ef
  have b := FunD.bindsA (ps := ["_law_script"]) T.d_law fun _ _ _ _ _ _ us hl => match us, hl with | [_], _ => rfl
  exact ⟨K, fd "law", _, KX, fun s v => b s [v] rfl, fun H a ns hl hO hS => law_sp (K := ⟨K, mg, w⟩) (hlaw ns hl) hO hS, fun base _ _ => ok_law T⟩
end K
open PySem PySem.W PySem.Calls PyProof.Rows
theorem holds (hlaw : ∀ ns : List Int, ns.length ≤ 63 → ∃ h', K.f_law [.scr (ns.map EX.Val.int)] [] = .ok (.bl true) h') : PySem.Challenge.rw_innerlook_k01_kinds_of_any_thing.Holds := by
  w_on; o_law
  refine HandSHeadRun.head_any (r := OpenLaw.row PySem.Challenge.rw_innerlook_k01_kinds_of_any_thing) (q := view (OpenLaw.row PySem.Challenge.rw_innerlook_k01_kinds_of_any_thing).prog [43]) (H := K.hk) (ob := K.ob) (M := 3000) (loose := K.loose) (d := HandSHeadRun.topDef (OpenLaw.row PySem.Challenge.rw_innerlook_k01_kinds_of_any_thing).prog 43) (kwd := []) K.ob_eq
    (by kernel_rfl) (fun s => by kernel_rfl) K.run (by kernel_rfl) (by kernel_rfl) (by kernel_rfl) (by rfl) (by first | assumption | decide +kernel) (by decide +kernel) ⟨rfl, rfl, rfl, rfl, rfl, by decide +kernel⟩ ?hw ?hc
  case hw => w_witness2
  case hc => exact K.holds_of hlaw

set_option maxRecDepth 100000 in
set_option maxHeartbeats 8000000 in
theorem PySem.Challenge.cw_innerlook_k01_kinds_of_any_thing_holds : PySem.Challenge.rw_innerlook_k01_kinds_of_any_thing.Holds := by
  exact holds K.law_eq

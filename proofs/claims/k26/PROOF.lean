import PyProof.Rows.All
import Wide.All
import OpenK.AllK
import Wide.FinOn
import HandS.ForMost
import HandS.Wide
import HandS.Flow
import HandS.Exc
import HandS.ExcOwn
import HandS.CallSlots
import HandS.Defaults
import HandS.WordsExc
import HandS.TupAny
import HandS.TupLe
import HandS.TupMul
import HandS.IsInst
import HandS.Text
import HandS.Deep
import HandS.Conv
import HandS.Style
import PyProof.StrBlock2
import KE.KStateDown
import Lean
import HandS.Ends
import HandS.More
import HandS.Words
import HandS.Head0
import HandS.Head1
import HandS.Head2
import HandS.HeadEnd
import HandS.HeadHook1
import HandS.HeadHook2
import HandS.ExcInit
import HandS.ExcField
import HandS.ExcIs
import KE.KTryMore
import KE.KExcIs
import HandS.HeadHook4
import HandS.SetKeys
import HandS.Zip
import HandS.HeadHook3
import PySem.Challenge.RW_innerlook_k26_rules_by_form
set_option Elab.async false
set_option linter.all false
set_option maxRecDepth 100000
set_option maxHeartbeats 1000000
namespace EX
open PySem L2

/-- what is fixed: the written part, the module's names, the world -/
structure Gw where
  K : PySem.W.Frag
  mg : Str → Option Value
  w : World
abbrev gw (X : Cx) : Gw := ⟨X.K, X.mg, X.w⟩
inductive Val where
  | non
  | bl (b : Bool)
  | int (i : Int)
  | str (s : Str)
  | tup (xs : List Val)
  | scr (xs : List Val)
  | loc (n : Nat)
  | ref (x : Str)
  | ty (n : String)

inductive Ob where
  | lst (xs : List Val)
  | dct (kvs : List (Key × Val))
  | ins (C : Str) (fs : List (Str × Val))

abbrev Hh := List Ob
abbrev En := List (Option Val)

inductive Res (α : Type) where
  | ok (a : α) (h : Hh)
  | exc (c : Str) (fs : List (Str × Val)) (h : Hh)
  | stuck

def Res.bind {α β : Type} (r : Res α) (f : α → Hh → Res β) : Res β := match r with
  | .ok a h => f a h
  | .exc c fs h => .exc c fs h
  | .stuck => .stuck
@[simp] theorem Res.bind_ok {α β : Type} (a : α) (h : Hh) (f : α → Hh → Res β) : (Res.ok a h).bind f = f a h := rfl
@[simp] theorem Res.bind_exc {α β : Type} (c : Str) (fs : List (Str × Val)) (h : Hh) (f : α → Hh → Res β) : (Res.exc c fs h).bind f = .exc c fs h := rfl
@[simp] theorem Res.bind_stuck {α β : Type} (f : α → Hh → Res β) : (Res.stuck : Res α).bind f = .stuck := rfl

/-- an expression, an argument list, a test -/
abbrev XE := En → Hh → Res Val
abbrev XA := En → Hh → Res (List Val)
abbrev XT := En → Hh → Res Bool
/-- an operation on values: none where it is not served -/
abbrev Op1 := Val → Hh → Option (Val × Hh)
abbrev Op2 := Val → Val → Hh → Option (Val × Hh)
abbrev OpN := List Val → Hh → Option (Val × Hh)
def Res.of {α : Type} : Option (α × Hh) → Res α
  | some (a, h) => .ok a h
  | none => .stuck
@[simp] theorem Res.of_some {α : Type} (p : α × Hh) : Res.of (some p) = .ok p.1 p.2 := rfl
@[simp] theorem Res.of_none {α : Type} : Res.of (none : Option (α × Hh)) = .stuck := rfl

inductive RS where
  | nx (e : En) (h : Hh)
  | rt (v : Val) (h : Hh)
  | bk (e : En) (h : Hh)
  | ct (e : En) (h : Hh)
  | exc (c : Str) (fs : List (Str × Val)) (e : En) (h : Hh)
  | stuck
abbrev XS := En → Hh → RS

/-- in an except suite: the slot of its name, the exception's address, its dict's, its fields -/
structure Sx where
  slot : Nat
  a : Addr
  d : Option Addr
  fs : List (Str × Val)
/-- what is wished of exceptions; the suite one is in -/
structure Wd where
  w : WX
  s : Option Sx := none

/-! ### the relation to the abstract heap -/
structure Grow (ρ ρ' : List Addr) (H H' : Hp) : Prop where
  pre : ∃ m, ρ' = ρ ++ m
  xd : ∀ a fs, H a = some (.xd fs) → H' a = some (.xd fs)
  tup : ∀ a xs, H a = some (.tup xs) → H' a = some (.tup xs)
  frz : ∀ a o u, H a = some (.frz o u) → H' a = some (.frz o u)
theorem Grow.refl (ρ : List Addr) (H : Hp) : Grow ρ ρ H H := ⟨⟨[], by simp⟩, fun _ _ h => h, fun _ _ h => h, fun _ _ _ h => h⟩
theorem Grow.trans {ρ ρ1 ρ2 : List Addr} {H H1 H2 : Hp} (a : Grow ρ ρ1 H H1) (b : Grow ρ1 ρ2 H1 H2) : Grow ρ ρ2 H H2 := by
  obtain ⟨m, rfl⟩ := a.pre
  obtain ⟨n, rfl⟩ := b.pre
  exact ⟨⟨m ++ n, by rw [List.append_assoc]⟩, fun x xs h => b.xd _ _ (a.xd _ _ h), fun x xs h => b.tup _ _ (a.tup _ _ h), fun x o u h => b.frz _ _ _ (a.frz _ _ _ h)⟩

def RoS (K : PySem.W.Frag) (H : Hp) (a : Addr) (vs : List V) : Prop := (∃ o, H a = some (.frz o (.lst vs))) ∨
  ∃ (o : Obj) (its : Array Value) (n : Nat), K.lookup a = some o ∧ o.cls = .type "list" ∧ o.dict = none ∧ o.data = .seq its n ∧ its.size ≤ sizeLine ∧ Vals vs its.toList
theorem RoS.sql {K : PySem.W.Frag} {H : Hp} {a : Addr} {vs : List V} (h : RoS K H a vs) : SqL K H a vs := by
  rcases h with ⟨o, h⟩ | h
  · exact .inl (.inr ⟨o, h⟩)
  · exact .inr h

section
variable (K : Gw) (ρ : List Addr) (H : Hp)
mutual
inductive Rep : Val → V → Prop
  | non : Rep .non .non
  | bl (b : Bool) : Rep (.bl b) (.bl b)
  | int (i : Int) : Rep (.int i) (.int i)
  | str (s : Str) : Rep (.str s) (.str s)
  | tup {a : Addr} {xs : List Val} {vs : List V} : SqT K.K H a vs → RepL xs vs → Rep (.tup xs) (.ref a)
  | scr {a : Addr} {xs : List Val} {vs : List V} : RoS K.K H a vs → RepL xs vs → Rep (.scr xs) (.ref a)
  | loc {n : Nat} {a : Addr} : ρ[n]? = some a → Rep (.loc n) (.ref a)
  | ref {x : Str} {a : Addr} : K.mg x = some (.ref a) → Rep (.ref x) (.ref a)
  | ty (n : String) : Rep (.ty n) (.ty n)
inductive RepL : List Val → List V → Prop
  | nil : RepL [] []
  | cons {x : Val} {v : V} {xs : List Val} {vs : List V} : Rep x v → RepL xs vs → RepL (x :: xs) (v :: vs)
end
/-- fields, entries -/
def RepF {κ : Type} (fs : List (κ × Val)) (vs : List (κ × V)) : Prop := Paired (fun (p : κ × Val) (q : κ × V) => p.1 = q.1 ∧ Rep K ρ H p.2 q.2) fs vs

def ObR (a : Addr) : Ob → Prop
  | .lst xs => ∃ vs, H a = some (.lst vs) ∧ RepL K ρ H xs vs
  | .dct kvs => ∃ vs, H a = some (.dK vs) ∧ RepF K ρ H kvs vs
  | .ins C fs => ∃ Ca dx vs, K.mg C = some (.ref Ca) ∧ H a = some (.ins Ca dx vs) ∧ H dx = some (.own a) ∧ RepF K ρ H fs vs

structure Sim (h : Hh) : Prop where
  len : ρ.length = h.length
  nd : ρ.Nodup
  at_ : ∀ (n : Nat) (o : Ob), h[n]? = some o → ∃ a, ρ[n]? = some a ∧ ObR K ρ H a o

/-- the fields of an exception at its dict -/
def XcR (fs : List (Str × Val)) : Option Addr → Prop
  | none => fs = []
  | some d => ∃ vs, H d = some (.xd vs) ∧ RepF K ρ H fs vs
def EnvR (sx : Option Sx) (env : En) (σ : St) : Prop := env.length = σ.length ∧ (∀ (i : Nat) (x : Val), env[i]? = some (some x) → ∃ v, σ[i]? = some (some v) ∧ Rep K ρ H x v) ∧
  ∀ q, sx = some q → σ[q.slot]? = some (some (.ref q.a)) ∧ XcR K ρ H q.fs q.d
end

section
variable {K : Gw} {ρ ρ' : List Addr} {H H' : Hp}
theorem Grow.get {n : Nat} {a : Addr} (g : Grow ρ ρ' H H') (h : ρ[n]? = some a) : ρ'[n]? = some a := by
  obtain ⟨m, rfl⟩ := g.pre
  have hl := (List.getElem?_eq_some_iff.mp h).1
  rw [List.getElem?_append_left hl]
  exact h
theorem Grow.sqt {a : Addr} {xs : List V} (g : Grow ρ ρ' H H') (h : SqT K.K H a xs) : SqT K.K H' a xs := by
  rcases h with (h | ⟨o, h⟩) | h
  · exact .inl (.inl (g.tup _ _ h))
  · exact .inl (.inr ⟨o, g.frz _ _ _ h⟩)
  · exact .inr h
theorem Grow.ros {a : Addr} {xs : List V} (g : Grow ρ ρ' H H') (h : RoS K.K H a xs) : RoS K.K H' a xs := by
  rcases h with ⟨o, h⟩ | h
  · exact .inl ⟨o, g.frz _ _ _ h⟩
  · exact .inr h
mutual
theorem Rep.mono (g : Grow ρ ρ' H H') : ∀ {x : Val} {v : V}, Rep K ρ H x v → Rep K ρ' H' x v
  | _, _, .non => .non
  | _, _, .bl b => .bl b
  | _, _, .int i => .int i
  | _, _, .str s => .str s
  | _, _, .tup s r => .tup (g.sqt s) (RepL.mono g r)
  | _, _, .scr s r => .scr (g.ros s) (RepL.mono g r)
  | _, _, .loc e => .loc (g.get e)
  | _, _, .ref e => .ref e
  | _, _, .ty n => .ty n
theorem RepL.mono (g : Grow ρ ρ' H H') : ∀ {xs : List Val} {vs : List V}, RepL K ρ H xs vs → RepL K ρ' H' xs vs
  | _, _, .nil => .nil
  | _, _, .cons a b => .cons (Rep.mono g a) (RepL.mono g b)
end
theorem RepF.mono {κ : Type} (g : Grow ρ ρ' H H') {fs : List (κ × Val)} {vs : List (κ × V)} (h : RepF K ρ H fs vs) : RepF K ρ' H' fs vs :=
  Paired.mapP h fun _ _ z => ⟨z.1, z.2.mono g⟩
theorem XcR.mono {fs : List (Str × Val)} {d : Option Addr} (g : Grow ρ ρ' H H') (h : XcR K ρ H fs d) : XcR K ρ' H' fs d := by
  cases d with
  | none => exact h
  | some a => obtain ⟨vs, e, r⟩ := h; exact ⟨vs, g.xd _ _ e, r.mono g⟩
variable {sx : Option Sx}
theorem EnvR.mono {env : En} {σ : St} (g : Grow ρ ρ' H H') (h : EnvR K ρ H sx env σ) : EnvR K ρ' H' sx env σ :=
  ⟨h.1, fun i x e => let ⟨v, e1, r⟩ := h.2.1 i x e; ⟨v, e1, r.mono g⟩, fun q e => ⟨(h.2.2 q e).1, (h.2.2 q e).2.mono g⟩⟩
theorem EnvR.drop {env : En} {σ : St} (h : EnvR K ρ H sx env σ) : EnvR K ρ H none env σ := ⟨h.1, h.2.1, fun _ e => by cases e⟩
theorem EnvR.set {env : En} {σ : St} {x : Val} {v : V} (h : EnvR K ρ H sx env σ) (i : Nat) (r : Rep K ρ H x v) (hn : ∀ q, sx = some q → q.slot ≠ i) : EnvR K ρ H sx (env.set i (some x)) (σ.set i (some v)) := by
  refine ⟨by rw [List.length_set, List.length_set]; exact h.1, fun j y e => ?_, fun q e => ⟨by rw [List.getElem?_set_ne (Ne.symm (hn q e))]; exact (h.2.2 q e).1, (h.2.2 q e).2⟩⟩
  by_cases hj : i = j
  · subst hj
    by_cases hl : i < env.length
    · rw [List.getElem?_set_self hl] at e
      cases e
      exact ⟨v, List.getElem?_set_self (by rw [← h.1]; exact hl), r⟩
    · rw [List.getElem?_eq_none (by rw [List.length_set]; omega)] at e
      cases e
  · rw [List.getElem?_set_ne hj] at e
    rw [List.getElem?_set_ne hj]
    exact h.2.1 j y e
theorem EnvR.unset {env : En} {σ : St} (h : EnvR K ρ H none env σ) (i : Nat) (z : Option V) : EnvR K ρ H none (env.set i none) (σ.set i z) := by
  refine ⟨by rw [List.length_set, List.length_set]; exact h.1, fun j y e => ?_, fun _ e => by cases e⟩
  by_cases hj : i = j
  · subst hj
    by_cases hl : i < env.length
    · rw [List.getElem?_set_self hl] at e
      cases e
    · rw [List.getElem?_eq_none (by rw [List.length_set]; omega)] at e
      cases e
  · rw [List.getElem?_set_ne hj] at e
    rw [List.getElem?_set_ne hj]
    exact h.2.1 j y e
theorem RepL.length : ∀ {xs : List Val} {vs : List V}, RepL K ρ H xs vs → xs.length = vs.length
  | _, _, .nil => rfl
  | _, _, .cons _ b => by rw [List.length_cons, List.length_cons, RepL.length b]
theorem RepL.get : ∀ {xs : List Val} {vs : List V} {i : Nat} {x : Val}, RepL K ρ H xs vs → xs[i]? = some x → ∃ v, vs[i]? = some v ∧ Rep K ρ H x v
  | _, _, _, _, .nil, e => by simp at e
  | _, _, 0, _, .cons r _, e => by simp at e; subst e; exact ⟨_, rfl, r⟩
  | _, _, i + 1, x, .cons _ t, e => by
    obtain ⟨u, h1, h2⟩ := RepL.get (i := i) (x := x) t (by simpa using e)
    exact ⟨u, by simpa using h1, h2⟩
theorem RepL.getV : ∀ {xs : List Val} {vs : List V} {i : Nat} {v : V}, RepL K ρ H xs vs → vs[i]? = some v → ∃ x, xs[i]? = some x ∧ Rep K ρ H x v
  | _, _, _, _, .nil, e => by simp at e
  | _, _, 0, _, .cons r _, e => by simp at e; subst e; exact ⟨_, rfl, r⟩
  | _, _, i + 1, x, .cons _ t, e => by
    obtain ⟨u, h1, h2⟩ := RepL.getV (i := i) (v := x) t (by simpa using e)
    exact ⟨u, by simpa using h1, h2⟩
theorem RepL.append : ∀ {xs ys : List Val} {vs ws : List V}, RepL K ρ H xs vs → RepL K ρ H ys ws → RepL K ρ H (xs ++ ys) (vs ++ ws)
  | _, _, _, _, .nil, s => s
  | _, _, _, _, .cons r t, s => .cons r (RepL.append t s)
theorem RepL.take : ∀ {xs : List Val} {vs : List V} (n : Nat), RepL K ρ H xs vs → RepL K ρ H (xs.take n) (vs.take n)
  | _, _, 0, _ => .nil
  | _, _, _ + 1, .nil => .nil
  | _, _, n + 1, .cons r t => .cons r (RepL.take n t)
theorem RepL.drop : ∀ {xs : List Val} {vs : List V} (n : Nat), RepL K ρ H xs vs → RepL K ρ H (xs.drop n) (vs.drop n)
  | _, _, 0, r => r
  | _, _, _ + 1, .nil => .nil
  | _, _, n + 1, .cons _ t => RepL.drop n t
theorem RepL.set {x : Val} {v : V} (r : Rep K ρ H x v) : ∀ {xs : List Val} {vs : List V} (i : Nat), RepL K ρ H xs vs → RepL K ρ H (xs.set i x) (vs.set i v)
  | _, _, _, .nil => .nil
  | _, _, 0, .cons _ t => .cons r t
  | _, _, i + 1, .cons q t => .cons q (RepL.set r i t)
theorem RepL.reverse {xs : List Val} {vs : List V} (h : RepL K ρ H xs vs) : RepL K ρ H xs.reverse vs.reverse := by
  induction xs generalizing vs with
  | nil => cases h; exact .nil
  | cons x xs ih =>
    cases h with
    | cons r t =>
      rw [List.reverse_cons, List.reverse_cons]
      exact (ih t).append (.cons r .nil)

/-! ### the heap grows, changes -/
theorem ObR.mono {a : Addr} {o : Ob} (g : Grow ρ ρ' H H') (k : H' a = H a) (kd : ∀ d, H d = some (.own a) → H' d = some (.own a)) (h : ObR K ρ H a o) : ObR K ρ' H' a o := by
  cases o with
  | lst xs => obtain ⟨vs, e, r⟩ := h; exact ⟨vs, k.trans e, r.mono g⟩
  | dct kvs => obtain ⟨vs, e, r⟩ := h; exact ⟨vs, k.trans e, r.mono g⟩
  | ins C fs => obtain ⟨Ca, dx, vs, m, e, d, r⟩ := h; exact ⟨Ca, dx, vs, m, k.trans e, kd _ d, r.mono g⟩
theorem ObR.some {a : Addr} {o : Ob} (h : ObR K ρ H a o) : H a ≠ none := by
  cases o with
  | lst xs => obtain ⟨vs, e, r⟩ := h; rw [e]; simp
  | dct kvs => obtain ⟨vs, e, r⟩ := h; rw [e]; simp
  | ins C fs => obtain ⟨Ca, dx, vs, m, e, d, r⟩ := h; rw [e]; simp
theorem Sim.get {h : Hh} (S : Sim K ρ H h) {n : Nat} {a : Addr} (e : ρ[n]? = some a) : ∃ o, h[n]? = some o ∧ ObR K ρ H a o := by
  have hl := (List.getElem?_eq_some_iff.mp e).1
  have hl' : n < h.length := by rw [← S.len]; exact hl
  obtain ⟨b, e', r⟩ := S.at_ n _ (List.getElem?_eq_getElem hl')
  rw [e] at e'
  cases e'
  exact ⟨_, List.getElem?_eq_getElem hl', r⟩
theorem Sim.tracked {h : Hh} (S : Sim K ρ H h) {a : Addr} (m : a ∈ ρ) : H a ≠ none := by
  obtain ⟨n, hn⟩ := List.getElem?_of_mem m
  obtain ⟨o, _, r⟩ := S.get hn
  exact r.some
theorem Grow.new {p : Addr} {o : HO} (hp : H p = none) : Grow ρ ρ H (upd H p o) :=
  ⟨⟨[], by simp⟩, fun a xs h => by rw [upd_ne (ne_of_none h hp)]; exact h, fun a xs h => by rw [upd_ne (ne_of_none h hp)]; exact h, fun a o u h => by rw [upd_ne (ne_of_none h hp)]; exact h⟩
/-- a new untracked-by-us object (a tuple) -/
theorem Sim.new {h : Hh} {p : Addr} {o : HO} (S : Sim K ρ H h) (hp : H p = none) : Sim K ρ (upd H p o) h :=
  ⟨S.len, S.nd, fun n u e => let ⟨a, e1, r⟩ := S.at_ n u e
    ⟨a, e1, r.mono (Grow.new hp) (upd_ne (fun z => r.some (z ▸ hp))) fun d hd => by rw [upd_ne (ne_of_none hd hp)]; exact hd⟩⟩
theorem nodup_snoc {α : Type} {l : List α} {a : α} (h : l.Nodup) (n : a ∉ l) : (l ++ [a]).Nodup := by
  rw [List.nodup_append]
  refine ⟨h, by simp, fun x hx y hy => ?_⟩
  rw [List.mem_singleton] at hy
  subst hy
  exact fun z => n (z ▸ hx)
theorem Grow.snoc {p : Addr} (g : Grow ρ ρ H H') : Grow ρ (ρ ++ [p]) H H' := ⟨⟨[p], rfl⟩, g.xd, g.tup, g.frz⟩
/-- a new object of ours -/
theorem Sim.laid {h : Hh} {p : Addr} {o : HO} {u : Ob} (S : Sim K ρ H h) (hp : H p = none) (hu : ObR K (ρ ++ [p]) (upd H p o) p u) : Sim K (ρ ++ [p]) (upd H p o) (h ++ [u]) := by
  have np : p ∉ ρ := fun z => S.tracked z hp
  refine ⟨by rw [List.length_append, List.length_append, S.len]; rfl, nodup_snoc S.nd np, fun n w e => ?_⟩
  by_cases hn : n < h.length
  · rw [List.getElem?_append_left hn] at e
    obtain ⟨a, e1, r⟩ := S.at_ n w e
    refine ⟨a, by rw [List.getElem?_append_left (by rw [S.len]; exact hn)]; exact e1, r.mono (Grow.new hp).snoc (upd_ne (fun z => r.some (z ▸ hp))) fun d hd => ?_⟩
    rw [upd_ne (ne_of_none hd hp)]; exact hd
  · have e0 : n = h.length := by
      have := (List.getElem?_eq_some_iff.mp e).1
      rw [List.length_append, List.length_singleton] at this
      omega
    subst e0
    rw [List.getElem?_append_right (Nat.le_refl _), Nat.sub_self] at e
    cases e
    refine ⟨p, ?_, hu⟩
    rw [List.getElem?_append_right (by rw [S.len]; exact Nat.le_refl _), S.len, Nat.sub_self]
    rfl
/-- what is mutable of ours -/
def Mu : Option HO → Prop
  | some (.lst _) => True
  | some (.dK _) => True
  | some (.ins _ _ _) => True
  | _ => False
theorem Grow.put {a : Addr} {o : HO} (m : Mu (H a)) : Grow ρ ρ H (upd H a o) :=
  ⟨⟨[], by simp⟩, fun b xs h => by
    by_cases e : b = a
    · subst e; rw [h] at m; exact m.elim
    · rw [upd_ne e]; exact h, fun b xs h => by
    by_cases e : b = a
    · subst e; rw [h] at m; exact m.elim
    · rw [upd_ne e]; exact h, fun b z u h => by
    by_cases e : b = a
    · subst e; rw [h] at m; exact m.elim
    · rw [upd_ne e]; exact h⟩
theorem nodup_idx {α : Type} {l : List α} (h : l.Nodup) {i j : Nat} {a : α} (hi : l[i]? = some a) (hj : l[j]? = some a) : i = j := by
  obtain ⟨h1, e1⟩ := List.getElem?_eq_some_iff.mp hi
  obtain ⟨h2, e2⟩ := List.getElem?_eq_some_iff.mp hj
  exact (List.getElem_inj (h₀ := h1) (h₁ := h2) h).mp (e1.trans e2.symm)
theorem Sim.put {h : Hh} {n : Nat} {a : Addr} {o : HO} {u : Ob} (S : Sim K ρ H h) (ha : ρ[n]? = some a) (m : Mu (H a)) (hu : ObR K ρ (upd H a o) a u) : Sim K ρ (upd H a o) (h.set n u) := by
  refine ⟨by rw [List.length_set]; exact S.len, S.nd, fun j w e => ?_⟩
  by_cases hj : n = j
  · subst hj
    by_cases hl : n < h.length
    · rw [List.getElem?_set_self hl] at e
      cases e
      exact ⟨a, ha, hu⟩
    · rw [List.getElem?_eq_none (by rw [List.length_set]; omega)] at e
      cases e
  · rw [List.getElem?_set_ne hj] at e
    obtain ⟨b, e1, r⟩ := S.at_ j w e
    have nb : b ≠ a := fun z => hj (nodup_idx S.nd ha (z ▸ e1))
    refine ⟨b, e1, r.mono (Grow.put m) (upd_ne nb) fun d hd => ?_⟩
    have nd : d ≠ a := fun z => by subst z; rw [hd] at m; exact m
    rw [upd_ne nd]; exact hd
end

/-! ### what is wished behind -/
def Post {α : Type} (K : Gw) (W : Wd) (σ : St) (ρ : List Addr) (H : Hp) (R : α → Hh → List Addr → Hp → Prop) : Res α → Prop
  | .ok a h => ∀ ρ' H', Grow ρ ρ' H H' → Sim K ρ' H' h → R a h ρ' H'
  | .exc c fs h => ∀ ρ' H' d cv, Grow ρ ρ' H H' → Sim K ρ' H' h → XcR K ρ' H' fs d → K.mg c = some cv → W.w cv d σ H'
  | .stuck => False
section
variable {α β : Type} {K : Gw} {W : Wd} {σ : St} {ρ ρ' : List Addr} {H H' : Hp}
theorem Post.mono {R : α → Hh → List Addr → Hp → Prop} {r : Res α} (g : Grow ρ ρ' H H') (h : Post K W σ ρ H R r) : Post K W σ ρ' H' R r := by
  cases r with
  | ok a h' => exact fun ρ2 H2 g2 s => h ρ2 H2 (g.trans g2) s
  | exc c fs h' => exact fun ρ2 H2 d cv g2 s x => h ρ2 H2 d cv (g.trans g2) s x
  | stuck => exact h
theorem Post.bind {R : β → Hh → List Addr → Hp → Prop} {r : Res α} {f : α → Hh → Res β} (h : Post K W σ ρ H R (r.bind f)) : Post K W σ ρ H (fun a h1 ρ1 H1 => Post K W σ ρ1 H1 R (f a h1)) r := by
  cases r with
  | ok a h' => exact fun ρ2 H2 g2 _ => Post.mono g2 h
  | exc c fs h' => exact h
  | stuck => exact h
theorem Post.imp {R R' : α → Hh → List Addr → Hp → Prop} {r : Res α} (h : Post K W σ ρ H R r) (k : ∀ a h' ρ' H', Grow ρ ρ' H H' → Sim K ρ' H' h' → R a h' ρ' H' → R' a h' ρ' H') : Post K W σ ρ H R' r := by
  cases r with
  | ok a h' => exact fun ρ2 H2 g2 s => k _ _ _ _ g2 s (h ρ2 H2 g2 s)
  | exc c fs h' => exact h
  | stuck => exact h
end
def RV (K : Gw) (Q : VK) : Val → Hh → List Addr → Hp → Prop := fun a _ ρ H => ∀ u, Rep K ρ H a u → Q u H
def RL (K : Gw) (Q : List V → Hp → Prop) : List Val → Hh → List Addr → Hp → Prop := fun a _ ρ H => ∀ us, RepL K ρ H a us → Q us H
def RB (Q : Bool → Hp → Prop) : Bool → Hh → List Addr → Hp → Prop := fun b _ _ H => Q b H
/-- the readings -/
def tX (K : Gw) (W : Wd) (x : XE) : TE := fun σ H Q => ∃ ρ env h, Sim K ρ H h ∧ EnvR K ρ H W.s env σ ∧ Post K W σ ρ H (RV K Q) (x env h)
def tXT (K : Gw) (W : Wd) (x : XT) : TT := fun σ H Q => ∃ ρ env h, Sim K ρ H h ∧ EnvR K ρ H W.s env σ ∧ Post K W σ ρ H (RB Q) (x env h)
def tXA (K : Gw) (W : Wd) (x : XA) : TA := fun σ H Q => ∃ ρ env h, Sim K ρ H h ∧ EnvR K ρ H W.s env σ ∧ Post K W σ ρ H (RL K Q) (x env h)
def PostS (K : Gw) (W : Wd) (ρ : List Addr) (H : Hp) (D : Ends) : RS → Prop
  | .nx e h => ∀ ρ' H' σ', Grow ρ ρ' H H' → Sim K ρ' H' h → EnvR K ρ' H' W.s e σ' → D.nx σ' H'
  | .rt v h => ∀ ρ' H' u, Grow ρ ρ' H H' → Sim K ρ' H' h → Rep K ρ' H' v u → D.rt u H'
  | .bk e h => ∀ ρ' H' σ', Grow ρ ρ' H H' → Sim K ρ' H' h → EnvR K ρ' H' W.s e σ' → D.bk σ' H'
  | .ct e h => ∀ ρ' H' σ', Grow ρ ρ' H H' → Sim K ρ' H' h → EnvR K ρ' H' W.s e σ' → D.ct σ' H'
  | .exc c fs e h => ∀ ρ' H' d σ' cv, Grow ρ ρ' H H' → Sim K ρ' H' h → EnvR K ρ' H' W.s e σ' → XcR K ρ' H' fs d → K.mg c = some cv → W.w cv d σ' H'
  | .stuck => False
def tXS (K : Gw) (W : Wd) (x : XS) : TS := fun D σ H => ∃ ρ env h, Sim K ρ H h ∧ EnvR K ρ H W.s env σ ∧ PostS K W ρ H D (x env h)
theorem PostS.mono {K : Gw} {W : Wd} {ρ ρ' : List Addr} {H H' : Hp} {D : Ends} {r : RS} (g : Grow ρ ρ' H H') (h : PostS K W ρ H D r) : PostS K W ρ' H' D r := by
  cases r with
  | nx e h' => exact fun ρ2 H2 σ' g2 => h ρ2 H2 σ' (g.trans g2)
  | rt e h' => exact fun ρ2 H2 σ' g2 => h ρ2 H2 σ' (g.trans g2)
  | bk e h' => exact fun ρ2 H2 σ' g2 => h ρ2 H2 σ' (g.trans g2)
  | ct e h' => exact fun ρ2 H2 σ' g2 => h ρ2 H2 σ' (g.trans g2)
  | exc c fs e h' => exact fun ρ2 H2 d σ' cv g2 => h ρ2 H2 d σ' cv (g.trans g2)
  | stuck => exact h

section
variable {X : Cx}
theorem PE.of {e : Expr} {t t' : TE} (h : PE X e t) (w : ∀ σ H Q, t' σ H Q → t σ H Q) : PE X e t' := ⟨fun pins s σ H Q I q => h.run pins s σ H Q I (w σ H Q q)⟩
theorem PT.of {e : Expr} {t t' : TT} (h : PT X e t) (w : ∀ σ H Q, t' σ H Q → t σ H Q) : PT X e t' := ⟨fun pins s σ H Q I q => h.run pins s σ H Q I (w σ H Q q)⟩
theorem PW.of {e : Expr} {t t' : TT} (h : PW X e t) (w : ∀ σ H Q, t' σ H Q → t σ H Q) : PW X e t' := ⟨fun wh pins s σ H Q I q => h.run wh pins s σ H Q I (w σ H Q q)⟩
theorem PA.of {es : List Expr} {t t' : TA} (h : PA X es t) (w : ∀ σ H Q, t' σ H Q → t σ H Q) : PA X es t' := ⟨fun pos pins s σ H Q I q => h.run pos pins s σ H Q I (w σ H Q q)⟩
theorem PS.of {st : Stmt} {t t' : TS} (h : PS X st t) (w : ∀ D σ H, t' D σ H → t D σ H) : PS X st t' := ⟨fun pins s σ H D I q => h.run pins s σ H D I (w D σ H q)⟩
theorem PSs.of {st : List Stmt} {t t' : TS} (h : PSs X st t) (w : ∀ D σ H, t' D σ H → t D σ H) : PSs X st t' := ⟨fun pins s σ H D I q => h.run pins s σ H D I (w D σ H q)⟩
end
/-- the judgements -/
abbrev QE (X : Cx) (W : Wd) (e : Expr) (x : XE) : Prop := PE X e (tX (gw X) W x)
abbrev QT (X : Cx) (W : Wd) (e : Expr) (x : XT) : Prop := PT X e (tXT (gw X) W x)
abbrev QW (X : Cx) (W : Wd) (e : Expr) (x : XT) : Prop := PW X e (tXT (gw X) W x)
abbrev QA (X : Cx) (W : Wd) (e : List Expr) (x : XA) : Prop := PA X e (tXA (gw X) W x)
abbrev QS (X : Cx) (W : Wd) (e : Stmt) (x : XS) : Prop := PS X e (tXS (gw X) W x)
abbrev QSs (X : Cx) (W : Wd) (e : List Stmt) (x : XS) : Prop := PSs X e (tXS (gw X) W x)

/-! ### names, constants, operators -/
def xVar (i : Nat) : XE := fun env h => match env[i]? with
  | some (some v) => .ok v h
  | _ => .stuck
def xC (v : Val) : XE := fun _ h => .ok v h
def xBin (o : Op2) (a b : XE) : XE := fun env h => (a env h).bind fun x h1 => (b env h1).bind fun y h2 => Res.of (o x y h2)
def xUn (o : Op1) (a : XE) : XE := fun env h => (a env h).bind fun x h1 => Res.of (o x h1)
section
variable {X : Cx} {W : Wd} {a b c : Expr} {pos : Pos} {xa xb xc : XE}
theorem q_var (i : Nat) {x : Str} (h : PE X (.Name x pos) (tVar i)) : QE X W (.Name x pos) (xVar i) := PE.of h fun σ H Q ⟨ρ, env, h, S, E, p⟩ => by
  unfold xVar at p
  cases e : env[i]? with
  | none => rw [e] at p; exact p.elim
  | some o =>
    cases o with
    | none => rw [e] at p; exact p.elim
    | some v =>
      rw [e] at p
      obtain ⟨u, e1, r⟩ := E.2.1 i v e
      exact ⟨u, e1, p ρ H (Grow.refl _ _) S u r⟩
theorem q_c {e : Expr} {v : Val} {u : V} (h : PE X e (tC u)) (r : ∀ ρ H, Rep (gw X) ρ H v u) : QE X W e (xC v) := PE.of h fun σ H Q ⟨ρ, env, h, S, E, p⟩ => p ρ H (Grow.refl _ _) S u (r ρ H)
theorem q_int {i : Int} {j : Nat} : QE X W (.Constant (.int i) j pos) (xC (.int i)) := q_c pe_int fun _ _ => .int i
theorem q_bl {i : Bool} {j : Nat} : QE X W (.Constant (.bool i) j pos) (xC (.bl i)) := q_c pe_bl fun _ _ => .bl i
theorem q_non {j : Nat} : QE X W (.Constant .none j pos) (xC .non) := q_c pe_non fun _ _ => .non
theorem q_str {i : Str} {j : Nat} : QE X W (.Constant (.str i) j pos) (xC (.str i)) := q_c pe_str fun _ _ => .str i
/-- an operation on values -/
def rS2 (K : Gw) (o : Op2) : R2 := fun x y H Q => ∃ ρ h a b v h', Sim K ρ H h ∧ Rep K ρ H a x ∧ Rep K ρ H b y ∧ o a b h = some (v, h') ∧ ∀ ρ' H' u, Grow ρ ρ' H H' → Sim K ρ' H' h' → Rep K ρ' H' v u → Q u H'
def rS1 (K : Gw) (o : Op1) : V → Hp → VK → Prop := fun x H Q => ∃ ρ h a v h', Sim K ρ H h ∧ Rep K ρ H a x ∧ o a h = some (v, h') ∧ ∀ ρ' H' u, Grow ρ ρ' H H' → Sim K ρ' H' h' → Rep K ρ' H' v u → Q u H'
def rSN (K : Gw) (o : OpN) : List V → Hp → VK → Prop := fun xs H Q => ∃ ρ h as v h', Sim K ρ H h ∧ RepL K ρ H as xs ∧ o as h = some (v, h') ∧ ∀ ρ' H' u, Grow ρ ρ' H H' → Sim K ρ' H' h' → Rep K ρ' H' v u → Q u H'
theorem Post.of {ρ : List Addr} {H : Hp} {σ : St} {K : Gw} {Q : VK} {r : Option (Val × Hh)} (p : Post K W σ ρ H (RV K Q) (Res.of r)) : ∃ v h', r = some (v, h') ∧ ∀ ρ' H' u, Grow ρ ρ' H H' → Sim K ρ' H' h' → Rep K ρ' H' v u → Q u H' := by
  cases r with
  | none => exact p.elim
  | some q => exact ⟨q.1, q.2, rfl, fun ρ' H' u g s r => p ρ' H' g s u r⟩
theorem bin_of {o : Op2} {σ : St} {H : Hp} {Q : VK} {K : Gw} (h : tX K W (xBin o xa xb) σ H Q) : tOp (rS2 K o) (tX K W xa) (tX K W xb) σ H Q := by
  obtain ⟨ρ, env, h, S, E, p⟩ := h
  refine ⟨ρ, env, h, S, E, (Post.bind p).imp fun a h1 ρ1 H1 g1 S1 q1 u ru => ⟨ρ1, env, h1, S1, E.mono g1, (Post.bind q1).imp fun b h2 ρ2 H2 g2 S2 q2 y ry => ?_⟩⟩
  obtain ⟨v, h', e, k⟩ := Post.of q2
  exact ⟨ρ2, h2, a, b, v, h', S2, ru.mono g2, ry, e, k⟩
theorem q_op {op : Operator} {o : Op2} (ho : OpR X (binaryOp op) (rS2 (gw X) o)) (ha : QE X W a xa) (hb : QE X W b xb) : QE X W (.BinOp a op b pos) (xBin o xa xb) :=
  PE.of (pe_op ho ha hb) fun _ _ _ => bin_of
theorem q_cmp {op : CmpOp} {o : Op2} (ho : OpR X (compareOp op) (rS2 (gw X) o)) (ha : QE X W a xa) (hb : QE X W b xb) (hm : behindInMarks op b = false) : QE X W (.Compare a [op] [b] pos) (xBin o xa xb) :=
  PE.of (pe_cmpR ho ha hb hm) fun _ _ _ => bin_of
theorem un_of {o : Op1} {σ : St} {H : Hp} {Q : VK} {K : Gw} (h : tX K W (xUn o xa) σ H Q) : tUn (rS1 K o) (tX K W xa) σ H Q := by
  obtain ⟨ρ, env, h, S, E, p⟩ := h
  refine ⟨ρ, env, h, S, E, (Post.bind p).imp fun a h1 ρ1 H1 g1 S1 q1 u ru => ?_⟩
  obtain ⟨v, h', e, k⟩ := Post.of q1
  exact ⟨ρ1, h1, a, v, h', S1, ru, e, k⟩
theorem q_un {op : UnaryOp} {o : Op1} (ho : UnR X (unaryOp op) (rS1 (gw X) o)) (ha : QE X W a xa) : QE X W (.UnaryOp op a pos) (xUn o xa) :=
  PE.of (pe_un ho ha) fun _ _ _ => un_of
theorem q_ix {o : Op2} (hr : IxR X (rS2 (gw X) o)) (ha : QE X W a xa) (hb : QE X W b xb) (hs : PlainIx b) : QE X W (.Subscript a b pos) (xBin o xa xb) :=
  PE.of (pe_ix hr ha hb hs) fun _ _ _ => bin_of

/-! ### tests -/
/-- a value that is a truth, as a test -/
def xTest (x : XE) : XT := fun env h => (x env h).bind fun v h1 => match v with
  | .bl b => .ok b h1
  | _ => .stuck
/-- truth of a value -/
def truth (v : Val) (h : Hh) : Option Bool := match v with
  | .non => some false
  | .bl b => some b
  | .int i => some (i != 0)
  | .str y => if y.length ≤ sizeLine then some ((y.length : Int) != 0) else none
  | .tup xs => some (!xs.isEmpty)
  | .scr xs => some (!xs.isEmpty)
  | .loc n => match h[n]? with
    | some (.lst xs) => some (!xs.isEmpty)
    | some (.dct kvs) => some (!kvs.isEmpty)
    | _ => none
  | _ => none
def xTru (x : XE) : XT := fun env h => (x env h).bind fun v h1 => match truth v h1 with
  | some b => .ok b h1
  | none => .stuck
theorem isEmpty_len {α β : Type} {xs : List α} {ys : List β} (h : xs.length = ys.length) : xs.isEmpty = ys.isEmpty := by
  cases xs <;> cases ys <;> first | rfl | (simp at h)
theorem truth_ok {K : Gw} {ρ : List Addr} {H : Hp} {h : Hh} {v : Val} {u : V} {b : Bool} (S : Sim K ρ H h) (r : Rep K ρ H v u) (e : truth v h = some b) : TruV K.K u H b := by
  cases r with
  | non => cases e; exact rfl
  | bl b => cases e; exact rfl
  | int i => cases e; exact rfl
  | str s =>
    have e : (if s.length ≤ sizeLine then some ((s.length : Int) != 0) else none) = some b := e
    by_cases hl : s.length ≤ sizeLine
    · rw [if_pos hl] at e
      cases e
      exact ⟨hl, rfl⟩
    · rw [if_neg hl] at e
      cases e
  | tup s r =>
    cases e
    exact .inr (.inl ⟨_, s, by rw [isEmpty_len r.length]⟩)
  | scr s r =>
    cases e
    exact .inl ⟨_, s.sql, by rw [isEmpty_len r.length]⟩
  | loc e1 =>
    rename_i n a
    obtain ⟨o, e2, ro⟩ := S.get e1
    have e : (match h[n]? with | some (.lst xs) => some (!xs.isEmpty) | some (.dct kvs) => some (!kvs.isEmpty) | _ => none) = some b := e
    rw [e2] at e
    cases o with
    | lst xs => cases e; obtain ⟨vs, e3, r⟩ := ro; exact .inl ⟨vs, .inl (.inl e3), by rw [isEmpty_len r.length]⟩
    | dct kvs => cases e; obtain ⟨vs, e3, r⟩ := ro; exact .inr (.inr ⟨vs, e3, by rw [isEmpty_len (Paired.length r)]⟩)
    | ins C fs => cases e
  | ref a => cases e
  | ty n => cases e
theorem Post.test {K : Gw} {ρ : List Addr} {H : Hp} {σ : St} {Q : Bool → Hp → Prop} {v : Val} {h : Hh} (p : Post K W σ ρ H (RB Q) (match v with | .bl b => .ok b h | _ => .stuck)) (S : Sim K ρ H h) {u : V} (r : Rep K ρ H v u) : ∃ k, u = .bl k ∧ Q k H := by
  cases r with
  | bl b => exact ⟨b, rfl, p ρ H (Grow.refl _ _) S⟩
  | _ => exact p.elim
theorem test_of {x : XE} {K : Gw} {σ : St} {H : Hp} {Q : Bool → Hp → Prop} (h : tXT K W (xTest x) σ H Q) : tX K W x σ H fun u H' => ∃ k, u = .bl k ∧ Q k H' := by
  obtain ⟨ρ, env, h, S, E, p⟩ := h
  exact ⟨ρ, env, h, S, E, (Post.bind p).imp fun a h1 ρ1 H1 g1 S1 q1 u ru => Post.test q1 S1 ru⟩
theorem tru_of {x : XE} {K : Gw} {σ : St} {H : Hp} {Q : Bool → Hp → Prop} (h : tXT K W (xTru x) σ H Q) : tX K W x σ H fun u H' => ∃ k, TruV K.K u H' k ∧ Q k H' := by
  obtain ⟨ρ, env, h, S, E, p⟩ := h
  refine ⟨ρ, env, h, S, E, (Post.bind p).imp fun a h1 ρ1 H1 g1 S1 q1 u ru => ?_⟩
  cases e : truth a h1 with
  | none => rw [e] at q1; exact q1.elim
  | some b => rw [e] at q1; exact ⟨b, truth_ok S1 ru e, q1 ρ1 H1 (Grow.refl _ _) S1⟩
/-- a name, a call, a subscript .. as a test -/
theorem qt_tru (ha : QE X W a xa) (he : ∀ whole, isTrue a X.env whole = (do let v ← whole; standAt a.pos; holding [v] (truthy v)) := by intro _; rfl) : QT X W a (xTru xa) :=
  PT.of (pt_truth ha he) fun _ _ _ => tru_of
theorem qt_val (ha : QE X W a xa) (he : ∀ whole, isTrue a X.env whole = (do let v ← whole; standAt a.pos; holding [v] (truthy v)) := by intro _; rfl) : QT X W a (xTest xa) :=
  PT.of (pt_val ha he) fun _ _ _ => test_of
/-- a comparison as a test -/
theorem cmp_of {o : Op2} {σ : St} {H : Hp} {Q : Bool → Hp → Prop} {K : Gw} (h : tXT K W (xTest (xBin o xa xb)) σ H Q) : tTest (tOp (rS2 K o) (tX K W xa) (tX K W xb)) σ H Q := bin_of (test_of h)
theorem qt_cmp {op : CmpOp} {o : Op2} (ho : OpR X (compareOp op) (rS2 (gw X) o)) (ha : QE X W a xa) (hb : QE X W b xb) (hm : behindInMarks op b = false) : QT X W (.Compare a [op] [b] pos) (xTest (xBin o xa xb)) :=
  PT.of (pt_cmpR ho ha hb hm) fun _ _ _ => cmp_of
def xAndT (a b : XT) : XT := fun env h => (a env h).bind fun c h1 => if c = true then b env h1 else .ok false h1
def xOrT (a b : XT) : XT := fun env h => (a env h).bind fun c h1 => if c = true then .ok true h1 else b env h1
def xNotT (a : XT) : XT := fun env h => (a env h).bind fun c h1 => .ok (!c) h1
variable {ya yb : XT}
theorem qw_and1 (ha : QT X W a ya) : QW X W (.BoolOp .And [a] pos) ya := pw_and1 ha
theorem qw_or1 (ha : QT X W a ya) : QW X W (.BoolOp .Or [a] pos) ya := pw_or1 ha
theorem qw_and {rest : List Expr} (ha : QT X W a ya) (hb : QW X W (.BoolOp .And (b :: rest) pos) yb) : QW X W (.BoolOp .And (a :: b :: rest) pos) (xAndT ya yb) :=
  PW.of (pw_and ha hb) fun σ H Q ⟨ρ, env, h, S, E, p⟩ => ⟨ρ, env, h, S, E, (Post.bind p).imp fun c h1 ρ1 H1 g1 S1 q1 => by
    cases c with
    | true => exact ⟨ρ1, env, h1, S1, E.mono g1, q1⟩
    | false => exact q1 ρ1 H1 (Grow.refl _ _) S1⟩
theorem qw_or {rest : List Expr} (ha : QT X W a ya) (hb : QW X W (.BoolOp .Or (b :: rest) pos) yb) : QW X W (.BoolOp .Or (a :: b :: rest) pos) (xOrT ya yb) :=
  PW.of (pw_or ha hb) fun σ H Q ⟨ρ, env, h, S, E, p⟩ => ⟨ρ, env, h, S, E, (Post.bind p).imp fun c h1 ρ1 H1 g1 S1 q1 => by
    cases c with
    | true => exact q1 ρ1 H1 (Grow.refl _ _) S1
    | false => exact ⟨ρ1, env, h1, S1, E.mono g1, q1⟩⟩
theorem qt_not (ha : QT X W a ya) : QT X W (.UnaryOp .Not a pos) (xNotT ya) :=
  PT.of (pt_not ha) fun σ H Q ⟨ρ, env, h, S, E, p⟩ => ⟨ρ, env, h, S, E, (Post.bind p).imp fun c h1 ρ1 H1 g1 S1 q1 => q1 ρ1 H1 (Grow.refl _ _) S1⟩

/-! ### and, or, not as values (truths) -/
def xAndV (a b : XE) : XE := fun env h => (a env h).bind fun v h1 => match v with
  | .bl true => b env h1
  | .bl false => .ok (.bl false) h1
  | _ => .stuck
def xOrV (a b : XE) : XE := fun env h => (a env h).bind fun v h1 => match v with
  | .bl true => .ok (.bl true) h1
  | .bl false => b env h1
  | _ => .stuck
def xNotV (a : XE) : XE := fun env h => (a env h).bind fun v h1 => match v with
  | .bl b => .ok (.bl (!b)) h1
  | _ => .stuck
theorem q_one {op : BoolOp} (h : QE X W a xa) : QE X W (.BoolOp op [a] pos) xa := pe_one h
theorem q_and {rest : List Expr} (ha : QE X W a xa) (hb : QE X W (.BoolOp .And (b :: rest) pos) xb) : QE X W (.BoolOp .And (a :: b :: rest) pos) (xAndV xa xb) :=
  PE.of (pe_and ha hb) fun σ H Q ⟨ρ, env, h, S, E, p⟩ => ⟨ρ, env, h, S, E, (Post.bind p).imp fun v h1 ρ1 H1 g1 S1 q1 u ru => by
    cases ru with
    | bl c =>
      cases c with
      | true => exact ⟨true, rfl, ⟨ρ1, env, h1, S1, E.mono g1, q1⟩⟩
      | false => exact ⟨false, rfl, q1 ρ1 H1 (Grow.refl _ _) S1 _ (.bl false)⟩
    | _ => exact q1.elim⟩
theorem q_or {rest : List Expr} (ha : QE X W a xa) (hb : QE X W (.BoolOp .Or (b :: rest) pos) xb) : QE X W (.BoolOp .Or (a :: b :: rest) pos) (xOrV xa xb) :=
  PE.of (pe_or ha hb) fun σ H Q ⟨ρ, env, h, S, E, p⟩ => ⟨ρ, env, h, S, E, (Post.bind p).imp fun v h1 ρ1 H1 g1 S1 q1 u ru => by
    cases ru with
    | bl c =>
      cases c with
      | true => exact ⟨true, rfl, q1 ρ1 H1 (Grow.refl _ _) S1 _ (.bl true)⟩
      | false => exact ⟨false, rfl, ⟨ρ1, env, h1, S1, E.mono g1, q1⟩⟩
    | _ => exact q1.elim⟩
theorem q_not (ha : QE X W a xa) : QE X W (.UnaryOp .Not a pos) (xNotV xa) :=
  PE.of (pe_not ha) fun σ H Q ⟨ρ, env, h, S, E, p⟩ => ⟨ρ, env, h, S, E, (Post.bind p).imp fun v h1 ρ1 H1 g1 S1 q1 u ru => by
    cases ru with
    | bl c => exact ⟨c, rfl, q1 ρ1 H1 (Grow.refl _ _) S1 _ (.bl _)⟩
    | _ => exact q1.elim⟩
def xIf (t : XT) (a b : XE) : XE := fun env h => (t env h).bind fun c h1 => if c = true then a env h1 else b env h1
theorem q_if {e : Expr} {y : XT} (hc : QT X W e y) (ha : QE X W a xa) (hb : QE X W b xb) : QE X W (.IfExp e a b pos) (xIf y xa xb) :=
  PE.of (pe_ifExp hc ha hb) fun σ H Q ⟨ρ, env, h, S, E, p⟩ => ⟨ρ, env, h, S, E, (Post.bind p).imp fun c h1 ρ1 H1 g1 S1 q1 => by
    cases c with
    | true => exact ⟨ρ1, env, h1, S1, E.mono g1, q1⟩
    | false => exact ⟨ρ1, env, h1, S1, E.mono g1, q1⟩⟩
/-- a op b op' c -/
def xChain (o o' : Op2) (a b c : XE) : XE := fun env h => (a env h).bind fun x h1 => (b env h1).bind fun y h2 => (Res.of (o x y h2)).bind fun z h3 => match z with
  | .bl true => (c env h3).bind fun w h4 => Res.of (o' y w h4)
  | .bl false => .ok (.bl false) h3
  | _ => .stuck
theorem chain_of {o o' : Op2} {σ : St} {H : Hp} {Q : VK} {K : Gw} (h : tX K W (xChain o o' xa xb xc) σ H Q) : tChain (rS2 K o) (rS2 K o') (tX K W xa) (tX K W xb) (tX K W xc) σ H Q := by
  obtain ⟨ρ, env, h, S, E, p⟩ := h
  refine ⟨ρ, env, h, S, E, (Post.bind p).imp fun a h1 ρ1 H1 g1 S1 q1 u ru => ⟨ρ1, env, h1, S1, E.mono g1, (Post.bind q1).imp fun b h2 ρ2 H2 g2 S2 q2 y ry => ?_⟩⟩
  cases eo : o a b h2 with
  | none => rw [eo] at q2; exact q2.elim
  | some w =>
    rw [eo] at q2
    refine ⟨ρ2, h2, a, b, w.1, w.2, S2, ru.mono g2, ry, eo, fun ρ3 H3 z g3 S3 rz => ?_⟩
    have q3 := Post.bind q2 ρ3 H3 g3 S3
    generalize w.1 = w1 at rz q3
    cases rz with
    | bl k =>
      refine ⟨k, rfl, ?_⟩
      cases k with
      | true =>
        refine ⟨ρ3, env, w.2, S3, ((E.mono g1).mono g2).mono g3, (Post.bind q3).imp fun d h4 ρ4 H4 g4 S4 q4 v rv => ?_⟩
        obtain ⟨v', h', e, k⟩ := Post.of q4
        exact ⟨ρ4, h4, b, d, v', h', S4, (ry.mono g3).mono g4, rv, e, k⟩
      | false => exact q3 ρ3 H3 (Grow.refl _ _) S3 _ (.bl false)
    | _ => exact q3.elim
theorem q_chain {op op' : CmpOp} {o o' : Op2} (ho : OpR X (compareOp op) (rS2 (gw X) o)) (ho' : OpR X (compareOp op') (rS2 (gw X) o')) (ha : QE X W a xa) (hb : QE X W b xb) (hc : QE X W c xc)
    (hm : lastMarks [op, op'] [b, c] = false := by with_unfolding_all rfl) : QE X W (.Compare a [op, op'] [b, c] pos) (xChain o o' xa xb xc) := PE.of (pe_chain ho ho' ha hb hc hm) fun _ _ _ => chain_of
theorem qt_chain {op op' : CmpOp} {o o' : Op2} (ho : OpR X (compareOp op) (rS2 (gw X) o)) (ho' : OpR X (compareOp op') (rS2 (gw X) o')) (ha : QE X W a xa) (hb : QE X W b xb) (hc : QE X W c xc)
    (hm : lastMarks [op, op'] [b, c] = false := by with_unfolding_all rfl) : QT X W (.Compare a [op, op'] [b, c] pos) (xTest (xChain o o' xa xb xc)) := PT.of (pt_chain ho ho' ha hb hc hm) fun _ _ _ h => chain_of (test_of h)

/-! ### argument lists, displays -/
def xNil : XA := fun _ h => .ok [] h
def xCons (a : XE) (r : XA) : XA := fun env h => (a env h).bind fun x h1 => (r env h1).bind fun xs h2 => .ok (x :: xs) h2
def xTup (r : XA) : XE := fun env h => (r env h).bind fun xs h1 => if xs.length ≤ sizeLine then .ok (.tup xs) h1 else .stuck
def xLst (r : XA) : XE := fun env h => (r env h).bind fun xs h1 => if xs.length ≤ sizeLine then .ok (.loc h1.length) (h1 ++ [.lst xs]) else .stuck
def xCallN (o : OpN) (r : XA) : XE := fun env h => (r env h).bind fun xs h1 => Res.of (o xs h1)
variable {es : List Expr} {xr : XA}
theorem qa_nil : QA X W [] xNil := PA.of pa_nil fun σ H Q ⟨ρ, env, h, S, E, p⟩ => p ρ H (Grow.refl _ _) S _ .nil
theorem qa_cons_of {σ : St} {H : Hp} {Q : List V → Hp → Prop} {K : Gw} (h : tXA K W (xCons xa xr) σ H Q) : tCons (tX K W xa) (tXA K W xr) σ H Q := by
  obtain ⟨ρ, env, h, S, E, p⟩ := h
  exact ⟨ρ, env, h, S, E, (Post.bind p).imp fun a h1 ρ1 H1 g1 S1 q1 u ru => ⟨ρ1, env, h1, S1, E.mono g1, (Post.bind q1).imp fun b h2 ρ2 H2 g2 S2 q2 y ry => q2 ρ2 H2 (Grow.refl _ _) S2 _ (.cons (ru.mono g2) ry)⟩⟩
theorem new_loc {K : Gw} {ρ : List Addr} {H : Hp} {h : Hh} {xs : List Val} {vs : List V} {p : Addr} (S : Sim K ρ H h) (hp : H p = none) (r : RepL K ρ H xs vs) :
    Grow ρ (ρ ++ [p]) H (upd H p (.lst vs)) ∧ Sim K (ρ ++ [p]) (upd H p (.lst vs)) (h ++ [.lst xs]) ∧ Rep K (ρ ++ [p]) (upd H p (.lst vs)) (.loc h.length) (.ref p) := by
  have g : Grow ρ (ρ ++ [p]) H (upd H p (.lst vs)) := (Grow.new hp).snoc
  refine ⟨g, S.laid hp ⟨vs, upd_same, r.mono g⟩, .loc ?_⟩
  rw [List.getElem?_append_right (by rw [S.len]; exact Nat.le_refl _), S.len, Nat.sub_self]
  rfl
theorem new_tup {K : Gw} {ρ : List Addr} {H : Hp} {h : Hh} {xs : List Val} {vs : List V} {p : Addr} (S : Sim K ρ H h) (hp : H p = none) (r : RepL K ρ H xs vs) :
    Grow ρ ρ H (upd H p (.tup vs)) ∧ Sim K ρ (upd H p (.tup vs)) h ∧ Rep K ρ (upd H p (.tup vs)) (.tup xs) (.ref p) :=
  ⟨Grow.new hp, S.new hp, .tup (.inl (.inl upd_same)) (r.mono (Grow.new hp))⟩
theorem q_tup {k : Nat} (h : QA X W es xr) : QE X W (.Tuple es k pos) (xTup xr) := PE.of (pe_tup h) fun σ H Q ⟨ρ, env, h, S, E, p⟩ =>
  ⟨ρ, env, h, S, E, (Post.bind p).imp fun xs h1 ρ1 H1 g1 S1 q1 us rs => by
    by_cases hl : xs.length ≤ sizeLine
    · rw [if_pos hl] at q1
      refine ⟨by rw [← rs.length]; exact hl, fun p hp => ?_⟩
      obtain ⟨g, s, r⟩ := new_tup S1 hp rs
      exact q1 ρ1 _ g s _ r
    · rw [if_neg hl] at q1
      exact q1.elim⟩
theorem q_lst (h : QA X W es xr) : QE X W (.List es pos) (xLst xr) := PE.of (pe_lst h) fun σ H Q ⟨ρ, env, h, S, E, p⟩ =>
  ⟨ρ, env, h, S, E, (Post.bind p).imp fun xs h1 ρ1 H1 g1 S1 q1 us rs => by
    by_cases hl : xs.length ≤ sizeLine
    · rw [if_pos hl] at q1
      refine ⟨by rw [← rs.length]; exact hl, fun p hp => ?_⟩
      obtain ⟨g, s, r⟩ := new_loc S1 hp rs
      exact q1 _ _ g s _ r
    · rw [if_neg hl] at q1
      exact q1.elim⟩
theorem callN_of {o : OpN} {σ : St} {H : Hp} {Q : VK} {K : Gw} (h : tX K W (xCallN o xr) σ H Q) : tXA K W xr σ H fun vs H1 => rSN K o vs H1 Q := by
  obtain ⟨ρ, env, h, S, E, p⟩ := h
  refine ⟨ρ, env, h, S, E, (Post.bind p).imp fun xs h1 ρ1 H1 g1 S1 q1 us rs => ?_⟩
  obtain ⟨v, h', e, k⟩ := Post.of q1
  exact ⟨ρ1, h1, xs, v, h', S1, rs, e, k⟩
end
end EX

set_option Elab.async false
set_option linter.all false
set_option maxRecDepth 100000
set_option maxHeartbeats 1000000
namespace EX
open PySem L2

/-! ### statements -/
def sNil : XS := fun e h => .nx e h
def sSeq (a b : XS) : XS := fun e h => match a e h with
  | .nx e1 h1 => b e1 h1
  | r => r
def sRet (x : XE) : XS := fun e h => match x e h with
  | .ok v h1 => .rt v h1
  | .exc c fs h1 => .exc c fs e h1
  | .stuck => .stuck
def sExpr (x : XE) : XS := fun e h => match x e h with
  | .ok _ h1 => .nx e h1
  | .exc c fs h1 => .exc c fs e h1
  | .stuck => .stuck
def sSet (i : Nat) (x : XE) : XS := fun e h => match x e h with
  | .ok v h1 => .nx (e.set i (some v)) h1
  | .exc c fs h1 => .exc c fs e h1
  | .stuck => .stuck
def sIf (t : XT) (a b : XS) : XS := fun e h => match t e h with
  | .ok c h1 => if c = true then a e h1 else b e h1
  | .exc c fs h1 => .exc c fs e h1
  | .stuck => .stuck
def sRetN : XS := fun _ h => .rt .non h
def sBreak : XS := fun e h => .bk e h
def sCont : XS := fun e h => .ct e h
section
variable {X : Cx} {W : Wd} {st : Stmt} {rest : List Stmt} {a b : XS} {e : Expr} {x : XE} {pos : Pos}
theorem qss_nil : QSs X W [] sNil := PSs.of pss_nil fun D σ H ⟨ρ, env, h, S, E, p⟩ => p ρ H σ (Grow.refl _ _) S E
theorem seq_of {K : Gw} {D : Ends} {σ : St} {H : Hp} (h : tXS K W (sSeq a b) D σ H) : tSeq (tXS K W a) (tXS K W b) D σ H := by
  obtain ⟨ρ, env, h, S, E, p⟩ := h
  refine ⟨ρ, env, h, S, E, ?_⟩
  unfold sSeq at p
  cases e : a env h with
  | nx e1 h1 => rw [e] at p; exact fun ρ' H' σ' g s er => ⟨ρ', e1, h1, s, er, PostS.mono g p⟩
  | rt v h1 => rw [e] at p; exact p
  | bk e1 h1 => rw [e] at p; exact p
  | ct e1 h1 => rw [e] at p; exact p
  | exc c fs e1 h1 => rw [e] at p; exact p
  | stuck => rw [e] at p; exact p
theorem qss_cons (h1 : QS X W st a) (h2 : QSs X W rest b) : QSs X W (st :: rest) (sSeq a b) := PSs.of (pss_cons h1 h2) fun _ _ _ => seq_of
theorem qss_one (h1 : QS X W st a) : QSs X W [st] a := pss_one h1
/-- behind an expression: R says what -/
theorem afterE {K : Gw} {ρ : List Addr} {H : Hp} {σ : St} {env : En} {h : Hh} {D : Ends} {f : Val → Hh → RS} (E : EnvR K ρ H W.s env σ)
    (p : PostS K W ρ H D (match x env h with | .ok v h1 => f v h1 | .exc c fs h1 => .exc c fs env h1 | .stuck => .stuck)) : Post K W σ ρ H (fun v h1 ρ1 H1 => PostS K W ρ1 H1 D (f v h1)) (x env h) := by
  cases e : x env h with
  | ok v h1 => rw [e] at p; exact fun ρ1 H1 g1 S1 => PostS.mono g1 p
  | exc c fs h1 => rw [e] at p; exact fun ρ1 H1 d cv g1 S1 xc => p ρ1 H1 d σ cv g1 S1 (E.mono g1) xc
  | stuck => rw [e] at p; exact p
theorem qs_ret (he : QE X W e x) : QS X W (.Return (some e) pos) (sRet x) := PS.of (ps_ret he) fun D σ H ⟨ρ, env, h, S, E, p⟩ =>
  ⟨ρ, env, h, S, E, (afterE (f := fun v h1 => .rt v h1) E p).imp fun v h1 ρ1 H1 g1 S1 q u ru => q ρ1 H1 u (Grow.refl _ _) S1 ru⟩
theorem qs_retN : QS X W (.Return none pos) sRetN := PS.of ps_retN fun D σ H ⟨ρ, env, h, S, E, p⟩ => p ρ H _ (Grow.refl _ _) S .non
theorem qs_pass : QS X W (.Pass pos) sNil := PS.of ps_pass fun D σ H ⟨ρ, env, h, S, E, p⟩ => p ρ H σ (Grow.refl _ _) S E
theorem qs_break : QS X W (.Break pos) sBreak := PS.of ps_break fun D σ H ⟨ρ, env, h, S, E, p⟩ => p ρ H σ (Grow.refl _ _) S E
theorem qs_cont : QS X W (.Continue pos) sCont := PS.of ps_continue fun D σ H ⟨ρ, env, h, S, E, p⟩ => p ρ H σ (Grow.refl _ _) S E
theorem qs_expr (he : QE X W e x) (hs : swapsWith e none pos.line X.env = pure false := by rfl) : QS X W (.Expr e pos) (sExpr x) := PS.of (ps_expr he hs) fun D σ H ⟨ρ, env, h, S, E, p⟩ =>
  ⟨ρ, env, h, S, E, (afterE (f := fun v h1 => .nx env h1) E p).imp fun v h1 ρ1 H1 g1 S1 q u ru => q ρ1 H1 σ (Grow.refl _ _) S1 (E.mono g1)⟩
theorem set_of {K : Gw} {i : Nat} {D : Ends} {σ : St} {H : Hp} (hn : ∀ q, W.s = some q → q.slot ≠ i) (h : tXS K W (sSet i x) D σ H) : tAsg (tX K W x) (gName i) D σ H := by
  obtain ⟨ρ, env, h, S, E, p⟩ := h
  exact ⟨ρ, env, h, S, E, (afterE (f := fun v h1 => .nx (env.set i (some v)) h1) E p).imp fun v h1 ρ1 H1 g1 S1 q u ru => q ρ1 H1 _ (Grow.refl _ _) S1 ((E.mono g1).set i ru hn)⟩
theorem qs_set (i : Nat) {x' : Str} {pos' : Pos} (hN : X.N.Nodup) (hi : X.N[i]? = some x') (hx : Loc X.env.scope x') (he : QE X W e x) (hs : swapsWith e (some (.Name x' pos')) pos.line X.env = pure false := by rfl)
    (hf : X.fn x' = true ∨ X.env.scope.names.lookup x' = some .local := by first | exact .inl rfl | exact .inr rfl | assumption) (hn : ∀ q, W.s = some q → q.slot ≠ i := by first | (intro _ h; cases h; done) | (intro _ h; cases h; decide)) : QS X W (.Assign [.Name x' pos'] e pos) (sSet i x) := PS.of (ps_set hN hi hx he hs hf) fun _ _ _ => set_of hn
theorem qs_if {c : Expr} {sa sb : List Stmt} {y : XT} (hc : QT X W c y) (ha : QSs X W sa a) (hb : QSs X W sb b) : QS X W (.If c sa sb pos) (sIf y a b) := PS.of (ps_if hc ha hb) fun D σ H ⟨ρ, env, h, S, E, p⟩ => by
  refine ⟨ρ, env, h, S, E, ?_⟩
  unfold sIf at p
  cases e : y env h with
  | ok c h1 =>
    rw [e] at p
    intro ρ1 H1 g1 S1
    cases c with
    | true => exact ⟨ρ1, env, h1, S1, E.mono g1, PostS.mono g1 p⟩
    | false => exact ⟨ρ1, env, h1, S1, E.mono g1, PostS.mono g1 p⟩
  | exc c fs h1 => rw [e] at p; exact fun ρ1 H1 d cv g1 S1 xc => p ρ1 H1 d σ cv g1 S1 (E.mono g1) xc
  | stuck => rw [e] at p; exact p.elim
end

/-! ### targets -/
inductive Tg where
  | name (i : Nat)
  | tup (ts : List Tg)
mutual
def Tg.slots : Tg → List Nat
  | .name i => [i]
  | .tup ts => slotsL ts
def slotsL : List Tg → List Nat
  | [] => []
  | t :: ts => t.slots ++ slotsL ts
end
mutual
def Tg.put : Tg → Val → En → Option En
  | .name i, v, e => some (e.set i (some v))
  | .tup ts, .tup xs, e => putL ts xs e
  | .tup _, _, _ => none
def putL : List Tg → List Val → En → Option En
  | [], [], e => some e
  | t :: ts, x :: xs, e => (t.put x e).bind fun e1 => putL ts xs e1
  | _, _, _ => none
end
/-- slots but these are as they were -/
def But (vs : List Nat) (σ σ' : St) : Prop := σ'.length = σ.length ∧ ∀ i, i ∉ vs → σ'[i]? = σ[i]?
/-- what a target does -/
def tTg (K : Gw) (t : Tg) : TG := fun v σ H Q => ∃ ρ env h x e1, Sim K ρ H h ∧ EnvR K ρ H none env σ ∧ Rep K ρ H x v ∧ t.put x env = some e1 ∧ ∀ σ1, EnvR K ρ H none e1 σ1 → But t.slots σ σ1 → Q σ1 H
def tTgs (K : Gw) (ts : List Tg) : TGs := fun vs σ H Q => ∃ ρ env h xs e1, Sim K ρ H h ∧ EnvR K ρ H none env σ ∧ RepL K ρ H xs vs ∧ putL ts xs env = some e1 ∧ ∀ σ1, EnvR K ρ H none e1 σ1 → But (slotsL ts) σ σ1 → Q σ1 H
section
variable {X : Cx} {e : Expr} {es : List Expr} {pos : Pos}
theorem PG.of {t t' : TG} (h : PG X e t) (w : ∀ v σ H Q, t' v σ H Q → t v σ H Q) : PG X e t' := ⟨fun pins s σ H v u Q I r q => h.run pins s σ H v u Q I r (w v σ H Q q)⟩
theorem qg_name (i : Nat) {x : Str} (hN : X.N.Nodup) (hi : X.N[i]? = some x) (hx : Loc X.env.scope x) (hf : X.fn x = true ∨ X.env.scope.names.lookup x = some .local := by first | exact .inl rfl | exact .inr rfl | assumption) : PG X (.Name x pos) (tTg (gw X) (.name i)) :=
  PG.of (pg_name hN hi hx hf) fun v σ H Q ⟨ρ, env, h, x, e1, S, E, r, ep, q⟩ => by
    cases ep
    exact q _ (E.set i r (fun _ z => by cases z)) ⟨List.length_set, fun j hj => List.getElem?_set_ne fun z => hj (by rw [z]; exact List.mem_singleton.mpr rfl)⟩
theorem qgs_nil : PGs X [] (tTgs (gw X) []) := by
  refine ⟨fun pins s σ H vs us Q I r ⟨ρ, env, h, xs, e1, S, E, rx, ep, q⟩ => pgs_nil.run pins s σ H vs us Q I r ?_⟩
  cases rx with
  | nil => cases ep; exact ⟨rfl, q σ E ⟨rfl, fun _ _ => rfl⟩⟩
  | cons _ _ => cases ep
theorem But.trans {vs us : List Nat} {σ σ1 σ2 : St} (a : But vs σ σ1) (b : But us σ1 σ2) : But (vs ++ us) σ σ2 :=
  ⟨b.1.trans a.1, fun i hi => (b.2 i fun z => hi (List.mem_append_right _ z)).trans (a.2 i fun z => hi (List.mem_append_left _ z))⟩
theorem qgs_cons {t : Tg} {ts : List Tg} (h1 : PG X e (tTg (gw X) t)) (h2 : PGs X es (tTgs (gw X) ts))
    (hs : (assignEach (e :: es) X.env).map (·.2) = assign e X.env :: (assignEach es X.env).map (·.2) := by rfl) : PGs X (e :: es) (tTgs (gw X) (t :: ts)) := by
  refine ⟨fun pins s σ H vs us Q I r ⟨ρ, env, h, xs, e1, S, E, rx, ep, q⟩ => (pgs_cons h1 h2 hs).run pins s σ H vs us Q I r ?_⟩
  cases rx with
  | nil => cases ep
  | @cons y v ys ws r1 r2 =>
    have ep : (t.put y env).bind (fun e1 => putL ts ys e1) = some e1 := ep
    cases e2 : t.put y env with
    | none => rw [e2] at ep; cases ep
    | some e3 =>
      rw [e2] at ep
      exact ⟨_, _, rfl, ρ, env, h, y, e3, S, E, r1, e2, fun σ1 E1 B1 => ⟨ρ, e3, h, ys, e1, S, E1, r2, ep, fun σ2 E2 B2 => q σ2 E2 (B1.trans B2)⟩⟩
theorem putL_len : ∀ {ts : List Tg} {xs : List Val} {e e1 : En}, putL ts xs e = some e1 → xs.length = ts.length
  | [], [], _, _, _ => rfl
  | [], _ :: _, _, _, h => by cases h
  | _ :: _, [], _, _, h => by cases h
  | t :: ts, x :: xs, e, e1, h => by
    have h : (t.put x e).bind (fun e1 => putL ts xs e1) = some e1 := h
    cases e2 : t.put x e with
    | none => rw [e2] at h; cases h
    | some e3 => rw [e2] at h; rw [List.length_cons, List.length_cons, putL_len (ts := ts) h]
theorem qg_tup {ts : List Tg} {k : Nat} (hc : X.calm = true) (h : PGs X es (tTgs (gw X) ts))
    (hn : (assignEach es X.env).length = ts.length := by rfl) (hst : (assignEach es X.env).findIdx? (·.1) = none := by rfl) : PG X (.Tuple es k pos) (tTg (gw X) (.tup ts)) :=
  PG.of (pg_tup hc h hn hst) fun v σ H Q ⟨ρ, env, h, x, e1, S, E, r, ep, q⟩ => by
    cases r with
    | @tup a xs vs sq rs =>
      have ep : putL ts xs env = some e1 := ep
      exact ⟨a, vs, rfl, sq, by rw [← rs.length, putL_len ep], ρ, env, h, xs, e1, S, E, rs, ep, q⟩
    | _ => cases ep
/-- target = expression -/
def sAsg (t : Tg) (x : XE) : XS := fun e h => match x e h with
  | .ok v h1 => (match t.put v e with
    | some e1 => .nx e1 h1
    | none => .stuck)
  | .exc c fs h1 => .exc c fs e h1
  | .stuck => .stuck
theorem asg_of {K : Gw} {W : Wd} {t : Tg} {x : XE} {D : Ends} {σ : St} {H : Hp} (h0 : W.s = none) (h : tXS K W (sAsg t x) D σ H) : tAsg (tX K W x) (tTg K t) D σ H := by
  obtain ⟨ρ, env, h, S, E, p⟩ := h
  refine ⟨ρ, env, h, S, E, (afterE (f := fun v h1 => match t.put v env with | some e1 => .nx e1 h1 | none => .stuck) E p).imp fun v h1 ρ1 H1 g1 S1 q u ru => ?_⟩
  cases e1 : t.put v env with
  | none => rw [e1] at q; exact q.elim
  | some e2 => rw [e1] at q; exact ⟨ρ1, env, h1, v, e2, S1, (E.mono g1).drop, ru, e1, fun σ1 E1 _ => q ρ1 H1 σ1 (Grow.refl _ _) S1 (by rw [h0]; exact E1)⟩
theorem qs_asg {W : Wd} {t : Tg} {x : XE} {tg : Expr} (he : QE X W e x) (hg : PG X tg (tTg (gw X) t)) (hs : swapsWithSole [tg] e pos.line X.env = pure false := by rfl) (hw : swappedStores [tg] e X.env = pure none := by rfl)
    (h1 : (assignEach [tg] X.env).map (·.2) = [assign tg X.env] := by rfl) (h0 : W.s = none := by rfl) : QS X W (.Assign [tg] e pos) (sAsg t x) :=
  PS.of (ps_asg he hg hs hw h1) fun _ _ _ => asg_of h0
end

/-! ### what is walked -/
inductive Itn where
  | items (xs : List Val)
  | live (n : Nat) (xs : List Val)
def Itn.xs : Itn → List Val
  | .items xs => xs
  | .live _ xs => xs
def Itn.okAt : Itn → Hh → Prop
  | .items _, _ => True
  | .live n xs, h => h[n]? = some (.lst xs)
structure ItR (K : Gw) (ρ : List Addr) (H : Hp) (it : Itn) (J : It) : Prop where
  go : ∀ (i : Nat) (ρ' : List Addr) (H' : Hp) (h : Hh), Grow ρ ρ' H H' → Sim K ρ' H' h → it.okAt h → i < it.xs.length → J.go i H'
  yld : ∀ (i : Nat) (ρ' : List Addr) (H' : Hp) (h : Hh) (x : Val) (v : V) (H2 : Hp), Grow ρ ρ' H H' → Sim K ρ' H' h → it.okAt h → it.xs[i]? = some x → J.yld i H' v H2 → Grow ρ' ρ' H' H2 ∧ Sim K ρ' H2 h ∧ Rep K ρ' H2 x v
  stop : ∀ (i : Nat) (ρ' : List Addr) (H' : Hp) (h : Hh), Grow ρ ρ' H H' → Sim K ρ' H' h → it.okAt h → it.xs.length ≤ i → J.stop i H'
abbrev XI := En → Hh → Res Itn
def tXI (K : Gw) (W : Wd) (xi : XI) : TI := fun σ H R => ∃ ρ env h, Sim K ρ H h ∧ EnvR K ρ H W.s env σ ∧ Post K W σ ρ H (fun it h1 ρ1 H1 => ∀ J, it.okAt h1 → ItR K ρ1 H1 it J → R J H1) (xi env h)
abbrev QI (X : Cx) (W : Wd) (tg iter : Expr) (xi : XI) : Prop := PI X tg iter (tXI (gw X) W xi)
section
variable {X : Cx} {W : Wd} {tg iter : Expr}
theorem PI.of {t t' : TI} (h : PI X tg iter t) (w : ∀ σ H R, t' σ H R → t σ H R) : PI X tg iter t' := ⟨fun pins s σ H R I q => h.run pins s σ H R I (w σ H R q)⟩
/-- any value that may be walked: a list, a tuple, a text -/
def itOf (v : Val) (h : Hh) : Option Itn := match v with
  | .tup xs => some (.items xs)
  | .scr xs => some (.items xs)
  | .str s => some (.items (s.cps.toList.map fun c => .str ⟨#[c]⟩))
  | .loc n => (match h[n]? with
    | some (.lst xs) => some (.live n xs)
    | _ => none)
  | _ => none
def xIter (x : XE) : XI := fun e h => (x e h).bind fun v h1 => match itOf v h1 with
  | some it => .ok it h1
  | none => .stuck
def iAny (K : PySem.W.Frag) (te : TE) : TI := fun σ H R => te σ H fun x H1 => (∃ a, x = .ref a ∧ (∃ xs, SqL K H1 a xs) ∧ R (Itl K a) H1) ∨ (∃ a, x = .ref a ∧ (∃ xs, SqT K H1 a xs) ∧ R (Itt K a) H1) ∨ ∃ y, x = .str y ∧ R (Its y) H1
theorem pi_any {l : Expr} {tl : TE} (hl : PE X l tl) : PI X tg l (iAny X.K tl) := by
  refine ⟨fun pins s σ H R I h => ?_⟩
  refine thn (hl.run pins s σ H _ I h) fun v s1 ⟨x, H1, I1, r1, q1⟩ => ?_
  rcases q1 with ⟨a, rfl, ⟨xs, hq⟩, q⟩ | ⟨a, rfl, ⟨xs, hq⟩, q⟩ | ⟨y, rfl, q⟩
  · cases r1
    obtain ⟨_, _, pl, _⟩ := I1.list hq
    exact wpAny_pyIter_list pl.isList (pi_one (tk := s1.toks) I1 _ (turn_list a _) ⟨_, Heap.get?_push_size _ rfl, rfl, rfl⟩ q)
  · cases r1
    obtain ⟨its, _, pt, _⟩ := I1.tuple hq
    exact wpAny_pyIter_tuple (show s1.heap.IsTuple a its.toArray from pt) (pi_one (tk := s1.toks) I1 _ (turn_tuple a _) ⟨_, Heap.get?_push_size _ rfl, rfl, rfl⟩ q)
  · obtain ⟨t, rfl⟩ := r1
    by_cases asc : y.cps.all (· < 128) = true
    · exact wpAny_pyIter_ascii asc (pi_one (tk := s1.toks) I1 _ (turn_str _ y t "str_ascii_iterator" (.inl rfl)) ⟨_, Heap.get?_push_size _ rfl, rfl, rfl⟩ q)
    · exact wpAny_pyIter_wide (Bool.not_eq_true _ ▸ asc) (pi_one (tk := s1.toks) I1 _ (turn_str _ y t "str_iterator" (.inr rfl)) ⟨_, Heap.get?_push_size _ rfl, rfl, rfl⟩ q)
theorem itR_list {K : Gw} {ρ : List Addr} {H : Hp} {n : Nat} {a : Addr} {xs : List Val} (ha : ρ[n]? = some a) : ItR K ρ H (.live n xs) (Itl K.K a) := by
  have key : ∀ {ρ' : List Addr} {H' : Hp} {h : Hh}, Grow ρ ρ' H H' → Sim K ρ' H' h → (Itn.live n xs).okAt h → ∃ vs, SqL K.K H' a vs ∧ RepL K ρ' H' xs vs := fun {ρ' H' h} g S ok => by
    obtain ⟨b, e, r⟩ := S.at_ n _ ok
    rw [g.get ha] at e
    cases e
    obtain ⟨vs, e2, r2⟩ := r
    exact ⟨vs, .inl (.inl e2), r2⟩
  refine ⟨fun i ρ' H' h g S ok hi => ?_, fun i ρ' H' h x v H2 g S ok hx y => ?_, fun i ρ' H' h g S ok hi => ?_⟩
  · obtain ⟨vs, q, r⟩ := key g S ok
    exact ⟨vs, vs[i]'(by rw [← r.length]; exact hi), q, List.getElem?_eq_getElem _⟩
  · obtain ⟨vs, q, r⟩ := key g S ok
    obtain ⟨rfl, z⟩ := y
    obtain ⟨u, e, ru⟩ := r.get hx
    rw [z vs q] at e
    cases e
    exact ⟨Grow.refl _ _, S, ru⟩
  · obtain ⟨vs, q, r⟩ := key g S ok
    exact ⟨vs, q, by rw [← r.length]; exact hi⟩
theorem itR_tup {K : Gw} {ρ : List Addr} {H : Hp} {a : Addr} {xs : List Val} {vs : List V} (hq : SqT K.K H a vs) (r : RepL K ρ H xs vs) : ItR K ρ H (.items xs) (Itt K.K a) := by
  refine ⟨fun i ρ' H' h g S ok hi => ?_, fun i ρ' H' h x v H2 g S ok hx y => ?_, fun i ρ' H' h g S ok hi => ?_⟩
  · exact ⟨vs, vs[i]'(by rw [← r.length]; exact hi), g.sqt hq, List.getElem?_eq_getElem _⟩
  · obtain ⟨rfl, z⟩ := y
    obtain ⟨u, e, ru⟩ := r.get hx
    rw [z vs (g.sqt hq)] at e
    cases e
    exact ⟨Grow.refl _ _, S, ru.mono g⟩
  · exact ⟨vs, g.sqt hq, by rw [← r.length]; exact hi⟩
theorem itR_scr {K : Gw} {ρ : List Addr} {H : Hp} {a : Addr} {xs : List Val} {vs : List V} (hq : RoS K.K H a vs) (r : RepL K ρ H xs vs) : ItR K ρ H (.items xs) (Itl K.K a) := by
  refine ⟨fun i ρ' H' h g S ok hi => ?_, fun i ρ' H' h x v H2 g S ok hx y => ?_, fun i ρ' H' h g S ok hi => ?_⟩
  · exact ⟨vs, vs[i]'(by rw [← r.length]; exact hi), (g.ros hq).sql, List.getElem?_eq_getElem _⟩
  · obtain ⟨rfl, z⟩ := y
    obtain ⟨u, e, ru⟩ := r.get hx
    rw [z vs (g.ros hq).sql] at e
    cases e
    exact ⟨Grow.refl _ _, S, ru.mono g⟩
  · exact ⟨vs, (g.ros hq).sql, by rw [← r.length]; exact hi⟩
theorem itR_str {K : Gw} {ρ : List Addr} {H : Hp} (s : Str) : ItR K ρ H (.items (s.cps.toList.map fun c => .str ⟨#[c]⟩)) (Its s) := by
  have hl : (s.cps.toList.map fun c => (Val.str ⟨#[c]⟩)).length = s.cps.size := by rw [List.length_map, Array.length_toList]
  refine ⟨fun i ρ' H' h g S ok hi => ?_, fun i ρ' H' h x v H2 g S ok hx y => ?_, fun i ρ' H' h g S ok hi => ?_⟩
  · have hi : i < (s.cps.toList.map fun c => (Val.str ⟨#[c]⟩)).length := hi
    rw [hl] at hi
    exact hi
  · obtain ⟨rfl, c, ec, rfl⟩ := y
    have hx : (s.cps.toList.map fun c => (Val.str ⟨#[c]⟩))[i]? = some x := hx
    rw [List.getElem?_map, Array.getElem?_toList, ec] at hx
    cases hx
    exact ⟨Grow.refl _ _, S, .str _⟩
  · have hi : (s.cps.toList.map fun c => (Val.str ⟨#[c]⟩)).length ≤ i := hi
    rw [hl] at hi
    exact hi
theorem itR_range {K : Gw} {ρ : List Addr} {H : Hp} (lo : Int) (n : Nat) : ItR K ρ H (.items ((List.range n).map fun (i : Nat) => .int (lo + i))) (Itr lo n) := by
  have hl : ((List.range n).map fun (i : Nat) => Val.int (lo + i)).length = n := by rw [List.length_map, List.length_range]
  refine ⟨fun i ρ' H' h g S ok hi => ?_, fun i ρ' H' h x v H2 g S ok hx y => ?_, fun i ρ' H' h g S ok hi => ?_⟩
  · have hi : i < ((List.range n).map fun (i : Nat) => Val.int (lo + i)).length := hi
    rw [hl] at hi
    exact hi
  · obtain ⟨rfl, rfl⟩ := y
    have hx : ((List.range n).map fun (i : Nat) => Val.int (lo + i))[i]? = some x := hx
    rw [List.getElem?_map] at hx
    have hi : i < n := by
      by_cases hi : i < n
      · exact hi
      · rw [List.getElem?_eq_none (by rw [List.length_range]; omega)] at hx
        cases hx
    rw [List.getElem?_range hi] at hx
    cases hx
    exact ⟨Grow.refl _ _, S, .int _⟩
  · have hi : ((List.range n).map fun (i : Nat) => Val.int (lo + i)).length ≤ i := hi
    rw [hl] at hi
    exact hi
theorem iter_of {K : Gw} {x : XE} {σ : St} {H : Hp} {R : It → Hp → Prop} (h : tXI K W (xIter x) σ H R) : iAny K.K (tX K W x) σ H R := by
  obtain ⟨ρ, env, h, S, E, p⟩ := h
  refine ⟨ρ, env, h, S, E, (Post.bind p).imp fun v h1 ρ1 H1 g1 S1 q u ru => ?_⟩
  cases ru with
  | @tup a xs vs sq rs => exact .inr (.inl ⟨a, rfl, ⟨_, sq⟩, q ρ1 H1 (Grow.refl _ _) S1 _ trivial (itR_tup sq rs)⟩)
  | @scr a xs vs sq rs => exact .inl ⟨a, rfl, ⟨_, sq.sql⟩, q ρ1 H1 (Grow.refl _ _) S1 _ trivial (itR_scr sq rs)⟩
  | str s => exact .inr (.inr ⟨s, rfl, q ρ1 H1 (Grow.refl _ _) S1 _ trivial (itR_str s)⟩)
  | @loc n a ea =>
    obtain ⟨o, e2, ro⟩ := S1.get ea
    have q : Post K W σ ρ1 H1 (fun it h1 ρ1 H1 => ∀ J, it.okAt h1 → ItR K ρ1 H1 it J → R J H1) (match (match h1[n]? with | some (.lst xs) => some (Itn.live n xs) | _ => none) with | some it => Res.ok it h1 | none => .stuck) := q
    rw [e2] at q
    cases o with
    | lst xs =>
      obtain ⟨vs, e3, r3⟩ := ro
      exact .inl ⟨a, rfl, ⟨vs, .inl (.inl e3)⟩, q ρ1 H1 (Grow.refl _ _) S1 _ e2 (itR_list ea)⟩
    | dct kvs => exact q.elim
    | ins C fs => exact q.elim
  | _ => exact q.elim
theorem qi_any {x : XE} (h : QE X W iter x) : QI X W tg iter (xIter x) := PI.of (pi_any h) fun _ _ _ => iter_of
/-- range(n), range(a, b) -/
def xRange1 (a : XE) : XI := fun e h => (a e h).bind fun v h1 => match v with
  | .int j => if -(2 ^ 62) ≤ j ∧ j < 2 ^ 62 then .ok (.items ((List.range j.toNat).map fun (i : Nat) => .int ((0 : Int) + i))) h1 else .stuck
  | _ => .stuck
def xRange2 (a b : XE) : XI := fun e h => (a e h).bind fun v h1 => (b e h1).bind fun w h2 => match v, w with
  | .int i, .int j => if -(2 ^ 62) ≤ i ∧ i < 2 ^ 62 ∧ -(2 ^ 62) ≤ j ∧ j < 2 ^ 62 then .ok (.items ((List.range (j - i).toNat).map fun (k : Nat) => .int (i + k))) h2 else .stuck
  | _, _ => .stuck
theorem qi_range1 {a : Expr} {xa : XE} {p pos : Pos} (hg : Gl X "range") (hm : X.mg "range" = none) (ha : QE X W a xa) (hs : starEach [a] X.env = [(false, eval a X.env)] := by rfl)
    (hs2 : starEach (a :: []) X.env = (false, eval a X.env) :: starEach [] X.env := by rfl) : QI X W tg (.Call (.Name "range" p) [a] [] pos) (xRange1 xa) :=
  PI.of (pi_range1 hg hm (pa_cons ha pa_nil hs2) hs) fun σ H R ⟨ρ, env, h, S, E, pp⟩ => ⟨ρ, env, h, S, E, (Post.bind pp).imp fun v h1 ρ1 H1 g1 S1 q u ru => by
    cases ru with
    | int i =>
      have q : Post (gw X) W σ ρ1 H1 (fun (it : Itn) (h1 : Hh) ρ1 H1 => ∀ J, it.okAt h1 → ItR (gw X) ρ1 H1 it J → R J H1) (if -(2 ^ 62) ≤ i ∧ i < 2 ^ 62 then .ok (.items ((List.range i.toNat).map fun (k : Nat) => .int ((0 : Int) + k))) h1 else .stuck) := q
      by_cases hi : -(2 ^ 62) ≤ i ∧ i < 2 ^ 62
      · rw [if_pos hi] at q
        exact ⟨i, rfl, hi.1, hi.2, q ρ1 H1 (Grow.refl _ _) S1 _ trivial (itR_range 0 _)⟩
      · rw [if_neg hi] at q
        exact q.elim
    | _ => exact q.elim⟩
theorem qi_range2 {a b : Expr} {xa xb : XE} {p pos : Pos} (hg : Gl X "range") (hm : X.mg "range" = none) (ha : QE X W a xa) (hb : QE X W b xb) (hs : starEach [a, b] X.env = [(false, eval a X.env), (false, eval b X.env)] := by rfl) (hs2 : starEach [b] X.env = [(false, eval b X.env)] := by rfl)
    (hs3 : starEach (a :: [b]) X.env = (false, eval a X.env) :: starEach [b] X.env := by rfl) (hs4 : starEach (b :: []) X.env = (false, eval b X.env) :: starEach [] X.env := by rfl) : QI X W tg (.Call (.Name "range" p) [a, b] [] pos) (xRange2 xa xb) :=
  PI.of (pi_range2 hg hm (pa_cons ha (pa_cons hb pa_nil hs4) hs3) hs hs2) fun σ H R ⟨ρ, env, h, S, E, pp⟩ => ⟨ρ, env, h, S, E, (Post.bind pp).imp fun v h1 ρ1 H1 g1 S1 q u ru => ⟨ρ1, env, h1, S1, E.mono g1, (Post.bind q).imp fun w h2 ρ2 H2 g2 S2 q2 u2 ru2 => by
    cases ru with
    | int i =>
      cases ru2 with
      | int j =>
        have q : Post (gw X) W σ ρ2 H2 (fun (it : Itn) (h1 : Hh) ρ1 H1 => ∀ J, it.okAt h1 → ItR (gw X) ρ1 H1 it J → R J H1) (if -(2 ^ 62) ≤ i ∧ i < 2 ^ 62 ∧ -(2 ^ 62) ≤ j ∧ j < 2 ^ 62 then .ok (.items ((List.range (j - i).toNat).map fun (k : Nat) => .int (i + k))) h2 else .stuck) := q2
        by_cases hi : -(2 ^ 62) ≤ i ∧ i < 2 ^ 62 ∧ -(2 ^ 62) ≤ j ∧ j < 2 ^ 62
        · rw [if_pos hi] at q
          exact ⟨i, j, rfl, hi, q ρ2 H2 (Grow.refl _ _) S2 _ trivial (itR_range i _)⟩
        · rw [if_neg hi] at q
          exact q.elim
      | _ => exact q2.elim
    | _ => exact q2.elim⟩⟩
end

/-! ### for -/
open Classical in
noncomputable def forLoop (it : Itn) (t : Tg) (body : XS) : List Val → En → Hh → RS
  | [], e, h => if it.okAt h then .nx e h else .stuck
  | v :: vs, e, h => if it.okAt h then (match t.put v e with
    | none => .stuck
    | some e1 => (match body e1 h with
      | .nx e2 h2 => forLoop it t body vs e2 h2
      | .ct e2 h2 => forLoop it t body vs e2 h2
      | .bk e2 h2 => .nx e2 h2
      | .rt v h2 => .rt v h2
      | .exc c fs e2 h2 => .exc c fs e2 h2
      | .stuck => .stuck)) else .stuck
noncomputable def sFor (xi : XI) (t : Tg) (body : XS) : XS := fun e h => match xi e h with
  | .ok it h1 => forLoop it t body it.xs e h1
  | .exc c fs h1 => .exc c fs e h1
  | .stuck => .stuck
section
variable {X : Cx} {W : Wd} {tg iter : Expr} {body : List Stmt} {pos : Pos} {xi : XI} {t : Tg} {xb : XS}
theorem for_of {K : Gw} {D : Ends} {σ : St} {H : Hp} (h0 : W.s = none) (h : tXS K W (sFor xi t xb) D σ H) : tFor (tXI K W xi) (tTg K t) (tXS K W xb) D σ H := by
  obtain ⟨ρ, env, h, S, E, p⟩ := h
  refine ⟨ρ, env, h, S, E, ?_⟩
  unfold sFor at p
  cases e : xi env h with
  | exc c fs h1 => rw [e] at p; exact fun ρ1 H1 d cv g1 S1 xc => p ρ1 H1 d σ cv g1 S1 (E.mono g1) xc
  | stuck => rw [e] at p; exact p.elim
  | ok it h1 =>
    rw [e] at p
    intro ρ1 H1 g1 S1
    have p1 : PostS K W ρ1 H1 D (forLoop it t xb it.xs env h1) := PostS.mono g1 p
    intro J ok0 hJ
    refine ⟨fun i m σ2 H2 => m = it.xs.length - i ∧ i ≤ it.xs.length ∧ ∃ ρ2 env2 h2, Grow ρ1 ρ2 H1 H2 ∧ Sim K ρ2 H2 h2 ∧ EnvR K ρ2 H2 W.s env2 σ2 ∧ PostS K W ρ2 H2 D (forLoop it t xb (it.xs.drop i) env2 h2), ⟨it.xs.length, by simp, Nat.zero_le _, ρ1, env, h1, Grow.refl _ _, S1, E.mono g1, by rw [List.drop_zero]; exact p1⟩, ?_⟩
    rintro i m σ2 H2 ⟨rfl, hi, ρ2, env2, h2, g2, S2, E2, p2⟩
    by_cases hlt : i < it.xs.length
    · rw [List.drop_eq_getElem_cons hlt] at p2
      unfold forLoop at p2
      by_cases ok : it.okAt h2
      · rw [if_pos ok] at p2
        refine .inr ⟨hJ.go i ρ2 H2 h2 g2 S2 ok hlt, fun σ' H' => ∃ ρ' env' h', Grow ρ1 ρ' H1 H' ∧ Sim K ρ' H' h' ∧ EnvR K ρ' H' W.s env' σ' ∧ PostS K W ρ' H' D (forLoop it t xb (it.xs.drop (i + 1)) env' h'), fun σ' H' hn => ⟨it.xs.length - (i + 1), by omega, rfl, hlt, hn⟩, fun x H3 y => ?_⟩
        obtain ⟨g3, S3, r3⟩ := hJ.yld i ρ2 H2 h2 _ x H3 g2 S2 ok (List.getElem?_eq_getElem hlt) y
        cases e2 : t.put it.xs[i] env2 with
        | none => rw [e2] at p2; exact p2.elim
        | some e1 =>
          rw [e2] at p2
          dsimp only at p2
          refine ⟨ρ2, env2, h2, it.xs[i], e1, S3, (E2.mono g3).drop, r3, e2, fun σ1 E1 _ => ⟨ρ2, e1, h2, S3, by rw [h0]; exact E1, ?_⟩⟩
          have g23 := g2.trans g3
          have p3 := PostS.mono g3 p2
          cases e3 : xb e1 h2 with
          | nx e4 h4 => rw [e3] at p3; exact fun ρ' H' σ' g s er => ⟨ρ', e4, h4, g23.trans g, s, er, PostS.mono g p3⟩
          | ct e4 h4 => rw [e3] at p3; exact fun ρ' H' σ' g s er => ⟨ρ', e4, h4, g23.trans g, s, er, PostS.mono g p3⟩
          | bk e4 h4 => rw [e3] at p3; exact p3
          | rt v h4 => rw [e3] at p3; exact p3
          | exc c fs e4 h4 => rw [e3] at p3; exact p3
          | stuck => rw [e3] at p3; exact p3
      · rw [if_neg ok] at p2; exact p2.elim
    · have e1 : i = it.xs.length := by omega
      subst e1
      rw [List.drop_length] at p2
      unfold forLoop at p2
      by_cases ok : it.okAt h2
      · rw [if_pos ok] at p2
        exact .inl ⟨hJ.stop _ ρ2 H2 h2 g2 S2 ok (Nat.le_refl _), p2 ρ2 H2 σ2 (Grow.refl _ _) S2 E2⟩
      · rw [if_neg ok] at p2; exact p2.elim
theorem qs_for (hp : PassesOwn (model X.prog X.w) X.A X.env X.xe) (hc : X.calm = true) (hi : QI X W tg iter xi) (hg : PG X tg (tTg (gw X) t)) (hb : QSs X W body xb)
    (hs : ∀ x, foldedSetIterable iter X.env x = pure x := by intro _; rfl) (h0 : W.s = none := by rfl) : QS X W (.For tg iter body [] pos) (sFor xi t xb) := PS.of (ps_for hp hc hi hg hb hs) fun _ _ _ => for_of h0
end
end EX

set_option Elab.async false
set_option linter.all false
set_option maxRecDepth 100000
set_option maxHeartbeats 1000000
namespace EX
open PySem L2

/-! ### comprehensions -/
def wipeE (e : En) : List Nat → En
  | [] => e
  | v :: vs => (wipeE e vs).set v none
def Res.bindS {α β : Type} (r : Res α) (f : α → Hh → Res β) : Res β := match r with
  | .ok a h => f a h
  | _ => .stuck
@[simp] theorem Res.bindS_ok {α β : Type} (a : α) (h : Hh) (f : α → Hh → Res β) : (Res.ok a h).bindS f = f a h := rfl
open Classical in
noncomputable def compLoop (it : Itn) (t : Tg) (tt : XT) (x : XE) (n : Nat) (e : En) : List Val → Hh → Res Unit
  | [], h => if it.okAt h then .ok () h else .stuck
  | v :: vs, h => if it.okAt h then (match t.put v e with
    | none => .stuck
    | some e1 => (tt e1 h).bindS fun b h1 => if b = true then (x e1 h1).bindS fun y h2 => (match h2[n]? with
        | some (.lst acc) => if acc.length < sizeLine then compLoop it t tt x n e vs (h2.set n (.lst (acc ++ [y]))) else .stuck
        | _ => .stuck)
      else compLoop it t tt x n e vs h1) else .stuck
noncomputable def xComp (xi : XI) (t : Tg) (tt : XT) (x : XE) (vs : List Nat) : XE := fun e h => (xi e h).bind fun it h1 =>
  (compLoop it t tt x h1.length (wipeE e vs) it.xs (h1 ++ [.lst []])).bind fun _ h2 => .ok (.loc h1.length) h2
def xYes : XT := fun _ h => .ok true h
abbrev WN : Wd := ⟨fun _ _ _ _ => False, none⟩
theorem EnvR.wipe {K : Gw} {ρ : List Addr} {H : Hp} {env : En} {σ : St} {sx : Option Sx} (h : EnvR K ρ H sx env σ) : ∀ vs : List Nat, EnvR K ρ H none (wipeE env vs) (L2.wipe σ vs)
  | [] => h.drop
  | v :: vs => (EnvR.wipe h vs).unset v none
theorem wipe_get (σ : St) (i : Nat) : ∀ vs : List Nat, (L2.wipe σ vs)[i]? = if i ∈ vs then σ[i]?.map (fun _ => none) else σ[i]?
  | [] => by simp [L2.wipe]
  | v :: vs => by
    unfold L2.wipe
    have ih := wipe_get σ i vs
    by_cases hv : v = i
    · subst hv
      rw [if_pos List.mem_cons_self]
      by_cases hl : v < σ.length
      · rw [List.getElem?_set_self (by rw [L2.wipe_length]; exact hl), List.getElem?_eq_getElem hl]
        rfl
      · rw [List.getElem?_eq_none (by rw [List.length_set, L2.wipe_length]; omega), List.getElem?_eq_none (by omega)]
        rfl
    · rw [List.getElem?_set_ne hv, ih]
      by_cases hm : i ∈ vs
      · rw [if_pos hm, if_pos (List.mem_cons_of_mem _ hm)]
      · rw [if_neg hm, if_neg (by simp only [List.mem_cons, not_or]; exact ⟨fun z => hv z.symm, hm⟩)]
theorem wipe_but {vs us : List Nat} {σ σ1 : St} (b : But us (L2.wipe σ vs) σ1) (hv : ∀ i ∈ us, i ∈ vs) : L2.wipe σ1 vs = L2.wipe σ vs := by
  apply List.ext_getElem?
  intro i
  rw [wipe_get, wipe_get]
  have hl : σ1.length = σ.length := by rw [b.1, L2.wipe_length]
  by_cases hm : i ∈ vs
  · rw [if_pos hm, if_pos hm]
    by_cases hi : i < σ.length
    · rw [List.getElem?_eq_getElem hi, List.getElem?_eq_getElem (by rw [hl]; exact hi)]
      rfl
    · rw [List.getElem?_eq_none (by omega), List.getElem?_eq_none (by omega)]
  · rw [if_neg hm, if_neg hm, b.2 i (fun z => hm (hv i z)), wipe_get, if_neg hm]
theorem Post.bindS {α β γ : Type} {K : Gw} {W : Wd} {σ σ' : St} {ρ : List Addr} {H : Hp} {R : γ → Hh → List Addr → Hp → Prop} {r : Res α} {f : α → Hh → Res β} {g : β → Hh → Res γ} (h : Post K W σ ρ H R ((r.bindS f).bind g)) :
    Post K WN σ' ρ H (fun a h1 ρ1 H1 => Post K W σ ρ1 H1 R ((f a h1).bind g)) r := by
  cases r with
  | ok a h' => exact fun ρ2 H2 g2 _ => Post.mono g2 h
  | exc c fs h' => exact h.elim
  | stuck => exact h
section
variable {X : Cx} {W : Wd}
theorem comp_of {K : Gw} {xi : XI} {t : Tg} {tt : XT} {x : XE} {vs : List Nat} {σ : St} {H : Hp} {Q : VK} (hv : ∀ i ∈ t.slots, i ∈ vs) (h : tX K W (xComp xi t tt x vs) σ H Q) : tLc (tXI K W xi) (tTg K t) (tXT K WN tt) (tX K WN x) vs σ H Q := by
  obtain ⟨ρ, env, h, S, E, p⟩ := h
  refine ⟨ρ, env, h, S, E, (Post.bind p).imp fun it h1 ρ1 H1 g1 S1 q J ok0 hJ D hD => ?_⟩
  obtain ⟨g2, S2, r2⟩ := new_loc (xs := []) (vs := []) S1 hD .nil
  have hat : (ρ1 ++ [D])[h1.length]? = some D := by
    rw [List.getElem?_append_right (by rw [S1.len]; exact Nat.le_refl _), S1.len, Nat.sub_self]
    rfl
  refine ⟨fun i m H3 => m = it.xs.length - i ∧ i ≤ it.xs.length ∧ ∃ ρ3 h3, Grow (ρ1 ++ [D]) ρ3 (upd H1 D (.lst [])) H3 ∧ Sim K ρ3 H3 h3 ∧ Post K W σ ρ3 H3 (RV K Q) ((compLoop it t tt x h1.length (wipeE env vs) (it.xs.drop i) h3).bind fun _ h2 => .ok (.loc h1.length) h2),
    ⟨it.xs.length, by simp, Nat.zero_le _, _, _, Grow.refl _ _, S2, by rw [List.drop_zero]; exact Post.mono g2 q⟩, ?_⟩
  rintro i m H3 ⟨rfl, hi, ρ3, h3, g3, S3, p3⟩
  have g13 := g2.trans g3
  by_cases hlt : i < it.xs.length
  · rw [List.drop_eq_getElem_cons hlt] at p3
    unfold compLoop at p3
    by_cases ok : it.okAt h3
    · rw [if_pos ok] at p3
      refine .inr ⟨hJ.go i ρ3 H3 h3 g13 S3 ok hlt, fun H' => ∃ ρ' h', Grow (ρ1 ++ [D]) ρ' (upd H1 D (.lst [])) H' ∧ Sim K ρ' H' h' ∧ Post K W σ ρ' H' (RV K Q) ((compLoop it t tt x h1.length (wipeE env vs) (it.xs.drop (i + 1)) h').bind fun _ h2 => .ok (.loc h1.length) h2), fun H' hn => ⟨it.xs.length - (i + 1), by omega, rfl, hlt, hn⟩, fun y H4 hy => ?_⟩
      obtain ⟨g4, S4, r4⟩ := hJ.yld i ρ3 H3 h3 _ y H4 g13 S3 ok (List.getElem?_eq_getElem hlt) hy
      cases e2 : t.put it.xs[i] (wipeE env vs) with
      | none => rw [e2] at p3; exact p3.elim
      | some e1 =>
        rw [e2] at p3
        dsimp only at p3
        have g34 := g3.trans g4
        refine ⟨ρ3, wipeE env vs, h3, it.xs[i], e1, S4, (((E.mono g1).mono g13).mono g4).wipe vs, r4, e2, fun σ1 E1 B1 => ⟨wipe_but B1 hv, ρ3, e1, h3, S4, E1, ?_⟩⟩
        refine (Post.bindS (Post.mono g4 p3)).imp fun b h5 ρ5 H5 g5 S5 q5 => ?_
        have g35 := g34.trans g5
        cases b with
        | false => exact ⟨ρ5, h5, g35, S5, q5⟩
        | true =>
          refine ⟨ρ5, e1, h5, S5, E1.mono g5, ?_⟩
          refine (Post.bindS q5).imp fun z h6 ρ6 H6 g6 S6 q6 u ru => ?_
          have g36 := g35.trans g6
          obtain ⟨o, eo, ro⟩ := S6.get (g36.get hat)
          rw [eo] at q6
          cases o with
          | lst acc =>
            obtain ⟨va, ea, ra⟩ := ro
            dsimp only at q6
            by_cases hz : acc.length < sizeLine
            · rw [if_pos hz] at q6
              have mu : Mu (H6 D) := by rw [ea]; trivial
              have g7 : Grow ρ6 ρ6 H6 (upd H6 D (.lst (va ++ [u]))) := Grow.put mu
              exact ⟨va, ea, by rw [← ra.length]; exact hz, ρ6, _, g36.trans g7, S6.put (u := .lst (acc ++ [z])) (g36.get hat) mu ⟨_, upd_same, (ra.mono g7).append (.cons (ru.mono g7) .nil)⟩, Post.mono g7 q6⟩
            · rw [if_neg hz] at q6; exact q6.elim
          | dct kvs => exact q6.elim
          | ins C fs => exact q6.elim
    · rw [if_neg ok] at p3; exact p3.elim
  · have e1 : i = it.xs.length := by omega
    subst e1
    rw [List.drop_length] at p3
    unfold compLoop at p3
    by_cases ok : it.okAt h3
    · rw [if_pos ok] at p3
      exact .inl ⟨hJ.stop _ ρ3 H3 h3 g13 S3 ok (Nat.le_refl _), p3 ρ3 H3 (Grow.refl _ _) S3 _ (.loc (g3.get hat))⟩
    · rw [if_neg ok] at p3; exact p3.elim
theorem PTs.of {ifs : List Expr} {t t' : TT} (h : PTs X ifs t) (w : ∀ σ H Q, t' σ H Q → t σ H Q) : PTs X ifs t' := ⟨fun pins s σ H Q I q => h.run pins s σ H Q I (w σ H Q q)⟩
theorem qts_nil : PTs X [] (tXT (gw X) W xYes) := PTs.of pts_nil fun σ H Q ⟨ρ, env, h, S, E, p⟩ => p ρ H (Grow.refl _ _) S
theorem qts_one {c : Expr} {y : XT} (h : QT X W c y) : PTs X [c] (tXT (gw X) W y) := pts_one h
theorem q_lc {elt tg iter : Expr} {ifs : List Expr} {scope : Scope} {own : List (Str × Nat)} {pos : Pos} {xi : XI} {t : Tg} {tt : XT} {x : XE} (hc : X.calm = true) (hN : X.N.Nodup) (hi : QI X W tg iter xi) (ok : BlkOk X.N X.env.scope scope own)
    (hg : ∀ (s : Shared) (H : Hp) (C : Addr) (cl : List (Str × Addr)) (fp : List Addr), PG (X.blk s H scope (compEnvC scope cl C X.env) fp) tg (tTg (gw X) t))
    (ht : ∀ (s : Shared) (H : Hp) (C : Addr) (cl : List (Str × Addr)) (fp : List Addr), PTs (X.blk s H scope (compEnvC scope cl C X.env) fp) ifs (tXT (gw X) WN tt))
    (he : ∀ (s : Shared) (H : Hp) (C : Addr) (cl : List (Str × Addr)) (fp : List Addr), PE (X.blk s H scope (compEnvC scope cl C X.env) fp) elt (tX (gw X) WN x))
    (hv : ∀ i ∈ t.slots, i ∈ own.map (·.2) := by decide) (hs : ∀ x, foldedSetIterable iter X.env x = pure x := by intro _; rfl) :
    QE X W (.ListComp elt [⟨tg, iter, ifs, 0⟩] scope pos) (xComp xi t tt x (own.map (·.2))) := PE.of (pe_lc hc hN hi ok hg ht he hs) fun _ _ _ => comp_of hv
/-- name = [..] on one line -/
theorem qs_setLc (i : Nat) {y : Str} {py spos : Pos} {elt tg iter : Expr} {ifs : List Expr} {scope : Scope} {own : List (Str × Nat)} {pos : Pos} {xi : XI} {t : Tg} {tt : XT} {x : XE} (hc : X.calm = true) (hN : X.N.Nodup) (hy : X.N[i]? = some y) (hyl : X.env.scope.names.lookup y = some .local)
    (hsw : swapsWith (.ListComp elt [⟨tg, iter, ifs, 0⟩] scope pos) (some (.Name y py)) spos.line X.env = pure true) (hi : QI X W tg iter xi) (ok : BlkOk X.N X.env.scope scope own)
    (hg : ∀ (s : Shared) (H : Hp) (C : Addr) (cl : List (Str × Addr)) (fp : List Addr), PG (X.blk s H scope (compEnvC scope cl C X.env) fp) tg (tTg (gw X) t))
    (ht : ∀ (s : Shared) (H : Hp) (C : Addr) (cl : List (Str × Addr)) (fp : List Addr), PTs (X.blk s H scope (compEnvC scope cl C X.env) fp) ifs (tXT (gw X) WN tt))
    (he : ∀ (s : Shared) (H : Hp) (C : Addr) (cl : List (Str × Addr)) (fp : List Addr), PE (X.blk s H scope (compEnvC scope cl C X.env) fp) elt (tX (gw X) WN x))
    (hv : ∀ i ∈ t.slots, i ∈ own.map (·.2) := by decide) (hs : ∀ x, foldedSetIterable iter X.env x = pure x := by intro _; rfl) (hn : ∀ q, W.s = some q → q.slot ≠ i := by first | (intro _ h; cases h; done) | (intro _ h; cases h; decide)) :
    QS X W (.Assign [.Name y py] (.ListComp elt [⟨tg, iter, ifs, 0⟩] scope pos) spos) (sSet i (xComp xi t tt x (own.map (·.2)))) :=
  PS.of (ps_setLc hc hN hy hyl hsw hi ok hg ht he hs) fun D σ H h => comp_of hv (set_of hn h)

/-! ### while -/
def whileLoop (y : XT) (body : XS) : Nat → En → Hh → RS
  | 0, _, _ => .stuck
  | n + 1, e, h => match y e h with
    | .ok c h1 => if c = true then (match body e h1 with
        | .nx e2 h2 => whileLoop y body n e2 h2
        | .ct e2 h2 => whileLoop y body n e2 h2
        | .bk e2 h2 => .nx e2 h2
        | .rt v h2 => .rt v h2
        | .exc c fs e2 h2 => .exc c fs e2 h2
        | .stuck => .stuck)
      else .nx e h1
    | .exc c fs h1 => .exc c fs e h1
    | .stuck => .stuck
def sWhile (n : Nat) (y : XT) (body : XS) : XS := fun e h => whileLoop y body n e h
theorem while_of {K : Gw} {n : Nat} {y : XT} {xb : XS} {D : Ends} {σ : St} {H : Hp} (h : tXS K W (sWhile n y xb) D σ H) : tWhile (tXT K W y) (tXS K W xb) D σ H := by
  obtain ⟨ρ, env, h, S, E, p⟩ := h
  refine ⟨fun m σ' H' => ∃ ρ' e' h', Sim K ρ' H' h' ∧ EnvR K ρ' H' W.s e' σ' ∧ PostS K W ρ' H' D (whileLoop y xb m e' h'), ⟨n, ρ, env, h, S, E, p⟩, ?_⟩
  rintro m σ1 H1 ⟨ρ1, e1, h1, S1, E1, p1⟩
  cases m with
  | zero => exact p1.elim
  | succ m =>
    refine ⟨ρ1, e1, h1, S1, E1, ?_⟩
    unfold whileLoop at p1
    cases ey : y e1 h1 with
    | exc c fs h2 => rw [ey] at p1; exact fun ρ2 H2 d cv g2 S2 xc => p1 ρ2 H2 d σ1 cv g2 S2 (E1.mono g2) xc
    | stuck => rw [ey] at p1; exact p1.elim
    | ok c h2 =>
      rw [ey] at p1
      dsimp only at p1
      intro ρ2 H2 g2 S2
      cases c with
      | false =>
        rw [if_neg Bool.false_ne_true] at p1
        exact p1 ρ2 H2 σ1 g2 S2 (E1.mono g2)
      | true =>
        rw [if_pos rfl] at p1
        refine ⟨fun σ' H' => ∃ ρ' e' h', Sim K ρ' H' h' ∧ EnvR K ρ' H' W.s e' σ' ∧ PostS K W ρ' H' D (whileLoop y xb m e' h'), fun σ' H' hn => ⟨m, Nat.lt_succ_self _, hn⟩, ρ2, e1, h2, S2, E1.mono g2, ?_⟩
        have p3 := PostS.mono g2 p1
        cases e3 : xb e1 h2 with
        | nx e4 h4 => rw [e3] at p3; exact fun ρ' H' σ' g s er => ⟨ρ', e4, h4, s, er, PostS.mono g p3⟩
        | ct e4 h4 => rw [e3] at p3; exact fun ρ' H' σ' g s er => ⟨ρ', e4, h4, s, er, PostS.mono g p3⟩
        | bk e4 h4 => rw [e3] at p3; exact p3
        | rt v h4 => rw [e3] at p3; exact p3
        | exc c fs e4 h4 => rw [e3] at p3; exact p3
        | stuck => rw [e3] at p3; exact p3
theorem qs_while (n : Nat) {c : Expr} {body : List Stmt} {pos : Pos} {y : XT} {xb : XS} (hp : PassesOwn (model X.prog X.w) X.A X.env X.xe) (hc : QT X W c y) (hb : QSs X W body xb) : QS X W (.While c body [] pos) (sWhile n y xb) :=
  PS.of (ps_while hp hc hb) fun _ _ _ => while_of
end

/-! ### calls of defs -/
abbrev Fn := List Val → Hh → Res Val
def spX (K : Gw) (n : Nat) (G : Fn) : Sp := fun vs H Q E => ∃ ρ h as, Sim K ρ H h ∧ RepL K ρ H as vs ∧ as.length = n ∧ Post K ⟨fun c d _ H => E c d H, none⟩ [] ρ H (RV K Q) (G as h)
def xCall (n : Nat) (G : Fn) (a : XA) : XE := fun e h => (a e h).bind fun vs h1 => if vs.length = n then G vs h1 else .stuck
mutual
def Val.und (n : Nat) : Val → Bool
  | .tup xs => undL n xs
  | .scr xs => undL n xs
  | .loc m => decide (m < n)
  | _ => true
def undL (n : Nat) : List Val → Bool
  | [] => true
  | x :: xs => x.und n && undL n xs
end
def Ob.und (n : Nat) : Ob → Bool
  | .lst xs => undL n xs
  | .dct kvs => undL n (kvs.map (·.2))
  | .ins _ fs => undL n (fs.map (·.2))
def gc (n : Nat) (v : Val) (h : Hh) : Hh := if v.und n = true ∧ (h.take n).all (Ob.und n) = true then h.take n else h
def gcX (n : Nat) (fs : List (Str × Val)) (h : Hh) : Hh := if undL n (fs.map (·.2)) = true ∧ (h.take n).all (Ob.und n) = true then h.take n else h
def callF (N : Nat) (body : XS) : Fn := fun as h => match body (as.map some ++ List.replicate (N - as.length) none) h with
  | .rt v h' => .ok v (gc h.length v h')
  | .nx _ h' => .ok .non (gc h.length .non h')
  | .exc c fs _ h' => .exc c fs (gcX h.length fs h')
  | _ => .stuck
section
variable {K : Gw} {ρ : List Addr} {H : Hp} {n : Nat}
mutual
theorem Rep.cut : ∀ {x : Val} {v : V}, Rep K ρ H x v → x.und n = true → Rep K (ρ.take n) H x v
  | _, _, .non, _ => .non
  | _, _, .bl b, _ => .bl b
  | _, _, .int i, _ => .int i
  | _, _, .str s, _ => .str s
  | _, _, .tup s r, h => .tup s (RepL.cut r (by simpa [Val.und] using h))
  | _, _, .scr s r, h => .scr s (RepL.cut r (by simpa [Val.und] using h))
  | _, _, .loc e, h => .loc (by rw [List.getElem?_take_of_lt (by simpa [Val.und] using h)]; exact e)
  | _, _, .ref e, _ => .ref e
  | _, _, .ty n, _ => .ty n
theorem RepL.cut : ∀ {xs : List Val} {vs : List V}, RepL K ρ H xs vs → undL n xs = true → RepL K (ρ.take n) H xs vs
  | _, _, .nil, _ => .nil
  | _, _, .cons a b, h => by
    simp only [undL, Bool.and_eq_true] at h
    exact .cons (Rep.cut a h.1) (RepL.cut b h.2)
end
theorem RepF.cut {κ : Type} : ∀ {fs : List (κ × Val)} {vs : List (κ × V)}, RepF K ρ H fs vs → undL n (fs.map (·.2)) = true → RepF K (ρ.take n) H fs vs
  | _, _, .nil, _ => .nil
  | _, _, .cons a b, h => by
    simp only [List.map_cons, undL, Bool.and_eq_true] at h
    exact .cons ⟨a.1, a.2.cut h.1⟩ (RepF.cut b h.2)
theorem Sim.cut {h : Hh} (S : Sim K ρ H h) (hb : (h.take n).all (Ob.und n) = true) : Sim K (ρ.take n) H (h.take n) := by
  refine ⟨by rw [List.length_take, List.length_take, S.len], S.nd.sublist (List.take_sublist _ _), fun j o e => ?_⟩
  have hj : j < n := by
    have := (List.getElem?_eq_some_iff.mp e).1
    rw [List.length_take] at this
    omega
  have hbo : o.und n = true := List.all_eq_true.mp hb o (List.mem_of_getElem? e)
  rw [List.getElem?_take_of_lt hj] at e
  obtain ⟨a, e1, r⟩ := S.at_ j o e
  refine ⟨a, by rw [List.getElem?_take_of_lt hj]; exact e1, ?_⟩
  cases o with
  | lst xs => obtain ⟨vs, e2, r2⟩ := r; exact ⟨vs, e2, r2.cut hbo⟩
  | dct kvs => obtain ⟨vs, e2, r2⟩ := r; exact ⟨vs, e2, r2.cut hbo⟩
  | ins C fs => obtain ⟨Ca, dx, vs, m, e2, d, r2⟩ := r; exact ⟨Ca, dx, vs, m, e2, d, r2.cut hbo⟩
theorem Grow.cut {ρ' : List Addr} {H' : Hp} (g : Grow ρ ρ' H H') (hn : ρ.length = n) : Grow ρ (ρ'.take n) H H' := by
  obtain ⟨m, rfl⟩ := g.pre
  rw [List.take_append_of_le_length (by omega), List.take_of_length_le (by omega)]
  exact ⟨⟨[], by simp⟩, g.xd, g.tup, g.frz⟩
theorem XcR.cut {fs : List (Str × Val)} {d : Option Addr} (x : XcR K ρ H fs d) (h : undL n (fs.map (·.2)) = true) : XcR K (ρ.take n) H fs d := by
  cases d with
  | none => exact x
  | some a => obtain ⟨vs, e, r⟩ := x; exact ⟨vs, e, r.cut h⟩
theorem start_env {as : List Val} {vs : List V} {N : List Str} (r : RepL K ρ H as vs) : EnvR K ρ H none (as.map some ++ List.replicate (N.length - as.length) none) (L2.start N vs) := by
  unfold L2.start
  refine ⟨by rw [List.length_append, List.length_append, List.length_map, List.length_map, List.length_replicate, List.length_replicate, r.length], fun i x e => ?_, fun _ e => by cases e⟩
  by_cases hi : i < as.length
  · rw [List.getElem?_append_left (by rw [List.length_map]; exact hi), List.getElem?_map] at e
    cases e1 : as[i]? with
    | none => rw [e1] at e; cases e
    | some y =>
      rw [e1] at e
      cases e
      obtain ⟨v, e2, rv⟩ := r.get e1
      exact ⟨v, by rw [List.getElem?_append_left (by rw [List.length_map, ← r.length]; exact hi), List.getElem?_map, e2]; rfl, rv⟩
  · rw [List.getElem?_append_right (by rw [List.length_map]; omega), List.getElem?_replicate] at e
    split at e <;> cases e
theorem call_post {E : XK} {Q : VK} {h : Hh} {N : Nat} {body : XS} {as : List Val} (hl : ρ.length = h.length) (p : Post K ⟨fun c d _ H => E c d H, none⟩ [] ρ H (RV K Q) (callF N body as h)) :
    PostS K ⟨fun c d _ H => E c d H, none⟩ ρ H { nx := fun _ H' => Q .non H', rt := Q } (body (as.map some ++ List.replicate (N - as.length) none) h) := by
  unfold callF at p
  cases e : body (as.map some ++ List.replicate (N - as.length) none) h with
  | rt v h' =>
    rw [e] at p
    intro ρ' H' u g s r
    unfold gc at p
    by_cases hc : v.und h.length = true ∧ (h'.take h.length).all (Ob.und h.length) = true
    · dsimp only at p
      rw [if_pos hc] at p
      exact p (ρ'.take h.length) H' (g.cut hl) (s.cut hc.2) u (r.cut hc.1)
    · dsimp only at p
      rw [if_neg hc] at p
      exact p ρ' H' g s u r
  | nx e1 h' =>
    rw [e] at p
    intro ρ' H' σ' g s r
    unfold gc at p
    by_cases hc : Val.non.und h.length = true ∧ (h'.take h.length).all (Ob.und h.length) = true
    · dsimp only at p
      rw [if_pos hc] at p
      exact p (ρ'.take h.length) H' (g.cut hl) (s.cut hc.2) _ .non
    · dsimp only at p
      rw [if_neg hc] at p
      exact p ρ' H' g s _ .non
  | exc c fs e1 h' =>
    rw [e] at p
    intro ρ' H' d σ' cv g s r xc m
    unfold gcX at p
    by_cases hc : undL h.length (fs.map (·.2)) = true ∧ (h'.take h.length).all (Ob.und h.length) = true
    · dsimp only at p
      rw [if_pos hc] at p
      exact p (ρ'.take h.length) H' d cv (g.cut hl) (s.cut hc.2) (xc.cut hc.1) m
    · dsimp only at p
      rw [if_neg hc] at p
      exact p ρ' H' d cv g s xc m
  | bk e1 h' => rw [e] at p; exact p.elim
  | ct e1 h' => rw [e] at p; exact p.elim
  | stuck => rw [e] at p; exact p.elim
end
/-! ### defs, over contexts in which no repr is under way -/
/-- as FnOk, but only where the guards are none -/
structure FnG (P : Program) (w : World) (K : PySem.W.Frag) (mg : Str → Option Value) (base : Heap) (k : Nat) (f : Addr) (fd : FuncData) (ps : List Str) (sp : Sp) : Prop where
  len : ∀ vs H Q E, sp vs H Q E → vs.length = ps.length
  run : ∀ (A : Around) (outer : List Env) (s : Shared) (H : Hp) (args : Args) (us : List Value) (vs : List V) (Q : VK) (E : XK), Room k A → A.guards = some [] →
    Env0 P w K mg base A outer s H → BindsTo s fd args (ps.zip us) → Vals vs us → sp vs H Q E →
    codeAny (model P w) A (.call (.ref f) args) (CR (L2.CX P w) outer P w H s Q E) s
theorem FnG.mono {P : Program} {w : World} {K : PySem.W.Frag} {mg : Str → Option Value} {base : Heap} {j k : Nat} {f : Addr} {fd : FuncData} {ps : List Str} {sp : Sp} (F : FnG P w K mg base j f fd ps sp) (h : j ≤ k) : FnG P w K mg base k f fd ps sp :=
  ⟨F.len, fun A outer s H args us vs Q E r => F.run A outer s H args us vs Q E (r.mono h)⟩
section
variable {P : Program} {w : World} {K : PySem.W.Frag} {mg : Str → Option Value} {base : Heap} {x qual : Str} {params : Arguments} {body : List Stmt} {scope : Scope} {dvs : List V} {kws : List (Str × V)} {f : Addr} {fd : FuncData}
/-- a def keeps a promise by its body -/
theorem fn_g {N ps : List Str} {k : Nat} {sp : Sp} (F : FunD K x qual params body scope dvs kws f fd) (S : FnScope N ps scope) (len : ∀ vs H Q E, sp vs H Q E → vs.length = ps.length)
    (hb : ∀ (cdv : Value) (A : Around) (outer : List Env) (s : Shared) (H : Hp) (vs : List V) (Q : VK) (E : XK), Room k (A.deeper (PyProof.Rows.envOfC qual scope s.heap.objs.size f cdv)) → A.guards = some [] → sp vs H Q E →
      ∃ t, PSs (cxOf (L2.CX P w) P w K mg base N qual scope f cdv A outer s H E) body t ∧ t { nx := fun _ H' => Q .non H', rt := Q } (L2.start N vs) H) : FnG P w K mg base (k + 1) f fd ps sp := by
  obtain ⟨oc, od, dV, kV, doc, pm, an, cdv, ct, osl, rfl, lk, hcd, -, -⟩ := F.ex
  refine ⟨len, fun A outer s H args us vs Q E hr hg e0 hbind rv hsp => ?_⟩
  have stay : ∀ b o, base.get? b = some o → s.heap.get? b = some o := fun b o z => (e0.bs b o z).1
  have KX := e0.mod.kin.keeps stay
  refine codeAny_call_function hr.depth (KX _ _ lk) rfl S.co S.gen rfl (PySem.W.codeRec_of KX hcd) (hbind _ _ _ _ (wpAny_newFunctionEnv_cells S.kind ?kinds fun env he s1 ic => ?_))
  case kinds =>
    intro y hy
    exact (S.par y.1 (List.of_mem_zip hy).1).imp id fun z => ⟨z, PySem.W.cellsFrom_some _ _ _ (.inl z)⟩
  · cases he
    refine ⟨(e0.mod.nolimit.keeps stay).keeps ic.toInCall.keep, codeAny_func ?_⟩
    obtain ⟨t, ht, q⟩ := hb cdv A outer s H vs Q E (hr.deeper _) hg hsp
    refine wpAny_mono (ht.run [] s1 _ H _ (inv_start S hr.hd e0 (len _ _ _ _ hsp) rv ic) q) (fun fl s' z => ?_) fun _ _ z => z
    cases fl with
    | ret u => exact match z with | ⟨v, _, H', J, r, q⟩ => ⟨v, H', J.os, J.bare, J.base, J.hok, r, q⟩
    | next => exact match z with | ⟨_, H', J, q⟩ => ⟨V.non, H', J.os, J.bare, J.base, J.hok, rfl, q⟩
    | brk => exact match z with | ⟨_, _, _, q⟩ => q.elim
    | cont => exact match z with | ⟨_, _, _, q⟩ => q.elim
/-- a def keeps the promise made of its body -/
theorem fn_x {N ps : List Str} {k : Nat} {xs : XS} (F : FunD K x qual params body scope dvs kws f fd) (S : FnScope N ps scope)
    (hb : ∀ (cdv : Value) (A : Around) (outer : List Env) (s : Shared) (H : Hp) (E : XK), Room k (A.deeper (PyProof.Rows.envOfC qual scope s.heap.objs.size f cdv)) → A.guards = some [] →
      QSs (cxOf (L2.CX P w) P w K mg base N qual scope f cdv A outer s H E) ⟨fun c d _ H => E c d H, none⟩ body xs) : FnG P w K mg base (k + 1) f fd ps (spX ⟨K, mg, w⟩ ps.length (callF N.length xs)) := by
  refine fn_g F S (fun vs H Q E ⟨ρ, h, as, _, r, hl, _⟩ => by rw [← r.length, hl]) (fun cdv A outer s H vs Q E hr hg hsp => ?_)
  obtain ⟨ρ, h, as, Sm, r, hl, p⟩ := hsp
  exact ⟨_, hb cdv A outer s H E hr hg, ρ, _, h, Sm, start_env r, call_post Sm.len p⟩
end
section
variable {X : Cx} {W : Wd} {k : Nat} {f : Addr} {fd : FuncData} {ps : List Str} {sp : Sp} {G : Fn} {x : Str} {p pos : Pos} {e : Expr} {es : List Expr} {xa : XA} {dvs : List V} {ds : List Value}
theorem run_g {pins : List (Addr × Obj)} {σ : St} {H : Hp} {s : Shared} {Q : VK} {us : List Value} {vs : List V} (F : FnG X.prog X.w X.K X.mg X.base k f fd ps sp) (hr : Room k X.A) (hgd : X.A.guards = some []) (hb : Binds X.K fd ps ds) (hd : Vals dvs ds) (tk : Takes X W.w)
    (I : Inv X pins σ H s) (r : Vals vs us) (h : sp (vs ++ dvs) H Q (WE W.w σ)) : wpAny (model X.prog X.w) X.A (call (.ref f) us) (EP X pins σ Q) X.xe s := by
  have r2 := r.append hd
  refine wpAny_call (codeAny_mono (F.run X.A X.stack s H ⟨us, []⟩ _ _ Q (WE W.w σ) hr hgd I.env0 (hb s us I.kIn (r2.length ▸ F.len _ _ _ _ h)) r2 h) fun res s' z => ?_)
  match res, z with
  | .error e, z => exact passAt tk σ pins H s e s' I z
  | .ok (.ret u), z => exact I.after z
theorem pe_g (F : FnG X.prog X.w X.K X.mg X.base k f fd ps sp) (hr : Room k X.A) (hgd : X.A.guards = some []) (hg : Gl X x) (hm : X.mg x = some (.ref f)) (hk : PySem.W.keepIn X.K (.ref f) = true) (hb : Binds X.K fd ps ds) (hd : Vals dvs ds) (tk : Takes X W.w) {t : TA}
    (ha : PA X (e :: es) t) (hdb : (x == ("__debug__" : Str)) = false) (he : starEach (e :: es) X.env = (false, eval e X.env) :: starEach es X.env) (hpl : (backTo pos (starEach es X.env)).any (·.1) = false) :
    PE X (.Call (.Name x p) (e :: es) [] pos) (tCallSD sp dvs (WE W.w) t) :=
  ⟨fun pins s σ H Q I h => wpAny_Call_Name_kw (ld_glob I hg hm (PySem.W.callWith_K (h₀ := X.base) I.ok.mod.kin hk (thn (ha.run pos pins s σ H _ I h) fun us s1 ⟨vs, H1, I1, r, q⟩ => ⟨I1.kIn, run_g F hr hgd hb hd tk I1 r q⟩) he hpl) hdb)⟩
theorem callX_of {K : Gw} {n : Nat} {σ : St} {H : Hp} {Q : VK} (h : tX K W (xCall n G xa) σ H Q) : tXA K W xa σ H fun vs H1 => spX K n G (vs ++ []) H1 Q (WE W.w σ) := by
  obtain ⟨ρ, env, h, S, E, p⟩ := h
  refine ⟨ρ, env, h, S, E, (Post.bind p).imp fun as h1 ρ1 H1 g1 S1 q us rs => ?_⟩
  by_cases hl : as.length = n
  · rw [if_pos hl] at q
    refine ⟨ρ1, h1, as, S1, by rw [List.append_nil]; exact rs, hl, ?_⟩
    cases eg : G as h1 with
    | ok v h2 => rw [eg] at q; exact q
    | exc c fs h2 => rw [eg] at q; exact q
    | stuck => rw [eg] at q; exact q
  · rw [if_neg hl] at q
    exact q.elim
theorem q_call {n : Nat} (F : FnG X.prog X.w X.K X.mg X.base k f fd ps (spX (gw X) n G)) (hr : Room k X.A) (hgd : X.A.guards = some []) (hg : Gl X x) (hm : X.mg x = some (.ref f)) (hk : PySem.W.keepIn X.K (.ref f) = true) (hb : Binds X.K fd ps []) (tk : Takes X W.w)
    (ha : QA X W (e :: es) xa) (hdb : (x == ("__debug__" : Str)) = false := by decide) (he : starEach (e :: es) X.env = (false, eval e X.env) :: starEach es X.env := by rfl) (hpl : (backTo pos (starEach es X.env)).any (·.1) = false := by rfl) :
    QE X W (.Call (.Name x p) (e :: es) [] pos) (xCall n G xa) := PE.of (pe_g F hr hgd hg hm hk hb .nil tk ha hdb he hpl) fun _ _ _ => callX_of
theorem callN_of2 {K : Gw} {o : OpN} {σ : St} {H : Hp} {Q : VK} (h : tX K W (xCallN o xa) σ H Q) : tCB (rSN K o) (tXA K W xa) σ H Q := callN_of h
/-- a builtin, a built-in class, called by its name -/
theorem q_callB {id : String} {o : OpN} (hc : CallR X (.builtin id) (rSN (gw X) o)) (hg : Gl X x) (hm : X.mg x = none) (hv : bootBuiltins x = some (.builtin id)) (ha : QA X W (e :: es) xa) (hn : x ≠ "__name__" := by decide) (hdb : (x == ("__debug__" : Str)) = false := by decide)
    (he : starEach (e :: es) X.env = (false, eval e X.env) :: starEach es X.env := by rfl) (hpl : (backTo pos (starEach es X.env)).any (·.1) = false := by rfl) :
    QE X W (.Call (.Name x p) (e :: es) [] pos) (xCallN o xa) := PE.of (pe_callB hc hg hm hv ha hn hdb he hpl) fun _ _ _ => callN_of2
theorem q_callTy {T : String} {o : OpN} (hc : CallR X (.type T) (rSN (gw X) o)) (hg : Gl X x) (hm : X.mg x = none) (hv : bootBuiltins x = some (.type T)) (ha : QA X W (e :: es) xa) (hn : x ≠ "__name__" := by decide) (hdb : (x == ("__debug__" : Str)) = false := by decide)
    (he : starEach (e :: es) X.env = (false, eval e X.env) :: starEach es X.env := by rfl) (hpl : (backTo pos (starEach es X.env)).any (·.1) = false := by rfl) :
    QE X W (.Call (.Name x p) (e :: es) [] pos) (xCallN o xa) := PE.of (pe_callTy hc hg hm hv ha hn hdb he hpl) fun _ _ _ => callN_of2
theorem qa_cons {xe : XE} {xr : XA} (h : QE X W e xe) (hr : QA X W es xr) (he : starEach (e :: es) X.env = (false, eval e X.env) :: starEach es X.env := by rfl) : QA X W (e :: es) (xCons xe xr) :=
  PA.of (pa_cons h hr he) fun _ _ _ => qa_cons_of
end
end EX

set_option Elab.async false
set_option linter.all false
set_option maxRecDepth 100000
set_option maxHeartbeats 1000000
namespace EX
open PySem L2
section
variable {X : Cx}
/-! ### numbers -/
def oAdd : Op2 := fun a b h => match a, b with
  | .int i, .int j => some (.int (i + j), h)
  | .str x, .str y => if x.length + y.length ≤ sizeLine then some (.str (x ++ y), h) else none
  | .tup xs, .tup ys => if xs.length + ys.length ≤ sizeLine then some (.tup (xs ++ ys), h) else none
  | .loc m, .loc n => (match h[m]?, h[n]? with
    | some (.lst xs), some (.lst ys) => if xs.length + ys.length ≤ sizeLine then some (.loc h.length, h ++ [.lst (xs ++ ys)]) else none
    | _, _ => none)
  | _, _ => none
def oSub : Op2 := fun a b h => match a, b with
  | .int i, .int j => some (.int (i - j), h)
  | _, _ => none
def oMod : Op2 := fun a b h => match a, b with
  | .int i, .int j => if 0 < j then some (.int (i % j), h) else none
  | _, _ => none
def oFdiv : Op2 := fun a b h => match a, b with
  | .int i, .int j => if 0 < j ∧ j.natAbs.log2 < 9000 then some (.int (i / j), h) else none
  | _, _ => none
def oPow : Op2 := fun a b h => match a, b with
  | .int i, .int j => if 0 ≤ j ∧ j ≤ 1000000 ∧ i.natAbs < 2 ^ 64 then some (.int (i ^ j.toNat), h) else none
  | _, _ => none
def oMul : Op2 := fun a b h => match a, b with
  | .int i, .int j => if (-(2 ^ 64) < i ∧ i < 2 ^ 64) ∨ (-(2 ^ 64) < j ∧ j < 2 ^ 64) then some (.int (i * j), h) else none
  | .tup xs, .int k => if xs ≠ [] ∧ 2 ≤ k ∧ k ≤ 1000 ∧ xs.length ≤ 1000 then some (.tup (List.replicate k.toNat xs).flatten, h) else none
  | _, _ => none
def oNeg : Op1 := fun a h => match a with
  | .int i => some (.int (-i), h)
  | _ => none
theorem Sim.lst {K : Gw} {ρ : List Addr} {H : Hp} {h : Hh} {n : Nat} {a : Addr} {xs : List Val} (S : Sim K ρ H h) (ha : ρ[n]? = some a) (e : h[n]? = some (.lst xs)) : ∃ vs, H a = some (.lst vs) ∧ RepL K ρ H xs vs := by
  obtain ⟨b, e1, r⟩ := S.at_ n _ e
  rw [ha] at e1
  cases e1
  exact r
theorem op_add_x : OpR X (binaryOp .Add) (rS2 (gw X) oAdd) := by
  intro pins s σ H x y v u Q I rx ry ⟨ρ, h, a, b, z, h', S, ra, rb, e, k⟩
  unfold oAdd at e
  split at e
  · cases ra; cases rb; cases e
    exact op_add pins s σ H _ _ v u Q I rx ry ⟨_, _, rfl, rfl, k ρ H _ (Grow.refl _ _) S (.int _)⟩
  · cases ra; cases rb
    split at e
    · rename_i hl
      cases e
      exact op_add_str pins s σ H _ _ v u Q I rx ry ⟨_, _, rfl, rfl, hl, k ρ H _ (Grow.refl _ _) S (.str _)⟩
    · cases e
  · cases ra with
    | @tup a1 xs vs s1 r1 =>
      cases rb with
      | @tup a2 ys ws s2 r2 =>
        split at e
        · rename_i hl
          cases e
          refine op_catA pins s σ H _ _ v u Q I rx ry ⟨a1, a2, vs, ws, rfl, rfl, s1, s2, by rw [← r1.length, ← r2.length]; exact hl, fun z => ?_, fun _ z => ?_, fun _ _ p hp => ?_⟩
          · subst z
            cases r1
            exact k ρ H _ (Grow.refl _ _) S (.tup s2 r2)
          · subst z
            cases r2
            rw [List.append_nil] at k
            exact k ρ H _ (Grow.refl _ _) S (.tup s1 r1)
          · obtain ⟨g, s3, r3⟩ := new_tup S hp (r1.append r2)
            exact k ρ _ _ g s3 r3
        · cases e
  · cases ra with
    | @loc m a1 e1 =>
      cases rb with
      | @loc n a2 e2 =>
        split at e
        · rename_i xs ys h1 h2
          split at e
          · rename_i hl
            cases e
            obtain ⟨vs, q1, r1⟩ := S.lst e1 h1
            obtain ⟨ws, q2, r2⟩ := S.lst e2 h2
            refine op_cat pins s σ H _ _ v u Q I rx ry ⟨a1, a2, vs, ws, rfl, rfl, q1, q2, by rw [← r1.length, ← r2.length]; exact hl, fun p hp => ?_⟩
            obtain ⟨g, s3, r3⟩ := new_loc S hp (r1.append r2)
            exact k _ _ _ g s3 r3
          · cases e
        · cases e
  · cases e
theorem op_sub_x : OpR X (binaryOp .Sub) (rS2 (gw X) oSub) := by
  intro pins s σ H x y v u Q I rx ry ⟨ρ, h, a, b, z, h', S, ra, rb, e, k⟩
  unfold oSub at e
  split at e
  · cases ra; cases rb; cases e
    exact op_sub pins s σ H _ _ v u Q I rx ry ⟨_, _, rfl, rfl, k ρ H _ (Grow.refl _ _) S (.int _)⟩
  · cases e
theorem op_mod_x : OpR X (binaryOp .Mod) (rS2 (gw X) oMod) := by
  intro pins s σ H x y v u Q I rx ry ⟨ρ, h, a, b, z, h', S, ra, rb, e, k⟩
  unfold oMod at e
  split at e
  · cases ra; cases rb
    split at e
    · rename_i hc
      cases e
      exact op_mod pins s σ H _ _ v u Q I rx ry ⟨_, _, rfl, rfl, hc, k ρ H _ (Grow.refl _ _) S (.int _)⟩
    · cases e
  · cases e
theorem op_fdiv_x : OpR X (binaryOp .FloorDiv) (rS2 (gw X) oFdiv) := by
  intro pins s σ H x y v u Q I rx ry ⟨ρ, h, a, b, z, h', S, ra, rb, e, k⟩
  unfold oFdiv at e
  split at e
  · cases ra; cases rb
    split at e
    · rename_i hc
      cases e
      exact op_fdivW pins s σ H _ _ v u Q I rx ry ⟨_, _, rfl, rfl, hc, k ρ H _ (Grow.refl _ _) S (.int _)⟩
    · cases e
  · cases e
theorem op_pow_x : OpR X (binaryOp .Pow) (rS2 (gw X) oPow) := by
  intro pins s σ H x y v u Q I rx ry ⟨ρ, h, a, b, z, h', S, ra, rb, e, k⟩
  unfold oPow at e
  split at e
  · cases ra; cases rb
    split at e
    · rename_i hc
      cases e
      exact op_pow pins s σ H _ _ v u Q I rx ry ⟨_, _, rfl, rfl, hc, k ρ H _ (Grow.refl _ _) S (.int _)⟩
    · cases e
  · cases e
theorem repL_flat {K : Gw} {ρ : List Addr} {H : Hp} {xs : List Val} {vs : List V} (r : RepL K ρ H xs vs) : ∀ n : Nat, RepL K ρ H (List.replicate n xs).flatten (List.replicate n vs).flatten
  | 0 => .nil
  | n + 1 => by
    rw [List.replicate_succ, List.replicate_succ, List.flatten_cons, List.flatten_cons]
    exact r.append (repL_flat r n)
theorem op_mul_x : OpR X (binaryOp .Mult) (rS2 (gw X) oMul) := by
  intro pins s σ H x y v u Q I rx ry ⟨ρ, h, a, b, z, h', S, ra, rb, e, k⟩
  unfold oMul at e
  split at e
  · cases ra; cases rb
    split at e
    · rename_i hc
      cases e
      exact op_mul pins s σ H _ _ v u Q I rx ry ⟨_, _, rfl, rfl, hc, k ρ H _ (Grow.refl _ _) S (.int _)⟩
    · cases e
  · cases ra with
    | @tup a1 xs vs s1 r1 =>
      cases rb
      split at e
      · rename_i hc
        cases e
        refine op_repT pins s σ H _ _ v u Q I rx ry ⟨a1, _, vs, rfl, rfl, s1, fun z => hc.1 ?_, hc.2.1, hc.2.2.1, by rw [← r1.length]; exact hc.2.2.2, fun p hp => ?_⟩
        · subst z
          cases r1
          rfl
        · obtain ⟨g, s3, r3⟩ := new_tup S hp (repL_flat r1 _)
          exact k ρ _ _ g s3 r3
      · cases e
  · cases e
theorem un_neg_x : UnR X (unaryOp .USub) (rS1 (gw X) oNeg) := by
  intro pins s σ H x v Q I rx ⟨ρ, h, a, z, h', S, ra, e, k⟩
  unfold oNeg at e
  split at e
  · cases ra; cases e
    exact un_neg pins s σ H _ v Q I rx ⟨_, rfl, k ρ H _ (Grow.refl _ _) S (.int _)⟩
  · cases e

/-! ### order -/
def oLt : Op2 := fun a b h => match a, b with
  | .int i, .int j => some (.bl (decide (i < j)), h)
  | .str x, .str y => some (.bl (decide (x.cps.toList < y.cps.toList)), h)
  | _, _ => none
def oLe : Op2 := fun a b h => match a, b with
  | .int i, .int j => some (.bl (decide (i ≤ j)), h)
  | .str x, .str y => some (.bl (!decide (y.cps.toList < x.cps.toList)), h)
  | _, _ => none
def oGt : Op2 := fun a b h => match a, b with
  | .int i, .int j => some (.bl (decide (j < i)), h)
  | _, _ => none
def oGe : Op2 := fun a b h => match a, b with
  | .int i, .int j => some (.bl (decide (j ≤ i)), h)
  | _, _ => none
theorem op_lt_x : OpR X (compareOp .Lt) (rS2 (gw X) oLt) := by
  intro pins s σ H x y v u Q I rx ry ⟨ρ, h, a, b, z, h', S, ra, rb, e, k⟩
  unfold oLt at e
  split at e
  · cases ra; cases rb; cases e
    exact op_lt pins s σ H _ _ v u Q I rx ry ⟨_, _, rfl, rfl, k ρ H _ (Grow.refl _ _) S (.bl _)⟩
  · cases ra; cases rb; cases e
    exact op_lt_str pins s σ H _ _ v u Q I rx ry ⟨_, _, rfl, rfl, k ρ H _ (Grow.refl _ _) S (.bl _)⟩
  · cases e
theorem op_le_x : OpR X (compareOp .LtE) (rS2 (gw X) oLe) := by
  intro pins s σ H x y v u Q I rx ry ⟨ρ, h, a, b, z, h', S, ra, rb, e, k⟩
  unfold oLe at e
  split at e
  · cases ra; cases rb; cases e
    exact op_le pins s σ H _ _ v u Q I rx ry ⟨_, _, rfl, rfl, k ρ H _ (Grow.refl _ _) S (.bl _)⟩
  · cases ra; cases rb; cases e
    exact op_le_str pins s σ H _ _ v u Q I rx ry ⟨_, _, rfl, rfl, k ρ H _ (Grow.refl _ _) S (.bl _)⟩
  · cases e
theorem op_gt_x : OpR X (compareOp .Gt) (rS2 (gw X) oGt) := by
  intro pins s σ H x y v u Q I rx ry ⟨ρ, h, a, b, z, h', S, ra, rb, e, k⟩
  unfold oGt at e
  split at e
  · cases ra; cases rb; cases e
    exact op_gt pins s σ H _ _ v u Q I rx ry ⟨_, _, rfl, rfl, k ρ H _ (Grow.refl _ _) S (.bl _)⟩
  · cases e
theorem op_ge_x : OpR X (compareOp .GtE) (rS2 (gw X) oGe) := by
  intro pins s σ H x y v u Q I rx ry ⟨ρ, h, a, b, z, h', S, ra, rb, e, k⟩
  unfold oGe at e
  split at e
  · cases ra; cases rb; cases e
    exact op_ge pins s σ H _ _ v u Q I rx ry ⟨_, _, rfl, rfl, k ρ H _ (Grow.refl _ _) S (.bl _)⟩
  · cases e

/-! ### values as data; ==, in, repr -/
def datL (f : Val → Option PyData) : List Val → Option (List PyData)
  | [] => some []
  | x :: xs => match f x, datL f xs with
    | some d, some ds => some (d :: ds)
    | _, _ => none
def keyD : Key → PyData
  | .inl i => .int i
  | .inr x => .str x
def dat (h : Hh) : Nat → Val → Option PyData
  | 0, _ => none
  | n + 1, v => match v with
    | .non => some .none
    | .bl b => some (.bool b)
    | .int i => some (.int i)
    | .str s => some (.str s)
    | .tup xs => (datL (dat h n) xs).map .tuple
    | .scr xs => (datL (dat h n) xs).map .list
    | .loc m => (match h[m]? with
      | some (.lst xs) => (datL (dat h n) xs).map .list
      | some (.dct kvs) => (datL (dat h n) (kvs.map (·.2))).map fun ds => .dict ((kvs.map fun p => keyD p.1).zip ds)
      | _ => none)
    | _ => none
/-- sys.modules stands in the written part -/
def SmIn (K : PySem.W.Frag) : Prop := ∃ o es n, K.lookup sysModules = some o ∧ o.data = .dict es n
theorem datL_reads {K : Gw} {ρ : List Addr} {H : Hp} {hp : Heap} {f : Val → Option PyData} {Sm : Prop} (hf : ∀ v u uv d, f v = some d → Rep K ρ H v u → RelV u uv → ∃ as, Reads hp uv d as ∧ (Sm → sysModules ∉ as)) :
    ∀ (xs : List Val) (vs : List V) (us : List Value) (ds : List PyData), datL f xs = some ds → RepL K ρ H xs vs → Vals vs us → ∃ as, ReadsAll hp us ds as ∧ (Sm → sysModules ∉ as)
  | [], _, _, _, e, r, rv => by
    cases r; cases rv; cases e
    exact ⟨_, .nil, fun _ z => by cases z⟩
  | x :: xs, _, _, ds, e, r, rv => by
    cases r with
    | cons r1 r2 =>
      cases rv with
      | cons q1 q2 =>
        unfold datL at e
        split at e
        · rename_i d ds' e1 e2
          cases e
          obtain ⟨a1, z1, n1⟩ := hf x _ _ d e1 r1 q1
          obtain ⟨a2, z2, n2⟩ := datL_reads hf xs _ _ ds' e2 r2 q2
          exact ⟨_, .cons z1 z2, fun sm z => (List.mem_append.mp z).elim (n1 sm) (n2 sm)⟩
        · cases e
theorem zip_fst {α β : Type} : ∀ {as : List α} {bs : List β}, as.length = bs.length → (as.zip bs).map (·.1) = as
  | [], _, _ => rfl
  | _ :: _, [], h => by cases h
  | a :: as, b :: bs, h => by
    rw [List.zip_cons_cons, List.map_cons, zip_fst (by simpa using h)]
theorem zip_snd {α β : Type} : ∀ {as : List α} {bs : List β}, as.length = bs.length → (as.zip bs).map (·.2) = bs
  | [], [], _ => rfl
  | [], _ :: _, h => by cases h
  | _ :: _, [], h => by cases h
  | a :: as, b :: bs, h => by
    rw [List.zip_cons_cons, List.map_cons, zip_snd (by simpa using h)]
theorem datL_len {f : Val → Option PyData} : ∀ {xs : List Val} {ds : List PyData}, datL f xs = some ds → xs.length = ds.length
  | [], _, e => by cases e; rfl
  | x :: xs, ds, e => by
    unfold datL at e
    split at e
    · rename_i d ds' e1 e2
      cases e
      rw [List.length_cons, List.length_cons, datL_len e2]
    · cases e
theorem key_reads {hp : Heap} {P : Program} {w : World} : ∀ {es : List DictEntry} {kvs : List (Key × Value)}, Pairs (mixKind P w) es kvs → ∀ {xs : List (Key × Val)}, kvs.map (·.1) = xs.map (·.1) → ReadsAll hp (es.map (·.key)) (xs.map fun p => keyD p.1) []
  | _, _, .nil, [], _ => .nil
  | _, _, .nil, _ :: _, h => by cases h
  | _, _, .cons _ _ _, [], h => by cases h
  | _, _, .cons (e := e) p1 _ p2, x :: xs, h => by
    rw [List.map_cons, List.map_cons] at h
    injection h with h1 h2
    have k1 : keyIs x.1 e.key = true := h1 ▸ p1
    refine .cons (as := []) (bs := []) ?_ (key_reads p2 h2)
    rcases keyIs_shape k1 with ⟨i, t, e1, e2⟩ | ⟨y, t, e1, e2⟩
    · dsimp only; rw [e1, e2]; exact .int i t
    · dsimp only; rw [e1, e2]; exact .str y t
theorem keys_same {K : Gw} {ρ : List Addr} {H : Hp} : ∀ {kvs : List (Key × Val)} {vs : List (Key × V)} {ws : List (Key × Value)}, RepF K ρ H kvs vs → KV vs ws → ws.map (·.1) = kvs.map (·.1)
  | _, _, _, .nil, .nil => rfl
  | _, _, _, .cons r t, .cons q u => by rw [List.map_cons, List.map_cons, keys_same t u, r.1, q.1]
theorem vals_of_pairs {P : Program} {w : World} {K : Gw} {ρ : List Addr} {H : Hp} : ∀ {kvs : List (Key × Val)} {vs : List (Key × V)} {ws : List (Key × Value)} {es : List DictEntry}, RepF K ρ H kvs vs → KV vs ws → Pairs (mixKind P w) es ws →
    RepL K ρ H (kvs.map (·.2)) (vs.map (·.2)) ∧ Vals (vs.map (·.2)) (es.map (·.val))
  | _, _, _, _, .nil, .nil, .nil => ⟨.nil, .nil⟩
  | _, _, _, _, .cons r t, .cons q u, .cons _ p1 p2 => by
    obtain ⟨a, b⟩ := vals_of_pairs t u p2
    exact ⟨.cons r.2 a, .cons (by dsimp only; rw [p1]; exact q.2) b⟩
theorem dat_reads {pins : List (Addr × Obj)} {σ : St} {H : Hp} {s : Shared} {ρ : List Addr} {h : Hh} (I : Inv X pins σ H s) (S : Sim (gw X) ρ H h) :
    ∀ (n : Nat) (v : Val) (u : V) (uv : Value) (d : PyData), dat h n v = some d → Rep (gw X) ρ H v u → RelV u uv → ∃ as, Reads s.heap uv d as ∧ (SmIn X.K → sysModules ∉ as)
  | 0, _, _, _, _, e, _, _ => by cases e
  | n + 1, v, u, uv, d, e, r, q => by
    have ih := dat_reads I S n
    have smH : SmIn X.K → H sysModules = none := fun ⟨o, _, _, l, _⟩ => (I.bs _ _ (I.ok.mod.kin _ _ l)).2
    have smL : ∀ {a : Addr} {xs : List V}, SqL X.K H a xs → SmIn X.K → sysModules ≠ a := fun {a xs} hq sm z => by
      subst z
      have hn := smH sm
      obtain ⟨o, es, m, l, hd⟩ := sm
      rcases hq with (z | ⟨_, z⟩) | ⟨o2, its, m2, l2, _, _, hd2, _⟩
      · rw [hn] at z; cases z
      · rw [hn] at z; cases z
      · rw [l] at l2
        cases l2
        rw [hd] at hd2
        cases hd2
    cases r with
    | non => cases e; cases q; exact ⟨_, .none, fun _ z => by cases z⟩
    | bl b => cases e; cases q; exact ⟨_, .bool b, fun _ z => by cases z⟩
    | int i => cases e; obtain ⟨t, rfl⟩ := q; exact ⟨_, .int i t, fun _ z => by cases z⟩
    | str x => cases e; obtain ⟨t, rfl⟩ := q; exact ⟨_, .str x t, fun _ z => by cases z⟩
    | @tup a xs vs sq rs =>
      have e : (datL (dat h n) xs).map PyData.tuple = some d := e
      cases e1 : datL (dat h n) xs with
      | none => rw [e1] at e; cases e
      | some ds =>
        rw [e1] at e
        cases e
        cases q
        obtain ⟨its, rv, ⟨o, ho, hc, m, hd⟩, _⟩ := I.tuple sq
        obtain ⟨as, hr, hn⟩ := datL_reads ih xs _ its ds e1 rs rv
        exact ⟨_, .tuple ho hc hd (by simpa using hr), hn⟩
    | @scr a xs vs sq rs =>
      have e : (datL (dat h n) xs).map PyData.list = some d := e
      cases e1 : datL (dat h n) xs with
      | none => rw [e1] at e; cases e
      | some ds =>
        rw [e1] at e
        cases e
        cases q
        obtain ⟨its, rv, ⟨o, m, ho, hc, _, hd⟩, _⟩ := I.list sq.sql
        obtain ⟨as, hr, hn⟩ := datL_reads ih xs _ its ds e1 rs rv
        exact ⟨_, .list ho hc hd (by simpa using hr), fun sm z => (List.mem_cons.mp z).elim (smL sq.sql sm) (hn sm)⟩
    | @loc m a ea =>
      have e : (match h[m]? with | some (.lst xs) => (datL (dat h n) xs).map .list | some (.dct kvs) => (datL (dat h n) (kvs.map (·.2))).map fun ds => PyData.dict ((kvs.map fun p => keyD p.1).zip ds) | _ => none) = some d := e
      split at e
      · rename_i xs e2
        obtain ⟨vs, e3, rs⟩ := S.lst ea e2
        cases e1 : datL (dat h n) xs with
        | none => rw [e1] at e; cases e
        | some ds =>
          rw [e1] at e
          cases e
          cases q
          obtain ⟨its, rv, ⟨o, m, ho, hc, _, hd⟩, _⟩ := I.list (.inl (.inl e3))
          obtain ⟨as, hr, hn⟩ := datL_reads ih xs _ its ds e1 rs rv
          exact ⟨_, .list ho hc hd (by simpa using hr), fun sm z => (List.mem_cons.mp z).elim (smL (.inl (.inl e3)) sm) (hn sm)⟩
      · rename_i kvs e2
        obtain ⟨b, e4, vs, e3, rs⟩ := S.at_ m _ e2
        rw [ea] at e4
        cases e4
        cases e1 : datL (dat h n) (kvs.map (·.2)) with
        | none => rw [e1] at e; cases e
        | some ds =>
          rw [e1] at e
          cases e
          cases q
          obtain ⟨_, nsm, ws, kv, o, es, ep, ho, hx, hd, _, hp, _⟩ : ObjOk X.prog X.w H s.heap a (.dK vs) := I.hok a _ e3
          have k1 : ws.map (·.1) = kvs.map (·.1) := keys_same rs kv
          have p1 := vals_of_pairs rs kv hp
          obtain ⟨as, hr, hn⟩ := datL_reads ih (kvs.map (·.2)) _ _ ds e1 p1.1 p1.2
          have hl : (kvs.map fun p => keyD p.1).length = ds.length := by rw [List.length_map, ← datL_len e1, List.length_map]
          refine ⟨_, .dict (as := []) (bs := as) ho hx.1 hd (by rw [zip_fst hl]; exact key_reads hp k1) (by rw [zip_snd hl]; exact hr), fun sm z => ?_⟩
          rcases List.mem_append.mp z with z | z
          · rcases List.mem_cons.mp z with z | z
            · rw [← z] at nsm
              simp at nsm
            · cases z
          · exact hn sm z
      · cases e
    | ref _ => cases e
    | ty _ => cases e
/-- == of two that are no containers -/
def scEq : Val → Val → Option Bool
  | .non, .non => some true
  | .int i, .int j => some (decide (i = j))
  | .bl i, .bl j => some (decide (i = j))
  | .str i, .str j => some (decide (i = j))
  | .non, .int _ => some false
  | .int _, .non => some false
  | .non, .bl _ => some false
  | .bl _, .non => some false
  | .non, .str _ => some false
  | .str _, .non => some false
  | .int _, .str _ => some false
  | .str _, .int _ => some false
  | .bl _, .str _ => some false
  | .str _, .bl _ => some false
  | _, _ => none
def vEq (a b : Val) (h : Hh) : Option Bool := match scEq a b with
  | some r => some r
  | none => (match dat h 40 a, dat h 40 b with
    | some d, some e => if SeqAt.shaped d = true ∧ SeqAt.shaped e = true then some (PyData.eqv d e) else none
    | _, _ => none)
/-- lists of unlike lengths -/
def lensOf (v : Val) (h : Hh) : Option Nat := match v with
  | .loc n => (match h[n]? with
    | some (.lst xs) => some xs.length
    | _ => none)
  | _ => none
def unlike (a b : Val) (h : Hh) : Bool := match lensOf a h, lensOf b h with
  | some m, some n => m != n
  | _, _ => false
def vEqL (a b : Val) (h : Hh) : Option Bool := if unlike a b h = true then some false else vEq a b h
def oEq : Op2 := fun a b h => (vEqL a b h).map fun r => (.bl r, h)
def oNe : Op2 := fun a b h => (vEq a b h).map fun r => (.bl (!r), h)
theorem scEq_ok {K : Gw} {ρ : List Addr} {H : Hp} {a b : Val} {x y : V} {r : Bool} (ra : Rep K ρ H a x) (rb : Rep K ρ H b y) (e : scEq a b = some r) : scal x y = true ∧ r = decide (x = y) := by
  cases ra <;> cases rb <;> first
    | (cases e; exact ⟨rfl, by simp⟩)
    | (exact absurd e (by simp [scEq]))
theorem vEq_cases {a b : Val} {h : Hh} {r : Bool} (e : vEq a b h = some r) : scEq a b = some r ∨ ∃ d d', dat h 40 a = some d ∧ dat h 40 b = some d' ∧ SeqAt.shaped d = true ∧ SeqAt.shaped d' = true ∧ r = PyData.eqv d d' := by
  unfold vEq at e
  split at e
  · rename_i r' e'
    cases e
    exact .inl e'
  · split at e
    · rename_i d d' e1 e2
      split at e
      · rename_i hc
        cases e
        exact .inr ⟨d, d', e1, e2, hc.1, hc.2, rfl⟩
      · cases e
    · cases e
theorem lensOf_ok {pins : List (Addr × Obj)} {σ : St} {H : Hp} {s : Shared} {ρ : List Addr} {h : Hh} {a : Val} {x : V} {v : Value} {n : Nat} (I : Inv X pins σ H s) (S : Sim (gw X) ρ H h) (ra : Rep (gw X) ρ H a x) (rx : RelV x v) (e : lensOf a h = some n) :
    ∃ p its, v = .ref p ∧ s.heap.IsList p its ∧ its.size = n := by
  unfold lensOf at e
  split at e
  · cases ra with
    | @loc m p ea =>
    split at e
    · rename_i xs e2
      cases e
      obtain ⟨vs, q1, r1⟩ := S.lst ea e2
      obtain ⟨its, rv, pl, _⟩ := I.list (.inl (.inl q1))
      cases (show v = Value.ref p from rx)
      exact ⟨p, _, rfl, pl.isList, by rw [List.size_toArray, ← Paired.length rv, r1.length]⟩
    · cases e
  · cases e
theorem op_eq_x (hu : X.A.units + 64 < cLine) : OpR X (compareOp .Eq) (rS2 (gw X) oEq) := by
  intro pins s σ H x y v u Q I rx ry ⟨ρ, h, a, b, z, h', S, ra, rb, e, k⟩
  unfold oEq at e
  cases e1 : vEqL a b h with
  | none => rw [e1] at e; cases e
  | some r =>
    rw [e1] at e
    cases e
    have fin : Q (.bl r) H := k ρ H _ (Grow.refl _ _) S (.bl _)
    unfold vEqL at e1
    by_cases hu2 : unlike a b h = true
    · rw [if_pos hu2] at e1
      cases e1
      unfold unlike at hu2
      split at hu2
      · rename_i m n l1 l2
        obtain ⟨p, its, rfl, il, sz⟩ := lensOf_ok I S ra rx l1
        obtain ⟨p2, its2, rfl, il2, sz2⟩ := lensOf_ok I S rb ry l2
        exact PySem.SeqAt.eq_list_lengthsAt il il2 (by rw [sz, sz2]; exact hu2) (by omega) ⟨.bl _, H, I, rfl, fin⟩
      · cases hu2
    rw [if_neg hu2] at e1
    rcases vEq_cases e1 with e2 | ⟨d, d', e2, e3, s2, s3, rfl⟩
    · obtain ⟨hs, rfl⟩ := scEq_ok ra rb e2
      exact op_eq pins s σ H x y v u Q I rx ry ⟨hs, fin⟩
    · obtain ⟨as, r1, _⟩ := dat_reads I S 40 a x v d e2 ra rx
      obtain ⟨bs, r2, _⟩ := dat_reads I S 40 b y u d' e3 rb ry
      exact SeqAt.compareEq_shaped r1 r2 s2 s3 hu ⟨.bl _, H, I, rfl, fin⟩
theorem op_ne_x (hu : X.A.units + 64 < cLine) : OpR X (compareOp .NotEq) (rS2 (gw X) oNe) := by
  intro pins s σ H x y v u Q I rx ry ⟨ρ, h, a, b, z, h', S, ra, rb, e, k⟩
  unfold oNe at e
  cases e1 : vEq a b h with
  | none => rw [e1] at e; cases e
  | some r =>
    rw [e1] at e
    cases e
    have fin : Q (.bl (!r)) H := k ρ H _ (Grow.refl _ _) S (.bl _)
    rcases vEq_cases e1 with e2 | ⟨d, d', e2, e3, s2, s3, rfl⟩
    · obtain ⟨hs, rfl⟩ := scEq_ok ra rb e2
      exact op_ne pins s σ H x y v u Q I rx ry ⟨hs, fin⟩
    · obtain ⟨as, r1, _⟩ := dat_reads I S 40 a x v d e2 ra rx
      obtain ⟨bs, r2, _⟩ := dat_reads I S 40 b y u d' e3 rb ry
      exact SeqAt.compareNe_shaped r1 r2 s2 s3 hu ⟨.bl _, H, I, rfl, fin⟩
def oRepr : OpN := fun as h => match as with
  | [v] => (match dat h 40 v with
    | some d => if d.showable = true ∧ d.shown.length ≤ sizeLine ∧ d.depth ≤ 64 then some (.str d.shown, h) else none
    | none => none)
  | _ => none
theorem call_repr_x (hu : X.A.units + 70 < cLine) (hg : X.A.guards = some []) (sm : SmIn X.K) : CallR X (.builtin "repr") (rSN (gw X) oRepr) := by
  intro pins s σ H xs us Q I rs ⟨ρ, h, as, z, h', S, ra, e, k⟩
  unfold oRepr at e
  split at e
  · rename_i v
    cases ra with
    | @cons _ x _ _ r1 r2 =>
    cases r2
    cases rs with
    | @cons _ uv _ _ q1 q2 =>
    cases q2
    split at e
    · rename_i d ed
      split at e
      · rename_i hc
        cases e
        have fin : Q (.str d.shown) H := k ρ H _ (Grow.refl _ _) S (.str _)
        obtain ⟨as, rd, nsm⟩ := dat_reads I S 40 v x uv d ed r1 q1
        cases rd with
        | none => exact PySem.P.repr_of_none ⟨.str _, H, I.tok _, ⟨_, rfl⟩, fin⟩
        | bool b => exact PySem.P.repr_of_bool ⟨.str _, H, I.tok _, ⟨_, rfl⟩, fin⟩
        | int i t => exact PySem.P.repr_of_int (by simpa [PyData.showable] using hc.1) ⟨.str _, H, I.tok _, ⟨_, rfl⟩, fin⟩
        | str y t => exact PySem.P.repr_of_str ⟨.str _, H, I.tok _, ⟨_, rfl⟩, fin⟩ hc.2.1
        | list h1 h2 h3 h4 => exact repr_of_reads' (.list h1 h2 h3 h4) hc.1 (fun _ => nsm sm) hg (by have := hc.2.2; omega) (fun _ _ e => e) (fun h' u tk hk => ⟨.str _, H, I.kept hk, ⟨_, rfl⟩, fin⟩) hc.2.1
        | tuple h1 h2 h3 h4 => exact repr_of_reads' (.tuple h1 h2 h3 h4) hc.1 (fun _ => nsm sm) hg (by have := hc.2.2; omega) (fun _ _ e => e) (fun h' u tk hk => ⟨.str _, H, I.kept hk, ⟨_, rfl⟩, fin⟩) hc.2.1
        | dict h1 h2 h3 h4 h5 => exact repr_of_reads' (.dict h1 h2 h3 h4 h5) hc.1 (fun _ => nsm sm) hg (by have := hc.2.2; omega) (fun _ _ e => e) (fun h' u tk hk => ⟨.str _, H, I.kept hk, ⟨_, rfl⟩, fin⟩) hc.2.1
      · cases e
    · cases e
  · cases e
end
end EX

set_option Elab.async false
set_option linter.all false
set_option maxRecDepth 100000
set_option maxHeartbeats 1000000
namespace EX
open PySem L2
section
variable {X : Cx} {W : Wd}
/-! ### subscripts -/
def oIx : Op2 := fun a b h => match a, b with
  | .tup xs, .int i => (atI xs i).map fun v => (v, h)
  | .scr xs, .int i => (atI xs i).map fun v => (v, h)
  | .str s, .int i => if s.length ≤ sizeLine then (atI s.cps.toList i).map fun c => (.str ⟨#[c]⟩, h) else none
  | .loc n, .int i => (match h[n]? with
    | some (.lst xs) => (atI xs i).map fun v => (v, h)
    | _ => none)
  | _, _ => none
theorem RepL.atI {K : Gw} {ρ : List Addr} {H : Hp} {xs : List Val} {vs : List V} {i : Int} {v : Val} (r : RepL K ρ H xs vs) (e : L2.atI xs i = some v) : ∃ u, L2.atI vs i = some u ∧ Rep K ρ H v u := by
  unfold L2.atI at e ⊢
  rw [← r.length]
  cases q : ixN xs.length i with
  | none => rw [q] at e; cases e
  | some j =>
    rw [q] at e
    exact r.get (i := j) e
theorem ix_x : IxR X (rS2 (gw X) oIx) := by
  intro value slice pins s σ H x y v u Q I rx ry ⟨ρ, h, a, b, z, h', S, ra, rb, e, k⟩ hs
  unfold oIx at e
  split at e
  · rename_i xs i
    cases ra with
    | @tup a1 _ vs s1 r1 =>
      cases rb
      cases e1 : L2.atI xs i with
      | none => rw [e1] at e; cases e
      | some w =>
        rw [e1] at e
        cases e
        obtain ⟨u1, e2, r2⟩ := r1.atI e1
        exact ix_tup value slice pins s σ H _ _ v u Q I rx ry ⟨a1, vs, _, u1, rfl, rfl, s1, e2, k ρ H _ (Grow.refl _ _) S r2⟩ hs
  · rename_i xs i
    cases ra with
    | @scr a1 _ vs s1 r1 =>
      cases rb
      cases e1 : L2.atI xs i with
      | none => rw [e1] at e; cases e
      | some w =>
        rw [e1] at e
        cases e
        obtain ⟨u1, e2, r2⟩ := r1.atI e1
        exact ix_list value slice pins s σ H _ _ v u Q I rx ry ⟨a1, vs, _, u1, rfl, rfl, s1.sql, e2, k ρ H _ (Grow.refl _ _) S r2⟩ hs
  · rename_i t i
    cases ra
    cases rb
    split at e
    · rename_i hl
      cases e1 : L2.atI t.cps.toList i with
      | none => rw [e1] at e; cases e
      | some w =>
        rw [e1] at e
        cases e
        exact ix_str value slice pins s σ H _ _ v u Q I rx ry ⟨_, _, w, rfl, rfl, hl, e1, k ρ H _ (Grow.refl _ _) S (.str _)⟩ hs
    · cases e
  · rename_i n i
    cases ra with
    | @loc _ a1 ea =>
      cases rb
      split at e
      · rename_i xs e2
        obtain ⟨vs, q1, r1⟩ := S.lst ea e2
        cases e1 : L2.atI xs i with
        | none => rw [e1] at e; cases e
        | some w =>
          rw [e1] at e
          cases e
          obtain ⟨u1, e3, r2⟩ := r1.atI e1
          exact ix_list value slice pins s σ H _ _ v u Q I rx ry ⟨a1, vs, _, u1, rfl, rfl, .inl (.inl q1), e3, k ρ H _ (Grow.refl _ _) S r2⟩ hs
      · cases e
  · cases e

/-! ### slices -/
abbrev OpS := Val → Option Int → Option Int → Hh → Option (Val × Hh)
def cutX {α : Type} (xs : List α) (lo hi : Option Int) : List α := (xs.drop (HT.sIx xs.length 0 lo)).take (HT.sIx xs.length xs.length hi - HT.sIx xs.length 0 lo)
def oSl : OpS := fun a lo hi h => match a with
  | .tup xs => some (.tup (cutX xs lo hi), h)
  | .str s => if s.length ≤ sizeLine then some (.str (cutS s lo hi), h) else none
  | .loc n => (match h[n]? with
    | some (.lst xs) => some (.loc h.length, h ++ [.lst (cutX xs lo hi)])
    | _ => none)
  | _ => none
def rSl (K : Gw) (o : OpS) : V → Option Int → Option Int → Hp → VK → Prop := fun x lo hi H Q => ∃ ρ h a v h', Sim K ρ H h ∧ Rep K ρ H a x ∧ o a lo hi h = some (v, h') ∧ ∀ ρ' H' u, Grow ρ ρ' H H' → Sim K ρ' H' h' → Rep K ρ' H' v u → Q u H'
theorem cut_rep {K : Gw} {ρ : List Addr} {H : Hp} {xs : List Val} {vs : List V} (r : RepL K ρ H xs vs) (lo hi : Option Int) : RepL K ρ H (cutX xs lo hi) (cutV vs lo hi) := by
  unfold cutX cutV
  rw [← r.length]
  exact (r.drop _).take _
theorem sl_x : SlR X (rSl (gw X) oSl) := by
  intro pins s σ H x v vl vu lo hi sl Q I rx hs pl pu ⟨ρ, h, a, z, h', S, ra, e, k⟩
  unfold oSl at e
  split at e
  · rename_i xs
    cases ra with
    | @tup a1 _ vs s1 r1 =>
      cases e
      refine sl_tupA pins s σ H _ v vl vu lo hi sl Q I rx hs pl pu ⟨a1, vs, rfl, s1, fun z => k ρ H _ (Grow.refl _ _) S (.tup s1 ?_), fun z p hp => ?_⟩
      · have e2 : cutX xs lo hi = xs := by
          unfold cutX
          rw [r1.length, z.1, z.2, List.drop_zero, Nat.sub_zero, ← r1.length, List.take_length]
        rw [e2]
        exact r1
      · obtain ⟨g, s3, r3⟩ := new_tup S hp (cut_rep r1 lo hi)
        exact k ρ _ _ g s3 r3
  · cases ra
    split at e
    · rename_i hl
      cases e
      exact sl_str pins s σ H _ v vl vu lo hi sl Q I rx hs pl pu ⟨_, rfl, hl, k ρ H _ (Grow.refl _ _) S (.str _)⟩
    · cases e
  · cases ra with
    | @loc _ a1 ea =>
      split at e
      · rename_i xs e2
        cases e
        obtain ⟨vs, q1, r1⟩ := S.lst ea e2
        refine sl_list pins s σ H _ v vl vu lo hi sl Q I rx hs pl pu ⟨a1, vs, rfl, .inl (.inl q1), fun p hp => ?_⟩
        obtain ⟨g, s3, r3⟩ := new_loc S hp (cut_rep r1 lo hi)
        exact k _ _ _ g s3 r3
      · cases e
  · cases e
def xPart : Option XE → En → Hh → Res (Option Int)
  | none, _, h => .ok none h
  | some x, e, h => (x e h).bind fun v h1 => match v with
    | .int i => .ok (some i) h1
    | _ => .stuck
def xSl (o : OpS) (a : XE) (lo hi : Option XE) : XE := fun e h => (a e h).bind fun v h1 => (xPart lo e h1).bind fun l h2 => (xPart hi e h2).bind fun u h3 => Res.of (o v l u h3)
def tXO (K : Gw) (W : Wd) (x : Option XE) : TO := fun σ H Q => ∃ ρ env h, Sim K ρ H h ∧ EnvR K ρ H W.s env σ ∧ Post K W σ ρ H (fun o _ _ H1 => Q o H1) (xPart x env h)
theorem PO.of {e : Option Expr} {t t' : TO} (h : PO X e t) (w : ∀ σ H Q, t' σ H Q → t σ H Q) : PO X e t' := ⟨fun pins s σ H Q I q => h.run pins s σ H Q I (w σ H Q q)⟩
theorem qo_none : PO X none (tXO (gw X) W none) := PO.of po_none fun σ H Q ⟨ρ, env, h, S, E, p⟩ => p ρ H (Grow.refl _ _) S
theorem qo_some {e : Expr} {x : XE} (h : QE X W e x) : PO X (some e) (tXO (gw X) W (some x)) := PO.of (po_some h) fun σ H Q ⟨ρ, env, h, S, E, p⟩ =>
  ⟨ρ, env, h, S, E, (Post.bind p).imp fun v h1 ρ1 H1 g1 S1 q u ru => by
    cases ru with
    | int i => exact ⟨i, rfl, q ρ1 H1 (Grow.refl _ _) S1⟩
    | _ => exact q.elim⟩
theorem q_slice {a : Expr} {lo hi : Option Expr} {xa : XE} {xl xh : Option XE} {p2 pos : Pos} {o : OpS} (hr : SlR X (rSl (gw X) o)) (ha : QE X W a xa) (hl : PO X lo (tXO (gw X) W xl)) (hh : PO X hi (tXO (gw X) W xh)) :
    QE X W (.Subscript a (.Slice lo hi none p2) pos) (xSl o xa xl xh) := PE.of (pe_slice hr ha hl hh) fun σ H Q ⟨ρ, env, h, S, E, p⟩ =>
  ⟨ρ, env, h, S, E, (Post.bind p).imp fun v h1 ρ1 H1 g1 S1 q1 u ru => ⟨ρ1, env, h1, S1, E.mono g1, (Post.bind q1).imp fun l h2 ρ2 H2 g2 S2 q2 => ⟨ρ2, env, h2, S2, (E.mono g1).mono g2, (Post.bind q2).imp fun m h3 ρ3 H3 g3 S3 q3 => by
    obtain ⟨z, h', e, k⟩ := Post.of q3
    exact ⟨ρ3, h3, v, z, h', S3, (ru.mono g2).mono g3, e, k⟩⟩⟩⟩

/-! ### in, is -/
def flatX : Val → Bool
  | .non => true
  | .bl _ => true
  | .int _ => true
  | .str _ => true
  | _ => false
def eqX : Val → Val → Bool
  | .non, .non => true
  | .bl a, .bl b => a == b
  | .bl a, .int b => (if a then 1 else 0) == b
  | .int a, .bl b => a == (if b then 1 else 0)
  | .int a, .int b => a == b
  | .str a, .str b => a == b
  | _, _ => false
def inX (x : Val) (xs : List Val) : Bool := xs.any fun y => eqX y x
def vIn (a b : Val) (h : Hh) : Option Bool := match b with
  | .str z => (match a with
    | .str y => if y.cps.size = 1 then some (decide (y.cps.getD 0 0 ∈ z.cps.toList)) else none
    | _ => none)
  | .tup xs => if flatX a = true ∧ xs.all flatX = true then some (inX a xs) else none
  | .loc n => (match h[n]? with
    | some (.lst xs) => if flatX a = true ∧ xs.all flatX = true then some (inX a xs) else none
    | _ => none)
  | _ => none
def oIn : Op2 := fun a b h => (vIn a b h).map fun r => (.bl r, h)
def oNotIn : Op2 := fun a b h => (vIn a b h).map fun r => (.bl (!r), h)
theorem flat_rep {K : Gw} {ρ : List Addr} {H : Hp} {a : Val} {x : V} (r : Rep K ρ H a x) (h : flatX a = true) : flatV x = true := by
  cases r <;> first | rfl | (exact absurd h (by simp [flatX]))
theorem flatL_rep {K : Gw} {ρ : List Addr} {H : Hp} : ∀ {xs : List Val} {vs : List V}, RepL K ρ H xs vs → xs.all flatX = true → vs.all flatV = true
  | _, _, .nil, _ => rfl
  | _, _, .cons r t, h => by
    rw [List.all_cons, Bool.and_eq_true] at h ⊢
    exact ⟨flat_rep r h.1, flatL_rep t h.2⟩
theorem eq_rep {K : Gw} {ρ : List Addr} {H : Hp} {a b : Val} {x y : V} (ra : Rep K ρ H a x) (rb : Rep K ρ H b y) (ha : flatX a = true) (hb : flatX b = true) : eqV x y = eqX a b := by
  cases ra <;> cases rb <;> first | rfl | (exact absurd ha (by simp [flatX])) | (exact absurd hb (by simp [flatX]))
theorem in_rep {K : Gw} {ρ : List Addr} {H : Hp} {a : Val} {x : V} (ra : Rep K ρ H a x) (ha : flatX a = true) : ∀ {xs : List Val} {vs : List V}, RepL K ρ H xs vs → xs.all flatX = true → inV x vs = inX a xs
  | _, _, .nil, _ => rfl
  | _, _, .cons r t, h => by
    rw [List.all_cons, Bool.and_eq_true] at h
    unfold inV inX
    rw [List.any_cons, List.any_cons, eq_rep r ra h.1 ha]
    have ih := in_rep ra ha t h.2
    unfold inV inX at ih
    rw [ih]
theorem sign_of (y : Str) (h : y.cps.size = 1) : y = ⟨#[y.cps.getD 0 0]⟩ := by
  obtain ⟨c⟩ := y
  have : c = #[c.getD 0 0] := by
    apply Array.ext
    · simpa using h
    · intro i h1 h2
      have hi : i = 0 := by
        have : i < 1 := by simpa using h2
        omega
      subst hi
      simp [Array.getD, h1]
  exact congrArg Str.mk this
theorem vIn_cases {pins : List (Addr × Obj)} {σ : St} {H : Hp} {s : Shared} {ρ : List Addr} {h : Hh} {a b : Val} {x y : V} {r : Bool} (S : Sim (gw X) ρ H h) (ra : Rep (gw X) ρ H a x) (rb : Rep (gw X) ρ H b y) (e : vIn a b h = some r) :
    (∃ (c : Nat) (z : Str), x = .str ⟨#[c]⟩ ∧ y = .str z ∧ r = decide (c ∈ z.cps.toList)) ∨ ∃ p xs, y = .ref p ∧ (SqL X.K H p xs ∨ SqT X.K H p xs) ∧ flatV x = true ∧ xs.all flatV = true ∧ r = inV x xs := by
  unfold vIn at e
  split at e
  · cases rb
    split at e
    · rename_i y1
      cases ra
      split at e
      · rename_i hy
        cases e
        exact .inl ⟨y1.cps.getD 0 0, _, by rw [← sign_of y1 hy], rfl, rfl⟩
      · cases e
    · cases e
  · cases rb with
    | @tup a1 xs vs s1 r1 =>
      split at e
      · rename_i hc
        cases e
        exact .inr ⟨a1, vs, rfl, .inr s1, flat_rep ra hc.1, flatL_rep r1 hc.2, (in_rep ra hc.1 r1 hc.2).symm⟩
      · cases e
  · cases rb with
    | @loc n a1 ea =>
      split at e
      · rename_i xs e2
        obtain ⟨vs, q1, r1⟩ := S.lst ea e2
        split at e
        · rename_i hc
          cases e
          exact .inr ⟨a1, vs, rfl, .inl (.inl (.inl q1)), flat_rep ra hc.1, flatL_rep r1 hc.2, (in_rep ra hc.1 r1 hc.2).symm⟩
        · cases e
      · cases e
  · cases e
theorem op_in_x : OpR X (compareOp .In) (rS2 (gw X) oIn) := by
  intro pins s σ H x y v u Q I rx ry ⟨ρ, h, a, b, z, h', S, ra, rb, e, k⟩
  unfold oIn at e
  cases e1 : vIn a b h with
  | none => rw [e1] at e; cases e
  | some r =>
    rw [e1] at e
    cases e
    have fin : Q (.bl r) H := k ρ H _ (Grow.refl _ _) S (.bl _)
    rcases vIn_cases (pins := pins) (σ := σ) (s := s) S ra rb e1 with ⟨c, z, e2, e3, e4⟩ | ⟨p, xs, e2, e3, e4, e5, e6⟩
    · rw [e4] at fin
      exact op_in_sign pins s σ H x y v u Q I rx ry ⟨c, z, e2, e3, fin⟩
    · rw [e6] at fin
      exact op_in_seq pins s σ H x y v u Q I rx ry ⟨p, xs, e2, e3, e4, e5, fin⟩
theorem op_notIn_x : OpR X (compareOp .NotIn) (rS2 (gw X) oNotIn) := by
  intro pins s σ H x y v u Q I rx ry ⟨ρ, h, a, b, z, h', S, ra, rb, e, k⟩
  unfold oNotIn at e
  cases e1 : vIn a b h with
  | none => rw [e1] at e; cases e
  | some r =>
    rw [e1] at e
    cases e
    have fin : Q (.bl (!r)) H := k ρ H _ (Grow.refl _ _) S (.bl _)
    rcases vIn_cases (pins := pins) (σ := σ) (s := s) S ra rb e1 with ⟨c, z, e2, e3, e4⟩ | ⟨p, xs, e2, e3, e4, e5, e6⟩
    · rw [e4] at fin
      exact op_notIn_sign pins s σ H x y v u Q I rx ry ⟨c, z, e2, e3, fin⟩
    · rw [e6] at fin
      exact op_notIn_seq pins s σ H x y v u Q I rx ry ⟨p, xs, e2, e3, e4, e5, fin⟩
def isNon : Val → Bool
  | .non => true
  | _ => false
def vIs (a b : Val) : Option Bool := match b with
  | .non => some (isNon a)
  | .bl c => (match a with
    | .bl d => some (decide (d = c))
    | _ => none)
  | _ => none
def oIs : Op2 := fun a b h => (vIs a b).map fun r => (.bl r, h)
def oIsNot : Op2 := fun a b h => (vIs a b).map fun r => (.bl (!r), h)
theorem isNon_rep {K : Gw} {ρ : List Addr} {H : Hp} {a : Val} {x : V} (r : Rep K ρ H a x) : isNon a = decide (x = .non) := by
  cases r <;> simp [isNon]
theorem op_is_x : OpR X (compareOp .Is) (rS2 (gw X) oIs) := by
  intro pins s σ H x y v u Q I rx ry ⟨ρ, h, a, b, z, h', S, ra, rb, e, k⟩
  unfold oIs at e
  cases e1 : vIs a b with
  | none => rw [e1] at e; cases e
  | some r =>
    rw [e1] at e
    cases e
    have fin : Q (.bl r) H := k ρ H _ (Grow.refl _ _) S (.bl _)
    unfold vIs at e1
    split at e1
    · cases rb; cases e1
      rw [isNon_rep ra] at fin
      exact op_isN pins s σ H x _ v u Q I rx ry ⟨rfl, fin⟩
    · cases rb
      split at e1
      · cases ra; cases e1
        exact op_isBl pins s σ H _ _ v u Q I rx ry ⟨_, _, rfl, rfl, fin⟩
      · cases e1
    · cases e1
theorem op_isNot_x : OpR X (compareOp .IsNot) (rS2 (gw X) oIsNot) := by
  intro pins s σ H x y v u Q I rx ry ⟨ρ, h, a, b, z, h', S, ra, rb, e, k⟩
  unfold oIsNot at e
  cases e1 : vIs a b with
  | none => rw [e1] at e; cases e
  | some r =>
    rw [e1] at e
    cases e
    have fin : Q (.bl (!r)) H := k ρ H _ (Grow.refl _ _) S (.bl _)
    unfold vIs at e1
    split at e1
    · cases rb; cases e1
      rw [isNon_rep ra] at fin
      exact op_notN pins s σ H x _ v u Q I rx ry ⟨rfl, fin⟩
    · cases rb
      split at e1
      · cases ra; cases e1
        exact op_notBl pins s σ H _ _ v u Q I rx ry ⟨_, _, rfl, rfl, fin⟩
      · cases e1
    · cases e1

/-! ### builtins -/
def vLen (v : Val) (h : Hh) : Option Nat := match v with
  | .str s => if s.length ≤ sizeLine then some s.length else none
  | .tup xs => some xs.length
  | .scr xs => some xs.length
  | .loc n => (match h[n]? with
    | some (.lst xs) => some xs.length
    | _ => none)
  | _ => none
def oLen : OpN := fun as h => match as with
  | [v] => (vLen v h).map fun n => (.int n, h)
  | _ => none
theorem call_len_x : CallR X (.builtin "len") (rSN (gw X) oLen) := by
  intro pins s σ H xs us Q I rs ⟨ρ, h, as, z, h', S, ra, e, k⟩
  unfold oLen at e
  split at e
  · rename_i v
    cases ra with
    | @cons _ x _ _ r1 r2 =>
    cases r2
    cases e1 : vLen v h with
    | none => rw [e1] at e; cases e
    | some n =>
      rw [e1] at e
      cases e
      refine call_len pins s σ H _ us Q I rs ⟨x, n, rfl, ?_, k ρ H _ (Grow.refl _ _) S (.int _)⟩
      unfold vLen at e1
      split at e1
      · cases r1
        split at e1
        · rename_i hl
          cases e1
          exact ⟨hl, rfl⟩
        · cases e1
      · cases r1 with
        | tup s1 q1 => cases e1; exact .inr ⟨_, s1, q1.length⟩
      · cases r1 with
        | scr s1 q1 => cases e1; exact .inl ⟨_, s1.sql, q1.length⟩
      · cases r1 with
        | loc ea =>
          split at e1
          · rename_i e2
            cases e1
            obtain ⟨vs, q2, q3⟩ := S.lst ea e2
            exact .inl ⟨vs, .inl (.inl q2), q3.length⟩
          · cases e1
      · cases e1
  · cases e
def bools : List Val → Option (List Bool)
  | [] => some []
  | .bl b :: r => (bools r).map (b :: ·)
  | _ :: _ => none
theorem bools_rep {K : Gw} {ρ : List Addr} {H : Hp} : ∀ {xs : List Val} {vs : List V} {bs : List Bool}, RepL K ρ H xs vs → bools xs = some bs → vs = bs.map V.bl
  | _, _, _, .nil, e => by cases e; rfl
  | _, _, bs, .cons r t, e => by
    cases r with
    | bl b =>
      rename_i xs vs
      have e : (bools xs).map (b :: ·) = some bs := e
      cases e1 : bools xs with
      | none => rw [e1] at e; cases e
      | some cs => rw [e1] at e; cases e; rw [bools_rep t e1]; rfl
    | _ => cases e
def oAll : OpN := fun as h => match as with
  | [.loc n] => (match h[n]? with
    | some (.lst xs) => (bools xs).map fun bs => (.bl (bs.all id), h)
    | _ => none)
  | _ => none
theorem call_all_x (hc : X.calm = true) : CallR X (.builtin "all") (rSN (gw X) oAll) := by
  intro pins s σ H xs us Q I rs ⟨ρ, h, as, z, h', S, ra, e, k⟩
  unfold oAll at e
  split at e
  · cases ra with
    | @cons _ x _ _ r1 r2 =>
    cases r2
    cases r1 with
    | @loc n a ea =>
    split at e
    · rename_i ys e2
      obtain ⟨vs, q1, r3⟩ := S.lst ea e2
      cases e1 : bools ys with
      | none => rw [e1] at e; cases e
      | some bs =>
        rw [e1] at e
        cases e
        have ev := bools_rep r3 e1
        subst ev
        exact cr_all hc pins s σ H _ us Q I rs ⟨a, bs, rfl, .inl (.inl q1), k ρ H _ (Grow.refl _ _) S (.bl _)⟩
    · cases e
  · cases e
def oOrd : OpN := fun as h => match as with
  | [.str s] => if s.length = 1 then some (.int (s.cps.getD 0 0 : Nat), h) else none
  | _ => none
theorem call_ord_x : CallR X (.builtin "ord") (rSN (gw X) oOrd) := by
  intro pins s σ H xs us Q I rs ⟨ρ, h, as, z, h', S, ra, e, k⟩
  unfold oOrd at e
  split at e
  · cases ra with
    | cons r1 r2 =>
    cases r2; cases r1
    split at e
    · rename_i hl
      cases e
      exact call_ord pins s σ H _ us Q I rs ⟨_, rfl, hl, k ρ H _ (Grow.refl _ _) S (.int _)⟩
    · cases e
  · cases e
def oMax : OpN := fun as h => match as with
  | [.int i, .int j] => some (.int (if j > i then j else i), h)
  | _ => none
def oMin : OpN := fun as h => match as with
  | [.int i, .int j] => some (.int (if j < i then j else i), h)
  | _ => none
theorem call_max_x (hc : X.calm = true) : CallR X (.builtin "max") (rSN (gw X) oMax) := by
  intro pins s σ H xs us Q I rs ⟨ρ, h, as, z, h', S, ra, e, k⟩
  unfold oMax at e
  split at e
  · cases ra with
    | cons r1 r2 =>
    cases r2 with
    | cons r3 r4 =>
    cases r4; cases r1; cases r3; cases e
    exact call_max2 hc pins s σ H _ us Q I rs ⟨_, _, rfl, k ρ H _ (Grow.refl _ _) S (.int _)⟩
  · cases e
theorem call_min_x (hc : X.calm = true) : CallR X (.builtin "min") (rSN (gw X) oMin) := by
  intro pins s σ H xs us Q I rs ⟨ρ, h, as, z, h', S, ra, e, k⟩
  unfold oMin at e
  split at e
  · cases ra with
    | cons r1 r2 =>
    cases r2 with
    | cons r3 r4 =>
    cases r4; cases r1; cases r3; cases e
    exact call_min2 hc pins s σ H _ us Q I rs ⟨_, _, rfl, k ρ H _ (Grow.refl _ _) S (.int _)⟩
  · cases e
def oInt : OpN := fun as h => match as with
  | [.int i] => some (.int i, h)
  | [.bl b] => some (.int (if b then 1 else 0), h)
  | _ => none
theorem call_int_x : CallR X (.type "int") (rSN (gw X) oInt) := by
  intro pins s σ H xs us Q I rs ⟨ρ, h, as, z, h', S, ra, e, k⟩
  unfold oInt at e
  split at e
  · cases ra with
    | cons r1 r2 =>
    cases r2; cases r1; cases e
    exact call_int1 pins s σ H _ us Q I rs (.inl ⟨_, rfl, k ρ H _ (Grow.refl _ _) S (.int _)⟩)
  · cases ra with
    | cons r1 r2 =>
    cases r2; cases r1; cases e
    exact call_int1 pins s σ H _ us Q I rs (.inr ⟨_, rfl, k ρ H _ (Grow.refl _ _) S (.int _)⟩)
  · cases e
/-- tuple(x), list(x) of lists and tuples -/
def oTuple : OpN := fun as h => match as with
  | [.tup xs] => some (.tup xs, h)
  | [.loc n] => (match h[n]? with
    | some (.lst xs) => some (.tup xs, h)
    | _ => none)
  | _ => none
def oList : OpN := fun as h => match as with
  | [.tup xs] => some (.loc h.length, h ++ [.lst xs])
  | [.loc n] => (match h[n]? with
    | some (.lst xs) => some (.loc h.length, h ++ [.lst xs])
    | _ => none)
  | _ => none
theorem call_tuple_x : CallR X (.type "tuple") (rSN (gw X) oTuple) := by
  intro pins s σ H xs us Q I rs ⟨ρ, h, as, z, h', S, ra, e, k⟩
  unfold oTuple at e
  split at e
  · cases ra with
    | cons r1 r2 =>
    cases r2
    cases r1 with
    | @tup a ys vs s1 q1 =>
    cases e
    exact call_tuple_of pins s σ H _ us Q I rs ⟨a, vs, rfl, .inr ⟨s1, k ρ H _ (Grow.refl _ _) S (.tup s1 q1)⟩⟩
  · cases ra with
    | cons r1 r2 =>
    cases r2
    cases r1 with
    | @loc n a ea =>
    split at e
    · rename_i ys e2
      cases e
      obtain ⟨vs, q1, r3⟩ := S.lst ea e2
      refine call_tuple_of pins s σ H _ us Q I rs ⟨a, vs, rfl, .inl ⟨.inl (.inl q1), fun p hp => ?_⟩⟩
      obtain ⟨g, s3, r4⟩ := new_tup S hp r3
      exact k ρ _ _ g s3 r4
    · cases e
  · cases e
theorem call_list_x : CallR X (.type "list") (rSN (gw X) oList) := by
  intro pins s σ H xs us Q I rs ⟨ρ, h, as, z, h', S, ra, e, k⟩
  unfold oList at e
  split at e
  · cases ra with
    | cons r1 r2 =>
    cases r2
    cases r1 with
    | @tup a ys vs s1 q1 =>
    cases e
    refine call_list_of pins s σ H _ us Q I rs ⟨a, vs, rfl, .inr s1, fun p hp => ?_⟩
    obtain ⟨g, s3, r4⟩ := new_loc S hp q1
    exact k _ _ _ g s3 r4
  · cases ra with
    | cons r1 r2 =>
    cases r2
    cases r1 with
    | @loc n a ea =>
    split at e
    · rename_i ys e2
      cases e
      obtain ⟨vs, q1, r3⟩ := S.lst ea e2
      refine call_list_of pins s σ H _ us Q I rs ⟨a, vs, rfl, .inl (.inl (.inl q1)), fun p hp => ?_⟩
      obtain ⟨g, s3, r4⟩ := new_loc S hp r3
      exact k _ _ _ g s3 r4
    · cases e
  · cases e
/-- isinstance with a built-in class -/
def tyName (v : Val) (h : Hh) : Option String := match v with
  | .non => some "NoneType"
  | .bl _ => some "bool"
  | .int _ => some "int"
  | .str _ => some "str"
  | .tup _ => some "tuple"
  | .loc n => (match h[n]? with
    | some (.lst _) => some "list"
    | some (.dct _) => some "dict"
    | _ => none)
  | _ => none
def oIsi : OpN := fun as h => match as with
  | [v, .ty T] => (match tyName v h with
    | some a => (kitB a T).map fun b => (.bl b, h)
    | none => none)
  | _ => none
theorem tup_ty {K : PySem.W.Frag} {H : Hp} {a : Addr} {vs : List V} (h : SqT K H a vs) : TyX K H (.ref a) (.type "tuple") := by
  rcases h with (h | ⟨o, h⟩) | ⟨o, its, n, h, c, _⟩
  · exact .base (.tup h)
  · exact .fTuple h
  · exact .kTuple h c
theorem call_isi_x : CallR X (.builtin "isinstance") (rSN (gw X) oIsi) := by
  intro pins s σ H xs us Q I rs ⟨ρ, h, as, z, h', S, ra, e, k⟩
  unfold oIsi at e
  split at e
  · rename_i v T
    cases ra with
    | @cons _ x _ _ r1 r2 =>
    cases r2 with
    | cons r3 r4 =>
    cases r4; cases r3
    split at e
    · rename_i a et
      cases e1 : kitB a T with
      | none => rw [e1] at e; cases e
      | some b =>
        rw [e1] at e
        cases e
        refine call_isi pins s σ H _ us Q I rs ⟨x, .ty T, .type a, .type T, b, rfl, .ty T, ?_, kit_ty e1, k ρ H _ (Grow.refl _ _) S (.bl _)⟩
        unfold tyName at et
        split at et
        · cases r1; cases et; exact .base .non
        · cases r1; cases et; exact .base (.bl _)
        · cases r1; cases et; exact .base (.int _)
        · cases r1; cases et; exact .base (.str _)
        · cases r1 with
          | tup s1 q1 => cases et; exact tup_ty s1
        · cases r1 with
          | @loc n a ea =>
          split at et
          · rename_i e2
            cases et
            obtain ⟨vs, q1, _⟩ := S.lst ea e2
            exact .base (.lst q1)
          · rename_i e2
            cases et
            obtain ⟨b2, e3, q0⟩ := S.at_ _ _ e2
            obtain ⟨vs, q1, _⟩ := q0
            rw [ea] at e3
            cases e3
            exact .base (.dK q1)
          · cases et
        · cases et
    · cases e
  · cases e
end
end EX

set_option Elab.async false
set_option linter.all false
set_option maxRecDepth 100000
set_option maxHeartbeats 1000000
namespace EX
open PySem L2
section
variable {X : Cx} {W : Wd}
/-! ### methods of built-in types -/
abbrev OpM := Val → List Val → Hh → Option (Val × Hh)
def isTy (T : String) (v : Val) (h : Hh) : Bool := match v with
  | .str _ => decide (T = "str")
  | .scr _ => decide (T = "list")
  | .loc n => (match h[n]? with
    | some (.lst _) => decide (T = "list")
    | some (.dct _) => decide (T = "dict")
    | _ => false)
  | _ => false
def xMeth (T : String) (o : OpM) (a : XE) (r : XA) : XE := fun e h => (a e h).bind fun v h1 => if isTy T v h1 = true then (r e h1).bind fun xs h2 => Res.of (o v xs h2) else .stuck
def rSM (K : Gw) (o : OpM) : V → List V → Hp → VK → Prop := fun x xs H Q => ∃ ρ h a as v h', Sim K ρ H h ∧ Rep K ρ H a x ∧ RepL K ρ H as xs ∧ o a as h = some (v, h') ∧ ∀ ρ' H' u, Grow ρ ρ' H H' → Sim K ρ' H' h' → Rep K ρ' H' v u → Q u H'
theorem isTy_ok {K : Gw} {ρ : List Addr} {H : Hp} {h : Hh} {T : String} {v : Val} {u : V} (S : Sim K ρ H h) (r : Rep K ρ H v u) (e : isTy T v h = true) : tyV K.K T u H := by
  cases r with
  | str s =>
    have e' : T = "str" := of_decide_eq_true (show decide (T = "str") = true from e)
    exact e'
  | scr s q => exact .inl ⟨of_decide_eq_true e, _, s.sql⟩
  | @loc n a ea =>
    have e : (match h[n]? with | some (.lst _) => decide (T = "list") | some (.dct _) => decide (T = "dict") | _ => false) = true := e
    split at e
    · rename_i xs e2
      obtain ⟨vs, q1, _⟩ := S.lst ea e2
      exact .inl ⟨of_decide_eq_true e, _, .inl (.inl q1)⟩
    · rename_i kvs e2
      obtain ⟨b2, e3, q0⟩ := S.at_ _ _ e2
      rw [ea] at e3
      cases e3
      obtain ⟨vs, q1, _⟩ := q0
      exact .inr (.inr (.inl ⟨of_decide_eq_true e, .inl ⟨_, q1⟩⟩))
    · cases e
  | _ => cases e
theorem meth_of {K : Gw} {T : String} {o : OpM} {a : XE} {r : XA} {σ : St} {H : Hp} {Q : VK} (h : tX K W (xMeth T o a r) σ H Q) : tBM K.K T (rSM K o) (tX K W a) (tXA K W r) σ H Q := by
  obtain ⟨ρ, env, h, S, E, p⟩ := h
  refine ⟨ρ, env, h, S, E, (Post.bind p).imp fun v h1 ρ1 H1 g1 S1 q u ru => ?_⟩
  by_cases ht : isTy T v h1 = true
  · rw [if_pos ht] at q
    refine ⟨isTy_ok S1 ru ht, ρ1, env, h1, S1, E.mono g1, (Post.bind q).imp fun xs h2 ρ2 H2 g2 S2 q2 us rs => ?_⟩
    obtain ⟨z, h', e, k⟩ := Post.of q2
    exact ⟨ρ2, h2, v, xs, z, h', S2, ru.mono g2, rs, e, k⟩
  · rw [if_neg ht] at q
    exact q.elim
theorem q_bm {o : Expr} {e : Expr} {es : List Expr} {name : Str} {apos cpos : Pos} {T id : String} {op : OpM} {xo : XE} {xa : XA} (pa : PlainAttrs T) (slot : Slot T name id) (hty : typeOf (.builtin id) = pure (.type "method_descriptor")) (hm : MtR X id (rSM (gw X) op)) (ho : QE X W o xo) (ha : QA X W (e :: es) xa)
    (hbase : attributeBase o name X.env (eval o X.env) = eval o X.env := by rfl)
    (hfew : ((backTo cpos (starEach (e :: es) X.env)).all (fun x => !x.1) && (backToKw cpos (keywordEach [] X.env)).all (fun x => x.1.isSome)
      && decide ((e :: es).length + ([] : List Keyword).length + (if ([] : List Keyword).isEmpty then 0 else 1) < 30)) = true := by rfl)
    (hline : (apos.endLine == cpos.line) = true := by rfl) (hs : starEach (e :: es) X.env = (false, eval e X.env) :: starEach es X.env := by rfl) (hplain : (backTo cpos (starEach es X.env)).any (·.1) = false := by rfl) :
    QE X W (.Call (.Attribute o name apos) (e :: es) [] cpos) (xMeth T op xo xa) := PE.of (pe_bm pa slot hty hm ho ha hbase hfew hline hs hplain) fun _ _ _ => meth_of
def oAppend : OpM := fun a as h => match a, as with
  | .loc n, [v] => (match h[n]? with
    | some (.lst xs) => if xs.length < sizeLine then some (.non, h.set n (.lst (xs ++ [v]))) else none
    | _ => none)
  | _, _ => none
theorem mt_append_x : MtR X "list.append" (rSM (gw X) oAppend) := by
  intro pins s σ H x xs v us Q I rx rs ⟨ρ, h, a, as, z, h', S, ra, ras, e, k⟩
  unfold oAppend at e
  split at e
  · rename_i n w
    cases ra with
    | @loc _ a1 ea =>
    cases ras with
    | @cons _ y _ _ r1 r2 =>
    cases r2
    split at e
    · rename_i ys e2
      obtain ⟨vs, q1, r3⟩ := S.lst ea e2
      split at e
      · rename_i hl
        cases e
        have mu : Mu (H a1) := by rw [q1]; trivial
        have g : Grow ρ ρ H (upd H a1 (.lst (vs ++ [y]))) := Grow.put mu
        exact mt_append pins s σ H _ _ v us Q I rx rs ⟨a1, vs, y, rfl, rfl, q1, by rw [← r3.length]; exact hl, k ρ _ _ g (S.put (u := .lst (ys ++ [w])) ea mu ⟨_, upd_same, (r3.mono g).append (.cons (r1.mono g) .nil)⟩) .non⟩
      · cases e
    · cases e
  · cases e
def txts : List Val → Option (List Str)
  | [] => some []
  | .str s :: r => (txts r).map (s :: ·)
  | _ :: _ => none
theorem txts_rep {K : Gw} {ρ : List Addr} {H : Hp} : ∀ {xs : List Val} {vs : List V} {ss : List Str}, RepL K ρ H xs vs → txts xs = some ss → vs = ss.map V.str
  | _, _, _, .nil, e => by cases e; rfl
  | _, _, ss, .cons r t, e => by
    cases r with
    | str b =>
      rename_i xs vs
      have e : (txts xs).map (b :: ·) = some ss := e
      cases e1 : txts xs with
      | none => rw [e1] at e; cases e
      | some cs => rw [e1] at e; cases e; rw [txts_rep t e1]; rfl
    | _ => cases e
def vStrs (v : Val) (h : Hh) : Option (List Str) := match v with
  | .tup xs => txts xs
  | .loc n => (match h[n]? with
    | some (.lst xs) => txts xs
    | _ => none)
  | _ => none
def oJoin : OpM := fun a as h => match a, as with
  | .str s, [v] => (match vStrs v h with
    | some ys => if (ys.map (·.length)).sum + ys.length * s.length ≤ 16777216 then some (.str (Txt.join s ys), h) else none
    | none => none)
  | _, _ => none
theorem mt_join_x : MtR X "str.join" (rSM (gw X) oJoin) := by
  intro pins s σ H x xs v us Q I rx rs ⟨ρ, h, a, as, z, h', S, ra, ras, e, k⟩
  unfold oJoin at e
  split at e
  · rename_i t w
    cases ra
    cases ras with
    | @cons _ y _ _ r1 r2 =>
    cases r2
    split at e
    · rename_i ys ey
      split at e
      · rename_i hl
        cases e
        have fin := k ρ H _ (Grow.refl _ _) S (.str _)
        unfold vStrs at ey
        split at ey
        · cases r1 with
          | @tup a1 zs vs s1 q1 =>
          have ev := txts_rep q1 ey
          subst ev
          exact mt_join pins s σ H _ _ v us Q I rx rs ⟨_, a1, ys, rfl, rfl, .inr s1, hl, fin⟩
        · cases r1 with
          | @loc n a1 ea =>
          split at ey
          · rename_i zs e2
            obtain ⟨vs, q1, r3⟩ := S.lst ea e2
            have ev := txts_rep r3 ey
            subst ev
            exact mt_join pins s σ H _ _ v us Q I rx rs ⟨_, a1, ys, rfl, rfl, .inl (.inl (.inl q1)), hl, fin⟩
          · cases ey
        · cases ey
      · cases e
    · cases e
  · cases e

/-! ### x[i] = e -/
def putX {κ : Type} [DecidableEq κ] (kvs : List (κ × Val)) (k : κ) (v : Val) : List (κ × Val) :=
  if (kvs.any fun kv => decide (kv.1 = k)) = true then kvs.map (fun kv => if kv.1 = k then (kv.1, v) else kv) else kvs ++ [(k, v)]
def keyOf : Val → Option Key
  | .int i => some (.inl i)
  | .str s => some (.inr s)
  | _ => none
def oSet (o i v : Val) (h : Hh) : Option Hh := match o with
  | .loc n => (match h[n]? with
    | some (.lst xs) => (match i with
      | .int k => (ixN xs.length k).map fun j => h.set n (.lst (xs.set j v))
      | _ => none)
    | some (.dct kvs) => (match keyOf i with
      | some k => if kvs.length < sizeLine then some (h.set n (.dct (putX kvs k v))) else none
      | none => none)
    | _ => none)
  | _ => none
def rSetX (K : Gw) : TSet := fun o i v H Q => ∃ ρ h a b c h', Sim K ρ H h ∧ Rep K ρ H a o ∧ Rep K ρ H b i ∧ Rep K ρ H c v ∧ oSet a b c h = some h' ∧ ∀ ρ' H', Grow ρ ρ' H H' → Sim K ρ' H' h' → Q H'
theorem Sim.dct {K : Gw} {ρ : List Addr} {H : Hp} {h : Hh} {n : Nat} {a : Addr} {xs : List (Key × Val)} (S : Sim K ρ H h) (ha : ρ[n]? = some a) (e : h[n]? = some (.dct xs)) : ∃ vs, H a = some (.dK vs) ∧ RepF K ρ H xs vs := by
  obtain ⟨b, e1, r⟩ := S.at_ n _ e
  rw [ha] at e1
  cases e1
  exact r
theorem keyOf_rep {K : Gw} {ρ : List Addr} {H : Hp} {v : Val} {u : V} {k : Key} (r : Rep K ρ H v u) (e : keyOf v = some k) : u = kV k := by
  cases r <;> first | (cases e; rfl) | (cases e)
theorem any_rep {K : Gw} {ρ : List Addr} {H : Hp} (k : Key) : ∀ {xs : List (Key × Val)} {vs : List (Key × V)}, RepF K ρ H xs vs → (vs.any fun kv => decide (kv.1 = k)) = xs.any fun kv => decide (kv.1 = k)
  | _, _, .nil => rfl
  | _, _, .cons r t => by
    rw [List.any_cons, List.any_cons, any_rep k t, r.1]
theorem RepF.append {κ : Type} {K : Gw} {ρ : List Addr} {H : Hp} : ∀ {xs ys : List (κ × Val)} {vs ws : List (κ × V)}, RepF K ρ H xs vs → RepF K ρ H ys ws → RepF K ρ H (xs ++ ys) (vs ++ ws)
  | _, _, _, _, .nil, s => s
  | _, _, _, _, .cons r t, s => .cons r (RepF.append t s)
theorem map_rep {K : Gw} {ρ : List Addr} {H : Hp} {k : Key} {v : Val} {u : V} (rv : Rep K ρ H v u) : ∀ {xs : List (Key × Val)} {vs : List (Key × V)}, RepF K ρ H xs vs →
    RepF K ρ H (xs.map fun kv => if kv.1 = k then (kv.1, v) else kv) (vs.map fun kv => if kv.1 = k then (kv.1, u) else kv)
  | _, _, .nil => .nil
  | _, _, .cons (a := p) (b := q) r t => by
    rw [List.map_cons, List.map_cons]
    refine .cons ?_ (map_rep rv t)
    by_cases h : p.1 = k
    · rw [if_pos h, if_pos (r.1 ▸ h)]
      exact ⟨r.1, rv⟩
    · rw [if_neg h, if_neg (r.1 ▸ h)]
      exact r
theorem putX_rep {K : Gw} {ρ : List Addr} {H : Hp} {k : Key} {v : Val} {u : V} {xs : List (Key × Val)} {vs : List (Key × V)} (rv : Rep K ρ H v u) (r : RepF K ρ H xs vs) : RepF K ρ H (putX xs k v) (putK vs k u) := by
  unfold putX putK
  rw [any_rep k r]
  split
  · exact map_rep rv r
  · exact r.append (.cons ⟨rfl, rv⟩ .nil)
theorem set_x (hu : X.A.units + 1 < cLine) : PSet X (rSetX (gw X)) := by
  intro pins s σ H o i v ov iv u Q I ro ri rv ⟨ρ, h, a, b, c, h', S, ra, rb, rc, e, k⟩
  unfold oSet at e
  split at e
  · cases ra with
    | @loc n a1 ea =>
    split at e
    · rename_i xs e2
      obtain ⟨vs, q1, r3⟩ := S.lst ea e2
      split at e
      · rename_i j
        cases rb
        cases e1 : ixN xs.length j with
        | none => rw [e1] at e; cases e
        | some m =>
          rw [e1] at e
          cases e
          have mu : Mu (H a1) := by rw [q1]; trivial
          have g : Grow ρ ρ H (upd H a1 (.lst (vs.set m v))) := Grow.put mu
          exact set_list pins s σ H _ _ v ov iv u Q I ro ri rv ⟨a1, vs, j, m, rfl, rfl, q1, by rw [← r3.length]; exact e1, k ρ _ g (S.put (u := .lst (xs.set m c)) ea mu ⟨_, upd_same, RepL.set (rc.mono g) m (r3.mono g)⟩)⟩
      · cases e
    · rename_i kvs e2
      obtain ⟨vs, q1, r3⟩ := S.dct ea e2
      split at e
      · rename_i key ek
        split at e
        · rename_i hl
          cases e
          have mu : Mu (H a1) := by rw [q1]; trivial
          have eb := keyOf_rep rb ek
          subst eb
          have g : Grow ρ ρ H (upd H a1 (.dK (putK vs key v))) := Grow.put mu
          cases (show ov = Value.ref a1 from ro)
          exact d_setItem hu I (DPut.k q1 (by rw [← Paired.length r3]; exact hl)) ri rv fun s' I' => ⟨_, I', k ρ _ g (S.put (u := .dct (putX kvs key c)) ea mu ⟨_, upd_same, putX_rep (rc.mono g) (r3.mono g)⟩)⟩
        · cases e
      · cases e
    · cases e
  · cases e
def sSetIx (o i x : XE) : XS := fun e h => match x e h with
  | .ok v h1 => (match o e h1 with
    | .ok ov h2 => (match i e h2 with
      | .ok iv h3 => (match oSet ov iv v h3 with
        | some h4 => .nx e h4
        | none => .stuck)
      | .exc c fs h3 => .exc c fs e h3
      | .stuck => .stuck)
    | .exc c fs h2 => .exc c fs e h2
    | .stuck => .stuck)
  | .exc c fs h1 => .exc c fs e h1
  | .stuck => .stuck
theorem setIx_of {K : Gw} {o i x : XE} {D : Ends} {σ : St} {H : Hp} (h : tXS K W (sSetIx o i x) D σ H) : tAsg (tX K W x) (gSub (tX K W o) (tX K W i) (rSetX K)) D σ H := by
  obtain ⟨ρ, env, h, S, E, p⟩ := h
  refine ⟨ρ, env, h, S, E, (afterE (f := fun v h1 => match o env h1 with
    | .ok ov h2 => (match i env h2 with
      | .ok iv h3 => (match oSet ov iv v h3 with
        | some h4 => .nx env h4
        | none => .stuck)
      | .exc c fs h3 => .exc c fs env h3
      | .stuck => .stuck)
    | .exc c fs h2 => .exc c fs env h2
    | .stuck => .stuck) E p).imp fun v h1 ρ1 H1 g1 S1 q1 u ru => ⟨ρ1, env, h1, S1, E.mono g1, (afterE (f := fun ov h2 => match i env h2 with
      | .ok iv h3 => (match oSet ov iv v h3 with
        | some h4 => .nx env h4
        | none => .stuck)
      | .exc c fs h3 => .exc c fs env h3
      | .stuck => .stuck) (E.mono g1) q1).imp fun ov h2 ρ2 H2 g2 S2 q2 u2 ru2 => ⟨ρ2, env, h2, S2, (E.mono g1).mono g2, (afterE (f := fun iv h3 => match oSet ov iv v h3 with
        | some h4 => .nx env h4
        | none => .stuck) ((E.mono g1).mono g2) q2).imp fun iv h3 ρ3 H3 g3 S3 q3 u3 ru3 => ?_⟩⟩⟩
  cases e1 : oSet ov iv v h3 with
  | none => rw [e1] at q3; exact q3.elim
  | some h4 =>
    rw [e1] at q3
    exact ⟨ρ3, h3, ov, iv, v, h4, S3, ru2.mono g3, ru3, (ru.mono g2).mono g3, e1, fun ρ' H' g s => q3 ρ' H' σ g s ((((E.mono g1).mono g2).mono g3).mono g)⟩
theorem qs_setIx {o i e : Expr} {xo xi x : XE} {pos pos' : Pos} (hu : X.A.units + 1 < cLine) (ho : QE X W o xo) (hi : QE X W i xi) (he : QE X W e x) (hs : swapsWithSole [.Subscript o i pos'] e pos.line X.env = pure false := by rfl) (hw : swappedStores [.Subscript o i pos'] e X.env = pure none := by rfl)
    (ha : ∀ v, assign (.Subscript o i pos') X.env v = (do
      let ov ← holding [v] (eval o X.env)
      let iv ← holding [v, ov] (eval i X.env)
      standAt pos'
      holding [v, ov, iv] (setItem ov iv v)
      release [v, ov, iv] []) := by intro _; rfl)
    (h1 : (assignEach [.Subscript o i pos'] X.env).map (·.2) = [assign (.Subscript o i pos') X.env] := by rfl) : QS X W (.Assign [.Subscript o i pos'] e pos) (sSetIx xo xi x) :=
  PS.of (ps_asg he (pg_sub ho hi (set_x hu) ha) hs hw h1) fun _ _ _ => setIx_of

/-! ### a, b = x, y; a, b, c = x, y, z (plain locals) -/
def sPar (is : List Nat) (a : XA) : XS := fun e h => match a e h with
  | .ok vs h1 => (match is, vs with
    | [i, j], [v, w] => .nx ((e.set i (some v)).set j (some w)) h1
    | [i, j, l], [u, v, w] => .nx (((e.set i (some u)).set j (some v)).set l (some w)) h1
    | _, _ => .stuck)
  | .exc c fs h1 => .exc c fs e h1
  | .stuck => .stuck
theorem afterA {K : Gw} {x : XA} {ρ : List Addr} {H : Hp} {σ : St} {env : En} {h : Hh} {D : Ends} {f : List Val → Hh → RS} (E : EnvR K ρ H W.s env σ)
    (p : PostS K W ρ H D (match x env h with | .ok v h1 => f v h1 | .exc c fs h1 => .exc c fs env h1 | .stuck => .stuck)) : Post K W σ ρ H (fun v h1 ρ1 H1 => PostS K W ρ1 H1 D (f v h1)) (x env h) := by
  cases e : x env h with
  | ok v h1 => rw [e] at p; exact fun ρ1 H1 g1 S1 => PostS.mono g1 p
  | exc c fs h1 => rw [e] at p; exact fun ρ1 H1 d cv g1 S1 xc => p ρ1 H1 d σ cv g1 S1 (E.mono g1) xc
  | stuck => rw [e] at p; exact p
theorem qs_par {i j : Nat} {x y : Str} {a b : Expr} {ta : XA} {px py pt pos : Pos} {kt k2 : Nat} {pt2 : Pos} (hc : X.calm = true) (hN : X.N.Nodup) (hi : X.N[i]? = some x) (hj : X.N[j]? = some y) (hij : i ≠ j)
    (hx : X.env.scope.names.lookup x = some .local) (hy : X.env.scope.names.lookup y = some .local) (ha : QA X W [a, b] ta)
    (hw : swappedStores [.Tuple [.Name x px, .Name y py] kt pt] (.Tuple [a, b] k2 pt2) X.env = pure (some [x, y]))
    (hs : swapsWithSole [.Tuple [.Name x px, .Name y py] kt pt] (.Tuple [a, b] k2 pt2) pos.line X.env = pure false := by rfl) (h0 : W.s = none := by rfl) :
    QS X W (.Assign [.Tuple [.Name x px, .Name y py] kt pt] (.Tuple [a, b] k2 pt2) pos) (sPar [i, j] ta) := PS.of (ps_par hc hN hi hj hij hx hy ha hw hs) fun D σ H ⟨ρ, env, h, S, E, p⟩ =>
  ⟨ρ, env, h, S, E, (afterA (f := fun vs h1 => match [i, j], vs with
    | [i, j], [v, w] => .nx ((env.set i (some v)).set j (some w)) h1
    | [i, j, l], [u, v, w] => .nx (((env.set i (some u)).set j (some v)).set l (some w)) h1
    | _, _ => .stuck) E p).imp fun vs h1 ρ1 H1 g1 S1 q us rs => by
      cases rs with
      | nil => exact q.elim
      | cons r1 r2 =>
        cases r2 with
        | nil => exact q.elim
        | cons r3 r4 =>
          cases r4 with
          | nil => exact ⟨_, _, rfl, q ρ1 H1 _ (Grow.refl _ _) S1 (((E.mono g1).set i r1 (fun q z => by rw [h0] at z; cases z)).set j r3 (fun q z => by rw [h0] at z; cases z))⟩
          | cons _ _ => exact q.elim⟩

/-! ### dict displays -/
def xPairs : List (XE × XE) → En → Hh → Res (List (Val × Val))
  | [], _, h => .ok [] h
  | (a, b) :: r, e, h => (a e h).bind fun x h1 => (b e h1).bind fun y h2 => (xPairs r e h2).bind fun ps h3 => .ok ((x, y) :: ps) h3
def keysOf : List (Val × Val) → Option (List (Key × Val))
  | [] => some []
  | (a, b) :: r => match keyOf a, keysOf r with
    | some k, some ks => some ((k, b) :: ks)
    | _, _ => none
def mergeX (kvs more : List (Key × Val)) : List (Key × Val) := more.foldl (fun acc kv => putX acc kv.1 kv.2) kvs
def xDict (ps : List (XE × XE)) : XE := fun e h => (xPairs ps e (h ++ [.dct []])).bind fun qs h2 => match keysOf qs, h2[h.length]? with
  | some kvs, some (.dct []) => if kvs.length ≤ 15 then .ok (.loc h.length) (h2.set h.length (.dct (mergeX [] kvs))) else .stuck
  | _, _ => .stuck
def RepP (K : Gw) (ρ : List Addr) (H : Hp) : List (Val × Val) → List (V × V) → Prop := Paired fun p q => Rep K ρ H p.1 q.1 ∧ Rep K ρ H p.2 q.2
theorem pairs_of {K : Gw} {env : En} {σ : St} : ∀ {ps : List (XE × XE)} {ρ : List Addr} {H : Hp} {h : Hh} {Q : List (V × V) → Hp → Prop}, Sim K ρ H h → EnvR K ρ H W.s env σ →
    Post K W σ ρ H (fun qs _ ρ1 H1 => ∀ us, RepP K ρ1 H1 qs us → Q us H1) (xPairs ps env h) → tPairs (ps.map fun p => (tX K W p.1, tX K W p.2)) σ H Q
  | [], ρ, H, h, Q, S, E, p => p ρ H (Grow.refl _ _) S [] .nil
  | (a, b) :: r, ρ, H, h, Q, S, E, p => ⟨ρ, env, h, S, E, (Post.bind p).imp fun x h1 ρ1 H1 g1 S1 q1 u ru => ⟨ρ1, env, h1, S1, E.mono g1, (Post.bind q1).imp fun y h2 ρ2 H2 g2 S2 q2 w rw' =>
      pairs_of S2 ((E.mono g1).mono g2) ((Post.bind q2).imp fun qs h3 ρ3 H3 g3 S3 q3 us rs => q3 ρ3 H3 (Grow.refl _ _) S3 _ (.cons ⟨(ru.mono g2).mono g3, rw'.mono g3⟩ rs))⟩⟩
theorem keysOf_rep {K : Gw} {ρ : List Addr} {H : Hp} : ∀ {qs : List (Val × Val)} {us : List (V × V)} {kvs : List (Key × Val)}, RepP K ρ H qs us → keysOf qs = some kvs → ∃ vs : List (Key × V), us = vs.map (fun kv => (kV kv.1, kv.2)) ∧ RepF K ρ H kvs vs
  | _, _, _, .nil, e => by cases e; exact ⟨[], rfl, .nil⟩
  | _, _, kvs, .cons (a := p) (b := q) (l₁ := l1) r t, e => by
    have e : (match keyOf p.1, keysOf l1 with | some k, some ks => some ((k, p.2) :: ks) | _, _ => none) = some kvs := e
    split at e
    · rename_i k ks e1 e2
      cases e
      obtain ⟨vs, e3, r3⟩ := keysOf_rep t e2
      refine ⟨(k, q.2) :: vs, ?_, .cons ⟨rfl, r.2⟩ r3⟩
      rw [List.map_cons, e3, ← keyOf_rep r.1 e1]
    · cases e
theorem merge_rep {K : Gw} {ρ : List Addr} {H : Hp} : ∀ {more : List (Key × Val)} {rs : List (Key × V)} {kvs : List (Key × Val)} {vs : List (Key × V)}, RepF K ρ H more rs → RepF K ρ H kvs vs → RepF K ρ H (mergeX kvs more) (mergeK vs rs)
  | _, _, _, _, .nil, s => s
  | _, _, _, _, .cons (a := p) (b := q) r t, s => by
    unfold mergeX mergeK
    rw [List.foldl_cons, List.foldl_cons, ← r.1]
    exact merge_rep t (putX_rep r.2 s)
theorem new_dct {K : Gw} {ρ : List Addr} {H : Hp} {h : Hh} {p : Addr} (S : Sim K ρ H h) (hp : H p = none) :
    Grow ρ (ρ ++ [p]) H (upd H p (.dK [])) ∧ Sim K (ρ ++ [p]) (upd H p (.dK [])) (h ++ [.dct []]) ∧ (ρ ++ [p])[h.length]? = some p := by
  have g : Grow ρ (ρ ++ [p]) H (upd H p (.dK [])) := (Grow.new hp).snoc
  refine ⟨g, S.laid hp ⟨[], upd_same, .nil⟩, ?_⟩
  rw [List.getElem?_append_right (by rw [S.len]; exact Nat.le_refl _), S.len, Nat.sub_self]
  rfl
theorem q_dict0 {pos : Pos} : QE X W (.Dict [] [] pos) (xDict []) := PE.of pe_dnewK fun σ H Q ⟨ρ, env, h, S, E, p⟩ q hq => by
  obtain ⟨g, s, r⟩ := new_dct S hq
  have e1 : (h ++ [Ob.dct []])[h.length]? = some (.dct []) := by simp
  have e2 : (h ++ [Ob.dct []]).set h.length (.dct []) = h ++ [.dct []] := by simp
  have p : Post (gw X) W σ ρ H (RV (gw X) Q) (match (some [] : Option (List (Key × Val))), (h ++ [Ob.dct []])[h.length]? with
    | some kvs, some (.dct []) => if kvs.length ≤ 15 then .ok (.loc h.length) ((h ++ [Ob.dct []]).set h.length (.dct (mergeX [] kvs))) else .stuck
    | _, _ => .stuck) := p
  rw [e1] at p
  have p : Post (gw X) W σ ρ H (RV (gw X) Q) (.ok (.loc h.length) ((h ++ [Ob.dct []]).set h.length (.dct []))) := p
  rw [e2] at p
  exact p _ _ g s _ (.loc r)
theorem dict_of {K : Gw} {ps : List (XE × XE)} {σ : St} {H : Hp} {Q : VK} (h : tX K W (xDict ps) σ H Q) : tDisp (ps.map fun p => (tX K W p.1, tX K W p.2)) σ H Q := by
  obtain ⟨ρ, env, h, S, E, p⟩ := h
  intro a ha
  obtain ⟨g, s, r⟩ := new_dct S ha
  refine pairs_of s (E.mono g) ((Post.bind (Post.mono g p)).imp fun qs h2 ρ2 H2 g2 S2 q us rs => ?_)
  split at q
  · rename_i kvs e1 e2
    split at q
    · rename_i hl
      obtain ⟨vs, e3, r3⟩ := keysOf_rep rs e1
      obtain ⟨ws, e4, r4⟩ := S2.dct (g2.get r) e2
      cases r4
      have mu : Mu (H2 a) := by rw [e4]; trivial
      have g3 : Grow ρ2 ρ2 H2 (upd H2 a (.dK (mergeK [] vs))) := Grow.put mu
      exact ⟨e4, vs, e3, by rw [← Paired.length r3]; exact hl, q ρ2 _ g3 (S2.put (u := .dct (mergeX [] kvs)) (g2.get r) mu ⟨_, upd_same, (merge_rep r3 .nil).mono g3⟩) _ (.loc (g2.get r))⟩
    · exact q.elim
  · exact q.elim
theorem q_dict {keys : List (Option Expr)} {values : List Expr} {pos : Pos} {ps : List (XE × XE)} (h : PPs X pos keys values (ps.map fun p => (tX (gw X) W p.1, tX (gw X) W p.2))) (hall : keys.all (·.isSome) = true := by rfl) (hl : keys.length = values.length := by rfl) (h0 : keys ≠ [] := by simp)
    (h15 : keys.length ≤ 15 := by decide) : QE X W (.Dict keys values pos) (xDict ps) := PE.of (pe_disp h hall hl h0 h15) fun _ _ _ => dict_of
end
end EX

set_option Elab.async false
set_option linter.all false
set_option maxRecDepth 100000
set_option maxHeartbeats 1000000
namespace EX
open PySem L2
section
variable {X : Cx} {W : Wd} {k : Nat} {f : Addr} {fd : FuncData} {ps : List Str} {sp : Sp} {G : Fn} {x : Str} {p pos : Pos} {e : Expr} {es : List Expr}
theorem pe_g0 (F : FnG X.prog X.w X.K X.mg X.base k f fd ps sp) (hr : Room k X.A) (hgd : X.A.guards = some []) (hg : Gl X x) (hm : X.mg x = some (.ref f)) (hk : PySem.W.keepIn X.K (.ref f) = true) (hb : Binds X.K fd ps []) (tk : Takes X W.w)
    (hdb : (x == ("__debug__" : Str)) = false) : PE X (.Call (.Name x p) [] [] pos) (tCallSD sp [] (WE W.w) tNil) :=
  ⟨fun pins s σ H Q I h => wpAny_Call_Name_kw (ld_glob I hg hm (PySem.W.callWith_K0 I.kIn hk (run_g (us := []) F hr hgd hb .nil tk I .nil h)) hdb)⟩
theorem q_call0 {n : Nat} (F : FnG X.prog X.w X.K X.mg X.base k f fd ps (spX (gw X) n G)) (hr : Room k X.A) (hgd : X.A.guards = some []) (hg : Gl X x) (hm : X.mg x = some (.ref f)) (hk : PySem.W.keepIn X.K (.ref f) = true) (hb : Binds X.K fd ps []) (tk : Takes X W.w)
    (hdb : (x == ("__debug__" : Str)) = false := by decide) : QE X W (.Call (.Name x p) [] [] pos) (xCall n G xNil) :=
  PE.of (pe_g0 F hr hgd hg hm hk hb tk hdb) fun σ H Q h => by
    obtain ⟨ρ, env, h1, S, E, q⟩ := callX_of h
    exact q ρ H (Grow.refl _ _) S [] .nil
/-- constants of the module -/
theorem q_gint {i : Int} (hm : ∃ t, X.mg x = some (.int i t)) (hg : Gl X x) (hd : (x == ("__debug__" : Str)) = false := by decide) : QE X W (.Name x pos) (xC (.int i)) := by
  obtain ⟨t, hm⟩ := hm
  exact q_c (pe_glob (v := .int i) hg hm ⟨t, rfl⟩ hd) fun _ _ => .int i
theorem q_gstr {i : Str} (hm : ∃ t, X.mg x = some (.str i t)) (hg : Gl X x) (hd : (x == ("__debug__" : Str)) = false := by decide) : QE X W (.Name x pos) (xC (.str i)) := by
  obtain ⟨t, hm⟩ := hm
  exact q_c (pe_glob (v := .str i) hg hm ⟨t, rfl⟩ hd) fun _ _ => .str i
/-- a tuple of the written part -/
def KTup (K : PySem.W.Frag) (mg : Str → Option Value) (x : Str) (vs : List V) : Prop := ∃ a, mg x = some (.ref a) ∧ ∀ H, SqT K H a vs
def flatV2 : Val → V
  | .non => .non
  | .bl b => .bl b
  | .int i => .int i
  | .str s => .str s
  | .ty n => .ty n
  | _ => .non
theorem repL_flatV {K : Gw} {ρ : List Addr} {H : Hp} : ∀ {xs : List Val}, xs.all flatX = true → RepL K ρ H xs (xs.map flatV2)
  | [], _ => .nil
  | x :: xs, h => by
    rw [List.all_cons, Bool.and_eq_true] at h
    refine .cons ?_ (repL_flatV h.2)
    have h1 := h.1
    cases x <;> first | exact .non | exact .bl _ | exact .int _ | exact .str _ | cases h1
theorem q_gtup {xs : List Val} (hm : KTup X.K X.mg x (xs.map flatV2)) (hg : Gl X x) (hf : xs.all flatX = true := by rfl) (hd : (x == ("__debug__" : Str)) = false := by decide) : QE X W (.Name x pos) (xC (.tup xs)) := by
  obtain ⟨a, hm, hs⟩ := hm
  exact q_c (pe_glob (v := .ref a) hg hm rfl hd) fun ρ H => .tup (hs H) (repL_flatV hf)
/-- a built-in class as a value -/
theorem q_ty {n : String} (hg : Gl X x) (hm : X.mg x = none) (hv : bootBuiltins x = some (.type n)) (hn : x ≠ "__name__" := by decide) (hd : (x == ("__debug__" : Str)) = false := by decide) : QE X W (.Name x pos) (xC (.ty n)) :=
  q_c (pe_bltn (v := .ty n) hg hm hv rfl hn hd) fun _ _ => .ty n
/-! ### text * number -/
def mulOk (x : Str) (n : Int) : Bool := !(decide (n < -(2 ^ 63 : Int)) || decide (n ≥ 2 ^ 63)) && (decide (n < 1) || (n == 1 || x.length == 0) || (decide (n ≤ 1000) && decide (x.length ≤ 1000)))
theorem mulOk_ok {x : Str} {n : Int} (h : mulOk x n = true) : MulOk x n := by
  unfold mulOk at h
  simp only [Bool.and_eq_true, Bool.or_eq_true, Bool.not_eq_true', Bool.or_eq_false_iff, decide_eq_false_iff_not, decide_eq_true_eq] at h
  obtain ⟨⟨h1, h2⟩, h3⟩ := h
  refine ⟨by simp only [Bool.or_eq_false_iff, decide_eq_false_iff_not]; exact ⟨h1, h2⟩, fun n1 n2 => ?_, fun n1 n2 => ?_⟩
  · rcases h3 with (h3 | h3) | h3
    · exact absurd h3 n1
    · rw [Bool.or_eq_false_iff] at n2
      rcases h3 with h3 | h3
      · rw [h3] at n2; exact absurd n2.1 (by decide)
      · rw [h3] at n2; exact absurd n2.2 (by decide)
    · have hx : (x.length : Int) ≤ 1000 := by omega
      have : (1000 : Int) ≤ (2 ^ 63 - 1) / n := by
        rw [Int.le_ediv_iff_mul_le (by omega)]
        have := h3.1
        omega
      omega
  · rcases h3 with (h3 | h3) | h3
    · exact absurd h3 n1
    · rw [Bool.or_eq_false_iff] at n2
      rcases h3 with h3 | h3
      · rw [h3] at n2; exact absurd n2.1 (by decide)
      · rw [h3] at n2; exact absurd n2.2 (by decide)
    · have h4 : x.length * n.toNat ≤ 1000 * 1000 := Nat.mul_le_mul h3.2 (by have := h3.1; omega)
      unfold Builtin.Str.tooLong
      simp only [decide_eq_false_iff_not]
      rw [sizeLine_eq]
      omega
def oMul2 : Op2 := fun a b h => match a, b with
  | .str x, .int n => if mulOk x n = true then some (.str (Txt.mul x n), h) else none
  | _, _ => oMul a b h
theorem op_mul2_x : OpR X (binaryOp .Mult) (rS2 (gw X) oMul2) := by
  intro pins s σ H x y v u Q I rx ry ⟨ρ, h, a, b, z, h', S, ra, rb, e, k⟩
  unfold oMul2 at e
  split at e
  · cases ra; cases rb
    split at e
    · rename_i hc
      cases e
      obtain ⟨t, rfl⟩ := rx
      obtain ⟨t2, rfl⟩ := ry
      exact SB.mul (mulOk_ok hc) fun t' k' => ⟨.str _, H, I.tok _, ⟨_, rfl⟩, k ρ H _ (Grow.refl _ _) S (.str _)⟩
    · cases e
  · exact op_mul_x pins s σ H x y v u Q I rx ry ⟨ρ, h, a, b, z, h', S, ra, rb, e, k⟩
end
theorem un70 {k : Nat} {A : Around} (hr : Room k A) : A.units + 70 < cLine := by have := hr.un; omega
theorem bt_len : bootBuiltins "len" = some (.builtin "len") := by decide +kernel
theorem bt_isinstance : bootBuiltins "isinstance" = some (.builtin "isinstance") := by decide +kernel
theorem bt_all : bootBuiltins "all" = some (.builtin "all") := by decide +kernel
theorem bt_ord : bootBuiltins "ord" = some (.builtin "ord") := by decide +kernel
theorem bt_max : bootBuiltins "max" = some (.builtin "max") := by decide +kernel
theorem bt_min : bootBuiltins "min" = some (.builtin "min") := by decide +kernel
theorem bt_repr : bootBuiltins "repr" = some (.builtin "repr") := by decide +kernel
theorem bt_int : bootBuiltins "int" = some (.type "int") := by decide +kernel
theorem bt_bool : bootBuiltins "bool" = some (.type "bool") := by decide +kernel
theorem bt_str : bootBuiltins "str" = some (.type "str") := by decide +kernel
theorem bt_tuple : bootBuiltins "tuple" = some (.type "tuple") := by decide +kernel
theorem bt_list : bootBuiltins "list" = some (.type "list") := by decide +kernel
theorem bt_dict : bootBuiltins "dict" = some (.type "dict") := by decide +kernel
end EX

set_option Elab.async false
set_option linter.all false
set_option maxRecDepth 100000
set_option maxHeartbeats 1000000
namespace EX
open PySem PySem.Spec PyProof.Rows L2
/-- the script as it is tracked at the law's entry -/
def entryH (K : PySem.W.Frag) (a : Addr) (o : Obj) (ns : List Int) : Hp := fun b => if b = a ∧ K.lookup a = none then some (.frz o (.lst (ns.map V.int))) else none
theorem entry_cases {K : PySem.W.Frag} {a b : Addr} {o : Obj} {ns : List Int} {u : HO} (h : entryH K a o ns b = some u) : b = a ∧ K.lookup a = none ∧ u = .frz o (.lst (ns.map V.int)) := by
  unfold entryH at h
  split at h
  · rename_i c
    cases h
    exact ⟨c.1, c.2, rfl⟩
  · cases h
theorem cx_never {P : Program} {w : World} {outer : List Env} {H : Hp} {s : Shared} {e : Value} {s' : Shared} (h : L2.CX P w outer H s (fun _ _ _ => False) e s') : False := by
  obtain ⟨_, _, _, _, _, _, _, _, _, _, _, _, z⟩ := h
  exact z
theorem law_g {P : Program} {w : World} {K : PySem.W.Frag} {mg mb : Str → Option Value} {k : Nat} {fa a : Addr} {fd : FuncData} {x : Str} {sp : Sp} {s1 : Shared} {vs : List Value} {ns : List Int}
    (KX : K.In s1.heap) (hns : s1.heap.Ns mainGlobals mg) (hb : s1.heap.Ns builtinsNs mb) (hbb : ∀ x : Str, x ≠ "__name__" → mb x = bootBuiltins x) (hlim : s1.heap.NoLimit) (hgen : s1.gens = #[])
    (ha : s1.heap.get? a = some { cls := .type "list", data := .seq vs.toArray }) (hi : IntsAre vs ns) (hl : ns.length ≤ sizeLine) (hr : Room k callerA)
    (F : ∀ base : Heap, K.In base → base.Ns mainGlobals mg → FnG P w K mg base k fa fd [x] sp) (hbind : ∀ (s : Shared) (u : Value), BindsTo s fd ⟨[u], []⟩ [(x, u)])
    (hsp : ∀ H : Hp, Only H → SqL K H a (ns.map V.int) → sp [.ref a] H (fun v _ => v = .bl true) fun _ _ _ => False) :
    codeAny (model P w) callerA (.call (.ref fa) ⟨[.ref a], []⟩) (fun r s' => r = .ok (.ret (.bool true)) ∧ OldK s1.heap s'.heap ∧ s'.os = s1.os ∧ AllBare s'.gens) s1 := by
  have rv := vals_ints hi
  generalize hH : entryH K a { cls := .type "list", data := .seq vs.toArray } ns = H
  have only : Only H := fun b => by
    cases q : H b with
    | none => exact .inl rfl
    | some u => rw [← hH] at q; exact .inr ⟨_, _, by rw [(entry_cases q).2.2]⟩
  have sq : SqL K H a (ns.map V.int) := by
    cases q : K.lookup a with
    | none => exact .inl (.inr ⟨{ cls := .type "list", data := .seq vs.toArray }, by rw [← hH]; exact if_pos ⟨rfl, q⟩⟩)
    | some o =>
      have z := KX a o q
      rw [ha] at z
      cases z
      exact .inr ⟨_, vs.toArray, _, q, rfl, rfl, rfl, by rw [List.size_toArray, hi.length]; exact hl, by simpa using rv⟩
  have hok : HOk P w H s1.heap := fun b u q => by
    rw [← hH] at q
    obtain ⟨rfl, -, rfl⟩ := entry_cases q
    exact ⟨ha, by rw [List.length_map]; exact hl, vs, _, rv, ha⟩
  have nodict : ∀ {b : Addr} {o : Obj} {es : Array DictEntry} {ep : Nat}, s1.heap.get? b = some o → o.data = .dict es ep → H b = none := fun {b o es ep} z d => by
    cases q : H b with
    | none => rfl
    | some u =>
      rw [← hH] at q
      obtain ⟨rfl, -, -⟩ := entry_cases q
      rw [ha] at z
      cases z
      exact absurd (show Data.seq vs.toArray _ = Data.dict es ep from d) (by simp)
  have ns' : ∀ {b : Addr} {m : Str → Option Value}, s1.heap.Ns b m → (hidT s1.heap H).Ns b m := fun ⟨o, es, ep, z, d, r⟩ => ⟨o, es, ep, hidT_get z (nodict z d), d, r⟩
  have kin : K.In (hidT s1.heap H) := fun b o z => hidT_get (KX b o z) (by
    cases q : H b with
    | none => rfl
    | some u =>
      rw [← hH] at q
      obtain ⟨rfl, n, -⟩ := entry_cases q
      rw [n] at z
      cases z)
  have e0 : Env0 P w K mg (hidT s1.heap H) callerA [] s1 H :=
    ⟨rfl, ⟨kin, ns' hns, ⟨mb, ns' hb, hbb⟩, match hlim with | ⟨mc, z1, z2⟩ => ⟨mc, ns' z1, z2⟩⟩, fun _ _ z => of_hidT z, Nat.le_of_eq (hidT_size _ _), trivial, fun _ z => (nomatch z), hok, AllBare.of_eq hgen⟩
  refine codeAny_mono ((F _ kin (ns' hns)).run callerA [] s1 H ⟨[.ref a], []⟩ [.ref a] [.ref a] _ _ hr rfl e0 (hbind s1 (.ref a)) (.cons rfl .nil) (hsp H only sq)) fun res s' z => ?_
  match res, z with
  | .error e, z => exact (cx_never z).elim
  | .ok (.ret u), ⟨v, H', hos, hbare, un, hok', rr, q⟩ =>
    cases (show v = .bl true from q)
    cases (show u = Value.bool true from rr)
    refine ⟨rfl, OldK.of_keep fun b o z => ?_, hos, hbare⟩
    rcases only b with n | ⟨ob, xs, n⟩
    · exact un.keep b o z n (by intro t; cases t) (by simp)
    · have z1 := (hok b _ n).1
      have z2 := (hok' b _ (un.frzs b ob _ n)).1
      rw [z] at z1
      cases z1
      exact z2
theorem walk_g {l : PySem.W.OpenLaw} {n k : Nat} {q : Program} {loose : List Str} {XP : (Str → Option Value) → Heap → Prop} {YP : World → Heap → Prop} {d : DefRec} {x : Str}
    (hn : l.most = some n) (hn2 : n ≤ sizeLine) (hdf : d.params.defaults = []) (hr : Room k callerA)
    (F : ∀ (w : World) (mg : Str → Option Value) (fa : Addr) (h : Heap), YP w h → h.Ns mainGlobals mg → mg d.name = some (.ref fa) →
      ∃ (K : PySem.W.Frag) (fd : FuncData) (sp : Sp), K.In h ∧ (∀ (s : Shared) (u : Value), BindsTo s fd ⟨[u], []⟩ [(x, u)]) ∧
        (∀ (H : Hp) (a : Addr) (ns : List Int), ns.length ≤ n → Only H → SqL K H a (ns.map V.int) → sp [.ref a] H (fun v _ => v = .bl true) fun _ _ _ => False) ∧
        ∀ base : Heap, K.In base → base.Ns mainGlobals mg → FnG l.prog w K mg base k fa fd [x] sp) :
    PySem.W.WalkO q loose XP YP l.row.toRowW d [] (fun f vs => PySem.call f vs) :=
  Att.attach_call hn hdf fun w s0 s1 mg mb fa o pm cd doc a vs ns G Y ho hd hcd hmg hobj hints hlen hg =>
    match F w mg fa _ Y G.T.g hmg with
    | ⟨_, _, _, KX, hb, hsp, hF⟩ => law_g KX G.T.g G.T.b G.T.builtins G.T.nolimit hg hobj hints (Nat.le_trans hlen hn2) hr hF hb fun H hO hS => hsp H a ns hlen hO hS
/-- the law's promise from what its function yields -/
theorem law_sp {K : Gw} {G : Fn} {H : Hp} {a : Addr} {ns : List Int} (h : ∃ h', G [.scr (ns.map Val.int)] [] = .ok (.bl true) h') (hO : Only H) (hS : SqL K.K H a (ns.map V.int)) : spX K 1 G [.ref a] H (fun v _ => v = .bl true) fun _ _ _ => False := by
  have hints : ∀ l : List Int, RepL K [] H (l.map Val.int) (l.map V.int) := fun l => by
    induction l with
    | nil => exact .nil
    | cons i l ih => exact .cons (.int i) ih
  have ro : RoS K.K H a (ns.map V.int) := by
    rcases hS with (z | ⟨o, z⟩) | z
    · rcases hO a with q | ⟨_, _, q⟩ <;> rw [q] at z <;> cases z
    · exact .inl ⟨o, z⟩
    · exact .inr z
  obtain ⟨h', e⟩ := h
  refine ⟨[], [], [.scr (ns.map Val.int)], ⟨rfl, List.nodup_nil, fun n o z => by simp at z⟩, .cons (.scr ro (hints ns)) .nil, rfl, ?_⟩
  rw [e]
  intro ρ' H' _ _ u r
  cases r
  rfl
end EX

set_option Elab.async false
set_option linter.all false
set_option maxRecDepth 100000
set_option maxHeartbeats 1000000
namespace EX
open PySem PySem.Spec L2
open PyProof.Rows hiding St
/-! ### an exception that is looked at by the clauses of a try -/
structure Caught (X : Cx) (pins : List (Addr × Obj)) (σ : St) (H : Hp) (cls : Value) (d : Option Addr) (a : Addr) (s : Shared) : Prop where
  ex : ∃ (B : Heap) (sI : Shared), Inv X pins σ H sI ∧ (∀ b o, sI.heap.get? b = some o → b ∉ frs X.stack → B.get? b = some o) ∧ sI.heap.UpToSlots s.heap ∧
    PySem.HandSPX.FlyingZ B (X.env :: X.outer) a (Zc cls d) s.heap ∧ s.os = sI.os ∧ AllBare s.gens
  na : H a = none
section
variable {X : Cx} {pins : List (Addr × Obj)} {σ : St} {H : Hp} {cls : Value} {d : Option Addr} {a : Addr} {s : Shared}
theorem Caught.inv (c : Caught X pins σ H cls d a s) : Inv X pins σ H s := match c.ex with
  | ⟨_, _, J, nb, up, fl, o, ag⟩ => J.landed nb fl.1 up o ag
theorem Caught.obj (c : Caught X pins σ H cls d a s) : ∃ (oe : Obj) (vs : Array Value), s.heap.get? a = some oe ∧ Zc cls d oe ∧ oe.data = .fields vs ∧ a ∉ frs (X.env :: X.outer) := by
  obtain ⟨B, sI, J, nb, up, fl, o, ag⟩ := c.ex
  obtain ⟨oe, vs, g, z, f⟩ := fl.there
  refine ⟨oe, vs, g, z, f, fun hm => ?_⟩
  obtain ⟨_, o2, g2, n2⟩ := fl.2.2.1.mem hm
  rw [g] at g2
  exact n2 vs (Option.some.inj g2 ▸ f)
theorem Caught.suite (c : Caught X pins σ H cls d a s) (hf : X.env.frame = some X.env.locals) : ∃ oe, Zc cls d oe ∧ (∃ vs, oe.data = .fields vs) ∧ s.heap.get? a = some oe ∧ Inv (X.suite a ((a, oe) :: (X.pn ++ pins))) [] σ H s := by
  obtain ⟨oe, vs, g, z, f, nm⟩ := c.obj
  refine ⟨oe, z, ⟨vs, f⟩, g, c.inv.suite g f c.na (fun q => nm ?_) fun q => nm ?_⟩
  · exact List.mem_filterMap.mpr ⟨X.env, .head _, by rw [hf, q]⟩
  · obtain ⟨e1, m1, q1⟩ := List.mem_filterMap.mp q
    exact List.mem_filterMap.mpr ⟨e1, .tail _ m1, q1⟩
theorem Caught.grow {h' : Heap} (c : Caught X pins σ H cls d a s) (k : ∀ b o, s.heap.get? b = some o → h'.get? b = some o) : Caught X pins σ H cls d a { s with heap := h' } := by
  obtain ⟨B, sI, J, nb, up, ⟨f1, f2, f3, oe, vs, T, oT, ts, z1, z2, z3, z4, z5, z6, z7, z8⟩, o, ag⟩ := c.ex
  exact ⟨⟨B, sI, J, nb, up.trans (Heap.UpToSlots.of_keeps k), ⟨fun b u e => k b u (f1 b u e), f2, f3.of_keeps fun b u e _ => ⟨u, k b u e, rfl⟩, oe, vs, T, oT, ts, k _ _ z1, z2, z3, z4, z5, z6, k _ _ z7, z8⟩, o, ag⟩, c.na⟩
theorem Caught.again {A : Around} {E : Value → Shared → Prop} {Q : Unit → Shared → Prop} (c : Caught X pins σ H cls d a s) (q : ∀ s', Caught X pins σ H cls d a s' → Q () s') : wpAny (model X.prog X.w) A (setFlight (.ref a) none) Q E s := by
  obtain ⟨B, sI, J, nb, up, fl, o, ag⟩ := c.ex
  exact PySem.HandSPX.lands_againZ fl fun h2 fl2 up2 => q _ ⟨⟨B, sI, J, nb, up.trans up2, fl2, o, ag⟩, c.na⟩
theorem Caught.type {M : Model} (c : Caught X pins σ H cls d a s) : PySem.W.Looks M s.heap (typeOf (.ref a)) cls := by
  obtain ⟨oe, vs, g, z, f, nm⟩ := c.obj
  exact fun A Q E s' k q => wpAny_typeOf_ref (k _ _ g) (by rw [z.1]; exact q)
/-- no clause is its -/
theorem Caught.out {W : WX} {Q : Flow → Shared → Prop} (hs : X.stack = X.env :: X.outer) (hf : X.env.frame = some X.env.locals) (tk : Takes X W) (c : Caught X pins σ H cls d a s) (w : W cls d σ H) :
    wpAny (model X.prog X.w) X.A (handleBy (.ref a) X.env []) Q X.xe s := by
  obtain ⟨B, sI, J, nb, up, fl, o, ag⟩ := c.ex
  refine wpAny_handleBy_nil ?_
  have last : ∀ {α : Type} {Q : α → Shared → Prop}, wpAny (model X.prog X.w) X.A (setFlight (.ref a) X.env.frame) (fun _ s4 => wpAny (model X.prog X.w) X.A (throw (.ref a)) Q X.xe s4) X.xe s := fun {α Q} => by
    rw [hf]
    exact PySem.HandSPX.setFlight_upZ fl fun h4 held up4 => wpAny_throw (tk _ _ ⟨a, B, sI, pins, σ, H, cls, d, rfl, J, nb, up.trans up4, .inr (.inr (hs ▸ held)), c.na, o, ag, w⟩)
  obtain ⟨_, _, _, oe, vs, T, oT, ts, g, z, f, v1, _⟩ := fl
  unfold PySem.passOn
  refine wpAny_bind (wpAny_field g f v1 ?_)
  rw [if_neg (by simp)]
  first
    | exact wpAny_bind (wpAny_pure (wpAny_bind last))
    | exact wpAny_bind last
/-- from the air to the clauses -/
theorem caught_of {W : WX} {xe E : Value → Shared → Prop} {u : Value} {Q : Unit → Shared → Prop} (ok : X.Ok) (hs : X.stack = X.env :: X.outer) (hf : X.env.frame = some X.env.locals) (x : L2.XE (X.tr (X.pn ++ pins) xe) W u s)
    (q : ∀ a cls d σ H s', u = .ref a → Caught X pins σ H cls d a s' → W cls d σ H → Q () s') :
    wpAny (model X.prog X.w) X.A (noteFrame u X.env) (fun _ s2 => wpAny (model X.prog X.w) X.A (setFlight u none) Q E s2) E s := by
  obtain ⟨a, B, sI, pn, σ, H, cls, d, rfl, J, nb, up, sky, na, o, ag, w⟩ := x
  have sky2 : Sky B (X.env :: X.outer) a (Zc cls d) X.env.locals s.heap := hs ▸ sky
  exact Sky.land Zc.steady (by rw [ok.frames, hs]) hf sky2 fun h3 fl up3 => q a cls d σ H _ rfl ⟨⟨B, sI, J.ofTry ok, nb, up.trans up3, fl, o, ag⟩, na⟩ w
/-! ### what a clause asks -/
def Tst (X : Cx) (t : Expr) (cs : List Value) : Prop := ∀ (a : Addr) (oe : Obj) (pn : List (Addr × Obj)) (σ : St) (H : Hp) (s : Shared) (cls : Value) (b : Bool) (R : Bool → Shared → Prop) (E : Value → Shared → Prop),
  Inv (X.suite a ((a, oe) :: pn)) [] σ H s → PySem.W.Looks (model X.prog X.w) s.heap (typeOf (.ref a)) cls → PySem.W.exmAny X.K cls cs = some b → (∀ h', (∀ b o, s.heap.get? b = some o → h'.get? b = some o) → R b { s with heap := h' }) →
  wpAny (model X.prog X.w) (X.A.mark (some (.ref a))) (eval t X.env) (fun c s1 => wpAny (model X.prog X.w) (X.A.mark (some (.ref a))) (excMatches (.ref a) c) R E s1) E s
theorem names_ld {x : Str} {c : Value} {np : Pos} (hc : Names X x c) {oe : Obj} {pn : List (Addr × Obj)} (S : Inv (X.suite a ((a, oe) :: pn)) [] σ H s) {Q : Value → Shared → Prop} {E : Value → Shared → Prop} (q : Q c s) :
    wpAny (model X.prog X.w) (X.A.mark (some (.ref a))) (eval (.Name x np) X.env) Q E s := by
  obtain ⟨g, n, m | ⟨m, v, n2⟩⟩ := hc
  · exact ld_glob (X := X.suite a ((a, oe) :: pn)) S g m q n
  · exact ld_blt (X := X.suite a ((a, oe) :: pn)) S g m v q n2 n
theorem tst_one {x : Str} {c : Value} {np : Pos} (hc : Names X x c) : Tst X (.Name x np) [c] := fun a oe pn σ H s cls b R E S L e k => by
  obtain ⟨b1, d1, e1, e2, e3⟩ := PySem.W.exmAny_cons e
  have e2 : some false = some d1 := e2
  cases e2
  rw [Bool.or_false] at e3
  subst e3
  exact names_ld hc S ((PySem.W.exm_one S.kIn L e1).here (k s.heap fun _ _ z => z))
theorem tst_two {x y : Str} {c1 c2 : Value} {p1 p2 tp : Pos} {j : Nat} (h1 : Names X x c1) (h2 : Names X y c2) : Tst X (.Tuple [.Name x p1, .Name y p2] j tp) [c1, c2] := fun a oe pn σ H s cls b R E S L e k => by
  refine wpAny_Tuple (spliced_more (names_ld h1 S (spliced_more (names_ld h2 S (spliced_none ⟨by show _ ≤ sizeLine; rw [sizeLine_eq]; simp, ?_⟩)))))
  have kp : ∀ b o, s.heap.get? b = some o → (s.heap.push { cls := .type "tuple", data := .seq [c1, c2].toArray }).get? b = some o := fun b o z => Heap.get?_push_of_some _ z
  exact (PySem.W.exm_tup2 (S.kIn.keeps kp) (L.keeps kp) (Heap.get?_push_size _ rfl) e).here (k _ kp)
theorem tst_three {x y z : Str} {c1 c2 c3 : Value} {p1 p2 p3 tp : Pos} {j : Nat} (h1 : Names X x c1) (h2 : Names X y c2) (h3 : Names X z c3) : Tst X (.Tuple [.Name x p1, .Name y p2, .Name z p3] j tp) [c1, c2, c3] := fun a oe pn σ H s cls b R E S L e k => by
  refine wpAny_Tuple (spliced_more (names_ld h1 S (spliced_more (names_ld h2 S (spliced_more (names_ld h3 S (spliced_none ⟨by show _ ≤ sizeLine; rw [sizeLine_eq]; simp, ?_⟩)))))))
  have kp : ∀ b o, s.heap.get? b = some o → (s.heap.push { cls := .type "tuple", data := .seq [c1, c2, c3].toArray }).get? b = some o := fun b o z => Heap.get?_push_of_some _ z
  exact (PySem.W.exm_tup3 (S.kIn.keeps kp) (L.keeps kp) (Heap.get?_push_size _ rfl) e).here (k _ kp)
end
/-! ### classes of exceptions, try -/
/-- each class with the names that it is of -/
abbrev Ct := List (Str × List Str)
def subX (ct : Ct) (c d : Str) : Option Bool := (ct.lookup c).map fun l => l.contains d
def anyX (ct : Ct) (c : Str) : List Str → Option Bool
  | [] => some false
  | d :: r => match subX ct c d, anyX ct c r with
    | some b, some e => some (b || e)
    | _, _ => none
structure Hdl where
  cs : List Str
  slot : Option Nat
  run : Str → List (Str × Val) → XS
def unS : Option Nat → En → En
  | none, e => e
  | some i, e => e.set i none
def unslot (i : Option Nat) : RS → RS
  | .nx e h => .nx (unS i e) h
  | .bk e h => .bk (unS i e) h
  | .ct e h => .ct (unS i e) h
  | .rt v h => .rt v h
  | .exc _ _ _ _ => .stuck
  | .stuck => .stuck
def handle (ct : Ct) (c : Str) (fs : List (Str × Val)) (e : En) (h : Hh) : List Hdl → RS
  | [] => .exc c fs e h
  | x :: r => match anyX ct c x.cs with
    | some true => unslot x.slot (x.run c fs (unS x.slot e) h)
    | some false => handle ct c fs e h r
    | none => .stuck
def sTry (ct : Ct) (body : XS) (l : List Hdl) : XS := fun e h => match body e h with
  | .exc c fs e1 h1 => handle ct c fs e1 h1 l
  | r => r
/-- the value of a class's name -/
def Nv (mg : Str → Option Value) (d : Str) (dv : Value) : Prop := mg d = some dv ∨ (mg d = none ∧ bootBuiltins d = some dv)
/-- what isinstance asks of a class of exceptions -/
structure IsC (K : PySem.W.Frag) (C : Addr) : Prop where
  hc : (PySem.W.clsIn K C).isSome = true
  ha : PySem.W.findIn K (.ref C) "__class__" = some (some (.builtin "object.__class__"))
  hn : PySem.W.specialIn K (.builtin "object.__class__") "__get__" = some (some (.builtin "getset_descriptor.__get__"))
  ht : PySem.W.takesIn K (.builtin "object.__class__") = some true
  hm : PySem.W.mroIn K C (.type "object") = some true
structure CtOk (K : PySem.W.Frag) (mg : Str → Option Value) (ct : Ct) (ds fl : List Str) : Prop where
  of : ∀ c l, ct.lookup c = some l → ∃ C, mg c = some (.ref C) ∧ XfC K C ∧ IsC K C ∧ (∀ f ∈ fl, PySem.W.findIn K (.ref C) f = some none) ∧
    ∀ d ∈ ds, ∀ dv, Nv mg d dv → PySem.W.exmOne K (.ref C) dv = some (l.contains d) ∧ PySem.W.kitOne K (.ref C) dv = some (l.contains d)
theorem CtOk.any {K : PySem.W.Frag} {mg : Str → Option Value} {ct : Ct} {ds fl : List Str} (T : CtOk K mg ct ds fl) {c : Str} {cls : Value} (hc : mg c = some cls) : ∀ {cs : List Str} {cvs : List Value} {b : Bool}, Paired (Nv mg) cs cvs → (∀ d ∈ cs, d ∈ ds) → anyX ct c cs = some b →
    PySem.W.exmAny K cls cvs = some b
  | [], _, b, .nil, _, e => e
  | d :: r, _, b, .cons (b := dv) (l₂ := rv) n t, hin, e => by
    have e : (match subX ct c d, anyX ct c r with | some b, some e => some (b || e) | _, _ => none) = some b := e
    split at e
    · rename_i b1 b2 e1 e2
      cases e
      have i2 := T.any hc t (fun z hz => hin z (.tail _ hz)) e2
      unfold subX at e1
      cases e3 : ct.lookup c with
      | none => rw [e3] at e1; cases e1
      | some l =>
        rw [e3] at e1
        cases e1
        obtain ⟨C, hC, _, _, _, hd⟩ := T.of c l e3
        rw [hc] at hC
        cases hC
        have i1 := (hd d (hin d (.head _)) dv n).1
        show (match PySem.W.exmOne K (.ref C) dv, PySem.W.exmAny K (.ref C) rv with | some b, some d => some (b || d) | _, _ => none) = _
        rw [i1, i2]
    · cases e
theorem any_known {ct : Ct} {c : Str} : ∀ {cs : List Str}, anyX ct c cs = some true → ∃ l, ct.lookup c = some l
  | [], e => by cases e
  | d :: r, e => by
    have e : (match subX ct c d, anyX ct c r with | some b, some e => some (b || e) | _, _ => none) = some true := e
    cases q : ct.lookup c with
    | none => unfold subX at e; rw [q] at e; cases e
    | some l => exact ⟨l, rfl⟩
def WNo : WX := fun _ _ _ _ => False
def TstN (X : Cx) (t : Expr) (cs : List Str) : Prop := ∃ cvs, Tst X t cvs ∧ Paired (Nv X.mg) cs cvs
theorem names_nv {X : Cx} {x : Str} {c : Value} (h : Names X x c) : Nv X.mg x c := h.2.2.imp id fun z => ⟨z.1, z.2.1⟩
theorem tn_one {X : Cx} {x : Str} {c : Value} {np : Pos} (h : Names X x c) : TstN X (.Name x np) [x] := ⟨_, tst_one h, .cons (names_nv h) .nil⟩
theorem tn_two {X : Cx} {x y : Str} {c d : Value} {p1 p2 tp : Pos} {j : Nat} (h : Names X x c) (h2 : Names X y d) : TstN X (.Tuple [.Name x p1, .Name y p2] j tp) [x, y] := ⟨_, tst_two h h2, .cons (names_nv h) (.cons (names_nv h2) .nil)⟩
theorem tn_three {X : Cx} {x y z : Str} {c d e : Value} {p1 p2 p3 tp : Pos} {j : Nat} (h : Names X x c) (h2 : Names X y d) (h3 : Names X z e) : TstN X (.Tuple [.Name x p1, .Name y p2, .Name z p3] j tp) [x, y, z] := ⟨_, tst_three h h2 h3, .cons (names_nv h) (.cons (names_nv h2) (.cons (names_nv h3) .nil))⟩
/-- the clauses -/
inductive HdsX (X : Cx) (ct : Ct) (ds : List Str) : List ExceptHandler → List Hdl → Prop
  | nil : HdsX X ct ds [] []
  | plain {t : Expr} {cs : List Str} {b₀ : Stmt} {su : List Stmt} {p : Pos} {run : Str → List (Str × Val) → XS} {hds : List ExceptHandler} {l : List Hdl} (ht : TstN X t cs) (hin : ∀ d ∈ cs, d ∈ ds)
      (hsu : ∀ (a : Addr) (oe : Obj) (cls : Value) (d : Option Addr) (pn : List (Addr × Obj)) (c : Str) (fs : List (Str × Val)), Zc cls d oe → (∃ vs, oe.data = .fields vs) → X.mg c = some cls → (∃ l, ct.lookup c = some l) → QSs (X.suite a ((a, oe) :: pn)) ⟨WNo, none⟩ (b₀ :: su) (run c fs)) (r : HdsX X ct ds hds l) :
      HdsX X ct ds (.ExceptHandler (some t) none (b₀ :: su) p :: hds) (⟨cs, none, run⟩ :: l)
  | named {t : Expr} {cs : List Str} {b₀ : Stmt} {su : List Stmt} {p : Pos} {run : Str → List (Str × Val) → XS} {hds : List ExceptHandler} {l : List Hdl} {n : Str} {i : Nat} (ht : TstN X t cs) (hin : ∀ d ∈ cs, d ∈ ds) (hi : X.N[i]? = some n) (hl : X.env.kindOf n = some .local)
      (hsu : ∀ (a : Addr) (oe : Obj) (cls : Value) (d : Option Addr) (pn : List (Addr × Obj)) (c : Str) (fs : List (Str × Val)), Zc cls d oe → (∃ vs, oe.data = .fields vs) → X.mg c = some cls → (∃ l, ct.lookup c = some l) → QSs (X.suite a ((a, oe) :: pn)) ⟨WNo, some ⟨i, a, d, fs⟩⟩ (b₀ :: su) (run c fs)) (r : HdsX X ct ds hds l) :
      HdsX X ct ds (.ExceptHandler (some t) (some n) (b₀ :: su) p :: hds) (⟨cs, some i, run⟩ :: l)
section
variable {X : Cx} {W : Wd} {pins : List (Addr × Obj)} {σ : St} {H : Hp} {s : Shared} {ct : Ct} {ds fl : List Str}
/-- behind a suite -/
theorem unslot_of {K : Gw} {ρ : List Addr} {D : Ends} {i : Option Nat} {q : Option Sx} {r : RS} (h0 : W.s = none) (p : PostS K W ρ H D (unslot i r)) :
    PostS K ⟨WNo, q⟩ ρ H { nx := fun σ' H' => D.nx (match i with | none => σ' | some i => σ'.set i none) H', rt := D.rt, bk := fun σ' H' => D.bk (match i with | none => σ' | some i => σ'.set i none) H', ct := fun σ' H' => D.ct (match i with | none => σ' | some i => σ'.set i none) H' } r := by
  have key : ∀ {ρ' : List Addr} {H' : Hp} {e : En} {σ' : St}, EnvR K ρ' H' q e σ' → EnvR K ρ' H' W.s (unS i e) (match i with | none => σ' | some i => σ'.set i none) := fun {ρ' H' e σ'} E => by
    rw [h0]
    cases i with
    | none => exact E.drop
    | some i => exact E.drop.unset i none
  cases r with
  | nx e h => exact fun ρ' H' σ' g S E => p ρ' H' _ g S (key E)
  | bk e h => exact fun ρ' H' σ' g S E => p ρ' H' _ g S (key E)
  | ct e h => exact fun ρ' H' σ' g S E => p ρ' H' _ g S (key E)
  | rt v h => exact p
  | exc c fs e h => exact p.elim
  | stuck => exact p
theorem handle_ok {hds : List ExceptHandler} {l : List Hdl} (T : CtOk X.K X.mg ct ds fl) (hh : HdsX X ct ds hds l) (hs : X.stack = X.env :: X.outer) (hf : X.env.frame = some X.env.locals) (hN : X.N.Nodup) (tk : Takes X W.w) (h0 : W.s = none) :
    ∀ {s : Shared} {σ : St} {H : Hp} {cls : Value} {d : Option Addr} {a : Addr} {ρ : List Addr} {c : Str} {fs : List (Str × Val)} {e : En} {h : Hh} {D : Ends}, Caught X pins σ H cls d a s → Sim (gw X) ρ H h → EnvR (gw X) ρ H none e σ → XcR (gw X) ρ H fs d → X.mg c = some cls →
      PostS (gw X) W ρ H D (handle ct c fs e h l) → wpAny (model X.prog X.w) X.A (handleBy (.ref a) X.env hds) (SP X pins D) X.xe s := by
  induction hh with
  | nil =>
    intro s σ H cls d a ρ c fs e h D C S E xc hc p
    exact C.out hs hf tk (p ρ H d σ cls (Grow.refl _ _) S (by rw [h0]; exact E) xc hc)
  | @plain t cs b₀ su ps run hds l ht hin hsu r ih =>
    intro s σ H cls d a ρ c fs e h D C S E xc hc p
    obtain ⟨cvs, ht, hcv⟩ := ht
    obtain ⟨oe, z, fv, g, I⟩ := C.suite hf
    have p : PostS (gw X) W ρ H D (match anyX ct c cs with | some true => unslot none (run c fs e h) | some false => handle ct c fs e h l | none => .stuck) := p
    cases ea : anyX ct c cs with
    | none => rw [ea] at p; exact p.elim
    | some b =>
      rw [ea] at p
      refine wpAny_handleBy_cons (codeAny_handlers_test (ht a oe _ σ H s cls b _ _ I C.type (T.any hc hcv hin ea) fun h' k => ?_)) (by intro q; cases q)
      have C2 := C.grow k
      cases b with
      | false => exact ih C2 S E xc hc p
      | true =>
        refine codeAny_handlers_suite (C2.again fun s3 C3 => ?_)
        obtain ⟨oe3, z3, fv3, g3, I3⟩ := C3.suite hf
        refine wpAny_mono ((hsu a oe3 cls d _ c fs z3 fv3 hc (any_known ea)).run [] s3 σ H _ I3 ⟨ρ, e, h, S, E, unslot_of (q := none) h0 p⟩) (fun f s6 q => ?_) fun _ _ q => q.elim
        cases f with
        | next => obtain ⟨σ6, H6, I6, q6⟩ := q; exact ⟨σ6, H6, I6.unsuite C.inv.ok, q6⟩
        | brk => obtain ⟨σ6, H6, I6, q6⟩ := q; exact ⟨σ6, H6, I6.unsuite C.inv.ok, q6⟩
        | cont => obtain ⟨σ6, H6, I6, q6⟩ := q; exact ⟨σ6, H6, I6.unsuite C.inv.ok, q6⟩
        | ret u => obtain ⟨v6, σ6, H6, I6, r6, q6⟩ := q; exact ⟨v6, σ6, H6, I6.unsuite C.inv.ok, r6, q6⟩
  | @named t cs b₀ su ps run hds l n i ht hin hi hl hsu r ih =>
    intro s σ H cls d a ρ c fs e h D C S E xc hc p
    obtain ⟨cvs, ht, hcv⟩ := ht
    obtain ⟨oe, z, fv, g, I⟩ := C.suite hf
    have p : PostS (gw X) W ρ H D (match anyX ct c cs with | some true => unslot (some i) (run c fs (e.set i none) h) | some false => handle ct c fs e h l | none => .stuck) := p
    cases ea : anyX ct c cs with
    | none => rw [ea] at p; exact p.elim
    | some b =>
      rw [ea] at p
      refine wpAny_handleBy_cons (codeAny_handlers_test (ht a oe _ σ H s cls b _ _ I C.type (T.any hc hcv hin ea) fun h' k => ?_)) (by intro q; cases q)
      have C2 := C.grow k
      cases b with
      | false => exact ih C2 S E xc hc p
      | true =>
        refine codeAny_handlers_suite_as (C2.again fun s3 C3 => ?_)
        obtain ⟨oe3, z3, fv3, g3, I3⟩ := C3.suite hf
        refine store_ok (X := X.suite a ((a, oe3) :: (X.pn ++ pins))) (v := .ref a) I3 hN hi (.inl hl) rfl (fun s5 I5 => ?_) (.inr hl)
        have hil : i < σ.length := by rw [C.inv.len]; exact (List.getElem?_eq_some_iff.mp hi).1
        have E5 : EnvR (gw X) ρ H (some ⟨i, a, d, fs⟩) (e.set i none) (σ.set i (some (.ref a))) := by
          have E4 := E.unset i (some (.ref a))
          refine ⟨E4.1, E4.2.1, fun q hq => ?_⟩
          cases hq
          exact ⟨List.getElem?_set_self hil, xc⟩
        refine wpAny_mono ((hsu a oe3 cls d _ c fs z3 fv3 hc (any_known ea)).run [] s5 _ H _ I5 ⟨ρ, _, h, S, E5, unslot_of (q := some ⟨i, a, d, fs⟩) h0 p⟩) (fun f s6 q => ?_) fun _ _ q => q.elim
        cases f with
        | next => obtain ⟨σ6, H6, I6, q6⟩ := q; exact gone_ok (I6.unsuite C.inv.ok) hN hi hl fun s7 I7 => ⟨_, H6, I7, q6⟩
        | brk => obtain ⟨σ6, H6, I6, q6⟩ := q; exact gone_ok (I6.unsuite C.inv.ok) hN hi hl fun s7 I7 => ⟨_, H6, I7, q6⟩
        | cont => obtain ⟨σ6, H6, I6, q6⟩ := q; exact gone_ok (I6.unsuite C.inv.ok) hN hi hl fun s7 I7 => ⟨_, H6, I7, q6⟩
        | ret u => obtain ⟨v6, σ6, H6, I6, r6, q6⟩ := q; exact gone_ok (I6.unsuite C.inv.ok) hN hi hl fun s7 I7 => ⟨v6, _, H6, I7, r6, q6⟩
/-- what the body's exceptions must meet -/
def WTry (K : Gw) (W : Wd) (ct : Ct) (l : List Hdl) (D : Ends) : WX := fun cls d σ H => ∃ ρ c fs e h, Sim K ρ H h ∧ EnvR K ρ H none e σ ∧ XcR K ρ H fs d ∧ K.mg c = some cls ∧ PostS K W ρ H D (handle ct c fs e h l)
theorem try_of {K : Gw} {xb : XS} {l : List Hdl} {D : Ends} (h0 : W.s = none) (h : tXS K W (sTry ct xb l) D σ H) : tXS K ⟨WTry K W ct l D, none⟩ xb D σ H := by
  obtain ⟨ρ, env, h, S, E, p⟩ := h
  rw [h0] at E
  refine ⟨ρ, env, h, S, E, ?_⟩
  unfold sTry at p
  cases e : xb env h with
  | nx e1 h1 => rw [e] at p; exact fun ρ' H' σ' g S' E' => p ρ' H' σ' g S' (by rw [h0]; exact E')
  | rt v h1 => rw [e] at p; exact p
  | bk e1 h1 => rw [e] at p; exact fun ρ' H' σ' g S' E' => p ρ' H' σ' g S' (by rw [h0]; exact E')
  | ct e1 h1 => rw [e] at p; exact fun ρ' H' σ' g S' E' => p ρ' H' σ' g S' (by rw [h0]; exact E')
  | exc c fs e1 h1 => rw [e] at p; exact fun ρ' H' d σ' cv g S' E' xc hc => ⟨ρ', c, fs, e1, h1, S', E', xc, hc, PostS.mono g p⟩
  | stuck => rw [e] at p; exact p.elim
theorem qs_try {body : List Stmt} {h₀ : ExceptHandler} {hds : List ExceptHandler} {l : List Hdl} {pos : Pos} {xb : XS} (T : CtOk X.K X.mg ct ds fl) (hs : X.stack = X.env :: X.outer) (hf : X.env.frame = some X.env.locals) (hN : X.N.Nodup) (tk : Takes X W.w) (h0 : W.s = none)
    (hb : ∀ (Wb : WX) (pn : List (Addr × Obj)) (xe : Value → Shared → Prop), Takes (X.tr pn xe) Wb → PassesOwn (model X.prog X.w) X.A X.env xe → QSs (X.tr pn xe) ⟨Wb, none⟩ body xb) (hh : HdsX X ct ds (h₀ :: hds) l) :
    QS X W (.Try body (h₀ :: hds) [] [] pos) (sTry ct xb l) := by
  refine ⟨fun pins s σ H D I h => ?_⟩
  refine wpAny_Try_except (wpAny_mono ((hb (WTry (gw X) W ct l D) (X.pn ++ pins) _ (fun u s' xx => ?_) PassesOwn.looking).run [] s σ H D (I.toTry _) (try_of h0 h)) (fun f s1 q => ?_) fun e s1 q => q)
  · exact caught_of I.ok hs hf xx fun a cls d σ' H' s3 eu C w => by
      subst eu
      obtain ⟨ρ, c, fs, e, h1, S, E, xc, hc, p⟩ := w
      exact handle_ok T hh hs hf hN tk h0 C S E xc hc p
  · cases f with
    | next => obtain ⟨σ6, H6, I6, q6⟩ := q; exact wpAny_execs_nil ⟨σ6, H6, I6.ofTry I.ok, q6⟩
    | brk => obtain ⟨σ6, H6, I6, q6⟩ := q; exact ⟨σ6, H6, I6.ofTry I.ok, q6⟩
    | cont => obtain ⟨σ6, H6, I6, q6⟩ := q; exact ⟨σ6, H6, I6.ofTry I.ok, q6⟩
    | ret u => obtain ⟨v6, σ6, H6, I6, r6, q6⟩ := q; exact ⟨v6, σ6, H6, I6.ofTry I.ok, r6, q6⟩
end
end EX

set_option Elab.async false
set_option linter.all false
set_option maxRecDepth 100000
set_option maxHeartbeats 1000000
namespace EX
open PySem PySem.Spec L2
open PyProof.Rows hiding St
/-! ### in an except suite: a field of the exception, isinstance of it -/
def xFld (fs : List (Str × Val)) (f : Str) : XE := fun _ h => match fs.lookup f with
  | some v => .ok v h
  | none => .stuck
def xIsE (ct : Ct) (c d : Str) : XE := fun _ h => match subX ct c d with
  | some b => .ok (.bl b) h
  | none => .stuck
section
variable {X : Cx} {a : Addr} {oe : Obj} {pn : List (Addr × Obj)} {w : WX} {i : Nat} {cls : Value} {dd : Option Addr} {fs : List (Str × Val)} {ct : Ct} {ds fl : List Str} {c n : Str}
theorem repF_lookup {K : Gw} {ρ : List Addr} {H : Hp} {f : Str} {v : Val} : ∀ {xs : List (Str × Val)} {vs : List (Str × V)}, RepF K ρ H xs vs → xs.lookup f = some v → ∃ u, vs.lookup f = some u ∧ Rep K ρ H v u
  | _, _, .nil, e => by cases e
  | (x, y) :: _, (x', y') :: _, .cons r t, e => by
    obtain ⟨r1, r2⟩ := r
    dsimp only at r1 r2
    subst r1
    by_cases hx : f = x
    · subst hx
      rw [List.lookup_cons_self] at e
      cases e
      exact ⟨y', List.lookup_cons_self, r2⟩
    · have hb : (f == x) = false := by simpa using hx
      rw [List.lookup, hb] at e
      obtain ⟨u, e1, r3⟩ := repF_lookup t e
      exact ⟨u, by rw [List.lookup, hb]; exact e1, r3⟩
theorem q_fld {f : Str} {p pos : Pos} {l : List Str} (T : CtOk X.K X.mg ct ds fl) (hl : ct.lookup c = some l) (hf : f ∈ fl) (hz : Zc cls dd oe) (hv : ∃ vs, oe.data = .fields vs) (hc : X.mg c = some cls) (hn : PE (X.suite a ((a, oe) :: pn)) (.Name n p) (tVar i)) (hb : attributeBase (.Name n p) f X.env (eval (.Name n p) X.env) = eval (.Name n p) X.env := by rfl) :
    QE (X.suite a ((a, oe) :: pn)) ⟨w, some ⟨i, a, dd, fs⟩⟩ (.Attribute (.Name n p) f pos) (xFld fs f) := by
  obtain ⟨C, hC, xf, _, no, _⟩ := T.of c l hl
  rw [hc] at hC
  cases hC
  refine PE.of (pe_xf xf (no f hf) hz hv hn hb) fun σ H Q ⟨ρ, env, h, S, E, p⟩ => ?_
  obtain ⟨e1, xc⟩ := E.2.2 _ rfl
  refine ⟨_, e1, rfl, rfl, ?_⟩
  unfold xFld at p
  cases ef : fs.lookup f with
  | none => rw [ef] at p; exact p.elim
  | some v =>
    rw [ef] at p
    cases dd with
    | none => cases (show fs = [] from xc); cases ef
    | some d =>
      obtain ⟨vs, ev, rf⟩ := xc
      obtain ⟨u, eu, ru⟩ := repF_lookup rf ef
      exact ⟨d, vs, u, rfl, ev, eu, p ρ H (Grow.refl _ _) S u ru⟩
def rIsX (K : PySem.W.Frag) (cls : Value) (a : Addr) (dd : Option Addr) : List V → Hp → VK → Prop := fun xs H Q => ∃ (v : V) (b : Bool), xs = [.ref a, v] ∧ (∀ u, RelV v u → PySem.W.kitOne K cls u = some b) ∧ (∀ d, dd = some d → ∃ vs, H d = some (.xd vs)) ∧ Q (.bl b) H
theorem call_isX {C : Addr} (xf : XfC X.K C) (ic : IsC X.K C) (hz : Zc (.ref C) dd oe) (hv : ∃ vs, oe.data = .fields vs) : CallR (X.suite a ((a, oe) :: pn)) (.builtin "isinstance") (rIsX X.K (.ref C) a dd) := by
  intro pins s σ H xs us Q I r ⟨v, b, e, hk, hd, q⟩
  subst e
  cases r with
  | cons r1 r2 =>
  cases r2 with
  | cons r2 r3 =>
  cases r3
  cases r1
  obtain ⟨hget, _⟩ := I.pin (a, oe) (List.mem_append_left _ (.head _))
  obtain ⟨vs, hv⟩ := hv
  have J : ∃ od, PySem.W.InstAt s.heap a oe C od := by
    obtain ⟨z1, z2⟩ := hz
    cases dd with
    | none => exact ⟨none, hget, z1, by unfold PySem.W.notCls; rw [hv] <;> rfl, by rw [z2]; trivial⟩
    | some d =>
      obtain ⟨ws, hx⟩ := hd d rfl
      obtain ⟨mA, ⟨od, _, _, ho, _⟩, _⟩ : ObjOk X.prog X.w H s.heap d (.xd ws) := I.hok d _ hx
      exact ⟨some od, hget, z1, by unfold PySem.W.notCls; rw [hv] <;> rfl, by rw [z2]; exact ho⟩
  obtain ⟨od, J⟩ := J
  exact PySem.W.kia_one (PySem.W.kitx_exc ic.hc xf.ga xf.gg xf.exC ic.ha ic.hn ic.ht ic.hm) I.kIn J (hk _ r2) (fun z => nomatch z) fun tk => ⟨.bl b, H, I.kept (t' := tk) fun _ _ z => z, rfl, q⟩
theorem q_isE {d : Str} {l : List Str} {p p1 p2 pos : Pos} {v : V} (T : CtOk X.K X.mg ct ds fl) (hl : ct.lookup c = some l) (hd : d ∈ ds) (hz : Zc cls dd oe) (hv : ∃ vs, oe.data = .fields vs) (hc : X.mg c = some cls)
    (hg : Gl X "isinstance") (hm : X.mg "isinstance" = none) (hn : PE (X.suite a ((a, oe) :: pn)) (.Name n p1) (tVar i)) (hdn : PE (X.suite a ((a, oe) :: pn)) (.Name d p2) (tC v)) (hr : ∀ u, RelV v u → Nv X.mg d u) :
    QE (X.suite a ((a, oe) :: pn)) ⟨w, some ⟨i, a, dd, fs⟩⟩ (.Call (.Name "isinstance" p) [.Name n p1, .Name d p2] [] pos) (xIsE ct c d) := by
  obtain ⟨C, hC, xf, ic, _, hk⟩ := T.of c l hl
  rw [hc] at hC
  cases hC
  refine PE.of (pe_callB (call_isX xf ic hz hv) hg hm bt_isinstance (pa_cons hn (pa_cons hdn pa_nil))) fun σ H Q ⟨ρ, env, h, S, E, p⟩ => ?_
  obtain ⟨e1, xc⟩ := E.2.2 _ rfl
  have es : subX ct c d = some (l.contains d) := by unfold subX; rw [hl]; rfl
  unfold xIsE at p
  rw [es] at p
  exact ⟨_, e1, v, l.contains d, rfl, fun u ru => (hk d hd u (hr u ru)).2, fun d' e => by subst e; obtain ⟨vs, ev, _⟩ := xc; exact ⟨vs, ev⟩, p ρ H (Grow.refl _ _) S _ (.bl _)⟩
end
/-! ### defs called where an exception is handled -/
structure Rm (k : Nat) (A : Around) : Prop where
  dp : A.depth + 3 * k + 5 < recursionLimit
  un : A.units + 16 * k + 200 < cLine
theorem Rm.of {k : Nat} {A : Around} (r : Room k A) (h : Option Value) : Rm k (A.mark h) := ⟨r.dp, r.un⟩
theorem Rm.mono {j k : Nat} {A : Around} (r : Rm k A) (h : j ≤ k) : Rm j A := ⟨by have := r.dp; omega, by have := r.un; omega⟩
theorem Rm.deeper {k : Nat} {A : Around} (r : Rm (k + 1) A) (env : Env) : Rm k (A.deeper env) := ⟨by have := r.dp; show A.depth + 1 + 3 * k + 5 < _; omega, by have := r.un; show A.units + 3 + 16 * k + 200 < _; omega⟩
theorem Rm.u70 {k : Nat} {A : Around} (r : Rm k A) : A.units + 70 < cLine := by have := r.un; omega
theorem Rm.u64 {k : Nat} {A : Around} (r : Rm k A) : A.units + 64 < cLine := by have := r.un; omega
theorem Rm.u1 {k : Nat} {A : Around} (r : Rm k A) : A.units + 1 < cLine := by have := r.un; omega
abbrev never : XK := fun _ _ _ => False
structure FnW (P : Program) (w : World) (K : PySem.W.Frag) (mg : Str → Option Value) (base : Heap) (k : Nat) (f : Addr) (fd : FuncData) (ps : List Str) (sp : Sp) : Prop where
  len : ∀ vs H Q E, sp vs H Q E → vs.length = ps.length
  run : ∀ (A : Around) (outer : List Env) (s : Shared) (H : Hp) (args : Args) (us : List Value) (vs : List V) (Q : VK), Rm k A → A.guards = some [] →
    Env0 P w K mg base A outer s H → BindsTo s fd args (ps.zip us) → Vals vs us → sp vs H Q never → codeAny (model P w) A (.call (.ref f) args) (CR (L2.CX P w) outer P w H s Q never) s
theorem FnW.mono {P : Program} {w : World} {K : PySem.W.Frag} {mg : Str → Option Value} {base : Heap} {j k : Nat} {f : Addr} {fd : FuncData} {ps : List Str} {sp : Sp} (F : FnW P w K mg base j f fd ps sp) (h : j ≤ k) : FnW P w K mg base k f fd ps sp :=
  ⟨F.len, fun A outer s H args us vs Q r => F.run A outer s H args us vs Q (r.mono h)⟩
def cxW (P : Program) (w : World) (K : PySem.W.Frag) (mg : Str → Option Value) (base : Heap) (N : List Str) (qual : Str) (scope : Scope) (f : Addr) (cd : Value) (A : Around) (outer : List Env) (s : Shared) (H : Hp) : Cx :=
  { cxOf (L2.CX P w) P w K mg base N qual scope f cd A outer s H never with calm := false, xe := fun _ _ => False }
theorem inv_hot {P : Program} {w : World} {K : PySem.W.Frag} {mg : Str → Option Value} {base : Heap} {N : List Str} {qual : Str} {scope : Scope} {f : Addr} {cd : Value} {A : Around} {outer : List Env} {s s1 : Shared} {H H1 : Hp} {σ : St}
    (I : Inv (cxOf (L2.CX P w) P w K mg base N qual scope f cd { A with handled := none } outer s H never) [] σ H1 s1) : Inv (cxW P w K mg base N qual scope f cd A outer s H) [] σ H1 s1 :=
  ⟨⟨I.ok.mod, I.ok.kind, I.ok.glob, I.ok.blt, I.ok.above, I.ok.inj, I.ok.has, I.ok.cab, (fun z => Bool.noConfusion (show false = true from z)), I.ok.frames, I.ok.stk, I.ok.exf, I.ok.bs, I.ok.bsz, I.ok.noex, I.ok.exfs, I.ok.funs, I.ok.frf⟩,
    I.os, I.bare, I.base, I.loc, I.cell, I.free, I.freeC, I.pin, I.hok, I.len⟩
theorem takesNo {X : Cx} : Takes X WNo := fun _ _ ⟨_, _, _, _, _, _, _, _, _, _, _, _, _, _, _, _, z⟩ => z.elim
section
variable {P : Program} {w : World} {K : PySem.W.Frag} {mg : Str → Option Value} {base : Heap} {x qual : Str} {params : Arguments} {body : List Stmt} {scope : Scope} {dvs : List V} {kws : List (Str × V)} {f : Addr} {fd : FuncData}
theorem fnw_x {N ps : List Str} {k : Nat} {xs : XS} (F : FunD K x qual params body scope dvs kws f fd) (S : FnScope N ps scope)
    (hb : ∀ (cdv : Value) (A : Around) (outer : List Env) (s : Shared) (H : Hp), Rm k (A.deeper (PyProof.Rows.envOfC qual scope s.heap.objs.size f cdv)) → A.guards = some [] →
      QSs (cxW P w K mg base N qual scope f cdv A outer s H) ⟨WNo, none⟩ body xs) : FnW P w K mg base (k + 1) f fd ps (spX ⟨K, mg, w⟩ ps.length (callF N.length xs)) := by
  obtain ⟨oc, od, dV, kV, doc, pm, an, cdv, ct, osl, rfl, lk, hcd, -, -⟩ := F.ex
  have len : ∀ vs H Q E, spX ⟨K, mg, w⟩ ps.length (callF N.length xs) vs H Q E → vs.length = ps.length := fun vs H Q E ⟨ρ, h, as, _, r, hl, _⟩ => by rw [← r.length, hl]
  refine ⟨len, fun A outer s H args us vs Q hr hg e0 hbind rv hsp => ?_⟩
  have stay : ∀ b o, base.get? b = some o → s.heap.get? b = some o := fun b o z => (e0.bs b o z).1
  have KX := e0.mod.kin.keeps stay
  have dep : A.depth < recursionLimit := by have := hr.dp; omega
  refine codeAny_call_function dep (KX _ _ lk) rfl S.co S.gen rfl (PySem.W.codeRec_of KX hcd) (hbind _ _ _ _ (wpAny_newFunctionEnv_cells S.kind ?kinds fun env he s1 ic => ?_))
  case kinds =>
    intro y hy
    exact (S.par y.1 (List.of_mem_zip hy).1).imp id fun z => ⟨z, PySem.W.cellsFrom_some _ _ _ (.inl z)⟩
  cases he
  refine ⟨(e0.mod.nolimit.keeps stay).keeps ic.toInCall.keep, codeAny_func ?_⟩
  have e1 : Env0 P w K mg base { A with handled := none } outer s H := ⟨e0.frames, e0.mod, e0.bs, e0.bsz, e0.funs, e0.frf, e0.hok, e0.bare⟩
  have I := inv_hot (inv_start (CX := L2.CX P w) (E := never) S rfl e1 (len _ _ _ _ hsp) rv ic)
  obtain ⟨ρ, h, as, Sm, r, hl, p⟩ := hsp
  refine wpAny_mono ((hb cdv A outer s H (hr.deeper _) hg).run [] s1 _ H { nx := fun _ H' => Q .non H', rt := Q } I ⟨ρ, _, h, Sm, start_env r, call_post (E := never) Sm.len p⟩) (fun fl s' z => ?_) fun _ _ z => z.elim
  cases fl with
  | ret u => exact match z with | ⟨v, _, H', J, r, q⟩ => ⟨v, H', J.os, J.bare, J.base, J.hok, r, q⟩
  | next => exact match z with | ⟨_, H', J, q⟩ => ⟨V.non, H', J.os, J.bare, J.base, J.hok, rfl, q⟩
  | brk => exact match z with | ⟨_, _, _, q⟩ => q.elim
  | cont => exact match z with | ⟨_, _, _, q⟩ => q.elim
end
section
variable {X : Cx} {sx : Option Sx} {k : Nat} {f : Addr} {fd : FuncData} {ps : List Str} {sp : Sp} {G : Fn} {x : Str} {p pos : Pos} {e : Expr} {es : List Expr} {xa : XA}
theorem pe_gw (F : FnW X.prog X.w X.K X.mg X.base k f fd ps sp) (hr : Rm k X.A) (hgd : X.A.guards = some []) (hg : Gl X x) (hm : X.mg x = some (.ref f)) (hk : PySem.W.keepIn X.K (.ref f) = true) (hb : Binds X.K fd ps []) {t : TA}
    (ha : PA X (e :: es) t) (hdb : (x == ("__debug__" : Str)) = false) (he : starEach (e :: es) X.env = (false, eval e X.env) :: starEach es X.env) (hpl : (backTo pos (starEach es X.env)).any (·.1) = false) :
    PE X (.Call (.Name x p) (e :: es) [] pos) (fun σ H Q => t σ H fun vs H1 => sp (vs ++ []) H1 Q never) :=
  ⟨fun pins s σ H Q I h => wpAny_Call_Name_kw (ld_glob I hg hm (PySem.W.callWith_K (h₀ := X.base) I.ok.mod.kin hk (thn (ha.run pos pins s σ H _ I h) fun us s1 ⟨vs, H1, I1, r, q⟩ => ⟨I1.kIn, by
    have r2 : Vals (vs ++ []) (us ++ []) := r.append .nil
    refine wpAny_call (codeAny_mono (F.run X.A X.stack s1 H1 ⟨us, []⟩ _ _ Q hr hgd I1.env0 (hb s1 us I1.kIn (r2.length ▸ F.len _ _ _ _ q)) r2 q) fun res s' z => ?_)
    match res, z with
    | .error e, z => exact (cx_never z).elim
    | .ok (.ret u), z => exact I1.after z⟩) he hpl) hdb)⟩
theorem q_callW {n : Nat} (F : FnW X.prog X.w X.K X.mg X.base k f fd ps (spX (gw X) n G)) (hr : Rm k X.A) (hgd : X.A.guards = some []) (hg : Gl X x) (hm : X.mg x = some (.ref f)) (hk : PySem.W.keepIn X.K (.ref f) = true) (hb : Binds X.K fd ps [])
    (ha : QA X ⟨WNo, sx⟩ (e :: es) xa) (hdb : (x == ("__debug__" : Str)) = false := by decide) (he : starEach (e :: es) X.env = (false, eval e X.env) :: starEach es X.env := by rfl) (hpl : (backTo pos (starEach es X.env)).any (·.1) = false := by rfl) :
    QE X ⟨WNo, sx⟩ (.Call (.Name x p) (e :: es) [] pos) (xCall n G xa) := PE.of (pe_gw F hr hgd hg hm hk hb ha hdb he hpl) fun _ _ _ h => callX_of h
end
/-! ### own classes of exceptions: made, raised -/
def spI (K : PySem.W.Frag) (fl : List Str) : Sp := fun vs H Q _ => ∃ (a C : Addr) (ws : List V), vs = .ref a :: ws ∧ ws.length = fl.length ∧ OexC K C ∧ (∀ f ∈ fl, PySem.W.findIn K (.ref C) f = some none) ∧ H a = some (exo a C none) ∧
  ∀ dx, H dx = none → dx ≠ a → Q .non (upd (upd H dx (exd dx (fl.zip ws).reverse)) a (exo a C (some dx)))
/-- what Base.__init__ is, Base an own class over ValueError -/
structure BaseI (K : PySem.W.Frag) (D : Addr) : Prop where
  sp : PySem.W.specialIn K (.ref D) "__getattribute__" = some (some (.builtin "type.__getattribute__"))
  rd : PySem.W.readsIn K D (.type "type") = true
  fi : PySem.W.findCls K (.ref D) (.type "type") "__init__" = some (.val (.builtin "ValueError.__init__"))
section
variable {X : Cx} {B : Str} {D : Addr} {e : Expr} {es : List Expr} {ta : TA} {p1 p2 pos : Pos}
theorem pe_binit {pl : Sem Bool} (hg : Gl X B) (hm : X.mg B = some (.ref D)) (bi : BaseI X.K D) (ha : PA X (e :: es) ta) (hdb : (B == ("__debug__" : Str)) = false)
    (hc : eval (.Call (.Attribute (.Name B p1) "__init__" p2) (e :: es) [] pos) X.env = (do
      let ov ← eval (.Name B p1) X.env
      standAt p2.atName
      let (f, first) ← holding [ov] (getMethod ov "__init__" pl)
      callWith pos f first (backTo pos (starEach (e :: es) X.env)) (backToKw pos (keywordEach [] X.env))))
    (he : starEach (e :: es) X.env = (false, eval e X.env) :: starEach es X.env) (hpl : (backTo pos (starEach es X.env)).any (·.1) = false) :
    PE X (.Call (.Attribute (.Name B p1) "__init__" p2) (e :: es) [] pos) (tVeI X.K ta) := by
  refine ⟨fun pins s σ H Q I h => PySem.W.methodCall_KW (ld_glob I hg hm (PySem.W.method_cls I.kIn bi.sp (PySem.W.cls_value I.kIn bi.rd bi.fi (by decide +kernel) ?_)) hdb) hc⟩
  show wpAny _ _ (callWith pos (Value.builtin "ValueError.__init__") [] (backTo pos (starEach (e :: es) X.env)) []) _ _ _
  refine PyProof.Rows.callWith_method1 (thn (ha.run pos pins _ σ H _ (I.tok _) h) fun us s1 ⟨vs, H1, I1, r1, a, C, ws, ev, hl, T, ea, q⟩ => ?_) he hpl
  subst ev
  cases r1 with
  | @cons _ u0 _ ur ra rw' =>
    cases (show u0 = Value.ref a from ra)
    exact oinit_ok T I1 ea (by rw [← Paired.length rw', sizeLine_eq]; omega) fun s' J => ⟨.non, H1, J, rfl, q⟩
end
section
variable {P : Program} {w : World} {K : PySem.W.Frag} {mg : Str → Option Value} {base : Heap} {x qual B m f g : Str} {params : Arguments} {scope : Scope} {dvs : List V} {kws : List (Str × V)} {fI D : Addr} {fd : FuncData}
variable {p1 p2 p3 p4 p5 p6 p7 p8 p9 q1 q2 q3 q4 : Pos} {j k : Nat}
/-- def __init__(self, f): Base.__init__(self, 'm'); self.f = f -/
theorem init1 (F : FunD K x qual params [.Expr (.Call (.Attribute (.Name B p1) "__init__" p2) [.Name "self" p3, .Constant (.str m) j p4] [] p5) p6, .Assign [.Attribute (.Name "self" p7) f p8] (.Name f p9) q1] scope dvs kws fI fd)
    (S : FnScope ["self", f] ["self", f] scope) (hg : scope.names.lookup B = some .globalImplicit) (hs : scope.names.lookup ("self" : Str) = some .local) (hf : scope.names.lookup f = some .local) (hm : mg B = some (.ref D)) (bi : BaseI K D)
    (db : (B == ("__debug__" : Str)) = false) (df : (f == ("__debug__" : Str)) = false) (dc : (f == ("__classdict__" : Str)) = false)
    (hc : ∀ env : Env, ∃ pl : Sem Bool, eval (.Call (.Attribute (.Name B p1) "__init__" p2) [.Name "self" p3, .Constant (.str m) j p4] [] p5) env = (do
      let ov ← eval (.Name B p1) env
      standAt p2.atName
      let (f, first) ← holding [ov] (getMethod ov "__init__" pl)
      callWith p5 f first (backTo p5 (starEach [.Name "self" p3, .Constant (.str m) j p4] env)) (backToKw p5 (keywordEach [] env)))) : FnOk P w K mg base (L2.CX P w) (k + 1) fI fd ["self", f] (spI K [f]) := by
  refine F.ok S (fun vs H Q E ⟨a, C, ws, e, hl, _⟩ => by rw [e, List.length_cons, hl]; rfl) fun cdv A outer s H vs Q E hr ⟨a, C, ws, e, hl, T, no, ea, q⟩ => ⟨_, pss_cons (ps_expr (pe_binit hg hm bi (pa_cons (pe_var (i := 0) rfl (.inl hs) (by decide) (by decide)) (pa_cons pe_str pa_nil)) db (hc _).choose_spec rfl rfl)) (pss_one (ps_ost (pe_var (i := 0) rfl (.inl hs) (by decide) (by decide)) (pe_var (i := 1) rfl (.inl hf) df dc))), ?_⟩
  subst e
  match ws, hl with
  | [y], _ =>
    exact ⟨_, rfl, a, C, [.str m], rfl, by simp, T, ea, _, rfl, _, rfl, a, C, rfl, T, no f (.head _), .inl ⟨ea, fun dx n ne => q dx n ne⟩⟩
/-- def __init__(self, f, g): Base.__init__(self, 'm'); self.f = f; self.g = g -/
theorem init2 (F : FunD K x qual params [.Expr (.Call (.Attribute (.Name B p1) "__init__" p2) [.Name "self" p3, .Constant (.str m) j p4] [] p5) p6, .Assign [.Attribute (.Name "self" p7) f p8] (.Name f p9) q1, .Assign [.Attribute (.Name "self" q2) g q3] (.Name g q4) q5] scope dvs kws fI fd)
    (S : FnScope ["self", f, g] ["self", f, g] scope) (hg : scope.names.lookup B = some .globalImplicit) (hs : scope.names.lookup ("self" : Str) = some .local) (hf : scope.names.lookup f = some .local) (hf2 : scope.names.lookup g = some .local) (hm : mg B = some (.ref D)) (bi : BaseI K D)
    (db : (B == ("__debug__" : Str)) = false) (df : (f == ("__debug__" : Str)) = false) (dc : (f == ("__classdict__" : Str)) = false) (df2 : (g == ("__debug__" : Str)) = false) (dc2 : (g == ("__classdict__" : Str)) = false)
    (hc : ∀ env : Env, ∃ pl : Sem Bool, eval (.Call (.Attribute (.Name B p1) "__init__" p2) [.Name "self" p3, .Constant (.str m) j p4] [] p5) env = (do
      let ov ← eval (.Name B p1) env
      standAt p2.atName
      let (f, first) ← holding [ov] (getMethod ov "__init__" pl)
      callWith p5 f first (backTo p5 (starEach [.Name "self" p3, .Constant (.str m) j p4] env)) (backToKw p5 (keywordEach [] env)))) : FnOk P w K mg base (L2.CX P w) (k + 1) fI fd ["self", f, g] (spI K [f, g]) := by
  refine F.ok S (fun vs H Q E ⟨a, C, ws, e, hl, _⟩ => by rw [e, List.length_cons, hl]; rfl) fun cdv A outer s H vs Q E hr ⟨a, C, ws, e, hl, T, no, ea, q⟩ => ⟨_, pss_cons (ps_expr (pe_binit hg hm bi (pa_cons (pe_var (i := 0) rfl (.inl hs) (by decide) (by decide)) (pa_cons pe_str pa_nil)) db (hc _).choose_spec rfl rfl)) (pss_cons (ps_ost (pe_var (i := 0) rfl (.inl hs) (by decide) (by decide)) (pe_var (i := 1) rfl (.inl hf) df dc)) (pss_one (ps_ost (pe_var (i := 0) rfl (.inl hs) (by decide) (by decide)) (pe_var (i := 2) rfl (.inl hf2) df2 dc2)))), ?_⟩
  subst e
  match ws, hl with
  | [y, z], _ =>
    refine ⟨_, rfl, a, C, [.str m], rfl, by simp, T, ea, _, rfl, _, rfl, a, C, rfl, T, no f (.head _), .inl ⟨ea, fun dx n ne => ⟨_, rfl, _, rfl, a, C, rfl, T, no g (.tail _ (.head _)), .inr ⟨dx, [(f, y)], upd_same, by rw [upd_ne ne]; exact upd_same, by simp, ?_⟩⟩⟩⟩
    have e : upd (upd (upd H dx (exd dx [(f, y)])) a (exo a C (some dx))) dx (exd dx [(g, z), (f, y)]) = upd (upd H dx (exd dx [(g, z), (f, y)])) a (exo a C (some dx)) := by
      funext b
      by_cases h1 : b = dx
      · subst h1; rw [upd_same, upd_ne ne, upd_same]
      · rw [upd_ne h1]
        by_cases h2 : b = a
        · subst h2; rw [upd_same, upd_same]
        · rw [upd_ne h2, upd_ne h2, upd_ne h1, upd_ne h1]
    rw [e]
    exact q dx n ne
end
def sRaise (c : Str) (fl : List Str) (xa : XA) : XS := fun e h => match xa e h with
  | .ok vs h1 => if vs.length = fl.length ∧ vs.length ≤ 1000 then .exc c (fl.zip vs).reverse e h1 else .stuck
  | .exc c fs h1 => .exc c fs e h1
  | .stuck => .stuck
theorem repF_zip {K : Gw} {ρ : List Addr} {H : Hp} : ∀ {fl : List Str} {xs : List Val} {vs : List V}, RepL K ρ H xs vs → RepF K ρ H (fl.zip xs) (fl.zip vs)
  | [], _, _, _ => .nil
  | _ :: _, _, _, .nil => .nil
  | _ :: _, _, _, .cons r t => .cons ⟨rfl, r⟩ (repF_zip t)
theorem repF_reverse {κ : Type} {K : Gw} {ρ : List Addr} {H : Hp} {xs : List (κ × Val)} {vs : List (κ × V)} (h : RepF K ρ H xs vs) : RepF K ρ H xs.reverse vs.reverse := by
  induction xs generalizing vs with
  | nil => cases h; exact .nil
  | cons x xs ih =>
    cases h with
    | cons r t =>
      rw [List.reverse_cons, List.reverse_cons]
      exact (ih t).append (.cons r .nil)
section
variable {X : Cx} {W : Wd} {e : Expr} {es : List Expr} {xa : XA} {x : Str} {fl : List Str} {C fI : Addr} {fd : FuncData} {ps : List Str} {k : Nat} {p pos rpos : Pos}
theorem raise_of {K : Gw} (hm : K.mg x = some (.ref C)) (T : OexC K.K C) (no : ∀ f ∈ fl, PySem.W.findIn K.K (.ref C) f = some none) {D : Ends} {σ : St} {H : Hp} (h : tXS K W (sRaise x fl xa) D σ H) : tMkO C (spI K.K fl) [] (tXA K W xa) σ H fun cls d H' => W.w cls d σ H' := by
  obtain ⟨ρ, env, h, S, E, q⟩ := h
  refine ⟨ρ, env, h, S, E, (afterA (f := fun vs h1 => if vs.length = fl.length ∧ vs.length ≤ 1000 then .exc x (fl.zip vs).reverse env h1 else .stuck) E q).imp fun vs h1 ρ1 H1 g1 S1 q1 us rs => ?_⟩
  by_cases hl : vs.length = fl.length ∧ vs.length ≤ 1000
  · rw [if_pos hl] at q1
    refine ⟨by rw [← rs.length]; exact hl.2, fun a na => ⟨a, C, us ++ [], rfl, by rw [List.append_nil, ← rs.length]; exact hl.1, T, no, upd_same, fun dx nx ne => ?_⟩⟩
    rw [List.append_nil]
    have nd : H1 dx = none := by rw [upd_ne ne] at nx; exact nx
    refine ⟨rfl, dx, _, upd_same, by rw [upd_ne ne]; exact upd_same, nd, ?_⟩
    have e : upd (del (upd (upd (upd H1 a (exo a C none)) dx (exd dx (fl.zip us).reverse)) a (exo a C (some dx))) a) dx (.xd (fl.zip us).reverse) = upd H1 dx (.xd (fl.zip us).reverse) := by
      funext b
      by_cases h1 : b = dx
      · subst h1; rw [upd_same, upd_same]
      · rw [upd_ne h1, upd_ne h1]
        by_cases h2 : b = a
        · subst h2; rw [del_same, na]
        · rw [del_ne h2, upd_ne h2, upd_ne h1, upd_ne h2]
    rw [e]
    have g := Grow.new (ρ := ρ1) (o := .xd (fl.zip us).reverse) nd
    exact q1 ρ1 _ (some dx) σ (.ref C) g (S1.new nd) ((E.mono g1).mono g) ⟨_, upd_same, (repF_reverse (repF_zip rs)).mono g⟩ hm
  · rw [if_neg hl] at q1
    exact q1.elim
theorem qs_raise (hc : X.calm = true) (tk : Takes X W.w) (T : OexC X.K C) (no : ∀ f ∈ fl, PySem.W.findIn X.K (.ref C) f = some none) (iC : PySem.W.findIn X.K (.ref C) "__init__" = some (some (.ref fI))) (tI : PySem.W.typeIn X.K (.ref fI) = some (.type "function"))
    (F1 : FnOk X.prog X.w X.K X.mg X.base (L2.CX X.prog X.w) k fI fd ps (spI X.K fl)) (hr : Room (k + 1) X.A) (hb : Binds X.K fd ps []) (hg : Gl X x) (hm : X.mg x = some (.ref C)) (ha : QA X W (e :: es) xa)
    (hdb : (x == ("__debug__" : Str)) = false := by decide) (he : starEach (e :: es) X.env = (false, eval e X.env) :: starEach es X.env := by rfl) (hpl : (backTo pos (starEach es X.env)).any (·.1) = false := by rfl) :
    QS X W (.Raise (some (.Call (.Name x p) (e :: es) [] pos)) none rpos) (sRaise x fl xa) :=
  PS.of (ps_raise hc tk (pmk_oex T iC tI F1 hr hb .nil (passes_call tk fun _ _ _ _ z => z.elim) hg hm ha hdb he hpl)) fun _ _ _ => raise_of hm T no
end
end EX

set_option Elab.async false
set_option linter.all false
set_option maxRecDepth 100000
set_option maxHeartbeats 1000000
namespace EX
open PySem PySem.Spec L2 He
open PyProof.Rows hiding St
/-! ### what a head tells: facts of the written part as truths -/
theorem mem_lookup {α β : Type} [BEq α] [LawfulBEq α] {a : α} {b : β} : ∀ {l : List (α × β)}, l.lookup a = some b → (a, b) ∈ l
  | [], h => by cases h
  | (c, d) :: r, h => by
    by_cases e : a = c
    · subst e
      rw [List.lookup_cons_self] at h
      cases h
      exact .head _
    · have e2 : (a == c) = false := by simpa using e
      rw [List.lookup, e2] at h
      exact .tail _ (mem_lookup h)
def smB (K : PySem.W.Frag) : Bool := match K.lookup sysModules with
  | some o => (match o.data with
    | .dict _ _ => true
    | _ => false)
  | none => false
theorem smB_ok {K : PySem.W.Frag} (h : smB K = true) : SmIn K := by
  unfold smB at h
  cases e : K.lookup sysModules with
  | none => rw [e] at h; cases h
  | some o =>
    rw [e] at h
    cases d : o.data with
    | dict es n => exact ⟨o, es, n, e, d⟩
    | _ => simp only [d] at h; cases h
def isB (K : PySem.W.Frag) (C : Addr) : Bool := (PySem.W.clsIn K C).isSome && (eqO (PySem.W.findIn K (.ref C) "__class__") (some (some (.builtin "object.__class__"))) && (eqO (PySem.W.specialIn K (.builtin "object.__class__") "__get__") (some (some (.builtin "getset_descriptor.__get__"))) &&
  (decide (PySem.W.takesIn K (.builtin "object.__class__") = some true) && decide (PySem.W.mroIn K C (.type "object") = some true))))
theorem isB_ok {K : PySem.W.Frag} {C : Addr} (h : isB K C = true) : IsC K C := by
  obtain ⟨h1, h⟩ := ba h
  obtain ⟨h2, h⟩ := ba h
  obtain ⟨h3, h⟩ := ba h
  obtain ⟨h4, h5⟩ := ba h
  exact ⟨h1, eqO_ok h2, eqO_ok h3, of_decide_eq_true h4, of_decide_eq_true h5⟩
/-- own classes ct, names asked for: own ones ds, built-in ones db; fields fl -/
def ctB (K : PySem.W.Frag) (ct : Ct) (ds : List Str) (db : List (Str × String)) (fl : List Str) : Bool := ct.all fun p => xfB K (ga K p.1) && (isB K (ga K p.1) && ((fl.all fun f => eqO (PySem.W.findIn K (.ref (ga K p.1)) f) (some none)) &&
  ((ds.all fun d => decide (PySem.W.exmOne K (.ref (ga K p.1)) (.ref (ga K d)) = some (p.2.contains d)) && decide (PySem.W.kitOne K (.ref (ga K p.1)) (.ref (ga K d)) = some (p.2.contains d))) &&
    db.all fun d => decide (PySem.W.exmOne K (.ref (ga K p.1)) (.type d.2) = some (p.2.contains d.1)) && decide (PySem.W.kitOne K (.ref (ga K p.1)) (.type d.2) = some (p.2.contains d.1)))))
theorem ctB_ok {K : PySem.W.Frag} {mg : Str → Option Value} {ct : Ct} {ds : List Str} {db : List (Str × String)} {fl : List Str} (h : ctB K ct ds db fl = true) (hc : ∀ p ∈ ct, mg p.1 = some (.ref (ga K p.1))) (hd : ∀ d ∈ ds, mg d = some (.ref (ga K d)))
    (hb : ∀ d ∈ db, mg d.1 = none ∧ bootBuiltins d.1 = some (.type d.2)) : CtOk K mg ct (ds ++ db.map (·.1)) fl := by
  refine ⟨fun c l e => ?_⟩
  have m := mem_lookup e
  obtain ⟨h1, h2⟩ := ba (List.all_eq_true.mp h _ m)
  obtain ⟨h2, h3⟩ := ba h2
  obtain ⟨h3, h4⟩ := ba h3
  obtain ⟨h4, h5⟩ := ba h4
  refine ⟨ga K c, hc _ m, xfB_ok h1, isB_ok h2, fun f hf => eqO_ok (List.all_eq_true.mp h3 f hf), fun d md dv nv => ?_⟩
  rcases List.mem_append.mp md with md | md
  · obtain ⟨z1, z2⟩ := ba (List.all_eq_true.mp h4 d md)
    have e2 := hd d md
    rcases nv with n | ⟨n, _⟩
    · rw [e2] at n
      cases n
      exact ⟨of_decide_eq_true z1, of_decide_eq_true z2⟩
    · rw [e2] at n; cases n
  · obtain ⟨q, mq, eq⟩ := List.mem_map.mp md
    subst eq
    obtain ⟨z1, z2⟩ := ba (List.all_eq_true.mp h5 q mq)
    obtain ⟨n1, n2⟩ := hb q mq
    rcases nv with n | ⟨_, n⟩
    · rw [n1] at n; cases n
    · rw [n2] at n
      cases n
      exact ⟨of_decide_eq_true z1, of_decide_eq_true z2⟩
def baseB (K : PySem.W.Frag) (D : Addr) : Bool := eqO (PySem.W.specialIn K (.ref D) "__getattribute__") (some (some (.builtin "type.__getattribute__"))) && (PySem.W.readsIn K D (.type "type") && (match PySem.W.findCls K (.ref D) (.type "type") "__init__" with
  | some (.val v) => decide (v = .builtin "ValueError.__init__")
  | _ => false))
theorem baseB_ok {K : PySem.W.Frag} {D : Addr} (h : baseB K D = true) : BaseI K D := by
  obtain ⟨h1, h⟩ := ba h
  obtain ⟨h2, h3⟩ := ba h
  refine ⟨eqO_ok h1, h2, ?_⟩
  cases e : PySem.W.findCls K (.ref D) (.type "type") "__init__" with
  | none => rw [e] at h3; cases h3
  | some r =>
    cases r with
    | val v =>
      rw [e] at h3
      rw [of_decide_eq_true h3]
    | get a b c d => rw [e] at h3; cases h3
/-- a class over ValueError with an own __init__ -/
def oexB (K : PySem.W.Frag) (C : Addr) : Bool := (match K.lookup C with
  | some ⟨.type t, _, .cls cd, sl⟩ => decide (t = "type") && (!cd.hasDel && (cd.hasDict && ((match cd.mro with
    | .ref C' :: bm => decide (C' = C) && PySem.HandSPX.refsVE bm
    | _ => false) && (match sl.toList with
    | [_, _, _, _, some (.builtin n), _] => decide (n = "ValueError.__new__")
    | _ => false))))
  | _ => false) && (eqO (PySem.W.findIn K (.ref C) "__setattr__") (some (some (.builtin "object.__setattr__"))) && (decide (PySem.W.subIn K (.ref C) (.type "BaseException") = some true) && (decide (PySem.W.typeIn K (.ref C) = some (.type "type")) && PySem.W.keepIn K (.ref C))))
theorem oexB_ok {K : PySem.W.Frag} {C : Addr} (h : oexB K C = true) : OexC K C := by
  obtain ⟨h0, h⟩ := ba h
  obtain ⟨h1, h⟩ := ba h
  obtain ⟨h2, h⟩ := ba h
  obtain ⟨h3, h4⟩ := ba h
  refine ⟨?_, eqO_ok h1, of_decide_eq_true h2, of_decide_eq_true h3, h4⟩
  split at h0
  · rename_i t dd cd sl ho
    obtain ⟨z1, z⟩ := ba h0
    obtain ⟨z2, z⟩ := ba z
    obtain ⟨z3, z⟩ := ba z
    obtain ⟨z4, z5⟩ := ba z
    have e1 : t = "type" := of_decide_eq_true z1
    subst e1
    split at z4
    · rename_i C' bm hm
      obtain ⟨y1, y2⟩ := ba z4
      have e2 : C' = C := of_decide_eq_true y1
      subst e2
      split at z5
      · rename_i k0 k1 k2 k3 n k5 hs
        have e3 : n = "ValueError.__new__" := of_decide_eq_true z5
        subst e3
        obtain ⟨nm, bs, mro, ns, qn, hd, sn, sub, ab, col, del⟩ := cd
        dsimp only at hm z2 z3
        subst hm z3
        have e4 : del = false := by cases del <;> first | rfl | cases z2
        subst e4
        obtain ⟨l⟩ := sl
        dsimp only at hs
        subst hs
        exact ⟨nm, qn, ns, bs, bm, sn, sub, ab, col, dd, k0, k1, k2, k3, k5, ho, y2⟩
      · cases z5
    · cases z4
  · cases h0
/-- all that a raise of the class x asks -/
structure ClsF (K : PySem.W.Frag) (x : Str) (fl : List Str) : Prop where
  oex : OexC K (ga K x)
  no : ∀ f ∈ fl, PySem.W.findIn K (.ref (ga K x)) f = some none
  iC : PySem.W.findIn K (.ref (ga K x)) "__init__" = some (some (.ref (ma K (ga K x) "__init__")))
  tI : PySem.W.typeIn K (.ref (ma K (ga K x) "__init__")) = some (.type "function")
def clsFB (K : PySem.W.Frag) (x : Str) (fl : List Str) : Bool := oexB K (ga K x) && ((fl.all fun f => eqO (PySem.W.findIn K (.ref (ga K x)) f) (some none)) && (eqO (PySem.W.findIn K (.ref (ga K x)) "__init__") (some (some (.ref (ma K (ga K x) "__init__")))) &&
  decide (PySem.W.typeIn K (.ref (ma K (ga K x) "__init__")) = some (.type "function"))))
theorem clsFB_ok {K : PySem.W.Frag} {x : Str} {fl : List Str} (h : clsFB K x fl = true) : ClsF K x fl := by
  obtain ⟨h1, h⟩ := ba h
  obtain ⟨h2, h⟩ := ba h
  obtain ⟨h3, h4⟩ := ba h
  exact ⟨oexB_ok h1, fun f hf => eqO_ok (List.all_eq_true.mp h2 f hf), eqO_ok h3, of_decide_eq_true h4⟩
/-! ### the hook: what the module's names reach, and two tables of the machine -/
abbrev seeds (g : Addr → Option Obj) (n : Nat) : List Addr := asD g n ++ [cStatics, sysModules]
def obsE (n : Nat) (fa : List Fa) (fn : List DefD) (ex : PySem.W.Frag → Bool) (g : Addr → Option Obj) : AlD × Bool := (obsD fa fn (frT g (seeds g n)), ex (frT g (seeds g n)))
def hookE (n : Nat) (fa : List Fa) (fn : List DefD) (ex : PySem.W.Frag → Bool) : PySem.W.Hook where
  α := AlD × Bool
  obs := fun s => obsE n fa fn ex s.heap.get?
  val := fun _ => (valD fn, true)
  says := fun _ h => ∃ K : PySem.W.Frag, K.In h ∧ SaysD fa fn K ∧ ex K = true
  of := fun _ _ e => ⟨_, frT_in, congrArg Prod.fst e, congrArg Prod.snd e⟩
  keeps := fun _ _ _ ⟨K, hK, c⟩ k => ⟨K, PySem.W.Frag.In.keeps hK k, c⟩
theorem obsE_eq {n : Nat} {fa : List Fa} {fn : List DefD} {ex : PySem.W.Frag → Bool} {g : Addr → Option Obj} {s : Shared} (h : ∀ a, g a = s.heap.get? a) : obsE n fa fn ex g = (hookE n fa fn ex).obs s := by
  have e : g = s.heap.get? := funext h
  rw [e] <;> rfl
end EX

set_option Elab.async false
set_option linter.all false
set_option maxRecDepth 100000
set_option maxHeartbeats 1000000
namespace EX
open PySem L2
/-! ### dicts: in, d[k]; tables of the module with text keys -/
abbrev GT := List (Str × List (Str × Val))
def valX (kvs : List (Key × Val)) (k : Key) : Option Val := (kvs.find? fun kv => decide (kv.1 = k)).map (·.2)
def vIn2 (G : GT) (a b : Val) (h : Hh) : Option Bool := match b with
  | .ref x => (match a, G.lookup x with
    | .str z, some kvs => some (kvs.lookup z).isSome
    | _, _ => none)
  | .loc n => (match h[n]? with
    | some (.dct kvs) => (match keyOf a with
      | some k => some (valX kvs k).isSome
      | none => none)
    | _ => vIn a b h)
  | _ => vIn a b h
def oIn2 (G : GT) : Op2 := fun a b h => (vIn2 G a b h).map fun r => (.bl r, h)
def oNotIn2 (G : GT) : Op2 := fun a b h => (vIn2 G a b h).map fun r => (.bl (!r), h)
def oIx2 (G : GT) : Op2 := fun a b h => match a with
  | .ref x => (match b, G.lookup x with
    | .str z, some kvs => (kvs.lookup z).map fun v => (v, h)
    | _, _ => none)
  | .loc n => (match h[n]? with
    | some (.dct kvs) => (match keyOf b with
      | some k => (valX kvs k).map fun v => (v, h)
      | none => none)
    | _ => oIx a b h)
  | _ => oIx a b h
def GTb (K : PySem.W.Frag) (mg : Str → Option Value) (w : World) (x : Str) (kvs : List (Str × Val)) : Prop :=
  ∃ a es n, mg x = some (.ref a) ∧ KDict K w a es n ∧ ∀ z, match kvs.lookup z with
    | some v => flatX v = true ∧ ∃ u, PySem.W.nsIn K a z = some (some u) ∧ RelV (flatV2 v) u
    | none => PySem.W.nsIn K a z = some none
def GtOk (K : PySem.W.Frag) (mg : Str → Option Value) (w : World) (G : GT) : Prop := ∀ x kvs, G.lookup x = some kvs → GTb K mg w x kvs
section
variable {X : Cx}
theorem rep_flat {K : Gw} {ρ : List Addr} {H : Hp} {v : Val} (h : flatX v = true) : Rep K ρ H v (flatV2 v) := by
  cases v <;> first | exact .non | exact .bl _ | exact .int _ | exact .str _ | cases h
theorem key_rep {K : Gw} {ρ : List Addr} {H : Hp} {a : Val} {x : V} {k : Key} (r : Rep K ρ H a x) (e : keyOf a = some k) : x = kV k := by
  cases r <;> first | (cases e; rfl) | cases e
theorem val_rep {K : Gw} {ρ : List Addr} {H : Hp} {k : Key} : ∀ {xs : List (Key × Val)} {vs : List (Key × V)}, RepF K ρ H xs vs → (∀ v, valX xs k = some v → ∃ u, valV vs k = some u ∧ Rep K ρ H v u) ∧ (valX xs k = none → valV vs k = none)
  | _, _, .nil => ⟨(fun v e => by cases e), (fun _ => rfl)⟩
  | _, _, @Paired.cons _ _ _ p q xs vs a t => by
    obtain ⟨p1, p2⟩ := p
    obtain ⟨q1, q2⟩ := q
    obtain ⟨e0, r0⟩ := a
    dsimp only at e0 r0
    subst e0
    obtain ⟨i1, i2⟩ := val_rep (k := k) t
    by_cases hk : p1 = k
    · refine ⟨fun v e => ?_, fun e => ?_⟩
      · have : valX ((p1, p2) :: xs) k = some p2 := by simp [valX, List.find?_cons, hk]
        rw [this] at e
        cases e
        exact ⟨q2, by simp [valV, List.find?_cons, hk], r0⟩
      · have : valX ((p1, p2) :: xs) k = some p2 := by simp [valX, List.find?_cons, hk]
        rw [this] at e
        cases e
    · have e1 : valX ((p1, p2) :: xs) k = valX xs k := by simp [valX, List.find?_cons, hk]
      have e2 : valV ((p1, q2) :: vs) k = valV vs k := by simp [valV, List.find?_cons, hk]
      rw [e1, e2]
      exact ⟨i1, i2⟩
theorem op_in2_x {G : GT} (hG : GtOk X.K X.mg X.w G) (hu : X.A.units + 64 < cLine) : OpR X (compareOp .In) (rS2 (gw X) (oIn2 G)) := by
  intro pins s σ H x y v u Q I rx ry ⟨ρ, h, a, b, z, h', S, ra, rb, e, k⟩
  have old : oIn a b h = some (z, h') → _ := fun e => op_in_x pins s σ H x y v u Q I rx ry ⟨ρ, h, a, b, z, h', S, ra, rb, e, k⟩
  obtain ⟨r, e1, e2⟩ := Option.map_eq_some_iff.mp e
  cases e2
  have fin : Q (.bl r) H := k ρ H _ (Grow.refl _ _) S (.bl _)
  have old2 : vIn a b h = some r → _ := fun e3 => old (by simp only [oIn, e3, Option.map_some])
  cases b with
  | ref n =>
    cases rb with
    | @ref _ ad hm =>
      simp only [vIn2] at e1
      split at e1
      · rename_i t kvs el
        cases e1
        cases ra
        obtain ⟨ad', es, m, hm', D, hz⟩ := hG n kvs el
        have : (gw X).mg n = some (.ref ad) := hm
        have e5 : Value.ref ad = Value.ref ad' := Option.some.inj (this.symm.trans hm')
        cases e5
        have hz := hz t
        cases ek : kvs.lookup t with
        | none =>
          rw [ek] at hz fin
          exact op_in_kd D pins s σ H _ _ v u Q I rx ry ⟨t, none, rfl, rfl, hz, fin⟩
        | some w =>
          rw [ek] at hz fin
          obtain ⟨_, u0, hn, _⟩ := hz
          exact op_in_kd D pins s σ H _ _ v u Q I rx ry ⟨t, some u0, rfl, rfl, hn, fin⟩
      · cases e1
  | loc n =>
    simp only [vIn2] at e1
    split at e1
    · rename_i kvs eh
      split at e1
      · rename_i key ek
        cases e1
        cases rb with
        | @loc _ ad ea =>
          obtain ⟨vs, q1, r1⟩ := S.dct ea eh
          have exk := key_rep ra ek
          subst exk
          obtain rfl : u = Value.ref ad := ry
          have g := DGet.k (k := key) q1
          have en : (valV vs key).isSome = (valX kvs key).isSome := by
            cases ev : valX kvs key with
            | none => rw [(val_rep r1).2 ev]; rfl
            | some w => obtain ⟨u1, e6, _⟩ := (val_rep r1).1 w ev; rw [e6]; rfl
          exact d_in (A := X.A) (by omega) I g rx fun s3 I3 => ⟨.bl (valV vs key).isSome, H, I3, rfl, by rw [en]; exact fin⟩
      · cases e1
    · exact old2 e1
  | _ => exact old2 e1
theorem op_notIn2_x {G : GT} (hG : GtOk X.K X.mg X.w G) (hu : X.A.units + 64 < cLine) : OpR X (compareOp .NotIn) (rS2 (gw X) (oNotIn2 G)) := by
  intro pins s σ H x y v u Q I rx ry ⟨ρ, h, a, b, z, h', S, ra, rb, e, k⟩
  have old : oNotIn a b h = some (z, h') → _ := fun e => op_notIn_x pins s σ H x y v u Q I rx ry ⟨ρ, h, a, b, z, h', S, ra, rb, e, k⟩
  obtain ⟨r, e1, e2⟩ := Option.map_eq_some_iff.mp e
  cases e2
  have fin : Q (.bl (!r)) H := k ρ H _ (Grow.refl _ _) S (.bl _)
  have old2 : vIn a b h = some r → _ := fun e3 => old (by simp only [oNotIn, e3, Option.map_some])
  cases b with
  | ref n =>
    cases rb with
    | @ref _ ad hm =>
      simp only [vIn2] at e1
      split at e1
      · rename_i t kvs el
        cases e1
        cases ra
        obtain ⟨ad', es, m, hm', D, hz⟩ := hG n kvs el
        have : (gw X).mg n = some (.ref ad) := hm
        have e5 : Value.ref ad = Value.ref ad' := Option.some.inj (this.symm.trans hm')
        cases e5
        have hz := hz t
        cases ek : kvs.lookup t with
        | none =>
          rw [ek] at hz fin
          exact op_notIn_kd D pins s σ H _ _ v u Q I rx ry ⟨t, none, rfl, rfl, hz, fin⟩
        | some w =>
          rw [ek] at hz fin
          obtain ⟨_, u0, hn, _⟩ := hz
          exact op_notIn_kd D pins s σ H _ _ v u Q I rx ry ⟨t, some u0, rfl, rfl, hn, fin⟩
      · cases e1
  | loc n =>
    simp only [vIn2] at e1
    split at e1
    · rename_i kvs eh
      split at e1
      · rename_i key ek
        cases e1
        cases rb with
        | @loc _ ad ea =>
          obtain ⟨vs, q1, r1⟩ := S.dct ea eh
          have exk := key_rep ra ek
          subst exk
          obtain rfl : u = Value.ref ad := ry
          have g := DGet.k (k := key) q1
          have en : (valV vs key).isSome = (valX kvs key).isSome := by
            cases ev : valX kvs key with
            | none => rw [(val_rep r1).2 ev]; rfl
            | some w => obtain ⟨u1, e6, _⟩ := (val_rep r1).1 w ev; rw [e6]; rfl
          exact d_notIn (A := X.A) (by omega) I g rx fun s3 I3 => ⟨.bl (!(valV vs key).isSome), H, I3, rfl, by rw [en]; exact fin⟩
      · cases e1
    · exact old2 e1
  | _ => exact old2 e1
theorem ix2_x {G : GT} (hG : GtOk X.K X.mg X.w G) (hu : X.A.units + 64 < cLine) : IxR X (rS2 (gw X) (oIx2 G)) := by
  intro value slice pins s σ H x y v u Q I rx ry ⟨ρ, h, a, b, z, h', S, ra, rb, e, k⟩ hs
  have old : oIx a b h = some (z, h') → _ := fun e => ix_x value slice pins s σ H x y v u Q I rx ry ⟨ρ, h, a, b, z, h', S, ra, rb, e, k⟩ hs
  cases a with
  | ref n =>
    cases ra with
    | @ref _ ad hm =>
      simp only [oIx2] at e
      split at e
      · rename_i t kvs el
        obtain ⟨wv, ew, e2⟩ := Option.map_eq_some_iff.mp e
        obtain ⟨rfl, rfl⟩ := Prod.mk.inj e2
        cases rb
        obtain ⟨ad', es, m, hm', D, hz⟩ := hG n kvs el
        have : (gw X).mg n = some (.ref ad) := hm
        have e5 : Value.ref ad = Value.ref ad' := Option.some.inj (this.symm.trans hm')
        cases e5
        have hz := hz t
        rw [ew] at hz
        obtain ⟨hf, u0, hn, ru⟩ := hz
        exact ix_kdict value slice pins s σ H _ _ v u Q I rx ry ⟨ad, t, flatV2 wv, rfl, rfl, ⟨es, m, u0, D.at_, D.lit, hn, ru⟩, k ρ H _ (Grow.refl _ _) S (rep_flat hf)⟩ hs
      · cases e
  | loc n =>
    simp only [oIx2] at e
    split at e
    · rename_i kvs eh
      split at e
      · rename_i key ek
        obtain ⟨wv, ew, e2⟩ := Option.map_eq_some_iff.mp e
        obtain ⟨rfl, rfl⟩ := Prod.mk.inj e2
        cases ra with
        | @loc _ ad ea =>
          obtain ⟨vs, q1, r1⟩ := S.dct ea eh
          have exk := key_rep rb ek
          subst exk
          obtain rfl : v = Value.ref ad := rx
          obtain ⟨u1, e6, ru⟩ := (val_rep r1).1 wv ew
          have g := DGet.k (k := key) q1
          rw [e6] at g
          exact PyProof.Rows.tail_any (dict_typeIs I g) PySem.F.slot_dict_getitem.lookup (d_getItem (A := X.A) (by omega) I g ry fun w' s3 I3 rw' => ⟨u1, H, I3, rw', k ρ H _ (Grow.refl _ _) S ru⟩) hs
      · cases e
    · exact old e
  | _ => exact old e
/-- a table of the module, as a value -/
theorem q_gref {W : Wd} {x : Str} {pos : Pos} (hg : Gl X x) {a : Addr} (hm : X.mg x = some (.ref a)) (hd : (x == ("__debug__" : Str)) = false := by decide) : QE X W (.Name x pos) (xC (.ref x)) :=
  q_c (pe_glob (v := .ref a) hg hm rfl hd) fun ρ H => .ref hm
theorem q_gtab {W : Wd} {x : Str} {pos : Pos} {kvs : List (Str × Val)} (hg : Gl X x) (hm : GTb X.K X.mg X.w x kvs) (hd : (x == ("__debug__" : Str)) = false := by decide) : QE X W (.Name x pos) (xC (.ref x)) := by
  obtain ⟨a, _, _, hm, _⟩ := hm
  exact q_gref hg hm hd
end
end EX

set_option Elab.async false
set_option linter.all false
set_option maxRecDepth 100000
set_option maxHeartbeats 3200000
namespace EX
open PySem PySem.Spec L2
/-! ### len(set(x)): how many unlike keys -/
def hasK (l : List Key) (k : Key) : Bool := l.any fun j => decide (j = k)
def stepK (l : List Key) (k : Key) : List Key := if hasK l k = true then l else l ++ [k]
def metK (ks : List Key) : List Key := ks.foldl stepK []
theorem metK_snoc (ks : List Key) (k : Key) : metK (ks ++ [k]) = stepK (metK ks) k := by
  unfold metK; rw [List.foldl_append]; rfl
theorem stepK_len (l : List Key) (k : Key) : (stepK l k).length = if hasK l k = true then l.length else l.length + 1 := by
  unfold stepK; split <;> simp
theorem foldK_len : ∀ (ks l : List Key), (ks.foldl stepK l).length ≤ l.length + ks.length
  | [], l => Nat.le_refl _
  | k :: ks, l => by
    rw [List.foldl_cons]
    refine Nat.le_trans (foldK_len ks _) ?_
    rw [stepK_len, List.length_cons]
    split <;> omega
theorem metK_len (ks : List Key) : (metK ks).length ≤ ks.length := by
  have := foldK_len ks []
  simpa [metK] using this
theorem hasK_step {l : List Key} {k j : Key} : hasK (stepK l k) j = (hasK l j || decide (j = k)) := by
  unfold stepK
  split
  · rename_i h
    by_cases e : j = k
    · subst e; rw [h]; rfl
    · rw [decide_eq_false e, Bool.or_false]
  · unfold hasK
    rw [List.any_append, List.any_cons, List.any_nil, Bool.or_false]
    congr 1
    by_cases e : j = k
    · rw [decide_eq_true e, decide_eq_true e.symm]
    · rw [decide_eq_false e, decide_eq_false (Ne.symm e)]
section
variable {prog : Program} {w : World} {A : Around} {R : Result → Shared → Prop} {I : Addr} {fp wr : List Addr} {G : Array GenState → Array GenState → Prop} {n : Nat} {P : Nat → Value → Prop} {St : Nat → Shared → Prop}
/-- the set of the first ones of ks -/
def SetTo (prog : Program) (w : World) (h : Heap) (S : Addr) (ks : List Key) : Prop := h.SetOf (mixKind prog w) S (hasK (metK ks)) (metK ks).length
theorem SetTo.kept {h h' : Heap} {S : Addr} {ks : List Key} (x : SetTo prog w h S ks) (k : ∀ o, h.get? S = some o → h'.get? S = some o) : SetTo prog w h' S ks := by
  obtain ⟨o, es, ep, t, ho, rest⟩ := x
  exact ⟨o, es, ep, t, k _ ho, rest⟩
theorem upd_keys (W : WalksS prog w A.in1 I fp wr G n P St) (S : Addr) (hS : S ∉ fp) (ks : List Key) (hn : ks.length = n) (hv : ∀ i v k, P i v → ks[i]? = some k → keyIs k v = true) (hb : n + 1 < scanBound) :
    ∀ (m i : Nat) (s : Shared), n - i = m → i ≤ n → St i s → SetTo prog w s.heap S (ks.take i) → (∀ s', Moved (S :: wr) G s s' → SetTo prog w s'.heap S ks → R (.ok (.ret .none)) s') →
      codeAny (model prog w) A (.builtin "set.update.loop" ⟨[.ref S, .ref I], []⟩) R s := by
  have hw : S ∉ wr := fun z => hS (W.sub _ z)
  have up : ∀ b ∈ wr, b ∈ S :: wr := fun b z => .tail _ z
  intro m
  induction m with
  | zero =>
    intro i s hm hi st q fin
    obtain rfl : i = n := by omega
    refine codeAny_builtin PyProof.Rows.F.entry_set_update_loop ?_; rw [Around.under_plainId PyProof.Rows.F.plain_set_update_loop _]
    show wpAny _ A.in1 (pyNext (.ref I) >>= _) _ _ s
    refine wpAny_bind (W.done s _ _ st fun s' mv => ?_)
    show wpAny _ A.in1 (ret Value.none) _ _ s'
    refine wpAny_pure (fin s' (mv.mono up) ?_)
    rw [← hn, List.take_length] at q
    exact q.kept fun o e => mv.heap S _ hw e
  | succ m ih =>
    intro i s hm hi st q fin
    have lt : i < n := by omega
    have lk : i < ks.length := by omega
    refine codeAny_builtin PyProof.Rows.F.entry_set_update_loop ?_; rw [Around.under_plainId PyProof.Rows.F.plain_set_update_loop _]
    show wpAny _ A.in1 (pyNext (.ref I) >>= _) _ _ s
    refine wpAny_bind (W.item i s _ _ lt st fun v s' hP st' mv => ?_)
    have kv := hv i v ks[i] hP (List.getElem?_eq_getElem lk)
    have q' : SetTo prog w s'.heap S (ks.take i) := q.kept fun o e => mv.heap S _ hw e
    have sc : v.scannable = true := by
      rcases keyIs_shape kv with ⟨j, t, _, rfl⟩ | ⟨x, t, _, rfl⟩ <;> rfl
    show wpAny _ A.in1 (holding [v] (setAdd S v) >>= _) _ _ s'
    refine wpAny_bind (wpAny_holding ?_)
    unfold setAdd
    refine wpAny_holding (wpAny_bind ((mixKind prog w).pyHash (k := ks[i]) kv ?_))
    have room : (metK (ks.take i)).length + 1 < scanBound := by
      have h1 := metK_len (ks.take i)
      rw [List.length_take] at h1
      omega
    refine wpAny_setAddHashed_of (knd := mixKind prog w) (s := { s' with toks := s'.toks + 1 }) kv sc q' room fun h' sb q2 => ?_
    have tk : ks.take (i + 1) = ks.take i ++ [ks[i]] := (List.take_append_getElem lk).symm
    have q3 : SetTo prog w h' S (ks.take (i + 1)) := by
      unfold SetTo
      rw [tk, metK_snoc, stepK_len]
      have e1 : hasK (stepK (metK (ks.take i)) ks[i]) = fun k => hasK (metK (ks.take i)) k || decide (k = ks[i]) := by
        funext k
        exact hasK_step
      rw [e1]
      exact q2
    refine wpAny_pure ⟨plainId_quiet PyProof.Rows.F.plain_set_update_loop _, ih (i + 1) _ (by omega) lt (W.frame _ s' _ _ st' (Nat.le_succ _) fun b hb' o e => ?_) q3 fun s'' mv2 q4 => ?_⟩
    · have nb : b ≠ S := fun z => hS (z ▸ hb')
      rw [sb.2 b nb]; exact e
    · refine fin s'' (Moved.trans W.gtrans ((mv.mono up).then_heap (Nat.le_succ _) fun b o hb' e => ?_) mv2) q4
      have nb : b ≠ S := fun z => hb' (z ▸ .head _)
      rw [sb.2 b nb]; exact e
end
end EX

set_option Elab.async false
set_option linter.all false
set_option maxRecDepth 100000
set_option maxHeartbeats 3200000
namespace EX
open PySem PySem.Spec L2
abbrev set0 (led : Bool) : Obj := { cls := .type "set", dict := none, data := .set #[] 0 (.fresh 0 0 led) }
section
variable {prog : Program} {w : World} {A : Around} {E : Value → Shared → Prop} {s : Shared}
theorem call_set_keys {l : Addr} {items : Array Value} {ks : List Key} {Q : Value → Shared → Prop} (hh : A.handled = none) (hl : s.heap.IsList l items) (hi : ∀ (i : Nat) (v : Value) (k : Key), items[i]? = some v → ks[i]? = some k → keyIs k v = true) (hn : ks.length = items.size) (hb : items.size + 1 < scanBound)
    (h : ∀ (h' : Heap) (tk : Nat), SetTo prog w h' s.heap.objs.size ks → (∀ b o, b < s.heap.objs.size → s.heap.get? b = some o → h'.get? b = some o) → Q (.ref s.heap.objs.size) { s with heap := h', toks := tk }) :
    wpAny (model prog w) A (call (.type "set") [.ref l]) Q E s := by
  obtain ⟨c, tl, mro⟩ := F.called_set.mro
  have made := F.called_set.made
  have isub := F.called_set.sub
  refine wpAny_call (codeAny_of_tree ?_); show wpAny _ _ (callAny (.type "set") _) _ _ _
  refine wpAny_pure ⟨Code.quiet_builtin _ (by decide +kernel), codeAny_builtin F.entry_type_call ?_⟩; rw [Around.under_plain (weight_type_call_type "set" [.ref l] []) rfl]
  have n1 := F.called_set.notType
  have n2 := F.called_set.canCreate
  have n3 := F.typeCall_set_1 (.ref l)
  repeat (any_goals (first | assumption | wp_step))
  refine codeAny_mono (code_set_new_1 (.ref l) (E := E) (Q₁ := fun obj t => ∃ led : Bool, obj = .ref s.heap.objs.size ∧ t = { s with heap := s.heap.push (set0 led) }) fun led => ⟨led, rfl, rfl⟩) fun r t hr => ?_
  cases r with
  | error e => exact hr
  | ok fl =>
    cases fl with
    | ret obj =>
      obtain ⟨led, rfl, rfl⟩ := hr
      have gS : (s.heap.push (set0 led)).get? s.heap.objs.size = some (set0 led) := Heap.get?_push_size _ rfl
      have tS : Shared.TypeIs { s with heap := s.heap.push (set0 led) } (.ref s.heap.objs.size) "set" := ⟨_, gS, rfl⟩
      have i1 := F.called_set.init.lookup
      have i2 := F.called_set.init.bind (.ref s.heap.objs.size)
      repeat (any_goals (first | assumption | wp_step))
      refine codeAny_mono (codeAny_call_builtin (R := wants (fun r t => r = .none ∧ ∃ h' tk, t = { s with heap := h', toks := tk } ∧ SetTo prog w h' s.heap.objs.size ks ∧ (∀ b o, b < s.heap.objs.size → s.heap.get? b = some o → h'.get? b = some o)) E) F.called_set.init.plain F.entry_set_init (check_set_init_1 tS ?_)) fun r2 t2 hr2 => ?_
      · obtain ⟨ol, gl, cl, nl, dl⟩ := hl
        obtain ⟨ocls, odict, odata, oslots⟩ := ol
        dsimp only at cl dl
        subst cl dl
        have gl' : (s.heap.push (set0 led)).get? l = some { cls := .type "list", dict := odict, data := .seq items nl, slots := oslots } := Heap.get?_push_of_some _ gl
        have s1 := F.sub_list_set
        have s2 := F.sub_list_frozenset
        have s3 : (Value.type "list" == Value.type "dict") = false := by decide
        have hl1 : (s.heap.push (set0 led)).IsList l items := ⟨_, gl', rfl, nl, rfl⟩
        have ltl : l < s.heap.objs.size := Heap.lt_size gl
        have hh3 : A.in1.in1.in1.handled = none := by simp [hh]
        have sz : (s.heap.push (set0 led)).objs.size = s.heap.objs.size + 1 := Heap.size_push ..
        have nI : l ≠ (s.heap.push (set0 led)).objs.size := by rw [sz]; exact Nat.ne_of_lt (Nat.lt_succ_of_lt ltl)
        have nS : s.heap.objs.size ∉ [(s.heap.push (set0 led)).objs.size, l] := by
          rw [sz]
          intro m
          simp only [List.mem_cons, List.not_mem_nil, or_false] at m
          exact m.elim (Nat.ne_of_lt (Nat.lt_succ_self _)) (Nat.ne_of_gt ltl)
        unfold Builtin.«set.__init__» noKeywords Builtin.Frozenset.updateFrom
        generalize hPI : pyIter = PI
        wp_walk
        subst hPI
        refine wpAny_pyIter_list hl1 ?_; refine wpAny_bind (wpAny_runValue ?_)
        refine upd_keys ((Walks.list hh3 _ l nI items).toS) s.heap.objs.size nS ks hn (fun i v k p e => hi i v k p e) hb (items.size - 0) 0 _ (by omega) (Nat.zero_le _) ⟨⟨_, Heap.get?_push_size _ rfl, rfl, rfl⟩, (hl1.push _)⟩ ?zS ?zR
        case zS =>
          have g0 : ((s.heap.push (set0 led)).push { cls := .type "list_iterator", data := .fields #[.ref l, .int 0 0] }).get? s.heap.objs.size = some (set0 led) := Heap.get?_push_of_some _ gS
          exact ⟨set0 led, #[], 0, _, g0, ⟨rfl, rfl, rfl⟩, rfl, (fun e he => by simp at he), (fun k => by simp [metK, hasK]), (by decide), (by rfl), rfl⟩
        case zR =>
          intro s' mv q
          obtain ⟨h', g', d', tk', os'⟩ := s'
          obtain rfl : g' = s.gens := mv.gens
          obtain rfl : d' = s.drawn := mv.drawn
          obtain rfl : os' = s.os := mv.os
          show wpAny _ _ _ _ _ _
          refine wpAny_pure ?_
          show wpAny _ _ (ret Value.none) _ _ _
          refine wpAny_pure ⟨rfl, h', tk', rfl, q, fun b o hb' e => mv.heap b o ?_ (Heap.get?_push_of_some _ (Heap.get?_push_of_some _ e))⟩
          intro m
          simp only [List.mem_cons, List.not_mem_nil, or_false] at m
          rw [sz] at m
          exact m.elim (Nat.ne_of_lt hb') (Nat.ne_of_lt (Nat.lt_succ_of_lt hb'))
      · cases r2 with
        | error e => exact hr2
        | ok f2 =>
          cases f2 with
          | ret r =>
            obtain ⟨rfl, h', tk, rfl, q, kp⟩ := hr2
            repeat (any_goals (first | assumption | wp_step))
            exact h _ _ q kp
          | _ => exact hr2.elim
    | _ => exact hr.elim
end
/-! ### as an expression -/
def keysX : List Val → Option (List Key)
  | [] => some []
  | v :: vs => match keyOf v, keysX vs with
    | some k, some ks => some (k :: ks)
    | _, _ => none
def oLenSet : Op1 := fun a h => match a with
  | .loc n => (match h[n]? with
    | some (.lst xs) => (match keysX xs with
      | some ks => if ks.length ≤ 1000 then some (.int (metK ks).length, h) else none
      | none => none)
    | _ => none)
  | _ => none
section
variable {X : Cx} {W : Wd}
theorem keys_rep {K : Gw} {ρ : List Addr} {H : Hp} : ∀ {xs : List Val} {vs : List V} {ks : List Key}, RepL K ρ H xs vs → keysX xs = some ks → vs = ks.map kV
  | _, _, _, .nil, e => by cases e; rfl
  | _, _, ks, .cons r t, e => by
    simp only [keysX] at e
    split at e
    · rename_i k ks' e1 e2
      cases e
      rw [key_rep r e1, keys_rep t e2]
      rfl
    · cases e
theorem keys_at {prog : Program} {w : World} : ∀ {ks : List Key} {us : List Value} {i : Nat} {v : Value} {k : Key}, Paired (fun k v => (mixKind prog w).is k v = true) ks us → us[i]? = some v → ks[i]? = some k → keyIs k v = true
  | _, _, i, _, _, .nil, e, _ => by simp at e
  | _, _, 0, _, _, .cons a t, e, e' => by simp at e e'; subst e e'; exact a
  | _, _, i + 1, _, _, .cons a t, e, e' => keys_at t (by simpa using e) (by simpa using e')
theorem q_lenSet {a : Expr} {xa : XE} {p p2 q pos : Pos} (hg : Gl X "len") (hm : X.mg "len" = none) (hg2 : Gl X "set") (hm2 : X.mg "set" = none) (ha : QE X W a xa) (hc : X.calm = true := by rfl)
    (na : starEach [a] X.env = (false, eval a X.env) :: starEach [] X.env := by rfl) : QE X W (.Call (.Name "len" p) [.Call (.Name "set" p2) [a] [] q] [] pos) (xUn oLenSet xa) := by
  refine PE.of (t := fun σ H Q => tX (gw X) W xa σ H fun x H1 => rS1 (gw X) oLenSet x H1 Q) ⟨fun pins s σ H Q I h => ?_⟩ fun σ H Q h => un_of h
  refine PyProof.Rows.Call_ (ld_blt I hg hm (by decide +kernel : bootBuiltins "len" = some (.builtin "len")) (PyProof.Rows.callWith_builtin1 (PyProof.Rows.args_cons ?_ rfl) rfl rfl))
  refine PyProof.Rows.Call_ (ld_blt I hg2 hm2 PyProof.Rows.boot_set ?_)
  refine PyProof.Rows.callWith_type1 (PyProof.Rows.args_cons (thn (ha.run pins s σ H _ I h) fun v s1 ⟨x, H1, I1, r1, ⟨ρ, g, b, z, g', S, rb, e, k⟩⟩ => PyProof.Rows.args_nil ?_) na) na rfl
  unfold oLenSet at e
  split at e
  · rename_i n
    split at e
    · rename_i xs eh
      split at e
      · rename_i ks ek
        split at e
        · rename_i hl
          cases e
          cases rb with
          | @loc _ ad ea =>
            obtain ⟨vs, q1, r2⟩ := S.lst ea eh
            have evs := keys_rep r2 ek
            subst evs
            cases r1
            obtain ⟨its, r, pl, hz⟩ := I1.list (.inl (.inl q1))
            have hlen : its.toArray.size = ks.length := by rw [List.size_toArray, ← r.length, List.length_map]
            refine call_set_keys (ks := ks) (I1.ok.hd hc) pl.isList (fun i v k ev ek' => ?_) hlen.symm (by rw [hlen]; unfold scanBound; omega) fun h' tk hS kp => ?_
            · exact keys_at (paired_keys (prog := X.prog) (w := X.w) r) (by simpa using ev) ek'
            · refine PyProof.Rows.args_nil ?_
              obtain ⟨o, es, ep, t, ho, hex, hd, _, _, _, hf, hn⟩ := hS
              have I2 : L2.Inv X pins σ H1 { s1 with heap := h', toks := tk } := I1.kept fun b o e => kp b o (Heap.lt_size e) e
              have ml := metK_len ks
              exact call_len_set ho hex hd hf (by rw [hn]; omega) ⟨.int (metK ks).length, H1, I2.tok _, ⟨_, by rw [hn]⟩, k ρ H1 _ (Grow.refl _ _) S (.int _)⟩
        · cases e
      · cases e
    · cases e
  · cases e
end
end EX

set_option Elab.async false
set_option linter.all false
set_option maxRecDepth 100000
set_option maxHeartbeats 3200000
namespace EX
open PySem PySem.Spec L2
/-! ### a, *b = a tuple -/
section
variable {prog : Program} {w : World} {A : Around} {E : Value → Shared → Prop} {s : Shared}
theorem walks_from {I : Addr} {fp wr : List Addr} {G : Array GenState → Array GenState → Prop} {n : Nat} {P : Nat → Value → Prop} {St : Nat → Shared → Prop} (W : WalksS prog w A I fp wr G (n + 1) P St) :
    WalksS prog w A I fp wr G n (fun i v => P (i + 1) v) (fun i s => St (i + 1) s) where
  sub := W.sub
  grefl := W.grefl
  gtrans := W.gtrans
  frame := fun i s h' tk st => W.frame (i + 1) s h' tk st
  item := fun i s Q E hi st hQ => W.item (i + 1) s Q E (by omega) st hQ
  done := fun s Q E st hQ => W.done s Q E st hQ
  self := fun i s Q E st hQ => W.self (i + 1) s Q E st hQ
theorem unpack_star {t : Addr} {items : Array Value} {x : Value} {xs : List Value} {Q : List Value → Shared → Prop} (hh : A.handled = none) (ht : s.heap.IsTuple t items) (hi : items.toList = x :: xs) (hz : items.size ≤ sizeLine)
    (hQ : ∀ (h' : Heap) (tk : Nat), (∀ b o, s.heap.get? b = some o → h'.get? b = some o) → Q [x, .ref h'.objs.size] { s with heap := h'.push { cls := .type "list", data := .seq xs.toArray }, toks := tk }) : wpAny (model prog w) A (unpackItems (.ref t) 2 (some 1)) Q E s := by
  have nI : t ≠ s.heap.objs.size := by obtain ⟨o, ho, _⟩ := ht; exact Nat.ne_of_lt (Heap.lt_size ho)
  have sz : items.size = xs.length + 1 := by rw [← Array.length_toList, hi, List.length_cons]
  unfold unpackItems
  refine wpAny_bind ?_
  unfold notIterableAtAll
  refine wpAny_bind (wpAny_specialOf ht.typeIs F.slot_tuple_iter.lookup (wpAny_pure ?_))
  rw [if_neg (by decide)]
  refine wpAny_bind (wpAny_holding (wpAny_pyIter_tuple ht ?_))
  dsimp only
  refine wpAny_bind (wpAny_holding (wpAny_draw_tuple nI 1 0 _ _ ⟨_, Heap.get?_push_size _ rfl, rfl, rfl⟩ (ht.push _) (by omega) fun h1 it1 sb1 => ?_))
  have one : List.take 1 (List.drop 0 items.toList) = [x] := by rw [hi]; rfl
  rw [one, if_neg (by simp)]
  have ht1 : h1.IsTuple t items := (ht.push _).extBut sb1.extBut nI
  have W0 := (Walks.tuple (prog := prog) (w := w) (A := A.in1) (by simp [hh]) s.heap.objs.size t nI items).toS
  rw [sz] at W0
  have lt1 : s.heap.objs.size < h1.objs.size := by
    obtain ⟨o, ho, _⟩ := it1
    exact Heap.lt_size ho
  have lt2 : t < h1.objs.size := by
    obtain ⟨o, ho, _⟩ := ht1
    exact Heap.lt_size ho
  refine wpAny_bind (wpAny_holding (wpAny_collect_iter (T := "tuple_iterator") (.inr (.inr (.inr rfl))) (walks_from W0) (fun i s' st => st.1.typeIs) ⟨it1, ht1⟩ (fun b hb => ?_) (.head _) (fun s' acc mv ia => ?_) (by omega)))
  · simp only [List.mem_cons, List.not_mem_nil, or_false] at hb
    rcases hb with rfl | rfl
    · exact lt1
    · exact lt2
  · have ea : acc.toList = xs := by
      apply List.ext_getElem?
      intro j
      by_cases hj : j < xs.length
      · have h2 : j < acc.size := by rw [ia.1]; exact hj
        have := ia.2 j acc[j] (Array.getElem?_eq_getElem h2)
        have e2 : items.toList[j + 1]? = some acc[j] := by rw [Array.getElem?_toList]; exact this
        rw [hi, List.getElem?_cons_succ] at e2
        rw [e2, Array.getElem?_toList]
        exact Array.getElem?_eq_getElem h2
      · rw [List.getElem?_eq_none (by rw [Array.length_toList, ia.1]; omega), List.getElem?_eq_none (by omega)]
    rw [ea, if_neg (by simp)]
    refine wpAny_bind (wpAny_newList ?_ (by rw [List.length_take]; omega))
    refine wpAny_pure ?_
    obtain ⟨hp, g, d, tk, os⟩ := s'
    obtain rfl : g = s.gens := mv.gens
    obtain rfl : d = s.drawn := mv.drawn
    obtain rfl : os = s.os := mv.os
    have k1 : ∀ b o, s.heap.get? b = some o → hp.get? b = some o := fun b o e => by
      have nb : b ≠ s.heap.objs.size := Nat.ne_of_lt (Heap.lt_size e)
      exact mv.heap b o (by simpa using nb) (sb1.extBut b o nb (Heap.get?_push_of_some _ e))
    have tk0 : xs.take (xs.length - (2 - 1 - 1)) = xs := by simp
    have dp0 : xs.drop (xs.length - (2 - 1 - 1)) = [] := by simp
    rw [tk0, dp0]
    exact hQ hp tk k1
end
section
variable {X : Cx} {W : Wd} {e1 e2 e : Expr} {k : Nat} {ps pos p2 p3 p4 : Pos} {i j : Nat} {x y : Str}
def gStar (K : PySem.W.Frag) (i j : Nat) : TG := fun v σ H Q => ∃ a u us, v = .ref a ∧ SqT K H a (u :: us) ∧ us.length < sizeLine ∧ ∀ p, H p = none → Q ((σ.set i (some u)).set j (some (.ref p))) (upd H p (.lst us))
theorem pg_star (hc : X.calm = true) (hN : X.N.Nodup) (hi : X.N[i]? = some x) (hx : Loc X.env.scope x) (hj : X.N[j]? = some y) (hy : Loc X.env.scope y)
    (hf : X.fn x = true ∨ X.env.scope.names.lookup x = some .local := by first | exact .inl rfl | exact .inr rfl | assumption) (hf2 : X.fn y = true ∨ X.env.scope.names.lookup y = some .local := by first | exact .inl rfl | exact .inr rfl | assumption) :
    PG X (.Tuple [.Name x ps, .Starred (.Name y p2) p3] k p4) (gStar X.K i j) := by
  refine ⟨fun pins s σ H v u Q I r ⟨a, u0, us, ev, hq, hl, q⟩ => ?_⟩
  subst ev
  cases r
  obtain ⟨its, rv, ht, hz⟩ := I.tuple hq
  cases rv with
  | @cons _ w _ ws r0 rs =>
    rw [PyProof.Rows.assign_Tuple]
    refine wpAny_bind (wpAny_standAt ?_)
    unfold unpack
    refine wpAny_bind (wpAny_holding ?_)
    show wpAny _ _ (unpackItems (.ref a) 2 (some 1)) _ _ _
    have hz2 : (w :: ws).toArray.size ≤ sizeLine := by
      rw [List.size_toArray, List.length_cons, ← rs.length]; omega
    refine unpack_star (x := w) (xs := ws) (I.ok.hd hc) ht (by simp) hz2 fun h' tk kp => ?_
    have I1 : L2.Inv X pins σ H { s with heap := h', toks := tk } := I.kept fun b o e => kp b o e
    have hf0 : H h'.objs.size = none := I1.hok.fresh (Nat.le_refl _)
    have I2 : L2.Inv X pins σ (upd H h'.objs.size (.lst us)) { s with heap := h'.push { cls := .type "list", data := .seq ws.toArray }, toks := tk } :=
      I1.laid (t' := tk) (fun b u e => Heap.get?_push_of_some _ e) (Nat.le_refl _) ⟨by omega, ws, 0, rs, Heap.get?_push_size _ rfl⟩
    have g1 : PGs X [.Name x ps, .Name y p2] (gCons (gName i) (gCons (gName j) gNil)) := pgs_cons (pg_name hN hi hx hf) (pgs_cons (pg_name hN hj hy hf2) pgs_nil)
    exact g1.run pins _ σ _ [u0, .ref h'.objs.size] _ Q I2 (.cons r0 (.cons rfl .nil)) ⟨_, _, rfl, _, _, rfl, rfl, q _ hf0⟩
/-- a, *b = x -/
def sStar (i j : Nat) (x : XE) : XS := fun e h => match x e h with
  | .ok (.tup (v :: vs)) h1 => if vs.length < sizeLine then .nx ((e.set i (some v)).set j (some (.loc h1.length))) (h1 ++ [.lst vs]) else .stuck
  | .ok _ _ => .stuck
  | .exc c fs h1 => .exc c fs e h1
  | .stuck => .stuck
theorem star_of {x : XE} {K : Gw} {D : Ends} {σ : St} {H : Hp} (h0 : W.s = none) (h : tXS K W (sStar i j x) D σ H) : tAsg (tX K W x) (gStar K.K i j) D σ H := by
  obtain ⟨ρ, env, h, S, E, p⟩ := h
  have p' : PostS K W ρ H D (match x env h with | .ok v h1 => (match v with | .tup (v :: vs) => if vs.length < sizeLine then .nx ((env.set i (some v)).set j (some (.loc h1.length))) (h1 ++ [.lst vs]) else .stuck | _ => .stuck) | .exc c fs h1 => .exc c fs env h1 | .stuck => .stuck) := by
    unfold sStar at p
    cases hx : x env h with
    | ok v h1 =>
      rw [hx] at p
      cases v with
      | tup xs => cases xs with
        | nil => exact p
        | cons _ _ => exact p
      | _ => exact p
    | exc c fs h1 => rw [hx] at p; exact p
    | stuck => rw [hx] at p; exact p
  refine ⟨ρ, env, h, S, E, (afterE (f := fun v h1 => match v with | .tup (v :: vs) => if vs.length < sizeLine then .nx ((env.set i (some v)).set j (some (.loc h1.length))) (h1 ++ [.lst vs]) else .stuck | _ => .stuck) E p').imp fun v h1 ρ1 H1 g1 S1 q u ru => ?_⟩
  cases ru with
  | @tup a xs vs sq rs =>
    cases rs with
    | nil => exact q.elim
    | @cons v0 u0 vs us r0 rs =>
      by_cases hl : vs.length < sizeLine
      · dsimp only at q
        rw [if_pos hl] at q
        refine ⟨a, u0, us, rfl, sq, by rw [← rs.length]; exact hl, fun p hp => ?_⟩
        obtain ⟨g2, S2, r2⟩ := new_loc S1 hp rs
        have E2 := ((E.mono g1).mono g2)
        have E3 := (E2.set i (r0.mono g2) (fun _ z => by rw [h0] at z; cases z)).set j r2 (fun _ z => by rw [h0] at z; cases z)
        exact q _ _ _ g2 S2 E3
      · dsimp only at q
        rw [if_neg hl] at q
        exact q.elim
  | _ => exact q.elim
theorem qs_star {xa : XE} (hc : X.calm = true) (hN : X.N.Nodup) (hi : X.N[i]? = some x) (hx : Loc X.env.scope x) (hj : X.N[j]? = some y) (hy : Loc X.env.scope y) (he : QE X W e xa)
    (hf : X.fn x = true ∨ X.env.scope.names.lookup x = some .local := by first | exact .inl rfl | exact .inr rfl | assumption) (hf2 : X.fn y = true ∨ X.env.scope.names.lookup y = some .local := by first | exact .inl rfl | exact .inr rfl | assumption)
    (hs : swapsWithSole [.Tuple [.Name x ps, .Starred (.Name y p2) p3] k p4] e pos.line X.env = pure false := by rfl) (hw : swappedStores [.Tuple [.Name x ps, .Starred (.Name y p2) p3] k p4] e X.env = pure none := by rfl)
    (h1 : (assignEach [.Tuple [.Name x ps, .Starred (.Name y p2) p3] k p4] X.env).map (·.2) = [assign (.Tuple [.Name x ps, .Starred (.Name y p2) p3] k p4) X.env] := by rfl) (h0 : W.s = none := by rfl) :
    QS X W (.Assign [.Tuple [.Name x ps, .Starred (.Name y p2) p3] k p4] e pos) (sStar i j xa) :=
  PS.of (ps_asg he (pg_star hc hN hi hx hj hy hf hf2) hs hw h1) fun _ _ _ => star_of h0
end
end EX

set_option Elab.async false
set_option linter.all false
set_option maxRecDepth 100000
set_option maxHeartbeats 3200000
namespace EX
open PySem PySem.Spec L2
/-! ### x[::-1] -/
section
variable {prog : Program} {w : World} {A : Around} {E : Value → Shared → Prop} {s : Shared}
theorem pick_back (xs : Array Value) : ((List.range xs.size).filterMap fun (k : Nat) => xs[(((xs.size : Int) - 1) + (k : Int) * (-1)).toNat]?).toArray = xs.toList.reverse.toArray := by
  congr 1
  have gen : ∀ l : List Nat, (∀ k ∈ l, k < xs.size) → l.filterMap (fun (k : Nat) => xs[(((xs.size : Int) - 1) + (k : Int) * (-1)).toNat]?) = l.filterMap fun k => xs[xs.size - 1 - k]? := fun l => by
    induction l with
    | nil => intro _; rfl
    | cons k l ih =>
      intro hk
      have h1 := hk k (.head _)
      have e2 : (((xs.size : Int) - 1) + (k : Int) * (-1)).toNat = xs.size - 1 - k := by omega
      rw [List.filterMap_cons, List.filterMap_cons, e2, ih fun j m => hk j (.tail _ m)]
  have e := gen (List.range xs.size) fun k hk => List.mem_range.mp hk
  rw [e]
  have e3 : (List.range xs.size).filterMap (fun k => xs[xs.size - 1 - k]?) = ((List.range xs.size).map fun k => xs.size - 1 - k).filterMap (xs[·]?) := by
    rw [List.filterMap_map]; rfl
  rw [e3, PySem.W.krv_range, List.filterMap_reverse, PySem.W.krv_all]
theorem applied_back {sl : Addr} {vl vu vs : Value} {n : Nat} {Q : Int × Int × Nat → Shared → Prop} (hs : s.heap.IsSliceOf sl vl vu vs) (pl : IsPart vl none) (pu : IsPart vu none) (pk : IsPart vs (some (-1)))
    (h : Q ((n : Int) - 1, -1, n) s) : wpAny (model prog w) A (Builtin.Slice.sliceApplied (.ref sl) (pure (n : Int))) Q E s := by
  obtain ⟨os, hos, hcs, hds⟩ := id hs
  unfold Builtin.Slice.sliceApplied Builtin.Slice.sliceFields
  refine wpAny_bind (wpAny_bind (wpAny_field hos hds (x := vl) rfl (wpAny_bind (wpAny_field hos hds (x := vu) rfl (wpAny_bind (wpAny_field hos hds (x := vs) rfl (wpAny_pure ?_)))))))
  refine wpAny_bind (HT.slicePart_ pk ?_)
  show wpAny _ _ (if ((-1 : Int) == 0) = true then _ else _) _ _ s; rw [if_neg (by decide)]
  refine wpAny_bind (HT.slicePart_ pl (wpAny_bind (HT.slicePart_ pu (wpAny_bind (wpAny_pure ?_)))))
  have e : Builtin.Slice.sliceAdjust none none (-1) (n : Int) = ((n : Int) - 1, -1) := by
    simp [Builtin.Slice.sliceAdjust]
  show wpAny _ _ (match Builtin.Slice.sliceAdjust none none (-1) (n : Int) with | (lo, hi) => pure (lo, (-1 : Int), Builtin.Slice.slicePlaces lo hi (-1))) _ _ s
  rw [e]
  have e2 : Builtin.Slice.slicePlaces ((n : Int) - 1) (-1) (-1) = n := by
    simp [Builtin.Slice.slicePlaces]; omega
  show wpAny _ _ (pure ((n : Int) - 1, (-1 : Int), Builtin.Slice.slicePlaces ((n : Int) - 1) (-1) (-1))) _ _ s
  rw [e2]
  exact wpAny_pure h
theorem getItem_back {t sl : Addr} {items : Array Value} {vl vu vs : Value} {Q : Value → Shared → Prop} (ht : PyProof.Rows.IsTup s.heap t items) (hs : s.heap.IsSliceOf sl vl vu vs) (pl : IsPart vl none) (pu : IsPart vu none) (pk : IsPart vs (some (-1)))
    (h : Q (.ref s.heap.objs.size) { s with heap := s.heap.push { cls := .type "tuple", data := .seq items.toList.reverse.toArray } }) (hsz : items.size ≤ sizeLine) : wpAny (model prog w) A (getItem (.ref t) (.ref sl)) Q E s := by
  have hz : sizeOk (.seq items.toList.reverse.toArray) := by
    show items.toList.reverse.toArray.size ≤ sizeLine
    simpa using hsz
  obtain ⟨os, hos, hcs, hds⟩ := id hs
  have hTs : s.TypeIs (.ref sl) "slice" := ⟨os, hos, hcs⟩
  unfold getItem
  try with_reducible refine wpAny_holding ?_
  first | refine wpAny_bind (wpAny_pure ?_) | skip
  refine wpAny_bind (wpAny_sequenceKey ht.typeIs (by decide) ?_)
  refine wpAny_bind (wpAny_callSpecial?_slot (name := Str.ofString "__getitem__") ht.typeIs PyProof.Rows.slot_tuple_getitem (wpAny_call_entry PyProof.Rows.slot_tuple_getitem ht.typeIs PyProof.Rows.entry_tuple_getitem ?_ (PyProof.Rows.args_tuple_getitem _ _)))
  show wpAny _ _ (Builtin.Tuple.tupleItemsOf (.ref t) >>= _) _ _ s
  refine wpAny_bind (PyProof.Rows.tupleItemsOf_ ht (wpAny_bind (wpAny_typeOf hTs ?_))); rw [if_pos (by decide)]
  refine wpAny_bind (applied_back hs pl pu pk ?_)
  have hno : ¬ ((((items.size : Int) - 1) == 0 && (-1 : Int) == 1 && items.size == items.size) = true) := by simp
  show wpAny _ _ (if (((items.size : Int) - 1) == 0 && (-1 : Int) == 1 && items.size == items.size) = true then _ else _) _ _ s
  rw [if_neg hno, pick_back]
  first
    | exact wpAny_bind (m := Builtin.Tuple.tupleExact _) (wpAny_newObj_type (wpAny_pure ⟨_, rfl, wpAny_pure h⟩) hz)
    | exact wpAny_bind (m := Builtin.Tuple.tupleExact _) (wpAny_newObj_type (wpAny_bind (wpAny_pure (wpAny_pure ⟨_, rfl, wpAny_pure h⟩))) hz)
    | exact wpAny_bind (wpAny_bind (m := Builtin.Tuple.tupleExact _) (wpAny_newObj_type (wpAny_pure (wpAny_pure ⟨_, rfl, wpAny_pure h⟩)) hz))
    | exact wpAny_bind (wpAny_bind (m := Builtin.Tuple.tupleExact _) (wpAny_newObj_type (wpAny_pure ⟨_, rfl, wpAny_pure h⟩) hz))
end
def oRev : Op1 := fun a h => match a with
  | .tup xs => some (.tup xs.reverse, h)
  | .loc n => (match h[n]? with
    | some (.lst xs) => some (.loc h.length, h ++ [.lst xs.reverse])
    | _ => none)
  | _ => none
section
variable {X : Cx} {W : Wd} {e : Expr} {xa : XE}
theorem q_rev {k : Nat} {p1 p2 p3 pos : Pos} (he : QE X W e xa) : QE X W (.Subscript e (.Slice none none (some (.UnaryOp .USub (.Constant (.int 1) k p1) p2)) p3) pos) (xUn oRev xa) := by
  refine PE.of (t := fun σ H Q => tX (gw X) W xa σ H fun x H1 => rS1 (gw X) oRev x H1 Q) ⟨fun pins s σ H Q I h => ?_⟩ fun σ H Q h => un_of h
  refine PyProof.Rows.Subscript_ (thn (he.run pins s σ H _ I h) fun v s1 ⟨x, H1, I1, r1, ⟨ρ, g, b, z, g', S, rb, ez, kk⟩⟩ => ?_)
  have hst : PO X (some (.UnaryOp .USub (.Constant (.int 1) k p1) p2)) (tPart (tUn (rU fun i => .int (-i)) (tC (.int 1)))) := po_some (pe_un un_neg pe_int)
  refine wpAny_Slice (thn (po_none.run pins s1 σ H1 (fun o H2 => o = none ∧ H2 = H1) I1 ⟨rfl, rfl⟩) fun vl s2 ⟨l, H2, I2, pl, el, e2⟩ => ?_)
  subst el e2
  refine thn (po_none.run pins s2 σ H2 (fun o H3 => o = none ∧ H3 = H2) I2 ⟨rfl, rfl⟩) fun vu s3 ⟨u, H3, I3, pu, eu, e3⟩ => ?_
  subst eu e3
  refine thn (hst.run pins s3 σ H3 (fun o H4 => o = some (-1) ∧ H4 = H3) I3 ⟨1, rfl, -1, rfl, rfl, rfl⟩) fun vs s4 ⟨o, H4, I4, ps, eo, e4⟩ => ?_
  subst eo e4
  have I5 : L2.Inv X pins σ H4 { s4 with heap := s4.heap.push { cls := .type "slice", data := .fields #[vl, vu, vs] } } := I4.kept (t' := s4.toks) fun b ob q => Heap.get?_push_of_some _ q
  unfold oRev at ez
  split at ez
  · rename_i xs
    cases ez
    cases rb with
    | @tup a _ us sq rs =>
      cases r1
      obtain ⟨its, r, ht, hz⟩ := I5.tuple sq
      show wpAny (model X.prog X.w) X.A (PyProof.Rows.subscriptTail e (.Slice none none (some (.UnaryOp .USub (.Constant (.int 1) k p1) p2)) p3) (.ref a) (.ref s4.heap.objs.size)) (EP X pins σ Q) X.xe { s4 with heap := s4.heap.push { cls := .type "slice", data := .fields #[vl, vu, vs] } }
      refine PyProof.Rows.tail_any (ops := [.ref a, .ref s4.heap.objs.size]) ht.typeIs (PyProof.Rows.slot_tuple_getitem.lookup) ?_ (by with_unfolding_all rfl)
      have hlen := r.length
      refine getItem_back ht (Heap.IsSliceOf.new _ vl vu vs) pl pu ps ?_ (by rw [List.size_toArray]; omega)
      have hf : H4 (s4.heap.push { cls := .type "slice", data := .fields #[vl, vu, vs] }).objs.size = none := I5.hok.fresh (Nat.le_refl _)
      obtain ⟨g2, S2, r2⟩ := new_tup S hf rs.reverse
      exact ⟨.ref _, _, I5.laid (t' := s4.toks) (o := .tup us.reverse) (fun b ob q => Heap.get?_push_of_some _ q) (Nat.le_refl _) ⟨by rw [List.length_reverse]; exact hz, _, r.reverse, PyProof.Rows.IsTup.new _ _⟩, rfl, kk _ _ _ g2 S2 r2⟩
  · rename_i n
    split at ez
    · rename_i xs eh
      cases ez
      cases rb with
      | @loc _ a ea =>
        obtain ⟨us, q1, rs⟩ := S.lst ea eh
        cases r1
        obtain ⟨its, r, ht, hz⟩ := I5.list (.inl (.inl q1))
        have hlen := r.length
        show wpAny (model X.prog X.w) X.A (PyProof.Rows.subscriptTail e (.Slice none none (some (.UnaryOp .USub (.Constant (.int 1) k p1) p2)) p3) (.ref a) (.ref s4.heap.objs.size)) (EP X pins σ Q) X.xe { s4 with heap := s4.heap.push { cls := .type "slice", data := .fields #[vl, vu, vs] } }
        refine PyProof.Rows.tail_any (ops := [.ref a, .ref s4.heap.objs.size]) ht.isList.typeIs (PySem.slot_list_getitem.lookup) ?_ (by with_unfolding_all rfl)
        refine wpAny_getItem_list_slice ht.isList (Heap.IsSliceOf.new _ vl vu vs) pl pu ps (by decide) ?_ (by rw [List.size_toArray]; omega)
        rw [PySem.W.krv_pick]
        have hf : H4 (s4.heap.push { cls := .type "slice", data := .fields #[vl, vu, vs] }).objs.size = none := I5.hok.fresh (Nat.le_refl _)
        obtain ⟨g2, S2, r2⟩ := new_loc S hf rs.reverse
        exact ⟨.ref _, _, I5.laid (t' := s4.toks) (o := .lst us.reverse) (fun b ob q => Heap.get?_push_of_some _ q) (Nat.le_refl _) ⟨by rw [List.length_reverse]; exact hz, _, 0, r.reverse, Heap.get?_push_size _ rfl⟩, rfl, kk _ _ _ g2 S2 r2⟩
    · cases ez
  · cases ez
end
end EX

set_option Elab.async false
set_option linter.all false
set_option maxRecDepth 100000
set_option maxHeartbeats 3200000
namespace EX
open PySem PySem.Spec PyProof.Rows L2 He
/-! ### heads with tables of text keys -/
theorem find_keys {P : Params} {z : Str} : ∀ {l : List DictEntry} {ks : List Str}, l.map He.keyOf = keysIn P ks → (∀ k ∈ ks, k ≠ z) → l.find? (·.key.isStr z) = none ∧ l.any (·.refKey) = false
  | [], _, _, _ => ⟨rfl, rfl⟩
  | e :: r, [], h, _ => by cases h
  | e :: r, k :: ks, h, hz => by
    have h1 : He.keyOf e :: r.map He.keyOf = some (k, PyData.keyHash P k) :: keysIn P ks := h
    injection h1 with h2 h3
    obtain ⟨i1, i2⟩ := find_keys h3 fun j m => hz j (.tail _ m)
    unfold He.keyOf at h2
    split at h2
    · rename_i x t q
      have h5 : x = k := (Prod.mk.inj (Option.some.inj h2)).1
      subst h5
      have ne : e.key.isStr z = false := by
        rw [q]
        simp [Value.isStr, hz x (.head _)]
      have nr : e.refKey = false := by
        unfold DictEntry.refKey
        rw [q]
      rw [List.find?_cons, ne, List.any_cons, i2, nr]
      exact ⟨i1, rfl⟩
    · cases h2
theorem ns_none {K : PySem.W.Frag} {w : World} {a : Addr} {ks : List Str} {z : Str} (h : dicW K a = some (keysIn w.params ks)) (hz : ∀ k ∈ ks, k ≠ z) : PySem.W.nsIn K a z = some none := by
  unfold dicW at h
  split at h
  · rename_i c es n sl q
    split at h
    · obtain ⟨e1, e2⟩ := find_keys (Option.some.inj h) hz
      unfold PySem.W.nsIn
      rw [q]
      dsimp only
      rw [e1, e2]
      rfl
    · cases h
  · cases h
def dvOf : Val → Dv
  | .bl b => .bl b
  | .int i => .int i
  | .str s => .str s
  | _ => .non
theorem dvOf_v {K : PySem.W.Frag} {v : Val} (h : flatX v = true) : (dvOf v).v K = flatV2 v := by
  cases v <;> first | rfl | cases h
theorem lookup_mem {α β : Type} [BEq α] [LawfulBEq α] {k : α} {v : β} : ∀ {l : List (α × β)}, l.lookup k = some v → (k, v) ∈ l
  | [], e => by cases e
  | (a, b) :: l, e => by
    rw [List.lookup_cons] at e
    split at e
    · rename_i h
      cases e
      rw [eq_of_beq h]
      exact .head _
    · exact .tail _ (lookup_mem e)
theorem lookup_none {α β : Type} [BEq α] [LawfulBEq α] {k : α} : ∀ {l : List (α × β)}, l.lookup k = none → ∀ j ∈ l.map (·.1), j ≠ k
  | [], _, _, m => nomatch m
  | (a, b) :: l, e, j, m => by
    rw [List.lookup_cons] at e
    split at e
    · cases e
    · rename_i h
      rcases List.mem_cons.mp m with rfl | m
      · intro z
        rw [z] at h
        simp at h
      · exact lookup_none e j m
theorem gtb_ok {K : PySem.W.Frag} {mg : Str → Option Value} {w : World} {x : Str} {kvs : List (Str × Val)} (hm : mg x = some (.ref (ga K x))) (hd : dicW K (ga K x) = some (keysIn w.params (kvs.map (·.1)))) (hv : valsB K (ga K x) (kvs.map fun p => (p.1, dvOf p.2)) = true) (hf : (kvs.all fun p => flatX p.2) = true) : GTb K mg w x kvs := by
  obtain ⟨es, n, D⟩ := dicW_ok hd
  refine ⟨ga K x, es, n, hm, D, fun z => ?_⟩
  cases e : kvs.lookup z with
  | none => exact ns_none hd (lookup_none e)
  | some v =>
    have m := lookup_mem e
    have f := List.all_eq_true.mp hf _ m
    obtain ⟨u, e1, r⟩ := valsB_ok hv (List.mem_map.mpr ⟨_, m, rfl⟩)
    dsimp only at e1 r f
    rw [dvOf_v f] at r
    exact ⟨f, u, e1, r⟩
/-! ### the hook -/
abbrev AlE : Type := (AlD × Bool) × List (Option (List (Option (Str × Int))))
def tabsE (ts : List Tab) (K : PySem.W.Frag) : List (Option (List (Option (Str × Int)))) := ts.map fun t => dicW K (t.1 K)
def keysE (ts : List Tab) (w : World) : List (Option (List (Option (Str × Int)))) := ts.map fun t => some (keysIn w.params t.2)
def obsF (n : Nat) (fa : List Fa) (fn : List DefD) (ex : PySem.W.Frag → Bool) (ts : List Tab) (g : Addr → Option Obj) : AlE := ((obsD fa fn (frT g (seeds g n)), ex (frT g (seeds g n))), tabsE ts (frT g (seeds g n)))
def hookF (n : Nat) (fa : List Fa) (fn : List DefD) (ex : PySem.W.Frag → Bool) (ts : List Tab) : PySem.W.Hook where
  α := AlE
  obs := fun s => obsF n fa fn ex ts s.heap.get?
  val := fun w => ((valD fn, true), keysE ts w)
  says := fun w h => ∃ K : PySem.W.Frag, K.In h ∧ (SaysD fa fn K ∧ ex K = true) ∧ tabsE ts K = keysE ts w
  of := fun _ _ e => ⟨_, frT_in, ⟨congrArg (fun z : AlE => z.1.1) e, congrArg (fun z : AlE => z.1.2) e⟩, congrArg Prod.snd e⟩
  keeps := fun _ _ _ ⟨K, hK, c⟩ k => ⟨K, PySem.W.Frag.In.keeps hK k, c⟩
theorem obsF_eq {n : Nat} {fa : List Fa} {fn : List DefD} {ex : PySem.W.Frag → Bool} {ts : List Tab} {g : Addr → Option Obj} {s : Shared} (h : ∀ a, g a = s.heap.get? a) : obsF n fa fn ex ts g = (hookF n fa fn ex ts).obs s := by
  have e : g = s.heap.get? := funext h
  rw [e] <;> rfl
theorem tab_at {ts : List Tab} {K : PySem.W.Frag} {w : World} (h : tabsE ts K = keysE ts w) (i : Nat) {t : Tab} (e : ts[i]? = some t) : dicW K (t.1 K) = some (keysIn w.params t.2) := by
  have e2 : (tabsE ts K)[i]? = (keysE ts w)[i]? := by rw [h]
  unfold tabsE keysE at e2
  rw [List.getElem?_map, List.getElem?_map, e] at e2
  exact Option.some.inj e2
/-! ### a, b, c = x, y, z -/
section
variable {X : Cx} {W : Wd}
theorem qs_par3 {i j l : Nat} {x y z : Str} {a b c : Expr} {ta : XA} {px py pz pt pos : Pos} {kt k2 : Nat} {pt2 : Pos} (hc : X.calm = true) (hN : X.N.Nodup) (hi : X.N[i]? = some x) (hj : X.N[j]? = some y) (hl : X.N[l]? = some z) (hij : i ≠ j) (hil : i ≠ l) (hjl : j ≠ l)
    (hx : X.env.scope.names.lookup x = some .local) (hy : X.env.scope.names.lookup y = some .local) (hz : X.env.scope.names.lookup z = some .local) (ha : QA X W [a, b, c] ta)
    (hw : swappedStores [.Tuple [.Name x px, .Name y py, .Name z pz] kt pt] (.Tuple [a, b, c] k2 pt2) X.env = pure (some [x, y, z]))
    (hs : swapsWithSole [.Tuple [.Name x px, .Name y py, .Name z pz] kt pt] (.Tuple [a, b, c] k2 pt2) pos.line X.env = pure false := by rfl) (h0 : W.s = none := by rfl) :
    QS X W (.Assign [.Tuple [.Name x px, .Name y py, .Name z pz] kt pt] (.Tuple [a, b, c] k2 pt2) pos) (sPar [i, j, l] ta) := PS.of (ps_par3 hc hN hi hj hl hij hil hjl hx hy hz ha hw hs) fun D σ H ⟨ρ, env, h, S, E, p⟩ =>
  ⟨ρ, env, h, S, E, (afterA (f := fun vs h1 => match [i, j, l], vs with
    | [i, j], [v, w] => .nx ((env.set i (some v)).set j (some w)) h1
    | [i, j, l], [u, v, w] => .nx (((env.set i (some u)).set j (some v)).set l (some w)) h1
    | _, _ => .stuck) E p).imp fun vs h1 ρ1 H1 g1 S1 q us rs => by
      cases rs with
      | nil => exact q.elim
      | cons r1 rs =>
        cases rs with
        | nil => exact q.elim
        | cons r2 rs =>
          cases rs with
          | nil => exact q.elim
          | cons r3 rs =>
            cases rs with
            | nil =>
              refine ⟨_, _, _, rfl, ?_⟩
              have no : ∀ k, ∀ q, W.s = some q → q.slot ≠ k := fun k q e => by rw [h0] at e; cases e
              exact q _ _ _ (Grow.refl _ _) S1 ((((E.mono g1).set i r1 (no i)).set j r2 (no j)).set l r3 (no l))
            | cons _ _ => exact q.elim⟩
end
end EX

set_option Elab.async false
set_option linter.all false
set_option maxRecDepth 100000
set_option maxHeartbeats 4000000
namespace PL
open PySem L2 EX
/-! ### pure things -/
inductive D where
  | non
  | bl (b : Bool)
  | int (i : Int)
  | str (s : Str)
  | ty (n : String)
  | ref (x : Str)
  | tup (xs : List D)
  | lst (t : Option Nat) (xs : List D)
  | dct (t : Option Nat) (kvs : List (Key × D))
  | scr (xs : List D)
  | own (xs : List D)
  | ownd (kvs : List (Key × D))
  | box
/-- a list or dict under construction, which its variable alone holds -/
def D.isOwn : D → Bool
  | .own _ => true
  | .ownd _ => true
  | _ => false
def TagOk (t : Option Nat) (n : Nat) : Prop := ∀ m, t = some m → m = n
theorem TagOk.none (n : Nat) : TagOk .none n := fun _ e => by cases e
section
variable (b : Nat) (g : Nat → Option Ob)
mutual
def Is : D → Val → Prop
  | .non, v => v = .non
  | .bl c, v => v = .bl c
  | .int i, v => v = .int i
  | .str s, v => v = .str s
  | .ty n, v => v = .ty n
  | .ref x, v => v = .ref x
  | .tup ds, v => ∃ xs, v = .tup xs ∧ IsL ds xs
  | .lst t ds, v => ∃ n xs, v = .loc n ∧ TagOk t n ∧ g n = some (.lst xs) ∧ IsL ds xs
  | .dct t kvs, v => ∃ n xs, v = .loc n ∧ TagOk t n ∧ g n = some (.dct xs) ∧ IsK kvs xs
  | .scr ds, v => ∃ xs, v = .scr xs ∧ IsL ds xs
  | .own _, _ => False
  | .ownd _, _ => False
  | .box, v => v = .loc b
def IsL : List D → List Val → Prop
  | [], xs => xs = []
  | d :: ds, xs => ∃ x r, xs = x :: r ∧ Is d x ∧ IsL ds r
def IsK : List (Key × D) → List (Key × Val) → Prop
  | [], xs => xs = []
  | (k, d) :: r, xs => ∃ x q, xs = (k, x) :: q ∧ Is d x ∧ IsK r q
end
end
section
variable {b : Nat} {g g' : Nat → Option Ob}
mutual
theorem Is.mono (hm : ∀ (n : Nat) (o : Ob), g n = some o → g' n = some o) : ∀ {d : D} {v : Val}, Is b g d v → Is b g' d v
  | .non, _, e => e
  | .bl _, _, e => e
  | .int _, _, e => e
  | .str _, _, e => e
  | .ty _, _, e => e
  | .ref _, _, e => e
  | .tup _, _, ⟨xs, e, r⟩ => ⟨xs, e, IsL.mono hm r⟩
  | .lst _ _, _, ⟨n, xs, e, t, q, r⟩ => ⟨n, xs, e, t, hm _ _ q, IsL.mono hm r⟩
  | .dct _ _, _, ⟨n, xs, e, t, q, r⟩ => ⟨n, xs, e, t, hm _ _ q, IsK.mono hm r⟩
  | .scr _, _, ⟨xs, e, r⟩ => ⟨xs, e, IsL.mono hm r⟩
  | .own _, _, e => e.elim
  | .ownd _, _, e => e.elim
  | .box, _, e => e
theorem IsL.mono (hm : ∀ (n : Nat) (o : Ob), g n = some o → g' n = some o) : ∀ {ds : List D} {xs : List Val}, IsL b g ds xs → IsL b g' ds xs
  | [], _, e => e
  | _ :: _, _, ⟨x, r, e, a, c⟩ => ⟨x, r, e, Is.mono hm a, IsL.mono hm c⟩
theorem IsK.mono (hm : ∀ (n : Nat) (o : Ob), g n = some o → g' n = some o) : ∀ {ds : List (Key × D)} {xs : List (Key × Val)}, IsK b g ds xs → IsK b g' ds xs
  | [], _, e => e
  | (_, _) :: _, _, ⟨x, r, e, a, c⟩ => ⟨x, r, e, Is.mono hm a, IsK.mono hm c⟩
end
theorem Is.noOwn {d : D} {v : Val} (i : Is b g d v) : d.isOwn = false := by
  cases d with
  | own ds => exact i.elim
  | ownd ds => exact i.elim
  | _ => rfl
theorem IsL.len : ∀ {ds : List D} {xs : List Val}, IsL b g ds xs → xs.length = ds.length
  | [], _, e => by cases (show _ = _ from e); rfl
  | _ :: _, _, ⟨x, r, e, a, c⟩ => by subst e; rw [List.length_cons, List.length_cons, IsL.len c]
theorem IsK.len : ∀ {ds : List (Key × D)} {xs : List (Key × Val)}, IsK b g ds xs → xs.length = ds.length
  | [], _, e => by cases (show _ = _ from e); rfl
  | (_, _) :: _, _, ⟨x, r, e, a, c⟩ => by subst e; rw [List.length_cons, List.length_cons, IsK.len c]
theorem IsL.get : ∀ {ds : List D} {xs : List Val} {i : Nat} {d : D}, IsL b g ds xs → ds[i]? = some d → ∃ x, xs[i]? = some x ∧ Is b g d x
  | [], _, _, _, _, h => by simp at h
  | _ :: _, _, 0, _, ⟨x, r, e, a, c⟩, h => by subst e; simp at h; subst h; exact ⟨x, rfl, a⟩
  | _ :: _, _, i + 1, _, ⟨x, r, e, a, c⟩, h => by
    subst e
    obtain ⟨y, e1, i1⟩ := IsL.get (i := i) c (by simpa using h)
    exact ⟨y, by simpa using e1, i1⟩
theorem IsL.app : ∀ {ds es : List D} {xs ys : List Val}, IsL b g ds xs → IsL b g es ys → IsL b g (ds ++ es) (xs ++ ys)
  | [], _, _, _, e, f => by cases (show _ = _ from e); exact f
  | d :: ds, _, _, _, ⟨x, r, e, a, c⟩, f => by subst e; exact ⟨x, r ++ _, rfl, a, IsL.app c f⟩
theorem IsL.take : ∀ {ds : List D} {xs : List Val} (k : Nat), IsL b g ds xs → IsL b g (ds.take k) (xs.take k)
  | _, _, 0, _ => rfl
  | [], _, k + 1, e => by cases (show _ = _ from e); rfl
  | d :: ds, _, k + 1, ⟨x, r, e, a, c⟩ => by subst e; exact ⟨x, r.take k, rfl, a, IsL.take k c⟩
theorem IsL.drop : ∀ {ds : List D} {xs : List Val} (k : Nat), IsL b g ds xs → IsL b g (ds.drop k) (xs.drop k)
  | _, _, 0, e => e
  | [], _, k + 1, e => by cases (show _ = _ from e); rfl
  | d :: ds, _, k + 1, ⟨x, r, e, a, c⟩ => by subst e; exact IsL.drop k c
theorem IsL.set {d : D} {v : Val} (i : Is b g d v) : ∀ {ds : List D} {xs : List Val} (k : Nat), IsL b g ds xs → IsL b g (ds.set k d) (xs.set k v)
  | [], _, k, e => by cases (show _ = _ from e); cases k <;> rfl
  | _ :: _, _, 0, ⟨x, r, e, a, c⟩ => by subst e; exact ⟨v, r, rfl, i, c⟩
  | _ :: _, _, k + 1, ⟨x, r, e, a, c⟩ => by subst e; exact ⟨x, r.set k v, rfl, a, IsL.set i k c⟩
theorem IsL.reverse : ∀ {ds : List D} {xs : List Val}, IsL b g ds xs → IsL b g ds.reverse xs.reverse
  | [], _, e => by cases (show _ = _ from e); rfl
  | _ :: _, _, ⟨x, r, e, a, c⟩ => by
    subst e
    rw [List.reverse_cons, List.reverse_cons]
    exact (IsL.reverse c).app ⟨x, [], rfl, a, rfl⟩
theorem IsL.one {d : D} {v : Val} (i : Is b g d v) : IsL b g [d] [v] := ⟨v, [], rfl, i, rfl⟩
end
/-! ### heaps with masks -/
def msk (ms : List Nat) (h : Hh) : Nat → Option Ob := fun i => if i ∈ ms then none else h[i]?
theorem msk_some {ms : List Nat} {h : Hh} {i : Nat} {o : Ob} : msk ms h i = some o ↔ i ∉ ms ∧ h[i]? = some o := by
  unfold msk
  by_cases m : i ∈ ms
  · rw [if_pos m]; exact ⟨(fun e => by cases e), (fun e => absurd m e.1)⟩
  · rw [if_neg m]; exact ⟨(fun e => ⟨m, e⟩), (fun e => e.2)⟩
def Cl (h : Hh) : Prop := h.all (Ob.und h.length) = true
/-- the state of the draws -/
structure Bs where
  x : Int
  y : Int
  z : Int
def bx (s : Bs) : Ob := .lst [.int s.x, .int s.y, .int s.z]
def zM : Int := 2 ^ 22
structure Gd (s : Bs) : Prop where
  x0 : 0 ≤ s.x
  y0 : 0 ≤ s.y
  y1 : s.y < 2 ^ 31
  z0 : 0 ≤ s.z
structure Ev (b : Nat) (ms : List Nat) (N : Nat) (h : Hh) : Prop where
  cl : Cl h
  bx : ∃ s, h[b]? = some (bx s) ∧ Gd s ∧ s.z + N ≤ zM
  bm : b ∈ ms
  lt : ∀ m ∈ ms, m < h.length
structure Ext (b : Nat) (h h' : Hh) : Prop where
  le : h.length ≤ h'.length
  at_ : ∀ i, i < h.length → i ≠ b → h'[i]? = h[i]?
theorem Ext.refl (b : Nat) (h : Hh) : Ext b h h := ⟨Nat.le_refl _, fun _ _ _ => rfl⟩
theorem Ext.trans {b : Nat} {h h1 h2 : Hh} (a : Ext b h h1) (c : Ext b h1 h2) : Ext b h h2 :=
  ⟨Nat.le_trans a.le c.le, fun i hi hb => by rw [c.at_ i (Nat.lt_of_lt_of_le hi a.le) hb, a.at_ i hi hb]⟩
theorem Ext.mono {b : Nat} {h h' : Hh} {ms : List Nat} (x : Ext b h h') (bm : b ∈ ms) {i : Nat} {o : Ob} (e : msk ms h i = some o) : msk ms h' i = some o := by
  rw [msk_some] at e ⊢
  refine ⟨e.1, ?_⟩
  rw [x.at_ i (List.getElem?_eq_some_iff.mp e.2).1 (fun z => e.1 (z ▸ bm))]
  exact e.2
theorem Is.ext {b : Nat} {h h' : Hh} {ms : List Nat} {d : D} {v : Val} (i : Is b (msk ms h) d v) (x : Ext b h h') (bm : b ∈ ms) : Is b (msk ms h') d v := i.mono fun _ _ e => x.mono bm e
theorem IsL.ext {b : Nat} {h h' : Hh} {ms : List Nat} {d : List D} {v : List Val} (i : IsL b (msk ms h) d v) (x : Ext b h h') (bm : b ∈ ms) : IsL b (msk ms h') d v := i.mono fun _ _ e => x.mono bm e
theorem IsK.ext {b : Nat} {h h' : Hh} {ms : List Nat} {d : List (Key × D)} {v : List (Key × Val)} (i : IsK b (msk ms h) d v) (x : Ext b h h') (bm : b ∈ ms) : IsK b (msk ms h') d v := i.mono fun _ _ e => x.mono bm e
/-- a value in an expression: perhaps a list under construction, looked at -/
def IsO (b : Nat) (ms : List Nat) (h : Hh) : D → Val → Prop
  | .own ds, v => ∃ n xs, v = .loc n ∧ n ≠ b ∧ h[n]? = some (.lst xs) ∧ IsL b (msk ms h) ds xs
  | .ownd ds, v => ∃ n xs, v = .loc n ∧ n ≠ b ∧ h[n]? = some (.dct xs) ∧ IsK b (msk ms h) ds xs
  | d, v => Is b (msk ms h) d v
theorem IsO.of {b : Nat} {ms : List Nat} {h : Hh} {d : D} {v : Val} (i : Is b (msk ms h) d v) : IsO b ms h d v := by
  cases d with
  | own ds => exact i.elim
  | ownd ds => exact i.elim
  | _ => exact i
theorem IsO.is {b : Nat} {ms : List Nat} {h : Hh} {d : D} {v : Val} (i : IsO b ms h d v) (n : d.isOwn = false) : Is b (msk ms h) d v := by
  cases d with
  | own ds => cases n
  | ownd ds => cases n
  | _ => exact i
theorem IsO.ext {b : Nat} {h h' : Hh} {ms : List Nat} {d : D} {v : Val} (i : IsO b ms h d v) (x : Ext b h h') (bm : b ∈ ms) : IsO b ms h' d v := by
  cases d with
  | own ds => obtain ⟨n, xs, e, nb, g, r⟩ := i; exact ⟨n, xs, e, nb, by rw [x.at_ n (List.getElem?_eq_some_iff.mp g).1 nb]; exact g, r.ext x bm⟩
  | ownd ds => obtain ⟨n, xs, e, nb, g, r⟩ := i; exact ⟨n, xs, e, nb, by rw [x.at_ n (List.getElem?_eq_some_iff.mp g).1 nb]; exact g, r.ext x bm⟩
  | _ => exact Is.ext i x bm
/-! ### draws -/
inductive Dr (α : Type) where
  | ret (a : α)
  | draw (m : Int) (k : Int → Dr α)
  | stuck
def Dr.bind {α β : Type} : Dr α → (α → Dr β) → Dr β
  | .ret a, f => f a
  | .draw m k, f => .draw m fun r => (k r).bind f
  | .stuck, _ => .stuck
@[simp] theorem Dr.bind_ret {α β : Type} (a : α) (f : α → Dr β) : (Dr.ret a).bind f = f a := rfl
@[simp] theorem Dr.bind_draw {α β : Type} (m : Int) (k : Int → Dr α) (f : α → Dr β) : (Dr.draw m k).bind f = .draw m fun r => (k r).bind f := rfl
@[simp] theorem Dr.bind_stuck {α β : Type} (f : α → Dr β) : (Dr.stuck : Dr α).bind f = .stuck := rfl
theorem Dr.bind_assoc {α β γ : Type} (f : α → Dr β) (k : β → Dr γ) : ∀ t : Dr α, (t.bind f).bind k = t.bind fun a => (f a).bind k
  | .ret a => rfl
  | .draw m q => by
    simp only [Dr.bind_draw]
    congr 1
    funext r
    exact Dr.bind_assoc f k (q r)
  | .stuck => rfl
def Safe {α : Type} : Dr α → Nat → (α → Nat → Prop) → Prop
  | .ret a, N, P => P a N
  | .draw m k, N, P => 0 < m ∧ m.natAbs.log2 < 9000 ∧ ∃ N', N = N' + 1 ∧ ∀ r, 0 ≤ r → r < m → Safe (k r) N' P
  | .stuck, _, _ => False
theorem Safe.bind {α β : Type} {f : α → Dr β} {P : β → Nat → Prop} : ∀ {t : Dr α} {N : Nat}, Safe (t.bind f) N P ↔ Safe t N fun a N' => Safe (f a) N' P
  | .ret a, N => Iff.rfl
  | .draw m k, N => by
    simp only [Dr.bind_draw, Safe]
    constructor
    · rintro ⟨a, c, N', e, h⟩; exact ⟨a, c, N', e, fun r h0 h1 => (Safe.bind (t := k r)).mp (h r h0 h1)⟩
    · rintro ⟨a, c, N', e, h⟩; exact ⟨a, c, N', e, fun r h0 h1 => (Safe.bind (t := k r)).mpr (h r h0 h1)⟩
  | .stuck, N => Iff.rfl
theorem Safe.imp {α : Type} {P Q : α → Nat → Prop} (h : ∀ a N, P a N → Q a N) : ∀ {t : Dr α} {N : Nat}, Safe t N P → Safe t N Q
  | .ret a, N, s => h a N s
  | .draw m k, N, ⟨a, c, N', e, s⟩ => ⟨a, c, N', e, fun r h0 h1 => (s r h0 h1).imp h⟩
  | .stuck, N, s => s.elim
/-- outcomes -/
inductive Ot (α : Type) where
  | ok (a : α)
  | exc (c : Str) (fs : List (Str × D))
abbrev M (α : Type) := Dr (Ot α)
def M.bind {α β : Type} (t : M α) (f : α → M β) : M β := Dr.bind t fun o => match o with
  | .ok a => f a
  | .exc c fs => .ret (.exc c fs)
abbrev M.ok {α : Type} (a : α) : M α := .ret (.ok a)
@[simp] theorem M.bind_ok {α β : Type} (a : α) (f : α → M β) : M.bind (.ret (.ok a)) f = f a := rfl
@[simp] theorem M.bind_exc {α β : Type} (c : Str) (fs : List (Str × D)) (f : α → M β) : M.bind (.ret (.exc c fs)) f = .ret (.exc c fs) := rfl
@[simp] theorem M.bind_draw {α β : Type} (m : Int) (k : Int → M α) (f : α → M β) : M.bind (.draw m k) f = .draw m fun r => M.bind (k r) f := rfl
@[simp] theorem M.bind_stuck {α β : Type} (f : α → M β) : M.bind (.stuck) f = .stuck := rfl
/-- an optional result: none is stuck -/
def M.of {α : Type} : Option α → M α
  | some a => .ret (.ok a)
  | none => .stuck
@[simp] theorem M.of_some {α : Type} (a : α) : M.of (some a) = .ret (.ok a) := rfl
@[simp] theorem M.of_none {α : Type} : M.of (none : Option α) = .stuck := rfl
def IsF (b : Nat) (g : Nat → Option Ob) : List (Str × D) → List (Str × Val) → Prop := Paired fun p q => p.1 = q.1 ∧ Is b g p.2 q.2
theorem IsF.mono {b : Nat} {g g' : Nat → Option Ob} {fs : List (Str × D)} {vs : List (Str × Val)} (hm : ∀ (n : Nat) (o : Ob), g n = some o → g' n = some o) (h : IsF b g fs vs) : IsF b g' fs vs := Paired.mapP h fun _ _ z => ⟨z.1, z.2.mono hm⟩
abbrev Rl (α β : Type) := Nat → List Nat → Hh → α → β → Prop
section
variable {α β α' β' : Type}
/-- the run r does what the tree t tells -/
def Go (R : Rl α β) (b : Nat) (ms : List Nat) (h : Hh) (N : Nat) (t : M α) (r : Res β) : Prop := ∀ P, Safe t N P → ∃ o N', P o N' ∧ (match o with
  | .ok a => ∃ v h', r = .ok v h' ∧ Ev b ms N' h' ∧ Ext b h h' ∧ R b ms h' a v
  | .exc c fs => ∃ vs h', r = .exc c vs h' ∧ Ev b ms N' h' ∧ Ext b h h' ∧ IsF b (msk ms h') fs vs)
theorem Go.ret {R : Rl α β} {b : Nat} {ms : List Nat} {h : Hh} {N : Nat} {a : α} {v : β} (E : Ev b ms N h) (r : R b ms h a v) : Go R b ms h N (.ret (.ok a)) (.ok v h) :=
  fun P s => ⟨.ok a, N, s, v, h, rfl, E, Ext.refl _ _, r⟩
theorem Go.ret' {R : Rl α β} {b : Nat} {ms : List Nat} {h h' : Hh} {N : Nat} {a : α} {v : β} (E : Ev b ms N h') (x : Ext b h h') (r : R b ms h' a v) : Go R b ms h N (.ret (.ok a)) (.ok v h') :=
  fun P s => ⟨.ok a, N, s, v, h', rfl, E, x, r⟩
theorem Go.stuck {R : Rl α β} {b : Nat} {ms : List Nat} {h : Hh} {N : Nat} {r : Res β} : Go R b ms h N .stuck r := fun P s => s.elim
theorem Go.bind {R : Rl α β} {R' : Rl α' β'} {b : Nat} {ms : List Nat} {h : Hh} {N : Nat} {t : M α} {r : Res β} {k : α → M α'} {f : β → Hh → Res β'} (g : Go R b ms h N t r)
    (n : ∀ a v h' N', Ev b ms N' h' → Ext b h h' → R b ms h' a v → Go R' b ms h' N' (k a) (f v h')) : Go R' b ms h N (t.bind k) (r.bind f) := fun P s => by
  obtain ⟨o, N', p, q⟩ := g _ (Safe.bind.mp s)
  cases o with
  | ok a =>
    obtain ⟨v, h', rfl, E, x, rr⟩ := q
    obtain ⟨o2, N2, p2, q2⟩ := n a v h' N' E x rr P p
    refine ⟨o2, N2, p2, ?_⟩
    cases o2 with
    | ok a2 => obtain ⟨v2, h2, e2, E2, x2, r2⟩ := q2; exact ⟨v2, h2, e2, E2, x.trans x2, r2⟩
    | exc c fs => obtain ⟨v2, h2, e2, E2, x2, r2⟩ := q2; exact ⟨v2, h2, e2, E2, x.trans x2, r2⟩
  | exc c fs =>
    obtain ⟨vs, h', rfl, E, x, rf⟩ := q
    exact ⟨.exc c fs, N', p, vs, h', rfl, E, x, rf⟩
theorem Go.ext {R : Rl α β} {b : Nat} {ms : List Nat} {h h1 : Hh} {N : Nat} {t : M α} {r : Res β} (x : Ext b h h1) (g : Go R b ms h1 N t r) : Go R b ms h N t r := fun P s => by
  obtain ⟨o, N', p, q⟩ := g P s
  refine ⟨o, N', p, ?_⟩
  cases o with
  | ok a2 => obtain ⟨v2, h2, e2, E2, x2, r2⟩ := q; exact ⟨v2, h2, e2, E2, x.trans x2, r2⟩
  | exc c fs => obtain ⟨v2, h2, e2, E2, x2, r2⟩ := q; exact ⟨v2, h2, e2, E2, x.trans x2, r2⟩
theorem Go.imp {R R' : Rl α β} {b : Nat} {ms : List Nat} {h : Hh} {N : Nat} {t : M α} {r : Res β} (g : Go R b ms h N t r) (n : ∀ a v h', Ext b h h' → R b ms h' a v → R' b ms h' a v) : Go R' b ms h N t r := fun P s => by
  obtain ⟨o, N', p, q⟩ := g P s
  refine ⟨o, N', p, ?_⟩
  cases o with
  | ok a2 => obtain ⟨v2, h2, e2, E2, x2, r2⟩ := q; exact ⟨v2, h2, e2, E2, x2, n _ _ _ x2 r2⟩
  | exc c fs => exact q
end
/-! ### environments -/
abbrev PEn := List (Option D)
/-- in an except suite: the exception's class, its fields -/
abbrev Kx := Str × List (Str × Val)
abbrev PKx := Str × List (Str × D)
structure Env (b : Nat) (ms : List Nat) (h : Hh) (q : PKx) (p : PEn) (k : Kx) (e : En) : Prop where
  len : p.length = e.length
  at_ : ∀ (i : Nat) (d : D), p[i]? = some (some d) → ∃ v, e[i]? = some (some v) ∧ IsO b ms h d v
  own : ∀ (i : Nat) (d : D), p[i]? = some (some d) → d.isOwn = true → ∃ n, e[i]? = some (some (.loc n)) ∧ n ∈ ms
  sep : ∀ (i j n : Nat) (d d' : D), i ≠ j → p[i]? = some (some d) → d.isOwn = true → p[j]? = some (some d') → d'.isOwn = true → e[i]? = some (some (.loc n)) → e[j]? = some (some (.loc n)) → False
  kc : q.1 = k.1
  kf : IsF b (msk ms h) q.2 k.2
theorem Env.ext {b : Nat} {ms : List Nat} {h h' : Hh} {q : PKx} {p : PEn} {k : Kx} {e : En} (E : Env b ms h q p k e) (x : Ext b h h') (bm : b ∈ ms) : Env b ms h' q p k e :=
  ⟨E.len, fun i d q => let ⟨v, e1, r⟩ := E.at_ i d q; ⟨v, e1, r.ext x bm⟩, E.own, E.sep, E.kc, E.kf.mono fun _ _ z => x.mono bm z⟩
theorem Env.set {b : Nat} {ms : List Nat} {h : Hh} {q : PKx} {p : PEn} {k : Kx} {e : En} (E : Env b ms h q p k e) (i : Nat) {d : D} {v : Val} (r : Is b (msk ms h) d v) : Env b ms h q (p.set i (some d)) k (e.set i (some v)) := by
  have no := r.noOwn
  have key : ∀ (j : Nat) (d' : D), (p.set i (some d))[j]? = some (some d') → d'.isOwn = true → i ≠ j ∧ p[j]? = some (some d') := fun j d' e1 ho => by
    by_cases hj : i = j
    · subst hj
      have hl : i < p.length := by
        have := (List.getElem?_eq_some_iff.mp e1).1
        rwa [List.length_set] at this
      rw [List.getElem?_set_self hl] at e1
      cases e1
      rw [no] at ho; cases ho
    · rw [List.getElem?_set_ne hj] at e1
      exact ⟨hj, e1⟩
  refine ⟨by rw [List.length_set, List.length_set, E.len], fun j d' e1 => ?_, fun j d' e1 ho => ?_, fun j l n d1 d2 hjl e1 o1 e2 o2 e3 e4 => ?_, E.kc, E.kf⟩
  · by_cases hj : i = j
    · subst hj
      have hl : i < p.length := by
        have := (List.getElem?_eq_some_iff.mp e1).1
        rwa [List.length_set] at this
      rw [List.getElem?_set_self hl] at e1
      cases e1
      exact ⟨v, List.getElem?_set_self (by rw [← E.len]; exact hl), IsO.of r⟩
    · rw [List.getElem?_set_ne hj] at e1 ⊢
      exact E.at_ j d' e1
  · obtain ⟨hj, e2⟩ := key j d' e1 ho
    rw [List.getElem?_set_ne hj]
    exact E.own j d' e2 ho
  · obtain ⟨h1, f1⟩ := key j d1 e1 o1
    obtain ⟨h2, f2⟩ := key l d2 e2 o2
    rw [List.getElem?_set_ne h1] at e3
    rw [List.getElem?_set_ne h2] at e4
    exact E.sep j l n d1 d2 hjl f1 o1 f2 o2 e3 e4
theorem Env.unset {b : Nat} {ms : List Nat} {h : Hh} {q : PKx} {p : PEn} {k : Kx} {e : En} (E : Env b ms h q p k e) (i : Nat) (z : Option Val) : Env b ms h q (p.set i none) k (e.set i z) := by
  have key : ∀ (j : Nat) (d' : D), (p.set i none)[j]? = some (some d') → i ≠ j ∧ p[j]? = some (some d') := fun j d' e1 => by
    by_cases hj : i = j
    · subst hj
      have hl : i < p.length := by
        have := (List.getElem?_eq_some_iff.mp e1).1
        rwa [List.length_set] at this
      rw [List.getElem?_set_self hl] at e1
      cases e1
    · rw [List.getElem?_set_ne hj] at e1
      exact ⟨hj, e1⟩
  refine ⟨by rw [List.length_set, List.length_set, E.len], fun j d' e1 => ?_, fun j d' e1 ho => ?_, fun j l n d1 d2 hjl e1 o1 e2 o2 e3 e4 => ?_, E.kc, E.kf⟩
  · obtain ⟨hj, e2⟩ := key j d' e1
    rw [List.getElem?_set_ne hj]
    exact E.at_ j d' e2
  · obtain ⟨hj, e2⟩ := key j d' e1
    rw [List.getElem?_set_ne hj]
    exact E.own j d' e2 ho
  · obtain ⟨h1, f1⟩ := key j d1 e1
    obtain ⟨h2, f2⟩ := key l d2 e2
    rw [List.getElem?_set_ne h1] at e3
    rw [List.getElem?_set_ne h2] at e4
    exact E.sep j l n d1 d2 hjl f1 o1 f2 o2 e3 e4
def pwipe (p : PEn) : List Nat → PEn
  | [] => p
  | v :: vs => (pwipe p vs).set v none
theorem Env.wipe {b : Nat} {ms : List Nat} {h : Hh} {q : PKx} {p : PEn} {k : Kx} {e : En} (E : Env b ms h q p k e) : ∀ vs : List Nat, Env b ms h q (pwipe p vs) k (wipeE e vs)
  | [] => E
  | v :: vs => (Env.wipe E vs).unset v none
mutual
def pput : Tg → D → PEn → Option PEn
  | .name i, d, p => some (p.set i (some d))
  | .tup ts, .tup ds, p => pputL ts ds p
  | .tup _, _, _ => none
def pputL : List Tg → List D → PEn → Option PEn
  | [], [], p => some p
  | t :: ts, d :: ds, p => (pput t d p).bind fun p1 => pputL ts ds p1
  | _, _, _ => none
end
mutual
theorem Env.put {b : Nat} {ms : List Nat} {h : Hh} {q : PKx} {k : Kx} : ∀ {t : Tg} {d : D} {v : Val} {p p1 : PEn} {e : En}, Env b ms h q p k e → Is b (msk ms h) d v → pput t d p = some p1 → ∃ e1, t.put v e = some e1 ∧ Env b ms h q p1 k e1
  | .name i, d, v, p, p1, e, E, r, z => by
    simp only [pput, Option.some.injEq] at z
    subst z
    exact ⟨_, rfl, E.set i r⟩
  | .tup ts, .tup ds, v, p, p1, e, E, r, z => by
    obtain ⟨xs, rfl, r⟩ := r
    simp only [pput] at z
    obtain ⟨e1, w, E1⟩ := Env.putL E r z
    exact ⟨e1, by simpa only [Tg.put] using w, E1⟩
  | .tup ts, .non, v, p, p1, e, E, r, z => by simp [pput] at z
  | .tup ts, .bl _, v, p, p1, e, E, r, z => by simp [pput] at z
  | .tup ts, .int _, v, p, p1, e, E, r, z => by simp [pput] at z
  | .tup ts, .str _, v, p, p1, e, E, r, z => by simp [pput] at z
  | .tup ts, .ty _, v, p, p1, e, E, r, z => by simp [pput] at z
  | .tup ts, .ref _, v, p, p1, e, E, r, z => by simp [pput] at z
  | .tup ts, .lst _ _, v, p, p1, e, E, r, z => by simp [pput] at z
  | .tup ts, .dct _ _, v, p, p1, e, E, r, z => by simp [pput] at z
  | .tup ts, .scr _, v, p, p1, e, E, r, z => by simp [pput] at z
  | .tup ts, .own _, v, p, p1, e, E, r, z => by simp [pput] at z
  | .tup ts, .ownd _, v, p, p1, e, E, r, z => by simp [pput] at z
  | .tup ts, .box, v, p, p1, e, E, r, z => by simp [pput] at z
theorem Env.putL {b : Nat} {ms : List Nat} {h : Hh} {q : PKx} {k : Kx} : ∀ {ts : List Tg} {ds : List D} {vs : List Val} {p p1 : PEn} {e : En}, Env b ms h q p k e → IsL b (msk ms h) ds vs → pputL ts ds p = some p1 → ∃ e1, putL ts vs e = some e1 ∧ Env b ms h q p1 k e1
  | [], [], vs, p, p1, e, E, r, z => by
    cases (show _ = _ from r)
    simp only [pputL, Option.some.injEq] at z
    subst z
    exact ⟨e, by simp only [EX.putL], E⟩
  | t :: ts, d :: ds, vs, p, p1, e, E, ⟨x, r, ev, ix, ir⟩, z => by
    subst ev
    simp only [pputL] at z
    obtain ⟨p2, z1, z2⟩ := Option.bind_eq_some_iff.mp z
    obtain ⟨e2, w1, E2⟩ := Env.put E ix z1
    obtain ⟨e1, w2, E1⟩ := Env.putL E2 ir z2
    exact ⟨e1, by simp only [EX.putL, w1, Option.bind_some, w2], E1⟩
  | [], _ :: _, vs, p, p1, e, E, r, z => by simp [pputL] at z
  | _ :: _, [], vs, p, p1, e, E, r, z => by simp [pputL] at z
end
def Sim {α β : Type} (R : Rl α β) (x : Kx → En → Hh → Res β) (t : PKx → PEn → M α) : Prop := ∀ b ms N q p k e h, Ev b ms N h → Env b ms h q p k e → Go R b ms h N (t q p) (x k e h)
def RL : Rl (List D) (List Val) := fun b ms h ds xs => Paired (IsO b ms h) ds xs
def RB : Rl Bool Bool := fun _ _ _ a v => a = v
/-- an expression: its run, its pure reading -/
structure BE where
  c : Kx → XE
  p : PKx → PEn → M D
  ok : Sim IsO c p
structure BA where
  c : Kx → XA
  p : PKx → PEn → M (List D)
  ok : Sim RL c p
structure BT where
  c : Kx → XT
  p : PKx → PEn → M Bool
  ok : Sim RB c p
end PL

set_option Elab.async false
set_option linter.all false
set_option maxRecDepth 100000
set_option maxHeartbeats 4000000
namespace PL
open PySem L2 EX
variable {b : Nat} {ms : List Nat} {N : Nat} {h h' : Hh}
/-! ### operations, with their pure readings -/
structure O1 where
  c : Op1
  p : D → Option D
  ok : ∀ {b ms N h a v d}, Ev b ms N h → IsO b ms h a v → p a = some d → ∃ u h', c v h = some (u, h') ∧ Ev b ms N h' ∧ Ext b h h' ∧ Is b (msk ms h') d u
structure O2 where
  c : Op2
  p : D → D → Option D
  ok : ∀ {b ms N h a v a' v' d}, Ev b ms N h → IsO b ms h a v → IsO b ms h a' v' → p a a' = some d → ∃ u h', c v v' h = some (u, h') ∧ Ev b ms N h' ∧ Ext b h h' ∧ Is b (msk ms h') d u
structure ON where
  c : OpN
  p : List D → Option D
  ok : ∀ {b ms N h as vs d}, Ev b ms N h → RL b ms h as vs → p as = some d → ∃ u h', c vs h = some (u, h') ∧ Ev b ms N h' ∧ Ext b h h' ∧ Is b (msk ms h') d u
structure OM where
  c : OpM
  p : D → List D → Option D
  ok : ∀ {b ms N h a v as vs d}, Ev b ms N h → IsO b ms h a v → RL b ms h as vs → p a as = some d → ∃ u h', c v vs h = some (u, h') ∧ Ev b ms N h' ∧ Ext b h h' ∧ Is b (msk ms h') d u
structure OL where
  c : OpS
  p : D → Option Int → Option Int → Option D
  ok : ∀ {b ms N h a v lo hi d}, Ev b ms N h → IsO b ms h a v → p a lo hi = some d → ∃ u h', c v lo hi h = some (u, h') ∧ Ev b ms N h' ∧ Ext b h h' ∧ Is b (msk ms h') d u
theorem RL.ext {ds : List D} {vs : List Val} (r : RL b ms h ds vs) (x : Ext b h h') (bm : b ∈ ms) : RL b ms h' ds vs := Paired.mapP r fun _ _ i => i.ext x bm
theorem RL.len {ds : List D} {vs : List Val} (r : RL b ms h ds vs) : ds.length = vs.length := Paired.length r
/-- no list under construction is among them -/
def calm (ds : List D) : Bool := ds.all fun d => !d.isOwn
theorem RL.isL : ∀ {ds : List D} {vs : List Val}, RL b ms h ds vs → calm ds = true → IsL b (msk ms h) ds vs
  | _, _, .nil, _ => rfl
  | _, _, .cons a r, c => by
    simp only [calm, List.all_cons, Bool.and_eq_true, Bool.not_eq_true'] at c
    exact ⟨_, _, rfl, a.is c.1, RL.isL r (by simpa only [calm] using c.2)⟩
theorem IsL.rl : ∀ {ds : List D} {vs : List Val}, IsL b (msk ms h) ds vs → RL b ms h ds vs
  | [], _, e => by cases (show _ = _ from e); exact .nil
  | _ :: _, _, ⟨x, r, e, a, c⟩ => by subst e; exact .cons (IsO.of a) (IsL.rl c)
/-! ### a new object -/
theorem getNew (h : Hh) (o : Ob) : (h ++ [o])[h.length]? = some o := by
  rw [List.getElem?_append_right (Nat.le_refl _), Nat.sub_self]; rfl
theorem Ext.new (b : Nat) (h : Hh) (o : Ob) : Ext b h (h ++ [o]) :=
  ⟨by rw [List.length_append]; omega, fun i hi _ => by rw [List.getElem?_append_left hi]⟩
mutual
theorem und_le {n m : Nat} (h : n ≤ m) : ∀ {v : Val}, v.und n = true → v.und m = true
  | .non, _ => rfl
  | .bl _, _ => rfl
  | .int _, _ => rfl
  | .str _, _ => rfl
  | .ref _, _ => rfl
  | .ty _, _ => rfl
  | .tup xs, e => by
    have e : undL n xs = true := by simpa [Val.und] using e
    simpa [Val.und] using undL_le h e
  | .scr xs, e => by
    have e : undL n xs = true := by simpa [Val.und] using e
    simpa [Val.und] using undL_le h e
  | .loc k, e => by
    have e : k < n := by simpa [Val.und] using e
    have : k < m := by omega
    simpa [Val.und] using this
theorem undL_le {n m : Nat} (h : n ≤ m) : ∀ {xs : List Val}, undL n xs = true → undL m xs = true
  | [], _ => rfl
  | x :: xs, e => by
    simp only [undL, Bool.and_eq_true] at e ⊢
    exact ⟨und_le h e.1, undL_le h e.2⟩
end
theorem Ob.und_le {n m : Nat} (h : n ≤ m) {o : Ob} (e : o.und n = true) : o.und m = true := by
  cases o with
  | lst xs => exact undL_le h e
  | dct kvs => exact undL_le h e
  | ins C fs => exact undL_le h e
theorem undL_of {n : Nat} : ∀ {xs : List Val}, (∀ x ∈ xs, x.und n = true) → undL n xs = true
  | [], _ => rfl
  | x :: xs, h => by
    simp only [undL, Bool.and_eq_true]
    exact ⟨h x (.head _), undL_of fun y m => h y (.tail _ m)⟩
theorem of_undL {n : Nat} : ∀ {xs : List Val}, undL n xs = true → ∀ x ∈ xs, x.und n = true
  | [], _, _, m => nomatch m
  | x :: xs, h, y, m => by
    simp only [undL, Bool.and_eq_true] at h
    rcases List.mem_cons.mp m with rfl | m
    · exact h.1
    · exact of_undL h.2 y m
theorem Cl.app {h : Hh} {o : Ob} (c : Cl h) (ho : o.und (h.length + 1) = true) : Cl (h ++ [o]) := by
  unfold Cl at c ⊢
  rw [List.all_append, List.length_append, List.length_singleton]
  rw [List.all_eq_true] at c
  rw [Bool.and_eq_true, List.all_eq_true]
  exact ⟨fun x m => Ob.und_le (Nat.le_succ _) (c x m), by simpa using ho⟩
theorem Cl.put {h : Hh} (c : Cl h) (n : Nat) {o : Ob} (ho : o.und h.length = true) : Cl (h.set n o) := by
  unfold Cl at c ⊢
  rw [List.length_set]
  rw [List.all_eq_true] at c ⊢
  intro x m
  rcases List.mem_or_eq_of_mem_set m with m | m
  · exact c x m
  · rw [m]; exact ho
theorem Cl.get {h : Hh} (c : Cl h) {n : Nat} {o : Ob} (e : h[n]? = some o) : o.und h.length = true := List.all_eq_true.mp c o (List.mem_of_getElem? e)
/-- the locs of g are below n -/
def Bel (g : Nat → Option Ob) (n : Nat) : Prop := ∀ i o, g i = some o → i < n
theorem bel_msk (ms : List Nat) (h : Hh) : Bel (msk ms h) h.length := fun i o e => (List.getElem?_eq_some_iff.mp (msk_some.mp e).2).1
mutual
theorem Is.und {g : Nat → Option Ob} {n : Nat} (hb : b < n) (hg : Bel g n) : ∀ {d : D} {v : Val}, Is b g d v → v.und n = true
  | .non, _, e => by cases (show _ = _ from e); rfl
  | .bl _, _, e => by cases (show _ = _ from e); rfl
  | .int _, _, e => by cases (show _ = _ from e); rfl
  | .str _, _, e => by cases (show _ = _ from e); rfl
  | .ty _, _, e => by cases (show _ = _ from e); rfl
  | .ref _, _, e => by cases (show _ = _ from e); rfl
  | .box, _, e => by cases (show _ = _ from e); simpa [Val.und] using hb
  | .tup _, _, ⟨xs, e, r⟩ => by subst e; simpa [Val.und] using IsL.und hb hg r
  | .scr _, _, ⟨xs, e, r⟩ => by subst e; simpa [Val.und] using IsL.und hb hg r
  | .lst _ _, _, ⟨n, xs, e, _, q, r⟩ => by subst e; simpa [Val.und] using hg _ _ q
  | .dct _ _, _, ⟨n, xs, e, _, q, r⟩ => by subst e; simpa [Val.und] using hg _ _ q
theorem IsL.und {g : Nat → Option Ob} {n : Nat} (hb : b < n) (hg : Bel g n) : ∀ {ds : List D} {xs : List Val}, IsL b g ds xs → undL n xs = true
  | [], _, e => by cases (show _ = _ from e); rfl
  | _ :: _, _, ⟨x, r, e, a, c⟩ => by
    subst e
    simp only [undL, Bool.and_eq_true]
    exact ⟨Is.und hb hg a, IsL.und hb hg c⟩
end
theorem IsK.und {g : Nat → Option Ob} {n : Nat} (hb : b < n) (hg : Bel g n) : ∀ {ds : List (Key × D)} {xs : List (Key × Val)}, IsK b g ds xs → undL n (xs.map (·.2)) = true
  | [], _, e => by cases (show _ = _ from e); rfl
  | (_, _) :: _, _, ⟨x, r, e, a, c⟩ => by
    subst e
    simp only [List.map_cons, undL, Bool.and_eq_true]
    exact ⟨Is.und hb hg a, IsK.und hb hg c⟩
theorem Ev.hb (E : Ev b ms N h) : b < h.length := E.lt b E.bm
theorem Ev.new (E : Ev b ms N h) {o : Ob} (ho : o.und (h.length + 1) = true) : Ev b ms N (h ++ [o]) := by
  refine ⟨E.cl.app ho, ?_, E.bm, fun m hm => by rw [List.length_append]; have := E.lt m hm; omega⟩
  obtain ⟨s, e, g⟩ := E.bx
  exact ⟨s, by rw [List.getElem?_append_left E.hb]; exact e, g⟩
theorem IsL.undE {ds : List D} {xs : List Val} (i : IsL b (msk ms h) ds xs) (E : Ev b ms N h) : undL h.length xs = true := i.und E.hb (bel_msk ms h)
/-- a new list -/
theorem new_lst {ds : List D} {xs : List Val} (E : Ev b ms N h) (i : IsL b (msk ms h) ds xs) : Ev b ms N (h ++ [.lst xs]) ∧ Ext b h (h ++ [.lst xs]) ∧ Is b (msk ms (h ++ [.lst xs])) (.lst none ds) (.loc h.length) := by
  have x := Ext.new b h (.lst xs)
  refine ⟨E.new (undL_le (Nat.le_succ _) (i.undE E)), x, h.length, xs, rfl, TagOk.none _, msk_some.mpr ⟨fun m => Nat.lt_irrefl _ (E.lt _ m), getNew _ _⟩, i.ext x E.bm⟩
/-! ### expressions -/
theorem go_op {r : Option (Val × Hh)} {o : Option D} {d : D} (ho : ∀ d, o = some d → ∃ u h', r = some (u, h') ∧ Ev b ms N h' ∧ Ext b h h' ∧ Is b (msk ms h') d u) : Go IsO b ms h N (M.of o) (Res.of r) := by
  cases o with
  | none => exact Go.stuck
  | some d =>
    obtain ⟨u, h', e, E, x, i⟩ := ho d rfl
    subst e
    exact Go.ret' E x (IsO.of i)
def bVar (i : Nat) : BE where
  c := fun _ => xVar i
  p := fun _ p => match p[i]? with
    | some (some d) => .ret (.ok d)
    | _ => .stuck
  ok := fun b ms N q p k e h E V => by
    cases hp : p[i]? with
    | none => simp only [hp]; exact Go.stuck
    | some z =>
      cases z with
      | none => simp only [hp]; exact Go.stuck
      | some d =>
        obtain ⟨v, e1, r⟩ := V.at_ i d hp
        simp only [xVar, e1, hp]
        exact Go.ret E r
mutual
def cv : D → Option Val
  | .non => some .non
  | .bl b => some (.bl b)
  | .int i => some (.int i)
  | .str s => some (.str s)
  | .ty n => some (.ty n)
  | .ref x => some (.ref x)
  | .tup xs => (cvL xs).map .tup
  | _ => none
def cvL : List D → Option (List Val)
  | [] => some []
  | x :: xs => match cv x, cvL xs with
    | some v, some vs => some (v :: vs)
    | _, _ => none
end
mutual
theorem cv_is {g : Nat → Option Ob} : ∀ {d : D} {v : Val}, cv d = some v → Is b g d v
  | .non, _, e => by simp only [cv, Option.some.injEq] at e; exact e.symm
  | .bl _, _, e => by simp only [cv, Option.some.injEq] at e; exact e.symm
  | .int _, _, e => by simp only [cv, Option.some.injEq] at e; exact e.symm
  | .str _, _, e => by simp only [cv, Option.some.injEq] at e; exact e.symm
  | .ty _, _, e => by simp only [cv, Option.some.injEq] at e; exact e.symm
  | .ref _, _, e => by simp only [cv, Option.some.injEq] at e; exact e.symm
  | .tup xs, _, e => by
    simp only [cv] at e
    obtain ⟨vs, e1, e2⟩ := Option.map_eq_some_iff.mp e
    exact ⟨vs, e2.symm, cvL_is e1⟩
  | .lst _ _, _, e => by simp [cv] at e
  | .dct _ _, _, e => by simp [cv] at e
  | .scr _, _, e => by simp [cv] at e
  | .own _, _, e => by simp [cv] at e
  | .ownd _, _, e => by simp [cv] at e
  | .box, _, e => by simp [cv] at e
theorem cvL_is {g : Nat → Option Ob} : ∀ {ds : List D} {vs : List Val}, cvL ds = some vs → IsL b g ds vs
  | [], _, e => by simp only [cvL, Option.some.injEq] at e; exact e.symm
  | x :: xs, _, e => by
    simp only [cvL] at e
    split at e
    · rename_i v vs e1 e2
      cases e
      exact ⟨v, vs, rfl, cv_is e1, cvL_is e2⟩
    · cases e
end
mutual
def cvD : D → Val
  | .bl b => .bl b
  | .int i => .int i
  | .str s => .str s
  | .ty n => .ty n
  | .ref x => .ref x
  | .tup xs => .tup (cvDL xs)
  | _ => .non
def cvDL : List D → List Val
  | [] => []
  | x :: xs => cvD x :: cvDL xs
end
mutual
def isC : D → Bool
  | .non => true
  | .bl _ => true
  | .int _ => true
  | .str _ => true
  | .ty _ => true
  | .ref _ => true
  | .tup xs => isCL xs
  | _ => false
def isCL : List D → Bool
  | [] => true
  | x :: xs => isC x && isCL xs
end
mutual
theorem cvD_is {g : Nat → Option Ob} : ∀ {d : D}, isC d = true → Is b g d (cvD d)
  | .non, _ => by simp only [cvD]; rfl
  | .bl _, _ => by simp only [cvD]; rfl
  | .int _, _ => by simp only [cvD]; rfl
  | .str _, _ => by simp only [cvD]; rfl
  | .ty _, _ => by simp only [cvD]; rfl
  | .ref _, _ => by simp only [cvD]; rfl
  | .tup xs, e => by simp only [cvD]; exact ⟨_, rfl, cvDL_is (by simpa [isC] using e)⟩
  | .lst _ _, e => by simp [isC] at e
  | .dct _ _, e => by simp [isC] at e
  | .scr _, e => by simp [isC] at e
  | .own _, e => by simp [isC] at e
  | .ownd _, e => by simp [isC] at e
  | .box, e => by simp [isC] at e
theorem cvDL_is {g : Nat → Option Ob} : ∀ {ds : List D}, isCL ds = true → IsL b g ds (cvDL ds)
  | [], _ => by simp only [cvDL]; rfl
  | x :: xs, e => by
    simp only [isCL, Bool.and_eq_true] at e
    simp only [cvDL]
    exact ⟨_, _, rfl, cvD_is e.1, cvDL_is e.2⟩
end
/-- a constant -/
def bC (d : D) : BE where
  c := fun _ => xC (cvD d)
  p := fun _ _ => if isC d = true then .ret (.ok d) else .stuck
  ok := fun b ms N q p k e h E V => by
    dsimp only
    by_cases hc : isC d = true
    · rw [if_pos hc]; exact Go.ret E (IsO.of (cvD_is hc))
    · rw [if_neg hc]; exact Go.stuck
def bUn (o : O1) (x : BE) : BE where
  c := fun k => xUn o.c (x.c k)
  p := fun q p => (x.p q p).bind fun a => M.of (o.p a)
  ok := fun b ms N q p k e h E V => Go.bind (x.ok b ms N q p k e h E V) fun a v h1 N1 E1 x1 r1 => go_op (d := .non) fun d hd => o.ok E1 r1 hd
def bBin (o : O2) (x y : BE) : BE where
  c := fun k => xBin o.c (x.c k) (y.c k)
  p := fun q p => (x.p q p).bind fun a => (y.p q p).bind fun a' => M.of (o.p a a')
  ok := fun b ms N q p k e h E V => Go.bind (x.ok b ms N q p k e h E V) fun a v h1 N1 E1 x1 r1 => Go.bind (y.ok b ms N1 q p k e h1 E1 (V.ext x1 E.bm)) fun a' v' h2 N2 E2 x2 r2 =>
    go_op (d := .non) fun d hd => o.ok E2 (r1.ext x2 E.bm) r2 hd
def bNil : BA where
  c := fun _ => xNil
  p := fun _ _ => .ret (.ok [])
  ok := fun b ms N q p k e h E V => Go.ret E .nil
def bCons (x : BE) (y : BA) : BA where
  c := fun k => xCons (x.c k) (y.c k)
  p := fun q p => (x.p q p).bind fun a => (y.p q p).bind fun as => .ret (.ok (a :: as))
  ok := fun b ms N q p k e h E V => Go.bind (x.ok b ms N q p k e h E V) fun a v h1 N1 E1 x1 r1 => Go.bind (y.ok b ms N1 q p k e h1 E1 (V.ext x1 E.bm)) fun a' v' h2 N2 E2 x2 r2 =>
    Go.ret E2 (.cons (r1.ext x2 E.bm) r2)
def bCallN (o : ON) (y : BA) : BE where
  c := fun k => xCallN o.c (y.c k)
  p := fun q p => (y.p q p).bind fun as => M.of (o.p as)
  ok := fun b ms N q p k e h E V => Go.bind (y.ok b ms N q p k e h E V) fun a v h1 N1 E1 x1 r1 => go_op (d := .non) fun d hd => o.ok E1 r1 hd
def pTy (T : String) : D → Bool
  | .str _ => decide (T = "str")
  | .lst _ _ => decide (T = "list")
  | .own _ => decide (T = "list")
  | .dct _ _ => decide (T = "dict")
  | .ownd _ => decide (T = "dict")
  | _ => false
theorem pTy_ok {T : String} {a : D} {v : Val} (i : IsO b ms h a v) (ht : pTy T a = true) : isTy T v h = true := by
  cases a with
  | str s => cases (show _ = _ from i); exact ht
  | lst t xs => obtain ⟨n, vs, rfl, _, e, r⟩ := i; simp only [isTy, (msk_some.mp e).2]; exact ht
  | own xs => obtain ⟨n, vs, rfl, _, e, r⟩ := i; simp only [isTy, e]; exact ht
  | dct t xs => obtain ⟨n, vs, rfl, _, e, r⟩ := i; simp only [isTy, (msk_some.mp e).2]; exact ht
  | ownd xs => obtain ⟨n, vs, rfl, _, e, r⟩ := i; simp only [isTy, e]; exact ht
  | _ => cases ht
def bMeth (T : String) (o : OM) (x : BE) (y : BA) : BE where
  c := fun k => xMeth T o.c (x.c k) (y.c k)
  p := fun q p => (x.p q p).bind fun a => if pTy T a = true then (y.p q p).bind fun as => M.of (o.p a as) else .stuck
  ok := fun b ms N q p k e h E V => Go.bind (x.ok b ms N q p k e h E V) fun a v h1 N1 E1 x1 r1 => by
    by_cases ht : pTy T a = true
    · rw [if_pos ht, if_pos (pTy_ok r1 ht)]
      exact Go.bind (y.ok b ms N1 q p k e h1 E1 (V.ext x1 E.bm)) fun a' v' h2 N2 E2 x2 r2 => go_op (d := .non) fun d hd => o.ok E2 (r1.ext x2 E.bm) r2 hd
    · rw [if_neg ht]; exact Go.stuck
/-! ### slices -/
def pPart : Option BE → PKx → PEn → M (Option Int)
  | none, _, _ => .ret (.ok none)
  | some x, q, p => (x.p q p).bind fun d => match d with
    | .int i => .ret (.ok (some i))
    | _ => .stuck
def cPart : Option BE → Kx → Option XE
  | none, _ => none
  | some x, k => some (x.c k)
def RI : Rl (Option Int) (Option Int) := fun _ _ _ a v => a = v
theorem part_ok (x : Option BE) : Sim RI (fun k => xPart (cPart x k)) (pPart x) := fun b ms N q p k e h E V => by
  cases x with
  | none => exact Go.ret E rfl
  | some x =>
    refine Go.bind (x.ok b ms N q p k e h E V) fun a v h1 N1 E1 x1 r1 => ?_
    cases a with
    | int i => cases (show _ = _ from r1); exact Go.ret E1 rfl
    | _ => exact Go.stuck
def bSl (o : OL) (x : BE) (lo hi : Option BE) : BE where
  c := fun k => xSl o.c (x.c k) (cPart lo k) (cPart hi k)
  p := fun q p => (x.p q p).bind fun a => (pPart lo q p).bind fun l => (pPart hi q p).bind fun u => M.of (o.p a l u)
  ok := fun b ms N q p k e h E V => Go.bind (x.ok b ms N q p k e h E V) fun a v h1 N1 E1 x1 r1 => Go.bind (part_ok lo b ms N1 q p k e h1 E1 (V.ext x1 E.bm)) fun l l' h2 N2 E2 x2 r2 =>
    Go.bind (part_ok hi b ms N2 q p k e h2 E2 (V.ext (x1.trans x2) E.bm)) fun u u' h3 N3 E3 x3 r3 => by
      cases r2; cases r3
      exact go_op (d := .non) fun d hd => o.ok E3 (r1.ext (x2.trans x3) E.bm) hd
/-! ### truths -/
def bTest (x : BE) : BT where
  c := fun k => xTest (x.c k)
  p := fun q p => (x.p q p).bind fun d => match d with
    | .bl b => .ret (.ok b)
    | _ => .stuck
  ok := fun b ms N q p k e h E V => Go.bind (x.ok b ms N q p k e h E V) fun a v h1 N1 E1 x1 r1 => by
    cases a with
    | bl i => cases (show _ = _ from r1); exact Go.ret E1 rfl
    | _ => exact Go.stuck
def pTruth : D → Option Bool
  | .non => some false
  | .bl b => some b
  | .int i => some (i != 0)
  | .str y => if y.length ≤ sizeLine then some ((y.length : Int) != 0) else none
  | .tup xs => some (!xs.isEmpty)
  | .scr xs => some (!xs.isEmpty)
  | .lst _ xs => some (!xs.isEmpty)
  | .own xs => some (!xs.isEmpty)
  | .dct _ xs => some (!xs.isEmpty)
  | .ownd xs => some (!xs.isEmpty)
  | _ => none
theorem IsL.emp {g : Nat → Option Ob} {ds : List D} {xs : List Val} (i : IsL b g ds xs) : xs.isEmpty = ds.isEmpty := isEmpty_len i.len
theorem IsK.emp {g : Nat → Option Ob} {ds : List (Key × D)} {xs : List (Key × Val)} (i : IsK b g ds xs) : xs.isEmpty = ds.isEmpty := isEmpty_len i.len
theorem truth_ok {a : D} {v : Val} {c : Bool} (i : IsO b ms h a v) (ht : pTruth a = some c) : truth v h = some c := by
  cases a with
  | non => cases (show _ = _ from i); exact ht
  | bl _ => cases (show _ = _ from i); exact ht
  | int _ => cases (show _ = _ from i); exact ht
  | str _ => cases (show _ = _ from i); exact ht
  | tup xs => obtain ⟨vs, rfl, r⟩ := i; (simp only [truth, r.emp]; exact ht)
  | scr xs => obtain ⟨vs, rfl, r⟩ := i; (simp only [truth, r.emp]; exact ht)
  | lst t xs => obtain ⟨n, vs, rfl, _, e, r⟩ := i; (simp only [truth, (msk_some.mp e).2, r.emp]; exact ht)
  | own xs => obtain ⟨n, vs, rfl, _, e, r⟩ := i; (simp only [truth, e, r.emp]; exact ht)
  | dct t xs => obtain ⟨n, vs, rfl, _, e, r⟩ := i; (simp only [truth, (msk_some.mp e).2, r.emp]; exact ht)
  | ownd xs => obtain ⟨n, vs, rfl, _, e, r⟩ := i; (simp only [truth, e, r.emp]; exact ht)
  | _ => cases ht
def bTru (x : BE) : BT where
  c := fun k => xTru (x.c k)
  p := fun q p => (x.p q p).bind fun d => M.of (pTruth d)
  ok := fun b ms N q p k e h E V => Go.bind (x.ok b ms N q p k e h E V) fun a v h1 N1 E1 x1 r1 => by
    cases ht : pTruth a with
    | none => exact Go.stuck
    | some c => simp only [truth_ok r1 ht]; exact Go.ret E1 rfl
def bYes : BT where
  c := fun _ => xYes
  p := fun _ _ => .ret (.ok true)
  ok := fun b ms N q p k e h E V => Go.ret E rfl
def bAndT (x y : BT) : BT where
  c := fun k => xAndT (x.c k) (y.c k)
  p := fun q p => (x.p q p).bind fun c => if c = true then y.p q p else .ret (.ok false)
  ok := fun b ms N q p k e h E V => Go.bind (x.ok b ms N q p k e h E V) fun a v h1 N1 E1 x1 r1 => by
    cases r1
    cases a with
    | true => exact y.ok b ms N1 q p k e h1 E1 (V.ext x1 E.bm)
    | false => exact Go.ret E1 rfl
def bOrT (x y : BT) : BT where
  c := fun k => xOrT (x.c k) (y.c k)
  p := fun q p => (x.p q p).bind fun c => if c = true then .ret (.ok true) else y.p q p
  ok := fun b ms N q p k e h E V => Go.bind (x.ok b ms N q p k e h E V) fun a v h1 N1 E1 x1 r1 => by
    cases r1
    cases a with
    | false => exact y.ok b ms N1 q p k e h1 E1 (V.ext x1 E.bm)
    | true => exact Go.ret E1 rfl
def bNotT (x : BT) : BT where
  c := fun k => xNotT (x.c k)
  p := fun q p => (x.p q p).bind fun c => .ret (.ok (!c))
  ok := fun b ms N q p k e h E V => Go.bind (x.ok b ms N q p k e h E V) fun a v h1 N1 E1 x1 r1 => by
    cases r1
    exact Go.ret E1 rfl
def bAndV (x y : BE) : BE where
  c := fun k => xAndV (x.c k) (y.c k)
  p := fun q p => (x.p q p).bind fun d => match d with
    | .bl true => y.p q p
    | .bl false => .ret (.ok (.bl false))
    | _ => .stuck
  ok := fun b ms N q p k e h E V => Go.bind (x.ok b ms N q p k e h E V) fun a v h1 N1 E1 x1 r1 => by
    cases a with
    | bl c =>
      cases (show _ = _ from r1)
      cases c with
      | true => exact y.ok b ms N1 q p k e h1 E1 (V.ext x1 E.bm)
      | false => exact Go.ret E1 (show Is b (msk ms h1) (.bl false) _ from rfl)
    | _ => exact Go.stuck
def bOrV (x y : BE) : BE where
  c := fun k => xOrV (x.c k) (y.c k)
  p := fun q p => (x.p q p).bind fun d => match d with
    | .bl true => .ret (.ok (.bl true))
    | .bl false => y.p q p
    | _ => .stuck
  ok := fun b ms N q p k e h E V => Go.bind (x.ok b ms N q p k e h E V) fun a v h1 N1 E1 x1 r1 => by
    cases a with
    | bl c =>
      cases (show _ = _ from r1)
      cases c with
      | false => exact y.ok b ms N1 q p k e h1 E1 (V.ext x1 E.bm)
      | true => exact Go.ret E1 (show Is b (msk ms h1) (.bl true) _ from rfl)
    | _ => exact Go.stuck
def bNotV (x : BE) : BE where
  c := fun k => xNotV (x.c k)
  p := fun q p => (x.p q p).bind fun d => match d with
    | .bl c => .ret (.ok (.bl (!c)))
    | _ => .stuck
  ok := fun b ms N q p k e h E V => Go.bind (x.ok b ms N q p k e h E V) fun a v h1 N1 E1 x1 r1 => by
    cases a with
    | bl c => cases (show _ = _ from r1); exact Go.ret E1 (show Is b (msk ms h1) (.bl (!c)) _ from rfl)
    | _ => exact Go.stuck
def bIf (t : BT) (x y : BE) : BE where
  c := fun k => xIf (t.c k) (x.c k) (y.c k)
  p := fun q p => (t.p q p).bind fun c => if c = true then x.p q p else y.p q p
  ok := fun b ms N q p k e h E V => Go.bind (t.ok b ms N q p k e h E V) fun a v h1 N1 E1 x1 r1 => by
    cases r1
    cases a with
    | true => exact x.ok b ms N1 q p k e h1 E1 (V.ext x1 E.bm)
    | false => exact y.ok b ms N1 q p k e h1 E1 (V.ext x1 E.bm)
def bChain (o o' : O2) (x y z : BE) : BE where
  c := fun k => xChain o.c o'.c (x.c k) (y.c k) (z.c k)
  p := fun q p => (x.p q p).bind fun a => (y.p q p).bind fun a' => (M.of (o.p a a')).bind fun d => match d with
    | .bl true => (z.p q p).bind fun w => M.of (o'.p a' w)
    | .bl false => .ret (.ok (.bl false))
    | _ => .stuck
  ok := fun b ms N q p k e h E V => Go.bind (x.ok b ms N q p k e h E V) fun a v h1 N1 E1 x1 r1 => Go.bind (y.ok b ms N1 q p k e h1 E1 (V.ext x1 E.bm)) fun a' v' h2 N2 E2 x2 r2 =>
    Go.bind (R := IsO) (go_op (d := .non) fun d hd => o.ok E2 (r1.ext x2 E.bm) r2 hd) fun d u h3 N3 E3 x3 r3 => by
      cases d with
      | bl c =>
        cases (show _ = _ from r3)
        cases c with
        | true => exact Go.bind (z.ok b ms N3 q p k e h3 E3 (V.ext ((x1.trans x2).trans x3) E.bm)) fun w w' h4 N4 E4 x4 r4 => go_op (d := .non) fun d hd => o'.ok E4 (r2.ext (x3.trans x4) E.bm) r4 hd
        | false => exact Go.ret E3 (show Is b (msk ms h3) (.bl false) _ from rfl)
      | _ => exact Go.stuck
/-! ### displays -/
def bTup (y : BA) : BE where
  c := fun k => xTup (y.c k)
  p := fun q p => (y.p q p).bind fun as => if calm as = true ∧ as.length ≤ sizeLine then .ret (.ok (.tup as)) else .stuck
  ok := fun b ms N q p k e h E V => Go.bind (y.ok b ms N q p k e h E V) fun a v h1 N1 E1 x1 r1 => by
    by_cases hc : calm a = true ∧ a.length ≤ sizeLine
    · rw [if_pos hc, if_pos (by rw [← r1.len]; exact hc.2)]
      exact Go.ret E1 (show Is b (msk ms h1) (.tup a) _ from ⟨v, rfl, r1.isL hc.1⟩)
    · rw [if_neg hc]; exact Go.stuck
/-- a list display: new -/
def bLst (y : BA) : BE where
  c := fun k => xLst (y.c k)
  p := fun q p => (y.p q p).bind fun as => if calm as = true ∧ as.length ≤ sizeLine then .ret (.ok (.lst none as)) else .stuck
  ok := fun b ms N q p k e h E V => Go.bind (y.ok b ms N q p k e h E V) fun a v h1 N1 E1 x1 r1 => by
    by_cases hc : calm a = true ∧ a.length ≤ sizeLine
    · rw [if_pos hc, if_pos (by rw [← r1.len]; exact hc.2)]
      obtain ⟨E2, x2, i2⟩ := new_lst E1 (r1.isL hc.1)
      exact Go.ret' E2 x2 i2
    · rw [if_neg hc]; exact Go.stuck
/-! ### exceptions -/
def bFld (f : Str) : BE where
  c := fun k => xFld k.2 f
  p := fun q _ => M.of (q.2.lookup f)
  ok := fun b ms N q p k e h E V => by
    dsimp only
    cases hf : q.2.lookup f with
    | none => exact Go.stuck
    | some d =>
      have : ∀ {xs : List (Str × D)} {ys : List (Str × Val)}, IsF b (msk ms h) xs ys → xs.lookup f = some d → ∃ v, ys.lookup f = some v ∧ Is b (msk ms h) d v := fun {xs ys} r => by
        induction r with
        | nil => intro e; cases e
        | cons a r ih =>
          rename_i x y xs ys
          intro e
          obtain ⟨x1, x2⟩ := x
          obtain ⟨y1, y2⟩ := y
          obtain ⟨e1, i⟩ := a
          dsimp only at e1 i
          subst e1
          rw [List.lookup_cons] at e ⊢
          split at e
          · cases e; exact ⟨y2, rfl, i⟩
          · exact ih e
      obtain ⟨v, e1, i⟩ := this V.kf hf
      simp only [xFld, e1]
      exact Go.ret E (IsO.of i)
def bIsE (ct : Ct) (d : Str) : BE where
  c := fun k => xIsE ct k.1 d
  p := fun q _ => M.of ((subX ct q.1 d).map D.bl)
  ok := fun b ms N q p k e h E V => by
    dsimp only
    rw [V.kc]
    simp only [xIsE]
    cases subX ct k.1 d with
    | none => exact Go.stuck
    | some c => exact Go.ret E (show Is b (msk ms h) (.bl c) _ from rfl)
end PL

set_option Elab.async false
set_option linter.all false
set_option maxRecDepth 100000
set_option maxHeartbeats 4000000
namespace PL
open PySem L2 EX
variable {b : Nat} {ms : List Nat} {N : Nat} {h h' : Hh}
/-! ### masks -/
theorem msk_new {n : Nat} (x : Ext b h h') (bm : b ∈ ms) (hn : h.length ≤ n) {i : Nat} {o : Ob} (e : msk ms h i = some o) : msk (n :: ms) h' i = some o := by
  have e' := x.mono bm e
  have hi := (List.getElem?_eq_some_iff.mp (msk_some.mp e).2).1
  rw [msk_some] at e' ⊢
  refine ⟨fun m => ?_, e'.2⟩
  rcases List.mem_cons.mp m with rfl | m
  · omega
  · exact e'.1 m
theorem msk_less {ms' : List Nat} (hs : ∀ m ∈ ms', m ∈ ms) {i : Nat} {o : Ob} (e : msk ms h i = some o) : msk ms' h i = some o := by
  rw [msk_some] at e ⊢
  exact ⟨fun m => e.1 (hs i m), e.2⟩
theorem Ev.less {ms' : List Nat} (E : Ev b ms N h) (hs : ∀ m ∈ ms', m ∈ ms) (bm : b ∈ ms') : Ev b ms' N h := ⟨E.cl, E.bx, bm, fun m hm => E.lt m (hs m hm)⟩
theorem Ev.more (E : Ev b ms N h) {n : Nat} (hn : n < h.length) : Ev b (n :: ms) N h := ⟨E.cl, E.bx, .tail _ E.bm, fun m hm => (List.mem_cons.mp hm).elim (fun q => q ▸ hn) (E.lt m)⟩
theorem Env.newmask {n : Nat} {q : PKx} {p : PEn} {k : Kx} {e : En} (V : Env b ms h q p k e) (x : Ext b h h') (bm : b ∈ ms) (hn : h.length ≤ n) : Env b (n :: ms) h' q p k e := by
  refine ⟨V.len, fun i d z => ?_, fun i d z o => ?_, V.sep, V.kc, V.kf.mono fun _ _ z => msk_new x bm hn z⟩
  · obtain ⟨v, e1, r⟩ := V.at_ i d z
    refine ⟨v, e1, ?_⟩
    cases d with
    | own ds => obtain ⟨n, xs, e, nb, g, r⟩ := r; exact ⟨n, xs, e, nb, by rw [x.at_ n (List.getElem?_eq_some_iff.mp g).1 nb]; exact g, r.mono fun _ _ z => msk_new x bm hn z⟩
    | ownd ds => obtain ⟨n, xs, e, nb, g, r⟩ := r; exact ⟨n, xs, e, nb, by rw [x.at_ n (List.getElem?_eq_some_iff.mp g).1 nb]; exact g, r.mono fun _ _ z => msk_new x bm hn z⟩
    | _ => exact IsO.of (Is.mono (fun _ _ z => msk_new x bm hn z) r)
  · obtain ⟨n, e1, m⟩ := V.own i d z o
    exact ⟨n, e1, .tail _ m⟩
/-! ### what is walked -/
def RIt : Rl (List D) Itn := fun b ms h ds it => IsL b (msk ms h) ds it.xs ∧ ∀ n xs, it = .live n xs → n ≠ b ∧ h[n]? = some (.lst xs)
def RItF : Rl (List D) Itn := fun b ms h ds it => IsL b (msk ms h) ds it.xs ∧ ∀ n xs, it = .live n xs → msk ms h n = some (.lst xs)
/-- in a comprehension -/
structure BI where
  c : Kx → XI
  p : PKx → PEn → M (List D)
  ok : Sim RIt c p
/-- in a for -/
structure BJ where
  c : Kx → XI
  p : PKx → PEn → M (List D)
  ok : Sim RItF c p
def BJ.i (j : BJ) : BI where
  c := j.c
  p := j.p
  ok := fun b ms N q p k e h E V P s => by
    obtain ⟨o, N', z, r⟩ := j.ok b ms N q p k e h E V P s
    refine ⟨o, N', z, ?_⟩
    cases o with
    | ok a => obtain ⟨v, h', e1, E1, x1, r1⟩ := r; exact ⟨v, h', e1, E1, x1, r1.1, fun n xs w => ⟨fun y => (msk_some.mp (r1.2 n xs w)).1 (y ▸ E1.bm), (msk_some.mp (r1.2 n xs w)).2⟩⟩
    | exc c fs => exact r
def chars (s : Str) : List D := s.cps.toList.map fun c => D.str ⟨#[c]⟩
def pIter : D → Option (List D)
  | .tup xs => some xs
  | .scr xs => some xs
  | .lst _ xs => some xs
  | .own xs => some xs
  | .str s => some (chars s)
  | _ => none
theorem chars_is {g : Nat → Option Ob} : ∀ cs : List Nat, IsL b g (cs.map fun c => D.str ⟨#[c]⟩) (cs.map fun c => Val.str ⟨#[c]⟩)
  | [] => rfl
  | c :: cs => ⟨_, _, rfl, rfl, chars_is cs⟩
theorem iter_ok {a : D} {v : Val} {ds : List D} (bm : b ∈ ms) (i : IsO b ms h a v) (e : pIter a = some ds) : ∃ it, itOf v h = some it ∧ RIt b ms h ds it ∧ (a.isOwn = false → RItF b ms h ds it) := by
  cases a with
  | tup xs => cases e; obtain ⟨vs, rfl, r⟩ := i; exact ⟨_, rfl, ⟨r, fun _ _ z => by cases z⟩, fun _ => ⟨r, fun _ _ z => by cases z⟩⟩
  | scr xs => cases e; obtain ⟨vs, rfl, r⟩ := i; exact ⟨_, rfl, ⟨r, fun _ _ z => by cases z⟩, fun _ => ⟨r, fun _ _ z => by cases z⟩⟩
  | str s => cases e; cases (show _ = _ from i); exact ⟨_, rfl, ⟨chars_is _, fun _ _ z => by cases z⟩, fun _ => ⟨chars_is _, fun _ _ z => by cases z⟩⟩
  | lst t xs =>
    cases e
    obtain ⟨n, vs, rfl, _, e, r⟩ := i
    refine ⟨.live n vs, by simp only [itOf, (msk_some.mp e).2], ⟨r, fun m xs z => ?_⟩, fun _ => ⟨r, fun m xs z => by cases z; exact e⟩⟩
    cases z
    exact ⟨fun z => (msk_some.mp e).1 (z ▸ bm), (msk_some.mp e).2⟩
  | own xs =>
    cases e
    obtain ⟨n, vs, rfl, nb, e, r⟩ := i
    exact ⟨.live n vs, by simp only [itOf, e], ⟨r, fun m xs z => by cases z; exact ⟨nb, e⟩⟩, fun z => by cases z⟩
  | _ => cases e
def bIter (x : BE) : BI where
  c := fun k => xIter (x.c k)
  p := fun q p => (x.p q p).bind fun d => M.of (pIter d)
  ok := fun b ms N q p k e h E V => Go.bind (x.ok b ms N q p k e h E V) fun a v h1 N1 E1 x1 r1 => by
    cases hi : pIter a with
    | none => exact Go.stuck
    | some ds =>
      obtain ⟨it, e1, r, _⟩ := iter_ok E1.bm r1 hi
      simp only [e1]
      exact Go.ret E1 r
def bIterF (x : BE) : BJ where
  c := fun k => xIter (x.c k)
  p := fun q p => (x.p q p).bind fun d => if d.isOwn = true then .stuck else M.of (pIter d)
  ok := fun b ms N q p k e h E V => Go.bind (x.ok b ms N q p k e h E V) fun a v h1 N1 E1 x1 r1 => by
    by_cases ho : a.isOwn = true
    · rw [if_pos ho]; exact Go.stuck
    · rw [if_neg ho]
      cases hi : pIter a with
      | none => exact Go.stuck
      | some ds =>
        obtain ⟨it, e1, _, r⟩ := iter_ok E1.bm r1 hi
        simp only [e1]
        exact Go.ret E1 (r (by simpa using ho))
def rng (m : Int) (n : Nat) : List D := (List.range n).map fun (i : Nat) => D.int (m + i)
theorem rng_is {g : Nat → Option Ob} (m : Int) (n : Nat) : IsL b g (rng m n) ((List.range n).map fun (i : Nat) => Val.int (m + i)) := by
  unfold rng
  induction List.range n with
  | nil => rfl
  | cons x xs ih => exact ⟨_, _, rfl, rfl, ih⟩
def bRange1 (x : BE) : BJ where
  c := fun k => xRange1 (x.c k)
  p := fun q p => (x.p q p).bind fun d => match d with
    | .int j => if -(2 ^ 62) ≤ j ∧ j < 2 ^ 62 then .ret (.ok (rng 0 j.toNat)) else .stuck
    | _ => .stuck
  ok := fun b ms N q p k e h E V => Go.bind (x.ok b ms N q p k e h E V) fun a v h1 N1 E1 x1 r1 => by
    cases a with
    | int j =>
      cases (show _ = _ from r1)
      by_cases hc : -(2 ^ 62) ≤ j ∧ j < 2 ^ 62
      · simp only [if_pos hc]
        exact Go.ret E1 ⟨rng_is 0 _, fun _ _ z => by cases z⟩
      · simp only [if_neg hc]; exact Go.stuck
    | _ => exact Go.stuck
def bRange2 (x y : BE) : BJ where
  c := fun k => xRange2 (x.c k) (y.c k)
  p := fun q p => (x.p q p).bind fun d => (y.p q p).bind fun d' => match d, d' with
    | .int i, .int j => if -(2 ^ 62) ≤ i ∧ i < 2 ^ 62 ∧ -(2 ^ 62) ≤ j ∧ j < 2 ^ 62 then .ret (.ok (rng i (j - i).toNat)) else .stuck
    | _, _ => .stuck
  ok := fun b ms N q p k e h E V => Go.bind (x.ok b ms N q p k e h E V) fun a v h1 N1 E1 x1 r1 => Go.bind (y.ok b ms N1 q p k e h1 E1 (V.ext x1 E.bm)) fun a' v' h2 N2 E2 x2 r2 => by
    cases a with
    | int i =>
      cases (show _ = _ from r1)
      cases a' with
      | int j =>
        cases (show _ = _ from r2)
        by_cases hc : -(2 ^ 62) ≤ i ∧ i < 2 ^ 62 ∧ -(2 ^ 62) ≤ j ∧ j < 2 ^ 62
        · simp only [if_pos hc]
          exact Go.ret E2 ⟨rng_is i _, fun _ _ z => by cases z⟩
        · simp only [if_neg hc]; exact Go.stuck
      | _ => exact Go.stuck
    | _ => exact Go.stuck
/-! ### new lists -/
/-- a new list, which nothing else holds: h is the heap ahead -/
def RN (h : Hh) : Rl (List D) Val := fun b ms h' ds v => ∃ n xs, v = .loc n ∧ h.length ≤ n ∧ h'[n]? = some (.lst xs) ∧ IsL b (msk (n :: ms) h') ds xs
structure BN where
  c : Kx → XE
  p : PKx → PEn → M (List D)
  ok : ∀ b ms N q p' k e h, Ev b ms N h → Env b ms h q p' k e → Go (RN h) b ms h N (p q p') (c k e h)
theorem RN.is {h0 : Hh} {ds : List D} {v : Val} (E : Ev b ms N h0) (r : RN h0 b ms h ds v) : Is b (msk ms h) (.lst none ds) v := by
  obtain ⟨n, xs, rfl, hn, e, i⟩ := r
  exact ⟨n, xs, rfl, TagOk.none _, msk_some.mpr ⟨fun m => by have := E.lt n m; omega, e⟩, i.mono fun _ _ z => msk_less (fun m hm => .tail _ hm) z⟩
theorem Go.map {α α' β β' : Type} {R : Rl α β} {R' : Rl α' β} {t : M α} {r : Res β} {f : α → α'} (g : Go R b ms h N t r) (n : ∀ a v h', Ext b h h' → R b ms h' a v → R' b ms h' (f a) v) : Go R' b ms h N (t.bind fun a => .ret (.ok (f a))) r := fun P s => by
  obtain ⟨o, N', p, q⟩ := g _ (Safe.bind.mp s)
  cases o with
  | ok a => obtain ⟨v, h', rfl, E, x, rr⟩ := q; exact ⟨.ok (f a), N', p, v, h', rfl, E, x, n a v h' x rr⟩
  | exc c fs => exact ⟨.exc c fs, N', p, q⟩
def BN.e (x : BN) : BE where
  c := x.c
  p := fun q p => (x.p q p).bind fun ds => .ret (.ok (.lst none ds))
  ok := fun b ms N q p k e h E V => Go.map (β' := Val) (x.ok b ms N q p k e h E V) fun a v h' x1 r => IsO.of (RN.is E r)
theorem new_rn {ds : List D} {xs : List Val} {h0 : Hh} (E : Ev b ms N h) (i : IsL b (msk ms h) ds xs) (hl : h0.length ≤ h.length) : Ev b ms N (h ++ [.lst xs]) ∧ Ext b h (h ++ [.lst xs]) ∧ RN h0 b ms (h ++ [.lst xs]) ds (.loc h.length) := by
  have x := Ext.new b h (.lst xs)
  exact ⟨E.new (undL_le (Nat.le_succ _) (i.undE E)), x, h.length, xs, rfl, hl, getNew _ _, i.mono fun _ _ z => msk_new x E.bm (Nat.le_refl _) z⟩
def nLst (y : BA) : BN where
  c := fun k => xLst (y.c k)
  p := fun q p => (y.p q p).bind fun as => if calm as = true ∧ as.length ≤ sizeLine then .ret (.ok as) else .stuck
  ok := fun b ms N q p k e h E V => Go.bind (y.ok b ms N q p k e h E V) fun a v h1 N1 E1 x1 r1 => by
    by_cases hc : calm a = true ∧ a.length ≤ sizeLine
    · rw [if_pos hc, if_pos (by rw [← r1.len]; exact hc.2)]
      obtain ⟨E2, x2, i2⟩ := new_rn (h0 := h) E1 (r1.isL hc.1) x1.le
      exact Go.ret' E2 x2 i2
    · rw [if_neg hc]; exact Go.stuck
/-- operations that tell a new list -/
structure P2 where
  c : Op2
  p : D → D → Option (List D)
  ok : ∀ {b ms N h a v a' v' ds}, Ev b ms N h → IsO b ms h a v → IsO b ms h a' v' → p a a' = some ds → ∃ xs, c v v' h = some (.loc h.length, h ++ [.lst xs]) ∧ IsL b (msk ms h) ds xs
structure PN where
  c : OpN
  p : List D → Option (List D)
  ok : ∀ {b ms N h as vs ds}, Ev b ms N h → RL b ms h as vs → p as = some ds → ∃ xs, c vs h = some (.loc h.length, h ++ [.lst xs]) ∧ IsL b (msk ms h) ds xs
structure PS where
  c : OpS
  p : D → Option Int → Option Int → Option (List D)
  ok : ∀ {b ms N h a v lo hi ds}, Ev b ms N h → IsO b ms h a v → p a lo hi = some ds → ∃ xs, c v lo hi h = some (.loc h.length, h ++ [.lst xs]) ∧ IsL b (msk ms h) ds xs
theorem go_new {r : Option (Val × Hh)} {o : Option (List D)} {h0 : Hh} (E : Ev b ms N h) (hl : h0.length ≤ h.length) (ho : ∀ ds, o = some ds → ∃ xs, r = some (.loc h.length, h ++ [.lst xs]) ∧ IsL b (msk ms h) ds xs) : Go (RN h0) b ms h N (M.of o) (Res.of r) := by
  cases o with
  | none => exact Go.stuck
  | some d =>
    obtain ⟨xs, e, i⟩ := ho d rfl
    subst e
    obtain ⟨E2, x2, i2⟩ := new_rn (h0 := h0) E i hl
    exact Go.ret' E2 x2 i2
def nBin (o : P2) (x y : BE) : BN where
  c := fun k => xBin o.c (x.c k) (y.c k)
  p := fun q p => (x.p q p).bind fun a => (y.p q p).bind fun a' => M.of (o.p a a')
  ok := fun b ms N q p k e h E V => Go.bind (x.ok b ms N q p k e h E V) fun a v h1 N1 E1 x1 r1 => Go.bind (y.ok b ms N1 q p k e h1 E1 (V.ext x1 E.bm)) fun a' v' h2 N2 E2 x2 r2 =>
    go_new E2 (x1.trans x2).le fun d hd => o.ok E2 (r1.ext x2 E.bm) r2 hd
def nCallN (o : PN) (y : BA) : BN where
  c := fun k => xCallN o.c (y.c k)
  p := fun q p => (y.p q p).bind fun as => M.of (o.p as)
  ok := fun b ms N q p k e h E V => Go.bind (y.ok b ms N q p k e h E V) fun a v h1 N1 E1 x1 r1 => go_new E1 x1.le fun d hd => o.ok E1 r1 hd
def nSl (o : PS) (x : BE) (lo hi : Option BE) : BN where
  c := fun k => xSl o.c (x.c k) (cPart lo k) (cPart hi k)
  p := fun q p => (x.p q p).bind fun a => (pPart lo q p).bind fun l => (pPart hi q p).bind fun u => M.of (o.p a l u)
  ok := fun b ms N q p k e h E V => Go.bind (x.ok b ms N q p k e h E V) fun a v h1 N1 E1 x1 r1 => Go.bind (part_ok lo b ms N1 q p k e h1 E1 (V.ext x1 E.bm)) fun l l' h2 N2 E2 x2 r2 =>
    Go.bind (part_ok hi b ms N2 q p k e h2 E2 (V.ext (x1.trans x2) E.bm)) fun u u' h3 N3 E3 x3 r3 => by
      cases r2; cases r3
      exact go_new E3 ((x1.trans x2).trans x3).le fun d hd => o.ok E3 (r1.ext (x2.trans x3) E.bm) hd
/-! ### comprehensions -/
def M.bindS {α β : Type} (t : M α) (f : α → M β) : M β := Dr.bind t fun o => match o with
  | .ok a => f a
  | .exc _ _ => .stuck
@[simp] theorem M.bindS_ok {α β : Type} (a : α) (f : α → M β) : M.bindS (.ret (.ok a)) f = f a := rfl
@[simp] theorem M.bindS_draw {α β : Type} (m : Int) (k : Int → M α) (f : α → M β) : M.bindS (.draw m k) f = .draw m fun r => M.bindS (k r) f := rfl
def pcomp (t : Tg) (tt : PEn → M Bool) (x : PEn → M D) (p : PEn) : List D → M (List D)
  | [] => .ret (.ok [])
  | d :: ds => match pput t d p with
    | none => .stuck
    | some p1 => M.bindS (tt p1) fun c => if c = true then M.bindS (x p1) fun y => if y.isOwn = true then .stuck else M.bindS (pcomp t tt x p ds) fun ys => .ret (.ok (y :: ys)) else pcomp t tt x p ds
structure Ext2 (b n : Nat) (h h' : Hh) : Prop where
  le : h.length ≤ h'.length
  at_ : ∀ i, i < h.length → i ≠ b → i ≠ n → h'[i]? = h[i]?
theorem Ext.two {n : Nat} (x : Ext b h h') : Ext2 b n h h' := ⟨x.le, fun i hi hb _ => x.at_ i hi hb⟩
theorem Ext2.trans {n : Nat} {h1 h2 : Hh} (a : Ext2 b n h h1) (c : Ext2 b n h1 h2) : Ext2 b n h h2 :=
  ⟨Nat.le_trans a.le c.le, fun i hi hb hn => by rw [c.at_ i (Nat.lt_of_lt_of_le hi a.le) hb hn, a.at_ i hi hb hn]⟩
theorem comp_go {it : Itn} {t : Tg} {tt : BT} {x : BE} {n : Nat} {q : PKx} {p : PEn} {k : Kx} {e : En} (hnb : n ≠ b) (hown : ∀ (i : Nat) (d : D) (m : Nat), p[i]? = some (some d) → d.isOwn = true → e[i]? = some (some (.loc m)) → m ≠ n) : ∀ (ds : List D) (items : List Val) (acc : List D) (acc' : List Val) (h : Hh) (N : Nat), Ev b (n :: ms) N h → Env b (n :: ms) h q p k e → IsL b (msk (n :: ms) h) ds items →
    h[n]? = some (.lst acc') → IsL b (msk (n :: ms) h) acc acc' → (∀ m xs, it = .live m xs → m ≠ b ∧ m ≠ n ∧ h[m]? = some (.lst xs)) → acc.length + ds.length ≤ sizeLine → ∀ P, Safe (pcomp t (tt.p q) (x.p q) p ds) N P →
    ∃ ys N', P (.ok ys) N' ∧ ∃ h' ys', compLoop it t (tt.c k) (x.c k) n e items h = .ok () h' ∧ Ev b (n :: ms) N' h' ∧ h'[n]? = some (.lst (acc' ++ ys')) ∧ IsL b (msk (n :: ms) h') (acc ++ ys) (acc' ++ ys') ∧ Ext2 b n h h'
  | [], items, acc, acc', h, N, E, V, i, en, ia, ok, hs, P, s => by
    cases (show _ = _ from i)
    refine ⟨[], N, s, h, [], ?_, E, by rw [List.append_nil]; exact en, by rw [List.append_nil, List.append_nil]; exact ia, (Ext.refl b h).two⟩
    unfold compLoop
    rw [if_pos]
    cases it with
    | items xs => trivial
    | live m xs => exact (ok m xs rfl).2.2
  | d :: ds, items, acc, acc', h, N, E, V, ⟨v, vs, ev, iv, is⟩, en, ia, ok, hs, P, s => by
    subst ev
    rw [List.length_cons] at hs
    have okA : it.okAt h := by
      cases it with
      | items xs => trivial
      | live m xs => exact (ok m xs rfl).2.2
    unfold pcomp at s
    unfold compLoop
    rw [if_pos okA]
    cases hp : pput t d p with
    | none => rw [hp] at s; exact s.elim
    | some p1 =>
      rw [hp] at s
      obtain ⟨e1, et, V1⟩ := V.put iv hp
      rw [et]
      dsimp only at s ⊢
      obtain ⟨o, N1, s1, r1⟩ := tt.ok b (n :: ms) N q p1 k e1 h E V1 _ (Safe.bind.mp s)
      cases o with
      | exc c fs => exact s1.elim
      | ok c =>
        obtain ⟨v1, h1, er, E1, x1, rb⟩ := r1
        cases rb
        dsimp only at s1
        rw [er, Res.bindS_ok]
        have hn1 : n < h.length := (List.getElem?_eq_some_iff.mp en).1
        have en1 : h1[n]? = some (.lst acc') := by rw [x1.at_ n hn1 hnb]; exact en
        have ok1 : ∀ m xs, it = .live m xs → m ≠ b ∧ m ≠ n ∧ h1[m]? = some (.lst xs) := fun m xs z => by
          obtain ⟨a1, a2, a3⟩ := ok m xs z
          exact ⟨a1, a2, by rw [x1.at_ m (List.getElem?_eq_some_iff.mp a3).1 a1]; exact a3⟩
        cases c with
        | false =>
          simp only [Bool.false_eq_true, if_false] at s1 ⊢
          obtain ⟨ys, N', s2, h', ys', e2, E2, en2, i2, x2⟩ := comp_go hnb hown ds vs acc acc' h1 N1 E1 (V.ext x1 E.bm) (is.ext x1 E.bm) en1 (ia.ext x1 E.bm) ok1 (by omega) P s1
          exact ⟨ys, N', s2, h', ys', e2, E2, en2, i2, x1.two.trans x2⟩
        | true =>
          simp only [if_true] at s1 ⊢
          obtain ⟨o, N2, s2, r2⟩ := x.ok b (n :: ms) N1 q p1 k e1 h1 E1 (V1.ext x1 E.bm) _ (Safe.bind.mp s1)
          cases o with
          | exc c fs => exact s2.elim
          | ok y =>
            obtain ⟨w, h2, ew, E2, x2, iy⟩ := r2
            dsimp only at s2
            rw [ew, Res.bindS_ok]
            by_cases ho : y.isOwn = true
            · rw [if_pos ho] at s2; exact s2.elim
            · rw [if_neg ho] at s2
              have iy := iy.is (by simpa using ho)
              have en2 : h2[n]? = some (.lst acc') := by rw [x2.at_ n (Nat.lt_of_lt_of_le hn1 x1.le) hnb]; exact en1
              have hn2 : n < h2.length := (List.getElem?_eq_some_iff.mp en2).1
              simp only [en2]
              have la : acc'.length < sizeLine := by rw [ia.len]; omega
              rw [if_pos la]
              have x12 := x1.trans x2
              have g3 : ∀ i o, msk (n :: ms) h2 i = some o → msk (n :: ms) (h2.set n (.lst (acc' ++ [w]))) i = some o := fun i o z => by
                rw [msk_some] at z ⊢
                exact ⟨z.1, by rw [List.getElem?_set_ne (fun y => z.1 (by rw [← y]; exact .head _))]; exact z.2⟩
              have E3 : Ev b (n :: ms) N2 (h2.set n (.lst (acc' ++ [w]))) := by
                refine ⟨E2.cl.put n ?_, ?_, E2.bm, fun m hm => by rw [List.length_set]; exact E2.lt m hm⟩
                · have u1 := (ia.ext x12 E.bm).undE E2
                  have u2 : w.und h2.length = true := iy.und E2.hb (bel_msk _ _)
                  exact undL_of fun z mz => (List.mem_append.mp mz).elim (of_undL u1 z) (fun q => by rw [List.mem_singleton.mp q]; exact u2)
                · obtain ⟨s', e', g'⟩ := E2.bx
                  exact ⟨s', by rw [List.getElem?_set_ne hnb]; exact e', g'⟩
              have V3 : Env b (n :: ms) (h2.set n (.lst (acc' ++ [w]))) q p k e := by
                have V2 := V.ext x12 E.bm
                refine ⟨V2.len, fun i d z => ?_, V2.own, V2.sep, V2.kc, V2.kf.mono g3⟩
                obtain ⟨v, e1, r⟩ := V2.at_ i d z
                refine ⟨v, e1, ?_⟩
                cases d with
                | own ds => obtain ⟨m, xs, ev, nb, g, r⟩ := r; subst ev; exact ⟨m, xs, rfl, nb, by rw [List.getElem?_set_ne (Ne.symm (hown i _ m z rfl e1))]; exact g, r.mono g3⟩
                | ownd ds => obtain ⟨m, xs, ev, nb, g, r⟩ := r; subst ev; exact ⟨m, xs, rfl, nb, by rw [List.getElem?_set_ne (Ne.symm (hown i _ m z rfl e1))]; exact g, r.mono g3⟩
                | _ => exact IsO.of (Is.mono g3 r)
              have ia3 : IsL b (msk (n :: ms) (h2.set n (.lst (acc' ++ [w])))) (acc ++ [y]) (acc' ++ [w]) := ((ia.ext x12 E.bm).mono g3).app (IsL.one (iy.mono g3))
              obtain ⟨o, N3, s3, r3⟩ : ∃ ys N', P (.ok (y :: ys)) N' ∧ ∃ h' ys', compLoop it t (tt.c k) (x.c k) n e vs (h2.set n (.lst (acc' ++ [w]))) = .ok () h' ∧ Ev b (n :: ms) N' h' ∧ h'[n]? = some (.lst (acc' ++ [w] ++ ys')) ∧ IsL b (msk (n :: ms) h') (acc ++ [y] ++ ys) (acc' ++ [w] ++ ys') ∧ Ext2 b n (h2.set n (.lst (acc' ++ [w]))) h' := by
                obtain ⟨ys, N', z1, z2⟩ := comp_go hnb hown ds vs (acc ++ [y]) (acc' ++ [w]) _ N2 E3 V3 ((is.ext x12 E.bm).mono g3) (List.getElem?_set_self hn2) ia3 (fun m xs z => by
                  obtain ⟨a1, a2, a3⟩ := ok1 m xs z
                  exact ⟨a1, a2, by rw [List.getElem?_set_ne (Ne.symm a2), x2.at_ m (List.getElem?_eq_some_iff.mp a3).1 a1]; exact a3⟩) (by rw [List.length_append, List.length_singleton]; omega) _ (Safe.bind.mp s2)
                exact ⟨ys, N', z1, z2⟩
              obtain ⟨h', ys', e4, E4, en4, i4, x4⟩ := r3
              refine ⟨y :: o, N3, s3, h', w :: ys', e4, E4, by rw [List.append_assoc] at en4; exact en4, by rw [List.append_assoc, List.append_assoc] at i4; exact i4, x12.two.trans (Ext2.trans ⟨by rw [List.length_set]; exact Nat.le_refl _, fun i hi hb hn => by rw [List.getElem?_set_ne (Ne.symm hn)]⟩ x4)⟩
theorem Env.wipe_own {q : PKx} {k : Kx} {n : Nat} {p : PEn} {e : En} (V : Env b ms h q p k e) (hn : n ∉ ms) : ∀ (vs : List Nat) (i : Nat) (d : D) (m : Nat), (pwipe p vs)[i]? = some (some d) → d.isOwn = true → (wipeE e vs)[i]? = some (some (.loc m)) → m ≠ n := fun vs i d m e1 o e2 z => by
  obtain ⟨m', e3, mm⟩ := (V.wipe vs).own i d e1 o
  rw [e2] at e3
  cases e3
  exact hn (z ▸ mm)
/-- a comprehension: a new list -/
noncomputable def nComp (xi : BI) (t : Tg) (tt : BT) (x : BE) (vs : List Nat) : BN where
  c := fun k => xComp (xi.c k) t (tt.c k) (x.c k) vs
  p := fun q p => (xi.p q p).bind fun ds => if ds.length ≤ sizeLine then M.bindS (pcomp t (tt.p q) (x.p q) (pwipe p vs) ds) fun ys => .ret (.ok ys) else .stuck
  ok := fun b ms N q p k e h E V => Go.bind (xi.ok b ms N q p k e h E V) fun ds it h1 N1 E1 x1 ⟨ii, io⟩ => by
    by_cases hs : ds.length ≤ sizeLine
    · rw [if_pos hs]
      intro P s
      have x2 := Ext.new b h1 (.lst [])
      have nm : h1.length ∉ ms := fun m => Nat.lt_irrefl _ (E1.lt _ m)
      have V1 := V.ext x1 E.bm
      have V2 : Env b (h1.length :: ms) (h1 ++ [.lst []]) q (pwipe p vs) k (wipeE e vs) := (V1.wipe vs).newmask x2 E.bm (Nat.le_refl _)
      have E2 : Ev b (h1.length :: ms) N1 (h1 ++ [.lst []]) := (E1.new rfl).more (by rw [List.length_append]; exact Nat.lt_succ_self _)
      have nb : h1.length ≠ b := by have := E1.hb; omega
      obtain ⟨ys, N', s2, h', ys', e2, E3, en, i3, x3⟩ := comp_go (it := it) (t := t) (tt := tt) (x := x) nb (V1.wipe_own nm vs) ds it.xs [] [] (h1 ++ [.lst []]) N1 E2 V2 (ii.mono fun _ _ z => msk_new x2 E.bm (Nat.le_refl _) z) (getNew _ _) rfl
        (fun m xs z => by
          obtain ⟨a1, a2⟩ := io m xs z
          have hm := (List.getElem?_eq_some_iff.mp a2).1
          exact ⟨a1, by omega, by rw [List.getElem?_append_left hm]; exact a2⟩) (by simpa using hs) _ (Safe.bind.mp s)
      refine ⟨.ok ys, N', s2, .loc h1.length, h', by rw [e2]; rfl, E3.less (fun m hm => .tail _ hm) E.bm, ⟨?_, fun i hi hb => ?_⟩, h1.length, ys', rfl, x1.le, by simpa using en, by simpa using i3⟩
      · have := x3.le
        rw [List.length_append] at this
        omega
      · rw [x3.at_ i (by rw [List.length_append]; omega) hb (by omega), List.getElem?_append_left hi]
    · rw [if_neg hs]; exact Go.stuck
end PL

set_option Elab.async false
set_option linter.all false
set_option maxRecDepth 100000
set_option maxHeartbeats 4000000
namespace PL
open PySem L2 EX
/-! ### statements -/
inductive PO where
  | nx (p : PEn)
  | rt (d : D)
  | bk (p : PEn)
  | ct (p : PEn)
  | exc (c : Str) (fs : List (Str × D)) (p : PEn)
/-- the state: h0 the heap at the def's start, cs what is masked ahead of it -/
structure Si (b : Nat) (h0 : Hh) (cs : List Nat) (N : Nat) (ms : List Nat) (q : PKx) (p : PEn) (k : Kx) (e : En) (h : Hh) : Prop where
  ev : Ev b ms N h
  env : Env b ms h q p k e
  bc : b ∈ cs
  cm : ∀ c ∈ cs, c ∈ ms
  clt : ∀ c ∈ cs, c < h0.length
  ext : Ext b h0 h
  new : ∀ (i : Nat) (d : D) (n : Nat), p[i]? = some (some d) → d.isOwn = true → e[i]? = some (some (.loc n)) → h0.length ≤ n
def Mo (ms : List Nat) (h : Hh) (ms' : List Nat) (h' : Hh) : Prop := ∀ i o, msk ms h i = some o → msk ms' h' i = some o
theorem Mo.refl (ms : List Nat) (h : Hh) : Mo ms h ms h := fun _ _ e => e
theorem Mo.trans {ms ms1 ms2 : List Nat} {h h1 h2 : Hh} (a : Mo ms h ms1 h1) (c : Mo ms1 h1 ms2 h2) : Mo ms h ms2 h2 := fun i o e => c i o (a i o e)
structure Fin (b : Nat) (h0 : Hh) (cs : List Nat) (N : Nat) (h : Hh) : Prop where
  ev : Ev b cs N h
  ext : Ext b h0 h
def PoR (b : Nat) (h0 : Hh) (cs : List Nat) (q : PKx) (k : Kx) (ms : List Nat) (h : Hh) (N' : Nat) (r : RS) : PO → Prop
  | .nx p' => ∃ e' h' ms', r = .nx e' h' ∧ Si b h0 cs N' ms' q p' k e' h' ∧ Mo ms h ms' h'
  | .bk p' => ∃ e' h' ms', r = .bk e' h' ∧ Si b h0 cs N' ms' q p' k e' h' ∧ Mo ms h ms' h'
  | .ct p' => ∃ e' h' ms', r = .ct e' h' ∧ Si b h0 cs N' ms' q p' k e' h' ∧ Mo ms h ms' h'
  | .rt d => ∃ v h', r = .rt v h' ∧ Fin b h0 cs N' h' ∧ Is b (msk cs h') d v
  | .exc c fs p' => ∃ vs e' h' ms', r = .exc c vs e' h' ∧ Si b h0 cs N' ms' q p' k e' h' ∧ Mo ms h ms' h' ∧ IsF b (msk ms' h') fs vs
def GoS (b : Nat) (h0 : Hh) (cs : List Nat) (q : PKx) (k : Kx) (ms : List Nat) (h : Hh) (N : Nat) (t : Dr PO) (r : RS) : Prop := ∀ P, Safe t N P → ∃ o N', P o N' ∧ PoR b h0 cs q k ms h N' r o
section
variable {b : Nat} {h0 : Hh} {cs : List Nat} {N : Nat} {ms : List Nat} {q : PKx} {p : PEn} {k : Kx} {e : En} {h : Hh}
theorem GoS.stuck {r : RS} : GoS b h0 cs q k ms h N .stuck r := fun P s => s.elim
theorem GoS.nx {e' : En} {h' : Hh} {ms' : List Nat} {p' : PEn} (S : Si b h0 cs N ms' q p' k e' h') (m : Mo ms h ms' h') : GoS b h0 cs q k ms h N (.ret (.nx p')) (.nx e' h') := fun P s => ⟨_, N, s, e', h', ms', rfl, S, m⟩
theorem GoS.ct {e' : En} {h' : Hh} {ms' : List Nat} {p' : PEn} (S : Si b h0 cs N ms' q p' k e' h') (m : Mo ms h ms' h') : GoS b h0 cs q k ms h N (.ret (.ct p')) (.ct e' h') := fun P s => ⟨_, N, s, e', h', ms', rfl, S, m⟩
theorem GoS.bk {e' : En} {h' : Hh} {ms' : List Nat} {p' : PEn} (S : Si b h0 cs N ms' q p' k e' h') (m : Mo ms h ms' h') : GoS b h0 cs q k ms h N (.ret (.bk p')) (.bk e' h') := fun P s => ⟨_, N, s, e', h', ms', rfl, S, m⟩
theorem PoR.mo {ms1 : List Nat} {h1 : Hh} {N' : Nat} {r : RS} {o : PO} (m : Mo ms h ms1 h1) (x : PoR b h0 cs q k ms1 h1 N' r o) : PoR b h0 cs q k ms h N' r o := by
  cases o with
  | nx p' => obtain ⟨e', h', ms', a, S, m'⟩ := x; exact ⟨e', h', ms', a, S, m.trans m'⟩
  | bk p' => obtain ⟨e', h', ms', a, S, m'⟩ := x; exact ⟨e', h', ms', a, S, m.trans m'⟩
  | ct p' => obtain ⟨e', h', ms', a, S, m'⟩ := x; exact ⟨e', h', ms', a, S, m.trans m'⟩
  | rt d => exact x
  | exc c fs p' => obtain ⟨vs, e', h', ms', a, S, m', f⟩ := x; exact ⟨vs, e', h', ms', a, S, m.trans m', f⟩
theorem GoS.mo {ms1 : List Nat} {h1 : Hh} {t : Dr PO} {r : RS} (m : Mo ms h ms1 h1) (g : GoS b h0 cs q k ms1 h1 N t r) : GoS b h0 cs q k ms h N t r := fun P s => by
  obtain ⟨o, N', z, x⟩ := g P s
  exact ⟨o, N', z, x.mo m⟩
theorem Si.next {h' : Hh} {N' : Nat} (S : Si b h0 cs N ms q p k e h) (E : Ev b ms N' h') (x : Ext b h h') : Si b h0 cs N' ms q p k e h' := ⟨E, S.env.ext x S.ev.bm, S.bc, S.cm, S.clt, S.ext.trans x, S.new⟩
theorem Ext.mo {h' : Hh} (x : Ext b h h') (bm : b ∈ ms) : Mo ms h ms h' := fun _ _ z => x.mono bm z
theorem Si.set {i : Nat} {d : D} {v : Val} (S : Si b h0 cs N ms q p k e h) (r : Is b (msk ms h) d v) : Si b h0 cs N ms q (p.set i (some d)) k (e.set i (some v)) h := by
  refine ⟨S.ev, S.env.set i r, S.bc, S.cm, S.clt, S.ext, fun j d' n e1 o e2 => ?_⟩
  by_cases hj : i = j
  · subst hj
    have hl : i < p.length := by
      have := (List.getElem?_eq_some_iff.mp e1).1
      rwa [List.length_set] at this
    rw [List.getElem?_set_self hl] at e1
    cases e1
    rw [r.noOwn] at o; cases o
  · rw [List.getElem?_set_ne hj] at e1 e2
    exact S.new j d' n e1 o e2
theorem Si.unset {i : Nat} {z : Option Val} (S : Si b h0 cs N ms q p k e h) : Si b h0 cs N ms q (p.set i none) k (e.set i z) h := by
  refine ⟨S.ev, S.env.unset i z, S.bc, S.cm, S.clt, S.ext, fun j d' n e1 o e2 => ?_⟩
  by_cases hj : i = j
  · subst hj
    have hl : i < p.length := by
      have := (List.getElem?_eq_some_iff.mp e1).1
      rwa [List.length_set] at this
    rw [List.getElem?_set_self hl] at e1
    cases e1
  · rw [List.getElem?_set_ne hj] at e1 e2
    exact S.new j d' n e1 o e2
/-- an expression ahead of a statement -/
def afterE {α : Type} (p : PEn) (t : M α) (f : α → Dr PO) : Dr PO := Dr.bind t fun o => match o with
  | .ok a => f a
  | .exc c fs => .ret (.exc c fs p)
@[simp] theorem afterE_ok {α : Type} (p : PEn) (a : α) (f : α → Dr PO) : afterE p (.ret (.ok a)) f = f a := rfl
@[simp] theorem afterE_exc {α : Type} (p : PEn) (c : Str) (fs : List (Str × D)) (f : α → Dr PO) : afterE p (.ret (.exc c fs)) f = .ret (.exc c fs p) := rfl
@[simp] theorem afterE_draw {α : Type} (p : PEn) (m : Int) (k : Int → M α) (f : α → Dr PO) : afterE p (.draw m k) f = .draw m fun r => afterE p (k r) f := rfl
@[simp] theorem afterE_stuck {α : Type} (p : PEn) (f : α → Dr PO) : afterE p (.stuck) f = .stuck := rfl
def afterR {β : Type} (e : En) (r : Res β) (F : β → Hh → RS) : RS := match r with
  | .ok v h1 => F v h1
  | .exc c fs h1 => .exc c fs e h1
  | .stuck => .stuck
theorem GoS.after {α β : Type} {R : Rl α β} {t : M α} {r : Res β} {f : α → Dr PO} {F : β → Hh → RS} {rr : RS} (S : Si b h0 cs N ms q p k e h) (g : Go R b ms h N t r)
    (hr : rr = afterR e r F)
    (n : ∀ a v h' N', Si b h0 cs N' ms q p k e h' → Ext b h h' → R b ms h' a v → GoS b h0 cs q k ms h' N' (f a) (F v h')) : GoS b h0 cs q k ms h N (afterE p t f) rr := fun P s => by
  subst hr
  obtain ⟨o, N', z, x⟩ := g _ (Safe.bind.mp s)
  cases o with
  | ok a =>
    obtain ⟨v, h', rfl, E, x1, r1⟩ := x
    obtain ⟨o2, N2, z2, y⟩ := n a v h' N' (S.next E x1) x1 r1 P z
    exact ⟨o2, N2, z2, y.mo (x1.mo S.ev.bm)⟩
  | exc c fs =>
    obtain ⟨vs, h', rfl, E, x1, f1⟩ := x
    exact ⟨_, N', z, vs, e, h', ms, rfl, S.next E x1, x1.mo S.ev.bm, f1⟩
end
def SimS (c : Kx → XS) (t : PKx → PEn → Dr PO) : Prop := ∀ b h0 cs N ms q p k e h, Si b h0 cs N ms q p k e h → GoS b h0 cs q k ms h N (t q p) (c k e h)
structure BS where
  c : Kx → XS
  p : PKx → PEn → Dr PO
  ok : SimS c p
def bSkip : BS where
  c := fun _ => sNil
  p := fun _ p => .ret (.nx p)
  ok := fun b h0 cs N ms q p k e h S => GoS.nx S (Mo.refl _ _)
def bBreak : BS where
  c := fun _ => sBreak
  p := fun _ p => .ret (.bk p)
  ok := fun b h0 cs N ms q p k e h S => GoS.bk S (Mo.refl _ _)
def bCont : BS where
  c := fun _ => sCont
  p := fun _ p => .ret (.ct p)
  ok := fun b h0 cs N ms q p k e h S => GoS.ct S (Mo.refl _ _)
def pSeq (t : Dr PO) (f : PEn → Dr PO) : Dr PO := t.bind fun o => match o with
  | .nx p => f p
  | o => .ret o
@[simp] theorem pSeq_nx (p : PEn) (f : PEn → Dr PO) : pSeq (.ret (.nx p)) f = f p := rfl
@[simp] theorem pSeq_rt (d : D) (f : PEn → Dr PO) : pSeq (.ret (.rt d)) f = .ret (.rt d) := rfl
@[simp] theorem pSeq_bk (p : PEn) (f : PEn → Dr PO) : pSeq (.ret (.bk p)) f = .ret (.bk p) := rfl
@[simp] theorem pSeq_ct (p : PEn) (f : PEn → Dr PO) : pSeq (.ret (.ct p)) f = .ret (.ct p) := rfl
@[simp] theorem pSeq_exc (c : Str) (fs : List (Str × D)) (p : PEn) (f : PEn → Dr PO) : pSeq (.ret (.exc c fs p)) f = .ret (.exc c fs p) := rfl
@[simp] theorem pSeq_draw (m : Int) (k : Int → Dr PO) (f : PEn → Dr PO) : pSeq (.draw m k) f = .draw m fun r => pSeq (k r) f := rfl
@[simp] theorem pSeq_stuck (f : PEn → Dr PO) : pSeq .stuck f = .stuck := rfl
def bSeq (x y : BS) : BS where
  c := fun k => sSeq (x.c k) (y.c k)
  p := fun q p => pSeq (x.p q p) fun p1 => y.p q p1
  ok := fun b h0 cs N ms q p k e h S P s => by
    obtain ⟨o, N', z, r⟩ := x.ok b h0 cs N ms q p k e h S _ (Safe.bind.mp s)
    simp only [sSeq]
    cases o with
    | nx p' =>
      obtain ⟨e', h', ms', a, S', m'⟩ := r
      rw [a]
      obtain ⟨o2, N2, z2, r2⟩ := y.ok b h0 cs N' ms' q p' k e' h' S' P z
      exact ⟨o2, N2, z2, r2.mo m'⟩
    | bk p' => obtain ⟨e', h', ms', a, S', m'⟩ := r; rw [a]; exact ⟨_, N', z, e', h', ms', rfl, S', m'⟩
    | ct p' => obtain ⟨e', h', ms', a, S', m'⟩ := r; rw [a]; exact ⟨_, N', z, e', h', ms', rfl, S', m'⟩
    | rt d => obtain ⟨v, h', a, f, i⟩ := r; rw [a]; exact ⟨_, N', z, v, h', rfl, f, i⟩
    | exc c fs p' => obtain ⟨vs, e', h', ms', a, S', m', f⟩ := r; rw [a]; exact ⟨_, N', z, vs, e', h', ms', rfl, S', m', f⟩
def bSet (i : Nat) (x : BE) : BS where
  c := fun k => sSet i (x.c k)
  p := fun q p => afterE p (x.p q p) fun d => if d.isOwn = true then .stuck else .ret (.nx (p.set i (some d)))
  ok := fun b h0 cs N ms q p k e h S => GoS.after S (x.ok b ms N q p k e h S.ev S.env) (F := fun v h1 => .nx (e.set i (some v)) h1) (by dsimp only [sSet, afterR]; cases x.c k e h <;> rfl) fun a v h' N' S' x1 r1 => by
    by_cases ho : a.isOwn = true
    · rw [if_pos ho]; exact GoS.stuck
    · rw [if_neg ho]; exact GoS.nx (S'.set (r1.is (by simpa using ho))) (Mo.refl _ _)
def bExpr (x : BE) : BS where
  c := fun k => sExpr (x.c k)
  p := fun q p => afterE p (x.p q p) fun _ => .ret (.nx p)
  ok := fun b h0 cs N ms q p k e h S => GoS.after S (x.ok b ms N q p k e h S.ev S.env) (F := fun v h1 => .nx e h1) (by dsimp only [sExpr, afterR]; cases x.c k e h <;> rfl) fun a v h' N' S' x1 r1 => GoS.nx S' (Mo.refl _ _)
/-- what is handed back -/
theorem Si.fin {b : Nat} {h0 : Hh} {cs : List Nat} {N : Nat} {ms : List Nat} {q : PKx} {p : PEn} {k : Kx} {e : En} {h : Hh} (S : Si b h0 cs N ms q p k e h) : Fin b h0 cs N h := ⟨S.ev.less S.cm S.bc, S.ext⟩
def bRet (x : BE) : BS where
  c := fun k => sRet (x.c k)
  p := fun q p => afterE p (x.p q p) fun d => if d.isOwn = true then .stuck else .ret (.rt d)
  ok := fun b h0 cs N ms q p k e h S => GoS.after S (x.ok b ms N q p k e h S.ev S.env) (F := fun v h1 => .rt v h1) (by dsimp only [sRet, afterR]; cases x.c k e h <;> rfl) fun a v h' N' S' x1 r1 => by
    by_cases ho : a.isOwn = true
    · rw [if_pos ho]; exact GoS.stuck
    · rw [if_neg ho]; exact fun P s => ⟨_, N', s, v, h', rfl, S'.fin, (r1.is (by simpa using ho)).mono fun _ _ z => msk_less S.cm z⟩
def bRetN : BS where
  c := fun _ => sRetN
  p := fun _ _ => .ret (.rt .non)
  ok := fun b h0 cs N ms q p k e h S P s => ⟨_, N, s, .non, h, rfl, S.fin, rfl⟩
/-- a list under construction is done by then -/
def D.frz : D → D
  | .own ds => .lst none ds
  | .ownd ds => .dct none ds
  | d => d
/-- return x, x perhaps under construction -/
def bRetO (i : Nat) : BS where
  c := fun _ => sRet (xVar i)
  p := fun _ p => match p[i]? with
    | some (some d) => .ret (.rt d.frz)
    | _ => .stuck
  ok := fun b h0 cs N ms q p k e h S => by
    dsimp only
    cases hp : p[i]? with
    | none => exact GoS.stuck
    | some z =>
      cases z with
      | none => exact GoS.stuck
      | some d =>
        obtain ⟨v, e1, r⟩ := S.env.at_ i d hp
        simp only [sRet, xVar, e1]
        intro P s
        refine ⟨_, N, s, v, h, rfl, S.fin, ?_⟩
        cases d with
        | own ds =>
          obtain ⟨n, xs, rfl, nb, g, r⟩ := r
          have hn := S.new i _ n hp rfl e1
          exact ⟨n, xs, rfl, TagOk.none _, msk_some.mpr ⟨fun m => by have := S.clt n m; omega, g⟩, r.mono fun _ _ z => msk_less S.cm z⟩
        | ownd ds =>
          obtain ⟨n, xs, rfl, nb, g, r⟩ := r
          have hn := S.new i _ n hp rfl e1
          exact ⟨n, xs, rfl, TagOk.none _, msk_some.mpr ⟨fun m => by have := S.clt n m; omega, g⟩, r.mono fun _ _ z => msk_less S.cm z⟩
        | _ => exact Is.mono (fun _ _ z => msk_less S.cm z) r
def bIfS (t : BT) (x y : BS) : BS where
  c := fun k => sIf (t.c k) (x.c k) (y.c k)
  p := fun q p => afterE p (t.p q p) fun c => if c = true then x.p q p else y.p q p
  ok := fun b h0 cs N ms q p k e h S => GoS.after S (t.ok b ms N q p k e h S.ev S.env) (F := fun v h1 => if v = true then x.c k e h1 else y.c k e h1) (by dsimp only [sIf, afterR]; cases t.c k e h <;> rfl) fun a v h' N' S' x1 r1 => by
    cases r1
    cases a with
    | true => exact x.ok b h0 cs N' ms q p k e h' S'
    | false => exact y.ok b h0 cs N' ms q p k e h' S'
/-- a new list, which is under construction from then on -/
theorem Si.setN {b : Nat} {h0 : Hh} {cs : List Nat} {N N0 : Nat} {ms : List Nat} {q : PKx} {p : PEn} {k : Kx} {e : En} {h hs : Hh} {i n : Nat} {ds : List D} {xs : List Val} (S : Si b h0 cs N0 ms q p k e hs) (E : Ev b ms N h) (x : Ext b hs h) (hn : hs.length ≤ n) (g : h[n]? = some (.lst xs)) (r : IsL b (msk (n :: ms) h) ds xs) :
    Si b h0 cs N (n :: ms) q (p.set i (some (.own ds))) k (e.set i (some (.loc n))) h ∧ Mo ms hs (n :: ms) h := by
  have hn2 : n < h.length := (List.getElem?_eq_some_iff.mp g).1
  have nb : n ≠ b := by have := S.ev.hb; omega
  have V := S.env.newmask x S.ev.bm hn
  have key : ∀ (j : Nat) (d' : D), (p.set i (some (.own ds)))[j]? = some (some d') → (i = j ∧ d' = .own ds ∧ i < p.length) ∨ (i ≠ j ∧ p[j]? = some (some d')) := fun j d' e1 => by
    by_cases hj : i = j
    · subst hj
      have hl : i < p.length := by
        have := (List.getElem?_eq_some_iff.mp e1).1
        rwa [List.length_set] at this
      rw [List.getElem?_set_self hl] at e1
      cases e1
      exact .inl ⟨rfl, rfl, hl⟩
    · rw [List.getElem?_set_ne hj] at e1
      exact .inr ⟨hj, e1⟩
  have own_lt : ∀ (j : Nat) (d : D) (m : Nat), p[j]? = some (some d) → d.isOwn = true → e[j]? = some (some (.loc m)) → m < n := fun j d m e1 o e2 => by
    obtain ⟨m', e3, mm⟩ := S.env.own j d e1 o
    rw [e2] at e3
    cases e3
    have := S.ev.lt m mm
    omega
  refine ⟨⟨E.more hn2, ⟨by rw [List.length_set, List.length_set, V.len], fun j d e1 => ?_, fun j d e1 o => ?_, fun j l m d1 d2 hjl e1 o1 e2 o2 e3 e4 => ?_, V.kc, V.kf⟩, S.bc, fun c hc => .tail _ (S.cm c hc), S.clt, S.ext.trans x, fun j d m e1 o e2 => ?_⟩, fun i o z => msk_new x S.ev.bm hn z⟩
  · rcases key j d e1 with ⟨rfl, rfl, hl⟩ | ⟨hj, e2⟩
    · exact ⟨.loc n, List.getElem?_set_self (by rw [← V.len]; exact hl), n, xs, rfl, nb, g, r⟩
    · rw [List.getElem?_set_ne hj]; exact V.at_ j d e2
  · rcases key j d e1 with ⟨rfl, rfl, hl⟩ | ⟨hj, e2⟩
    · exact ⟨n, List.getElem?_set_self (by rw [← V.len]; exact hl), .head _⟩
    · rw [List.getElem?_set_ne hj]; exact V.own j d e2 o
  · rcases key j d1 e1 with ⟨rfl, rfl, hl⟩ | ⟨hj, f1⟩
    · rcases key l d2 e2 with ⟨rfl, _, _⟩ | ⟨hl2, f2⟩
      · exact hjl rfl
      · rw [List.getElem?_set_self (by rw [← V.len]; exact hl)] at e3
        cases e3
        rw [List.getElem?_set_ne hl2] at e4
        exact Nat.lt_irrefl _ (own_lt l d2 n f2 o2 e4)
    · rcases key l d2 e2 with ⟨rfl, rfl, hl⟩ | ⟨hl2, f2⟩
      · rw [List.getElem?_set_self (by rw [← V.len]; exact hl)] at e4
        cases e4
        rw [List.getElem?_set_ne hj] at e3
        exact Nat.lt_irrefl _ (own_lt j d1 n f1 o1 e3)
      · rw [List.getElem?_set_ne hj] at e3
        rw [List.getElem?_set_ne hl2] at e4
        exact V.sep j l m d1 d2 hjl f1 o1 f2 o2 e3 e4
  · rcases key j d e1 with ⟨rfl, rfl, hl⟩ | ⟨hj, f1⟩
    · rw [List.getElem?_set_self (by rw [← V.len]; exact hl)] at e2
      cases e2
      exact Nat.le_trans S.ext.le hn
    · rw [List.getElem?_set_ne hj] at e2
      exact S.new j d m f1 o e2
def bSetN (i : Nat) (x : BN) : BS where
  c := fun k => sSet i (x.c k)
  p := fun q p => afterE p (x.p q p) fun ds => .ret (.nx (p.set i (some (.own ds))))
  ok := fun b h0 cs N ms q p k e h S P s => by
    obtain ⟨o, N', z, r⟩ := x.ok b ms N q p k e h S.ev S.env _ (Safe.bind.mp s)
    simp only [sSet]
    cases o with
    | ok ds =>
      obtain ⟨v, h', ev, E', x1, n, xs, rfl, hn, g, i1⟩ := r
      rw [ev]
      obtain ⟨S1, m1⟩ := S.setN (i := i) E' x1 hn g i1
      exact ⟨_, N', z, _, h', _, rfl, S1, m1⟩
    | exc c fs =>
      obtain ⟨vs, h', rfl', E', x1, f1⟩ := r
      rw [rfl']
      exact ⟨_, N', z, vs, e, h', ms, rfl, S.next E' x1, x1.mo S.ev.bm, f1⟩
end PL

set_option Elab.async false
set_option linter.all false
set_option maxRecDepth 100000
set_option maxHeartbeats 4000000
namespace PL
open PySem L2 EX
section
variable {b : Nat} {h0 : Hh} {cs : List Nat} {N : Nat} {ms : List Nat} {q : PKx} {p : PEn} {k : Kx} {e : En} {h : Hh}
/-! ### lists under construction -/
theorem msk_set {n : Nat} {o : Ob} (hn : n ∈ ms) : msk ms (h.set n o) = msk ms h := by
  funext i
  unfold msk
  by_cases hi : i ∈ ms
  · rw [if_pos hi, if_pos hi]
  · rw [if_neg hi, if_neg hi, List.getElem?_set_ne (fun z => hi (by rw [← z]; exact hn))]
theorem get_set {α : Type} {l : List α} {i j : Nat} {x y : α} (e : (l.set i x)[j]? = some y) : (i = j ∧ y = x ∧ i < l.length) ∨ (i ≠ j ∧ l[j]? = some y) := by
  by_cases hj : i = j
  · subst hj
    have hl : i < l.length := by
      have := (List.getElem?_eq_some_iff.mp e).1
      rwa [List.length_set] at this
    rw [List.getElem?_set_self hl] at e
    cases e
    exact .inl ⟨rfl, rfl, hl⟩
  · rw [List.getElem?_set_ne hj] at e
    exact .inr ⟨hj, e⟩
theorem Si.upd {i n : Nat} {d d' : D} {o : Ob} (S : Si b h0 cs N ms q p k e h) (hp : p[i]? = some (some d)) (ho : d.isOwn = true) (he : e[i]? = some (some (.loc n))) (ho' : d'.isOwn = true) (hu : o.und h.length = true) (r : n ≠ b → IsO b ms (h.set n o) d' (.loc n)) :
    Si b h0 cs N ms q (p.set i (some d')) k e (h.set n o) ∧ Mo ms h ms (h.set n o) := by
  obtain ⟨n', e1, mn⟩ := S.env.own i d hp ho
  rw [he] at e1
  cases e1
  have hm := msk_set (h := h) (o := o) mn
  have hn := S.new i d n hp ho he
  have nb : n ≠ b := by
    have := S.clt b S.bc
    omega
  have hi : i < p.length := (List.getElem?_eq_some_iff.mp hp).1
  refine ⟨⟨⟨S.ev.cl.put n hu, ?_, S.ev.bm, fun m hm => by rw [List.length_set]; exact S.ev.lt m hm⟩, ⟨by rw [List.length_set, S.env.len], fun j x e1 => ?_, fun j x e1 o1 => ?_, fun j l m x y hjl e1 o1 e2 o2 e3 e4 => ?_, S.env.kc, by rw [hm]; exact S.env.kf⟩, S.bc, S.cm, S.clt, ⟨by rw [List.length_set]; exact S.ext.le, fun j hj hb => ?_⟩, fun j x m e1 o1 e2 => ?_⟩, fun j x z => by rw [hm]; exact z⟩
  · obtain ⟨s, e', g'⟩ := S.ev.bx
    exact ⟨s, by rw [List.getElem?_set_ne nb]; exact e', g'⟩
  · rcases get_set e1 with ⟨rfl, ex, _⟩ | ⟨hj, e2⟩
    · cases ex
      exact ⟨_, he, r nb⟩
    · obtain ⟨v, e3, r3⟩ := S.env.at_ j x e2
      refine ⟨v, e3, ?_⟩
      cases x with
      | own ds =>
        obtain ⟨m, xs, rfl, mb, g, r⟩ := r3
        refine ⟨m, xs, rfl, mb, ?_, by rw [hm]; exact r⟩
        rw [List.getElem?_set_ne (fun z => S.env.sep i j n d _ hj hp ho e2 rfl he (by rw [z]; exact e3))]
        exact g
      | ownd ds =>
        obtain ⟨m, xs, rfl, mb, g, r⟩ := r3
        refine ⟨m, xs, rfl, mb, ?_, by rw [hm]; exact r⟩
        rw [List.getElem?_set_ne (fun z => S.env.sep i j n d _ hj hp ho e2 rfl he (by rw [z]; exact e3))]
        exact g
      | _ =>
        refine IsO.of ?_
        rw [hm]
        exact r3
  · rcases get_set e1 with ⟨rfl, ex, _⟩ | ⟨hj, e2⟩
    · exact ⟨n, he, mn⟩
    · exact S.env.own j x e2 o1
  · rcases get_set e1 with ⟨rfl, ex, _⟩ | ⟨hj, f1⟩
    · rcases get_set e2 with ⟨rfl, _, _⟩ | ⟨hl, f2⟩
      · exact hjl rfl
      · exact S.env.sep i l m d y hjl hp ho f2 o2 e3 e4
    · rcases get_set e2 with ⟨rfl, _, _⟩ | ⟨hl, f2⟩
      · exact S.env.sep j i m x d hjl f1 o1 hp ho e3 e4
      · exact S.env.sep j l m x y hjl f1 o1 f2 o2 e3 e4
  · rw [List.getElem?_set_ne (by omega)]
    exact S.ext.at_ j hj hb
  · rcases get_set e1 with ⟨rfl, ex, _⟩ | ⟨hj, f1⟩
    · rw [he] at e2; cases e2; exact hn
    · exact S.new j x m f1 o1 e2
end
/-- x.append(y) of a list under construction -/
def bApp (i : Nat) (x : BE) : BS where
  c := fun k => sExpr (xMeth "list" oAppend (xVar i) (xCons (x.c k) xNil))
  p := fun q p => match p[i]? with
    | some (some (.own ds)) => afterE p (x.p q p) fun d => if d.isOwn = false ∧ ds.length < sizeLine then .ret (.nx (p.set i (some (.own (ds ++ [d]))))) else .stuck
    | _ => .stuck
  ok := fun b h0 cs N ms q p k e h S => by
    dsimp only
    cases hp : p[i]? with
    | none => exact GoS.stuck
    | some z =>
      cases z with
      | none => exact GoS.stuck
      | some d =>
        cases d with
        | own ds =>
          obtain ⟨v, e1, n, xs, rfl, nb, g, r⟩ := S.env.at_ i _ hp
          refine GoS.after S (x.ok b ms N q p k e h S.ev S.env) (F := fun w h1 => match oAppend (.loc n) [w] h1 with | some (_, h2) => .nx e h2 | none => .stuck) ?_ fun a w h' N' S' x1 r1 => ?_
          · have ht : isTy "list" (.loc n) h = true := by simp only [isTy, g]; rfl
            simp only [sExpr, xMeth, xVar, e1, Res.bind_ok, ht, if_true, xCons, xNil, afterR]
            cases x.c k e h with
            | ok w h1 =>
              simp only [Res.bind_ok]
              cases oAppend (.loc n) [w] h1 with
              | none => rfl
              | some z => rfl
            | exc c fs h1 => rfl
            | stuck => rfl
          · by_cases hc : a.isOwn = false ∧ ds.length < sizeLine
            · rw [if_pos hc]
              obtain ⟨_, e2, n2, xs2, ez, nb2, g2, r2⟩ := S'.env.at_ i _ hp
              rw [e1] at e2
              cases e2
              cases ez
              have hl : xs2.length < sizeLine := by rw [r2.len]; exact hc.2
              simp only [oAppend, g2, if_pos hl]
              have iw := r1.is hc.1
              have hu : (Ob.lst (xs2 ++ [w])).und h'.length = true := by
                have u1 := r2.undE S'.ev
                have u2 : w.und h'.length = true := iw.und S'.ev.hb (bel_msk _ _)
                exact undL_of fun z mz => (List.mem_append.mp mz).elim (of_undL u1 z) (fun q => by rw [List.mem_singleton.mp q]; exact u2)
              have hn2 : n < h'.length := (List.getElem?_eq_some_iff.mp g2).1
              obtain ⟨m1, e3, mn⟩ := S'.env.own i _ hp rfl
              rw [e1] at e3
              cases e3
              obtain ⟨S3, m3⟩ := S'.upd (d' := .own (ds ++ [a])) hp rfl e1 rfl hu fun nb => ⟨n, xs2 ++ [w], rfl, nb, List.getElem?_set_self hn2, by rw [msk_set mn]; exact r2.app (IsL.one iw)⟩
              exact GoS.nx S3 m3
            · rw [if_neg hc]; exact GoS.stuck
        | _ => exact GoS.stuck
/-! ### done with the construction -/
theorem Si.frz {b : Nat} {h0 : Hh} {cs : List Nat} {N : Nat} {ms : List Nat} {q : PKx} {p : PEn} {k : Kx} {e : En} {h : Hh} {i : Nat} {d : D} (S : Si b h0 cs N ms q p k e h) (hp : p[i]? = some (some d)) (ho : d.isOwn = true) :
    ∃ ms', Si b h0 cs N ms' q (p.set i (some d.frz)) k e h ∧ Mo ms h ms' h := by
  obtain ⟨n, e1, mn⟩ := S.env.own i d hp ho
  have hn := S.new i d n hp ho e1
  have less : ∀ m ∈ ms.filter (fun m => decide (m ≠ n)), m ∈ ms := fun m hm => (List.mem_filter.mp hm).1
  have nin : n ∉ ms.filter (fun m => decide (m ≠ n)) := fun hm => by simpa using (List.mem_filter.mp hm).2
  have keep : ∀ m ∈ ms, m ≠ n → m ∈ ms.filter (fun m => decide (m ≠ n)) := fun m hm hne => List.mem_filter.mpr ⟨hm, by simpa using hne⟩
  have up : ∀ i o, msk ms h i = some o → msk (ms.filter (fun m => decide (m ≠ n))) h i = some o := fun i o z => msk_less less z
  have bn : b ≠ n := by have := S.clt b S.bc; omega
  have nf : d.frz.isOwn = false := by cases d <;> rfl
  refine ⟨ms.filter (fun m => decide (m ≠ n)), ⟨S.ev.less less (keep b S.ev.bm bn), ⟨by rw [List.length_set, S.env.len], fun j x z => ?_, fun j x z o1 => ?_, fun j l m x y hjl z1 o1 z2 o2 e3 e4 => ?_, S.env.kc, S.env.kf.mono up⟩, S.bc, fun c hc => keep c (S.cm c hc) (by have := S.clt c hc; omega), S.clt, S.ext, fun j x m z o1 e2 => ?_⟩, up⟩
  · rcases get_set z with ⟨rfl, ex, _⟩ | ⟨hj, z2⟩
    · cases ex
      obtain ⟨v, e2, r⟩ := S.env.at_ i d hp
      rw [e1] at e2
      cases e2
      refine ⟨_, e1, ?_⟩
      cases d with
      | own ds => obtain ⟨n', xs, ez, nb, g, r⟩ := r; cases ez; exact ⟨n, xs, rfl, TagOk.none _, msk_some.mpr ⟨nin, g⟩, r.mono up⟩
      | ownd ds => obtain ⟨n', xs, ez, nb, g, r⟩ := r; cases ez; exact ⟨n, xs, rfl, TagOk.none _, msk_some.mpr ⟨nin, g⟩, r.mono up⟩
      | _ => cases ho
    · obtain ⟨v, e2, r⟩ := S.env.at_ j x z2
      refine ⟨v, e2, ?_⟩
      cases x with
      | own ds => obtain ⟨n', xs, ez, nb, g, r⟩ := r; exact ⟨n', xs, ez, nb, g, r.mono up⟩
      | ownd ds => obtain ⟨n', xs, ez, nb, g, r⟩ := r; exact ⟨n', xs, ez, nb, g, r.mono up⟩
      | _ => exact IsO.of (Is.mono up r)
  · rcases get_set z with ⟨rfl, ex, _⟩ | ⟨hj, z2⟩
    · cases ex; rw [nf] at o1; cases o1
    · obtain ⟨m, e2, mm⟩ := S.env.own j x z2 o1
      refine ⟨m, e2, keep m mm fun y => ?_⟩
      subst y
      exact S.env.sep i j m d x hj hp ho z2 o1 e1 e2
  · rcases get_set z1 with ⟨rfl, ex, _⟩ | ⟨hj, f1⟩
    · cases ex; rw [nf] at o1; cases o1
    · rcases get_set z2 with ⟨rfl, ex, _⟩ | ⟨hl, f2⟩
      · cases ex; rw [nf] at o2; cases o2
      · exact S.env.sep j l m x y hjl f1 o1 f2 o2 e3 e4
  · rcases get_set z with ⟨rfl, ex, _⟩ | ⟨hj, z2⟩
    · cases ex; rw [nf] at o1; cases o1
    · exact S.new j x m z2 o1 e2
def frzP (p : PEn) (i : Nat) : PEn := match p[i]? with
  | some (some d) => p.set i (some d.frz)
  | _ => p
/-- from here on x is under construction no more -/
def bFrz (i : Nat) (s : BS) : BS where
  c := s.c
  p := fun q p => s.p q (frzP p i)
  ok := fun b h0 cs N ms q p k e h S => by
    dsimp only
    unfold frzP
    cases hp : p[i]? with
    | none => exact s.ok b h0 cs N ms q p k e h S
    | some z =>
      cases z with
      | none => exact s.ok b h0 cs N ms q p k e h S
      | some d =>
        by_cases ho : d.isOwn = true
        · obtain ⟨ms', S', m⟩ := S.frz hp ho
          exact GoS.mo m (s.ok b h0 cs N ms' q _ k e h S')
        · have : d.frz = d := by cases d <;> first | rfl | exact absurd rfl ho
          dsimp only
          rw [this]
          have hl := (List.getElem?_eq_some_iff.mp hp).1
          have : p.set i (some d) = p := by
            have e2 := (List.getElem?_eq_some_iff.mp hp).2
            rw [← e2, List.set_getElem_self]
          rw [this]
          exact s.ok b h0 cs N ms q p k e h S
/-! ### several at once -/
def pPar (is : List Nat) (ds : List D) (p : PEn) : Dr PO := match is, ds with
  | [i, j], [d, d'] => .ret (.nx ((p.set i (some d)).set j (some d')))
  | [i, j, l], [d, d', d''] => .ret (.nx (((p.set i (some d)).set j (some d')).set l (some d'')))
  | _, _ => .stuck
def bPar (is : List Nat) (y : BA) : BS where
  c := fun k => sPar is (y.c k)
  p := fun q p => afterE p (y.p q p) fun ds => if calm ds = true then pPar is ds p else .stuck
  ok := fun b h0 cs N ms q p k e h S => GoS.after S (y.ok b ms N q p k e h S.ev S.env) (F := fun vs h1 => match is, vs with
    | [i, j], [v, w] => .nx ((e.set i (some v)).set j (some w)) h1
    | [i, j, l], [u, v, w] => .nx (((e.set i (some u)).set j (some v)).set l (some w)) h1
    | _, _ => .stuck) (by dsimp only [sPar, afterR]; cases y.c k e h <;> rfl) fun a v h' N' S' x1 r1 => by
    by_cases hc : calm a = true
    · rw [if_pos hc]
      have il := r1.isL hc
      unfold pPar
      split
      · rename_i i j d d'
        obtain ⟨x, _, rfl, i1, y, _, rfl, i2, z⟩ := il
        cases (show _ = _ from z)
        exact GoS.nx ((S'.set i1).set i2) (Mo.refl _ _)
      · rename_i i j l d d' d''
        obtain ⟨x, _, rfl, i1, y, _, rfl, i2, w, _, rfl, i3, z⟩ := il
        cases (show _ = _ from z)
        exact GoS.nx (((S'.set i1).set i2).set i3) (Mo.refl _ _)
      · exact GoS.stuck
    · rw [if_neg hc]; exact GoS.stuck
def nEmp : BN := nLst bNil
/-- a, b = [], [] -/
def bEmp2 (i j : Nat) : BS where
  c := fun _ => sPar [i, j] (xCons (xLst xNil) (xCons (xLst xNil) xNil))
  p := (bSeq (bSetN i nEmp) (bSetN j nEmp)).p
  ok := fun b h0 cs N ms q p k e h S => (bSeq (bSetN i nEmp) (bSetN j nEmp)).ok b h0 cs N ms q p k e h S
def bEmp3 (i j l : Nat) : BS where
  c := fun _ => sPar [i, j, l] (xCons (xLst xNil) (xCons (xLst xNil) (xCons (xLst xNil) xNil)))
  p := (bSeq (bSetN i nEmp) (bSeq (bSetN j nEmp) (bSetN l nEmp))).p
  ok := fun b h0 cs N ms q p k e h S => (bSeq (bSetN i nEmp) (bSeq (bSetN j nEmp) (bSetN l nEmp))).ok b h0 cs N ms q p k e h S
/-! ### loops -/
mutual
theorem Si.put {b : Nat} {h0 : Hh} {cs : List Nat} {N : Nat} {ms : List Nat} {q : PKx} {k : Kx} {h : Hh} : ∀ {t : Tg} {d : D} {v : Val} {p p1 : PEn} {e : En}, Si b h0 cs N ms q p k e h → Is b (msk ms h) d v → pput t d p = some p1 → ∃ e1, t.put v e = some e1 ∧ Si b h0 cs N ms q p1 k e1 h
  | .name i, d, v, p, p1, e, S, r, z => by
    simp only [pput, Option.some.injEq] at z
    subst z
    exact ⟨_, rfl, S.set r⟩
  | .tup ts, .tup ds, v, p, p1, e, S, r, z => by
    obtain ⟨xs, rfl, r⟩ := r
    simp only [pput] at z
    obtain ⟨e1, w, S1⟩ := Si.putL S r z
    exact ⟨e1, by simpa only [Tg.put] using w, S1⟩
  | .tup ts, .non, v, p, p1, e, S, r, z => by simp [pput] at z
  | .tup ts, .bl _, v, p, p1, e, S, r, z => by simp [pput] at z
  | .tup ts, .int _, v, p, p1, e, S, r, z => by simp [pput] at z
  | .tup ts, .str _, v, p, p1, e, S, r, z => by simp [pput] at z
  | .tup ts, .ty _, v, p, p1, e, S, r, z => by simp [pput] at z
  | .tup ts, .ref _, v, p, p1, e, S, r, z => by simp [pput] at z
  | .tup ts, .lst _ _, v, p, p1, e, S, r, z => by simp [pput] at z
  | .tup ts, .dct _ _, v, p, p1, e, S, r, z => by simp [pput] at z
  | .tup ts, .scr _, v, p, p1, e, S, r, z => by simp [pput] at z
  | .tup ts, .own _, v, p, p1, e, S, r, z => by simp [pput] at z
  | .tup ts, .ownd _, v, p, p1, e, S, r, z => by simp [pput] at z
  | .tup ts, .box, v, p, p1, e, S, r, z => by simp [pput] at z
theorem Si.putL {b : Nat} {h0 : Hh} {cs : List Nat} {N : Nat} {ms : List Nat} {q : PKx} {k : Kx} {h : Hh} : ∀ {ts : List Tg} {ds : List D} {vs : List Val} {p p1 : PEn} {e : En}, Si b h0 cs N ms q p k e h → IsL b (msk ms h) ds vs → pputL ts ds p = some p1 → ∃ e1, putL ts vs e = some e1 ∧ Si b h0 cs N ms q p1 k e1 h
  | [], [], vs, p, p1, e, S, r, z => by
    cases (show _ = _ from r)
    simp only [pputL, Option.some.injEq] at z
    subst z
    exact ⟨e, by simp only [EX.putL], S⟩
  | t :: ts, d :: ds, vs, p, p1, e, S, ⟨x, r, ev, ix, ir⟩, z => by
    subst ev
    simp only [pputL] at z
    obtain ⟨p2, z1, z2⟩ := Option.bind_eq_some_iff.mp z
    obtain ⟨e2, w1, S2⟩ := Si.put S ix z1
    obtain ⟨e1, w2, S1⟩ := Si.putL S2 ir z2
    exact ⟨e1, by simp only [EX.putL, w1, Option.bind_some, w2], S1⟩
  | [], _ :: _, vs, p, p1, e, S, r, z => by simp [pputL] at z
  | _ :: _, [], vs, p, p1, e, S, r, z => by simp [pputL] at z
end
def bAsg (t : Tg) (x : BE) : BS where
  c := fun k => sAsg t (x.c k)
  p := fun q p => afterE p (x.p q p) fun d => if d.isOwn = true then .stuck else match pput t d p with
    | some p1 => .ret (.nx p1)
    | none => .stuck
  ok := fun b h0 cs N ms q p k e h S => GoS.after S (x.ok b ms N q p k e h S.ev S.env) (F := fun v h1 => match t.put v e with | some e1 => .nx e1 h1 | none => .stuck) (by dsimp only [sAsg, afterR]; cases x.c k e h <;> rfl) fun a v h' N' S' x1 r1 => by
    by_cases ho : a.isOwn = true
    · rw [if_pos ho]; exact GoS.stuck
    · rw [if_neg ho]
      cases hp : pput t a p with
      | none => exact GoS.stuck
      | some p1 =>
        obtain ⟨e1, z, S1⟩ := S'.put (r1.is (by simpa using ho)) hp
        simp only [z]
        exact GoS.nx S1 (Mo.refl _ _)
def pTurn (t : Dr PO) (f : PEn → Dr PO) : Dr PO := t.bind fun o => match o with
  | .nx p => f p
  | .ct p => f p
  | .bk p => .ret (.nx p)
  | .rt d => .ret (.rt d)
  | .exc c fs p => .ret (.exc c fs p)
@[simp] theorem pTurn_nx (p : PEn) (f : PEn → Dr PO) : pTurn (.ret (.nx p)) f = f p := rfl
@[simp] theorem pTurn_ct (p : PEn) (f : PEn → Dr PO) : pTurn (.ret (.ct p)) f = f p := rfl
@[simp] theorem pTurn_bk (p : PEn) (f : PEn → Dr PO) : pTurn (.ret (.bk p)) f = .ret (.nx p) := rfl
@[simp] theorem pTurn_rt (d : D) (f : PEn → Dr PO) : pTurn (.ret (.rt d)) f = .ret (.rt d) := rfl
@[simp] theorem pTurn_exc (c : Str) (fs : List (Str × D)) (p : PEn) (f : PEn → Dr PO) : pTurn (.ret (.exc c fs p)) f = .ret (.exc c fs p) := rfl
@[simp] theorem pTurn_draw (m : Int) (k : Int → Dr PO) (f : PEn → Dr PO) : pTurn (.draw m k) f = .draw m fun r => pTurn (k r) f := rfl
@[simp] theorem pTurn_stuck (f : PEn → Dr PO) : pTurn .stuck f = .stuck := rfl
def pFor (t : Tg) (body : PEn → Dr PO) : List D → PEn → Dr PO
  | [], p => .ret (.nx p)
  | d :: ds, p => match pput t d p with
    | none => .stuck
    | some p1 => pTurn (body p1) fun p2 => pFor t body ds p2
def aTurn (r : RS) (F : En → Hh → RS) : RS := match r with
  | .nx e2 h2 => F e2 h2
  | .ct e2 h2 => F e2 h2
  | .bk e2 h2 => .nx e2 h2
  | .rt v h2 => .rt v h2
  | .exc c fs e2 h2 => .exc c fs e2 h2
  | .stuck => .stuck
theorem GoS.turn {b : Nat} {h0 : Hh} {cs : List Nat} {N : Nat} {ms : List Nat} {q : PKx} {k : Kx} {h : Hh} {t : Dr PO} {r : RS} {f : PEn → Dr PO} {F : En → Hh → RS} (g : GoS b h0 cs q k ms h N t r)
    (n : ∀ p' e' h' ms' N', Si b h0 cs N' ms' q p' k e' h' → Mo ms h ms' h' → GoS b h0 cs q k ms' h' N' (f p') (F e' h')) : GoS b h0 cs q k ms h N (pTurn t f) (aTurn r F) := fun P s => by
  obtain ⟨o, N', z, x⟩ := g _ (Safe.bind.mp s)
  cases o with
  | nx p' =>
    obtain ⟨e', h', ms', rfl, S', m'⟩ := x
    obtain ⟨o2, N2, z2, y⟩ := n p' e' h' ms' N' S' m' P z
    exact ⟨o2, N2, z2, y.mo m'⟩
  | ct p' =>
    obtain ⟨e', h', ms', rfl, S', m'⟩ := x
    obtain ⟨o2, N2, z2, y⟩ := n p' e' h' ms' N' S' m' P z
    exact ⟨o2, N2, z2, y.mo m'⟩
  | bk p' => obtain ⟨e', h', ms', rfl, S', m'⟩ := x; exact ⟨_, N', z, e', h', ms', rfl, S', m'⟩
  | rt d => obtain ⟨v, h', rfl, f, i⟩ := x; exact ⟨_, N', z, v, h', rfl, f, i⟩
  | exc c fs p' => obtain ⟨vs, e', h', ms', rfl, S', m', f⟩ := x; exact ⟨_, N', z, vs, e', h', ms', rfl, S', m', f⟩
theorem for_go {it : Itn} {t : Tg} {body : BS} {b : Nat} {h0 : Hh} {cs : List Nat} {q : PKx} {k : Kx} : ∀ (ds : List D) (vs : List Val) (N : Nat) (ms : List Nat) (p : PEn) (e : En) (h : Hh), Si b h0 cs N ms q p k e h → IsL b (msk ms h) ds vs → (∀ n xs, it = .live n xs → msk ms h n = some (.lst xs)) →
    GoS b h0 cs q k ms h N (pFor t (body.p q) ds p) (forLoop it t (body.c k) vs e h)
  | [], vs, N, ms, p, e, h, S, i, ok => by
    cases (show _ = _ from i)
    unfold forLoop
    rw [if_pos]
    · exact GoS.nx S (Mo.refl _ _)
    · cases it with
      | items xs => trivial
      | live m xs => exact (msk_some.mp (ok m xs rfl)).2
  | d :: ds, vs, N, ms, p, e, h, S, ⟨v, vs', ev, iv, is⟩, ok => by
    subst ev
    unfold forLoop
    rw [if_pos]
    · unfold pFor
      cases hp : pput t d p with
      | none => exact GoS.stuck
      | some p1 =>
        obtain ⟨e1, z, S1⟩ := S.put iv hp
        simp only [z]
        have g := GoS.turn (f := fun p2 => pFor t (body.p q) ds p2) (F := fun e2 h2 => forLoop it t (body.c k) vs' e2 h2) (body.ok b h0 cs N ms q p1 k e1 h S1) fun p' e' h' ms' N' S' m' => for_go ds vs' N' ms' p' e' h' S' (is.mono m') fun n xs z => m' n _ (ok n xs z)
        have : (match body.c k e1 h with | .nx e2 h2 => forLoop it t (body.c k) vs' e2 h2 | .ct e2 h2 => forLoop it t (body.c k) vs' e2 h2 | .bk e2 h2 => .nx e2 h2 | .rt v h2 => .rt v h2 | .exc c fs e2 h2 => .exc c fs e2 h2 | .stuck => .stuck) = aTurn (body.c k e1 h) (fun e2 h2 => forLoop it t (body.c k) vs' e2 h2) := by
          dsimp only [aTurn]
        rw [← this] at g
        exact g
    · cases it with
      | items xs => trivial
      | live m xs => exact (msk_some.mp (ok m xs rfl)).2
noncomputable def bFor (it : BJ) (t : Tg) (body : BS) : BS where
  c := fun k => sFor (it.c k) t (body.c k)
  p := fun q p => afterE p (it.p q p) fun ds => pFor t (body.p q) ds p
  ok := fun b h0 cs N ms q p k e h S => GoS.after S (it.ok b ms N q p k e h S.ev S.env) (F := fun it h1 => forLoop it t (body.c k) it.xs e h1) (by dsimp only [sFor, afterR]; cases it.c k e h <;> rfl) fun a v h' N' S' x1 r1 => for_go a v.xs N' ms p e h' S' r1.1 r1.2
def pWhile (y : PEn → M Bool) (body : PEn → Dr PO) : Nat → PEn → Dr PO
  | 0, _ => .stuck
  | n + 1, p => afterE p (y p) fun c => if c = true then pTurn (body p) fun p2 => pWhile y body n p2 else .ret (.nx p)
theorem while_go {y : BT} {body : BS} {b : Nat} {h0 : Hh} {cs : List Nat} {q : PKx} {k : Kx} : ∀ (n : Nat) (N : Nat) (ms : List Nat) (p : PEn) (e : En) (h : Hh), Si b h0 cs N ms q p k e h → GoS b h0 cs q k ms h N (pWhile (y.p q) (body.p q) n p) (whileLoop (y.c k) (body.c k) n e h)
  | 0, N, ms, p, e, h, S => GoS.stuck
  | n + 1, N, ms, p, e, h, S => by
    refine GoS.after S (y.ok b ms N q p k e h S.ev S.env) (F := fun c h1 => if c = true then aTurn (body.c k e h1) (fun e2 h2 => whileLoop (y.c k) (body.c k) n e2 h2) else .nx e h1) ?_ fun a v h' N' S' x1 r1 => ?_
    · dsimp only [whileLoop, afterR]
      cases y.c k e h with
      | ok c h1 =>
        cases c with
        | true => first | (simp only [if_true, aTurn]; done) | (simp only [if_true, aTurn]; cases body.c k e h1 <;> rfl)
        | false => rfl
      | exc c fs h1 => rfl
      | stuck => rfl
    · cases r1
      cases a with
      | true => exact GoS.turn (body.ok b h0 cs N' ms q p k e h' S') fun p' e' h2 ms' N2 S2 m' => while_go n N2 ms' p' e' h2 S2
      | false => exact GoS.nx S' (Mo.refl _ _)
def bWhile (n : Nat) (y : BT) (body : BS) : BS where
  c := fun k => sWhile n (y.c k) (body.c k)
  p := fun q p => pWhile (y.p q) (body.p q) n p
  ok := fun b h0 cs N ms q p k e h S => while_go n N ms p e h S
end PL

set_option Elab.async false
set_option linter.all false
set_option maxRecDepth 100000
set_option maxHeartbeats 4000000
namespace PL
open PySem L2 EX
/-! ### raise, try -/
theorem isF_zip {b : Nat} {g : Nat → Option Ob} : ∀ {fl : List Str} {ds : List D} {vs : List Val}, IsL b g ds vs → IsF b g (fl.zip ds) (fl.zip vs)
  | [], _, _, _ => by simp only [List.zip_nil_left]; exact .nil
  | _ :: _, [], _, e => by cases (show _ = _ from e); exact .nil
  | _ :: _, _ :: _, _, ⟨x, r, e, a, c⟩ => by subst e; exact .cons ⟨rfl, a⟩ (isF_zip c)
theorem paired_app {α β : Type} {R : α → β → Prop} : ∀ {xs : List α} {ys : List β} {xs' : List α} {ys' : List β}, Paired R xs ys → Paired R xs' ys' → Paired R (xs ++ xs') (ys ++ ys')
  | _, _, _, _, .nil, r => r
  | _, _, _, _, .cons a t, r => .cons a (paired_app t r)
theorem paired_rev {α β : Type} {R : α → β → Prop} : ∀ {xs : List α} {ys : List β}, Paired R xs ys → Paired R xs.reverse ys.reverse
  | _, _, .nil => .nil
  | _, _, .cons a t => by
    rw [List.reverse_cons, List.reverse_cons]
    exact paired_app (paired_rev t) (.cons a .nil)
def bRaise (c : Str) (fl : List Str) (y : BA) : BS where
  c := fun k => sRaise c fl (y.c k)
  p := fun q p => afterE p (y.p q p) fun ds => if calm ds = true ∧ ds.length = fl.length ∧ ds.length ≤ 1000 then .ret (.exc c (fl.zip ds).reverse p) else .stuck
  ok := fun b h0 cs N ms q p k e h S => GoS.after S (y.ok b ms N q p k e h S.ev S.env) (F := fun vs h1 => if vs.length = fl.length ∧ vs.length ≤ 1000 then .exc c (fl.zip vs).reverse e h1 else .stuck) (by dsimp only [sRaise, afterR]; cases y.c k e h <;> rfl) fun a v h' N' S' x1 r1 => by
    by_cases hc : calm a = true ∧ a.length = fl.length ∧ a.length ≤ 1000
    · rw [if_pos hc, if_pos (by rw [← r1.len]; exact hc.2)]
      exact fun P s => ⟨_, N', s, _, e, h', ms, rfl, S', Mo.refl _ _, paired_rev (isF_zip (r1.isL hc.1))⟩
    · rw [if_neg hc]; exact GoS.stuck
structure BH where
  cs : List Str
  slot : Option Nat
  run : BS
def BH.c (x : BH) : Hdl := ⟨x.cs, x.slot, fun c fs => x.run.c (c, fs)⟩
def punS : Option Nat → PEn → PEn
  | none, p => p
  | some i, p => p.set i none
def punslot (i : Option Nat) : PO → Dr PO
  | .nx p => .ret (.nx (punS i p))
  | .bk p => .ret (.bk (punS i p))
  | .ct p => .ret (.ct (punS i p))
  | .rt d => .ret (.rt d)
  | .exc _ _ _ => .stuck
def phandle (ct : Ct) (c : Str) (fs : List (Str × D)) (p : PEn) : List BH → Dr PO
  | [] => .ret (.exc c fs p)
  | x :: r => match anyX ct c x.cs with
    | some true => (x.run.p (c, fs) (punS x.slot p)).bind (punslot x.slot)
    | some false => phandle ct c fs p r
    | none => .stuck
section
variable {b : Nat} {h0 : Hh} {cs : List Nat} {N : Nat} {ms : List Nat} {q q' : PKx} {p : PEn} {k k' : Kx} {e : En} {h : Hh}
theorem Si.unS {i : Option Nat} (S : Si b h0 cs N ms q p k e h) : Si b h0 cs N ms q (punS i p) k (EX.unS i e) h := by
  cases i with
  | none => exact S
  | some i => exact S.unset
theorem Si.ctx (S : Si b h0 cs N ms q p k e h) (hc : q'.1 = k'.1) (hf : IsF b (msk ms h) q'.2 k'.2) : Si b h0 cs N ms q' p k' e h :=
  ⟨S.ev, ⟨S.env.len, S.env.at_, S.env.own, S.env.sep, hc, hf⟩, S.bc, S.cm, S.clt, S.ext, S.new⟩
theorem handle_go {ct : Ct} {c : Str} {fs : List (Str × D)} {vs : List (Str × Val)} (S : Si b h0 cs N ms q p k e h) (f : IsF b (msk ms h) fs vs) : ∀ l : List BH, GoS b h0 cs q k ms h N (phandle ct c fs p l) (handle ct c vs e h (l.map BH.c))
  | [] => fun P s => ⟨_, N, s, vs, e, h, ms, rfl, S, Mo.refl _ _, f⟩
  | x :: r => by
    rw [List.map_cons]
    unfold phandle handle
    show GoS b h0 cs q k ms h N _ (match anyX ct c x.cs with | some true => unslot x.slot (x.run.c (c, vs) (EX.unS x.slot e) h) | some false => handle ct c vs e h (r.map BH.c) | none => .stuck)
    cases anyX ct c x.cs with
    | none => exact GoS.stuck
    | some t =>
      cases t with
      | false => exact handle_go S f r
      | true =>
        intro P s
        obtain ⟨o, N', z, y⟩ := x.run.ok b h0 cs N ms (c, fs) (punS x.slot p) (c, vs) (EX.unS x.slot e) h (S.unS.ctx rfl f) _ (Safe.bind.mp s)
        cases o with
        | nx p' => obtain ⟨e', h', ms', a, S', m'⟩ := y; simp only [a, unslot]; exact ⟨_, N', z, _, h', ms', rfl, (S'.ctx S.env.kc (S.env.kf.mono m')).unS, m'⟩
        | bk p' => obtain ⟨e', h', ms', a, S', m'⟩ := y; simp only [a, unslot]; exact ⟨_, N', z, _, h', ms', rfl, (S'.ctx S.env.kc (S.env.kf.mono m')).unS, m'⟩
        | ct p' => obtain ⟨e', h', ms', a, S', m'⟩ := y; simp only [a, unslot]; exact ⟨_, N', z, _, h', ms', rfl, (S'.ctx S.env.kc (S.env.kf.mono m')).unS, m'⟩
        | rt d => obtain ⟨v, h', a, f, i⟩ := y; simp only [a, unslot]; exact ⟨_, N', z, v, h', rfl, f, i⟩
        | exc c fs p' => exact z.elim
end
def pTry (ct : Ct) (t : Dr PO) (l : List BH) : Dr PO := t.bind fun o => match o with
  | .exc c fs p => phandle ct c fs p l
  | o => .ret o
@[simp] theorem pTry_nx (ct : Ct) (p : PEn) (l : List BH) : pTry ct (.ret (.nx p)) l = .ret (.nx p) := rfl
@[simp] theorem pTry_rt (ct : Ct) (p : D) (l : List BH) : pTry ct (.ret (.rt p)) l = .ret (.rt p) := rfl
@[simp] theorem pTry_exc (ct : Ct) (c : Str) (fs : List (Str × D)) (p : PEn) (l : List BH) : pTry ct (.ret (.exc c fs p)) l = phandle ct c fs p l := rfl
def bTry (ct : Ct) (body : BS) (l : List BH) : BS where
  c := fun k => sTry ct (body.c k) (l.map BH.c)
  p := fun q p => pTry ct (body.p q p) l
  ok := fun b h0 cs N ms q p k e h S P s => by
    obtain ⟨o, N', z, y⟩ := body.ok b h0 cs N ms q p k e h S _ (Safe.bind.mp s)
    simp only [sTry]
    cases o with
    | nx p' => obtain ⟨e', h', ms', a, S', m'⟩ := y; rw [a]; exact ⟨_, N', z, e', h', ms', rfl, S', m'⟩
    | bk p' => obtain ⟨e', h', ms', a, S', m'⟩ := y; rw [a]; exact ⟨_, N', z, e', h', ms', rfl, S', m'⟩
    | ct p' => obtain ⟨e', h', ms', a, S', m'⟩ := y; rw [a]; exact ⟨_, N', z, e', h', ms', rfl, S', m'⟩
    | rt d => obtain ⟨v, h', a, f, i⟩ := y; rw [a]; exact ⟨_, N', z, v, h', rfl, f, i⟩
    | exc c fs p' =>
      obtain ⟨vs, e', h', ms', a, S', m', f⟩ := y
      rw [a]
      exact GoS.mo m' (handle_go S' f l) P z
/-! ### defs -/
def RV : Rl D Val := fun b ms h d v => Is b (msk ms h) d v
structure BF where
  c : Fn
  p : List D → M D
  ok : ∀ b cs N h ds vs, Ev b cs N h → IsL b (msk cs h) ds vs → Go RV b cs h N (p ds) (c vs h)
def bCall (n : Nat) (f : BF) (y : BA) : BE where
  c := fun k => xCall n f.c (y.c k)
  p := fun q p => (y.p q p).bind fun as => if calm as = true ∧ as.length = n then f.p as else .stuck
  ok := fun b ms N q p k e h E V => Go.bind (y.ok b ms N q p k e h E V) fun a v h1 N1 E1 x1 r1 => by
    by_cases hc : calm a = true ∧ a.length = n
    · rw [if_pos hc, if_pos (by rw [← r1.len]; exact hc.2)]
      exact (f.ok b ms N1 h1 a v E1 (r1.isL hc.1)).imp fun a v h' _ r => IsO.of r
    · rw [if_neg hc]; exact Go.stuck
section
variable {b : Nat} {cs : List Nat} {N : Nat} {h h' : Hh}
theorem take_at {α : Type} {l : List α} {n i : Nat} {x : α} (hi : i < n) (e : l[i]? = some x) : (l.take n)[i]? = some x := by
  rw [List.getElem?_take_of_lt hi]; exact e
mutual
theorem Is.cut {n : Nat} (hl : (h'.take n).all (Ob.und n) = true) : ∀ {d : D} {v : Val}, Is b (msk cs h') d v → v.und n = true → Is b (msk cs (h'.take n)) d v
  | .non, _, e, _ => e
  | .bl _, _, e, _ => e
  | .int _, _, e, _ => e
  | .str _, _, e, _ => e
  | .ty _, _, e, _ => e
  | .ref _, _, e, _ => e
  | .box, _, e, _ => e
  | .tup _, _, ⟨xs, e, r⟩, u => by subst e; exact ⟨xs, rfl, IsL.cut hl r (by simpa [Val.und] using u)⟩
  | .scr _, _, ⟨xs, e, r⟩, u => by subst e; exact ⟨xs, rfl, IsL.cut hl r (by simpa [Val.und] using u)⟩
  | .lst _ _, _, ⟨m, xs, e, t, g, r⟩, u => by
    subst e
    have hm : m < n := by simpa [Val.und] using u
    have g2 := take_at hm (msk_some.mp g).2
    have u2 : undL n xs = true := List.all_eq_true.mp hl _ (List.mem_of_getElem? g2)
    exact ⟨m, xs, rfl, t, msk_some.mpr ⟨(msk_some.mp g).1, g2⟩, IsL.cut hl r u2⟩
  | .dct _ _, _, ⟨m, xs, e, t, g, r⟩, u => by
    subst e
    have hm : m < n := by simpa [Val.und] using u
    have g2 := take_at hm (msk_some.mp g).2
    have u2 : undL n (xs.map (·.2)) = true := List.all_eq_true.mp hl _ (List.mem_of_getElem? g2)
    exact ⟨m, xs, rfl, t, msk_some.mpr ⟨(msk_some.mp g).1, g2⟩, IsK.cut hl r u2⟩
  | .own _, _, e, _ => e.elim
  | .ownd _, _, e, _ => e.elim
theorem IsL.cut {n : Nat} (hl : (h'.take n).all (Ob.und n) = true) : ∀ {ds : List D} {xs : List Val}, IsL b (msk cs h') ds xs → undL n xs = true → IsL b (msk cs (h'.take n)) ds xs
  | [], _, e, _ => e
  | _ :: _, _, ⟨x, r, e, a, c⟩, u => by
    subst e
    simp only [undL, Bool.and_eq_true] at u
    exact ⟨x, r, rfl, Is.cut hl a u.1, IsL.cut hl c u.2⟩
theorem IsK.cut {n : Nat} (hl : (h'.take n).all (Ob.und n) = true) : ∀ {ds : List (Key × D)} {xs : List (Key × Val)}, IsK b (msk cs h') ds xs → undL n (xs.map (·.2)) = true → IsK b (msk cs (h'.take n)) ds xs
  | [], _, e, _ => e
  | (_, _) :: _, _, ⟨x, r, e, a, c⟩, u => by
    subst e
    simp only [List.map_cons, undL, Bool.and_eq_true] at u
    exact ⟨x, r, rfl, Is.cut hl a u.1, IsK.cut hl c u.2⟩
end
theorem IsF.cut {n : Nat} (hl : (h'.take n).all (Ob.und n) = true) : ∀ {ds : List (Str × D)} {xs : List (Str × Val)}, IsF b (msk cs h') ds xs → undL n (xs.map (·.2)) = true → IsF b (msk cs (h'.take n)) ds xs
  | _, _, .nil, _ => .nil
  | _, _, .cons a r, u => by
    simp only [List.map_cons, undL, Bool.and_eq_true] at u
    exact .cons ⟨a.1, a.2.cut hl u.1⟩ (IsF.cut hl r u.2)
theorem Fin.cut (F : Fin b h cs N h') (hl : (h'.take h.length).all (Ob.und h.length) = true) (hb : b < h.length) (hc : ∀ c ∈ cs, c < h.length) : Ev b cs N (h'.take h.length) ∧ Ext b h (h'.take h.length) := by
  have len : (h'.take h.length).length = h.length := by rw [List.length_take, Nat.min_eq_left F.ext.le]
  refine ⟨⟨?_, ?_, F.ev.bm, fun m hm => by rw [len]; exact hc m hm⟩, by rw [len]; exact Nat.le_refl _, fun i hi hbi => ?_⟩
  · unfold Cl; rw [len]; exact hl
  · obtain ⟨s, e, g⟩ := F.ev.bx; exact ⟨s, take_at hb e, g⟩
  · rw [List.getElem?_take_of_lt hi]; exact F.ext.at_ i hi hbi
end
theorem start_si {b : Nat} {cs : List Nat} {N : Nat} {h : Hh} {ds : List D} {vs : List Val} (n : Nat) (E : Ev b cs N h) (i : IsL b (msk cs h) ds vs) : Si b h cs N cs ("", []) (ds.map some ++ List.replicate (n - ds.length) none) ("", []) (vs.map some ++ List.replicate (n - vs.length) none) h := by
  have key : ∀ (j : Nat) (d : D), (ds.map some ++ List.replicate (n - ds.length) none)[j]? = some (some d) → ds[j]? = some d := fun j d e => by
    by_cases hj : j < ds.length
    · rw [List.getElem?_append_left (by rw [List.length_map]; exact hj), List.getElem?_map] at e
      cases z : ds[j]? with
      | none => rw [z] at e; cases e
      | some x => rw [z] at e; cases e; rfl
    · rw [List.getElem?_append_right (by rw [List.length_map]; omega), List.getElem?_replicate] at e
      split at e <;> cases e
  have noo : ∀ (j : Nat) (d : D), ds[j]? = some d → d.isOwn = false := fun j d e => by
    obtain ⟨x, _, ix⟩ := i.get e
    exact ix.noOwn
  refine ⟨E, ⟨by rw [List.length_append, List.length_append, List.length_map, List.length_map, List.length_replicate, List.length_replicate, i.len], fun j d e => ?_, fun j d e o => ?_, fun j l m d d' hjl e o => ?_, rfl, .nil⟩, E.bm, fun _ m => m, E.lt, Ext.refl _ _, fun j d n e o => ?_⟩
  · obtain ⟨x, ex, ix⟩ := i.get (key j d e)
    have hj := (List.getElem?_eq_some_iff.mp ex).1
    exact ⟨x, by rw [List.getElem?_append_left (by rw [List.length_map]; exact hj), List.getElem?_map, ex]; rfl, IsO.of ix⟩
  · rw [noo j d (key j d e)] at o; cases o
  · rw [noo j d (key j d e)] at o; cases o
  · rw [noo j d (key j d e)] at o; cases o
def pCall (n : Nat) (body : BS) (ds : List D) : M D := (body.p ("", []) (ds.map some ++ List.replicate (n - ds.length) none)).bind fun o => match o with
  | .rt d => .ret (.ok d)
  | .nx _ => .ret (.ok .non)
  | .exc c fs _ => .ret (.exc c fs)
  | _ => .stuck
def mkF (n : Nat) (body : BS) : BF where
  c := callF n (body.c ("", []))
  p := pCall n body
  ok := fun b cs N h ds vs E i P s => by
    obtain ⟨o, N', z, y⟩ := body.ok b h cs N cs ("", []) _ ("", []) _ h (start_si n E i) _ (Safe.bind.mp s)
    have hb := E.hb
    simp only [callF]
    have fin : ∀ {v : Val} {d : D} {h' : Hh}, Fin b h cs N' h' → Is b (msk cs h') d v → Ev b cs N' (gc h.length v h') ∧ Ext b h (gc h.length v h') ∧ Is b (msk cs (gc h.length v h')) d v := fun {v d h'} F r => by
      unfold gc
      split
      · rename_i hu
        obtain ⟨a, c⟩ := F.cut hu.2 hb E.lt
        exact ⟨a, c, r.cut hu.2 hu.1⟩
      · exact ⟨F.ev, F.ext, r⟩
    cases o with
    | rt d =>
      obtain ⟨v, h', a, F, r⟩ := y
      rw [a]
      obtain ⟨E2, x2, r2⟩ := fin F r
      exact ⟨.ok d, N', z, v, _, rfl, E2, x2, r2⟩
    | nx p' =>
      obtain ⟨e', h', ms', a, S', m'⟩ := y
      rw [a]
      obtain ⟨E2, x2, r2⟩ := fin (v := .non) (d := .non) S'.fin rfl
      exact ⟨.ok .non, N', z, .non, _, rfl, E2, x2, r2⟩
    | exc c fs p' =>
      obtain ⟨ws, e', h', ms', a, S', m', f⟩ := y
      rw [a]
      have f2 : IsF b (msk cs h') fs ws := f.mono fun _ _ z => msk_less S'.cm z
      have : Ev b cs N' (gcX h.length ws h') ∧ Ext b h (gcX h.length ws h') ∧ IsF b (msk cs (gcX h.length ws h')) fs ws := by
        unfold gcX
        split
        · rename_i hu
          obtain ⟨a, c⟩ := S'.fin.cut hu.2 hb E.lt
          exact ⟨a, c, f2.cut hu.2 hu.1⟩
        · exact ⟨S'.fin.ev, S'.fin.ext, f2⟩
      exact ⟨.exc c fs, N', z, ws, _, rfl, this.1, this.2.1, this.2.2⟩
    | bk p' => exact z.elim
    | ct p' => exact z.elim
def noF : BF where
  c := fun _ _ => .stuck
  p := fun _ => .stuck
  ok := fun _ _ _ _ _ _ _ _ => Go.stuck
/-- a def that calls itself -/
def recF (n : Nat) (body : BF → BS) : Nat → BF
  | 0 => noF
  | m + 1 => mkF n (body (recF n body m))
end PL

set_option Elab.async false
set_option linter.all false
set_option maxRecDepth 100000
set_option maxHeartbeats 4000000
namespace PL
open PySem L2 EX
variable {b : Nat} {ms : List Nat} {N : Nat} {h h' : Hh}
/-! ### looks at values -/
def D.list? : D → Option (List D)
  | .lst _ xs => some xs
  | .own xs => some xs
  | _ => none
theorem IsO.list {d : D} {v : Val} {ds : List D} (i : IsO b ms h d v) (e : d.list? = some ds) : ∃ n xs, v = .loc n ∧ h[n]? = some (.lst xs) ∧ IsL b (msk ms h) ds xs := by
  cases d with
  | lst t xs => cases e; obtain ⟨n, xs, rfl, _, g, r⟩ := i; exact ⟨n, xs, rfl, (msk_some.mp g).2, r⟩
  | own xs => cases e; obtain ⟨n, xs, rfl, _, g, r⟩ := i; exact ⟨n, xs, rfl, g, r⟩
  | _ => cases e
def D.dict? : D → Option (List (Key × D))
  | .dct _ xs => some xs
  | .ownd xs => some xs
  | _ => none
theorem IsO.dict {d : D} {v : Val} {ds : List (Key × D)} (i : IsO b ms h d v) (e : d.dict? = some ds) : ∃ n xs, v = .loc n ∧ h[n]? = some (.dct xs) ∧ IsK b (msk ms h) ds xs := by
  cases d with
  | dct t xs => cases e; obtain ⟨n, xs, rfl, _, g, r⟩ := i; exact ⟨n, xs, rfl, (msk_some.mp g).2, r⟩
  | ownd xs => cases e; obtain ⟨n, xs, rfl, _, g, r⟩ := i; exact ⟨n, xs, rfl, g, r⟩
  | _ => cases e
/-- what is no container -/
def D.sc? : D → Option Val
  | .non => some .non
  | .bl b => some (.bl b)
  | .int i => some (.int i)
  | .str s => some (.str s)
  | _ => none
theorem IsO.sc {d : D} {v u : Val} (i : IsO b ms h d v) (e : d.sc? = some u) : v = u := by
  cases d with
  | non => cases e; exact i
  | bl c => cases e; exact i
  | int c => cases e; exact i
  | str c => cases e; exact i
  | _ => cases e
theorem IsO.nsc {d : D} {v : Val} (i : IsO b ms h d v) (e : d.sc? = none) : flatX v = false := by
  cases d with
  | non => cases e
  | bl c => cases e
  | int c => cases e
  | str c => cases e
  | ty n => cases (show _ = _ from i); rfl
  | ref n => cases (show _ = _ from i); rfl
  | tup xs => obtain ⟨vs, rfl, _⟩ := i; rfl
  | scr xs => obtain ⟨vs, rfl, _⟩ := i; rfl
  | lst t xs => obtain ⟨n, vs, rfl, _⟩ := i; rfl
  | own xs => obtain ⟨n, vs, rfl, _⟩ := i; rfl
  | dct t xs => obtain ⟨n, vs, rfl, _⟩ := i; rfl
  | ownd xs => obtain ⟨n, vs, rfl, _⟩ := i; rfl
  | box => cases (show _ = _ from i); rfl
def scL : List D → Option (List Val)
  | [] => some []
  | d :: ds => match d.sc?, scL ds with
    | some v, some vs => some (v :: vs)
    | _, _ => none
theorem IsL.scL : ∀ {ds : List D} {xs vs : List Val}, IsL b (msk ms h) ds xs → PL.scL ds = some vs → xs = vs ∧ xs.all flatX = true
  | [], _, _, e, z => by cases (show _ = _ from e); cases z; exact ⟨rfl, rfl⟩
  | d :: ds, _, vs, ⟨x, r, e, a, c⟩, z => by
    subst e
    simp only [PL.scL] at z
    split at z
    · rename_i v vs' z1 z2
      cases z
      obtain ⟨e2, f2⟩ := IsL.scL c z2
      have e1 := (IsO.of a).sc z1
      subst e1 e2
      refine ⟨rfl, ?_⟩
      rw [List.all_cons, f2, Bool.and_true]
      cases d <;> first | (cases z1; rfl) | cases z1
    · cases z
mutual
def D.py : D → Option PyData
  | .non => some .none
  | .bl b => some (.bool b)
  | .int i => some (.int i)
  | .str s => some (.str s)
  | .tup xs => (pyL xs).map .tuple
  | .lst _ xs => (pyL xs).map .list
  | .own xs => (pyL xs).map .list
  | .scr xs => (pyL xs).map .list
  | .dct _ kvs => (pyK kvs).map .dict
  | .ownd kvs => (pyK kvs).map .dict
  | _ => none
def pyL : List D → Option (List PyData)
  | [] => some []
  | d :: ds => match d.py, pyL ds with
    | some x, some xs => some (x :: xs)
    | _, _ => none
def pyK : List (Key × D) → Option (List (PyData × PyData))
  | [] => some []
  | (k, d) :: ds => match d.py, pyK ds with
    | some x, some xs => some ((keyD k, x) :: xs)
    | _, _ => none
end
theorem zip_maps {α β : Type} : ∀ l : List (α × β), (l.map (·.1)).zip (l.map (·.2)) = l
  | [] => rfl
  | p :: l => by rw [List.map_cons, List.map_cons, List.zip_cons_cons, zip_maps l]
section
variable {g : Nat → Option Ob} (hg : ∀ i o, g i = some o → h[i]? = some o)
include hg
mutual
theorem Is.dat : ∀ {d : D} {v : Val} {x : PyData} {n : Nat}, Is b g d v → d.py = some x → x.depth < n → EX.dat h n v = some x
  | _, _, _, 0, _, _, l => by omega
  | .non, _, _, n + 1, e, z, _ => by cases (show _ = _ from e); simp only [D.py, Option.some.injEq] at z; subst z; rfl
  | .bl _, _, _, n + 1, e, z, _ => by cases (show _ = _ from e); simp only [D.py, Option.some.injEq] at z; subst z; rfl
  | .int _, _, _, n + 1, e, z, _ => by cases (show _ = _ from e); simp only [D.py, Option.some.injEq] at z; subst z; rfl
  | .str _, _, _, n + 1, e, z, _ => by cases (show _ = _ from e); simp only [D.py, Option.some.injEq] at z; subst z; rfl
  | .ty _, _, _, n + 1, e, z, _ => by simp [D.py] at z
  | .ref _, _, _, n + 1, e, z, _ => by simp [D.py] at z
  | .box, _, _, n + 1, e, z, _ => by simp [D.py] at z
  | .own _, _, _, n + 1, e, _, _ => e.elim
  | .ownd _, _, _, n + 1, e, _, _ => e.elim
  | .tup ds, _, _, n + 1, ⟨xs, e, r⟩, z, l => by
    subst e
    simp only [D.py] at z
    obtain ⟨ys, z1, z2⟩ := Option.map_eq_some_iff.mp z
    subst z2
    show (datL (EX.dat h n) xs).map _ = _
    rw [IsL.dat r z1 (by simp only [PyData.depth] at l; omega)]
    rfl
  | .scr ds, _, _, n + 1, ⟨xs, e, r⟩, z, l => by
    subst e
    simp only [D.py] at z
    obtain ⟨ys, z1, z2⟩ := Option.map_eq_some_iff.mp z
    subst z2
    show (datL (EX.dat h n) xs).map _ = _
    rw [IsL.dat r z1 (by simp only [PyData.depth] at l; omega)]
    rfl
  | .lst _ ds, _, _, n + 1, ⟨m, xs, e, _, q, r⟩, z, l => by
    subst e
    simp only [D.py] at z
    obtain ⟨ys, z1, z2⟩ := Option.map_eq_some_iff.mp z
    subst z2
    simp only [EX.dat, hg _ _ q]
    rw [IsL.dat r z1 (by simp only [PyData.depth] at l; omega)]
    rfl
  | .dct _ ds, _, _, n + 1, ⟨m, xs, e, _, q, r⟩, z, l => by
    subst e
    simp only [D.py] at z
    obtain ⟨ys, z1, z2⟩ := Option.map_eq_some_iff.mp z
    subst z2
    simp only [EX.dat, hg _ _ q]
    obtain ⟨e1, e2⟩ := IsK.dat r z1 (n := n) (by simp only [PyData.depth] at l; omega)
    rw [e1, Option.map_some, e2, zip_maps]
theorem IsL.dat : ∀ {ds : List D} {xs : List Val} {ys : List PyData} {n : Nat}, IsL b g ds xs → pyL ds = some ys → PyData.depthAll ys < n → datL (EX.dat h n) xs = some ys
  | [], _, _, n, e, z, _ => by cases (show _ = _ from e); simp only [pyL, Option.some.injEq] at z; subst z; rfl
  | d :: ds, _, _, n, ⟨x, r, e, a, c⟩, z, l => by
    subst e
    simp only [pyL] at z
    split at z
    · rename_i y ys z1 z2
      cases z
      simp only [PyData.depthAll] at l
      unfold datL
      rw [Is.dat a z1 (by omega), IsL.dat c z2 (by omega)]
    · cases z
theorem IsK.dat : ∀ {ds : List (Key × D)} {xs : List (Key × Val)} {ys : List (PyData × PyData)} {n : Nat}, IsK b g ds xs → pyK ds = some ys → PyData.depthKv ys < n → datL (EX.dat h n) (xs.map (·.2)) = some (ys.map (·.2)) ∧ (xs.map fun p => keyD p.1) = ys.map (·.1)
  | [], _, _, n, e, z, _ => by cases (show _ = _ from e); simp only [pyK, Option.some.injEq] at z; subst z; exact ⟨rfl, rfl⟩
  | (k, d) :: ds, _, _, n, ⟨x, r, e, a, c⟩, z, l => by
    subst e
    simp only [pyK] at z
    split at z
    · rename_i y ys z1 z2
      cases z
      simp only [PyData.depthKv] at l
      obtain ⟨e1, e2⟩ := IsK.dat c z2 (n := n) (by omega)
      constructor
      · rw [List.map_cons, List.map_cons]
        unfold datL
        rw [Is.dat a z1 (by omega), e1]
      · rw [List.map_cons, List.map_cons, e2]
    · cases z
end
end
theorem msk_sub (ms : List Nat) (h : Hh) : ∀ i o, msk ms h i = some o → h[i]? = some o := fun i o e => (msk_some.mp e).2
theorem IsO.dat {d : D} {v : Val} {x : PyData} {n : Nat} (i : IsO b ms h d v) (e : d.py = some x) (l : x.depth < n) : EX.dat h n v = some x := by
  cases d with
  | own ds =>
    obtain ⟨m, xs, rfl, _, g, r⟩ := i
    cases n with
    | zero => omega
    | succ n =>
      simp only [D.py] at e
      obtain ⟨ys, z1, z2⟩ := Option.map_eq_some_iff.mp e
      subst z2
      simp only [EX.dat, g]
      rw [IsL.dat (msk_sub ms h) r z1 (by simp only [PyData.depth] at l; omega)]
      rfl
  | ownd ds =>
    obtain ⟨m, xs, rfl, _, g, r⟩ := i
    cases n with
    | zero => omega
    | succ n =>
      simp only [D.py] at e
      obtain ⟨ys, z1, z2⟩ := Option.map_eq_some_iff.mp e
      subst z2
      simp only [EX.dat, g]
      obtain ⟨e1, e2⟩ := IsK.dat (msk_sub ms h) r z1 (n := n) (by simp only [PyData.depth] at l; omega)
      rw [e1, Option.map_some, e2, zip_maps]
  | _ => exact Is.dat (msk_sub ms h) i e l
/-! ### numbers, order -/
/-- an operation that changes nothing and tells a value of no container -/
theorem op_same {r : Option (Val × Hh)} {d : D} {u : Val} (E : Ev b ms N h) (e : r = some (u, h)) (hu : cv d = some u) : ∃ u h', r = some (u, h') ∧ Ev b ms N h' ∧ Ext b h h' ∧ Is b (msk ms h') d u := ⟨u, h, e, E, Ext.refl _ _, cv_is hu⟩
def pAdd : D → D → Option D
  | .int i, .int j => some (.int (i + j))
  | .str x, .str y => if x.length + y.length ≤ sizeLine then some (.str (x ++ y)) else none
  | .tup xs, .tup ys => if xs.length + ys.length ≤ sizeLine then some (.tup (xs ++ ys)) else none
  | _, _ => none
def OAdd : O2 where
  c := oAdd
  p := pAdd
  ok := fun {b ms N h a v a' v' d} E i i' e => by
    unfold pAdd at e
    split at e
    · cases e; cases (show _ = _ from i); cases (show _ = _ from i'); exact op_same E rfl rfl
    · rename_i x y
      split at e
      · rename_i hl
        cases e; cases (show _ = _ from i); cases (show _ = _ from i')
        exact op_same E (by simp only [oAdd, if_pos hl]) rfl
      · cases e
    · rename_i xs ys
      split at e
      · rename_i hl
        cases e; obtain ⟨vs, rfl, r⟩ := i; obtain ⟨ws, rfl, r'⟩ := i'
        exact ⟨.tup (vs ++ ws), h, by simp only [oAdd]; rw [if_pos (by rw [r.len, r'.len]; exact hl)], E, Ext.refl _ _, _, rfl, r.app r'⟩
      · cases e
    · cases e
def pAddL (a b : D) : Option (List D) := match a.list?, b.list? with
  | some xs, some ys => if xs.length + ys.length ≤ sizeLine then some (xs ++ ys) else none
  | _, _ => none
def PAdd : P2 where
  c := oAdd
  p := pAddL
  ok := fun {b ms N h a v a' v' d} E i i' e => by
    unfold pAddL at e
    split at e
    · rename_i xs ys e1 e2
      split at e
      · rename_i hl
        cases e
        obtain ⟨n, vs, rfl, g, r⟩ := i.list e1
        obtain ⟨m, ws, rfl, g', r'⟩ := i'.list e2
        exact ⟨vs ++ ws, by simp only [oAdd, g, g']; rw [if_pos (by rw [r.len, r'.len]; exact hl)], r.app r'⟩
      · cases e
    · cases e
/-- operations on two ints -/
def pInt2 (f : Int → Int → Option D) : D → D → Option D
  | .int i, .int j => f i j
  | _, _ => none
def OInt2 (c : Op2) (f : Int → Int → Option D) (hf : ∀ i j d, f i j = some d → ∃ u, cv d = some u ∧ ∀ h, c (.int i) (.int j) h = some (u, h)) : O2 where
  c := c
  p := pInt2 f
  ok := fun {b ms N h a v a' v' d} E i i' e => by
    unfold pInt2 at e
    split at e
    · cases (show _ = _ from i); cases (show _ = _ from i')
      obtain ⟨u, hu, hc⟩ := hf _ _ _ e
      exact op_same E (hc h) hu
    · cases e
def OSub : O2 := OInt2 oSub (fun i j => some (.int (i - j))) (fun i j d e => by cases e; exact ⟨_, rfl, fun _ => rfl⟩)
def OMod : O2 := OInt2 oMod (fun i j => if 0 < j then some (.int (i % j)) else none) (fun i j d e => by
  split at e
  · rename_i hj; cases e; exact ⟨_, rfl, fun _ => by simp only [oMod, if_pos hj]⟩
  · cases e)
def OFdiv : O2 := OInt2 oFdiv (fun i j => if 0 < j ∧ j.natAbs.log2 < 9000 then some (.int (i / j)) else none) (fun i j d e => by
  split at e
  · rename_i hj; cases e; exact ⟨_, rfl, fun _ => by simp only [oFdiv, if_pos hj]⟩
  · cases e)
def OPow : O2 := OInt2 oPow (fun i j => if 0 ≤ j ∧ j ≤ 1000000 ∧ i.natAbs < 2 ^ 64 then some (.int (i ^ j.toNat)) else none) (fun i j d e => by
  split at e
  · rename_i hj; cases e; exact ⟨_, rfl, fun _ => by simp only [oPow, if_pos hj]⟩
  · cases e)
def OGt : O2 := OInt2 oGt (fun i j => some (.bl (decide (j < i)))) (fun i j d e => by cases e; exact ⟨_, rfl, fun _ => rfl⟩)
def OGe : O2 := OInt2 oGe (fun i j => some (.bl (decide (j ≤ i)))) (fun i j d e => by cases e; exact ⟨_, rfl, fun _ => rfl⟩)
def pLt : D → D → Option D
  | .int i, .int j => some (.bl (decide (i < j)))
  | .str x, .str y => some (.bl (decide (x.cps.toList < y.cps.toList)))
  | _, _ => none
def OLt : O2 where
  c := oLt
  p := pLt
  ok := fun {b ms N h a v a' v' d} E i i' e => by
    unfold pLt at e
    split at e
    · cases e; cases (show _ = _ from i); cases (show _ = _ from i'); exact op_same E rfl rfl
    · cases e; cases (show _ = _ from i); cases (show _ = _ from i'); exact op_same E rfl rfl
    · cases e
def pLe : D → D → Option D
  | .int i, .int j => some (.bl (decide (i ≤ j)))
  | .str x, .str y => some (.bl (!decide (y.cps.toList < x.cps.toList)))
  | _, _ => none
def OLe : O2 where
  c := oLe
  p := pLe
  ok := fun {b ms N h a v a' v' d} E i i' e => by
    unfold pLe at e
    split at e
    · cases e; cases (show _ = _ from i); cases (show _ = _ from i'); exact op_same E rfl rfl
    · cases e; cases (show _ = _ from i); cases (show _ = _ from i'); exact op_same E rfl rfl
    · cases e
def pMul : D → D → Option D
  | .int i, .int j => if (-(2 ^ 64) < i ∧ i < 2 ^ 64) ∨ (-(2 ^ 64) < j ∧ j < 2 ^ 64) then some (.int (i * j)) else none
  | .str x, .int n => if mulOk x n = true then some (.str (Txt.mul x n)) else none
  | .tup xs, .int k => if xs ≠ [] ∧ 2 ≤ k ∧ k ≤ 1000 ∧ xs.length ≤ 1000 then some (.tup (List.replicate k.toNat xs).flatten) else none
  | _, _ => none
theorem IsL.rep {g : Nat → Option Ob} {ds : List D} {xs : List Val} (i : IsL b g ds xs) : ∀ k : Nat, IsL b g (List.replicate k ds).flatten (List.replicate k xs).flatten
  | 0 => rfl
  | k + 1 => by
    rw [List.replicate_succ, List.replicate_succ, List.flatten_cons, List.flatten_cons]
    exact i.app (IsL.rep i k)
def OMul : O2 where
  c := oMul2
  p := pMul
  ok := fun {b ms N h a v a' v' d} E i i' e => by
    unfold pMul at e
    split at e
    · split at e
      · rename_i hc
        cases e; cases (show _ = _ from i); cases (show _ = _ from i')
        exact op_same E (by simp only [oMul2, oMul, if_pos hc]) rfl
      · cases e
    · split at e
      · rename_i hc
        cases e; cases (show _ = _ from i); cases (show _ = _ from i')
        exact op_same E (by simp only [oMul2, if_pos hc]) rfl
      · cases e
    · rename_i xs k
      split at e
      · rename_i hc
        cases e; obtain ⟨vs, rfl, r⟩ := i; cases (show _ = _ from i')
        have hc' : vs ≠ [] ∧ 2 ≤ k ∧ k ≤ 1000 ∧ vs.length ≤ 1000 := by
          refine ⟨fun z => hc.1 ?_, hc.2.1, hc.2.2.1, by rw [r.len]; exact hc.2.2.2⟩
          have := r.len
          rw [z] at this
          exact List.eq_nil_of_length_eq_zero this.symm
        exact ⟨.tup (List.replicate k.toNat vs).flatten, h, by simp only [oMul2, oMul]; rw [if_pos hc'], E, Ext.refl _ _, _, rfl, r.rep _⟩
      · cases e
    · cases e
def ONeg : O1 where
  c := oNeg
  p := fun a => match a with
    | .int i => some (.int (-i))
    | _ => none
  ok := fun {b ms N h a v d} E i e => by
    split at e
    · cases e; cases (show _ = _ from i); exact op_same E rfl rfl
    · cases e
/-! ### == -/
def pscEq (a b : D) : Option Bool := match a.sc?, b.sc? with
  | some v, some w => scEq v w
  | _, _ => none
theorem scEq_flat {v w : Val} (h : flatX v = false ∨ flatX w = false) : scEq v w = none := by
  rcases h with h | h
  · cases v <;> first | rfl | cases h
  · cases w <;> first | (cases v <;> rfl) | cases h
theorem psc_ok {a a' : D} {v v' : Val} (i : IsO b ms h a v) (i' : IsO b ms h a' v') : scEq v v' = pscEq a a' := by
  unfold pscEq
  cases e : a.sc? with
  | none => exact scEq_flat (.inl (i.nsc e))
  | some u =>
    cases e' : a'.sc? with
    | none => exact scEq_flat (.inr (i'.nsc e'))
    | some u' => rw [i.sc e, i'.sc e']
def pvEq (a b : D) : Option Bool := match pscEq a b with
  | some r => some r
  | none => (match a.py, b.py with
    | some x, some y => if SeqAt.shaped x = true ∧ SeqAt.shaped y = true ∧ x.depth < 40 ∧ y.depth < 40 then some (PyData.eqv x y) else none
    | _, _ => none)
theorem pvEq_ok {a a' : D} {v v' : Val} {r : Bool} (i : IsO b ms h a v) (i' : IsO b ms h a' v') (e : pvEq a a' = some r) : vEq v v' h = some r := by
  unfold vEq
  rw [psc_ok i i']
  unfold pvEq at e
  split at e
  · rename_i q z; first | exact e | (rw [z]; exact e)
  · rename_i z
    try rw [z]
    split at e
    · rename_i x y e1 e2
      split at e
      · rename_i hc
        simp only [i.dat e1 hc.2.2.1, i'.dat e2 hc.2.2.2, hc.1, hc.2.1, and_self, if_true]
        exact e
      · cases e
    · cases e
def plens (a b : D) : Bool := match a.list?, b.list? with
  | some xs, some ys => xs.length != ys.length
  | _, _ => false
theorem unlike_ok {a a' : D} {v v' : Val} (i : IsO b ms h a v) (i' : IsO b ms h a' v') (e : plens a a' = true) : unlike v v' h = true := by
  unfold plens at e
  split at e
  · rename_i xs ys e1 e2
    obtain ⟨n, vs, rfl, g, r⟩ := i.list e1
    obtain ⟨m, ws, rfl, g', r'⟩ := i'.list e2
    simp only [unlike, lensOf, g, g', r.len, r'.len]
    exact e
  · cases e
theorem like_ok {a a' : D} {v v' : Val} {x y : PyData} (i : IsO b ms h a v) (i' : IsO b ms h a' v') (e : plens a a' = false) (ea : a ≠ .box) (eb : a' ≠ .box) : unlike v v' h = false := by
  have key : ∀ {d : D} {u : Val}, IsO b ms h d u → d ≠ .box → lensOf u h = d.list?.map List.length := fun {d u} i nb => by
    cases d with
    | non => cases (show _ = _ from i); rfl
    | bl c => cases (show _ = _ from i); rfl
    | int c => cases (show _ = _ from i); rfl
    | str c => cases (show _ = _ from i); rfl
    | ty c => cases (show _ = _ from i); rfl
    | ref c => cases (show _ = _ from i); rfl
    | box => exact absurd rfl nb
    | tup xs => obtain ⟨vs, rfl, _⟩ := i; rfl
    | scr xs => obtain ⟨vs, rfl, _⟩ := i; rfl
    | lst t xs => obtain ⟨n, vs, rfl, _, g, r⟩ := i; simp only [lensOf, (msk_some.mp g).2, D.list?, Option.map_some, r.len]
    | own xs => obtain ⟨n, vs, rfl, _, g, r⟩ := i; simp only [lensOf, g, D.list?, Option.map_some, r.len]
    | dct t xs => obtain ⟨n, vs, rfl, _, g, r⟩ := i; simp only [lensOf, (msk_some.mp g).2, D.list?, Option.map_none]
    | ownd xs => obtain ⟨n, vs, rfl, _, g, r⟩ := i; simp only [lensOf, g, D.list?, Option.map_none]
  unfold unlike
  rw [key i ea, key i' eb]
  unfold plens at e
  cases h1 : a.list? with
  | none => rfl
  | some xs =>
    cases h2 : a'.list? with
    | none => rfl
    | some ys => rw [h1, h2] at e; exact e
def D.isBox : D → Bool
  | .box => true
  | _ => false
def pEq (a b : D) : Option Bool := if plens a b = true then some false else if a.isBox = true ∨ b.isBox = true then none else pvEq a b
def OEq : O2 where
  c := oEq
  p := fun a b => (pEq a b).map D.bl
  ok := fun {b ms N h a v a' v' d} E i i' e => by
    obtain ⟨r, e1, e2⟩ := Option.map_eq_some_iff.mp e
    subst e2
    have : vEqL v v' h = some r := by
      unfold pEq at e1
      unfold vEqL
      by_cases hl : plens a a' = true
      · rw [if_pos hl] at e1
        rw [if_pos (unlike_ok i i' hl)]
        exact e1
      · rw [if_neg hl] at e1
        split at e1
        · cases e1
        · rename_i nb
          rw [if_neg]
          · exact pvEq_ok i i' e1
          · rw [like_ok (x := .none) (y := .none) i i' (by simpa using hl) (fun z => nb (.inl (by rw [z]; rfl))) (fun z => nb (.inr (by rw [z]; rfl)))]
            exact Bool.false_ne_true
    exact op_same E (by simp only [oEq, this, Option.map_some]) rfl
def ONe : O2 where
  c := oNe
  p := fun a b => (pvEq a b).map fun r => D.bl (!r)
  ok := fun {b ms N h a v a' v' d} E i i' e => by
    obtain ⟨r, e1, e2⟩ := Option.map_eq_some_iff.mp e
    subst e2
    exact op_same E (by simp only [oNe, pvEq_ok i i' e1, Option.map_some]) rfl
end PL

set_option Elab.async false
set_option linter.all false
set_option maxRecDepth 100000
set_option maxHeartbeats 4000000
namespace PL
open PySem L2 EX
variable {b : Nat} {ms : List Nat} {N : Nat} {h h' : Hh}
/-! ### subscripts -/
theorem IsL.atI {g : Nat → Option Ob} {ds : List D} {xs : List Val} {i : Int} {d : D} (r : IsL b g ds xs) (e : L2.atI ds i = some d) : ∃ u, L2.atI xs i = some u ∧ Is b g d u := by
  unfold L2.atI at e ⊢
  rw [r.len]
  cases q : ixN ds.length i with
  | none => rw [q] at e; cases e
  | some j => rw [q] at e; exact r.get (i := j) e
def pIxI : D → Int → Option D
  | .str s, i => if s.length ≤ sizeLine then (L2.atI s.cps.toList i).map fun c => .str ⟨#[c]⟩ else none
  | .tup xs, i => L2.atI xs i
  | .scr xs, i => L2.atI xs i
  | .lst _ xs, i => L2.atI xs i
  | .own xs, i => L2.atI xs i
  | _, _ => none
def pIx : D → D → Option D
  | a, .int i => pIxI a i
  | _, _ => none
def OIx : O2 where
  c := oIx
  p := pIx
  ok := fun {b ms N h a v a' v' d} E i i' e => by
    cases a' with
    | int k =>
      cases (show _ = _ from i')
      have e : pIxI a k = some d := e
      have fin : ∀ {xs : List D} {vs : List Val}, IsL b (msk ms h) xs vs → L2.atI xs k = some d → ∃ u, L2.atI vs k = some u ∧ Is b (msk ms h) d u := fun r e => r.atI e
      cases a with
      | str s =>
        cases (show _ = _ from i)
        simp only [pIxI] at e
        split at e
        · rename_i hl
          obtain ⟨c, e1, e2⟩ := Option.map_eq_some_iff.mp e
          subst e2
          exact op_same E (by simp only [oIx, if_pos hl, e1, Option.map_some]) rfl
        · cases e
      | tup xs => obtain ⟨vs, rfl, r⟩ := i; obtain ⟨u, e1, iu⟩ := fin r e; exact ⟨u, h, by simp only [oIx, e1, Option.map_some], E, Ext.refl _ _, iu⟩
      | scr xs => obtain ⟨vs, rfl, r⟩ := i; obtain ⟨u, e1, iu⟩ := fin r e; exact ⟨u, h, by simp only [oIx, e1, Option.map_some], E, Ext.refl _ _, iu⟩
      | lst t xs => obtain ⟨n, vs, rfl, _, g, r⟩ := i; obtain ⟨u, e1, iu⟩ := fin r e; exact ⟨u, h, by simp only [oIx, (msk_some.mp g).2, e1, Option.map_some], E, Ext.refl _ _, iu⟩
      | own xs => obtain ⟨n, vs, rfl, _, g, r⟩ := i; obtain ⟨u, e1, iu⟩ := fin r e; exact ⟨u, h, by simp only [oIx, g, e1, Option.map_some], E, Ext.refl _ _, iu⟩
      | _ => cases e
    | _ => cases e
/-! ### in, is -/
def pIn (a b : D) : Option Bool := match b with
  | .str z => (match a with
    | .str y => if y.cps.size = 1 then some (decide (y.cps.getD 0 0 ∈ z.cps.toList)) else none
    | _ => none)
  | .tup xs => (match a.sc?, scL xs with
    | some v, some vs => some (inX v vs)
    | _, _ => none)
  | .lst _ xs => (match a.sc?, scL xs with
    | some v, some vs => some (inX v vs)
    | _, _ => none)
  | .own xs => (match a.sc?, scL xs with
    | some v, some vs => some (inX v vs)
    | _, _ => none)
  | _ => none
theorem sc_flat {a : D} {v : Val} (e : a.sc? = some v) : flatX v = true := by
  cases a <;> first | (cases e; rfl) | cases e
theorem pIn_ok {a a' : D} {v v' : Val} {r : Bool} (i : IsO b ms h a v) (i' : IsO b ms h a' v') (e : pIn a a' = some r) : vIn v v' h = some r := by
  have fin : ∀ {xs : List D} {vs : List Val}, IsL b (msk ms h) xs vs → (match a.sc?, scL xs with | some v, some vs => some (inX v vs) | _, _ => none) = some r → flatX v = true ∧ vs.all flatX = true ∧ inX v vs = r := fun {xs vs} r e => by
    split at e
    · rename_i u us e1 e2
      cases e
      obtain ⟨z, f⟩ := r.scL e2
      have z1 := i.sc e1
      subst z z1
      exact ⟨sc_flat e1, f, rfl⟩
    · cases e
  cases a' with
  | str z =>
    cases (show _ = _ from i')
    cases a with
    | str y => cases (show _ = _ from i); exact e
    | _ => cases e
  | tup xs => obtain ⟨vs, rfl, r⟩ := i'; obtain ⟨f1, f2, f3⟩ := fin r e; simp only [vIn, f1, f2, and_self, if_true, f3]
  | lst t xs => obtain ⟨n, vs, rfl, _, g, r⟩ := i'; obtain ⟨f1, f2, f3⟩ := fin r e; simp only [vIn, (msk_some.mp g).2, f1, f2, and_self, if_true, f3]
  | own xs => obtain ⟨n, vs, rfl, _, g, r⟩ := i'; obtain ⟨f1, f2, f3⟩ := fin r e; simp only [vIn, g, f1, f2, and_self, if_true, f3]
  | _ => cases e
def OIn : O2 where
  c := oIn
  p := fun a b => (pIn a b).map D.bl
  ok := fun {b ms N h a v a' v' d} E i i' e => by
    obtain ⟨r, e1, e2⟩ := Option.map_eq_some_iff.mp e
    subst e2
    exact op_same E (by simp only [oIn, pIn_ok i i' e1, Option.map_some]) rfl
def ONotIn : O2 where
  c := oNotIn
  p := fun a b => (pIn a b).map fun r => D.bl (!r)
  ok := fun {b ms N h a v a' v' d} E i i' e => by
    obtain ⟨r, e1, e2⟩ := Option.map_eq_some_iff.mp e
    subst e2
    exact op_same E (by simp only [oNotIn, pIn_ok i i' e1, Option.map_some]) rfl
def D.isNon : D → Bool
  | .non => true
  | _ => false
def pIs (a b : D) : Option Bool := match b with
  | .non => some a.isNon
  | .bl c => (match a with
    | .bl d => some (decide (d = c))
    | _ => none)
  | _ => none
theorem isNon_ok {a : D} {v : Val} (i : IsO b ms h a v) : isNon v = a.isNon := by
  cases a with
  | non => cases (show _ = _ from i); rfl
  | bl c => cases (show _ = _ from i); rfl
  | int c => cases (show _ = _ from i); rfl
  | str c => cases (show _ = _ from i); rfl
  | ty c => cases (show _ = _ from i); rfl
  | ref c => cases (show _ = _ from i); rfl
  | box => cases (show _ = _ from i); rfl
  | tup xs => obtain ⟨vs, rfl, _⟩ := i; rfl
  | scr xs => obtain ⟨vs, rfl, _⟩ := i; rfl
  | lst t xs => obtain ⟨n, vs, rfl, _⟩ := i; rfl
  | own xs => obtain ⟨n, vs, rfl, _⟩ := i; rfl
  | dct t xs => obtain ⟨n, vs, rfl, _⟩ := i; rfl
  | ownd xs => obtain ⟨n, vs, rfl, _⟩ := i; rfl
theorem pIs_ok {a a' : D} {v v' : Val} {r : Bool} (i : IsO b ms h a v) (i' : IsO b ms h a' v') (e : pIs a a' = some r) : vIs v v' = some r := by
  cases a' with
  | non => cases (show _ = _ from i'); simp only [vIs, isNon_ok i]; exact e
  | bl c =>
    cases (show _ = _ from i')
    cases a with
    | bl d => cases (show _ = _ from i); exact e
    | _ => cases e
  | _ => cases e
def OIs : O2 where
  c := oIs
  p := fun a b => (pIs a b).map D.bl
  ok := fun {b ms N h a v a' v' d} E i i' e => by
    obtain ⟨r, e1, e2⟩ := Option.map_eq_some_iff.mp e
    subst e2
    exact op_same E (by simp only [oIs, pIs_ok i i' e1, Option.map_some]) rfl
def OIsNot : O2 where
  c := oIsNot
  p := fun a b => (pIs a b).map fun r => D.bl (!r)
  ok := fun {b ms N h a v a' v' d} E i i' e => by
    obtain ⟨r, e1, e2⟩ := Option.map_eq_some_iff.mp e
    subst e2
    exact op_same E (by simp only [oIsNot, pIs_ok i i' e1, Option.map_some]) rfl
/-! ### builtins -/
theorem RL.one {a : D} {vs : List Val} (r : RL b ms h [a] vs) : ∃ v, vs = [v] ∧ IsO b ms h a v := by
  cases r with
  | cons i r => cases r; exact ⟨_, rfl, i⟩
theorem RL.two {a a' : D} {vs : List Val} (r : RL b ms h [a, a'] vs) : ∃ v v', vs = [v, v'] ∧ IsO b ms h a v ∧ IsO b ms h a' v' := by
  cases r with
  | cons i r => cases r with
    | cons i' r => cases r; exact ⟨_, _, rfl, i, i'⟩
def pLen : D → Option Nat
  | .str s => if s.length ≤ sizeLine then some s.length else none
  | .tup xs => some xs.length
  | .scr xs => some xs.length
  | .lst _ xs => some xs.length
  | .own xs => some xs.length
  | _ => none
def OLen : ON where
  c := oLen
  p := fun as => match as with
    | [a] => (pLen a).map fun (n : Nat) => D.int n
    | _ => none
  ok := fun {b ms N h as vs d} E r e => by
    split at e
    · rename_i a
      obtain ⟨v, rfl, i⟩ := r.one
      obtain ⟨n, e1, e2⟩ := Option.map_eq_some_iff.mp e
      subst e2
      have : vLen v h = some n := by
        cases a with
        | str s => cases (show _ = _ from i); exact e1
        | tup xs => obtain ⟨vs, rfl, q⟩ := i; cases e1; simp only [vLen, q.len]
        | scr xs => obtain ⟨vs, rfl, q⟩ := i; cases e1; simp only [vLen, q.len]
        | lst t xs => obtain ⟨n, vs, rfl, _, g, q⟩ := i; cases e1; simp only [vLen, (msk_some.mp g).2, q.len]
        | own xs => obtain ⟨n, vs, rfl, _, g, q⟩ := i; cases e1; simp only [vLen, g, q.len]
        | _ => cases e1
      exact op_same (u := .int n) E (by simp only [oLen]; rw [this]; rfl) rfl
    · cases e
def tyP : D → Option String
  | .non => some "NoneType"
  | .bl _ => some "bool"
  | .int _ => some "int"
  | .str _ => some "str"
  | .tup _ => some "tuple"
  | .lst _ _ => some "list"
  | .own _ => some "list"
  | .dct _ _ => some "dict"
  | .ownd _ => some "dict"
  | _ => none
theorem tyP_ok {a : D} {v : Val} {t : String} (i : IsO b ms h a v) (e : tyP a = some t) : tyName v h = some t := by
  cases a with
  | non => cases (show _ = _ from i); exact e
  | bl c => cases (show _ = _ from i); exact e
  | int c => cases (show _ = _ from i); exact e
  | str c => cases (show _ = _ from i); exact e
  | tup xs => obtain ⟨vs, rfl, r⟩ := i; exact e
  | lst t xs => obtain ⟨n, vs, rfl, _, g, r⟩ := i; simp only [tyName, (msk_some.mp g).2]; exact e
  | own xs => obtain ⟨n, vs, rfl, _, g, r⟩ := i; simp only [tyName, g]; exact e
  | dct t xs => obtain ⟨n, vs, rfl, _, g, r⟩ := i; simp only [tyName, (msk_some.mp g).2]; exact e
  | ownd xs => obtain ⟨n, vs, rfl, _, g, r⟩ := i; simp only [tyName, g]; exact e
  | _ => cases e
def pIsi (a : D) (T : String) : Option Bool := match tyP a with
  | some t => kitB t T
  | none => none
def OIsi : ON where
  c := oIsi
  p := fun as => match as with
    | [a, .ty T] => (pIsi a T).map D.bl
    | _ => none
  ok := fun {b ms N h as vs d} E r e => by
    split at e
    · rename_i a T
      obtain ⟨v, v', rfl, i, i'⟩ := r.two
      cases (show _ = _ from i')
      obtain ⟨n, e1, e2⟩ := Option.map_eq_some_iff.mp e
      subst e2
      unfold pIsi at e1
      split at e1
      · rename_i t et
        exact op_same E (by simp only [oIsi, tyP_ok i et, e1, Option.map_some]) rfl
      · cases e1
    · cases e
def boolsP : List D → Option (List Bool)
  | [] => some []
  | .bl c :: r => (boolsP r).map (c :: ·)
  | _ :: _ => none
theorem boolsP_ok {g : Nat → Option Ob} : ∀ {ds : List D} {xs : List Val} {bs : List Bool}, IsL b g ds xs → boolsP ds = some bs → bools xs = some bs
  | [], _, _, e, z => by cases (show _ = _ from e); exact z
  | d :: ds, _, bs, ⟨x, r, e, a, c⟩, z => by
    subst e
    cases d with
    | bl q =>
      cases (show _ = _ from a)
      simp only [boolsP] at z
      obtain ⟨bs', z1, z2⟩ := Option.map_eq_some_iff.mp z
      simp only [bools, boolsP_ok c z1, Option.map_some, z2]
    | _ => cases z
def OAll : ON where
  c := oAll
  p := fun as => match as with
    | [a] => (match a.list? with
      | some xs => (boolsP xs).map fun bs => D.bl (bs.all id)
      | none => none)
    | _ => none
  ok := fun {b ms N h as vs d} E r e => by
    split at e
    · rename_i a
      obtain ⟨v, rfl, i⟩ := r.one
      split at e
      · rename_i xs el
        obtain ⟨bs, e1, e2⟩ := Option.map_eq_some_iff.mp e
        subst e2
        obtain ⟨n, ws, rfl, g, q⟩ := i.list el
        exact op_same E (by simp only [oAll, g, boolsP_ok q e1, Option.map_some]) rfl
      · cases e
    · cases e
def OOrd : ON where
  c := oOrd
  p := fun as => match as with
    | [.str s] => if s.length = 1 then some (.int (s.cps.getD 0 0 : Nat)) else none
    | _ => none
  ok := fun {b ms N h as vs d} E r e => by
    split at e
    · rename_i s
      obtain ⟨v, rfl, i⟩ := r.one
      cases (show _ = _ from i)
      split at e
      · rename_i hl
        cases e
        exact op_same E (by simp only [oOrd, if_pos hl]) rfl
      · cases e
    · cases e
def OMax : ON where
  c := oMax
  p := fun as => match as with
    | [.int i, .int j] => some (.int (if j > i then j else i))
    | _ => none
  ok := fun {b ms N h as vs d} E r e => by
    split at e
    · obtain ⟨v, v', rfl, i, i'⟩ := r.two
      cases (show _ = _ from i); cases (show _ = _ from i'); cases e
      exact op_same E rfl rfl
    · cases e
def OMin : ON where
  c := oMin
  p := fun as => match as with
    | [.int i, .int j] => some (.int (if j < i then j else i))
    | _ => none
  ok := fun {b ms N h as vs d} E r e => by
    split at e
    · obtain ⟨v, v', rfl, i, i'⟩ := r.two
      cases (show _ = _ from i); cases (show _ = _ from i'); cases e
      exact op_same E rfl rfl
    · cases e
def OInt : ON where
  c := oInt
  p := fun as => match as with
    | [.int i] => some (.int i)
    | [.bl c] => some (.int (if c then 1 else 0))
    | _ => none
  ok := fun {b ms N h as vs d} E r e => by
    split at e
    · obtain ⟨v, rfl, i⟩ := r.one
      cases (show _ = _ from i); cases e
      exact op_same E rfl rfl
    · obtain ⟨v, rfl, i⟩ := r.one
      cases (show _ = _ from i); cases e
      exact op_same E rfl rfl
    · cases e
def pTuple : D → Option (List D)
  | .tup xs => some xs
  | .lst _ xs => some xs
  | .own xs => some xs
  | _ => none
def OTuple : ON where
  c := oTuple
  p := fun as => match as with
    | [a] => (pTuple a).map D.tup
    | _ => none
  ok := fun {b ms N h as vs d} E r e => by
    split at e
    · rename_i a
      obtain ⟨v, rfl, i⟩ := r.one
      obtain ⟨xs, e1, e2⟩ := Option.map_eq_some_iff.mp e
      subst e2
      cases a with
      | tup ys => cases e1; obtain ⟨vs, rfl, q⟩ := i; exact ⟨.tup vs, h, rfl, E, Ext.refl _ _, vs, rfl, q⟩
      | lst t ys => cases e1; obtain ⟨n, vs, rfl, _, g, q⟩ := i; exact ⟨.tup vs, h, by simp only [oTuple, (msk_some.mp g).2], E, Ext.refl _ _, vs, rfl, q⟩
      | own ys => cases e1; obtain ⟨n, vs, rfl, _, g, q⟩ := i; exact ⟨.tup vs, h, by simp only [oTuple, g], E, Ext.refl _ _, vs, rfl, q⟩
      | _ => cases e1
    · cases e
def PList : PN where
  c := oList
  p := fun as => match as with
    | [a] => pTuple a
    | _ => none
  ok := fun {b ms N h as vs d} E r e => by
    split at e
    · rename_i a
      obtain ⟨v, rfl, i⟩ := r.one
      cases a with
      | tup ys => cases e; obtain ⟨vs, rfl, q⟩ := i; exact ⟨vs, rfl, q⟩
      | lst t ys => cases e; obtain ⟨n, vs, rfl, _, g, q⟩ := i; exact ⟨vs, by simp only [oList, (msk_some.mp g).2], q⟩
      | own ys => cases e; obtain ⟨n, vs, rfl, _, g, q⟩ := i; exact ⟨vs, by simp only [oList, g], q⟩
      | _ => cases e
    · cases e
def pRepr (a : D) : Option Str := match a.py with
  | some x => if x.showable = true ∧ x.shown.length ≤ sizeLine ∧ x.depth < 40 then some x.shown else none
  | none => none
def ORepr : ON where
  c := oRepr
  p := fun as => match as with
    | [a] => (pRepr a).map D.str
    | _ => none
  ok := fun {b ms N h as vs d} E r e => by
    split at e
    · rename_i a
      obtain ⟨v, rfl, i⟩ := r.one
      obtain ⟨s, e1, e2⟩ := Option.map_eq_some_iff.mp e
      subst e2
      unfold pRepr at e1
      split at e1
      · rename_i x ex
        split at e1
        · rename_i hc
          cases e1
          refine op_same E ?_ rfl
          simp only [oRepr, i.dat ex hc.2.2]
          rw [if_pos ⟨hc.1, hc.2.1, by omega⟩]
        · cases e1
      · cases e1
    · cases e
/-! ### texts -/
def txtsP : List D → Option (List Str)
  | [] => some []
  | .str s :: r => (txtsP r).map (s :: ·)
  | _ :: _ => none
theorem txtsP_ok {g : Nat → Option Ob} : ∀ {ds : List D} {xs : List Val} {bs : List Str}, IsL b g ds xs → txtsP ds = some bs → txts xs = some bs
  | [], _, _, e, z => by cases (show _ = _ from e); exact z
  | d :: ds, _, bs, ⟨x, r, e, a, c⟩, z => by
    subst e
    cases d with
    | str q =>
      cases (show _ = _ from a)
      simp only [txtsP] at z
      obtain ⟨bs', z1, z2⟩ := Option.map_eq_some_iff.mp z
      simp only [txts, txtsP_ok c z1, Option.map_some, z2]
    | _ => cases z
def pJoin (s : Str) (a : D) : Option D := match pTuple a with
  | some xs => (match txtsP xs with
    | some ys => if (ys.map (·.length)).sum + ys.length * s.length ≤ 16777216 then some (.str (Txt.join s ys)) else none
    | none => none)
  | none => none
def OJoin : OM where
  c := oJoin
  p := fun a as => match a, as with
    | .str s, [x] => pJoin s x
    | _, _ => none
  ok := fun {b ms N h a v as vs d} E i r e => by
    split at e
    · rename_i s x
      cases (show _ = _ from i)
      obtain ⟨w, rfl, j⟩ := r.one
      unfold pJoin at e
      split at e
      · rename_i xs ex
        split at e
        · rename_i ys ey
          split at e
          · rename_i hl
            cases e
            have : vStrs w h = some ys := by
              cases x with
              | tup zs => cases ex; obtain ⟨vs, rfl, q⟩ := j; exact txtsP_ok q ey
              | lst t zs => cases ex; obtain ⟨n, vs, rfl, _, g, q⟩ := j; simp only [vStrs, (msk_some.mp g).2]; exact txtsP_ok q ey
              | own zs => cases ex; obtain ⟨n, vs, rfl, _, g, q⟩ := j; simp only [vStrs, g]; exact txtsP_ok q ey
              | _ => cases ex
            exact op_same E (by simp only [oJoin, this, if_pos hl]) rfl
          · cases e
        · cases e
      · cases e
    · cases e
/-! ### slices -/
theorem IsL.cutX {g : Nat → Option Ob} {ds : List D} {xs : List Val} (r : IsL b g ds xs) (lo hi : Option Int) : IsL b g (EX.cutX ds lo hi) (EX.cutX xs lo hi) := by
  unfold EX.cutX
  rw [r.len]
  exact (r.drop _).take _
def OSl : OL where
  c := oSl
  p := fun a lo hi => match a with
    | .tup xs => some (.tup (EX.cutX xs lo hi))
    | .str s => if s.length ≤ sizeLine then some (.str (cutS s lo hi)) else none
    | _ => none
  ok := fun {b ms N h a v lo hi d} E i e => by
    split at e
    · cases e; obtain ⟨vs, rfl, r⟩ := i; exact ⟨_, h, rfl, E, Ext.refl _ _, _, rfl, r.cutX lo hi⟩
    · cases (show _ = _ from i)
      split at e
      · rename_i hl; cases e; exact op_same E (by simp only [oSl, if_pos hl]) rfl
      · cases e
    · cases e
def PSl : PS where
  c := oSl
  p := fun a lo hi => a.list?.map fun xs => EX.cutX xs lo hi
  ok := fun {b ms N h a v lo hi d} E i e => by
    obtain ⟨xs, e1, e2⟩ := Option.map_eq_some_iff.mp e
    subst e2
    obtain ⟨n, vs, rfl, g, r⟩ := i.list e1
    exact ⟨_, by simp only [oSl, g], r.cutX lo hi⟩
/-! ### draws -/
structure TakeOk (G : Fn) : Prop where
  run : ∀ {h : Hh} {b : Nat} {s : Bs} {m : Int}, h[b]? = some (bx s) → Gd s → s.z + 1 ≤ zM → 0 < m → m.natAbs.log2 < 9000 →
    ∃ (r : Int) (s' : Bs), G [.loc b, .int m] h = .ok (.int r) (h.set b (bx s')) ∧ 0 ≤ r ∧ r < m ∧ Gd s' ∧ s'.z ≤ s.z + 1
def pTake : List D → M D
  | [.box, .int m] => .draw m fun r => .ret (.ok (.int r))
  | _ => .stuck
def takeF (G : Fn) (T : TakeOk G) : BF where
  c := G
  p := pTake
  ok := fun b cs N h ds vs E i P s => by
    unfold pTake at s
    split at s
    · rename_i m
      obtain ⟨x, _, rfl, i1, y, _, rfl, i2, z⟩ := i
      cases (show _ = _ from i1)
      cases (show _ = _ from i2)
      cases (show _ = _ from z)
      obtain ⟨m0, ml, N', rfl, sk⟩ := s
      obtain ⟨st, e, g, hz⟩ := E.bx
      obtain ⟨r, s', er, r0, r1, g', z'⟩ := T.run e g (by omega) m0 ml
      refine ⟨.ok (.int r), N', sk r r0 r1, .int r, _, er, ⟨?_, ⟨s', List.getElem?_set_self E.hb, g', by omega⟩, E.bm, fun m hm => by rw [List.length_set]; exact E.lt m hm⟩, ⟨by rw [List.length_set]; exact Nat.le_refl _, fun i hi hb => by rw [List.getElem?_set_ne (Ne.symm hb)]⟩, rfl⟩
      exact E.cl.put b rfl
    · exact s.elim
end PL

set_option Elab.async false
set_option linter.all false
set_option maxRecDepth 100000
set_option maxHeartbeats 4000000
namespace PL
open PySem L2 EX
variable {b : Nat} {ms : List Nat} {N : Nat} {h h' : Hh}
/-! ### operations that tell a list or something else -/
theorem O2.orN_ok (o : O2) (o' : P2) (hc : o'.c = o.c) {a v a' v' d} (E : Ev b ms N h) (i : IsO b ms h a v) (i' : IsO b ms h a' v') (e : (match o'.p a a' with | some ds => some (.lst none ds) | none => o.p a a') = some d) :
    ∃ u h', o.c v v' h = some (u, h') ∧ Ev b ms N h' ∧ Ext b h h' ∧ Is b (msk ms h') d u := by
  split at e
  · rename_i ds e1
    cases e
    obtain ⟨xs, e2, r⟩ := o'.ok E i i' e1
    obtain ⟨E2, x2, i2⟩ := new_lst E r
    exact ⟨_, _, by rw [← hc]; exact e2, E2, x2, i2⟩
  · exact o.ok E i i' e
def OAddX : O2 where
  c := oAdd
  p := fun a b => match pAddL a b with
    | some ds => some (.lst none ds)
    | none => pAdd a b
  ok := fun E i i' e => O2.orN_ok OAdd PAdd rfl E i i' e
def OListX : ON where
  c := oList
  p := fun as => (PList.p as).map fun ds => .lst none ds
  ok := fun {b ms N h as vs d} E r e => by
    obtain ⟨ds, e1, e2⟩ := Option.map_eq_some_iff.mp e
    subst e2
    obtain ⟨xs, e3, i⟩ := PList.ok E r e1
    obtain ⟨E2, x2, i2⟩ := new_lst E i
    exact ⟨_, _, e3, E2, x2, i2⟩
def OSlX : OL where
  c := oSl
  p := fun a lo hi => match PSl.p a lo hi with
    | some ds => some (.lst none ds)
    | none => OSl.p a lo hi
  ok := fun {b ms N h a v lo hi d} E i e => by
    split at e
    · rename_i ds e1
      cases e
      obtain ⟨xs, e2, r⟩ := PSl.ok E i e1
      obtain ⟨E2, x2, i2⟩ := new_lst E r
      exact ⟨_, _, e2, E2, x2, i2⟩
    · exact OSl.ok E i e
/-! ### dict displays -/
structure BP where
  c : Kx → List (XE × XE)
  p : PKx → PEn → M (List (D × D))
  ok : Sim (fun b ms h ps vs => Paired (fun p v => IsO b ms h p.1 v.1 ∧ IsO b ms h p.2 v.2) ps vs) (fun k => xPairs (c k)) p
def pNil : BP where
  c := fun _ => []
  p := fun _ _ => .ret (.ok [])
  ok := fun b ms N q p k e h E V => Go.ret E .nil
def pCons (x y : BE) (r : BP) : BP where
  c := fun k => (x.c k, y.c k) :: r.c k
  p := fun q p => (x.p q p).bind fun a => (y.p q p).bind fun a' => (r.p q p).bind fun ps => .ret (.ok ((a, a') :: ps))
  ok := fun b ms N q p k e h E V => Go.bind (x.ok b ms N q p k e h E V) fun a v h1 N1 E1 x1 r1 => Go.bind (y.ok b ms N1 q p k e h1 E1 (V.ext x1 E.bm)) fun a' v' h2 N2 E2 x2 r2 =>
    Go.bind (r.ok b ms N2 q p k e h2 E2 (V.ext (x1.trans x2) E.bm)) fun ps vs h3 N3 E3 x3 r3 => Go.ret E3 (.cons ⟨r1.ext (x2.trans x3) E.bm, r2.ext x3 E.bm⟩ r3)
def keyP : D → Option Key
  | .int i => some (.inl i)
  | .str s => some (.inr s)
  | _ => none
def keysP : List (D × D) → Option (List (Key × D))
  | [] => some []
  | (a, d) :: r => match keyP a, keysP r with
    | some k, some ks => if d.isOwn = true then none else some ((k, d) :: ks)
    | _, _ => none
def putP (kvs : List (Key × D)) (k : Key) (v : D) : List (Key × D) :=
  if (kvs.any fun kv => decide (kv.1 = k)) = true then kvs.map (fun kv => if kv.1 = k then (kv.1, v) else kv) else kvs ++ [(k, v)]
def mergeP (kvs more : List (Key × D)) : List (Key × D) := more.foldl (fun acc kv => putP acc kv.1 kv.2) kvs
theorem keyP_ok {d : D} {v : Val} {k : Key} (i : IsO b ms h d v) (e : keyP d = some k) : keyOf v = some k := by
  cases d with
  | int i => cases (show _ = _ from i); exact e
  | str i => cases (show _ = _ from i); exact e
  | _ => cases e
theorem keysP_ok : ∀ {ps : List (D × D)} {vs : List (Val × Val)} {ks : List (Key × D)}, Paired (fun p v => IsO b ms h p.1 v.1 ∧ IsO b ms h p.2 v.2) ps vs → keysP ps = some ks → ∃ ws, keysOf vs = some ws ∧ IsK b (msk ms h) ks ws
  | _, _, _, .nil, e => by cases e; exact ⟨[], rfl, rfl⟩
  | _, _, ks, @Paired.cons _ _ _ (a, d) (v, w) _ _ i r, e => by
    simp only [keysP] at e
    split at e
    · rename_i k ks' e1 e2
      split at e
      · cases e
      · rename_i ho
        cases e
        obtain ⟨ws, e3, i3⟩ := keysP_ok r e2
        exact ⟨(k, w) :: ws, by simp only [keysOf, keyP_ok i.1 e1, e3], _, _, rfl, i.2.is (by simpa using ho), i3⟩
    · cases e
section
variable {g : Nat → Option Ob}
theorem IsK.any {k : Key} : ∀ {ds : List (Key × D)} {xs : List (Key × Val)}, IsK b g ds xs → (xs.any fun kv => decide (kv.1 = k)) = (ds.any fun kv => decide (kv.1 = k))
  | [], _, e => by cases (show _ = _ from e); rfl
  | (_, _) :: _, _, ⟨x, r, e, a, c⟩ => by subst e; rw [List.any_cons, List.any_cons, IsK.any c]
theorem IsK.map {k : Key} {d : D} {v : Val} (i : Is b g d v) : ∀ {ds : List (Key × D)} {xs : List (Key × Val)}, IsK b g ds xs → IsK b g (ds.map fun kv => if kv.1 = k then (kv.1, d) else kv) (xs.map fun kv => if kv.1 = k then (kv.1, v) else kv)
  | [], _, e => by cases (show _ = _ from e); rfl
  | (k', d') :: ds, _, ⟨x, r, e, a, c⟩ => by
    subst e
    rw [List.map_cons, List.map_cons]
    dsimp only
    split
    · exact ⟨v, _, rfl, i, IsK.map i c⟩
    · exact ⟨x, _, rfl, a, IsK.map i c⟩
theorem IsK.snoc {k : Key} {d : D} {v : Val} (i : Is b g d v) : ∀ {ds : List (Key × D)} {xs : List (Key × Val)}, IsK b g ds xs → IsK b g (ds ++ [(k, d)]) (xs ++ [(k, v)])
  | [], _, e => by cases (show _ = _ from e); exact ⟨v, [], rfl, i, rfl⟩
  | (_, _) :: _, _, ⟨x, r, e, a, c⟩ => by subst e; exact ⟨x, r ++ [(k, v)], rfl, a, IsK.snoc i c⟩
theorem IsK.put {k : Key} {d : D} {v : Val} {ds : List (Key × D)} {xs : List (Key × Val)} (i : Is b g d v) (r : IsK b g ds xs) : IsK b g (putP ds k d) (putX xs k v) := by
  unfold putP putX
  rw [r.any]
  split
  · exact r.map i
  · exact r.snoc i
theorem IsK.merge : ∀ {more : List (Key × D)} {more' : List (Key × Val)} {ds : List (Key × D)} {xs : List (Key × Val)}, IsK b g ds xs → IsK b g more more' → IsK b g (mergeP ds more) (mergeX xs more')
  | [], _, _, _, r, e => by cases (show _ = _ from e); exact r
  | (_, _) :: _, _, _, _, r, ⟨x, q, e, a, c⟩ => by subst e; unfold mergeP mergeX; rw [List.foldl_cons, List.foldl_cons]; exact IsK.merge (r.put a) c
end
def bDict (ps : BP) : BE where
  c := fun k => xDict (ps.c k)
  p := fun q p => (ps.p q p).bind fun qs => match keysP qs with
    | some kvs => if kvs.length ≤ 15 then .ret (.ok (.dct none (mergeP [] kvs))) else .stuck
    | none => .stuck
  ok := fun b ms N q p k e h E V => by
    have x0 := Ext.new b h (.dct [])
    have E0 : Ev b (h.length :: ms) N (h ++ [.dct []]) := (E.new rfl).more (by rw [List.length_append]; exact Nat.lt_succ_self _)
    have V0 : Env b (h.length :: ms) (h ++ [.dct []]) q p k e := V.newmask x0 E.bm (Nat.le_refl _)
    have nb : h.length ≠ b := by have := E.hb; omega
    intro P s
    obtain ⟨o, N', z, y⟩ := ps.ok b (h.length :: ms) N q p k e (h ++ [.dct []]) E0 V0 _ (Safe.bind.mp s)
    cases o with
    | exc c fs =>
      obtain ⟨vs, h', e1, E1, x1, f⟩ := y
      refine ⟨.exc c fs, N', z, vs, h', ?_, E1.less (fun m hm => .tail _ hm) E.bm, x0.trans x1, f.mono fun _ _ w => msk_less (fun m hm => .tail _ hm) w⟩
      simp only [xDict, e1, Res.bind_exc]
    | ok qs =>
      obtain ⟨vs, h', e1, E1, x1, r⟩ := y
      dsimp only at z
      cases hk : keysP qs with
      | none => rw [hk] at z; exact z.elim
      | some kvs =>
        rw [hk] at z
        dsimp only at z
        by_cases hl : kvs.length ≤ 15
        · rw [if_pos hl] at z
          obtain ⟨ws, e2, i2⟩ := keysP_ok r hk
          have hn : h.length < (h ++ [Ob.dct []]).length := by rw [List.length_append]; exact Nat.lt_succ_self _
          have g1 : h'[h.length]? = some (.dct []) := by rw [x1.at_ _ hn nb]; exact getNew _ _
          have hn1 : h.length < h'.length := (List.getElem?_eq_some_iff.mp g1).1
          have im := IsK.merge (ds := []) (xs := []) rfl i2
          have hu : (Ob.dct (mergeX [] ws)).und h'.length = true := im.und E1.hb (bel_msk _ _)
          have hm := msk_set (h := h') (o := .dct (mergeX [] ws)) (List.mem_cons_self (a := h.length) (l := ms))
          refine ⟨.ok (.dct none (mergeP [] kvs)), N', z, .loc h.length, h'.set h.length (.dct (mergeX [] ws)), ?_, ⟨E1.cl.put _ hu, ?_, E.bm, fun m hm => by rw [List.length_set]; exact E1.lt m (.tail _ hm)⟩, ⟨?_, fun i hi hb => ?_⟩, ?_⟩
          · simp only [xDict, e1, Res.bind_ok, e2, g1]
            rw [if_pos (by rw [i2.len]; exact hl)]
          · obtain ⟨s', e', g'⟩ := E1.bx
            exact ⟨s', by rw [List.getElem?_set_ne nb]; exact e', g'⟩
          · rw [List.length_set]; omega
          · rw [List.getElem?_set_ne (by omega), x1.at_ i (by omega) hb, List.getElem?_append_left hi]
          · exact ⟨h.length, mergeX [] ws, rfl, TagOk.none _, msk_some.mpr ⟨fun m => Nat.lt_irrefl _ (E.lt _ m), List.getElem?_set_self hn1⟩, (by rw [hm]; exact im : IsK b (msk (h.length :: ms) (h'.set h.length (.dct (mergeX [] ws)))) _ _).mono fun _ _ w => msk_less (fun m hm => .tail _ hm) w⟩
        · rw [if_neg hl] at z; exact z.elim
end PL

set_option Elab.async false
set_option linter.all false
set_option maxRecDepth 100000
set_option maxHeartbeats 4000000
namespace PL
open PySem L2 EX
variable {b : Nat} {ms : List Nat} {N : Nat} {h h' : Hh}
/-! ### dicts and tables -/
def valP (kvs : List (Key × D)) (k : Key) : Option D := (kvs.find? fun kv => decide (kv.1 = k)).map (·.2)
theorem IsK.val {g : Nat → Option Ob} {k : Key} : ∀ {ds : List (Key × D)} {xs : List (Key × Val)}, IsK b g ds xs → (∀ d, valP ds k = some d → ∃ v, valX xs k = some v ∧ Is b g d v) ∧ (valP ds k = none → valX xs k = none)
  | [], _, e => by cases (show _ = _ from e); exact ⟨(fun d e => by cases e), (fun _ => rfl)⟩
  | (k', d') :: ds, _, ⟨x, r, e, a, c⟩ => by
    subst e
    obtain ⟨i1, i2⟩ := IsK.val (k := k) c
    by_cases hk : k' = k
    · have e1 : valP ((k', d') :: ds) k = some d' := by simp [valP, List.find?_cons, hk]
      have e2 : valX ((k', x) :: r) k = some x := by simp [valX, List.find?_cons, hk]
      rw [e1, e2]
      exact ⟨(fun d e => by cases e; exact ⟨x, rfl, a⟩), (fun e => by cases e)⟩
    · have e1 : valP ((k', d') :: ds) k = valP ds k := by simp [valP, List.find?_cons, hk]
      have e2 : valX ((k', x) :: r) k = valX r k := by simp [valX, List.find?_cons, hk]
      rw [e1, e2]
      exact ⟨i1, i2⟩
theorem IsK.valSome {g : Nat → Option Ob} {k : Key} {ds : List (Key × D)} {xs : List (Key × Val)} (i : IsK b g ds xs) : (valX xs k).isSome = (valP ds k).isSome := by
  cases e : valP ds k with
  | none => rw [i.val.2 e]; rfl
  | some d => obtain ⟨v, e1, _⟩ := i.val.1 d e; rw [e1]; rfl
/-- a look into a table's values -/
def flatD : Val → D
  | .bl c => .bl c
  | .int i => .int i
  | .str s => .str s
  | _ => .non
theorem flatD_is {g : Nat → Option Ob} {v : Val} (h : flatX v = true) : Is b g (flatD v) v := by
  cases v <;> first | rfl | cases h
def tabFlat (G : GT) : Bool := G.all fun p => p.2.all fun q => flatX q.2
def pIn2 (G : GT) (a b : D) : Option Bool := match b with
  | .ref x => (match a, G.lookup x with
    | .str z, some kvs => some (kvs.lookup z).isSome
    | _, _ => none)
  | .dct _ kvs => (match keyP a with
    | some k => some (valP kvs k).isSome
    | none => none)
  | .ownd kvs => (match keyP a with
    | some k => some (valP kvs k).isSome
    | none => none)
  | b => pIn a b
theorem pIn2_ok {G : GT} {a a' : D} {v v' : Val} {r : Bool} (i : IsO b ms h a v) (i' : IsO b ms h a' v') (e : pIn2 G a a' = some r) : vIn2 G v v' h = some r := by
  have fin : ∀ {n : Nat} {kvs : List (Key × D)} {xs : List (Key × Val)}, h[n]? = some (.dct xs) → IsK b (msk ms h) kvs xs → (match keyP a with | some k => some (valP kvs k).isSome | none => none) = some r → vIn2 G v (.loc n) h = some r := fun {n kvs xs} g q e => by
    split at e
    · rename_i k ek
      cases e
      simp only [vIn2, g, keyP_ok i ek, q.valSome]
    · cases e
  have old : ∀ {u : Val}, pIn a a' = some r → v' = u → (∀ x, u ≠ .ref x) → (∀ n xs, u = .loc n → h[n]? ≠ some (.dct xs)) → vIn2 G v v' h = some r := fun {u} e eu h1 h2 => by
    subst eu
    have o := pIn_ok i i' e
    cases v' with
    | ref x => exact absurd rfl (h1 x)
    | loc n =>
      simp only [vIn2]
      split
      · rename_i kvs eh; exact absurd eh (h2 n kvs rfl)
      · exact o
    | _ => exact o
  cases a' with
  | ref x =>
    cases (show _ = _ from i')
    simp only [pIn2] at e
    split at e
    · rename_i z kvs el
      cases (show _ = _ from i)
      cases e
      simp only [vIn2, el]
    · cases e
  | dct t kvs => obtain ⟨n, xs, rfl, _, g, q⟩ := i'; exact fin (msk_some.mp g).2 q e
  | ownd kvs => obtain ⟨n, xs, rfl, _, g, q⟩ := i'; exact fin g q e
  | str z => cases (show _ = _ from i'); exact old (u := .str z) e rfl (fun _ z => by cases z) (fun _ _ z => by cases z)
  | tup xs => obtain ⟨vs, rfl, q⟩ := id i'; exact old (u := .tup vs) e rfl (fun _ z => by cases z) (fun _ _ z => by cases z)
  | lst t xs => obtain ⟨n, vs, rfl, _, g, q⟩ := id i'; exact old (u := .loc n) e rfl (fun _ z => by cases z) (fun m ws z => by cases z; rw [(msk_some.mp g).2]; intro w; cases w)
  | own xs => obtain ⟨n, vs, rfl, _, g, q⟩ := id i'; exact old (u := .loc n) e rfl (fun _ z => by cases z) (fun m ws z => by cases z; rw [g]; intro w; cases w)
  | _ => cases e
def OIn2 (G : GT) : O2 where
  c := oIn2 G
  p := fun a b => (pIn2 G a b).map D.bl
  ok := fun {b ms N h a v a' v' d} E i i' e => by
    obtain ⟨r, e1, e2⟩ := Option.map_eq_some_iff.mp e
    subst e2
    exact op_same E (by simp only [oIn2, pIn2_ok i i' e1, Option.map_some]) rfl
def ONotIn2 (G : GT) : O2 where
  c := oNotIn2 G
  p := fun a b => (pIn2 G a b).map fun r => D.bl (!r)
  ok := fun {b ms N h a v a' v' d} E i i' e => by
    obtain ⟨r, e1, e2⟩ := Option.map_eq_some_iff.mp e
    subst e2
    exact op_same E (by simp only [oNotIn2, pIn2_ok i i' e1, Option.map_some]) rfl
def pIx2 (G : GT) (a b : D) : Option D := match a with
  | .ref x => (match b, G.lookup x with
    | .str z, some kvs => (match kvs.lookup z with
      | some v => if flatX v = true then some (flatD v) else none
      | none => none)
    | _, _ => none)
  | .dct _ kvs => (match keyP b with
    | some k => valP kvs k
    | none => none)
  | .ownd kvs => (match keyP b with
    | some k => valP kvs k
    | none => none)
  | a => pIx a b
def OIx2 (G : GT) : O2 where
  c := oIx2 G
  p := pIx2 G
  ok := fun {b ms N h a v a' v' d} E i i' e => by
    have fin : ∀ {n : Nat} {kvs : List (Key × D)} {xs : List (Key × Val)}, h[n]? = some (.dct xs) → IsK b (msk ms h) kvs xs → (match keyP a' with | some k => valP kvs k | none => none) = some d → ∃ u h', oIx2 G (.loc n) v' h = some (u, h') ∧ Ev b ms N h' ∧ Ext b h h' ∧ Is b (msk ms h') d u := fun {n kvs xs} g q e => by
      split at e
      · rename_i k ek
        obtain ⟨u, e1, iu⟩ := q.val.1 d e
        exact ⟨u, h, by simp only [oIx2, g, keyP_ok i' ek, e1, Option.map_some], E, Ext.refl _ _, iu⟩
      · cases e
    have old : ∀ {u : Val}, pIx a a' = some d → v = u → (∀ x, u ≠ .ref x) → (∀ n xs, u = .loc n → h[n]? ≠ some (.dct xs)) → ∃ u h', oIx2 G v v' h = some (u, h') ∧ Ev b ms N h' ∧ Ext b h h' ∧ Is b (msk ms h') d u := fun {u} e eu h1 h2 => by
      subst eu
      obtain ⟨u, h', o, r⟩ := OIx.ok E i i' e
      refine ⟨u, h', ?_, r⟩
      have o : oIx v v' h = some (u, h') := o
      cases v with
      | ref x => exact absurd rfl (h1 x)
      | loc n =>
        simp only [oIx2]
        split
        · rename_i kvs eh; exact absurd eh (h2 n kvs rfl)
        · exact o
      | _ => exact o
    cases a with
    | ref x =>
      cases (show _ = _ from i)
      simp only [pIx2] at e
      split at e
      · rename_i z kvs el
        cases (show _ = _ from i')
        split at e
        · rename_i w ew
          split at e
          · rename_i hf
            cases e
            exact ⟨w, h, by simp only [oIx2, el, ew, Option.map_some], E, Ext.refl _ _, flatD_is hf⟩
          · cases e
        · cases e
      · cases e
    | dct t kvs => obtain ⟨n, xs, rfl, _, g, q⟩ := i; exact fin (msk_some.mp g).2 q e
    | ownd kvs => obtain ⟨n, xs, rfl, _, g, q⟩ := i; exact fin g q e
    | str z => cases (show _ = _ from i); exact old (u := .str z) e rfl (fun _ z => by cases z) (fun _ _ z => by cases z)
    | tup xs => obtain ⟨vs, rfl, q⟩ := id i; exact old (u := .tup vs) e rfl (fun _ z => by cases z) (fun _ _ z => by cases z)
    | scr xs => obtain ⟨vs, rfl, q⟩ := id i; exact old (u := .scr vs) e rfl (fun _ z => by cases z) (fun _ _ z => by cases z)
    | lst t xs => obtain ⟨n, vs, rfl, _, g, q⟩ := id i; exact old (u := .loc n) e rfl (fun _ z => by cases z) (fun m ws z => by cases z; rw [(msk_some.mp g).2]; intro w; cases w)
    | own xs => obtain ⟨n, vs, rfl, _, g, q⟩ := id i; exact old (u := .loc n) e rfl (fun _ z => by cases z) (fun m ws z => by cases z; rw [g]; intro w; cases w)
    | box => 
      cases a' with
      | int k => cases e
      | _ => cases e
    | _ => 
      cases a' with
      | int k => cases e
      | _ => cases e
/-! ### len(set(x)), x[::-1], a, *b = x -/
def keysD : List D → Option (List Key)
  | [] => some []
  | d :: ds => match keyP d, keysD ds with
    | some k, some ks => some (k :: ks)
    | _, _ => none
theorem IsL.keys {ks : List Key} : ∀ {ds : List D} {xs : List Val} {ks : List Key}, IsL b (msk ms h) ds xs → keysD ds = some ks → keysX xs = some ks
  | [], _, _, e, z => by cases (show _ = _ from e); exact z
  | d :: ds, _, ks, ⟨x, r, e, a, c⟩, z => by
    subst e
    simp only [keysD] at z
    split at z
    · rename_i k ks' e1 e2
      cases z
      simp only [keysX, keyP_ok (IsO.of a) e1, IsL.keys (ks := ks') c e2]
    · cases z
def pLenSet (a : D) : Option D := match a.list? with
  | some xs => (match keysD xs with
    | some ks => if ks.length ≤ 1000 then some (.int (metK ks).length) else none
    | none => none)
  | none => none
def OLenSet : O1 where
  c := oLenSet
  p := pLenSet
  ok := fun {b ms N h a v d} E i e => by
    unfold pLenSet at e
    split at e
    · rename_i xs el
      obtain ⟨n, vs, rfl, g, q⟩ := i.list el
      split at e
      · rename_i ks ek
        split at e
        · rename_i hl
          cases e
          exact op_same E (by simp only [oLenSet, g, q.keys (ks := ks) ek, if_pos hl]) rfl
        · cases e
      · cases e
    · cases e
def pRev : D → Option D
  | .tup xs => some (.tup xs.reverse)
  | .lst _ xs => some (.lst none xs.reverse)
  | .own xs => some (.lst none xs.reverse)
  | _ => none
def ORev : O1 where
  c := oRev
  p := pRev
  ok := fun {b ms N h a v d} E i e => by
    cases a with
    | tup xs => cases e; obtain ⟨vs, rfl, q⟩ := i; exact ⟨.tup vs.reverse, h, rfl, E, Ext.refl _ _, _, rfl, q.reverse⟩
    | lst t xs =>
      cases e
      obtain ⟨n, vs, rfl, _, g, q⟩ := i
      obtain ⟨E2, x2, i2⟩ := new_lst E q.reverse
      exact ⟨_, _, by simp only [oRev, (msk_some.mp g).2], E2, x2, i2⟩
    | own xs =>
      cases e
      obtain ⟨n, vs, rfl, _, g, q⟩ := i
      obtain ⟨E2, x2, i2⟩ := new_lst E q.reverse
      exact ⟨_, _, by simp only [oRev, g], E2, x2, i2⟩
    | _ => cases e
def bStar (i j : Nat) (x : BE) : BS where
  c := fun k => sStar i j (x.c k)
  p := fun q p => afterE p (x.p q p) fun d => match d with
    | .tup (v :: vs) => if vs.length < sizeLine then .ret (.nx ((p.set i (some v)).set j (some (.lst none vs)))) else .stuck
    | _ => .stuck
  ok := fun b h0 cs N ms q p k e h S => by
    refine GoS.after S (x.ok b ms N q p k e h S.ev S.env) (F := fun v h1 => match v with | .tup (v :: vs) => if vs.length < sizeLine then .nx ((e.set i (some v)).set j (some (.loc h1.length))) (h1 ++ [.lst vs]) else .stuck | _ => .stuck) ?_ fun a v h' N' S' x1 r1 => ?_
    · dsimp only [sStar, afterR]
      cases x.c k e h with
      | ok v h1 =>
        cases v with
        | tup xs => cases xs <;> rfl
        | _ => rfl
      | exc c fs h1 => rfl
      | stuck => rfl
    · cases a with
      | tup ds =>
        obtain ⟨xs, rfl, il⟩ := r1
        cases ds with
        | nil => exact GoS.stuck
        | cons d ds =>
          obtain ⟨y, ys, rfl, iy, is⟩ := il
          dsimp only
          by_cases hl : ds.length < sizeLine
          · rw [if_pos hl, if_pos (by rw [is.len]; exact hl)]
            obtain ⟨E2, x2, i2⟩ := new_lst S'.ev is
            exact GoS.nx (((S'.next E2 x2).set (iy.ext x2 S.ev.bm)).set i2) (x2.mo S.ev.bm)
          · rw [if_neg hl]; exact GoS.stuck
      | _ => exact GoS.stuck
end PL

set_option Elab.async false
set_option linter.all false
set_option maxRecDepth 100000
set_option maxHeartbeats 4000000
namespace PL
open PySem L2 EX
/-! ### the pure readings, as rewriting rules -/
section
variable {q : PKx} {p : PEn} {i j : Nat} {x y z : BE} {a : BA} {t u : BT} {s s' : BS} {f : BF} {n : Nat}
@[simp] theorem var_p : (bVar i).p q p = match p[i]? with | some (some d) => .ret (.ok d) | _ => .stuck := rfl
@[simp] theorem c_p {d : D} : (bC d).p q p = if isC d = true then .ret (.ok d) else .stuck := rfl
@[simp] theorem isC_non : isC .non = true := by simp [isC]
@[simp] theorem isC_bl {c : Bool} : isC (.bl c) = true := by simp [isC]
@[simp] theorem isC_int {c : Int} : isC (.int c) = true := by simp [isC]
@[simp] theorem isC_str {c : Str} : isC (.str c) = true := by simp [isC]
@[simp] theorem isC_ty {c : String} : isC (.ty c) = true := by simp [isC]
@[simp] theorem isC_ref {c : Str} : isC (.ref c) = true := by simp [isC]
@[simp] theorem isC_tup {c : List D} : isC (.tup c) = isCL c := by simp [isC]
@[simp] theorem isCL_nil : isCL [] = true := by simp [isCL]
@[simp] theorem isCL_cons {d : D} {c : List D} : isCL (d :: c) = (isC d && isCL c) := by simp [isCL]
@[simp] theorem un_p {o : O1} : (bUn o x).p q p = (x.p q p).bind fun a => M.of (o.p a) := rfl
@[simp] theorem bin_p {o : O2} : (bBin o x y).p q p = (x.p q p).bind fun a => (y.p q p).bind fun a' => M.of (o.p a a') := rfl
@[simp] theorem nil_p : bNil.p q p = .ret (.ok []) := rfl
@[simp] theorem cons_p : (bCons x a).p q p = (x.p q p).bind fun d => (a.p q p).bind fun ds => .ret (.ok (d :: ds)) := rfl
@[simp] theorem callN_p {o : ON} : (bCallN o a).p q p = (a.p q p).bind fun as => M.of (o.p as) := rfl
@[simp] theorem meth_p {T : String} {o : OM} : (bMeth T o x a).p q p = (x.p q p).bind fun d => if pTy T d = true then (a.p q p).bind fun as => M.of (o.p d as) else .stuck := rfl
@[simp] theorem sl_p {o : OL} {lo hi : Option BE} : (bSl o x lo hi).p q p = (x.p q p).bind fun d => (pPart lo q p).bind fun l => (pPart hi q p).bind fun u => M.of (o.p d l u) := rfl
@[simp] theorem part_none : pPart none q p = .ret (.ok none) := rfl
@[simp] theorem part_some : pPart (some x) q p = (x.p q p).bind fun d => match d with | .int i => .ret (.ok (some i)) | _ => .stuck := rfl
@[simp] theorem test_p : (bTest x).p q p = (x.p q p).bind fun d => match d with | .bl b => .ret (.ok b) | _ => .stuck := rfl
@[simp] theorem tru_p : (bTru x).p q p = (x.p q p).bind fun d => M.of (pTruth d) := rfl
@[simp] theorem yes_p : bYes.p q p = .ret (.ok true) := rfl
@[simp] theorem andT_p : (bAndT t u).p q p = (t.p q p).bind fun c => if c = true then u.p q p else .ret (.ok false) := rfl
@[simp] theorem orT_p : (bOrT t u).p q p = (t.p q p).bind fun c => if c = true then .ret (.ok true) else u.p q p := rfl
@[simp] theorem notT_p : (bNotT t).p q p = (t.p q p).bind fun c => .ret (.ok (!c)) := rfl
@[simp] theorem andV_p : (bAndV x y).p q p = (x.p q p).bind fun d => match d with | .bl true => y.p q p | .bl false => .ret (.ok (.bl false)) | _ => .stuck := rfl
@[simp] theorem orV_p : (bOrV x y).p q p = (x.p q p).bind fun d => match d with | .bl true => .ret (.ok (.bl true)) | .bl false => y.p q p | _ => .stuck := rfl
@[simp] theorem notV_p : (bNotV x).p q p = (x.p q p).bind fun d => match d with | .bl c => .ret (.ok (.bl (!c))) | _ => .stuck := rfl
@[simp] theorem if_p : (bIf t x y).p q p = (t.p q p).bind fun c => if c = true then x.p q p else y.p q p := rfl
@[simp] theorem chain_p {o o' : O2} : (bChain o o' x y z).p q p = (x.p q p).bind fun a => (y.p q p).bind fun a' => (M.of (o.p a a')).bind fun d => match d with
    | .bl true => (z.p q p).bind fun w => M.of (o'.p a' w)
    | .bl false => .ret (.ok (.bl false))
    | _ => .stuck := rfl
@[simp] theorem tup_p : (bTup a).p q p = (a.p q p).bind fun as => if calm as = true ∧ as.length ≤ sizeLine then .ret (.ok (.tup as)) else .stuck := rfl
@[simp] theorem e_p {b : BN} : b.e.p q p = (b.p q p).bind fun ds => .ret (.ok (.lst none ds)) := rfl
@[simp] theorem nLst_p : (nLst a).p q p = (a.p q p).bind fun as => if calm as = true ∧ as.length ≤ sizeLine then .ret (.ok as) else .stuck := rfl
@[simp] theorem nBin_p {o : P2} : (nBin o x y).p q p = (x.p q p).bind fun a => (y.p q p).bind fun a' => M.of (o.p a a') := rfl
@[simp] theorem nCallN_p {o : PN} : (nCallN o a).p q p = (a.p q p).bind fun as => M.of (o.p as) := rfl
@[simp] theorem nSl_p {o : PS} {lo hi : Option BE} : (nSl o x lo hi).p q p = (x.p q p).bind fun d => (pPart lo q p).bind fun l => (pPart hi q p).bind fun u => M.of (o.p d l u) := rfl
@[simp] theorem nComp_p {xi : BI} {tg : Tg} {vs : List Nat} : (nComp xi tg t x vs).p q p = (xi.p q p).bind fun ds => if ds.length ≤ sizeLine then M.bindS (pcomp tg (t.p q) (x.p q) (pwipe p vs) ds) fun ys => .ret (.ok ys) else .stuck := rfl
@[simp] theorem iter_p : (bIter x).p q p = (x.p q p).bind fun d => M.of (pIter d) := rfl
@[simp] theorem iterF_p : (bIterF x).p q p = (x.p q p).bind fun d => if d.isOwn = true then .stuck else M.of (pIter d) := rfl
@[simp] theorem ji_p {b : BJ} : b.i.p q p = b.p q p := rfl
@[simp] theorem range1_p : (bRange1 x).p q p = (x.p q p).bind fun d => match d with | .int j => if -(2 ^ 62) ≤ j ∧ j < 2 ^ 62 then .ret (.ok (rng 0 j.toNat)) else .stuck | _ => .stuck := rfl
@[simp] theorem fld_p {g : Str} : (bFld g).p q p = M.of (q.2.lookup g) := rfl
@[simp] theorem isE_p {ct : Ct} {d : Str} : (bIsE ct d).p q p = M.of ((subX ct q.1 d).map D.bl) := rfl
@[simp] theorem call_p : (bCall n f a).p q p = (a.p q p).bind fun as => if calm as = true ∧ as.length = n then f.p as else .stuck := rfl
@[simp] theorem dict_p {b : BP} : (bDict b).p q p = (b.p q p).bind fun qs => match keysP qs with | some kvs => if kvs.length ≤ 15 then .ret (.ok (.dct none (mergeP [] kvs))) else .stuck | none => .stuck := rfl
@[simp] theorem pNil_p : pNil.p q p = .ret (.ok []) := rfl
@[simp] theorem pCons_p {b : BP} : (pCons x y b).p q p = (x.p q p).bind fun a => (y.p q p).bind fun a' => (b.p q p).bind fun ps => .ret (.ok ((a, a') :: ps)) := rfl
@[simp] theorem skip_p : bSkip.p q p = .ret (.nx p) := rfl
@[simp] theorem seq_p : (bSeq s s').p q p = pSeq (s.p q p) fun p1 => s'.p q p1 := rfl
@[simp] theorem set_p : (bSet i x).p q p = afterE p (x.p q p) fun d => if d.isOwn = true then .stuck else .ret (.nx (p.set i (some d))) := rfl
@[simp] theorem setN_p {b : BN} : (bSetN i b).p q p = afterE p (b.p q p) fun ds => .ret (.nx (p.set i (some (.own ds)))) := rfl
@[simp] theorem expr_p : (bExpr x).p q p = afterE p (x.p q p) fun _ => .ret (.nx p) := rfl
@[simp] theorem ret_p : (bRet x).p q p = afterE p (x.p q p) fun d => if d.isOwn = true then .stuck else .ret (.rt d) := rfl
@[simp] theorem retN_p : bRetN.p q p = .ret (.rt .non) := rfl
@[simp] theorem retO_p : (bRetO i).p q p = match p[i]? with | some (some d) => .ret (.rt d.frz) | _ => .stuck := rfl
@[simp] theorem ifS_p : (bIfS t s s').p q p = afterE p (t.p q p) fun c => if c = true then s.p q p else s'.p q p := rfl
@[simp] theorem app_p : (bApp i x).p q p = match p[i]? with | some (some (.own ds)) => afterE p (x.p q p) fun d => if d.isOwn = false ∧ ds.length < sizeLine then .ret (.nx (p.set i (some (.own (ds ++ [d]))))) else .stuck | _ => .stuck := rfl
@[simp] theorem frz_p : (bFrz i s).p q p = s.p q (frzP p i) := rfl
@[simp] theorem par_p {is : List Nat} : (bPar is a).p q p = afterE p (a.p q p) fun ds => if calm ds = true then pPar is ds p else .stuck := rfl
@[simp] theorem emp3_p {l : Nat} : (bEmp3 i j l).p q p = .ret (.nx (((p.set i (some (.own []))).set j (some (.own []))).set l (some (.own [])))) := rfl
@[simp] theorem emp2_p : (bEmp2 i j).p q p = .ret (.nx ((p.set i (some (.own []))).set j (some (.own [])))) := rfl
@[simp] theorem for_p {b : BJ} {tg : Tg} : (bFor b tg s).p q p = afterE p (b.p q p) fun ds => pFor tg (s.p q) ds p := rfl
@[simp] theorem star_p : (bStar i j x).p q p = afterE p (x.p q p) fun d => match d with | .tup (v :: vs) => if vs.length < sizeLine then .ret (.nx ((p.set i (some v)).set j (some (.lst none vs)))) else .stuck | _ => .stuck := rfl
@[simp] theorem raise_p {c : Str} {fl : List Str} : (bRaise c fl a).p q p = afterE p (a.p q p) fun ds => if calm ds = true ∧ ds.length = fl.length ∧ ds.length ≤ 1000 then .ret (.exc c (fl.zip ds).reverse p) else .stuck := rfl
@[simp] theorem mkF_p {ds : List D} : (mkF n s).p ds = pCall n s ds := rfl
@[simp] theorem recF_p {b : BF → BS} {m : Nat} {ds : List D} : (recF n b (m + 1)).p ds = pCall n (b (recF n b m)) ds := rfl
@[simp] theorem OEq_p {a b : D} : OEq.p a b = (pEq a b).map D.bl := rfl
@[simp] theorem ONe_p {a b : D} : ONe.p a b = (pvEq a b).map fun r => D.bl (!r) := rfl
@[simp] theorem OLt_p {a b : D} : OLt.p a b = pLt a b := rfl
@[simp] theorem OLe_p {a b : D} : OLe.p a b = pLe a b := rfl
@[simp] theorem OGt_p {a b : D} : OGt.p a b = pInt2 (fun i j => some (.bl (decide (j < i)))) a b := rfl
@[simp] theorem OGe_p {a b : D} : OGe.p a b = pInt2 (fun i j => some (.bl (decide (j ≤ i)))) a b := rfl
@[simp] theorem OSub_p {a b : D} : OSub.p a b = pInt2 (fun i j => some (.int (i - j))) a b := rfl
@[simp] theorem OPow_p {a b : D} : OPow.p a b = pInt2 (fun i j => if 0 ≤ j ∧ j ≤ 1000000 ∧ i.natAbs < 2 ^ 64 then some (.int (i ^ j.toNat)) else none) a b := rfl
@[simp] theorem OMod_p {a b : D} : OMod.p a b = pInt2 (fun i j => if 0 < j then some (.int (i % j)) else none) a b := rfl
@[simp] theorem OIn2_p {G : GT} {a b : D} : (OIn2 G).p a b = (pIn2 G a b).map D.bl := rfl
@[simp] theorem ONotIn2_p {G : GT} {a b : D} : (ONotIn2 G).p a b = (pIn2 G a b).map fun r => D.bl (!r) := rfl
@[simp] theorem OIx2_p {G : GT} {a b : D} : (OIx2 G).p a b = pIx2 G a b := rfl
@[simp] theorem OIs_p {a b : D} : OIs.p a b = (pIs a b).map D.bl := rfl
@[simp] theorem OIsNot_p {a b : D} : OIsNot.p a b = (pIs a b).map fun r => D.bl (!r) := rfl
@[simp] theorem OLen_p {a : D} : OLen.p [a] = (pLen a).map fun (n : Nat) => D.int n := rfl
@[simp] theorem OIsi_p {a : D} {T : String} : OIsi.p [a, .ty T] = (pIsi a T).map D.bl := rfl
@[simp] theorem OAll_p {a : D} : OAll.p [a] = match a.list? with | some xs => (boolsP xs).map fun bs => D.bl (bs.all id) | none => none := rfl
@[simp] theorem ORepr_p {a : D} : ORepr.p [a] = (pRepr a).map D.str := rfl
@[simp] theorem OLenSet_p {a : D} : OLenSet.p a = pLenSet a := rfl
@[simp] theorem ORev_p {a : D} : ORev.p a = pRev a := rfl
@[simp] theorem OTuple_p {a : D} : OTuple.p [a] = (pTuple a).map D.tup := rfl
@[simp] theorem OListX_p {a : D} : OListX.p [a] = (pTuple a).map fun ds => .lst none ds := rfl
@[simp] theorem pCall_eq {ds : List D} : pCall n s ds = (s.p ("", []) (ds.map some ++ List.replicate (n - ds.length) none)).bind fun o => match o with
  | .rt d => .ret (.ok d)
  | .nx _ => .ret (.ok .non)
  | .exc c fs _ => .ret (.exc c fs)
  | _ => .stuck := rfl
end
/-! ### comprehensions that draw nothing -/
theorem pcomp_pure {t : Tg} {tt : PEn → M Bool} {x : PEn → M D} {p : PEn} (T : D → Bool) (F : D → D) : ∀ ds : List D, (∀ d ∈ ds, ∃ p1, pput t d p = some p1 ∧ tt p1 = .ret (.ok (T d)) ∧ (T d = true → x p1 = .ret (.ok (F d)) ∧ (F d).isOwn = false)) → pcomp t tt x p ds = .ret (.ok ((ds.filter T).map F))
  | [], _ => rfl
  | d :: ds, h => by
    obtain ⟨p1, e1, e2, e3⟩ := h d (.head _)
    have ih := pcomp_pure T F ds fun y m => h y (.tail _ m)
    unfold pcomp
    simp only [e1, e2, M.bindS_ok]
    cases hT : T d with
    | false => simp only [Bool.false_eq_true, if_false, ih, List.filter_cons, hT]
    | true =>
      obtain ⟨e4, e5⟩ := e3 hT
      simp only [if_true, e4, M.bindS_ok, e5, Bool.false_eq_true, if_false, ih, List.filter_cons, hT, List.map_cons]
end PL

set_option Elab.async false
set_option linter.all false
set_option maxRecDepth 100000
set_option maxHeartbeats 4000000
namespace PL
open PySem L2 EX
/-! ### operations at plain shapes -/
@[simp] theorem eq_int {a b : Int} : pEq (.int a) (.int b) = some (decide (a = b)) := by simp [pEq, plens, D.list?, D.isBox, pvEq, pscEq, D.sc?, scEq]
@[simp] theorem eq_str {a b : Str} : pEq (.str a) (.str b) = some (decide (a = b)) := by simp [pEq, plens, D.list?, D.isBox, pvEq, pscEq, D.sc?, scEq]
@[simp] theorem ne_int {a b : Int} : pvEq (.int a) (.int b) = some (decide (a = b)) := by simp [pvEq, pscEq, D.sc?, scEq]
@[simp] theorem ne_str {a b : Str} : pvEq (.str a) (.str b) = some (decide (a = b)) := by simp [pvEq, pscEq, D.sc?, scEq]
@[simp] theorem int2 {f : Int → Int → Option D} {a b : Int} : pInt2 f (.int a) (.int b) = f a b := rfl
@[simp] theorem le_int {a b : Int} : pLe (.int a) (.int b) = some (.bl (decide (a ≤ b))) := rfl
@[simp] theorem lt_int {a b : Int} : pLt (.int a) (.int b) = some (.bl (decide (a < b))) := rfl
@[simp] theorem add_int {a b : Int} : OAddX.p (.int a) (.int b) = some (.int (a + b)) := rfl
@[simp] theorem neg_int {a : Int} : ONeg.p (.int a) = some (.int (-a)) := rfl
@[simp] theorem len_tup {xs : List D} : pLen (.tup xs) = some xs.length := rfl
@[simp] theorem len_lst {t : Option Nat} {xs : List D} : pLen (.lst t xs) = some xs.length := rfl
@[simp] theorem len_own {xs : List D} : pLen (.own xs) = some xs.length := rfl
@[simp] theorem truth_bl {c : Bool} : pTruth (.bl c) = some c := rfl
@[simp] theorem own_bl {c : Bool} : (D.bl c).isOwn = false := rfl
@[simp] theorem own_int {c : Int} : (D.int c).isOwn = false := rfl
@[simp] theorem own_str {c : Str} : (D.str c).isOwn = false := rfl
@[simp] theorem own_tup {c : List D} : (D.tup c).isOwn = false := rfl
@[simp] theorem own_lst {t : Option Nat} {c : List D} : (D.lst t c).isOwn = false := rfl
@[simp] theorem own_non : D.non.isOwn = false := rfl
@[simp] theorem own_own {c : List D} : (D.own c).isOwn = true := rfl
@[simp] theorem own_box : D.box.isOwn = false := rfl
@[simp] theorem calm_nil : calm [] = true := rfl
@[simp] theorem calm_cons {d : D} {ds : List D} : calm (d :: ds) = (!d.isOwn && calm ds) := rfl
@[simp] theorem iter_tup {xs : List D} : pIter (.tup xs) = some xs := rfl
@[simp] theorem iter_lst {t : Option Nat} {xs : List D} : pIter (.lst t xs) = some xs := rfl
@[simp] theorem iter_own {xs : List D} : pIter (.own xs) = some xs := rfl
@[simp] theorem iter_str {s : Str} : pIter (.str s) = some (chars s) := rfl
@[simp] theorem list_lst {t : Option Nat} {xs : List D} : (D.lst t xs).list? = some xs := rfl
@[simp] theorem list_own {xs : List D} : (D.own xs).list? = some xs := rfl
theorem atI_nat {α : Type} {xs : List α} {k : Nat} (h : k < xs.length) : L2.atI xs (k : Int) = xs[k]? := by
  unfold L2.atI ixN
  rw [if_pos (by omega), if_pos (by omega)]
  rfl
@[simp] theorem ix_0 {G : GT} {x : D} {xs : List D} : pIx2 G (.tup (x :: xs)) (.int 0) = some x := by
  have := atI_nat (xs := x :: xs) (k := 0) (by simp)
  simpa [pIx2, pIx, pIxI] using this
@[simp] theorem ix_1 {G : GT} {x y : D} {xs : List D} : pIx2 G (.tup (x :: y :: xs)) (.int 1) = some y := by
  have := atI_nat (xs := x :: y :: xs) (k := 1) (by simp)
  simpa [pIx2, pIx, pIxI] using this
@[simp] theorem ix_2 {G : GT} {x y z : D} {xs : List D} : pIx2 G (.tup (x :: y :: z :: xs)) (.int 2) = some z := by
  have := atI_nat (xs := x :: y :: z :: xs) (k := 2) (by simp)
  simpa [pIx2, pIx, pIxI] using this
@[simp] theorem ixl_0 {G : GT} {t : Option Nat} {x : D} {xs : List D} : pIx2 G (.lst t (x :: xs)) (.int 0) = some x := by
  have := atI_nat (xs := x :: xs) (k := 0) (by simp)
  simpa [pIx2, pIx, pIxI] using this
@[simp] theorem ixl_1 {G : GT} {t : Option Nat} {x y : D} {xs : List D} : pIx2 G (.lst t (x :: y :: xs)) (.int 1) = some y := by
  have := atI_nat (xs := x :: y :: xs) (k := 1) (by simp)
  simpa [pIx2, pIx, pIxI] using this
/-! ### a text's signs, one by one -/
def sgD (c : Nat) : D := .str ⟨#[c]⟩
theorem chars_eq (s : Str) : chars s = s.cps.toList.map sgD := rfl
theorem all_chars {tt : PEn → M Bool} {x : PEn → M D} {p : PEn} {i : Nat} {cs : List Nat} (f : Nat → Bool) (ht : ∀ p, tt p = .ret (.ok true)) (hx : ∀ c ∈ cs, x (p.set i (some (sgD c))) = .ret (.ok (.bl (f c)))) : pcomp (.name i) tt x p (cs.map sgD) = .ret (.ok (cs.map fun c => .bl (f c))) := by
  induction cs with
  | nil => rfl
  | cons c cs ih =>
    rw [List.map_cons]
    unfold pcomp
    simp only [pput, ht, M.bindS_ok, if_true, hx c (.head _), D.isOwn, Bool.false_eq_true, if_false, ih fun y m => hx y (.tail _ m), List.map_cons]
theorem bools_map {α : Type} (f : α → Bool) : ∀ cs : List α, boolsP (cs.map fun c => D.bl (f c)) = some (cs.map f)
  | [] => rfl
  | c :: cs => by rw [List.map_cons, boolsP, bools_map f cs]; rfl
theorem some_chars {tt : PEn → M Bool} {x : PEn → M D} {p : PEn} {i : Nat} {cs : List Nat} (f : Nat → Bool) (ht : ∀ c ∈ cs, tt (p.set i (some (sgD c))) = .ret (.ok (f c))) (hx : ∀ c ∈ cs, x (p.set i (some (sgD c))) = .ret (.ok (sgD c))) : pcomp (.name i) tt x p (cs.map sgD) = .ret (.ok ((cs.filter f).map sgD)) := by
  induction cs with
  | nil => rfl
  | cons c cs ih =>
    rw [List.map_cons]
    unfold pcomp
    have i1 := ih (fun y m => ht y (.tail _ m)) (fun y m => hx y (.tail _ m))
    cases hf : f c with
    | true =>
      have no : (sgD c).isOwn = false := rfl
      simp only [pput, ht c (.head _), hf, M.bindS_ok, if_true, hx c (.head _), no, Bool.false_eq_true, if_false, i1, List.filter_cons, List.map_cons]
    | false => simp only [pput, ht c (.head _), hf, M.bindS_ok, Bool.false_eq_true, if_false, i1, List.filter_cons]
@[simp] theorem eq_nil {xs : List D} : pEq (.lst none xs) (.lst none []) = some xs.isEmpty := by
  unfold pEq plens
  simp only [D.list?]
  cases xs with
  | nil =>
    simp [D.isBox]
    unfold pvEq pscEq
    simp [D.sc?, D.py, pyL, SeqAt.shaped, PyData.canLay0, PyData.canLayAll0, PyData.depth, PyData.depthAll, PyData.eqv, PyData.eqvAll]
  | cons x xs => simp
theorem isLen {s : Str} (h : s.length ≤ sizeLine) : (chars s).length ≤ sizeLine := by
  rw [chars, List.length_map, Array.length_toList]; exact h
/-! ### kinds -/
def Dt (d : D) : Bool := (tyP d).isSome
def isK (d : D) (T : String) : Bool := match tyP d with
  | some a => decide (a = T) || (decide (a = "bool") && decide (T = "int"))
  | none => false
theorem kit_tab : ∀ a ∈ ["NoneType", "bool", "int", "str", "tuple", "list", "dict"], ∀ T ∈ ["int", "bool", "str", "tuple", "list", "dict"], kitB a T = some (decide (a = T) || (decide (a = "bool") && decide (T = "int"))) := by decide +kernel
theorem isi_p {d : D} (h : Dt d = true) (T : String) (hT : T ∈ ["int", "bool", "str", "tuple", "list", "dict"] := by decide) : pIsi d T = some (isK d T) := by
  unfold pIsi isK
  cases d with
  | non => exact kit_tab _ (by decide) _ hT
  | bl _ => exact kit_tab _ (by decide) _ hT
  | int _ => exact kit_tab _ (by decide) _ hT
  | str _ => exact kit_tab _ (by decide) _ hT
  | tup _ => exact kit_tab _ (by decide) _ hT
  | lst _ _ => exact kit_tab _ (by decide) _ hT
  | own _ => exact kit_tab _ (by decide) _ hT
  | dct _ _ => exact kit_tab _ (by decide) _ hT
  | ownd _ => exact kit_tab _ (by decide) _ hT
  | _ => cases h
theorem strNo {d : D} (h : ∀ s, d ≠ .str s) : isK d "str" = false := by
  cases d <;> first | rfl | exact absurd rfl (h _)
theorem tupNo {d : D} (h : ∀ s, d ≠ .tup s) : isK d "tuple" = false := by
  cases d <;> first | rfl | exact absurd rfl (h _)
/-- texts are short -/
def Short : D → Prop
  | .str s => s.length ≤ sizeLine
  | _ => True
end PL

set_option Elab.async false
set_option linter.all false
set_option maxRecDepth 100000
set_option maxHeartbeats 4000000
namespace PL
open PySem L2 EX
/-! ### tame data: what == and repr bear -/
structure TmP (n k : Nat) (x : PyData) : Prop where
  lay : x.canLay0 = true
  sh : x.showable = true
  lv : x.leavesShort 40 = true
  dp : x.depth ≤ n
  bk : x.bulk ≤ k
structure TmPs (n k : Nat) (x : List PyData) : Prop where
  lay : PyData.canLayAll0 x = true
  sh : PyData.showableAll x = true
  lv : PyData.leavesShortAll 40 x = true
  dp : PyData.depthAll x ≤ n
  bk : PyData.bulkAll x ≤ x.length * (k + 1)
def Tame (n k : Nat) (d : D) : Prop := ∃ x, d.py = some x ∧ TmP n k x
theorem Tame.le {n k n' k' : Nat} {d : D} (h : Tame n k d) (hn : n ≤ n') (hk : k ≤ k') : Tame n' k' d := by
  obtain ⟨x, e, t⟩ := h
  exact ⟨x, e, t.lay, t.sh, t.lv, Nat.le_trans t.dp hn, Nat.le_trans t.bk hk⟩
theorem tame_list {n k : Nat} : ∀ {ds : List D}, (∀ d ∈ ds, Tame n k d) → ∃ xs, pyL ds = some xs ∧ xs.length = ds.length ∧ TmPs n k xs
  | [], _ => ⟨[], rfl, rfl, rfl, rfl, rfl, Nat.zero_le _, Nat.zero_le _⟩
  | d :: ds, h => by
    obtain ⟨x, e, t⟩ := h d (.head _)
    obtain ⟨xs, e2, l, t2⟩ := tame_list fun y m => h y (.tail _ m)
    refine ⟨x :: xs, by simp only [pyL, e, e2], by simp [l], ?_, ?_, ?_, ?_, ?_⟩
    · simp only [PyData.canLayAll0, t.lay, t2.lay, Bool.and_self]
    · simp only [PyData.showableAll, t.sh, t2.sh, Bool.and_self]
    · simp only [PyData.leavesShortAll, t.lv, t2.lv, Bool.and_self]
    · simp only [PyData.depthAll]; have := t.dp; have := t2.dp; omega
    · simp only [PyData.bulkAll, List.length_cons, Nat.add_mul, Nat.one_mul]; have := t.bk; have := t2.bk; omega
theorem Tame.tup {n k m : Nat} {ds : List D} (h : ∀ d ∈ ds, Tame n k d) (hl : ds.length ≤ m) : Tame (n + 1) (m * (k + 1)) (.tup ds) := by
  obtain ⟨xs, e, l, t⟩ := tame_list h
  refine ⟨.tuple xs, by simp only [D.py, e, Option.map_some], ?_, ?_, ?_, ?_, ?_⟩
  · simpa only [PyData.canLay0] using t.lay
  · simpa only [PyData.showable] using t.sh
  · simpa only [PyData.leavesShort] using t.lv
  · simp only [PyData.depth]; have := t.dp; omega
  · simp only [PyData.bulk]; exact Nat.le_trans t.bk (Nat.mul_le_mul_right _ (by omega))
theorem Tame.lst {n k m : Nat} {tg : Option Nat} {ds : List D} (h : ∀ d ∈ ds, Tame n k d) (hl : ds.length ≤ m) : Tame (n + 1) (m * (k + 1)) (.lst tg ds) := by
  obtain ⟨xs, e, l, t⟩ := tame_list h
  refine ⟨.list xs, by simp only [D.py, e, Option.map_some], ?_, ?_, ?_, ?_, ?_⟩
  · simpa only [PyData.canLay0] using t.lay
  · simpa only [PyData.showable] using t.sh
  · simpa only [PyData.leavesShort] using t.lv
  · simp only [PyData.depth]; have := t.dp; omega
  · simp only [PyData.bulk]; exact Nat.le_trans t.bk (Nat.mul_le_mul_right _ (by omega))
theorem Tame.non {n k : Nat} : Tame n k .non := ⟨.none, rfl, rfl, rfl, rfl, Nat.zero_le _, Nat.zero_le _⟩
theorem Tame.bl {n k : Nat} {c : Bool} : Tame n k (.bl c) := ⟨.bool c, rfl, rfl, rfl, rfl, Nat.zero_le _, Nat.zero_le _⟩
theorem log2_31 {i : Int} (h : i.natAbs < 10 ^ 31) : i.natAbs.log2 < 1920 := by
  by_cases h0 : i.natAbs = 0
  · rw [h0]; decide
  · exact (Nat.log2_lt h0).mpr (Nat.lt_of_lt_of_le h (by decide))
theorem Tame.int {n k : Nat} {i : Int} (h : i.natAbs < 10 ^ 31) : Tame n k (.int i) := by
  refine ⟨.int i, rfl, rfl, ?_, ?_, Nat.zero_le _, Nat.zero_le _⟩
  · simp only [PyData.showable, decide_eq_true_eq]; exact log2_31 h
  · have e := int_text_length_le10 (k := 31) (by decide) h
    simp only [PyData.leavesShort, decide_eq_true_eq]
    show (Str.ofString (toString i)).length ≤ 40
    rw [ofString_length]
    omega
theorem Tame.str {n k : Nat} {s : Str} (h : ∀ c ∈ s.cps.toList, c < 0x110000) (hl : s.length ≤ k) : Tame n k (.str s) := by
  refine ⟨.str s, rfl, ?_, rfl, ?_, Nat.zero_le _, hl⟩
  · simp only [PyData.canLay0, PyData.strOk, Array.all_eq_true, decide_eq_true_eq]
    exact fun i hi => h _ (Array.getElem_mem_toList hi)
  · simp only [PyData.leavesShort, List.all_eq_true, decide_eq_true_eq]
    exact fun c m => Nat.lt_of_lt_of_le (h c m) (by decide)
theorem Tame.repr {n k : Nat} {d : D} (h : Tame n k d) (hn : n < 40) (hk : k ≤ 300000) : ∃ s, pRepr d = some s := by
  obtain ⟨x, e, t⟩ := h
  have l := PyData.shown_le_bulk 40 (by decide) x t.lv
  have l2 : x.shown.length ≤ sizeLine := by
    rw [sizeLine_eq]
    have := t.bk
    omega
  refine ⟨x.shown, ?_⟩
  unfold pRepr
  rw [e]
  exact if_pos ⟨t.sh, l2, Nat.lt_of_le_of_lt t.dp hn⟩
theorem TmP.shaped {n k : Nat} {x : PyData} (t : TmP n k x) (hn : n < 40) : SeqAt.shaped x = true := by
  simp only [SeqAt.shaped, t.lay, Bool.true_and, decide_eq_true_eq]
  have := t.dp; omega
/-- x != [] -/
theorem ne_nil {n k : Nat} {tg : Option Nat} {ds : List D} (h : ∀ d ∈ ds, Tame n k d) (hn : n < 30) : pvEq (.lst tg ds) (.lst none []) = some ds.isEmpty := by
  obtain ⟨x, e, t⟩ := Tame.lst (tg := tg) h (Nat.le_refl _)
  have e1 : (D.lst none []).py = some (.list []) := rfl
  have e0 : ∃ xs, x = .list xs ∧ xs.length = ds.length := by
    obtain ⟨xs, q, l, _⟩ := tame_list h
    simp only [D.py, q, Option.map_some, Option.some.injEq] at e
    exact ⟨xs, e.symm, l⟩
  obtain ⟨xs, rfl, l⟩ := e0
  unfold pvEq
  have p0 : pscEq (.lst tg ds) (.lst none []) = none := rfl
  simp only [p0, e, e1]
  rw [if_pos ⟨t.shaped (by omega), by rfl, Nat.lt_of_le_of_lt t.dp (by omega), by decide⟩]
  cases xs <;> cases ds <;> first | rfl | (simp at l) | (simp [PyData.eqv, PyData.eqvAll])
theorem ne_nilT {n k : Nat} {ds : List D} (h : ∀ d ∈ ds, Tame n k d) (hn : n < 30) : pvEq (.tup ds) (.tup []) = some ds.isEmpty := by
  obtain ⟨x, e, t⟩ := Tame.tup h (Nat.le_refl _)
  have e1 : (D.tup []).py = some (.tuple []) := rfl
  have e0 : ∃ xs, x = .tuple xs ∧ xs.length = ds.length := by
    obtain ⟨xs, q, l, _⟩ := tame_list h
    simp only [D.py, q, Option.map_some, Option.some.injEq] at e
    exact ⟨xs, e.symm, l⟩
  obtain ⟨xs, rfl, l⟩ := e0
  unfold pvEq
  have p0 : pscEq (.tup ds) (.tup []) = none := rfl
  simp only [p0, e, e1]
  rw [if_pos ⟨t.shaped (by omega), by rfl, Nat.lt_of_le_of_lt t.dp (by omega), by decide⟩]
  cases xs <;> cases ds <;> first | rfl | (simp at l) | (simp [PyData.eqv, PyData.eqvAll])
/-! ### trees that use few draws -/
def Uses {α : Type} (t : Dr α) (n : Nat) (P : α → Prop) : Prop := ∀ N, Safe t (N + n) fun a N' => N ≤ N' ∧ P a
theorem Uses.ret {α : Type} {a : α} {n : Nat} {P : α → Prop} (h : P a) : Uses (.ret a) n P := fun N => ⟨Nat.le_add_right _ _, h⟩
theorem Uses.draw {α : Type} {m : Int} {k : Int → Dr α} {n : Nat} {P : α → Prop} (h0 : 0 < m) (hl : m < 2 ^ 60) (h : ∀ r, 0 ≤ r → r < m → Uses (k r) n P) : Uses (.draw m k) (n + 1) P := fun N => by
  refine ⟨h0, ?_, N + n, rfl, fun r a b => h r a b N⟩
  have : m.natAbs ≠ 0 := by omega
  have q : m.natAbs < 2 ^ 60 := by omega
  have := (Nat.log2_lt this).mpr q
  omega
theorem Uses.imp {α : Type} {t : Dr α} {n : Nat} {P Q : α → Prop} (h : Uses t n P) (i : ∀ a, P a → Q a) : Uses t n Q := fun N => (h N).imp fun a N' z => ⟨z.1, i a z.2⟩
theorem Uses.bind {α β : Type} {t : Dr α} {f : α → Dr β} {n m : Nat} {P : α → Prop} {Q : β → Prop} (h : Uses t n P) (g : ∀ a, P a → Uses (f a) m Q) : Uses (t.bind f) (n + m) Q := fun N => by
  rw [Safe.bind]
  have := h (N + m)
  rw [show N + (n + m) = N + m + n by omega]
  refine this.imp fun a N' z => ?_
  obtain ⟨j, rfl⟩ := Nat.exists_eq_add_of_le z.1
  have := g a z.2 (N + j)
  rw [show N + m + j = N + j + m by omega]
  exact this.imp fun b N2 w => ⟨by omega, w.2⟩
theorem Uses.le {α : Type} {t : Dr α} {n m : Nat} {P : α → Prop} (h : Uses t n P) (hm : n ≤ m) : Uses t m P := fun N => by
  obtain ⟨j, rfl⟩ := Nat.exists_eq_add_of_le hm
  have := h (N + j)
  rw [show N + (n + j) = N + j + n by omega]
  exact this.imp fun b N2 w => ⟨by omega, w.2⟩
/-- an expression that gives a value -/
theorem Uses.mbind {α β : Type} {t : M α} {f : α → M β} {n m : Nat} {P : α → Prop} {Q : Ot β → Prop} (h : Uses t n fun o => ∃ a, o = .ok a ∧ P a) (g : ∀ a, P a → Uses (f a) m Q) : Uses (M.bind t f) (n + m) Q :=
  Uses.bind h fun o ⟨a, e, p⟩ => by subst e; exact g a p
theorem Uses.mbindS {α β : Type} {t : M α} {f : α → M β} {n m : Nat} {P : α → Prop} {Q : Ot β → Prop} (h : Uses t n fun o => ∃ a, o = .ok a ∧ P a) (g : ∀ a, P a → Uses (f a) m Q) : Uses (M.bindS t f) (n + m) Q :=
  Uses.bind h fun o ⟨a, e, p⟩ => by subst e; exact g a p
theorem Uses.after {α : Type} {p : PEn} {t : M α} {f : α → Dr PO} {n m : Nat} {P : α → Prop} {Q : PO → Prop} (h : Uses t n fun o => ∃ a, o = .ok a ∧ P a) (g : ∀ a, P a → Uses (f a) m Q) : Uses (afterE p t f) (n + m) Q :=
  Uses.bind h fun o ⟨a, e, p⟩ => by subst e; exact g a p
theorem Uses.seq {t : Dr PO} {f : PEn → Dr PO} {n m : Nat} {P : PEn → Prop} {Q : PO → Prop} (h : Uses t n fun o => ∃ p, o = .nx p ∧ P p) (g : ∀ p, P p → Uses (f p) m Q) : Uses (pSeq t f) (n + m) Q :=
  Uses.bind h fun o ⟨a, e, p⟩ => by subst e; exact g a p
theorem Uses.comp {i : Nat} {tt : PEn → M Bool} {x : PEn → M D} {p : PEn} {n : Nat} {P : D → Prop} (ht : ∀ p, tt p = .ret (.ok true)) : ∀ ds : List D, (∀ d ∈ ds, Uses (x (p.set i (some d))) n fun o => ∃ a, o = .ok a ∧ a.isOwn = false ∧ P a) → Uses (pcomp (.name i) tt x p ds) (ds.length * n) fun o => ∃ ys, o = .ok ys ∧ ys.length = ds.length ∧ ∀ y ∈ ys, P y
  | [], h => Uses.ret ⟨[], rfl, rfl, fun y m => absurd m List.not_mem_nil⟩
  | d :: ds, h => by
    have ih' : Uses (pcomp (.name i) tt x p ds) (ds.length * n) fun o => ∃ ys, o = .ok ys ∧ (ys.length = ds.length ∧ ∀ y ∈ ys, P y) := Uses.comp (x := x) (p := p) (P := P) ht ds fun y m => h y (.tail _ m)
    unfold pcomp
    simp only [pput, ht, M.bindS_ok, if_true]
    rw [List.length_cons, Nat.add_mul, Nat.one_mul, Nat.add_comm]
    refine Uses.mbindS (P := fun a => a.isOwn = false ∧ P a) (h d (.head _)) fun a ⟨no, pa⟩ => ?_
    simp only [no, Bool.false_eq_true, if_false]
    exact Uses.mbindS (m := 0) ih' fun ys ⟨l, py⟩ => Uses.ret ⟨_, rfl, by simp [l], List.forall_mem_cons.mpr ⟨pa, py⟩⟩
theorem Uses.for {t : Tg} {body : PEn → Dr PO} {n : Nat} {I : Nat → PEn → Prop} : ∀ (ds : List D) (k : Nat) (p : PEn), I k p → (∀ j d p, ds[j]? = some d → I (k + j) p → ∃ p1, pput t d p = some p1 ∧ Uses (body p1) n fun o => ∃ p', o = .nx p' ∧ I (k + j + 1) p') → Uses (pFor t body ds p) (ds.length * n) fun o => ∃ p', o = .nx p' ∧ I (k + ds.length) p'
  | [], k, p, i, h => Uses.ret ⟨p, rfl, i⟩
  | d :: ds, k, p, i, h => by
    obtain ⟨p1, e1, u1⟩ := h 0 d p rfl i
    have ih := fun p i => Uses.for (I := I) ds (k + 1) p i fun j d p hd i => by
      have := h (j + 1) d p (by simpa using hd)
      rw [show k + (j + 1) = k + 1 + j by omega] at this
      exact this i
    unfold pFor
    simp only [e1]
    rw [List.length_cons, Nat.add_mul, Nat.one_mul, Nat.add_comm, show k + (ds.length + 1) = k + 1 + ds.length by omega]
    exact Uses.bind u1 fun o ⟨p', e, i'⟩ => by subst e; exact ih p' i'
/-- a draw of a place in a list -/
theorem pick {G : GT} {t : Option Nat} {xs : List D} {r : Int} (h0 : 0 ≤ r) (h1 : r < xs.length) : ∃ x ∈ xs, pIx2 G (.lst t xs) (.int r) = some x := by
  obtain ⟨n, rfl⟩ := Int.eq_ofNat_of_zero_le h0
  have hn : n < xs.length := by omega
  have := atI_nat hn
  exact ⟨xs[n], List.getElem_mem hn, by simpa [pIx2, pIx, pIxI, hn] using this⟩
theorem pickT {G : GT} {xs : List D} {r : Int} (h0 : 0 ≤ r) (h1 : r < xs.length) : ∃ x ∈ xs, pIx2 G (.tup xs) (.int r) = some x := by
  obtain ⟨n, rfl⟩ := Int.eq_ofNat_of_zero_le h0
  have hn : n < xs.length := by omega
  have := atI_nat hn
  exact ⟨xs[n], List.getElem_mem hn, by simpa [pIx2, pIx, pIxI, hn] using this⟩
theorem Uses.toSafe {α : Type} {t : Dr α} {n : Nat} {P : α → Prop} (h : Uses t n P) {N : Nat} (hn : n ≤ N) : Safe t N fun a N' => N ≤ N' + n ∧ P a := by
  obtain ⟨j, rfl⟩ := Nat.exists_eq_add_of_le hn
  rw [Nat.add_comm]
  exact (h j).imp fun a N' z => ⟨by omega, z.2⟩
end PL

set_option Elab.async false
set_option linter.all false
set_option maxRecDepth 100000
set_option maxHeartbeats 4000000
namespace PL
open PySem L2 EX
/-! ### texts -/
def sg (s : Str) : List Nat := s.cps.toList
@[simp] theorem sg_app (x y : Str) : sg (x ++ y) = sg x ++ sg y := by
  show (x.cps ++ y.cps).toList = _
  rw [Array.toList_append]; rfl
theorem len_sg (s : Str) : s.length = (sg s).length := rfl
@[simp] theorem len_app (x y : Str) : (x ++ y).length = x.length + y.length := by rw [len_sg, len_sg, len_sg, sg_app, List.length_append]
theorem str_at {G : GT} {s : Str} {r : Int} (h0 : 0 ≤ r) (h1 : r < s.length) (hl : s.length ≤ sizeLine) : ∃ c ∈ sg s, pIx2 G (.str s) (.int r) = some (sgD c) := by
  obtain ⟨n, rfl⟩ := Int.eq_ofNat_of_zero_le h0
  have hn : n < (sg s).length := by rw [← len_sg]; omega
  have := atI_nat hn
  refine ⟨(sg s)[n], List.getElem_mem hn, ?_⟩
  have e : L2.atI s.cps.toList (n : Int) = some (sg s)[n] := by rw [show s.cps.toList = sg s from rfl, this]; exact List.getElem?_eq_getElem hn
  simp [pIx2, pIx, pIxI, hl, e, sgD]
theorem glue_fold : ∀ (ss : List Str) (acc : Array Nat), (ss.foldl (fun acc p => acc ++ (Str.ofString "").cps ++ p.cps) acc).toList = acc.toList ++ (ss.map sg).flatten
  | [], acc => by simp
  | s :: ss, acc => by
    have e0 : (Str.ofString "").cps = #[] := by decide +kernel
    rw [List.foldl_cons, glue_fold ss, e0]
    simp [sg]
theorem glue (ss : List Str) : sg (Txt.join "" ss) = (ss.map sg).flatten := by
  unfold Txt.join Builtin.Str.glued
  cases ss with
  | nil => rfl
  | cons s ss =>
    show ((ss.foldl (fun acc p => acc ++ (Str.ofString "").cps ++ p.cps) s.cps)).toList = _
    rw [glue_fold ss]
    rfl
theorem txts_str : ∀ ss : List Str, txtsP (ss.map D.str) = some ss
  | [] => rfl
  | s :: ss => by rw [List.map_cons, txtsP, txts_str ss]; rfl
theorem join_p {t : Option Nat} {ss : List Str} (h : (ss.map (·.length)).sum ≤ 16777216) : pJoin "" (.lst t (ss.map D.str)) = some (.str (Txt.join "" ss)) := by
  have e : pTuple (.lst t (ss.map D.str)) = some (ss.map D.str) := rfl
  unfold pJoin
  simp only [e, txts_str]
  rw [if_pos]
  have : (Str.ofString "").length = 0 := by decide +kernel
  rw [this]; omega
theorem add_str {x y : Str} (h : x.length + y.length ≤ sizeLine) : OAddX.p (.str x) (.str y) = some (.str (x ++ y)) := if_pos h
theorem add_tup {x y : List D} (h : x.length + y.length ≤ sizeLine) : OAddX.p (.tup x) (.tup y) = some (.tup (x ++ y)) := if_pos h
theorem mul_int {i j : Int} (h : -(2 ^ 64) < i ∧ i < 2 ^ 64) : pMul (.int i) (.int j) = some (.int (i * j)) := if_pos (.inl h)
@[simp] theorem OMul_p {a b : D} : OMul.p a b = pMul a b := rfl
theorem mul_0 (x : Str) : pMul (.str x) (.int 0) = some (.str Str.empty) := by
  have h : mulOk x 0 = true := by simp [mulOk]
  show (if mulOk x 0 = true then some (D.str (Txt.mul x 0)) else none) = _
  rw [if_pos h]; rfl
theorem mul_1 (x : Str) : pMul (.str x) (.int 1) = some (.str x) := by
  have h : mulOk x 1 = true := by simp [mulOk]
  show (if mulOk x 1 = true then some (D.str (Txt.mul x 1)) else none) = _
  rw [if_pos h]; rfl
theorem sub_cutX {α : Type} {xs : List α} {lo hi : Option Int} {x : α} (m : x ∈ cutX xs lo hi) : x ∈ xs := List.mem_of_mem_drop (List.mem_of_mem_take m)
theorem len_cutX {α : Type} {xs : List α} {lo hi : Option Int} : (cutX xs lo hi).length ≤ xs.length := by
  unfold cutX
  rw [List.length_take, List.length_drop]; omega
theorem map_cutX {α β : Type} (f : α → β) {xs : List α} {lo hi : Option Int} : cutX (xs.map f) lo hi = (cutX xs lo hi).map f := by
  unfold cutX
  rw [List.length_map, List.map_take, List.map_drop]
theorem strs_of {P : Str → Prop} : ∀ ys : List D, (∀ y ∈ ys, ∃ s, y = .str s ∧ P s) → ∃ ss : List Str, ys = ss.map D.str ∧ ∀ s ∈ ss, P s
  | [], _ => ⟨[], rfl, fun _ m => nomatch m⟩
  | y :: ys, h => by
    obtain ⟨c, e, p⟩ := h y (.head _)
    obtain ⟨cs, e2, p2⟩ := strs_of ys fun z m => h z (.tail _ m)
    exact ⟨c :: cs, by rw [e, e2]; rfl, List.forall_mem_cons.mpr ⟨p, p2⟩⟩
theorem slx_lst {t : Option Nat} {xs : List D} {lo hi : Option Int} : OSlX.p (.lst t xs) lo hi = some (.lst none (cutX xs lo hi)) := rfl
theorem slx_own {xs : List D} {lo hi : Option Int} : OSlX.p (.own xs) lo hi = some (.lst none (cutX xs lo hi)) := rfl
theorem slx_tup {xs : List D} {lo hi : Option Int} : OSlX.p (.tup xs) lo hi = some (.tup (cutX xs lo hi)) := rfl
@[simp] theorem OJoin_p {s : Str} {x : D} : OJoin.p (.str s) [x] = pJoin s x := rfl
theorem mem_rng {m : Int} {n : Nat} {d : D} (h : d ∈ rng m n) : ∃ i : Nat, i < n ∧ d = .int (m + i) := by
  unfold rng at h
  obtain ⟨i, hi, e⟩ := List.mem_map.mp h
  exact ⟨i, List.mem_range.mp hi, e.symm⟩
@[simp] theorem rng_len {m : Int} {n : Nat} : (rng m n).length = n := by simp [rng]
theorem rng_get {m : Int} {n j : Nat} {d : D} (h : (rng m n)[j]? = some d) : j < n ∧ d = .int (m + j) := by
  unfold rng at h
  rw [List.getElem?_map] at h
  obtain ⟨i, hi, e⟩ := Option.map_eq_some_iff.mp h
  have := List.getElem?_eq_some_iff.mp hi
  obtain ⟨h1, h2⟩ := this
  simp at h1 h2
  subst h2
  exact ⟨h1, e.symm⟩
theorem Uses.hop {α β : Type} {t : Dr α} {F : α → Dr β} {n k : Nat} (m : Nat) {P : α → Prop} {Q : β → Prop} (h : Uses t n P) (hk : n + m ≤ k) (g : ∀ a, P a → Uses (F a) m Q) : Uses (t.bind F) k Q := (h.bind g).le hk
theorem cut_lo {α : Type} {xs : List α} {n : Nat} (h : n ≤ xs.length) : cutX xs none (some (n : Int)) = xs.take n := by
  unfold cutX
  rw [HT.sIx_nat, HT.sIx_none, Nat.min_eq_left h, List.drop_zero, Nat.sub_zero]
theorem cut_hi {α : Type} {xs : List α} {n : Nat} (h : n ≤ xs.length) : cutX xs (some (n : Int)) none = xs.drop n := by
  unfold cutX
  rw [HT.sIx_nat, HT.sIx_none, Nat.min_eq_left h]
  exact List.take_of_length_le (by rw [List.length_drop]; exact Nat.le_refl _)
theorem ones_sum : ∀ {ss : List Str}, (∀ s ∈ ss, s.length = 1) → (ss.map (·.length)).sum = ss.length
  | [], _ => rfl
  | s :: ss, h => by
    rw [List.map_cons, List.sum_cons, ones_sum fun x m => h x (.tail _ m), h s (.head _), List.length_cons]; omega
theorem ones {P : Nat → Prop} : ∀ {ss : List Str}, (∀ s ∈ ss, s.length = 1 ∧ ∀ c ∈ sg s, P c) → (Txt.join "" ss).length = ss.length ∧ ∀ c ∈ sg (Txt.join "" ss), P c := fun {ss} h => by
  rw [len_sg, glue]
  induction ss with
  | nil => exact ⟨rfl, fun c m => nomatch m⟩
  | cons s ss ih =>
    obtain ⟨a, b⟩ := ih fun x m => h x (.tail _ m)
    obtain ⟨c, d⟩ := h s (.head _)
    rw [len_sg] at c
    constructor
    · rw [List.map_cons, List.flatten_cons, List.length_append, a, c, List.length_cons]; omega
    · intro x m
      rw [List.map_cons, List.flatten_cons] at m
      exact (List.mem_append.mp m).elim (d x) (b x)
end PL

set_option Elab.async false
set_option linter.all false
set_option maxRecDepth 100000
set_option maxHeartbeats 4000000
namespace PL
open PySem L2 EX
/-! ### tame lists, by their whole bulk -/
structure TmL (n k : Nat) (x : List PyData) : Prop where
  lay : PyData.canLayAll0 x = true
  sh : PyData.showableAll x = true
  lv : PyData.leavesShortAll 40 x = true
  dp : PyData.depthAll x ≤ n
  bk : PyData.bulkAll x ≤ k
def TameL (n k : Nat) (ds : List D) : Prop := ∃ xs, pyL ds = some xs ∧ TmL n k xs
theorem TameL.nil {n k : Nat} : TameL n k [] := ⟨[], rfl, rfl, rfl, rfl, Nat.zero_le _, Nat.zero_le _⟩
theorem TameL.le {n k n' k' : Nat} {ds : List D} (h : TameL n k ds) (hn : n ≤ n') (hk : k ≤ k') : TameL n' k' ds := by
  obtain ⟨x, e, t⟩ := h
  exact ⟨x, e, t.lay, t.sh, t.lv, Nat.le_trans t.dp hn, Nat.le_trans t.bk hk⟩
theorem TameL.cons {n k m : Nat} {d : D} {ds : List D} (h : Tame n m d) (g : TameL n k ds) : TameL n (m + 1 + k) (d :: ds) := by
  obtain ⟨x, e, t⟩ := h
  obtain ⟨xs, e2, t2⟩ := g
  refine ⟨x :: xs, by simp only [pyL, e, e2], ?_, ?_, ?_, ?_, ?_⟩
  · simp only [PyData.canLayAll0, t.lay, t2.lay, Bool.and_self]
  · simp only [PyData.showableAll, t.sh, t2.sh, Bool.and_self]
  · simp only [PyData.leavesShortAll, t.lv, t2.lv, Bool.and_self]
  · simp only [PyData.depthAll]; have := t.dp; have := t2.dp; omega
  · simp only [PyData.bulkAll]; have := t.bk; have := t2.bk; omega
theorem TameL.inv {n k : Nat} {d : D} {ds : List D} (h : TameL n k (d :: ds)) : ∃ a b, a + 1 + b ≤ k ∧ Tame n a d ∧ TameL n b ds := by
  obtain ⟨xs, e, t⟩ := h
  simp only [pyL] at e
  split at e
  · rename_i x ys e1 e2
    cases e
    have h1 := t.lay; have h2 := t.sh; have h3 := t.lv; have h4 := t.dp; have h5 := t.bk
    simp only [PyData.canLayAll0, PyData.showableAll, PyData.leavesShortAll, PyData.depthAll, PyData.bulkAll, Bool.and_eq_true] at h1 h2 h3 h4 h5
    exact ⟨_, _, h5, ⟨x, e1, h1.1, h2.1, h3.1, by omega, Nat.le_refl _⟩, ⟨ys, e2, h1.2, h2.2, h3.2, by omega, Nat.le_refl _⟩⟩
  · cases e
theorem TameL.app {n k m : Nat} : ∀ {xs ys : List D}, TameL n k xs → TameL n m ys → TameL n (k + m) (xs ++ ys)
  | [], ys, _, g => g.le (Nat.le_refl _) (by omega)
  | x :: xs, ys, h, g => by
    obtain ⟨a, b, l, h1, h2⟩ := h.inv
    exact (TameL.cons h1 (h2.app g)).le (Nat.le_refl _) (by omega)
theorem TameL.sub {n k : Nat} {xs ys : List D} (s : xs.Sublist ys) (h : TameL n k ys) : TameL n k xs := by
  induction s generalizing k with
  | slnil => exact h
  | cons a s ih => obtain ⟨c, b, l, h1, h2⟩ := h.inv; exact (ih h2).le (Nat.le_refl _) (by omega)
  | cons_cons a s ih => obtain ⟨c, b, l, h1, h2⟩ := h.inv; exact (TameL.cons h1 (ih h2)).le (Nat.le_refl _) (by omega)
theorem TameL.mem {n k : Nat} : ∀ {xs : List D} {x : D}, TameL n k xs → x ∈ xs → Tame n k x
  | y :: xs, x, h, m => by
    obtain ⟨a, b, l, h1, h2⟩ := h.inv
    rcases List.mem_cons.mp m with rfl | m
    · exact h1.le (Nat.le_refl _) (by omega)
    · exact (h2.mem m).le (Nat.le_refl _) (by omega)
theorem TameL.rev {n k : Nat} : ∀ {xs : List D}, TameL n k xs → TameL n k xs.reverse
  | [], h => h
  | y :: xs, h => by
    obtain ⟨a, b, l, h1, h2⟩ := h.inv
    rw [List.reverse_cons]
    exact (h2.rev.app (TameL.cons h1 (TameL.nil (k := 0)))).le (Nat.le_refl _) (by omega)
theorem TameL.one {n k : Nat} {x : D} (h : Tame n k x) : TameL n (k + 1) [x] := TameL.cons h (TameL.nil (k := 0))
theorem TameL.tup {n k : Nat} {ds : List D} (h : TameL n k ds) : Tame (n + 1) k (.tup ds) := by
  obtain ⟨xs, e, t⟩ := h
  refine ⟨.tuple xs, by simp only [D.py, e, Option.map_some], ?_, ?_, ?_, ?_, ?_⟩
  · simpa only [PyData.canLay0] using t.lay
  · simpa only [PyData.showable] using t.sh
  · simpa only [PyData.leavesShort] using t.lv
  · simp only [PyData.depth]; have := t.dp; omega
  · simpa only [PyData.bulk] using t.bk
theorem TameL.lst {n k : Nat} {tg : Option Nat} {ds : List D} (h : TameL n k ds) : Tame (n + 1) k (.lst tg ds) := by
  obtain ⟨xs, e, t⟩ := h
  refine ⟨.list xs, by simp only [D.py, e, Option.map_some], ?_, ?_, ?_, ?_, ?_⟩
  · simpa only [PyData.canLay0] using t.lay
  · simpa only [PyData.showable] using t.sh
  · simpa only [PyData.leavesShort] using t.lv
  · simp only [PyData.depth]; have := t.dp; omega
  · simpa only [PyData.bulk] using t.bk
theorem Tame.items {n k : Nat} {ds : List D} (h : Tame n k (.tup ds)) : TameL n k ds := by
  obtain ⟨x, e, t⟩ := h
  simp only [D.py] at e
  obtain ⟨xs, e1, rfl⟩ := Option.map_eq_some_iff.mp e
  have h1 := t.lay; have h2 := t.sh; have h3 := t.lv; have h4 := t.dp; have h5 := t.bk
  simp only [PyData.canLay0, PyData.showable, PyData.leavesShort, PyData.depth, PyData.bulk] at h1 h2 h3 h4 h5
  exact ⟨xs, e1, h1, h2, h3, by omega, h5⟩
theorem cut_sub {α : Type} {xs : List α} {lo hi : Option Int} : (cutX xs lo hi).Sublist xs := (List.take_sublist _ _).trans (List.drop_sublist _ _)
theorem TameL.uni {n k m : Nat} {ds : List D} (h : ∀ d ∈ ds, Tame n k d) (hl : ds.length ≤ m) : TameL n (m * (k + 1)) ds := (Tame.tup h hl).items.le (Nat.le_refl _) (Nat.le_refl _) |> fun t => by
  obtain ⟨xs, e, l, t⟩ := tame_list h
  exact ⟨xs, e, t.lay, t.sh, t.lv, t.dp, Nat.le_trans t.bk (Nat.mul_le_mul_right _ (by omega))⟩
end PL

set_option Elab.async false
set_option linter.all false
set_option maxRecDepth 100000
set_option maxHeartbeats 4000000
namespace PL
open PySem L2 EX
section
variable {q : PKx} {p p' : PEn} {s s1 s2 : BS} {t : BT} {x e e1 e2 : BE} {n m k i : Nat} {Q : PO → Prop}
/-! ### statement by statement -/
theorem Uses.stm (h : s1.p q p = .ret (.nx p')) (g : Uses (s2.p q p') n Q) : Uses ((bSeq s1 s2).p q p) n Q := by
  rw [seq_p, h]; exact g
theorem Uses.set {d : D} (h : x.p q p = .ret (.ok d)) (no : d.isOwn = false) (g : Uses (s2.p q (p.set i (some d))) n Q) : Uses ((bSeq (bSet i x) s2).p q p) n Q :=
  Uses.stm (p' := p.set i (some d)) (by rw [set_p, h]; show (if d.isOwn = true then _ else _) = _; rw [no]; rfl) g
theorem Uses.ifT (ht : t.p q p = .ret (.ok true)) (g : Uses (s1.p q p) n fun o => (∃ d, o = .rt d) ∧ Q o) : Uses ((bSeq (bIfS t s1 s) s2).p q p) n Q := by
  have : Uses (pSeq ((bIfS t s1 s).p q p) fun p1 => s2.p q p1) (n + 0) Q := by
    rw [ifS_p, ht]
    exact Uses.bind g fun o ⟨⟨d, e⟩, qq⟩ => by subst e; exact Uses.ret qq
  exact this
theorem Uses.ifF (ht : t.p q p = .ret (.ok false)) (g : Uses (s2.p q p) n Q) : Uses ((bSeq (bIfS t s1 bSkip) s2).p q p) n Q :=
  Uses.stm (p' := p) (by rw [ifS_p, ht]; rfl) g
theorem Uses.rt {d : D} (h : x.p q p = .ret (.ok d)) (no : d.isOwn = false) (g : Q (.rt d)) : Uses ((bRet x).p q p) n Q := by
  rw [ret_p, h]
  show Uses (if d.isOwn = true then _ else _) n Q
  rw [no]; exact Uses.ret g
theorem Uses.call {ds : List D} {P : D → Prop} (g : Uses (s.p ("", []) (ds.map some ++ List.replicate (k - ds.length) none)) n fun o => ∃ d, o = .rt d ∧ P d) : Uses ((mkF k s).p ds) n fun o => ∃ d, o = .ok d ∧ P d := by
  have : Uses (pCall k s ds) (n + 0) fun o => ∃ d, o = .ok d ∧ P d := by
    rw [pCall_eq]
    exact Uses.bind g fun o ⟨d, e, pd⟩ => by subst e; exact Uses.ret ⟨d, rfl, pd⟩
  exact this
variable {G : Fn} {T : TakeOk G}
abbrev bTk (G : Fn) (T : TakeOk G) (e : BE) : BE := bCall 2 (takeF G T) (bCons (bVar 0) (bCons e bNil))
theorem tk_p {mm : Int} (h0 : p[0]? = some (some .box)) (he : e.p q p = .ret (.ok (.int mm))) : (bTk G T e).p q p = .draw mm fun r => .ret (.ok (.int r)) := by
  simp only [bTk, call_p, cons_p, nil_p, var_p, h0, he, M.bind_ok]
  rfl
theorem Uses.take {mm : Int} (h0 : p[0]? = some (some .box)) (he : e.p q p = .ret (.ok (.int mm))) (hm : 0 < mm) (hm2 : mm < 2 ^ 60) (g : ∀ r, 0 ≤ r → r < mm → Uses (s2.p q (p.set i (some (.int r)))) n Q) : Uses ((bSeq (bSet i (bTk G T e)) s2).p q p) (n + 1) Q := by
  rw [seq_p, set_p, tk_p h0 he]
  exact Uses.draw hm hm2 fun r a b => g r a b
/-- x = e1[take(..)] -/
theorem ix_tk {K : GT} {mm : Int} {d : D} (h0 : p[0]? = some (some .box)) (h1 : e1.p q p = .ret (.ok d)) (he : e.p q p = .ret (.ok (.int mm))) : (bBin (OIx2 K) e1 (bTk G T e)).p q p = .draw mm fun r => M.of (pIx2 K d (.int r)) := by
  rw [bin_p, h1, tk_p h0 he]
  rfl
theorem Uses.pick {K : GT} {mm : Int} {tg : Option Nat} {xs : List D} (h0 : p[0]? = some (some .box)) (h1 : e1.p q p = .ret (.ok (.lst tg xs))) (he : e.p q p = .ret (.ok (.int mm))) (hm : mm = xs.length) (hx : 0 < xs.length) (hx2 : xs.length < 2 ^ 60) (no : ∀ x ∈ xs, x.isOwn = false) (g : ∀ x ∈ xs, Uses (s2.p q (p.set i (some x))) n Q) : Uses ((bSeq (bSet i (bBin (OIx2 K) e1 (bTk G T e))) s2).p q p) (n + 1) Q := by
  rw [seq_p, set_p, ix_tk h0 h1 he]
  refine Uses.draw (by omega) (by omega) fun r a b => ?_
  obtain ⟨x, mx, e⟩ := PL.pick (G := K) (t := tg) (xs := xs) a (by omega)
  show Uses (Dr.bind (Dr.bind (M.of (pIx2 K (.lst tg xs) (.int r))) _) _) n Q
  rw [e]
  show Uses (pSeq (if x.isOwn = true then _ else _) _) n Q
  rw [no x mx]
  exact g x mx
theorem pick_own {G : GT} {xs : List D} {r : Int} (h0 : 0 ≤ r) (h1 : r < xs.length) : ∃ x ∈ xs, pIx2 G (.own xs) (.int r) = some x := by
  obtain ⟨n, rfl⟩ := Int.eq_ofNat_of_zero_le h0
  have hn : n < xs.length := by omega
  have := atI_nat hn
  exact ⟨xs[n], List.getElem_mem hn, by simpa [pIx2, pIx, pIxI, hn] using this⟩
end
end PL

set_option Elab.async false
set_option linter.all false
set_option maxRecDepth 100000
set_option maxHeartbeats 4000000
namespace PL
open PySem L2 EX
/-! ### the frame of a law: a loop whose body makes the purse -/
theorem seq_nx {a b : XS} {e e1 : En} {h h1 : Hh} (p : a e h = .nx e1 h1) : sSeq a b e h = b e1 h1 := by unfold sSeq; rw [p]
theorem set_ok {i : Nat} {x : XE} {e : En} {h h1 : Hh} {v : Val} (p : x e h = .ok v h1) : sSet i x e h = .nx (e.set i (some v)) h1 := by unfold sSet; rw [p]
theorem ret_ok {x : XE} {e : En} {h h1 : Hh} {v : Val} (p : x e h = .ok v h1) : sRet x e h = .rt v h1 := by unfold sRet; rw [p]
theorem call_rt {N : Nat} {body : XS} {as : List Val} {h h1 : Hh} {v : Val} (p : body (as.map some ++ List.replicate (N - as.length) none) h = .rt v h1) : callF N body as h = .ok v (gc h.length v h1) := by unfold callF; rw [p]
theorem oMax2 (i j : Int) (g : Hh) : oMax [.int i, .int j] g = some (.int (max i j), g) := by
  have : (if j > i then j else i) = max i j := by split <;> omega
  unfold oMax
  simp only [this]
theorem oMin2 (i j : Int) (g : Hh) : oMin [.int i, .int j] g = some (.int (min i j), g) := by
  have : (if j < i then j else i) = min i j := by split <;> omega
  unfold oMin
  simp only [this]
theorem rg_ok {a : XE} {e : En} {h h1 : Hh} {m : Int} (ea : a e h = .ok (.int m) h1) (h0 : 0 ≤ m) (h2 : m ≤ 1000) : xRange1 a e h = .ok (.items ((List.range m.toNat).map fun (k : Nat) => Val.int ((0 : Int) + k))) h1 := by
  unfold xRange1
  rw [ea]
  have c : -(2 ^ 62) ≤ m ∧ m < 2 ^ 62 := by omega
  simp only [Res.bind_ok, c, and_self, if_true]
theorem len_scr {ns : List Int} (h : Hh) : oLen [.scr (ns.map Val.int)] h = some (.int ns.length, h) := by
  unfold oLen vLen
  simp
theorem isL_ints {b : Nat} {g : Nat → Option Ob} : ∀ ns : List Int, IsL b g (ns.map D.int) (ns.map Val.int)
  | [] => rfl
  | i :: ns => ⟨_, _, rfl, rfl, isL_ints ns⟩
/-- the body behind the purse -/
theorem rest_go {R : BS} {ns : List Int} {k : Int} {m n : Nat} {e : En} {h : Hh} {s : Bs} (u : Uses (R.p ("", []) ([some (.scr (ns.map D.int)), some (.int k), some .box] ++ List.replicate m none)) n fun o => ∃ p', o = .nx p' ∧ p'[0]? = some (some (.scr (ns.map D.int))) ∧ p'.length = m + 3)
    (he : e.length = m + 3) (e0 : e[0]? = some (some (.scr (ns.map Val.int)))) (e1 : e[1]? = some (some (.int k))) (e2 : e[2]? = some (some (.loc h.length))) (c : Cl h) (g : Gd s) (z : s.z + n ≤ zM) :
    ∃ e' h', R.c ("", []) e (h ++ [bx s]) = .nx e' h' ∧ e'.length = m + 3 ∧ e'[0]? = some (some (.scr (ns.map Val.int))) ∧ Cl h' := by
  have key : ∀ (j : Nat) (d : D), ([some (.scr (ns.map D.int)), some (.int k), some .box] ++ List.replicate m none)[j]? = some (some d) → (j = 0 ∧ d = .scr (ns.map D.int)) ∨ (j = 1 ∧ d = .int k) ∨ (j = 2 ∧ d = .box) := fun j d e => by
    match j with
    | 0 => simp at e; exact .inl ⟨rfl, e.symm⟩
    | 1 => simp at e; exact .inr (.inl ⟨rfl, e.symm⟩)
    | 2 => simp at e; exact .inr (.inr ⟨rfl, e.symm⟩)
    | j + 3 =>
      simp [List.getElem?_replicate] at e
  have noo : ∀ (j : Nat) (d : D), ([some (.scr (ns.map D.int)), some (.int k), some .box] ++ List.replicate m none)[j]? = some (some d) → d.isOwn = false := fun j d e => by
    rcases key j d e with ⟨_, rfl⟩ | ⟨_, rfl⟩ | ⟨_, rfl⟩ <;> rfl
  have E : Ev h.length [h.length] n (h ++ [bx s]) := ⟨c.app rfl, ⟨s, getNew h _, g, z⟩, by simp, fun m hm => by simp at hm; subst hm; simp⟩
  have S : Si h.length (h ++ [bx s]) [h.length] n [h.length] ("", []) ([some (.scr (ns.map D.int)), some (.int k), some .box] ++ List.replicate m none) ("", []) e (h ++ [bx s]) := by
    refine ⟨E, ⟨by simp [he], fun j d ej => ?_, fun j d ej o => ?_, fun j l i d d' hjl ej o => ?_, rfl, .nil⟩, by simp, fun _ m => m, E.lt, Ext.refl _ _, fun j d i ej o => ?_⟩
    · rcases key j d ej with ⟨rfl, rfl⟩ | ⟨rfl, rfl⟩ | ⟨rfl, rfl⟩
      · exact ⟨_, e0, _, rfl, isL_ints ns⟩
      · exact ⟨_, e1, rfl⟩
      · exact ⟨_, e2, rfl⟩
    · rw [noo j d ej] at o; cases o
    · rw [noo j d ej] at o; cases o
    · rw [noo j d ej] at o; cases o
  obtain ⟨o, N', po, r⟩ := R.ok _ _ _ _ _ _ _ _ _ _ S _ (u.toSafe (Nat.le_refl n))
  obtain ⟨_, p', rfl, p0, pl⟩ := po
  obtain ⟨e', h', ms', er, S', _⟩ := r
  obtain ⟨v, ev, iv⟩ := S'.env.at_ 0 _ p0
  obtain ⟨xs, rfl, il⟩ := iv
  have : ∀ {ns : List Int} {xs : List Val} {g : Nat → Option Ob}, IsL h.length g (ns.map D.int) xs → xs = ns.map Val.int := fun {ns} => by
    induction ns with
    | nil => intro xs g q; exact q
    | cons i ns ih => intro xs g q; obtain ⟨x, r, rfl, a, c⟩ := q; cases (show _ = _ from a); rw [ih c]; rfl
  rw [this il] at ev
  exact ⟨e', h', er, by rw [← S'.env.len]; exact pl, ev, S'.ev.cl⟩
end PL

set_option Elab.async false
set_option linter.all false
set_option maxRecDepth 100000
set_option maxHeartbeats 4000000
namespace K
open PySem L2 EX
def ct : Ct := []
def t_LENGTHS : List (Str × Val) := [("hide", .int 2), ("bar", .int 2), ("as", .int 3), ("give", .int 3), ("count", .int 2)]
def gt : GT := [("LENGTHS", t_LENGTHS)]
def k_NO_NAMES : List Val := [.str "me", .str "here", .str "none"]
noncomputable def x_is_whole : XS := sRet (xAndV (xCallN oIsi (xCons (xVar 0) (xCons (xC (.ty "int")) (xNil)))) (xAndV (xNotV (xCallN oIsi (xCons (xVar 0) (xCons (xC (.ty "bool")) (xNil))))) (xChain oLe oLe (xVar 1) (xVar 0) (xVar 2))))
noncomputable def f_is_whole : Fn := callF 3 x_is_whole
noncomputable def x_is_name : XS := sSeq (sIf (xOrT (xNotT (xTru (xCallN oIsi (xCons (xVar 0) (xCons (xC (.ty "str")) (xNil)))))) (xOrT (xNotT (xTest (xChain oLe oLe (xC (.int 1)) (xCallN oLen (xCons (xVar 0) (xNil))) (xC (.int 8))))) (xTest (xBin (oIn2 gt) (xVar 0) (xC (.tup k_NO_NAMES)))))) (sRet (xC (.bl false))) (sNil)) (sRet (xCallN oAll (xCons (xComp (xIter (xVar 0)) (.name 1) (xYes) (xBin (oIn2 gt) (xVar 1) (xC (.str "abcdefghijklmnopqrstuvwxyz"))) [1]) (xNil))))
noncomputable def f_is_name : Fn := callF 2 x_is_name
noncomputable def x_is_text : XS := sSeq (sIf (xOrT (xNotT (xTru (xCallN oIsi (xCons (xVar 0) (xCons (xC (.ty "str")) (xNil)))))) (xTest (xBin oGt (xCallN oLen (xCons (xVar 0) (xNil))) (xC (.int 60))))) (sRet (xC (.bl false))) (sNil)) (sRet (xCallN oAll (xCons (xComp (xIter (xVar 0)) (.name 1) (xYes) (xAndV (xChain oLe oLe (xC (.str " ")) (xVar 1) (xC (.str "~"))) (xBin (oNotIn2 gt) (xCallN oOrd (xCons (xVar 1) (xNil))) (xTup (xCons (xC (.int 37)) (xCons (xC (.int 39)) (xNil)))))) [1]) (xNil))))
noncomputable def f_is_text : Fn := callF 2 x_is_text
noncomputable def x_is_number : XS := sRet (xCall 3 f_is_whole (xCons (xVar 0) (xCons (xUn oNeg (xC (.int 1000000000))) (xCons (xC (.int 1000000000)) (xNil)))))
noncomputable def f_is_number : Fn := callF 1 x_is_number
noncomputable def x_is_pair : XS := sRet (xAndV (xCallN oIsi (xCons (xVar 0) (xCons (xC (.ty "tuple")) (xNil)))) (xAndV (xBin oEq (xCallN oLen (xCons (xVar 0) (xNil))) (xC (.int 2))) (xAndV (xCallN oIsi (xCons (xBin (oIx2 gt) (xVar 0) (xC (.int 0))) (xCons (xC (.ty "str")) (xNil)))) (xBin oEq (xBin (oIx2 gt) (xVar 0) (xC (.int 0))) (xVar 1)))))
noncomputable def f_is_pair : Fn := callF 2 x_is_pair
noncomputable def x_is_thing : XS := sRet (xAndV (xCall 2 f_is_pair (xCons (xVar 0) (xCons (xC (.str "thing")) (xNil)))) (xCall 3 f_is_whole (xCons (xBin (oIx2 gt) (xVar 0) (xC (.int 1))) (xCons (xC (.int 0)) (xCons (xC (.int 999)) (xNil))))))
noncomputable def f_is_thing : Fn := callF 1 x_is_thing
noncomputable def x_is_worth_within (self : Fn) : XS := sSeq (sIf (xOrT (xTest (xBin oIs (xVar 0) (xC .non))) (xOrT (xTru (xCall 1 f_is_number (xCons (xVar 0) (xNil)))) (xOrT (xTru (xCall 1 f_is_text (xCons (xVar 0) (xNil)))) (xTru (xCall 1 f_is_thing (xCons (xVar 0) (xNil))))))) (sRet (xC (.bl true))) (sNil)) (sSeq (sIf (xOrT (xTest (xBin oEq (xVar 1) (xC (.int 0)))) (xOrT (xNotT (xTru (xCall 2 f_is_pair (xCons (xVar 0) (xCons (xC (.str "row")) (xNil)))))) (xOrT (xNotT (xTru (xCallN oIsi (xCons (xBin (oIx2 gt) (xVar 0) (xC (.int 1))) (xCons (xC (.ty "tuple")) (xNil)))))) (xTest (xBin oGt (xCallN oLen (xCons (xBin (oIx2 gt) (xVar 0) (xC (.int 1))) (xNil))) (xC (.int 30))))))) (sRet (xC (.bl false))) (sNil)) (sRet (xCallN oAll (xCons (xComp (xIter (xBin (oIx2 gt) (xVar 0) (xC (.int 1)))) (.name 2) (xYes) (xCall 2 self (xCons (xVar 2) (xCons (xBin oSub (xVar 1) (xC (.int 1))) (xNil)))) [2]) (xNil)))))
noncomputable def f_is_worth_within : Nat → Fn
  | 0 => fun _ _ => .stuck
  | n + 1 => callF 3 (x_is_worth_within (f_is_worth_within n))
noncomputable def x_is_worth : XS := sRet (xCall 2 (f_is_worth_within 12) (xCons (xVar 0) (xCons (xC (.int 4)) (xNil))))
noncomputable def f_is_worth : Fn := callF 1 x_is_worth
noncomputable def x_is_rule : XS := sSeq (sIf (xOrT (xNotT (xTru (xCallN oIsi (xCons (xVar 0) (xCons (xC (.ty "tuple")) (xNil)))))) (xOrT (xTest (xBin oEq (xCallN oLen (xCons (xVar 0) (xNil))) (xC (.int 0)))) (xNotT (xTru (xCallN oIsi (xCons (xBin (oIx2 gt) (xVar 0) (xC (.int 0))) (xCons (xC (.ty "str")) (xNil)))))))) (sRet (xC (.bl false))) (sNil)) (sSeq (sStar 1 2 (xVar 0)) (sSeq (sIf (xOrT (xTest (xBin (oNotIn2 gt) (xVar 1) (xC (.ref "LENGTHS")))) (xOrT (xTest (xBin oNe (xCallN oLen (xCons (xVar 0) (xNil))) (xBin (oIx2 gt) (xC (.ref "LENGTHS")) (xVar 1)))) (xNotT (xTru (xCall 1 f_is_name (xCons (xBin (oIx2 gt) (xVar 2) (xC (.int 0))) (xNil))))))) (sRet (xC (.bl false))) (sNil)) (sSeq (sIf (xTest (xBin oEq (xVar 1) (xC (.str "as")))) (sRet (xCall 1 f_is_name (xCons (xBin (oIx2 gt) (xVar 2) (xC (.int 1))) (xNil)))) (sNil)) (sRet (xOrV (xBin oNe (xVar 1) (xC (.str "give"))) (xCall 1 f_is_worth (xCons (xBin (oIx2 gt) (xVar 2) (xC (.int 1))) (xNil))))))))
noncomputable def f_is_rule : Fn := callF 3 x_is_rule
noncomputable def x_are_rules : XS := sSeq (sIf (xOrT (xNotT (xTru (xCallN oIsi (xCons (xVar 0) (xCons (xC (.ty "tuple")) (xNil)))))) (xOrT (xTest (xBin oGt (xCallN oLen (xCons (xVar 0) (xNil))) (xC (.int 8)))) (xNotT (xTru (xCallN oAll (xCons (xComp (xIter (xVar 0)) (.name 3) (xYes) (xCall 1 f_is_rule (xCons (xVar 3) (xNil))) [3]) (xNil))))))) (sRet (xC (.bl false))) (sNil)) (sSeq (sSet 1 (xComp (xIter (xVar 0)) (.name 3) (xTest (xBin oNe (xBin (oIx2 gt) (xVar 3) (xC (.int 0))) (xC (.str "count")))) (xBin (oIx2 gt) (xVar 3) (xC (.int 1))) [3])) (sSeq (sSet 2 (xComp (xIter (xVar 0)) (.name 3) (xTest (xBin oEq (xBin (oIx2 gt) (xVar 3) (xC (.int 0))) (xC (.str "count")))) (xBin (oIx2 gt) (xVar 3) (xC (.int 1))) [3])) (sRet (xAndV (xBin oEq (xUn oLenSet (xVar 1)) (xCallN oLen (xCons (xVar 1) (xNil)))) (xBin oEq (xUn oLenSet (xVar 2)) (xCallN oLen (xCons (xVar 2) (xNil))))))))
noncomputable def f_are_rules : Fn := callF 4 x_are_rules
noncomputable def x__law_cell : XS := sSeq (sIf (xTest (xBin oLt (xVar 1) (xCallN oLen (xCons (xVar 0) (xNil))))) (sRet (xBin (oIx2 gt) (xVar 0) (xVar 1))) (sNil)) (sRet (xBin oAdd (xBin oMul2 (xC (.int 7207)) (xVar 1)) (xC (.int 37))))
noncomputable def f__law_cell : Fn := callF 2 x__law_cell
noncomputable def x__law_purse : XS := sRet (xLst (xCons (xCallN oMax (xCons (xC (.int 0)) (xCons (xBin oSub (xVar 0) (xBin oPow (xC (.int 10)) (xC (.int 18)))) (xNil)))) (xCons (xBin oMod (xVar 0) (xC (.int 2147483543))) (xCons (xC (.int 0)) (xNil)))))
noncomputable def f__law_purse : Fn := callF 1 x__law_purse
noncomputable def x__law_take : XS := sSeq (sIf (xTest (xBin oGt (xBin (oIx2 gt) (xVar 0) (xC (.int 0))) (xC (.int 0)))) (sSeq (sSet 2 (xBin oMod (xBin (oIx2 gt) (xVar 0) (xC (.int 0))) (xVar 1))) (sSeq (sSetIx (xVar 0) (xC (.int 0)) (xBin oFdiv (xBin (oIx2 gt) (xVar 0) (xC (.int 0))) (xVar 1))) (sRet (xVar 2)))) (sNil)) (sSeq (sSetIx (xVar 0) (xC (.int 2)) (xBin oAdd (xBin (oIx2 gt) (xVar 0) (xC (.int 2))) (xC (.int 1)))) (sSeq (sSet 3 (xBin oMod (xBin oPow (xBin oAdd (xBin oAdd (xBin (oIx2 gt) (xVar 0) (xC (.int 1))) (xBin oMul2 (xC (.int 6007)) (xBin (oIx2 gt) (xVar 0) (xC (.int 2))))) (xC (.int 41))) (xC (.int 5))) (xC (.int 2147483647)))) (sSeq (sSet 4 (xBin oMod (xBin oPow (xBin oAdd (xBin oMul2 (xBin (oIx2 gt) (xVar 0) (xC (.int 1))) (xBin (oIx2 gt) (xVar 0) (xC (.int 2)))) (xC (.int 90007))) (xC (.int 3))) (xC (.int 2147483587)))) (sRet (xBin oMod (xBin oFdiv (xBin oAdd (xVar 3) (xBin oMul2 (xC (.int 2147483647)) (xVar 4))) (xC (.int 16))) (xVar 1))))))
noncomputable def f__law_take : Fn := callF 5 x__law_take
noncomputable def x__law_pool : XS := sSeq (sSet 2 (xC (.str "abcdefghijklmnopqrstuvwxyz"))) (sSeq (sSet 3 (xCall 2 f__law_take (xCons (xVar 0) (xCons (xC (.int 4)) (xNil))))) (sSeq (sSet 4 (xCall 2 f__law_take (xCons (xVar 0) (xCons (xC (.int 26)) (xNil))))) (sSeq (sSet 5 (xBin (oIx2 gt) (xLst (xCons (xC (.int 1)) (xCons (xC (.int 5)) (xCons (xC (.int 7)) (xCons (xC (.int 11)) (xNil)))))) (xCall 2 f__law_take (xCons (xVar 0) (xCons (xC (.int 4)) (xNil)))))) (sSeq (sIf (xTest (xBin oEq (xVar 3) (xC (.int 0)))) (sSeq (sSet 6 (xLst (xCons (xC (.str "get")) (xCons (xC (.str "call")) (xCons (xC (.str "let")) (xCons (xC (.str "deed")) (xCons (xC (.str "kind")) (xCons (xC (.str "row")) (xCons (xC (.str "wants")) (xCons (xC (.str "end")) (xCons (xC (.str "if")) (xCons (xC (.str "done")) (xCons (xC (.str "as")) (xCons (xC (.str "hide")) (xNil))))))))))))))) (sRet (xComp (xRange1 (xVar 1)) (.name 12) (xYes) (xBin (oIx2 gt) (xVar 6) (xBin oMod (xBin oAdd (xVar 4) (xBin oMul2 (xVar 5) (xVar 12))) (xC (.int 12)))) [12]))) (sNil)) (sSeq (sSet 7 (xComp (xRange1 (xCall 2 f__law_take (xCons (xVar 0) (xCons (xC (.int 7)) (xNil))))) (.name 12) (xYes) (xBin (oIx2 gt) (xVar 2) (xCall 2 f__law_take (xCons (xVar 0) (xCons (xC (.int 26)) (xNil))))) [12])) (sSeq (sSet 8 (xCall 2 f__law_take (xCons (xVar 0) (xCons (xBin oAdd (xCallN oLen (xCons (xVar 7) (xNil))) (xC (.int 1))) (xNil))))) (sSeq (sPar [9, 10] (xCons (xMeth "str" oJoin (xC (.str "")) (xCons (xSl oSl (xVar 7) none (some (xVar 8))) (xNil))) (xCons (xMeth "str" oJoin (xC (.str "")) (xCons (xSl oSl (xVar 7) (some (xVar 8)) none) (xNil))) (xNil)))) (sSeq (sSet 11 (xLst (xNil))) (sSeq (sFor (xRange1 (xVar 1)) (.name 12) (sSeq (sSet 13 (xBin oAdd (xBin oAdd (xVar 9) (xBin (oIx2 gt) (xVar 2) (xBin oMod (xBin oAdd (xVar 4) (xBin oMul2 (xVar 5) (xVar 12))) (xC (.int 26))))) (xVar 10))) (sSeq (sSet 13 (xIf (xTest (xBin oEq (xVar 3) (xC (.int 1)))) (xBin oAdd (xVar 13) (xBin oMul2 (xBin (oIx2 gt) (xVar 2) (xVar 4)) (xBin oMod (xVar 12) (xC (.int 2))))) (xVar 13))) (sExpr (xMeth "list" oAppend (xVar 11) (xCons (xIf (xTest (xBin (oIn2 gt) (xVar 13) (xTup (xCons (xC (.str "me")) (xCons (xC (.str "here")) (xCons (xC (.str "none")) (xNil))))))) (xBin oAdd (xC (.str "x")) (xVar 13)) (xVar 13)) (xNil))))))) (sRet (xVar 11)))))))))))
noncomputable def f__law_pool : Fn := callF 14 x__law_pool
noncomputable def x__law_rules : XS := sSeq (sPar [2, 3, 4] (xCons (xLst (xNil)) (xCons (xLst (xNil)) (xCons (xLst (xNil)) (xNil))))) (sSeq (sFor (xRange1 (xBin (oIx2 gt) (xLst (xCons (xCall 2 f__law_take (xCons (xVar 0) (xCons (xC (.int 4)) (xNil)))) (xCons (xC (.int 12)) (xCons (xCall 2 f__law_take (xCons (xVar 0) (xCons (xC (.int 9)) (xNil)))) (xNil))))) (xCall 2 f__law_take (xCons (xVar 0) (xCons (xC (.int 3)) (xNil)))))) (.name 5) (sSeq (sPar [6, 7] (xCons (xBin (oIx2 gt) (xVar 1) (xCall 2 f__law_take (xCons (xVar 0) (xCons (xCallN oLen (xCons (xVar 1) (xNil))) (xNil))))) (xCons (xBin (oIx2 gt) (xVar 1) (xCall 2 f__law_take (xCons (xVar 0) (xCons (xCallN oLen (xCons (xVar 1) (xNil))) (xNil))))) (xNil)))) (sSeq (sSet 8 (xBin (oIx2 gt) (xLst (xCons (xC .non) (xCons (xC (.int 5)) (xCons (xBin oSub (xC (.int 0)) (xBin oPow (xC (.int 10)) (xC (.int 9)))) (xCons (xC (.str "a b")) (xCons (xTup (xCons (xC (.str "thing")) (xCons (xC (.int 999)) (xNil)))) (xCons (xTup (xCons (xC (.str "row")) (xCons (xTup (xCons (xTup (xCons (xC (.str "row")) (xCons (xTup (xNil)) (xNil)))) (xCons (xC (.int 7)) (xNil)))) (xNil)))) (xNil)))))))) (xCall 2 f__law_take (xCons (xVar 0) (xCons (xC (.int 6)) (xNil)))))) (sSeq (sSet 9 (xBin (oIx2 gt) (xLst (xCons (xTup (xCons (xC (.str "hide")) (xCons (xVar 6) (xNil)))) (xCons (xTup (xCons (xC (.str "bar")) (xCons (xVar 6) (xNil)))) (xCons (xTup (xCons (xC (.str "as")) (xCons (xVar 6) (xCons (xVar 7) (xNil))))) (xCons (xTup (xCons (xC (.str "give")) (xCons (xVar 6) (xCons (xVar 8) (xNil))))) (xNil)))))) (xCall 2 f__law_take (xCons (xVar 0) (xCons (xC (.int 4)) (xNil)))))) (sSeq (sIf (xTest (xBin oEq (xCall 2 f__law_take (xCons (xVar 0) (xCons (xC (.int 3)) (xNil)))) (xC (.int 0)))) (sSet 9 (xTup (xCons (xC (.str "count")) (xCons (xVar 6) (xNil))))) (sNil)) (sSeq (sIf (xAndT (xTest (xBin oEq (xBin (oIx2 gt) (xVar 9) (xC (.int 0))) (xC (.str "count")))) (xTest (xBin (oNotIn2 gt) (xVar 6) (xVar 4)))) (sSeq (sExpr (xMeth "list" oAppend (xVar 4) (xCons (xVar 6) (xNil)))) (sExpr (xMeth "list" oAppend (xVar 2) (xCons (xVar 9) (xNil))))) (sNil)) (sIf (xAndT (xTest (xBin oNe (xBin (oIx2 gt) (xVar 9) (xC (.int 0))) (xC (.str "count")))) (xTest (xBin (oNotIn2 gt) (xVar 6) (xVar 3)))) (sSeq (sExpr (xMeth "list" oAppend (xVar 3) (xCons (xVar 6) (xNil)))) (sExpr (xMeth "list" oAppend (xVar 2) (xCons (xVar 9) (xNil))))) (sNil)))))))) (sRet (xCallN oTuple (xCons (xSl oSl (xVar 2) none (some (xC (.int 8)))) (xNil)))))
noncomputable def f__law_rules : Fn := callF 10 x__law_rules
noncomputable def x__law_spoilt : XS := sSeq (sSet 3 (xCall 2 f__law_take (xCons (xVar 0) (xCons (xC (.int 9)) (xNil))))) (sSeq (sSet 4 (xCall 2 f__law_take (xCons (xVar 0) (xCons (xCallN oMax (xCons (xC (.int 1)) (xCons (xCallN oLen (xCons (xVar 1) (xNil))) (xNil)))) (xNil))))) (sSeq (sSet 5 (xBin (oIx2 gt) (xVar 2) (xCall 2 f__law_take (xCons (xVar 0) (xCons (xCallN oLen (xCons (xVar 2) (xNil))) (xNil)))))) (sSeq (sSet 6 (xLst (xCons (xTup (xCons (xC (.str "hide")) (xNil))) (xCons (xTup (xCons (xC (.str "hide")) (xCons (xVar 5) (xCons (xVar 5) (xNil))))) (xCons (xTup (xCons (xC (.str "as")) (xCons (xVar 5) (xNil)))) (xCons (xTup (xCons (xC (.str "give")) (xCons (xVar 5) (xNil)))) (xCons (xTup (xCons (xC (.str "count")) (xCons (xVar 5) (xCons (xC (.int 1)) (xNil))))) (xCons (xTup (xCons (xC (.str "turn")) (xCons (xVar 5) (xNil)))) (xNil))))))))) (sSeq (sSet 6 (xBin oAdd (xVar 6) (xLst (xCons (xTup (xCons (xC (.str "bar")) (xCons (xC (.int 5)) (xNil)))) (xCons (xTup (xCons (xC (.str "as")) (xCons (xVar 5) (xCons (xC .non) (xNil))))) (xCons (xTup (xCons (xC (.str "give")) (xCons (xVar 5) (xCons (xBin oAdd (xBin oPow (xC (.int 10)) (xC (.int 9))) (xC (.int 1))) (xNil))))) (xCons (xTup (xCons (xC (.str "give")) (xCons (xVar 5) (xCons (xC (.bl true)) (xNil))))) (xNil)))))))) (sSeq (sSet 7 (xTup (xCons (xC (.str "row")) (xCons (xTup (xCons (xTup (xCons (xC (.str "row")) (xCons (xTup (xCons (xTup (xCons (xC (.str "row")) (xCons (xTup (xCons (xTup (xCons (xC (.str "row")) (xCons (xTup (xCons (xTup (xCons (xC (.str "row")) (xCons (xTup (xNil)) (xNil)))) (xNil))) (xNil)))) (xNil))) (xNil)))) (xNil))) (xNil)))) (xNil))) (xNil))))) (sSeq (sSet 6 (xBin oAdd (xVar 6) (xLst (xCons (xTup (xCons (xC (.str "give")) (xCons (xVar 5) (xCons (xLst (xCons (xC (.int 1)) (xNil))) (xNil))))) (xCons (xTup (xNil)) (xCons (xC .non) (xCons (xC (.int 7)) (xCons (xTup (xCons (xC (.str "give")) (xCons (xVar 5) (xCons (xTup (xCons (xC (.str "row")) (xCons (xC (.int 5)) (xNil)))) (xNil))))) (xCons (xTup (xCons (xC (.str "give")) (xCons (xVar 5) (xCons (xTup (xCons (xC (.str "row")) (xCons (xTup (xCons (xC (.bl true)) (xNil))) (xNil)))) (xNil))))) (xNil)))))))))) (sSeq (sSet 6 (xBin oAdd (xVar 6) (xLst (xCons (xTup (xCons (xC (.str "hide")) (xCons (xC (.str "me")) (xNil)))) (xCons (xTup (xCons (xC (.str "as")) (xCons (xVar 5) (xCons (xC (.str "none")) (xNil))))) (xCons (xTup (xCons (xC (.str "bar")) (xCons (xC (.str "ninesigns")) (xNil)))) (xCons (xTup (xCons (xC (.str "count")) (xCons (xC (.str "A")) (xNil)))) (xCons (xC (.str "hide")) (xCons (xLst (xCons (xC (.str "hide")) (xCons (xVar 5) (xNil)))) (xNil)))))))))) (sSeq (sExpr (xMeth "list" oAppend (xVar 6) (xCons (xTup (xCons (xC (.str "give")) (xCons (xVar 5) (xCons (xVar 7) (xNil))))) (xNil)))) (sSeq (sIf (xTest (xBin oLt (xVar 3) (xC (.int 3)))) (sRet (xBin oAdd (xBin oAdd (xSl oSl (xVar 1) none (some (xVar 4))) (xTup (xCons (xBin (oIx2 gt) (xVar 6) (xCall 2 f__law_take (xCons (xVar 0) (xCons (xC (.int 23)) (xNil))))) (xNil)))) (xSl oSl (xVar 1) (some (xVar 4)) none))) (sNil)) (sSeq (sIf (xTest (xBin oEq (xVar 3) (xC (.int 3)))) (sRet (xBin oAdd (xVar 1) (xSl oSl (xVar 1) (some (xVar 4)) (some (xBin oAdd (xVar 4) (xC (.int 1))))))) (sNil)) (sSeq (sIf (xTest (xBin oEq (xVar 3) (xC (.int 4)))) (sSeq (sSet 8 (xLst (xCons (xTup (xCons (xC (.str "hide")) (xCons (xVar 5) (xNil)))) (xCons (xTup (xCons (xC (.str "bar")) (xCons (xVar 5) (xNil)))) (xCons (xTup (xCons (xC (.str "as")) (xCons (xVar 5) (xCons (xVar 5) (xNil))))) (xCons (xTup (xCons (xC (.str "give")) (xCons (xVar 5) (xCons (xC (.int 5)) (xNil))))) (xNil))))))) (sRet (xBin oAdd (xVar 1) (xTup (xCons (xBin (oIx2 gt) (xVar 8) (xCall 2 f__law_take (xCons (xVar 0) (xCons (xC (.int 4)) (xNil))))) (xCons (xBin (oIx2 gt) (xVar 8) (xCall 2 f__law_take (xCons (xVar 0) (xCons (xC (.int 4)) (xNil))))) (xNil))))))) (sNil)) (sSeq (sIf (xTest (xBin oEq (xVar 3) (xC (.int 5)))) (sRet (xBin oAdd (xVar 1) (xCallN oTuple (xCons (xComp (xIter (xVar 2)) (.name 9) (xYes) (xTup (xCons (xC (.str "count")) (xCons (xVar 9) (xNil)))) [9]) (xNil))))) (sNil)) (sSeq (sIf (xTest (xBin oEq (xVar 3) (xC (.int 6)))) (sRet (xBin (oIx2 gt) (xLst (xCons (xC .non) (xCons (xC (.int 7)) (xCons (xC (.str "")) (xCons (xDict []) (xCons (xCallN oList (xCons (xVar 1) (xNil))) (xCons (xTup (xCons (xVar 1) (xNil))) (xCons (xC (.bl true)) (xNil))))))))) (xCall 2 f__law_take (xCons (xVar 0) (xCons (xC (.int 7)) (xNil)))))) (sNil)) (sSeq (sIf (xAndT (xTest (xBin oEq (xVar 3) (xC (.int 7)))) (xAndT (xTest (xBin oNe (xVar 1) (xTup (xNil)))) (xTru (xCallN oIsi (xCons (xBin (oIx2 gt) (xVar 1) (xVar 4)) (xCons (xC (.ty "tuple")) (xNil))))))) (sRet (xBin oAdd (xBin oAdd (xSl oSl (xVar 1) none (some (xVar 4))) (xTup (xCons (xCallN oList (xCons (xBin (oIx2 gt) (xVar 1) (xVar 4)) (xNil))) (xNil)))) (xSl oSl (xVar 1) (some (xBin oAdd (xVar 4) (xC (.int 1)))) none))) (sNil)) (sRet (xUn oRev (xVar 1)))))))))))))))))
noncomputable def f__law_spoilt : Fn := callF 10 x__law_spoilt
noncomputable def x__law_called : XS := sSeq (sIf (xOrT (xNotT (xTru (xCallN oIsi (xCons (xVar 0) (xCons (xC (.ty "str")) (xNil)))))) (xOrT (xNotT (xTest (xChain oLe oLe (xC (.int 1)) (xCallN oLen (xCons (xVar 0) (xNil))) (xC (.int 8))))) (xTest (xBin (oIn2 gt) (xVar 0) (xTup (xCons (xC (.str "me")) (xCons (xC (.str "here")) (xCons (xC (.str "none")) (xNil))))))))) (sRet (xC (.bl false))) (sNil)) (sRet (xBin oEq (xComp (xIter (xVar 0)) (.name 1) (xNotT (xTest (xChain oLe oLe (xC (.str "a")) (xVar 1) (xC (.str "z"))))) (xVar 1) [1]) (xLst (xNil))))
noncomputable def f__law_called : Fn := callF 2 x__law_called
noncomputable def x__law_worthy (self : Fn) : XS := sSeq (sIf (xOrT (xTest (xBin oIs (xVar 0) (xC .non))) (xTru (xCallN oIsi (xCons (xVar 0) (xCons (xC (.ty "int")) (xNil)))))) (sRet (xOrV (xBin oIs (xVar 0) (xC .non)) (xAndV (xNotV (xCallN oIsi (xCons (xVar 0) (xCons (xC (.ty "bool")) (xNil))))) (xChain oLe oLe (xBin oSub (xC (.int 0)) (xBin oPow (xC (.int 10)) (xC (.int 9)))) (xVar 0) (xBin oPow (xC (.int 10)) (xC (.int 9))))))) (sNil)) (sSeq (sIf (xTru (xCallN oIsi (xCons (xVar 0) (xCons (xC (.ty "str")) (xNil))))) (sRet (xBin oLe (xCallN oLen (xCons (xVar 0) (xNil))) (xC (.int 60)))) (sNil)) (sSeq (sIf (xOrT (xNotT (xTru (xCallN oIsi (xCons (xVar 0) (xCons (xC (.ty "tuple")) (xNil)))))) (xOrT (xTest (xBin oNe (xCallN oLen (xCons (xVar 0) (xNil))) (xC (.int 2)))) (xTest (xBin (oNotIn2 gt) (xBin (oIx2 gt) (xVar 0) (xC (.int 0))) (xTup (xCons (xC (.str "thing")) (xCons (xC (.str "row")) (xNil)))))))) (sRet (xC (.bl false))) (sNil)) (sSeq (sIf (xTest (xBin oEq (xBin (oIx2 gt) (xVar 0) (xC (.int 0))) (xC (.str "thing")))) (sRet (xAndV (xCallN oIsi (xCons (xBin (oIx2 gt) (xVar 0) (xC (.int 1))) (xCons (xC (.ty "int")) (xNil)))) (xAndV (xNotV (xCallN oIsi (xCons (xBin (oIx2 gt) (xVar 0) (xC (.int 1))) (xCons (xC (.ty "bool")) (xNil))))) (xChain oLe oLe (xC (.int 0)) (xBin (oIx2 gt) (xVar 0) (xC (.int 1))) (xC (.int 999)))))) (sNil)) (sSeq (sIf (xOrT (xTest (xBin oEq (xVar 1) (xC (.int 0)))) (xOrT (xNotT (xTru (xCallN oIsi (xCons (xBin (oIx2 gt) (xVar 0) (xC (.int 1))) (xCons (xC (.ty "tuple")) (xNil)))))) (xTest (xBin oGt (xCallN oLen (xCons (xBin (oIx2 gt) (xVar 0) (xC (.int 1))) (xNil))) (xC (.int 30)))))) (sRet (xC (.bl false))) (sNil)) (sRet (xBin oEq (xComp (xIter (xBin (oIx2 gt) (xVar 0) (xC (.int 1)))) (.name 2) (xNotT (xTru (xCall 2 self (xCons (xVar 2) (xCons (xBin oSub (xVar 1) (xC (.int 1))) (xNil)))))) (xVar 2) [2]) (xLst (xNil))))))))
noncomputable def f__law_worthy : Nat → Fn
  | 0 => fun _ _ => .stuck
  | n + 1 => callF 3 (x__law_worthy (f__law_worthy n))
noncomputable def x__law_rule_good : XS := sSeq (sSet 1 (xDict [(xC (.str "hide"), xC (.int 2)), (xC (.str "bar"), xC (.int 2)), (xC (.str "as"), xC (.int 3)), (xC (.str "give"), xC (.int 3)), (xC (.str "count"), xC (.int 2))])) (sSeq (sIf (xOrT (xNotT (xTru (xCallN oIsi (xCons (xVar 0) (xCons (xC (.ty "tuple")) (xNil)))))) (xOrT (xTest (xBin oEq (xCallN oLen (xCons (xVar 0) (xNil))) (xC (.int 0)))) (xOrT (xNotT (xTru (xCallN oIsi (xCons (xBin (oIx2 gt) (xVar 0) (xC (.int 0))) (xCons (xC (.ty "str")) (xNil)))))) (xTest (xBin (oNotIn2 gt) (xBin (oIx2 gt) (xVar 0) (xC (.int 0))) (xVar 1)))))) (sRet (xC (.bl false))) (sNil)) (sSeq (sIf (xOrT (xTest (xBin oNe (xCallN oLen (xCons (xVar 0) (xNil))) (xBin (oIx2 gt) (xVar 1) (xBin (oIx2 gt) (xVar 0) (xC (.int 0)))))) (xNotT (xTru (xCall 1 f__law_called (xCons (xBin (oIx2 gt) (xVar 0) (xC (.int 1))) (xNil)))))) (sRet (xC (.bl false))) (sNil)) (sSeq (sIf (xTest (xBin oEq (xBin (oIx2 gt) (xVar 0) (xC (.int 0))) (xC (.str "as")))) (sRet (xCall 1 f__law_called (xCons (xBin (oIx2 gt) (xVar 0) (xC (.int 2))) (xNil)))) (sNil)) (sRet (xOrV (xBin oNe (xBin (oIx2 gt) (xVar 0) (xC (.int 0))) (xC (.str "give"))) (xCall 2 (f__law_worthy 12) (xCons (xBin (oIx2 gt) (xVar 0) (xC (.int 2))) (xCons (xC (.int 4)) (xNil)))))))))
noncomputable def f__law_rule_good : Fn := callF 2 x__law_rule_good
noncomputable def x__law_good : XS := sSeq (sIf (xOrT (xNotT (xTru (xCallN oIsi (xCons (xVar 0) (xCons (xC (.ty "tuple")) (xNil)))))) (xOrT (xTest (xBin oGt (xCallN oLen (xCons (xVar 0) (xNil))) (xC (.int 8)))) (xTest (xBin oNe (xComp (xIter (xVar 0)) (.name 3) (xNotT (xTru (xCall 1 f__law_rule_good (xCons (xVar 3) (xNil))))) (xVar 3) [3]) (xLst (xNil)))))) (sRet (xC (.bl false))) (sNil)) (sSeq (sSet 1 (xComp (xIter (xVar 0)) (.name 3) (xTest (xBin oNe (xBin (oIx2 gt) (xVar 3) (xC (.int 0))) (xC (.str "count")))) (xBin (oIx2 gt) (xVar 3) (xC (.int 1))) [3])) (sSeq (sSet 2 (xComp (xIter (xVar 0)) (.name 3) (xTest (xBin oEq (xBin (oIx2 gt) (xVar 3) (xC (.int 0))) (xC (.str "count")))) (xBin (oIx2 gt) (xVar 3) (xC (.int 1))) [3])) (sRet (xAndV (xBin oEq (xUn oLenSet (xVar 1)) (xCallN oLen (xCons (xVar 1) (xNil)))) (xBin oEq (xUn oLenSet (xVar 2)) (xCallN oLen (xCons (xVar 2) (xNil))))))))
noncomputable def f__law_good : Fn := callF 4 x__law_good
noncomputable def x_law : XS := sSeq (sFor (xRange1 (xCallN oMax (xCons (xC (.int 2)) (xCons (xCallN oMin (xCons (xC (.int 8)) (xCons (xCallN oLen (xCons (xVar 0) (xNil))) (xNil)))) (xNil))))) (.name 1) (sSeq (sSet 2 (xCall 1 f__law_purse (xCons (xCall 2 f__law_cell (xCons (xVar 0) (xCons (xVar 1) (xNil)))) (xNil)))) (sSeq (sSet 3 (xCall 2 f__law_pool (xCons (xVar 2) (xCons (xC (.int 9)) (xNil))))) (sSeq (sSet 4 (xCall 2 f__law_rules (xCons (xVar 2) (xCons (xVar 3) (xNil))))) (sSeq (sIf (xOrT (xTest (xBin oIsNot (xCall 1 f_are_rules (xCons (xVar 4) (xNil))) (xC (.bl true)))) (xNotT (xTru (xCall 1 f__law_good (xCons (xVar 4) (xNil)))))) (sRet (xC (.bl false))) (sNil)) (sFor (xRange1 (xC (.int 4))) (.name 5) (sSeq (sSet 6 (xVar 4)) (sSeq (sFor (xRange1 (xBin oAdd (xC (.int 1)) (xCall 2 f__law_take (xCons (xVar 2) (xCons (xC (.int 2)) (xNil)))))) (.name 7) (sIf (xTru (xCallN oIsi (xCons (xVar 6) (xCons (xC (.ty "tuple")) (xNil))))) (sSet 6 (xCall 3 f__law_spoilt (xCons (xVar 2) (xCons (xVar 6) (xCons (xVar 3) (xNil)))))) (sNil))) (sSeq (sPar [8, 9] (xCons (xCallN oRepr (xCons (xCall 1 f__law_good (xCons (xVar 6) (xNil))) (xNil))) (xCons (xCallN oRepr (xCons (xVar 6) (xNil))) (xNil)))) (sIf (xOrT (xTest (xBin oNe (xCallN oRepr (xCons (xCall 1 f_are_rules (xCons (xVar 6) (xNil))) (xNil))) (xVar 8))) (xOrT (xTest (xBin oNe (xCallN oRepr (xCons (xCall 1 f_are_rules (xCons (xVar 6) (xNil))) (xNil))) (xVar 8))) (xTest (xBin oNe (xCallN oRepr (xCons (xVar 6) (xNil))) (xVar 9))))) (sRet (xC (.bl false))) (sNil))))))))))) (sRet (xC (.bl true)))
noncomputable def f_law : Fn := callF 10 x_law
end K
namespace K
open PySem L2 EX
def top (i : Nat) : Stmt := PySem.Challenge.pw_innerlook_k26_rules_by_form.main.body.getD i (.Pass ⟨0, 0, 0, 0⟩)
abbrev s_is_whole : Stmt := top 11
theorem sc_is_whole : FnScope ["thing", "low", "high"] ["thing", "low", "high"] (defScope s_is_whole) := ⟨rfl, rfl, rfl, by decide +kernel, rfl, by decide +kernel, by decide +kernel⟩
abbrev s_is_name : Stmt := top 12
theorem sc_is_name : FnScope ["thing", "sign"] ["thing"] (defScope s_is_name) := ⟨rfl, rfl, rfl, by decide +kernel, rfl, by decide +kernel, by decide +kernel⟩
abbrev s_is_text : Stmt := top 13
theorem sc_is_text : FnScope ["thing", "sign"] ["thing"] (defScope s_is_text) := ⟨rfl, rfl, rfl, by decide +kernel, rfl, by decide +kernel, by decide +kernel⟩
abbrev s_is_number : Stmt := top 14
theorem sc_is_number : FnScope ["thing"] ["thing"] (defScope s_is_number) := ⟨rfl, rfl, rfl, by decide +kernel, rfl, by decide +kernel, by decide +kernel⟩
abbrev s_is_pair : Stmt := top 15
theorem sc_is_pair : FnScope ["thing", "word"] ["thing", "word"] (defScope s_is_pair) := ⟨rfl, rfl, rfl, by decide +kernel, rfl, by decide +kernel, by decide +kernel⟩
abbrev s_is_thing : Stmt := top 16
theorem sc_is_thing : FnScope ["thing"] ["thing"] (defScope s_is_thing) := ⟨rfl, rfl, rfl, by decide +kernel, rfl, by decide +kernel, by decide +kernel⟩
abbrev s_is_worth_within : Stmt := top 17
theorem sc_is_worth_within : FnScope ["thing", "deep", "part"] ["thing", "deep"] (defScope s_is_worth_within) := ⟨rfl, rfl, rfl, by decide +kernel, rfl, by decide +kernel, by decide +kernel⟩
abbrev s_is_worth : Stmt := top 18
theorem sc_is_worth : FnScope ["thing"] ["thing"] (defScope s_is_worth) := ⟨rfl, rfl, rfl, by decide +kernel, rfl, by decide +kernel, by decide +kernel⟩
abbrev s_is_rule : Stmt := top 22
theorem sc_is_rule : FnScope ["thing", "word", "parts"] ["thing"] (defScope s_is_rule) := ⟨rfl, rfl, rfl, by decide +kernel, rfl, by decide +kernel, by decide +kernel⟩
abbrev s_are_rules : Stmt := top 23
theorem sc_are_rules : FnScope ["thing", "led_names", "counted_names", "rule"] ["thing"] (defScope s_are_rules) := ⟨rfl, rfl, rfl, by decide +kernel, rfl, by decide +kernel, by decide +kernel⟩
abbrev s__law_cell : Stmt := top 25
theorem sc__law_cell : FnScope ["_law_script", "_law_k"] ["_law_script", "_law_k"] (defScope s__law_cell) := ⟨rfl, rfl, rfl, by decide +kernel, rfl, by decide +kernel, by decide +kernel⟩
abbrev s__law_purse : Stmt := top 26
theorem sc__law_purse : FnScope ["_law_cell_here"] ["_law_cell_here"] (defScope s__law_purse) := ⟨rfl, rfl, rfl, by decide +kernel, rfl, by decide +kernel, by decide +kernel⟩
abbrev s__law_take : Stmt := top 27
theorem sc__law_take : FnScope ["_law_purse_here", "_law_below", "_law_digit", "_law_left", "_law_right"] ["_law_purse_here", "_law_below"] (defScope s__law_take) := ⟨rfl, rfl, rfl, by decide +kernel, rfl, by decide +kernel, by decide +kernel⟩
abbrev s__law_pool : Stmt := top 28
theorem sc__law_pool : FnScope ["_law_purse_here", "_law_size", "_law_letters", "_law_way", "_law_first", "_law_step", "_law_words", "_law_stem", "_law_at", "_law_head", "_law_tail", "_law_found", "_law_k", "_law_name"] ["_law_purse_here", "_law_size"] (defScope s__law_pool) := ⟨rfl, rfl, rfl, by decide +kernel, rfl, by decide +kernel, by decide +kernel⟩
abbrev s__law_rules : Stmt := top 29
theorem sc__law_rules : FnScope ["_law_purse_here", "_law_pool_here", "_law_found", "_law_ruled", "_law_noted", "_law_k", "_law_name", "_law_other", "_law_worth", "_law_rule"] ["_law_purse_here", "_law_pool_here"] (defScope s__law_rules) := ⟨rfl, rfl, rfl, by decide +kernel, rfl, by decide +kernel, by decide +kernel⟩
abbrev s__law_spoilt : Stmt := top 30
theorem sc__law_spoilt : FnScope ["_law_purse_here", "_law_rules_here", "_law_pool_here", "_law_way", "_law_at", "_law_name", "_law_odd", "_law_deep", "_law_both", "_law_one"] ["_law_purse_here", "_law_rules_here", "_law_pool_here"] (defScope s__law_spoilt) := ⟨rfl, rfl, rfl, by decide +kernel, rfl, by decide +kernel, by decide +kernel⟩
abbrev s__law_called : Stmt := top 31
theorem sc__law_called : FnScope ["_law_thing", "_law_sign"] ["_law_thing"] (defScope s__law_called) := ⟨rfl, rfl, rfl, by decide +kernel, rfl, by decide +kernel, by decide +kernel⟩
abbrev s__law_worthy : Stmt := top 32
theorem sc__law_worthy : FnScope ["_law_thing", "_law_deep", "_law_part"] ["_law_thing", "_law_deep"] (defScope s__law_worthy) := ⟨rfl, rfl, rfl, by decide +kernel, rfl, by decide +kernel, by decide +kernel⟩
abbrev s__law_rule_good : Stmt := top 33
theorem sc__law_rule_good : FnScope ["_law_rule", "_law_sizes"] ["_law_rule"] (defScope s__law_rule_good) := ⟨rfl, rfl, rfl, by decide +kernel, rfl, by decide +kernel, by decide +kernel⟩
abbrev s__law_good : Stmt := top 34
theorem sc__law_good : FnScope ["_law_thing", "_law_ruled", "_law_noted", "_law_rule"] ["_law_thing"] (defScope s__law_good) := ⟨rfl, rfl, rfl, by decide +kernel, rfl, by decide +kernel, by decide +kernel⟩
abbrev s_law : Stmt := top 35
theorem sc_law : FnScope ["_law_script", "_law_k", "_law_purse_here", "_law_pool_here", "_law_rules_here", "_law_step", "_law_thing", "_law_turn", "_law_due", "_law_kept"] ["_law_script"] (defScope s_law) := ⟨rfl, rfl, rfl, by decide +kernel, rfl, by decide +kernel, by decide +kernel⟩
abbrev FnP (K : PySem.W.Frag) (x : Str) (st : Stmt) (fd : Str → FuncData) : Prop := FunD K x x (defArgs st) (defBody st) (defScope st) [] [] (He.ga K x) (fd x)
structure Facts (K : PySem.W.Frag) (mg : Str → Option Value) (w : World) (fd : Str → FuncData) : Prop where
  d_is_whole : FnP K "is_whole" s_is_whole fd
  g_is_whole : mg "is_whole" = some (.ref (He.ga K "is_whole"))
  d_is_name : FnP K "is_name" s_is_name fd
  g_is_name : mg "is_name" = some (.ref (He.ga K "is_name"))
  d_is_text : FnP K "is_text" s_is_text fd
  g_is_text : mg "is_text" = some (.ref (He.ga K "is_text"))
  d_is_number : FnP K "is_number" s_is_number fd
  g_is_number : mg "is_number" = some (.ref (He.ga K "is_number"))
  d_is_pair : FnP K "is_pair" s_is_pair fd
  g_is_pair : mg "is_pair" = some (.ref (He.ga K "is_pair"))
  d_is_thing : FnP K "is_thing" s_is_thing fd
  g_is_thing : mg "is_thing" = some (.ref (He.ga K "is_thing"))
  d_is_worth_within : FnP K "is_worth_within" s_is_worth_within fd
  g_is_worth_within : mg "is_worth_within" = some (.ref (He.ga K "is_worth_within"))
  d_is_worth : FnP K "is_worth" s_is_worth fd
  g_is_worth : mg "is_worth" = some (.ref (He.ga K "is_worth"))
  d_is_rule : FnP K "is_rule" s_is_rule fd
  g_is_rule : mg "is_rule" = some (.ref (He.ga K "is_rule"))
  d_are_rules : FnP K "are_rules" s_are_rules fd
  g_are_rules : mg "are_rules" = some (.ref (He.ga K "are_rules"))
  d__law_cell : FnP K "_law_cell" s__law_cell fd
  g__law_cell : mg "_law_cell" = some (.ref (He.ga K "_law_cell"))
  d__law_purse : FnP K "_law_purse" s__law_purse fd
  g__law_purse : mg "_law_purse" = some (.ref (He.ga K "_law_purse"))
  d__law_take : FnP K "_law_take" s__law_take fd
  g__law_take : mg "_law_take" = some (.ref (He.ga K "_law_take"))
  d__law_pool : FnP K "_law_pool" s__law_pool fd
  g__law_pool : mg "_law_pool" = some (.ref (He.ga K "_law_pool"))
  d__law_rules : FnP K "_law_rules" s__law_rules fd
  g__law_rules : mg "_law_rules" = some (.ref (He.ga K "_law_rules"))
  d__law_spoilt : FnP K "_law_spoilt" s__law_spoilt fd
  g__law_spoilt : mg "_law_spoilt" = some (.ref (He.ga K "_law_spoilt"))
  d__law_called : FnP K "_law_called" s__law_called fd
  g__law_called : mg "_law_called" = some (.ref (He.ga K "_law_called"))
  d__law_worthy : FnP K "_law_worthy" s__law_worthy fd
  g__law_worthy : mg "_law_worthy" = some (.ref (He.ga K "_law_worthy"))
  d__law_rule_good : FnP K "_law_rule_good" s__law_rule_good fd
  g__law_rule_good : mg "_law_rule_good" = some (.ref (He.ga K "_law_rule_good"))
  d__law_good : FnP K "_law_good" s__law_good fd
  g__law_good : mg "_law_good" = some (.ref (He.ga K "_law_good"))
  d_law : FnP K "law" s_law fd
  g_law : mg "law" = some (.ref (He.ga K "law"))
  n_all : mg "all" = none
  n_bool : mg "bool" = none
  n_int : mg "int" = none
  n_isinstance : mg "isinstance" = none
  n_len : mg "len" = none
  n_list : mg "list" = none
  n_max : mg "max" = none
  n_min : mg "min" = none
  n_ord : mg "ord" = none
  n_range : mg "range" = none
  n_repr : mg "repr" = none
  n_set : mg "set" = none
  n_str : mg "str" = none
  n_tuple : mg "tuple" = none
  t_LENGTHS : GTb K mg w "LENGTHS" t_LENGTHS
  c_LETTERS : ∃ t, mg "LETTERS" = some (.str "abcdefghijklmnopqrstuvwxyz" t)
  c_MOST_DEEP : ∃ t, mg "MOST_DEEP" = some (.int 4 t)
  c_MOST_NAME : ∃ t, mg "MOST_NAME" = some (.int 8 t)
  c_MOST_NUMBER : ∃ t, mg "MOST_NUMBER" = some (.int 1000000000 t)
  c_MOST_PARTS : ∃ t, mg "MOST_PARTS" = some (.int 30 t)
  c_MOST_RULES : ∃ t, mg "MOST_RULES" = some (.int 8 t)
  c_MOST_SIGNS : ∃ t, mg "MOST_SIGNS" = some (.int 60 t)
  c_MOST_THING : ∃ t, mg "MOST_THING" = some (.int 999 t)
  c_NO_NAMES : KTup K mg "NO_NAMES" (k_NO_NAMES.map flatV2)
  c_PER_CENT : ∃ t, mg "PER_CENT" = some (.int 37 t)
  c_QUOTE : ∃ t, mg "QUOTE" = some (.int 39 t)
  sm : SmIn K
  gt : GtOk K mg w _root_.K.gt
  ct : CtOk K mg _root_.K.ct [] []
section
variable {P : Program} {w : World} {K : PySem.W.Frag} {mg : Str → Option Value} {base : Heap} {fd : Str → FuncData}
theorem b_is_whole (T : Facts K mg w fd) : Binds K (fd "is_whole") ["thing", "low", "high"] [] := T.d_is_whole.bindsN fun _ _ _ _ _ _ us hl => match us, hl with | [_, _, _], _ => rfl
theorem ok_is_whole (T : Facts K mg w fd) : FnG P w K mg base 1 (He.ga K "is_whole") (fd "is_whole") ["thing", "low", "high"] (spX ⟨K, mg, w⟩ 3 f_is_whole) :=
  fn_x (k := 0) T.d_is_whole sc_is_whole fun cdv A outer s H E hr hgd => by
    have tk := takes_of (X := cxOf (L2.CX P w) P w K mg base ["thing", "low", "high"] "is_whole" (defScope s_is_whole) (He.ga K "is_whole") cdv A outer s H E) (E := E) rfl rfl rfl rfl
    have hpo := passes_of (X := cxOf (L2.CX P w) P w K mg base ["thing", "low", "high"] "is_whole" (defScope s_is_whole) (He.ga K "is_whole") cdv A outer s H E) rfl
    have hu1 := hu_of hr; have hu64 := hr.units; have hu70 := un70 hr
    exact (qss_one (qs_ret (q_and (q_callB call_isi_x rfl T.n_isinstance bt_isinstance (qa_cons (q_var 0 (pv 0)) (qa_cons (q_ty rfl T.n_int bt_int) qa_nil))) (q_and (q_not (q_callB call_isi_x rfl T.n_isinstance bt_isinstance (qa_cons (q_var 0 (pv 0)) (qa_cons (q_ty rfl T.n_bool bt_bool) qa_nil)))) (q_one (q_chain op_le_x op_le_x (q_var 1 (pv 1)) (q_var 0 (pv 0)) (q_var 2 (pv 2))))))))
theorem b_is_name (T : Facts K mg w fd) : Binds K (fd "is_name") ["thing"] [] := T.d_is_name.bindsN fun _ _ _ _ _ _ us hl => match us, hl with | [_], _ => rfl
theorem ok_is_name (T : Facts K mg w fd) : FnG P w K mg base 1 (He.ga K "is_name") (fd "is_name") ["thing"] (spX ⟨K, mg, w⟩ 1 f_is_name) :=
  fn_x (k := 0) T.d_is_name sc_is_name fun cdv A outer s H E hr hgd => by
    have tk := takes_of (X := cxOf (L2.CX P w) P w K mg base ["thing", "sign"] "is_name" (defScope s_is_name) (He.ga K "is_name") cdv A outer s H E) (E := E) rfl rfl rfl rfl
    have hpo := passes_of (X := cxOf (L2.CX P w) P w K mg base ["thing", "sign"] "is_name" (defScope s_is_name) (He.ga K "is_name") cdv A outer s H E) rfl
    have hu1 := hu_of hr; have hu64 := hr.units; have hu70 := un70 hr
    exact (qss_cons (qs_if (PW.pt (qw_or (qt_not (qt_tru (q_callB call_isi_x rfl T.n_isinstance bt_isinstance (qa_cons (q_var 0 (pv 0)) (qa_cons (q_ty rfl T.n_str bt_str) qa_nil))))) (qw_or (qt_not (qt_chain op_le_x op_le_x q_int (q_callB call_len_x rfl T.n_len bt_len (qa_cons (q_var 0 (pv 0)) qa_nil)) (q_gint T.c_MOST_NAME rfl))) (qw_or1 (qt_cmp (op_in2_x T.gt hu64) (q_var 0 (pv 0)) (q_gtup (xs := k_NO_NAMES) T.c_NO_NAMES rfl) (by rfl)))))) (qss_one (qs_ret q_bl)) qss_nil) (qss_one (qs_ret (q_callB (call_all_x rfl) rfl T.n_all bt_all (qa_cons (q_lc (own := [("sign", 1)]) rfl sc_is_name.nd (qi_any (q_var 0 (pv 0))) (blkOk_by (N := ["thing", "sign"]) (sc := defScope s_is_name) (by decide +kernel)) (fun _ _ _ _ _ => (qg_name 1 sc_is_name.nd rfl (Or.inl rfl))) (fun _ _ _ _ _ => qts_nil) (fun _ _ _ _ _ => (q_cmp (op_in2_x T.gt hu64) (q_var 1 (pv 1)) (q_gstr T.c_LETTERS rfl) (by rfl)))) qa_nil)))))
theorem b_is_text (T : Facts K mg w fd) : Binds K (fd "is_text") ["thing"] [] := T.d_is_text.bindsN fun _ _ _ _ _ _ us hl => match us, hl with | [_], _ => rfl
theorem ok_is_text (T : Facts K mg w fd) : FnG P w K mg base 1 (He.ga K "is_text") (fd "is_text") ["thing"] (spX ⟨K, mg, w⟩ 1 f_is_text) :=
  fn_x (k := 0) T.d_is_text sc_is_text fun cdv A outer s H E hr hgd => by
    have tk := takes_of (X := cxOf (L2.CX P w) P w K mg base ["thing", "sign"] "is_text" (defScope s_is_text) (He.ga K "is_text") cdv A outer s H E) (E := E) rfl rfl rfl rfl
    have hpo := passes_of (X := cxOf (L2.CX P w) P w K mg base ["thing", "sign"] "is_text" (defScope s_is_text) (He.ga K "is_text") cdv A outer s H E) rfl
    have hu1 := hu_of hr; have hu64 := hr.units; have hu70 := un70 hr
    exact (qss_cons (qs_if (PW.pt (qw_or (qt_not (qt_tru (q_callB call_isi_x rfl T.n_isinstance bt_isinstance (qa_cons (q_var 0 (pv 0)) (qa_cons (q_ty rfl T.n_str bt_str) qa_nil))))) (qw_or1 (qt_cmp op_gt_x (q_callB call_len_x rfl T.n_len bt_len (qa_cons (q_var 0 (pv 0)) qa_nil)) (q_gint T.c_MOST_SIGNS rfl) (nomark _))))) (qss_one (qs_ret q_bl)) qss_nil) (qss_one (qs_ret (q_callB (call_all_x rfl) rfl T.n_all bt_all (qa_cons (q_lc (own := [("sign", 1)]) rfl sc_is_text.nd (qi_any (q_var 0 (pv 0))) (blkOk_by (N := ["thing", "sign"]) (sc := defScope s_is_text) (by decide +kernel)) (fun _ _ _ _ _ => (qg_name 1 sc_is_text.nd rfl (Or.inl rfl))) (fun _ _ _ _ _ => qts_nil) (fun _ _ _ _ _ => (q_and (q_chain op_le_x op_le_x q_str (q_var 1 (pv 1)) q_str) (q_one (q_cmp (op_notIn2_x T.gt hu64) (q_callB call_ord_x rfl T.n_ord bt_ord (qa_cons (q_var 1 (pv 1)) qa_nil)) (q_tup (qa_cons (q_gint T.c_PER_CENT rfl) (qa_cons (q_gint T.c_QUOTE rfl) qa_nil))) (by rfl)))))) qa_nil)))))
theorem b_is_number (T : Facts K mg w fd) : Binds K (fd "is_number") ["thing"] [] := T.d_is_number.bindsN fun _ _ _ _ _ _ us hl => match us, hl with | [_], _ => rfl
theorem ok_is_number (T : Facts K mg w fd) : FnG P w K mg base 2 (He.ga K "is_number") (fd "is_number") ["thing"] (spX ⟨K, mg, w⟩ 1 f_is_number) :=
  fn_x (k := 1) T.d_is_number sc_is_number fun cdv A outer s H E hr hgd => by
    have tk := takes_of (X := cxOf (L2.CX P w) P w K mg base ["thing"] "is_number" (defScope s_is_number) (He.ga K "is_number") cdv A outer s H E) (E := E) rfl rfl rfl rfl
    have hpo := passes_of (X := cxOf (L2.CX P w) P w K mg base ["thing"] "is_number" (defScope s_is_number) (He.ga K "is_number") cdv A outer s H E) rfl
    have hu1 := hu_of hr; have hu64 := hr.units; have hu70 := un70 hr
    exact (qss_one (qs_ret (q_call ((ok_is_whole T).mono (by decide)) hr hgd rfl T.g_is_whole T.d_is_whole.kp (b_is_whole T) tk (qa_cons (q_var 0 (pv 0)) (qa_cons (q_un un_neg_x (q_gint T.c_MOST_NUMBER rfl)) (qa_cons (q_gint T.c_MOST_NUMBER rfl) qa_nil))))))
theorem b_is_pair (T : Facts K mg w fd) : Binds K (fd "is_pair") ["thing", "word"] [] := T.d_is_pair.bindsN fun _ _ _ _ _ _ us hl => match us, hl with | [_, _], _ => rfl
theorem ok_is_pair (T : Facts K mg w fd) : FnG P w K mg base 1 (He.ga K "is_pair") (fd "is_pair") ["thing", "word"] (spX ⟨K, mg, w⟩ 2 f_is_pair) :=
  fn_x (k := 0) T.d_is_pair sc_is_pair fun cdv A outer s H E hr hgd => by
    have tk := takes_of (X := cxOf (L2.CX P w) P w K mg base ["thing", "word"] "is_pair" (defScope s_is_pair) (He.ga K "is_pair") cdv A outer s H E) (E := E) rfl rfl rfl rfl
    have hpo := passes_of (X := cxOf (L2.CX P w) P w K mg base ["thing", "word"] "is_pair" (defScope s_is_pair) (He.ga K "is_pair") cdv A outer s H E) rfl
    have hu1 := hu_of hr; have hu64 := hr.units; have hu70 := un70 hr
    exact (qss_one (qs_ret (q_and (q_callB call_isi_x rfl T.n_isinstance bt_isinstance (qa_cons (q_var 0 (pv 0)) (qa_cons (q_ty rfl T.n_tuple bt_tuple) qa_nil))) (q_and (q_cmp (op_eq_x hu64) (q_callB call_len_x rfl T.n_len bt_len (qa_cons (q_var 0 (pv 0)) qa_nil)) q_int (nomark _)) (q_and (q_callB call_isi_x rfl T.n_isinstance bt_isinstance (qa_cons (q_ix (ix2_x T.gt hu64) (q_var 0 (pv 0)) q_int (fun _ _ => rfl)) (qa_cons (q_ty rfl T.n_str bt_str) qa_nil))) (q_one (q_cmp (op_eq_x hu64) (q_ix (ix2_x T.gt hu64) (q_var 0 (pv 0)) q_int (fun _ _ => rfl)) (q_var 1 (pv 1)) (nomark _))))))))
theorem b_is_thing (T : Facts K mg w fd) : Binds K (fd "is_thing") ["thing"] [] := T.d_is_thing.bindsN fun _ _ _ _ _ _ us hl => match us, hl with | [_], _ => rfl
theorem ok_is_thing (T : Facts K mg w fd) : FnG P w K mg base 2 (He.ga K "is_thing") (fd "is_thing") ["thing"] (spX ⟨K, mg, w⟩ 1 f_is_thing) :=
  fn_x (k := 1) T.d_is_thing sc_is_thing fun cdv A outer s H E hr hgd => by
    have tk := takes_of (X := cxOf (L2.CX P w) P w K mg base ["thing"] "is_thing" (defScope s_is_thing) (He.ga K "is_thing") cdv A outer s H E) (E := E) rfl rfl rfl rfl
    have hpo := passes_of (X := cxOf (L2.CX P w) P w K mg base ["thing"] "is_thing" (defScope s_is_thing) (He.ga K "is_thing") cdv A outer s H E) rfl
    have hu1 := hu_of hr; have hu64 := hr.units; have hu70 := un70 hr
    exact (qss_one (qs_ret (q_and (q_call ((ok_is_pair T).mono (by decide)) hr hgd rfl T.g_is_pair T.d_is_pair.kp (b_is_pair T) tk (qa_cons (q_var 0 (pv 0)) (qa_cons q_str qa_nil))) (q_one (q_call ((ok_is_whole T).mono (by decide)) hr hgd rfl T.g_is_whole T.d_is_whole.kp (b_is_whole T) tk (qa_cons (q_ix (ix2_x T.gt hu64) (q_var 0 (pv 0)) q_int (fun _ _ => rfl)) (qa_cons q_int (qa_cons (q_gint T.c_MOST_THING rfl) qa_nil))))))))
theorem b_is_worth_within (T : Facts K mg w fd) : Binds K (fd "is_worth_within") ["thing", "deep"] [] := T.d_is_worth_within.bindsN fun _ _ _ _ _ _ us hl => match us, hl with | [_, _], _ => rfl
theorem ok_is_worth_within (T : Facts K mg w fd) : ∀ {n : Nat}, FnG P w K mg base (2 + 1 + n) (He.ga K "is_worth_within") (fd "is_worth_within") ["thing", "deep"] (spX ⟨K, mg, w⟩ 2 (f_is_worth_within n))
  | 0 => ⟨fun _ _ _ _ ⟨_, _, _, _, r, hl, _⟩ => by rw [← r.length, hl]; rfl, fun _ _ _ _ _ _ _ _ _ _ _ _ _ _ ⟨_, _, _, _, _, _, z⟩ => z.elim⟩
  | n + 1 => fn_x (k := 2 + 1 + n) T.d_is_worth_within sc_is_worth_within fun cdv A outer s H E hr hgd => by
    have hself := ok_is_worth_within T (n := n)
    have tk := takes_of (X := cxOf (L2.CX P w) P w K mg base ["thing", "deep", "part"] "is_worth_within" (defScope s_is_worth_within) (He.ga K "is_worth_within") cdv A outer s H E) (E := E) rfl rfl rfl rfl
    have hpo := passes_of (X := cxOf (L2.CX P w) P w K mg base ["thing", "deep", "part"] "is_worth_within" (defScope s_is_worth_within) (He.ga K "is_worth_within") cdv A outer s H E) rfl
    have hu1 := hu_of hr; have hu64 := hr.units; have hu70 := un70 hr
    exact (qss_cons (qs_if (PW.pt (qw_or (qt_cmp op_is_x (q_var 0 (pv 0)) q_non (nomark _)) (qw_or (qt_tru (q_call ((ok_is_number T).mono (by omega)) hr hgd rfl T.g_is_number T.d_is_number.kp (b_is_number T) tk (qa_cons (q_var 0 (pv 0)) qa_nil))) (qw_or (qt_tru (q_call ((ok_is_text T).mono (by omega)) hr hgd rfl T.g_is_text T.d_is_text.kp (b_is_text T) tk (qa_cons (q_var 0 (pv 0)) qa_nil))) (qw_or1 (qt_tru (q_call ((ok_is_thing T).mono (by omega)) hr hgd rfl T.g_is_thing T.d_is_thing.kp (b_is_thing T) tk (qa_cons (q_var 0 (pv 0)) qa_nil)))))))) (qss_one (qs_ret q_bl)) qss_nil) (qss_cons (qs_if (PW.pt (qw_or (qt_cmp (op_eq_x hu64) (q_var 1 (pv 1)) q_int (nomark _)) (qw_or (qt_not (qt_tru (q_call ((ok_is_pair T).mono (by omega)) hr hgd rfl T.g_is_pair T.d_is_pair.kp (b_is_pair T) tk (qa_cons (q_var 0 (pv 0)) (qa_cons q_str qa_nil))))) (qw_or (qt_not (qt_tru (q_callB call_isi_x rfl T.n_isinstance bt_isinstance (qa_cons (q_ix (ix2_x T.gt hu64) (q_var 0 (pv 0)) q_int (fun _ _ => rfl)) (qa_cons (q_ty rfl T.n_tuple bt_tuple) qa_nil))))) (qw_or1 (qt_cmp op_gt_x (q_callB call_len_x rfl T.n_len bt_len (qa_cons (q_ix (ix2_x T.gt hu64) (q_var 0 (pv 0)) q_int (fun _ _ => rfl)) qa_nil)) (q_gint T.c_MOST_PARTS rfl) (nomark _))))))) (qss_one (qs_ret q_bl)) qss_nil) (qss_one (qs_ret (q_callB (call_all_x rfl) rfl T.n_all bt_all (qa_cons (q_lc (own := [("part", 2)]) rfl sc_is_worth_within.nd (qi_any (q_ix (ix2_x T.gt hu64) (q_var 0 (pv 0)) q_int (fun _ _ => rfl))) (blkOk_by (N := ["thing", "deep", "part"]) (sc := defScope s_is_worth_within) (by decide +kernel)) (fun _ _ _ _ _ => (qg_name 2 sc_is_worth_within.nd rfl (Or.inl rfl))) (fun _ _ _ _ _ => qts_nil) (fun _ _ _ _ _ => (q_call hself hr hgd rfl T.g_is_worth_within T.d_is_worth_within.kp (b_is_worth_within T) takes0 (qa_cons (q_var 2 (pv 2)) (qa_cons (q_op op_sub_x (q_var 1 (pv 1)) q_int) qa_nil))))) qa_nil))))))
theorem b_is_worth (T : Facts K mg w fd) : Binds K (fd "is_worth") ["thing"] [] := T.d_is_worth.bindsN fun _ _ _ _ _ _ us hl => match us, hl with | [_], _ => rfl
theorem ok_is_worth (T : Facts K mg w fd) : FnG P w K mg base 16 (He.ga K "is_worth") (fd "is_worth") ["thing"] (spX ⟨K, mg, w⟩ 1 f_is_worth) :=
  fn_x (k := 15) T.d_is_worth sc_is_worth fun cdv A outer s H E hr hgd => by
    have tk := takes_of (X := cxOf (L2.CX P w) P w K mg base ["thing"] "is_worth" (defScope s_is_worth) (He.ga K "is_worth") cdv A outer s H E) (E := E) rfl rfl rfl rfl
    have hpo := passes_of (X := cxOf (L2.CX P w) P w K mg base ["thing"] "is_worth" (defScope s_is_worth) (He.ga K "is_worth") cdv A outer s H E) rfl
    have hu1 := hu_of hr; have hu64 := hr.units; have hu70 := un70 hr
    exact (qss_one (qs_ret (q_call ((ok_is_worth_within T (n := 12)).mono (by decide)) hr hgd rfl T.g_is_worth_within T.d_is_worth_within.kp (b_is_worth_within T) tk (qa_cons (q_var 0 (pv 0)) (qa_cons (q_gint T.c_MOST_DEEP rfl) qa_nil)))))
theorem b_is_rule (T : Facts K mg w fd) : Binds K (fd "is_rule") ["thing"] [] := T.d_is_rule.bindsN fun _ _ _ _ _ _ us hl => match us, hl with | [_], _ => rfl
theorem ok_is_rule (T : Facts K mg w fd) : FnG P w K mg base 17 (He.ga K "is_rule") (fd "is_rule") ["thing"] (spX ⟨K, mg, w⟩ 1 f_is_rule) :=
  fn_x (k := 16) T.d_is_rule sc_is_rule fun cdv A outer s H E hr hgd => by
    have tk := takes_of (X := cxOf (L2.CX P w) P w K mg base ["thing", "word", "parts"] "is_rule" (defScope s_is_rule) (He.ga K "is_rule") cdv A outer s H E) (E := E) rfl rfl rfl rfl
    have hpo := passes_of (X := cxOf (L2.CX P w) P w K mg base ["thing", "word", "parts"] "is_rule" (defScope s_is_rule) (He.ga K "is_rule") cdv A outer s H E) rfl
    have hu1 := hu_of hr; have hu64 := hr.units; have hu70 := un70 hr
    exact (qss_cons (qs_if (PW.pt (qw_or (qt_not (qt_tru (q_callB call_isi_x rfl T.n_isinstance bt_isinstance (qa_cons (q_var 0 (pv 0)) (qa_cons (q_ty rfl T.n_tuple bt_tuple) qa_nil))))) (qw_or (qt_cmp (op_eq_x hu64) (q_callB call_len_x rfl T.n_len bt_len (qa_cons (q_var 0 (pv 0)) qa_nil)) q_int (nomark _)) (qw_or1 (qt_not (qt_tru (q_callB call_isi_x rfl T.n_isinstance bt_isinstance (qa_cons (q_ix (ix2_x T.gt hu64) (q_var 0 (pv 0)) q_int (fun _ _ => rfl)) (qa_cons (q_ty rfl T.n_str bt_str) qa_nil))))))))) (qss_one (qs_ret q_bl)) qss_nil) (qss_cons (qs_star rfl sc_is_rule.nd rfl (Or.inl rfl) rfl (Or.inl rfl) (q_var 0 (pv 0))) (qss_cons (qs_if (PW.pt (qw_or (qt_cmp (op_notIn2_x T.gt hu64) (q_var 1 (pv 1)) (q_gtab rfl T.t_LENGTHS) (by rfl)) (qw_or (qt_cmp (op_ne_x hu64) (q_callB call_len_x rfl T.n_len bt_len (qa_cons (q_var 0 (pv 0)) qa_nil)) (q_ix (ix2_x T.gt hu64) (q_gtab rfl T.t_LENGTHS) (q_var 1 (pv 1)) (fun _ _ => rfl)) (nomark _)) (qw_or1 (qt_not (qt_tru (q_call ((ok_is_name T).mono (by decide)) hr hgd rfl T.g_is_name T.d_is_name.kp (b_is_name T) tk (qa_cons (q_ix (ix2_x T.gt hu64) (q_var 2 (pv 2)) q_int (fun _ _ => rfl)) qa_nil)))))))) (qss_one (qs_ret q_bl)) qss_nil) (qss_cons (qs_if (qt_cmp (op_eq_x hu64) (q_var 1 (pv 1)) q_str (nomark _)) (qss_one (qs_ret (q_call ((ok_is_name T).mono (by decide)) hr hgd rfl T.g_is_name T.d_is_name.kp (b_is_name T) tk (qa_cons (q_ix (ix2_x T.gt hu64) (q_var 2 (pv 2)) q_int (fun _ _ => rfl)) qa_nil)))) qss_nil) (qss_one (qs_ret (q_or (q_cmp (op_ne_x hu64) (q_var 1 (pv 1)) q_str (nomark _)) (q_one (q_call ((ok_is_worth T).mono (by decide)) hr hgd rfl T.g_is_worth T.d_is_worth.kp (b_is_worth T) tk (qa_cons (q_ix (ix2_x T.gt hu64) (q_var 2 (pv 2)) q_int (fun _ _ => rfl)) qa_nil))))))))))
theorem b_are_rules (T : Facts K mg w fd) : Binds K (fd "are_rules") ["thing"] [] := T.d_are_rules.bindsN fun _ _ _ _ _ _ us hl => match us, hl with | [_], _ => rfl
theorem ok_are_rules (T : Facts K mg w fd) : FnG P w K mg base 18 (He.ga K "are_rules") (fd "are_rules") ["thing"] (spX ⟨K, mg, w⟩ 1 f_are_rules) :=
  fn_x (k := 17) T.d_are_rules sc_are_rules fun cdv A outer s H E hr hgd => by
    have tk := takes_of (X := cxOf (L2.CX P w) P w K mg base ["thing", "led_names", "counted_names", "rule"] "are_rules" (defScope s_are_rules) (He.ga K "are_rules") cdv A outer s H E) (E := E) rfl rfl rfl rfl
    have hpo := passes_of (X := cxOf (L2.CX P w) P w K mg base ["thing", "led_names", "counted_names", "rule"] "are_rules" (defScope s_are_rules) (He.ga K "are_rules") cdv A outer s H E) rfl
    have hu1 := hu_of hr; have hu64 := hr.units; have hu70 := un70 hr
    exact (qss_cons (qs_if (PW.pt (qw_or (qt_not (qt_tru (q_callB call_isi_x rfl T.n_isinstance bt_isinstance (qa_cons (q_var 0 (pv 0)) (qa_cons (q_ty rfl T.n_tuple bt_tuple) qa_nil))))) (qw_or (qt_cmp op_gt_x (q_callB call_len_x rfl T.n_len bt_len (qa_cons (q_var 0 (pv 0)) qa_nil)) (q_gint T.c_MOST_RULES rfl) (nomark _)) (qw_or1 (qt_not (qt_tru (q_callB (call_all_x rfl) rfl T.n_all bt_all (qa_cons (q_lc (own := [("rule", 3)]) rfl sc_are_rules.nd (qi_any (q_var 0 (pv 0))) (blkOk_by (N := ["thing", "led_names", "counted_names", "rule"]) (sc := defScope s_are_rules) (by decide +kernel)) (fun _ _ _ _ _ => (qg_name 3 sc_are_rules.nd rfl (Or.inl rfl))) (fun _ _ _ _ _ => qts_nil) (fun _ _ _ _ _ => (q_call ((ok_is_rule T).mono (by decide)) hr hgd rfl T.g_is_rule T.d_is_rule.kp (b_is_rule T) takes0 (qa_cons (q_var 3 (pv 3)) qa_nil)))) qa_nil)))))))) (qss_one (qs_ret q_bl)) qss_nil) (qss_cons (qs_setLc (own := [("rule", 3)]) 1 rfl sc_are_rules.nd rfl rfl (sw_true rfl rfl rfl (by decide +kernel)) (qi_any (q_var 0 (pv 0))) (blkOk_by (N := ["thing", "led_names", "counted_names", "rule"]) (sc := defScope s_are_rules) (by decide +kernel)) (fun _ _ _ _ _ => (qg_name 3 sc_are_rules.nd rfl (Or.inl rfl))) (fun _ _ _ _ _ => (qts_one (qt_cmp (op_ne_x hu64) (q_ix (ix2_x T.gt hu64) (q_var 3 (pv 3)) q_int (fun _ _ => rfl)) q_str (nomark _)))) (fun _ _ _ _ _ => (q_ix (ix2_x T.gt hu64) (q_var 3 (pv 3)) q_int (fun _ _ => rfl)))) (qss_cons (qs_setLc (own := [("rule", 3)]) 2 rfl sc_are_rules.nd rfl rfl (sw_true rfl rfl rfl (by decide +kernel)) (qi_any (q_var 0 (pv 0))) (blkOk_by (N := ["thing", "led_names", "counted_names", "rule"]) (sc := defScope s_are_rules) (by decide +kernel)) (fun _ _ _ _ _ => (qg_name 3 sc_are_rules.nd rfl (Or.inl rfl))) (fun _ _ _ _ _ => (qts_one (qt_cmp (op_eq_x hu64) (q_ix (ix2_x T.gt hu64) (q_var 3 (pv 3)) q_int (fun _ _ => rfl)) q_str (nomark _)))) (fun _ _ _ _ _ => (q_ix (ix2_x T.gt hu64) (q_var 3 (pv 3)) q_int (fun _ _ => rfl)))) (qss_one (qs_ret (q_and (q_cmp (op_eq_x hu64) (q_lenSet rfl T.n_len rfl T.n_set (q_var 1 (pv 1))) (q_callB call_len_x rfl T.n_len bt_len (qa_cons (q_var 1 (pv 1)) qa_nil)) (nomark _)) (q_one (q_cmp (op_eq_x hu64) (q_lenSet rfl T.n_len rfl T.n_set (q_var 2 (pv 2))) (q_callB call_len_x rfl T.n_len bt_len (qa_cons (q_var 2 (pv 2)) qa_nil)) (nomark _)))))))))
theorem b__law_cell (T : Facts K mg w fd) : Binds K (fd "_law_cell") ["_law_script", "_law_k"] [] := T.d__law_cell.bindsN fun _ _ _ _ _ _ us hl => match us, hl with | [_, _], _ => rfl
theorem ok__law_cell (T : Facts K mg w fd) : FnG P w K mg base 1 (He.ga K "_law_cell") (fd "_law_cell") ["_law_script", "_law_k"] (spX ⟨K, mg, w⟩ 2 f__law_cell) :=
  fn_x (k := 0) T.d__law_cell sc__law_cell fun cdv A outer s H E hr hgd => by
    have tk := takes_of (X := cxOf (L2.CX P w) P w K mg base ["_law_script", "_law_k"] "_law_cell" (defScope s__law_cell) (He.ga K "_law_cell") cdv A outer s H E) (E := E) rfl rfl rfl rfl
    have hpo := passes_of (X := cxOf (L2.CX P w) P w K mg base ["_law_script", "_law_k"] "_law_cell" (defScope s__law_cell) (He.ga K "_law_cell") cdv A outer s H E) rfl
    have hu1 := hu_of hr; have hu64 := hr.units; have hu70 := un70 hr
    exact (qss_cons (qs_if (qt_cmp op_lt_x (q_var 1 (pv 1)) (q_callB call_len_x rfl T.n_len bt_len (qa_cons (q_var 0 (pv 0)) qa_nil)) (nomark _)) (qss_one (qs_ret (q_ix (ix2_x T.gt hu64) (q_var 0 (pv 0)) (q_var 1 (pv 1)) (fun _ _ => rfl)))) qss_nil) (qss_one (qs_ret (q_op op_add_x (q_op op_mul2_x q_int (q_var 1 (pv 1))) q_int))))
theorem b__law_purse (T : Facts K mg w fd) : Binds K (fd "_law_purse") ["_law_cell_here"] [] := T.d__law_purse.bindsN fun _ _ _ _ _ _ us hl => match us, hl with | [_], _ => rfl
theorem ok__law_purse (T : Facts K mg w fd) : FnG P w K mg base 1 (He.ga K "_law_purse") (fd "_law_purse") ["_law_cell_here"] (spX ⟨K, mg, w⟩ 1 f__law_purse) :=
  fn_x (k := 0) T.d__law_purse sc__law_purse fun cdv A outer s H E hr hgd => by
    have tk := takes_of (X := cxOf (L2.CX P w) P w K mg base ["_law_cell_here"] "_law_purse" (defScope s__law_purse) (He.ga K "_law_purse") cdv A outer s H E) (E := E) rfl rfl rfl rfl
    have hpo := passes_of (X := cxOf (L2.CX P w) P w K mg base ["_law_cell_here"] "_law_purse" (defScope s__law_purse) (He.ga K "_law_purse") cdv A outer s H E) rfl
    have hu1 := hu_of hr; have hu64 := hr.units; have hu70 := un70 hr
    exact (qss_one (qs_ret (q_lst (qa_cons (q_callB (call_max_x rfl) rfl T.n_max bt_max (qa_cons q_int (qa_cons (q_op op_sub_x (q_var 0 (pv 0)) (q_op op_pow_x q_int q_int)) qa_nil))) (qa_cons (q_op op_mod_x (q_var 0 (pv 0)) q_int) (qa_cons q_int qa_nil))))))
theorem b__law_take (T : Facts K mg w fd) : Binds K (fd "_law_take") ["_law_purse_here", "_law_below"] [] := T.d__law_take.bindsN fun _ _ _ _ _ _ us hl => match us, hl with | [_, _], _ => rfl
theorem ok__law_take (T : Facts K mg w fd) : FnG P w K mg base 1 (He.ga K "_law_take") (fd "_law_take") ["_law_purse_here", "_law_below"] (spX ⟨K, mg, w⟩ 2 f__law_take) :=
  fn_x (k := 0) T.d__law_take sc__law_take fun cdv A outer s H E hr hgd => by
    have tk := takes_of (X := cxOf (L2.CX P w) P w K mg base ["_law_purse_here", "_law_below", "_law_digit", "_law_left", "_law_right"] "_law_take" (defScope s__law_take) (He.ga K "_law_take") cdv A outer s H E) (E := E) rfl rfl rfl rfl
    have hpo := passes_of (X := cxOf (L2.CX P w) P w K mg base ["_law_purse_here", "_law_below", "_law_digit", "_law_left", "_law_right"] "_law_take" (defScope s__law_take) (He.ga K "_law_take") cdv A outer s H E) rfl
    have hu1 := hu_of hr; have hu64 := hr.units; have hu70 := un70 hr
    exact (qss_cons (qs_if (qt_cmp op_gt_x (q_ix (ix2_x T.gt hu64) (q_var 0 (pv 0)) q_int (fun _ _ => rfl)) q_int (nomark _)) (qss_cons (qs_set 2 sc__law_take.nd rfl (Or.inl rfl) (q_op op_mod_x (q_ix (ix2_x T.gt hu64) (q_var 0 (pv 0)) q_int (fun _ _ => rfl)) (q_var 1 (pv 1)))) (qss_cons (qs_setIx hu1 (q_var 0 (pv 0)) q_int (q_op op_fdiv_x (q_ix (ix2_x T.gt hu64) (q_var 0 (pv 0)) q_int (fun _ _ => rfl)) (q_var 1 (pv 1)))) (qss_one (qs_ret (q_var 2 (pv 2)))))) qss_nil) (qss_cons (qs_setIx hu1 (q_var 0 (pv 0)) q_int (q_op op_add_x (q_ix (ix2_x T.gt hu64) (q_var 0 (pv 0)) q_int (fun _ _ => rfl)) q_int)) (qss_cons (qs_set 3 sc__law_take.nd rfl (Or.inl rfl) (q_op op_mod_x (q_op op_pow_x (q_op op_add_x (q_op op_add_x (q_ix (ix2_x T.gt hu64) (q_var 0 (pv 0)) q_int (fun _ _ => rfl)) (q_op op_mul2_x q_int (q_ix (ix2_x T.gt hu64) (q_var 0 (pv 0)) q_int (fun _ _ => rfl)))) q_int) q_int) q_int)) (qss_cons (qs_set 4 sc__law_take.nd rfl (Or.inl rfl) (q_op op_mod_x (q_op op_pow_x (q_op op_add_x (q_op op_mul2_x (q_ix (ix2_x T.gt hu64) (q_var 0 (pv 0)) q_int (fun _ _ => rfl)) (q_ix (ix2_x T.gt hu64) (q_var 0 (pv 0)) q_int (fun _ _ => rfl))) q_int) q_int) q_int)) (qss_one (qs_ret (q_op op_mod_x (q_op op_fdiv_x (q_op op_add_x (q_var 3 (pv 3)) (q_op op_mul2_x q_int (q_var 4 (pv 4)))) q_int) (q_var 1 (pv 1)))))))))
theorem b__law_pool (T : Facts K mg w fd) : Binds K (fd "_law_pool") ["_law_purse_here", "_law_size"] [] := T.d__law_pool.bindsN fun _ _ _ _ _ _ us hl => match us, hl with | [_, _], _ => rfl
theorem ok__law_pool (T : Facts K mg w fd) : FnG P w K mg base 2 (He.ga K "_law_pool") (fd "_law_pool") ["_law_purse_here", "_law_size"] (spX ⟨K, mg, w⟩ 2 f__law_pool) :=
  fn_x (k := 1) T.d__law_pool sc__law_pool fun cdv A outer s H E hr hgd => by
    have tk := takes_of (X := cxOf (L2.CX P w) P w K mg base ["_law_purse_here", "_law_size", "_law_letters", "_law_way", "_law_first", "_law_step", "_law_words", "_law_stem", "_law_at", "_law_head", "_law_tail", "_law_found", "_law_k", "_law_name"] "_law_pool" (defScope s__law_pool) (He.ga K "_law_pool") cdv A outer s H E) (E := E) rfl rfl rfl rfl
    have hpo := passes_of (X := cxOf (L2.CX P w) P w K mg base ["_law_purse_here", "_law_size", "_law_letters", "_law_way", "_law_first", "_law_step", "_law_words", "_law_stem", "_law_at", "_law_head", "_law_tail", "_law_found", "_law_k", "_law_name"] "_law_pool" (defScope s__law_pool) (He.ga K "_law_pool") cdv A outer s H E) rfl
    have hu1 := hu_of hr; have hu64 := hr.units; have hu70 := un70 hr
    exact (qss_cons (qs_set 2 sc__law_pool.nd rfl (Or.inr rfl) q_str) (qss_cons (qs_set 3 sc__law_pool.nd rfl (Or.inl rfl) (q_call ((ok__law_take T).mono (by decide)) hr hgd rfl T.g__law_take T.d__law_take.kp (b__law_take T) tk (qa_cons (q_var 0 (pv 0)) (qa_cons q_int qa_nil)))) (qss_cons (qs_set 4 sc__law_pool.nd rfl (Or.inr rfl) (q_call ((ok__law_take T).mono (by decide)) hr hgd rfl T.g__law_take T.d__law_take.kp (b__law_take T) tk (qa_cons (q_var 0 (pv 0)) (qa_cons q_int qa_nil)))) (qss_cons (qs_set 5 sc__law_pool.nd rfl (Or.inr rfl) (q_ix (ix2_x T.gt hu64) (q_lst (qa_cons q_int (qa_cons q_int (qa_cons q_int (qa_cons q_int qa_nil))))) (q_call ((ok__law_take T).mono (by decide)) hr hgd rfl T.g__law_take T.d__law_take.kp (b__law_take T) tk (qa_cons (q_var 0 (pv 0)) (qa_cons q_int qa_nil))) (fun _ _ => rfl))) (qss_cons (qs_if (qt_cmp (op_eq_x hu64) (q_var 3 (pv 3)) q_int (nomark _)) (qss_cons (qs_set 6 sc__law_pool.nd rfl (Or.inr rfl) (q_lst (qa_cons q_str (qa_cons q_str (qa_cons q_str (qa_cons q_str (qa_cons q_str (qa_cons q_str (qa_cons q_str (qa_cons q_str (qa_cons q_str (qa_cons q_str (qa_cons q_str (qa_cons q_str qa_nil)))))))))))))) (qss_one (qs_ret (q_lc (own := [("_law_k", 12)]) rfl sc__law_pool.nd (qi_range1 rfl T.n_range (q_var 1 (pv 1))) (blkOk_by (N := ["_law_purse_here", "_law_size", "_law_letters", "_law_way", "_law_first", "_law_step", "_law_words", "_law_stem", "_law_at", "_law_head", "_law_tail", "_law_found", "_law_k", "_law_name"]) (sc := defScope s__law_pool) (by decide +kernel)) (fun _ _ _ _ _ => (qg_name 12 sc__law_pool.nd rfl (Or.inl rfl))) (fun _ _ _ _ _ => qts_nil) (fun _ _ _ _ _ => (q_ix (ix2_x T.gt hu64) (q_var 6 (pv 6)) (q_op op_mod_x (q_op op_add_x (q_var 4 (pv 4)) (q_op op_mul2_x (q_var 5 (pv 5)) (q_var 12 (pv 12)))) q_int) (fun _ _ => rfl))))))) qss_nil) (qss_cons (qs_setLc (own := [("_law_k", 12)]) 7 rfl sc__law_pool.nd rfl rfl (sw_true rfl rfl rfl (by decide +kernel)) (qi_range1 rfl T.n_range (q_call ((ok__law_take T).mono (by decide)) hr hgd rfl T.g__law_take T.d__law_take.kp (b__law_take T) tk (qa_cons (q_var 0 (pv 0)) (qa_cons q_int qa_nil)))) (blkOk_by (N := ["_law_purse_here", "_law_size", "_law_letters", "_law_way", "_law_first", "_law_step", "_law_words", "_law_stem", "_law_at", "_law_head", "_law_tail", "_law_found", "_law_k", "_law_name"]) (sc := defScope s__law_pool) (by decide +kernel)) (fun _ _ _ _ _ => (qg_name 12 sc__law_pool.nd rfl (Or.inl rfl))) (fun _ _ _ _ _ => qts_nil) (fun _ _ _ _ _ => (q_ix (ix2_x T.gt hu64) (q_var 2 (pv 2)) (q_call ((ok__law_take T).mono (by decide)) hr hgd rfl T.g__law_take T.d__law_take.kp (b__law_take T) takes0 (qa_cons (q_var 0 (pv 0)) (qa_cons q_int qa_nil))) (fun _ _ => rfl)))) (qss_cons (qs_set 8 sc__law_pool.nd rfl (Or.inl rfl) (q_call ((ok__law_take T).mono (by decide)) hr hgd rfl T.g__law_take T.d__law_take.kp (b__law_take T) tk (qa_cons (q_var 0 (pv 0)) (qa_cons (q_op op_add_x (q_callB call_len_x rfl T.n_len bt_len (qa_cons (q_var 7 (pv 7)) qa_nil)) q_int) qa_nil)))) (qss_cons (qs_par rfl sc__law_pool.nd rfl rfl (by decide) rfl rfl (qa_cons (q_bm PySem.F.plainAttrs_str PySem.F.slot_str_join PySem.F.type_str_join mt_join_x q_str (qa_cons (q_slice sl_x (q_var 7 (pv 7)) qo_none (qo_some (q_var 8 (pv 8)))) qa_nil)) (qa_cons (q_bm PySem.F.plainAttrs_str PySem.F.slot_str_join PySem.F.type_str_join mt_join_x q_str (qa_cons (q_slice sl_x (q_var 7 (pv 7)) (qo_some (q_var 8 (pv 8))) qo_none) qa_nil)) qa_nil)) (by rfl)) (qss_cons (qs_set 11 sc__law_pool.nd rfl (Or.inl rfl) (q_lst qa_nil)) (qss_cons (qs_for hpo rfl (qi_range1 rfl T.n_range (q_var 1 (pv 1))) (qg_name 12 sc__law_pool.nd rfl (Or.inl rfl)) (qss_cons (qs_set 13 sc__law_pool.nd rfl (Or.inl rfl) (q_op op_add_x (q_op op_add_x (q_var 9 (pv 9)) (q_ix (ix2_x T.gt hu64) (q_var 2 (pv 2)) (q_op op_mod_x (q_op op_add_x (q_var 4 (pv 4)) (q_op op_mul2_x (q_var 5 (pv 5)) (q_var 12 (pv 12)))) q_int) (fun _ _ => rfl))) (q_var 10 (pv 10)))) (qss_cons (qs_set 13 sc__law_pool.nd rfl (Or.inl rfl) (q_if (qt_cmp (op_eq_x hu64) (q_var 3 (pv 3)) q_int (nomark _)) (q_op op_add_x (q_var 13 (pv 13)) (q_op op_mul2_x (q_ix (ix2_x T.gt hu64) (q_var 2 (pv 2)) (q_var 4 (pv 4)) (fun _ _ => rfl)) (q_op op_mod_x (q_var 12 (pv 12)) q_int))) (q_var 13 (pv 13)))) (qss_one (qs_expr (q_bm PySem.F.plainAttrs_list PySem.F.slot_list_append PySem.F.type_list_append mt_append_x (q_var 11 (pv 11)) (qa_cons (q_if (qt_cmp (op_in2_x T.gt hu64) (q_var 13 (pv 13)) (q_tup (qa_cons q_str (qa_cons q_str (qa_cons q_str qa_nil)))) (by rfl)) (q_op op_add_x q_str (q_var 13 (pv 13))) (q_var 13 (pv 13))) qa_nil))))))) (qss_one (qs_ret (q_var 11 (pv 11))))))))))))))
theorem b__law_rules (T : Facts K mg w fd) : Binds K (fd "_law_rules") ["_law_purse_here", "_law_pool_here"] [] := T.d__law_rules.bindsN fun _ _ _ _ _ _ us hl => match us, hl with | [_, _], _ => rfl
theorem ok__law_rules (T : Facts K mg w fd) : FnG P w K mg base 2 (He.ga K "_law_rules") (fd "_law_rules") ["_law_purse_here", "_law_pool_here"] (spX ⟨K, mg, w⟩ 2 f__law_rules) :=
  fn_x (k := 1) T.d__law_rules sc__law_rules fun cdv A outer s H E hr hgd => by
    have tk := takes_of (X := cxOf (L2.CX P w) P w K mg base ["_law_purse_here", "_law_pool_here", "_law_found", "_law_ruled", "_law_noted", "_law_k", "_law_name", "_law_other", "_law_worth", "_law_rule"] "_law_rules" (defScope s__law_rules) (He.ga K "_law_rules") cdv A outer s H E) (E := E) rfl rfl rfl rfl
    have hpo := passes_of (X := cxOf (L2.CX P w) P w K mg base ["_law_purse_here", "_law_pool_here", "_law_found", "_law_ruled", "_law_noted", "_law_k", "_law_name", "_law_other", "_law_worth", "_law_rule"] "_law_rules" (defScope s__law_rules) (He.ga K "_law_rules") cdv A outer s H E) rfl
    have hu1 := hu_of hr; have hu64 := hr.units; have hu70 := un70 hr
    exact (qss_cons (qs_par3 rfl sc__law_rules.nd rfl rfl rfl (by decide) (by decide) (by decide) rfl rfl rfl (qa_cons (q_lst qa_nil) (qa_cons (q_lst qa_nil) (qa_cons (q_lst qa_nil) qa_nil))) (by rfl)) (qss_cons (qs_for hpo rfl (qi_range1 rfl T.n_range (q_ix (ix2_x T.gt hu64) (q_lst (qa_cons (q_call ((ok__law_take T).mono (by decide)) hr hgd rfl T.g__law_take T.d__law_take.kp (b__law_take T) tk (qa_cons (q_var 0 (pv 0)) (qa_cons q_int qa_nil))) (qa_cons q_int (qa_cons (q_call ((ok__law_take T).mono (by decide)) hr hgd rfl T.g__law_take T.d__law_take.kp (b__law_take T) tk (qa_cons (q_var 0 (pv 0)) (qa_cons q_int qa_nil))) qa_nil)))) (q_call ((ok__law_take T).mono (by decide)) hr hgd rfl T.g__law_take T.d__law_take.kp (b__law_take T) tk (qa_cons (q_var 0 (pv 0)) (qa_cons q_int qa_nil))) (fun _ _ => rfl))) (qg_name 5 sc__law_rules.nd rfl (Or.inl rfl)) (qss_cons (qs_par rfl sc__law_rules.nd rfl rfl (by decide) rfl rfl (qa_cons (q_ix (ix2_x T.gt hu64) (q_var 1 (pv 1)) (q_call ((ok__law_take T).mono (by decide)) hr hgd rfl T.g__law_take T.d__law_take.kp (b__law_take T) tk (qa_cons (q_var 0 (pv 0)) (qa_cons (q_callB call_len_x rfl T.n_len bt_len (qa_cons (q_var 1 (pv 1)) qa_nil)) qa_nil))) (fun _ _ => rfl)) (qa_cons (q_ix (ix2_x T.gt hu64) (q_var 1 (pv 1)) (q_call ((ok__law_take T).mono (by decide)) hr hgd rfl T.g__law_take T.d__law_take.kp (b__law_take T) tk (qa_cons (q_var 0 (pv 0)) (qa_cons (q_callB call_len_x rfl T.n_len bt_len (qa_cons (q_var 1 (pv 1)) qa_nil)) qa_nil))) (fun _ _ => rfl)) qa_nil)) (by rfl)) (qss_cons (qs_set 8 sc__law_rules.nd rfl (Or.inl rfl) (q_ix (ix2_x T.gt hu64) (q_lst (qa_cons q_non (qa_cons q_int (qa_cons (q_op op_sub_x q_int (q_op op_pow_x q_int q_int)) (qa_cons q_str (qa_cons (q_tup (qa_cons q_str (qa_cons q_int qa_nil))) (qa_cons (q_tup (qa_cons q_str (qa_cons (q_tup (qa_cons (q_tup (qa_cons q_str (qa_cons (q_tup qa_nil) qa_nil))) (qa_cons q_int qa_nil))) qa_nil))) qa_nil))))))) (q_call ((ok__law_take T).mono (by decide)) hr hgd rfl T.g__law_take T.d__law_take.kp (b__law_take T) tk (qa_cons (q_var 0 (pv 0)) (qa_cons q_int qa_nil))) (fun _ _ => rfl))) (qss_cons (qs_set 9 sc__law_rules.nd rfl (Or.inl rfl) (q_ix (ix2_x T.gt hu64) (q_lst (qa_cons (q_tup (qa_cons q_str (qa_cons (q_var 6 (pv 6)) qa_nil))) (qa_cons (q_tup (qa_cons q_str (qa_cons (q_var 6 (pv 6)) qa_nil))) (qa_cons (q_tup (qa_cons q_str (qa_cons (q_var 6 (pv 6)) (qa_cons (q_var 7 (pv 7)) qa_nil)))) (qa_cons (q_tup (qa_cons q_str (qa_cons (q_var 6 (pv 6)) (qa_cons (q_var 8 (pv 8)) qa_nil)))) qa_nil))))) (q_call ((ok__law_take T).mono (by decide)) hr hgd rfl T.g__law_take T.d__law_take.kp (b__law_take T) tk (qa_cons (q_var 0 (pv 0)) (qa_cons q_int qa_nil))) (fun _ _ => rfl))) (qss_cons (qs_if (qt_cmp (op_eq_x hu64) (q_call ((ok__law_take T).mono (by decide)) hr hgd rfl T.g__law_take T.d__law_take.kp (b__law_take T) tk (qa_cons (q_var 0 (pv 0)) (qa_cons q_int qa_nil))) q_int (nomark _)) (qss_one (qs_set 9 sc__law_rules.nd rfl (Or.inl rfl) (q_tup (qa_cons q_str (qa_cons (q_var 6 (pv 6)) qa_nil))))) qss_nil) (qss_cons (qs_if (PW.pt (qw_and (qt_cmp (op_eq_x hu64) (q_ix (ix2_x T.gt hu64) (q_var 9 (pv 9)) q_int (fun _ _ => rfl)) q_str (nomark _)) (qw_and1 (qt_cmp (op_notIn2_x T.gt hu64) (q_var 6 (pv 6)) (q_var 4 (pv 4)) (by rfl))))) (qss_cons (qs_expr (q_bm PySem.F.plainAttrs_list PySem.F.slot_list_append PySem.F.type_list_append mt_append_x (q_var 4 (pv 4)) (qa_cons (q_var 6 (pv 6)) qa_nil))) (qss_one (qs_expr (q_bm PySem.F.plainAttrs_list PySem.F.slot_list_append PySem.F.type_list_append mt_append_x (q_var 2 (pv 2)) (qa_cons (q_var 9 (pv 9)) qa_nil))))) qss_nil) (qss_one (qs_if (PW.pt (qw_and (qt_cmp (op_ne_x hu64) (q_ix (ix2_x T.gt hu64) (q_var 9 (pv 9)) q_int (fun _ _ => rfl)) q_str (nomark _)) (qw_and1 (qt_cmp (op_notIn2_x T.gt hu64) (q_var 6 (pv 6)) (q_var 3 (pv 3)) (by rfl))))) (qss_cons (qs_expr (q_bm PySem.F.plainAttrs_list PySem.F.slot_list_append PySem.F.type_list_append mt_append_x (q_var 3 (pv 3)) (qa_cons (q_var 6 (pv 6)) qa_nil))) (qss_one (qs_expr (q_bm PySem.F.plainAttrs_list PySem.F.slot_list_append PySem.F.type_list_append mt_append_x (q_var 2 (pv 2)) (qa_cons (q_var 9 (pv 9)) qa_nil))))) qss_nil)))))))) (qss_one (qs_ret (q_callTy call_tuple_x rfl T.n_tuple bt_tuple (qa_cons (q_slice sl_x (q_var 2 (pv 2)) qo_none (qo_some q_int)) qa_nil))))))
theorem b__law_spoilt (T : Facts K mg w fd) : Binds K (fd "_law_spoilt") ["_law_purse_here", "_law_rules_here", "_law_pool_here"] [] := T.d__law_spoilt.bindsN fun _ _ _ _ _ _ us hl => match us, hl with | [_, _, _], _ => rfl
theorem ok__law_spoilt (T : Facts K mg w fd) : FnG P w K mg base 2 (He.ga K "_law_spoilt") (fd "_law_spoilt") ["_law_purse_here", "_law_rules_here", "_law_pool_here"] (spX ⟨K, mg, w⟩ 3 f__law_spoilt) :=
  fn_x (k := 1) T.d__law_spoilt sc__law_spoilt fun cdv A outer s H E hr hgd => by
    have tk := takes_of (X := cxOf (L2.CX P w) P w K mg base ["_law_purse_here", "_law_rules_here", "_law_pool_here", "_law_way", "_law_at", "_law_name", "_law_odd", "_law_deep", "_law_both", "_law_one"] "_law_spoilt" (defScope s__law_spoilt) (He.ga K "_law_spoilt") cdv A outer s H E) (E := E) rfl rfl rfl rfl
    have hpo := passes_of (X := cxOf (L2.CX P w) P w K mg base ["_law_purse_here", "_law_rules_here", "_law_pool_here", "_law_way", "_law_at", "_law_name", "_law_odd", "_law_deep", "_law_both", "_law_one"] "_law_spoilt" (defScope s__law_spoilt) (He.ga K "_law_spoilt") cdv A outer s H E) rfl
    have hu1 := hu_of hr; have hu64 := hr.units; have hu70 := un70 hr
    exact (qss_cons (qs_set 3 sc__law_spoilt.nd rfl (Or.inl rfl) (q_call ((ok__law_take T).mono (by decide)) hr hgd rfl T.g__law_take T.d__law_take.kp (b__law_take T) tk (qa_cons (q_var 0 (pv 0)) (qa_cons q_int qa_nil)))) (qss_cons (qs_set 4 sc__law_spoilt.nd rfl (Or.inl rfl) (q_call ((ok__law_take T).mono (by decide)) hr hgd rfl T.g__law_take T.d__law_take.kp (b__law_take T) tk (qa_cons (q_var 0 (pv 0)) (qa_cons (q_callB (call_max_x rfl) rfl T.n_max bt_max (qa_cons q_int (qa_cons (q_callB call_len_x rfl T.n_len bt_len (qa_cons (q_var 1 (pv 1)) qa_nil)) qa_nil))) qa_nil)))) (qss_cons (qs_set 5 sc__law_spoilt.nd rfl (Or.inl rfl) (q_ix (ix2_x T.gt hu64) (q_var 2 (pv 2)) (q_call ((ok__law_take T).mono (by decide)) hr hgd rfl T.g__law_take T.d__law_take.kp (b__law_take T) tk (qa_cons (q_var 0 (pv 0)) (qa_cons (q_callB call_len_x rfl T.n_len bt_len (qa_cons (q_var 2 (pv 2)) qa_nil)) qa_nil))) (fun _ _ => rfl))) (qss_cons (qs_set 6 sc__law_spoilt.nd rfl (Or.inl rfl) (q_lst (qa_cons (q_tup (qa_cons q_str qa_nil)) (qa_cons (q_tup (qa_cons q_str (qa_cons (q_var 5 (pv 5)) (qa_cons (q_var 5 (pv 5)) qa_nil)))) (qa_cons (q_tup (qa_cons q_str (qa_cons (q_var 5 (pv 5)) qa_nil))) (qa_cons (q_tup (qa_cons q_str (qa_cons (q_var 5 (pv 5)) qa_nil))) (qa_cons (q_tup (qa_cons q_str (qa_cons (q_var 5 (pv 5)) (qa_cons q_int qa_nil)))) (qa_cons (q_tup (qa_cons q_str (qa_cons (q_var 5 (pv 5)) qa_nil))) qa_nil)))))))) (qss_cons (qs_set 6 sc__law_spoilt.nd rfl (Or.inl rfl) (q_op op_add_x (q_var 6 (pv 6)) (q_lst (qa_cons (q_tup (qa_cons q_str (qa_cons q_int qa_nil))) (qa_cons (q_tup (qa_cons q_str (qa_cons (q_var 5 (pv 5)) (qa_cons q_non qa_nil)))) (qa_cons (q_tup (qa_cons q_str (qa_cons (q_var 5 (pv 5)) (qa_cons (q_op op_add_x (q_op op_pow_x q_int q_int) q_int) qa_nil)))) (qa_cons (q_tup (qa_cons q_str (qa_cons (q_var 5 (pv 5)) (qa_cons q_bl qa_nil)))) qa_nil))))))) (qss_cons (qs_set 7 sc__law_spoilt.nd rfl (Or.inl rfl) (q_tup (qa_cons q_str (qa_cons (q_tup (qa_cons (q_tup (qa_cons q_str (qa_cons (q_tup (qa_cons (q_tup (qa_cons q_str (qa_cons (q_tup (qa_cons (q_tup (qa_cons q_str (qa_cons (q_tup (qa_cons (q_tup (qa_cons q_str (qa_cons (q_tup qa_nil) qa_nil))) qa_nil)) qa_nil))) qa_nil)) qa_nil))) qa_nil)) qa_nil))) qa_nil)) qa_nil)))) (qss_cons (qs_set 6 sc__law_spoilt.nd rfl (Or.inl rfl) (q_op op_add_x (q_var 6 (pv 6)) (q_lst (qa_cons (q_tup (qa_cons q_str (qa_cons (q_var 5 (pv 5)) (qa_cons (q_lst (qa_cons q_int qa_nil)) qa_nil)))) (qa_cons (q_tup qa_nil) (qa_cons q_non (qa_cons q_int (qa_cons (q_tup (qa_cons q_str (qa_cons (q_var 5 (pv 5)) (qa_cons (q_tup (qa_cons q_str (qa_cons q_int qa_nil))) qa_nil)))) (qa_cons (q_tup (qa_cons q_str (qa_cons (q_var 5 (pv 5)) (qa_cons (q_tup (qa_cons q_str (qa_cons (q_tup (qa_cons q_bl qa_nil)) qa_nil))) qa_nil)))) qa_nil))))))))) (qss_cons (qs_set 6 sc__law_spoilt.nd rfl (Or.inl rfl) (q_op op_add_x (q_var 6 (pv 6)) (q_lst (qa_cons (q_tup (qa_cons q_str (qa_cons q_str qa_nil))) (qa_cons (q_tup (qa_cons q_str (qa_cons (q_var 5 (pv 5)) (qa_cons q_str qa_nil)))) (qa_cons (q_tup (qa_cons q_str (qa_cons q_str qa_nil))) (qa_cons (q_tup (qa_cons q_str (qa_cons q_str qa_nil))) (qa_cons q_str (qa_cons (q_lst (qa_cons q_str (qa_cons (q_var 5 (pv 5)) qa_nil))) qa_nil))))))))) (qss_cons (qs_expr (q_bm PySem.F.plainAttrs_list PySem.F.slot_list_append PySem.F.type_list_append mt_append_x (q_var 6 (pv 6)) (qa_cons (q_tup (qa_cons q_str (qa_cons (q_var 5 (pv 5)) (qa_cons (q_var 7 (pv 7)) qa_nil)))) qa_nil))) (qss_cons (qs_if (qt_cmp op_lt_x (q_var 3 (pv 3)) q_int (nomark _)) (qss_one (qs_ret (q_op op_add_x (q_op op_add_x (q_slice sl_x (q_var 1 (pv 1)) qo_none (qo_some (q_var 4 (pv 4)))) (q_tup (qa_cons (q_ix (ix2_x T.gt hu64) (q_var 6 (pv 6)) (q_call ((ok__law_take T).mono (by decide)) hr hgd rfl T.g__law_take T.d__law_take.kp (b__law_take T) tk (qa_cons (q_var 0 (pv 0)) (qa_cons q_int qa_nil))) (fun _ _ => rfl)) qa_nil))) (q_slice sl_x (q_var 1 (pv 1)) (qo_some (q_var 4 (pv 4))) qo_none)))) qss_nil) (qss_cons (qs_if (qt_cmp (op_eq_x hu64) (q_var 3 (pv 3)) q_int (nomark _)) (qss_one (qs_ret (q_op op_add_x (q_var 1 (pv 1)) (q_slice sl_x (q_var 1 (pv 1)) (qo_some (q_var 4 (pv 4))) (qo_some (q_op op_add_x (q_var 4 (pv 4)) q_int)))))) qss_nil) (qss_cons (qs_if (qt_cmp (op_eq_x hu64) (q_var 3 (pv 3)) q_int (nomark _)) (qss_cons (qs_set 8 sc__law_spoilt.nd rfl (Or.inl rfl) (q_lst (qa_cons (q_tup (qa_cons q_str (qa_cons (q_var 5 (pv 5)) qa_nil))) (qa_cons (q_tup (qa_cons q_str (qa_cons (q_var 5 (pv 5)) qa_nil))) (qa_cons (q_tup (qa_cons q_str (qa_cons (q_var 5 (pv 5)) (qa_cons (q_var 5 (pv 5)) qa_nil)))) (qa_cons (q_tup (qa_cons q_str (qa_cons (q_var 5 (pv 5)) (qa_cons q_int qa_nil)))) qa_nil)))))) (qss_one (qs_ret (q_op op_add_x (q_var 1 (pv 1)) (q_tup (qa_cons (q_ix (ix2_x T.gt hu64) (q_var 8 (pv 8)) (q_call ((ok__law_take T).mono (by decide)) hr hgd rfl T.g__law_take T.d__law_take.kp (b__law_take T) tk (qa_cons (q_var 0 (pv 0)) (qa_cons q_int qa_nil))) (fun _ _ => rfl)) (qa_cons (q_ix (ix2_x T.gt hu64) (q_var 8 (pv 8)) (q_call ((ok__law_take T).mono (by decide)) hr hgd rfl T.g__law_take T.d__law_take.kp (b__law_take T) tk (qa_cons (q_var 0 (pv 0)) (qa_cons q_int qa_nil))) (fun _ _ => rfl)) qa_nil))))))) qss_nil) (qss_cons (qs_if (qt_cmp (op_eq_x hu64) (q_var 3 (pv 3)) q_int (nomark _)) (qss_one (qs_ret (q_op op_add_x (q_var 1 (pv 1)) (q_callTy call_tuple_x rfl T.n_tuple bt_tuple (qa_cons (q_lc (own := [("_law_one", 9)]) rfl sc__law_spoilt.nd (qi_any (q_var 2 (pv 2))) (blkOk_by (N := ["_law_purse_here", "_law_rules_here", "_law_pool_here", "_law_way", "_law_at", "_law_name", "_law_odd", "_law_deep", "_law_both", "_law_one"]) (sc := defScope s__law_spoilt) (by decide +kernel)) (fun _ _ _ _ _ => (qg_name 9 sc__law_spoilt.nd rfl (Or.inl rfl))) (fun _ _ _ _ _ => qts_nil) (fun _ _ _ _ _ => (q_tup (qa_cons q_str (qa_cons (q_var 9 (pv 9)) qa_nil))))) qa_nil))))) qss_nil) (qss_cons (qs_if (qt_cmp (op_eq_x hu64) (q_var 3 (pv 3)) q_int (nomark _)) (qss_one (qs_ret (q_ix (ix2_x T.gt hu64) (q_lst (qa_cons q_non (qa_cons q_int (qa_cons q_str (qa_cons q_dict0 (qa_cons (q_callTy call_list_x rfl T.n_list bt_list (qa_cons (q_var 1 (pv 1)) qa_nil)) (qa_cons (q_tup (qa_cons (q_var 1 (pv 1)) qa_nil)) (qa_cons q_bl qa_nil)))))))) (q_call ((ok__law_take T).mono (by decide)) hr hgd rfl T.g__law_take T.d__law_take.kp (b__law_take T) tk (qa_cons (q_var 0 (pv 0)) (qa_cons q_int qa_nil))) (fun _ _ => rfl)))) qss_nil) (qss_cons (qs_if (PW.pt (qw_and (qt_cmp (op_eq_x hu64) (q_var 3 (pv 3)) q_int (nomark _)) (qw_and (qt_cmp (op_ne_x hu64) (q_var 1 (pv 1)) (q_tup qa_nil) (nomark _)) (qw_and1 (qt_tru (q_callB call_isi_x rfl T.n_isinstance bt_isinstance (qa_cons (q_ix (ix2_x T.gt hu64) (q_var 1 (pv 1)) (q_var 4 (pv 4)) (fun _ _ => rfl)) (qa_cons (q_ty rfl T.n_tuple bt_tuple) qa_nil)))))))) (qss_one (qs_ret (q_op op_add_x (q_op op_add_x (q_slice sl_x (q_var 1 (pv 1)) qo_none (qo_some (q_var 4 (pv 4)))) (q_tup (qa_cons (q_callTy call_list_x rfl T.n_list bt_list (qa_cons (q_ix (ix2_x T.gt hu64) (q_var 1 (pv 1)) (q_var 4 (pv 4)) (fun _ _ => rfl)) qa_nil)) qa_nil))) (q_slice sl_x (q_var 1 (pv 1)) (qo_some (q_op op_add_x (q_var 4 (pv 4)) q_int)) qo_none)))) qss_nil) (qss_one (qs_ret (q_rev (q_var 1 (pv 1))))))))))))))))))))
theorem b__law_called (T : Facts K mg w fd) : Binds K (fd "_law_called") ["_law_thing"] [] := T.d__law_called.bindsN fun _ _ _ _ _ _ us hl => match us, hl with | [_], _ => rfl
theorem ok__law_called (T : Facts K mg w fd) : FnG P w K mg base 1 (He.ga K "_law_called") (fd "_law_called") ["_law_thing"] (spX ⟨K, mg, w⟩ 1 f__law_called) :=
  fn_x (k := 0) T.d__law_called sc__law_called fun cdv A outer s H E hr hgd => by
    have tk := takes_of (X := cxOf (L2.CX P w) P w K mg base ["_law_thing", "_law_sign"] "_law_called" (defScope s__law_called) (He.ga K "_law_called") cdv A outer s H E) (E := E) rfl rfl rfl rfl
    have hpo := passes_of (X := cxOf (L2.CX P w) P w K mg base ["_law_thing", "_law_sign"] "_law_called" (defScope s__law_called) (He.ga K "_law_called") cdv A outer s H E) rfl
    have hu1 := hu_of hr; have hu64 := hr.units; have hu70 := un70 hr
    exact (qss_cons (qs_if (PW.pt (qw_or (qt_not (qt_tru (q_callB call_isi_x rfl T.n_isinstance bt_isinstance (qa_cons (q_var 0 (pv 0)) (qa_cons (q_ty rfl T.n_str bt_str) qa_nil))))) (qw_or (qt_not (qt_chain op_le_x op_le_x q_int (q_callB call_len_x rfl T.n_len bt_len (qa_cons (q_var 0 (pv 0)) qa_nil)) q_int)) (qw_or1 (qt_cmp (op_in2_x T.gt hu64) (q_var 0 (pv 0)) (q_tup (qa_cons q_str (qa_cons q_str (qa_cons q_str qa_nil)))) (by rfl)))))) (qss_one (qs_ret q_bl)) qss_nil) (qss_one (qs_ret (q_cmp (op_eq_x hu64) (q_lc (own := [("_law_sign", 1)]) rfl sc__law_called.nd (qi_any (q_var 0 (pv 0))) (blkOk_by (N := ["_law_thing", "_law_sign"]) (sc := defScope s__law_called) (by decide +kernel)) (fun _ _ _ _ _ => (qg_name 1 sc__law_called.nd rfl (Or.inl rfl))) (fun _ _ _ _ _ => (qts_one (qt_not (qt_chain op_le_x op_le_x q_str (q_var 1 (pv 1)) q_str)))) (fun _ _ _ _ _ => (q_var 1 (pv 1)))) (q_lst qa_nil) (nomark _)))))
theorem b__law_worthy (T : Facts K mg w fd) : Binds K (fd "_law_worthy") ["_law_thing", "_law_deep"] [] := T.d__law_worthy.bindsN fun _ _ _ _ _ _ us hl => match us, hl with | [_, _], _ => rfl
theorem ok__law_worthy (T : Facts K mg w fd) : ∀ {n : Nat}, FnG P w K mg base (0 + 1 + n) (He.ga K "_law_worthy") (fd "_law_worthy") ["_law_thing", "_law_deep"] (spX ⟨K, mg, w⟩ 2 (f__law_worthy n))
  | 0 => ⟨fun _ _ _ _ ⟨_, _, _, _, r, hl, _⟩ => by rw [← r.length, hl]; rfl, fun _ _ _ _ _ _ _ _ _ _ _ _ _ _ ⟨_, _, _, _, _, _, z⟩ => z.elim⟩
  | n + 1 => fn_x (k := 0 + 1 + n) T.d__law_worthy sc__law_worthy fun cdv A outer s H E hr hgd => by
    have hself := ok__law_worthy T (n := n)
    have tk := takes_of (X := cxOf (L2.CX P w) P w K mg base ["_law_thing", "_law_deep", "_law_part"] "_law_worthy" (defScope s__law_worthy) (He.ga K "_law_worthy") cdv A outer s H E) (E := E) rfl rfl rfl rfl
    have hpo := passes_of (X := cxOf (L2.CX P w) P w K mg base ["_law_thing", "_law_deep", "_law_part"] "_law_worthy" (defScope s__law_worthy) (He.ga K "_law_worthy") cdv A outer s H E) rfl
    have hu1 := hu_of hr; have hu64 := hr.units; have hu70 := un70 hr
    exact (qss_cons (qs_if (PW.pt (qw_or (qt_cmp op_is_x (q_var 0 (pv 0)) q_non (nomark _)) (qw_or1 (qt_tru (q_callB call_isi_x rfl T.n_isinstance bt_isinstance (qa_cons (q_var 0 (pv 0)) (qa_cons (q_ty rfl T.n_int bt_int) qa_nil))))))) (qss_one (qs_ret (q_or (q_cmp op_is_x (q_var 0 (pv 0)) q_non (nomark _)) (q_one (q_and (q_not (q_callB call_isi_x rfl T.n_isinstance bt_isinstance (qa_cons (q_var 0 (pv 0)) (qa_cons (q_ty rfl T.n_bool bt_bool) qa_nil)))) (q_one (q_chain op_le_x op_le_x (q_op op_sub_x q_int (q_op op_pow_x q_int q_int)) (q_var 0 (pv 0)) (q_op op_pow_x q_int q_int)))))))) qss_nil) (qss_cons (qs_if (qt_tru (q_callB call_isi_x rfl T.n_isinstance bt_isinstance (qa_cons (q_var 0 (pv 0)) (qa_cons (q_ty rfl T.n_str bt_str) qa_nil)))) (qss_one (qs_ret (q_cmp op_le_x (q_callB call_len_x rfl T.n_len bt_len (qa_cons (q_var 0 (pv 0)) qa_nil)) q_int (nomark _)))) qss_nil) (qss_cons (qs_if (PW.pt (qw_or (qt_not (qt_tru (q_callB call_isi_x rfl T.n_isinstance bt_isinstance (qa_cons (q_var 0 (pv 0)) (qa_cons (q_ty rfl T.n_tuple bt_tuple) qa_nil))))) (qw_or (qt_cmp (op_ne_x hu64) (q_callB call_len_x rfl T.n_len bt_len (qa_cons (q_var 0 (pv 0)) qa_nil)) q_int (nomark _)) (qw_or1 (qt_cmp (op_notIn2_x T.gt hu64) (q_ix (ix2_x T.gt hu64) (q_var 0 (pv 0)) q_int (fun _ _ => rfl)) (q_tup (qa_cons q_str (qa_cons q_str qa_nil))) (by rfl)))))) (qss_one (qs_ret q_bl)) qss_nil) (qss_cons (qs_if (qt_cmp (op_eq_x hu64) (q_ix (ix2_x T.gt hu64) (q_var 0 (pv 0)) q_int (fun _ _ => rfl)) q_str (nomark _)) (qss_one (qs_ret (q_and (q_callB call_isi_x rfl T.n_isinstance bt_isinstance (qa_cons (q_ix (ix2_x T.gt hu64) (q_var 0 (pv 0)) q_int (fun _ _ => rfl)) (qa_cons (q_ty rfl T.n_int bt_int) qa_nil))) (q_and (q_not (q_callB call_isi_x rfl T.n_isinstance bt_isinstance (qa_cons (q_ix (ix2_x T.gt hu64) (q_var 0 (pv 0)) q_int (fun _ _ => rfl)) (qa_cons (q_ty rfl T.n_bool bt_bool) qa_nil)))) (q_one (q_chain op_le_x op_le_x q_int (q_ix (ix2_x T.gt hu64) (q_var 0 (pv 0)) q_int (fun _ _ => rfl)) q_int)))))) qss_nil) (qss_cons (qs_if (PW.pt (qw_or (qt_cmp (op_eq_x hu64) (q_var 1 (pv 1)) q_int (nomark _)) (qw_or (qt_not (qt_tru (q_callB call_isi_x rfl T.n_isinstance bt_isinstance (qa_cons (q_ix (ix2_x T.gt hu64) (q_var 0 (pv 0)) q_int (fun _ _ => rfl)) (qa_cons (q_ty rfl T.n_tuple bt_tuple) qa_nil))))) (qw_or1 (qt_cmp op_gt_x (q_callB call_len_x rfl T.n_len bt_len (qa_cons (q_ix (ix2_x T.gt hu64) (q_var 0 (pv 0)) q_int (fun _ _ => rfl)) qa_nil)) q_int (nomark _)))))) (qss_one (qs_ret q_bl)) qss_nil) (qss_one (qs_ret (q_cmp (op_eq_x hu64) (q_lc (own := [("_law_part", 2)]) rfl sc__law_worthy.nd (qi_any (q_ix (ix2_x T.gt hu64) (q_var 0 (pv 0)) q_int (fun _ _ => rfl))) (blkOk_by (N := ["_law_thing", "_law_deep", "_law_part"]) (sc := defScope s__law_worthy) (by decide +kernel)) (fun _ _ _ _ _ => (qg_name 2 sc__law_worthy.nd rfl (Or.inl rfl))) (fun _ _ _ _ _ => (qts_one (qt_not (qt_tru (q_call hself hr hgd rfl T.g__law_worthy T.d__law_worthy.kp (b__law_worthy T) takes0 (qa_cons (q_var 2 (pv 2)) (qa_cons (q_op op_sub_x (q_var 1 (pv 1)) q_int) qa_nil))))))) (fun _ _ _ _ _ => (q_var 2 (pv 2)))) (q_lst qa_nil) (nomark _)))))))))
theorem b__law_rule_good (T : Facts K mg w fd) : Binds K (fd "_law_rule_good") ["_law_rule"] [] := T.d__law_rule_good.bindsN fun _ _ _ _ _ _ us hl => match us, hl with | [_], _ => rfl
theorem ok__law_rule_good (T : Facts K mg w fd) : FnG P w K mg base 14 (He.ga K "_law_rule_good") (fd "_law_rule_good") ["_law_rule"] (spX ⟨K, mg, w⟩ 1 f__law_rule_good) :=
  fn_x (k := 13) T.d__law_rule_good sc__law_rule_good fun cdv A outer s H E hr hgd => by
    have tk := takes_of (X := cxOf (L2.CX P w) P w K mg base ["_law_rule", "_law_sizes"] "_law_rule_good" (defScope s__law_rule_good) (He.ga K "_law_rule_good") cdv A outer s H E) (E := E) rfl rfl rfl rfl
    have hpo := passes_of (X := cxOf (L2.CX P w) P w K mg base ["_law_rule", "_law_sizes"] "_law_rule_good" (defScope s__law_rule_good) (He.ga K "_law_rule_good") cdv A outer s H E) rfl
    have hu1 := hu_of hr; have hu64 := hr.units; have hu70 := un70 hr
    exact (qss_cons (qs_set 1 sc__law_rule_good.nd rfl (Or.inl rfl) (q_dict (ps := [(xC (.str "hide"), xC (.int 2)), (xC (.str "bar"), xC (.int 2)), (xC (.str "as"), xC (.int 3)), (xC (.str "give"), xC (.int 3)), (xC (.str "count"), xC (.int 2))]) (pps_cons q_str q_int (pps_cons q_str q_int (pps_cons q_str q_int (pps_cons q_str q_int (pps_cons q_str q_int pps_nil))))))) (qss_cons (qs_if (PW.pt (qw_or (qt_not (qt_tru (q_callB call_isi_x rfl T.n_isinstance bt_isinstance (qa_cons (q_var 0 (pv 0)) (qa_cons (q_ty rfl T.n_tuple bt_tuple) qa_nil))))) (qw_or (qt_cmp (op_eq_x hu64) (q_callB call_len_x rfl T.n_len bt_len (qa_cons (q_var 0 (pv 0)) qa_nil)) q_int (nomark _)) (qw_or (qt_not (qt_tru (q_callB call_isi_x rfl T.n_isinstance bt_isinstance (qa_cons (q_ix (ix2_x T.gt hu64) (q_var 0 (pv 0)) q_int (fun _ _ => rfl)) (qa_cons (q_ty rfl T.n_str bt_str) qa_nil))))) (qw_or1 (qt_cmp (op_notIn2_x T.gt hu64) (q_ix (ix2_x T.gt hu64) (q_var 0 (pv 0)) q_int (fun _ _ => rfl)) (q_var 1 (pv 1)) (by rfl))))))) (qss_one (qs_ret q_bl)) qss_nil) (qss_cons (qs_if (PW.pt (qw_or (qt_cmp (op_ne_x hu64) (q_callB call_len_x rfl T.n_len bt_len (qa_cons (q_var 0 (pv 0)) qa_nil)) (q_ix (ix2_x T.gt hu64) (q_var 1 (pv 1)) (q_ix (ix2_x T.gt hu64) (q_var 0 (pv 0)) q_int (fun _ _ => rfl)) (fun _ _ => rfl)) (nomark _)) (qw_or1 (qt_not (qt_tru (q_call ((ok__law_called T).mono (by decide)) hr hgd rfl T.g__law_called T.d__law_called.kp (b__law_called T) tk (qa_cons (q_ix (ix2_x T.gt hu64) (q_var 0 (pv 0)) q_int (fun _ _ => rfl)) qa_nil))))))) (qss_one (qs_ret q_bl)) qss_nil) (qss_cons (qs_if (qt_cmp (op_eq_x hu64) (q_ix (ix2_x T.gt hu64) (q_var 0 (pv 0)) q_int (fun _ _ => rfl)) q_str (nomark _)) (qss_one (qs_ret (q_call ((ok__law_called T).mono (by decide)) hr hgd rfl T.g__law_called T.d__law_called.kp (b__law_called T) tk (qa_cons (q_ix (ix2_x T.gt hu64) (q_var 0 (pv 0)) q_int (fun _ _ => rfl)) qa_nil)))) qss_nil) (qss_one (qs_ret (q_or (q_cmp (op_ne_x hu64) (q_ix (ix2_x T.gt hu64) (q_var 0 (pv 0)) q_int (fun _ _ => rfl)) q_str (nomark _)) (q_one (q_call ((ok__law_worthy T (n := 12)).mono (by decide)) hr hgd rfl T.g__law_worthy T.d__law_worthy.kp (b__law_worthy T) tk (qa_cons (q_ix (ix2_x T.gt hu64) (q_var 0 (pv 0)) q_int (fun _ _ => rfl)) (qa_cons q_int qa_nil)))))))))))
theorem b__law_good (T : Facts K mg w fd) : Binds K (fd "_law_good") ["_law_thing"] [] := T.d__law_good.bindsN fun _ _ _ _ _ _ us hl => match us, hl with | [_], _ => rfl
theorem ok__law_good (T : Facts K mg w fd) : FnG P w K mg base 15 (He.ga K "_law_good") (fd "_law_good") ["_law_thing"] (spX ⟨K, mg, w⟩ 1 f__law_good) :=
  fn_x (k := 14) T.d__law_good sc__law_good fun cdv A outer s H E hr hgd => by
    have tk := takes_of (X := cxOf (L2.CX P w) P w K mg base ["_law_thing", "_law_ruled", "_law_noted", "_law_rule"] "_law_good" (defScope s__law_good) (He.ga K "_law_good") cdv A outer s H E) (E := E) rfl rfl rfl rfl
    have hpo := passes_of (X := cxOf (L2.CX P w) P w K mg base ["_law_thing", "_law_ruled", "_law_noted", "_law_rule"] "_law_good" (defScope s__law_good) (He.ga K "_law_good") cdv A outer s H E) rfl
    have hu1 := hu_of hr; have hu64 := hr.units; have hu70 := un70 hr
    exact (qss_cons (qs_if (PW.pt (qw_or (qt_not (qt_tru (q_callB call_isi_x rfl T.n_isinstance bt_isinstance (qa_cons (q_var 0 (pv 0)) (qa_cons (q_ty rfl T.n_tuple bt_tuple) qa_nil))))) (qw_or (qt_cmp op_gt_x (q_callB call_len_x rfl T.n_len bt_len (qa_cons (q_var 0 (pv 0)) qa_nil)) q_int (nomark _)) (qw_or1 (qt_cmp (op_ne_x hu64) (q_lc (own := [("_law_rule", 3)]) rfl sc__law_good.nd (qi_any (q_var 0 (pv 0))) (blkOk_by (N := ["_law_thing", "_law_ruled", "_law_noted", "_law_rule"]) (sc := defScope s__law_good) (by decide +kernel)) (fun _ _ _ _ _ => (qg_name 3 sc__law_good.nd rfl (Or.inl rfl))) (fun _ _ _ _ _ => (qts_one (qt_not (qt_tru (q_call ((ok__law_rule_good T).mono (by decide)) hr hgd rfl T.g__law_rule_good T.d__law_rule_good.kp (b__law_rule_good T) takes0 (qa_cons (q_var 3 (pv 3)) qa_nil)))))) (fun _ _ _ _ _ => (q_var 3 (pv 3)))) (q_lst qa_nil) (nomark _)))))) (qss_one (qs_ret q_bl)) qss_nil) (qss_cons (qs_setLc (own := [("_law_rule", 3)]) 1 rfl sc__law_good.nd rfl rfl (sw_true rfl rfl rfl (by decide +kernel)) (qi_any (q_var 0 (pv 0))) (blkOk_by (N := ["_law_thing", "_law_ruled", "_law_noted", "_law_rule"]) (sc := defScope s__law_good) (by decide +kernel)) (fun _ _ _ _ _ => (qg_name 3 sc__law_good.nd rfl (Or.inl rfl))) (fun _ _ _ _ _ => (qts_one (qt_cmp (op_ne_x hu64) (q_ix (ix2_x T.gt hu64) (q_var 3 (pv 3)) q_int (fun _ _ => rfl)) q_str (nomark _)))) (fun _ _ _ _ _ => (q_ix (ix2_x T.gt hu64) (q_var 3 (pv 3)) q_int (fun _ _ => rfl)))) (qss_cons (qs_setLc (own := [("_law_rule", 3)]) 2 rfl sc__law_good.nd rfl rfl (sw_true rfl rfl rfl (by decide +kernel)) (qi_any (q_var 0 (pv 0))) (blkOk_by (N := ["_law_thing", "_law_ruled", "_law_noted", "_law_rule"]) (sc := defScope s__law_good) (by decide +kernel)) (fun _ _ _ _ _ => (qg_name 3 sc__law_good.nd rfl (Or.inl rfl))) (fun _ _ _ _ _ => (qts_one (qt_cmp (op_eq_x hu64) (q_ix (ix2_x T.gt hu64) (q_var 3 (pv 3)) q_int (fun _ _ => rfl)) q_str (nomark _)))) (fun _ _ _ _ _ => (q_ix (ix2_x T.gt hu64) (q_var 3 (pv 3)) q_int (fun _ _ => rfl)))) (qss_one (qs_ret (q_and (q_cmp (op_eq_x hu64) (q_lenSet rfl T.n_len rfl T.n_set (q_var 1 (pv 1))) (q_callB call_len_x rfl T.n_len bt_len (qa_cons (q_var 1 (pv 1)) qa_nil)) (nomark _)) (q_one (q_cmp (op_eq_x hu64) (q_lenSet rfl T.n_len rfl T.n_set (q_var 2 (pv 2))) (q_callB call_len_x rfl T.n_len bt_len (qa_cons (q_var 2 (pv 2)) qa_nil)) (nomark _)))))))))
theorem b_law (T : Facts K mg w fd) : Binds K (fd "law") ["_law_script"] [] := T.d_law.bindsN fun _ _ _ _ _ _ us hl => match us, hl with | [_], _ => rfl
theorem ok_law (T : Facts K mg w fd) : FnG P w K mg base 19 (He.ga K "law") (fd "law") ["_law_script"] (spX ⟨K, mg, w⟩ 1 f_law) :=
  fn_x (k := 18) T.d_law sc_law fun cdv A outer s H E hr hgd => by
    have tk := takes_of (X := cxOf (L2.CX P w) P w K mg base ["_law_script", "_law_k", "_law_purse_here", "_law_pool_here", "_law_rules_here", "_law_step", "_law_thing", "_law_turn", "_law_due", "_law_kept"] "law" (defScope s_law) (He.ga K "law") cdv A outer s H E) (E := E) rfl rfl rfl rfl
    have hpo := passes_of (X := cxOf (L2.CX P w) P w K mg base ["_law_script", "_law_k", "_law_purse_here", "_law_pool_here", "_law_rules_here", "_law_step", "_law_thing", "_law_turn", "_law_due", "_law_kept"] "law" (defScope s_law) (He.ga K "law") cdv A outer s H E) rfl
    have hu1 := hu_of hr; have hu64 := hr.units; have hu70 := un70 hr
    exact (qss_cons (qs_for hpo rfl (qi_range1 rfl T.n_range (q_callB (call_max_x rfl) rfl T.n_max bt_max (qa_cons q_int (qa_cons (q_callB (call_min_x rfl) rfl T.n_min bt_min (qa_cons q_int (qa_cons (q_callB call_len_x rfl T.n_len bt_len (qa_cons (q_var 0 (pv 0)) qa_nil)) qa_nil))) qa_nil)))) (qg_name 1 sc_law.nd rfl (Or.inl rfl)) (qss_cons (qs_set 2 sc_law.nd rfl (Or.inl rfl) (q_call ((ok__law_purse T).mono (by decide)) hr hgd rfl T.g__law_purse T.d__law_purse.kp (b__law_purse T) tk (qa_cons (q_call ((ok__law_cell T).mono (by decide)) hr hgd rfl T.g__law_cell T.d__law_cell.kp (b__law_cell T) tk (qa_cons (q_var 0 (pv 0)) (qa_cons (q_var 1 (pv 1)) qa_nil))) qa_nil))) (qss_cons (qs_set 3 sc_law.nd rfl (Or.inl rfl) (q_call ((ok__law_pool T).mono (by decide)) hr hgd rfl T.g__law_pool T.d__law_pool.kp (b__law_pool T) tk (qa_cons (q_var 2 (pv 2)) (qa_cons q_int qa_nil)))) (qss_cons (qs_set 4 sc_law.nd rfl (Or.inl rfl) (q_call ((ok__law_rules T).mono (by decide)) hr hgd rfl T.g__law_rules T.d__law_rules.kp (b__law_rules T) tk (qa_cons (q_var 2 (pv 2)) (qa_cons (q_var 3 (pv 3)) qa_nil)))) (qss_cons (qs_if (PW.pt (qw_or (qt_cmp op_isNot_x (q_call ((ok_are_rules T).mono (by decide)) hr hgd rfl T.g_are_rules T.d_are_rules.kp (b_are_rules T) tk (qa_cons (q_var 4 (pv 4)) qa_nil)) q_bl (nomark _)) (qw_or1 (qt_not (qt_tru (q_call ((ok__law_good T).mono (by decide)) hr hgd rfl T.g__law_good T.d__law_good.kp (b__law_good T) tk (qa_cons (q_var 4 (pv 4)) qa_nil))))))) (qss_one (qs_ret q_bl)) qss_nil) (qss_one (qs_for hpo rfl (qi_range1 rfl T.n_range q_int) (qg_name 5 sc_law.nd rfl (Or.inl rfl)) (qss_cons (qs_set 6 sc_law.nd rfl (Or.inl rfl) (q_var 4 (pv 4))) (qss_cons (qs_for hpo rfl (qi_range1 rfl T.n_range (q_op op_add_x q_int (q_call ((ok__law_take T).mono (by decide)) hr hgd rfl T.g__law_take T.d__law_take.kp (b__law_take T) tk (qa_cons (q_var 2 (pv 2)) (qa_cons q_int qa_nil))))) (qg_name 7 sc_law.nd rfl (Or.inl rfl)) (qss_one (qs_if (qt_tru (q_callB call_isi_x rfl T.n_isinstance bt_isinstance (qa_cons (q_var 6 (pv 6)) (qa_cons (q_ty rfl T.n_tuple bt_tuple) qa_nil)))) (qss_one (qs_set 6 sc_law.nd rfl (Or.inl rfl) (q_call ((ok__law_spoilt T).mono (by decide)) hr hgd rfl T.g__law_spoilt T.d__law_spoilt.kp (b__law_spoilt T) tk (qa_cons (q_var 2 (pv 2)) (qa_cons (q_var 6 (pv 6)) (qa_cons (q_var 3 (pv 3)) qa_nil)))))) qss_nil))) (qss_cons (qs_par rfl sc_law.nd rfl rfl (by decide) rfl rfl (qa_cons (q_callB (call_repr_x hu70 hgd T.sm) rfl T.n_repr bt_repr (qa_cons (q_call ((ok__law_good T).mono (by decide)) hr hgd rfl T.g__law_good T.d__law_good.kp (b__law_good T) tk (qa_cons (q_var 6 (pv 6)) qa_nil)) qa_nil)) (qa_cons (q_callB (call_repr_x hu70 hgd T.sm) rfl T.n_repr bt_repr (qa_cons (q_var 6 (pv 6)) qa_nil)) qa_nil)) (by rfl)) (qss_one (qs_if (PW.pt (qw_or (qt_cmp (op_ne_x hu64) (q_callB (call_repr_x hu70 hgd T.sm) rfl T.n_repr bt_repr (qa_cons (q_call ((ok_are_rules T).mono (by decide)) hr hgd rfl T.g_are_rules T.d_are_rules.kp (b_are_rules T) tk (qa_cons (q_var 6 (pv 6)) qa_nil)) qa_nil)) (q_var 8 (pv 8)) (nomark _)) (qw_or (qt_cmp (op_ne_x hu64) (q_callB (call_repr_x hu70 hgd T.sm) rfl T.n_repr bt_repr (qa_cons (q_call ((ok_are_rules T).mono (by decide)) hr hgd rfl T.g_are_rules T.d_are_rules.kp (b_are_rules T) tk (qa_cons (q_var 6 (pv 6)) qa_nil)) qa_nil)) (q_var 8 (pv 8)) (nomark _)) (qw_or1 (qt_cmp (op_ne_x hu64) (q_callB (call_repr_x hu70 hgd T.sm) rfl T.n_repr bt_repr (qa_cons (q_var 6 (pv 6)) qa_nil)) (q_var 9 (pv 9)) (nomark _)))))) (qss_one (qs_ret q_bl)) qss_nil)))))))))))) (qss_one (qs_ret q_bl)))
end
end K

set_option Elab.async false
set_option linter.all false
set_option maxRecDepth 100000
set_option maxHeartbeats 4000000
namespace K
open PySem L2 EX PL
theorem gc_self {n : Nat} {v : Val} {h : Hh} (e : h.length = n) : gc n v h = h := by
  unfold gc
  split
  · exact List.take_of_length_le (by omega)
  · rfl
theorem take_ok : TakeOk f__law_take := ⟨fun {h b s m} hb g hz hm hm2 => by
  have hl : b < h.length := (List.getElem?_eq_some_iff.mp hb).1
  by_cases hx : 0 < s.x
  · refine ⟨s.x % m, ⟨s.x / m, s.y, s.z⟩, ?_, Int.emod_nonneg _ (by omega), Int.emod_lt_of_pos _ hm, ⟨Int.ediv_nonneg g.x0 (by omega), g.y0, g.y1, g.z0⟩, by show s.z ≤ s.z + 1; omega⟩
    simp [f__law_take, callF, x__law_take, sSeq, sIf, xTest, xBin, xVar, xC, oIx2, oIx, hb, bx, atI, ixN, oGt, hx, sSet, oMod, hm, sSetIx, oFdiv, hm2, oSet, sRet, gc_self]
  · have hx0 : s.x = 0 := by have := g.x0; omega
    have hz' : s.z + 1 ≤ 4194304 := hz
    have z0 := g.z0; have y0 := g.y0; have y1 := g.y1
    have a1 : (s.y + 6007 * (s.z + 1) + 41).natAbs < 2 ^ 64 := by omega
    have q0 : 0 ≤ s.y * (s.z + 1) := Int.mul_nonneg y0 (by omega)
    have q1 : s.y * (s.z + 1) ≤ 2 ^ 31 * 4194304 := Int.mul_le_mul (by omega) (by omega) (by omega) (by omega)
    have c1 : (s.y * (s.z + 1) + 90007).natAbs < 2 ^ 64 := by omega
    have c2 : -18446744073709551616 < s.y ∧ s.y < 18446744073709551616 := by omega
    have l16 : Nat.log2 16 < 9000 := by decide
    refine ⟨((s.y + 6007 * (s.z + 1) + 41) ^ 5 % 2147483647 + 2147483647 * ((s.y * (s.z + 1) + 90007) ^ 3 % 2147483587)) / 16 % m, ⟨0, s.y, s.z + 1⟩, ?_, Int.emod_nonneg _ (by omega), Int.emod_lt_of_pos _ hm, ⟨Int.le_refl _, y0, y1, by show 0 ≤ s.z + 1; omega⟩, Int.le_refl _⟩
    have e1 : f__law_take [.loc b, .int m] h = .ok (.int (((s.y + 6007 * (s.z + 1) + 41) ^ 5 % 2147483647 + 2147483647 * ((s.y * (s.z + 1) + 90007) ^ 3 % 2147483587)) / 16 % m)) (h.set b (bx ⟨0, s.y, s.z + 1⟩)) := by
      simp [f__law_take, callF, x__law_take, sSeq, sIf, xTest, xBin, xVar, xC, oIx2, oIx, hb, bx, atI, ixN, oGt, hx0, sNil, sSet, oMod, hm, sSetIx, oFdiv, hm2, oSet, sRet, gc_self, oAdd, oMul2, oMul, oPow, List.getElem?_set_self hl, a1, c1, c2, l16]
    exact e1⟩
end K

set_option Elab.async false
set_option linter.all false
set_option maxRecDepth 100000
set_option maxHeartbeats 4000000
namespace K
open PySem L2 EX PL
def kd_NO_NAMES : List D := [.str "me", .str "here", .str "none"]
noncomputable def S_is_whole : BS := (bRet (bAndV (bCallN OIsi (bCons (bVar 0) (bCons (bC (.ty "int")) bNil))) (bAndV (bNotV (bCallN OIsi (bCons (bVar 0) (bCons (bC (.ty "bool")) bNil)))) (bChain OLe OLe (bVar 1) (bVar 0) (bVar 2)))))
noncomputable def B_is_whole : BF := mkF 3 S_is_whole
noncomputable def S_is_name : BS := (bSeq (bIfS (bOrT (bNotT (bTru (bCallN OIsi (bCons (bVar 0) (bCons (bC (.ty "str")) bNil))))) (bOrT (bNotT (bTest (bChain OLe OLe (bC (.int 1)) (bCallN OLen (bCons (bVar 0) bNil)) (bC (.int 8))))) (bTest (bBin (OIn2 gt) (bVar 0) (bC (.tup kd_NO_NAMES)))))) (bRet (bC (.bl false))) bSkip) (bRet (bCallN OAll (bCons (nComp (bIter (bVar 0)) (.name 1) bYes (bBin (OIn2 gt) (bVar 1) (bC (.str "abcdefghijklmnopqrstuvwxyz"))) [1]).e bNil))))
noncomputable def B_is_name : BF := mkF 2 S_is_name
noncomputable def S_is_text : BS := (bSeq (bIfS (bOrT (bNotT (bTru (bCallN OIsi (bCons (bVar 0) (bCons (bC (.ty "str")) bNil))))) (bTest (bBin OGt (bCallN OLen (bCons (bVar 0) bNil)) (bC (.int 60))))) (bRet (bC (.bl false))) bSkip) (bRet (bCallN OAll (bCons (nComp (bIter (bVar 0)) (.name 1) bYes (bAndV (bChain OLe OLe (bC (.str " ")) (bVar 1) (bC (.str "~"))) (bBin (ONotIn2 gt) (bCallN OOrd (bCons (bVar 1) bNil)) (bTup (bCons (bC (.int 37)) (bCons (bC (.int 39)) bNil))))) [1]).e bNil))))
noncomputable def B_is_text : BF := mkF 2 S_is_text
noncomputable def S_is_number : BS := (bRet (bCall 3 B_is_whole (bCons (bVar 0) (bCons (bUn ONeg (bC (.int 1000000000))) (bCons (bC (.int 1000000000)) bNil)))))
noncomputable def B_is_number : BF := mkF 1 S_is_number
noncomputable def S_is_pair : BS := (bRet (bAndV (bCallN OIsi (bCons (bVar 0) (bCons (bC (.ty "tuple")) bNil))) (bAndV (bBin OEq (bCallN OLen (bCons (bVar 0) bNil)) (bC (.int 2))) (bAndV (bCallN OIsi (bCons (bBin (OIx2 gt) (bVar 0) (bC (.int 0))) (bCons (bC (.ty "str")) bNil))) (bBin OEq (bBin (OIx2 gt) (bVar 0) (bC (.int 0))) (bVar 1))))))
noncomputable def B_is_pair : BF := mkF 2 S_is_pair
noncomputable def S_is_thing : BS := (bRet (bAndV (bCall 2 B_is_pair (bCons (bVar 0) (bCons (bC (.str "thing")) bNil))) (bCall 3 B_is_whole (bCons (bBin (OIx2 gt) (bVar 0) (bC (.int 1))) (bCons (bC (.int 0)) (bCons (bC (.int 999)) bNil))))))
noncomputable def B_is_thing : BF := mkF 1 S_is_thing
noncomputable def S_is_worth_within (self : BF) : BS := (bSeq (bIfS (bOrT (bTest (bBin OIs (bVar 0) (bC .non))) (bOrT (bTru (bCall 1 B_is_number (bCons (bVar 0) bNil))) (bOrT (bTru (bCall 1 B_is_text (bCons (bVar 0) bNil))) (bTru (bCall 1 B_is_thing (bCons (bVar 0) bNil)))))) (bRet (bC (.bl true))) bSkip) (bSeq (bIfS (bOrT (bTest (bBin OEq (bVar 1) (bC (.int 0)))) (bOrT (bNotT (bTru (bCall 2 B_is_pair (bCons (bVar 0) (bCons (bC (.str "row")) bNil))))) (bOrT (bNotT (bTru (bCallN OIsi (bCons (bBin (OIx2 gt) (bVar 0) (bC (.int 1))) (bCons (bC (.ty "tuple")) bNil))))) (bTest (bBin OGt (bCallN OLen (bCons (bBin (OIx2 gt) (bVar 0) (bC (.int 1))) bNil)) (bC (.int 30))))))) (bRet (bC (.bl false))) bSkip) (bRet (bCallN OAll (bCons (nComp (bIter (bBin (OIx2 gt) (bVar 0) (bC (.int 1)))) (.name 2) bYes (bCall 2 self (bCons (bVar 2) (bCons (bBin OSub (bVar 1) (bC (.int 1))) bNil))) [2]).e bNil)))))
noncomputable def B_is_worth_within : Nat → BF := recF 3 S_is_worth_within
theorem c_is_worth_within : ∀ n, (B_is_worth_within n).c = f_is_worth_within n
  | 0 => rfl
  | n + 1 => by
    show callF 3 ((S_is_worth_within (B_is_worth_within n)).c ("", [])) = callF 3 (x_is_worth_within (f_is_worth_within n))
    rw [← c_is_worth_within n]
    rfl
noncomputable def S_is_worth : BS := (bRet (bCall 2 (B_is_worth_within 12) (bCons (bVar 0) (bCons (bC (.int 4)) bNil))))
noncomputable def B_is_worth : BF := mkF 1 S_is_worth
noncomputable def S_is_rule : BS := (bSeq (bIfS (bOrT (bNotT (bTru (bCallN OIsi (bCons (bVar 0) (bCons (bC (.ty "tuple")) bNil))))) (bOrT (bTest (bBin OEq (bCallN OLen (bCons (bVar 0) bNil)) (bC (.int 0)))) (bNotT (bTru (bCallN OIsi (bCons (bBin (OIx2 gt) (bVar 0) (bC (.int 0))) (bCons (bC (.ty "str")) bNil))))))) (bRet (bC (.bl false))) bSkip) (bSeq (bStar 1 2 (bVar 0)) (bSeq (bIfS (bOrT (bTest (bBin (ONotIn2 gt) (bVar 1) (bC (.ref "LENGTHS")))) (bOrT (bTest (bBin ONe (bCallN OLen (bCons (bVar 0) bNil)) (bBin (OIx2 gt) (bC (.ref "LENGTHS")) (bVar 1)))) (bNotT (bTru (bCall 1 B_is_name (bCons (bBin (OIx2 gt) (bVar 2) (bC (.int 0))) bNil)))))) (bRet (bC (.bl false))) bSkip) (bSeq (bIfS (bTest (bBin OEq (bVar 1) (bC (.str "as")))) (bRet (bCall 1 B_is_name (bCons (bBin (OIx2 gt) (bVar 2) (bC (.int 1))) bNil))) bSkip) (bRet (bOrV (bBin ONe (bVar 1) (bC (.str "give"))) (bCall 1 B_is_worth (bCons (bBin (OIx2 gt) (bVar 2) (bC (.int 1))) bNil))))))))
noncomputable def B_is_rule : BF := mkF 3 S_is_rule
noncomputable def S_are_rules : BS := (bSeq (bIfS (bOrT (bNotT (bTru (bCallN OIsi (bCons (bVar 0) (bCons (bC (.ty "tuple")) bNil))))) (bOrT (bTest (bBin OGt (bCallN OLen (bCons (bVar 0) bNil)) (bC (.int 8)))) (bNotT (bTru (bCallN OAll (bCons (nComp (bIter (bVar 0)) (.name 3) bYes (bCall 1 B_is_rule (bCons (bVar 3) bNil)) [3]).e bNil)))))) (bRet (bC (.bl false))) bSkip) (bSeq (bSet 1 (nComp (bIter (bVar 0)) (.name 3) (bTest (bBin ONe (bBin (OIx2 gt) (bVar 3) (bC (.int 0))) (bC (.str "count")))) (bBin (OIx2 gt) (bVar 3) (bC (.int 1))) [3]).e) (bSeq (bSet 2 (nComp (bIter (bVar 0)) (.name 3) (bTest (bBin OEq (bBin (OIx2 gt) (bVar 3) (bC (.int 0))) (bC (.str "count")))) (bBin (OIx2 gt) (bVar 3) (bC (.int 1))) [3]).e) (bRet (bAndV (bBin OEq (bUn OLenSet (bVar 1)) (bCallN OLen (bCons (bVar 1) bNil))) (bBin OEq (bUn OLenSet (bVar 2)) (bCallN OLen (bCons (bVar 2) bNil))))))))
noncomputable def B_are_rules : BF := mkF 4 S_are_rules
noncomputable def S__law_cell : BS := (bSeq (bIfS (bTest (bBin OLt (bVar 1) (bCallN OLen (bCons (bVar 0) bNil)))) (bRet (bBin (OIx2 gt) (bVar 0) (bVar 1))) bSkip) (bRet (bBin OAddX (bBin OMul (bC (.int 7207)) (bVar 1)) (bC (.int 37)))))
noncomputable def B__law_cell : BF := mkF 2 S__law_cell
noncomputable def S__law_purse : BS := (bRet (nLst (bCons (bCallN OMax (bCons (bC (.int 0)) (bCons (bBin OSub (bVar 0) (bBin OPow (bC (.int 10)) (bC (.int 18)))) bNil))) (bCons (bBin OMod (bVar 0) (bC (.int 2147483543))) (bCons (bC (.int 0)) bNil)))).e)
noncomputable def B__law_purse : BF := mkF 1 S__law_purse
noncomputable def B__law_take : BF := takeF f__law_take take_ok
noncomputable def S__law_pool : BS := (bSeq (bSet 2 (bC (.str "abcdefghijklmnopqrstuvwxyz"))) (bSeq (bSet 3 (bCall 2 B__law_take (bCons (bVar 0) (bCons (bC (.int 4)) bNil)))) (bSeq (bSet 4 (bCall 2 B__law_take (bCons (bVar 0) (bCons (bC (.int 26)) bNil)))) (bSeq (bSet 5 (bBin (OIx2 gt) (nLst (bCons (bC (.int 1)) (bCons (bC (.int 5)) (bCons (bC (.int 7)) (bCons (bC (.int 11)) bNil))))).e (bCall 2 B__law_take (bCons (bVar 0) (bCons (bC (.int 4)) bNil))))) (bSeq (bIfS (bTest (bBin OEq (bVar 3) (bC (.int 0)))) (bSeq (bSet 6 (nLst (bCons (bC (.str "get")) (bCons (bC (.str "call")) (bCons (bC (.str "let")) (bCons (bC (.str "deed")) (bCons (bC (.str "kind")) (bCons (bC (.str "row")) (bCons (bC (.str "wants")) (bCons (bC (.str "end")) (bCons (bC (.str "if")) (bCons (bC (.str "done")) (bCons (bC (.str "as")) (bCons (bC (.str "hide")) bNil))))))))))))).e) (bRet (nComp (bRange1 (bVar 1)).i (.name 12) bYes (bBin (OIx2 gt) (bVar 6) (bBin OMod (bBin OAddX (bVar 4) (bBin OMul (bVar 5) (bVar 12))) (bC (.int 12)))) [12]).e)) bSkip) (bSeq (bSet 7 (nComp (bRange1 (bCall 2 B__law_take (bCons (bVar 0) (bCons (bC (.int 7)) bNil)))).i (.name 12) bYes (bBin (OIx2 gt) (bVar 2) (bCall 2 B__law_take (bCons (bVar 0) (bCons (bC (.int 26)) bNil)))) [12]).e) (bSeq (bSet 8 (bCall 2 B__law_take (bCons (bVar 0) (bCons (bBin OAddX (bCallN OLen (bCons (bVar 7) bNil)) (bC (.int 1))) bNil)))) (bSeq (bPar [9, 10] (bCons (bMeth "str" OJoin (bC (.str "")) (bCons (bSl OSlX (bVar 7) none (some (bVar 8))) bNil)) (bCons (bMeth "str" OJoin (bC (.str "")) (bCons (bSl OSlX (bVar 7) (some (bVar 8)) none) bNil)) bNil))) (bSeq (bSetN 11 (nLst bNil)) (bSeq (bFor (bRange1 (bVar 1)) (.name 12) (bSeq (bSet 13 (bBin OAddX (bBin OAddX (bVar 9) (bBin (OIx2 gt) (bVar 2) (bBin OMod (bBin OAddX (bVar 4) (bBin OMul (bVar 5) (bVar 12))) (bC (.int 26))))) (bVar 10))) (bSeq (bSet 13 (bIf (bTest (bBin OEq (bVar 3) (bC (.int 1)))) (bBin OAddX (bVar 13) (bBin OMul (bBin (OIx2 gt) (bVar 2) (bVar 4)) (bBin OMod (bVar 12) (bC (.int 2))))) (bVar 13))) (bApp 11 (bIf (bTest (bBin (OIn2 gt) (bVar 13) (bTup (bCons (bC (.str "me")) (bCons (bC (.str "here")) (bCons (bC (.str "none")) bNil)))))) (bBin OAddX (bC (.str "x")) (bVar 13)) (bVar 13)))))) (bRetO 11)))))))))))
noncomputable def B__law_pool : BF := mkF 14 S__law_pool
noncomputable def S__law_rules : BS := (bSeq (bEmp3 2 3 4) (bSeq (bFor (bRange1 (bBin (OIx2 gt) (nLst (bCons (bCall 2 B__law_take (bCons (bVar 0) (bCons (bC (.int 4)) bNil))) (bCons (bC (.int 12)) (bCons (bCall 2 B__law_take (bCons (bVar 0) (bCons (bC (.int 9)) bNil))) bNil)))).e (bCall 2 B__law_take (bCons (bVar 0) (bCons (bC (.int 3)) bNil))))) (.name 5) (bSeq (bPar [6, 7] (bCons (bBin (OIx2 gt) (bVar 1) (bCall 2 B__law_take (bCons (bVar 0) (bCons (bCallN OLen (bCons (bVar 1) bNil)) bNil)))) (bCons (bBin (OIx2 gt) (bVar 1) (bCall 2 B__law_take (bCons (bVar 0) (bCons (bCallN OLen (bCons (bVar 1) bNil)) bNil)))) bNil))) (bSeq (bSet 8 (bBin (OIx2 gt) (nLst (bCons (bC .non) (bCons (bC (.int 5)) (bCons (bBin OSub (bC (.int 0)) (bBin OPow (bC (.int 10)) (bC (.int 9)))) (bCons (bC (.str "a b")) (bCons (bTup (bCons (bC (.str "thing")) (bCons (bC (.int 999)) bNil))) (bCons (bTup (bCons (bC (.str "row")) (bCons (bTup (bCons (bTup (bCons (bC (.str "row")) (bCons (bTup bNil) bNil))) (bCons (bC (.int 7)) bNil))) bNil))) bNil))))))).e (bCall 2 B__law_take (bCons (bVar 0) (bCons (bC (.int 6)) bNil))))) (bSeq (bSet 9 (bBin (OIx2 gt) (nLst (bCons (bTup (bCons (bC (.str "hide")) (bCons (bVar 6) bNil))) (bCons (bTup (bCons (bC (.str "bar")) (bCons (bVar 6) bNil))) (bCons (bTup (bCons (bC (.str "as")) (bCons (bVar 6) (bCons (bVar 7) bNil)))) (bCons (bTup (bCons (bC (.str "give")) (bCons (bVar 6) (bCons (bVar 8) bNil)))) bNil))))).e (bCall 2 B__law_take (bCons (bVar 0) (bCons (bC (.int 4)) bNil))))) (bSeq (bIfS (bTest (bBin OEq (bCall 2 B__law_take (bCons (bVar 0) (bCons (bC (.int 3)) bNil))) (bC (.int 0)))) (bSet 9 (bTup (bCons (bC (.str "count")) (bCons (bVar 6) bNil)))) bSkip) (bSeq (bIfS (bAndT (bTest (bBin OEq (bBin (OIx2 gt) (bVar 9) (bC (.int 0))) (bC (.str "count")))) (bTest (bBin (ONotIn2 gt) (bVar 6) (bVar 4)))) (bSeq (bApp 4 (bVar 6)) (bApp 2 (bVar 9))) bSkip) (bIfS (bAndT (bTest (bBin ONe (bBin (OIx2 gt) (bVar 9) (bC (.int 0))) (bC (.str "count")))) (bTest (bBin (ONotIn2 gt) (bVar 6) (bVar 3)))) (bSeq (bApp 3 (bVar 6)) (bApp 2 (bVar 9))) bSkip))))))) (bRet (bCallN OTuple (bCons (bSl OSlX (bVar 2) none (some (bC (.int 8)))) bNil)))))
noncomputable def B__law_rules : BF := mkF 10 S__law_rules
noncomputable def S__law_spoilt : BS := (bSeq (bSet 3 (bCall 2 B__law_take (bCons (bVar 0) (bCons (bC (.int 9)) bNil)))) (bSeq (bSet 4 (bCall 2 B__law_take (bCons (bVar 0) (bCons (bCallN OMax (bCons (bC (.int 1)) (bCons (bCallN OLen (bCons (bVar 1) bNil)) bNil))) bNil)))) (bSeq (bSet 5 (bBin (OIx2 gt) (bVar 2) (bCall 2 B__law_take (bCons (bVar 0) (bCons (bCallN OLen (bCons (bVar 2) bNil)) bNil))))) (bSeq (bSetN 6 (nLst (bCons (bTup (bCons (bC (.str "hide")) bNil)) (bCons (bTup (bCons (bC (.str "hide")) (bCons (bVar 5) (bCons (bVar 5) bNil)))) (bCons (bTup (bCons (bC (.str "as")) (bCons (bVar 5) bNil))) (bCons (bTup (bCons (bC (.str "give")) (bCons (bVar 5) bNil))) (bCons (bTup (bCons (bC (.str "count")) (bCons (bVar 5) (bCons (bC (.int 1)) bNil)))) (bCons (bTup (bCons (bC (.str "turn")) (bCons (bVar 5) bNil))) bNil)))))))) (bSeq (bSetN 6 (nBin PAdd (bVar 6) (nLst (bCons (bTup (bCons (bC (.str "bar")) (bCons (bC (.int 5)) bNil))) (bCons (bTup (bCons (bC (.str "as")) (bCons (bVar 5) (bCons (bC .non) bNil)))) (bCons (bTup (bCons (bC (.str "give")) (bCons (bVar 5) (bCons (bBin OAddX (bBin OPow (bC (.int 10)) (bC (.int 9))) (bC (.int 1))) bNil)))) (bCons (bTup (bCons (bC (.str "give")) (bCons (bVar 5) (bCons (bC (.bl true)) bNil)))) bNil))))).e)) (bSeq (bSet 7 (bTup (bCons (bC (.str "row")) (bCons (bTup (bCons (bTup (bCons (bC (.str "row")) (bCons (bTup (bCons (bTup (bCons (bC (.str "row")) (bCons (bTup (bCons (bTup (bCons (bC (.str "row")) (bCons (bTup (bCons (bTup (bCons (bC (.str "row")) (bCons (bTup bNil) bNil))) bNil)) bNil))) bNil)) bNil))) bNil)) bNil))) bNil)) bNil)))) (bSeq (bSetN 6 (nBin PAdd (bVar 6) (nLst (bCons (bTup (bCons (bC (.str "give")) (bCons (bVar 5) (bCons (nLst (bCons (bC (.int 1)) bNil)).e bNil)))) (bCons (bTup bNil) (bCons (bC .non) (bCons (bC (.int 7)) (bCons (bTup (bCons (bC (.str "give")) (bCons (bVar 5) (bCons (bTup (bCons (bC (.str "row")) (bCons (bC (.int 5)) bNil))) bNil)))) (bCons (bTup (bCons (bC (.str "give")) (bCons (bVar 5) (bCons (bTup (bCons (bC (.str "row")) (bCons (bTup (bCons (bC (.bl true)) bNil)) bNil))) bNil)))) bNil))))))).e)) (bSeq (bSetN 6 (nBin PAdd (bVar 6) (nLst (bCons (bTup (bCons (bC (.str "hide")) (bCons (bC (.str "me")) bNil))) (bCons (bTup (bCons (bC (.str "as")) (bCons (bVar 5) (bCons (bC (.str "none")) bNil)))) (bCons (bTup (bCons (bC (.str "bar")) (bCons (bC (.str "ninesigns")) bNil))) (bCons (bTup (bCons (bC (.str "count")) (bCons (bC (.str "A")) bNil))) (bCons (bC (.str "hide")) (bCons (nLst (bCons (bC (.str "hide")) (bCons (bVar 5) bNil))).e bNil))))))).e)) (bSeq (bApp 6 (bTup (bCons (bC (.str "give")) (bCons (bVar 5) (bCons (bVar 7) bNil))))) (bSeq (bIfS (bTest (bBin OLt (bVar 3) (bC (.int 3)))) (bRet (bBin OAddX (bBin OAddX (bSl OSlX (bVar 1) none (some (bVar 4))) (bTup (bCons (bBin (OIx2 gt) (bVar 6) (bCall 2 B__law_take (bCons (bVar 0) (bCons (bC (.int 23)) bNil)))) bNil))) (bSl OSlX (bVar 1) (some (bVar 4)) none))) bSkip) (bSeq (bIfS (bTest (bBin OEq (bVar 3) (bC (.int 3)))) (bRet (bBin OAddX (bVar 1) (bSl OSlX (bVar 1) (some (bVar 4)) (some (bBin OAddX (bVar 4) (bC (.int 1))))))) bSkip) (bSeq (bIfS (bTest (bBin OEq (bVar 3) (bC (.int 4)))) (bSeq (bSet 8 (nLst (bCons (bTup (bCons (bC (.str "hide")) (bCons (bVar 5) bNil))) (bCons (bTup (bCons (bC (.str "bar")) (bCons (bVar 5) bNil))) (bCons (bTup (bCons (bC (.str "as")) (bCons (bVar 5) (bCons (bVar 5) bNil)))) (bCons (bTup (bCons (bC (.str "give")) (bCons (bVar 5) (bCons (bC (.int 5)) bNil)))) bNil))))).e) (bRet (bBin OAddX (bVar 1) (bTup (bCons (bBin (OIx2 gt) (bVar 8) (bCall 2 B__law_take (bCons (bVar 0) (bCons (bC (.int 4)) bNil)))) (bCons (bBin (OIx2 gt) (bVar 8) (bCall 2 B__law_take (bCons (bVar 0) (bCons (bC (.int 4)) bNil)))) bNil)))))) bSkip) (bSeq (bIfS (bTest (bBin OEq (bVar 3) (bC (.int 5)))) (bRet (bBin OAddX (bVar 1) (bCallN OTuple (bCons (nComp (bIter (bVar 2)) (.name 9) bYes (bTup (bCons (bC (.str "count")) (bCons (bVar 9) bNil))) [9]).e bNil)))) bSkip) (bSeq (bIfS (bTest (bBin OEq (bVar 3) (bC (.int 6)))) (bRet (bBin (OIx2 gt) (nLst (bCons (bC .non) (bCons (bC (.int 7)) (bCons (bC (.str "")) (bCons (bDict pNil) (bCons (bCallN OListX (bCons (bVar 1) bNil)) (bCons (bTup (bCons (bVar 1) bNil)) (bCons (bC (.bl true)) bNil)))))))).e (bCall 2 B__law_take (bCons (bVar 0) (bCons (bC (.int 7)) bNil))))) bSkip) (bSeq (bIfS (bAndT (bTest (bBin OEq (bVar 3) (bC (.int 7)))) (bAndT (bTest (bBin ONe (bVar 1) (bTup bNil))) (bTru (bCallN OIsi (bCons (bBin (OIx2 gt) (bVar 1) (bVar 4)) (bCons (bC (.ty "tuple")) bNil)))))) (bRet (bBin OAddX (bBin OAddX (bSl OSlX (bVar 1) none (some (bVar 4))) (bTup (bCons (bCallN OListX (bCons (bBin (OIx2 gt) (bVar 1) (bVar 4)) bNil)) bNil))) (bSl OSlX (bVar 1) (some (bBin OAddX (bVar 4) (bC (.int 1)))) none))) bSkip) (bRet (bUn ORev (bVar 1))))))))))))))))))
noncomputable def B__law_spoilt : BF := mkF 10 S__law_spoilt
noncomputable def S__law_called : BS := (bSeq (bIfS (bOrT (bNotT (bTru (bCallN OIsi (bCons (bVar 0) (bCons (bC (.ty "str")) bNil))))) (bOrT (bNotT (bTest (bChain OLe OLe (bC (.int 1)) (bCallN OLen (bCons (bVar 0) bNil)) (bC (.int 8))))) (bTest (bBin (OIn2 gt) (bVar 0) (bTup (bCons (bC (.str "me")) (bCons (bC (.str "here")) (bCons (bC (.str "none")) bNil)))))))) (bRet (bC (.bl false))) bSkip) (bRet (bBin OEq (nComp (bIter (bVar 0)) (.name 1) (bNotT (bTest (bChain OLe OLe (bC (.str "a")) (bVar 1) (bC (.str "z"))))) (bVar 1) [1]).e (nLst bNil).e)))
noncomputable def B__law_called : BF := mkF 2 S__law_called
noncomputable def S__law_worthy (self : BF) : BS := (bSeq (bIfS (bOrT (bTest (bBin OIs (bVar 0) (bC .non))) (bTru (bCallN OIsi (bCons (bVar 0) (bCons (bC (.ty "int")) bNil))))) (bRet (bOrV (bBin OIs (bVar 0) (bC .non)) (bAndV (bNotV (bCallN OIsi (bCons (bVar 0) (bCons (bC (.ty "bool")) bNil)))) (bChain OLe OLe (bBin OSub (bC (.int 0)) (bBin OPow (bC (.int 10)) (bC (.int 9)))) (bVar 0) (bBin OPow (bC (.int 10)) (bC (.int 9))))))) bSkip) (bSeq (bIfS (bTru (bCallN OIsi (bCons (bVar 0) (bCons (bC (.ty "str")) bNil)))) (bRet (bBin OLe (bCallN OLen (bCons (bVar 0) bNil)) (bC (.int 60)))) bSkip) (bSeq (bIfS (bOrT (bNotT (bTru (bCallN OIsi (bCons (bVar 0) (bCons (bC (.ty "tuple")) bNil))))) (bOrT (bTest (bBin ONe (bCallN OLen (bCons (bVar 0) bNil)) (bC (.int 2)))) (bTest (bBin (ONotIn2 gt) (bBin (OIx2 gt) (bVar 0) (bC (.int 0))) (bTup (bCons (bC (.str "thing")) (bCons (bC (.str "row")) bNil))))))) (bRet (bC (.bl false))) bSkip) (bSeq (bIfS (bTest (bBin OEq (bBin (OIx2 gt) (bVar 0) (bC (.int 0))) (bC (.str "thing")))) (bRet (bAndV (bCallN OIsi (bCons (bBin (OIx2 gt) (bVar 0) (bC (.int 1))) (bCons (bC (.ty "int")) bNil))) (bAndV (bNotV (bCallN OIsi (bCons (bBin (OIx2 gt) (bVar 0) (bC (.int 1))) (bCons (bC (.ty "bool")) bNil)))) (bChain OLe OLe (bC (.int 0)) (bBin (OIx2 gt) (bVar 0) (bC (.int 1))) (bC (.int 999)))))) bSkip) (bSeq (bIfS (bOrT (bTest (bBin OEq (bVar 1) (bC (.int 0)))) (bOrT (bNotT (bTru (bCallN OIsi (bCons (bBin (OIx2 gt) (bVar 0) (bC (.int 1))) (bCons (bC (.ty "tuple")) bNil))))) (bTest (bBin OGt (bCallN OLen (bCons (bBin (OIx2 gt) (bVar 0) (bC (.int 1))) bNil)) (bC (.int 30)))))) (bRet (bC (.bl false))) bSkip) (bRet (bBin OEq (nComp (bIter (bBin (OIx2 gt) (bVar 0) (bC (.int 1)))) (.name 2) (bNotT (bTru (bCall 2 self (bCons (bVar 2) (bCons (bBin OSub (bVar 1) (bC (.int 1))) bNil))))) (bVar 2) [2]).e (nLst bNil).e)))))))
noncomputable def B__law_worthy : Nat → BF := recF 3 S__law_worthy
theorem c__law_worthy : ∀ n, (B__law_worthy n).c = f__law_worthy n
  | 0 => rfl
  | n + 1 => by
    show callF 3 ((S__law_worthy (B__law_worthy n)).c ("", [])) = callF 3 (x__law_worthy (f__law_worthy n))
    rw [← c__law_worthy n]
    rfl
noncomputable def S__law_rule_good : BS := (bSeq (bSet 1 (bDict (pCons (bC (.str "hide")) (bC (.int 2)) (pCons (bC (.str "bar")) (bC (.int 2)) (pCons (bC (.str "as")) (bC (.int 3)) (pCons (bC (.str "give")) (bC (.int 3)) (pCons (bC (.str "count")) (bC (.int 2)) pNil))))))) (bSeq (bIfS (bOrT (bNotT (bTru (bCallN OIsi (bCons (bVar 0) (bCons (bC (.ty "tuple")) bNil))))) (bOrT (bTest (bBin OEq (bCallN OLen (bCons (bVar 0) bNil)) (bC (.int 0)))) (bOrT (bNotT (bTru (bCallN OIsi (bCons (bBin (OIx2 gt) (bVar 0) (bC (.int 0))) (bCons (bC (.ty "str")) bNil))))) (bTest (bBin (ONotIn2 gt) (bBin (OIx2 gt) (bVar 0) (bC (.int 0))) (bVar 1)))))) (bRet (bC (.bl false))) bSkip) (bSeq (bIfS (bOrT (bTest (bBin ONe (bCallN OLen (bCons (bVar 0) bNil)) (bBin (OIx2 gt) (bVar 1) (bBin (OIx2 gt) (bVar 0) (bC (.int 0)))))) (bNotT (bTru (bCall 1 B__law_called (bCons (bBin (OIx2 gt) (bVar 0) (bC (.int 1))) bNil))))) (bRet (bC (.bl false))) bSkip) (bSeq (bIfS (bTest (bBin OEq (bBin (OIx2 gt) (bVar 0) (bC (.int 0))) (bC (.str "as")))) (bRet (bCall 1 B__law_called (bCons (bBin (OIx2 gt) (bVar 0) (bC (.int 2))) bNil))) bSkip) (bRet (bOrV (bBin ONe (bBin (OIx2 gt) (bVar 0) (bC (.int 0))) (bC (.str "give"))) (bCall 2 (B__law_worthy 12) (bCons (bBin (OIx2 gt) (bVar 0) (bC (.int 2))) (bCons (bC (.int 4)) bNil)))))))))
noncomputable def B__law_rule_good : BF := mkF 2 S__law_rule_good
noncomputable def S__law_good : BS := (bSeq (bIfS (bOrT (bNotT (bTru (bCallN OIsi (bCons (bVar 0) (bCons (bC (.ty "tuple")) bNil))))) (bOrT (bTest (bBin OGt (bCallN OLen (bCons (bVar 0) bNil)) (bC (.int 8)))) (bTest (bBin ONe (nComp (bIter (bVar 0)) (.name 3) (bNotT (bTru (bCall 1 B__law_rule_good (bCons (bVar 3) bNil)))) (bVar 3) [3]).e (nLst bNil).e)))) (bRet (bC (.bl false))) bSkip) (bSeq (bSet 1 (nComp (bIter (bVar 0)) (.name 3) (bTest (bBin ONe (bBin (OIx2 gt) (bVar 3) (bC (.int 0))) (bC (.str "count")))) (bBin (OIx2 gt) (bVar 3) (bC (.int 1))) [3]).e) (bSeq (bSet 2 (nComp (bIter (bVar 0)) (.name 3) (bTest (bBin OEq (bBin (OIx2 gt) (bVar 3) (bC (.int 0))) (bC (.str "count")))) (bBin (OIx2 gt) (bVar 3) (bC (.int 1))) [3]).e) (bRet (bAndV (bBin OEq (bUn OLenSet (bVar 1)) (bCallN OLen (bCons (bVar 1) bNil))) (bBin OEq (bUn OLenSet (bVar 2)) (bCallN OLen (bCons (bVar 2) bNil))))))))
noncomputable def B__law_good : BF := mkF 4 S__law_good
noncomputable def S_law : BS := (bSeq (bFor (bRange1 (bCallN OMax (bCons (bC (.int 2)) (bCons (bCallN OMin (bCons (bC (.int 8)) (bCons (bCallN OLen (bCons (bVar 0) bNil)) bNil))) bNil)))) (.name 1) (bSeq (bSet 2 (bCall 1 B__law_purse (bCons (bCall 2 B__law_cell (bCons (bVar 0) (bCons (bVar 1) bNil))) bNil))) (bSeq (bSet 3 (bCall 2 B__law_pool (bCons (bVar 2) (bCons (bC (.int 9)) bNil)))) (bSeq (bSet 4 (bCall 2 B__law_rules (bCons (bVar 2) (bCons (bVar 3) bNil)))) (bSeq (bIfS (bOrT (bTest (bBin OIsNot (bCall 1 B_are_rules (bCons (bVar 4) bNil)) (bC (.bl true)))) (bNotT (bTru (bCall 1 B__law_good (bCons (bVar 4) bNil))))) (bRet (bC (.bl false))) bSkip) (bFor (bRange1 (bC (.int 4))) (.name 5) (bSeq (bSet 6 (bVar 4)) (bSeq (bFor (bRange1 (bBin OAddX (bC (.int 1)) (bCall 2 B__law_take (bCons (bVar 2) (bCons (bC (.int 2)) bNil))))) (.name 7) (bIfS (bTru (bCallN OIsi (bCons (bVar 6) (bCons (bC (.ty "tuple")) bNil)))) (bSet 6 (bCall 3 B__law_spoilt (bCons (bVar 2) (bCons (bVar 6) (bCons (bVar 3) bNil))))) bSkip)) (bSeq (bPar [8, 9] (bCons (bCallN ORepr (bCons (bCall 1 B__law_good (bCons (bVar 6) bNil)) bNil)) (bCons (bCallN ORepr (bCons (bVar 6) bNil)) bNil))) (bIfS (bOrT (bTest (bBin ONe (bCallN ORepr (bCons (bCall 1 B_are_rules (bCons (bVar 6) bNil)) bNil)) (bVar 8))) (bOrT (bTest (bBin ONe (bCallN ORepr (bCons (bCall 1 B_are_rules (bCons (bVar 6) bNil)) bNil)) (bVar 8))) (bTest (bBin ONe (bCallN ORepr (bCons (bVar 6) bNil)) (bVar 9))))) (bRet (bC (.bl false))) bSkip)))))))))) (bRet (bC (.bl true))))
noncomputable def B_law : BF := mkF 10 S_law
end K

set_option Elab.async false
set_option linter.all false
set_option maxRecDepth 100000
set_option maxHeartbeats 4000000
namespace K
open PySem L2 EX PL
def numB (d : D) (lo hi : Int) : Bool := match d with
  | .int i => decide (lo ≤ i) && decide (i ≤ hi)
  | _ => false
theorem whole_p {d : D} (h : Dt d = true) (lo hi : Int) : B_is_whole.p [d, .int lo, .int hi] = .ret (.ok (.bl (numB d lo hi))) := by
  have i1 := isi_p h "int"
  have i2 := isi_p h "bool"
  cases d with
  | int i =>
    simp [B_is_whole, S_is_whole, i1, i2, isK, tyP, pLe, numB]
    by_cases h1 : lo ≤ i <;> simp [h1, D.isOwn]
  | own _ => simp [B_is_whole, S_is_whole, i1, i2, isK, tyP, numB, D.isOwn]
  | ownd _ => simp [B_is_whole, S_is_whole, i1, i2, isK, tyP, numB, D.isOwn]
  | ty _ => cases h
  | ref _ => cases h
  | box => cases h
  | scr _ => cases h
  | _ => simp [B_is_whole, S_is_whole, i1, i2, isK, tyP, numB, D.isOwn]
/-! ### names -/
def letters : List Nat := (Str.ofString "abcdefghijklmnopqrstuvwxyz").cps.toList
theorem letters_iff (c : Nat) : c ∈ letters ↔ 97 ≤ c ∧ c ≤ 122 := by
  have e : letters = [97, 98, 99, 100, 101, 102, 103, 104, 105, 106, 107, 108, 109, 110, 111, 112, 113, 114, 115, 116, 117, 118, 119, 120, 121, 122] := by decide +kernel
  rw [e]
  simp only [List.mem_cons, List.not_mem_nil, or_false]
  omega
def noNames : List Val := [.str "me", .str "here", .str "none"]
def nameB (d : D) : Bool := match d with
  | .str s => decide (1 ≤ s.length) && (decide (s.length ≤ 8) && (!inX (.str s) noNames && s.cps.toList.all fun c => decide (c ∈ letters)))
  | _ => false
theorem name_p {d : D} (h : Dt d = true) (hs : Short d) : B_is_name.p [d] = .ret (.ok (.bl (nameB d))) := by
  have i1 := isi_p h "str"
  by_cases hd : ∃ s, d = .str s
  · obtain ⟨s, rfl⟩ := hd
    have hl : s.length ≤ sizeLine := hs
    have cp := all_chars (tt := bYes.p ("", [])) (x := (bBin (OIn2 gt) (bVar 1) (bC (.str "abcdefghijklmnopqrstuvwxyz"))).p ("", [])) (p := [some (.str s), none]) (i := 1) (cs := s.cps.toList) (fun c => decide (c ∈ letters)) (fun _ => rfl) (fun c m => by simp [pIn2, pIn, sgD, letters])
    rw [← chars_eq] at cp
    have il := isLen hl
    have q1 : decide ((1 : Int) ≤ (s.length : Int)) = decide (1 ≤ s.length) := by congr 1; exact propext (by omega)
    have q2 : decide ((s.length : Int) ≤ 8) = decide (s.length ≤ 8) := by congr 1; exact propext (by omega)
    have n : nameB (.str s) = (decide (1 ≤ s.length) && (decide (s.length ≤ 8) && (!inX (.str s) noNames && s.cps.toList.all fun c => decide (c ∈ letters)))) := rfl
    rw [n]
    have nn : (Val.str s) = Val.str s := rfl
    have ni : ∀ x, inX x [Val.str (Str.ofString "me"), Val.str (Str.ofString "here"), Val.str (Str.ofString "none")] = inX x noNames := fun _ => rfl
    generalize hI : inX (Val.str s) noNames = I at *
    cases h1 : decide (1 ≤ s.length) with
    | false => simp [B_is_name, S_is_name, i1, isK, tyP, pTruth, pLen, hl, pLe, q1, h1, D.isOwn]
    | true =>
      cases h2 : decide (s.length ≤ 8) with
      | false => simp [B_is_name, S_is_name, i1, isK, tyP, pTruth, pLen, hl, pLe, q1, h1, q2, h2, D.isOwn]
      | true =>
        cases I with
        | true => simp [B_is_name, S_is_name, i1, isK, tyP, pTruth, pLen, hl, pLe, q1, h1, q2, h2, pIn2, pIn, D.sc?, scL, kd_NO_NAMES, ni, hI, D.isOwn]
        | false => simp [B_is_name, S_is_name, i1, isK, tyP, pTruth, pLen, hl, pLe, q1, h1, q2, h2, pIn2, pIn, D.sc?, scL, kd_NO_NAMES, ni, hI, il, pIter, pwipe, cp, D.list?, bools_map, D.isOwn]
  · have e := strNo fun s e => hd ⟨s, e⟩
    have n : nameB d = false := by
      cases d <;> first | rfl | exact absurd ⟨_, rfl⟩ hd
    simp [B_is_name, S_is_name, i1, e, pTruth, n, D.isOwn]
end K

set_option Elab.async false
set_option linter.all false
set_option maxRecDepth 100000
set_option maxHeartbeats 4000000
namespace K
open PySem L2 EX PL
theorem filter_nil {α : Type} (f : α → Bool) (cs : List α) : (cs.filter fun c => !f c).isEmpty = cs.all f := by
  induction cs with
  | nil => rfl
  | cons c cs ih => cases h : f c <;> simp_all
theorem sg_le {a c : Nat} {s : Str} (e : s.cps.toList = [a]) : pLe (.str s) (sgD c) = some (.bl (decide (a ≤ c))) := by
  have q : (#[c] : Array Nat).toList = [c] := rfl
  simp only [pLe, sgD, e, q]
  congr 2
  rw [← decide_not]
  congr 1
  simp [List.cons_lt_cons_iff]
theorem le_sg {a c : Nat} {s : Str} (e : s.cps.toList = [a]) : pLe (sgD c) (.str s) = some (.bl (decide (c ≤ a))) := by
  have q : (#[c] : Array Nat).toList = [c] := rfl
  simp only [pLe, sgD, e, q]
  congr 2
  rw [← decide_not]
  congr 1
  simp [List.cons_lt_cons_iff]
theorem called_p {d : D} (h : Dt d = true) (hs : Short d) : B__law_called.p [d] = .ret (.ok (.bl (nameB d))) := by
  have i1 := isi_p h "str"
  by_cases hd : ∃ s, d = .str s
  · obtain ⟨s, rfl⟩ := hd
    have hl : s.length ≤ sizeLine := hs
    have l1 : ∀ c, pLe (.str (Str.ofString "a")) (sgD c) = some (.bl (decide (97 ≤ c))) := fun c => sg_le rfl
    have l2 : ∀ c, pLe (sgD c) (.str (Str.ofString "z")) = some (.bl (decide (c ≤ 122))) := fun c => le_sg rfl
    have cp := some_chars (tt := (bNotT (bTest (bChain OLe OLe (bC (.str "a")) (bVar 1) (bC (.str "z"))))).p ("", [])) (x := (bVar 1).p ("", [])) (p := [some (.str s), none]) (i := 1) (cs := s.cps.toList) (fun c => !decide (c ∈ letters)) (fun c m => by
      by_cases h1 : 97 ≤ c <;> by_cases h2 : c ≤ 122 <;> simp [l1, l2, letters_iff, h1, h2]) (fun c m => by simp)
    rw [← chars_eq] at cp
    have il := isLen hl
    have q1 : decide ((1 : Int) ≤ (s.length : Int)) = decide (1 ≤ s.length) := by congr 1; exact propext (by omega)
    have q2 : decide ((s.length : Int) ≤ 8) = decide (s.length ≤ 8) := by congr 1; exact propext (by omega)
    have n : nameB (.str s) = (decide (1 ≤ s.length) && (decide (s.length ≤ 8) && (!inX (.str s) noNames && s.cps.toList.all fun c => decide (c ∈ letters)))) := rfl
    rw [n]
    have ni : ∀ x, inX x [Val.str (Str.ofString "me"), Val.str (Str.ofString "here"), Val.str (Str.ofString "none")] = inX x noNames := fun _ => rfl
    have z3 : (3 : Nat) ≤ sizeLine := by decide
    have fe : (((s.cps.toList.filter fun c => !decide (c ∈ letters)).map sgD).isEmpty) = s.cps.toList.all fun c => decide (c ∈ letters) := by
      rw [List.isEmpty_map]; exact filter_nil (fun c => decide (c ∈ letters)) _
    generalize hI : inX (Val.str s) noNames = I at *
    cases h1 : decide (1 ≤ s.length) with
    | false => simp [B__law_called, S__law_called, i1, isK, tyP, pTruth, pLen, hl, pLe, q1, h1, D.isOwn]
    | true =>
      cases h2 : decide (s.length ≤ 8) with
      | false => simp [B__law_called, S__law_called, i1, isK, tyP, pTruth, pLen, hl, pLe, q1, h1, q2, h2, D.isOwn]
      | true =>
        cases I with
        | true => simp [B__law_called, S__law_called, i1, isK, tyP, pTruth, pLen, hl, pLe, q1, h1, q2, h2, pIn2, pIn, D.sc?, scL, ni, hI, D.isOwn, calm, z3]
        | false => simp only [B__law_called, S__law_called, i1, isK, tyP, pTruth, pLen, hl, pLe, q1, h1, q2, h2, pIn2, pIn, D.sc?, scL, ni, hI, D.isOwn, calm, z3]; simp [i1, isK, tyP, pTruth, pLen, hl, pLe, q1, h1, q2, h2, pIn2, pIn, D.sc?, scL, ni, hI, il, pIter, pwipe, D.list?, D.isOwn, calm, z3]; rw [cp]; simp [fe, D.isOwn]
  · have e := strNo fun s e => hd ⟨s, e⟩
    have n : nameB d = false := by
      cases d <;> first | rfl | exact absurd ⟨_, rfl⟩ hd
    simp [B__law_called, S__law_called, i1, e, pTruth, n, D.isOwn]
def Wd (d : D) (c : Bool) : Prop := B_is_worth.p [d] = .ret (.ok (.bl c)) ∧ (B__law_worthy 12).p [d, .int 4] = .ret (.ok (.bl c))
def wsts : List D := [.non, .int 5, .int (-1000000000), .str "a b", .tup [.str "thing", .int 999], .tup [.str "row", .tup [.tup [.str "row", .tup []], .int 7]]]
def bad1 : List D := [.int 1000000001, .bl true, .lst none [.int 1], .tup [.str "row", .int 5], .tup [.str "row", .tup [.bl true]]]
def deep5 : D := .tup [.str "row", .tup [.tup [.str "row", .tup [.tup [.str "row", .tup [.tup [.str "row", .tup [.tup [.str "row", .tup []]]]]]]]]]
theorem wd_yes : ∀ d ∈ wsts, Wd d true := by
  simp only [wsts, List.forall_mem_cons, List.not_mem_nil, false_implies, implies_true, and_true]
  exact ⟨⟨rfl, rfl⟩, ⟨rfl, rfl⟩, ⟨rfl, rfl⟩, ⟨rfl, rfl⟩, ⟨rfl, rfl⟩, ⟨rfl, rfl⟩⟩
theorem wd_no : ∀ d ∈ bad1, Wd d false := by
  simp only [bad1, List.forall_mem_cons, List.not_mem_nil, false_implies, implies_true, and_true]
  exact ⟨⟨rfl, rfl⟩, ⟨rfl, rfl⟩, ⟨rfl, rfl⟩, ⟨rfl, rfl⟩, ⟨rfl, rfl⟩⟩
theorem wd_deep : Wd deep5 false := ⟨rfl, rfl⟩
end K

set_option Elab.async false
set_option linter.all false
set_option maxRecDepth 100000
set_option maxHeartbeats 4000000
namespace K
open PySem L2 EX PL
/-- an item of a rule -/
structure It (d : D) : Prop where
  dt : Dt d = true
  sh : Short d
  no : d.isOwn = false
noncomputable def isW (d : D) : Bool := match B_is_worth.p [d] with
  | .ret (.ok (.bl true)) => true
  | _ => false
theorem isW_of {d : D} {c : Bool} (h : Wd d c) : isW d = c := by unfold isW; rw [h.1]; cases c <;> rfl
def sizeW (w : Str) : Option Nat := if w = "hide" then some 2 else if w = "bar" then some 2 else if w = "as" then some 3 else if w = "give" then some 3 else if w = "count" then some 2 else none
noncomputable def ruleB : D → Bool
  | .tup [.str w, a] => decide (sizeW w = some 2) && nameB a
  | .tup [.str w, a, b] => decide (sizeW w = some 3) && (nameB a && (if w = "as" then nameB b else isW b))
  | _ => false
theorem size3 {w : Str} (h : sizeW w = some 3) : w = "as" ∨ w = "give" := by
  unfold sizeW at h
  split at h
  · cases h
  split at h
  · cases h
  split at h
  · rename_i e; exact .inl e
  split at h
  · rename_i e; exact .inr e
  split at h
  · cases h
  cases h
theorem size23 {w : Str} {n : Nat} (h : sizeW w = some n) : n = 2 ∨ n = 3 := by
  unfold sizeW at h
  split at h
  · cases h; exact .inl rfl
  split at h
  · cases h; exact .inl rfl
  split at h
  · cases h; exact .inr rfl
  split at h
  · cases h; exact .inr rfl
  split at h
  · cases h; exact .inl rfl
  cases h
structure RD (r : D) : Prop where
  dt : Dt r = true
  no : r.isOwn = false
  len : ∀ xs, r = .tup xs → xs.length < sizeLine
  fst : ∀ x xs, r = .tup (x :: xs) → Dt x = true ∧ x.isOwn = false
  its : ∀ w xs, r = .tup (.str w :: xs) → ∀ x ∈ xs, It x
  wor : ∀ a b, r = .tup [.str "give", a, b] → ∃ c, Wd b c
theorem look (w : Str) : t_LENGTHS.lookup w = (sizeW w).map fun n => Val.int n := by
  unfold sizeW
  by_cases h1 : w = "hide"
  · subst h1; rfl
  by_cases h2 : w = "bar"
  · subst h2; rfl
  by_cases h3 : w = "as"
  · subst h3; rfl
  by_cases h4 : w = "give"
  · subst h4; rfl
  by_cases h5 : w = "count"
  · subst h5; rfl
  simp [t_LENGTHS, List.lookup, h1, h2, h3, h4, h5, beq_false_of_ne h1, beq_false_of_ne h2, beq_false_of_ne h3, beq_false_of_ne h4, beq_false_of_ne h5]
theorem in_len (w : Str) : pIn2 gt (.str w) (.ref "LENGTHS") = some (sizeW w).isSome := by
  have : gt.lookup (Str.ofString "LENGTHS") = some t_LENGTHS := rfl
  simp only [pIn2, this, look]
  cases sizeW w <;> rfl
theorem ix_len (w : Str) : pIx2 gt (.ref "LENGTHS") (.str w) = (sizeW w).map fun n => D.int n := by
  have : gt.lookup (Str.ofString "LENGTHS") = some t_LENGTHS := rfl
  simp only [pIx2, this, look]
  cases sizeW w <;> rfl
theorem z1 : 1 < sizeLine := by decide
theorem z2 : 2 < sizeLine := by decide
theorem rule_p {r : D} (h : RD r) : B_is_rule.p [r] = .ret (.ok (.bl (ruleB r))) := by
  have i1 := isi_p h.dt "tuple"
  have no := h.no
  by_cases hd : ∃ xs, r = .tup xs
  · obtain ⟨xs, rfl⟩ := hd
    have hl := h.len xs rfl
    cases xs with
    | nil => simp [B_is_rule, S_is_rule, i1, isK, tyP, pTruth, ruleB]
    | cons x xs =>
      obtain ⟨dx, nx⟩ := h.fst x xs rfl
      have i2 := isi_p dx "str"
      have l0 : decide (((xs.length : Int) + 1) = 0) = false := by rw [decide_eq_false_iff_not]; omega
      by_cases hx : ∃ w, x = .str w
      · obtain ⟨w, rfl⟩ := hx
        have its := h.its w xs rfl
        have hl2 : xs.length < sizeLine := by rw [List.length_cons] at hl; omega
        cases hs : sizeW w with
        | none =>
          have rb : ruleB (.tup (.str w :: xs)) = false := by
            match xs with
            | [] => rfl
            | [a] => simp [ruleB, hs]
            | [a, b] => simp [ruleB, hs]
            | _ :: _ :: _ :: _ => rfl
          simp [B_is_rule, S_is_rule, i1, i2, isK, tyP, l0, hl2, in_len, hs, rb]
        | some n =>
          have lw : ∀ m : Nat, pvEq (.int ((xs.length : Int) + 1)) (.int m) = some (decide (xs.length + 1 = m)) := fun m => by
            rw [ne_int]; congr 1; congr 1; exact propext (by omega)
          by_cases hn : xs.length + 1 = n
          · match xs, its with
            | [], _ => 
              have := size23 hs; simp at hn; omega
            | [a], its =>
              have n2 : n = 2 := by simpa using hn.symm
              subst n2
              have ia := its a (.head _)
              have na := name_p ia.dt ia.sh
              have w1 : w ≠ "as" := fun e => by subst e; cases hs
              have w2 : w ≠ "give" := fun e => by subst e; cases hs
              have noa := ia.no
              cases hna : nameB a <;> simp [B_is_rule, S_is_rule, i1, i2, isK, tyP, in_len, hs, ix_len, noa, na, hna, ruleB, w1, w2, z1]
            | [a, b], its =>
              have n2 : n = 3 := by simpa using hn.symm
              subst n2
              have ia := its a (.head _)
              have na := name_p ia.dt ia.sh
              have ib := its b (.tail _ (.head _))
              have nb := name_p ib.dt ib.sh
              have noa := ia.no
              have no' := ib.no
              by_cases w1 : w = "as"
              · subst w1
                cases hna : nameB a <;> simp [B_is_rule, S_is_rule, i1, i2, isK, tyP, in_len, hs, ix_len, noa, no', na, nb, hna, ruleB, z2]
              · have w2 : w = "give" := (size3 hs).resolve_left w1
                subst w2
                obtain ⟨c, hc⟩ := h.wor a b rfl
                have e1 := isW_of hc
                have e2 := hc.1
                cases hna : nameB a <;> simp [B_is_rule, S_is_rule, i1, i2, isK, tyP, in_len, hs, ix_len, noa, no', na, nb, hna, ruleB, z2, w1, e1, e2]
            | _ :: _ :: _ :: _, _ =>
              have := size23 hs; simp at hn; omega
          · have rb : ruleB (.tup (.str w :: xs)) = false := by
              match xs, hn with
              | [], _ => rfl
              | [a], hn => 
                have : ¬ n = 2 := fun e => hn (by subst e; rfl)
                simp [ruleB, hs, this]
              | [a, b], hn => 
                have : ¬ n = 3 := fun e => hn (by subst e; rfl)
                simp [ruleB, hs, this]
              | _ :: _ :: _ :: _, _ => rfl
            have hn' : ¬ ((xs.length : Int) + 1 = n) := by omega
            simp [B_is_rule, S_is_rule, i1, i2, isK, tyP, l0, hl2, in_len, hs, ix_len, hn', rb]
      · have e := strNo fun s e => hx ⟨s, e⟩
        have rb : ruleB (.tup (x :: xs)) = false := by
          cases x <;> first | exact absurd ⟨_, rfl⟩ hx | (match xs with | [] => rfl | [a] => rfl | [a, b] => rfl | _ :: _ :: _ :: _ => rfl)
        rw [e] at i2
        have i1' : pIsi (.tup (x :: xs)) "tuple" = some true := i1
        simp [B_is_rule, S_is_rule, i1', i2, l0, nx, rb]
  · have e := tupNo fun s e => hd ⟨s, e⟩
    have rb : ruleB r = false := by
      cases r <;> first | exact absurd ⟨_, rfl⟩ hd | rfl
    rw [e] at i1
    simp [B_is_rule, S_is_rule, i1, rb]
def sizesK : List (Key × D) := [(.inr "hide", .int 2), (.inr "bar", .int 2), (.inr "as", .int 3), (.inr "give", .int 3), (.inr "count", .int 2)]
theorem dk : keysP [(.str "hide", .int 2), (.str "bar", .int 2), (.str "as", .int 3), (.str "give", .int 3), (.str "count", .int 2)] = some sizesK := rfl
theorem dm : mergeP [] sizesK = sizesK := rfl
theorem dl : sizesK.length ≤ 15 := by decide
theorem val_siz (w : Str) : valP sizesK (.inr w) = (sizeW w).map fun n => D.int n := by
  unfold sizeW
  by_cases h1 : w = "hide"
  · subst h1; rfl
  by_cases h2 : w = "bar"
  · subst h2; rfl
  by_cases h3 : w = "as"
  · subst h3; rfl
  by_cases h4 : w = "give"
  · subst h4; rfl
  by_cases h5 : w = "count"
  · subst h5; rfl
  have k : ∀ {a : Str}, ¬ w = a → decide (a = w) = false := fun {a} h => by rw [decide_eq_false_iff_not]; intro e; exact h e.symm
  simp [sizesK, valP, List.find?, h1, h2, h3, h4, h5, k h1, k h2, k h3, k h4, k h5]
theorem in_siz (w : Str) : pIn2 gt (.str w) (.dct none sizesK) = some (sizeW w).isSome := by
  have : keyP (.str w) = some (.inr w) := rfl
  simp only [pIn2, this, val_siz]
  cases sizeW w <;> rfl
theorem ix_siz (w : Str) : pIx2 gt (.dct none sizesK) (.str w) = (sizeW w).map fun n => D.int n := by
  have : keyP (.str w) = some (.inr w) := rfl
  simp only [pIx2, this, val_siz]
@[simp] theorem own_dct {t : Option Nat} {k : List (Key × D)} : (D.dct t k).isOwn = false := rfl
theorem rgood_p {r : D} (h : RD r) : B__law_rule_good.p [r] = .ret (.ok (.bl (ruleB r))) := by
  have i1 := isi_p h.dt "tuple"
  have no := h.no
  by_cases hd : ∃ xs, r = .tup xs
  · obtain ⟨xs, rfl⟩ := hd
    have hl := h.len xs rfl
    cases xs with
    | nil => simp [B__law_rule_good, S__law_rule_good, i1, isK, tyP, pTruth, dk, dm, dl, ruleB]
    | cons x xs =>
      obtain ⟨dx, nx⟩ := h.fst x xs rfl
      have i2 := isi_p dx "str"
      have l0 : decide (((xs.length : Int) + 1) = 0) = false := by rw [decide_eq_false_iff_not]; omega
      by_cases hx : ∃ w, x = .str w
      · obtain ⟨w, rfl⟩ := hx
        have its := h.its w xs rfl
        have hl2 : xs.length < sizeLine := by rw [List.length_cons] at hl; omega
        cases hs : sizeW w with
        | none =>
          have rb : ruleB (.tup (.str w :: xs)) = false := by
            match xs with
            | [] => rfl
            | [a] => simp [ruleB, hs]
            | [a, b] => simp [ruleB, hs]
            | _ :: _ :: _ :: _ => rfl
          simp [B__law_rule_good, S__law_rule_good, i1, i2, isK, tyP, dk, dm, dl, l0, hl2, dk, dm, dl, in_siz, hs, rb]
        | some n =>
          have lw : ∀ m : Nat, pvEq (.int ((xs.length : Int) + 1)) (.int m) = some (decide (xs.length + 1 = m)) := fun m => by
            rw [ne_int]; congr 1; congr 1; exact propext (by omega)
          by_cases hn : xs.length + 1 = n
          · match xs, its with
            | [], _ => 
              have := size23 hs; simp at hn; omega
            | [a], its =>
              have n2 : n = 2 := by simpa using hn.symm
              subst n2
              have ia := its a (.head _)
              have na := called_p ia.dt ia.sh
              have w1 : w ≠ "as" := fun e => by subst e; cases hs
              have w2 : w ≠ "give" := fun e => by subst e; cases hs
              have noa := ia.no
              cases hna : nameB a <;> simp [B__law_rule_good, S__law_rule_good, i1, i2, isK, tyP, dk, dm, dl, in_siz, hs, ix_siz, noa, na, hna, ruleB, w1, w2, z1]
            | [a, b], its =>
              have n2 : n = 3 := by simpa using hn.symm
              subst n2
              have ia := its a (.head _)
              have na := called_p ia.dt ia.sh
              have ib := its b (.tail _ (.head _))
              have nb := called_p ib.dt ib.sh
              have noa := ia.no
              have no' := ib.no
              by_cases w1 : w = "as"
              · subst w1
                cases hna : nameB a <;> simp [B__law_rule_good, S__law_rule_good, i1, i2, isK, tyP, dk, dm, dl, in_siz, hs, ix_siz, noa, no', na, nb, hna, ruleB, z2]
              · have w2 : w = "give" := (size3 hs).resolve_left w1
                subst w2
                obtain ⟨c, hc⟩ := h.wor a b rfl
                have e1 := isW_of hc
                have e2 := hc.2
                cases hna : nameB a <;> simp [B__law_rule_good, S__law_rule_good, i1, i2, isK, tyP, dk, dm, dl, in_siz, hs, ix_siz, noa, no', na, nb, hna, ruleB, z2, w1, e1, e2]
            | _ :: _ :: _ :: _, _ =>
              have := size23 hs; simp at hn; omega
          · have rb : ruleB (.tup (.str w :: xs)) = false := by
              match xs, hn with
              | [], _ => rfl
              | [a], hn => 
                have : ¬ n = 2 := fun e => hn (by subst e; rfl)
                simp [ruleB, hs, this]
              | [a, b], hn => 
                have : ¬ n = 3 := fun e => hn (by subst e; rfl)
                simp [ruleB, hs, this]
              | _ :: _ :: _ :: _, _ => rfl
            have hn' : ¬ ((xs.length : Int) + 1 = n) := by omega
            simp [B__law_rule_good, S__law_rule_good, i1, i2, isK, tyP, dk, dm, dl, l0, hl2, dk, dm, dl, in_siz, hs, ix_siz, hn', rb]
      · have e := strNo fun s e => hx ⟨s, e⟩
        have rb : ruleB (.tup (x :: xs)) = false := by
          cases x <;> first | exact absurd ⟨_, rfl⟩ hx | (match xs with | [] => rfl | [a] => rfl | [a, b] => rfl | _ :: _ :: _ :: _ => rfl)
        rw [e] at i2
        have i1' : pIsi (.tup (x :: xs)) "tuple" = some true := i1
        simp [B__law_rule_good, S__law_rule_good, i1', i2, dk, dm, dl, l0, nx, rb]
  · have e := tupNo fun s e => hd ⟨s, e⟩
    have rb : ruleB r = false := by
      cases r <;> first | exact absurd ⟨_, rfl⟩ hd | rfl
    rw [e] at i1
    simp [B__law_rule_good, S__law_rule_good, dk, dm, dl, i1, rb]
end K

set_option Elab.async false
set_option linter.all false
set_option maxRecDepth 100000
set_option maxHeartbeats 4000000
namespace K
open PySem L2 EX PL
def rW : D → Str
  | .tup (.str w :: _) => w
  | _ => ""
def rN : D → Str
  | .tup (_ :: .str n :: _) => n
  | _ => ""
theorem rule_shape {r : D} (h : ruleB r = true) : ∃ w n rest, r = .tup (.str w :: .str n :: rest) := by
  unfold ruleB at h
  split at h
  · rename_i w a
    simp only [Bool.and_eq_true] at h
    have := h.2
    unfold nameB at this
    split at this
    · exact ⟨_, _, _, rfl⟩
    · cases this
  · rename_i w a b
    simp only [Bool.and_eq_true] at h
    have := h.2.1
    unfold nameB at this
    split at this
    · exact ⟨_, _, _, rfl⟩
    · cases this
  · cases h
def led (xs : List D) : List Str := (xs.filter fun r => !decide (rW r = "count")).map rN
def cnt (xs : List D) : List Str := (xs.filter fun r => decide (rW r = "count")).map rN
def dist (l : List Str) : Bool := decide (((metK (l.map Sum.inr)).length : Int) = (l.length : Int))
noncomputable def rulesB : D → Bool
  | .tup xs => decide (xs.length ≤ 8) && (xs.all ruleB && (dist (led xs) && dist (cnt xs)))
  | _ => false
theorem comp_led {a b c : Option D} {xs : List D} (h : xs.all ruleB = true) : pcomp (.name 3) ((bTest (bBin ONe (bBin (OIx2 gt) (bVar 3) (bC (.int 0))) (bC (.str "count")))).p ("", [])) ((bBin (OIx2 gt) (bVar 3) (bC (.int 1))).p ("", [])) [a, b, c, none] xs = .ret (.ok ((led xs).map D.str)) := by
  rw [pcomp_pure (fun r => !decide (rW r = "count")) (fun r => .str (rN r)) xs fun r m => ?_]
  · rw [led, List.map_map]; rfl
  · obtain ⟨w, n, rest, rfl⟩ := rule_shape (List.all_eq_true.mp h r m)
    exact ⟨_, rfl, by simp [rW]; exact decide_eq_decide.mpr Iff.rfl, fun _ => ⟨by simp [rN], rfl⟩⟩
theorem comp_cnt {a b c : Option D} {xs : List D} (h : xs.all ruleB = true) : pcomp (.name 3) ((bTest (bBin OEq (bBin (OIx2 gt) (bVar 3) (bC (.int 0))) (bC (.str "count")))).p ("", [])) ((bBin (OIx2 gt) (bVar 3) (bC (.int 1))).p ("", [])) [a, b, c, none] xs = .ret (.ok ((cnt xs).map D.str)) := by
  rw [pcomp_pure (fun r => decide (rW r = "count")) (fun r => .str (rN r)) xs fun r m => ?_]
  · rw [cnt, List.map_map]; rfl
  · obtain ⟨w, n, rest, rfl⟩ := rule_shape (List.all_eq_true.mp h r m)
    exact ⟨_, rfl, by simp [rW]; exact decide_eq_decide.mpr Iff.rfl, fun _ => ⟨by simp [rN], rfl⟩⟩
theorem keys_str : ∀ l : List Str, keysD (l.map D.str) = some (l.map Sum.inr)
  | [] => rfl
  | s :: l => by rw [List.map_cons, keysD, keys_str l]; rfl
theorem lenset {l : List Str} (h : l.length ≤ 1000) : pLenSet (.lst none (l.map D.str)) = some (.int (metK (l.map Sum.inr)).length) := by
  simp only [pLenSet, list_lst, keys_str, List.length_map, if_pos h]
theorem led_len (xs : List D) : (led xs).length ≤ xs.length := by rw [led, List.length_map]; exact List.length_filter_le _ _
theorem cnt_len (xs : List D) : (cnt xs).length ≤ xs.length := by rw [cnt, List.length_map]; exact List.length_filter_le _ _
structure TD (d : D) : Prop where
  dt : Dt d = true
  no : d.isOwn = false
  len : ∀ xs, d = .tup xs → xs.length ≤ 60
  rd : ∀ xs, d = .tup xs → ∀ r ∈ xs, RD r
  tm : ∀ xs, d = .tup xs → ∀ r ∈ xs, Tame 25 300000 r
theorem z60 : 60 ≤ sizeLine := by decide
theorem rules_p {d : D} (h : TD d) : B_are_rules.p [d] = .ret (.ok (.bl (rulesB d))) := by
  have i1 := isi_p h.dt "tuple"
  by_cases hd : ∃ xs, d = .tup xs
  · obtain ⟨xs, rfl⟩ := hd
    have i1' : pIsi (.tup xs) "tuple" = some true := i1
    have hl := h.len xs rfl
    have hr := h.rd xs rfl
    have hz : xs.length ≤ sizeLine := Nat.le_trans hl z60
    have rb : rulesB (.tup xs) = (decide (xs.length ≤ 8) && (xs.all ruleB && (dist (led xs) && dist (cnt xs)))) := rfl
    rw [rb]
    by_cases h8 : xs.length ≤ 8
    · have h8' : ¬ ((8 : Int) < xs.length) := by omega
      have ca := pcomp_pure (t := .name 3) (tt := bYes.p ("", [])) (x := (bCall 1 B_is_rule (bCons (bVar 3) bNil)).p ("", [])) (p := [some (.tup xs), none, none, none]) (fun _ => true) (fun r => .bl (ruleB r)) xs fun r m => ⟨_, rfl, rfl, fun _ => ⟨by simp [rule_p (hr r m), (hr r m).no], rfl⟩⟩
      rw [List.filter_eq_self.mpr fun _ _ => rfl] at ca
      have e1 : (xs.map ruleB).all id = xs.all ruleB := by rw [List.all_map]; rfl
      cases ha : xs.all ruleB with
      | false =>
        simp [B_are_rules, S_are_rules, i1', h8', h8, hz, ca, pwipe, bools_map, e1, ha]
      | true =>
        have hle : (led xs).length ≤ 1000 := by have := led_len xs; omega
        have hce : (cnt xs).length ≤ 1000 := by have := cnt_len xs; omega
        have d1 : decide (((metK ((led xs).map Sum.inr)).length : Int) = ((led xs).length : Int)) = dist (led xs) := rfl
        have d2 : decide (((metK ((cnt xs).map Sum.inr)).length : Int) = ((cnt xs).length : Int)) = dist (cnt xs) := rfl
        simp [B_are_rules, S_are_rules, i1', h8', h8, hz, ca, pwipe, bools_map, e1, ha, comp_led ha, comp_cnt ha, lenset hle, lenset hce]
        simp only [d1, d2]
        cases dist (led xs) <;> simp
    · have h8' : ((8 : Int) < xs.length) := by omega
      simp [B_are_rules, S_are_rules, i1', h8', h8]
  · have e := tupNo fun s e => hd ⟨s, e⟩
    rw [e] at i1
    have rb : rulesB d = false := by
      cases d <;> first | exact absurd ⟨_, rfl⟩ hd | rfl
    simp [B_are_rules, S_are_rules, i1, rb]
theorem good_p {d : D} (h : TD d) : B__law_good.p [d] = .ret (.ok (.bl (rulesB d))) := by
  have i1 := isi_p h.dt "tuple"
  by_cases hd : ∃ xs, d = .tup xs
  · obtain ⟨xs, rfl⟩ := hd
    have i1' : pIsi (.tup xs) "tuple" = some true := i1
    have hl := h.len xs rfl
    have hr := h.rd xs rfl
    have ht := h.tm xs rfl
    have hz : xs.length ≤ sizeLine := Nat.le_trans hl z60
    have rb : rulesB (.tup xs) = (decide (xs.length ≤ 8) && (xs.all ruleB && (dist (led xs) && dist (cnt xs)))) := rfl
    rw [rb]
    by_cases h8 : xs.length ≤ 8
    · have h8' : ¬ ((8 : Int) < xs.length) := by omega
      have ca := pcomp_pure (t := .name 3) (tt := (bNotT (bTru (bCall 1 B__law_rule_good (bCons (bVar 3) bNil)))).p ("", [])) (x := (bVar 3).p ("", [])) (p := [some (.tup xs), none, none, none]) (fun r => !ruleB r) (fun r => r) xs fun r m => ⟨_, rfl, by simp [rgood_p (hr r m), (hr r m).no], fun _ => ⟨by simp, (hr r m).no⟩⟩
      rw [List.map_id'] at ca
      have ne : pvEq (.lst none (xs.filter fun r => !ruleB r)) (.lst none []) = some (xs.all ruleB) := by
        rw [ne_nil (fun d m => ht d (List.mem_filter.mp m).1) (by decide), filter_nil]
      cases ha : xs.all ruleB with
      | false =>
        rw [ha] at ne
        simp [B__law_good, S__law_good, i1', h8', h8, hz, ca, pwipe, ne]
      | true =>
        rw [ha] at ne
        have hle : (led xs).length ≤ 1000 := by have := led_len xs; omega
        have hce : (cnt xs).length ≤ 1000 := by have := cnt_len xs; omega
        have d1 : decide (((metK ((led xs).map Sum.inr)).length : Int) = ((led xs).length : Int)) = dist (led xs) := rfl
        have d2 : decide (((metK ((cnt xs).map Sum.inr)).length : Int) = ((cnt xs).length : Int)) = dist (cnt xs) := rfl
        simp [B__law_good, S__law_good, i1', h8', h8, hz, ca, pwipe, ne, comp_led ha, comp_cnt ha, lenset hle, lenset hce]
        simp only [d1, d2]
        cases dist (led xs) <;> simp
    · have h8' : ((8 : Int) < xs.length) := by omega
      simp [B__law_good, S__law_good, i1', h8', h8]
  · have e := tupNo fun s e => hd ⟨s, e⟩
    rw [e] at i1
    have rb : rulesB d = false := by
      cases d <;> first | exact absurd ⟨_, rfl⟩ hd | rfl
    simp [B__law_good, S__law_good, i1, rb]
end K

set_option Elab.async false
set_option linter.all false
set_option maxRecDepth 100000
set_option maxHeartbeats 4000000
namespace K
open PySem L2 EX PL
@[simp] theorem take_p {m : Int} : B__law_take.p [.box, .int m] = .draw m fun r => .ret (.ok (.int r)) := rfl
def words : List D := [.str "get", .str "call", .str "let", .str "deed", .str "kind", .str "row", .str "wants", .str "end", .str "if", .str "done", .str "as", .str "hide"]
theorem words_ok : ∀ w ∈ words, nameB w = true := by decide +kernel
def PoolP (o : Ot D) : Prop := ∃ ns : List D, o = .ok (.lst none ns) ∧ ns.length = 9 ∧ ∀ s ∈ ns, nameB s = true
def Lt (n : Nat) (s : Str) : Prop := s.length ≤ n ∧ ∀ c ∈ sg s, c ∈ letters
theorem Lt.app {n m : Nat} {x y : Str} (a : Lt n x) (b : Lt m y) : Lt (n + m) (x ++ y) := ⟨by rw [len_app]; exact Nat.add_le_add a.1 b.1, fun c mc => by rw [sg_app] at mc; exact (List.mem_append.mp mc).elim (a.2 c) (b.2 c)⟩
theorem Lt.le {n m : Nat} {x : Str} (a : Lt n x) (h : n ≤ m) : Lt m x := ⟨Nat.le_trans a.1 h, a.2⟩
def PoolI (way fst j : Int) (st : D) (an : Nat) (hd tl : Str) (k : Nat) (p : PEn) : Prop := ∃ ns x y, p = [some D.box, some (D.int 9), some (D.str (Str.ofString "abcdefghijklmnopqrstuvwxyz")), some (D.int way),
  some (D.int fst), some (D.int j), none, some st, some (D.int an), some (D.str hd), some (D.str tl), some (D.own ns), x, y] ∧ ns.length = k ∧ ∀ s ∈ ns, nameB s = true
theorem mul2 {c k : Nat} (h : c ∈ letters) : ∃ z, pMul (sgD c) (.int ((k : Int) % 2)) = some (.str z) ∧ Lt 1 z := by
  have : (k : Int) % 2 = 0 ∨ (k : Int) % 2 = 1 := by omega
  rcases this with e | e
  · rw [e]; exact ⟨_, mul_0 _, by decide, fun x m => by simp [sg, Str.empty] at m⟩
  · rw [e]; exact ⟨_, mul_1 _, Nat.le_refl 1, fun x m => by simp [sg] at m; subst m; exact h⟩
theorem in_no (s : Str) : pIn2 gt (.str s) (.tup [.str "me", .str "here", .str "none"]) = some (inX (.str s) noNames) := rfl
theorem in_cases {s : Str} (h : inX (.str s) noNames = true) : s = "me" ∨ s = "here" ∨ s = "none" := by
  simp [inX, noNames, eqX] at h
  rcases h with h | h | h
  · exact .inl h.symm
  · exact .inr (.inl h.symm)
  · exact .inr (.inr h.symm)
theorem fix_name {s : Str} (l1 : Lt 8 s) (l2 : 1 ≤ s.length) : ∃ d, nameB d = true ∧ d.isOwn = false ∧ (if inX (.str s) noNames = true then OAddX.p (.str (Str.ofString "x")) (.str s) else some (.str s)) = some d := by
  by_cases h : inX (.str s) noNames = true
  · rw [if_pos h]
    rcases in_cases h with rfl | rfl | rfl
    · exact ⟨_, by decide +kernel, rfl, rfl⟩
    · exact ⟨_, by decide +kernel, rfl, rfl⟩
    · exact ⟨_, by decide +kernel, rfl, rfl⟩
  · rw [if_neg h]
    refine ⟨_, ?_, rfl, rfl⟩
    have h' : inX (.str s) noNames = false := by simpa using h
    simp only [nameB, h', Bool.not_false, Bool.true_and, Bool.and_eq_true, decide_eq_true_eq, List.all_eq_true]
    exact ⟨l2, l1.1, l1.2⟩
theorem pool_u : Uses (B__law_pool.p [.box, .int 9]) 20 PoolP := by
  simp [B__law_pool, S__law_pool, sizeLine_eq]
  refine Uses.draw (by decide) (by decide) fun way a0 a1 => ?_
  refine Uses.draw (by decide) (by decide) fun fst b0 b1 => ?_
  refine Uses.draw (by decide) (by decide) fun stp c0 c1 => ?_
  obtain ⟨x, mx, e⟩ := pick (G := gt) (t := none) (xs := [.int 1, .int 5, .int 7, .int 11]) c0 c1
  have mx : ∃ j : Int, (0 ≤ j ∧ j < 12) ∧ x = .int j := by
    simp at mx
    rcases mx with rfl | rfl | rfl | rfl <;> exact ⟨_, by decide, rfl⟩
  obtain ⟨j, hj, rfl⟩ := mx
  simp [e]
  by_cases hw : way = 0
  · subst hw
    simp
    simp only [PL.afterE, pSeq, M.bind, M.bindS, Dr.bind_assoc]
    refine Uses.hop 0 (Uses.comp (n := 0) (P := fun y => nameB y = true) (fun _ => rfl) _ fun d md => ?_) (by simp) ?_
    · obtain ⟨i, hi, rfl⟩ := mem_rng md
      have m0 : -(2 ^ 64) < j ∧ j < 2 ^ 64 := by omega
      have h0 : 0 ≤ (fst + j * (0 + (i : Int))) % 12 := Int.emod_nonneg _ (by decide)
      have h1 : (fst + j * (0 + (i : Int))) % 12 < 12 := Int.emod_lt_of_pos _ (by decide)
      obtain ⟨w, mw, e⟩ := pick (G := gt) (t := none) (xs := words) h0 h1
      have nw := words_ok w mw
      simp only [words] at e
      simp [pwipe, mul_int m0] at e ⊢
      rw [e]
      have nw' : w.isOwn = false := by cases w <;> first | rfl | cases nw
      exact Uses.ret ⟨w, rfl, nw', nw⟩
    · rintro o ⟨ys, rfl, hl, hy⟩
      simp
      exact Uses.ret ⟨ys, rfl, by simpa using hl, hy⟩
  · simp [hw]
    refine Uses.draw (by decide) (by decide) fun sl s0 s1 => ?_
    have q1 : -4611686018427387904 ≤ sl ∧ sl < 4611686018427387904 := by omega
    have q2 : sl.toNat ≤ 16777216 := by omega
    simp only [if_pos q1, M.bind_ok, rng_len, if_pos q2, PL.afterE, pSeq, M.bind, M.bindS, Dr.bind_assoc, Dr.bind_ret]
    refine Uses.hop 8 (Uses.comp (n := 1) (P := fun y => ∃ c ∈ letters, y = sgD c) (fun _ => rfl) _ fun d md => ?_) (by simp; omega) ?_
    · simp [pwipe]
      refine Uses.draw (by decide) (by decide) fun r h0 h1 => ?_
      obtain ⟨c, mc, e⟩ := str_at (G := gt) (s := "abcdefghijklmnopqrstuvwxyz") h0 h1 (by decide)
      rw [e]
      exact Uses.ret ⟨_, rfl, rfl, c, mc, rfl⟩
    · rintro o ⟨ys, rfl, hl, hy⟩
      have hl' : ys.length = sl.toNat := by simpa using hl
      obtain ⟨ss, rfl, hs⟩ := strs_of (P := fun s => s.length = 1 ∧ ∀ c ∈ sg s, c ∈ letters) ys fun y m => by
        obtain ⟨c, mc, rfl⟩ := hy y m
        exact ⟨_, rfl, rfl, fun c' m' => by simp [sg] at m'; subst m'; exact mc⟩
      rw [List.length_map] at hl'
      have pt : pTy "str" (D.str (Str.ofString "")) = true := rfl
      simp [pt, slx_lst, map_cutX]
      refine Uses.draw (by omega) (by omega) fun at_ t0 t1 => ?_
      obtain ⟨an, rfl⟩ := Int.eq_ofNat_of_zero_le t0
      have an1 : an ≤ ss.length := by omega
      rw [cut_lo an1, cut_hi an1]
      obtain ⟨l1, g1⟩ := ones (ss := ss.take an) (fun s m => (hs s (List.mem_of_mem_take m)))
      obtain ⟨l2, g2⟩ := ones (ss := ss.drop an) (fun s m => (hs s (List.mem_of_mem_drop m)))
      have j1 := join_p (t := none) (ss := ss.take an) (by rw [ones_sum fun s m => (hs s (List.mem_of_mem_take m)).1, List.length_take]; omega)
      have j2 := join_p (t := none) (ss := ss.drop an) (by rw [ones_sum fun s m => (hs s (List.mem_of_mem_drop m)).1, List.length_drop]; omega)
      rw [List.map_take] at j1
      rw [List.map_drop] at j2
      simp [j1, j2, pPar]
      generalize Txt.join "" (ss.take an) = hd at *
      generalize Txt.join "" (ss.drop an) = tl at *
      rw [List.length_take] at l1
      rw [List.length_drop] at l2
      simp only [Dr.bind_assoc]
      refine Uses.hop 0 (Uses.for (n := 0) (I := PoolI way fst j (.lst none (ss.map .str)) an hd tl) (rng 0 9) 0 _ ⟨[], none, none, rfl, rfl, fun _ m => nomatch m⟩ fun k d p hd' i => ?_) (by simp) ?_
      · obtain ⟨ns, x, y, rfl, nl, nn⟩ := i
        obtain ⟨hk, rfl⟩ := rng_get hd'
        refine ⟨_, rfl, ?_⟩
        have m0 : -(2 ^ 64) < j ∧ j < 2 ^ 64 := by omega
        obtain ⟨c, mc, e1⟩ := str_at (G := gt) (s := "abcdefghijklmnopqrstuvwxyz") (r := (fst + j * (k : Int)) % 26) (Int.emod_nonneg _ (by decide)) (Int.emod_lt_of_pos _ (by decide)) (by decide)
        obtain ⟨c2, mc2, e2⟩ := str_at (G := gt) (s := "abcdefghijklmnopqrstuvwxyz") (r := fst) b0 b1 (by decide)
        have ad1 : OAddX.p (.str hd) (sgD c) = some (.str (hd ++ ⟨#[c]⟩)) := add_str (by rw [sizeLine_eq]; show _ + 1 ≤ _; omega)
        have ad2 : OAddX.p (.str (hd ++ ⟨#[c]⟩)) (.str tl) = some (.str (hd ++ ⟨#[c]⟩ ++ tl)) := add_str (by rw [sizeLine_eq, len_app]; show _ + 1 + _ ≤ _; omega)
        have n1 : Lt 7 (hd ++ ⟨#[c]⟩ ++ tl) := by
          constructor
          · rw [len_app, len_app]; show _ + 1 + _ ≤ 7; omega
          · intro x m
            rw [sg_app, sg_app] at m
            rcases List.mem_append.mp m with m | m
            · rcases List.mem_append.mp m with m | m
              · exact g1 x m
              · simp [sg] at m; subst m; exact mc
            · exact g2 x m
        have n1' : 1 ≤ (hd ++ ⟨#[c]⟩ ++ tl).length := by rw [len_app, len_app]; show 1 ≤ _ + 1 + _; omega
        generalize hd ++ ⟨#[c]⟩ ++ tl = nm at ad2 n1 n1'
        obtain ⟨z, ez, lz⟩ := mul2 (c := c2) (k := k) mc2
        have lz1 := lz.1
        have ln1 := n1.1
        have ad3 : OAddX.p (.str nm) (.str z) = some (.str (nm ++ z)) := add_str (by rw [sizeLine_eq]; omega)
        have key : ∀ s : Str, Lt 8 s → 1 ≤ s.length → ∃ d, nameB d = true ∧ d.isOwn = false ∧ (if inX (.str s) noNames = true then OAddX.p (.str (Str.ofString "x")) (.str s) else some (.str s)) = some d := fun s l1 l2 => fix_name l1 l2
        have nn2 : ∀ d, nameB d = true → ∀ s ∈ ns ++ [d], nameB s = true := fun d nd s ms => by
          rcases List.mem_append.mp ms with m | m
          · exact nn s m
          · simp at m; subst m; exact nd
        have n9 : ns.length < 16777216 := by omega
        by_cases w1 : way = 1
        · subst w1
          obtain ⟨d, nd, no, ed⟩ := key (nm ++ z) (n1.app lz) (by rw [len_app]; omega)
          cases hI : inX (.str (nm ++ z)) noNames with
          | true =>
            rw [hI, if_pos rfl] at ed
            simp [e1, ad1, ad2, mul_int m0, sizeLine_eq, e2, ez, ad3, in_no, hI, n9, ed, no]
            exact Uses.ret ⟨_, rfl, _, _, _, rfl, by rw [List.length_append, nl]; simp, nn2 d nd⟩
          | false =>
            rw [hI, if_neg Bool.false_ne_true] at ed
            cases ed
            simp [e1, ad1, ad2, mul_int m0, sizeLine_eq, e2, ez, ad3, in_no, hI, n9]
            exact Uses.ret ⟨_, rfl, _, _, _, rfl, by rw [List.length_append, nl]; simp, nn2 _ nd⟩
        · obtain ⟨d, nd, no, ed⟩ := key nm (n1.le (by decide)) n1'
          cases hI : inX (.str nm) noNames with
          | true =>
            rw [hI, if_pos rfl] at ed
            simp [e1, ad1, ad2, mul_int m0, sizeLine_eq, w1, in_no, hI, n9, ed, no]
            exact Uses.ret ⟨_, rfl, _, _, _, rfl, by rw [List.length_append, nl]; simp, nn2 d nd⟩
          | false =>
            rw [hI, if_neg Bool.false_ne_true] at ed
            cases ed
            simp [e1, ad1, ad2, mul_int m0, sizeLine_eq, w1, in_no, hI, n9]
            exact Uses.ret ⟨_, rfl, _, _, _, rfl, by rw [List.length_append, nl]; simp, nn2 _ nd⟩
      · rintro o ⟨p', rfl, ns, x, y, rfl, nl, nn⟩
        simp
        exact Uses.ret ⟨ns, rfl, by simpa using nl, nn⟩
end K

set_option Elab.async false
set_option linter.all false
set_option maxRecDepth 100000
set_option maxHeartbeats 4000000
namespace PL
open PySem L2 EX
def tameB (n k : Nat) (d : D) : Bool := match d.py with
  | some x => x.canLay0 && (x.showable && (x.leavesShort 40 && (decide (x.depth ≤ n) && decide (x.bulk ≤ k))))
  | none => false
theorem Tame.dec {n k : Nat} {d : D} (h : tameB n k d = true) : Tame n k d := by
  unfold tameB at h
  split at h
  · rename_i x e
    simp only [Bool.and_eq_true, decide_eq_true_eq] at h
    exact ⟨x, e, h.1, h.2.1, h.2.2.1, h.2.2.2.1, h.2.2.2.2⟩
  · cases h
theorem hasK_iff {l : List Key} {k : Key} : hasK l k = true ↔ k ∈ l := by
  unfold hasK
  rw [List.any_eq_true]
  constructor
  · rintro ⟨x, m, e⟩; rw [← of_decide_eq_true e]; exact m
  · intro m; exact ⟨k, m, decide_eq_true rfl⟩
theorem metK_nodup {ks : List Key} (h : ks.Nodup) : metK ks = ks := by
  suffices ∀ (ks l : List Key), (l ++ ks).Nodup → ks.foldl EX.stepK l = l ++ ks from this ks [] (by simpa using h)
  intro ks
  induction ks with
  | nil => intro l _; simp
  | cons k ks ih =>
    intro l hl
    have e : EX.stepK l k = l ++ [k] := by
      unfold EX.stepK
      rw [if_neg]
      intro z
      have z := hasK_iff.mp z
      have := (List.nodup_append.mp hl).2.2 k z k (.head _)
      exact this rfl
    rw [List.foldl_cons, e, ih (l ++ [k]) (by simpa using hl)]
    simp
theorem sc_strs : ∀ ss : List Str, scL (ss.map D.str) = some (ss.map Val.str)
  | [] => rfl
  | s :: ss => by rw [List.map_cons, scL, sc_strs ss]; rfl
theorem inX_strs (s : Str) (ss : List Str) : inX (.str s) (ss.map Val.str) = decide (s ∈ ss) := by
  rw [Bool.eq_iff_iff, decide_eq_true_eq]
  unfold inX
  rw [List.any_eq_true]
  constructor
  · rintro ⟨x, m, e⟩
    obtain ⟨t, mt, rfl⟩ := List.mem_map.mp m
    have e' : (t == s) = true := e
    rw [← eq_of_beq e']; exact mt
  · intro m; exact ⟨_, List.mem_map.mpr ⟨s, m, rfl⟩, (beq_self_eq_true s : (s == s) = true)⟩
theorem in_own {G : GT} {s : Str} {ss : List Str} : pIn2 G (.str s) (.own (ss.map D.str)) = some (decide (s ∈ ss)) := by
  have e : pIn2 G (.str s) (.own (ss.map D.str)) = (match (D.str s).sc?, scL (ss.map D.str) with | some v, some vs => some (inX v vs) | _, _ => none) := rfl
  rw [e, sc_strs]
  show some (inX (.str s) (ss.map Val.str)) = _
  rw [inX_strs]
theorem cut_take {α : Type} {xs : List α} {n : Nat} : cutX xs none (some (n : Int)) = xs.take n := by
  unfold cutX
  rw [HT.sIx_nat, HT.sIx_none, List.drop_zero, Nat.sub_zero]
  by_cases h : n ≤ xs.length
  · rw [Nat.min_eq_left h]
  · rw [Nat.min_eq_right (by omega), List.take_of_length_le (Nat.le_refl _), List.take_of_length_le (by omega)]
end PL
namespace K
open PySem L2 EX PL
theorem name_str {d : D} (h : nameB d = true) : ∃ s, d = .str s ∧ s.length ≤ 8 ∧ ∀ c ∈ sg s, c ∈ letters := by
  unfold nameB at h
  split at h
  · rename_i s
    simp only [Bool.and_eq_true, decide_eq_true_eq, List.all_eq_true] at h
    exact ⟨s, rfl, h.2.1, h.2.2.2⟩
  · cases h
theorem name_it {d : D} (h : nameB d = true) : It d := by
  obtain ⟨s, rfl, h1, _⟩ := name_str h
  exact ⟨rfl, by show s.length ≤ sizeLine; rw [sizeLine_eq]; omega, rfl⟩
theorem name_tame {d : D} (h : nameB d = true) : Tame 10 100 d := by
  obtain ⟨s, rfl, h1, h2⟩ := name_str h
  exact Tame.str (fun c m => by have := (letters_iff c).mp (h2 c m); omega) (by omega)
theorem RD.of {w : Str} {xs : List D} (hl : xs.length ≤ 5) (hi : ∀ x ∈ xs, It x) (hg : w = "give" → ∀ a b, xs = [a, b] → ∃ c, Wd b c) : RD (.tup (.str w :: xs)) where
  dt := rfl
  no := rfl
  len := fun ys e => by cases e; rw [sizeLine_eq, List.length_cons]; omega
  fst := fun x ys e => by cases e; exact ⟨rfl, rfl⟩
  its := fun w ys e => by cases e; exact hi
  wor := fun a b e => by cases e; exact hg rfl a b rfl
theorem RD.other {r : D} (hd : Dt r = true) (no : r.isOwn = false) (h : ∀ xs, r = .tup xs → xs.length ≤ 60 ∧ ∀ x ys, xs = x :: ys → Dt x = true ∧ x.isOwn = false ∧ ∀ w, x ≠ .str w) : RD r where
  dt := hd
  no := no
  len := fun xs e => by have := (h xs e).1; rw [sizeLine_eq]; omega
  fst := fun x ys e => let ⟨a, b, _⟩ := (h _ e).2 x ys rfl; ⟨a, b⟩
  its := fun w xs e => absurd rfl (((h _ e).2 _ _ rfl).2.2 w)
  wor := fun a b e => absurd rfl (((h _ e).2 _ _ rfl).2.2 _)
/-- what stands in a tuple of rules: a rule, or what is none -/
structure GR (r : D) : Prop where
  rd : RD r
  tm : Tame 20 1000 r
theorem GR.of {w : Str} {xs : List D} (hw : w.length ≤ 100) (hc : ∀ c ∈ sg w, c < 0x110000) (hl : xs.length ≤ 4) (hi : ∀ x ∈ xs, It x ∧ Tame 15 150 x) (hg : w = "give" → ∀ a b, xs = [a, b] → ∃ c, Wd b c) : GR (.tup (.str w :: xs)) :=
  ⟨RD.of (by omega) (fun x m => (hi x m).1) hg, (Tame.tup (n := 15) (k := 150) (m := 5) (fun x m => by
    rcases List.mem_cons.mp m with rfl | m
    · exact Tame.str hc (by omega)
    · exact (hi x m).2) (by simp; omega)).le (by decide) (by decide)⟩
theorem wsts_it : ∀ d ∈ wsts, It d ∧ Tame 15 150 d := by
  have : ∀ d ∈ wsts, (Dt d && !d.isOwn && tameB 15 150 d) = true := by decide +kernel
  intro d m
  have h := this d m
  simp only [Bool.and_eq_true, Bool.not_eq_true'] at h
  refine ⟨⟨h.1.1, ?_, h.1.2⟩, Tame.dec h.2⟩
  simp only [wsts, List.mem_cons, List.not_mem_nil, or_false] at m
  rcases m with rfl | rfl | rfl | rfl | rfl | rfl <;> first | trivial | (show _ ≤ sizeLine; decide)
end K

set_option Elab.async false
set_option linter.all false
set_option maxRecDepth 100000
set_option maxHeartbeats 4000000
namespace K
open PySem L2 EX PL
def RI (pool : List D) (k : Nat) (p : PEn) : Prop := ∃ fs x5 x6 x7 x8 x9, p = [some .box, some (.lst none pool), some (.own fs), some (.own ((led fs).map .str)), some (.own ((cnt fs).map .str)), x5, x6, x7, x8, x9] ∧ fs.length ≤ k ∧ (∀ r ∈ fs, GR r ∧ ruleB r = true) ∧ (led fs).Nodup ∧ (cnt fs).Nodup
theorem led_snoc (fs : List D) (r : D) : led (fs ++ [r]) = led fs ++ if rW r = "count" then [] else [rN r] := by
  unfold led
  by_cases h : rW r = "count"
  · simp [List.filter_append, h]
  · simp [List.filter_append, h]
theorem cnt_snoc (fs : List D) (r : D) : cnt (fs ++ [r]) = cnt fs ++ if rW r = "count" then [rN r] else [] := by
  unfold cnt
  by_cases h : rW r = "count"
  · simp [List.filter_append, h]
  · simp [List.filter_append, h]
theorem snoc_nodup {l : List Str} {s : Str} (h : l.Nodup) (m : s ∉ l) : (l ++ [s]).Nodup := by
  rw [List.nodup_append]
  exact ⟨h, by simp, fun a ma b mb => by simp at mb; subst mb; exact fun e => m (e ▸ ma)⟩
noncomputable def tailS : BS := (bSeq (bIfS (bAndT (bTest (bBin OEq (bBin (OIx2 gt) (bVar 9) (bC (.int 0))) (bC (.str "count")))) (bTest (bBin (ONotIn2 gt) (bVar 6) (bVar 4)))) (bSeq (bApp 4 (bVar 6)) (bApp 2 (bVar 9))) bSkip) (bIfS (bAndT (bTest (bBin ONe (bBin (OIx2 gt) (bVar 9) (bC (.int 0))) (bC (.str "count")))) (bTest (bBin (ONotIn2 gt) (bVar 6) (bVar 3)))) (bSeq (bApp 3 (bVar 6)) (bApp 2 (bVar 9))) bSkip))
theorem step_r {pool fs : List D} {w s : Str} {rest : List D} {x5 x7 x8 : Option D} {k : Nat} (hk : k < 20) (g : GR (.tup (.str w :: .str s :: rest))) (rb : ruleB (.tup (.str w :: .str s :: rest)) = true) (hl : fs.length ≤ k) (hf : ∀ r ∈ fs, GR r ∧ ruleB r = true) (h1 : (led fs).Nodup) (h2 : (cnt fs).Nodup) :
    Uses (tailS.p ("", []) [some .box, some (.lst none pool), some (.own fs), some (.own ((led fs).map .str)), some (.own ((cnt fs).map .str)), x5, some (.str s), x7, x8, some (.tup (.str w :: .str s :: rest))]) 0 fun o => ∃ p', o = .nx p' ∧ RI pool (k + 1) p' := by
  have hf' : ∀ r ∈ fs ++ [D.tup (.str w :: .str s :: rest)], GR r ∧ ruleB r = true := fun r m => by
    rcases List.mem_append.mp m with m | m
    · exact hf r m
    · simp at m; subst m; exact ⟨g, rb⟩
  have f1 : fs.length < 16777216 := by omega
  have f2 : (led fs).length < 16777216 := by have := led_len fs; omega
  have f3 : (cnt fs).length < 16777216 := by have := cnt_len fs; omega
  have e1 := led_snoc fs (.tup (.str w :: .str s :: rest))
  have e2 := cnt_snoc fs (.tup (.str w :: .str s :: rest))
  have r1 : rW (.tup (.str w :: .str s :: rest)) = w := rfl
  have r2 : rN (.tup (.str w :: .str s :: rest)) = s := rfl
  rw [r1, r2] at e1 e2
  by_cases hw : w = "count"
  · subst hw
    rw [if_pos rfl] at e1 e2
    rw [List.append_nil] at e1
    by_cases hm : s ∈ cnt fs
    · simp [tailS, in_own, hm, sizeLine_eq]
      exact Uses.ret ⟨_, rfl, fs, _, _, _, _, _, rfl, by omega, hf, h1, h2⟩
    · simp [tailS, in_own, hm, sizeLine_eq, f1, f2, f3]
      exact Uses.ret ⟨_, rfl, fs ++ [D.tup (.str "count" :: .str s :: rest)], x5, some (.str s), x7, x8, some (.tup (.str "count" :: .str s :: rest)), (by rw [e1, e2]; simp), by simp; omega, hf', by rw [e1]; exact h1, by rw [e2]; exact snoc_nodup h2 hm⟩
  · rw [if_neg hw] at e1 e2
    rw [List.append_nil] at e2
    by_cases hm : s ∈ led fs
    · simp [tailS, in_own, hm, sizeLine_eq, hw]
      exact Uses.ret ⟨_, rfl, fs, _, _, _, _, _, rfl, by omega, hf, h1, h2⟩
    · simp [tailS, in_own, hm, sizeLine_eq, hw, f1, f2, f3]
      exact Uses.ret ⟨_, rfl, fs ++ [D.tup (.str w :: .str s :: rest)], x5, some (.str s), x7, x8, some (.tup (.str w :: .str s :: rest)), (by rw [e1, e2]; simp), by simp; omega, hf', by rw [e1]; exact snoc_nodup h1 hm, by rw [e2]; exact h2⟩

theorem ok_rule {n n2 w : D} (hn : nameB n = true) (hn2 : nameB n2 = true) (hw : w ∈ wsts) : ∀ r ∈ [D.tup [.str "hide", n], .tup [.str "bar", n], .tup [.str "as", n, n2], .tup [.str "give", n, w], .tup [.str "count", n]], GR r ∧ ruleB r = true ∧ ∃ u s rest, n = .str s ∧ r = .tup (.str u :: .str s :: rest) := by
  obtain ⟨s, rfl, _⟩ := name_str hn
  have i1 : It (.str s) ∧ Tame 15 150 (.str s) := ⟨name_it hn, (name_tame hn).le (by decide) (by decide)⟩
  have i2 : It n2 ∧ Tame 15 150 n2 := ⟨name_it hn2, (name_tame hn2).le (by decide) (by decide)⟩
  have i3 := wsts_it w hw
  have w3 := isW_of (wd_yes w hw)
  intro r m
  simp only [List.mem_cons, List.not_mem_nil, or_false] at m
  rcases m with rfl | rfl | rfl | rfl | rfl
  · exact ⟨GR.of (by decide) (by decide) (by simp) (by simpa using i1) (fun e => by cases e), by simp [ruleB, hn]; decide, _, _, _, rfl, rfl⟩
  · exact ⟨GR.of (by decide) (by decide) (by simp) (by simpa using i1) (fun e => by cases e), by simp [ruleB, hn]; decide, _, _, _, rfl, rfl⟩
  · exact ⟨GR.of (by decide) (by decide) (by simp) (by simpa using ⟨i1, i2⟩) (fun e => by cases e), by simp [ruleB, hn, hn2]; decide, _, _, _, rfl, rfl⟩
  · exact ⟨GR.of (by decide) (by decide) (by simp) (by simpa using ⟨i1, i3⟩) (fun _ a b e => by cases e; exact ⟨true, wd_yes w hw⟩), by simp [ruleB, hn, w3]; exact ⟨by decide, .inl (by decide)⟩, _, _, _, rfl, rfl⟩
  · exact ⟨GR.of (by decide) (by decide) (by simp) (by simpa using i1) (fun e => by cases e), by simp [ruleB, hn]; decide, _, _, _, rfl, rfl⟩
def RulesP (o : Ot D) : Prop := ∃ rs, o = .ok (.tup rs) ∧ rs.length ≤ 8 ∧ (∀ r ∈ rs, GR r) ∧ rulesB (.tup rs) = true
noncomputable def bodyS : BS := (bSeq (bPar [6, 7] (bCons (bBin (OIx2 gt) (bVar 1) (bCall 2 B__law_take (bCons (bVar 0) (bCons (bCallN OLen (bCons (bVar 1) bNil)) bNil)))) (bCons (bBin (OIx2 gt) (bVar 1) (bCall 2 B__law_take (bCons (bVar 0) (bCons (bCallN OLen (bCons (bVar 1) bNil)) bNil)))) bNil))) (bSeq (bSet 8 (bBin (OIx2 gt) (nLst (bCons (bC .non) (bCons (bC (.int 5)) (bCons (bBin OSub (bC (.int 0)) (bBin OPow (bC (.int 10)) (bC (.int 9)))) (bCons (bC (.str "a b")) (bCons (bTup (bCons (bC (.str "thing")) (bCons (bC (.int 999)) bNil))) (bCons (bTup (bCons (bC (.str "row")) (bCons (bTup (bCons (bTup (bCons (bC (.str "row")) (bCons (bTup bNil) bNil))) (bCons (bC (.int 7)) bNil))) bNil))) bNil))))))).e (bCall 2 B__law_take (bCons (bVar 0) (bCons (bC (.int 6)) bNil))))) (bSeq (bSet 9 (bBin (OIx2 gt) (nLst (bCons (bTup (bCons (bC (.str "hide")) (bCons (bVar 6) bNil))) (bCons (bTup (bCons (bC (.str "bar")) (bCons (bVar 6) bNil))) (bCons (bTup (bCons (bC (.str "as")) (bCons (bVar 6) (bCons (bVar 7) bNil)))) (bCons (bTup (bCons (bC (.str "give")) (bCons (bVar 6) (bCons (bVar 8) bNil)))) bNil))))).e (bCall 2 B__law_take (bCons (bVar 0) (bCons (bC (.int 4)) bNil))))) (bSeq (bIfS (bTest (bBin OEq (bCall 2 B__law_take (bCons (bVar 0) (bCons (bC (.int 3)) bNil))) (bC (.int 0)))) (bSet 9 (bTup (bCons (bC (.str "count")) (bCons (bVar 6) bNil)))) bSkip) tailS))))
theorem body_r {pool fs : List D} {x5 : Option D} {x6 x7 x8 x9 : Option D} {k : Nat} (hp : pool.length = 9) (hn : ∀ n ∈ pool, nameB n = true) (hk : k < 20) (hl : fs.length ≤ k) (hf : ∀ r ∈ fs, GR r ∧ ruleB r = true) (h1 : (led fs).Nodup) (h2 : (cnt fs).Nodup) :
    Uses (bodyS.p ("", []) [some .box, some (.lst none pool), some (.own fs), some (.own ((led fs).map .str)), some (.own ((cnt fs).map .str)), x5, x6, x7, x8, x9]) 5 fun o => ∃ p', o = .nx p' ∧ RI pool (k + 1) p' := by
  simp [bodyS, hp, sizeLine_eq]
  refine Uses.draw (by decide) (by decide) fun r1 a0 a1 => ?_
  obtain ⟨n, mn, e1⟩ := pick (G := gt) (t := none) (xs := pool) a0 (by rw [hp]; exact a1)
  have nn := hn n mn
  simp [e1]
  refine Uses.draw (by decide) (by decide) fun r2 b0 b1 => ?_
  obtain ⟨m, mm, e2⟩ := pick (G := gt) (t := none) (xs := pool) b0 (by rw [hp]; exact b1)
  have nm := hn m mm
  have no1 := (name_it nn).no
  have no2 := (name_it nm).no
  simp [e2, no1, no2, pPar]
  refine Uses.draw (by decide) (by decide) fun r3 c0 c1 => ?_
  obtain ⟨w, mw, e3⟩ := pick (G := gt) (t := none) (xs := wsts) c0 c1
  have no3 := (wsts_it w mw).1.no
  simp only [wsts] at e3
  simp [e3, no1, no2, no3, sizeLine_eq]
  refine Uses.draw (by decide) (by decide) fun r4 d0 d1 => ?_
  obtain ⟨r, mr, e4⟩ := pick (G := gt) (t := none) (xs := [D.tup [.str "hide", n], .tup [.str "bar", n], .tup [.str "as", n, m], .tup [.str "give", n, w]]) d0 d1
  obtain ⟨g, rb, u, s, rest, en, er⟩ := ok_rule nn nm mw r (by simp at mr ⊢; rcases mr with h | h | h | h <;> simp [h])
  obtain ⟨g', rb', u', s', rest', en', er'⟩ := ok_rule nn nm mw (.tup [.str "count", n]) (by simp)
  subst er
  cases en
  cases en'
  simp [e4]
  refine Uses.draw (by decide) (by decide) fun r5 f0 f1 => ?_
  by_cases h5 : r5 = 0
  · simp [h5]
    exact step_r hk g' rb' hl hf h1 h2
  · simp [h5]
    exact step_r hk g rb hl hf h1 h2
theorem dist_nodup {l : List Str} (h : l.Nodup) : dist l = true := by
  unfold dist
  rw [metK_nodup (List.Pairwise.map Sum.inr (fun a b e z => e (by cases z; rfl)) h), List.length_map]
  exact decide_eq_true rfl
theorem led_take (fs : List D) (n : Nat) : (led (fs.take n)).Sublist (led fs) := ((List.take_sublist n fs).filter _).map _
theorem cnt_take (fs : List D) (n : Nat) : (cnt (fs.take n)).Sublist (cnt fs) := ((List.take_sublist n fs).filter _).map _
end K

set_option Elab.async false
set_option linter.all false
set_option maxRecDepth 100000
set_option maxHeartbeats 4000000
namespace K
open PySem L2 EX PL
theorem rules_gen {bs : BS} {pool : List D} (hb : ∀ {fs : List D} {x5 x6 x7 x8 x9 : Option D} {k : Nat}, k < 20 → fs.length ≤ k → (∀ r ∈ fs, GR r ∧ ruleB r = true) → (led fs).Nodup → (cnt fs).Nodup → Uses (bs.p ("", []) [some .box, some (.lst none pool), some (.own fs), some (.own ((led fs).map .str)), some (.own ((cnt fs).map .str)), x5, x6, x7, x8, x9]) 5 fun o => ∃ p', o = .nx p' ∧ RI pool (k + 1) p') : Uses ((mkF 10 (bSeq (bEmp3 2 3 4) (bSeq (bFor (bRange1 (bBin (OIx2 gt) (nLst (bCons (bCall 2 B__law_take (bCons (bVar 0) (bCons (bC (.int 4)) bNil))) (bCons (bC (.int 12)) (bCons (bCall 2 B__law_take (bCons (bVar 0) (bCons (bC (.int 9)) bNil))) bNil)))).e (bCall 2 B__law_take (bCons (bVar 0) (bCons (bC (.int 3)) bNil))))) (.name 5) bs) (bRet (bCallN OTuple (bCons (bSl OSlX (bVar 2) none (some (bC (.int 8)))) bNil)))))).p [.box, .lst none pool]) 70 RulesP := by
  simp [sizeLine_eq]
  refine Uses.draw (by decide) (by decide) fun a a0 a1 => ?_
  refine Uses.draw (by decide) (by decide) fun b b0 b1 => ?_
  refine Uses.draw (by decide) (by decide) fun c c0 c1 => ?_
  obtain ⟨x, mx, e⟩ := pick (G := gt) (t := none) (xs := [.int a, .int 12, .int b]) c0 c1
  have mx : ∃ j : Int, (0 ≤ j ∧ j ≤ 12) ∧ x = .int j := by
    simp at mx
    rcases mx with rfl | rfl | rfl
    · exact ⟨a, ⟨a0, by omega⟩, rfl⟩
    · exact ⟨12, by omega, rfl⟩
    · exact ⟨b, ⟨b0, by omega⟩, rfl⟩
  obtain ⟨j, hj, rfl⟩ := mx
  have q1 : -4611686018427387904 ≤ j ∧ j < 4611686018427387904 := by omega
  simp [e, q1]
  simp only [PL.afterE, pSeq, M.bind, M.bindS, Dr.bind_assoc, Dr.bind_ret]
  refine Uses.hop 0 (Uses.for (n := 5) (I := RI pool) (rng 0 j.toNat) 0 _ ⟨[], none, none, none, none, none, rfl, by simp, (fun _ m => nomatch m), List.nodup_nil, List.nodup_nil⟩ fun k d p hd i => ?_) (by simp; omega) ?_
  · obtain ⟨fs, x5, x6, x7, x8, x9, rfl, hl, hf, h1, h2⟩ := i
    obtain ⟨hk, rfl⟩ := rng_get hd
    refine ⟨_, rfl, ?_⟩
    simp only [Nat.zero_add] at hl ⊢
    exact hb (by omega) hl hf h1 h2
  · rintro o ⟨p', rfl, fs, x5, x6, x7, x8, x9, rfl, hl, hf, h1, h2⟩
    have c8 : cutX fs none (some 8) = fs.take 8 := cut_take (n := 8)
    simp [slx_own, c8, pTuple]
    refine Uses.ret ⟨fs.take 8, rfl, by simp; omega, fun r m => (hf r (List.mem_of_mem_take m)).1, ?_⟩
    have ha : (fs.take 8).all ruleB = true := List.all_eq_true.mpr fun r m => (hf r (List.mem_of_mem_take m)).2
    have hl8 : (fs.take 8).length ≤ 8 := by rw [List.length_take]; omega
    show (decide ((fs.take 8).length ≤ 8) && ((fs.take 8).all ruleB && (dist (led (fs.take 8)) && dist (cnt (fs.take 8))))) = true
    rw [ha, dist_nodup (h1.sublist (led_take fs 8)), dist_nodup (h2.sublist (cnt_take fs 8)), decide_eq_true hl8]
    rfl
theorem rules_u {pool : List D} (hp : pool.length = 9) (hn : ∀ n ∈ pool, nameB n = true) : Uses (B__law_rules.p [.box, .lst none pool]) 70 RulesP :=
  rules_gen (bs := bodyS) fun hk hl hf h1 h2 => body_r hp hn hk hl hf h1 h2
end K

set_option Elab.async false
set_option linter.all false
set_option maxRecDepth 100000
set_option maxHeartbeats 4000000
namespace K
open PySem L2 EX PL
/-- an item of what may be a row of rules -/
structure GI (r : D) : Prop where
  rd : RD r
  st : ∀ w, r = .str w → w = "hide"
theorem GI.it {r : D} (g : GI r) : It r := ⟨g.rd.dt, by
  cases r with
  | str w => rw [g.st w rfl]; show _ ≤ sizeLine; decide
  | _ => trivial, g.rd.no⟩
def itB (d : D) : Bool := Dt d && (!d.isOwn && (tameB 15 40 d && match d with | .str s => decide (s.length ≤ 40) | _ => true))
theorem itB_of {d : D} (h : itB d = true) : It d ∧ Tame 15 40 d := by
  unfold itB at h
  simp only [Bool.and_eq_true, Bool.not_eq_true'] at h
  refine ⟨⟨h.1, ?_, h.2.1⟩, Tame.dec h.2.2.1⟩
  cases d with
  | str s => have := of_decide_eq_true h.2.2.2; show _ ≤ sizeLine; rw [sizeLine_eq]; omega
  | _ => trivial
theorem name_itB {d : D} (h : nameB d = true) : It d ∧ Tame 15 40 d := by
  obtain ⟨s, rfl, h1, h2⟩ := name_str h
  exact ⟨name_it h, Tame.str (fun c m => by have := (letters_iff c).mp (h2 c m); omega) (by omega)⟩
theorem gi_tup {w : Str} {xs : List D} (hw : w.length ≤ 40) (hc : ∀ c ∈ sg w, c < 0x110000) (hl : xs.length ≤ 4) (hi : ∀ x ∈ xs, It x ∧ Tame 15 40 x) (hg : w = "give" → ∀ a b, xs = [a, b] → ∃ c, Wd b c) : GI (.tup (.str w :: xs)) ∧ Tame 16 205 (.tup (.str w :: xs)) :=
  ⟨⟨RD.of (by omega) (fun x m => (hi x m).1) hg, fun _ e => by cases e⟩, (Tame.tup (n := 15) (k := 40) (m := 5) (fun x m => by
    rcases List.mem_cons.mp m with rfl | m
    · exact Tame.str hc (by omega)
    · exact (hi x m).2) (by simp; omega)).le (by decide) (by decide)⟩
def odd (n : D) : List D := [.tup [.str "hide"], .tup [.str "hide", n, n], .tup [.str "as", n], .tup [.str "give", n], .tup [.str "count", n, .int 1], .tup [.str "turn", n], .tup [.str "bar", .int 5], .tup [.str "as", n, .non], .tup [.str "give", n, .int 1000000001], .tup [.str "give", n, .bl true],
  .tup [.str "give", n, .lst none [.int 1]], .tup [], .non, .int 7, .tup [.str "give", n, .tup [.str "row", .int 5]], .tup [.str "give", n, .tup [.str "row", .tup [.bl true]]], .tup [.str "hide", .str "me"], .tup [.str "as", n, .str "none"], .tup [.str "bar", .str "ninesigns"], .tup [.str "count", .str "A"], .str "hide", .lst none [.str "hide", n], .tup [.str "give", n, deep5]]
theorem wd_bad {d : D} (h : d ∈ bad1) : ∃ c, Wd d c := ⟨false, wd_no d h⟩
theorem odd_ok {n : D} (hn : nameB n = true) : ∀ r ∈ odd n, GI r ∧ Tame 16 205 r := by
  have i := name_itB hn
  have nog : ∀ {w : Str} {xs : List D}, w ≠ "give" → (w = "give" → ∀ a b, xs = [a, b] → ∃ c, Wd b c) := fun h e => absurd e h
  have k : ∀ d, itB d = true → It d ∧ Tame 15 40 d := fun d => itB_of
  have give : ∀ {d : D}, itB d = true → (∃ c, Wd d c) → GI (.tup [.str "give", n, d]) ∧ Tame 16 205 (.tup [.str "give", n, d]) := fun {d} h1 h2 =>
    gi_tup (by decide) (by decide) (by simp) (by simpa using ⟨i, k _ h1⟩) (fun _ a b e => by cases e; exact h2)
  simp only [odd, List.forall_mem_cons, List.not_mem_nil, false_implies, implies_true, and_true]
  refine ⟨?_, ?_, ?_, ?_, ?_, ?_, ?_, ?_, ?_, ?_, ?_, ?_, ?_, ?_, ?_, ?_, ?_, ?_, ?_, ?_, ?_, ?_, ?_⟩
  · exact gi_tup (by decide) (by decide) (by simp) (by simp) (nog (by decide))
  · exact gi_tup (by decide) (by decide) (by simp) (by simpa using i) (nog (by decide))
  · exact gi_tup (by decide) (by decide) (by simp) (by simpa using i) (nog (by decide))
  · exact gi_tup (by decide) (by decide) (by simp) (by simpa using i) (fun _ a b e => by cases e)
  · exact gi_tup (by decide) (by decide) (by simp) (by simpa using ⟨i, k (.int 1) (by decide +kernel)⟩) (nog (by decide))
  · exact gi_tup (by decide) (by decide) (by simp) (by simpa using i) (nog (by decide))
  · exact gi_tup (by decide) (by decide) (by simp) (by simpa using k (.int 5) (by decide +kernel)) (nog (by decide))
  · exact gi_tup (by decide) (by decide) (by simp) (by simpa using ⟨i, k .non (by decide +kernel)⟩) (nog (by decide))
  · exact give (by decide +kernel) (wd_bad (by simp [bad1]))
  · exact give (by decide +kernel) (wd_bad (by simp [bad1]))
  · exact give (by decide +kernel) (wd_bad (by simp [bad1]))
  · exact ⟨⟨RD.other rfl rfl (fun xs e => by cases e; exact ⟨by simp, fun _ _ e => by cases e⟩), fun _ e => by cases e⟩, Tame.dec (by decide +kernel)⟩
  · exact ⟨⟨RD.other rfl rfl (fun xs e => by cases e), fun _ e => by cases e⟩, Tame.dec (by decide +kernel)⟩
  · exact ⟨⟨RD.other rfl rfl (fun xs e => by cases e), fun _ e => by cases e⟩, Tame.dec (by decide +kernel)⟩
  · exact give (by decide +kernel) (wd_bad (by simp [bad1]))
  · exact give (by decide +kernel) (wd_bad (by simp [bad1]))
  · exact gi_tup (by decide) (by decide) (by simp) (by simpa using k (.str "me") (by decide +kernel)) (nog (by decide))
  · exact gi_tup (by decide) (by decide) (by simp) (by simpa using ⟨i, k (.str "none") (by decide +kernel)⟩) (nog (by decide))
  · exact gi_tup (by decide) (by decide) (by simp) (by simpa using k (.str "ninesigns") (by decide +kernel)) (nog (by decide))
  · exact gi_tup (by decide) (by decide) (by simp) (by simpa using k (.str "A") (by decide +kernel)) (nog (by decide))
  · exact ⟨⟨RD.other rfl rfl (fun xs e => by cases e), fun w e => by cases e; rfl⟩, Tame.dec (by decide +kernel)⟩
  · exact ⟨⟨RD.other rfl rfl (fun xs e => by cases e), fun _ e => by cases e⟩, (Tame.lst (n := 15) (k := 40) (m := 2) (fun x m => by
      simp only [List.mem_cons, List.not_mem_nil, or_false] at m
      rcases m with rfl | rfl
      · exact (k (.str "hide") (by decide +kernel)).2
      · exact i.2) (by simp)).le (by decide) (by decide)⟩
  · exact give (by decide +kernel) ⟨false, wd_deep⟩
def both (n : D) : List D := [.tup [.str "hide", n], .tup [.str "bar", n], .tup [.str "as", n, n], .tup [.str "give", n, .int 5]]
theorem both_ok {n : D} (hn : nameB n = true) : ∀ r ∈ both n, GI r ∧ Tame 16 205 r := by
  have i := name_itB hn
  have nog : ∀ {w : Str} {xs : List D}, w ≠ "give" → (w = "give" → ∀ a b, xs = [a, b] → ∃ c, Wd b c) := fun h e => absurd e h
  simp only [both, List.forall_mem_cons, List.not_mem_nil, false_implies, implies_true, and_true]
  refine ⟨?_, ?_, ?_, ?_⟩
  · exact gi_tup (by decide) (by decide) (by simp) (by simpa using i) (nog (by decide))
  · exact gi_tup (by decide) (by decide) (by simp) (by simpa using i) (nog (by decide))
  · exact gi_tup (by decide) (by decide) (by simp) (by simpa using i) (nog (by decide))
  · exact gi_tup (by decide) (by decide) (by simp) (by simpa using ⟨i, itB_of (d := .int 5) (by decide +kernel)⟩) (fun _ a b e => by cases e; exact ⟨true, wd_yes _ (by simp [wsts])⟩)
theorem cnt_ok {n : D} (hn : nameB n = true) : GI (.tup [.str "count", n]) ∧ Tame 16 205 (.tup [.str "count", n]) :=
  gi_tup (by decide) (by decide) (by simp) (by simpa using name_itB hn) (fun e => absurd e (by decide))
/-- a tuple as an item -/
theorem gi_nest {xs : List D} (hl : xs.length ≤ 60) (h : ∀ x ∈ xs, GI x) : GI (.tup xs) where
  rd := {
    dt := rfl
    no := rfl
    len := fun ys e => by cases e; rw [sizeLine_eq]; omega
    fst := fun x ys e => by cases e; exact ⟨(h x (.head _)).rd.dt, (h x (.head _)).rd.no⟩
    its := fun w ys e x m => by cases e; exact (h x (.tail _ m)).it
    wor := fun a b e => by
      cases e
      have := (h _ (.head _)).st _ rfl
      exact absurd this (by decide) }
  st := fun _ e => by cases e
theorem gi_list {xs : List D} : GI (.lst none xs) := ⟨RD.other rfl rfl (fun xs e => by cases e), fun _ e => by cases e⟩
end K

set_option Elab.async false
set_option linter.all false
set_option maxRecDepth 100000
set_option maxHeartbeats 1000000
namespace K
open PySem L2 EX PL
/-- what a turn makes: of depth n, bulk B, length L -/
inductive Sp (n B L : Nat) : D → Prop
  | tup {xs : List D} : xs.length ≤ L → (∀ x ∈ xs, GI x) → TameL n B xs → Sp n B L (.tup xs)
  | lst {xs : List D} : TameL n B xs → Sp n B L (.lst none xs)
  | non : Sp n B L .non
  | int : Sp n B L (.int 7)
  | str : Sp n B L (.str "")
  | dct : Sp n B L (.dct none [])
  | bl : Sp n B L (.bl true)
def odd1 (n : D) : List D := [.tup [.str "hide"], .tup [.str "hide", n, n], .tup [.str "as", n], .tup [.str "give", n], .tup [.str "count", n, .int 1], .tup [.str "turn", n]]
def odd2 (n : D) : List D := [.tup [.str "bar", .int 5], .tup [.str "as", n, .non], .tup [.str "give", n, .int 1000000001], .tup [.str "give", n, .bl true]]
def odd3 (n : D) : List D := [.tup [.str "give", n, .lst none [.int 1]], .tup [], .non, .int 7, .tup [.str "give", n, .tup [.str "row", .int 5]], .tup [.str "give", n, .tup [.str "row", .tup [.bl true]]]]
def odd4 (n : D) : List D := [.tup [.str "hide", .str "me"], .tup [.str "as", n, .str "none"], .tup [.str "bar", .str "ninesigns"], .tup [.str "count", .str "A"], .str "hide", .lst none [.str "hide", n]]
theorem lesz {k : Nat} (h : k ≤ 1000) : (k ≤ sizeLine) = True := by rw [sizeLine_eq]; exact eq_true (by omega)
theorem ltsz {k : Nat} (h : k ≤ 1000) : (k < sizeLine) = True := by rw [sizeLine_eq]; exact eq_true (by omega)
theorem tp0 {q : PKx} {p : PEn} : (bTup bNil).p q p = .ret (.ok (.tup [])) := rfl
theorem tp1 {q : PKx} {p : PEn} {x : BE} {a : D} (h : x.p q p = .ret (.ok a)) (no : a.isOwn = false) : (bTup (bCons x bNil)).p q p = .ret (.ok (.tup [a])) := by simp [h, no, lesz]
theorem tp2 {q : PKx} {p : PEn} {x y : BE} {a b : D} (h : x.p q p = .ret (.ok a)) (no : a.isOwn = false) (h2 : y.p q p = .ret (.ok b)) (no2 : b.isOwn = false) : (bTup (bCons x (bCons y bNil))).p q p = .ret (.ok (.tup [a, b])) := by simp [h, no, h2, no2, lesz]
theorem row_p {q : PKx} {p : PEn} {y : BE} {b : D} (h2 : y.p q p = .ret (.ok b)) (no2 : b.isOwn = false) : (bTup (bCons (bC (.str "row")) (bCons y bNil))).p q p = .ret (.ok (.tup [.str "row", b])) := tp2 rfl rfl h2 no2
theorem deep_p (q : PKx) (p : PEn) : (bTup (bCons (bC (.str "row")) (bCons (bTup (bCons (bTup (bCons (bC (.str "row")) (bCons (bTup (bCons (bTup (bCons (bC (.str "row")) (bCons (bTup (bCons (bTup (bCons (bC (.str "row")) (bCons (bTup (bCons (bTup (bCons (bC (.str "row")) (bCons (bTup bNil) bNil))) bNil)) bNil))) bNil)) bNil))) bNil)) bNil))) bNil)) bNil))).p q p = .ret (.ok deep5) :=
  row_p (tp1 (row_p (tp1 (row_p (tp1 (row_p (tp1 (row_p tp0 rfl) rfl) rfl) rfl) rfl) rfl) rfl) rfl) rfl
theorem Uses.set' {p : PEn} {i n : Nat} {d : D} {f : PEn → Dr PO} {Q : PO → Prop} (no : d.isOwn = false) (g : Uses (f (p.set i (some d))) n Q) : Uses (pSeq (PL.afterE p (.ret (.ok d)) fun d => if d.isOwn = true then .stuck else .ret (.nx (p.set i (some d)))) f) n Q := by
  show Uses (pSeq (if d.isOwn = true then .stuck else .ret (.nx (p.set i (some d)))) f) n Q
  rw [no]; exact g
noncomputable def spTail : BS := (bSeq (bIfS (bTest (bBin OLt (bVar 3) (bC (.int 3)))) (bRet (bBin OAddX (bBin OAddX (bSl OSlX (bVar 1) none (some (bVar 4))) (bTup (bCons (bBin (OIx2 gt) (bVar 6) (bCall 2 B__law_take (bCons (bVar 0) (bCons (bC (.int 23)) bNil)))) bNil))) (bSl OSlX (bVar 1) (some (bVar 4)) none))) bSkip) (bSeq (bIfS (bTest (bBin OEq (bVar 3) (bC (.int 3)))) (bRet (bBin OAddX (bVar 1) (bSl OSlX (bVar 1) (some (bVar 4)) (some (bBin OAddX (bVar 4) (bC (.int 1))))))) bSkip) (bSeq (bIfS (bTest (bBin OEq (bVar 3) (bC (.int 4)))) (bSeq (bSet 8 (nLst (bCons (bTup (bCons (bC (.str "hide")) (bCons (bVar 5) bNil))) (bCons (bTup (bCons (bC (.str "bar")) (bCons (bVar 5) bNil))) (bCons (bTup (bCons (bC (.str "as")) (bCons (bVar 5) (bCons (bVar 5) bNil)))) (bCons (bTup (bCons (bC (.str "give")) (bCons (bVar 5) (bCons (bC (.int 5)) bNil)))) bNil))))).e) (bRet (bBin OAddX (bVar 1) (bTup (bCons (bBin (OIx2 gt) (bVar 8) (bCall 2 B__law_take (bCons (bVar 0) (bCons (bC (.int 4)) bNil)))) (bCons (bBin (OIx2 gt) (bVar 8) (bCall 2 B__law_take (bCons (bVar 0) (bCons (bC (.int 4)) bNil)))) bNil)))))) bSkip) (bSeq (bIfS (bTest (bBin OEq (bVar 3) (bC (.int 5)))) (bRet (bBin OAddX (bVar 1) (bCallN OTuple (bCons (nComp (bIter (bVar 2)) (.name 9) bYes (bTup (bCons (bC (.str "count")) (bCons (bVar 9) bNil))) [9]).e bNil)))) bSkip) (bSeq (bIfS (bTest (bBin OEq (bVar 3) (bC (.int 6)))) (bRet (bBin (OIx2 gt) (nLst (bCons (bC .non) (bCons (bC (.int 7)) (bCons (bC (.str "")) (bCons (bDict pNil) (bCons (bCallN OListX (bCons (bVar 1) bNil)) (bCons (bTup (bCons (bVar 1) bNil)) (bCons (bC (.bl true)) bNil)))))))).e (bCall 2 B__law_take (bCons (bVar 0) (bCons (bC (.int 7)) bNil))))) bSkip) (bSeq (bIfS (bAndT (bTest (bBin OEq (bVar 3) (bC (.int 7)))) (bAndT (bTest (bBin ONe (bVar 1) (bTup bNil))) (bTru (bCallN OIsi (bCons (bBin (OIx2 gt) (bVar 1) (bVar 4)) (bCons (bC (.ty "tuple")) bNil)))))) (bRet (bBin OAddX (bBin OAddX (bSl OSlX (bVar 1) none (some (bVar 4))) (bTup (bCons (bCallN OListX (bCons (bBin (OIx2 gt) (bVar 1) (bVar 4)) bNil)) bNil))) (bSl OSlX (bVar 1) (some (bBin OAddX (bVar 4) (bC (.int 1)))) none))) bSkip) (bRet (bUn ORev (bVar 1)))))))))
theorem len_cut1 {α : Type} {xs : List α} {n : Nat} : (cutX xs (some (n : Int)) (some ((n : Int) + 1))).length ≤ 1 := by
  unfold cutX
  rw [show ((n : Int) + 1) = ((n + 1 : Nat) : Int) by omega, HT.sIx_nat, HT.sIx_nat, List.length_take]
  omega
theorem TameL.two {n k : Nat} {x y : D} (h : Tame n k x) (g : Tame n k y) : TameL n (k + 1 + (k + 1)) [x, y] := TameL.cons h (TameL.one g)
theorem tail_u {xs pool : List D} {n B L an : Nat} {way : Int} {nm : D} (hp : pool.length = 9) (hn : ∀ n ∈ pool, nameB n = true) (nn : nameB nm = true) (hl : xs.length ≤ L) (hL : L ≤ 20) (hg : ∀ x ∈ xs, GI x) (ht : TameL n B xs) (h16 : 16 ≤ n) (h25 : n ≤ 25) (han : an < xs.length ∨ (an = 0 ∧ xs = [])) :
    Uses (spTail.p ("", []) [some .box, some (.tup xs), some (.lst none pool), some (.int way), some (.int an), some nm, some (.own (odd nm)), some deep5, none, none]) 2 fun o => ∃ d, o = .rt d ∧ Sp (n + 1) (3 * B + 2000) (L + 9) d := by
  have no := (name_it nn).no
  have anl : an ≤ xs.length := by rcases han with h | ⟨h, e⟩ <;> omega
  have c1 := cut_lo anl
  have c2 := cut_hi anl
  have tk := TameL.sub (List.take_sublist an xs) ht
  have dr := TameL.sub (List.drop_sublist an xs) ht
  have up : ∀ {ys : List D} {m : Nat}, TameL n m ys → m ≤ 3 * B + 2000 → TameL (n + 1) (3 * B + 2000) ys := fun h hm => h.le (by omega) hm
  unfold spTail
  by_cases w3 : way < 3
  · refine Uses.ifT (by simp [w3]) ?_
    rw [ret_p]
    have ex : ∀ y ∈ odd nm, y.isOwn = false := fun y m => (odd_ok nn y m).1.rd.no
    have o23 : (odd nm).length = 23 := rfl
    have l1 : (xs.take an).length ≤ 20 := by rw [List.length_take]; omega
    have l2 : (xs.drop an).length ≤ 20 := by rw [List.length_drop]; omega
    simp [slx_tup, c1, c2]
    refine Uses.draw (by decide) (by decide) fun r r0 r1 => ?_
    obtain ⟨y, my, e⟩ := pick_own (G := gt) (xs := odd nm) r0 r1
    obtain ⟨gy, ty⟩ := odd_ok nn y my
    have ny := gy.rd.no
    have a1 : OAddX.p (.tup (xs.take an)) (.tup [y]) = some (.tup (xs.take an ++ [y])) := add_tup (by rw [sizeLine_eq, List.length_singleton]; omega)
    have a2 : OAddX.p (.tup (xs.take an ++ [y])) (.tup (xs.drop an)) = some (.tup (xs.take an ++ [y] ++ xs.drop an)) := add_tup (by rw [sizeLine_eq, List.length_append, List.length_singleton]; omega)
    simp [e, ny, lesz, a1, a2]
    refine Uses.ret ⟨⟨_, rfl⟩, _, rfl, ?_⟩
    have := Sp.tup (n := n + 1) (B := 3 * B + 2000) (L := L + 9) (xs := xs.take an ++ [y] ++ xs.drop an) (by simp; omega) (fun x m => by
      rcases List.mem_append.mp m with m | m
      · rcases List.mem_append.mp m with m | m
        · exact hg x (List.mem_of_mem_take m)
        · simp at m; subst m; exact gy
      · exact hg x (List.mem_of_mem_drop m)) (up ((tk.app (TameL.one (ty.le h16 (Nat.le_refl _)))).app dr) (by omega))
    simpa using this
  refine Uses.ifF (by simp [w3]) ?_
  by_cases w4 : way = 3
  · refine Uses.ifT (by simp [w4]) ?_
    have lc : (cutX xs (some (an : Int)) (some ((an : Int) + 1))).length ≤ 1 := len_cut1
    have a1 : OAddX.p (.tup xs) (.tup (cutX xs (some (an : Int)) (some ((an : Int) + 1)))) = some (.tup (xs ++ cutX xs (some (an : Int)) (some ((an : Int) + 1)))) := add_tup (by rw [sizeLine_eq]; omega)
    refine Uses.rt (d := .tup (xs ++ cutX xs (some (an : Int)) (some ((an : Int) + 1)))) (by simp [slx_tup, a1]) rfl ⟨⟨_, rfl⟩, _, rfl, Sp.tup (by rw [List.length_append]; omega) (fun x m => ?_) (up (ht.app (TameL.sub cut_sub ht)) (by omega))⟩
    rcases List.mem_append.mp m with m | m
    · exact hg x m
    · exact hg x (sub_cutX m)
  refine Uses.ifF (by simp [w4]) ?_
  by_cases w5 : way = 4
  · refine Uses.ifT (by simp [w5]) ?_
    refine Uses.set (d := .lst none (both nm)) (by simp [no, lesz, both]) rfl ?_
    rw [ret_p]
    simp
    refine Uses.draw (by decide) (by decide) fun r r0 r1 => ?_
    obtain ⟨y, my, e⟩ := PL.pick (G := gt) (t := none) (xs := both nm) r0 r1
    simp [e]
    refine Uses.draw (by decide) (by decide) fun r' r0' r1' => ?_
    obtain ⟨z, mz, e'⟩ := PL.pick (G := gt) (t := none) (xs := both nm) r0' r1'
    obtain ⟨gy, ty⟩ := both_ok nn y my
    obtain ⟨gz, tz⟩ := both_ok nn z mz
    have ny := gy.rd.no
    have nz := gz.rd.no
    have a1 : OAddX.p (.tup xs) (.tup [y, z]) = some (.tup (xs ++ [y, z])) := add_tup (by rw [sizeLine_eq]; show _ + 2 ≤ _; omega)
    simp [e', ny, nz, lesz, a1]
    refine Uses.ret ⟨⟨_, rfl⟩, _, rfl, Sp.tup (by simp; omega) (fun x m => ?_) (up (ht.app (TameL.two (ty.le h16 (Nat.le_refl _)) (tz.le h16 (Nat.le_refl _)))) (by omega))⟩
    rcases List.mem_append.mp m with m | m
    · exact hg x m
    · simp at m; rcases m with rfl | rfl
      · exact gy
      · exact gz
  refine Uses.ifF (by simp [w5]) ?_
  by_cases w6 : way = 5
  · refine Uses.ifT (by simp [w6]) ?_
    have cp := pcomp_pure (t := .name 9) (tt := bYes.p ("", [])) (x := (bTup (bCons (bC (.str "count")) (bCons (bVar 9) bNil))).p ("", [])) (p := [some .box, some (.tup xs), some (.lst none pool), some (.int way), some (.int an), some nm, some (.own (odd nm)), some deep5, none, none]) (fun _ => true) (fun r => .tup [.str "count", r]) pool fun r m => ⟨_, rfl, rfl, fun _ => ⟨by simp [(name_it (hn r m)).no, lesz], rfl⟩⟩
    rw [List.filter_eq_self.mpr fun _ _ => rfl] at cp
    have l9 : (pool.map fun r => D.tup [.str "count", r]).length = 9 := by rw [List.length_map, hp]
    have a1 : OAddX.p (.tup xs) (.tup (pool.map fun r => D.tup [.str "count", r])) = some (.tup (xs ++ pool.map fun r => D.tup [.str "count", r])) := add_tup (by rw [sizeLine_eq, l9]; omega)
    refine Uses.rt (d := .tup (xs ++ pool.map fun r => D.tup [.str "count", r])) (by simp [hp, lesz, pwipe, cp, pTuple, a1]) rfl ⟨⟨_, rfl⟩, _, rfl, Sp.tup (by rw [List.length_append, l9]; omega) (fun x m => ?_) (up (ht.app (TameL.uni (n := n) (k := 205) (m := 9) (fun x m => ?_) (by rw [l9]; exact Nat.le_refl _))) (by omega))⟩
    · rcases List.mem_append.mp m with m | m
      · exact hg x m
      · obtain ⟨r, mr, rfl⟩ := List.mem_map.mp m
        exact (cnt_ok (hn r mr)).1
    · obtain ⟨r, mr, rfl⟩ := List.mem_map.mp m
      exact (cnt_ok (hn r mr)).2.le h16 (Nat.le_refl _)
  refine Uses.ifF (by simp [w6]) ?_
  by_cases w7 : way = 6
  · refine Uses.ifT (by simp [w7]) ?_
    rw [ret_p]
    have kp : keysP [] = some [] := rfl
    have lx : OListX.p [.tup xs] = some (.lst none xs) := by simp [pTuple]
    simp [lesz, kp, mergeP, pTuple]
    refine Uses.draw (by decide) (by decide) fun r r0 r1 => ?_
    obtain ⟨y, my, e⟩ := PL.pick (G := gt) (t := none) (xs := [.non, .int 7, .str "", .dct none [], .lst none xs, .tup [.tup xs], .bl true]) r0 r1
    simp [e]
    simp only [List.mem_cons, List.not_mem_nil, or_false] at my
    rcases my with rfl | rfl | rfl | rfl | rfl | rfl | rfl
    · exact Uses.ret ⟨⟨_, rfl⟩, _, rfl, Sp.non⟩
    · exact Uses.ret ⟨⟨_, rfl⟩, _, rfl, Sp.int⟩
    · exact Uses.ret ⟨⟨_, rfl⟩, _, rfl, Sp.str⟩
    · exact Uses.ret ⟨⟨_, rfl⟩, _, rfl, Sp.dct⟩
    · exact Uses.ret ⟨⟨_, rfl⟩, _, rfl, Sp.lst (up ht (by omega))⟩
    · exact Uses.ret ⟨⟨_, rfl⟩, _, rfl, Sp.tup (by simp) (fun x m => by simp at m; subst m; exact gi_nest (by omega) hg) ((TameL.one ht.tup).le (Nat.le_refl _) (by omega))⟩
    · exact Uses.ret ⟨⟨_, rfl⟩, _, rfl, Sp.bl⟩
  refine Uses.ifF (by simp [w7]) ?_
  have rev : Uses ((bRet (bUn ORev (bVar 1))).p ("", []) [some .box, some (.tup xs), some (.lst none pool), some (.int way), some (.int an), some nm, some (.own (odd nm)), some deep5, none, none]) 2 fun o => ∃ d, o = .rt d ∧ Sp (n + 1) (3 * B + 2000) (L + 9) d :=
    Uses.rt (d := .tup xs.reverse) (by simp [pRev]) rfl ⟨_, rfl, Sp.tup (by simp; omega) (fun x m => hg x (by simpa using m)) (up ht.rev (by omega))⟩
  by_cases w8 : way = 7
  · have ne : pvEq (.tup xs) (.tup []) = some xs.isEmpty := ne_nilT (n := n) (k := B) (fun d m => ht.mem m) (by omega)
    cases hx : xs.isEmpty with
    | true =>
      rw [hx] at ne
      exact Uses.ifF (by simp [w8, ne, lesz]) rev
    | false =>
      rw [hx] at ne
      have an2 : an < xs.length := by
        rcases han with h | ⟨_, e⟩
        · exact h
        · rw [e] at hx; cases hx
      have ey : pIx2 gt (.tup xs) (.int an) = some xs[an] := by
        have := atI_nat an2
        simpa [pIx2, pIx, pIxI, an2] using this
      have my : xs[an] ∈ xs := List.getElem_mem an2
      have gy := hg _ my
      have ty := ht.mem my
      generalize xs[an] = y at ey my gy ty
      have iy := isi_p gy.rd.dt "tuple"
      by_cases hy : ∃ zs, y = .tup zs
      · obtain ⟨zs, rfl⟩ := hy
        have iy' : pIsi (.tup zs) "tuple" = some true := iy
        refine Uses.ifT (by simp [w8, ne, ey, iy', lesz]) ?_
        have l1 : (xs.take an).length ≤ 20 := by rw [List.length_take]; omega
        have l2 : (xs.drop (an + 1)).length ≤ 20 := by rw [List.length_drop]; omega
        have c3 : cutX xs (some ((an : Int) + 1)) none = xs.drop (an + 1) := cut_hi (n := an + 1) (by omega)
        have a1 : OAddX.p (.tup (xs.take an)) (.tup [.lst none zs]) = some (.tup (xs.take an ++ [.lst none zs])) := add_tup (by rw [sizeLine_eq, List.length_singleton]; omega)
        have a2 : OAddX.p (.tup (xs.take an ++ [.lst none zs])) (.tup (xs.drop (an + 1))) = some (.tup (xs.take an ++ [.lst none zs] ++ xs.drop (an + 1))) := add_tup (by rw [sizeLine_eq, List.length_append, List.length_singleton]; omega)
        refine Uses.rt (d := .tup (xs.take an ++ [.lst none zs] ++ xs.drop (an + 1))) (by simp [slx_tup, c1, c3, ey, pTuple, lesz, a1, a2]) rfl ⟨⟨_, rfl⟩, _, rfl, Sp.tup (by simp; omega) (fun x m => ?_) ?_⟩
        · rcases List.mem_append.mp m with m | m
          · rcases List.mem_append.mp m with m | m
            · exact hg x (List.mem_of_mem_take m)
            · simp at m; subst m; exact gi_list
          · exact hg x (List.mem_of_mem_drop m)
        · have d2 := TameL.sub (List.drop_sublist (an + 1) xs) ht
          exact (((tk.le (Nat.le_succ n) (Nat.le_refl _)).app (TameL.one ty.items.lst)).app (d2.le (Nat.le_succ n) (Nat.le_refl _))).le (Nat.le_refl _) (by omega)
      · have e := tupNo fun s e => hy ⟨s, e⟩
        rw [e] at iy
        exact Uses.ifF (by simp [w8, ne, ey, iy, gy.rd.no, lesz]) rev
  · exact Uses.ifF (by simp [w8]) rev
theorem spoilt_u {xs pool : List D} {n B L : Nat} (hp : pool.length = 9) (hn : ∀ n ∈ pool, nameB n = true) (hl : xs.length ≤ L) (hL : L ≤ 20) (hg : ∀ x ∈ xs, GI x) (ht : TameL n B xs) (h16 : 16 ≤ n) (h25 : n ≤ 25) : Uses (B__law_spoilt.p [.box, .tup xs, .lst none pool]) 5 fun o => ∃ d, o = .ok d ∧ Sp (n + 1) (3 * B + 2000) (L + 9) d := by
  refine Uses.call (show Uses (S__law_spoilt.p ("", []) [some .box, some (.tup xs), some (.lst none pool), none, none, none, none, none, none, none]) 5 _ from ?_)
  unfold S__law_spoilt
  refine Uses.take rfl rfl (by decide) (by decide) fun way a0 a1 => ?_
  refine Uses.take (mm := if (xs.length : Int) > 1 then xs.length else 1) rfl rfl (by split <;> omega) (by split <;> omega) fun at_ b0 b1 => ?_
  refine Uses.pick rfl rfl rfl rfl (by omega) (by omega) (fun x m => (name_it (hn x m)).no) fun nm mn => ?_
  have nn := hn nm mn
  have no := (name_it nn).no
  refine Uses.stm (p' := [some .box, some (.tup xs), some (.lst none pool), some (.int way), some (.int at_), some nm, some (.own (odd1 nm)), none, none, none]) (by simp [no, lesz, odd1]) ?_
  refine Uses.stm (p' := [some .box, some (.tup xs), some (.lst none pool), some (.int way), some (.int at_), some nm, some (.own (odd1 nm ++ odd2 nm)), none, none, none]) (by simp [no, lesz, PAdd, pAddL, odd1, odd2]) ?_
  rw [seq_p, set_p, deep_p]
  refine Uses.set' rfl ?_
  refine Uses.stm (p' := [some .box, some (.tup xs), some (.lst none pool), some (.int way), some (.int at_), some nm, some (.own (odd1 nm ++ odd2 nm ++ odd3 nm)), some deep5, none, none]) (by simp [no, lesz, PAdd, pAddL, odd1, odd2, odd3]) ?_
  refine Uses.stm (p' := [some .box, some (.tup xs), some (.lst none pool), some (.int way), some (.int at_), some nm, some (.own (odd1 nm ++ odd2 nm ++ odd3 nm ++ odd4 nm)), some deep5, none, none]) (by simp [no, lesz, PAdd, pAddL, odd1, odd2, odd3, odd4]) ?_
  refine Uses.stm (p' := [some .box, some (.tup xs), some (.lst none pool), some (.int way), some (.int at_), some nm, some (.own (odd nm)), some deep5, none, none]) (by simp [no, lesz, ltsz, odd, odd1, odd2, odd3, odd4, deep5]) ?_
  obtain ⟨an, rfl⟩ := Int.eq_ofNat_of_zero_le b0
  refine tail_u hp hn nn hl hL hg ht h16 h25 ?_
  cases xs with
  | nil => right; simp at b1; exact ⟨by omega, rfl⟩
  | cons x xs => left; simp at b1 ⊢; split at b1 <;> omega
end K

set_option Elab.async false
set_option linter.all false
set_option maxRecDepth 100000
set_option maxHeartbeats 1000000
namespace K
open PySem L2 EX PL
noncomputable def turnS : BS := (bIfS (bTru (bCallN OIsi (bCons (bVar 6) (bCons (bC (.ty "tuple")) bNil)))) (bSet 6 (bCall 3 B__law_spoilt (bCons (bVar 2) (bCons (bVar 6) (bCons (bVar 3) bNil))))) bSkip)
noncomputable def stepS : BS := (bSeq (bSet 6 (bVar 4)) (bSeq (bFor (bRange1 (bBin OAddX (bC (.int 1)) (bCall 2 B__law_take (bCons (bVar 2) (bCons (bC (.int 2)) bNil))))) (.name 7) turnS) (bSeq (bPar [8, 9] (bCons (bCallN ORepr (bCons (bCall 1 B__law_good (bCons (bVar 6) bNil)) bNil)) (bCons (bCallN ORepr (bCons (bVar 6) bNil)) bNil))) (bIfS (bOrT (bTest (bBin ONe (bCallN ORepr (bCons (bCall 1 B_are_rules (bCons (bVar 6) bNil)) bNil)) (bVar 8))) (bOrT (bTest (bBin ONe (bCallN ORepr (bCons (bCall 1 B_are_rules (bCons (bVar 6) bNil)) bNil)) (bVar 8))) (bTest (bBin ONe (bCallN ORepr (bCons (bVar 6) bNil)) (bVar 9))))) (bRet (bC (.bl false))) bSkip))))
noncomputable def restS : BS := (bSeq (bSet 3 (bCall 2 B__law_pool (bCons (bVar 2) (bCons (bC (.int 9)) bNil)))) (bSeq (bSet 4 (bCall 2 B__law_rules (bCons (bVar 2) (bCons (bVar 3) bNil)))) (bSeq (bIfS (bOrT (bTest (bBin OIsNot (bCall 1 B_are_rules (bCons (bVar 4) bNil)) (bC (.bl true)))) (bNotT (bTru (bCall 1 B__law_good (bCons (bVar 4) bNil))))) (bRet (bC (.bl false))) bSkip) (bFor (bRange1 (bC (.int 4))) (.name 5) stepS))))
theorem Sp.le {n B L n' B' L' : Nat} {d : D} (h : Sp n B L d) (h1 : n ≤ n') (h2 : B ≤ B') (h3 : L ≤ L') : Sp n' B' L' d := by
  cases h with
  | tup a b c => exact .tup (by omega) b (c.le h1 h2)
  | lst c => exact .lst (c.le h1 h2)
  | non => exact .non
  | int => exact .int
  | str => exact .str
  | dct => exact .dct
  | bl => exact .bl
theorem Sp.dt {n B L : Nat} {d : D} (h : Sp n B L d) : Dt d = true ∧ d.isOwn = false := by
  cases h <;> exact ⟨rfl, rfl⟩
theorem Sp.td {n B L : Nat} {d : D} (h : Sp n B L d) (h1 : n ≤ 25) (h2 : B ≤ 300000) (h3 : L ≤ 60) : TD d where
  dt := h.dt.1
  no := h.dt.2
  len := fun xs e => by subst e; cases h with | tup a b c => omega
  rd := fun xs e r m => by subst e; cases h with | tup a b c => exact (b r m).rd
  tm := fun xs e r m => by subst e; cases h with | tup a b c => exact (c.mem m).le h1 h2
theorem Sp.repr {n B L : Nat} {d : D} (h : Sp n B L d) (h1 : n ≤ 25) (h2 : B ≤ 300000) : ∃ s, pRepr d = some s := by
  cases h with
  | tup a b c => exact c.tup.repr (by omega) h2
  | lst c => exact c.lst.repr (by omega) h2
  | non => exact ⟨_, rfl⟩
  | int => exact (Tame.int (n := 0) (k := 0) (i := 7) (by decide)).repr (by decide) (by decide)
  | str => exact (Tame.str (n := 0) (k := 0) (s := "") (by decide) (by decide)).repr (by decide) (by decide)
  | dct => exact ⟨_, rfl⟩
  | bl => exact ⟨_, rfl⟩
/-- the env in the law -/
def En0 (ns : List D) (k : Int) (pool : List D) (rs d : D) (x5 x7 x8 x9 : Option D) : PEn := [some (.scr ns), some (.int k), some .box, some (.lst none pool), some rs, x5, some d, x7, x8, x9]
theorem turn_u {ns pool : List D} {k : Int} {rs d : D} {x5 x7 x8 x9 : Option D} {n B L : Nat} (hp : pool.length = 9) (hn : ∀ n ∈ pool, nameB n = true) (h : Sp n B L d) (h16 : 16 ≤ n) (h25 : n ≤ 25) (hL : L ≤ 20) :
    Uses (turnS.p ("", []) (En0 ns k pool rs d x5 x7 x8 x9)) 5 fun o => ∃ p', o = .nx p' ∧ ∃ d', p' = En0 ns k pool rs d' x5 x7 x8 x9 ∧ Sp (n + 1) (3 * B + 2000) (L + 9) d' := by
  unfold turnS
  have i1 := isi_p h.dt.1 "tuple"
  by_cases hd : ∃ xs, d = .tup xs
  · obtain ⟨xs, rfl⟩ := hd
    have i2 : pIsi (.tup xs) "tuple" = some true := i1
    cases h with
    | tup a b c =>
      have u := spoilt_u hp hn a hL b c h16 h25
      rw [ifS_p]
      simp [En0, i2]
      simp only [PL.afterE]
      refine Uses.hop 0 u (by decide) ?_
      rintro o ⟨d', rfl, hd'⟩
      simp [hd'.dt.2]
      exact Uses.ret ⟨_, rfl, d', rfl, hd'⟩
  · have e := tupNo fun s e => hd ⟨s, e⟩
    rw [e] at i1
    rw [ifS_p]
    simp [En0, i1, h.dt.2]
    exact Uses.ret ⟨_, rfl, d, rfl, h.le (by omega) (by omega) (by omega)⟩
def En1 (ns : List D) (k : Int) (pool : List D) (rs : D) (p : PEn) : Prop := ∃ x5 x6 x7 x8 x9, p = [some (.scr ns), some (.int k), some .box, some (.lst none pool), some rs, x5, x6, x7, x8, x9]
theorem after_u {ns pool : List D} {k : Int} {rs d : D} {x5 x7 x8 x9 : Option D} {n B L : Nat} (h : Sp n B L d) (h1 : n ≤ 25) (h2 : B ≤ 300000) (h3 : L ≤ 60) {s : BS} (hs : s = (bSeq (bPar [8, 9] (bCons (bCallN ORepr (bCons (bCall 1 B__law_good (bCons (bVar 6) bNil)) bNil)) (bCons (bCallN ORepr (bCons (bVar 6) bNil)) bNil))) (bIfS (bOrT (bTest (bBin ONe (bCallN ORepr (bCons (bCall 1 B_are_rules (bCons (bVar 6) bNil)) bNil)) (bVar 8))) (bOrT (bTest (bBin ONe (bCallN ORepr (bCons (bCall 1 B_are_rules (bCons (bVar 6) bNil)) bNil)) (bVar 8))) (bTest (bBin ONe (bCallN ORepr (bCons (bVar 6) bNil)) (bVar 9))))) (bRet (bC (.bl false))) bSkip))) :
    Uses (s.p ("", []) (En0 ns k pool rs d x5 x7 x8 x9)) 0 fun o => ∃ p', o = .nx p' ∧ En1 ns k pool rs p' := by
  subst hs
  obtain ⟨t, et⟩ := h.repr h1 h2
  have td := h.td h1 h2 h3
  have e1 := rules_p td
  have e2 := good_p td
  obtain ⟨u, eu⟩ : ∃ u, pRepr (.bl (rulesB d)) = some u := (Tame.bl (n := 0) (k := 0)).repr (by decide) (by decide)
  have no := h.dt.2
  simp [En0, et, e1, e2, eu, no, pPar]
  exact Uses.ret ⟨_, rfl, _, _, _, _, _, rfl⟩
theorem step_u {ns pool : List D} {k : Int} {rs : List D} {x5 x6 x7 x8 x9 : Option D} (hp : pool.length = 9) (hn : ∀ n ∈ pool, nameB n = true) (h : Sp 20 8008 8 (.tup rs)) :
    Uses (stepS.p ("", []) [some (.scr ns), some (.int k), some .box, some (.lst none pool), some (.tup rs), x5, x6, x7, x8, x9]) 11 fun o => ∃ p', o = .nx p' ∧ En1 ns k pool (.tup rs) p' := by
  unfold stepS
  refine Uses.set (d := .tup rs) rfl rfl ?_
  show Uses (BS.p _ ("", []) (En0 ns k pool (.tup rs) (.tup rs) x5 x7 x8 x9)) 11 _
  rw [seq_p, for_p]
  have rg : (bRange1 (bBin OAddX (bC (.int 1)) (bCall 2 B__law_take (bCons (bVar 2) (bCons (bC (.int 2)) bNil))))).p ("", []) (En0 ns k pool (.tup rs) (.tup rs) x5 x7 x8 x9) = .draw 2 fun r => if -4611686018427387904 ≤ 1 + r ∧ 1 + r < 4611686018427387904 then .ret (.ok (rng 0 (1 + r).toNat)) else .stuck := by
    simp [En0]
  rw [rg]
  refine Uses.draw (by decide) (by decide) fun r r0 r1 => ?_
  have hr : r = 0 ∨ r = 1 := by omega
  have tn : ∀ {d : D} {y7 : Option D} {n B L : Nat} (j : Int), Sp n B L d → 16 ≤ n → n ≤ 25 → L ≤ 20 → Uses (turnS.p ("", []) ((En0 ns k pool (.tup rs) d x5 y7 x8 x9).set 7 (some (.int j)))) 5 fun o => ∃ p', o = .nx p' ∧ ∃ d', p' = En0 ns k pool (.tup rs) d' x5 (some (.int j)) x8 x9 ∧ Sp (n + 1) (3 * B + 2000) (L + 9) d' := fun j h a b c => turn_u hp hn h a b c
  rcases hr with rfl | rfl
  · show Uses (pSeq (pFor (.name 7) (turnS.p ("", [])) [.int (0 + 0)] _) _) 10 _
    refine Uses.seq (n := 10) (m := 0) (P := fun p => ∃ d, p = En0 ns k pool (.tup rs) d x5 (some (.int (0 + 0))) x8 x9 ∧ Sp 21 26024 17 d) ?_ ?_
    · show Uses (pTurn (turnS.p ("", []) ((En0 ns k pool (.tup rs) (.tup rs) x5 x7 x8 x9).set 7 (some (.int (0 + 0))))) _) 10 _
      refine (Uses.bind (m := 0) (tn _ h (by decide) (by decide) (by decide)) fun o ⟨p', e, d', e2, s2⟩ => ?_).le (by decide)
      subst e; subst e2
      exact Uses.ret ⟨_, rfl, d', rfl, s2⟩
    · rintro p ⟨d, rfl, sd⟩
      exact after_u sd (by decide) (by decide) (by decide) rfl
  · show Uses (pSeq (pFor (.name 7) (turnS.p ("", [])) [.int (0 + 0), .int (0 + 1)] _) _) 10 _
    refine Uses.seq (n := 10) (m := 0) (P := fun p => ∃ d, p = En0 ns k pool (.tup rs) d x5 (some (.int (0 + 1))) x8 x9 ∧ Sp 22 80072 26 d) ?_ ?_
    · show Uses (pTurn (turnS.p ("", []) ((En0 ns k pool (.tup rs) (.tup rs) x5 x7 x8 x9).set 7 (some (.int (0 + 0))))) _) 10 _
      refine (Uses.bind (m := 5) (tn _ h (by decide) (by decide) (by decide)) fun o ⟨p', e, d', e2, s2⟩ => ?_).le (by decide)
      subst e; subst e2
      show Uses (pTurn (turnS.p ("", []) ((En0 ns k pool (.tup rs) d' x5 _ x8 x9).set 7 (some (.int (0 + 1))))) _) 5 _
      refine (Uses.bind (m := 0) (tn _ s2 (by decide) (by decide) (by decide)) fun o ⟨p', e, d2, e2, s3⟩ => ?_).le (by decide)
      subst e; subst e2
      exact Uses.ret ⟨_, rfl, d2, rfl, s3⟩
    · rintro p ⟨d, rfl, sd⟩
      exact after_u sd (by decide) (by decide) (by decide) rfl
theorem rest_u {ns : List D} {k : Int} : Uses (restS.p ("", []) [some (.scr ns), some (.int k), some .box, none, none, none, none, none, none, none]) 140 fun o => ∃ p', o = .nx p' ∧ p'[0]? = some (some (.scr ns)) ∧ p'.length = 10 := by
  unfold restS
  rw [seq_p, set_p]
  have e1 : (bCall 2 B__law_pool (bCons (bVar 2) (bCons (bC (.int 9)) bNil))).p ("", []) [some (.scr ns), some (.int k), some .box, none, none, none, none, none, none, none] = B__law_pool.p [.box, .int 9] := by simp
  rw [e1]
  simp only [PL.afterE, pSeq, Dr.bind_assoc]
  refine Uses.hop 120 pool_u (by decide) ?_
  rintro o ⟨pool, rfl, hp, hn⟩
  show Uses (BS.p _ ("", []) [some (.scr ns), some (.int k), some .box, some (.lst none pool), none, none, none, none, none, none]) 120 _
  rw [seq_p, set_p]
  have e2 : (bCall 2 B__law_rules (bCons (bVar 2) (bCons (bVar 3) bNil))).p ("", []) [some (.scr ns), some (.int k), some .box, some (.lst none pool), none, none, none, none, none, none] = B__law_rules.p [.box, .lst none pool] := by simp
  rw [e2]
  simp only [PL.afterE, pSeq, Dr.bind_assoc]
  refine Uses.hop 50 (rules_u hp hn) (by decide) ?_
  rintro o ⟨rs, rfl, hl, hg, hb⟩
  show Uses (BS.p _ ("", []) [some (.scr ns), some (.int k), some .box, some (.lst none pool), some (.tup rs), none, none, none, none, none]) 50 _
  have hall : ∀ r ∈ rs, ruleB r = true := by
    have : (decide (rs.length ≤ 8) && (rs.all ruleB && (dist (led rs) && dist (cnt rs)))) = true := hb
    simp only [Bool.and_eq_true] at this
    exact List.all_eq_true.mp this.2.1
  have sp : Sp 20 8008 8 (.tup rs) := .tup hl (fun r m => ⟨(hg r m).rd, fun w e => by
    obtain ⟨_, _, _, e2⟩ := rule_shape (hall r m)
    rw [e] at e2; cases e2⟩) (TameL.uni (k := 1000) (m := 8) (fun r m => (hg r m).tm) hl)
  have td := sp.td (by decide) (by decide) (by decide)
  refine Uses.ifF (by simp [rules_p td, good_p td, hb, pIs]) ?_
  rw [for_p]
  show Uses (pFor (.name 5) (stepS.p ("", [])) (rng 0 4) _) 50 _
  refine ((Uses.for (n := 11) (I := fun _ p => En1 ns k pool (.tup rs) p) (rng 0 4) 0 _ ⟨_, _, _, _, _, rfl⟩ fun j d p hd i => ?_).le (by simp)).imp fun o ⟨p', e, x5, x6, x7, x8, x9, e2⟩ => ⟨p', e, by rw [e2]; rfl, by rw [e2]; rfl⟩
  obtain ⟨x5, x6, x7, x8, x9, rfl⟩ := i
  exact ⟨_, rfl, step_u hp hn sp⟩
end K

set_option Elab.async false
set_option linter.all false
set_option maxRecDepth 100000
set_option maxHeartbeats 1000000
namespace K
open PySem L2 EX PL
theorem cell_eq {ns : List Int} {k : Nat} {h : Hh} : ∃ c : Int, f__law_cell [.scr (ns.map Val.int), .int k] h = .ok (.int c) h := by
  have lt : ∀ g : Hh, oLt (.int k) (.int ns.length) g = some (.bl (decide ((k : Int) < ns.length)), g) := fun g => rfl
  by_cases hc : k < ns.length
  · have q : decide ((k : Int) < (ns.length : Int)) = true := decide_eq_true (by omega)
    refine ⟨ns[k], ?_⟩
    have e : oIx2 gt (.scr (ns.map Val.int)) (.int k) h = some (.int ns[k], h) := by
      have : atI (ns.map Val.int) (k : Int) = some (.int ns[k]) := by
        unfold atI ixN
        rw [if_pos (by omega), if_pos (by rw [List.length_map]; omega)]
        simp [List.getElem?_eq_getElem hc]
      show oIx (.scr (ns.map Val.int)) (.int k) h = _
      unfold oIx
      simp only [this, Option.map_some]
    unfold f__law_cell
    rw [call_rt (v := .int ns[k]) (h1 := h), gc_self rfl]
    simp [x__law_cell, sSeq, sIf, xTest, xBin, xVar, xCallN, xCons, xNil, len_scr, lt, hc, sRet, e]
  · have q : decide ((k : Int) < (ns.length : Int)) = false := decide_eq_false (by omega)
    refine ⟨7207 * k + 37, ?_⟩
    have mu : ∀ g : Hh, oMul2 (.int 7207) (.int k) g = some (.int (7207 * k), g) := fun g => by
      unfold oMul2 oMul
      simp
    have ad : ∀ g : Hh, oAdd (.int (7207 * k)) (.int 37) g = some (.int (7207 * k + 37), g) := fun g => rfl
    unfold f__law_cell
    rw [call_rt (v := .int (7207 * k + 37)) (h1 := h), gc_self rfl]
    simp [x__law_cell, sSeq, sIf, xTest, xBin, xVar, xCallN, xCons, xNil, len_scr, lt, hc, sRet, sNil, xC, mu, ad]
theorem purse_eq {c : Int} {h : Hh} : ∃ s, f__law_purse [.int c] h = .ok (.loc h.length) (h ++ [bx s]) ∧ Gd s ∧ s.z ≤ 0 := by
  refine ⟨⟨max 0 (c - 10 ^ 18), c % 2147483543, 0⟩, ?_, ⟨Int.le_max_left _ _, Int.emod_nonneg _ (by decide), by show c % 2147483543 < 2 ^ 31; have := Int.emod_lt_of_pos c (show (0 : Int) < 2147483543 by decide); omega, Int.le_refl _⟩, Int.le_refl _⟩
  have pw : ∀ g : Hh, oPow (.int 10) (.int 18) g = some (.int (10 ^ 18), g) := fun g => rfl
  have sb : ∀ g : Hh, oSub (.int c) (.int (10 ^ 18)) g = some (.int (c - 10 ^ 18), g) := fun g => rfl
  have md : ∀ g : Hh, oMod (.int c) (.int 2147483543) g = some (.int (c % 2147483543), g) := fun g => by
    unfold oMod; simp
  have sz : (3 ≤ sizeLine) = True := by rw [sizeLine_eq]; simp
  have gN : gc h.length (.loc h.length) (h ++ [bx ⟨max 0 (c - 10 ^ 18), c % 2147483543, 0⟩]) = h ++ [bx ⟨max 0 (c - 10 ^ 18), c % 2147483543, 0⟩] := by
    unfold gc
    rw [if_neg]
    rintro ⟨a, _⟩
    simp [Val.und] at a
  unfold f__law_purse
  rw [call_rt (v := .loc h.length) (h1 := h ++ [bx ⟨max 0 (c - 10 ^ 18), c % 2147483543, 0⟩]), gN]
  simp only [x__law_purse, sRet, xLst, xCons, xNil, xCallN, xBin, xVar, xC, List.map_cons, List.map_nil, List.cons_append, List.getElem?_cons_zero, Res.bind_ok, Res.of_some, pw, sb, md, oMax2, List.length_cons, List.length_nil, sz, if_true]
  rfl
noncomputable def XB : XS := sSeq (sSet 2 (xCall 1 f__law_purse (xCons (xCall 2 f__law_cell (xCons (xVar 0) (xCons (xVar 1) (xNil)))) (xNil)))) (restS.c ("", []))
noncomputable def XRg : XI := xRange1 (xCallN oMax (xCons (xC (.int 2)) (xCons (xCallN oMin (xCons (xC (.int 8)) (xCons (xCallN oLen (xCons (xVar 0) (xNil))) (xNil)))) (xNil))))
theorem t_pool : B__law_pool.c = f__law_pool := rfl
theorem t_rules : B__law_rules.c = f__law_rules := rfl
theorem t_spoilt : B__law_spoilt.c = f__law_spoilt := rfl
theorem t_take : B__law_take.c = f__law_take := rfl
theorem t_are : B_are_rules.c = f_are_rules := rfl
theorem t_good : B__law_good.c = f__law_good := rfl
theorem rest_form : restS.c ("", []) = (sSeq (sSet 3 (xCall 2 B__law_pool.c (xCons (xVar 2) (xCons (xC (.int 9)) (xNil))))) (sSeq (sSet 4 (xCall 2 B__law_rules.c (xCons (xVar 2) (xCons (xVar 3) (xNil))))) (sSeq (sIf (xOrT (xTest (xBin oIsNot (xCall 1 B_are_rules.c (xCons (xVar 4) (xNil))) (xC (.bl true)))) (xNotT (xTru (xCall 1 B__law_good.c (xCons (xVar 4) (xNil)))))) (sRet (xC (.bl false))) (sNil)) (sFor (xRange1 (xC (.int 4))) (.name 5) (sSeq (sSet 6 (xVar 4)) (sSeq (sFor (xRange1 (xBin oAdd (xC (.int 1)) (xCall 2 B__law_take.c (xCons (xVar 2) (xCons (xC (.int 2)) (xNil)))))) (.name 7) (sIf (xTru (xCallN oIsi (xCons (xVar 6) (xCons (xC (.ty "tuple")) (xNil))))) (sSet 6 (xCall 3 B__law_spoilt.c (xCons (xVar 2) (xCons (xVar 6) (xCons (xVar 3) (xNil)))))) (sNil))) (sSeq (sPar [8, 9] (xCons (xCallN oRepr (xCons (xCall 1 B__law_good.c (xCons (xVar 6) (xNil))) (xNil))) (xCons (xCallN oRepr (xCons (xVar 6) (xNil))) (xNil)))) (sIf (xOrT (xTest (xBin oNe (xCallN oRepr (xCons (xCall 1 B_are_rules.c (xCons (xVar 6) (xNil))) (xNil))) (xVar 8))) (xOrT (xTest (xBin oNe (xCallN oRepr (xCons (xCall 1 B_are_rules.c (xCons (xVar 6) (xNil))) (xNil))) (xVar 8))) (xTest (xBin oNe (xCallN oRepr (xCons (xVar 6) (xNil))) (xVar 9))))) (sRet (xC (.bl false))) (sNil))))))))) := rfl
theorem law_form : x_law = sSeq (sFor XRg (.name 1) XB) (sRet (xC (.bl true))) := by
  unfold XB
  rw [rest_form, t_pool, t_rules, t_spoilt, t_take, t_are, t_good]
  rfl
theorem step_sp {ns : List Int} {k : Nat} {e : En} {h : Hh} (he : e.length = 10) (e0 : e[0]? = some (some (.scr (ns.map Val.int)))) (e1 : e[1]? = some (some (.int k))) (c : Cl h) : ∃ e' h', XB e h = .nx e' h' ∧ e'.length = 10 ∧ e'[0]? = some (some (.scr (ns.map Val.int))) ∧ Cl h' := by
  obtain ⟨cc, ec⟩ := cell_eq (ns := ns) (k := k) (h := h)
  obtain ⟨s, es, g, z⟩ := purse_eq (c := cc) (h := h)
  have ex : (xCall 1 f__law_purse (xCons (xCall 2 f__law_cell (xCons (xVar 0) (xCons (xVar 1) (xNil)))) (xNil))) e h = .ok (.loc h.length) (h ++ [bx s]) := by
    simp [xCall, xCons, xVar, xNil, e0, e1, ec, es]
  unfold XB
  rw [seq_nx (set_ok ex)]
  refine rest_go (R := restS) (m := 7) (n := 140) (k := k) (s := s) rest_u (by rw [List.length_set, he]) ?_ ?_ ?_ c g (by have : zM = 4194304 := rfl; omega)
  · rw [List.getElem?_set_ne (by decide)]; exact e0
  · rw [List.getElem?_set_ne (by decide)]; exact e1
  · exact List.getElem?_set_self (by omega)
theorem steps_sp {ns : List Int} (all : List Val) : ∀ (ks : List Nat) (h : Hh) (e : En), e.length = 10 → e[0]? = some (some (.scr (ns.map Val.int))) → Cl h → ∃ e' h', forLoop (.items all) (.name 1) XB (ks.map fun (k : Nat) => Val.int ((0 : Int) + k)) e h = .nx e' h'
  | [], h, e, _, _, _ => ⟨e, h, by simp [forLoop, Itn.okAt]⟩
  | k :: ks, h, e, he, e0, c => by
    obtain ⟨e', h1, r1, l1, z1, c1⟩ := step_sp (ns := ns) (k := k) (e := e.set 1 (some (.int ((0 : Int) + k)))) (by rw [List.length_set, he]) (by rw [List.getElem?_set_ne (by decide)]; exact e0) (by rw [List.getElem?_set_self (by omega), Int.zero_add]) c
    obtain ⟨e2, h2, r2⟩ := steps_sp all ks h1 e' l1 z1 c1
    refine ⟨e2, h2, ?_⟩
    rw [List.map_cons]
    unfold forLoop
    have pt : Tg.put (.name 1) (Val.int ((0 : Int) + k)) e = some (e.set 1 (some (.int ((0 : Int) + k)))) := by simp [Tg.put]
    have ok : (Itn.items all).okAt h := trivial
    rw [if_pos ok, pt]
    simp only [r1]
    exact r2
theorem law_eq (ns : List Int) (hn : ns.length ≤ 63) : ∃ h', f_law [.scr (ns.map Val.int)] [] = .ok (.bl true) h' := by
  have ea : (xCallN oMax (xCons (xC (.int 2)) (xCons (xCallN oMin (xCons (xC (.int 8)) (xCons (xCallN oLen (xCons (xVar 0) (xNil))) (xNil)))) (xNil)))) (List.map some [Val.scr (ns.map Val.int)] ++ List.replicate 9 none) [] = .ok (.int (max 2 (min 8 (ns.length : Int)))) [] := by
    simp [xCallN, xCons, xC, xNil, xVar, len_scr, oMin2, oMax2]
  have rg := rg_ok ea (by omega) (by omega)
  obtain ⟨e', h', r⟩ := steps_sp (ns := ns) ((List.range (max 2 (min 8 (ns.length : Int))).toNat).map fun (k : Nat) => Val.int ((0 : Int) + k)) (List.range (max 2 (min 8 (ns.length : Int))).toNat) [] (List.map some [Val.scr (ns.map Val.int)] ++ List.replicate 9 none) rfl rfl rfl
  refine ⟨gc ([] : Hh).length (.bl true) h', ?_⟩
  unfold f_law
  refine call_rt (v := .bl true) (h1 := h') ?_
  rw [law_form]
  refine (seq_nx (e1 := e') (h1 := h') ?_).trans (ret_ok rfl)
  show sFor XRg (.name 1) XB (List.map some [Val.scr (ns.map Val.int)] ++ List.replicate 9 none) [] = _
  unfold sFor XRg
  rw [rg]
  exact r
end K

set_option Elab.async false
set_option linter.all false
set_option maxRecDepth 100000
set_option maxHeartbeats 4000000
namespace K
open PySem PySem.Spec PyProof.Rows L2 EX
def dD_is_whole : He.DefD := ⟨("is_whole", none), "is_whole", "is_whole", defArgs s_is_whole, defBody s_is_whole, defScope s_is_whole, [], []⟩
def dD_is_name : He.DefD := ⟨("is_name", none), "is_name", "is_name", defArgs s_is_name, defBody s_is_name, defScope s_is_name, [], []⟩
def dD_is_text : He.DefD := ⟨("is_text", none), "is_text", "is_text", defArgs s_is_text, defBody s_is_text, defScope s_is_text, [], []⟩
def dD_is_number : He.DefD := ⟨("is_number", none), "is_number", "is_number", defArgs s_is_number, defBody s_is_number, defScope s_is_number, [], []⟩
def dD_is_pair : He.DefD := ⟨("is_pair", none), "is_pair", "is_pair", defArgs s_is_pair, defBody s_is_pair, defScope s_is_pair, [], []⟩
def dD_is_thing : He.DefD := ⟨("is_thing", none), "is_thing", "is_thing", defArgs s_is_thing, defBody s_is_thing, defScope s_is_thing, [], []⟩
def dD_is_worth_within : He.DefD := ⟨("is_worth_within", none), "is_worth_within", "is_worth_within", defArgs s_is_worth_within, defBody s_is_worth_within, defScope s_is_worth_within, [], []⟩
def dD_is_worth : He.DefD := ⟨("is_worth", none), "is_worth", "is_worth", defArgs s_is_worth, defBody s_is_worth, defScope s_is_worth, [], []⟩
def dD_is_rule : He.DefD := ⟨("is_rule", none), "is_rule", "is_rule", defArgs s_is_rule, defBody s_is_rule, defScope s_is_rule, [], []⟩
def dD_are_rules : He.DefD := ⟨("are_rules", none), "are_rules", "are_rules", defArgs s_are_rules, defBody s_are_rules, defScope s_are_rules, [], []⟩
def dD__law_cell : He.DefD := ⟨("_law_cell", none), "_law_cell", "_law_cell", defArgs s__law_cell, defBody s__law_cell, defScope s__law_cell, [], []⟩
def dD__law_purse : He.DefD := ⟨("_law_purse", none), "_law_purse", "_law_purse", defArgs s__law_purse, defBody s__law_purse, defScope s__law_purse, [], []⟩
def dD__law_take : He.DefD := ⟨("_law_take", none), "_law_take", "_law_take", defArgs s__law_take, defBody s__law_take, defScope s__law_take, [], []⟩
def dD__law_pool : He.DefD := ⟨("_law_pool", none), "_law_pool", "_law_pool", defArgs s__law_pool, defBody s__law_pool, defScope s__law_pool, [], []⟩
def dD__law_rules : He.DefD := ⟨("_law_rules", none), "_law_rules", "_law_rules", defArgs s__law_rules, defBody s__law_rules, defScope s__law_rules, [], []⟩
def dD__law_spoilt : He.DefD := ⟨("_law_spoilt", none), "_law_spoilt", "_law_spoilt", defArgs s__law_spoilt, defBody s__law_spoilt, defScope s__law_spoilt, [], []⟩
def dD__law_called : He.DefD := ⟨("_law_called", none), "_law_called", "_law_called", defArgs s__law_called, defBody s__law_called, defScope s__law_called, [], []⟩
def dD__law_worthy : He.DefD := ⟨("_law_worthy", none), "_law_worthy", "_law_worthy", defArgs s__law_worthy, defBody s__law_worthy, defScope s__law_worthy, [], []⟩
def dD__law_rule_good : He.DefD := ⟨("_law_rule_good", none), "_law_rule_good", "_law_rule_good", defArgs s__law_rule_good, defBody s__law_rule_good, defScope s__law_rule_good, [], []⟩
def dD__law_good : He.DefD := ⟨("_law_good", none), "_law_good", "_law_good", defArgs s__law_good, defBody s__law_good, defScope s__law_good, [], []⟩
def dD_law : He.DefD := ⟨("law", none), "law", "law", defArgs s_law, defBody s_law, defScope s_law, [], []⟩
def fn_0 : List He.DefD := [dD_is_whole, dD_is_name, dD_is_text, dD_is_number, dD_is_pair, dD_is_thing, dD_is_worth_within, dD_is_worth, dD_is_rule, dD_are_rules, dD__law_cell, dD__law_purse, dD__law_take, dD__law_pool, dD__law_rules, dD__law_spoilt, dD__law_called, dD__law_worthy, dD__law_rule_good, dD__law_good, dD_law]
def fn : List He.DefD := fn_0
def fa_0 : List He.Fa := [.glo "is_whole", .glo "is_name", .glo "is_text", .glo "is_number", .glo "is_pair", .glo "is_thing", .glo "is_worth_within", .glo "is_worth", .glo "is_rule", .glo "are_rules", .glo "_law_cell", .glo "_law_purse", .glo "_law_take", .glo "_law_pool", .glo "_law_rules", .glo "_law_spoilt", .glo "_law_called", .glo "_law_worthy", .glo "_law_rule_good", .glo "_law_good", .glo "law", .free "all", .free "bool", .free "int", .free "isinstance", .free "len", .free "list", .free "max", .free "min", .free "ord"]
def fa_1 : List He.Fa := [.free "range", .free "repr", .free "set", .free "str", .free "tuple", .glo "LENGTHS", .str "LETTERS" "abcdefghijklmnopqrstuvwxyz", .int "MOST_DEEP" 4, .int "MOST_NAME" 8, .int "MOST_NUMBER" 1000000000, .int "MOST_PARTS" 30, .int "MOST_RULES" 8, .int "MOST_SIGNS" 60, .int "MOST_THING" 999, .glo "NO_NAMES", .int "PER_CENT" 37, .int "QUOTE" 39]
def fa : List He.Fa := fa_0 ++ (fa_1)
def ex (K : PySem.W.Frag) : Bool := smB K && (ctB K ct [] [] [] && (He.valsB K (He.ga K "LENGTHS") (_root_.K.t_LENGTHS.map fun p => (p.1, dvOf p.2)) && (He.tupB K "NO_NAMES" [.str "me", .str "here", .str "none"])))
def loose_0 : List Str := ["MOST_NUMBER", "MOST_THING", "MOST_SIGNS", "MOST_PARTS", "MOST_DEEP", "MOST_NAME", "PER_CENT", "QUOTE", "LETTERS", "NO_NAMES", "is_whole", "is_name", "is_text", "is_number", "is_pair", "is_thing", "is_worth_within", "is_worth", "MOST_RULES", "LENGTHS", "is_rule", "are_rules", "_law_cell", "_law_purse", "_law_take", "_law_pool", "_law_rules", "_law_spoilt", "_law_called", "_law_worthy"]
def loose_1 : List Str := ["_law_rule_good", "_law_good"]
def loose : List Str := loose_0 ++ (loose_1)
abbrev R : PySem.W.OpenRow := PySem.W.OpenLaw.row PySem.Challenge.rw_innerlook_k26_rules_by_form
def ts : List He.Tab := [(fun K => He.ga K "LENGTHS", t_LENGTHS.map (·.1))]
abbrev hk : PySem.W.Hook := hookF 5 fa fn ex ts
def ob (s : PySem.W.SharedT) : AlE := obsF 5 fa fn ex ts (HandSHeadRun.getT s)
theorem ob_eq (s : PySem.W.SharedT) : ob s = hk.obs s.abs := obsF_eq (HandSHeadRun.getT_eq s)
theorem run (w : World) : HandSHeadRun.RunEq R (PySem.W.view R.prog [35]) hk ob 3000 loose w :=
  PySem.W.byRow2 "special-get-raises" (P := fun w => HandSHeadRun.RunEq R (PySem.W.view R.prog [35]) hk ob 3000 loose w) (fun w os => by kernel_rfl) (fun w os => by kernel_rfl) w
theorem facts {K : PySem.W.Frag} {h : Heap} {mg : Str → Option Value} (X : K.In h) (G : h.Ns mainGlobals mg) {w : World} (tt : tabsE ts K = keysE ts w) (c : He.SaysD fa fn K) (e : _root_.K.ex K = true) : ∃ fd : Str → FuncData, Facts K mg w fd := by
  obtain ⟨fd0, F0⟩ := c.def_ 0 (d := dD_is_whole) rfl
  obtain ⟨fd1, F1⟩ := c.def_ 1 (d := dD_is_name) rfl
  obtain ⟨fd2, F2⟩ := c.def_ 2 (d := dD_is_text) rfl
  obtain ⟨fd3, F3⟩ := c.def_ 3 (d := dD_is_number) rfl
  obtain ⟨fd4, F4⟩ := c.def_ 4 (d := dD_is_pair) rfl
  obtain ⟨fd5, F5⟩ := c.def_ 5 (d := dD_is_thing) rfl
  obtain ⟨fd6, F6⟩ := c.def_ 6 (d := dD_is_worth_within) rfl
  obtain ⟨fd7, F7⟩ := c.def_ 7 (d := dD_is_worth) rfl
  obtain ⟨fd8, F8⟩ := c.def_ 8 (d := dD_is_rule) rfl
  obtain ⟨fd9, F9⟩ := c.def_ 9 (d := dD_are_rules) rfl
  obtain ⟨fd10, F10⟩ := c.def_ 10 (d := dD__law_cell) rfl
  obtain ⟨fd11, F11⟩ := c.def_ 11 (d := dD__law_purse) rfl
  obtain ⟨fd12, F12⟩ := c.def_ 12 (d := dD__law_take) rfl
  obtain ⟨fd13, F13⟩ := c.def_ 13 (d := dD__law_pool) rfl
  obtain ⟨fd14, F14⟩ := c.def_ 14 (d := dD__law_rules) rfl
  obtain ⟨fd15, F15⟩ := c.def_ 15 (d := dD__law_spoilt) rfl
  obtain ⟨fd16, F16⟩ := c.def_ 16 (d := dD__law_called) rfl
  obtain ⟨fd17, F17⟩ := c.def_ 17 (d := dD__law_worthy) rfl
  obtain ⟨fd18, F18⟩ := c.def_ 18 (d := dD__law_rule_good) rfl
  obtain ⟨fd19, F19⟩ := c.def_ 19 (d := dD__law_good) rfl
  obtain ⟨fd20, F20⟩ := c.def_ 20 (d := dD_law) rfl
  obtain ⟨e0, e⟩ := He.ba e
  obtain ⟨e1, e⟩ := He.ba e
  obtain ⟨e2, e⟩ := He.ba e
  have e3 := e
  let fd : Str → FuncData := fun x => (([("is_whole", fd0), ("is_name", fd1), ("is_text", fd2), ("is_number", fd3), ("is_pair", fd4), ("is_thing", fd5), ("is_worth_within", fd6), ("is_worth", fd7), ("is_rule", fd8), ("are_rules", fd9), ("_law_cell", fd10), ("_law_purse", fd11), ("_law_take", fd12), ("_law_pool", fd13), ("_law_rules", fd14), ("_law_spoilt", fd15), ("_law_called", fd16), ("_law_worthy", fd17), ("_law_rule_good", fd18), ("_law_good", fd19), ("law", fd20)] : List (Str × FuncData)).lookup x).getD fd0
  have gtb_LENGTHS : GTb K mg w "LENGTHS" t_LENGTHS := gtb_ok (He.glo_ok X G (c.fact 35 (f := .glo "LENGTHS") rfl)) (tab_at tt 0 rfl) e2 (by decide)
  refine ⟨fd, {
    d_is_whole := F0
    g_is_whole := He.glo_ok X G (c.fact 0 (f := .glo "is_whole") rfl)
    d_is_name := F1
    g_is_name := He.glo_ok X G (c.fact 1 (f := .glo "is_name") rfl)
    d_is_text := F2
    g_is_text := He.glo_ok X G (c.fact 2 (f := .glo "is_text") rfl)
    d_is_number := F3
    g_is_number := He.glo_ok X G (c.fact 3 (f := .glo "is_number") rfl)
    d_is_pair := F4
    g_is_pair := He.glo_ok X G (c.fact 4 (f := .glo "is_pair") rfl)
    d_is_thing := F5
    g_is_thing := He.glo_ok X G (c.fact 5 (f := .glo "is_thing") rfl)
    d_is_worth_within := F6
    g_is_worth_within := He.glo_ok X G (c.fact 6 (f := .glo "is_worth_within") rfl)
    d_is_worth := F7
    g_is_worth := He.glo_ok X G (c.fact 7 (f := .glo "is_worth") rfl)
    d_is_rule := F8
    g_is_rule := He.glo_ok X G (c.fact 8 (f := .glo "is_rule") rfl)
    d_are_rules := F9
    g_are_rules := He.glo_ok X G (c.fact 9 (f := .glo "are_rules") rfl)
    d__law_cell := F10
    g__law_cell := He.glo_ok X G (c.fact 10 (f := .glo "_law_cell") rfl)
    d__law_purse := F11
    g__law_purse := He.glo_ok X G (c.fact 11 (f := .glo "_law_purse") rfl)
    d__law_take := F12
    g__law_take := He.glo_ok X G (c.fact 12 (f := .glo "_law_take") rfl)
    d__law_pool := F13
    g__law_pool := He.glo_ok X G (c.fact 13 (f := .glo "_law_pool") rfl)
    d__law_rules := F14
    g__law_rules := He.glo_ok X G (c.fact 14 (f := .glo "_law_rules") rfl)
    d__law_spoilt := F15
    g__law_spoilt := He.glo_ok X G (c.fact 15 (f := .glo "_law_spoilt") rfl)
    d__law_called := F16
    g__law_called := He.glo_ok X G (c.fact 16 (f := .glo "_law_called") rfl)
    d__law_worthy := F17
    g__law_worthy := He.glo_ok X G (c.fact 17 (f := .glo "_law_worthy") rfl)
    d__law_rule_good := F18
    g__law_rule_good := He.glo_ok X G (c.fact 18 (f := .glo "_law_rule_good") rfl)
    d__law_good := F19
    g__law_good := He.glo_ok X G (c.fact 19 (f := .glo "_law_good") rfl)
    d_law := F20
    g_law := He.glo_ok X G (c.fact 20 (f := .glo "law") rfl)
    n_all := He.free_ok X G (c.fact 21 (f := .free "all") rfl)
    n_bool := He.free_ok X G (c.fact 22 (f := .free "bool") rfl)
    n_int := He.free_ok X G (c.fact 23 (f := .free "int") rfl)
    n_isinstance := He.free_ok X G (c.fact 24 (f := .free "isinstance") rfl)
    n_len := He.free_ok X G (c.fact 25 (f := .free "len") rfl)
    n_list := He.free_ok X G (c.fact 26 (f := .free "list") rfl)
    n_max := He.free_ok X G (c.fact 27 (f := .free "max") rfl)
    n_min := He.free_ok X G (c.fact 28 (f := .free "min") rfl)
    n_ord := He.free_ok X G (c.fact 29 (f := .free "ord") rfl)
    n_range := He.free_ok X G (c.fact 30 (f := .free "range") rfl)
    n_repr := He.free_ok X G (c.fact 31 (f := .free "repr") rfl)
    n_set := He.free_ok X G (c.fact 32 (f := .free "set") rfl)
    n_str := He.free_ok X G (c.fact 33 (f := .free "str") rfl)
    n_tuple := He.free_ok X G (c.fact 34 (f := .free "tuple") rfl)
    t_LENGTHS := gtb_LENGTHS
    c_LETTERS := He.str_ok X G (c.fact 36 (f := .str "LETTERS" "abcdefghijklmnopqrstuvwxyz") rfl)
    c_MOST_DEEP := He.int_ok X G (c.fact 37 (f := .int "MOST_DEEP" 4) rfl)
    c_MOST_NAME := He.int_ok X G (c.fact 38 (f := .int "MOST_NAME" 8) rfl)
    c_MOST_NUMBER := He.int_ok X G (c.fact 39 (f := .int "MOST_NUMBER" 1000000000) rfl)
    c_MOST_PARTS := He.int_ok X G (c.fact 40 (f := .int "MOST_PARTS" 30) rfl)
    c_MOST_RULES := He.int_ok X G (c.fact 41 (f := .int "MOST_RULES" 8) rfl)
    c_MOST_SIGNS := He.int_ok X G (c.fact 42 (f := .int "MOST_SIGNS" 60) rfl)
    c_MOST_THING := He.int_ok X G (c.fact 43 (f := .int "MOST_THING" 999) rfl)
    c_NO_NAMES := ⟨_, He.glo_ok X G (c.fact 44 (f := .glo "NO_NAMES") rfl), fun H => He.tupB_ok e3 H⟩
    c_PER_CENT := He.int_ok X G (c.fact 45 (f := .int "PER_CENT" 37) rfl)
    c_QUOTE := He.int_ok X G (c.fact 46 (f := .int "QUOTE" 39) rfl)
    sm := smB_ok e0
    gt := fun x kvs el => by have m := lookup_mem el; simp only [_root_.K.gt, List.mem_cons, List.not_mem_nil, or_false, Prod.mk.injEq] at m; rcases m with m <;> (obtain ⟨rfl, rfl⟩ := m) <;> first | exact gtb_LENGTHS
    ct := ctB_ok (db := []) e1 (fun q m => by cases m) (fun q m => by cases m) (fun d m => by simp at m)
  }⟩
theorem holds_of (hlaw : ∀ ns : List Int, ns.length ≤ 63 → ∃ h', f_law [.scr (ns.map Val.int)] [] = .ok (.bl true) h') : PySem.W.WalkO (PySem.W.view R.prog [35]) loose (PySem.W.XL (PySem.W.view R.prog [35]) []) hk.says R.toRowW (HandSHeadRun.topDef R.prog 35) [] (fun f vs => PySem.call f vs) := by
  refine walk_g (l := PySem.Challenge.rw_innerlook_k26_rules_by_form) (n := 63) (k := 19) (x := "_law_script") rfl (by decide) (by kernel_rfl) ⟨rfl, by decide, by decide⟩ ?F
  intro w mg fa h Y G hmg0
  obtain ⟨K, KX, ⟨c, e⟩, tt⟩ := Y
  have hmg : mg ("law" : PySem.Str) = some (.ref fa) := by
    have e : (HandSHeadRun.topDef R.prog 35).name = ("law" : PySem.Str) := by kernel_rfl
    rw [← e]
    exact hmg0
  obtain ⟨fd, T⟩ := facts KX G tt c e
  have ef := hmg.symm.trans T.g_law
  cases ef
  have b := FunD.bindsA (ps := ["_law_script"]) T.d_law fun _ _ _ _ _ _ us hl => match us, hl with | [_], _ => rfl
  exact ⟨K, fd "law", _, KX, fun s v => b s [v] rfl, fun H a ns hl hO hS => law_sp (K := ⟨K, mg, w⟩) (hlaw ns hl) hO hS, fun base _ _ => ok_law T⟩
end K
open PySem PySem.W PySem.Calls PyProof.Rows
theorem holds (hlaw : ∀ ns : List Int, ns.length ≤ 63 → ∃ h', K.f_law [.scr (ns.map EX.Val.int)] [] = .ok (.bl true) h') : PySem.Challenge.rw_innerlook_k26_rules_by_form.Holds := by
  w_on; o_law
  refine HandSHeadRun.head_any (r := OpenLaw.row PySem.Challenge.rw_innerlook_k26_rules_by_form) (q := view (OpenLaw.row PySem.Challenge.rw_innerlook_k26_rules_by_form).prog [35]) (H := K.hk) (ob := K.ob) (M := 3000) (loose := K.loose) (d := HandSHeadRun.topDef (OpenLaw.row PySem.Challenge.rw_innerlook_k26_rules_by_form).prog 35) (kwd := []) K.ob_eq
    (by kernel_rfl) (fun s => by kernel_rfl) K.run (by kernel_rfl) (by kernel_rfl) (by kernel_rfl) (by rfl) (by first | assumption | decide +kernel) (by decide +kernel) ⟨rfl, rfl, rfl, rfl, rfl, by decide +kernel⟩ ?hw ?hc
  case hw => w_witness2
  case hc => exact K.holds_of hlaw

set_option maxRecDepth 100000 in
set_option maxHeartbeats 8000000 in
theorem PySem.Challenge.cw_innerlook_k26_rules_by_form_holds : PySem.Challenge.rw_innerlook_k26_rules_by_form.Holds := by
  exact holds K.law_eq

import PyProof.Rows.All
import Wide.All
import OpenK.AllK
import Wide.FinOn
import HandS.ForMost
import HandS.Wide
import HandS.Flow
import HandS.Exc
import HandS.ExcOwn
import HandS.CallSlots
import HandS.Defaults
import HandS.WordsExc
import HandS.TupAny
import HandS.TupLe
import HandS.TupMul
import HandS.IsInst
import HandS.Text
import HandS.Deep
import HandS.Conv
import HandS.Style
import PyProof.StrBlock2
import KE.KStateDown
import Lean
import HandS.Ends
import HandS.More
import HandS.Words
import HandS.Head0
import HandS.Head1
import HandS.Head2
import HandS.HeadEnd
import HandS.HeadHook1
import HandS.HeadHook2
import HandS.ExcInit
import HandS.ExcField
import HandS.ExcIs
import KE.KTryMore
import KE.KExcIs
import HandS.HeadHook4
import HandS.SetKeys
import HandS.Zip
import HandS.HeadHook3
import HandS.SetFor
import HandS.SortInts
import HandS.ListItems
import HandS.Finally
import HandS.Keys
import KE.KExcInit
import HandS.SetBool
import KE.KDictOf
import KE.GoesMore
import KE.GoesZip
import KE.KDictZip
import KE.GoesEnum
import PySem.Challenge.RW_innerlook_k11_calls_matched
set_option Elab.async false
set_option linter.all false
set_option maxRecDepth 100000
set_option maxHeartbeats 1000000
namespace EX
open PySem L2

/-- what is fixed: the written part, the module's names, the world -/
structure Gw where
  K : PySem.W.Frag
  mg : Str → Option Value
  w : World
abbrev gw (X : Cx) : Gw := ⟨X.K, X.mg, X.w⟩
inductive Val where
  | non
  | bl (b : Bool)
  | int (i : Int)
  | str (s : Str)
  | tup (xs : List Val)
  | scr (xs : List Val)
  | loc (n : Nat)
  | ref (x : Str)
  | ty (n : String)

inductive Ob where
  | lst (xs : List Val)
  | dct (lk : Bool) (kvs : List (Key × Val))
  | ins (C : Str) (fs : List (Str × Val))

abbrev Hh := List Ob
abbrev En := List (Option Val)

inductive Res (α : Type) where
  | ok (a : α) (h : Hh)
  | exc (c : Str) (fs : List (Str × Val)) (h : Hh)
  | stuck

def Res.bind {α β : Type} (r : Res α) (f : α → Hh → Res β) : Res β := match r with
  | .ok a h => f a h
  | .exc c fs h => .exc c fs h
  | .stuck => .stuck
@[simp] theorem Res.bind_ok {α β : Type} (a : α) (h : Hh) (f : α → Hh → Res β) : (Res.ok a h).bind f = f a h := rfl
@[simp] theorem Res.bind_exc {α β : Type} (c : Str) (fs : List (Str × Val)) (h : Hh) (f : α → Hh → Res β) : (Res.exc c fs h).bind f = .exc c fs h := rfl
@[simp] theorem Res.bind_stuck {α β : Type} (f : α → Hh → Res β) : (Res.stuck : Res α).bind f = .stuck := rfl

/-- an expression, an argument list, a test -/
abbrev XE := En → Hh → Res Val
abbrev XA := En → Hh → Res (List Val)
abbrev XT := En → Hh → Res Bool
/-- an operation on values: none where it is not served -/
abbrev Op1 := Val → Hh → Option (Val × Hh)
abbrev Op2 := Val → Val → Hh → Option (Val × Hh)
abbrev OpN := List Val → Hh → Option (Val × Hh)
def Res.of {α : Type} : Option (α × Hh) → Res α
  | some (a, h) => .ok a h
  | none => .stuck
@[simp] theorem Res.of_some {α : Type} (p : α × Hh) : Res.of (some p) = .ok p.1 p.2 := rfl
@[simp] theorem Res.of_none {α : Type} : Res.of (none : Option (α × Hh)) = .stuck := rfl

inductive RS where
  | nx (e : En) (h : Hh)
  | rt (v : Val) (h : Hh)
  | bk (e : En) (h : Hh)
  | ct (e : En) (h : Hh)
  | exc (c : Str) (fs : List (Str × Val)) (e : En) (h : Hh)
  | stuck
abbrev XS := En → Hh → RS

/-- in an except suite: the slot of its name, the exception's address, its dict's, its fields -/
structure Sx where
  slot : Nat
  a : Addr
  d : Option Addr
  fs : List (Str × Val)
/-- what is wished of exceptions; the suite one is in -/
structure Wd where
  w : WX
  s : Option Sx := none

/-! ### the relation to the abstract heap -/
structure Grow (ρ ρ' : List Addr) (H H' : Hp) : Prop where
  pre : ∃ m, ρ' = ρ ++ m
  xd : ∀ a fs, H a = some (.xd fs) → H' a = some (.xd fs)
  tup : ∀ a xs, H a = some (.tup xs) → H' a = some (.tup xs)
  frz : ∀ a o u, H a = some (.frz o u) → H' a = some (.frz o u)
  ext : ∀ a φ, H a = some (.ext φ) → H' a = some (.ext φ)
theorem Grow.refl (ρ : List Addr) (H : Hp) : Grow ρ ρ H H := ⟨⟨[], by simp⟩, fun _ _ h => h, fun _ _ h => h, fun _ _ _ h => h, fun _ _ h => h⟩
theorem Grow.trans {ρ ρ1 ρ2 : List Addr} {H H1 H2 : Hp} (a : Grow ρ ρ1 H H1) (b : Grow ρ1 ρ2 H1 H2) : Grow ρ ρ2 H H2 := by
  obtain ⟨m, rfl⟩ := a.pre
  obtain ⟨n, rfl⟩ := b.pre
  exact ⟨⟨m ++ n, by rw [List.append_assoc]⟩, fun x xs h => b.xd _ _ (a.xd _ _ h), fun x xs h => b.tup _ _ (a.tup _ _ h), fun x o u h => b.frz _ _ _ (a.frz _ _ _ h), fun x u h => b.ext _ _ (a.ext _ _ h)⟩

def RoS (K : PySem.W.Frag) (H : Hp) (a : Addr) (vs : List V) : Prop := (∃ o, H a = some (.frz o (.lst vs))) ∨
  ∃ (o : Obj) (its : Array Value) (n : Nat), K.lookup a = some o ∧ o.cls = .type "list" ∧ o.dict = none ∧ o.data = .seq its n ∧ its.size ≤ sizeLine ∧ Vals vs its.toList
theorem RoS.sql {K : PySem.W.Frag} {H : Hp} {a : Addr} {vs : List V} (h : RoS K H a vs) : SqL K H a vs := by
  rcases h with ⟨o, h⟩ | h
  · exact .inl (.inr ⟨o, h⟩)
  · exact .inr h

section
variable (K : Gw) (ρ : List Addr) (H : Hp)
mutual
inductive Rep : Val → V → Prop
  | non : Rep .non .non
  | bl (b : Bool) : Rep (.bl b) (.bl b)
  | int (i : Int) : Rep (.int i) (.int i)
  | str (s : Str) : Rep (.str s) (.str s)
  | tup {a : Addr} {xs : List Val} {vs : List V} : SqT K.K H a vs → RepL xs vs → Rep (.tup xs) (.ref a)
  | scr {a : Addr} {xs : List Val} {vs : List V} : RoS K.K H a vs → RepL xs vs → Rep (.scr xs) (.ref a)
  | loc {n : Nat} {a : Addr} : ρ[n]? = some a → Rep (.loc n) (.ref a)
  | ref {x : Str} {a : Addr} : K.mg x = some (.ref a) → Rep (.ref x) (.ref a)
  | ty (n : String) : Rep (.ty n) (.ty n)
inductive RepL : List Val → List V → Prop
  | nil : RepL [] []
  | cons {x : Val} {v : V} {xs : List Val} {vs : List V} : Rep x v → RepL xs vs → RepL (x :: xs) (v :: vs)
end
/-- fields, entries -/
def RepF {κ : Type} (fs : List (κ × Val)) (vs : List (κ × V)) : Prop := Paired (fun (p : κ × Val) (q : κ × V) => p.1 = q.1 ∧ Rep K ρ H p.2 q.2) fs vs

/-- a dict, locked or not -/
def LkR (a : Addr) : Bool → List (Key × V) → Prop
  | false, vs => H a = some (.dK vs)
  | true, vs => ∃ o, H a = some (.frz o (.dK vs))
def ObR (a : Addr) : Ob → Prop
  | .lst xs => ∃ vs, H a = some (.lst vs) ∧ RepL K ρ H xs vs
  | .dct lk kvs => ∃ vs, LkR H a lk vs ∧ RepF K ρ H kvs vs
  | .ins C fs => ∃ Ca dx vs, K.mg C = some (.ref Ca) ∧ H a = some (.ins Ca dx vs) ∧ H dx = some (.own a) ∧ RepF K ρ H fs vs

structure Sim (h : Hh) : Prop where
  len : ρ.length = h.length
  nd : ρ.Nodup
  at_ : ∀ (n : Nat) (o : Ob), h[n]? = some o → ∃ a, ρ[n]? = some a ∧ ObR K ρ H a o

/-- the fields of an exception at its dict -/
def XcR (fs : List (Str × Val)) : Option Addr → Prop
  | none => fs = []
  | some d => ∃ vs, H d = some (.xd vs) ∧ RepF K ρ H fs vs
def EnvR (sx : Option Sx) (env : En) (σ : St) : Prop := env.length = σ.length ∧ (∀ (i : Nat) (x : Val), env[i]? = some (some x) → ∃ v, σ[i]? = some (some v) ∧ Rep K ρ H x v) ∧
  ∀ q, sx = some q → σ[q.slot]? = some (some (.ref q.a)) ∧ XcR K ρ H q.fs q.d
end

section
variable {K : Gw} {ρ ρ' : List Addr} {H H' : Hp}
theorem Grow.get {n : Nat} {a : Addr} (g : Grow ρ ρ' H H') (h : ρ[n]? = some a) : ρ'[n]? = some a := by
  obtain ⟨m, rfl⟩ := g.pre
  have hl := (List.getElem?_eq_some_iff.mp h).1
  rw [List.getElem?_append_left hl]
  exact h
theorem Grow.sqt {a : Addr} {xs : List V} (g : Grow ρ ρ' H H') (h : SqT K.K H a xs) : SqT K.K H' a xs := by
  rcases h with (h | ⟨o, h⟩) | h
  · exact .inl (.inl (g.tup _ _ h))
  · exact .inl (.inr ⟨o, g.frz _ _ _ h⟩)
  · exact .inr h
theorem Grow.ros {a : Addr} {xs : List V} (g : Grow ρ ρ' H H') (h : RoS K.K H a xs) : RoS K.K H' a xs := by
  rcases h with ⟨o, h⟩ | h
  · exact .inl ⟨o, g.frz _ _ _ h⟩
  · exact .inr h
mutual
theorem Rep.mono (g : Grow ρ ρ' H H') : ∀ {x : Val} {v : V}, Rep K ρ H x v → Rep K ρ' H' x v
  | _, _, .non => .non
  | _, _, .bl b => .bl b
  | _, _, .int i => .int i
  | _, _, .str s => .str s
  | _, _, .tup s r => .tup (g.sqt s) (RepL.mono g r)
  | _, _, .scr s r => .scr (g.ros s) (RepL.mono g r)
  | _, _, .loc e => .loc (g.get e)
  | _, _, .ref e => .ref e
  | _, _, .ty n => .ty n
theorem RepL.mono (g : Grow ρ ρ' H H') : ∀ {xs : List Val} {vs : List V}, RepL K ρ H xs vs → RepL K ρ' H' xs vs
  | _, _, .nil => .nil
  | _, _, .cons a b => .cons (Rep.mono g a) (RepL.mono g b)
end
theorem RepF.mono {κ : Type} (g : Grow ρ ρ' H H') {fs : List (κ × Val)} {vs : List (κ × V)} (h : RepF K ρ H fs vs) : RepF K ρ' H' fs vs :=
  Paired.mapP h fun _ _ z => ⟨z.1, z.2.mono g⟩
theorem XcR.mono {fs : List (Str × Val)} {d : Option Addr} (g : Grow ρ ρ' H H') (h : XcR K ρ H fs d) : XcR K ρ' H' fs d := by
  cases d with
  | none => exact h
  | some a => obtain ⟨vs, e, r⟩ := h; exact ⟨vs, g.xd _ _ e, r.mono g⟩
variable {sx : Option Sx}
theorem EnvR.mono {env : En} {σ : St} (g : Grow ρ ρ' H H') (h : EnvR K ρ H sx env σ) : EnvR K ρ' H' sx env σ :=
  ⟨h.1, fun i x e => let ⟨v, e1, r⟩ := h.2.1 i x e; ⟨v, e1, r.mono g⟩, fun q e => ⟨(h.2.2 q e).1, (h.2.2 q e).2.mono g⟩⟩
theorem EnvR.drop {env : En} {σ : St} (h : EnvR K ρ H sx env σ) : EnvR K ρ H none env σ := ⟨h.1, h.2.1, fun _ e => by cases e⟩
theorem EnvR.set {env : En} {σ : St} {x : Val} {v : V} (h : EnvR K ρ H sx env σ) (i : Nat) (r : Rep K ρ H x v) (hn : ∀ q, sx = some q → q.slot ≠ i) : EnvR K ρ H sx (env.set i (some x)) (σ.set i (some v)) := by
  refine ⟨by rw [List.length_set, List.length_set]; exact h.1, fun j y e => ?_, fun q e => ⟨by rw [List.getElem?_set_ne (Ne.symm (hn q e))]; exact (h.2.2 q e).1, (h.2.2 q e).2⟩⟩
  by_cases hj : i = j
  · subst hj
    by_cases hl : i < env.length
    · rw [List.getElem?_set_self hl] at e
      cases e
      exact ⟨v, List.getElem?_set_self (by rw [← h.1]; exact hl), r⟩
    · rw [List.getElem?_eq_none (by rw [List.length_set]; omega)] at e
      cases e
  · rw [List.getElem?_set_ne hj] at e
    rw [List.getElem?_set_ne hj]
    exact h.2.1 j y e
theorem EnvR.unset {env : En} {σ : St} (h : EnvR K ρ H none env σ) (i : Nat) (z : Option V) : EnvR K ρ H none (env.set i none) (σ.set i z) := by
  refine ⟨by rw [List.length_set, List.length_set]; exact h.1, fun j y e => ?_, fun _ e => by cases e⟩
  by_cases hj : i = j
  · subst hj
    by_cases hl : i < env.length
    · rw [List.getElem?_set_self hl] at e
      cases e
    · rw [List.getElem?_eq_none (by rw [List.length_set]; omega)] at e
      cases e
  · rw [List.getElem?_set_ne hj] at e
    rw [List.getElem?_set_ne hj]
    exact h.2.1 j y e
theorem RepL.length : ∀ {xs : List Val} {vs : List V}, RepL K ρ H xs vs → xs.length = vs.length
  | _, _, .nil => rfl
  | _, _, .cons _ b => by rw [List.length_cons, List.length_cons, RepL.length b]
theorem RepL.get : ∀ {xs : List Val} {vs : List V} {i : Nat} {x : Val}, RepL K ρ H xs vs → xs[i]? = some x → ∃ v, vs[i]? = some v ∧ Rep K ρ H x v
  | _, _, _, _, .nil, e => by simp at e
  | _, _, 0, _, .cons r _, e => by simp at e; subst e; exact ⟨_, rfl, r⟩
  | _, _, i + 1, x, .cons _ t, e => by
    obtain ⟨u, h1, h2⟩ := RepL.get (i := i) (x := x) t (by simpa using e)
    exact ⟨u, by simpa using h1, h2⟩
theorem RepL.getV : ∀ {xs : List Val} {vs : List V} {i : Nat} {v : V}, RepL K ρ H xs vs → vs[i]? = some v → ∃ x, xs[i]? = some x ∧ Rep K ρ H x v
  | _, _, _, _, .nil, e => by simp at e
  | _, _, 0, _, .cons r _, e => by simp at e; subst e; exact ⟨_, rfl, r⟩
  | _, _, i + 1, x, .cons _ t, e => by
    obtain ⟨u, h1, h2⟩ := RepL.getV (i := i) (v := x) t (by simpa using e)
    exact ⟨u, by simpa using h1, h2⟩
theorem RepL.append : ∀ {xs ys : List Val} {vs ws : List V}, RepL K ρ H xs vs → RepL K ρ H ys ws → RepL K ρ H (xs ++ ys) (vs ++ ws)
  | _, _, _, _, .nil, s => s
  | _, _, _, _, .cons r t, s => .cons r (RepL.append t s)
theorem RepL.take : ∀ {xs : List Val} {vs : List V} (n : Nat), RepL K ρ H xs vs → RepL K ρ H (xs.take n) (vs.take n)
  | _, _, 0, _ => .nil
  | _, _, _ + 1, .nil => .nil
  | _, _, n + 1, .cons r t => .cons r (RepL.take n t)
theorem RepL.drop : ∀ {xs : List Val} {vs : List V} (n : Nat), RepL K ρ H xs vs → RepL K ρ H (xs.drop n) (vs.drop n)
  | _, _, 0, r => r
  | _, _, _ + 1, .nil => .nil
  | _, _, n + 1, .cons _ t => RepL.drop n t
theorem RepL.set {x : Val} {v : V} (r : Rep K ρ H x v) : ∀ {xs : List Val} {vs : List V} (i : Nat), RepL K ρ H xs vs → RepL K ρ H (xs.set i x) (vs.set i v)
  | _, _, _, .nil => .nil
  | _, _, 0, .cons _ t => .cons r t
  | _, _, i + 1, .cons q t => .cons q (RepL.set r i t)
theorem RepL.reverse {xs : List Val} {vs : List V} (h : RepL K ρ H xs vs) : RepL K ρ H xs.reverse vs.reverse := by
  induction xs generalizing vs with
  | nil => cases h; exact .nil
  | cons x xs ih =>
    cases h with
    | cons r t =>
      rw [List.reverse_cons, List.reverse_cons]
      exact (ih t).append (.cons r .nil)

/-! ### the heap grows, changes -/
theorem LkR.eq {a : Addr} {lk : Bool} {vs : List (Key × V)} (k : H' a = H a) (h : LkR H a lk vs) : LkR H' a lk vs := by
  cases lk with
  | false => exact k.trans h
  | true => obtain ⟨o, e⟩ := h; exact ⟨o, k.trans e⟩
theorem LkR.some {a : Addr} {lk : Bool} {vs : List (Key × V)} (h : LkR H a lk vs) : H a ≠ none := by
  cases lk with
  | false => rw [show H a = _ from h]; simp
  | true => obtain ⟨o, e⟩ := h; rw [e]; simp
theorem LkR.rd {a : Addr} {lk : Bool} {vs : List (Key × V)} (h : LkR H a lk vs) : Rd H a (.dK vs) := by
  cases lk with
  | false => exact .inl h
  | true => exact .inr h
theorem ObR.mono {a : Addr} {o : Ob} (g : Grow ρ ρ' H H') (k : H' a = H a) (kd : ∀ d, H d = some (.own a) → H' d = some (.own a)) (h : ObR K ρ H a o) : ObR K ρ' H' a o := by
  cases o with
  | lst xs => obtain ⟨vs, e, r⟩ := h; exact ⟨vs, k.trans e, r.mono g⟩
  | dct lk kvs => obtain ⟨vs, e, r⟩ := h; exact ⟨vs, e.eq k, r.mono g⟩
  | ins C fs => obtain ⟨Ca, dx, vs, m, e, d, r⟩ := h; exact ⟨Ca, dx, vs, m, k.trans e, kd _ d, r.mono g⟩
theorem ObR.some {a : Addr} {o : Ob} (h : ObR K ρ H a o) : H a ≠ none := by
  cases o with
  | lst xs => obtain ⟨vs, e, r⟩ := h; rw [e]; simp
  | dct lk kvs => obtain ⟨vs, e, r⟩ := h; exact e.some
  | ins C fs => obtain ⟨Ca, dx, vs, m, e, d, r⟩ := h; rw [e]; simp
theorem Sim.get {h : Hh} (S : Sim K ρ H h) {n : Nat} {a : Addr} (e : ρ[n]? = some a) : ∃ o, h[n]? = some o ∧ ObR K ρ H a o := by
  have hl := (List.getElem?_eq_some_iff.mp e).1
  have hl' : n < h.length := by rw [← S.len]; exact hl
  obtain ⟨b, e', r⟩ := S.at_ n _ (List.getElem?_eq_getElem hl')
  rw [e] at e'
  cases e'
  exact ⟨_, List.getElem?_eq_getElem hl', r⟩
theorem Sim.tracked {h : Hh} (S : Sim K ρ H h) {a : Addr} (m : a ∈ ρ) : H a ≠ none := by
  obtain ⟨n, hn⟩ := List.getElem?_of_mem m
  obtain ⟨o, _, r⟩ := S.get hn
  exact r.some
theorem Grow.new {p : Addr} {o : HO} (hp : H p = none) : Grow ρ ρ H (upd H p o) :=
  ⟨⟨[], by simp⟩, fun a xs h => by rw [upd_ne (ne_of_none h hp)]; exact h, fun a xs h => by rw [upd_ne (ne_of_none h hp)]; exact h, fun a o u h => by rw [upd_ne (ne_of_none h hp)]; exact h, fun a u h => by rw [upd_ne (ne_of_none h hp)]; exact h⟩
/-- a new untracked-by-us object (a tuple) -/
theorem Sim.new {h : Hh} {p : Addr} {o : HO} (S : Sim K ρ H h) (hp : H p = none) : Sim K ρ (upd H p o) h :=
  ⟨S.len, S.nd, fun n u e => let ⟨a, e1, r⟩ := S.at_ n u e
    ⟨a, e1, r.mono (Grow.new hp) (upd_ne (fun z => r.some (z ▸ hp))) fun d hd => by rw [upd_ne (ne_of_none hd hp)]; exact hd⟩⟩
theorem nodup_snoc {α : Type} {l : List α} {a : α} (h : l.Nodup) (n : a ∉ l) : (l ++ [a]).Nodup := by
  rw [List.nodup_append]
  refine ⟨h, by simp, fun x hx y hy => ?_⟩
  rw [List.mem_singleton] at hy
  subst hy
  exact fun z => n (z ▸ hx)
theorem Grow.snoc {p : Addr} (g : Grow ρ ρ H H') : Grow ρ (ρ ++ [p]) H H' := ⟨⟨[p], rfl⟩, g.xd, g.tup, g.frz, g.ext⟩
/-- a new object of ours -/
theorem Sim.laid {h : Hh} {p : Addr} {o : HO} {u : Ob} (S : Sim K ρ H h) (hp : H p = none) (hu : ObR K (ρ ++ [p]) (upd H p o) p u) : Sim K (ρ ++ [p]) (upd H p o) (h ++ [u]) := by
  have np : p ∉ ρ := fun z => S.tracked z hp
  refine ⟨by rw [List.length_append, List.length_append, S.len]; rfl, nodup_snoc S.nd np, fun n w e => ?_⟩
  by_cases hn : n < h.length
  · rw [List.getElem?_append_left hn] at e
    obtain ⟨a, e1, r⟩ := S.at_ n w e
    refine ⟨a, by rw [List.getElem?_append_left (by rw [S.len]; exact hn)]; exact e1, r.mono (Grow.new hp).snoc (upd_ne (fun z => r.some (z ▸ hp))) fun d hd => ?_⟩
    rw [upd_ne (ne_of_none hd hp)]; exact hd
  · have e0 : n = h.length := by
      have := (List.getElem?_eq_some_iff.mp e).1
      rw [List.length_append, List.length_singleton] at this
      omega
    subst e0
    rw [List.getElem?_append_right (Nat.le_refl _), Nat.sub_self] at e
    cases e
    refine ⟨p, ?_, hu⟩
    rw [List.getElem?_append_right (by rw [S.len]; exact Nat.le_refl _), S.len, Nat.sub_self]
    rfl
/-- what is mutable of ours -/
def Mu : Option HO → Prop
  | some (.lst _) => True
  | some (.dK _) => True
  | some (.ins _ _ _) => True
  | _ => False
theorem Grow.put {a : Addr} {o : HO} (m : Mu (H a)) : Grow ρ ρ H (upd H a o) :=
  ⟨⟨[], by simp⟩, fun b xs h => by
    by_cases e : b = a
    · subst e; rw [h] at m; exact m.elim
    · rw [upd_ne e]; exact h, fun b xs h => by
    by_cases e : b = a
    · subst e; rw [h] at m; exact m.elim
    · rw [upd_ne e]; exact h, fun b z u h => by
    by_cases e : b = a
    · subst e; rw [h] at m; exact m.elim
    · rw [upd_ne e]; exact h, fun b u h => by
    by_cases e : b = a
    · subst e; rw [h] at m; exact m.elim
    · rw [upd_ne e]; exact h⟩
theorem nodup_idx {α : Type} {l : List α} (h : l.Nodup) {i j : Nat} {a : α} (hi : l[i]? = some a) (hj : l[j]? = some a) : i = j := by
  obtain ⟨h1, e1⟩ := List.getElem?_eq_some_iff.mp hi
  obtain ⟨h2, e2⟩ := List.getElem?_eq_some_iff.mp hj
  exact (List.getElem_inj (h₀ := h1) (h₁ := h2) h).mp (e1.trans e2.symm)
theorem Sim.put {h : Hh} {n : Nat} {a : Addr} {o : HO} {u : Ob} (S : Sim K ρ H h) (ha : ρ[n]? = some a) (m : Mu (H a)) (hu : ObR K ρ (upd H a o) a u) : Sim K ρ (upd H a o) (h.set n u) := by
  refine ⟨by rw [List.length_set]; exact S.len, S.nd, fun j w e => ?_⟩
  by_cases hj : n = j
  · subst hj
    by_cases hl : n < h.length
    · rw [List.getElem?_set_self hl] at e
      cases e
      exact ⟨a, ha, hu⟩
    · rw [List.getElem?_eq_none (by rw [List.length_set]; omega)] at e
      cases e
  · rw [List.getElem?_set_ne hj] at e
    obtain ⟨b, e1, r⟩ := S.at_ j w e
    have nb : b ≠ a := fun z => hj (nodup_idx S.nd ha (z ▸ e1))
    refine ⟨b, e1, r.mono (Grow.put m) (upd_ne nb) fun d hd => ?_⟩
    have nd : d ≠ a := fun z => by subst z; rw [hd] at m; exact m
    rw [upd_ne nd]; exact hd
end

/-! ### what is wished behind -/
def Post {α : Type} (K : Gw) (W : Wd) (σ : St) (ρ : List Addr) (H : Hp) (R : α → Hh → List Addr → Hp → Prop) : Res α → Prop
  | .ok a h => ∀ ρ' H', Grow ρ ρ' H H' → Sim K ρ' H' h → R a h ρ' H'
  | .exc c fs h => ∀ ρ' H' d cv, Grow ρ ρ' H H' → Sim K ρ' H' h → XcR K ρ' H' fs d → K.mg c = some cv → W.w cv d σ H'
  | .stuck => False
section
variable {α β : Type} {K : Gw} {W : Wd} {σ : St} {ρ ρ' : List Addr} {H H' : Hp}
theorem Post.mono {R : α → Hh → List Addr → Hp → Prop} {r : Res α} (g : Grow ρ ρ' H H') (h : Post K W σ ρ H R r) : Post K W σ ρ' H' R r := by
  cases r with
  | ok a h' => exact fun ρ2 H2 g2 s => h ρ2 H2 (g.trans g2) s
  | exc c fs h' => exact fun ρ2 H2 d cv g2 s x => h ρ2 H2 d cv (g.trans g2) s x
  | stuck => exact h
theorem Post.bind {R : β → Hh → List Addr → Hp → Prop} {r : Res α} {f : α → Hh → Res β} (h : Post K W σ ρ H R (r.bind f)) : Post K W σ ρ H (fun a h1 ρ1 H1 => Post K W σ ρ1 H1 R (f a h1)) r := by
  cases r with
  | ok a h' => exact fun ρ2 H2 g2 _ => Post.mono g2 h
  | exc c fs h' => exact h
  | stuck => exact h
theorem Post.imp {R R' : α → Hh → List Addr → Hp → Prop} {r : Res α} (h : Post K W σ ρ H R r) (k : ∀ a h' ρ' H', Grow ρ ρ' H H' → Sim K ρ' H' h' → R a h' ρ' H' → R' a h' ρ' H') : Post K W σ ρ H R' r := by
  cases r with
  | ok a h' => exact fun ρ2 H2 g2 s => k _ _ _ _ g2 s (h ρ2 H2 g2 s)
  | exc c fs h' => exact h
  | stuck => exact h
end
def RV (K : Gw) (Q : VK) : Val → Hh → List Addr → Hp → Prop := fun a _ ρ H => ∀ u, Rep K ρ H a u → Q u H
def RL (K : Gw) (Q : List V → Hp → Prop) : List Val → Hh → List Addr → Hp → Prop := fun a _ ρ H => ∀ us, RepL K ρ H a us → Q us H
def RB (Q : Bool → Hp → Prop) : Bool → Hh → List Addr → Hp → Prop := fun b _ _ H => Q b H
/-- the readings -/
def tX (K : Gw) (W : Wd) (x : XE) : TE := fun σ H Q => ∃ ρ env h, Sim K ρ H h ∧ EnvR K ρ H W.s env σ ∧ Post K W σ ρ H (RV K Q) (x env h)
def tXT (K : Gw) (W : Wd) (x : XT) : TT := fun σ H Q => ∃ ρ env h, Sim K ρ H h ∧ EnvR K ρ H W.s env σ ∧ Post K W σ ρ H (RB Q) (x env h)
def tXA (K : Gw) (W : Wd) (x : XA) : TA := fun σ H Q => ∃ ρ env h, Sim K ρ H h ∧ EnvR K ρ H W.s env σ ∧ Post K W σ ρ H (RL K Q) (x env h)
def PostS (K : Gw) (W : Wd) (ρ : List Addr) (H : Hp) (D : Ends) : RS → Prop
  | .nx e h => ∀ ρ' H' σ', Grow ρ ρ' H H' → Sim K ρ' H' h → EnvR K ρ' H' W.s e σ' → D.nx σ' H'
  | .rt v h => ∀ ρ' H' u, Grow ρ ρ' H H' → Sim K ρ' H' h → Rep K ρ' H' v u → D.rt u H'
  | .bk e h => ∀ ρ' H' σ', Grow ρ ρ' H H' → Sim K ρ' H' h → EnvR K ρ' H' W.s e σ' → D.bk σ' H'
  | .ct e h => ∀ ρ' H' σ', Grow ρ ρ' H H' → Sim K ρ' H' h → EnvR K ρ' H' W.s e σ' → D.ct σ' H'
  | .exc c fs e h => ∀ ρ' H' d σ' cv, Grow ρ ρ' H H' → Sim K ρ' H' h → EnvR K ρ' H' W.s e σ' → XcR K ρ' H' fs d → K.mg c = some cv → W.w cv d σ' H'
  | .stuck => False
def tXS (K : Gw) (W : Wd) (x : XS) : TS := fun D σ H => ∃ ρ env h, Sim K ρ H h ∧ EnvR K ρ H W.s env σ ∧ PostS K W ρ H D (x env h)
theorem PostS.mono {K : Gw} {W : Wd} {ρ ρ' : List Addr} {H H' : Hp} {D : Ends} {r : RS} (g : Grow ρ ρ' H H') (h : PostS K W ρ H D r) : PostS K W ρ' H' D r := by
  cases r with
  | nx e h' => exact fun ρ2 H2 σ' g2 => h ρ2 H2 σ' (g.trans g2)
  | rt e h' => exact fun ρ2 H2 σ' g2 => h ρ2 H2 σ' (g.trans g2)
  | bk e h' => exact fun ρ2 H2 σ' g2 => h ρ2 H2 σ' (g.trans g2)
  | ct e h' => exact fun ρ2 H2 σ' g2 => h ρ2 H2 σ' (g.trans g2)
  | exc c fs e h' => exact fun ρ2 H2 d σ' cv g2 => h ρ2 H2 d σ' cv (g.trans g2)
  | stuck => exact h

section
variable {X : Cx}
theorem PE.of {e : Expr} {t t' : TE} (h : PE X e t) (w : ∀ σ H Q, t' σ H Q → t σ H Q) : PE X e t' := ⟨fun pins s σ H Q I q => h.run pins s σ H Q I (w σ H Q q)⟩
theorem PT.of {e : Expr} {t t' : TT} (h : PT X e t) (w : ∀ σ H Q, t' σ H Q → t σ H Q) : PT X e t' := ⟨fun pins s σ H Q I q => h.run pins s σ H Q I (w σ H Q q)⟩
theorem PW.of {e : Expr} {t t' : TT} (h : PW X e t) (w : ∀ σ H Q, t' σ H Q → t σ H Q) : PW X e t' := ⟨fun wh pins s σ H Q I q => h.run wh pins s σ H Q I (w σ H Q q)⟩
theorem PA.of {es : List Expr} {t t' : TA} (h : PA X es t) (w : ∀ σ H Q, t' σ H Q → t σ H Q) : PA X es t' := ⟨fun pos pins s σ H Q I q => h.run pos pins s σ H Q I (w σ H Q q)⟩
theorem PS.of {st : Stmt} {t t' : TS} (h : PS X st t) (w : ∀ D σ H, t' D σ H → t D σ H) : PS X st t' := ⟨fun pins s σ H D I q => h.run pins s σ H D I (w D σ H q)⟩
theorem PSs.of {st : List Stmt} {t t' : TS} (h : PSs X st t) (w : ∀ D σ H, t' D σ H → t D σ H) : PSs X st t' := ⟨fun pins s σ H D I q => h.run pins s σ H D I (w D σ H q)⟩
end
/-- the judgements -/
abbrev QE (X : Cx) (W : Wd) (e : Expr) (x : XE) : Prop := PE X e (tX (gw X) W x)
abbrev QT (X : Cx) (W : Wd) (e : Expr) (x : XT) : Prop := PT X e (tXT (gw X) W x)
abbrev QW (X : Cx) (W : Wd) (e : Expr) (x : XT) : Prop := PW X e (tXT (gw X) W x)
abbrev QA (X : Cx) (W : Wd) (e : List Expr) (x : XA) : Prop := PA X e (tXA (gw X) W x)
abbrev QS (X : Cx) (W : Wd) (e : Stmt) (x : XS) : Prop := PS X e (tXS (gw X) W x)
abbrev QSs (X : Cx) (W : Wd) (e : List Stmt) (x : XS) : Prop := PSs X e (tXS (gw X) W x)

/-! ### names, constants, operators -/
def xVar (i : Nat) : XE := fun env h => match env[i]? with
  | some (some v) => .ok v h
  | _ => .stuck
def xC (v : Val) : XE := fun _ h => .ok v h
def xBin (o : Op2) (a b : XE) : XE := fun env h => (a env h).bind fun x h1 => (b env h1).bind fun y h2 => Res.of (o x y h2)
def xUn (o : Op1) (a : XE) : XE := fun env h => (a env h).bind fun x h1 => Res.of (o x h1)
section
variable {X : Cx} {W : Wd} {a b c : Expr} {pos : Pos} {xa xb xc : XE}
theorem q_var (i : Nat) {x : Str} (h : PE X (.Name x pos) (tVar i)) : QE X W (.Name x pos) (xVar i) := PE.of h fun σ H Q ⟨ρ, env, h, S, E, p⟩ => by
  unfold xVar at p
  cases e : env[i]? with
  | none => rw [e] at p; exact p.elim
  | some o =>
    cases o with
    | none => rw [e] at p; exact p.elim
    | some v =>
      rw [e] at p
      obtain ⟨u, e1, r⟩ := E.2.1 i v e
      exact ⟨u, e1, p ρ H (Grow.refl _ _) S u r⟩
theorem q_c {e : Expr} {v : Val} {u : V} (h : PE X e (tC u)) (r : ∀ ρ H, Rep (gw X) ρ H v u) : QE X W e (xC v) := PE.of h fun σ H Q ⟨ρ, env, h, S, E, p⟩ => p ρ H (Grow.refl _ _) S u (r ρ H)
theorem q_int {i : Int} {j : Nat} : QE X W (.Constant (.int i) j pos) (xC (.int i)) := q_c pe_int fun _ _ => .int i
theorem q_bl {i : Bool} {j : Nat} : QE X W (.Constant (.bool i) j pos) (xC (.bl i)) := q_c pe_bl fun _ _ => .bl i
theorem q_non {j : Nat} : QE X W (.Constant .none j pos) (xC .non) := q_c pe_non fun _ _ => .non
theorem q_str {i : Str} {j : Nat} : QE X W (.Constant (.str i) j pos) (xC (.str i)) := q_c pe_str fun _ _ => .str i
/-- an operation on values -/
def rS2 (K : Gw) (o : Op2) : R2 := fun x y H Q => ∃ ρ h a b v h', Sim K ρ H h ∧ Rep K ρ H a x ∧ Rep K ρ H b y ∧ o a b h = some (v, h') ∧ ∀ ρ' H' u, Grow ρ ρ' H H' → Sim K ρ' H' h' → Rep K ρ' H' v u → Q u H'
def rS1 (K : Gw) (o : Op1) : V → Hp → VK → Prop := fun x H Q => ∃ ρ h a v h', Sim K ρ H h ∧ Rep K ρ H a x ∧ o a h = some (v, h') ∧ ∀ ρ' H' u, Grow ρ ρ' H H' → Sim K ρ' H' h' → Rep K ρ' H' v u → Q u H'
def rSN (K : Gw) (o : OpN) : List V → Hp → VK → Prop := fun xs H Q => ∃ ρ h as v h', Sim K ρ H h ∧ RepL K ρ H as xs ∧ o as h = some (v, h') ∧ ∀ ρ' H' u, Grow ρ ρ' H H' → Sim K ρ' H' h' → Rep K ρ' H' v u → Q u H'
theorem Post.of {ρ : List Addr} {H : Hp} {σ : St} {K : Gw} {Q : VK} {r : Option (Val × Hh)} (p : Post K W σ ρ H (RV K Q) (Res.of r)) : ∃ v h', r = some (v, h') ∧ ∀ ρ' H' u, Grow ρ ρ' H H' → Sim K ρ' H' h' → Rep K ρ' H' v u → Q u H' := by
  cases r with
  | none => exact p.elim
  | some q => exact ⟨q.1, q.2, rfl, fun ρ' H' u g s r => p ρ' H' g s u r⟩
theorem bin_of {o : Op2} {σ : St} {H : Hp} {Q : VK} {K : Gw} (h : tX K W (xBin o xa xb) σ H Q) : tOp (rS2 K o) (tX K W xa) (tX K W xb) σ H Q := by
  obtain ⟨ρ, env, h, S, E, p⟩ := h
  refine ⟨ρ, env, h, S, E, (Post.bind p).imp fun a h1 ρ1 H1 g1 S1 q1 u ru => ⟨ρ1, env, h1, S1, E.mono g1, (Post.bind q1).imp fun b h2 ρ2 H2 g2 S2 q2 y ry => ?_⟩⟩
  obtain ⟨v, h', e, k⟩ := Post.of q2
  exact ⟨ρ2, h2, a, b, v, h', S2, ru.mono g2, ry, e, k⟩
theorem q_op {op : Operator} {o : Op2} (ho : OpR X (binaryOp op) (rS2 (gw X) o)) (ha : QE X W a xa) (hb : QE X W b xb) : QE X W (.BinOp a op b pos) (xBin o xa xb) :=
  PE.of (pe_op ho ha hb) fun _ _ _ => bin_of
theorem q_cmp {op : CmpOp} {o : Op2} (ho : OpR X (compareOp op) (rS2 (gw X) o)) (ha : QE X W a xa) (hb : QE X W b xb) (hm : behindInMarks op b = false) : QE X W (.Compare a [op] [b] pos) (xBin o xa xb) :=
  PE.of (pe_cmpR ho ha hb hm) fun _ _ _ => bin_of
theorem un_of {o : Op1} {σ : St} {H : Hp} {Q : VK} {K : Gw} (h : tX K W (xUn o xa) σ H Q) : tUn (rS1 K o) (tX K W xa) σ H Q := by
  obtain ⟨ρ, env, h, S, E, p⟩ := h
  refine ⟨ρ, env, h, S, E, (Post.bind p).imp fun a h1 ρ1 H1 g1 S1 q1 u ru => ?_⟩
  obtain ⟨v, h', e, k⟩ := Post.of q1
  exact ⟨ρ1, h1, a, v, h', S1, ru, e, k⟩
theorem q_un {op : UnaryOp} {o : Op1} (ho : UnR X (unaryOp op) (rS1 (gw X) o)) (ha : QE X W a xa) : QE X W (.UnaryOp op a pos) (xUn o xa) :=
  PE.of (pe_un ho ha) fun _ _ _ => un_of
theorem q_ix {o : Op2} (hr : IxR X (rS2 (gw X) o)) (ha : QE X W a xa) (hb : QE X W b xb) (hs : PlainIx b) : QE X W (.Subscript a b pos) (xBin o xa xb) :=
  PE.of (pe_ix hr ha hb hs) fun _ _ _ => bin_of

/-! ### tests -/
/-- a value that is a truth, as a test -/
def xTest (x : XE) : XT := fun env h => (x env h).bind fun v h1 => match v with
  | .bl b => .ok b h1
  | _ => .stuck
/-- truth of a value -/
def truth (v : Val) (h : Hh) : Option Bool := match v with
  | .non => some false
  | .bl b => some b
  | .int i => some (i != 0)
  | .str y => if y.length ≤ sizeLine then some ((y.length : Int) != 0) else none
  | .tup xs => some (!xs.isEmpty)
  | .scr xs => some (!xs.isEmpty)
  | .loc n => match h[n]? with
    | some (.lst xs) => some (!xs.isEmpty)
    | some (.dct false kvs) => some (!kvs.isEmpty)
    | _ => none
  | _ => none
def xTru (x : XE) : XT := fun env h => (x env h).bind fun v h1 => match truth v h1 with
  | some b => .ok b h1
  | none => .stuck
theorem isEmpty_len {α β : Type} {xs : List α} {ys : List β} (h : xs.length = ys.length) : xs.isEmpty = ys.isEmpty := by
  cases xs <;> cases ys <;> first | rfl | (simp at h)
theorem truth_ok {K : Gw} {ρ : List Addr} {H : Hp} {h : Hh} {v : Val} {u : V} {b : Bool} (S : Sim K ρ H h) (r : Rep K ρ H v u) (e : truth v h = some b) : TruV K.K u H b := by
  cases r with
  | non => cases e; exact rfl
  | bl b => cases e; exact rfl
  | int i => cases e; exact rfl
  | str s =>
    have e : (if s.length ≤ sizeLine then some ((s.length : Int) != 0) else none) = some b := e
    by_cases hl : s.length ≤ sizeLine
    · rw [if_pos hl] at e
      cases e
      exact ⟨hl, rfl⟩
    · rw [if_neg hl] at e
      cases e
  | tup s r =>
    cases e
    exact .inr (.inl ⟨_, s, by rw [isEmpty_len r.length]⟩)
  | scr s r =>
    cases e
    exact .inl ⟨_, s.sql, by rw [isEmpty_len r.length]⟩
  | loc e1 =>
    rename_i n a
    obtain ⟨o, e2, ro⟩ := S.get e1
    have e : (match h[n]? with | some (.lst xs) => some (!xs.isEmpty) | some (.dct false kvs) => some (!kvs.isEmpty) | _ => none) = some b := e
    rw [e2] at e
    cases o with
    | lst xs => cases e; obtain ⟨vs, e3, r⟩ := ro; exact .inl ⟨vs, .inl (.inl e3), by rw [isEmpty_len r.length]⟩
    | dct lk kvs =>
      cases lk with
      | true => cases e
      | false => cases e; obtain ⟨vs, e3, r⟩ := ro; exact .inr (.inr ⟨vs, e3, by rw [isEmpty_len (Paired.length r)]⟩)
    | ins C fs => cases e
  | ref a => cases e
  | ty n => cases e
theorem Post.test {K : Gw} {ρ : List Addr} {H : Hp} {σ : St} {Q : Bool → Hp → Prop} {v : Val} {h : Hh} (p : Post K W σ ρ H (RB Q) (match v with | .bl b => .ok b h | _ => .stuck)) (S : Sim K ρ H h) {u : V} (r : Rep K ρ H v u) : ∃ k, u = .bl k ∧ Q k H := by
  cases r with
  | bl b => exact ⟨b, rfl, p ρ H (Grow.refl _ _) S⟩
  | _ => exact p.elim
theorem test_of {x : XE} {K : Gw} {σ : St} {H : Hp} {Q : Bool → Hp → Prop} (h : tXT K W (xTest x) σ H Q) : tX K W x σ H fun u H' => ∃ k, u = .bl k ∧ Q k H' := by
  obtain ⟨ρ, env, h, S, E, p⟩ := h
  exact ⟨ρ, env, h, S, E, (Post.bind p).imp fun a h1 ρ1 H1 g1 S1 q1 u ru => Post.test q1 S1 ru⟩
theorem tru_of {x : XE} {K : Gw} {σ : St} {H : Hp} {Q : Bool → Hp → Prop} (h : tXT K W (xTru x) σ H Q) : tX K W x σ H fun u H' => ∃ k, TruV K.K u H' k ∧ Q k H' := by
  obtain ⟨ρ, env, h, S, E, p⟩ := h
  refine ⟨ρ, env, h, S, E, (Post.bind p).imp fun a h1 ρ1 H1 g1 S1 q1 u ru => ?_⟩
  cases e : truth a h1 with
  | none => rw [e] at q1; exact q1.elim
  | some b => rw [e] at q1; exact ⟨b, truth_ok S1 ru e, q1 ρ1 H1 (Grow.refl _ _) S1⟩
/-- a name, a call, a subscript .. as a test -/
theorem qt_tru (ha : QE X W a xa) (he : ∀ whole, isTrue a X.env whole = (do let v ← whole; standAt a.pos; holding [v] (truthy v)) := by intro _; rfl) : QT X W a (xTru xa) :=
  PT.of (pt_truth ha he) fun _ _ _ => tru_of
theorem qt_val (ha : QE X W a xa) (he : ∀ whole, isTrue a X.env whole = (do let v ← whole; standAt a.pos; holding [v] (truthy v)) := by intro _; rfl) : QT X W a (xTest xa) :=
  PT.of (pt_val ha he) fun _ _ _ => test_of
/-- a comparison as a test -/
theorem cmp_of {o : Op2} {σ : St} {H : Hp} {Q : Bool → Hp → Prop} {K : Gw} (h : tXT K W (xTest (xBin o xa xb)) σ H Q) : tTest (tOp (rS2 K o) (tX K W xa) (tX K W xb)) σ H Q := bin_of (test_of h)
theorem qt_cmp {op : CmpOp} {o : Op2} (ho : OpR X (compareOp op) (rS2 (gw X) o)) (ha : QE X W a xa) (hb : QE X W b xb) (hm : behindInMarks op b = false) : QT X W (.Compare a [op] [b] pos) (xTest (xBin o xa xb)) :=
  PT.of (pt_cmpR ho ha hb hm) fun _ _ _ => cmp_of
def xAndT (a b : XT) : XT := fun env h => (a env h).bind fun c h1 => if c = true then b env h1 else .ok false h1
def xOrT (a b : XT) : XT := fun env h => (a env h).bind fun c h1 => if c = true then .ok true h1 else b env h1
def xNotT (a : XT) : XT := fun env h => (a env h).bind fun c h1 => .ok (!c) h1
variable {ya yb : XT}
theorem qw_and1 (ha : QT X W a ya) : QW X W (.BoolOp .And [a] pos) ya := pw_and1 ha
theorem qw_or1 (ha : QT X W a ya) : QW X W (.BoolOp .Or [a] pos) ya := pw_or1 ha
theorem qw_and {rest : List Expr} (ha : QT X W a ya) (hb : QW X W (.BoolOp .And (b :: rest) pos) yb) : QW X W (.BoolOp .And (a :: b :: rest) pos) (xAndT ya yb) :=
  PW.of (pw_and ha hb) fun σ H Q ⟨ρ, env, h, S, E, p⟩ => ⟨ρ, env, h, S, E, (Post.bind p).imp fun c h1 ρ1 H1 g1 S1 q1 => by
    cases c with
    | true => exact ⟨ρ1, env, h1, S1, E.mono g1, q1⟩
    | false => exact q1 ρ1 H1 (Grow.refl _ _) S1⟩
theorem qw_or {rest : List Expr} (ha : QT X W a ya) (hb : QW X W (.BoolOp .Or (b :: rest) pos) yb) : QW X W (.BoolOp .Or (a :: b :: rest) pos) (xOrT ya yb) :=
  PW.of (pw_or ha hb) fun σ H Q ⟨ρ, env, h, S, E, p⟩ => ⟨ρ, env, h, S, E, (Post.bind p).imp fun c h1 ρ1 H1 g1 S1 q1 => by
    cases c with
    | true => exact q1 ρ1 H1 (Grow.refl _ _) S1
    | false => exact ⟨ρ1, env, h1, S1, E.mono g1, q1⟩⟩
theorem qt_not (ha : QT X W a ya) : QT X W (.UnaryOp .Not a pos) (xNotT ya) :=
  PT.of (pt_not ha) fun σ H Q ⟨ρ, env, h, S, E, p⟩ => ⟨ρ, env, h, S, E, (Post.bind p).imp fun c h1 ρ1 H1 g1 S1 q1 => q1 ρ1 H1 (Grow.refl _ _) S1⟩

/-! ### and, or, not as values (truths) -/
def xAndV (a b : XE) : XE := fun env h => (a env h).bind fun v h1 => match v with
  | .bl true => b env h1
  | .bl false => .ok (.bl false) h1
  | _ => .stuck
def xOrV (a b : XE) : XE := fun env h => (a env h).bind fun v h1 => match v with
  | .bl true => .ok (.bl true) h1
  | .bl false => b env h1
  | _ => .stuck
def xNotV (a : XE) : XE := fun env h => (a env h).bind fun v h1 => match v with
  | .bl b => .ok (.bl (!b)) h1
  | _ => .stuck
theorem q_one {op : BoolOp} (h : QE X W a xa) : QE X W (.BoolOp op [a] pos) xa := pe_one h
theorem q_and {rest : List Expr} (ha : QE X W a xa) (hb : QE X W (.BoolOp .And (b :: rest) pos) xb) : QE X W (.BoolOp .And (a :: b :: rest) pos) (xAndV xa xb) :=
  PE.of (pe_and ha hb) fun σ H Q ⟨ρ, env, h, S, E, p⟩ => ⟨ρ, env, h, S, E, (Post.bind p).imp fun v h1 ρ1 H1 g1 S1 q1 u ru => by
    cases ru with
    | bl c =>
      cases c with
      | true => exact ⟨true, rfl, ⟨ρ1, env, h1, S1, E.mono g1, q1⟩⟩
      | false => exact ⟨false, rfl, q1 ρ1 H1 (Grow.refl _ _) S1 _ (.bl false)⟩
    | _ => exact q1.elim⟩
theorem q_or {rest : List Expr} (ha : QE X W a xa) (hb : QE X W (.BoolOp .Or (b :: rest) pos) xb) : QE X W (.BoolOp .Or (a :: b :: rest) pos) (xOrV xa xb) :=
  PE.of (pe_or ha hb) fun σ H Q ⟨ρ, env, h, S, E, p⟩ => ⟨ρ, env, h, S, E, (Post.bind p).imp fun v h1 ρ1 H1 g1 S1 q1 u ru => by
    cases ru with
    | bl c =>
      cases c with
      | true => exact ⟨true, rfl, q1 ρ1 H1 (Grow.refl _ _) S1 _ (.bl true)⟩
      | false => exact ⟨false, rfl, ⟨ρ1, env, h1, S1, E.mono g1, q1⟩⟩
    | _ => exact q1.elim⟩
theorem q_not (ha : QE X W a xa) : QE X W (.UnaryOp .Not a pos) (xNotV xa) :=
  PE.of (pe_not ha) fun σ H Q ⟨ρ, env, h, S, E, p⟩ => ⟨ρ, env, h, S, E, (Post.bind p).imp fun v h1 ρ1 H1 g1 S1 q1 u ru => by
    cases ru with
    | bl c => exact ⟨c, rfl, q1 ρ1 H1 (Grow.refl _ _) S1 _ (.bl _)⟩
    | _ => exact q1.elim⟩
def xIf (t : XT) (a b : XE) : XE := fun env h => (t env h).bind fun c h1 => if c = true then a env h1 else b env h1
theorem q_if {e : Expr} {y : XT} (hc : QT X W e y) (ha : QE X W a xa) (hb : QE X W b xb) : QE X W (.IfExp e a b pos) (xIf y xa xb) :=
  PE.of (pe_ifExp hc ha hb) fun σ H Q ⟨ρ, env, h, S, E, p⟩ => ⟨ρ, env, h, S, E, (Post.bind p).imp fun c h1 ρ1 H1 g1 S1 q1 => by
    cases c with
    | true => exact ⟨ρ1, env, h1, S1, E.mono g1, q1⟩
    | false => exact ⟨ρ1, env, h1, S1, E.mono g1, q1⟩⟩
/-- a op b op' c -/
def xChain (o o' : Op2) (a b c : XE) : XE := fun env h => (a env h).bind fun x h1 => (b env h1).bind fun y h2 => (Res.of (o x y h2)).bind fun z h3 => match z with
  | .bl true => (c env h3).bind fun w h4 => Res.of (o' y w h4)
  | .bl false => .ok (.bl false) h3
  | _ => .stuck
theorem chain_of {o o' : Op2} {σ : St} {H : Hp} {Q : VK} {K : Gw} (h : tX K W (xChain o o' xa xb xc) σ H Q) : tChain (rS2 K o) (rS2 K o') (tX K W xa) (tX K W xb) (tX K W xc) σ H Q := by
  obtain ⟨ρ, env, h, S, E, p⟩ := h
  refine ⟨ρ, env, h, S, E, (Post.bind p).imp fun a h1 ρ1 H1 g1 S1 q1 u ru => ⟨ρ1, env, h1, S1, E.mono g1, (Post.bind q1).imp fun b h2 ρ2 H2 g2 S2 q2 y ry => ?_⟩⟩
  cases eo : o a b h2 with
  | none => rw [eo] at q2; exact q2.elim
  | some w =>
    rw [eo] at q2
    refine ⟨ρ2, h2, a, b, w.1, w.2, S2, ru.mono g2, ry, eo, fun ρ3 H3 z g3 S3 rz => ?_⟩
    have q3 := Post.bind q2 ρ3 H3 g3 S3
    generalize w.1 = w1 at rz q3
    cases rz with
    | bl k =>
      refine ⟨k, rfl, ?_⟩
      cases k with
      | true =>
        refine ⟨ρ3, env, w.2, S3, ((E.mono g1).mono g2).mono g3, (Post.bind q3).imp fun d h4 ρ4 H4 g4 S4 q4 v rv => ?_⟩
        obtain ⟨v', h', e, k⟩ := Post.of q4
        exact ⟨ρ4, h4, b, d, v', h', S4, (ry.mono g3).mono g4, rv, e, k⟩
      | false => exact q3 ρ3 H3 (Grow.refl _ _) S3 _ (.bl false)
    | _ => exact q3.elim
theorem q_chain {op op' : CmpOp} {o o' : Op2} (ho : OpR X (compareOp op) (rS2 (gw X) o)) (ho' : OpR X (compareOp op') (rS2 (gw X) o')) (ha : QE X W a xa) (hb : QE X W b xb) (hc : QE X W c xc)
    (hm : lastMarks [op, op'] [b, c] = false := by with_unfolding_all rfl) : QE X W (.Compare a [op, op'] [b, c] pos) (xChain o o' xa xb xc) := PE.of (pe_chain ho ho' ha hb hc hm) fun _ _ _ => chain_of
theorem qt_chain {op op' : CmpOp} {o o' : Op2} (ho : OpR X (compareOp op) (rS2 (gw X) o)) (ho' : OpR X (compareOp op') (rS2 (gw X) o')) (ha : QE X W a xa) (hb : QE X W b xb) (hc : QE X W c xc)
    (hm : lastMarks [op, op'] [b, c] = false := by with_unfolding_all rfl) : QT X W (.Compare a [op, op'] [b, c] pos) (xTest (xChain o o' xa xb xc)) := PT.of (pt_chain ho ho' ha hb hc hm) fun _ _ _ h => chain_of (test_of h)

/-! ### argument lists, displays -/
def xNil : XA := fun _ h => .ok [] h
def xCons (a : XE) (r : XA) : XA := fun env h => (a env h).bind fun x h1 => (r env h1).bind fun xs h2 => .ok (x :: xs) h2
def xTup (r : XA) : XE := fun env h => (r env h).bind fun xs h1 => if xs.length ≤ sizeLine then .ok (.tup xs) h1 else .stuck
def xLst (r : XA) : XE := fun env h => (r env h).bind fun xs h1 => if xs.length ≤ sizeLine then .ok (.loc h1.length) (h1 ++ [.lst xs]) else .stuck
def xCallN (o : OpN) (r : XA) : XE := fun env h => (r env h).bind fun xs h1 => Res.of (o xs h1)
variable {es : List Expr} {xr : XA}
theorem qa_nil : QA X W [] xNil := PA.of pa_nil fun σ H Q ⟨ρ, env, h, S, E, p⟩ => p ρ H (Grow.refl _ _) S _ .nil
theorem qa_cons_of {σ : St} {H : Hp} {Q : List V → Hp → Prop} {K : Gw} (h : tXA K W (xCons xa xr) σ H Q) : tCons (tX K W xa) (tXA K W xr) σ H Q := by
  obtain ⟨ρ, env, h, S, E, p⟩ := h
  exact ⟨ρ, env, h, S, E, (Post.bind p).imp fun a h1 ρ1 H1 g1 S1 q1 u ru => ⟨ρ1, env, h1, S1, E.mono g1, (Post.bind q1).imp fun b h2 ρ2 H2 g2 S2 q2 y ry => q2 ρ2 H2 (Grow.refl _ _) S2 _ (.cons (ru.mono g2) ry)⟩⟩
theorem new_loc {K : Gw} {ρ : List Addr} {H : Hp} {h : Hh} {xs : List Val} {vs : List V} {p : Addr} (S : Sim K ρ H h) (hp : H p = none) (r : RepL K ρ H xs vs) :
    Grow ρ (ρ ++ [p]) H (upd H p (.lst vs)) ∧ Sim K (ρ ++ [p]) (upd H p (.lst vs)) (h ++ [.lst xs]) ∧ Rep K (ρ ++ [p]) (upd H p (.lst vs)) (.loc h.length) (.ref p) := by
  have g : Grow ρ (ρ ++ [p]) H (upd H p (.lst vs)) := (Grow.new hp).snoc
  refine ⟨g, S.laid hp ⟨vs, upd_same, r.mono g⟩, .loc ?_⟩
  rw [List.getElem?_append_right (by rw [S.len]; exact Nat.le_refl _), S.len, Nat.sub_self]
  rfl
theorem new_tup {K : Gw} {ρ : List Addr} {H : Hp} {h : Hh} {xs : List Val} {vs : List V} {p : Addr} (S : Sim K ρ H h) (hp : H p = none) (r : RepL K ρ H xs vs) :
    Grow ρ ρ H (upd H p (.tup vs)) ∧ Sim K ρ (upd H p (.tup vs)) h ∧ Rep K ρ (upd H p (.tup vs)) (.tup xs) (.ref p) :=
  ⟨Grow.new hp, S.new hp, .tup (.inl (.inl upd_same)) (r.mono (Grow.new hp))⟩
theorem q_tup {k : Nat} (h : QA X W es xr) : QE X W (.Tuple es k pos) (xTup xr) := PE.of (pe_tup h) fun σ H Q ⟨ρ, env, h, S, E, p⟩ =>
  ⟨ρ, env, h, S, E, (Post.bind p).imp fun xs h1 ρ1 H1 g1 S1 q1 us rs => by
    by_cases hl : xs.length ≤ sizeLine
    · rw [if_pos hl] at q1
      refine ⟨by rw [← rs.length]; exact hl, fun p hp => ?_⟩
      obtain ⟨g, s, r⟩ := new_tup S1 hp rs
      exact q1 ρ1 _ g s _ r
    · rw [if_neg hl] at q1
      exact q1.elim⟩
theorem q_lst (h : QA X W es xr) : QE X W (.List es pos) (xLst xr) := PE.of (pe_lst h) fun σ H Q ⟨ρ, env, h, S, E, p⟩ =>
  ⟨ρ, env, h, S, E, (Post.bind p).imp fun xs h1 ρ1 H1 g1 S1 q1 us rs => by
    by_cases hl : xs.length ≤ sizeLine
    · rw [if_pos hl] at q1
      refine ⟨by rw [← rs.length]; exact hl, fun p hp => ?_⟩
      obtain ⟨g, s, r⟩ := new_loc S1 hp rs
      exact q1 _ _ g s _ r
    · rw [if_neg hl] at q1
      exact q1.elim⟩
theorem callN_of {o : OpN} {σ : St} {H : Hp} {Q : VK} {K : Gw} (h : tX K W (xCallN o xr) σ H Q) : tXA K W xr σ H fun vs H1 => rSN K o vs H1 Q := by
  obtain ⟨ρ, env, h, S, E, p⟩ := h
  refine ⟨ρ, env, h, S, E, (Post.bind p).imp fun xs h1 ρ1 H1 g1 S1 q1 us rs => ?_⟩
  obtain ⟨v, h', e, k⟩ := Post.of q1
  exact ⟨ρ1, h1, xs, v, h', S1, rs, e, k⟩
end
end EX

set_option Elab.async false
set_option linter.all false
set_option maxRecDepth 100000
set_option maxHeartbeats 1000000
namespace EX
open PySem L2

/-! ### statements -/
def sNil : XS := fun e h => .nx e h
def sSeq (a b : XS) : XS := fun e h => match a e h with
  | .nx e1 h1 => b e1 h1
  | r => r
def sRet (x : XE) : XS := fun e h => match x e h with
  | .ok v h1 => .rt v h1
  | .exc c fs h1 => .exc c fs e h1
  | .stuck => .stuck
def sExpr (x : XE) : XS := fun e h => match x e h with
  | .ok _ h1 => .nx e h1
  | .exc c fs h1 => .exc c fs e h1
  | .stuck => .stuck
def sSet (i : Nat) (x : XE) : XS := fun e h => match x e h with
  | .ok v h1 => .nx (e.set i (some v)) h1
  | .exc c fs h1 => .exc c fs e h1
  | .stuck => .stuck
def sIf (t : XT) (a b : XS) : XS := fun e h => match t e h with
  | .ok c h1 => if c = true then a e h1 else b e h1
  | .exc c fs h1 => .exc c fs e h1
  | .stuck => .stuck
def sRetN : XS := fun _ h => .rt .non h
def sBreak : XS := fun e h => .bk e h
def sCont : XS := fun e h => .ct e h
section
variable {X : Cx} {W : Wd} {st : Stmt} {rest : List Stmt} {a b : XS} {e : Expr} {x : XE} {pos : Pos}
theorem qss_nil : QSs X W [] sNil := PSs.of pss_nil fun D σ H ⟨ρ, env, h, S, E, p⟩ => p ρ H σ (Grow.refl _ _) S E
theorem seq_of {K : Gw} {D : Ends} {σ : St} {H : Hp} (h : tXS K W (sSeq a b) D σ H) : tSeq (tXS K W a) (tXS K W b) D σ H := by
  obtain ⟨ρ, env, h, S, E, p⟩ := h
  refine ⟨ρ, env, h, S, E, ?_⟩
  unfold sSeq at p
  cases e : a env h with
  | nx e1 h1 => rw [e] at p; exact fun ρ' H' σ' g s er => ⟨ρ', e1, h1, s, er, PostS.mono g p⟩
  | rt v h1 => rw [e] at p; exact p
  | bk e1 h1 => rw [e] at p; exact p
  | ct e1 h1 => rw [e] at p; exact p
  | exc c fs e1 h1 => rw [e] at p; exact p
  | stuck => rw [e] at p; exact p
theorem qss_cons (h1 : QS X W st a) (h2 : QSs X W rest b) : QSs X W (st :: rest) (sSeq a b) := PSs.of (pss_cons h1 h2) fun _ _ _ => seq_of
theorem qss_one (h1 : QS X W st a) : QSs X W [st] a := pss_one h1
/-- behind an expression: R says what -/
theorem afterE {K : Gw} {ρ : List Addr} {H : Hp} {σ : St} {env : En} {h : Hh} {D : Ends} {f : Val → Hh → RS} (E : EnvR K ρ H W.s env σ)
    (p : PostS K W ρ H D (match x env h with | .ok v h1 => f v h1 | .exc c fs h1 => .exc c fs env h1 | .stuck => .stuck)) : Post K W σ ρ H (fun v h1 ρ1 H1 => PostS K W ρ1 H1 D (f v h1)) (x env h) := by
  cases e : x env h with
  | ok v h1 => rw [e] at p; exact fun ρ1 H1 g1 S1 => PostS.mono g1 p
  | exc c fs h1 => rw [e] at p; exact fun ρ1 H1 d cv g1 S1 xc => p ρ1 H1 d σ cv g1 S1 (E.mono g1) xc
  | stuck => rw [e] at p; exact p
theorem qs_ret (he : QE X W e x) : QS X W (.Return (some e) pos) (sRet x) := PS.of (ps_ret he) fun D σ H ⟨ρ, env, h, S, E, p⟩ =>
  ⟨ρ, env, h, S, E, (afterE (f := fun v h1 => .rt v h1) E p).imp fun v h1 ρ1 H1 g1 S1 q u ru => q ρ1 H1 u (Grow.refl _ _) S1 ru⟩
theorem qs_retN : QS X W (.Return none pos) sRetN := PS.of ps_retN fun D σ H ⟨ρ, env, h, S, E, p⟩ => p ρ H _ (Grow.refl _ _) S .non
theorem qs_pass : QS X W (.Pass pos) sNil := PS.of ps_pass fun D σ H ⟨ρ, env, h, S, E, p⟩ => p ρ H σ (Grow.refl _ _) S E
theorem qs_break : QS X W (.Break pos) sBreak := PS.of ps_break fun D σ H ⟨ρ, env, h, S, E, p⟩ => p ρ H σ (Grow.refl _ _) S E
theorem qs_cont : QS X W (.Continue pos) sCont := PS.of ps_continue fun D σ H ⟨ρ, env, h, S, E, p⟩ => p ρ H σ (Grow.refl _ _) S E
theorem qs_expr (he : QE X W e x) (hs : swapsWith e none pos.line X.env = pure false := by rfl) : QS X W (.Expr e pos) (sExpr x) := PS.of (ps_expr he hs) fun D σ H ⟨ρ, env, h, S, E, p⟩ =>
  ⟨ρ, env, h, S, E, (afterE (f := fun v h1 => .nx env h1) E p).imp fun v h1 ρ1 H1 g1 S1 q u ru => q ρ1 H1 σ (Grow.refl _ _) S1 (E.mono g1)⟩
theorem set_of {K : Gw} {i : Nat} {D : Ends} {σ : St} {H : Hp} (hn : ∀ q, W.s = some q → q.slot ≠ i) (h : tXS K W (sSet i x) D σ H) : tAsg (tX K W x) (gName i) D σ H := by
  obtain ⟨ρ, env, h, S, E, p⟩ := h
  exact ⟨ρ, env, h, S, E, (afterE (f := fun v h1 => .nx (env.set i (some v)) h1) E p).imp fun v h1 ρ1 H1 g1 S1 q u ru => q ρ1 H1 _ (Grow.refl _ _) S1 ((E.mono g1).set i ru hn)⟩
theorem qs_set (i : Nat) {x' : Str} {pos' : Pos} (hN : X.N.Nodup) (hi : X.N[i]? = some x') (hx : Loc X.env.scope x') (he : QE X W e x) (hs : swapsWith e (some (.Name x' pos')) pos.line X.env = pure false := by rfl)
    (hf : X.fn x' = true ∨ X.env.scope.names.lookup x' = some .local := by first | exact .inl rfl | exact .inr rfl | assumption) (hn : ∀ q, W.s = some q → q.slot ≠ i := by first | (intro _ h; cases h; done) | (intro _ h; cases h; decide)) : QS X W (.Assign [.Name x' pos'] e pos) (sSet i x) := PS.of (ps_set hN hi hx he hs hf) fun _ _ _ => set_of hn
theorem qs_if {c : Expr} {sa sb : List Stmt} {y : XT} (hc : QT X W c y) (ha : QSs X W sa a) (hb : QSs X W sb b) : QS X W (.If c sa sb pos) (sIf y a b) := PS.of (ps_if hc ha hb) fun D σ H ⟨ρ, env, h, S, E, p⟩ => by
  refine ⟨ρ, env, h, S, E, ?_⟩
  unfold sIf at p
  cases e : y env h with
  | ok c h1 =>
    rw [e] at p
    intro ρ1 H1 g1 S1
    cases c with
    | true => exact ⟨ρ1, env, h1, S1, E.mono g1, PostS.mono g1 p⟩
    | false => exact ⟨ρ1, env, h1, S1, E.mono g1, PostS.mono g1 p⟩
  | exc c fs h1 => rw [e] at p; exact fun ρ1 H1 d cv g1 S1 xc => p ρ1 H1 d σ cv g1 S1 (E.mono g1) xc
  | stuck => rw [e] at p; exact p.elim
end

/-! ### targets -/
inductive Tg where
  | name (i : Nat)
  | tup (ts : List Tg)
mutual
def Tg.slots : Tg → List Nat
  | .name i => [i]
  | .tup ts => slotsL ts
def slotsL : List Tg → List Nat
  | [] => []
  | t :: ts => t.slots ++ slotsL ts
end
mutual
def Tg.put : Tg → Val → En → Option En
  | .name i, v, e => some (e.set i (some v))
  | .tup ts, .tup xs, e => putL ts xs e
  | .tup _, _, _ => none
def putL : List Tg → List Val → En → Option En
  | [], [], e => some e
  | t :: ts, x :: xs, e => (t.put x e).bind fun e1 => putL ts xs e1
  | _, _, _ => none
end
/-- slots but these are as they were -/
def But (vs : List Nat) (σ σ' : St) : Prop := σ'.length = σ.length ∧ ∀ i, i ∉ vs → σ'[i]? = σ[i]?
/-- what a target does -/
def tTg (K : Gw) (t : Tg) : TG := fun v σ H Q => ∃ ρ env h x e1, Sim K ρ H h ∧ EnvR K ρ H none env σ ∧ Rep K ρ H x v ∧ t.put x env = some e1 ∧ ∀ σ1, EnvR K ρ H none e1 σ1 → But t.slots σ σ1 → Q σ1 H
def tTgs (K : Gw) (ts : List Tg) : TGs := fun vs σ H Q => ∃ ρ env h xs e1, Sim K ρ H h ∧ EnvR K ρ H none env σ ∧ RepL K ρ H xs vs ∧ putL ts xs env = some e1 ∧ ∀ σ1, EnvR K ρ H none e1 σ1 → But (slotsL ts) σ σ1 → Q σ1 H
section
variable {X : Cx} {e : Expr} {es : List Expr} {pos : Pos}
theorem PG.of {t t' : TG} (h : PG X e t) (w : ∀ v σ H Q, t' v σ H Q → t v σ H Q) : PG X e t' := ⟨fun pins s σ H v u Q I r q => h.run pins s σ H v u Q I r (w v σ H Q q)⟩
theorem qg_name (i : Nat) {x : Str} (hN : X.N.Nodup) (hi : X.N[i]? = some x) (hx : Loc X.env.scope x) (hf : X.fn x = true ∨ X.env.scope.names.lookup x = some .local := by first | exact .inl rfl | exact .inr rfl | assumption) : PG X (.Name x pos) (tTg (gw X) (.name i)) :=
  PG.of (pg_name hN hi hx hf) fun v σ H Q ⟨ρ, env, h, x, e1, S, E, r, ep, q⟩ => by
    cases ep
    exact q _ (E.set i r (fun _ z => by cases z)) ⟨List.length_set, fun j hj => List.getElem?_set_ne fun z => hj (by rw [z]; exact List.mem_singleton.mpr rfl)⟩
theorem qgs_nil : PGs X [] (tTgs (gw X) []) := by
  refine ⟨fun pins s σ H vs us Q I r ⟨ρ, env, h, xs, e1, S, E, rx, ep, q⟩ => pgs_nil.run pins s σ H vs us Q I r ?_⟩
  cases rx with
  | nil => cases ep; exact ⟨rfl, q σ E ⟨rfl, fun _ _ => rfl⟩⟩
  | cons _ _ => cases ep
theorem But.trans {vs us : List Nat} {σ σ1 σ2 : St} (a : But vs σ σ1) (b : But us σ1 σ2) : But (vs ++ us) σ σ2 :=
  ⟨b.1.trans a.1, fun i hi => (b.2 i fun z => hi (List.mem_append_right _ z)).trans (a.2 i fun z => hi (List.mem_append_left _ z))⟩
theorem qgs_cons {t : Tg} {ts : List Tg} (h1 : PG X e (tTg (gw X) t)) (h2 : PGs X es (tTgs (gw X) ts))
    (hs : (assignEach (e :: es) X.env).map (·.2) = assign e X.env :: (assignEach es X.env).map (·.2) := by rfl) : PGs X (e :: es) (tTgs (gw X) (t :: ts)) := by
  refine ⟨fun pins s σ H vs us Q I r ⟨ρ, env, h, xs, e1, S, E, rx, ep, q⟩ => (pgs_cons h1 h2 hs).run pins s σ H vs us Q I r ?_⟩
  cases rx with
  | nil => cases ep
  | @cons y v ys ws r1 r2 =>
    have ep : (t.put y env).bind (fun e1 => putL ts ys e1) = some e1 := ep
    cases e2 : t.put y env with
    | none => rw [e2] at ep; cases ep
    | some e3 =>
      rw [e2] at ep
      exact ⟨_, _, rfl, ρ, env, h, y, e3, S, E, r1, e2, fun σ1 E1 B1 => ⟨ρ, e3, h, ys, e1, S, E1, r2, ep, fun σ2 E2 B2 => q σ2 E2 (B1.trans B2)⟩⟩
theorem putL_len : ∀ {ts : List Tg} {xs : List Val} {e e1 : En}, putL ts xs e = some e1 → xs.length = ts.length
  | [], [], _, _, _ => rfl
  | [], _ :: _, _, _, h => by cases h
  | _ :: _, [], _, _, h => by cases h
  | t :: ts, x :: xs, e, e1, h => by
    have h : (t.put x e).bind (fun e1 => putL ts xs e1) = some e1 := h
    cases e2 : t.put x e with
    | none => rw [e2] at h; cases h
    | some e3 => rw [e2] at h; rw [List.length_cons, List.length_cons, putL_len (ts := ts) h]
theorem qg_tup {ts : List Tg} {k : Nat} (hc : X.calm = true) (h : PGs X es (tTgs (gw X) ts))
    (hn : (assignEach es X.env).length = ts.length := by rfl) (hst : (assignEach es X.env).findIdx? (·.1) = none := by rfl) : PG X (.Tuple es k pos) (tTg (gw X) (.tup ts)) :=
  PG.of (pg_tup hc h hn hst) fun v σ H Q ⟨ρ, env, h, x, e1, S, E, r, ep, q⟩ => by
    cases r with
    | @tup a xs vs sq rs =>
      have ep : putL ts xs env = some e1 := ep
      exact ⟨a, vs, rfl, sq, by rw [← rs.length, putL_len ep], ρ, env, h, xs, e1, S, E, rs, ep, q⟩
    | _ => cases ep
/-- target = expression -/
def sAsg (t : Tg) (x : XE) : XS := fun e h => match x e h with
  | .ok v h1 => (match t.put v e with
    | some e1 => .nx e1 h1
    | none => .stuck)
  | .exc c fs h1 => .exc c fs e h1
  | .stuck => .stuck
theorem asg_of {K : Gw} {W : Wd} {t : Tg} {x : XE} {D : Ends} {σ : St} {H : Hp} (h0 : W.s = none) (h : tXS K W (sAsg t x) D σ H) : tAsg (tX K W x) (tTg K t) D σ H := by
  obtain ⟨ρ, env, h, S, E, p⟩ := h
  refine ⟨ρ, env, h, S, E, (afterE (f := fun v h1 => match t.put v env with | some e1 => .nx e1 h1 | none => .stuck) E p).imp fun v h1 ρ1 H1 g1 S1 q u ru => ?_⟩
  cases e1 : t.put v env with
  | none => rw [e1] at q; exact q.elim
  | some e2 => rw [e1] at q; exact ⟨ρ1, env, h1, v, e2, S1, (E.mono g1).drop, ru, e1, fun σ1 E1 _ => q ρ1 H1 σ1 (Grow.refl _ _) S1 (by rw [h0]; exact E1)⟩
theorem qs_asg {W : Wd} {t : Tg} {x : XE} {tg : Expr} (he : QE X W e x) (hg : PG X tg (tTg (gw X) t)) (hs : swapsWithSole [tg] e pos.line X.env = pure false := by rfl) (hw : swappedStores [tg] e X.env = pure none := by rfl)
    (h1 : (assignEach [tg] X.env).map (·.2) = [assign tg X.env] := by rfl) (h0 : W.s = none := by rfl) : QS X W (.Assign [tg] e pos) (sAsg t x) :=
  PS.of (ps_asg he hg hs hw h1) fun _ _ _ => asg_of h0
end

/-! ### what is walked -/
inductive Itn where
  | items (xs : List Val)
  | live (n : Nat) (xs : List Val)
  | liveAs (n : Nat) (ys xs : List Val)
def Itn.xs : Itn → List Val
  | .items xs => xs
  | .live _ xs => xs
  | .liveAs _ _ xs => xs
def Itn.okAt : Itn → Hh → Prop
  | .items _, _ => True
  | .live n xs, h => h[n]? = some (.lst xs)
  | .liveAs n ys _, h => h[n]? = some (.lst ys)
structure ItR (K : Gw) (ρ : List Addr) (H : Hp) (it : Itn) (J : It) : Prop where
  go : ∀ (i : Nat) (ρ' : List Addr) (H' : Hp) (h : Hh), Grow ρ ρ' H H' → Sim K ρ' H' h → it.okAt h → i < it.xs.length → J.go i H'
  yld : ∀ (i : Nat) (ρ' : List Addr) (H' : Hp) (h : Hh) (x : Val) (v : V) (H2 : Hp), Grow ρ ρ' H H' → Sim K ρ' H' h → it.okAt h → it.xs[i]? = some x → J.yld i H' v H2 → Grow ρ' ρ' H' H2 ∧ Sim K ρ' H2 h ∧ Rep K ρ' H2 x v
  stop : ∀ (i : Nat) (ρ' : List Addr) (H' : Hp) (h : Hh), Grow ρ ρ' H H' → Sim K ρ' H' h → it.okAt h → it.xs.length ≤ i → J.stop i H'
abbrev XI := En → Hh → Res Itn
def tXI (K : Gw) (W : Wd) (xi : XI) : TI := fun σ H R => ∃ ρ env h, Sim K ρ H h ∧ EnvR K ρ H W.s env σ ∧ Post K W σ ρ H (fun it h1 ρ1 H1 => ∀ J, it.okAt h1 → ItR K ρ1 H1 it J → R J H1) (xi env h)
abbrev QI (X : Cx) (W : Wd) (tg iter : Expr) (xi : XI) : Prop := PI X tg iter (tXI (gw X) W xi)
section
variable {X : Cx} {W : Wd} {tg iter : Expr}
theorem PI.of {t t' : TI} (h : PI X tg iter t) (w : ∀ σ H R, t' σ H R → t σ H R) : PI X tg iter t' := ⟨fun pins s σ H R I q => h.run pins s σ H R I (w σ H R q)⟩
/-- any value that may be walked: a list, a tuple, a text -/
def itOf (v : Val) (h : Hh) : Option Itn := match v with
  | .tup xs => some (.items xs)
  | .scr xs => some (.items xs)
  | .str s => some (.items (s.cps.toList.map fun c => .str ⟨#[c]⟩))
  | .loc n => (match h[n]? with
    | some (.lst xs) => some (.live n xs)
    | _ => none)
  | _ => none
def xIter (x : XE) : XI := fun e h => (x e h).bind fun v h1 => match itOf v h1 with
  | some it => .ok it h1
  | none => .stuck
def iAny (K : PySem.W.Frag) (te : TE) : TI := fun σ H R => te σ H fun x H1 => (∃ a, x = .ref a ∧ (∃ xs, SqL K H1 a xs) ∧ R (Itl K a) H1) ∨ (∃ a, x = .ref a ∧ (∃ xs, SqT K H1 a xs) ∧ R (Itt K a) H1) ∨ ∃ y, x = .str y ∧ R (Its y) H1
theorem pi_any {l : Expr} {tl : TE} (hl : PE X l tl) : PI X tg l (iAny X.K tl) := by
  refine ⟨fun pins s σ H R I h => ?_⟩
  refine thn (hl.run pins s σ H _ I h) fun v s1 ⟨x, H1, I1, r1, q1⟩ => ?_
  rcases q1 with ⟨a, rfl, ⟨xs, hq⟩, q⟩ | ⟨a, rfl, ⟨xs, hq⟩, q⟩ | ⟨y, rfl, q⟩
  · cases r1
    obtain ⟨_, _, pl, _⟩ := I1.list hq
    exact wpAny_pyIter_list pl.isList (pi_one (tk := s1.toks) I1 _ (turn_list a _) ⟨_, Heap.get?_push_size _ rfl, rfl, rfl⟩ q)
  · cases r1
    obtain ⟨its, _, pt, _⟩ := I1.tuple hq
    exact wpAny_pyIter_tuple (show s1.heap.IsTuple a its.toArray from pt) (pi_one (tk := s1.toks) I1 _ (turn_tuple a _) ⟨_, Heap.get?_push_size _ rfl, rfl, rfl⟩ q)
  · obtain ⟨t, rfl⟩ := r1
    by_cases asc : y.cps.all (· < 128) = true
    · exact wpAny_pyIter_ascii asc (pi_one (tk := s1.toks) I1 _ (turn_str _ y t "str_ascii_iterator" (.inl rfl)) ⟨_, Heap.get?_push_size _ rfl, rfl, rfl⟩ q)
    · exact wpAny_pyIter_wide (Bool.not_eq_true _ ▸ asc) (pi_one (tk := s1.toks) I1 _ (turn_str _ y t "str_iterator" (.inr rfl)) ⟨_, Heap.get?_push_size _ rfl, rfl, rfl⟩ q)
theorem itR_list {K : Gw} {ρ : List Addr} {H : Hp} {n : Nat} {a : Addr} {xs : List Val} (ha : ρ[n]? = some a) : ItR K ρ H (.live n xs) (Itl K.K a) := by
  have key : ∀ {ρ' : List Addr} {H' : Hp} {h : Hh}, Grow ρ ρ' H H' → Sim K ρ' H' h → (Itn.live n xs).okAt h → ∃ vs, SqL K.K H' a vs ∧ RepL K ρ' H' xs vs := fun {ρ' H' h} g S ok => by
    obtain ⟨b, e, r⟩ := S.at_ n _ ok
    rw [g.get ha] at e
    cases e
    obtain ⟨vs, e2, r2⟩ := r
    exact ⟨vs, .inl (.inl e2), r2⟩
  refine ⟨fun i ρ' H' h g S ok hi => ?_, fun i ρ' H' h x v H2 g S ok hx y => ?_, fun i ρ' H' h g S ok hi => ?_⟩
  · obtain ⟨vs, q, r⟩ := key g S ok
    exact ⟨vs, vs[i]'(by rw [← r.length]; exact hi), q, List.getElem?_eq_getElem _⟩
  · obtain ⟨vs, q, r⟩ := key g S ok
    obtain ⟨rfl, z⟩ := y
    obtain ⟨u, e, ru⟩ := r.get hx
    rw [z vs q] at e
    cases e
    exact ⟨Grow.refl _ _, S, ru⟩
  · obtain ⟨vs, q, r⟩ := key g S ok
    exact ⟨vs, q, by rw [← r.length]; exact hi⟩
theorem itR_tup {K : Gw} {ρ : List Addr} {H : Hp} {a : Addr} {xs : List Val} {vs : List V} (hq : SqT K.K H a vs) (r : RepL K ρ H xs vs) : ItR K ρ H (.items xs) (Itt K.K a) := by
  refine ⟨fun i ρ' H' h g S ok hi => ?_, fun i ρ' H' h x v H2 g S ok hx y => ?_, fun i ρ' H' h g S ok hi => ?_⟩
  · exact ⟨vs, vs[i]'(by rw [← r.length]; exact hi), g.sqt hq, List.getElem?_eq_getElem _⟩
  · obtain ⟨rfl, z⟩ := y
    obtain ⟨u, e, ru⟩ := r.get hx
    rw [z vs (g.sqt hq)] at e
    cases e
    exact ⟨Grow.refl _ _, S, ru.mono g⟩
  · exact ⟨vs, g.sqt hq, by rw [← r.length]; exact hi⟩
theorem itR_scr {K : Gw} {ρ : List Addr} {H : Hp} {a : Addr} {xs : List Val} {vs : List V} (hq : RoS K.K H a vs) (r : RepL K ρ H xs vs) : ItR K ρ H (.items xs) (Itl K.K a) := by
  refine ⟨fun i ρ' H' h g S ok hi => ?_, fun i ρ' H' h x v H2 g S ok hx y => ?_, fun i ρ' H' h g S ok hi => ?_⟩
  · exact ⟨vs, vs[i]'(by rw [← r.length]; exact hi), (g.ros hq).sql, List.getElem?_eq_getElem _⟩
  · obtain ⟨rfl, z⟩ := y
    obtain ⟨u, e, ru⟩ := r.get hx
    rw [z vs (g.ros hq).sql] at e
    cases e
    exact ⟨Grow.refl _ _, S, ru.mono g⟩
  · exact ⟨vs, (g.ros hq).sql, by rw [← r.length]; exact hi⟩
theorem itR_str {K : Gw} {ρ : List Addr} {H : Hp} (s : Str) : ItR K ρ H (.items (s.cps.toList.map fun c => .str ⟨#[c]⟩)) (Its s) := by
  have hl : (s.cps.toList.map fun c => (Val.str ⟨#[c]⟩)).length = s.cps.size := by rw [List.length_map, Array.length_toList]
  refine ⟨fun i ρ' H' h g S ok hi => ?_, fun i ρ' H' h x v H2 g S ok hx y => ?_, fun i ρ' H' h g S ok hi => ?_⟩
  · have hi : i < (s.cps.toList.map fun c => (Val.str ⟨#[c]⟩)).length := hi
    rw [hl] at hi
    exact hi
  · obtain ⟨rfl, c, ec, rfl⟩ := y
    have hx : (s.cps.toList.map fun c => (Val.str ⟨#[c]⟩))[i]? = some x := hx
    rw [List.getElem?_map, Array.getElem?_toList, ec] at hx
    cases hx
    exact ⟨Grow.refl _ _, S, .str _⟩
  · have hi : (s.cps.toList.map fun c => (Val.str ⟨#[c]⟩)).length ≤ i := hi
    rw [hl] at hi
    exact hi
theorem itR_range {K : Gw} {ρ : List Addr} {H : Hp} (lo : Int) (n : Nat) : ItR K ρ H (.items ((List.range n).map fun (i : Nat) => .int (lo + i))) (Itr lo n) := by
  have hl : ((List.range n).map fun (i : Nat) => Val.int (lo + i)).length = n := by rw [List.length_map, List.length_range]
  refine ⟨fun i ρ' H' h g S ok hi => ?_, fun i ρ' H' h x v H2 g S ok hx y => ?_, fun i ρ' H' h g S ok hi => ?_⟩
  · have hi : i < ((List.range n).map fun (i : Nat) => Val.int (lo + i)).length := hi
    rw [hl] at hi
    exact hi
  · obtain ⟨rfl, rfl⟩ := y
    have hx : ((List.range n).map fun (i : Nat) => Val.int (lo + i))[i]? = some x := hx
    rw [List.getElem?_map] at hx
    have hi : i < n := by
      by_cases hi : i < n
      · exact hi
      · rw [List.getElem?_eq_none (by rw [List.length_range]; omega)] at hx
        cases hx
    rw [List.getElem?_range hi] at hx
    cases hx
    exact ⟨Grow.refl _ _, S, .int _⟩
  · have hi : ((List.range n).map fun (i : Nat) => Val.int (lo + i)).length ≤ i := hi
    rw [hl] at hi
    exact hi
theorem iter_of {K : Gw} {x : XE} {σ : St} {H : Hp} {R : It → Hp → Prop} (h : tXI K W (xIter x) σ H R) : iAny K.K (tX K W x) σ H R := by
  obtain ⟨ρ, env, h, S, E, p⟩ := h
  refine ⟨ρ, env, h, S, E, (Post.bind p).imp fun v h1 ρ1 H1 g1 S1 q u ru => ?_⟩
  cases ru with
  | @tup a xs vs sq rs => exact .inr (.inl ⟨a, rfl, ⟨_, sq⟩, q ρ1 H1 (Grow.refl _ _) S1 _ trivial (itR_tup sq rs)⟩)
  | @scr a xs vs sq rs => exact .inl ⟨a, rfl, ⟨_, sq.sql⟩, q ρ1 H1 (Grow.refl _ _) S1 _ trivial (itR_scr sq rs)⟩
  | str s => exact .inr (.inr ⟨s, rfl, q ρ1 H1 (Grow.refl _ _) S1 _ trivial (itR_str s)⟩)
  | @loc n a ea =>
    obtain ⟨o, e2, ro⟩ := S1.get ea
    have q : Post K W σ ρ1 H1 (fun it h1 ρ1 H1 => ∀ J, it.okAt h1 → ItR K ρ1 H1 it J → R J H1) (match (match h1[n]? with | some (.lst xs) => some (Itn.live n xs) | _ => none) with | some it => Res.ok it h1 | none => .stuck) := q
    rw [e2] at q
    cases o with
    | lst xs =>
      obtain ⟨vs, e3, r3⟩ := ro
      exact .inl ⟨a, rfl, ⟨vs, .inl (.inl e3)⟩, q ρ1 H1 (Grow.refl _ _) S1 _ e2 (itR_list ea)⟩
    | dct lk kvs => exact q.elim
    | ins C fs => exact q.elim
  | _ => exact q.elim
theorem qi_any {x : XE} (h : QE X W iter x) : QI X W tg iter (xIter x) := PI.of (pi_any h) fun _ _ _ => iter_of
/-- range(n), range(a, b) -/
def xRange1 (a : XE) : XI := fun e h => (a e h).bind fun v h1 => match v with
  | .int j => if -(2 ^ 62) ≤ j ∧ j < 2 ^ 62 then .ok (.items ((List.range j.toNat).map fun (i : Nat) => .int ((0 : Int) + i))) h1 else .stuck
  | _ => .stuck
def xRange2 (a b : XE) : XI := fun e h => (a e h).bind fun v h1 => (b e h1).bind fun w h2 => match v, w with
  | .int i, .int j => if -(2 ^ 62) ≤ i ∧ i < 2 ^ 62 ∧ -(2 ^ 62) ≤ j ∧ j < 2 ^ 62 then .ok (.items ((List.range (j - i).toNat).map fun (k : Nat) => .int (i + k))) h2 else .stuck
  | _, _ => .stuck
theorem qi_range1 {a : Expr} {xa : XE} {p pos : Pos} (hg : Gl X "range") (hm : X.mg "range" = none) (ha : QE X W a xa) (hs : starEach [a] X.env = [(false, eval a X.env)] := by rfl)
    (hs2 : starEach (a :: []) X.env = (false, eval a X.env) :: starEach [] X.env := by rfl) : QI X W tg (.Call (.Name "range" p) [a] [] pos) (xRange1 xa) :=
  PI.of (pi_range1 hg hm (pa_cons ha pa_nil hs2) hs) fun σ H R ⟨ρ, env, h, S, E, pp⟩ => ⟨ρ, env, h, S, E, (Post.bind pp).imp fun v h1 ρ1 H1 g1 S1 q u ru => by
    cases ru with
    | int i =>
      have q : Post (gw X) W σ ρ1 H1 (fun (it : Itn) (h1 : Hh) ρ1 H1 => ∀ J, it.okAt h1 → ItR (gw X) ρ1 H1 it J → R J H1) (if -(2 ^ 62) ≤ i ∧ i < 2 ^ 62 then .ok (.items ((List.range i.toNat).map fun (k : Nat) => .int ((0 : Int) + k))) h1 else .stuck) := q
      by_cases hi : -(2 ^ 62) ≤ i ∧ i < 2 ^ 62
      · rw [if_pos hi] at q
        exact ⟨i, rfl, hi.1, hi.2, q ρ1 H1 (Grow.refl _ _) S1 _ trivial (itR_range 0 _)⟩
      · rw [if_neg hi] at q
        exact q.elim
    | _ => exact q.elim⟩
theorem qi_range2 {a b : Expr} {xa xb : XE} {p pos : Pos} (hg : Gl X "range") (hm : X.mg "range" = none) (ha : QE X W a xa) (hb : QE X W b xb) (hs : starEach [a, b] X.env = [(false, eval a X.env), (false, eval b X.env)] := by rfl) (hs2 : starEach [b] X.env = [(false, eval b X.env)] := by rfl)
    (hs3 : starEach (a :: [b]) X.env = (false, eval a X.env) :: starEach [b] X.env := by rfl) (hs4 : starEach (b :: []) X.env = (false, eval b X.env) :: starEach [] X.env := by rfl) : QI X W tg (.Call (.Name "range" p) [a, b] [] pos) (xRange2 xa xb) :=
  PI.of (pi_range2 hg hm (pa_cons ha (pa_cons hb pa_nil hs4) hs3) hs hs2) fun σ H R ⟨ρ, env, h, S, E, pp⟩ => ⟨ρ, env, h, S, E, (Post.bind pp).imp fun v h1 ρ1 H1 g1 S1 q u ru => ⟨ρ1, env, h1, S1, E.mono g1, (Post.bind q).imp fun w h2 ρ2 H2 g2 S2 q2 u2 ru2 => by
    cases ru with
    | int i =>
      cases ru2 with
      | int j =>
        have q : Post (gw X) W σ ρ2 H2 (fun (it : Itn) (h1 : Hh) ρ1 H1 => ∀ J, it.okAt h1 → ItR (gw X) ρ1 H1 it J → R J H1) (if -(2 ^ 62) ≤ i ∧ i < 2 ^ 62 ∧ -(2 ^ 62) ≤ j ∧ j < 2 ^ 62 then .ok (.items ((List.range (j - i).toNat).map fun (k : Nat) => .int (i + k))) h2 else .stuck) := q2
        by_cases hi : -(2 ^ 62) ≤ i ∧ i < 2 ^ 62 ∧ -(2 ^ 62) ≤ j ∧ j < 2 ^ 62
        · rw [if_pos hi] at q
          exact ⟨i, j, rfl, hi, q ρ2 H2 (Grow.refl _ _) S2 _ trivial (itR_range i _)⟩
        · rw [if_neg hi] at q
          exact q.elim
      | _ => exact q2.elim
    | _ => exact q2.elim⟩⟩
end

/-! ### for -/
open Classical in
noncomputable def forLoop (it : Itn) (t : Tg) (body : XS) : List Val → En → Hh → RS
  | [], e, h => if it.okAt h then .nx e h else .stuck
  | v :: vs, e, h => if it.okAt h then (match t.put v e with
    | none => .stuck
    | some e1 => (match body e1 h with
      | .nx e2 h2 => forLoop it t body vs e2 h2
      | .ct e2 h2 => forLoop it t body vs e2 h2
      | .bk e2 h2 => .nx e2 h2
      | .rt v h2 => .rt v h2
      | .exc c fs e2 h2 => .exc c fs e2 h2
      | .stuck => .stuck)) else .stuck
noncomputable def sFor (xi : XI) (t : Tg) (body : XS) : XS := fun e h => match xi e h with
  | .ok it h1 => forLoop it t body it.xs e h1
  | .exc c fs h1 => .exc c fs e h1
  | .stuck => .stuck
section
variable {X : Cx} {W : Wd} {tg iter : Expr} {body : List Stmt} {pos : Pos} {xi : XI} {t : Tg} {xb : XS}
theorem for_of {K : Gw} {D : Ends} {σ : St} {H : Hp} (h0 : W.s = none) (h : tXS K W (sFor xi t xb) D σ H) : tFor (tXI K W xi) (tTg K t) (tXS K W xb) D σ H := by
  obtain ⟨ρ, env, h, S, E, p⟩ := h
  refine ⟨ρ, env, h, S, E, ?_⟩
  unfold sFor at p
  cases e : xi env h with
  | exc c fs h1 => rw [e] at p; exact fun ρ1 H1 d cv g1 S1 xc => p ρ1 H1 d σ cv g1 S1 (E.mono g1) xc
  | stuck => rw [e] at p; exact p.elim
  | ok it h1 =>
    rw [e] at p
    intro ρ1 H1 g1 S1
    have p1 : PostS K W ρ1 H1 D (forLoop it t xb it.xs env h1) := PostS.mono g1 p
    intro J ok0 hJ
    refine ⟨fun i m σ2 H2 => m = it.xs.length - i ∧ i ≤ it.xs.length ∧ ∃ ρ2 env2 h2, Grow ρ1 ρ2 H1 H2 ∧ Sim K ρ2 H2 h2 ∧ EnvR K ρ2 H2 W.s env2 σ2 ∧ PostS K W ρ2 H2 D (forLoop it t xb (it.xs.drop i) env2 h2), ⟨it.xs.length, by simp, Nat.zero_le _, ρ1, env, h1, Grow.refl _ _, S1, E.mono g1, by rw [List.drop_zero]; exact p1⟩, ?_⟩
    rintro i m σ2 H2 ⟨rfl, hi, ρ2, env2, h2, g2, S2, E2, p2⟩
    by_cases hlt : i < it.xs.length
    · rw [List.drop_eq_getElem_cons hlt] at p2
      unfold forLoop at p2
      by_cases ok : it.okAt h2
      · rw [if_pos ok] at p2
        refine .inr ⟨hJ.go i ρ2 H2 h2 g2 S2 ok hlt, fun σ' H' => ∃ ρ' env' h', Grow ρ1 ρ' H1 H' ∧ Sim K ρ' H' h' ∧ EnvR K ρ' H' W.s env' σ' ∧ PostS K W ρ' H' D (forLoop it t xb (it.xs.drop (i + 1)) env' h'), fun σ' H' hn => ⟨it.xs.length - (i + 1), by omega, rfl, hlt, hn⟩, fun x H3 y => ?_⟩
        obtain ⟨g3, S3, r3⟩ := hJ.yld i ρ2 H2 h2 _ x H3 g2 S2 ok (List.getElem?_eq_getElem hlt) y
        cases e2 : t.put it.xs[i] env2 with
        | none => rw [e2] at p2; exact p2.elim
        | some e1 =>
          rw [e2] at p2
          dsimp only at p2
          refine ⟨ρ2, env2, h2, it.xs[i], e1, S3, (E2.mono g3).drop, r3, e2, fun σ1 E1 _ => ⟨ρ2, e1, h2, S3, by rw [h0]; exact E1, ?_⟩⟩
          have g23 := g2.trans g3
          have p3 := PostS.mono g3 p2
          cases e3 : xb e1 h2 with
          | nx e4 h4 => rw [e3] at p3; exact fun ρ' H' σ' g s er => ⟨ρ', e4, h4, g23.trans g, s, er, PostS.mono g p3⟩
          | ct e4 h4 => rw [e3] at p3; exact fun ρ' H' σ' g s er => ⟨ρ', e4, h4, g23.trans g, s, er, PostS.mono g p3⟩
          | bk e4 h4 => rw [e3] at p3; exact p3
          | rt v h4 => rw [e3] at p3; exact p3
          | exc c fs e4 h4 => rw [e3] at p3; exact p3
          | stuck => rw [e3] at p3; exact p3
      · rw [if_neg ok] at p2; exact p2.elim
    · have e1 : i = it.xs.length := by omega
      subst e1
      rw [List.drop_length] at p2
      unfold forLoop at p2
      by_cases ok : it.okAt h2
      · rw [if_pos ok] at p2
        exact .inl ⟨hJ.stop _ ρ2 H2 h2 g2 S2 ok (Nat.le_refl _), p2 ρ2 H2 σ2 (Grow.refl _ _) S2 E2⟩
      · rw [if_neg ok] at p2; exact p2.elim
theorem qs_for (hp : PassesOwn (model X.prog X.w) X.A X.env X.xe) (hc : X.calm = true) (hi : QI X W tg iter xi) (hg : PG X tg (tTg (gw X) t)) (hb : QSs X W body xb)
    (hs : ∀ x, foldedSetIterable iter X.env x = pure x := by intro _; rfl) (h0 : W.s = none := by rfl) : QS X W (.For tg iter body [] pos) (sFor xi t xb) := PS.of (ps_for hp hc hi hg hb hs) fun _ _ _ => for_of h0
end
end EX

set_option Elab.async false
set_option linter.all false
set_option maxRecDepth 100000
set_option maxHeartbeats 1000000
namespace EX
open PySem L2

/-! ### comprehensions -/
def wipeE (e : En) : List Nat → En
  | [] => e
  | v :: vs => (wipeE e vs).set v none
def Res.bindS {α β : Type} (r : Res α) (f : α → Hh → Res β) : Res β := match r with
  | .ok a h => f a h
  | _ => .stuck
@[simp] theorem Res.bindS_ok {α β : Type} (a : α) (h : Hh) (f : α → Hh → Res β) : (Res.ok a h).bindS f = f a h := rfl
open Classical in
noncomputable def compLoop (it : Itn) (t : Tg) (tt : XT) (x : XE) (n : Nat) (e : En) : List Val → Hh → Res Unit
  | [], h => if it.okAt h then .ok () h else .stuck
  | v :: vs, h => if it.okAt h then (match t.put v e with
    | none => .stuck
    | some e1 => (tt e1 h).bindS fun b h1 => if b = true then (x e1 h1).bindS fun y h2 => (match h2[n]? with
        | some (.lst acc) => if acc.length < sizeLine then compLoop it t tt x n e vs (h2.set n (.lst (acc ++ [y]))) else .stuck
        | _ => .stuck)
      else compLoop it t tt x n e vs h1) else .stuck
noncomputable def xComp (xi : XI) (t : Tg) (tt : XT) (x : XE) (vs : List Nat) : XE := fun e h => (xi e h).bind fun it h1 =>
  (compLoop it t tt x h1.length (wipeE e vs) it.xs (h1 ++ [.lst []])).bind fun _ h2 => .ok (.loc h1.length) h2
def xYes : XT := fun _ h => .ok true h
abbrev WN : Wd := ⟨fun _ _ _ _ => False, none⟩
theorem EnvR.wipe {K : Gw} {ρ : List Addr} {H : Hp} {env : En} {σ : St} {sx : Option Sx} (h : EnvR K ρ H sx env σ) : ∀ vs : List Nat, EnvR K ρ H none (wipeE env vs) (L2.wipe σ vs)
  | [] => h.drop
  | v :: vs => (EnvR.wipe h vs).unset v none
theorem wipe_get (σ : St) (i : Nat) : ∀ vs : List Nat, (L2.wipe σ vs)[i]? = if i ∈ vs then σ[i]?.map (fun _ => none) else σ[i]?
  | [] => by simp [L2.wipe]
  | v :: vs => by
    unfold L2.wipe
    have ih := wipe_get σ i vs
    by_cases hv : v = i
    · subst hv
      rw [if_pos List.mem_cons_self]
      by_cases hl : v < σ.length
      · rw [List.getElem?_set_self (by rw [L2.wipe_length]; exact hl), List.getElem?_eq_getElem hl]
        rfl
      · rw [List.getElem?_eq_none (by rw [List.length_set, L2.wipe_length]; omega), List.getElem?_eq_none (by omega)]
        rfl
    · rw [List.getElem?_set_ne hv, ih]
      by_cases hm : i ∈ vs
      · rw [if_pos hm, if_pos (List.mem_cons_of_mem _ hm)]
      · rw [if_neg hm, if_neg (by simp only [List.mem_cons, not_or]; exact ⟨fun z => hv z.symm, hm⟩)]
theorem wipe_but {vs us : List Nat} {σ σ1 : St} (b : But us (L2.wipe σ vs) σ1) (hv : ∀ i ∈ us, i ∈ vs) : L2.wipe σ1 vs = L2.wipe σ vs := by
  apply List.ext_getElem?
  intro i
  rw [wipe_get, wipe_get]
  have hl : σ1.length = σ.length := by rw [b.1, L2.wipe_length]
  by_cases hm : i ∈ vs
  · rw [if_pos hm, if_pos hm]
    by_cases hi : i < σ.length
    · rw [List.getElem?_eq_getElem hi, List.getElem?_eq_getElem (by rw [hl]; exact hi)]
      rfl
    · rw [List.getElem?_eq_none (by omega), List.getElem?_eq_none (by omega)]
  · rw [if_neg hm, if_neg hm, b.2 i (fun z => hm (hv i z)), wipe_get, if_neg hm]
theorem Post.bindS {α β γ : Type} {K : Gw} {W : Wd} {σ σ' : St} {ρ : List Addr} {H : Hp} {R : γ → Hh → List Addr → Hp → Prop} {r : Res α} {f : α → Hh → Res β} {g : β → Hh → Res γ} (h : Post K W σ ρ H R ((r.bindS f).bind g)) :
    Post K WN σ' ρ H (fun a h1 ρ1 H1 => Post K W σ ρ1 H1 R ((f a h1).bind g)) r := by
  cases r with
  | ok a h' => exact fun ρ2 H2 g2 _ => Post.mono g2 h
  | exc c fs h' => exact h.elim
  | stuck => exact h
section
variable {X : Cx} {W : Wd}
theorem comp_of {K : Gw} {xi : XI} {t : Tg} {tt : XT} {x : XE} {vs : List Nat} {σ : St} {H : Hp} {Q : VK} (hv : ∀ i ∈ t.slots, i ∈ vs) (h : tX K W (xComp xi t tt x vs) σ H Q) : tLc (tXI K W xi) (tTg K t) (tXT K WN tt) (tX K WN x) vs σ H Q := by
  obtain ⟨ρ, env, h, S, E, p⟩ := h
  refine ⟨ρ, env, h, S, E, (Post.bind p).imp fun it h1 ρ1 H1 g1 S1 q J ok0 hJ D hD => ?_⟩
  obtain ⟨g2, S2, r2⟩ := new_loc (xs := []) (vs := []) S1 hD .nil
  have hat : (ρ1 ++ [D])[h1.length]? = some D := by
    rw [List.getElem?_append_right (by rw [S1.len]; exact Nat.le_refl _), S1.len, Nat.sub_self]
    rfl
  refine ⟨fun i m H3 => m = it.xs.length - i ∧ i ≤ it.xs.length ∧ ∃ ρ3 h3, Grow (ρ1 ++ [D]) ρ3 (upd H1 D (.lst [])) H3 ∧ Sim K ρ3 H3 h3 ∧ Post K W σ ρ3 H3 (RV K Q) ((compLoop it t tt x h1.length (wipeE env vs) (it.xs.drop i) h3).bind fun _ h2 => .ok (.loc h1.length) h2),
    ⟨it.xs.length, by simp, Nat.zero_le _, _, _, Grow.refl _ _, S2, by rw [List.drop_zero]; exact Post.mono g2 q⟩, ?_⟩
  rintro i m H3 ⟨rfl, hi, ρ3, h3, g3, S3, p3⟩
  have g13 := g2.trans g3
  by_cases hlt : i < it.xs.length
  · rw [List.drop_eq_getElem_cons hlt] at p3
    unfold compLoop at p3
    by_cases ok : it.okAt h3
    · rw [if_pos ok] at p3
      refine .inr ⟨hJ.go i ρ3 H3 h3 g13 S3 ok hlt, fun H' => ∃ ρ' h', Grow (ρ1 ++ [D]) ρ' (upd H1 D (.lst [])) H' ∧ Sim K ρ' H' h' ∧ Post K W σ ρ' H' (RV K Q) ((compLoop it t tt x h1.length (wipeE env vs) (it.xs.drop (i + 1)) h').bind fun _ h2 => .ok (.loc h1.length) h2), fun H' hn => ⟨it.xs.length - (i + 1), by omega, rfl, hlt, hn⟩, fun y H4 hy => ?_⟩
      obtain ⟨g4, S4, r4⟩ := hJ.yld i ρ3 H3 h3 _ y H4 g13 S3 ok (List.getElem?_eq_getElem hlt) hy
      cases e2 : t.put it.xs[i] (wipeE env vs) with
      | none => rw [e2] at p3; exact p3.elim
      | some e1 =>
        rw [e2] at p3
        dsimp only at p3
        have g34 := g3.trans g4
        refine ⟨ρ3, wipeE env vs, h3, it.xs[i], e1, S4, (((E.mono g1).mono g13).mono g4).wipe vs, r4, e2, fun σ1 E1 B1 => ⟨wipe_but B1 hv, ρ3, e1, h3, S4, E1, ?_⟩⟩
        refine (Post.bindS (Post.mono g4 p3)).imp fun b h5 ρ5 H5 g5 S5 q5 => ?_
        have g35 := g34.trans g5
        cases b with
        | false => exact ⟨ρ5, h5, g35, S5, q5⟩
        | true =>
          refine ⟨ρ5, e1, h5, S5, E1.mono g5, ?_⟩
          refine (Post.bindS q5).imp fun z h6 ρ6 H6 g6 S6 q6 u ru => ?_
          have g36 := g35.trans g6
          obtain ⟨o, eo, ro⟩ := S6.get (g36.get hat)
          rw [eo] at q6
          cases o with
          | lst acc =>
            obtain ⟨va, ea, ra⟩ := ro
            dsimp only at q6
            by_cases hz : acc.length < sizeLine
            · rw [if_pos hz] at q6
              have mu : Mu (H6 D) := by rw [ea]; trivial
              have g7 : Grow ρ6 ρ6 H6 (upd H6 D (.lst (va ++ [u]))) := Grow.put mu
              exact ⟨va, ea, by rw [← ra.length]; exact hz, ρ6, _, g36.trans g7, S6.put (u := .lst (acc ++ [z])) (g36.get hat) mu ⟨_, upd_same, (ra.mono g7).append (.cons (ru.mono g7) .nil)⟩, Post.mono g7 q6⟩
            · rw [if_neg hz] at q6; exact q6.elim
          | dct lk kvs => exact q6.elim
          | ins C fs => exact q6.elim
    · rw [if_neg ok] at p3; exact p3.elim
  · have e1 : i = it.xs.length := by omega
    subst e1
    rw [List.drop_length] at p3
    unfold compLoop at p3
    by_cases ok : it.okAt h3
    · rw [if_pos ok] at p3
      exact .inl ⟨hJ.stop _ ρ3 H3 h3 g13 S3 ok (Nat.le_refl _), p3 ρ3 H3 (Grow.refl _ _) S3 _ (.loc (g3.get hat))⟩
    · rw [if_neg ok] at p3; exact p3.elim
theorem PTs.of {ifs : List Expr} {t t' : TT} (h : PTs X ifs t) (w : ∀ σ H Q, t' σ H Q → t σ H Q) : PTs X ifs t' := ⟨fun pins s σ H Q I q => h.run pins s σ H Q I (w σ H Q q)⟩
theorem qts_nil : PTs X [] (tXT (gw X) W xYes) := PTs.of pts_nil fun σ H Q ⟨ρ, env, h, S, E, p⟩ => p ρ H (Grow.refl _ _) S
theorem qts_one {c : Expr} {y : XT} (h : QT X W c y) : PTs X [c] (tXT (gw X) W y) := pts_one h
theorem q_lc {elt tg iter : Expr} {ifs : List Expr} {scope : Scope} {own : List (Str × Nat)} {pos : Pos} {xi : XI} {t : Tg} {tt : XT} {x : XE} (hc : X.calm = true) (hN : X.N.Nodup) (hi : QI X W tg iter xi) (ok : BlkOk X.N X.env.scope scope own)
    (hg : ∀ (s : Shared) (H : Hp) (C : Addr) (cl : List (Str × Addr)) (fp : List Addr), PG (X.blk s H scope (compEnvC scope cl C X.env) fp) tg (tTg (gw X) t))
    (ht : ∀ (s : Shared) (H : Hp) (C : Addr) (cl : List (Str × Addr)) (fp : List Addr), PTs (X.blk s H scope (compEnvC scope cl C X.env) fp) ifs (tXT (gw X) WN tt))
    (he : ∀ (s : Shared) (H : Hp) (C : Addr) (cl : List (Str × Addr)) (fp : List Addr), PE (X.blk s H scope (compEnvC scope cl C X.env) fp) elt (tX (gw X) WN x))
    (hv : ∀ i ∈ t.slots, i ∈ own.map (·.2) := by decide) (hs : ∀ x, foldedSetIterable iter X.env x = pure x := by intro _; rfl) :
    QE X W (.ListComp elt [⟨tg, iter, ifs, 0⟩] scope pos) (xComp xi t tt x (own.map (·.2))) := PE.of (pe_lc hc hN hi ok hg ht he hs) fun _ _ _ => comp_of hv
/-- name = [..] on one line -/
theorem qs_setLc (i : Nat) {y : Str} {py spos : Pos} {elt tg iter : Expr} {ifs : List Expr} {scope : Scope} {own : List (Str × Nat)} {pos : Pos} {xi : XI} {t : Tg} {tt : XT} {x : XE} (hc : X.calm = true) (hN : X.N.Nodup) (hy : X.N[i]? = some y) (hyl : X.env.scope.names.lookup y = some .local)
    (hsw : swapsWith (.ListComp elt [⟨tg, iter, ifs, 0⟩] scope pos) (some (.Name y py)) spos.line X.env = pure true) (hi : QI X W tg iter xi) (ok : BlkOk X.N X.env.scope scope own)
    (hg : ∀ (s : Shared) (H : Hp) (C : Addr) (cl : List (Str × Addr)) (fp : List Addr), PG (X.blk s H scope (compEnvC scope cl C X.env) fp) tg (tTg (gw X) t))
    (ht : ∀ (s : Shared) (H : Hp) (C : Addr) (cl : List (Str × Addr)) (fp : List Addr), PTs (X.blk s H scope (compEnvC scope cl C X.env) fp) ifs (tXT (gw X) WN tt))
    (he : ∀ (s : Shared) (H : Hp) (C : Addr) (cl : List (Str × Addr)) (fp : List Addr), PE (X.blk s H scope (compEnvC scope cl C X.env) fp) elt (tX (gw X) WN x))
    (hv : ∀ i ∈ t.slots, i ∈ own.map (·.2) := by decide) (hs : ∀ x, foldedSetIterable iter X.env x = pure x := by intro _; rfl) (hn : ∀ q, W.s = some q → q.slot ≠ i := by first | (intro _ h; cases h; done) | (intro _ h; cases h; decide)) :
    QS X W (.Assign [.Name y py] (.ListComp elt [⟨tg, iter, ifs, 0⟩] scope pos) spos) (sSet i (xComp xi t tt x (own.map (·.2)))) :=
  PS.of (ps_setLc hc hN hy hyl hsw hi ok hg ht he hs) fun D σ H h => comp_of hv (set_of hn h)

/-! ### while -/
def whileLoop (y : XT) (body : XS) : Nat → En → Hh → RS
  | 0, _, _ => .stuck
  | n + 1, e, h => match y e h with
    | .ok c h1 => if c = true then (match body e h1 with
        | .nx e2 h2 => whileLoop y body n e2 h2
        | .ct e2 h2 => whileLoop y body n e2 h2
        | .bk e2 h2 => .nx e2 h2
        | .rt v h2 => .rt v h2
        | .exc c fs e2 h2 => .exc c fs e2 h2
        | .stuck => .stuck)
      else .nx e h1
    | .exc c fs h1 => .exc c fs e h1
    | .stuck => .stuck
def sWhile (n : Nat) (y : XT) (body : XS) : XS := fun e h => whileLoop y body n e h
theorem while_of {K : Gw} {n : Nat} {y : XT} {xb : XS} {D : Ends} {σ : St} {H : Hp} (h : tXS K W (sWhile n y xb) D σ H) : tWhile (tXT K W y) (tXS K W xb) D σ H := by
  obtain ⟨ρ, env, h, S, E, p⟩ := h
  refine ⟨fun m σ' H' => ∃ ρ' e' h', Sim K ρ' H' h' ∧ EnvR K ρ' H' W.s e' σ' ∧ PostS K W ρ' H' D (whileLoop y xb m e' h'), ⟨n, ρ, env, h, S, E, p⟩, ?_⟩
  rintro m σ1 H1 ⟨ρ1, e1, h1, S1, E1, p1⟩
  cases m with
  | zero => exact p1.elim
  | succ m =>
    refine ⟨ρ1, e1, h1, S1, E1, ?_⟩
    unfold whileLoop at p1
    cases ey : y e1 h1 with
    | exc c fs h2 => rw [ey] at p1; exact fun ρ2 H2 d cv g2 S2 xc => p1 ρ2 H2 d σ1 cv g2 S2 (E1.mono g2) xc
    | stuck => rw [ey] at p1; exact p1.elim
    | ok c h2 =>
      rw [ey] at p1
      dsimp only at p1
      intro ρ2 H2 g2 S2
      cases c with
      | false =>
        rw [if_neg Bool.false_ne_true] at p1
        exact p1 ρ2 H2 σ1 g2 S2 (E1.mono g2)
      | true =>
        rw [if_pos rfl] at p1
        refine ⟨fun σ' H' => ∃ ρ' e' h', Sim K ρ' H' h' ∧ EnvR K ρ' H' W.s e' σ' ∧ PostS K W ρ' H' D (whileLoop y xb m e' h'), fun σ' H' hn => ⟨m, Nat.lt_succ_self _, hn⟩, ρ2, e1, h2, S2, E1.mono g2, ?_⟩
        have p3 := PostS.mono g2 p1
        cases e3 : xb e1 h2 with
        | nx e4 h4 => rw [e3] at p3; exact fun ρ' H' σ' g s er => ⟨ρ', e4, h4, s, er, PostS.mono g p3⟩
        | ct e4 h4 => rw [e3] at p3; exact fun ρ' H' σ' g s er => ⟨ρ', e4, h4, s, er, PostS.mono g p3⟩
        | bk e4 h4 => rw [e3] at p3; exact p3
        | rt v h4 => rw [e3] at p3; exact p3
        | exc c fs e4 h4 => rw [e3] at p3; exact p3
        | stuck => rw [e3] at p3; exact p3
theorem qs_while (n : Nat) {c : Expr} {body : List Stmt} {pos : Pos} {y : XT} {xb : XS} (hp : PassesOwn (model X.prog X.w) X.A X.env X.xe) (hc : QT X W c y) (hb : QSs X W body xb) : QS X W (.While c body [] pos) (sWhile n y xb) :=
  PS.of (ps_while hp hc hb) fun _ _ _ => while_of
end

/-! ### calls of defs -/
abbrev Fn := List Val → Hh → Res Val
def spX (K : Gw) (n : Nat) (G : Fn) : Sp := fun vs H Q E => ∃ ρ h as, Sim K ρ H h ∧ RepL K ρ H as vs ∧ as.length = n ∧ Post K ⟨fun c d _ H => E c d H, none⟩ [] ρ H (RV K Q) (G as h)
def xCall (n : Nat) (G : Fn) (a : XA) : XE := fun e h => (a e h).bind fun vs h1 => if vs.length = n then G vs h1 else .stuck
mutual
def Val.und (n : Nat) : Val → Bool
  | .tup xs => undL n xs
  | .scr xs => undL n xs
  | .loc m => decide (m < n)
  | _ => true
def undL (n : Nat) : List Val → Bool
  | [] => true
  | x :: xs => x.und n && undL n xs
end
def Ob.und (n : Nat) : Ob → Bool
  | .lst xs => undL n xs
  | .dct _ kvs => undL n (kvs.map (·.2))
  | .ins _ fs => undL n (fs.map (·.2))
def gc (n : Nat) (v : Val) (h : Hh) : Hh := if v.und n = true ∧ (h.take n).all (Ob.und n) = true then h.take n else h
def gcX (n : Nat) (fs : List (Str × Val)) (h : Hh) : Hh := if undL n (fs.map (·.2)) = true ∧ (h.take n).all (Ob.und n) = true then h.take n else h
def callF (N : Nat) (body : XS) : Fn := fun as h => match body (as.map some ++ List.replicate (N - as.length) none) h with
  | .rt v h' => .ok v (gc h.length v h')
  | .nx _ h' => .ok .non (gc h.length .non h')
  | .exc c fs _ h' => .exc c fs (gcX h.length fs h')
  | _ => .stuck
section
variable {K : Gw} {ρ : List Addr} {H : Hp} {n : Nat}
mutual
theorem Rep.cut : ∀ {x : Val} {v : V}, Rep K ρ H x v → x.und n = true → Rep K (ρ.take n) H x v
  | _, _, .non, _ => .non
  | _, _, .bl b, _ => .bl b
  | _, _, .int i, _ => .int i
  | _, _, .str s, _ => .str s
  | _, _, .tup s r, h => .tup s (RepL.cut r (by simpa [Val.und] using h))
  | _, _, .scr s r, h => .scr s (RepL.cut r (by simpa [Val.und] using h))
  | _, _, .loc e, h => .loc (by rw [List.getElem?_take_of_lt (by simpa [Val.und] using h)]; exact e)
  | _, _, .ref e, _ => .ref e
  | _, _, .ty n, _ => .ty n
theorem RepL.cut : ∀ {xs : List Val} {vs : List V}, RepL K ρ H xs vs → undL n xs = true → RepL K (ρ.take n) H xs vs
  | _, _, .nil, _ => .nil
  | _, _, .cons a b, h => by
    simp only [undL, Bool.and_eq_true] at h
    exact .cons (Rep.cut a h.1) (RepL.cut b h.2)
end
theorem RepF.cut {κ : Type} : ∀ {fs : List (κ × Val)} {vs : List (κ × V)}, RepF K ρ H fs vs → undL n (fs.map (·.2)) = true → RepF K (ρ.take n) H fs vs
  | _, _, .nil, _ => .nil
  | _, _, .cons a b, h => by
    simp only [List.map_cons, undL, Bool.and_eq_true] at h
    exact .cons ⟨a.1, a.2.cut h.1⟩ (RepF.cut b h.2)
theorem Sim.cut {h : Hh} (S : Sim K ρ H h) (hb : (h.take n).all (Ob.und n) = true) : Sim K (ρ.take n) H (h.take n) := by
  refine ⟨by rw [List.length_take, List.length_take, S.len], S.nd.sublist (List.take_sublist _ _), fun j o e => ?_⟩
  have hj : j < n := by
    have := (List.getElem?_eq_some_iff.mp e).1
    rw [List.length_take] at this
    omega
  have hbo : o.und n = true := List.all_eq_true.mp hb o (List.mem_of_getElem? e)
  rw [List.getElem?_take_of_lt hj] at e
  obtain ⟨a, e1, r⟩ := S.at_ j o e
  refine ⟨a, by rw [List.getElem?_take_of_lt hj]; exact e1, ?_⟩
  cases o with
  | lst xs => obtain ⟨vs, e2, r2⟩ := r; exact ⟨vs, e2, r2.cut hbo⟩
  | dct lk kvs => obtain ⟨vs, e2, r2⟩ := r; exact ⟨vs, e2, r2.cut hbo⟩
  | ins C fs => obtain ⟨Ca, dx, vs, m, e2, d, r2⟩ := r; exact ⟨Ca, dx, vs, m, e2, d, r2.cut hbo⟩
theorem Grow.cut {ρ' : List Addr} {H' : Hp} (g : Grow ρ ρ' H H') (hn : ρ.length = n) : Grow ρ (ρ'.take n) H H' := by
  obtain ⟨m, rfl⟩ := g.pre
  rw [List.take_append_of_le_length (by omega), List.take_of_length_le (by omega)]
  exact ⟨⟨[], by simp⟩, g.xd, g.tup, g.frz, g.ext⟩
theorem XcR.cut {fs : List (Str × Val)} {d : Option Addr} (x : XcR K ρ H fs d) (h : undL n (fs.map (·.2)) = true) : XcR K (ρ.take n) H fs d := by
  cases d with
  | none => exact x
  | some a => obtain ⟨vs, e, r⟩ := x; exact ⟨vs, e, r.cut h⟩
theorem start_env {as : List Val} {vs : List V} {N : List Str} (r : RepL K ρ H as vs) : EnvR K ρ H none (as.map some ++ List.replicate (N.length - as.length) none) (L2.start N vs) := by
  unfold L2.start
  refine ⟨by rw [List.length_append, List.length_append, List.length_map, List.length_map, List.length_replicate, List.length_replicate, r.length], fun i x e => ?_, fun _ e => by cases e⟩
  by_cases hi : i < as.length
  · rw [List.getElem?_append_left (by rw [List.length_map]; exact hi), List.getElem?_map] at e
    cases e1 : as[i]? with
    | none => rw [e1] at e; cases e
    | some y =>
      rw [e1] at e
      cases e
      obtain ⟨v, e2, rv⟩ := r.get e1
      exact ⟨v, by rw [List.getElem?_append_left (by rw [List.length_map, ← r.length]; exact hi), List.getElem?_map, e2]; rfl, rv⟩
  · rw [List.getElem?_append_right (by rw [List.length_map]; omega), List.getElem?_replicate] at e
    split at e <;> cases e
theorem call_post {E : XK} {Q : VK} {h : Hh} {N : Nat} {body : XS} {as : List Val} (hl : ρ.length = h.length) (p : Post K ⟨fun c d _ H => E c d H, none⟩ [] ρ H (RV K Q) (callF N body as h)) :
    PostS K ⟨fun c d _ H => E c d H, none⟩ ρ H { nx := fun _ H' => Q .non H', rt := Q } (body (as.map some ++ List.replicate (N - as.length) none) h) := by
  unfold callF at p
  cases e : body (as.map some ++ List.replicate (N - as.length) none) h with
  | rt v h' =>
    rw [e] at p
    intro ρ' H' u g s r
    unfold gc at p
    by_cases hc : v.und h.length = true ∧ (h'.take h.length).all (Ob.und h.length) = true
    · dsimp only at p
      rw [if_pos hc] at p
      exact p (ρ'.take h.length) H' (g.cut hl) (s.cut hc.2) u (r.cut hc.1)
    · dsimp only at p
      rw [if_neg hc] at p
      exact p ρ' H' g s u r
  | nx e1 h' =>
    rw [e] at p
    intro ρ' H' σ' g s r
    unfold gc at p
    by_cases hc : Val.non.und h.length = true ∧ (h'.take h.length).all (Ob.und h.length) = true
    · dsimp only at p
      rw [if_pos hc] at p
      exact p (ρ'.take h.length) H' (g.cut hl) (s.cut hc.2) _ .non
    · dsimp only at p
      rw [if_neg hc] at p
      exact p ρ' H' g s _ .non
  | exc c fs e1 h' =>
    rw [e] at p
    intro ρ' H' d σ' cv g s r xc m
    unfold gcX at p
    by_cases hc : undL h.length (fs.map (·.2)) = true ∧ (h'.take h.length).all (Ob.und h.length) = true
    · dsimp only at p
      rw [if_pos hc] at p
      exact p (ρ'.take h.length) H' d cv (g.cut hl) (s.cut hc.2) (xc.cut hc.1) m
    · dsimp only at p
      rw [if_neg hc] at p
      exact p ρ' H' d cv g s xc m
  | bk e1 h' => rw [e] at p; exact p.elim
  | ct e1 h' => rw [e] at p; exact p.elim
  | stuck => rw [e] at p; exact p.elim
end
/-! ### defs, over contexts in which no repr is under way -/
/-- as FnOk, but only where the guards are none -/
structure FnG (P : Program) (w : World) (K : PySem.W.Frag) (mg : Str → Option Value) (base : Heap) (k : Nat) (f : Addr) (fd : FuncData) (ps : List Str) (sp : Sp) : Prop where
  len : ∀ vs H Q E, sp vs H Q E → vs.length = ps.length
  run : ∀ (A : Around) (outer : List Env) (s : Shared) (H : Hp) (args : Args) (us : List Value) (vs : List V) (Q : VK) (E : XK), Room k A → A.guards = some [] →
    Env0 P w K mg base A outer s H → BindsTo s fd args (ps.zip us) → Vals vs us → sp vs H Q E →
    codeAny (model P w) A (.call (.ref f) args) (CR (L2.CX P w) outer P w H s Q E) s
theorem FnG.mono {P : Program} {w : World} {K : PySem.W.Frag} {mg : Str → Option Value} {base : Heap} {j k : Nat} {f : Addr} {fd : FuncData} {ps : List Str} {sp : Sp} (F : FnG P w K mg base j f fd ps sp) (h : j ≤ k) : FnG P w K mg base k f fd ps sp :=
  ⟨F.len, fun A outer s H args us vs Q E r => F.run A outer s H args us vs Q E (r.mono h)⟩
section
variable {P : Program} {w : World} {K : PySem.W.Frag} {mg : Str → Option Value} {base : Heap} {x qual : Str} {params : Arguments} {body : List Stmt} {scope : Scope} {dvs : List V} {kws : List (Str × V)} {f : Addr} {fd : FuncData}
/-- a def keeps a promise by its body -/
theorem fn_g {N ps : List Str} {k : Nat} {sp : Sp} (F : FunD K x qual params body scope dvs kws f fd) (S : FnScope N ps scope) (len : ∀ vs H Q E, sp vs H Q E → vs.length = ps.length)
    (hb : ∀ (cdv : Value) (A : Around) (outer : List Env) (s : Shared) (H : Hp) (vs : List V) (Q : VK) (E : XK), Room k (A.deeper (PyProof.Rows.envOfC qual scope s.heap.objs.size f cdv)) → A.guards = some [] → sp vs H Q E →
      ∃ t, PSs (cxOf (L2.CX P w) P w K mg base N qual scope f cdv A outer s H E) body t ∧ t { nx := fun _ H' => Q .non H', rt := Q } (L2.start N vs) H) : FnG P w K mg base (k + 1) f fd ps sp := by
  obtain ⟨oc, od, dV, kV, doc, pm, an, cdv, ct, osl, rfl, lk, hcd, -, -⟩ := F.ex
  refine ⟨len, fun A outer s H args us vs Q E hr hg e0 hbind rv hsp => ?_⟩
  have stay : ∀ b o, base.get? b = some o → s.heap.get? b = some o := fun b o z => (e0.bs b o z).1
  have KX := e0.mod.kin.keeps stay
  refine codeAny_call_function hr.depth (KX _ _ lk) rfl S.co S.gen rfl (PySem.W.codeRec_of KX hcd) (hbind _ _ _ _ (wpAny_newFunctionEnv_cells S.kind ?kinds fun env he s1 ic => ?_))
  case kinds =>
    intro y hy
    exact (S.par y.1 (List.of_mem_zip hy).1).imp id fun z => ⟨z, PySem.W.cellsFrom_some _ _ _ (.inl z)⟩
  · cases he
    refine ⟨(e0.mod.nolimit.keeps stay).keeps ic.toInCall.keep, codeAny_func ?_⟩
    obtain ⟨t, ht, q⟩ := hb cdv A outer s H vs Q E (hr.deeper _) hg hsp
    refine wpAny_mono (ht.run [] s1 _ H _ (inv_start S hr.hd e0 (len _ _ _ _ hsp) rv ic) q) (fun fl s' z => ?_) fun _ _ z => z
    cases fl with
    | ret u => exact match z with | ⟨v, _, H', J, r, q⟩ => ⟨v, H', J.os, J.bare, J.base, J.hok, r, q⟩
    | next => exact match z with | ⟨_, H', J, q⟩ => ⟨V.non, H', J.os, J.bare, J.base, J.hok, rfl, q⟩
    | brk => exact match z with | ⟨_, _, _, q⟩ => q.elim
    | cont => exact match z with | ⟨_, _, _, q⟩ => q.elim
/-- a def keeps the promise made of its body -/
theorem fn_x {N ps : List Str} {k : Nat} {xs : XS} (F : FunD K x qual params body scope dvs kws f fd) (S : FnScope N ps scope)
    (hb : ∀ (cdv : Value) (A : Around) (outer : List Env) (s : Shared) (H : Hp) (E : XK), Room k (A.deeper (PyProof.Rows.envOfC qual scope s.heap.objs.size f cdv)) → A.guards = some [] →
      QSs (cxOf (L2.CX P w) P w K mg base N qual scope f cdv A outer s H E) ⟨fun c d _ H => E c d H, none⟩ body xs) : FnG P w K mg base (k + 1) f fd ps (spX ⟨K, mg, w⟩ ps.length (callF N.length xs)) := by
  refine fn_g F S (fun vs H Q E ⟨ρ, h, as, _, r, hl, _⟩ => by rw [← r.length, hl]) (fun cdv A outer s H vs Q E hr hg hsp => ?_)
  obtain ⟨ρ, h, as, Sm, r, hl, p⟩ := hsp
  exact ⟨_, hb cdv A outer s H E hr hg, ρ, _, h, Sm, start_env r, call_post Sm.len p⟩
end
section
variable {X : Cx} {W : Wd} {k : Nat} {f : Addr} {fd : FuncData} {ps : List Str} {sp : Sp} {G : Fn} {x : Str} {p pos : Pos} {e : Expr} {es : List Expr} {xa : XA} {dvs : List V} {ds : List Value}
theorem run_g {pins : List (Addr × Obj)} {σ : St} {H : Hp} {s : Shared} {Q : VK} {us : List Value} {vs : List V} (F : FnG X.prog X.w X.K X.mg X.base k f fd ps sp) (hr : Room k X.A) (hgd : X.A.guards = some []) (hb : Binds X.K fd ps ds) (hd : Vals dvs ds) (tk : Takes X W.w)
    (I : Inv X pins σ H s) (r : Vals vs us) (h : sp (vs ++ dvs) H Q (WE W.w σ)) : wpAny (model X.prog X.w) X.A (call (.ref f) us) (EP X pins σ Q) X.xe s := by
  have r2 := r.append hd
  refine wpAny_call (codeAny_mono (F.run X.A X.stack s H ⟨us, []⟩ _ _ Q (WE W.w σ) hr hgd I.env0 (hb s us I.kIn (r2.length ▸ F.len _ _ _ _ h)) r2 h) fun res s' z => ?_)
  match res, z with
  | .error e, z => exact passAt tk σ pins H s e s' I z
  | .ok (.ret u), z => exact I.after z
theorem pe_g (F : FnG X.prog X.w X.K X.mg X.base k f fd ps sp) (hr : Room k X.A) (hgd : X.A.guards = some []) (hg : Gl X x) (hm : X.mg x = some (.ref f)) (hk : PySem.W.keepIn X.K (.ref f) = true) (hb : Binds X.K fd ps ds) (hd : Vals dvs ds) (tk : Takes X W.w) {t : TA}
    (ha : PA X (e :: es) t) (hdb : (x == ("__debug__" : Str)) = false) (he : starEach (e :: es) X.env = (false, eval e X.env) :: starEach es X.env) (hpl : (backTo pos (starEach es X.env)).any (·.1) = false) :
    PE X (.Call (.Name x p) (e :: es) [] pos) (tCallSD sp dvs (WE W.w) t) :=
  ⟨fun pins s σ H Q I h => wpAny_Call_Name_kw (ld_glob I hg hm (PySem.W.callWith_K (h₀ := X.base) I.ok.mod.kin hk (thn (ha.run pos pins s σ H _ I h) fun us s1 ⟨vs, H1, I1, r, q⟩ => ⟨I1.kIn, run_g F hr hgd hb hd tk I1 r q⟩) he hpl) hdb)⟩
theorem callX_of {K : Gw} {n : Nat} {σ : St} {H : Hp} {Q : VK} (h : tX K W (xCall n G xa) σ H Q) : tXA K W xa σ H fun vs H1 => spX K n G (vs ++ []) H1 Q (WE W.w σ) := by
  obtain ⟨ρ, env, h, S, E, p⟩ := h
  refine ⟨ρ, env, h, S, E, (Post.bind p).imp fun as h1 ρ1 H1 g1 S1 q us rs => ?_⟩
  by_cases hl : as.length = n
  · rw [if_pos hl] at q
    refine ⟨ρ1, h1, as, S1, by rw [List.append_nil]; exact rs, hl, ?_⟩
    cases eg : G as h1 with
    | ok v h2 => rw [eg] at q; exact q
    | exc c fs h2 => rw [eg] at q; exact q
    | stuck => rw [eg] at q; exact q
  · rw [if_neg hl] at q
    exact q.elim
theorem q_call {n : Nat} (F : FnG X.prog X.w X.K X.mg X.base k f fd ps (spX (gw X) n G)) (hr : Room k X.A) (hgd : X.A.guards = some []) (hg : Gl X x) (hm : X.mg x = some (.ref f)) (hk : PySem.W.keepIn X.K (.ref f) = true) (hb : Binds X.K fd ps []) (tk : Takes X W.w)
    (ha : QA X W (e :: es) xa) (hdb : (x == ("__debug__" : Str)) = false := by decide) (he : starEach (e :: es) X.env = (false, eval e X.env) :: starEach es X.env := by rfl) (hpl : (backTo pos (starEach es X.env)).any (·.1) = false := by rfl) :
    QE X W (.Call (.Name x p) (e :: es) [] pos) (xCall n G xa) := PE.of (pe_g F hr hgd hg hm hk hb .nil tk ha hdb he hpl) fun _ _ _ => callX_of
theorem callN_of2 {K : Gw} {o : OpN} {σ : St} {H : Hp} {Q : VK} (h : tX K W (xCallN o xa) σ H Q) : tCB (rSN K o) (tXA K W xa) σ H Q := callN_of h
/-- a builtin, a built-in class, called by its name -/
theorem q_callB {id : String} {o : OpN} (hc : CallR X (.builtin id) (rSN (gw X) o)) (hg : Gl X x) (hm : X.mg x = none) (hv : bootBuiltins x = some (.builtin id)) (ha : QA X W (e :: es) xa) (hn : x ≠ "__name__" := by decide) (hdb : (x == ("__debug__" : Str)) = false := by decide)
    (he : starEach (e :: es) X.env = (false, eval e X.env) :: starEach es X.env := by rfl) (hpl : (backTo pos (starEach es X.env)).any (·.1) = false := by rfl) :
    QE X W (.Call (.Name x p) (e :: es) [] pos) (xCallN o xa) := PE.of (pe_callB hc hg hm hv ha hn hdb he hpl) fun _ _ _ => callN_of2
theorem q_callTy {T : String} {o : OpN} (hc : CallR X (.type T) (rSN (gw X) o)) (hg : Gl X x) (hm : X.mg x = none) (hv : bootBuiltins x = some (.type T)) (ha : QA X W (e :: es) xa) (hn : x ≠ "__name__" := by decide) (hdb : (x == ("__debug__" : Str)) = false := by decide)
    (he : starEach (e :: es) X.env = (false, eval e X.env) :: starEach es X.env := by rfl) (hpl : (backTo pos (starEach es X.env)).any (·.1) = false := by rfl) :
    QE X W (.Call (.Name x p) (e :: es) [] pos) (xCallN o xa) := PE.of (pe_callTy hc hg hm hv ha hn hdb he hpl) fun _ _ _ => callN_of2
theorem qa_cons {xe : XE} {xr : XA} (h : QE X W e xe) (hr : QA X W es xr) (he : starEach (e :: es) X.env = (false, eval e X.env) :: starEach es X.env := by rfl) : QA X W (e :: es) (xCons xe xr) :=
  PA.of (pa_cons h hr he) fun _ _ _ => qa_cons_of
end
end EX

set_option Elab.async false
set_option linter.all false
set_option maxRecDepth 100000
set_option maxHeartbeats 1000000
namespace EX
open PySem L2
section
variable {X : Cx}
/-! ### numbers -/
def oAdd : Op2 := fun a b h => match a, b with
  | .int i, .int j => some (.int (i + j), h)
  | .str x, .str y => if x.length + y.length ≤ sizeLine then some (.str (x ++ y), h) else none
  | .tup xs, .tup ys => if xs.length + ys.length ≤ sizeLine then some (.tup (xs ++ ys), h) else none
  | .loc m, .loc n => (match h[m]?, h[n]? with
    | some (.lst xs), some (.lst ys) => if xs.length + ys.length ≤ sizeLine then some (.loc h.length, h ++ [.lst (xs ++ ys)]) else none
    | _, _ => none)
  | _, _ => none
def oSub : Op2 := fun a b h => match a, b with
  | .int i, .int j => some (.int (i - j), h)
  | _, _ => none
def oMod : Op2 := fun a b h => match a, b with
  | .int i, .int j => if 0 < j then some (.int (i % j), h) else none
  | _, _ => none
def oFdiv : Op2 := fun a b h => match a, b with
  | .int i, .int j => if 0 < j ∧ j.natAbs.log2 < 9000 then some (.int (i / j), h) else none
  | _, _ => none
def oPow : Op2 := fun a b h => match a, b with
  | .int i, .int j => if 0 ≤ j ∧ j ≤ 1000000 ∧ i.natAbs < 2 ^ 64 then some (.int (i ^ j.toNat), h) else none
  | _, _ => none
def oMul : Op2 := fun a b h => match a, b with
  | .int i, .int j => if (-(2 ^ 64) < i ∧ i < 2 ^ 64) ∨ (-(2 ^ 64) < j ∧ j < 2 ^ 64) then some (.int (i * j), h) else none
  | .tup xs, .int k => if xs ≠ [] ∧ 2 ≤ k ∧ k ≤ 1000 ∧ xs.length ≤ 1000 then some (.tup (List.replicate k.toNat xs).flatten, h) else none
  | _, _ => none
def oNeg : Op1 := fun a h => match a with
  | .int i => some (.int (-i), h)
  | _ => none
theorem Sim.lst {K : Gw} {ρ : List Addr} {H : Hp} {h : Hh} {n : Nat} {a : Addr} {xs : List Val} (S : Sim K ρ H h) (ha : ρ[n]? = some a) (e : h[n]? = some (.lst xs)) : ∃ vs, H a = some (.lst vs) ∧ RepL K ρ H xs vs := by
  obtain ⟨b, e1, r⟩ := S.at_ n _ e
  rw [ha] at e1
  cases e1
  exact r
theorem op_add_x : OpR X (binaryOp .Add) (rS2 (gw X) oAdd) := by
  intro pins s σ H x y v u Q I rx ry ⟨ρ, h, a, b, z, h', S, ra, rb, e, k⟩
  unfold oAdd at e
  split at e
  · cases ra; cases rb; cases e
    exact op_add pins s σ H _ _ v u Q I rx ry ⟨_, _, rfl, rfl, k ρ H _ (Grow.refl _ _) S (.int _)⟩
  · cases ra; cases rb
    split at e
    · rename_i hl
      cases e
      exact op_add_str pins s σ H _ _ v u Q I rx ry ⟨_, _, rfl, rfl, hl, k ρ H _ (Grow.refl _ _) S (.str _)⟩
    · cases e
  · cases ra with
    | @tup a1 xs vs s1 r1 =>
      cases rb with
      | @tup a2 ys ws s2 r2 =>
        split at e
        · rename_i hl
          cases e
          refine op_catA pins s σ H _ _ v u Q I rx ry ⟨a1, a2, vs, ws, rfl, rfl, s1, s2, by rw [← r1.length, ← r2.length]; exact hl, fun z => ?_, fun _ z => ?_, fun _ _ p hp => ?_⟩
          · subst z
            cases r1
            exact k ρ H _ (Grow.refl _ _) S (.tup s2 r2)
          · subst z
            cases r2
            rw [List.append_nil] at k
            exact k ρ H _ (Grow.refl _ _) S (.tup s1 r1)
          · obtain ⟨g, s3, r3⟩ := new_tup S hp (r1.append r2)
            exact k ρ _ _ g s3 r3
        · cases e
  · cases ra with
    | @loc m a1 e1 =>
      cases rb with
      | @loc n a2 e2 =>
        split at e
        · rename_i xs ys h1 h2
          split at e
          · rename_i hl
            cases e
            obtain ⟨vs, q1, r1⟩ := S.lst e1 h1
            obtain ⟨ws, q2, r2⟩ := S.lst e2 h2
            refine op_cat pins s σ H _ _ v u Q I rx ry ⟨a1, a2, vs, ws, rfl, rfl, q1, q2, by rw [← r1.length, ← r2.length]; exact hl, fun p hp => ?_⟩
            obtain ⟨g, s3, r3⟩ := new_loc S hp (r1.append r2)
            exact k _ _ _ g s3 r3
          · cases e
        · cases e
  · cases e
theorem op_sub_x : OpR X (binaryOp .Sub) (rS2 (gw X) oSub) := by
  intro pins s σ H x y v u Q I rx ry ⟨ρ, h, a, b, z, h', S, ra, rb, e, k⟩
  unfold oSub at e
  split at e
  · cases ra; cases rb; cases e
    exact op_sub pins s σ H _ _ v u Q I rx ry ⟨_, _, rfl, rfl, k ρ H _ (Grow.refl _ _) S (.int _)⟩
  · cases e
theorem op_mod_x : OpR X (binaryOp .Mod) (rS2 (gw X) oMod) := by
  intro pins s σ H x y v u Q I rx ry ⟨ρ, h, a, b, z, h', S, ra, rb, e, k⟩
  unfold oMod at e
  split at e
  · cases ra; cases rb
    split at e
    · rename_i hc
      cases e
      exact op_mod pins s σ H _ _ v u Q I rx ry ⟨_, _, rfl, rfl, hc, k ρ H _ (Grow.refl _ _) S (.int _)⟩
    · cases e
  · cases e
theorem op_fdiv_x : OpR X (binaryOp .FloorDiv) (rS2 (gw X) oFdiv) := by
  intro pins s σ H x y v u Q I rx ry ⟨ρ, h, a, b, z, h', S, ra, rb, e, k⟩
  unfold oFdiv at e
  split at e
  · cases ra; cases rb
    split at e
    · rename_i hc
      cases e
      exact op_fdivW pins s σ H _ _ v u Q I rx ry ⟨_, _, rfl, rfl, hc, k ρ H _ (Grow.refl _ _) S (.int _)⟩
    · cases e
  · cases e
theorem op_pow_x : OpR X (binaryOp .Pow) (rS2 (gw X) oPow) := by
  intro pins s σ H x y v u Q I rx ry ⟨ρ, h, a, b, z, h', S, ra, rb, e, k⟩
  unfold oPow at e
  split at e
  · cases ra; cases rb
    split at e
    · rename_i hc
      cases e
      exact op_pow pins s σ H _ _ v u Q I rx ry ⟨_, _, rfl, rfl, hc, k ρ H _ (Grow.refl _ _) S (.int _)⟩
    · cases e
  · cases e
theorem repL_flat {K : Gw} {ρ : List Addr} {H : Hp} {xs : List Val} {vs : List V} (r : RepL K ρ H xs vs) : ∀ n : Nat, RepL K ρ H (List.replicate n xs).flatten (List.replicate n vs).flatten
  | 0 => .nil
  | n + 1 => by
    rw [List.replicate_succ, List.replicate_succ, List.flatten_cons, List.flatten_cons]
    exact r.append (repL_flat r n)
theorem op_mul_x : OpR X (binaryOp .Mult) (rS2 (gw X) oMul) := by
  intro pins s σ H x y v u Q I rx ry ⟨ρ, h, a, b, z, h', S, ra, rb, e, k⟩
  unfold oMul at e
  split at e
  · cases ra; cases rb
    split at e
    · rename_i hc
      cases e
      exact op_mul pins s σ H _ _ v u Q I rx ry ⟨_, _, rfl, rfl, hc, k ρ H _ (Grow.refl _ _) S (.int _)⟩
    · cases e
  · cases ra with
    | @tup a1 xs vs s1 r1 =>
      cases rb
      split at e
      · rename_i hc
        cases e
        refine op_repT pins s σ H _ _ v u Q I rx ry ⟨a1, _, vs, rfl, rfl, s1, fun z => hc.1 ?_, hc.2.1, hc.2.2.1, by rw [← r1.length]; exact hc.2.2.2, fun p hp => ?_⟩
        · subst z
          cases r1
          rfl
        · obtain ⟨g, s3, r3⟩ := new_tup S hp (repL_flat r1 _)
          exact k ρ _ _ g s3 r3
      · cases e
  · cases e
theorem un_neg_x : UnR X (unaryOp .USub) (rS1 (gw X) oNeg) := by
  intro pins s σ H x v Q I rx ⟨ρ, h, a, z, h', S, ra, e, k⟩
  unfold oNeg at e
  split at e
  · cases ra; cases e
    exact un_neg pins s σ H _ v Q I rx ⟨_, rfl, k ρ H _ (Grow.refl _ _) S (.int _)⟩
  · cases e

/-! ### order -/
def oLt : Op2 := fun a b h => match a, b with
  | .int i, .int j => some (.bl (decide (i < j)), h)
  | .str x, .str y => some (.bl (decide (x.cps.toList < y.cps.toList)), h)
  | _, _ => none
def oLe : Op2 := fun a b h => match a, b with
  | .int i, .int j => some (.bl (decide (i ≤ j)), h)
  | .str x, .str y => some (.bl (!decide (y.cps.toList < x.cps.toList)), h)
  | _, _ => none
def oGt : Op2 := fun a b h => match a, b with
  | .int i, .int j => some (.bl (decide (j < i)), h)
  | _, _ => none
def oGe : Op2 := fun a b h => match a, b with
  | .int i, .int j => some (.bl (decide (j ≤ i)), h)
  | _, _ => none
theorem op_lt_x : OpR X (compareOp .Lt) (rS2 (gw X) oLt) := by
  intro pins s σ H x y v u Q I rx ry ⟨ρ, h, a, b, z, h', S, ra, rb, e, k⟩
  unfold oLt at e
  split at e
  · cases ra; cases rb; cases e
    exact op_lt pins s σ H _ _ v u Q I rx ry ⟨_, _, rfl, rfl, k ρ H _ (Grow.refl _ _) S (.bl _)⟩
  · cases ra; cases rb; cases e
    exact op_lt_str pins s σ H _ _ v u Q I rx ry ⟨_, _, rfl, rfl, k ρ H _ (Grow.refl _ _) S (.bl _)⟩
  · cases e
theorem op_le_x : OpR X (compareOp .LtE) (rS2 (gw X) oLe) := by
  intro pins s σ H x y v u Q I rx ry ⟨ρ, h, a, b, z, h', S, ra, rb, e, k⟩
  unfold oLe at e
  split at e
  · cases ra; cases rb; cases e
    exact op_le pins s σ H _ _ v u Q I rx ry ⟨_, _, rfl, rfl, k ρ H _ (Grow.refl _ _) S (.bl _)⟩
  · cases ra; cases rb; cases e
    exact op_le_str pins s σ H _ _ v u Q I rx ry ⟨_, _, rfl, rfl, k ρ H _ (Grow.refl _ _) S (.bl _)⟩
  · cases e
theorem op_gt_x : OpR X (compareOp .Gt) (rS2 (gw X) oGt) := by
  intro pins s σ H x y v u Q I rx ry ⟨ρ, h, a, b, z, h', S, ra, rb, e, k⟩
  unfold oGt at e
  split at e
  · cases ra; cases rb; cases e
    exact op_gt pins s σ H _ _ v u Q I rx ry ⟨_, _, rfl, rfl, k ρ H _ (Grow.refl _ _) S (.bl _)⟩
  · cases e
theorem op_ge_x : OpR X (compareOp .GtE) (rS2 (gw X) oGe) := by
  intro pins s σ H x y v u Q I rx ry ⟨ρ, h, a, b, z, h', S, ra, rb, e, k⟩
  unfold oGe at e
  split at e
  · cases ra; cases rb; cases e
    exact op_ge pins s σ H _ _ v u Q I rx ry ⟨_, _, rfl, rfl, k ρ H _ (Grow.refl _ _) S (.bl _)⟩
  · cases e

/-! ### values as data; ==, in, repr -/
def datL (f : Val → Option PyData) : List Val → Option (List PyData)
  | [] => some []
  | x :: xs => match f x, datL f xs with
    | some d, some ds => some (d :: ds)
    | _, _ => none
def keyD : Key → PyData
  | .inl i => .int i
  | .inr x => .str x
def dat (h : Hh) : Nat → Val → Option PyData
  | 0, _ => none
  | n + 1, v => match v with
    | .non => some .none
    | .bl b => some (.bool b)
    | .int i => some (.int i)
    | .str s => some (.str s)
    | .tup xs => (datL (dat h n) xs).map .tuple
    | .scr xs => (datL (dat h n) xs).map .list
    | .loc m => (match h[m]? with
      | some (.lst xs) => (datL (dat h n) xs).map .list
      | some (.dct false kvs) => (datL (dat h n) (kvs.map (·.2))).map fun ds => .dict ((kvs.map fun p => keyD p.1).zip ds)
      | _ => none)
    | _ => none
/-- sys.modules stands in the written part -/
def SmIn (K : PySem.W.Frag) : Prop := ∃ o es n, K.lookup sysModules = some o ∧ o.data = .dict es n
theorem datL_reads {K : Gw} {ρ : List Addr} {H : Hp} {hp : Heap} {f : Val → Option PyData} {Sm : Prop} (hf : ∀ v u uv d, f v = some d → Rep K ρ H v u → RelV u uv → ∃ as, Reads hp uv d as ∧ (Sm → sysModules ∉ as)) :
    ∀ (xs : List Val) (vs : List V) (us : List Value) (ds : List PyData), datL f xs = some ds → RepL K ρ H xs vs → Vals vs us → ∃ as, ReadsAll hp us ds as ∧ (Sm → sysModules ∉ as)
  | [], _, _, _, e, r, rv => by
    cases r; cases rv; cases e
    exact ⟨_, .nil, fun _ z => by cases z⟩
  | x :: xs, _, _, ds, e, r, rv => by
    cases r with
    | cons r1 r2 =>
      cases rv with
      | cons q1 q2 =>
        unfold datL at e
        split at e
        · rename_i d ds' e1 e2
          cases e
          obtain ⟨a1, z1, n1⟩ := hf x _ _ d e1 r1 q1
          obtain ⟨a2, z2, n2⟩ := datL_reads hf xs _ _ ds' e2 r2 q2
          exact ⟨_, .cons z1 z2, fun sm z => (List.mem_append.mp z).elim (n1 sm) (n2 sm)⟩
        · cases e
theorem zip_fst {α β : Type} : ∀ {as : List α} {bs : List β}, as.length = bs.length → (as.zip bs).map (·.1) = as
  | [], _, _ => rfl
  | _ :: _, [], h => by cases h
  | a :: as, b :: bs, h => by
    rw [List.zip_cons_cons, List.map_cons, zip_fst (by simpa using h)]
theorem zip_snd {α β : Type} : ∀ {as : List α} {bs : List β}, as.length = bs.length → (as.zip bs).map (·.2) = bs
  | [], [], _ => rfl
  | [], _ :: _, h => by cases h
  | _ :: _, [], h => by cases h
  | a :: as, b :: bs, h => by
    rw [List.zip_cons_cons, List.map_cons, zip_snd (by simpa using h)]
theorem datL_len {f : Val → Option PyData} : ∀ {xs : List Val} {ds : List PyData}, datL f xs = some ds → xs.length = ds.length
  | [], _, e => by cases e; rfl
  | x :: xs, ds, e => by
    unfold datL at e
    split at e
    · rename_i d ds' e1 e2
      cases e
      rw [List.length_cons, List.length_cons, datL_len e2]
    · cases e
theorem key_reads {hp : Heap} {P : Program} {w : World} : ∀ {es : List DictEntry} {kvs : List (Key × Value)}, Pairs (mixKind P w) es kvs → ∀ {xs : List (Key × Val)}, kvs.map (·.1) = xs.map (·.1) → ReadsAll hp (es.map (·.key)) (xs.map fun p => keyD p.1) []
  | _, _, .nil, [], _ => .nil
  | _, _, .nil, _ :: _, h => by cases h
  | _, _, .cons _ _ _, [], h => by cases h
  | _, _, .cons (e := e) p1 _ p2, x :: xs, h => by
    rw [List.map_cons, List.map_cons] at h
    injection h with h1 h2
    have k1 : keyIs x.1 e.key = true := h1 ▸ p1
    refine .cons (as := []) (bs := []) ?_ (key_reads p2 h2)
    rcases keyIs_shape k1 with ⟨i, t, e1, e2⟩ | ⟨y, t, e1, e2⟩
    · dsimp only; rw [e1, e2]; exact .int i t
    · dsimp only; rw [e1, e2]; exact .str y t
theorem keys_same {K : Gw} {ρ : List Addr} {H : Hp} : ∀ {kvs : List (Key × Val)} {vs : List (Key × V)} {ws : List (Key × Value)}, RepF K ρ H kvs vs → KV vs ws → ws.map (·.1) = kvs.map (·.1)
  | _, _, _, .nil, .nil => rfl
  | _, _, _, .cons r t, .cons q u => by rw [List.map_cons, List.map_cons, keys_same t u, r.1, q.1]
theorem vals_of_pairs {P : Program} {w : World} {K : Gw} {ρ : List Addr} {H : Hp} : ∀ {kvs : List (Key × Val)} {vs : List (Key × V)} {ws : List (Key × Value)} {es : List DictEntry}, RepF K ρ H kvs vs → KV vs ws → Pairs (mixKind P w) es ws →
    RepL K ρ H (kvs.map (·.2)) (vs.map (·.2)) ∧ Vals (vs.map (·.2)) (es.map (·.val))
  | _, _, _, _, .nil, .nil, .nil => ⟨.nil, .nil⟩
  | _, _, _, _, .cons r t, .cons q u, .cons _ p1 p2 => by
    obtain ⟨a, b⟩ := vals_of_pairs t u p2
    exact ⟨.cons r.2 a, .cons (by dsimp only; rw [p1]; exact q.2) b⟩
theorem dat_reads {pins : List (Addr × Obj)} {σ : St} {H : Hp} {s : Shared} {ρ : List Addr} {h : Hh} (I : Inv X pins σ H s) (S : Sim (gw X) ρ H h) :
    ∀ (n : Nat) (v : Val) (u : V) (uv : Value) (d : PyData), dat h n v = some d → Rep (gw X) ρ H v u → RelV u uv → ∃ as, Reads s.heap uv d as ∧ (SmIn X.K → sysModules ∉ as)
  | 0, _, _, _, _, e, _, _ => by cases e
  | n + 1, v, u, uv, d, e, r, q => by
    have ih := dat_reads I S n
    have smH : SmIn X.K → H sysModules = none := fun ⟨o, _, _, l, _⟩ => (I.bs _ _ (I.ok.mod.kin _ _ l)).2
    have smL : ∀ {a : Addr} {xs : List V}, SqL X.K H a xs → SmIn X.K → sysModules ≠ a := fun {a xs} hq sm z => by
      subst z
      have hn := smH sm
      obtain ⟨o, es, m, l, hd⟩ := sm
      rcases hq with (z | ⟨_, z⟩) | ⟨o2, its, m2, l2, _, _, hd2, _⟩
      · rw [hn] at z; cases z
      · rw [hn] at z; cases z
      · rw [l] at l2
        cases l2
        rw [hd] at hd2
        cases hd2
    cases r with
    | non => cases e; cases q; exact ⟨_, .none, fun _ z => by cases z⟩
    | bl b => cases e; cases q; exact ⟨_, .bool b, fun _ z => by cases z⟩
    | int i => cases e; obtain ⟨t, rfl⟩ := q; exact ⟨_, .int i t, fun _ z => by cases z⟩
    | str x => cases e; obtain ⟨t, rfl⟩ := q; exact ⟨_, .str x t, fun _ z => by cases z⟩
    | @tup a xs vs sq rs =>
      have e : (datL (dat h n) xs).map PyData.tuple = some d := e
      cases e1 : datL (dat h n) xs with
      | none => rw [e1] at e; cases e
      | some ds =>
        rw [e1] at e
        cases e
        cases q
        obtain ⟨its, rv, ⟨o, ho, hc, m, hd⟩, _⟩ := I.tuple sq
        obtain ⟨as, hr, hn⟩ := datL_reads ih xs _ its ds e1 rs rv
        exact ⟨_, .tuple ho hc hd (by simpa using hr), hn⟩
    | @scr a xs vs sq rs =>
      have e : (datL (dat h n) xs).map PyData.list = some d := e
      cases e1 : datL (dat h n) xs with
      | none => rw [e1] at e; cases e
      | some ds =>
        rw [e1] at e
        cases e
        cases q
        obtain ⟨its, rv, ⟨o, m, ho, hc, _, hd⟩, _⟩ := I.list sq.sql
        obtain ⟨as, hr, hn⟩ := datL_reads ih xs _ its ds e1 rs rv
        exact ⟨_, .list ho hc hd (by simpa using hr), fun sm z => (List.mem_cons.mp z).elim (smL sq.sql sm) (hn sm)⟩
    | @loc m a ea =>
      have e : (match h[m]? with | some (.lst xs) => (datL (dat h n) xs).map .list | some (.dct false kvs) => (datL (dat h n) (kvs.map (·.2))).map fun ds => PyData.dict ((kvs.map fun p => keyD p.1).zip ds) | _ => none) = some d := e
      split at e
      · rename_i xs e2
        obtain ⟨vs, e3, rs⟩ := S.lst ea e2
        cases e1 : datL (dat h n) xs with
        | none => rw [e1] at e; cases e
        | some ds =>
          rw [e1] at e
          cases e
          cases q
          obtain ⟨its, rv, ⟨o, m, ho, hc, _, hd⟩, _⟩ := I.list (.inl (.inl e3))
          obtain ⟨as, hr, hn⟩ := datL_reads ih xs _ its ds e1 rs rv
          exact ⟨_, .list ho hc hd (by simpa using hr), fun sm z => (List.mem_cons.mp z).elim (smL (.inl (.inl e3)) sm) (hn sm)⟩
      · rename_i kvs e2
        obtain ⟨b, e4, vs, e3, rs⟩ := S.at_ m _ e2
        rw [ea] at e4
        cases e4
        cases e1 : datL (dat h n) (kvs.map (·.2)) with
        | none => rw [e1] at e; cases e
        | some ds =>
          rw [e1] at e
          cases e
          cases q
          obtain ⟨_, nsm, ws, kv, o, es, ep, ho, hx, hd, _, hp, _⟩ : ObjOk X.prog X.w H s.heap a (.dK vs) := I.hok a _ e3
          have k1 : ws.map (·.1) = kvs.map (·.1) := keys_same rs kv
          have p1 := vals_of_pairs rs kv hp
          obtain ⟨as, hr, hn⟩ := datL_reads ih (kvs.map (·.2)) _ _ ds e1 p1.1 p1.2
          have hl : (kvs.map fun p => keyD p.1).length = ds.length := by rw [List.length_map, ← datL_len e1, List.length_map]
          refine ⟨_, .dict (as := []) (bs := as) ho hx.1 hd (by rw [zip_fst hl]; exact key_reads hp k1) (by rw [zip_snd hl]; exact hr), fun sm z => ?_⟩
          rcases List.mem_append.mp z with z | z
          · rcases List.mem_cons.mp z with z | z
            · rw [← z] at nsm
              simp at nsm
            · cases z
          · exact hn sm z
      · cases e
    | ref _ => cases e
    | ty _ => cases e
/-- == of two that are no containers -/
def scEq : Val → Val → Option Bool
  | .non, .non => some true
  | .int i, .int j => some (decide (i = j))
  | .bl i, .bl j => some (decide (i = j))
  | .str i, .str j => some (decide (i = j))
  | .non, .int _ => some false
  | .int _, .non => some false
  | .non, .bl _ => some false
  | .bl _, .non => some false
  | .non, .str _ => some false
  | .str _, .non => some false
  | .int _, .str _ => some false
  | .str _, .int _ => some false
  | .bl _, .str _ => some false
  | .str _, .bl _ => some false
  | _, _ => none
def vEq (a b : Val) (h : Hh) : Option Bool := match scEq a b with
  | some r => some r
  | none => (match dat h 40 a, dat h 40 b with
    | some d, some e => if SeqAt.shaped d = true ∧ SeqAt.shaped e = true then some (PyData.eqv d e) else none
    | _, _ => none)
/-- lists of unlike lengths -/
def lensOf (v : Val) (h : Hh) : Option Nat := match v with
  | .loc n => (match h[n]? with
    | some (.lst xs) => some xs.length
    | _ => none)
  | _ => none
def unlike (a b : Val) (h : Hh) : Bool := match lensOf a h, lensOf b h with
  | some m, some n => m != n
  | _, _ => false
def vEqL (a b : Val) (h : Hh) : Option Bool := if unlike a b h = true then some false else vEq a b h
def oEq : Op2 := fun a b h => (vEqL a b h).map fun r => (.bl r, h)
def oNe : Op2 := fun a b h => (vEq a b h).map fun r => (.bl (!r), h)
theorem scEq_ok {K : Gw} {ρ : List Addr} {H : Hp} {a b : Val} {x y : V} {r : Bool} (ra : Rep K ρ H a x) (rb : Rep K ρ H b y) (e : scEq a b = some r) : scal x y = true ∧ r = decide (x = y) := by
  cases ra <;> cases rb <;> first
    | (cases e; exact ⟨rfl, by simp⟩)
    | (exact absurd e (by simp [scEq]))
theorem vEq_cases {a b : Val} {h : Hh} {r : Bool} (e : vEq a b h = some r) : scEq a b = some r ∨ ∃ d d', dat h 40 a = some d ∧ dat h 40 b = some d' ∧ SeqAt.shaped d = true ∧ SeqAt.shaped d' = true ∧ r = PyData.eqv d d' := by
  unfold vEq at e
  split at e
  · rename_i r' e'
    cases e
    exact .inl e'
  · split at e
    · rename_i d d' e1 e2
      split at e
      · rename_i hc
        cases e
        exact .inr ⟨d, d', e1, e2, hc.1, hc.2, rfl⟩
      · cases e
    · cases e
theorem lensOf_ok {pins : List (Addr × Obj)} {σ : St} {H : Hp} {s : Shared} {ρ : List Addr} {h : Hh} {a : Val} {x : V} {v : Value} {n : Nat} (I : Inv X pins σ H s) (S : Sim (gw X) ρ H h) (ra : Rep (gw X) ρ H a x) (rx : RelV x v) (e : lensOf a h = some n) :
    ∃ p its, v = .ref p ∧ s.heap.IsList p its ∧ its.size = n := by
  unfold lensOf at e
  split at e
  · cases ra with
    | @loc m p ea =>
    split at e
    · rename_i xs e2
      cases e
      obtain ⟨vs, q1, r1⟩ := S.lst ea e2
      obtain ⟨its, rv, pl, _⟩ := I.list (.inl (.inl q1))
      cases (show v = Value.ref p from rx)
      exact ⟨p, _, rfl, pl.isList, by rw [List.size_toArray, ← Paired.length rv, r1.length]⟩
    · cases e
  · cases e
theorem op_eq_x (hu : X.A.units + 64 < cLine) : OpR X (compareOp .Eq) (rS2 (gw X) oEq) := by
  intro pins s σ H x y v u Q I rx ry ⟨ρ, h, a, b, z, h', S, ra, rb, e, k⟩
  unfold oEq at e
  cases e1 : vEqL a b h with
  | none => rw [e1] at e; cases e
  | some r =>
    rw [e1] at e
    cases e
    have fin : Q (.bl r) H := k ρ H _ (Grow.refl _ _) S (.bl _)
    unfold vEqL at e1
    by_cases hu2 : unlike a b h = true
    · rw [if_pos hu2] at e1
      cases e1
      unfold unlike at hu2
      split at hu2
      · rename_i m n l1 l2
        obtain ⟨p, its, rfl, il, sz⟩ := lensOf_ok I S ra rx l1
        obtain ⟨p2, its2, rfl, il2, sz2⟩ := lensOf_ok I S rb ry l2
        exact PySem.SeqAt.eq_list_lengthsAt il il2 (by rw [sz, sz2]; exact hu2) (by omega) ⟨.bl _, H, I, rfl, fin⟩
      · cases hu2
    rw [if_neg hu2] at e1
    rcases vEq_cases e1 with e2 | ⟨d, d', e2, e3, s2, s3, rfl⟩
    · obtain ⟨hs, rfl⟩ := scEq_ok ra rb e2
      exact op_eq pins s σ H x y v u Q I rx ry ⟨hs, fin⟩
    · obtain ⟨as, r1, _⟩ := dat_reads I S 40 a x v d e2 ra rx
      obtain ⟨bs, r2, _⟩ := dat_reads I S 40 b y u d' e3 rb ry
      exact SeqAt.compareEq_shaped r1 r2 s2 s3 hu ⟨.bl _, H, I, rfl, fin⟩
theorem op_ne_x (hu : X.A.units + 64 < cLine) : OpR X (compareOp .NotEq) (rS2 (gw X) oNe) := by
  intro pins s σ H x y v u Q I rx ry ⟨ρ, h, a, b, z, h', S, ra, rb, e, k⟩
  unfold oNe at e
  cases e1 : vEq a b h with
  | none => rw [e1] at e; cases e
  | some r =>
    rw [e1] at e
    cases e
    have fin : Q (.bl (!r)) H := k ρ H _ (Grow.refl _ _) S (.bl _)
    rcases vEq_cases e1 with e2 | ⟨d, d', e2, e3, s2, s3, rfl⟩
    · obtain ⟨hs, rfl⟩ := scEq_ok ra rb e2
      exact op_ne pins s σ H x y v u Q I rx ry ⟨hs, fin⟩
    · obtain ⟨as, r1, _⟩ := dat_reads I S 40 a x v d e2 ra rx
      obtain ⟨bs, r2, _⟩ := dat_reads I S 40 b y u d' e3 rb ry
      exact SeqAt.compareNe_shaped r1 r2 s2 s3 hu ⟨.bl _, H, I, rfl, fin⟩
def oRepr : OpN := fun as h => match as with
  | [v] => (match dat h 40 v with
    | some d => if d.showable = true ∧ d.shown.length ≤ sizeLine ∧ d.depth ≤ 64 then some (.str d.shown, h) else none
    | none => none)
  | _ => none
theorem call_repr_x (hu : X.A.units + 70 < cLine) (hg : X.A.guards = some []) (sm : SmIn X.K) : CallR X (.builtin "repr") (rSN (gw X) oRepr) := by
  intro pins s σ H xs us Q I rs ⟨ρ, h, as, z, h', S, ra, e, k⟩
  unfold oRepr at e
  split at e
  · rename_i v
    cases ra with
    | @cons _ x _ _ r1 r2 =>
    cases r2
    cases rs with
    | @cons _ uv _ _ q1 q2 =>
    cases q2
    split at e
    · rename_i d ed
      split at e
      · rename_i hc
        cases e
        have fin : Q (.str d.shown) H := k ρ H _ (Grow.refl _ _) S (.str _)
        obtain ⟨as, rd, nsm⟩ := dat_reads I S 40 v x uv d ed r1 q1
        cases rd with
        | none => exact PySem.P.repr_of_none ⟨.str _, H, I.tok _, ⟨_, rfl⟩, fin⟩
        | bool b => exact PySem.P.repr_of_bool ⟨.str _, H, I.tok _, ⟨_, rfl⟩, fin⟩
        | int i t => exact PySem.P.repr_of_int (by simpa [PyData.showable] using hc.1) ⟨.str _, H, I.tok _, ⟨_, rfl⟩, fin⟩
        | str y t => exact PySem.P.repr_of_str ⟨.str _, H, I.tok _, ⟨_, rfl⟩, fin⟩ hc.2.1
        | list h1 h2 h3 h4 => exact repr_of_reads' (.list h1 h2 h3 h4) hc.1 (fun _ => nsm sm) hg (by have := hc.2.2; omega) (fun _ _ e => e) (fun h' u tk hk => ⟨.str _, H, I.kept hk, ⟨_, rfl⟩, fin⟩) hc.2.1
        | tuple h1 h2 h3 h4 => exact repr_of_reads' (.tuple h1 h2 h3 h4) hc.1 (fun _ => nsm sm) hg (by have := hc.2.2; omega) (fun _ _ e => e) (fun h' u tk hk => ⟨.str _, H, I.kept hk, ⟨_, rfl⟩, fin⟩) hc.2.1
        | dict h1 h2 h3 h4 h5 => exact repr_of_reads' (.dict h1 h2 h3 h4 h5) hc.1 (fun _ => nsm sm) hg (by have := hc.2.2; omega) (fun _ _ e => e) (fun h' u tk hk => ⟨.str _, H, I.kept hk, ⟨_, rfl⟩, fin⟩) hc.2.1
      · cases e
    · cases e
  · cases e
end
end EX

set_option Elab.async false
set_option linter.all false
set_option maxRecDepth 100000
set_option maxHeartbeats 1000000
namespace EX
open PySem L2
section
variable {X : Cx} {W : Wd}
/-! ### subscripts -/
def oIx : Op2 := fun a b h => match a, b with
  | .tup xs, .int i => (atI xs i).map fun v => (v, h)
  | .scr xs, .int i => (atI xs i).map fun v => (v, h)
  | .str s, .int i => if s.length ≤ sizeLine then (atI s.cps.toList i).map fun c => (.str ⟨#[c]⟩, h) else none
  | .loc n, .int i => (match h[n]? with
    | some (.lst xs) => (atI xs i).map fun v => (v, h)
    | _ => none)
  | _, _ => none
theorem RepL.atI {K : Gw} {ρ : List Addr} {H : Hp} {xs : List Val} {vs : List V} {i : Int} {v : Val} (r : RepL K ρ H xs vs) (e : L2.atI xs i = some v) : ∃ u, L2.atI vs i = some u ∧ Rep K ρ H v u := by
  unfold L2.atI at e ⊢
  rw [← r.length]
  cases q : ixN xs.length i with
  | none => rw [q] at e; cases e
  | some j =>
    rw [q] at e
    exact r.get (i := j) e
theorem ix_x : IxR X (rS2 (gw X) oIx) := by
  intro value slice pins s σ H x y v u Q I rx ry ⟨ρ, h, a, b, z, h', S, ra, rb, e, k⟩ hs
  unfold oIx at e
  split at e
  · rename_i xs i
    cases ra with
    | @tup a1 _ vs s1 r1 =>
      cases rb
      cases e1 : L2.atI xs i with
      | none => rw [e1] at e; cases e
      | some w =>
        rw [e1] at e
        cases e
        obtain ⟨u1, e2, r2⟩ := r1.atI e1
        exact ix_tup value slice pins s σ H _ _ v u Q I rx ry ⟨a1, vs, _, u1, rfl, rfl, s1, e2, k ρ H _ (Grow.refl _ _) S r2⟩ hs
  · rename_i xs i
    cases ra with
    | @scr a1 _ vs s1 r1 =>
      cases rb
      cases e1 : L2.atI xs i with
      | none => rw [e1] at e; cases e
      | some w =>
        rw [e1] at e
        cases e
        obtain ⟨u1, e2, r2⟩ := r1.atI e1
        exact ix_list value slice pins s σ H _ _ v u Q I rx ry ⟨a1, vs, _, u1, rfl, rfl, s1.sql, e2, k ρ H _ (Grow.refl _ _) S r2⟩ hs
  · rename_i t i
    cases ra
    cases rb
    split at e
    · rename_i hl
      cases e1 : L2.atI t.cps.toList i with
      | none => rw [e1] at e; cases e
      | some w =>
        rw [e1] at e
        cases e
        exact ix_str value slice pins s σ H _ _ v u Q I rx ry ⟨_, _, w, rfl, rfl, hl, e1, k ρ H _ (Grow.refl _ _) S (.str _)⟩ hs
    · cases e
  · rename_i n i
    cases ra with
    | @loc _ a1 ea =>
      cases rb
      split at e
      · rename_i xs e2
        obtain ⟨vs, q1, r1⟩ := S.lst ea e2
        cases e1 : L2.atI xs i with
        | none => rw [e1] at e; cases e
        | some w =>
          rw [e1] at e
          cases e
          obtain ⟨u1, e3, r2⟩ := r1.atI e1
          exact ix_list value slice pins s σ H _ _ v u Q I rx ry ⟨a1, vs, _, u1, rfl, rfl, .inl (.inl q1), e3, k ρ H _ (Grow.refl _ _) S r2⟩ hs
      · cases e
  · cases e

/-! ### slices -/
abbrev OpS := Val → Option Int → Option Int → Hh → Option (Val × Hh)
def cutX {α : Type} (xs : List α) (lo hi : Option Int) : List α := (xs.drop (HT.sIx xs.length 0 lo)).take (HT.sIx xs.length xs.length hi - HT.sIx xs.length 0 lo)
def oSl : OpS := fun a lo hi h => match a with
  | .tup xs => some (.tup (cutX xs lo hi), h)
  | .str s => if s.length ≤ sizeLine then some (.str (cutS s lo hi), h) else none
  | .loc n => (match h[n]? with
    | some (.lst xs) => some (.loc h.length, h ++ [.lst (cutX xs lo hi)])
    | _ => none)
  | _ => none
def rSl (K : Gw) (o : OpS) : V → Option Int → Option Int → Hp → VK → Prop := fun x lo hi H Q => ∃ ρ h a v h', Sim K ρ H h ∧ Rep K ρ H a x ∧ o a lo hi h = some (v, h') ∧ ∀ ρ' H' u, Grow ρ ρ' H H' → Sim K ρ' H' h' → Rep K ρ' H' v u → Q u H'
theorem cut_rep {K : Gw} {ρ : List Addr} {H : Hp} {xs : List Val} {vs : List V} (r : RepL K ρ H xs vs) (lo hi : Option Int) : RepL K ρ H (cutX xs lo hi) (cutV vs lo hi) := by
  unfold cutX cutV
  rw [← r.length]
  exact (r.drop _).take _
theorem sl_x : SlR X (rSl (gw X) oSl) := by
  intro pins s σ H x v vl vu lo hi sl Q I rx hs pl pu ⟨ρ, h, a, z, h', S, ra, e, k⟩
  unfold oSl at e
  split at e
  · rename_i xs
    cases ra with
    | @tup a1 _ vs s1 r1 =>
      cases e
      refine sl_tupA pins s σ H _ v vl vu lo hi sl Q I rx hs pl pu ⟨a1, vs, rfl, s1, fun z => k ρ H _ (Grow.refl _ _) S (.tup s1 ?_), fun z p hp => ?_⟩
      · have e2 : cutX xs lo hi = xs := by
          unfold cutX
          rw [r1.length, z.1, z.2, List.drop_zero, Nat.sub_zero, ← r1.length, List.take_length]
        rw [e2]
        exact r1
      · obtain ⟨g, s3, r3⟩ := new_tup S hp (cut_rep r1 lo hi)
        exact k ρ _ _ g s3 r3
  · cases ra
    split at e
    · rename_i hl
      cases e
      exact sl_str pins s σ H _ v vl vu lo hi sl Q I rx hs pl pu ⟨_, rfl, hl, k ρ H _ (Grow.refl _ _) S (.str _)⟩
    · cases e
  · cases ra with
    | @loc _ a1 ea =>
      split at e
      · rename_i xs e2
        cases e
        obtain ⟨vs, q1, r1⟩ := S.lst ea e2
        refine sl_list pins s σ H _ v vl vu lo hi sl Q I rx hs pl pu ⟨a1, vs, rfl, .inl (.inl q1), fun p hp => ?_⟩
        obtain ⟨g, s3, r3⟩ := new_loc S hp (cut_rep r1 lo hi)
        exact k _ _ _ g s3 r3
      · cases e
  · cases e
def xPart : Option XE → En → Hh → Res (Option Int)
  | none, _, h => .ok none h
  | some x, e, h => (x e h).bind fun v h1 => match v with
    | .int i => .ok (some i) h1
    | _ => .stuck
def xSl (o : OpS) (a : XE) (lo hi : Option XE) : XE := fun e h => (a e h).bind fun v h1 => (xPart lo e h1).bind fun l h2 => (xPart hi e h2).bind fun u h3 => Res.of (o v l u h3)
def tXO (K : Gw) (W : Wd) (x : Option XE) : TO := fun σ H Q => ∃ ρ env h, Sim K ρ H h ∧ EnvR K ρ H W.s env σ ∧ Post K W σ ρ H (fun o _ _ H1 => Q o H1) (xPart x env h)
theorem PO.of {e : Option Expr} {t t' : TO} (h : PO X e t) (w : ∀ σ H Q, t' σ H Q → t σ H Q) : PO X e t' := ⟨fun pins s σ H Q I q => h.run pins s σ H Q I (w σ H Q q)⟩
theorem qo_none : PO X none (tXO (gw X) W none) := PO.of po_none fun σ H Q ⟨ρ, env, h, S, E, p⟩ => p ρ H (Grow.refl _ _) S
theorem qo_some {e : Expr} {x : XE} (h : QE X W e x) : PO X (some e) (tXO (gw X) W (some x)) := PO.of (po_some h) fun σ H Q ⟨ρ, env, h, S, E, p⟩ =>
  ⟨ρ, env, h, S, E, (Post.bind p).imp fun v h1 ρ1 H1 g1 S1 q u ru => by
    cases ru with
    | int i => exact ⟨i, rfl, q ρ1 H1 (Grow.refl _ _) S1⟩
    | _ => exact q.elim⟩
theorem q_slice {a : Expr} {lo hi : Option Expr} {xa : XE} {xl xh : Option XE} {p2 pos : Pos} {o : OpS} (hr : SlR X (rSl (gw X) o)) (ha : QE X W a xa) (hl : PO X lo (tXO (gw X) W xl)) (hh : PO X hi (tXO (gw X) W xh)) :
    QE X W (.Subscript a (.Slice lo hi none p2) pos) (xSl o xa xl xh) := PE.of (pe_slice hr ha hl hh) fun σ H Q ⟨ρ, env, h, S, E, p⟩ =>
  ⟨ρ, env, h, S, E, (Post.bind p).imp fun v h1 ρ1 H1 g1 S1 q1 u ru => ⟨ρ1, env, h1, S1, E.mono g1, (Post.bind q1).imp fun l h2 ρ2 H2 g2 S2 q2 => ⟨ρ2, env, h2, S2, (E.mono g1).mono g2, (Post.bind q2).imp fun m h3 ρ3 H3 g3 S3 q3 => by
    obtain ⟨z, h', e, k⟩ := Post.of q3
    exact ⟨ρ3, h3, v, z, h', S3, (ru.mono g2).mono g3, e, k⟩⟩⟩⟩

/-! ### in, is -/
def flatX : Val → Bool
  | .non => true
  | .bl _ => true
  | .int _ => true
  | .str _ => true
  | _ => false
def eqX : Val → Val → Bool
  | .non, .non => true
  | .bl a, .bl b => a == b
  | .bl a, .int b => (if a then 1 else 0) == b
  | .int a, .bl b => a == (if b then 1 else 0)
  | .int a, .int b => a == b
  | .str a, .str b => a == b
  | _, _ => false
def inX (x : Val) (xs : List Val) : Bool := xs.any fun y => eqX y x
def vIn (a b : Val) (h : Hh) : Option Bool := match b with
  | .str z => (match a with
    | .str y => if y.cps.size = 1 then some (decide (y.cps.getD 0 0 ∈ z.cps.toList)) else none
    | _ => none)
  | .tup xs => if flatX a = true ∧ xs.all flatX = true then some (inX a xs) else none
  | .loc n => (match h[n]? with
    | some (.lst xs) => if flatX a = true ∧ xs.all flatX = true then some (inX a xs) else none
    | _ => none)
  | _ => none
def oIn : Op2 := fun a b h => (vIn a b h).map fun r => (.bl r, h)
def oNotIn : Op2 := fun a b h => (vIn a b h).map fun r => (.bl (!r), h)
theorem flat_rep {K : Gw} {ρ : List Addr} {H : Hp} {a : Val} {x : V} (r : Rep K ρ H a x) (h : flatX a = true) : flatV x = true := by
  cases r <;> first | rfl | (exact absurd h (by simp [flatX]))
theorem flatL_rep {K : Gw} {ρ : List Addr} {H : Hp} : ∀ {xs : List Val} {vs : List V}, RepL K ρ H xs vs → xs.all flatX = true → vs.all flatV = true
  | _, _, .nil, _ => rfl
  | _, _, .cons r t, h => by
    rw [List.all_cons, Bool.and_eq_true] at h ⊢
    exact ⟨flat_rep r h.1, flatL_rep t h.2⟩
theorem eq_rep {K : Gw} {ρ : List Addr} {H : Hp} {a b : Val} {x y : V} (ra : Rep K ρ H a x) (rb : Rep K ρ H b y) (ha : flatX a = true) (hb : flatX b = true) : eqV x y = eqX a b := by
  cases ra <;> cases rb <;> first | rfl | (exact absurd ha (by simp [flatX])) | (exact absurd hb (by simp [flatX]))
theorem in_rep {K : Gw} {ρ : List Addr} {H : Hp} {a : Val} {x : V} (ra : Rep K ρ H a x) (ha : flatX a = true) : ∀ {xs : List Val} {vs : List V}, RepL K ρ H xs vs → xs.all flatX = true → inV x vs = inX a xs
  | _, _, .nil, _ => rfl
  | _, _, .cons r t, h => by
    rw [List.all_cons, Bool.and_eq_true] at h
    unfold inV inX
    rw [List.any_cons, List.any_cons, eq_rep r ra h.1 ha]
    have ih := in_rep ra ha t h.2
    unfold inV inX at ih
    rw [ih]
theorem sign_of (y : Str) (h : y.cps.size = 1) : y = ⟨#[y.cps.getD 0 0]⟩ := by
  obtain ⟨c⟩ := y
  have : c = #[c.getD 0 0] := by
    apply Array.ext
    · simpa using h
    · intro i h1 h2
      have hi : i = 0 := by
        have : i < 1 := by simpa using h2
        omega
      subst hi
      simp [Array.getD, h1]
  exact congrArg Str.mk this
theorem vIn_cases {pins : List (Addr × Obj)} {σ : St} {H : Hp} {s : Shared} {ρ : List Addr} {h : Hh} {a b : Val} {x y : V} {r : Bool} (S : Sim (gw X) ρ H h) (ra : Rep (gw X) ρ H a x) (rb : Rep (gw X) ρ H b y) (e : vIn a b h = some r) :
    (∃ (c : Nat) (z : Str), x = .str ⟨#[c]⟩ ∧ y = .str z ∧ r = decide (c ∈ z.cps.toList)) ∨ ∃ p xs, y = .ref p ∧ (SqL X.K H p xs ∨ SqT X.K H p xs) ∧ flatV x = true ∧ xs.all flatV = true ∧ r = inV x xs := by
  unfold vIn at e
  split at e
  · cases rb
    split at e
    · rename_i y1
      cases ra
      split at e
      · rename_i hy
        cases e
        exact .inl ⟨y1.cps.getD 0 0, _, by rw [← sign_of y1 hy], rfl, rfl⟩
      · cases e
    · cases e
  · cases rb with
    | @tup a1 xs vs s1 r1 =>
      split at e
      · rename_i hc
        cases e
        exact .inr ⟨a1, vs, rfl, .inr s1, flat_rep ra hc.1, flatL_rep r1 hc.2, (in_rep ra hc.1 r1 hc.2).symm⟩
      · cases e
  · cases rb with
    | @loc n a1 ea =>
      split at e
      · rename_i xs e2
        obtain ⟨vs, q1, r1⟩ := S.lst ea e2
        split at e
        · rename_i hc
          cases e
          exact .inr ⟨a1, vs, rfl, .inl (.inl (.inl q1)), flat_rep ra hc.1, flatL_rep r1 hc.2, (in_rep ra hc.1 r1 hc.2).symm⟩
        · cases e
      · cases e
  · cases e
theorem op_in_x : OpR X (compareOp .In) (rS2 (gw X) oIn) := by
  intro pins s σ H x y v u Q I rx ry ⟨ρ, h, a, b, z, h', S, ra, rb, e, k⟩
  unfold oIn at e
  cases e1 : vIn a b h with
  | none => rw [e1] at e; cases e
  | some r =>
    rw [e1] at e
    cases e
    have fin : Q (.bl r) H := k ρ H _ (Grow.refl _ _) S (.bl _)
    rcases vIn_cases (pins := pins) (σ := σ) (s := s) S ra rb e1 with ⟨c, z, e2, e3, e4⟩ | ⟨p, xs, e2, e3, e4, e5, e6⟩
    · rw [e4] at fin
      exact op_in_sign pins s σ H x y v u Q I rx ry ⟨c, z, e2, e3, fin⟩
    · rw [e6] at fin
      exact op_in_seq pins s σ H x y v u Q I rx ry ⟨p, xs, e2, e3, e4, e5, fin⟩
theorem op_notIn_x : OpR X (compareOp .NotIn) (rS2 (gw X) oNotIn) := by
  intro pins s σ H x y v u Q I rx ry ⟨ρ, h, a, b, z, h', S, ra, rb, e, k⟩
  unfold oNotIn at e
  cases e1 : vIn a b h with
  | none => rw [e1] at e; cases e
  | some r =>
    rw [e1] at e
    cases e
    have fin : Q (.bl (!r)) H := k ρ H _ (Grow.refl _ _) S (.bl _)
    rcases vIn_cases (pins := pins) (σ := σ) (s := s) S ra rb e1 with ⟨c, z, e2, e3, e4⟩ | ⟨p, xs, e2, e3, e4, e5, e6⟩
    · rw [e4] at fin
      exact op_notIn_sign pins s σ H x y v u Q I rx ry ⟨c, z, e2, e3, fin⟩
    · rw [e6] at fin
      exact op_notIn_seq pins s σ H x y v u Q I rx ry ⟨p, xs, e2, e3, e4, e5, fin⟩
def isNon : Val → Bool
  | .non => true
  | _ => false
def vIs (a b : Val) : Option Bool := match b with
  | .non => some (isNon a)
  | .bl c => (match a with
    | .bl d => some (decide (d = c))
    | _ => none)
  | _ => none
def oIs : Op2 := fun a b h => (vIs a b).map fun r => (.bl r, h)
def oIsNot : Op2 := fun a b h => (vIs a b).map fun r => (.bl (!r), h)
theorem isNon_rep {K : Gw} {ρ : List Addr} {H : Hp} {a : Val} {x : V} (r : Rep K ρ H a x) : isNon a = decide (x = .non) := by
  cases r <;> simp [isNon]
theorem op_is_x : OpR X (compareOp .Is) (rS2 (gw X) oIs) := by
  intro pins s σ H x y v u Q I rx ry ⟨ρ, h, a, b, z, h', S, ra, rb, e, k⟩
  unfold oIs at e
  cases e1 : vIs a b with
  | none => rw [e1] at e; cases e
  | some r =>
    rw [e1] at e
    cases e
    have fin : Q (.bl r) H := k ρ H _ (Grow.refl _ _) S (.bl _)
    unfold vIs at e1
    split at e1
    · cases rb; cases e1
      rw [isNon_rep ra] at fin
      exact op_isN pins s σ H x _ v u Q I rx ry ⟨rfl, fin⟩
    · cases rb
      split at e1
      · cases ra; cases e1
        exact op_isBl pins s σ H _ _ v u Q I rx ry ⟨_, _, rfl, rfl, fin⟩
      · cases e1
    · cases e1
theorem op_isNot_x : OpR X (compareOp .IsNot) (rS2 (gw X) oIsNot) := by
  intro pins s σ H x y v u Q I rx ry ⟨ρ, h, a, b, z, h', S, ra, rb, e, k⟩
  unfold oIsNot at e
  cases e1 : vIs a b with
  | none => rw [e1] at e; cases e
  | some r =>
    rw [e1] at e
    cases e
    have fin : Q (.bl (!r)) H := k ρ H _ (Grow.refl _ _) S (.bl _)
    unfold vIs at e1
    split at e1
    · cases rb; cases e1
      rw [isNon_rep ra] at fin
      exact op_notN pins s σ H x _ v u Q I rx ry ⟨rfl, fin⟩
    · cases rb
      split at e1
      · cases ra; cases e1
        exact op_notBl pins s σ H _ _ v u Q I rx ry ⟨_, _, rfl, rfl, fin⟩
      · cases e1
    · cases e1

/-! ### builtins -/
def vLen (v : Val) (h : Hh) : Option Nat := match v with
  | .str s => if s.length ≤ sizeLine then some s.length else none
  | .tup xs => some xs.length
  | .scr xs => some xs.length
  | .loc n => (match h[n]? with
    | some (.lst xs) => some xs.length
    | _ => none)
  | _ => none
def oLen : OpN := fun as h => match as with
  | [v] => (vLen v h).map fun n => (.int n, h)
  | _ => none
theorem call_len_x : CallR X (.builtin "len") (rSN (gw X) oLen) := by
  intro pins s σ H xs us Q I rs ⟨ρ, h, as, z, h', S, ra, e, k⟩
  unfold oLen at e
  split at e
  · rename_i v
    cases ra with
    | @cons _ x _ _ r1 r2 =>
    cases r2
    cases e1 : vLen v h with
    | none => rw [e1] at e; cases e
    | some n =>
      rw [e1] at e
      cases e
      refine call_len pins s σ H _ us Q I rs ⟨x, n, rfl, ?_, k ρ H _ (Grow.refl _ _) S (.int _)⟩
      unfold vLen at e1
      split at e1
      · cases r1
        split at e1
        · rename_i hl
          cases e1
          exact ⟨hl, rfl⟩
        · cases e1
      · cases r1 with
        | tup s1 q1 => cases e1; exact .inr ⟨_, s1, q1.length⟩
      · cases r1 with
        | scr s1 q1 => cases e1; exact .inl ⟨_, s1.sql, q1.length⟩
      · cases r1 with
        | loc ea =>
          split at e1
          · rename_i e2
            cases e1
            obtain ⟨vs, q2, q3⟩ := S.lst ea e2
            exact .inl ⟨vs, .inl (.inl q2), q3.length⟩
          · cases e1
      · cases e1
  · cases e
def bools : List Val → Option (List Bool)
  | [] => some []
  | .bl b :: r => (bools r).map (b :: ·)
  | _ :: _ => none
theorem bools_rep {K : Gw} {ρ : List Addr} {H : Hp} : ∀ {xs : List Val} {vs : List V} {bs : List Bool}, RepL K ρ H xs vs → bools xs = some bs → vs = bs.map V.bl
  | _, _, _, .nil, e => by cases e; rfl
  | _, _, bs, .cons r t, e => by
    cases r with
    | bl b =>
      rename_i xs vs
      have e : (bools xs).map (b :: ·) = some bs := e
      cases e1 : bools xs with
      | none => rw [e1] at e; cases e
      | some cs => rw [e1] at e; cases e; rw [bools_rep t e1]; rfl
    | _ => cases e
def oAll : OpN := fun as h => match as with
  | [.loc n] => (match h[n]? with
    | some (.lst xs) => (bools xs).map fun bs => (.bl (bs.all id), h)
    | _ => none)
  | _ => none
theorem call_all_x (hc : X.calm = true) : CallR X (.builtin "all") (rSN (gw X) oAll) := by
  intro pins s σ H xs us Q I rs ⟨ρ, h, as, z, h', S, ra, e, k⟩
  unfold oAll at e
  split at e
  · cases ra with
    | @cons _ x _ _ r1 r2 =>
    cases r2
    cases r1 with
    | @loc n a ea =>
    split at e
    · rename_i ys e2
      obtain ⟨vs, q1, r3⟩ := S.lst ea e2
      cases e1 : bools ys with
      | none => rw [e1] at e; cases e
      | some bs =>
        rw [e1] at e
        cases e
        have ev := bools_rep r3 e1
        subst ev
        exact cr_all hc pins s σ H _ us Q I rs ⟨a, bs, rfl, .inl (.inl q1), k ρ H _ (Grow.refl _ _) S (.bl _)⟩
    · cases e
  · cases e
def oOrd : OpN := fun as h => match as with
  | [.str s] => if s.length = 1 then some (.int (s.cps.getD 0 0 : Nat), h) else none
  | _ => none
theorem call_ord_x : CallR X (.builtin "ord") (rSN (gw X) oOrd) := by
  intro pins s σ H xs us Q I rs ⟨ρ, h, as, z, h', S, ra, e, k⟩
  unfold oOrd at e
  split at e
  · cases ra with
    | cons r1 r2 =>
    cases r2; cases r1
    split at e
    · rename_i hl
      cases e
      exact call_ord pins s σ H _ us Q I rs ⟨_, rfl, hl, k ρ H _ (Grow.refl _ _) S (.int _)⟩
    · cases e
  · cases e
def oMax : OpN := fun as h => match as with
  | [.int i, .int j] => some (.int (if j > i then j else i), h)
  | _ => none
def oMin : OpN := fun as h => match as with
  | [.int i, .int j] => some (.int (if j < i then j else i), h)
  | _ => none
theorem call_max_x (hc : X.calm = true) : CallR X (.builtin "max") (rSN (gw X) oMax) := by
  intro pins s σ H xs us Q I rs ⟨ρ, h, as, z, h', S, ra, e, k⟩
  unfold oMax at e
  split at e
  · cases ra with
    | cons r1 r2 =>
    cases r2 with
    | cons r3 r4 =>
    cases r4; cases r1; cases r3; cases e
    exact call_max2 hc pins s σ H _ us Q I rs ⟨_, _, rfl, k ρ H _ (Grow.refl _ _) S (.int _)⟩
  · cases e
theorem call_min_x (hc : X.calm = true) : CallR X (.builtin "min") (rSN (gw X) oMin) := by
  intro pins s σ H xs us Q I rs ⟨ρ, h, as, z, h', S, ra, e, k⟩
  unfold oMin at e
  split at e
  · cases ra with
    | cons r1 r2 =>
    cases r2 with
    | cons r3 r4 =>
    cases r4; cases r1; cases r3; cases e
    exact call_min2 hc pins s σ H _ us Q I rs ⟨_, _, rfl, k ρ H _ (Grow.refl _ _) S (.int _)⟩
  · cases e
def oInt : OpN := fun as h => match as with
  | [.int i] => some (.int i, h)
  | [.bl b] => some (.int (if b then 1 else 0), h)
  | _ => none
theorem call_int_x : CallR X (.type "int") (rSN (gw X) oInt) := by
  intro pins s σ H xs us Q I rs ⟨ρ, h, as, z, h', S, ra, e, k⟩
  unfold oInt at e
  split at e
  · cases ra with
    | cons r1 r2 =>
    cases r2; cases r1; cases e
    exact call_int1 pins s σ H _ us Q I rs (.inl ⟨_, rfl, k ρ H _ (Grow.refl _ _) S (.int _)⟩)
  · cases ra with
    | cons r1 r2 =>
    cases r2; cases r1; cases e
    exact call_int1 pins s σ H _ us Q I rs (.inr ⟨_, rfl, k ρ H _ (Grow.refl _ _) S (.int _)⟩)
  · cases e
/-- tuple(x), list(x) of lists and tuples -/
def oTuple : OpN := fun as h => match as with
  | [.tup xs] => some (.tup xs, h)
  | [.loc n] => (match h[n]? with
    | some (.lst xs) => some (.tup xs, h)
    | _ => none)
  | _ => none
def oList : OpN := fun as h => match as with
  | [.tup xs] => some (.loc h.length, h ++ [.lst xs])
  | [.loc n] => (match h[n]? with
    | some (.lst xs) => some (.loc h.length, h ++ [.lst xs])
    | _ => none)
  | _ => none
theorem call_tuple_x : CallR X (.type "tuple") (rSN (gw X) oTuple) := by
  intro pins s σ H xs us Q I rs ⟨ρ, h, as, z, h', S, ra, e, k⟩
  unfold oTuple at e
  split at e
  · cases ra with
    | cons r1 r2 =>
    cases r2
    cases r1 with
    | @tup a ys vs s1 q1 =>
    cases e
    exact call_tuple_of pins s σ H _ us Q I rs ⟨a, vs, rfl, .inr ⟨s1, k ρ H _ (Grow.refl _ _) S (.tup s1 q1)⟩⟩
  · cases ra with
    | cons r1 r2 =>
    cases r2
    cases r1 with
    | @loc n a ea =>
    split at e
    · rename_i ys e2
      cases e
      obtain ⟨vs, q1, r3⟩ := S.lst ea e2
      refine call_tuple_of pins s σ H _ us Q I rs ⟨a, vs, rfl, .inl ⟨.inl (.inl q1), fun p hp => ?_⟩⟩
      obtain ⟨g, s3, r4⟩ := new_tup S hp r3
      exact k ρ _ _ g s3 r4
    · cases e
  · cases e
theorem call_list_x : CallR X (.type "list") (rSN (gw X) oList) := by
  intro pins s σ H xs us Q I rs ⟨ρ, h, as, z, h', S, ra, e, k⟩
  unfold oList at e
  split at e
  · cases ra with
    | cons r1 r2 =>
    cases r2
    cases r1 with
    | @tup a ys vs s1 q1 =>
    cases e
    refine call_list_of pins s σ H _ us Q I rs ⟨a, vs, rfl, .inr s1, fun p hp => ?_⟩
    obtain ⟨g, s3, r4⟩ := new_loc S hp q1
    exact k _ _ _ g s3 r4
  · cases ra with
    | cons r1 r2 =>
    cases r2
    cases r1 with
    | @loc n a ea =>
    split at e
    · rename_i ys e2
      cases e
      obtain ⟨vs, q1, r3⟩ := S.lst ea e2
      refine call_list_of pins s σ H _ us Q I rs ⟨a, vs, rfl, .inl (.inl (.inl q1)), fun p hp => ?_⟩
      obtain ⟨g, s3, r4⟩ := new_loc S hp r3
      exact k _ _ _ g s3 r4
    · cases e
  · cases e
/-- isinstance with a built-in class -/
def tyName (v : Val) (h : Hh) : Option String := match v with
  | .non => some "NoneType"
  | .bl _ => some "bool"
  | .int _ => some "int"
  | .str _ => some "str"
  | .tup _ => some "tuple"
  | .loc n => (match h[n]? with
    | some (.lst _) => some "list"
    | some (.dct false _) => some "dict"
    | _ => none)
  | _ => none
def oIsi : OpN := fun as h => match as with
  | [v, .ty T] => (match tyName v h with
    | some a => (kitB a T).map fun b => (.bl b, h)
    | none => none)
  | _ => none
theorem tup_ty {K : PySem.W.Frag} {H : Hp} {a : Addr} {vs : List V} (h : SqT K H a vs) : TyX K H (.ref a) (.type "tuple") := by
  rcases h with (h | ⟨o, h⟩) | ⟨o, its, n, h, c, _⟩
  · exact .base (.tup h)
  · exact .fTuple h
  · exact .kTuple h c
theorem call_isi_x : CallR X (.builtin "isinstance") (rSN (gw X) oIsi) := by
  intro pins s σ H xs us Q I rs ⟨ρ, h, as, z, h', S, ra, e, k⟩
  unfold oIsi at e
  split at e
  · rename_i v T
    cases ra with
    | @cons _ x _ _ r1 r2 =>
    cases r2 with
    | cons r3 r4 =>
    cases r4; cases r3
    split at e
    · rename_i a et
      cases e1 : kitB a T with
      | none => rw [e1] at e; cases e
      | some b =>
        rw [e1] at e
        cases e
        refine call_isi pins s σ H _ us Q I rs ⟨x, .ty T, .type a, .type T, b, rfl, .ty T, ?_, kit_ty e1, k ρ H _ (Grow.refl _ _) S (.bl _)⟩
        unfold tyName at et
        split at et
        · cases r1; cases et; exact .base .non
        · cases r1; cases et; exact .base (.bl _)
        · cases r1; cases et; exact .base (.int _)
        · cases r1; cases et; exact .base (.str _)
        · cases r1 with
          | tup s1 q1 => cases et; exact tup_ty s1
        · cases r1 with
          | @loc n a ea =>
          split at et
          · rename_i e2
            cases et
            obtain ⟨vs, q1, _⟩ := S.lst ea e2
            exact .base (.lst q1)
          · rename_i e2
            cases et
            obtain ⟨b2, e3, q0⟩ := S.at_ _ _ e2
            obtain ⟨vs, q1, _⟩ := q0
            rw [ea] at e3
            cases e3
            exact .base (.dK q1)
          · cases et
        · cases et
    · cases e
  · cases e
end
end EX

set_option Elab.async false
set_option linter.all false
set_option maxRecDepth 100000
set_option maxHeartbeats 1000000
namespace EX
open PySem L2
section
variable {X : Cx} {W : Wd}
/-! ### methods of built-in types -/
abbrev OpM := Val → List Val → Hh → Option (Val × Hh)
def isTy (T : String) (v : Val) (h : Hh) : Bool := match v with
  | .str _ => decide (T = "str")
  | .scr _ => decide (T = "list")
  | .loc n => (match h[n]? with
    | some (.lst _) => decide (T = "list")
    | some (.dct false _) => decide (T = "dict")
    | _ => false)
  | _ => false
def xMeth (T : String) (o : OpM) (a : XE) (r : XA) : XE := fun e h => (a e h).bind fun v h1 => if isTy T v h1 = true then (r e h1).bind fun xs h2 => Res.of (o v xs h2) else .stuck
def rSM (K : Gw) (o : OpM) : V → List V → Hp → VK → Prop := fun x xs H Q => ∃ ρ h a as v h', Sim K ρ H h ∧ Rep K ρ H a x ∧ RepL K ρ H as xs ∧ o a as h = some (v, h') ∧ ∀ ρ' H' u, Grow ρ ρ' H H' → Sim K ρ' H' h' → Rep K ρ' H' v u → Q u H'
theorem isTy_ok {K : Gw} {ρ : List Addr} {H : Hp} {h : Hh} {T : String} {v : Val} {u : V} (S : Sim K ρ H h) (r : Rep K ρ H v u) (e : isTy T v h = true) : tyV K.K T u H := by
  cases r with
  | str s =>
    have e' : T = "str" := of_decide_eq_true (show decide (T = "str") = true from e)
    exact e'
  | scr s q => exact .inl ⟨of_decide_eq_true e, _, s.sql⟩
  | @loc n a ea =>
    have e : (match h[n]? with | some (.lst _) => decide (T = "list") | some (.dct false _) => decide (T = "dict") | _ => false) = true := e
    split at e
    · rename_i xs e2
      obtain ⟨vs, q1, _⟩ := S.lst ea e2
      exact .inl ⟨of_decide_eq_true e, _, .inl (.inl q1)⟩
    · rename_i kvs e2
      obtain ⟨b2, e3, q0⟩ := S.at_ _ _ e2
      rw [ea] at e3
      cases e3
      obtain ⟨vs, q1, _⟩ := q0
      exact .inr (.inr (.inl ⟨of_decide_eq_true e, .inl ⟨_, q1⟩⟩))
    · cases e
  | _ => cases e
theorem meth_of {K : Gw} {T : String} {o : OpM} {a : XE} {r : XA} {σ : St} {H : Hp} {Q : VK} (h : tX K W (xMeth T o a r) σ H Q) : tBM K.K T (rSM K o) (tX K W a) (tXA K W r) σ H Q := by
  obtain ⟨ρ, env, h, S, E, p⟩ := h
  refine ⟨ρ, env, h, S, E, (Post.bind p).imp fun v h1 ρ1 H1 g1 S1 q u ru => ?_⟩
  by_cases ht : isTy T v h1 = true
  · rw [if_pos ht] at q
    refine ⟨isTy_ok S1 ru ht, ρ1, env, h1, S1, E.mono g1, (Post.bind q).imp fun xs h2 ρ2 H2 g2 S2 q2 us rs => ?_⟩
    obtain ⟨z, h', e, k⟩ := Post.of q2
    exact ⟨ρ2, h2, v, xs, z, h', S2, ru.mono g2, rs, e, k⟩
  · rw [if_neg ht] at q
    exact q.elim
theorem q_bm {o : Expr} {e : Expr} {es : List Expr} {name : Str} {apos cpos : Pos} {T id : String} {op : OpM} {xo : XE} {xa : XA} (pa : PlainAttrs T) (slot : Slot T name id) (hty : typeOf (.builtin id) = pure (.type "method_descriptor")) (hm : MtR X id (rSM (gw X) op)) (ho : QE X W o xo) (ha : QA X W (e :: es) xa)
    (hbase : attributeBase o name X.env (eval o X.env) = eval o X.env := by rfl)
    (hfew : ((backTo cpos (starEach (e :: es) X.env)).all (fun x => !x.1) && (backToKw cpos (keywordEach [] X.env)).all (fun x => x.1.isSome)
      && decide ((e :: es).length + ([] : List Keyword).length + (if ([] : List Keyword).isEmpty then 0 else 1) < 30)) = true := by rfl)
    (hline : (apos.endLine == cpos.line) = true := by rfl) (hs : starEach (e :: es) X.env = (false, eval e X.env) :: starEach es X.env := by rfl) (hplain : (backTo cpos (starEach es X.env)).any (·.1) = false := by rfl) :
    QE X W (.Call (.Attribute o name apos) (e :: es) [] cpos) (xMeth T op xo xa) := PE.of (pe_bm pa slot hty hm ho ha hbase hfew hline hs hplain) fun _ _ _ => meth_of
def oAppend : OpM := fun a as h => match a, as with
  | .loc n, [v] => (match h[n]? with
    | some (.lst xs) => if xs.length < sizeLine then some (.non, h.set n (.lst (xs ++ [v]))) else none
    | _ => none)
  | _, _ => none
theorem mt_append_x : MtR X "list.append" (rSM (gw X) oAppend) := by
  intro pins s σ H x xs v us Q I rx rs ⟨ρ, h, a, as, z, h', S, ra, ras, e, k⟩
  unfold oAppend at e
  split at e
  · rename_i n w
    cases ra with
    | @loc _ a1 ea =>
    cases ras with
    | @cons _ y _ _ r1 r2 =>
    cases r2
    split at e
    · rename_i ys e2
      obtain ⟨vs, q1, r3⟩ := S.lst ea e2
      split at e
      · rename_i hl
        cases e
        have mu : Mu (H a1) := by rw [q1]; trivial
        have g : Grow ρ ρ H (upd H a1 (.lst (vs ++ [y]))) := Grow.put mu
        exact mt_append pins s σ H _ _ v us Q I rx rs ⟨a1, vs, y, rfl, rfl, q1, by rw [← r3.length]; exact hl, k ρ _ _ g (S.put (u := .lst (ys ++ [w])) ea mu ⟨_, upd_same, (r3.mono g).append (.cons (r1.mono g) .nil)⟩) .non⟩
      · cases e
    · cases e
  · cases e
def txts : List Val → Option (List Str)
  | [] => some []
  | .str s :: r => (txts r).map (s :: ·)
  | _ :: _ => none
theorem txts_rep {K : Gw} {ρ : List Addr} {H : Hp} : ∀ {xs : List Val} {vs : List V} {ss : List Str}, RepL K ρ H xs vs → txts xs = some ss → vs = ss.map V.str
  | _, _, _, .nil, e => by cases e; rfl
  | _, _, ss, .cons r t, e => by
    cases r with
    | str b =>
      rename_i xs vs
      have e : (txts xs).map (b :: ·) = some ss := e
      cases e1 : txts xs with
      | none => rw [e1] at e; cases e
      | some cs => rw [e1] at e; cases e; rw [txts_rep t e1]; rfl
    | _ => cases e
def vStrs (v : Val) (h : Hh) : Option (List Str) := match v with
  | .tup xs => txts xs
  | .loc n => (match h[n]? with
    | some (.lst xs) => txts xs
    | _ => none)
  | _ => none
def oJoin : OpM := fun a as h => match a, as with
  | .str s, [v] => (match vStrs v h with
    | some ys => if (ys.map (·.length)).sum + ys.length * s.length ≤ 16777216 then some (.str (Txt.join s ys), h) else none
    | none => none)
  | _, _ => none
theorem mt_join_x : MtR X "str.join" (rSM (gw X) oJoin) := by
  intro pins s σ H x xs v us Q I rx rs ⟨ρ, h, a, as, z, h', S, ra, ras, e, k⟩
  unfold oJoin at e
  split at e
  · rename_i t w
    cases ra
    cases ras with
    | @cons _ y _ _ r1 r2 =>
    cases r2
    split at e
    · rename_i ys ey
      split at e
      · rename_i hl
        cases e
        have fin := k ρ H _ (Grow.refl _ _) S (.str _)
        unfold vStrs at ey
        split at ey
        · cases r1 with
          | @tup a1 zs vs s1 q1 =>
          have ev := txts_rep q1 ey
          subst ev
          exact mt_join pins s σ H _ _ v us Q I rx rs ⟨_, a1, ys, rfl, rfl, .inr s1, hl, fin⟩
        · cases r1 with
          | @loc n a1 ea =>
          split at ey
          · rename_i zs e2
            obtain ⟨vs, q1, r3⟩ := S.lst ea e2
            have ev := txts_rep r3 ey
            subst ev
            exact mt_join pins s σ H _ _ v us Q I rx rs ⟨_, a1, ys, rfl, rfl, .inl (.inl (.inl q1)), hl, fin⟩
          · cases ey
        · cases ey
      · cases e
    · cases e
  · cases e

/-! ### x[i] = e -/
def putX {κ : Type} [DecidableEq κ] (kvs : List (κ × Val)) (k : κ) (v : Val) : List (κ × Val) :=
  if (kvs.any fun kv => decide (kv.1 = k)) = true then kvs.map (fun kv => if kv.1 = k then (kv.1, v) else kv) else kvs ++ [(k, v)]
def keyOf : Val → Option Key
  | .int i => some (.inl i)
  | .str s => some (.inr s)
  | _ => none
def oSet (o i v : Val) (h : Hh) : Option Hh := match o with
  | .loc n => (match h[n]? with
    | some (.lst xs) => (match i with
      | .int k => (ixN xs.length k).map fun j => h.set n (.lst (xs.set j v))
      | _ => none)
    | some (.dct false kvs) => (match keyOf i with
      | some k => if kvs.length < sizeLine then some (h.set n (.dct false (putX kvs k v))) else none
      | none => none)
    | _ => none)
  | _ => none
def rSetX (K : Gw) : TSet := fun o i v H Q => ∃ ρ h a b c h', Sim K ρ H h ∧ Rep K ρ H a o ∧ Rep K ρ H b i ∧ Rep K ρ H c v ∧ oSet a b c h = some h' ∧ ∀ ρ' H', Grow ρ ρ' H H' → Sim K ρ' H' h' → Q H'
theorem Sim.dct {K : Gw} {ρ : List Addr} {H : Hp} {h : Hh} {n : Nat} {a : Addr} {xs : List (Key × Val)} (S : Sim K ρ H h) (ha : ρ[n]? = some a) (e : h[n]? = some (.dct false xs)) : ∃ vs, H a = some (.dK vs) ∧ RepF K ρ H xs vs := by
  obtain ⟨b, e1, r⟩ := S.at_ n _ e
  rw [ha] at e1
  cases e1
  exact r
theorem Sim.dctR {K : Gw} {ρ : List Addr} {H : Hp} {h : Hh} {n : Nat} {a : Addr} {lk : Bool} {xs : List (Key × Val)} (S : Sim K ρ H h) (ha : ρ[n]? = some a) (e : h[n]? = some (.dct lk xs)) : ∃ vs, Rd H a (.dK vs) ∧ RepF K ρ H xs vs := by
  obtain ⟨b, e1, r⟩ := S.at_ n _ e
  rw [ha] at e1
  cases e1
  obtain ⟨vs, q, r⟩ := r
  exact ⟨vs, q.rd, r⟩
theorem keyOf_rep {K : Gw} {ρ : List Addr} {H : Hp} {v : Val} {u : V} {k : Key} (r : Rep K ρ H v u) (e : keyOf v = some k) : u = kV k := by
  cases r <;> first | (cases e; rfl) | (cases e)
theorem any_rep {K : Gw} {ρ : List Addr} {H : Hp} (k : Key) : ∀ {xs : List (Key × Val)} {vs : List (Key × V)}, RepF K ρ H xs vs → (vs.any fun kv => decide (kv.1 = k)) = xs.any fun kv => decide (kv.1 = k)
  | _, _, .nil => rfl
  | _, _, .cons r t => by
    rw [List.any_cons, List.any_cons, any_rep k t, r.1]
theorem RepF.append {κ : Type} {K : Gw} {ρ : List Addr} {H : Hp} : ∀ {xs ys : List (κ × Val)} {vs ws : List (κ × V)}, RepF K ρ H xs vs → RepF K ρ H ys ws → RepF K ρ H (xs ++ ys) (vs ++ ws)
  | _, _, _, _, .nil, s => s
  | _, _, _, _, .cons r t, s => .cons r (RepF.append t s)
theorem map_rep {K : Gw} {ρ : List Addr} {H : Hp} {k : Key} {v : Val} {u : V} (rv : Rep K ρ H v u) : ∀ {xs : List (Key × Val)} {vs : List (Key × V)}, RepF K ρ H xs vs →
    RepF K ρ H (xs.map fun kv => if kv.1 = k then (kv.1, v) else kv) (vs.map fun kv => if kv.1 = k then (kv.1, u) else kv)
  | _, _, .nil => .nil
  | _, _, .cons (a := p) (b := q) r t => by
    rw [List.map_cons, List.map_cons]
    refine .cons ?_ (map_rep rv t)
    by_cases h : p.1 = k
    · rw [if_pos h, if_pos (r.1 ▸ h)]
      exact ⟨r.1, rv⟩
    · rw [if_neg h, if_neg (r.1 ▸ h)]
      exact r
theorem putX_rep {K : Gw} {ρ : List Addr} {H : Hp} {k : Key} {v : Val} {u : V} {xs : List (Key × Val)} {vs : List (Key × V)} (rv : Rep K ρ H v u) (r : RepF K ρ H xs vs) : RepF K ρ H (putX xs k v) (putK vs k u) := by
  unfold putX putK
  rw [any_rep k r]
  split
  · exact map_rep rv r
  · exact r.append (.cons ⟨rfl, rv⟩ .nil)
theorem set_x (hu : X.A.units + 1 < cLine) : PSet X (rSetX (gw X)) := by
  intro pins s σ H o i v ov iv u Q I ro ri rv ⟨ρ, h, a, b, c, h', S, ra, rb, rc, e, k⟩
  unfold oSet at e
  split at e
  · cases ra with
    | @loc n a1 ea =>
    split at e
    · rename_i xs e2
      obtain ⟨vs, q1, r3⟩ := S.lst ea e2
      split at e
      · rename_i j
        cases rb
        cases e1 : ixN xs.length j with
        | none => rw [e1] at e; cases e
        | some m =>
          rw [e1] at e
          cases e
          have mu : Mu (H a1) := by rw [q1]; trivial
          have g : Grow ρ ρ H (upd H a1 (.lst (vs.set m v))) := Grow.put mu
          exact set_list pins s σ H _ _ v ov iv u Q I ro ri rv ⟨a1, vs, j, m, rfl, rfl, q1, by rw [← r3.length]; exact e1, k ρ _ g (S.put (u := .lst (xs.set m c)) ea mu ⟨_, upd_same, RepL.set (rc.mono g) m (r3.mono g)⟩)⟩
      · cases e
    · rename_i kvs e2
      obtain ⟨vs, q1, r3⟩ := S.dct ea e2
      split at e
      · rename_i key ek
        split at e
        · rename_i hl
          cases e
          have mu : Mu (H a1) := by rw [q1]; trivial
          have eb := keyOf_rep rb ek
          subst eb
          have g : Grow ρ ρ H (upd H a1 (.dK (putK vs key v))) := Grow.put mu
          cases (show ov = Value.ref a1 from ro)
          exact d_setItem hu I (DPut.k q1 (by rw [← Paired.length r3]; exact hl)) ri rv fun s' I' => ⟨_, I', k ρ _ g (S.put (u := .dct false (putX kvs key c)) ea mu ⟨_, upd_same, putX_rep (rc.mono g) (r3.mono g)⟩)⟩
        · cases e
      · cases e
    · cases e
  · cases e
def sSetIx (o i x : XE) : XS := fun e h => match x e h with
  | .ok v h1 => (match o e h1 with
    | .ok ov h2 => (match i e h2 with
      | .ok iv h3 => (match oSet ov iv v h3 with
        | some h4 => .nx e h4
        | none => .stuck)
      | .exc c fs h3 => .exc c fs e h3
      | .stuck => .stuck)
    | .exc c fs h2 => .exc c fs e h2
    | .stuck => .stuck)
  | .exc c fs h1 => .exc c fs e h1
  | .stuck => .stuck
theorem setIx_of {K : Gw} {o i x : XE} {D : Ends} {σ : St} {H : Hp} (h : tXS K W (sSetIx o i x) D σ H) : tAsg (tX K W x) (gSub (tX K W o) (tX K W i) (rSetX K)) D σ H := by
  obtain ⟨ρ, env, h, S, E, p⟩ := h
  refine ⟨ρ, env, h, S, E, (afterE (f := fun v h1 => match o env h1 with
    | .ok ov h2 => (match i env h2 with
      | .ok iv h3 => (match oSet ov iv v h3 with
        | some h4 => .nx env h4
        | none => .stuck)
      | .exc c fs h3 => .exc c fs env h3
      | .stuck => .stuck)
    | .exc c fs h2 => .exc c fs env h2
    | .stuck => .stuck) E p).imp fun v h1 ρ1 H1 g1 S1 q1 u ru => ⟨ρ1, env, h1, S1, E.mono g1, (afterE (f := fun ov h2 => match i env h2 with
      | .ok iv h3 => (match oSet ov iv v h3 with
        | some h4 => .nx env h4
        | none => .stuck)
      | .exc c fs h3 => .exc c fs env h3
      | .stuck => .stuck) (E.mono g1) q1).imp fun ov h2 ρ2 H2 g2 S2 q2 u2 ru2 => ⟨ρ2, env, h2, S2, (E.mono g1).mono g2, (afterE (f := fun iv h3 => match oSet ov iv v h3 with
        | some h4 => .nx env h4
        | none => .stuck) ((E.mono g1).mono g2) q2).imp fun iv h3 ρ3 H3 g3 S3 q3 u3 ru3 => ?_⟩⟩⟩
  cases e1 : oSet ov iv v h3 with
  | none => rw [e1] at q3; exact q3.elim
  | some h4 =>
    rw [e1] at q3
    exact ⟨ρ3, h3, ov, iv, v, h4, S3, ru2.mono g3, ru3, (ru.mono g2).mono g3, e1, fun ρ' H' g s => q3 ρ' H' σ g s ((((E.mono g1).mono g2).mono g3).mono g)⟩
theorem qs_setIx {o i e : Expr} {xo xi x : XE} {pos pos' : Pos} (hu : X.A.units + 1 < cLine) (ho : QE X W o xo) (hi : QE X W i xi) (he : QE X W e x) (hs : swapsWithSole [.Subscript o i pos'] e pos.line X.env = pure false := by rfl) (hw : swappedStores [.Subscript o i pos'] e X.env = pure none := by rfl)
    (ha : ∀ v, assign (.Subscript o i pos') X.env v = (do
      let ov ← holding [v] (eval o X.env)
      let iv ← holding [v, ov] (eval i X.env)
      standAt pos'
      holding [v, ov, iv] (setItem ov iv v)
      release [v, ov, iv] []) := by intro _; rfl)
    (h1 : (assignEach [.Subscript o i pos'] X.env).map (·.2) = [assign (.Subscript o i pos') X.env] := by rfl) : QS X W (.Assign [.Subscript o i pos'] e pos) (sSetIx xo xi x) :=
  PS.of (ps_asg he (pg_sub ho hi (set_x hu) ha) hs hw h1) fun _ _ _ => setIx_of

/-! ### a, b = x, y; a, b, c = x, y, z (plain locals) -/
def sPar (is : List Nat) (a : XA) : XS := fun e h => match a e h with
  | .ok vs h1 => (match is, vs with
    | [i, j], [v, w] => .nx ((e.set i (some v)).set j (some w)) h1
    | [i, j, l], [u, v, w] => .nx (((e.set i (some u)).set j (some v)).set l (some w)) h1
    | _, _ => .stuck)
  | .exc c fs h1 => .exc c fs e h1
  | .stuck => .stuck
theorem afterA {K : Gw} {x : XA} {ρ : List Addr} {H : Hp} {σ : St} {env : En} {h : Hh} {D : Ends} {f : List Val → Hh → RS} (E : EnvR K ρ H W.s env σ)
    (p : PostS K W ρ H D (match x env h with | .ok v h1 => f v h1 | .exc c fs h1 => .exc c fs env h1 | .stuck => .stuck)) : Post K W σ ρ H (fun v h1 ρ1 H1 => PostS K W ρ1 H1 D (f v h1)) (x env h) := by
  cases e : x env h with
  | ok v h1 => rw [e] at p; exact fun ρ1 H1 g1 S1 => PostS.mono g1 p
  | exc c fs h1 => rw [e] at p; exact fun ρ1 H1 d cv g1 S1 xc => p ρ1 H1 d σ cv g1 S1 (E.mono g1) xc
  | stuck => rw [e] at p; exact p
theorem qs_par {i j : Nat} {x y : Str} {a b : Expr} {ta : XA} {px py pt pos : Pos} {kt k2 : Nat} {pt2 : Pos} (hc : X.calm = true) (hN : X.N.Nodup) (hi : X.N[i]? = some x) (hj : X.N[j]? = some y) (hij : i ≠ j)
    (hx : X.env.scope.names.lookup x = some .local) (hy : X.env.scope.names.lookup y = some .local) (ha : QA X W [a, b] ta)
    (hw : swappedStores [.Tuple [.Name x px, .Name y py] kt pt] (.Tuple [a, b] k2 pt2) X.env = pure (some [x, y]))
    (hs : swapsWithSole [.Tuple [.Name x px, .Name y py] kt pt] (.Tuple [a, b] k2 pt2) pos.line X.env = pure false := by rfl) (h0 : W.s = none := by rfl) :
    QS X W (.Assign [.Tuple [.Name x px, .Name y py] kt pt] (.Tuple [a, b] k2 pt2) pos) (sPar [i, j] ta) := PS.of (ps_par hc hN hi hj hij hx hy ha hw hs) fun D σ H ⟨ρ, env, h, S, E, p⟩ =>
  ⟨ρ, env, h, S, E, (afterA (f := fun vs h1 => match [i, j], vs with
    | [i, j], [v, w] => .nx ((env.set i (some v)).set j (some w)) h1
    | [i, j, l], [u, v, w] => .nx (((env.set i (some u)).set j (some v)).set l (some w)) h1
    | _, _ => .stuck) E p).imp fun vs h1 ρ1 H1 g1 S1 q us rs => by
      cases rs with
      | nil => exact q.elim
      | cons r1 r2 =>
        cases r2 with
        | nil => exact q.elim
        | cons r3 r4 =>
          cases r4 with
          | nil => exact ⟨_, _, rfl, q ρ1 H1 _ (Grow.refl _ _) S1 (((E.mono g1).set i r1 (fun q z => by rw [h0] at z; cases z)).set j r3 (fun q z => by rw [h0] at z; cases z))⟩
          | cons _ _ => exact q.elim⟩

/-! ### dict displays -/
def xPairs : List (XE × XE) → En → Hh → Res (List (Val × Val))
  | [], _, h => .ok [] h
  | (a, b) :: r, e, h => (a e h).bind fun x h1 => (b e h1).bind fun y h2 => (xPairs r e h2).bind fun ps h3 => .ok ((x, y) :: ps) h3
def keysOf : List (Val × Val) → Option (List (Key × Val))
  | [] => some []
  | (a, b) :: r => match keyOf a, keysOf r with
    | some k, some ks => some ((k, b) :: ks)
    | _, _ => none
def mergeX (kvs more : List (Key × Val)) : List (Key × Val) := more.foldl (fun acc kv => putX acc kv.1 kv.2) kvs
def xDict (ps : List (XE × XE)) : XE := fun e h => (xPairs ps e (h ++ [.dct false []])).bind fun qs h2 => match keysOf qs, h2[h.length]? with
  | some kvs, some (.dct false []) => if kvs.length ≤ 15 then .ok (.loc h.length) (h2.set h.length (.dct false (mergeX [] kvs))) else .stuck
  | _, _ => .stuck
def RepP (K : Gw) (ρ : List Addr) (H : Hp) : List (Val × Val) → List (V × V) → Prop := Paired fun p q => Rep K ρ H p.1 q.1 ∧ Rep K ρ H p.2 q.2
theorem pairs_of {K : Gw} {env : En} {σ : St} : ∀ {ps : List (XE × XE)} {ρ : List Addr} {H : Hp} {h : Hh} {Q : List (V × V) → Hp → Prop}, Sim K ρ H h → EnvR K ρ H W.s env σ →
    Post K W σ ρ H (fun qs _ ρ1 H1 => ∀ us, RepP K ρ1 H1 qs us → Q us H1) (xPairs ps env h) → tPairs (ps.map fun p => (tX K W p.1, tX K W p.2)) σ H Q
  | [], ρ, H, h, Q, S, E, p => p ρ H (Grow.refl _ _) S [] .nil
  | (a, b) :: r, ρ, H, h, Q, S, E, p => ⟨ρ, env, h, S, E, (Post.bind p).imp fun x h1 ρ1 H1 g1 S1 q1 u ru => ⟨ρ1, env, h1, S1, E.mono g1, (Post.bind q1).imp fun y h2 ρ2 H2 g2 S2 q2 w rw' =>
      pairs_of S2 ((E.mono g1).mono g2) ((Post.bind q2).imp fun qs h3 ρ3 H3 g3 S3 q3 us rs => q3 ρ3 H3 (Grow.refl _ _) S3 _ (.cons ⟨(ru.mono g2).mono g3, rw'.mono g3⟩ rs))⟩⟩
theorem keysOf_rep {K : Gw} {ρ : List Addr} {H : Hp} : ∀ {qs : List (Val × Val)} {us : List (V × V)} {kvs : List (Key × Val)}, RepP K ρ H qs us → keysOf qs = some kvs → ∃ vs : List (Key × V), us = vs.map (fun kv => (kV kv.1, kv.2)) ∧ RepF K ρ H kvs vs
  | _, _, _, .nil, e => by cases e; exact ⟨[], rfl, .nil⟩
  | _, _, kvs, .cons (a := p) (b := q) (l₁ := l1) r t, e => by
    have e : (match keyOf p.1, keysOf l1 with | some k, some ks => some ((k, p.2) :: ks) | _, _ => none) = some kvs := e
    split at e
    · rename_i k ks e1 e2
      cases e
      obtain ⟨vs, e3, r3⟩ := keysOf_rep t e2
      refine ⟨(k, q.2) :: vs, ?_, .cons ⟨rfl, r.2⟩ r3⟩
      rw [List.map_cons, e3, ← keyOf_rep r.1 e1]
    · cases e
theorem merge_rep {K : Gw} {ρ : List Addr} {H : Hp} : ∀ {more : List (Key × Val)} {rs : List (Key × V)} {kvs : List (Key × Val)} {vs : List (Key × V)}, RepF K ρ H more rs → RepF K ρ H kvs vs → RepF K ρ H (mergeX kvs more) (mergeK vs rs)
  | _, _, _, _, .nil, s => s
  | _, _, _, _, .cons (a := p) (b := q) r t, s => by
    unfold mergeX mergeK
    rw [List.foldl_cons, List.foldl_cons, ← r.1]
    exact merge_rep t (putX_rep r.2 s)
theorem new_dct {K : Gw} {ρ : List Addr} {H : Hp} {h : Hh} {p : Addr} (S : Sim K ρ H h) (hp : H p = none) :
    Grow ρ (ρ ++ [p]) H (upd H p (.dK [])) ∧ Sim K (ρ ++ [p]) (upd H p (.dK [])) (h ++ [.dct false []]) ∧ (ρ ++ [p])[h.length]? = some p := by
  have g : Grow ρ (ρ ++ [p]) H (upd H p (.dK [])) := (Grow.new hp).snoc
  refine ⟨g, S.laid hp ⟨[], upd_same, .nil⟩, ?_⟩
  rw [List.getElem?_append_right (by rw [S.len]; exact Nat.le_refl _), S.len, Nat.sub_self]
  rfl
theorem q_dict0 {pos : Pos} : QE X W (.Dict [] [] pos) (xDict []) := PE.of pe_dnewK fun σ H Q ⟨ρ, env, h, S, E, p⟩ q hq => by
  obtain ⟨g, s, r⟩ := new_dct S hq
  have e1 : (h ++ [Ob.dct false []])[h.length]? = some (.dct false []) := by simp
  have e2 : (h ++ [Ob.dct false []]).set h.length (.dct false []) = h ++ [.dct false []] := by simp
  have p : Post (gw X) W σ ρ H (RV (gw X) Q) (match (some [] : Option (List (Key × Val))), (h ++ [Ob.dct false []])[h.length]? with
    | some kvs, some (.dct false []) => if kvs.length ≤ 15 then .ok (.loc h.length) ((h ++ [Ob.dct false []]).set h.length (.dct false (mergeX [] kvs))) else .stuck
    | _, _ => .stuck) := p
  rw [e1] at p
  have p : Post (gw X) W σ ρ H (RV (gw X) Q) (.ok (.loc h.length) ((h ++ [Ob.dct false []]).set h.length (.dct false []))) := p
  rw [e2] at p
  exact p _ _ g s _ (.loc r)
theorem dict_of {K : Gw} {ps : List (XE × XE)} {σ : St} {H : Hp} {Q : VK} (h : tX K W (xDict ps) σ H Q) : tDisp (ps.map fun p => (tX K W p.1, tX K W p.2)) σ H Q := by
  obtain ⟨ρ, env, h, S, E, p⟩ := h
  intro a ha
  obtain ⟨g, s, r⟩ := new_dct S ha
  refine pairs_of s (E.mono g) ((Post.bind (Post.mono g p)).imp fun qs h2 ρ2 H2 g2 S2 q us rs => ?_)
  split at q
  · rename_i kvs e1 e2
    split at q
    · rename_i hl
      obtain ⟨vs, e3, r3⟩ := keysOf_rep rs e1
      obtain ⟨ws, e4, r4⟩ := S2.dct (g2.get r) e2
      cases r4
      have mu : Mu (H2 a) := by rw [e4]; trivial
      have g3 : Grow ρ2 ρ2 H2 (upd H2 a (.dK (mergeK [] vs))) := Grow.put mu
      exact ⟨e4, vs, e3, by rw [← Paired.length r3]; exact hl, q ρ2 _ g3 (S2.put (u := .dct false (mergeX [] kvs)) (g2.get r) mu ⟨_, upd_same, (merge_rep r3 .nil).mono g3⟩) _ (.loc (g2.get r))⟩
    · exact q.elim
  · exact q.elim
theorem q_dict {keys : List (Option Expr)} {values : List Expr} {pos : Pos} {ps : List (XE × XE)} (h : PPs X pos keys values (ps.map fun p => (tX (gw X) W p.1, tX (gw X) W p.2))) (hall : keys.all (·.isSome) = true := by rfl) (hl : keys.length = values.length := by rfl) (h0 : keys ≠ [] := by simp)
    (h15 : keys.length ≤ 15 := by decide) : QE X W (.Dict keys values pos) (xDict ps) := PE.of (pe_disp h hall hl h0 h15) fun _ _ _ => dict_of
end
end EX

set_option Elab.async false
set_option linter.all false
set_option maxRecDepth 100000
set_option maxHeartbeats 1000000
namespace EX
open PySem L2
section
variable {X : Cx} {W : Wd} {k : Nat} {f : Addr} {fd : FuncData} {ps : List Str} {sp : Sp} {G : Fn} {x : Str} {p pos : Pos} {e : Expr} {es : List Expr}
theorem pe_g0 (F : FnG X.prog X.w X.K X.mg X.base k f fd ps sp) (hr : Room k X.A) (hgd : X.A.guards = some []) (hg : Gl X x) (hm : X.mg x = some (.ref f)) (hk : PySem.W.keepIn X.K (.ref f) = true) (hb : Binds X.K fd ps []) (tk : Takes X W.w)
    (hdb : (x == ("__debug__" : Str)) = false) : PE X (.Call (.Name x p) [] [] pos) (tCallSD sp [] (WE W.w) tNil) :=
  ⟨fun pins s σ H Q I h => wpAny_Call_Name_kw (ld_glob I hg hm (PySem.W.callWith_K0 I.kIn hk (run_g (us := []) F hr hgd hb .nil tk I .nil h)) hdb)⟩
theorem q_call0 {n : Nat} (F : FnG X.prog X.w X.K X.mg X.base k f fd ps (spX (gw X) n G)) (hr : Room k X.A) (hgd : X.A.guards = some []) (hg : Gl X x) (hm : X.mg x = some (.ref f)) (hk : PySem.W.keepIn X.K (.ref f) = true) (hb : Binds X.K fd ps []) (tk : Takes X W.w)
    (hdb : (x == ("__debug__" : Str)) = false := by decide) : QE X W (.Call (.Name x p) [] [] pos) (xCall n G xNil) :=
  PE.of (pe_g0 F hr hgd hg hm hk hb tk hdb) fun σ H Q h => by
    obtain ⟨ρ, env, h1, S, E, q⟩ := callX_of h
    exact q ρ H (Grow.refl _ _) S [] .nil
/-- constants of the module -/
theorem q_gint {i : Int} (hm : ∃ t, X.mg x = some (.int i t)) (hg : Gl X x) (hd : (x == ("__debug__" : Str)) = false := by decide) : QE X W (.Name x pos) (xC (.int i)) := by
  obtain ⟨t, hm⟩ := hm
  exact q_c (pe_glob (v := .int i) hg hm ⟨t, rfl⟩ hd) fun _ _ => .int i
theorem q_gstr {i : Str} (hm : ∃ t, X.mg x = some (.str i t)) (hg : Gl X x) (hd : (x == ("__debug__" : Str)) = false := by decide) : QE X W (.Name x pos) (xC (.str i)) := by
  obtain ⟨t, hm⟩ := hm
  exact q_c (pe_glob (v := .str i) hg hm ⟨t, rfl⟩ hd) fun _ _ => .str i
/-- a tuple of the written part -/
def KTup (K : PySem.W.Frag) (mg : Str → Option Value) (x : Str) (vs : List V) : Prop := ∃ a, mg x = some (.ref a) ∧ ∀ H, SqT K H a vs
def flatV2 : Val → V
  | .non => .non
  | .bl b => .bl b
  | .int i => .int i
  | .str s => .str s
  | .ty n => .ty n
  | _ => .non
theorem repL_flatV {K : Gw} {ρ : List Addr} {H : Hp} : ∀ {xs : List Val}, xs.all flatX = true → RepL K ρ H xs (xs.map flatV2)
  | [], _ => .nil
  | x :: xs, h => by
    rw [List.all_cons, Bool.and_eq_true] at h
    refine .cons ?_ (repL_flatV h.2)
    have h1 := h.1
    cases x <;> first | exact .non | exact .bl _ | exact .int _ | exact .str _ | cases h1
theorem q_gtup {xs : List Val} (hm : KTup X.K X.mg x (xs.map flatV2)) (hg : Gl X x) (hf : xs.all flatX = true := by rfl) (hd : (x == ("__debug__" : Str)) = false := by decide) : QE X W (.Name x pos) (xC (.tup xs)) := by
  obtain ⟨a, hm, hs⟩ := hm
  exact q_c (pe_glob (v := .ref a) hg hm rfl hd) fun ρ H => .tup (hs H) (repL_flatV hf)
/-- a built-in class as a value -/
theorem q_ty {n : String} (hg : Gl X x) (hm : X.mg x = none) (hv : bootBuiltins x = some (.type n)) (hn : x ≠ "__name__" := by decide) (hd : (x == ("__debug__" : Str)) = false := by decide) : QE X W (.Name x pos) (xC (.ty n)) :=
  q_c (pe_bltn (v := .ty n) hg hm hv rfl hn hd) fun _ _ => .ty n
/-! ### text * number -/
def mulOk (x : Str) (n : Int) : Bool := !(decide (n < -(2 ^ 63 : Int)) || decide (n ≥ 2 ^ 63)) && (decide (n < 1) || (n == 1 || x.length == 0) || (decide (n ≤ 1000) && decide (x.length ≤ 1000)))
theorem mulOk_ok {x : Str} {n : Int} (h : mulOk x n = true) : MulOk x n := by
  unfold mulOk at h
  simp only [Bool.and_eq_true, Bool.or_eq_true, Bool.not_eq_true', Bool.or_eq_false_iff, decide_eq_false_iff_not, decide_eq_true_eq] at h
  obtain ⟨⟨h1, h2⟩, h3⟩ := h
  refine ⟨by simp only [Bool.or_eq_false_iff, decide_eq_false_iff_not]; exact ⟨h1, h2⟩, fun n1 n2 => ?_, fun n1 n2 => ?_⟩
  · rcases h3 with (h3 | h3) | h3
    · exact absurd h3 n1
    · rw [Bool.or_eq_false_iff] at n2
      rcases h3 with h3 | h3
      · rw [h3] at n2; exact absurd n2.1 (by decide)
      · rw [h3] at n2; exact absurd n2.2 (by decide)
    · have hx : (x.length : Int) ≤ 1000 := by omega
      have : (1000 : Int) ≤ (2 ^ 63 - 1) / n := by
        rw [Int.le_ediv_iff_mul_le (by omega)]
        have := h3.1
        omega
      omega
  · rcases h3 with (h3 | h3) | h3
    · exact absurd h3 n1
    · rw [Bool.or_eq_false_iff] at n2
      rcases h3 with h3 | h3
      · rw [h3] at n2; exact absurd n2.1 (by decide)
      · rw [h3] at n2; exact absurd n2.2 (by decide)
    · have h4 : x.length * n.toNat ≤ 1000 * 1000 := Nat.mul_le_mul h3.2 (by have := h3.1; omega)
      unfold Builtin.Str.tooLong
      simp only [decide_eq_false_iff_not]
      rw [sizeLine_eq]
      omega
def oMul2 : Op2 := fun a b h => match a, b with
  | .str x, .int n => if mulOk x n = true then some (.str (Txt.mul x n), h) else none
  | _, _ => oMul a b h
theorem op_mul2_x : OpR X (binaryOp .Mult) (rS2 (gw X) oMul2) := by
  intro pins s σ H x y v u Q I rx ry ⟨ρ, h, a, b, z, h', S, ra, rb, e, k⟩
  unfold oMul2 at e
  split at e
  · cases ra; cases rb
    split at e
    · rename_i hc
      cases e
      obtain ⟨t, rfl⟩ := rx
      obtain ⟨t2, rfl⟩ := ry
      exact SB.mul (mulOk_ok hc) fun t' k' => ⟨.str _, H, I.tok _, ⟨_, rfl⟩, k ρ H _ (Grow.refl _ _) S (.str _)⟩
    · cases e
  · exact op_mul_x pins s σ H x y v u Q I rx ry ⟨ρ, h, a, b, z, h', S, ra, rb, e, k⟩
end
theorem un70 {k : Nat} {A : Around} (hr : Room k A) : A.units + 70 < cLine := by have := hr.un; omega
theorem bt_len : bootBuiltins "len" = some (.builtin "len") := by decide +kernel
theorem bt_isinstance : bootBuiltins "isinstance" = some (.builtin "isinstance") := by decide +kernel
theorem bt_all : bootBuiltins "all" = some (.builtin "all") := by decide +kernel
theorem bt_ord : bootBuiltins "ord" = some (.builtin "ord") := by decide +kernel
theorem bt_max : bootBuiltins "max" = some (.builtin "max") := by decide +kernel
theorem bt_min : bootBuiltins "min" = some (.builtin "min") := by decide +kernel
theorem bt_repr : bootBuiltins "repr" = some (.builtin "repr") := by decide +kernel
theorem bt_int : bootBuiltins "int" = some (.type "int") := by decide +kernel
theorem bt_bool : bootBuiltins "bool" = some (.type "bool") := by decide +kernel
theorem bt_str : bootBuiltins "str" = some (.type "str") := by decide +kernel
theorem bt_tuple : bootBuiltins "tuple" = some (.type "tuple") := by decide +kernel
theorem bt_list : bootBuiltins "list" = some (.type "list") := by decide +kernel
theorem bt_dict : bootBuiltins "dict" = some (.type "dict") := by decide +kernel
end EX

set_option Elab.async false
set_option linter.all false
set_option maxRecDepth 100000
set_option maxHeartbeats 1000000
namespace EX
open PySem PySem.Spec PyProof.Rows L2
/-- the script as it is tracked at the law's entry -/
def entryH (K : PySem.W.Frag) (a : Addr) (o : Obj) (ns : List Int) : Hp := fun b => if b = a ∧ K.lookup a = none then some (.frz o (.lst (ns.map V.int))) else none
theorem entry_cases {K : PySem.W.Frag} {a b : Addr} {o : Obj} {ns : List Int} {u : HO} (h : entryH K a o ns b = some u) : b = a ∧ K.lookup a = none ∧ u = .frz o (.lst (ns.map V.int)) := by
  unfold entryH at h
  split at h
  · rename_i c
    cases h
    exact ⟨c.1, c.2, rfl⟩
  · cases h
theorem cx_never {P : Program} {w : World} {outer : List Env} {H : Hp} {s : Shared} {e : Value} {s' : Shared} (h : L2.CX P w outer H s (fun _ _ _ => False) e s') : False := by
  obtain ⟨_, _, _, _, _, _, _, _, _, _, _, _, z⟩ := h
  exact z
theorem law_g {P : Program} {w : World} {K : PySem.W.Frag} {mg mb : Str → Option Value} {k : Nat} {fa a : Addr} {fd : FuncData} {x : Str} {sp : Sp} {s1 : Shared} {vs : List Value} {ns : List Int}
    (KX : K.In s1.heap) (hns : s1.heap.Ns mainGlobals mg) (hb : s1.heap.Ns builtinsNs mb) (hbb : ∀ x : Str, x ≠ "__name__" → mb x = bootBuiltins x) (hlim : s1.heap.NoLimit) (hgen : s1.gens = #[])
    (ha : s1.heap.get? a = some { cls := .type "list", data := .seq vs.toArray }) (hi : IntsAre vs ns) (hl : ns.length ≤ sizeLine) (hr : Room k callerA)
    (F : ∀ base : Heap, K.In base → base.Ns mainGlobals mg → FnG P w K mg base k fa fd [x] sp) (hbind : ∀ (s : Shared) (u : Value), BindsTo s fd ⟨[u], []⟩ [(x, u)])
    (hsp : ∀ H : Hp, Only H → SqL K H a (ns.map V.int) → sp [.ref a] H (fun v _ => v = .bl true) fun _ _ _ => False) :
    codeAny (model P w) callerA (.call (.ref fa) ⟨[.ref a], []⟩) (fun r s' => r = .ok (.ret (.bool true)) ∧ OldK s1.heap s'.heap ∧ s'.os = s1.os ∧ AllBare s'.gens) s1 := by
  have rv := vals_ints hi
  generalize hH : entryH K a { cls := .type "list", data := .seq vs.toArray } ns = H
  have only : Only H := fun b => by
    cases q : H b with
    | none => exact .inl rfl
    | some u => rw [← hH] at q; exact .inr ⟨_, _, by rw [(entry_cases q).2.2]⟩
  have sq : SqL K H a (ns.map V.int) := by
    cases q : K.lookup a with
    | none => exact .inl (.inr ⟨{ cls := .type "list", data := .seq vs.toArray }, by rw [← hH]; exact if_pos ⟨rfl, q⟩⟩)
    | some o =>
      have z := KX a o q
      rw [ha] at z
      cases z
      exact .inr ⟨_, vs.toArray, _, q, rfl, rfl, rfl, by rw [List.size_toArray, hi.length]; exact hl, by simpa using rv⟩
  have hok : HOk P w H s1.heap := fun b u q => by
    rw [← hH] at q
    obtain ⟨rfl, -, rfl⟩ := entry_cases q
    exact ⟨ha, by rw [List.length_map]; exact hl, vs, _, rv, ha⟩
  have nodict : ∀ {b : Addr} {o : Obj} {es : Array DictEntry} {ep : Nat}, s1.heap.get? b = some o → o.data = .dict es ep → H b = none := fun {b o es ep} z d => by
    cases q : H b with
    | none => rfl
    | some u =>
      rw [← hH] at q
      obtain ⟨rfl, -, -⟩ := entry_cases q
      rw [ha] at z
      cases z
      exact absurd (show Data.seq vs.toArray _ = Data.dict es ep from d) (by simp)
  have ns' : ∀ {b : Addr} {m : Str → Option Value}, s1.heap.Ns b m → (hidT s1.heap H).Ns b m := fun ⟨o, es, ep, z, d, r⟩ => ⟨o, es, ep, hidT_get z (nodict z d), d, r⟩
  have kin : K.In (hidT s1.heap H) := fun b o z => hidT_get (KX b o z) (by
    cases q : H b with
    | none => rfl
    | some u =>
      rw [← hH] at q
      obtain ⟨rfl, n, -⟩ := entry_cases q
      rw [n] at z
      cases z)
  have e0 : Env0 P w K mg (hidT s1.heap H) callerA [] s1 H :=
    ⟨rfl, ⟨kin, ns' hns, ⟨mb, ns' hb, hbb⟩, match hlim with | ⟨mc, z1, z2⟩ => ⟨mc, ns' z1, z2⟩⟩, fun _ _ z => of_hidT z, Nat.le_of_eq (hidT_size _ _), trivial, fun _ z => (nomatch z), hok, AllBare.of_eq hgen⟩
  refine codeAny_mono ((F _ kin (ns' hns)).run callerA [] s1 H ⟨[.ref a], []⟩ [.ref a] [.ref a] _ _ hr rfl e0 (hbind s1 (.ref a)) (.cons rfl .nil) (hsp H only sq)) fun res s' z => ?_
  match res, z with
  | .error e, z => exact (cx_never z).elim
  | .ok (.ret u), ⟨v, H', hos, hbare, un, hok', rr, q⟩ =>
    cases (show v = .bl true from q)
    cases (show u = Value.bool true from rr)
    refine ⟨rfl, OldK.of_keep fun b o z => ?_, hos, hbare⟩
    rcases only b with n | ⟨ob, xs, n⟩
    · exact un.keep b o z n (by intro t; cases t) (by simp)
    · have z1 := (hok b _ n).1
      have z2 := (hok' b _ (un.frzs b ob _ n)).1
      rw [z] at z1
      cases z1
      exact z2
theorem walk_g {l : PySem.W.OpenLaw} {n k : Nat} {q : Program} {loose : List Str} {XP : (Str → Option Value) → Heap → Prop} {YP : World → Heap → Prop} {d : DefRec} {x : Str}
    (hn : l.most = some n) (hn2 : n ≤ sizeLine) (hdf : d.params.defaults = []) (hr : Room k callerA)
    (F : ∀ (w : World) (mg : Str → Option Value) (fa : Addr) (h : Heap), YP w h → h.Ns mainGlobals mg → mg d.name = some (.ref fa) →
      ∃ (K : PySem.W.Frag) (fd : FuncData) (sp : Sp), K.In h ∧ (∀ (s : Shared) (u : Value), BindsTo s fd ⟨[u], []⟩ [(x, u)]) ∧
        (∀ (H : Hp) (a : Addr) (ns : List Int), ns.length ≤ n → Only H → SqL K H a (ns.map V.int) → sp [.ref a] H (fun v _ => v = .bl true) fun _ _ _ => False) ∧
        ∀ base : Heap, K.In base → base.Ns mainGlobals mg → FnG l.prog w K mg base k fa fd [x] sp) :
    PySem.W.WalkO q loose XP YP l.row.toRowW d [] (fun f vs => PySem.call f vs) :=
  Att.attach_call hn hdf fun w s0 s1 mg mb fa o pm cd doc a vs ns G Y ho hd hcd hmg hobj hints hlen hg =>
    match F w mg fa _ Y G.T.g hmg with
    | ⟨_, _, _, KX, hb, hsp, hF⟩ => law_g KX G.T.g G.T.b G.T.builtins G.T.nolimit hg hobj hints (Nat.le_trans hlen hn2) hr hF hb fun H hO hS => hsp H a ns hlen hO hS
/-- the law's promise from what its function yields -/
theorem law_sp {K : Gw} {G : Fn} {H : Hp} {a : Addr} {ns : List Int} (h : ∃ h', G [.scr (ns.map Val.int)] [] = .ok (.bl true) h') (hO : Only H) (hS : SqL K.K H a (ns.map V.int)) : spX K 1 G [.ref a] H (fun v _ => v = .bl true) fun _ _ _ => False := by
  have hints : ∀ l : List Int, RepL K [] H (l.map Val.int) (l.map V.int) := fun l => by
    induction l with
    | nil => exact .nil
    | cons i l ih => exact .cons (.int i) ih
  have ro : RoS K.K H a (ns.map V.int) := by
    rcases hS with (z | ⟨o, z⟩) | z
    · rcases hO a with q | ⟨_, _, q⟩ <;> rw [q] at z <;> cases z
    · exact .inl ⟨o, z⟩
    · exact .inr z
  obtain ⟨h', e⟩ := h
  refine ⟨[], [], [.scr (ns.map Val.int)], ⟨rfl, List.nodup_nil, fun n o z => by simp at z⟩, .cons (.scr ro (hints ns)) .nil, rfl, ?_⟩
  rw [e]
  intro ρ' H' _ _ u r
  cases r
  rfl
end EX

set_option Elab.async false
set_option linter.all false
set_option maxRecDepth 100000
set_option maxHeartbeats 1000000
namespace EX
open PySem PySem.Spec L2
open PyProof.Rows hiding St
/-! ### an exception that is looked at by the clauses of a try -/
structure Caught (X : Cx) (pins : List (Addr × Obj)) (σ : St) (H : Hp) (cls : Value) (d : Option Addr) (a : Addr) (s : Shared) : Prop where
  ex : ∃ (B : Heap) (sI : Shared), Inv X pins σ H sI ∧ (∀ b o, sI.heap.get? b = some o → b ∉ frs X.stack → B.get? b = some o) ∧ sI.heap.UpToSlots s.heap ∧
    PySem.HandSPX.FlyingZ B (X.env :: X.outer) a (Zc cls d) s.heap ∧ s.os = sI.os ∧ AllBare s.gens
  na : H a = none
section
variable {X : Cx} {pins : List (Addr × Obj)} {σ : St} {H : Hp} {cls : Value} {d : Option Addr} {a : Addr} {s : Shared}
theorem Caught.inv (c : Caught X pins σ H cls d a s) : Inv X pins σ H s := match c.ex with
  | ⟨_, _, J, nb, up, fl, o, ag⟩ => J.landed nb fl.1 up o ag
theorem Caught.obj (c : Caught X pins σ H cls d a s) : ∃ (oe : Obj) (vs : Array Value), s.heap.get? a = some oe ∧ Zc cls d oe ∧ oe.data = .fields vs ∧ a ∉ frs (X.env :: X.outer) := by
  obtain ⟨B, sI, J, nb, up, fl, o, ag⟩ := c.ex
  obtain ⟨oe, vs, g, z, f⟩ := fl.there
  refine ⟨oe, vs, g, z, f, fun hm => ?_⟩
  obtain ⟨_, o2, g2, n2⟩ := fl.2.2.1.mem hm
  rw [g] at g2
  exact n2 vs (Option.some.inj g2 ▸ f)
theorem Caught.suite (c : Caught X pins σ H cls d a s) (hf : X.env.frame = some X.env.locals) : ∃ oe, Zc cls d oe ∧ (∃ vs, oe.data = .fields vs) ∧ s.heap.get? a = some oe ∧ Inv (X.suite a ((a, oe) :: (X.pn ++ pins))) [] σ H s := by
  obtain ⟨oe, vs, g, z, f, nm⟩ := c.obj
  refine ⟨oe, z, ⟨vs, f⟩, g, c.inv.suite g f c.na (fun q => nm ?_) fun q => nm ?_⟩
  · exact List.mem_filterMap.mpr ⟨X.env, .head _, by rw [hf, q]⟩
  · obtain ⟨e1, m1, q1⟩ := List.mem_filterMap.mp q
    exact List.mem_filterMap.mpr ⟨e1, .tail _ m1, q1⟩
theorem Caught.grow {h' : Heap} (c : Caught X pins σ H cls d a s) (k : ∀ b o, s.heap.get? b = some o → h'.get? b = some o) : Caught X pins σ H cls d a { s with heap := h' } := by
  obtain ⟨B, sI, J, nb, up, ⟨f1, f2, f3, oe, vs, T, oT, ts, z1, z2, z3, z4, z5, z6, z7, z8⟩, o, ag⟩ := c.ex
  exact ⟨⟨B, sI, J, nb, up.trans (Heap.UpToSlots.of_keeps k), ⟨fun b u e => k b u (f1 b u e), f2, f3.of_keeps fun b u e _ => ⟨u, k b u e, rfl⟩, oe, vs, T, oT, ts, k _ _ z1, z2, z3, z4, z5, z6, k _ _ z7, z8⟩, o, ag⟩, c.na⟩
theorem Caught.again {A : Around} {E : Value → Shared → Prop} {Q : Unit → Shared → Prop} (c : Caught X pins σ H cls d a s) (q : ∀ s', Caught X pins σ H cls d a s' → Q () s') : wpAny (model X.prog X.w) A (setFlight (.ref a) none) Q E s := by
  obtain ⟨B, sI, J, nb, up, fl, o, ag⟩ := c.ex
  exact PySem.HandSPX.lands_againZ fl fun h2 fl2 up2 => q _ ⟨⟨B, sI, J, nb, up.trans up2, fl2, o, ag⟩, c.na⟩
theorem Caught.type {M : Model} (c : Caught X pins σ H cls d a s) : PySem.W.Looks M s.heap (typeOf (.ref a)) cls := by
  obtain ⟨oe, vs, g, z, f, nm⟩ := c.obj
  exact fun A Q E s' k q => wpAny_typeOf_ref (k _ _ g) (by rw [z.1]; exact q)
/-- no clause is its -/
theorem Caught.out {W : WX} {Q : Flow → Shared → Prop} (hs : X.stack = X.env :: X.outer) (hf : X.env.frame = some X.env.locals) (tk : Takes X W) (c : Caught X pins σ H cls d a s) (w : W cls d σ H) :
    wpAny (model X.prog X.w) X.A (handleBy (.ref a) X.env []) Q X.xe s := by
  obtain ⟨B, sI, J, nb, up, fl, o, ag⟩ := c.ex
  refine wpAny_handleBy_nil ?_
  have last : ∀ {α : Type} {Q : α → Shared → Prop}, wpAny (model X.prog X.w) X.A (setFlight (.ref a) X.env.frame) (fun _ s4 => wpAny (model X.prog X.w) X.A (throw (.ref a)) Q X.xe s4) X.xe s := fun {α Q} => by
    rw [hf]
    exact PySem.HandSPX.setFlight_upZ fl fun h4 held up4 => wpAny_throw (tk _ _ ⟨a, B, sI, pins, σ, H, cls, d, rfl, J, nb, up.trans up4, .inr (.inr (hs ▸ held)), c.na, o, ag, w⟩)
  obtain ⟨_, _, _, oe, vs, T, oT, ts, g, z, f, v1, _⟩ := fl
  unfold PySem.passOn
  refine wpAny_bind (wpAny_field g f v1 ?_)
  rw [if_neg (by simp)]
  first
    | exact wpAny_bind (wpAny_pure (wpAny_bind last))
    | exact wpAny_bind last
/-- from the air to the clauses -/
theorem caught_of {W : WX} {xe E : Value → Shared → Prop} {u : Value} {Q : Unit → Shared → Prop} (ok : X.Ok) (hs : X.stack = X.env :: X.outer) (hf : X.env.frame = some X.env.locals) (x : L2.XE (X.tr (X.pn ++ pins) xe) W u s)
    (q : ∀ a cls d σ H s', u = .ref a → Caught X pins σ H cls d a s' → W cls d σ H → Q () s') :
    wpAny (model X.prog X.w) X.A (noteFrame u X.env) (fun _ s2 => wpAny (model X.prog X.w) X.A (setFlight u none) Q E s2) E s := by
  obtain ⟨a, B, sI, pn, σ, H, cls, d, rfl, J, nb, up, sky, na, o, ag, w⟩ := x
  have sky2 : Sky B (X.env :: X.outer) a (Zc cls d) X.env.locals s.heap := hs ▸ sky
  exact Sky.land Zc.steady (by rw [ok.frames, hs]) hf sky2 fun h3 fl up3 => q a cls d σ H _ rfl ⟨⟨B, sI, J.ofTry ok, nb, up.trans up3, fl, o, ag⟩, na⟩ w
/-! ### what a clause asks -/
def Tst (X : Cx) (t : Expr) (cs : List Value) : Prop := ∀ (a : Addr) (oe : Obj) (pn : List (Addr × Obj)) (σ : St) (H : Hp) (s : Shared) (cls : Value) (b : Bool) (R : Bool → Shared → Prop) (E : Value → Shared → Prop),
  Inv (X.suite a ((a, oe) :: pn)) [] σ H s → PySem.W.Looks (model X.prog X.w) s.heap (typeOf (.ref a)) cls → PySem.W.exmAny X.K cls cs = some b → (∀ h', (∀ b o, s.heap.get? b = some o → h'.get? b = some o) → R b { s with heap := h' }) →
  wpAny (model X.prog X.w) (X.A.mark (some (.ref a))) (eval t X.env) (fun c s1 => wpAny (model X.prog X.w) (X.A.mark (some (.ref a))) (excMatches (.ref a) c) R E s1) E s
theorem names_ld {x : Str} {c : Value} {np : Pos} (hc : Names X x c) {oe : Obj} {pn : List (Addr × Obj)} (S : Inv (X.suite a ((a, oe) :: pn)) [] σ H s) {Q : Value → Shared → Prop} {E : Value → Shared → Prop} (q : Q c s) :
    wpAny (model X.prog X.w) (X.A.mark (some (.ref a))) (eval (.Name x np) X.env) Q E s := by
  obtain ⟨g, n, m | ⟨m, v, n2⟩⟩ := hc
  · exact ld_glob (X := X.suite a ((a, oe) :: pn)) S g m q n
  · exact ld_blt (X := X.suite a ((a, oe) :: pn)) S g m v q n2 n
theorem tst_one {x : Str} {c : Value} {np : Pos} (hc : Names X x c) : Tst X (.Name x np) [c] := fun a oe pn σ H s cls b R E S L e k => by
  obtain ⟨b1, d1, e1, e2, e3⟩ := PySem.W.exmAny_cons e
  have e2 : some false = some d1 := e2
  cases e2
  rw [Bool.or_false] at e3
  subst e3
  exact names_ld hc S ((PySem.W.exm_one S.kIn L e1).here (k s.heap fun _ _ z => z))
theorem tst_two {x y : Str} {c1 c2 : Value} {p1 p2 tp : Pos} {j : Nat} (h1 : Names X x c1) (h2 : Names X y c2) : Tst X (.Tuple [.Name x p1, .Name y p2] j tp) [c1, c2] := fun a oe pn σ H s cls b R E S L e k => by
  refine wpAny_Tuple (spliced_more (names_ld h1 S (spliced_more (names_ld h2 S (spliced_none ⟨by show _ ≤ sizeLine; rw [sizeLine_eq]; simp, ?_⟩)))))
  have kp : ∀ b o, s.heap.get? b = some o → (s.heap.push { cls := .type "tuple", data := .seq [c1, c2].toArray }).get? b = some o := fun b o z => Heap.get?_push_of_some _ z
  exact (PySem.W.exm_tup2 (S.kIn.keeps kp) (L.keeps kp) (Heap.get?_push_size _ rfl) e).here (k _ kp)
theorem tst_three {x y z : Str} {c1 c2 c3 : Value} {p1 p2 p3 tp : Pos} {j : Nat} (h1 : Names X x c1) (h2 : Names X y c2) (h3 : Names X z c3) : Tst X (.Tuple [.Name x p1, .Name y p2, .Name z p3] j tp) [c1, c2, c3] := fun a oe pn σ H s cls b R E S L e k => by
  refine wpAny_Tuple (spliced_more (names_ld h1 S (spliced_more (names_ld h2 S (spliced_more (names_ld h3 S (spliced_none ⟨by show _ ≤ sizeLine; rw [sizeLine_eq]; simp, ?_⟩)))))))
  have kp : ∀ b o, s.heap.get? b = some o → (s.heap.push { cls := .type "tuple", data := .seq [c1, c2, c3].toArray }).get? b = some o := fun b o z => Heap.get?_push_of_some _ z
  exact (PySem.W.exm_tup3 (S.kIn.keeps kp) (L.keeps kp) (Heap.get?_push_size _ rfl) e).here (k _ kp)
end
/-! ### classes of exceptions, try -/
/-- each class with the names that it is of -/
abbrev Ct := List (Str × List Str)
def subX (ct : Ct) (c d : Str) : Option Bool := (ct.lookup c).map fun l => l.contains d
def anyX (ct : Ct) (c : Str) : List Str → Option Bool
  | [] => some false
  | d :: r => match subX ct c d, anyX ct c r with
    | some b, some e => some (b || e)
    | _, _ => none
structure Hdl where
  cs : List Str
  slot : Option Nat
  run : Str → List (Str × Val) → XS
def unS : Option Nat → En → En
  | none, e => e
  | some i, e => e.set i none
def unslot (i : Option Nat) : RS → RS
  | .nx e h => .nx (unS i e) h
  | .bk e h => .bk (unS i e) h
  | .ct e h => .ct (unS i e) h
  | .rt v h => .rt v h
  | .exc _ _ _ _ => .stuck
  | .stuck => .stuck
def handle (ct : Ct) (c : Str) (fs : List (Str × Val)) (e : En) (h : Hh) : List Hdl → RS
  | [] => .exc c fs e h
  | x :: r => match anyX ct c x.cs with
    | some true => unslot x.slot (x.run c fs (unS x.slot e) h)
    | some false => handle ct c fs e h r
    | none => .stuck
def sTry (ct : Ct) (body : XS) (l : List Hdl) : XS := fun e h => match body e h with
  | .exc c fs e1 h1 => handle ct c fs e1 h1 l
  | r => r
/-- the value of a class's name -/
def Nv (mg : Str → Option Value) (d : Str) (dv : Value) : Prop := mg d = some dv ∨ (mg d = none ∧ bootBuiltins d = some dv)
/-- what isinstance asks of a class of exceptions -/
structure IsC (K : PySem.W.Frag) (C : Addr) : Prop where
  hc : (PySem.W.clsIn K C).isSome = true
  ha : PySem.W.findIn K (.ref C) "__class__" = some (some (.builtin "object.__class__"))
  hn : PySem.W.specialIn K (.builtin "object.__class__") "__get__" = some (some (.builtin "getset_descriptor.__get__"))
  ht : PySem.W.takesIn K (.builtin "object.__class__") = some true
  hm : PySem.W.mroIn K C (.type "object") = some true
structure CtOk (K : PySem.W.Frag) (mg : Str → Option Value) (ct : Ct) (ds fl : List Str) : Prop where
  of : ∀ c l, ct.lookup c = some l → ∃ C, mg c = some (.ref C) ∧ XfC K C ∧ IsC K C ∧ (∀ f ∈ fl, PySem.W.findIn K (.ref C) f = some none) ∧
    ∀ d ∈ ds, ∀ dv, Nv mg d dv → PySem.W.exmOne K (.ref C) dv = some (l.contains d) ∧ PySem.W.kitOne K (.ref C) dv = some (l.contains d)
theorem CtOk.any {K : PySem.W.Frag} {mg : Str → Option Value} {ct : Ct} {ds fl : List Str} (T : CtOk K mg ct ds fl) {c : Str} {cls : Value} (hc : mg c = some cls) : ∀ {cs : List Str} {cvs : List Value} {b : Bool}, Paired (Nv mg) cs cvs → (∀ d ∈ cs, d ∈ ds) → anyX ct c cs = some b →
    PySem.W.exmAny K cls cvs = some b
  | [], _, b, .nil, _, e => e
  | d :: r, _, b, .cons (b := dv) (l₂ := rv) n t, hin, e => by
    have e : (match subX ct c d, anyX ct c r with | some b, some e => some (b || e) | _, _ => none) = some b := e
    split at e
    · rename_i b1 b2 e1 e2
      cases e
      have i2 := T.any hc t (fun z hz => hin z (.tail _ hz)) e2
      unfold subX at e1
      cases e3 : ct.lookup c with
      | none => rw [e3] at e1; cases e1
      | some l =>
        rw [e3] at e1
        cases e1
        obtain ⟨C, hC, _, _, _, hd⟩ := T.of c l e3
        rw [hc] at hC
        cases hC
        have i1 := (hd d (hin d (.head _)) dv n).1
        show (match PySem.W.exmOne K (.ref C) dv, PySem.W.exmAny K (.ref C) rv with | some b, some d => some (b || d) | _, _ => none) = _
        rw [i1, i2]
    · cases e
theorem any_known {ct : Ct} {c : Str} : ∀ {cs : List Str}, anyX ct c cs = some true → ∃ l, ct.lookup c = some l
  | [], e => by cases e
  | d :: r, e => by
    have e : (match subX ct c d, anyX ct c r with | some b, some e => some (b || e) | _, _ => none) = some true := e
    cases q : ct.lookup c with
    | none => unfold subX at e; rw [q] at e; cases e
    | some l => exact ⟨l, rfl⟩
def WNo : WX := fun _ _ _ _ => False
def TstN (X : Cx) (t : Expr) (cs : List Str) : Prop := ∃ cvs, Tst X t cvs ∧ Paired (Nv X.mg) cs cvs
theorem names_nv {X : Cx} {x : Str} {c : Value} (h : Names X x c) : Nv X.mg x c := h.2.2.imp id fun z => ⟨z.1, z.2.1⟩
theorem tn_one {X : Cx} {x : Str} {c : Value} {np : Pos} (h : Names X x c) : TstN X (.Name x np) [x] := ⟨_, tst_one h, .cons (names_nv h) .nil⟩
theorem tn_two {X : Cx} {x y : Str} {c d : Value} {p1 p2 tp : Pos} {j : Nat} (h : Names X x c) (h2 : Names X y d) : TstN X (.Tuple [.Name x p1, .Name y p2] j tp) [x, y] := ⟨_, tst_two h h2, .cons (names_nv h) (.cons (names_nv h2) .nil)⟩
theorem tn_three {X : Cx} {x y z : Str} {c d e : Value} {p1 p2 p3 tp : Pos} {j : Nat} (h : Names X x c) (h2 : Names X y d) (h3 : Names X z e) : TstN X (.Tuple [.Name x p1, .Name y p2, .Name z p3] j tp) [x, y, z] := ⟨_, tst_three h h2 h3, .cons (names_nv h) (.cons (names_nv h2) (.cons (names_nv h3) .nil))⟩
/-- the clauses -/
inductive HdsX (X : Cx) (ct : Ct) (ds : List Str) : List ExceptHandler → List Hdl → Prop
  | nil : HdsX X ct ds [] []
  | plain {t : Expr} {cs : List Str} {b₀ : Stmt} {su : List Stmt} {p : Pos} {run : Str → List (Str × Val) → XS} {hds : List ExceptHandler} {l : List Hdl} (ht : TstN X t cs) (hin : ∀ d ∈ cs, d ∈ ds)
      (hsu : ∀ (a : Addr) (oe : Obj) (cls : Value) (d : Option Addr) (pn : List (Addr × Obj)) (c : Str) (fs : List (Str × Val)), Zc cls d oe → (∃ vs, oe.data = .fields vs) → X.mg c = some cls → (∃ l, ct.lookup c = some l) → QSs (X.suite a ((a, oe) :: pn)) ⟨WNo, none⟩ (b₀ :: su) (run c fs)) (r : HdsX X ct ds hds l) :
      HdsX X ct ds (.ExceptHandler (some t) none (b₀ :: su) p :: hds) (⟨cs, none, run⟩ :: l)
  | named {t : Expr} {cs : List Str} {b₀ : Stmt} {su : List Stmt} {p : Pos} {run : Str → List (Str × Val) → XS} {hds : List ExceptHandler} {l : List Hdl} {n : Str} {i : Nat} (ht : TstN X t cs) (hin : ∀ d ∈ cs, d ∈ ds) (hi : X.N[i]? = some n) (hl : X.env.kindOf n = some .local)
      (hsu : ∀ (a : Addr) (oe : Obj) (cls : Value) (d : Option Addr) (pn : List (Addr × Obj)) (c : Str) (fs : List (Str × Val)), Zc cls d oe → (∃ vs, oe.data = .fields vs) → X.mg c = some cls → (∃ l, ct.lookup c = some l) → QSs (X.suite a ((a, oe) :: pn)) ⟨WNo, some ⟨i, a, d, fs⟩⟩ (b₀ :: su) (run c fs)) (r : HdsX X ct ds hds l) :
      HdsX X ct ds (.ExceptHandler (some t) (some n) (b₀ :: su) p :: hds) (⟨cs, some i, run⟩ :: l)
section
variable {X : Cx} {W : Wd} {pins : List (Addr × Obj)} {σ : St} {H : Hp} {s : Shared} {ct : Ct} {ds fl : List Str}
/-- behind a suite -/
theorem unslot_of {K : Gw} {ρ : List Addr} {D : Ends} {i : Option Nat} {q : Option Sx} {r : RS} (h0 : W.s = none) (p : PostS K W ρ H D (unslot i r)) :
    PostS K ⟨WNo, q⟩ ρ H { nx := fun σ' H' => D.nx (match i with | none => σ' | some i => σ'.set i none) H', rt := D.rt, bk := fun σ' H' => D.bk (match i with | none => σ' | some i => σ'.set i none) H', ct := fun σ' H' => D.ct (match i with | none => σ' | some i => σ'.set i none) H' } r := by
  have key : ∀ {ρ' : List Addr} {H' : Hp} {e : En} {σ' : St}, EnvR K ρ' H' q e σ' → EnvR K ρ' H' W.s (unS i e) (match i with | none => σ' | some i => σ'.set i none) := fun {ρ' H' e σ'} E => by
    rw [h0]
    cases i with
    | none => exact E.drop
    | some i => exact E.drop.unset i none
  cases r with
  | nx e h => exact fun ρ' H' σ' g S E => p ρ' H' _ g S (key E)
  | bk e h => exact fun ρ' H' σ' g S E => p ρ' H' _ g S (key E)
  | ct e h => exact fun ρ' H' σ' g S E => p ρ' H' _ g S (key E)
  | rt v h => exact p
  | exc c fs e h => exact p.elim
  | stuck => exact p
theorem handle_ok {hds : List ExceptHandler} {l : List Hdl} (T : CtOk X.K X.mg ct ds fl) (hh : HdsX X ct ds hds l) (hs : X.stack = X.env :: X.outer) (hf : X.env.frame = some X.env.locals) (hN : X.N.Nodup) (tk : Takes X W.w) (h0 : W.s = none) :
    ∀ {s : Shared} {σ : St} {H : Hp} {cls : Value} {d : Option Addr} {a : Addr} {ρ : List Addr} {c : Str} {fs : List (Str × Val)} {e : En} {h : Hh} {D : Ends}, Caught X pins σ H cls d a s → Sim (gw X) ρ H h → EnvR (gw X) ρ H none e σ → XcR (gw X) ρ H fs d → X.mg c = some cls →
      PostS (gw X) W ρ H D (handle ct c fs e h l) → wpAny (model X.prog X.w) X.A (handleBy (.ref a) X.env hds) (SP X pins D) X.xe s := by
  induction hh with
  | nil =>
    intro s σ H cls d a ρ c fs e h D C S E xc hc p
    exact C.out hs hf tk (p ρ H d σ cls (Grow.refl _ _) S (by rw [h0]; exact E) xc hc)
  | @plain t cs b₀ su ps run hds l ht hin hsu r ih =>
    intro s σ H cls d a ρ c fs e h D C S E xc hc p
    obtain ⟨cvs, ht, hcv⟩ := ht
    obtain ⟨oe, z, fv, g, I⟩ := C.suite hf
    have p : PostS (gw X) W ρ H D (match anyX ct c cs with | some true => unslot none (run c fs e h) | some false => handle ct c fs e h l | none => .stuck) := p
    cases ea : anyX ct c cs with
    | none => rw [ea] at p; exact p.elim
    | some b =>
      rw [ea] at p
      refine wpAny_handleBy_cons (codeAny_handlers_test (ht a oe _ σ H s cls b _ _ I C.type (T.any hc hcv hin ea) fun h' k => ?_)) (by intro q; cases q)
      have C2 := C.grow k
      cases b with
      | false => exact ih C2 S E xc hc p
      | true =>
        refine codeAny_handlers_suite (C2.again fun s3 C3 => ?_)
        obtain ⟨oe3, z3, fv3, g3, I3⟩ := C3.suite hf
        refine wpAny_mono ((hsu a oe3 cls d _ c fs z3 fv3 hc (any_known ea)).run [] s3 σ H _ I3 ⟨ρ, e, h, S, E, unslot_of (q := none) h0 p⟩) (fun f s6 q => ?_) fun _ _ q => q.elim
        cases f with
        | next => obtain ⟨σ6, H6, I6, q6⟩ := q; exact ⟨σ6, H6, I6.unsuite C.inv.ok, q6⟩
        | brk => obtain ⟨σ6, H6, I6, q6⟩ := q; exact ⟨σ6, H6, I6.unsuite C.inv.ok, q6⟩
        | cont => obtain ⟨σ6, H6, I6, q6⟩ := q; exact ⟨σ6, H6, I6.unsuite C.inv.ok, q6⟩
        | ret u => obtain ⟨v6, σ6, H6, I6, r6, q6⟩ := q; exact ⟨v6, σ6, H6, I6.unsuite C.inv.ok, r6, q6⟩
  | @named t cs b₀ su ps run hds l n i ht hin hi hl hsu r ih =>
    intro s σ H cls d a ρ c fs e h D C S E xc hc p
    obtain ⟨cvs, ht, hcv⟩ := ht
    obtain ⟨oe, z, fv, g, I⟩ := C.suite hf
    have p : PostS (gw X) W ρ H D (match anyX ct c cs with | some true => unslot (some i) (run c fs (e.set i none) h) | some false => handle ct c fs e h l | none => .stuck) := p
    cases ea : anyX ct c cs with
    | none => rw [ea] at p; exact p.elim
    | some b =>
      rw [ea] at p
      refine wpAny_handleBy_cons (codeAny_handlers_test (ht a oe _ σ H s cls b _ _ I C.type (T.any hc hcv hin ea) fun h' k => ?_)) (by intro q; cases q)
      have C2 := C.grow k
      cases b with
      | false => exact ih C2 S E xc hc p
      | true =>
        refine codeAny_handlers_suite_as (C2.again fun s3 C3 => ?_)
        obtain ⟨oe3, z3, fv3, g3, I3⟩ := C3.suite hf
        refine store_ok (X := X.suite a ((a, oe3) :: (X.pn ++ pins))) (v := .ref a) I3 hN hi (.inl hl) rfl (fun s5 I5 => ?_) (.inr hl)
        have hil : i < σ.length := by rw [C.inv.len]; exact (List.getElem?_eq_some_iff.mp hi).1
        have E5 : EnvR (gw X) ρ H (some ⟨i, a, d, fs⟩) (e.set i none) (σ.set i (some (.ref a))) := by
          have E4 := E.unset i (some (.ref a))
          refine ⟨E4.1, E4.2.1, fun q hq => ?_⟩
          cases hq
          exact ⟨List.getElem?_set_self hil, xc⟩
        refine wpAny_mono ((hsu a oe3 cls d _ c fs z3 fv3 hc (any_known ea)).run [] s5 _ H _ I5 ⟨ρ, _, h, S, E5, unslot_of (q := some ⟨i, a, d, fs⟩) h0 p⟩) (fun f s6 q => ?_) fun _ _ q => q.elim
        cases f with
        | next => obtain ⟨σ6, H6, I6, q6⟩ := q; exact gone_ok (I6.unsuite C.inv.ok) hN hi hl fun s7 I7 => ⟨_, H6, I7, q6⟩
        | brk => obtain ⟨σ6, H6, I6, q6⟩ := q; exact gone_ok (I6.unsuite C.inv.ok) hN hi hl fun s7 I7 => ⟨_, H6, I7, q6⟩
        | cont => obtain ⟨σ6, H6, I6, q6⟩ := q; exact gone_ok (I6.unsuite C.inv.ok) hN hi hl fun s7 I7 => ⟨_, H6, I7, q6⟩
        | ret u => obtain ⟨v6, σ6, H6, I6, r6, q6⟩ := q; exact gone_ok (I6.unsuite C.inv.ok) hN hi hl fun s7 I7 => ⟨v6, _, H6, I7, r6, q6⟩
/-- what the body's exceptions must meet -/
def WTry (K : Gw) (W : Wd) (ct : Ct) (l : List Hdl) (D : Ends) : WX := fun cls d σ H => ∃ ρ c fs e h, Sim K ρ H h ∧ EnvR K ρ H none e σ ∧ XcR K ρ H fs d ∧ K.mg c = some cls ∧ PostS K W ρ H D (handle ct c fs e h l)
theorem try_of {K : Gw} {xb : XS} {l : List Hdl} {D : Ends} (h0 : W.s = none) (h : tXS K W (sTry ct xb l) D σ H) : tXS K ⟨WTry K W ct l D, none⟩ xb D σ H := by
  obtain ⟨ρ, env, h, S, E, p⟩ := h
  rw [h0] at E
  refine ⟨ρ, env, h, S, E, ?_⟩
  unfold sTry at p
  cases e : xb env h with
  | nx e1 h1 => rw [e] at p; exact fun ρ' H' σ' g S' E' => p ρ' H' σ' g S' (by rw [h0]; exact E')
  | rt v h1 => rw [e] at p; exact p
  | bk e1 h1 => rw [e] at p; exact fun ρ' H' σ' g S' E' => p ρ' H' σ' g S' (by rw [h0]; exact E')
  | ct e1 h1 => rw [e] at p; exact fun ρ' H' σ' g S' E' => p ρ' H' σ' g S' (by rw [h0]; exact E')
  | exc c fs e1 h1 => rw [e] at p; exact fun ρ' H' d σ' cv g S' E' xc hc => ⟨ρ', c, fs, e1, h1, S', E', xc, hc, PostS.mono g p⟩
  | stuck => rw [e] at p; exact p.elim
theorem qs_try {body : List Stmt} {h₀ : ExceptHandler} {hds : List ExceptHandler} {l : List Hdl} {pos : Pos} {xb : XS} (T : CtOk X.K X.mg ct ds fl) (hs : X.stack = X.env :: X.outer) (hf : X.env.frame = some X.env.locals) (hN : X.N.Nodup) (tk : Takes X W.w) (h0 : W.s = none)
    (hb : ∀ (Wb : WX) (pn : List (Addr × Obj)) (xe : Value → Shared → Prop), Takes (X.tr pn xe) Wb → PassesOwn (model X.prog X.w) X.A X.env xe → QSs (X.tr pn xe) ⟨Wb, none⟩ body xb) (hh : HdsX X ct ds (h₀ :: hds) l) :
    QS X W (.Try body (h₀ :: hds) [] [] pos) (sTry ct xb l) := by
  refine ⟨fun pins s σ H D I h => ?_⟩
  refine wpAny_Try_except (wpAny_mono ((hb (WTry (gw X) W ct l D) (X.pn ++ pins) _ (fun u s' xx => ?_) PassesOwn.looking).run [] s σ H D (I.toTry _) (try_of h0 h)) (fun f s1 q => ?_) fun e s1 q => q)
  · exact caught_of I.ok hs hf xx fun a cls d σ' H' s3 eu C w => by
      subst eu
      obtain ⟨ρ, c, fs, e, h1, S, E, xc, hc, p⟩ := w
      exact handle_ok T hh hs hf hN tk h0 C S E xc hc p
  · cases f with
    | next => obtain ⟨σ6, H6, I6, q6⟩ := q; exact wpAny_execs_nil ⟨σ6, H6, I6.ofTry I.ok, q6⟩
    | brk => obtain ⟨σ6, H6, I6, q6⟩ := q; exact ⟨σ6, H6, I6.ofTry I.ok, q6⟩
    | cont => obtain ⟨σ6, H6, I6, q6⟩ := q; exact ⟨σ6, H6, I6.ofTry I.ok, q6⟩
    | ret u => obtain ⟨v6, σ6, H6, I6, r6, q6⟩ := q; exact ⟨v6, σ6, H6, I6.ofTry I.ok, r6, q6⟩
end
end EX

set_option Elab.async false
set_option linter.all false
set_option maxRecDepth 100000
set_option maxHeartbeats 1000000
namespace EX
open PySem PySem.Spec L2
open PyProof.Rows hiding St
/-! ### in an except suite: a field of the exception, isinstance of it -/
def xFld (fs : List (Str × Val)) (f : Str) : XE := fun _ h => match fs.lookup f with
  | some v => .ok v h
  | none => .stuck
def xIsE (ct : Ct) (c d : Str) : XE := fun _ h => match subX ct c d with
  | some b => .ok (.bl b) h
  | none => .stuck
section
variable {X : Cx} {a : Addr} {oe : Obj} {pn : List (Addr × Obj)} {w : WX} {i : Nat} {cls : Value} {dd : Option Addr} {fs : List (Str × Val)} {ct : Ct} {ds fl : List Str} {c n : Str}
theorem repF_lookup {K : Gw} {ρ : List Addr} {H : Hp} {f : Str} {v : Val} : ∀ {xs : List (Str × Val)} {vs : List (Str × V)}, RepF K ρ H xs vs → xs.lookup f = some v → ∃ u, vs.lookup f = some u ∧ Rep K ρ H v u
  | _, _, .nil, e => by cases e
  | (x, y) :: _, (x', y') :: _, .cons r t, e => by
    obtain ⟨r1, r2⟩ := r
    dsimp only at r1 r2
    subst r1
    by_cases hx : f = x
    · subst hx
      rw [List.lookup_cons_self] at e
      cases e
      exact ⟨y', List.lookup_cons_self, r2⟩
    · have hb : (f == x) = false := by simpa using hx
      rw [List.lookup, hb] at e
      obtain ⟨u, e1, r3⟩ := repF_lookup t e
      exact ⟨u, by rw [List.lookup, hb]; exact e1, r3⟩
theorem q_fld {f : Str} {p pos : Pos} {l : List Str} (T : CtOk X.K X.mg ct ds fl) (hl : ct.lookup c = some l) (hf : f ∈ fl) (hz : Zc cls dd oe) (hv : ∃ vs, oe.data = .fields vs) (hc : X.mg c = some cls) (hn : PE (X.suite a ((a, oe) :: pn)) (.Name n p) (tVar i)) (hb : attributeBase (.Name n p) f X.env (eval (.Name n p) X.env) = eval (.Name n p) X.env := by rfl) :
    QE (X.suite a ((a, oe) :: pn)) ⟨w, some ⟨i, a, dd, fs⟩⟩ (.Attribute (.Name n p) f pos) (xFld fs f) := by
  obtain ⟨C, hC, xf, _, no, _⟩ := T.of c l hl
  rw [hc] at hC
  cases hC
  refine PE.of (pe_xf xf (no f hf) hz hv hn hb) fun σ H Q ⟨ρ, env, h, S, E, p⟩ => ?_
  obtain ⟨e1, xc⟩ := E.2.2 _ rfl
  refine ⟨_, e1, rfl, rfl, ?_⟩
  unfold xFld at p
  cases ef : fs.lookup f with
  | none => rw [ef] at p; exact p.elim
  | some v =>
    rw [ef] at p
    cases dd with
    | none => cases (show fs = [] from xc); cases ef
    | some d =>
      obtain ⟨vs, ev, rf⟩ := xc
      obtain ⟨u, eu, ru⟩ := repF_lookup rf ef
      exact ⟨d, vs, u, rfl, ev, eu, p ρ H (Grow.refl _ _) S u ru⟩
def rIsX (K : PySem.W.Frag) (cls : Value) (a : Addr) (dd : Option Addr) : List V → Hp → VK → Prop := fun xs H Q => ∃ (v : V) (b : Bool), xs = [.ref a, v] ∧ (∀ u, RelV v u → PySem.W.kitOne K cls u = some b) ∧ (∀ d, dd = some d → ∃ vs, H d = some (.xd vs)) ∧ Q (.bl b) H
theorem call_isX {C : Addr} (xf : XfC X.K C) (ic : IsC X.K C) (hz : Zc (.ref C) dd oe) (hv : ∃ vs, oe.data = .fields vs) : CallR (X.suite a ((a, oe) :: pn)) (.builtin "isinstance") (rIsX X.K (.ref C) a dd) := by
  intro pins s σ H xs us Q I r ⟨v, b, e, hk, hd, q⟩
  subst e
  cases r with
  | cons r1 r2 =>
  cases r2 with
  | cons r2 r3 =>
  cases r3
  cases r1
  obtain ⟨hget, _⟩ := I.pin (a, oe) (List.mem_append_left _ (.head _))
  obtain ⟨vs, hv⟩ := hv
  have J : ∃ od, PySem.W.InstAt s.heap a oe C od := by
    obtain ⟨z1, z2⟩ := hz
    cases dd with
    | none => exact ⟨none, hget, z1, by unfold PySem.W.notCls; rw [hv] <;> rfl, by rw [z2]; trivial⟩
    | some d =>
      obtain ⟨ws, hx⟩ := hd d rfl
      obtain ⟨mA, ⟨od, _, _, ho, _⟩, _⟩ : ObjOk X.prog X.w H s.heap d (.xd ws) := I.hok d _ hx
      exact ⟨some od, hget, z1, by unfold PySem.W.notCls; rw [hv] <;> rfl, by rw [z2]; exact ho⟩
  obtain ⟨od, J⟩ := J
  exact PySem.W.kia_one (PySem.W.kitx_exc ic.hc xf.ga xf.gg xf.exC ic.ha ic.hn ic.ht ic.hm) I.kIn J (hk _ r2) (fun z => nomatch z) fun tk => ⟨.bl b, H, I.kept (t' := tk) fun _ _ z => z, rfl, q⟩
theorem q_isE {d : Str} {l : List Str} {p p1 p2 pos : Pos} {v : V} (T : CtOk X.K X.mg ct ds fl) (hl : ct.lookup c = some l) (hd : d ∈ ds) (hz : Zc cls dd oe) (hv : ∃ vs, oe.data = .fields vs) (hc : X.mg c = some cls)
    (hg : Gl X "isinstance") (hm : X.mg "isinstance" = none) (hn : PE (X.suite a ((a, oe) :: pn)) (.Name n p1) (tVar i)) (hdn : PE (X.suite a ((a, oe) :: pn)) (.Name d p2) (tC v)) (hr : ∀ u, RelV v u → Nv X.mg d u) :
    QE (X.suite a ((a, oe) :: pn)) ⟨w, some ⟨i, a, dd, fs⟩⟩ (.Call (.Name "isinstance" p) [.Name n p1, .Name d p2] [] pos) (xIsE ct c d) := by
  obtain ⟨C, hC, xf, ic, _, hk⟩ := T.of c l hl
  rw [hc] at hC
  cases hC
  refine PE.of (pe_callB (call_isX xf ic hz hv) hg hm bt_isinstance (pa_cons hn (pa_cons hdn pa_nil))) fun σ H Q ⟨ρ, env, h, S, E, p⟩ => ?_
  obtain ⟨e1, xc⟩ := E.2.2 _ rfl
  have es : subX ct c d = some (l.contains d) := by unfold subX; rw [hl]; rfl
  unfold xIsE at p
  rw [es] at p
  exact ⟨_, e1, v, l.contains d, rfl, fun u ru => (hk d hd u (hr u ru)).2, fun d' e => by subst e; obtain ⟨vs, ev, _⟩ := xc; exact ⟨vs, ev⟩, p ρ H (Grow.refl _ _) S _ (.bl _)⟩
end
/-! ### defs called where an exception is handled -/
structure Rm (k : Nat) (A : Around) : Prop where
  dp : A.depth + 3 * k + 5 < recursionLimit
  un : A.units + 16 * k + 200 < cLine
theorem Rm.of {k : Nat} {A : Around} (r : Room k A) (h : Option Value) : Rm k (A.mark h) := ⟨r.dp, r.un⟩
theorem Rm.mono {j k : Nat} {A : Around} (r : Rm k A) (h : j ≤ k) : Rm j A := ⟨by have := r.dp; omega, by have := r.un; omega⟩
theorem Rm.deeper {k : Nat} {A : Around} (r : Rm (k + 1) A) (env : Env) : Rm k (A.deeper env) := ⟨by have := r.dp; show A.depth + 1 + 3 * k + 5 < _; omega, by have := r.un; show A.units + 3 + 16 * k + 200 < _; omega⟩
theorem Rm.u70 {k : Nat} {A : Around} (r : Rm k A) : A.units + 70 < cLine := by have := r.un; omega
theorem Rm.u64 {k : Nat} {A : Around} (r : Rm k A) : A.units + 64 < cLine := by have := r.un; omega
theorem Rm.u1 {k : Nat} {A : Around} (r : Rm k A) : A.units + 1 < cLine := by have := r.un; omega
abbrev never : XK := fun _ _ _ => False
structure FnW (P : Program) (w : World) (K : PySem.W.Frag) (mg : Str → Option Value) (base : Heap) (k : Nat) (f : Addr) (fd : FuncData) (ps : List Str) (sp : Sp) : Prop where
  len : ∀ vs H Q E, sp vs H Q E → vs.length = ps.length
  run : ∀ (A : Around) (outer : List Env) (s : Shared) (H : Hp) (args : Args) (us : List Value) (vs : List V) (Q : VK), Rm k A → A.guards = some [] →
    Env0 P w K mg base A outer s H → BindsTo s fd args (ps.zip us) → Vals vs us → sp vs H Q never → codeAny (model P w) A (.call (.ref f) args) (CR (L2.CX P w) outer P w H s Q never) s
theorem FnW.mono {P : Program} {w : World} {K : PySem.W.Frag} {mg : Str → Option Value} {base : Heap} {j k : Nat} {f : Addr} {fd : FuncData} {ps : List Str} {sp : Sp} (F : FnW P w K mg base j f fd ps sp) (h : j ≤ k) : FnW P w K mg base k f fd ps sp :=
  ⟨F.len, fun A outer s H args us vs Q r => F.run A outer s H args us vs Q (r.mono h)⟩
def cxW (P : Program) (w : World) (K : PySem.W.Frag) (mg : Str → Option Value) (base : Heap) (N : List Str) (qual : Str) (scope : Scope) (f : Addr) (cd : Value) (A : Around) (outer : List Env) (s : Shared) (H : Hp) : Cx :=
  { cxOf (L2.CX P w) P w K mg base N qual scope f cd A outer s H never with calm := false, xe := fun _ _ => False }
theorem inv_hot {P : Program} {w : World} {K : PySem.W.Frag} {mg : Str → Option Value} {base : Heap} {N : List Str} {qual : Str} {scope : Scope} {f : Addr} {cd : Value} {A : Around} {outer : List Env} {s s1 : Shared} {H H1 : Hp} {σ : St}
    (I : Inv (cxOf (L2.CX P w) P w K mg base N qual scope f cd { A with handled := none } outer s H never) [] σ H1 s1) : Inv (cxW P w K mg base N qual scope f cd A outer s H) [] σ H1 s1 :=
  ⟨⟨I.ok.mod, I.ok.kind, I.ok.glob, I.ok.blt, I.ok.above, I.ok.inj, I.ok.has, I.ok.cab, (fun z => Bool.noConfusion (show false = true from z)), I.ok.frames, I.ok.stk, I.ok.exf, I.ok.bs, I.ok.bsz, I.ok.noex, I.ok.exfs, I.ok.funs, I.ok.frf⟩,
    I.os, I.bare, I.base, I.loc, I.cell, I.free, I.freeC, I.pin, I.hok, I.len⟩
theorem takesNo {X : Cx} : Takes X WNo := fun _ _ ⟨_, _, _, _, _, _, _, _, _, _, _, _, _, _, _, _, z⟩ => z.elim
section
variable {P : Program} {w : World} {K : PySem.W.Frag} {mg : Str → Option Value} {base : Heap} {x qual : Str} {params : Arguments} {body : List Stmt} {scope : Scope} {dvs : List V} {kws : List (Str × V)} {f : Addr} {fd : FuncData}
theorem fnw_x {N ps : List Str} {k : Nat} {xs : XS} (F : FunD K x qual params body scope dvs kws f fd) (S : FnScope N ps scope)
    (hb : ∀ (cdv : Value) (A : Around) (outer : List Env) (s : Shared) (H : Hp), Rm k (A.deeper (PyProof.Rows.envOfC qual scope s.heap.objs.size f cdv)) → A.guards = some [] →
      QSs (cxW P w K mg base N qual scope f cdv A outer s H) ⟨WNo, none⟩ body xs) : FnW P w K mg base (k + 1) f fd ps (spX ⟨K, mg, w⟩ ps.length (callF N.length xs)) := by
  obtain ⟨oc, od, dV, kV, doc, pm, an, cdv, ct, osl, rfl, lk, hcd, -, -⟩ := F.ex
  have len : ∀ vs H Q E, spX ⟨K, mg, w⟩ ps.length (callF N.length xs) vs H Q E → vs.length = ps.length := fun vs H Q E ⟨ρ, h, as, _, r, hl, _⟩ => by rw [← r.length, hl]
  refine ⟨len, fun A outer s H args us vs Q hr hg e0 hbind rv hsp => ?_⟩
  have stay : ∀ b o, base.get? b = some o → s.heap.get? b = some o := fun b o z => (e0.bs b o z).1
  have KX := e0.mod.kin.keeps stay
  have dep : A.depth < recursionLimit := by have := hr.dp; omega
  refine codeAny_call_function dep (KX _ _ lk) rfl S.co S.gen rfl (PySem.W.codeRec_of KX hcd) (hbind _ _ _ _ (wpAny_newFunctionEnv_cells S.kind ?kinds fun env he s1 ic => ?_))
  case kinds =>
    intro y hy
    exact (S.par y.1 (List.of_mem_zip hy).1).imp id fun z => ⟨z, PySem.W.cellsFrom_some _ _ _ (.inl z)⟩
  cases he
  refine ⟨(e0.mod.nolimit.keeps stay).keeps ic.toInCall.keep, codeAny_func ?_⟩
  have e1 : Env0 P w K mg base { A with handled := none } outer s H := ⟨e0.frames, e0.mod, e0.bs, e0.bsz, e0.funs, e0.frf, e0.hok, e0.bare⟩
  have I := inv_hot (inv_start (CX := L2.CX P w) (E := never) S rfl e1 (len _ _ _ _ hsp) rv ic)
  obtain ⟨ρ, h, as, Sm, r, hl, p⟩ := hsp
  refine wpAny_mono ((hb cdv A outer s H (hr.deeper _) hg).run [] s1 _ H { nx := fun _ H' => Q .non H', rt := Q } I ⟨ρ, _, h, Sm, start_env r, call_post (E := never) Sm.len p⟩) (fun fl s' z => ?_) fun _ _ z => z.elim
  cases fl with
  | ret u => exact match z with | ⟨v, _, H', J, r, q⟩ => ⟨v, H', J.os, J.bare, J.base, J.hok, r, q⟩
  | next => exact match z with | ⟨_, H', J, q⟩ => ⟨V.non, H', J.os, J.bare, J.base, J.hok, rfl, q⟩
  | brk => exact match z with | ⟨_, _, _, q⟩ => q.elim
  | cont => exact match z with | ⟨_, _, _, q⟩ => q.elim
end
section
variable {X : Cx} {sx : Option Sx} {k : Nat} {f : Addr} {fd : FuncData} {ps : List Str} {sp : Sp} {G : Fn} {x : Str} {p pos : Pos} {e : Expr} {es : List Expr} {xa : XA}
theorem pe_gw (F : FnW X.prog X.w X.K X.mg X.base k f fd ps sp) (hr : Rm k X.A) (hgd : X.A.guards = some []) (hg : Gl X x) (hm : X.mg x = some (.ref f)) (hk : PySem.W.keepIn X.K (.ref f) = true) (hb : Binds X.K fd ps []) {t : TA}
    (ha : PA X (e :: es) t) (hdb : (x == ("__debug__" : Str)) = false) (he : starEach (e :: es) X.env = (false, eval e X.env) :: starEach es X.env) (hpl : (backTo pos (starEach es X.env)).any (·.1) = false) :
    PE X (.Call (.Name x p) (e :: es) [] pos) (fun σ H Q => t σ H fun vs H1 => sp (vs ++ []) H1 Q never) :=
  ⟨fun pins s σ H Q I h => wpAny_Call_Name_kw (ld_glob I hg hm (PySem.W.callWith_K (h₀ := X.base) I.ok.mod.kin hk (thn (ha.run pos pins s σ H _ I h) fun us s1 ⟨vs, H1, I1, r, q⟩ => ⟨I1.kIn, by
    have r2 : Vals (vs ++ []) (us ++ []) := r.append .nil
    refine wpAny_call (codeAny_mono (F.run X.A X.stack s1 H1 ⟨us, []⟩ _ _ Q hr hgd I1.env0 (hb s1 us I1.kIn (r2.length ▸ F.len _ _ _ _ q)) r2 q) fun res s' z => ?_)
    match res, z with
    | .error e, z => exact (cx_never z).elim
    | .ok (.ret u), z => exact I1.after z⟩) he hpl) hdb)⟩
theorem q_callW {n : Nat} (F : FnW X.prog X.w X.K X.mg X.base k f fd ps (spX (gw X) n G)) (hr : Rm k X.A) (hgd : X.A.guards = some []) (hg : Gl X x) (hm : X.mg x = some (.ref f)) (hk : PySem.W.keepIn X.K (.ref f) = true) (hb : Binds X.K fd ps [])
    (ha : QA X ⟨WNo, sx⟩ (e :: es) xa) (hdb : (x == ("__debug__" : Str)) = false := by decide) (he : starEach (e :: es) X.env = (false, eval e X.env) :: starEach es X.env := by rfl) (hpl : (backTo pos (starEach es X.env)).any (·.1) = false := by rfl) :
    QE X ⟨WNo, sx⟩ (.Call (.Name x p) (e :: es) [] pos) (xCall n G xa) := PE.of (pe_gw F hr hgd hg hm hk hb ha hdb he hpl) fun _ _ _ h => callX_of h
end
/-! ### own classes of exceptions: made, raised -/
def spI (K : PySem.W.Frag) (fl : List Str) : Sp := fun vs H Q _ => ∃ (a C : Addr) (ws : List V), vs = .ref a :: ws ∧ ws.length = fl.length ∧ OexC K C ∧ (∀ f ∈ fl, PySem.W.findIn K (.ref C) f = some none) ∧ H a = some (exo a C none) ∧
  ∀ dx, H dx = none → dx ≠ a → Q .non (upd (upd H dx (exd dx (fl.zip ws).reverse)) a (exo a C (some dx)))
/-- what Base.__init__ is, Base an own class over ValueError -/
structure BaseI (K : PySem.W.Frag) (D : Addr) : Prop where
  sp : PySem.W.specialIn K (.ref D) "__getattribute__" = some (some (.builtin "type.__getattribute__"))
  rd : PySem.W.readsIn K D (.type "type") = true
  fi : PySem.W.findCls K (.ref D) (.type "type") "__init__" = some (.val (.builtin "ValueError.__init__"))
section
variable {X : Cx} {B : Str} {D : Addr} {e : Expr} {es : List Expr} {ta : TA} {p1 p2 pos : Pos}
theorem pe_binit {pl : Sem Bool} (hg : Gl X B) (hm : X.mg B = some (.ref D)) (bi : BaseI X.K D) (ha : PA X (e :: es) ta) (hdb : (B == ("__debug__" : Str)) = false)
    (hc : eval (.Call (.Attribute (.Name B p1) "__init__" p2) (e :: es) [] pos) X.env = (do
      let ov ← eval (.Name B p1) X.env
      standAt p2.atName
      let (f, first) ← holding [ov] (getMethod ov "__init__" pl)
      callWith pos f first (backTo pos (starEach (e :: es) X.env)) (backToKw pos (keywordEach [] X.env))))
    (he : starEach (e :: es) X.env = (false, eval e X.env) :: starEach es X.env) (hpl : (backTo pos (starEach es X.env)).any (·.1) = false) :
    PE X (.Call (.Attribute (.Name B p1) "__init__" p2) (e :: es) [] pos) (tVeI X.K ta) := by
  refine ⟨fun pins s σ H Q I h => PySem.W.methodCall_KW (ld_glob I hg hm (PySem.W.method_cls I.kIn bi.sp (PySem.W.cls_value I.kIn bi.rd bi.fi (by decide +kernel) ?_)) hdb) hc⟩
  show wpAny _ _ (callWith pos (Value.builtin "ValueError.__init__") [] (backTo pos (starEach (e :: es) X.env)) []) _ _ _
  refine PyProof.Rows.callWith_method1 (thn (ha.run pos pins _ σ H _ (I.tok _) h) fun us s1 ⟨vs, H1, I1, r1, a, C, ws, ev, hl, T, ea, q⟩ => ?_) he hpl
  subst ev
  cases r1 with
  | @cons _ u0 _ ur ra rw' =>
    cases (show u0 = Value.ref a from ra)
    exact oinit_ok T I1 ea (by rw [← Paired.length rw', sizeLine_eq]; omega) fun s' J => ⟨.non, H1, J, rfl, q⟩
end
section
variable {P : Program} {w : World} {K : PySem.W.Frag} {mg : Str → Option Value} {base : Heap} {x qual B m f g : Str} {params : Arguments} {scope : Scope} {dvs : List V} {kws : List (Str × V)} {fI D : Addr} {fd : FuncData}
variable {p1 p2 p3 p4 p5 p6 p7 p8 p9 q1 q2 q3 q4 : Pos} {j k : Nat}
/-- def __init__(self, f): Base.__init__(self, 'm'); self.f = f -/
theorem init1 (F : FunD K x qual params [.Expr (.Call (.Attribute (.Name B p1) "__init__" p2) [.Name "self" p3, .Constant (.str m) j p4] [] p5) p6, .Assign [.Attribute (.Name "self" p7) f p8] (.Name f p9) q1] scope dvs kws fI fd)
    (S : FnScope ["self", f] ["self", f] scope) (hg : scope.names.lookup B = some .globalImplicit) (hs : scope.names.lookup ("self" : Str) = some .local) (hf : scope.names.lookup f = some .local) (hm : mg B = some (.ref D)) (bi : BaseI K D)
    (db : (B == ("__debug__" : Str)) = false) (df : (f == ("__debug__" : Str)) = false) (dc : (f == ("__classdict__" : Str)) = false)
    (hc : ∀ env : Env, ∃ pl : Sem Bool, eval (.Call (.Attribute (.Name B p1) "__init__" p2) [.Name "self" p3, .Constant (.str m) j p4] [] p5) env = (do
      let ov ← eval (.Name B p1) env
      standAt p2.atName
      let (f, first) ← holding [ov] (getMethod ov "__init__" pl)
      callWith p5 f first (backTo p5 (starEach [.Name "self" p3, .Constant (.str m) j p4] env)) (backToKw p5 (keywordEach [] env)))) : FnOk P w K mg base (L2.CX P w) (k + 1) fI fd ["self", f] (spI K [f]) := by
  refine F.ok S (fun vs H Q E ⟨a, C, ws, e, hl, _⟩ => by rw [e, List.length_cons, hl]; rfl) fun cdv A outer s H vs Q E hr ⟨a, C, ws, e, hl, T, no, ea, q⟩ => ⟨_, pss_cons (ps_expr (pe_binit hg hm bi (pa_cons (pe_var (i := 0) rfl (.inl hs) (by decide) (by decide)) (pa_cons pe_str pa_nil)) db (hc _).choose_spec rfl rfl)) (pss_one (ps_ost (pe_var (i := 0) rfl (.inl hs) (by decide) (by decide)) (pe_var (i := 1) rfl (.inl hf) df dc))), ?_⟩
  subst e
  match ws, hl with
  | [y], _ =>
    exact ⟨_, rfl, a, C, [.str m], rfl, by simp, T, ea, _, rfl, _, rfl, a, C, rfl, T, no f (.head _), .inl ⟨ea, fun dx n ne => q dx n ne⟩⟩
/-- def __init__(self, f, g): Base.__init__(self, 'm'); self.f = f; self.g = g -/
theorem init2 (F : FunD K x qual params [.Expr (.Call (.Attribute (.Name B p1) "__init__" p2) [.Name "self" p3, .Constant (.str m) j p4] [] p5) p6, .Assign [.Attribute (.Name "self" p7) f p8] (.Name f p9) q1, .Assign [.Attribute (.Name "self" q2) g q3] (.Name g q4) q5] scope dvs kws fI fd)
    (S : FnScope ["self", f, g] ["self", f, g] scope) (hg : scope.names.lookup B = some .globalImplicit) (hs : scope.names.lookup ("self" : Str) = some .local) (hf : scope.names.lookup f = some .local) (hf2 : scope.names.lookup g = some .local) (hm : mg B = some (.ref D)) (bi : BaseI K D)
    (db : (B == ("__debug__" : Str)) = false) (df : (f == ("__debug__" : Str)) = false) (dc : (f == ("__classdict__" : Str)) = false) (df2 : (g == ("__debug__" : Str)) = false) (dc2 : (g == ("__classdict__" : Str)) = false)
    (hc : ∀ env : Env, ∃ pl : Sem Bool, eval (.Call (.Attribute (.Name B p1) "__init__" p2) [.Name "self" p3, .Constant (.str m) j p4] [] p5) env = (do
      let ov ← eval (.Name B p1) env
      standAt p2.atName
      let (f, first) ← holding [ov] (getMethod ov "__init__" pl)
      callWith p5 f first (backTo p5 (starEach [.Name "self" p3, .Constant (.str m) j p4] env)) (backToKw p5 (keywordEach [] env)))) : FnOk P w K mg base (L2.CX P w) (k + 1) fI fd ["self", f, g] (spI K [f, g]) := by
  refine F.ok S (fun vs H Q E ⟨a, C, ws, e, hl, _⟩ => by rw [e, List.length_cons, hl]; rfl) fun cdv A outer s H vs Q E hr ⟨a, C, ws, e, hl, T, no, ea, q⟩ => ⟨_, pss_cons (ps_expr (pe_binit hg hm bi (pa_cons (pe_var (i := 0) rfl (.inl hs) (by decide) (by decide)) (pa_cons pe_str pa_nil)) db (hc _).choose_spec rfl rfl)) (pss_cons (ps_ost (pe_var (i := 0) rfl (.inl hs) (by decide) (by decide)) (pe_var (i := 1) rfl (.inl hf) df dc)) (pss_one (ps_ost (pe_var (i := 0) rfl (.inl hs) (by decide) (by decide)) (pe_var (i := 2) rfl (.inl hf2) df2 dc2)))), ?_⟩
  subst e
  match ws, hl with
  | [y, z], _ =>
    refine ⟨_, rfl, a, C, [.str m], rfl, by simp, T, ea, _, rfl, _, rfl, a, C, rfl, T, no f (.head _), .inl ⟨ea, fun dx n ne => ⟨_, rfl, _, rfl, a, C, rfl, T, no g (.tail _ (.head _)), .inr ⟨dx, [(f, y)], upd_same, by rw [upd_ne ne]; exact upd_same, by simp, ?_⟩⟩⟩⟩
    have e : upd (upd (upd H dx (exd dx [(f, y)])) a (exo a C (some dx))) dx (exd dx [(g, z), (f, y)]) = upd (upd H dx (exd dx [(g, z), (f, y)])) a (exo a C (some dx)) := by
      funext b
      by_cases h1 : b = dx
      · subst h1; rw [upd_same, upd_ne ne, upd_same]
      · rw [upd_ne h1]
        by_cases h2 : b = a
        · subst h2; rw [upd_same, upd_same]
        · rw [upd_ne h2, upd_ne h2, upd_ne h1, upd_ne h1]
    rw [e]
    exact q dx n ne
end
def sRaise (c : Str) (fl : List Str) (xa : XA) : XS := fun e h => match xa e h with
  | .ok vs h1 => if vs.length = fl.length ∧ vs.length ≤ 1000 then .exc c (fl.zip vs).reverse e h1 else .stuck
  | .exc c fs h1 => .exc c fs e h1
  | .stuck => .stuck
theorem repF_zip {K : Gw} {ρ : List Addr} {H : Hp} : ∀ {fl : List Str} {xs : List Val} {vs : List V}, RepL K ρ H xs vs → RepF K ρ H (fl.zip xs) (fl.zip vs)
  | [], _, _, _ => .nil
  | _ :: _, _, _, .nil => .nil
  | _ :: _, _, _, .cons r t => .cons ⟨rfl, r⟩ (repF_zip t)
theorem repF_reverse {κ : Type} {K : Gw} {ρ : List Addr} {H : Hp} {xs : List (κ × Val)} {vs : List (κ × V)} (h : RepF K ρ H xs vs) : RepF K ρ H xs.reverse vs.reverse := by
  induction xs generalizing vs with
  | nil => cases h; exact .nil
  | cons x xs ih =>
    cases h with
    | cons r t =>
      rw [List.reverse_cons, List.reverse_cons]
      exact (ih t).append (.cons r .nil)
section
variable {X : Cx} {W : Wd} {e : Expr} {es : List Expr} {xa : XA} {x : Str} {fl : List Str} {C fI : Addr} {fd : FuncData} {ps : List Str} {k : Nat} {p pos rpos : Pos}
theorem raise_of {K : Gw} (hm : K.mg x = some (.ref C)) (T : OexC K.K C) (no : ∀ f ∈ fl, PySem.W.findIn K.K (.ref C) f = some none) {D : Ends} {σ : St} {H : Hp} (h : tXS K W (sRaise x fl xa) D σ H) : tMkO C (spI K.K fl) [] (tXA K W xa) σ H fun cls d H' => W.w cls d σ H' := by
  obtain ⟨ρ, env, h, S, E, q⟩ := h
  refine ⟨ρ, env, h, S, E, (afterA (f := fun vs h1 => if vs.length = fl.length ∧ vs.length ≤ 1000 then .exc x (fl.zip vs).reverse env h1 else .stuck) E q).imp fun vs h1 ρ1 H1 g1 S1 q1 us rs => ?_⟩
  by_cases hl : vs.length = fl.length ∧ vs.length ≤ 1000
  · rw [if_pos hl] at q1
    refine ⟨by rw [← rs.length]; exact hl.2, fun a na => ⟨a, C, us ++ [], rfl, by rw [List.append_nil, ← rs.length]; exact hl.1, T, no, upd_same, fun dx nx ne => ?_⟩⟩
    rw [List.append_nil]
    have nd : H1 dx = none := by rw [upd_ne ne] at nx; exact nx
    refine ⟨rfl, dx, _, upd_same, by rw [upd_ne ne]; exact upd_same, nd, ?_⟩
    have e : upd (del (upd (upd (upd H1 a (exo a C none)) dx (exd dx (fl.zip us).reverse)) a (exo a C (some dx))) a) dx (.xd (fl.zip us).reverse) = upd H1 dx (.xd (fl.zip us).reverse) := by
      funext b
      by_cases h1 : b = dx
      · subst h1; rw [upd_same, upd_same]
      · rw [upd_ne h1, upd_ne h1]
        by_cases h2 : b = a
        · subst h2; rw [del_same, na]
        · rw [del_ne h2, upd_ne h2, upd_ne h1, upd_ne h2]
    rw [e]
    have g := Grow.new (ρ := ρ1) (o := .xd (fl.zip us).reverse) nd
    exact q1 ρ1 _ (some dx) σ (.ref C) g (S1.new nd) ((E.mono g1).mono g) ⟨_, upd_same, (repF_reverse (repF_zip rs)).mono g⟩ hm
  · rw [if_neg hl] at q1
    exact q1.elim
theorem qs_raise (hc : X.calm = true) (tk : Takes X W.w) (T : OexC X.K C) (no : ∀ f ∈ fl, PySem.W.findIn X.K (.ref C) f = some none) (iC : PySem.W.findIn X.K (.ref C) "__init__" = some (some (.ref fI))) (tI : PySem.W.typeIn X.K (.ref fI) = some (.type "function"))
    (F1 : FnOk X.prog X.w X.K X.mg X.base (L2.CX X.prog X.w) k fI fd ps (spI X.K fl)) (hr : Room (k + 1) X.A) (hb : Binds X.K fd ps []) (hg : Gl X x) (hm : X.mg x = some (.ref C)) (ha : QA X W (e :: es) xa)
    (hdb : (x == ("__debug__" : Str)) = false := by decide) (he : starEach (e :: es) X.env = (false, eval e X.env) :: starEach es X.env := by rfl) (hpl : (backTo pos (starEach es X.env)).any (·.1) = false := by rfl) :
    QS X W (.Raise (some (.Call (.Name x p) (e :: es) [] pos)) none rpos) (sRaise x fl xa) :=
  PS.of (ps_raise hc tk (pmk_oex T iC tI F1 hr hb .nil (passes_call tk fun _ _ _ _ z => z.elim) hg hm ha hdb he hpl)) fun _ _ _ => raise_of hm T no
end
end EX

set_option Elab.async false
set_option linter.all false
set_option maxRecDepth 100000
set_option maxHeartbeats 1000000
namespace EX
open PySem PySem.Spec L2 He
open PyProof.Rows hiding St
/-! ### what a head tells: facts of the written part as truths -/
theorem mem_lookup {α β : Type} [BEq α] [LawfulBEq α] {a : α} {b : β} : ∀ {l : List (α × β)}, l.lookup a = some b → (a, b) ∈ l
  | [], h => by cases h
  | (c, d) :: r, h => by
    by_cases e : a = c
    · subst e
      rw [List.lookup_cons_self] at h
      cases h
      exact .head _
    · have e2 : (a == c) = false := by simpa using e
      rw [List.lookup, e2] at h
      exact .tail _ (mem_lookup h)
def smB (K : PySem.W.Frag) : Bool := match K.lookup sysModules with
  | some o => (match o.data with
    | .dict _ _ => true
    | _ => false)
  | none => false
theorem smB_ok {K : PySem.W.Frag} (h : smB K = true) : SmIn K := by
  unfold smB at h
  cases e : K.lookup sysModules with
  | none => rw [e] at h; cases h
  | some o =>
    rw [e] at h
    cases d : o.data with
    | dict es n => exact ⟨o, es, n, e, d⟩
    | _ => simp only [d] at h; cases h
def isB (K : PySem.W.Frag) (C : Addr) : Bool := (PySem.W.clsIn K C).isSome && (eqO (PySem.W.findIn K (.ref C) "__class__") (some (some (.builtin "object.__class__"))) && (eqO (PySem.W.specialIn K (.builtin "object.__class__") "__get__") (some (some (.builtin "getset_descriptor.__get__"))) &&
  (decide (PySem.W.takesIn K (.builtin "object.__class__") = some true) && decide (PySem.W.mroIn K C (.type "object") = some true))))
theorem isB_ok {K : PySem.W.Frag} {C : Addr} (h : isB K C = true) : IsC K C := by
  obtain ⟨h1, h⟩ := ba h
  obtain ⟨h2, h⟩ := ba h
  obtain ⟨h3, h⟩ := ba h
  obtain ⟨h4, h5⟩ := ba h
  exact ⟨h1, eqO_ok h2, eqO_ok h3, of_decide_eq_true h4, of_decide_eq_true h5⟩
/-- own classes ct, names asked for: own ones ds, built-in ones db; fields fl -/
def ctB (K : PySem.W.Frag) (ct : Ct) (ds : List Str) (db : List (Str × String)) (fl : List Str) : Bool := ct.all fun p => xfB K (ga K p.1) && (isB K (ga K p.1) && ((fl.all fun f => eqO (PySem.W.findIn K (.ref (ga K p.1)) f) (some none)) &&
  ((ds.all fun d => decide (PySem.W.exmOne K (.ref (ga K p.1)) (.ref (ga K d)) = some (p.2.contains d)) && decide (PySem.W.kitOne K (.ref (ga K p.1)) (.ref (ga K d)) = some (p.2.contains d))) &&
    db.all fun d => decide (PySem.W.exmOne K (.ref (ga K p.1)) (.type d.2) = some (p.2.contains d.1)) && decide (PySem.W.kitOne K (.ref (ga K p.1)) (.type d.2) = some (p.2.contains d.1)))))
theorem ctB_ok {K : PySem.W.Frag} {mg : Str → Option Value} {ct : Ct} {ds : List Str} {db : List (Str × String)} {fl : List Str} (h : ctB K ct ds db fl = true) (hc : ∀ p ∈ ct, mg p.1 = some (.ref (ga K p.1))) (hd : ∀ d ∈ ds, mg d = some (.ref (ga K d)))
    (hb : ∀ d ∈ db, mg d.1 = none ∧ bootBuiltins d.1 = some (.type d.2)) : CtOk K mg ct (ds ++ db.map (·.1)) fl := by
  refine ⟨fun c l e => ?_⟩
  have m := mem_lookup e
  obtain ⟨h1, h2⟩ := ba (List.all_eq_true.mp h _ m)
  obtain ⟨h2, h3⟩ := ba h2
  obtain ⟨h3, h4⟩ := ba h3
  obtain ⟨h4, h5⟩ := ba h4
  refine ⟨ga K c, hc _ m, xfB_ok h1, isB_ok h2, fun f hf => eqO_ok (List.all_eq_true.mp h3 f hf), fun d md dv nv => ?_⟩
  rcases List.mem_append.mp md with md | md
  · obtain ⟨z1, z2⟩ := ba (List.all_eq_true.mp h4 d md)
    have e2 := hd d md
    rcases nv with n | ⟨n, _⟩
    · rw [e2] at n
      cases n
      exact ⟨of_decide_eq_true z1, of_decide_eq_true z2⟩
    · rw [e2] at n; cases n
  · obtain ⟨q, mq, eq⟩ := List.mem_map.mp md
    subst eq
    obtain ⟨z1, z2⟩ := ba (List.all_eq_true.mp h5 q mq)
    obtain ⟨n1, n2⟩ := hb q mq
    rcases nv with n | ⟨_, n⟩
    · rw [n1] at n; cases n
    · rw [n2] at n
      cases n
      exact ⟨of_decide_eq_true z1, of_decide_eq_true z2⟩
def baseB (K : PySem.W.Frag) (D : Addr) : Bool := eqO (PySem.W.specialIn K (.ref D) "__getattribute__") (some (some (.builtin "type.__getattribute__"))) && (PySem.W.readsIn K D (.type "type") && (match PySem.W.findCls K (.ref D) (.type "type") "__init__" with
  | some (.val v) => decide (v = .builtin "ValueError.__init__")
  | _ => false))
theorem baseB_ok {K : PySem.W.Frag} {D : Addr} (h : baseB K D = true) : BaseI K D := by
  obtain ⟨h1, h⟩ := ba h
  obtain ⟨h2, h3⟩ := ba h
  refine ⟨eqO_ok h1, h2, ?_⟩
  cases e : PySem.W.findCls K (.ref D) (.type "type") "__init__" with
  | none => rw [e] at h3; cases h3
  | some r =>
    cases r with
    | val v =>
      rw [e] at h3
      rw [of_decide_eq_true h3]
    | get a b c d => rw [e] at h3; cases h3
/-- a class over ValueError with an own __init__ -/
def oexB (K : PySem.W.Frag) (C : Addr) : Bool := (match K.lookup C with
  | some ⟨.type t, _, .cls cd, sl⟩ => decide (t = "type") && (!cd.hasDel && (cd.hasDict && ((match cd.mro with
    | .ref C' :: bm => decide (C' = C) && PySem.HandSPX.refsVE bm
    | _ => false) && (match sl.toList with
    | [_, _, _, _, some (.builtin n), _] => decide (n = "ValueError.__new__")
    | _ => false))))
  | _ => false) && (eqO (PySem.W.findIn K (.ref C) "__setattr__") (some (some (.builtin "object.__setattr__"))) && (decide (PySem.W.subIn K (.ref C) (.type "BaseException") = some true) && (decide (PySem.W.typeIn K (.ref C) = some (.type "type")) && PySem.W.keepIn K (.ref C))))
theorem oexB_ok {K : PySem.W.Frag} {C : Addr} (h : oexB K C = true) : OexC K C := by
  obtain ⟨h0, h⟩ := ba h
  obtain ⟨h1, h⟩ := ba h
  obtain ⟨h2, h⟩ := ba h
  obtain ⟨h3, h4⟩ := ba h
  refine ⟨?_, eqO_ok h1, of_decide_eq_true h2, of_decide_eq_true h3, h4⟩
  split at h0
  · rename_i t dd cd sl ho
    obtain ⟨z1, z⟩ := ba h0
    obtain ⟨z2, z⟩ := ba z
    obtain ⟨z3, z⟩ := ba z
    obtain ⟨z4, z5⟩ := ba z
    have e1 : t = "type" := of_decide_eq_true z1
    subst e1
    split at z4
    · rename_i C' bm hm
      obtain ⟨y1, y2⟩ := ba z4
      have e2 : C' = C := of_decide_eq_true y1
      subst e2
      split at z5
      · rename_i k0 k1 k2 k3 n k5 hs
        have e3 : n = "ValueError.__new__" := of_decide_eq_true z5
        subst e3
        obtain ⟨nm, bs, mro, ns, qn, hd, sn, sub, ab, col, del⟩ := cd
        dsimp only at hm z2 z3
        subst hm z3
        have e4 : del = false := by cases del <;> first | rfl | cases z2
        subst e4
        obtain ⟨l⟩ := sl
        dsimp only at hs
        subst hs
        exact ⟨nm, qn, ns, bs, bm, sn, sub, ab, col, dd, k0, k1, k2, k3, k5, ho, y2⟩
      · cases z5
    · cases z4
  · cases h0
/-- all that a raise of the class x asks -/
structure ClsF (K : PySem.W.Frag) (x : Str) (fl : List Str) : Prop where
  oex : OexC K (ga K x)
  no : ∀ f ∈ fl, PySem.W.findIn K (.ref (ga K x)) f = some none
  iC : PySem.W.findIn K (.ref (ga K x)) "__init__" = some (some (.ref (ma K (ga K x) "__init__")))
  tI : PySem.W.typeIn K (.ref (ma K (ga K x) "__init__")) = some (.type "function")
def clsFB (K : PySem.W.Frag) (x : Str) (fl : List Str) : Bool := oexB K (ga K x) && ((fl.all fun f => eqO (PySem.W.findIn K (.ref (ga K x)) f) (some none)) && (eqO (PySem.W.findIn K (.ref (ga K x)) "__init__") (some (some (.ref (ma K (ga K x) "__init__")))) &&
  decide (PySem.W.typeIn K (.ref (ma K (ga K x) "__init__")) = some (.type "function"))))
theorem clsFB_ok {K : PySem.W.Frag} {x : Str} {fl : List Str} (h : clsFB K x fl = true) : ClsF K x fl := by
  obtain ⟨h1, h⟩ := ba h
  obtain ⟨h2, h⟩ := ba h
  obtain ⟨h3, h4⟩ := ba h
  exact ⟨oexB_ok h1, fun f hf => eqO_ok (List.all_eq_true.mp h2 f hf), eqO_ok h3, of_decide_eq_true h4⟩
/-! ### the hook: what the module's names reach, and two tables of the machine -/
abbrev seeds (g : Addr → Option Obj) (n : Nat) : List Addr := asD g n ++ [cStatics, sysModules]
def obsE (n : Nat) (fa : List Fa) (fn : List DefD) (ex : PySem.W.Frag → Bool) (g : Addr → Option Obj) : AlD × Bool := (obsD fa fn (frT g (seeds g n)), ex (frT g (seeds g n)))
def hookE (n : Nat) (fa : List Fa) (fn : List DefD) (ex : PySem.W.Frag → Bool) : PySem.W.Hook where
  α := AlD × Bool
  obs := fun s => obsE n fa fn ex s.heap.get?
  val := fun _ => (valD fn, true)
  says := fun _ h => ∃ K : PySem.W.Frag, K.In h ∧ SaysD fa fn K ∧ ex K = true
  of := fun _ _ e => ⟨_, frT_in, congrArg Prod.fst e, congrArg Prod.snd e⟩
  keeps := fun _ _ _ ⟨K, hK, c⟩ k => ⟨K, PySem.W.Frag.In.keeps hK k, c⟩
theorem obsE_eq {n : Nat} {fa : List Fa} {fn : List DefD} {ex : PySem.W.Frag → Bool} {g : Addr → Option Obj} {s : Shared} (h : ∀ a, g a = s.heap.get? a) : obsE n fa fn ex g = (hookE n fa fn ex).obs s := by
  have e : g = s.heap.get? := funext h
  rw [e] <;> rfl
end EX

set_option Elab.async false
set_option linter.all false
set_option maxRecDepth 100000
set_option maxHeartbeats 1000000
namespace EX
open PySem L2
/-! ### dicts: in, d[k]; tables of the module with text keys -/
abbrev GT := List (Str × List (Str × Val))
def valX (kvs : List (Key × Val)) (k : Key) : Option Val := (kvs.find? fun kv => decide (kv.1 = k)).map (·.2)
def vIn2 (G : GT) (a b : Val) (h : Hh) : Option Bool := match b with
  | .ref x => (match a, G.lookup x with
    | .str z, some kvs => some (kvs.lookup z).isSome
    | _, _ => none)
  | .loc n => (match h[n]? with
    | some (.dct _ kvs) => (match keyOf a with
      | some k => some (valX kvs k).isSome
      | none => none)
    | _ => vIn a b h)
  | _ => vIn a b h
def oIn2 (G : GT) : Op2 := fun a b h => (vIn2 G a b h).map fun r => (.bl r, h)
def oNotIn2 (G : GT) : Op2 := fun a b h => (vIn2 G a b h).map fun r => (.bl (!r), h)
def oIx2 (G : GT) : Op2 := fun a b h => match a with
  | .ref x => (match b, G.lookup x with
    | .str z, some kvs => (kvs.lookup z).map fun v => (v, h)
    | _, _ => none)
  | .loc n => (match h[n]? with
    | some (.dct _ kvs) => (match keyOf b with
      | some k => (valX kvs k).map fun v => (v, h)
      | none => none)
    | _ => oIx a b h)
  | _ => oIx a b h
def GTb (K : PySem.W.Frag) (mg : Str → Option Value) (w : World) (x : Str) (kvs : List (Str × Val)) : Prop :=
  ∃ a es n, mg x = some (.ref a) ∧ KDict K w a es n ∧ ∀ z, match kvs.lookup z with
    | some v => flatX v = true ∧ ∃ u, PySem.W.nsIn K a z = some (some u) ∧ RelV (flatV2 v) u
    | none => PySem.W.nsIn K a z = some none
def GtOk (K : PySem.W.Frag) (mg : Str → Option Value) (w : World) (G : GT) : Prop := ∀ x kvs, G.lookup x = some kvs → GTb K mg w x kvs
section
variable {X : Cx}
theorem rep_flat {K : Gw} {ρ : List Addr} {H : Hp} {v : Val} (h : flatX v = true) : Rep K ρ H v (flatV2 v) := by
  cases v <;> first | exact .non | exact .bl _ | exact .int _ | exact .str _ | cases h
theorem key_rep {K : Gw} {ρ : List Addr} {H : Hp} {a : Val} {x : V} {k : Key} (r : Rep K ρ H a x) (e : keyOf a = some k) : x = kV k := by
  cases r <;> first | (cases e; rfl) | cases e
theorem val_rep {K : Gw} {ρ : List Addr} {H : Hp} {k : Key} : ∀ {xs : List (Key × Val)} {vs : List (Key × V)}, RepF K ρ H xs vs → (∀ v, valX xs k = some v → ∃ u, valV vs k = some u ∧ Rep K ρ H v u) ∧ (valX xs k = none → valV vs k = none)
  | _, _, .nil => ⟨(fun v e => by cases e), (fun _ => rfl)⟩
  | _, _, @Paired.cons _ _ _ p q xs vs a t => by
    obtain ⟨p1, p2⟩ := p
    obtain ⟨q1, q2⟩ := q
    obtain ⟨e0, r0⟩ := a
    dsimp only at e0 r0
    subst e0
    obtain ⟨i1, i2⟩ := val_rep (k := k) t
    by_cases hk : p1 = k
    · refine ⟨fun v e => ?_, fun e => ?_⟩
      · have : valX ((p1, p2) :: xs) k = some p2 := by simp [valX, List.find?_cons, hk]
        rw [this] at e
        cases e
        exact ⟨q2, by simp [valV, List.find?_cons, hk], r0⟩
      · have : valX ((p1, p2) :: xs) k = some p2 := by simp [valX, List.find?_cons, hk]
        rw [this] at e
        cases e
    · have e1 : valX ((p1, p2) :: xs) k = valX xs k := by simp [valX, List.find?_cons, hk]
      have e2 : valV ((p1, q2) :: vs) k = valV vs k := by simp [valV, List.find?_cons, hk]
      rw [e1, e2]
      exact ⟨i1, i2⟩
theorem op_in2_x {G : GT} (hG : GtOk X.K X.mg X.w G) (hu : X.A.units + 64 < cLine) : OpR X (compareOp .In) (rS2 (gw X) (oIn2 G)) := by
  intro pins s σ H x y v u Q I rx ry ⟨ρ, h, a, b, z, h', S, ra, rb, e, k⟩
  have old : oIn a b h = some (z, h') → _ := fun e => op_in_x pins s σ H x y v u Q I rx ry ⟨ρ, h, a, b, z, h', S, ra, rb, e, k⟩
  obtain ⟨r, e1, e2⟩ := Option.map_eq_some_iff.mp e
  cases e2
  have fin : Q (.bl r) H := k ρ H _ (Grow.refl _ _) S (.bl _)
  have old2 : vIn a b h = some r → _ := fun e3 => old (by simp only [oIn, e3, Option.map_some])
  cases b with
  | ref n =>
    cases rb with
    | @ref _ ad hm =>
      simp only [vIn2] at e1
      split at e1
      · rename_i t kvs el
        cases e1
        cases ra
        obtain ⟨ad', es, m, hm', D, hz⟩ := hG n kvs el
        have : (gw X).mg n = some (.ref ad) := hm
        have e5 : Value.ref ad = Value.ref ad' := Option.some.inj (this.symm.trans hm')
        cases e5
        have hz := hz t
        cases ek : kvs.lookup t with
        | none =>
          rw [ek] at hz fin
          exact op_in_kd D pins s σ H _ _ v u Q I rx ry ⟨t, none, rfl, rfl, hz, fin⟩
        | some w =>
          rw [ek] at hz fin
          obtain ⟨_, u0, hn, _⟩ := hz
          exact op_in_kd D pins s σ H _ _ v u Q I rx ry ⟨t, some u0, rfl, rfl, hn, fin⟩
      · cases e1
  | loc n =>
    simp only [vIn2] at e1
    split at e1
    · rename_i lk kvs eh
      split at e1
      · rename_i key ek
        cases e1
        cases rb with
        | @loc _ ad ea =>
          obtain ⟨vs, q1, r1⟩ := S.dctR ea eh
          have exk := key_rep ra ek
          subst exk
          obtain rfl : u = Value.ref ad := ry
          have g := (show DGet H _ (kV key) (valV vs key) from .inl ⟨vs, key, q1, rfl, rfl⟩)
          have en : (valV vs key).isSome = (valX kvs key).isSome := by
            cases ev : valX kvs key with
            | none => rw [(val_rep r1).2 ev]; rfl
            | some w => obtain ⟨u1, e6, _⟩ := (val_rep r1).1 w ev; rw [e6]; rfl
          exact d_in (A := X.A) (by omega) I g rx fun s3 I3 => ⟨.bl (valV vs key).isSome, H, I3, rfl, by rw [en]; exact fin⟩
      · cases e1
    · exact old2 e1
  | _ => exact old2 e1
theorem op_notIn2_x {G : GT} (hG : GtOk X.K X.mg X.w G) (hu : X.A.units + 64 < cLine) : OpR X (compareOp .NotIn) (rS2 (gw X) (oNotIn2 G)) := by
  intro pins s σ H x y v u Q I rx ry ⟨ρ, h, a, b, z, h', S, ra, rb, e, k⟩
  have old : oNotIn a b h = some (z, h') → _ := fun e => op_notIn_x pins s σ H x y v u Q I rx ry ⟨ρ, h, a, b, z, h', S, ra, rb, e, k⟩
  obtain ⟨r, e1, e2⟩ := Option.map_eq_some_iff.mp e
  cases e2
  have fin : Q (.bl (!r)) H := k ρ H _ (Grow.refl _ _) S (.bl _)
  have old2 : vIn a b h = some r → _ := fun e3 => old (by simp only [oNotIn, e3, Option.map_some])
  cases b with
  | ref n =>
    cases rb with
    | @ref _ ad hm =>
      simp only [vIn2] at e1
      split at e1
      · rename_i t kvs el
        cases e1
        cases ra
        obtain ⟨ad', es, m, hm', D, hz⟩ := hG n kvs el
        have : (gw X).mg n = some (.ref ad) := hm
        have e5 : Value.ref ad = Value.ref ad' := Option.some.inj (this.symm.trans hm')
        cases e5
        have hz := hz t
        cases ek : kvs.lookup t with
        | none =>
          rw [ek] at hz fin
          exact op_notIn_kd D pins s σ H _ _ v u Q I rx ry ⟨t, none, rfl, rfl, hz, fin⟩
        | some w =>
          rw [ek] at hz fin
          obtain ⟨_, u0, hn, _⟩ := hz
          exact op_notIn_kd D pins s σ H _ _ v u Q I rx ry ⟨t, some u0, rfl, rfl, hn, fin⟩
      · cases e1
  | loc n =>
    simp only [vIn2] at e1
    split at e1
    · rename_i lk kvs eh
      split at e1
      · rename_i key ek
        cases e1
        cases rb with
        | @loc _ ad ea =>
          obtain ⟨vs, q1, r1⟩ := S.dctR ea eh
          have exk := key_rep ra ek
          subst exk
          obtain rfl : u = Value.ref ad := ry
          have g := (show DGet H _ (kV key) (valV vs key) from .inl ⟨vs, key, q1, rfl, rfl⟩)
          have en : (valV vs key).isSome = (valX kvs key).isSome := by
            cases ev : valX kvs key with
            | none => rw [(val_rep r1).2 ev]; rfl
            | some w => obtain ⟨u1, e6, _⟩ := (val_rep r1).1 w ev; rw [e6]; rfl
          exact d_notIn (A := X.A) (by omega) I g rx fun s3 I3 => ⟨.bl (!(valV vs key).isSome), H, I3, rfl, by rw [en]; exact fin⟩
      · cases e1
    · exact old2 e1
  | _ => exact old2 e1
theorem ix2_x {G : GT} (hG : GtOk X.K X.mg X.w G) (hu : X.A.units + 64 < cLine) : IxR X (rS2 (gw X) (oIx2 G)) := by
  intro value slice pins s σ H x y v u Q I rx ry ⟨ρ, h, a, b, z, h', S, ra, rb, e, k⟩ hs
  have old : oIx a b h = some (z, h') → _ := fun e => ix_x value slice pins s σ H x y v u Q I rx ry ⟨ρ, h, a, b, z, h', S, ra, rb, e, k⟩ hs
  cases a with
  | ref n =>
    cases ra with
    | @ref _ ad hm =>
      simp only [oIx2] at e
      split at e
      · rename_i t kvs el
        obtain ⟨wv, ew, e2⟩ := Option.map_eq_some_iff.mp e
        obtain ⟨rfl, rfl⟩ := Prod.mk.inj e2
        cases rb
        obtain ⟨ad', es, m, hm', D, hz⟩ := hG n kvs el
        have : (gw X).mg n = some (.ref ad) := hm
        have e5 : Value.ref ad = Value.ref ad' := Option.some.inj (this.symm.trans hm')
        cases e5
        have hz := hz t
        rw [ew] at hz
        obtain ⟨hf, u0, hn, ru⟩ := hz
        exact ix_kdict value slice pins s σ H _ _ v u Q I rx ry ⟨ad, t, flatV2 wv, rfl, rfl, ⟨es, m, u0, D.at_, D.lit, hn, ru⟩, k ρ H _ (Grow.refl _ _) S (rep_flat hf)⟩ hs
      · cases e
  | loc n =>
    simp only [oIx2] at e
    split at e
    · rename_i lk kvs eh
      split at e
      · rename_i key ek
        obtain ⟨wv, ew, e2⟩ := Option.map_eq_some_iff.mp e
        obtain ⟨rfl, rfl⟩ := Prod.mk.inj e2
        cases ra with
        | @loc _ ad ea =>
          obtain ⟨vs, q1, r1⟩ := S.dctR ea eh
          have exk := key_rep rb ek
          subst exk
          obtain rfl : v = Value.ref ad := rx
          obtain ⟨u1, e6, ru⟩ := (val_rep r1).1 wv ew
          have g := (show DGet H _ (kV key) (valV vs key) from .inl ⟨vs, key, q1, rfl, rfl⟩)
          rw [e6] at g
          exact PyProof.Rows.tail_any (dict_typeIs I g) PySem.F.slot_dict_getitem.lookup (d_getItem (A := X.A) (by omega) I g ry fun w' s3 I3 rw' => ⟨u1, H, I3, rw', k ρ H _ (Grow.refl _ _) S ru⟩) hs
      · cases e
    · exact old e
  | _ => exact old e
/-- a table of the module, as a value -/
theorem q_gref {W : Wd} {x : Str} {pos : Pos} (hg : Gl X x) {a : Addr} (hm : X.mg x = some (.ref a)) (hd : (x == ("__debug__" : Str)) = false := by decide) : QE X W (.Name x pos) (xC (.ref x)) :=
  q_c (pe_glob (v := .ref a) hg hm rfl hd) fun ρ H => .ref hm
theorem q_gtab {W : Wd} {x : Str} {pos : Pos} {kvs : List (Str × Val)} (hg : Gl X x) (hm : GTb X.K X.mg X.w x kvs) (hd : (x == ("__debug__" : Str)) = false := by decide) : QE X W (.Name x pos) (xC (.ref x)) := by
  obtain ⟨a, _, _, hm, _⟩ := hm
  exact q_gref hg hm hd
end
end EX

set_option Elab.async false
set_option linter.all false
set_option maxRecDepth 100000
set_option maxHeartbeats 3200000
namespace EX
open PySem PySem.Spec L2
/-! ### len(set(x)): how many unlike keys -/
def hasK (l : List Key) (k : Key) : Bool := l.any fun j => decide (j = k)
def stepK (l : List Key) (k : Key) : List Key := if hasK l k = true then l else l ++ [k]
def metK (ks : List Key) : List Key := ks.foldl stepK []
theorem metK_snoc (ks : List Key) (k : Key) : metK (ks ++ [k]) = stepK (metK ks) k := by
  unfold metK; rw [List.foldl_append]; rfl
theorem stepK_len (l : List Key) (k : Key) : (stepK l k).length = if hasK l k = true then l.length else l.length + 1 := by
  unfold stepK; split <;> simp
theorem foldK_len : ∀ (ks l : List Key), (ks.foldl stepK l).length ≤ l.length + ks.length
  | [], l => Nat.le_refl _
  | k :: ks, l => by
    rw [List.foldl_cons]
    refine Nat.le_trans (foldK_len ks _) ?_
    rw [stepK_len, List.length_cons]
    split <;> omega
theorem metK_len (ks : List Key) : (metK ks).length ≤ ks.length := by
  have := foldK_len ks []
  simpa [metK] using this
theorem hasK_step {l : List Key} {k j : Key} : hasK (stepK l k) j = (hasK l j || decide (j = k)) := by
  unfold stepK
  split
  · rename_i h
    by_cases e : j = k
    · subst e; rw [h]; rfl
    · rw [decide_eq_false e, Bool.or_false]
  · unfold hasK
    rw [List.any_append, List.any_cons, List.any_nil, Bool.or_false]
    congr 1
    by_cases e : j = k
    · rw [decide_eq_true e, decide_eq_true e.symm]
    · rw [decide_eq_false e, decide_eq_false (Ne.symm e)]
section
variable {prog : Program} {w : World} {A : Around} {R : Result → Shared → Prop} {I : Addr} {fp wr : List Addr} {G : Array GenState → Array GenState → Prop} {n : Nat} {P : Nat → Value → Prop} {St : Nat → Shared → Prop}
/-- the set of the first ones of ks -/
def SetTo (prog : Program) (w : World) (h : Heap) (S : Addr) (ks : List Key) : Prop := h.SetOf (mixKind prog w) S (hasK (metK ks)) (metK ks).length
theorem SetTo.kept {h h' : Heap} {S : Addr} {ks : List Key} (x : SetTo prog w h S ks) (k : ∀ o, h.get? S = some o → h'.get? S = some o) : SetTo prog w h' S ks := by
  obtain ⟨o, es, ep, t, ho, rest⟩ := x
  exact ⟨o, es, ep, t, k _ ho, rest⟩
theorem upd_keys (W : WalksS prog w A.in1 I fp wr G n P St) (S : Addr) (hS : S ∉ fp) (ks : List Key) (hn : ks.length = n) (hv : ∀ i v k, P i v → ks[i]? = some k → keyIs k v = true) (hb : n + 1 < scanBound) :
    ∀ (m i : Nat) (s : Shared), n - i = m → i ≤ n → St i s → SetTo prog w s.heap S (ks.take i) → (∀ s', Moved (S :: wr) G s s' → SetTo prog w s'.heap S ks → R (.ok (.ret .none)) s') →
      codeAny (model prog w) A (.builtin "set.update.loop" ⟨[.ref S, .ref I], []⟩) R s := by
  have hw : S ∉ wr := fun z => hS (W.sub _ z)
  have up : ∀ b ∈ wr, b ∈ S :: wr := fun b z => .tail _ z
  intro m
  induction m with
  | zero =>
    intro i s hm hi st q fin
    obtain rfl : i = n := by omega
    refine codeAny_builtin PyProof.Rows.F.entry_set_update_loop ?_; rw [Around.under_plainId PyProof.Rows.F.plain_set_update_loop _]
    show wpAny _ A.in1 (pyNext (.ref I) >>= _) _ _ s
    refine wpAny_bind (W.done s _ _ st fun s' mv => ?_)
    show wpAny _ A.in1 (ret Value.none) _ _ s'
    refine wpAny_pure (fin s' (mv.mono up) ?_)
    rw [← hn, List.take_length] at q
    exact q.kept fun o e => mv.heap S _ hw e
  | succ m ih =>
    intro i s hm hi st q fin
    have lt : i < n := by omega
    have lk : i < ks.length := by omega
    refine codeAny_builtin PyProof.Rows.F.entry_set_update_loop ?_; rw [Around.under_plainId PyProof.Rows.F.plain_set_update_loop _]
    show wpAny _ A.in1 (pyNext (.ref I) >>= _) _ _ s
    refine wpAny_bind (W.item i s _ _ lt st fun v s' hP st' mv => ?_)
    have kv := hv i v ks[i] hP (List.getElem?_eq_getElem lk)
    have q' : SetTo prog w s'.heap S (ks.take i) := q.kept fun o e => mv.heap S _ hw e
    have sc : v.scannable = true := by
      rcases keyIs_shape kv with ⟨j, t, _, rfl⟩ | ⟨x, t, _, rfl⟩ <;> rfl
    show wpAny _ A.in1 (holding [v] (setAdd S v) >>= _) _ _ s'
    refine wpAny_bind (wpAny_holding ?_)
    unfold setAdd
    refine wpAny_holding (wpAny_bind ((mixKind prog w).pyHash (k := ks[i]) kv ?_))
    have room : (metK (ks.take i)).length + 1 < scanBound := by
      have h1 := metK_len (ks.take i)
      rw [List.length_take] at h1
      omega
    refine wpAny_setAddHashed_of (knd := mixKind prog w) (s := { s' with toks := s'.toks + 1 }) kv sc q' room fun h' sb q2 => ?_
    have tk : ks.take (i + 1) = ks.take i ++ [ks[i]] := (List.take_append_getElem lk).symm
    have q3 : SetTo prog w h' S (ks.take (i + 1)) := by
      unfold SetTo
      rw [tk, metK_snoc, stepK_len]
      have e1 : hasK (stepK (metK (ks.take i)) ks[i]) = fun k => hasK (metK (ks.take i)) k || decide (k = ks[i]) := by
        funext k
        exact hasK_step
      rw [e1]
      exact q2
    refine wpAny_pure ⟨plainId_quiet PyProof.Rows.F.plain_set_update_loop _, ih (i + 1) _ (by omega) lt (W.frame _ s' _ _ st' (Nat.le_succ _) fun b hb' o e => ?_) q3 fun s'' mv2 q4 => ?_⟩
    · have nb : b ≠ S := fun z => hS (z ▸ hb')
      rw [sb.2 b nb]; exact e
    · refine fin s'' (Moved.trans W.gtrans ((mv.mono up).then_heap (Nat.le_succ _) fun b o hb' e => ?_) mv2) q4
      have nb : b ≠ S := fun z => hb' (z ▸ .head _)
      rw [sb.2 b nb]; exact e
end
end EX

set_option Elab.async false
set_option linter.all false
set_option maxRecDepth 100000
set_option maxHeartbeats 3200000
namespace EX
open PySem PySem.Spec L2
abbrev set0 (led : Bool) : Obj := { cls := .type "set", dict := none, data := .set #[] 0 (.fresh 0 0 led) }
section
variable {prog : Program} {w : World} {A : Around} {E : Value → Shared → Prop} {s : Shared}
theorem call_set_keys {l : Addr} {items : Array Value} {ks : List Key} {Q : Value → Shared → Prop} (hh : A.handled = none) (hl : s.heap.IsList l items) (hi : ∀ (i : Nat) (v : Value) (k : Key), items[i]? = some v → ks[i]? = some k → keyIs k v = true) (hn : ks.length = items.size) (hb : items.size + 1 < scanBound)
    (h : ∀ (h' : Heap) (tk : Nat), SetTo prog w h' s.heap.objs.size ks → (∀ b o, b < s.heap.objs.size → s.heap.get? b = some o → h'.get? b = some o) → Q (.ref s.heap.objs.size) { s with heap := h', toks := tk }) :
    wpAny (model prog w) A (call (.type "set") [.ref l]) Q E s := by
  obtain ⟨c, tl, mro⟩ := F.called_set.mro
  have made := F.called_set.made
  have isub := F.called_set.sub
  refine wpAny_call (codeAny_of_tree ?_); show wpAny _ _ (callAny (.type "set") _) _ _ _
  refine wpAny_pure ⟨Code.quiet_builtin _ (by decide +kernel), codeAny_builtin F.entry_type_call ?_⟩; rw [Around.under_plain (weight_type_call_type "set" [.ref l] []) rfl]
  have n1 := F.called_set.notType
  have n2 := F.called_set.canCreate
  have n3 := F.typeCall_set_1 (.ref l)
  repeat (any_goals (first | assumption | wp_step))
  refine codeAny_mono (code_set_new_1 (.ref l) (E := E) (Q₁ := fun obj t => ∃ led : Bool, obj = .ref s.heap.objs.size ∧ t = { s with heap := s.heap.push (set0 led) }) fun led => ⟨led, rfl, rfl⟩) fun r t hr => ?_
  cases r with
  | error e => exact hr
  | ok fl =>
    cases fl with
    | ret obj =>
      obtain ⟨led, rfl, rfl⟩ := hr
      have gS : (s.heap.push (set0 led)).get? s.heap.objs.size = some (set0 led) := Heap.get?_push_size _ rfl
      have tS : Shared.TypeIs { s with heap := s.heap.push (set0 led) } (.ref s.heap.objs.size) "set" := ⟨_, gS, rfl⟩
      have i1 := F.called_set.init.lookup
      have i2 := F.called_set.init.bind (.ref s.heap.objs.size)
      repeat (any_goals (first | assumption | wp_step))
      refine codeAny_mono (codeAny_call_builtin (R := wants (fun r t => r = .none ∧ ∃ h' tk, t = { s with heap := h', toks := tk } ∧ SetTo prog w h' s.heap.objs.size ks ∧ (∀ b o, b < s.heap.objs.size → s.heap.get? b = some o → h'.get? b = some o)) E) F.called_set.init.plain F.entry_set_init (check_set_init_1 tS ?_)) fun r2 t2 hr2 => ?_
      · obtain ⟨ol, gl, cl, nl, dl⟩ := hl
        obtain ⟨ocls, odict, odata, oslots⟩ := ol
        dsimp only at cl dl
        subst cl dl
        have gl' : (s.heap.push (set0 led)).get? l = some { cls := .type "list", dict := odict, data := .seq items nl, slots := oslots } := Heap.get?_push_of_some _ gl
        have s1 := F.sub_list_set
        have s2 := F.sub_list_frozenset
        have s3 : (Value.type "list" == Value.type "dict") = false := by decide
        have hl1 : (s.heap.push (set0 led)).IsList l items := ⟨_, gl', rfl, nl, rfl⟩
        have ltl : l < s.heap.objs.size := Heap.lt_size gl
        have hh3 : A.in1.in1.in1.handled = none := by simp [hh]
        have sz : (s.heap.push (set0 led)).objs.size = s.heap.objs.size + 1 := Heap.size_push ..
        have nI : l ≠ (s.heap.push (set0 led)).objs.size := by rw [sz]; exact Nat.ne_of_lt (Nat.lt_succ_of_lt ltl)
        have nS : s.heap.objs.size ∉ [(s.heap.push (set0 led)).objs.size, l] := by
          rw [sz]
          intro m
          simp only [List.mem_cons, List.not_mem_nil, or_false] at m
          exact m.elim (Nat.ne_of_lt (Nat.lt_succ_self _)) (Nat.ne_of_gt ltl)
        unfold Builtin.«set.__init__» noKeywords Builtin.Frozenset.updateFrom
        generalize hPI : pyIter = PI
        wp_walk
        subst hPI
        refine wpAny_pyIter_list hl1 ?_; refine wpAny_bind (wpAny_runValue ?_)
        refine upd_keys ((Walks.list hh3 _ l nI items).toS) s.heap.objs.size nS ks hn (fun i v k p e => hi i v k p e) hb (items.size - 0) 0 _ (by omega) (Nat.zero_le _) ⟨⟨_, Heap.get?_push_size _ rfl, rfl, rfl⟩, (hl1.push _)⟩ ?zS ?zR
        case zS =>
          have g0 : ((s.heap.push (set0 led)).push { cls := .type "list_iterator", data := .fields #[.ref l, .int 0 0] }).get? s.heap.objs.size = some (set0 led) := Heap.get?_push_of_some _ gS
          exact ⟨set0 led, #[], 0, _, g0, ⟨rfl, rfl, rfl⟩, rfl, (fun e he => by simp at he), (fun k => by simp [metK, hasK]), (by decide), (by rfl), rfl⟩
        case zR =>
          intro s' mv q
          obtain ⟨h', g', d', tk', os'⟩ := s'
          obtain rfl : g' = s.gens := mv.gens
          obtain rfl : d' = s.drawn := mv.drawn
          obtain rfl : os' = s.os := mv.os
          show wpAny _ _ _ _ _ _
          refine wpAny_pure ?_
          show wpAny _ _ (ret Value.none) _ _ _
          refine wpAny_pure ⟨rfl, h', tk', rfl, q, fun b o hb' e => mv.heap b o ?_ (Heap.get?_push_of_some _ (Heap.get?_push_of_some _ e))⟩
          intro m
          simp only [List.mem_cons, List.not_mem_nil, or_false] at m
          rw [sz] at m
          exact m.elim (Nat.ne_of_lt hb') (Nat.ne_of_lt (Nat.lt_succ_of_lt hb'))
      · cases r2 with
        | error e => exact hr2
        | ok f2 =>
          cases f2 with
          | ret r =>
            obtain ⟨rfl, h', tk, rfl, q, kp⟩ := hr2
            repeat (any_goals (first | assumption | wp_step))
            exact h _ _ q kp
          | _ => exact hr2.elim
    | _ => exact hr.elim
end
/-! ### as an expression -/
def keysX : List Val → Option (List Key)
  | [] => some []
  | v :: vs => match keyOf v, keysX vs with
    | some k, some ks => some (k :: ks)
    | _, _ => none
def oLenSet : Op1 := fun a h => match a with
  | .loc n => (match h[n]? with
    | some (.lst xs) => (match keysX xs with
      | some ks => if ks.length ≤ 1000 then some (.int (metK ks).length, h) else none
      | none => none)
    | _ => none)
  | _ => none
section
variable {X : Cx} {W : Wd}
theorem keys_rep {K : Gw} {ρ : List Addr} {H : Hp} : ∀ {xs : List Val} {vs : List V} {ks : List Key}, RepL K ρ H xs vs → keysX xs = some ks → vs = ks.map kV
  | _, _, _, .nil, e => by cases e; rfl
  | _, _, ks, .cons r t, e => by
    simp only [keysX] at e
    split at e
    · rename_i k ks' e1 e2
      cases e
      rw [key_rep r e1, keys_rep t e2]
      rfl
    · cases e
theorem keys_at {prog : Program} {w : World} : ∀ {ks : List Key} {us : List Value} {i : Nat} {v : Value} {k : Key}, Paired (fun k v => (mixKind prog w).is k v = true) ks us → us[i]? = some v → ks[i]? = some k → keyIs k v = true
  | _, _, i, _, _, .nil, e, _ => by simp at e
  | _, _, 0, _, _, .cons a t, e, e' => by simp at e e'; subst e e'; exact a
  | _, _, i + 1, _, _, .cons a t, e, e' => keys_at t (by simpa using e) (by simpa using e')
theorem q_lenSet {a : Expr} {xa : XE} {p p2 q pos : Pos} (hg : Gl X "len") (hm : X.mg "len" = none) (hg2 : Gl X "set") (hm2 : X.mg "set" = none) (ha : QE X W a xa) (hc : X.calm = true := by rfl)
    (na : starEach [a] X.env = (false, eval a X.env) :: starEach [] X.env := by rfl) : QE X W (.Call (.Name "len" p) [.Call (.Name "set" p2) [a] [] q] [] pos) (xUn oLenSet xa) := by
  refine PE.of (t := fun σ H Q => tX (gw X) W xa σ H fun x H1 => rS1 (gw X) oLenSet x H1 Q) ⟨fun pins s σ H Q I h => ?_⟩ fun σ H Q h => un_of h
  refine PyProof.Rows.Call_ (ld_blt I hg hm (by decide +kernel : bootBuiltins "len" = some (.builtin "len")) (PyProof.Rows.callWith_builtin1 (PyProof.Rows.args_cons ?_ rfl) rfl rfl))
  refine PyProof.Rows.Call_ (ld_blt I hg2 hm2 PyProof.Rows.boot_set ?_)
  refine PyProof.Rows.callWith_type1 (PyProof.Rows.args_cons (thn (ha.run pins s σ H _ I h) fun v s1 ⟨x, H1, I1, r1, ⟨ρ, g, b, z, g', S, rb, e, k⟩⟩ => PyProof.Rows.args_nil ?_) na) na rfl
  unfold oLenSet at e
  split at e
  · rename_i n
    split at e
    · rename_i xs eh
      split at e
      · rename_i ks ek
        split at e
        · rename_i hl
          cases e
          cases rb with
          | @loc _ ad ea =>
            obtain ⟨vs, q1, r2⟩ := S.lst ea eh
            have evs := keys_rep r2 ek
            subst evs
            cases r1
            obtain ⟨its, r, pl, hz⟩ := I1.list (.inl (.inl q1))
            have hlen : its.toArray.size = ks.length := by rw [List.size_toArray, ← r.length, List.length_map]
            refine call_set_keys (ks := ks) (I1.ok.hd hc) pl.isList (fun i v k ev ek' => ?_) hlen.symm (by rw [hlen]; unfold scanBound; omega) fun h' tk hS kp => ?_
            · exact keys_at (paired_keys (prog := X.prog) (w := X.w) r) (by simpa using ev) ek'
            · refine PyProof.Rows.args_nil ?_
              obtain ⟨o, es, ep, t, ho, hex, hd, _, _, _, hf, hn⟩ := hS
              have I2 : L2.Inv X pins σ H1 { s1 with heap := h', toks := tk } := I1.kept fun b o e => kp b o (Heap.lt_size e) e
              have ml := metK_len ks
              exact call_len_set ho hex hd hf (by rw [hn]; omega) ⟨.int (metK ks).length, H1, I2.tok _, ⟨_, by rw [hn]⟩, k ρ H1 _ (Grow.refl _ _) S (.int _)⟩
        · cases e
      · cases e
    · cases e
  · cases e
end
end EX

set_option Elab.async false
set_option linter.all false
set_option maxRecDepth 100000
set_option maxHeartbeats 3200000
namespace EX
open PySem PySem.Spec L2
/-! ### a, *b = a tuple -/
section
variable {prog : Program} {w : World} {A : Around} {E : Value → Shared → Prop} {s : Shared}
theorem walks_from {I : Addr} {fp wr : List Addr} {G : Array GenState → Array GenState → Prop} {n : Nat} {P : Nat → Value → Prop} {St : Nat → Shared → Prop} (W : WalksS prog w A I fp wr G (n + 1) P St) :
    WalksS prog w A I fp wr G n (fun i v => P (i + 1) v) (fun i s => St (i + 1) s) where
  sub := W.sub
  grefl := W.grefl
  gtrans := W.gtrans
  frame := fun i s h' tk st => W.frame (i + 1) s h' tk st
  item := fun i s Q E hi st hQ => W.item (i + 1) s Q E (by omega) st hQ
  done := fun s Q E st hQ => W.done s Q E st hQ
  self := fun i s Q E st hQ => W.self (i + 1) s Q E st hQ
theorem unpack_star {t : Addr} {items : Array Value} {x : Value} {xs : List Value} {Q : List Value → Shared → Prop} (hh : A.handled = none) (ht : s.heap.IsTuple t items) (hi : items.toList = x :: xs) (hz : items.size ≤ sizeLine)
    (hQ : ∀ (h' : Heap) (tk : Nat), (∀ b o, s.heap.get? b = some o → h'.get? b = some o) → Q [x, .ref h'.objs.size] { s with heap := h'.push { cls := .type "list", data := .seq xs.toArray }, toks := tk }) : wpAny (model prog w) A (unpackItems (.ref t) 2 (some 1)) Q E s := by
  have nI : t ≠ s.heap.objs.size := by obtain ⟨o, ho, _⟩ := ht; exact Nat.ne_of_lt (Heap.lt_size ho)
  have sz : items.size = xs.length + 1 := by rw [← Array.length_toList, hi, List.length_cons]
  unfold unpackItems
  refine wpAny_bind ?_
  unfold notIterableAtAll
  refine wpAny_bind (wpAny_specialOf ht.typeIs F.slot_tuple_iter.lookup (wpAny_pure ?_))
  rw [if_neg (by decide)]
  refine wpAny_bind (wpAny_holding (wpAny_pyIter_tuple ht ?_))
  dsimp only
  refine wpAny_bind (wpAny_holding (wpAny_draw_tuple nI 1 0 _ _ ⟨_, Heap.get?_push_size _ rfl, rfl, rfl⟩ (ht.push _) (by omega) fun h1 it1 sb1 => ?_))
  have one : List.take 1 (List.drop 0 items.toList) = [x] := by rw [hi]; rfl
  rw [one, if_neg (by simp)]
  have ht1 : h1.IsTuple t items := (ht.push _).extBut sb1.extBut nI
  have W0 := (Walks.tuple (prog := prog) (w := w) (A := A.in1) (by simp [hh]) s.heap.objs.size t nI items).toS
  rw [sz] at W0
  have lt1 : s.heap.objs.size < h1.objs.size := by
    obtain ⟨o, ho, _⟩ := it1
    exact Heap.lt_size ho
  have lt2 : t < h1.objs.size := by
    obtain ⟨o, ho, _⟩ := ht1
    exact Heap.lt_size ho
  refine wpAny_bind (wpAny_holding (wpAny_collect_iter (T := "tuple_iterator") (.inr (.inr (.inr rfl))) (walks_from W0) (fun i s' st => st.1.typeIs) ⟨it1, ht1⟩ (fun b hb => ?_) (.head _) (fun s' acc mv ia => ?_) (by omega)))
  · simp only [List.mem_cons, List.not_mem_nil, or_false] at hb
    rcases hb with rfl | rfl
    · exact lt1
    · exact lt2
  · have ea : acc.toList = xs := by
      apply List.ext_getElem?
      intro j
      by_cases hj : j < xs.length
      · have h2 : j < acc.size := by rw [ia.1]; exact hj
        have := ia.2 j acc[j] (Array.getElem?_eq_getElem h2)
        have e2 : items.toList[j + 1]? = some acc[j] := by rw [Array.getElem?_toList]; exact this
        rw [hi, List.getElem?_cons_succ] at e2
        rw [e2, Array.getElem?_toList]
        exact Array.getElem?_eq_getElem h2
      · rw [List.getElem?_eq_none (by rw [Array.length_toList, ia.1]; omega), List.getElem?_eq_none (by omega)]
    rw [ea, if_neg (by simp)]
    refine wpAny_bind (wpAny_newList ?_ (by rw [List.length_take]; omega))
    refine wpAny_pure ?_
    obtain ⟨hp, g, d, tk, os⟩ := s'
    obtain rfl : g = s.gens := mv.gens
    obtain rfl : d = s.drawn := mv.drawn
    obtain rfl : os = s.os := mv.os
    have k1 : ∀ b o, s.heap.get? b = some o → hp.get? b = some o := fun b o e => by
      have nb : b ≠ s.heap.objs.size := Nat.ne_of_lt (Heap.lt_size e)
      exact mv.heap b o (by simpa using nb) (sb1.extBut b o nb (Heap.get?_push_of_some _ e))
    have tk0 : xs.take (xs.length - (2 - 1 - 1)) = xs := by simp
    have dp0 : xs.drop (xs.length - (2 - 1 - 1)) = [] := by simp
    rw [tk0, dp0]
    exact hQ hp tk k1
end
section
variable {X : Cx} {W : Wd} {e1 e2 e : Expr} {k : Nat} {ps pos p2 p3 p4 : Pos} {i j : Nat} {x y : Str}
def gStar (K : PySem.W.Frag) (i j : Nat) : TG := fun v σ H Q => ∃ a u us, v = .ref a ∧ SqT K H a (u :: us) ∧ us.length < sizeLine ∧ ∀ p, H p = none → Q ((σ.set i (some u)).set j (some (.ref p))) (upd H p (.lst us))
theorem pg_star (hc : X.calm = true) (hN : X.N.Nodup) (hi : X.N[i]? = some x) (hx : Loc X.env.scope x) (hj : X.N[j]? = some y) (hy : Loc X.env.scope y)
    (hf : X.fn x = true ∨ X.env.scope.names.lookup x = some .local := by first | exact .inl rfl | exact .inr rfl | assumption) (hf2 : X.fn y = true ∨ X.env.scope.names.lookup y = some .local := by first | exact .inl rfl | exact .inr rfl | assumption) :
    PG X (.Tuple [.Name x ps, .Starred (.Name y p2) p3] k p4) (gStar X.K i j) := by
  refine ⟨fun pins s σ H v u Q I r ⟨a, u0, us, ev, hq, hl, q⟩ => ?_⟩
  subst ev
  cases r
  obtain ⟨its, rv, ht, hz⟩ := I.tuple hq
  cases rv with
  | @cons _ w _ ws r0 rs =>
    rw [PyProof.Rows.assign_Tuple]
    refine wpAny_bind (wpAny_standAt ?_)
    unfold unpack
    refine wpAny_bind (wpAny_holding ?_)
    show wpAny _ _ (unpackItems (.ref a) 2 (some 1)) _ _ _
    have hz2 : (w :: ws).toArray.size ≤ sizeLine := by
      rw [List.size_toArray, List.length_cons, ← rs.length]; omega
    refine unpack_star (x := w) (xs := ws) (I.ok.hd hc) ht (by simp) hz2 fun h' tk kp => ?_
    have I1 : L2.Inv X pins σ H { s with heap := h', toks := tk } := I.kept fun b o e => kp b o e
    have hf0 : H h'.objs.size = none := I1.hok.fresh (Nat.le_refl _)
    have I2 : L2.Inv X pins σ (upd H h'.objs.size (.lst us)) { s with heap := h'.push { cls := .type "list", data := .seq ws.toArray }, toks := tk } :=
      I1.laid (t' := tk) (fun b u e => Heap.get?_push_of_some _ e) (Nat.le_refl _) ⟨by omega, ws, 0, rs, Heap.get?_push_size _ rfl⟩
    have g1 : PGs X [.Name x ps, .Name y p2] (gCons (gName i) (gCons (gName j) gNil)) := pgs_cons (pg_name hN hi hx hf) (pgs_cons (pg_name hN hj hy hf2) pgs_nil)
    exact g1.run pins _ σ _ [u0, .ref h'.objs.size] _ Q I2 (.cons r0 (.cons rfl .nil)) ⟨_, _, rfl, _, _, rfl, rfl, q _ hf0⟩
/-- a, *b = x -/
def sStar (i j : Nat) (x : XE) : XS := fun e h => match x e h with
  | .ok (.tup (v :: vs)) h1 => if vs.length < sizeLine then .nx ((e.set i (some v)).set j (some (.loc h1.length))) (h1 ++ [.lst vs]) else .stuck
  | .ok _ _ => .stuck
  | .exc c fs h1 => .exc c fs e h1
  | .stuck => .stuck
theorem star_of {x : XE} {K : Gw} {D : Ends} {σ : St} {H : Hp} (h0 : W.s = none) (h : tXS K W (sStar i j x) D σ H) : tAsg (tX K W x) (gStar K.K i j) D σ H := by
  obtain ⟨ρ, env, h, S, E, p⟩ := h
  have p' : PostS K W ρ H D (match x env h with | .ok v h1 => (match v with | .tup (v :: vs) => if vs.length < sizeLine then .nx ((env.set i (some v)).set j (some (.loc h1.length))) (h1 ++ [.lst vs]) else .stuck | _ => .stuck) | .exc c fs h1 => .exc c fs env h1 | .stuck => .stuck) := by
    unfold sStar at p
    cases hx : x env h with
    | ok v h1 =>
      rw [hx] at p
      cases v with
      | tup xs => cases xs with
        | nil => exact p
        | cons _ _ => exact p
      | _ => exact p
    | exc c fs h1 => rw [hx] at p; exact p
    | stuck => rw [hx] at p; exact p
  refine ⟨ρ, env, h, S, E, (afterE (f := fun v h1 => match v with | .tup (v :: vs) => if vs.length < sizeLine then .nx ((env.set i (some v)).set j (some (.loc h1.length))) (h1 ++ [.lst vs]) else .stuck | _ => .stuck) E p').imp fun v h1 ρ1 H1 g1 S1 q u ru => ?_⟩
  cases ru with
  | @tup a xs vs sq rs =>
    cases rs with
    | nil => exact q.elim
    | @cons v0 u0 vs us r0 rs =>
      by_cases hl : vs.length < sizeLine
      · dsimp only at q
        rw [if_pos hl] at q
        refine ⟨a, u0, us, rfl, sq, by rw [← rs.length]; exact hl, fun p hp => ?_⟩
        obtain ⟨g2, S2, r2⟩ := new_loc S1 hp rs
        have E2 := ((E.mono g1).mono g2)
        have E3 := (E2.set i (r0.mono g2) (fun _ z => by rw [h0] at z; cases z)).set j r2 (fun _ z => by rw [h0] at z; cases z)
        exact q _ _ _ g2 S2 E3
      · dsimp only at q
        rw [if_neg hl] at q
        exact q.elim
  | _ => exact q.elim
theorem qs_star {xa : XE} (hc : X.calm = true) (hN : X.N.Nodup) (hi : X.N[i]? = some x) (hx : Loc X.env.scope x) (hj : X.N[j]? = some y) (hy : Loc X.env.scope y) (he : QE X W e xa)
    (hf : X.fn x = true ∨ X.env.scope.names.lookup x = some .local := by first | exact .inl rfl | exact .inr rfl | assumption) (hf2 : X.fn y = true ∨ X.env.scope.names.lookup y = some .local := by first | exact .inl rfl | exact .inr rfl | assumption)
    (hs : swapsWithSole [.Tuple [.Name x ps, .Starred (.Name y p2) p3] k p4] e pos.line X.env = pure false := by rfl) (hw : swappedStores [.Tuple [.Name x ps, .Starred (.Name y p2) p3] k p4] e X.env = pure none := by rfl)
    (h1 : (assignEach [.Tuple [.Name x ps, .Starred (.Name y p2) p3] k p4] X.env).map (·.2) = [assign (.Tuple [.Name x ps, .Starred (.Name y p2) p3] k p4) X.env] := by rfl) (h0 : W.s = none := by rfl) :
    QS X W (.Assign [.Tuple [.Name x ps, .Starred (.Name y p2) p3] k p4] e pos) (sStar i j xa) :=
  PS.of (ps_asg he (pg_star hc hN hi hx hj hy hf hf2) hs hw h1) fun _ _ _ => star_of h0
end
end EX

set_option Elab.async false
set_option linter.all false
set_option maxRecDepth 100000
set_option maxHeartbeats 3200000
namespace EX
open PySem PySem.Spec L2
/-! ### x[::-1] -/
section
variable {prog : Program} {w : World} {A : Around} {E : Value → Shared → Prop} {s : Shared}
theorem pick_back (xs : Array Value) : ((List.range xs.size).filterMap fun (k : Nat) => xs[(((xs.size : Int) - 1) + (k : Int) * (-1)).toNat]?).toArray = xs.toList.reverse.toArray := by
  congr 1
  have gen : ∀ l : List Nat, (∀ k ∈ l, k < xs.size) → l.filterMap (fun (k : Nat) => xs[(((xs.size : Int) - 1) + (k : Int) * (-1)).toNat]?) = l.filterMap fun k => xs[xs.size - 1 - k]? := fun l => by
    induction l with
    | nil => intro _; rfl
    | cons k l ih =>
      intro hk
      have h1 := hk k (.head _)
      have e2 : (((xs.size : Int) - 1) + (k : Int) * (-1)).toNat = xs.size - 1 - k := by omega
      rw [List.filterMap_cons, List.filterMap_cons, e2, ih fun j m => hk j (.tail _ m)]
  have e := gen (List.range xs.size) fun k hk => List.mem_range.mp hk
  rw [e]
  have e3 : (List.range xs.size).filterMap (fun k => xs[xs.size - 1 - k]?) = ((List.range xs.size).map fun k => xs.size - 1 - k).filterMap (xs[·]?) := by
    rw [List.filterMap_map]; rfl
  rw [e3, PySem.W.krv_range, List.filterMap_reverse, PySem.W.krv_all]
theorem applied_back {sl : Addr} {vl vu vs : Value} {n : Nat} {Q : Int × Int × Nat → Shared → Prop} (hs : s.heap.IsSliceOf sl vl vu vs) (pl : IsPart vl none) (pu : IsPart vu none) (pk : IsPart vs (some (-1)))
    (h : Q ((n : Int) - 1, -1, n) s) : wpAny (model prog w) A (Builtin.Slice.sliceApplied (.ref sl) (pure (n : Int))) Q E s := by
  obtain ⟨os, hos, hcs, hds⟩ := id hs
  unfold Builtin.Slice.sliceApplied Builtin.Slice.sliceFields
  refine wpAny_bind (wpAny_bind (wpAny_field hos hds (x := vl) rfl (wpAny_bind (wpAny_field hos hds (x := vu) rfl (wpAny_bind (wpAny_field hos hds (x := vs) rfl (wpAny_pure ?_)))))))
  refine wpAny_bind (HT.slicePart_ pk ?_)
  show wpAny _ _ (if ((-1 : Int) == 0) = true then _ else _) _ _ s; rw [if_neg (by decide)]
  refine wpAny_bind (HT.slicePart_ pl (wpAny_bind (HT.slicePart_ pu (wpAny_bind (wpAny_pure ?_)))))
  have e : Builtin.Slice.sliceAdjust none none (-1) (n : Int) = ((n : Int) - 1, -1) := by
    simp [Builtin.Slice.sliceAdjust]
  show wpAny _ _ (match Builtin.Slice.sliceAdjust none none (-1) (n : Int) with | (lo, hi) => pure (lo, (-1 : Int), Builtin.Slice.slicePlaces lo hi (-1))) _ _ s
  rw [e]
  have e2 : Builtin.Slice.slicePlaces ((n : Int) - 1) (-1) (-1) = n := by
    simp [Builtin.Slice.slicePlaces]; omega
  show wpAny _ _ (pure ((n : Int) - 1, (-1 : Int), Builtin.Slice.slicePlaces ((n : Int) - 1) (-1) (-1))) _ _ s
  rw [e2]
  exact wpAny_pure h
theorem getItem_back {t sl : Addr} {items : Array Value} {vl vu vs : Value} {Q : Value → Shared → Prop} (ht : PyProof.Rows.IsTup s.heap t items) (hs : s.heap.IsSliceOf sl vl vu vs) (pl : IsPart vl none) (pu : IsPart vu none) (pk : IsPart vs (some (-1)))
    (h : Q (.ref s.heap.objs.size) { s with heap := s.heap.push { cls := .type "tuple", data := .seq items.toList.reverse.toArray } }) (hsz : items.size ≤ sizeLine) : wpAny (model prog w) A (getItem (.ref t) (.ref sl)) Q E s := by
  have hz : sizeOk (.seq items.toList.reverse.toArray) := by
    show items.toList.reverse.toArray.size ≤ sizeLine
    simpa using hsz
  obtain ⟨os, hos, hcs, hds⟩ := id hs
  have hTs : s.TypeIs (.ref sl) "slice" := ⟨os, hos, hcs⟩
  unfold getItem
  try with_reducible refine wpAny_holding ?_
  first | refine wpAny_bind (wpAny_pure ?_) | skip
  refine wpAny_bind (wpAny_sequenceKey ht.typeIs (by decide) ?_)
  refine wpAny_bind (wpAny_callSpecial?_slot (name := Str.ofString "__getitem__") ht.typeIs PyProof.Rows.slot_tuple_getitem (wpAny_call_entry PyProof.Rows.slot_tuple_getitem ht.typeIs PyProof.Rows.entry_tuple_getitem ?_ (PyProof.Rows.args_tuple_getitem _ _)))
  show wpAny _ _ (Builtin.Tuple.tupleItemsOf (.ref t) >>= _) _ _ s
  refine wpAny_bind (PyProof.Rows.tupleItemsOf_ ht (wpAny_bind (wpAny_typeOf hTs ?_))); rw [if_pos (by decide)]
  refine wpAny_bind (applied_back hs pl pu pk ?_)
  have hno : ¬ ((((items.size : Int) - 1) == 0 && (-1 : Int) == 1 && items.size == items.size) = true) := by simp
  show wpAny _ _ (if (((items.size : Int) - 1) == 0 && (-1 : Int) == 1 && items.size == items.size) = true then _ else _) _ _ s
  rw [if_neg hno, pick_back]
  first
    | exact wpAny_bind (m := Builtin.Tuple.tupleExact _) (wpAny_newObj_type (wpAny_pure ⟨_, rfl, wpAny_pure h⟩) hz)
    | exact wpAny_bind (m := Builtin.Tuple.tupleExact _) (wpAny_newObj_type (wpAny_bind (wpAny_pure (wpAny_pure ⟨_, rfl, wpAny_pure h⟩))) hz)
    | exact wpAny_bind (wpAny_bind (m := Builtin.Tuple.tupleExact _) (wpAny_newObj_type (wpAny_pure (wpAny_pure ⟨_, rfl, wpAny_pure h⟩)) hz))
    | exact wpAny_bind (wpAny_bind (m := Builtin.Tuple.tupleExact _) (wpAny_newObj_type (wpAny_pure ⟨_, rfl, wpAny_pure h⟩) hz))
end
def revS (s : Str) : Str := ⟨s.cps.toList.reverse.toArray⟩
theorem picked_back (x : Str) (st : Option (Int × Tok)) (hs : st.map (·.1) = some (-1)) : sliceMade x t none none st = .str (revS x) := by
  have e : slicePicked x none none st = (List.range x.cps.size).map fun k => x.cps.size - 1 - k := by
    unfold slicePicked
    rw [hs]
    exact PySem.W.krv_sliceRange x.length
  unfold sliceMade
  rw [hs, e, if_neg (by simp), PySem.W.krv_range, List.filterMap_reverse, PySem.W.krv_all]
  rfl
def oRev : Op1 := fun a h => match a with
  | .str s => if s.length ≤ sizeLine then some (.str (revS s), h) else none
  | .tup xs => some (.tup xs.reverse, h)
  | .loc n => (match h[n]? with
    | some (.lst xs) => some (.loc h.length, h ++ [.lst xs.reverse])
    | _ => none)
  | _ => none
section
variable {X : Cx} {W : Wd} {e : Expr} {xa : XE}
theorem q_rev {k : Nat} {p1 p2 p3 pos : Pos} (he : QE X W e xa) : QE X W (.Subscript e (.Slice none none (some (.UnaryOp .USub (.Constant (.int 1) k p1) p2)) p3) pos) (xUn oRev xa) := by
  refine PE.of (t := fun σ H Q => tX (gw X) W xa σ H fun x H1 => rS1 (gw X) oRev x H1 Q) ⟨fun pins s σ H Q I h => ?_⟩ fun σ H Q h => un_of h
  refine PyProof.Rows.Subscript_ (thn (he.run pins s σ H _ I h) fun v s1 ⟨x, H1, I1, r1, ⟨ρ, g, b, z, g', S, rb, ez, kk⟩⟩ => ?_)
  have hst : PO X (some (.UnaryOp .USub (.Constant (.int 1) k p1) p2)) (tPart (tUn (rU fun i => .int (-i)) (tC (.int 1)))) := po_some (pe_un un_neg pe_int)
  refine wpAny_Slice (thn (po_none.run pins s1 σ H1 (fun o H2 => o = none ∧ H2 = H1) I1 ⟨rfl, rfl⟩) fun vl s2 ⟨l, H2, I2, pl, el, e2⟩ => ?_)
  subst el e2
  refine thn (po_none.run pins s2 σ H2 (fun o H3 => o = none ∧ H3 = H2) I2 ⟨rfl, rfl⟩) fun vu s3 ⟨u, H3, I3, pu, eu, e3⟩ => ?_
  subst eu e3
  refine thn (hst.run pins s3 σ H3 (fun o H4 => o = some (-1) ∧ H4 = H3) I3 ⟨1, rfl, -1, rfl, rfl, rfl⟩) fun vs s4 ⟨o, H4, I4, ps, eo, e4⟩ => ?_
  subst eo e4
  have I5 : L2.Inv X pins σ H4 { s4 with heap := s4.heap.push { cls := .type "slice", data := .fields #[vl, vu, vs] } } := I4.kept (t' := s4.toks) fun b ob q => Heap.get?_push_of_some _ q
  unfold oRev at ez
  split at ez
  · rename_i z
    split at ez
    · rename_i hz
      cases ez
      cases rb
      obtain ⟨t, rfl⟩ := r1
      obtain ⟨l, rfl, el⟩ := IsPart.raw pl
      obtain ⟨u, rfl, eu⟩ := IsPart.raw pu
      obtain ⟨st, rfl, es⟩ := IsPart.raw ps
      have el' : l = none := by cases l with | none => rfl | some _ => cases el
      have eu' : u = none := by cases u with | none => rfl | some _ => cases eu
      subst el' eu'
      show wpAny (model X.prog X.w) X.A (PyProof.Rows.subscriptTail e (.Slice none none (some (.UnaryOp .USub (.Constant (.int 1) k p1) p2)) p3) (.str z t) (.ref s4.heap.objs.size)) (EP X pins σ Q) X.xe { s4 with heap := s4.heap.push { cls := .type "slice", data := .fields #[partValue none, partValue none, partValue st] } }
      refine PyProof.Rows.tail_any (ops := [.str z t, .ref s4.heap.objs.size]) (typeIs_str _ _ _) F.slot_str_getitem.lookup ?_ (by with_unfolding_all rfl)
      refine wpAny_getItem_str_slice (l := none) (u := none) (st := st) ⟨_, Heap.get?_push_size _ rfl, rfl, rfl⟩ (by rw [es]; rfl) ?_
      rw [picked_back z st es]
      exact ⟨by show z.cps.toList.reverse.toArray.size ≤ sizeLine; rw [List.size_toArray, List.length_reverse, Array.length_toList]; exact hz, .str _, _, I5.tok _, ⟨_, rfl⟩, kk _ _ _ (Grow.refl _ _) S (.str _)⟩
    · cases ez
  · rename_i xs
    cases ez
    cases rb with
    | @tup a _ us sq rs =>
      cases r1
      obtain ⟨its, r, ht, hz⟩ := I5.tuple sq
      show wpAny (model X.prog X.w) X.A (PyProof.Rows.subscriptTail e (.Slice none none (some (.UnaryOp .USub (.Constant (.int 1) k p1) p2)) p3) (.ref a) (.ref s4.heap.objs.size)) (EP X pins σ Q) X.xe { s4 with heap := s4.heap.push { cls := .type "slice", data := .fields #[vl, vu, vs] } }
      refine PyProof.Rows.tail_any (ops := [.ref a, .ref s4.heap.objs.size]) ht.typeIs (PyProof.Rows.slot_tuple_getitem.lookup) ?_ (by with_unfolding_all rfl)
      have hlen := r.length
      refine getItem_back ht (Heap.IsSliceOf.new _ vl vu vs) pl pu ps ?_ (by rw [List.size_toArray]; omega)
      have hf : H4 (s4.heap.push { cls := .type "slice", data := .fields #[vl, vu, vs] }).objs.size = none := I5.hok.fresh (Nat.le_refl _)
      obtain ⟨g2, S2, r2⟩ := new_tup S hf rs.reverse
      exact ⟨.ref _, _, I5.laid (t' := s4.toks) (o := .tup us.reverse) (fun b ob q => Heap.get?_push_of_some _ q) (Nat.le_refl _) ⟨by rw [List.length_reverse]; exact hz, _, r.reverse, PyProof.Rows.IsTup.new _ _⟩, rfl, kk _ _ _ g2 S2 r2⟩
  · rename_i n
    split at ez
    · rename_i xs eh
      cases ez
      cases rb with
      | @loc _ a ea =>
        obtain ⟨us, q1, rs⟩ := S.lst ea eh
        cases r1
        obtain ⟨its, r, ht, hz⟩ := I5.list (.inl (.inl q1))
        have hlen := r.length
        show wpAny (model X.prog X.w) X.A (PyProof.Rows.subscriptTail e (.Slice none none (some (.UnaryOp .USub (.Constant (.int 1) k p1) p2)) p3) (.ref a) (.ref s4.heap.objs.size)) (EP X pins σ Q) X.xe { s4 with heap := s4.heap.push { cls := .type "slice", data := .fields #[vl, vu, vs] } }
        refine PyProof.Rows.tail_any (ops := [.ref a, .ref s4.heap.objs.size]) ht.isList.typeIs (PySem.slot_list_getitem.lookup) ?_ (by with_unfolding_all rfl)
        refine wpAny_getItem_list_slice ht.isList (Heap.IsSliceOf.new _ vl vu vs) pl pu ps (by decide) ?_ (by rw [List.size_toArray]; omega)
        rw [PySem.W.krv_pick]
        have hf : H4 (s4.heap.push { cls := .type "slice", data := .fields #[vl, vu, vs] }).objs.size = none := I5.hok.fresh (Nat.le_refl _)
        obtain ⟨g2, S2, r2⟩ := new_loc S hf rs.reverse
        exact ⟨.ref _, _, I5.laid (t' := s4.toks) (o := .lst us.reverse) (fun b ob q => Heap.get?_push_of_some _ q) (Nat.le_refl _) ⟨by rw [List.length_reverse]; exact hz, _, 0, r.reverse, Heap.get?_push_size _ rfl⟩, rfl, kk _ _ _ g2 S2 r2⟩
    · cases ez
  · cases ez
end
end EX

set_option Elab.async false
set_option linter.all false
set_option maxRecDepth 100000
set_option maxHeartbeats 3200000
namespace EX
open PySem PySem.Spec PyProof.Rows L2 He
/-! ### heads with tables of text keys -/
theorem find_keys {P : Params} {z : Str} : ∀ {l : List DictEntry} {ks : List Str}, l.map He.keyOf = keysIn P ks → (∀ k ∈ ks, k ≠ z) → l.find? (·.key.isStr z) = none ∧ l.any (·.refKey) = false
  | [], _, _, _ => ⟨rfl, rfl⟩
  | e :: r, [], h, _ => by cases h
  | e :: r, k :: ks, h, hz => by
    have h1 : He.keyOf e :: r.map He.keyOf = some (k, PyData.keyHash P k) :: keysIn P ks := h
    injection h1 with h2 h3
    obtain ⟨i1, i2⟩ := find_keys h3 fun j m => hz j (.tail _ m)
    unfold He.keyOf at h2
    split at h2
    · rename_i x t q
      have h5 : x = k := (Prod.mk.inj (Option.some.inj h2)).1
      subst h5
      have ne : e.key.isStr z = false := by
        rw [q]
        simp [Value.isStr, hz x (.head _)]
      have nr : e.refKey = false := by
        unfold DictEntry.refKey
        rw [q]
      rw [List.find?_cons, ne, List.any_cons, i2, nr]
      exact ⟨i1, rfl⟩
    · cases h2
theorem ns_none {K : PySem.W.Frag} {w : World} {a : Addr} {ks : List Str} {z : Str} (h : dicW K a = some (keysIn w.params ks)) (hz : ∀ k ∈ ks, k ≠ z) : PySem.W.nsIn K a z = some none := by
  unfold dicW at h
  split at h
  · rename_i c es n sl q
    split at h
    · obtain ⟨e1, e2⟩ := find_keys (Option.some.inj h) hz
      unfold PySem.W.nsIn
      rw [q]
      dsimp only
      rw [e1, e2]
      rfl
    · cases h
  · cases h
def dvOf : Val → Dv
  | .bl b => .bl b
  | .int i => .int i
  | .str s => .str s
  | _ => .non
theorem dvOf_v {K : PySem.W.Frag} {v : Val} (h : flatX v = true) : (dvOf v).v K = flatV2 v := by
  cases v <;> first | rfl | cases h
theorem lookup_mem {α β : Type} [BEq α] [LawfulBEq α] {k : α} {v : β} : ∀ {l : List (α × β)}, l.lookup k = some v → (k, v) ∈ l
  | [], e => by cases e
  | (a, b) :: l, e => by
    rw [List.lookup_cons] at e
    split at e
    · rename_i h
      cases e
      rw [eq_of_beq h]
      exact .head _
    · exact .tail _ (lookup_mem e)
theorem lookup_none {α β : Type} [BEq α] [LawfulBEq α] {k : α} : ∀ {l : List (α × β)}, l.lookup k = none → ∀ j ∈ l.map (·.1), j ≠ k
  | [], _, _, m => nomatch m
  | (a, b) :: l, e, j, m => by
    rw [List.lookup_cons] at e
    split at e
    · cases e
    · rename_i h
      rcases List.mem_cons.mp m with rfl | m
      · intro z
        rw [z] at h
        simp at h
      · exact lookup_none e j m
theorem gtb_ok {K : PySem.W.Frag} {mg : Str → Option Value} {w : World} {x : Str} {kvs : List (Str × Val)} (hm : mg x = some (.ref (ga K x))) (hd : dicW K (ga K x) = some (keysIn w.params (kvs.map (·.1)))) (hv : valsB K (ga K x) (kvs.map fun p => (p.1, dvOf p.2)) = true) (hf : (kvs.all fun p => flatX p.2) = true) : GTb K mg w x kvs := by
  obtain ⟨es, n, D⟩ := dicW_ok hd
  refine ⟨ga K x, es, n, hm, D, fun z => ?_⟩
  cases e : kvs.lookup z with
  | none => exact ns_none hd (lookup_none e)
  | some v =>
    have m := lookup_mem e
    have f := List.all_eq_true.mp hf _ m
    obtain ⟨u, e1, r⟩ := valsB_ok hv (List.mem_map.mpr ⟨_, m, rfl⟩)
    dsimp only at e1 r f
    rw [dvOf_v f] at r
    exact ⟨f, u, e1, r⟩
/-! ### the hook -/
abbrev AlE : Type := (AlD × Bool) × List (Option (List (Option (Str × Int))))
def tabsE (ts : List Tab) (K : PySem.W.Frag) : List (Option (List (Option (Str × Int)))) := ts.map fun t => dicW K (t.1 K)
def keysE (ts : List Tab) (w : World) : List (Option (List (Option (Str × Int)))) := ts.map fun t => some (keysIn w.params t.2)
def obsF (n : Nat) (fa : List Fa) (fn : List DefD) (ex : PySem.W.Frag → Bool) (ts : List Tab) (g : Addr → Option Obj) : AlE := ((obsD fa fn (frT g (seeds g n)), ex (frT g (seeds g n))), tabsE ts (frT g (seeds g n)))
def hookF (n : Nat) (fa : List Fa) (fn : List DefD) (ex : PySem.W.Frag → Bool) (ts : List Tab) : PySem.W.Hook where
  α := AlE
  obs := fun s => obsF n fa fn ex ts s.heap.get?
  val := fun w => ((valD fn, true), keysE ts w)
  says := fun w h => ∃ K : PySem.W.Frag, K.In h ∧ (SaysD fa fn K ∧ ex K = true) ∧ tabsE ts K = keysE ts w
  of := fun _ _ e => ⟨_, frT_in, ⟨congrArg (fun z : AlE => z.1.1) e, congrArg (fun z : AlE => z.1.2) e⟩, congrArg Prod.snd e⟩
  keeps := fun _ _ _ ⟨K, hK, c⟩ k => ⟨K, PySem.W.Frag.In.keeps hK k, c⟩
theorem obsF_eq {n : Nat} {fa : List Fa} {fn : List DefD} {ex : PySem.W.Frag → Bool} {ts : List Tab} {g : Addr → Option Obj} {s : Shared} (h : ∀ a, g a = s.heap.get? a) : obsF n fa fn ex ts g = (hookF n fa fn ex ts).obs s := by
  have e : g = s.heap.get? := funext h
  rw [e] <;> rfl
theorem tab_at {ts : List Tab} {K : PySem.W.Frag} {w : World} (h : tabsE ts K = keysE ts w) (i : Nat) {t : Tab} (e : ts[i]? = some t) : dicW K (t.1 K) = some (keysIn w.params t.2) := by
  have e2 : (tabsE ts K)[i]? = (keysE ts w)[i]? := by rw [h]
  unfold tabsE keysE at e2
  rw [List.getElem?_map, List.getElem?_map, e] at e2
  exact Option.some.inj e2
/-! ### a, b, c = x, y, z -/
section
variable {X : Cx} {W : Wd}
theorem qs_par3 {i j l : Nat} {x y z : Str} {a b c : Expr} {ta : XA} {px py pz pt pos : Pos} {kt k2 : Nat} {pt2 : Pos} (hc : X.calm = true) (hN : X.N.Nodup) (hi : X.N[i]? = some x) (hj : X.N[j]? = some y) (hl : X.N[l]? = some z) (hij : i ≠ j) (hil : i ≠ l) (hjl : j ≠ l)
    (hx : X.env.scope.names.lookup x = some .local) (hy : X.env.scope.names.lookup y = some .local) (hz : X.env.scope.names.lookup z = some .local) (ha : QA X W [a, b, c] ta)
    (hw : swappedStores [.Tuple [.Name x px, .Name y py, .Name z pz] kt pt] (.Tuple [a, b, c] k2 pt2) X.env = pure (some [x, y, z]))
    (hs : swapsWithSole [.Tuple [.Name x px, .Name y py, .Name z pz] kt pt] (.Tuple [a, b, c] k2 pt2) pos.line X.env = pure false := by rfl) (h0 : W.s = none := by rfl) :
    QS X W (.Assign [.Tuple [.Name x px, .Name y py, .Name z pz] kt pt] (.Tuple [a, b, c] k2 pt2) pos) (sPar [i, j, l] ta) := PS.of (ps_par3 hc hN hi hj hl hij hil hjl hx hy hz ha hw hs) fun D σ H ⟨ρ, env, h, S, E, p⟩ =>
  ⟨ρ, env, h, S, E, (afterA (f := fun vs h1 => match [i, j, l], vs with
    | [i, j], [v, w] => .nx ((env.set i (some v)).set j (some w)) h1
    | [i, j, l], [u, v, w] => .nx (((env.set i (some u)).set j (some v)).set l (some w)) h1
    | _, _ => .stuck) E p).imp fun vs h1 ρ1 H1 g1 S1 q us rs => by
      cases rs with
      | nil => exact q.elim
      | cons r1 rs =>
        cases rs with
        | nil => exact q.elim
        | cons r2 rs =>
          cases rs with
          | nil => exact q.elim
          | cons r3 rs =>
            cases rs with
            | nil =>
              refine ⟨_, _, _, rfl, ?_⟩
              have no : ∀ k, ∀ q, W.s = some q → q.slot ≠ k := fun k q e => by rw [h0] at e; cases e
              exact q _ _ _ (Grow.refl _ _) S1 ((((E.mono g1).set i r1 (no i)).set j r2 (no j)).set l r3 (no l))
            | cons _ _ => exact q.elim⟩
end
end EX

set_option Elab.async false
set_option linter.all false
set_option maxRecDepth 100000
set_option maxHeartbeats 1000000
namespace EX
open PySem L2
/-! ### a dict that is walked is locked meanwhile -/
section
variable {K : Gw} {ρ ρ' : List Addr} {H H' : Hp} {d : Addr} {od : Obj} {vs : List (Key × V)}
theorem frz_ne {a : Addr} {u : HO} (hd : H d = some (.frz od (.dK vs))) (h : H a = some u) (hn : u ≠ .frz od (.dK vs)) : (upd H d (.dK vs)) a = some u := by
  rw [upd_ne (fun z => by rw [z, hd] at h; exact hn (Option.some.inj h).symm)]; exact h
theorem sqt_unf {a : Addr} {xs : List V} (hd : H d = some (.frz od (.dK vs))) (h : SqT K.K H a xs) : SqT K.K (upd H d (.dK vs)) a xs := by
  rcases h with (h | ⟨o, h⟩) | h
  · exact .inl (.inl (frz_ne hd h (fun z => by cases z)))
  · exact .inl (.inr ⟨o, frz_ne hd h (fun z => by cases z)⟩)
  · exact .inr h
theorem ros_unf {a : Addr} {xs : List V} (hd : H d = some (.frz od (.dK vs))) (h : RoS K.K H a xs) : RoS K.K (upd H d (.dK vs)) a xs := by
  rcases h with ⟨o, h⟩ | h
  · exact .inl ⟨o, frz_ne hd h (fun z => by cases z)⟩
  · exact .inr h
mutual
theorem Rep.unf (hd : H d = some (.frz od (.dK vs))) : ∀ {x : Val} {v : V}, Rep K ρ H x v → Rep K ρ (upd H d (.dK vs)) x v
  | _, _, .non => .non
  | _, _, .bl b => .bl b
  | _, _, .int i => .int i
  | _, _, .str s => .str s
  | _, _, .tup s r => .tup (sqt_unf hd s) (RepL.unf hd r)
  | _, _, .scr s r => .scr (ros_unf hd s) (RepL.unf hd r)
  | _, _, .loc e => .loc e
  | _, _, .ref e => .ref e
  | _, _, .ty n => .ty n
theorem RepL.unf (hd : H d = some (.frz od (.dK vs))) : ∀ {xs : List Val} {ys : List V}, RepL K ρ H xs ys → RepL K ρ (upd H d (.dK vs)) xs ys
  | _, _, .nil => .nil
  | _, _, .cons a b => .cons (Rep.unf hd a) (RepL.unf hd b)
end
theorem RepF.unf {κ : Type} (hd : H d = some (.frz od (.dK vs))) {fs : List (κ × Val)} {ys : List (κ × V)} (h : RepF K ρ H fs ys) : RepF K ρ (upd H d (.dK vs)) fs ys :=
  Paired.mapP h fun _ _ z => ⟨z.1, z.2.unf hd⟩
theorem XcR.unf {fs : List (Str × Val)} {dd : Option Addr} (hd : H d = some (.frz od (.dK vs))) (h : XcR K ρ H fs dd) : XcR K ρ (upd H d (.dK vs)) fs dd := by
  cases dd with
  | none => exact h
  | some a => obtain ⟨ys, e, r⟩ := h; exact ⟨ys, frz_ne hd e (fun z => by cases z), r.unf hd⟩
theorem EnvR.unf {sx : Option Sx} {env : En} {σ : St} (hd : H d = some (.frz od (.dK vs))) (h : EnvR K ρ H sx env σ) : EnvR K ρ (upd H d (.dK vs)) sx env σ :=
  ⟨h.1, fun i x e => let ⟨v, e1, r⟩ := h.2.1 i x e; ⟨v, e1, r.unf hd⟩, fun q e => ⟨(h.2.2 q e).1, (h.2.2 q e).2.unf hd⟩⟩
theorem ObR.unf {a : Addr} {o : Ob} (hd : H d = Option.some (HO.frz od (.dK vs))) (ha : a ≠ d) (h : ObR K ρ H a o) : ObR K ρ (upd H d (.dK vs)) a o := by
  cases o with
  | lst xs => obtain ⟨ys, e, r⟩ := h; exact ⟨ys, by rw [upd_ne ha]; exact e, r.unf hd⟩
  | dct lk kvs => obtain ⟨ys, e, r⟩ := h; exact ⟨ys, e.eq (upd_ne ha), r.unf hd⟩
  | ins C fs => obtain ⟨Ca, dx, ys, m, e, q, r⟩ := h; exact ⟨Ca, dx, ys, m, by rw [upd_ne ha]; exact e, frz_ne hd q (fun z => by cases z), r.unf hd⟩
theorem Sim.unf {h : Hh} {n : Nat} {kvs : List (Key × Val)} (hd : H d = some (.frz od (.dK vs))) (S : Sim K ρ H h) (ea : ρ[n]? = some d) (eh : h[n]? = some (.dct true kvs)) : Sim K ρ (upd H d (.dK vs)) (h.set n (.dct false kvs)) := by
  refine ⟨by rw [List.length_set]; exact S.len, S.nd, fun j w e => ?_⟩
  by_cases hj : n = j
  · subst hj
    have hl : n < h.length := (List.getElem?_eq_some_iff.mp eh).1
    rw [List.getElem?_set_self hl] at e
    cases e
    obtain ⟨b, e1, ys, ⟨o, e2⟩, r⟩ := S.at_ n _ eh
    rw [ea] at e1
    cases e1
    rw [hd] at e2
    cases e2
    exact ⟨d, ea, vs, upd_same, r.unf hd⟩
  · rw [List.getElem?_set_ne hj] at e
    obtain ⟨b, e1, r⟩ := S.at_ j w e
    have nb : b ≠ d := fun z => hj (nodup_idx S.nd ea (z ▸ e1))
    exact ⟨b, e1, r.unf hd nb⟩
theorem Grow.unf (hd : H d = some (.dK vs)) (g : Grow ρ ρ' (upd H d (.frz od (.dK vs))) H') : Grow ρ ρ' H (upd H' d (.dK vs)) := by
  have ne : ∀ {a : Addr} {u : HO}, H a = some u → u ≠ .dK vs → a ≠ d := fun h hn z => by rw [z, hd] at h; exact hn (Option.some.inj h).symm
  refine ⟨g.pre, fun a fs h => ?_, fun a xs h => ?_, fun a o u h => ?_, fun a u h => ?_⟩
  · have na := ne h (fun z => by cases z)
    rw [upd_ne na]; exact g.xd a fs (by rw [upd_ne na]; exact h)
  · have na := ne h (fun z => by cases z)
    rw [upd_ne na]; exact g.tup a xs (by rw [upd_ne na]; exact h)
  · have na := ne h (fun z => by cases z)
    rw [upd_ne na]; exact g.frz a o u (by rw [upd_ne na]; exact h)
  · have na := ne h (fun z => by cases z)
    rw [upd_ne na]; exact g.ext a u (by rw [upd_ne na]; exact h)
end
def unlkH (n : Nat) (h : Hh) : Option Hh := match h[n]? with
  | some (.dct true kvs) => some (h.set n (.dct false kvs))
  | _ => none
def unlk (n : Nat) : RS → RS
  | .nx e h => (match unlkH n h with
    | some h' => .nx e h'
    | none => .stuck)
  | .rt v h => (match unlkH n h with
    | some h' => .rt v h'
    | none => .stuck)
  | .bk e h => (match unlkH n h with
    | some h' => .bk e h'
    | none => .stuck)
  | .ct e h => (match unlkH n h with
    | some h' => .ct e h'
    | none => .stuck)
  | .exc c fs e h => (match unlkH n h with
    | some h' => .exc c fs e h'
    | none => .stuck)
  | .stuck => .stuck
def sLk (i : Nat) (x : XS) : XS := fun e h => match e[i]? with
  | some (some (.loc n)) => (match h[n]? with
    | some (.dct false kvs) => unlk n (x e (h.set n (.dct true kvs)))
    | _ => .stuck)
  | _ => .stuck
def unlkE {α : Type} (n : Nat) : Res α → Res α
  | .ok v h => (match unlkH n h with
    | some h' => .ok v h'
    | none => .stuck)
  | .exc c fs h => (match unlkH n h with
    | some h' => .exc c fs h'
    | none => .stuck)
  | .stuck => .stuck
def xLk (i : Nat) (x : XE) : XE := fun e h => match e[i]? with
  | some (some (.loc n)) => (match h[n]? with
    | some (.dct false kvs) => unlkE n (x e (h.set n (.dct true kvs)))
    | _ => .stuck)
  | _ => .stuck
section
variable {X : Cx} {W : Wd}
theorem Takes.lock {d : Addr} {od : Obj} {vs : List (Key × V)} (tk : Takes X W.w) (nf : ∀ o' u', X.H_0 d ≠ some (.frz o' u')) : Takes X (fun cv dd σ' H' => H' d = some (.frz od (.dK vs)) ∧ W.w cv dd σ' (upd H' d (.dK vs))) :=
  fun u s' ⟨a, B, sI, pins, σ, H, cls, d', e, I, nb, up, sky, na, os, ag, w1, w2⟩ => tk u s' ⟨a, B, sI, pins, σ, _, cls, d', e, I.unlock w1 nf, nb, up, sky, by rw [upd_ne (fun z => by rw [z, w1] at na; cases na)]; exact na, os, ag, w2⟩
theorem unlkH_of {n : Nat} {h h' : Hh} (e : unlkH n h = some h') : ∃ kvs, h[n]? = some (.dct true kvs) ∧ h' = h.set n (.dct false kvs) := by
  unfold unlkH at e
  split at e
  · rename_i kvs e1; cases e; exact ⟨kvs, e1, rfl⟩
  · cases e
theorem qs_lock (i : Nat) {st : Stmt} {x : XS} (tk : Takes X W.w) (hb : ∀ w' : WX, Takes X w' → QS X ⟨w', none⟩ st x) (h0 : W.s = none := by rfl) : QS X W st (sLk i x) := by
  refine ⟨fun pins s σ H D I hw => ?_⟩
  obtain ⟨ρ, env, h, S, E, p⟩ := hw
  unfold sLk at p
  split at p
  · rename_i n en
    split at p
    · rename_i kvs eh
      obtain ⟨v, ev, rv⟩ := E.2.1 i _ en
      cases rv with
      | @loc _ d ea =>
      obtain ⟨vs, q1, r3⟩ := S.dct ea eh
      have mu : Mu (H d) := by rw [q1]; trivial
      have mt : Mut (some (.dK vs)) := trivial
      obtain ⟨od, I1⟩ := I.lock q1 mt
      have nf := I.nofrz q1 mt
      have g1 : Grow ρ ρ H (upd H d (.frz od (.dK vs))) := Grow.put mu
      have S1 := S.put (u := .dct true kvs) (o := .frz od (.dK vs)) ea mu ⟨vs, ⟨od, upd_same⟩, r3.mono g1⟩
      have fin : ∀ {ρ' : List Addr} {H' : Hp} {h1 h2 : Hh}, Grow ρ ρ' (upd H d (.frz od (.dK vs))) H' → Sim (gw X) ρ' H' h1 → unlkH n h1 = some h2 → H' d = some (.frz od (.dK vs)) ∧ Grow ρ ρ' H (upd H' d (.dK vs)) ∧ Sim (gw X) ρ' (upd H' d (.dK vs)) h2 := fun {ρ' H' h1 h2} g s e => by
        obtain ⟨kvs1, e1, rfl⟩ := unlkH_of e
        have hd := g.frz d od _ upd_same
        exact ⟨hd, Grow.unf q1 g, s.unf hd (g.get ea) e1⟩
      have E1 : EnvR (gw X) ρ (upd H d (.frz od (.dK vs))) none env σ := by have := E.mono g1; rw [h0] at this; exact this
      refine thn ((hb _ (Takes.lock (od := od) (vs := vs) tk nf)).run pins s σ (upd H d (.frz od (.dK vs))) ⟨fun σ' H' => H' d = some (.frz od (.dK vs)) ∧ D.nx σ' (upd H' d (.dK vs)), fun v H' => H' d = some (.frz od (.dK vs)) ∧ D.rt v (upd H' d (.dK vs)), fun σ' H' => H' d = some (.frz od (.dK vs)) ∧ D.bk σ' (upd H' d (.dK vs)), fun σ' H' => H' d = some (.frz od (.dK vs)) ∧ D.ct σ' (upd H' d (.dK vs))⟩ I1 ⟨ρ, env, _, S1, E1, ?_⟩) fun f s1 q => ?_
      · cases er : x env (h.set n (.dct true kvs)) with
        | nx e1 h1 =>
          rw [er] at p
          cases eu : unlkH n h1 with
          | none => simp only [unlk, eu] at p; exact p.elim
          | some h2 =>
            simp only [unlk, eu] at p
            intro ρ' H' σ' g s er
            obtain ⟨hd, g2, s2⟩ := fin g s eu
            exact ⟨hd, p ρ' _ σ' g2 s2 (by rw [h0]; exact er.unf hd)⟩
        | rt e1 h1 =>
          rw [er] at p
          cases eu : unlkH n h1 with
          | none => simp only [unlk, eu] at p; exact p.elim
          | some h2 =>
            simp only [unlk, eu] at p
            intro ρ' H' σ' g s er
            obtain ⟨hd, g2, s2⟩ := fin g s eu
            exact ⟨hd, p ρ' _ σ' g2 s2 (er.unf hd)⟩
        | bk e1 h1 =>
          rw [er] at p
          cases eu : unlkH n h1 with
          | none => simp only [unlk, eu] at p; exact p.elim
          | some h2 =>
            simp only [unlk, eu] at p
            intro ρ' H' σ' g s er
            obtain ⟨hd, g2, s2⟩ := fin g s eu
            exact ⟨hd, p ρ' _ σ' g2 s2 (by rw [h0]; exact er.unf hd)⟩
        | ct e1 h1 =>
          rw [er] at p
          cases eu : unlkH n h1 with
          | none => simp only [unlk, eu] at p; exact p.elim
          | some h2 =>
            simp only [unlk, eu] at p
            intro ρ' H' σ' g s er
            obtain ⟨hd, g2, s2⟩ := fin g s eu
            exact ⟨hd, p ρ' _ σ' g2 s2 (by rw [h0]; exact er.unf hd)⟩
        | exc c fs e1 h1 =>
          rw [er] at p
          cases eu : unlkH n h1 with
          | none => simp only [unlk, eu] at p; exact p.elim
          | some h2 =>
            simp only [unlk, eu] at p
            intro ρ' H' dd σ' cv g s er xc em
            obtain ⟨hd, g2, s2⟩ := fin g s eu
            exact ⟨hd, p ρ' _ dd σ' cv g2 s2 (by rw [h0]; exact er.unf hd) (xc.unf hd) em⟩
        | stuck => rw [er] at p; exact p.elim
      · cases f with
        | next => obtain ⟨σ', H', I2, e, q⟩ := q; exact ⟨σ', _, I2.unlock e nf, q⟩
        | brk => obtain ⟨σ', H', I2, e, q⟩ := q; exact ⟨σ', _, I2.unlock e nf, q⟩
        | cont => obtain ⟨σ', H', I2, e, q⟩ := q; exact ⟨σ', _, I2.unlock e nf, q⟩
        | ret v => obtain ⟨x, σ', H', I2, r, e, q⟩ := q; exact ⟨x, σ', _, I2.unlock e nf, r, q⟩
    · exact p.elim
  · exact p.elim
theorem q_lockE (i : Nat) {e : Expr} {x : XE} (tk : Takes X W.w) (hb : ∀ w' : WX, Takes X w' → QE X ⟨w', W.s⟩ e x) : QE X W e (xLk i x) := by
  refine ⟨fun pins s σ H Q I hw => ?_⟩
  obtain ⟨ρ, env, h, S, E, p⟩ := hw
  unfold xLk at p
  split at p
  · rename_i n en
    split at p
    · rename_i kvs eh
      obtain ⟨v, ev, rv⟩ := E.2.1 i _ en
      cases rv with
      | @loc _ d ea =>
      obtain ⟨vs, q1, r3⟩ := S.dct ea eh
      have mu : Mu (H d) := by rw [q1]; trivial
      have mt : Mut (some (.dK vs)) := trivial
      obtain ⟨od, I1⟩ := I.lock q1 mt
      have nf := I.nofrz q1 mt
      have g1 : Grow ρ ρ H (upd H d (.frz od (.dK vs))) := Grow.put mu
      have S1 := S.put (u := .dct true kvs) (o := .frz od (.dK vs)) ea mu ⟨vs, ⟨od, upd_same⟩, r3.mono g1⟩
      have fin : ∀ {ρ' : List Addr} {H' : Hp} {h1 h2 : Hh}, Grow ρ ρ' (upd H d (.frz od (.dK vs))) H' → Sim (gw X) ρ' H' h1 → unlkH n h1 = some h2 → H' d = some (.frz od (.dK vs)) ∧ Grow ρ ρ' H (upd H' d (.dK vs)) ∧ Sim (gw X) ρ' (upd H' d (.dK vs)) h2 := fun {ρ' H' h1 h2} g s e => by
        obtain ⟨kvs1, e1, rfl⟩ := unlkH_of e
        have hd := g.frz d od _ upd_same
        exact ⟨hd, Grow.unf q1 g, s.unf hd (g.get ea) e1⟩
      refine thn ((hb _ (Takes.lock (od := od) (vs := vs) tk nf)).run pins s σ (upd H d (.frz od (.dK vs))) (fun v H' => H' d = some (.frz od (.dK vs)) ∧ Q v (upd H' d (.dK vs))) I1 ⟨ρ, env, _, S1, E.mono g1, ?_⟩) fun v s1 ⟨y, H1, I2, r, e2, q⟩ => ⟨y, _, I2.unlock e2 nf, r, q⟩
      cases er : x env (h.set n (.dct true kvs)) with
      | ok v h1 =>
        rw [er] at p
        cases eu : unlkH n h1 with
        | none => simp only [unlkE, eu] at p; exact p.elim
        | some h2 =>
          simp only [unlkE, eu] at p
          intro ρ' H' g s u ru
          obtain ⟨hd, g2, s2⟩ := fin g s eu
          exact ⟨hd, p ρ' _ g2 s2 u (ru.unf hd)⟩
      | exc c fs h1 =>
        rw [er] at p
        cases eu : unlkH n h1 with
        | none => simp only [unlkE, eu] at p; exact p.elim
        | some h2 =>
          simp only [unlkE, eu] at p
          intro ρ' H' dd cv g s xc em
          obtain ⟨hd, g2, s2⟩ := fin g s eu
          exact ⟨hd, p ρ' _ dd cv g2 s2 (xc.unf hd) em⟩
      | stuck => rw [er] at p; exact p.elim
    · exact p.elim
  · exact p.elim
/-! ### keys, values, items of a locked dict -/
inductive Md where
  | keys
  | vals
  | items
def kX : Key → Val
  | .inl i => .int i
  | .inr s => .str s
def Md.x : Md → Key × Val → Val
  | .keys, kv => kX kv.1
  | .vals, kv => kv.2
  | .items, kv => .tup [kX kv.1, kv.2]
def xDIt (i : Nat) (md : Md) : XI := fun e h => match e[i]? with
  | some (some (.loc n)) => (match h[n]? with
    | some (.dct true kvs) => .ok (.items (kvs.map md.x)) h
    | _ => .stuck)
  | _ => .stuck
def Md.it (d : Addr) (o : Obj) (vs : List (Key × V)) : Md → It
  | .keys => Itk d o vs
  | .vals => Itd d o vs
  | .items => Iti d o vs
theorem rep_kX {K : Gw} {ρ : List Addr} {H : Hp} (k : Key) : Rep K ρ H (kX k) (kV k) := by
  cases k with
  | inl i => exact .int i
  | inr s => exact .str s
theorem Paired.getB {α β : Type} {R : α → β → Prop} : ∀ {xs : List α} {ys : List β} {i : Nat} {y : β}, Paired R xs ys → ys[i]? = some y → ∃ x, xs[i]? = some x ∧ R x y
  | _, _, _, _, .nil, e => by simp at e
  | _, _, 0, _, .cons a t, e => by simp at e; subst e; exact ⟨_, rfl, a⟩
  | _, _, i + 1, _, .cons a t, e => by
    obtain ⟨x, e1, r⟩ := Paired.getB (i := i) t (by simpa using e)
    exact ⟨x, by simpa using e1, r⟩
theorem itR_dict {K : Gw} {ρ : List Addr} {H : Hp} {d : Addr} {o : Obj} {vs : List (Key × V)} {kvs : List (Key × Val)} (md : Md) (hd : H d = some (.frz o (.dK vs))) (r : RepF K ρ H kvs vs) : ItR K ρ H (.items (kvs.map md.x)) (md.it d o vs) := by
  have hl : (kvs.map md.x).length = vs.length := by rw [List.length_map]; exact Paired.length r
  have key : ∀ {i : Nat} {x : Val} {k : Key} {v : V}, (kvs.map md.x)[i]? = some x → vs[i]? = some (k, v) → ∃ w, x = md.x (k, w) ∧ Rep K ρ H w v := fun {i x k v} h1 h2 => by
    obtain ⟨y, e1, q1, q2⟩ := Paired.getB r h2
    rw [List.getElem?_map, e1] at h1
    cases h1
    obtain ⟨k', w⟩ := y
    cases q1
    exact ⟨w, rfl, q2⟩
  refine ⟨fun i ρ' H' h g S ok hi => ?_, fun i ρ' H' h x v H2 g S ok hx y => ?_, fun i ρ' H' h g S ok hi => ?_⟩
  · have hi2 : i < vs.length := by rw [← hl]; exact hi
    cases md <;> exact ⟨g.frz _ _ _ hd, hi2⟩
  · cases md with
    | keys =>
      obtain ⟨rfl, k, w, e, rfl⟩ := y
      obtain ⟨w', rfl, _⟩ := key hx e
      exact ⟨Grow.refl _ _, S, rep_kX k⟩
    | vals =>
      obtain ⟨rfl, k, e⟩ := y
      obtain ⟨w', rfl, q⟩ := key hx e
      exact ⟨Grow.refl _ _, S, q.mono g⟩
    | items =>
      obtain ⟨T, k, w, e, rfl, hT, rfl⟩ := y
      obtain ⟨w', rfl, q⟩ := key hx e
      have g2 : Grow ρ' ρ' H' (upd H' T (.tup [kV k, w])) := Grow.new hT
      exact ⟨g2, S.new hT, .tup (.inl (.inl upd_same)) (.cons (rep_kX k) (.cons ((q.mono g).mono g2) .nil))⟩
  · have hi2 : vs.length ≤ i := by rw [← hl]; exact hi
    cases md <;> exact ⟨g.frz _ _ _ hd, hi2⟩
theorem dit_of {K : Gw} {i : Nat} {md : Md} {σ : St} {H : Hp} {R : It → Hp → Prop} (h : tXI K W (xDIt i md) σ H R) : ∃ d o vs, σ[i]? = some (some (.ref d)) ∧ H d = some (.frz o (.dK vs)) ∧ R (md.it d o vs) H := by
  obtain ⟨ρ, env, h, S, E, p⟩ := h
  unfold xDIt at p
  split at p
  · rename_i n en
    split at p
    · rename_i kvs eh
      obtain ⟨v, ev, rv⟩ := E.2.1 i _ en
      cases rv with
      | @loc _ d ea =>
      obtain ⟨b, e1, vs, ⟨o, e2⟩, r⟩ := S.at_ n _ eh
      rw [ea] at e1
      cases e1
      exact ⟨d, o, vs, ev, e2, p ρ H (Grow.refl _ _) S _ trivial (itR_dict md e2 r)⟩
    · exact p.elim
  · exact p.elim
variable {tg e : Expr} {apos cpos : Pos}
theorem qi_keys (i : Nat) (hv : PE X e (tVar i)) : QI X W tg e (xDIt i .keys) := PI.of (pi_keys hv) fun σ H R h => by
  obtain ⟨d, o, vs, e1, e2, r⟩ := dit_of h
  exact ⟨_, e1, d, o, rfl, .inl ⟨vs, e2, r⟩⟩
theorem qi_vals (i : Nat) (hv : PE X e (tVar i)) (hbase : attributeBase e "values" X.env (eval e X.env) = eval e X.env := by rfl) (hline : (apos.endLine == cpos.line) = true := by rfl) : QI X W tg (.Call (.Attribute e "values" apos) [] [] cpos) (xDIt i .vals) := PI.of (pi_values hv hbase hline) fun σ H R h => by
  obtain ⟨d, o, vs, e1, e2, r⟩ := dit_of h
  exact ⟨_, e1, d, o, vs, rfl, e2, r⟩
theorem qi_items (i : Nat) {elts : List Expr} {kk : Nat} {tpos : Pos} (hv : PE X e (tVar i)) (hbase : attributeBase e "items" X.env (eval e X.env) = eval e X.env := by rfl) (hline : (apos.endLine == cpos.line) = true := by rfl) : QI X W (.Tuple elts kk tpos) (.Call (.Attribute e "items" apos) [] [] cpos) (xDIt i .items) := PI.of (pi_items hv hbase hline) fun σ H R h => by
  obtain ⟨d, o, vs, e1, e2, r⟩ := dit_of h
  exact ⟨_, e1, d, o, vs, rfl, e2, r⟩
end
end EX

set_option Elab.async false
set_option linter.all false
set_option maxRecDepth 100000
set_option maxHeartbeats 1000000
namespace EX
open PySem L2
section
variable {X : Cx} {W : Wd}
/-! ### isinstance with two classes -/
theorem tyName_ok {K : Gw} {ρ : List Addr} {H : Hp} {h : Hh} {v : Val} {x : V} {a : String} (S : Sim K ρ H h) (r1 : Rep K ρ H v x) (et : tyName v h = some a) : TyX K.K H x (.type a) := by
  unfold tyName at et
  split at et
  · cases r1; cases et; exact .base .non
  · cases r1; cases et; exact .base (.bl _)
  · cases r1; cases et; exact .base (.int _)
  · cases r1; cases et; exact .base (.str _)
  · cases r1 with
    | tup s1 q1 => cases et; exact tup_ty s1
  · cases r1 with
    | @loc n a ea =>
    split at et
    · rename_i e2
      cases et
      obtain ⟨vs, q1, _⟩ := S.lst ea e2
      exact .base (.lst q1)
    · rename_i e2
      cases et
      obtain ⟨vs, q1, _⟩ := S.dct ea e2
      exact .base (.dK q1)
    · cases et
  · cases et
def kitL (a : String) : List String → Option Bool
  | [] => some false
  | T :: r => match kitB a T with
    | some true => some true
    | some false => kitL a r
    | none => none
theorem kitL_ok {K : PySem.W.Frag} {a : String} : ∀ {Ts : List String} {b : Bool}, kitL a Ts = some b → PySem.W.kitAny K (.type a) (Ts.map Value.type) = some b
  | [], _, e => e
  | T :: r, b, e => by
    unfold kitL at e
    show (match PySem.W.kitOne K (.type a) (.type T) with | some true => some true | some false => PySem.W.kitAny K (.type a) (r.map Value.type) | none => none) = some b
    cases e1 : kitB a T with
    | none => rw [e1] at e; cases e
    | some c =>
      rw [e1] at e
      rw [kit_ty e1]
      cases c with
      | true => exact e
      | false => exact kitL_ok (Ts := r) e
def xIsiT (Ts : List String) (x : XE) : XE := fun e h => (x e h).bind fun v h1 => match tyName v h1 with
  | some a => (match kitL a Ts with
    | some b => .ok (.bl b) h1
    | none => .stuck)
  | none => .stuck
theorem q_isiT {a e1 e2 : Expr} {xa : XE} {T1 T2 : String} {p pos ptp : Pos} {kt : Nat} (hg : Gl X "isinstance") (hm : X.mg "isinstance" = none) (ha : QE X W a xa) (h1 : PE X e1 (tC (.ty T1))) (h2 : PE X e2 (tC (.ty T2)))
    (he : starEach (a :: [.Tuple [e1, e2] kt ptp]) X.env = (false, eval a X.env) :: starEach [.Tuple [e1, e2] kt ptp] X.env := by rfl) (hpl : (backTo pos (starEach [.Tuple [e1, e2] kt ptp] X.env)).any (·.1) = false := by rfl)
    (hs1 : starEach (.Tuple [e1, e2] kt ptp :: []) X.env = (false, eval (.Tuple [e1, e2] kt ptp) X.env) :: starEach [] X.env := by rfl) (hs2 : starEach (e1 :: [e2]) X.env = (false, eval e1 X.env) :: starEach [e2] X.env := by rfl) (hs3 : starEach (e2 :: []) X.env = (false, eval e2 X.env) :: starEach [] X.env := by rfl) :
    QE X W (.Call (.Name "isinstance" p) [a, .Tuple [e1, e2] kt ptp] [] pos) (xIsiT [T1, T2] xa) := by
  refine PE.of (pe_callB call_isiT hg hm bt_isinstance (pa_cons ha (pa_cons (pe_tup (pa_cons h1 (pa_cons h2 pa_nil hs3) hs2)) pa_nil hs1) he) (by decide) (by decide) he hpl) fun σ H Q ⟨ρ, env, h, S, E, q⟩ => ?_
  refine ⟨ρ, env, h, S, E, (Post.bind q).imp fun v h1 ρ1 H1 g1 S1 q1 u ru => ?_⟩
  refine ⟨by show 2 ≤ sizeLine; decide, fun t ht => ?_⟩
  cases et : tyName v h1 with
  | none => rw [et] at q1; exact q1.elim
  | some nm =>
    rw [et] at q1
    cases ek : kitL nm [T1, T2] with
    | none => simp only [ek] at q1; exact q1.elim
    | some b =>
      simp only [ek] at q1
      have g2 : Grow ρ1 ρ1 H1 (upd H1 t (.tup [.ty T1, .ty T2])) := Grow.new ht
      exact ⟨u, t, [.ty T1, .ty T2], .type nm, [.type T1, .type T2], b, rfl, upd_same, .cons (.ty T1) (.cons (.ty T2) .nil), tyName_ok (S1.new ht) (ru.mono g2) et, kitL_ok ek, q1 ρ1 _ g2 (S1.new ht) _ (.bl b)⟩
/-! ### lists of whole numbers: sorted, count, max -/
def intsX : List Val → Option (List Int)
  | [] => some []
  | .int i :: r => (intsX r).map (i :: ·)
  | _ :: _ => none
theorem ints_rep {K : Gw} {ρ : List Addr} {H : Hp} : ∀ {xs : List Val} {vs : List V} {ns : List Int}, RepL K ρ H xs vs → intsX xs = some ns → vs = ns.map V.int
  | _, _, _, .nil, e => by cases e; rfl
  | _, _, ns, .cons r t, e => by
    cases r with
    | int b =>
      rename_i xs vs
      have e : (intsX xs).map (b :: ·) = some ns := e
      cases e1 : intsX xs with
      | none => rw [e1] at e; cases e
      | some cs => rw [e1] at e; cases e; rw [ints_rep t e1]; rfl
    | _ => cases e
theorem repL_ints {K : Gw} {ρ : List Addr} {H : Hp} : ∀ ns : List Int, RepL K ρ H (ns.map Val.int) (ns.map V.int)
  | [] => .nil
  | n :: ns => .cons (.int n) (repL_ints ns)
def sortI (ns : List Int) : List Int := ns.mergeSort fun a b => decide (a ≤ b)
theorem sortI_perm (ns : List Int) : (sortI ns).Perm ns := List.mergeSort_perm ns _
theorem sortI_le (ns : List Int) : (sortI ns).Pairwise (· ≤ ·) := by
  have := List.pairwise_mergeSort (le := fun (a b : Int) => decide (a ≤ b)) (fun a b c h1 h2 => by simp at h1 h2 ⊢; omega) (fun a b => by simp; omega) ns
  exact this.imp fun h => by simpa using h
theorem sortI_eq {ns ns' : List Int} (p : ns'.Perm ns) (s : ns'.Pairwise (· ≤ ·)) : ns' = sortI ns :=
  (p.trans (sortI_perm ns).symm).eq_of_pairwise (fun a b _ _ h1 h2 => by omega) s (sortI_le ns)
def oSorted : OpN := fun as h => match as with
  | [.loc n] => (match h[n]? with
    | some (.lst xs) => (intsX xs).map fun ns => (.loc h.length, h ++ [.lst ((sortI ns).map Val.int)])
    | _ => none)
  | _ => none
theorem call_sorted_x : CallR X (.builtin "sorted") (rSN (gw X) oSorted) := by
  intro pins s σ H xs us Q I rs ⟨ρ, h, as, z, h', S, ra, e, k⟩
  unfold oSorted at e
  split at e
  · cases ra with
    | cons r1 r2 =>
    cases r2
    cases r1 with
    | @loc n a ea =>
    split at e
    · rename_i ys e2
      obtain ⟨ns, en, e3⟩ := Option.map_eq_some_iff.mp e
      cases e3
      obtain ⟨vs, q1, r3⟩ := S.lst ea e2
      have ev := ints_rep r3 en
      subst ev
      refine cr_sortedI pins s σ H _ us Q I rs ⟨a, ns, rfl, .inl (.inl q1), fun ns' p pm sr hp => ?_⟩
      have := sortI_eq pm sr
      subst this
      obtain ⟨g, s3, r4⟩ := new_loc S hp (repL_ints (sortI ns))
      exact k _ _ _ g s3 r4
    · cases e
  · cases e
def oCount : OpM := fun a as h => match a, as with
  | .loc n, [.int j] => (match h[n]? with
    | some (.lst xs) => (intsX xs).map fun ns => (.int (ns.count j : Nat), h)
    | _ => none)
  | _, _ => none
theorem mt_count_x : MtR X "list.count" (rSM (gw X) oCount) := by
  intro pins s σ H x xs v us Q I rx rs ⟨ρ, h, a, as, z, h', S, ra, ras, e, k⟩
  unfold oCount at e
  split at e
  · cases ra with
    | @loc n a1 ea =>
    cases ras with
    | cons r1 r2 =>
    cases r2; cases r1
    split at e
    · rename_i ys e2
      obtain ⟨ns, en, e3⟩ := Option.map_eq_some_iff.mp e
      cases e3
      obtain ⟨vs, q1, r3⟩ := S.lst ea e2
      have ev := ints_rep r3 en
      subst ev
      exact mt_lcount pins s σ H _ _ v us Q I rx rs ⟨a1, ns, _, rfl, rfl, .inl (.inl q1), k ρ H _ (Grow.refl _ _) S (.int _)⟩
    · cases e
  · cases e
def oMaxL : OpN := fun as h => match as with
  | [.loc n] => (match h[n]? with
    | some (.lst xs) => (match intsX xs with
      | some ns => ns.max?.map fun m => (.int m, h)
      | none => none)
    | _ => none)
  | _ => oMax as h
theorem call_maxL_x (hc : X.calm = true) : CallR X (.builtin "max") (rSN (gw X) oMaxL) := by
  intro pins s σ H xs us Q I rs ⟨ρ, h, as, z, h', S, ra, e, k⟩
  unfold oMaxL at e
  split at e
  · cases ra with
    | cons r1 r2 =>
    cases r2
    cases r1 with
    | @loc n a ea =>
    split at e
    · rename_i ys e2
      split at e
      · rename_i ns en
        obtain ⟨m, em, e3⟩ := Option.map_eq_some_iff.mp e
        cases e3
        obtain ⟨vs, q1, r3⟩ := S.lst ea e2
        have ev := ints_rep r3 en
        subst ev
        obtain ⟨m1, m2⟩ := List.max?_eq_some_iff.mp em
        refine cr_max hc pins s σ H _ us Q I rs ⟨a, ns, rfl, .inl (.inl q1), List.length_pos_of_mem m1, fun m' h1 h2 => ?_⟩
        have : m' = m := by have := m2 m' h1; have := h2 m m1; omega
        subst this
        exact k ρ H _ (Grow.refl _ _) S (.int _)
      · cases e
    · cases e
  · exact call_max_x hc pins s σ H xs us Q I rs ⟨ρ, h, as, z, h', S, ra, e, k⟩
/-! ### dicts: list(d), list(d.items()), d.get(k, x), d.clear(), dict(d) -/
def oListD : OpN := fun as h => match as with
  | [.loc n] => (match h[n]? with
    | some (.dct _ kvs) => some (.loc h.length, h ++ [.lst (kvs.map fun kv => kX kv.1)])
    | _ => oList as h)
  | _ => oList as h
theorem repL_keys {K : Gw} {ρ : List Addr} {H : Hp} : ∀ {kvs : List (Key × Val)} {vs : List (Key × V)}, RepF K ρ H kvs vs → RepL K ρ H (kvs.map fun kv => kX kv.1) (vs.map fun kv => kV kv.1)
  | _, _, .nil => .nil
  | _, _, .cons (a := p) (b := q) r t => by
    rw [List.map_cons, List.map_cons, ← r.1]
    exact .cons (rep_kX _) (repL_keys t)
theorem call_listD_x (hc : X.calm = true) : CallR X (.type "list") (rSN (gw X) oListD) := by
  intro pins s σ H xs us Q I rs ⟨ρ, h, as, z, h', S, ra, e, k⟩
  have old : oList as h = some (z, h') → _ := fun e => call_list_x pins s σ H xs us Q I rs ⟨ρ, h, as, z, h', S, ra, e, k⟩
  unfold oListD at e
  split at e
  · split at e
    · rename_i n lk kvs e2
      cases e
      cases ra with
      | cons r1 r2 =>
      cases r2
      cases r1 with
      | @loc n a ea =>
      obtain ⟨vs, q1, r3⟩ := S.dctR ea e2
      refine call_listD hc pins s σ H _ us Q I rs ⟨a, vs, rfl, q1, fun p hp => ?_⟩
      obtain ⟨g, s3, r4⟩ := new_loc S hp (repL_keys r3)
      exact k _ _ _ g s3 r4
    · exact old e
  · exact old e
def xGet (o k d : XE) : XE := fun e h => (o e h).bind fun ov h1 => match ov with
  | .loc n => (match h1[n]? with
    | some (.dct _ _) => (k e h1).bind fun kv h2 => (d e h2).bind fun dv h3 => (match h3[n]?, keyOf kv with
      | some (.dct _ kvs), some key => .ok ((valX kvs key).getD dv) h3
      | _, _ => .stuck)
    | _ => .stuck)
  | _ => .stuck
theorem get_of {K : Gw} {xo xk xd : XE} {σ : St} {H : Hp} {Q : VK} (h : tX K W (xGet xo xk xd) σ H Q) : tDGet2 (tX K W xo) (tX K W xk) (tX K W xd) σ H Q := by
  obtain ⟨ρ, env, h, S, E, q⟩ := h
  refine ⟨ρ, env, h, S, E, (Post.bind q).imp fun ov h1 ρ1 H1 g1 S1 q1 u ru => ?_⟩
  cases ru with
  | @loc n a ea =>
    dsimp only at q1
    split at q1
    · rename_i lk kvs0 e0
      obtain ⟨vs0, d0, _⟩ := S1.dctR ea e0
      refine ⟨a, rfl, .inl ⟨vs0, d0⟩, ρ1, env, h1, S1, E.mono g1, (Post.bind q1).imp fun kv h2 ρ2 H2 g2 S2 q2 y ry => ⟨ρ2, env, h2, S2, (E.mono g1).mono g2, (Post.bind q2).imp fun dv h3 ρ3 H3 g3 S3 q3 z rz => ?_⟩⟩
      split at q3
      · rename_i lk3 kvs key e3 ek
        obtain ⟨vs, d3, r3⟩ := S3.dctR ((g2.trans g3).get ea) e3
        have ey := keyOf_rep ry ek
        subst ey
        refine ⟨valV vs key, .inl ⟨vs, key, d3, rfl, rfl⟩, ?_⟩
        cases ev : valX kvs key with
        | none => rw [ev] at q3; rw [(val_rep r3).2 ev]; exact q3 ρ3 H3 (Grow.refl _ _) S3 _ rz
        | some w =>
          rw [ev] at q3
          obtain ⟨u1, e6, rw1⟩ := (val_rep r3).1 w ev
          rw [e6]
          exact q3 ρ3 H3 (Grow.refl _ _) S3 _ rw1
      · exact q3.elim
    · exact q1.elim
  | _ => exact q1.elim
theorem q_get {o e f : Expr} {apos cpos : Pos} {xo xk xd : XE} (hu : X.A.units + 1 < cLine) (ho : QE X W o xo) (he : QE X W e xk) (hf : QE X W f xd) (m : M2 X o "get" apos e f cpos := by exact ⟨rfl, rfl, rfl, rfl⟩) : QE X W (.Call (.Attribute o "get" apos) [e, f] [] cpos) (xGet xo xk xd) :=
  PE.of (pe_dget2 hu ho he hf m) fun _ _ _ => get_of
def oClear : Op1 := fun a h => match a with
  | .loc n => (match h[n]? with
    | some (.dct false kvs) => some (.non, h.set n (.dct false []))
    | _ => none)
  | _ => none
theorem q_clear {o : Expr} {apos cpos : Pos} {xo : XE} (ho : QE X W o xo) (hbase : attributeBase o "clear" X.env (eval o X.env) = eval o X.env := by rfl) (hline : (apos.endLine == cpos.line) = true := by rfl) : QE X W (.Call (.Attribute o "clear" apos) [] [] cpos) (xUn oClear xo) :=
  PE.of (pe_dclear ho hbase hline) fun σ H Q ⟨ρ, env, h, S, E, q⟩ => by
    refine ⟨ρ, env, h, S, E, (Post.bind q).imp fun v h1 ρ1 H1 g1 S1 q1 u ru => ?_⟩
    obtain ⟨z, h', e, k⟩ := Post.of q1
    unfold oClear at e
    split at e
    · cases ru with
      | @loc n a ea =>
      split at e
      · rename_i kvs e2
        cases e
        obtain ⟨vs, d1, r3⟩ := S1.dct ea e2
        have mu : Mu (H1 a) := by rw [d1]; trivial
        exact ⟨.inr (.inr (.inl ⟨rfl, .inl ⟨vs, d1⟩⟩)), a, vs, rfl, rfl, d1, k ρ1 _ _ (Grow.put mu) (S1.put (u := .dct false []) ea mu ⟨[], upd_same, .nil⟩) .non⟩
      · cases e
    · cases e
/-- list(d.items()) -/
def oItems : Op1 := fun a h => match a with
  | .loc n => (match h[n]? with
    | some (.dct false kvs) => some (.loc h.length, h ++ [.lst (kvs.map Md.items.x)])
    | _ => none)
  | _ => none
theorem items_rep {K : Gw} {ρ ρ' : List Addr} {H H' : Hp} (g : Grow ρ ρ' H H') : ∀ {kvs : List (Key × Val)} {vs : List (Key × V)} {ts : List Addr}, RepF K ρ H kvs vs → Paired (fun (t : Addr) (q : Key × V) => H' t = some (.tup [kV q.1, q.2])) ts vs → RepL K ρ' H' (kvs.map Md.items.x) (ts.map V.ref)
  | _, _, _, .nil, .nil => .nil
  | _, _, _, .cons (a := p) (b := q) r t, .cons e s => by
    rw [List.map_cons, List.map_cons]
    refine .cons (.tup (.inl (.inl e)) ?_) (items_rep g t s)
    rw [← r.1]
    exact .cons (rep_kX _) (.cons (r.2.mono g) .nil)
theorem q_items {o : Expr} {p apos cpos pos : Pos} {xo : XE} (hg : Gl X "list") (hm : X.mg "list" = none) (ho : QE X W o xo) (hc : X.calm = true := by rfl) (hbase : attributeBase o "items" X.env (eval o X.env) = eval o X.env := by rfl) (hline : (apos.endLine == cpos.line) = true := by rfl)
    (hs : starEach [.Call (.Attribute o "items" apos) [] [] cpos] X.env = (false, eval (.Call (.Attribute o "items" apos) [] [] cpos) X.env) :: starEach [] X.env := by rfl) :
    QE X W (.Call (.Name "list" p) [.Call (.Attribute o "items" apos) [] [] cpos] [] pos) (xUn oItems xo) :=
  PE.of (LiI.pe_listItems hc ho hg hm bt_list hbase hline hs) fun σ H Q ⟨ρ, env, h, S, E, q⟩ => by
    refine ⟨ρ, env, h, S, E, (Post.bind q).imp fun v h1 ρ1 H1 g1 S1 q1 u ru => ?_⟩
    obtain ⟨z, h', e, k⟩ := Post.of q1
    unfold oItems at e
    split at e
    · cases ru with
      | @loc n a ea =>
      split at e
      · rename_i kvs e2
        cases e
        obtain ⟨vs, d1, r3⟩ := S1.dct ea e2
        refine ⟨a, vs, rfl, d1, fun H' p' ts kp np nts npt ep et => ?_⟩
        have g2 : Grow ρ1 ρ1 H1 H' := ⟨⟨[], by simp⟩, fun b xs e => kp b _ e, fun b xs e => kp b _ e, fun b o u e => kp b _ e, fun b u e => kp b _ e⟩
        have np' : p' ∉ ρ1 := fun z => S1.tracked z np
        have g3 : Grow ρ1 (ρ1 ++ [p']) H1 H' := g2.snoc
        have at_ : (ρ1 ++ [p'])[h1.length]? = some p' := by
          rw [List.getElem?_append_right (by rw [S1.len]; exact Nat.le_refl _), S1.len, Nat.sub_self]; rfl
        refine k (ρ1 ++ [p']) H' _ g3 ⟨by rw [List.length_append, List.length_append, S1.len]; rfl, nodup_snoc S1.nd np', fun j w e => ?_⟩ (.loc at_)
        by_cases hj : j < h1.length
        · rw [List.getElem?_append_left hj] at e
          obtain ⟨b, e1, r⟩ := S1.at_ j w e
          refine ⟨b, by rw [List.getElem?_append_left (by rw [S1.len]; exact hj)]; exact e1, r.mono g3 ?_ fun d hd => kp d _ hd⟩
          cases hb : H1 b with
          | none => exact absurd hb r.some
          | some ob => exact kp b ob hb
        · have e0 : j = h1.length := by
            have := (List.getElem?_eq_some_iff.mp e).1
            rw [List.length_append, List.length_singleton] at this
            omega
          subst e0
          rw [List.getElem?_append_right (Nat.le_refl _), Nat.sub_self] at e
          cases e
          exact ⟨p', at_, _, ep, items_rep g3 r3 et⟩
      · cases e
    · cases e
end
end EX

set_option Elab.async false
set_option linter.all false
set_option maxRecDepth 100000
set_option maxHeartbeats 1000000
namespace EX
open PySem PySem.Spec L2
open PyProof.Rows hiding St
/-! ### own exceptions over any built-in of which the kit has the facts: the class, its making, its fields -/
/-- the built-in base: its __new__, its __init__, its mro -/
structure Bb where
  B : String
  nw : String
  ini : String
  mro : List Value
structure BbOk (b : Bb) : Prop where
  fb : ExcBaseFacts b.B b.nw b.ini b.mro
  sf : StoreFacts b.B b.mro "object.__setattr__" "object"
def bLook : Bb := ⟨"LookupError", "LookupError.__new__", "LookupError.__init__", [.type "LookupError", .type "Exception", .type "BaseException", .type "object"]⟩
def bVal : Bb := ⟨"ValueError", "ValueError.__new__", "ValueError.__init__", [.type "ValueError", .type "Exception", .type "BaseException", .type "object"]⟩
theorem look_ok : BbOk bLook := ⟨F.excBase_LookupError, F.store_LookupError⟩
theorem val_ok : BbOk bVal := ⟨F.excBase_ValueError, F.store_ValueError⟩
/-- what the written part says of a class over b -/
structure OexG (b : Bb) (K : PySem.W.Frag) (C : Addr) : Prop where
  cls : ∃ nm q N bs bm sn sub ab col dd k0 k1 k2 k3 k5, K.lookup C = some (excClassObj nm q C N bs bm true sn sub ab col dd k0 k1 k2 k3 k5 b.nw) ∧ PySem.W.excTail b.mro bm = true
  sa : PySem.W.findIn K (.ref C) "__setattr__" = some (some (.builtin "object.__setattr__"))
  bx : PySem.W.subIn K (.ref C) (.type "BaseException") = some true
  ty : PySem.W.typeIn K (.ref C) = some (.type "type")
  kp : PySem.W.keepIn K (.ref C) = true
section
variable {b : Bb} {X : Cx} {pins : List (Addr × Obj)} {σ : L2.St} {H : Hp} {s : Shared} {a C dx : Addr} {f : Str} {y : V} {u : Value} {fs : List (Str × V)} {Q : Unit → Shared → Prop} {E : Value → Shared → Prop} {A : Around}
theorem OexG.over {K : PySem.W.Frag} (T : OexG b K C) : PySem.W.excOver K C b.mro = true ∧ ∃ cd, PySem.W.clsIn K C = some cd ∧ cd.hasDict = true := by
  obtain ⟨nm, q, N, bs, bm, sn, sub, ab, col, dd, k0, k1, k2, k3, k5, hC, hbm⟩ := T.cls
  have e : ∃ cd, PySem.W.clsIn K C = some cd ∧ cd.hasDict = true ∧ cd.mro = .ref C :: bm := by
    unfold PySem.W.clsIn
    rw [hC]
    exact ⟨_, rfl, rfl, rfl⟩
  obtain ⟨cd, e1, e2, e3⟩ := e
  refine ⟨?_, cd, e1, e2⟩
  unfold PySem.W.excOver
  rw [e1]
  simp only [Option.any_some, e3, beq_self_eq_true, Bool.true_and]
  exact hbm
theorem taker_none {K : PySem.W.Frag} (hno : PySem.W.findIn K (.ref C) f = some none) : PySem.W.takerIn K C f = some none := by
  unfold PySem.W.takerIn
  rw [hno]; rfl
/-- self.f = y: the first one makes the dict -/
theorem og_new (B : BbOk b) (T : OexG b X.K C) (I : L2.Inv X pins σ H s) (e : H a = some (exo a C none)) (hno : PySem.W.findIn X.K (.ref C) f = some none) (ry : RelV y u)
    (h : ∀ dx s', H dx = none → dx ≠ a → L2.Inv X pins σ (upd (upd H a (exo a C (some dx))) dx (exd dx [(f, y)])) s' → Q () s') : wpAny (model X.prog X.w) A (setAttr (.ref a) f u) Q E s := by
  obtain ⟨ov, cd, hcd, hdd⟩ := T.over
  obtain ⟨t1, ho⟩ := exo_at I.hok e
  have XI := I.kIn
  refine PySem.W.set_plain XI (ox := PySem.W.excObj C t1 none .none) (od := none) ⟨ho, rfl, rfl, trivial⟩ T.sa ?_
  have XI2 : X.K.In ({ s with toks := s.toks + 1 } : Shared).heap := XI
  refine PySem.W.osa_openX (od := none) (ox := PySem.W.excObj C t1 none .none) B.sf XI2 ⟨ho, rfl, rfl, trivial⟩ ov (taker_none hno) fun bb => ?_
  refine wpAny_bind (wpAny_pure (wpAny_bind (PySem.W.instanceDict_exc (t := t1) (c2 := .none) ho (PySem.W.looks_clsIn XI2 hcd) hdd ?_)))
  have lt := Heap.lt_size ho
  have ne : a ≠ s.heap.objs.size := Nat.ne_of_lt lt
  have ho2 : (s.heap.push (PySem.W.dictOf [] 0)).get? a = some (PySem.W.excObj C t1 none .none) := Heap.get?_push_of_some _ ho
  generalize hh2 : ((s.heap.push (PySem.W.dictOf [] 0)).update a fun o => { o with dict := some s.heap.objs.size }) = h2
  have k2 : ∀ b' o, b' ≠ a → s.heap.get? b' = some o → h2.get? b' = some o := fun b' o hb q => by
    rw [← hh2, Heap.get?_update_ne _ _ _ _ hb]; exact Heap.get?_push_of_some _ q
  have gd : h2.get? s.heap.objs.size = some (PySem.W.dictOf [] 0) := by
    rw [← hh2, Heap.get?_update_ne _ _ _ _ (Ne.symm ne)]; exact Heap.get?_push_size _ rfl
  have ga : h2.get? a = some (PySem.W.excObj C t1 (some s.heap.objs.size) .none) := by
    rw [← hh2]; exact Heap.get?_update_self _ ho2 rfl
  have n0 : h2.Ns s.heap.objs.size (fun _ => none) := ⟨_, #[], 0, gd, rfl, fun e he => absurd he (by simp), fun _ => rfl⟩
  refine PySem.HandSPX.store_in_new n0 fun h' tk' hn' sb => ?_
  have hx : h'.get? a = some (PySem.W.excObj C t1 (some s.heap.objs.size) .none) := (sb.2 a ne).trans ga
  have kk : ∀ b' o, b' ≠ a → s.heap.get? b' = some o → h'.get? b' = some o := fun b' o hb q => (sb.2 b' (Nat.ne_of_lt (Heap.lt_size q))).trans (k2 b' o hb q)
  have J := I.write (t' := tk') (x := a) (e := a) (o := exo a C (some s.heap.objs.size)) (by rw [e]; trivial) (.inl rfl) kk ⟨_, hx⟩ (exo_ok hx)
  have hnd : H s.heap.objs.size = none := I.hok.fresh (Nat.le_refl _)
  have J2 := J.take (it := s.heap.objs.size) (o := exd s.heap.objs.size [(f, y)]) (t' := tk') (h' := h') (fun _ _ _ q => q) (I.fpOk (Nat.le_refl _) (by rw [upd_ne (Ne.symm ne)]; exact hnd)) (exd_ok hn' (relO_put (fs := []) ry fun _ => True.intro))
  exact h _ _ hnd (Ne.symm ne) J2
/-- a further one -/
theorem og_old (B : BbOk b) (T : OexG b X.K C) (I : L2.Inv X pins σ H s) (e : H a = some (exo a C (some dx))) (ed : H dx = some (exd dx fs)) (hl : fs.length ≤ 900) (hno : PySem.W.findIn X.K (.ref C) f = some none) (ry : RelV y u)
    (h : ∀ s', L2.Inv X pins σ (upd H dx (exd dx ((f, y) :: fs))) s' → Q () s') : wpAny (model X.prog X.w) A (setAttr (.ref a) f u) Q E s := by
  obtain ⟨ov, cd, hcd, hdd⟩ := T.over
  obtain ⟨t1, ho⟩ := exo_at I.hok e
  obtain ⟨mA, hns, rel⟩ := exd_at I.hok ed
  have hw := within_of rel
  obtain ⟨oD, _, _, hoD, _, _⟩ := hns.count hw
  have XI := I.kIn
  refine PySem.W.set_plain XI (ox := PySem.W.excObj C t1 (some dx) .none) (od := some oD) ⟨ho, rfl, rfl, hoD⟩ T.sa ?_
  have XI2 : X.K.In ({ s with toks := s.toks + 1 } : Shared).heap := XI
  refine PySem.W.osa_openX (od := some oD) (ox := PySem.W.excObj C t1 (some dx) .none) B.sf XI2 ⟨ho, rfl, rfl, hoD⟩ ov (taker_none hno) fun bb => ?_
  refine wpAny_bind (wpAny_pure (wpAny_bind (wpAny_bind (wpAny_loadPart ho (wpAny_bind ((PySem.W.looks_clsIn XI2 hcd).here ?_))))))
  rw [hdd]
  refine wpAny_pure (a := some dx) ?_
  refine PySem.OEX.store_in_old hns hw (by rw [List.length_map]; omega) fun h' tk' hn' sb => ?_
  have ex : ∃ o, h'.get? dx = some o := by
    obtain ⟨o, _, _, e', _⟩ := hn'
    exact ⟨o, e'⟩
  exact h _ (I.write (t' := tk') (x := dx) (e := dx) (o := exd dx ((f, y) :: fs)) (by rw [ed]; trivial) (.inl rfl) (fun b' o hb q => (sb.2 b' hb).trans q) ex (exd_ok hn' (relO_put ry rel)))
/-- Base.__init__(self, ..) -/
theorem og_init {us : List Value} {Q : Value → Shared → Prop} (B : BbOk b) (T : OexG b X.K C) (I : L2.Inv X pins σ H s) (e : H a = some (exo a C none)) (hl : us.length ≤ sizeLine) (h : ∀ s', L2.Inv X pins σ H s' → Q .none s') :
    wpAny (model X.prog X.w) A (call (.builtin b.ini) (.ref a :: us)) Q E s := by
  obtain ⟨nm, q, N, bs, bm, sn, sub, ab, col, dd, k0, k1, k2, k3, k5, hC, hbm⟩ := T.cls
  obtain ⟨t1, ho⟩ := exo_at I.hok e
  obtain ⟨hp, g, d, t, os⟩ := s
  refine wpAny_call (PySem.HandSPX.init_base B.fb (fun Y => PySem.W.excTail_contains Y bm hbm) (I.kIn _ _ hC) ho hl fun h' t2 k hx => ?_)
  have J := I.write (t' := t) (x := a) (e := a) (o := exo a C none) (by rw [e]; trivial) (.inl rfl) k ⟨_, hx⟩ (exo_ok hx)
  have same : upd H a (exo a C none) = H := funext fun b' => by
    by_cases hb : b' = a
    · rw [hb, upd_same, e]
    · exact upd_ne hb
  exact h _ (same ▸ J)
end
/-! ### the readings -/
def tGI (b : Bb) (K : PySem.W.Frag) (ta : TA) : TE := fun σ H Q => ta σ H fun vs H1 => ∃ (a C : Addr) (ws : List V), vs = .ref a :: ws ∧ ws.length ≤ 1000 ∧ OexG b K C ∧ H1 a = some (exo a C none) ∧ Q .non H1
def tGS (b : Bb) (K : PySem.W.Frag) (f : Str) (to te : TE) : TS := fun D σ H => te σ H fun y H1 => to σ H1 fun x H2 => ∃ a C : Addr, x = .ref a ∧ OexG b K C ∧ PySem.W.findIn K (.ref C) f = some none ∧
  ((H2 a = some (exo a C none) ∧ ∀ dx, H2 dx = none → dx ≠ a → D.nx σ (upd (upd H2 a (exo a C (some dx))) dx (exd dx [(f, y)]))) ∨
    ∃ (dx : Addr) (fs : List (Str × V)), H2 a = some (exo a C (some dx)) ∧ H2 dx = some (exd dx fs) ∧ fs.length ≤ 900 ∧ D.nx σ (upd H2 dx (exd dx ((f, y) :: fs))))
structure BaseG (b : Bb) (K : PySem.W.Frag) (D : Addr) : Prop where
  sp : PySem.W.specialIn K (.ref D) "__getattribute__" = some (some (.builtin "type.__getattribute__"))
  rd : PySem.W.readsIn K D (.type "type") = true
  fi : PySem.W.findCls K (.ref D) (.type "type") "__init__" = some (.val (.builtin b.ini))
  hv : PySem.W.handedIn (.builtin b.ini) = true
section
variable {b : Bb} {X : Cx} {B : Str} {D : Addr} {o e : Expr} {es : List Expr} {to te : TE} {ta : TA} {f : Str} {p' p1 p2 pos : Pos}
theorem pe_ginit {pl : Sem Bool} (bo : BbOk b) (hg : Gl X B) (hm : X.mg B = some (.ref D)) (bi : BaseG b X.K D) (ha : PA X (e :: es) ta) (hdb : (B == ("__debug__" : Str)) = false)
    (hc : eval (.Call (.Attribute (.Name B p1) "__init__" p2) (e :: es) [] pos) X.env = (do
      let ov ← eval (.Name B p1) X.env
      standAt p2.atName
      let (f, first) ← holding [ov] (getMethod ov "__init__" pl)
      callWith pos f first (backTo pos (starEach (e :: es) X.env)) (backToKw pos (keywordEach [] X.env))))
    (he : starEach (e :: es) X.env = (false, eval e X.env) :: starEach es X.env) (hpl : (backTo pos (starEach es X.env)).any (·.1) = false) :
    PE X (.Call (.Attribute (.Name B p1) "__init__" p2) (e :: es) [] pos) (tGI b X.K ta) := by
  refine ⟨fun pins s σ H Q I h => PySem.W.methodCall_KW (ld_glob I hg hm (PySem.W.method_cls I.kIn bi.sp (PySem.W.cls_value I.kIn bi.rd bi.fi bi.hv ?_)) hdb) hc⟩
  show wpAny _ _ (callWith pos (Value.builtin b.ini) [] (backTo pos (starEach (e :: es) X.env)) []) _ _ _
  refine PyProof.Rows.callWith_method1 (thn (ha.run pos pins _ σ H _ (I.tok _) h) fun us s1 ⟨vs, H1, I1, r1, a, C, ws, ev, hl, T, ea, q⟩ => ?_) he hpl
  subst ev
  cases r1 with
  | @cons _ u0 _ ur ra rw' =>
    cases (show u0 = Value.ref a from ra)
    exact og_init bo T I1 ea (by rw [← Paired.length rw', sizeLine_eq]; omega) fun s' J => ⟨.non, H1, J, rfl, q⟩
theorem ps_gst (bo : BbOk b) (ho : PE X o to) (he : PE X e te) (hs : swapsWith e (some (.Attribute o f p')) pos.line X.env = pure false := by rfl) : PS X (.Assign [.Attribute o f p'] e pos) (tGS b X.K f to te) := by
  refine ⟨fun pins s σ H D I h => plainObj_wpAny_Assign_Attribute (thn (he.run pins s σ H _ I h) fun v s1 ⟨y, H1, I1, r1, q1⟩ => thn (ho.run pins s1 σ H1 _ I1 q1) fun u s2 ⟨x, H2, I2, r2, a, C, ex, T, hno, q⟩ => ?_) hs⟩
  subst ex
  cases (show u = Value.ref a from r2)
  rcases q with ⟨ea, q⟩ | ⟨dx, fs, ea, ed, hl, q⟩
  · exact og_new bo T I2 ea hno r1 fun dx s' n ne J => ⟨σ, _, J, q dx n ne⟩
  · exact og_old bo T I2 ea ed hl hno r1 fun s' J => ⟨σ, _, J, q⟩
/-- C(e, ..) -/
theorem pmk_g {CX : CXT} {x : Str} {C fI : Addr} {k : Nat} {fd : FuncData} {ps : List Str} {sp : Sp} {p : Pos} (bo : BbOk b) (T : OexG b X.K C) (iC : PySem.W.findIn X.K (.ref C) "__init__" = some (some (.ref fI))) (tI : PySem.W.typeIn X.K (.ref fI) = some (.type "function"))
    (F1 : FnOk X.prog X.w X.K X.mg X.base CX k fI fd ps sp) (hr : Room (k + 1) X.A) (hb : Binds X.K fd ps []) (hx : Passes CX X (fun _ _ _ => False)) (hg : Gl X x) (hm : X.mg x = some (.ref C)) (ha : PA X (e :: es) ta)
    (hdb : (x == ("__debug__" : Str)) = false) (he : starEach (e :: es) X.env = (false, eval e X.env) :: starEach es X.env) (hpl : (backTo pos (starEach es X.env)).any (·.1) = false) :
    PMk X (.Call (.Name x p) (e :: es) [] pos) (tMkO C sp [] ta) := fun pins s σ H Q I h => by
  obtain ⟨nm, q, N, bs, bm, sn, sub, ab, col, dd, k0, k1, k2, k3, k5, hC, hbm⟩ := T.cls
  refine wpAny_Call_Name_kw (ld_glob I hg hm (PySem.W.callWith_K (h₀ := X.base) I.ok.mod.kin T.kp (thn (ha.run pos pins s σ H _ I h) fun us s1 ⟨vs, H1, I1, r1, hz, q1⟩ => ⟨I1.kIn, ?_⟩) he hpl) hdb)
  show wpAny _ _ (call (.ref C) us) _ _ _
  obtain ⟨hp, g, dr, tk, os⟩ := s1
  generalize hN : hp.objs.size + 1 = n
  have le : hp.objs.size ≤ n := by omega
  have hq := q1 n (I1.hok.fresh le)
  generalize hh2 : ((hp.push (PySem.W.kdv_tup us)).push (PySem.HandSPX.excO C hp.objs.size)) = h2
  have kk : ∀ b' o, hp.get? b' = some o → h2.get? b' = some o := fun b' o z => by rw [← hh2]; exact Heap.get?_push_of_some _ (Heap.get?_push_of_some _ z)
  have got : h2.get? n = some (PySem.HandSPX.excO C hp.objs.size) := by
    have e1 : (hp.push (PySem.W.kdv_tup us)).objs.size = n := by rw [Heap.size_push]; exact hN
    rw [← hh2, ← e1]
    exact Heap.get?_push_size _ rfl
  have I2 : L2.Inv X pins σ (upd H1 n (exo n C none)) ⟨h2, g, dr, tk, os⟩ := I1.laid (t' := tk) (a := n) (o := exo n C none) (h' := h2) kk le (exo_ok got)
  have r2 : Vals (V.ref n :: (vs ++ [])) (Value.ref n :: (us ++ [])) := .cons rfl (r1.append .nil)
  have hl : (Value.ref n :: us ++ []).length = ps.length := (r2.length.symm.trans (F1.len _ _ _ _ hq))
  have hus : us.length ≤ sizeLine := by rw [← Paired.length r1, sizeLine_eq]; omega
  have hbb := hb ⟨h2, g, dr, tk, os⟩ (Value.ref n :: us) I2.kIn hl
  rw [List.cons_append] at hbb
  refine wpAny_call (PySem.HandSPX.call_own bo.fb (fun Y => PySem.W.excTail_contains Y bm hbm) (I1.kIn _ _ hC) (PySem.W.looks_findIn I1.kIn iC) (fun self => PySem.W.bind_fn I1.kIn self tI) hus ?_)
  rw [hN, hh2]
  refine codeAny_mono (F1.run _ X.stack _ _ ⟨Value.ref n :: us, []⟩ (Value.ref n :: (us ++ [])) _ _ (fun _ _ _ => False) (hr.make C us []) (I2.env0.make C us []) hbb r2 hq) fun r s' hq' => ?_
  match r, hq' with
  | .error er, hq' => exact hx pins σ _ _ er s' I2 hq'
  | .ok (.ret u), hq' =>
    obtain ⟨v, H2, os2, bare2, un2, hok2, rv, ev, d, fs, ea, ed, hd1, q2⟩ := hq'
    subst ev
    obtain ⟨h3, g3, d3, t3, os3⟩ := s'
    exact ⟨rv, mk_end (raises_own T.bx T.ty) I1 le kk un2 hok2 os2 bare2 ea ed hd1 q2⟩
  | .ok .next, hq' => exact hq'.elim
  | .ok .brk, hq' => exact hq'.elim
  | .ok .cont, hq' => exact hq'.elim
end
end EX

set_option Elab.async false
set_option linter.all false
set_option maxRecDepth 100000
set_option maxHeartbeats 1000000
namespace EX
open PySem PySem.Spec L2
open PyProof.Rows hiding St
/-! ### own exceptions over any base: the promise of __init__, the raise -/
def spG (b : Bb) (K : PySem.W.Frag) (fl : List Str) : Sp := fun vs H Q _ => ∃ (a C : Addr) (ws : List V), vs = .ref a :: ws ∧ ws.length = fl.length ∧ OexG b K C ∧ (∀ f ∈ fl, PySem.W.findIn K (.ref C) f = some none) ∧ H a = some (exo a C none) ∧
  ∀ dx, H dx = none → dx ≠ a → Q .non (upd (upd H a (exo a C (some dx))) dx (exd dx (fl.zip ws).reverse))
theorem upd_upd {H : Hp} {a : Addr} {o o' : HO} : upd (upd H a o) a o' = upd H a o' := funext fun c => by
  by_cases h : c = a
  · subst h; rw [upd_same, upd_same]
  · rw [upd_ne h, upd_ne h, upd_ne h]
section
variable {b : Bb} {P : Program} {w : World} {K : PySem.W.Frag} {mg : Str → Option Value} {base : Heap} {x qual B m f g : Str} {params : Arguments} {scope : Scope} {dvs : List V} {kws : List (Str × V)} {fI D : Addr} {fd : FuncData}
variable {p1 p2 p3 p4 p5 p6 p7 p8 p9 q1 q2 q3 q4 q5 : Pos} {j k : Nat}
theorem initG1 (bo : BbOk b) (F : FunD K x qual params [.Expr (.Call (.Attribute (.Name B p1) "__init__" p2) [.Name "self" p3, .Constant (.str m) j p4] [] p5) p6, .Assign [.Attribute (.Name "self" p7) f p8] (.Name f p9) q1] scope dvs kws fI fd)
    (S : FnScope ["self", f] ["self", f] scope) (hg : scope.names.lookup B = some .globalImplicit) (hs : scope.names.lookup ("self" : Str) = some .local) (hf : scope.names.lookup f = some .local) (hm : mg B = some (.ref D)) (bi : BaseG b K D)
    (db : (B == ("__debug__" : Str)) = false) (df : (f == ("__debug__" : Str)) = false) (dc : (f == ("__classdict__" : Str)) = false)
    (hc : ∀ env : Env, ∃ pl : Sem Bool, eval (.Call (.Attribute (.Name B p1) "__init__" p2) [.Name "self" p3, .Constant (.str m) j p4] [] p5) env = (do
      let ov ← eval (.Name B p1) env
      standAt p2.atName
      let (f, first) ← holding [ov] (getMethod ov "__init__" pl)
      callWith p5 f first (backTo p5 (starEach [.Name "self" p3, .Constant (.str m) j p4] env)) (backToKw p5 (keywordEach [] env)))) : FnOk P w K mg base (L2.CX P w) (k + 1) fI fd ["self", f] (spG b K [f]) := by
  refine F.ok S (fun vs H Q E ⟨a, C, ws, e, hl, _⟩ => by rw [e, List.length_cons, hl]; rfl) fun cdv A outer s H vs Q E hr ⟨a, C, ws, e, hl, T, no, ea, q⟩ => ⟨_, pss_cons (ps_expr (pe_ginit bo hg hm bi (pa_cons (pe_var (i := 0) rfl (.inl hs) (by decide) (by decide)) (pa_cons pe_str pa_nil)) db (hc _).choose_spec rfl rfl)) (pss_one (ps_gst bo (pe_var (i := 0) rfl (.inl hs) (by decide) (by decide)) (pe_var (i := 1) rfl (.inl hf) df dc))), ?_⟩
  subst e
  match ws, hl with
  | [y], _ => exact ⟨_, rfl, a, C, [.str m], rfl, by simp, T, ea, _, rfl, _, rfl, a, C, rfl, T, no f (.head _), .inl ⟨ea, fun dx n ne => q dx n ne⟩⟩
theorem initG2 (bo : BbOk b) (F : FunD K x qual params [.Expr (.Call (.Attribute (.Name B p1) "__init__" p2) [.Name "self" p3, .Constant (.str m) j p4] [] p5) p6, .Assign [.Attribute (.Name "self" p7) f p8] (.Name f p9) q1, .Assign [.Attribute (.Name "self" q2) g q3] (.Name g q4) q5] scope dvs kws fI fd)
    (S : FnScope ["self", f, g] ["self", f, g] scope) (hg : scope.names.lookup B = some .globalImplicit) (hs : scope.names.lookup ("self" : Str) = some .local) (hf : scope.names.lookup f = some .local) (hf2 : scope.names.lookup g = some .local) (hm : mg B = some (.ref D)) (bi : BaseG b K D)
    (db : (B == ("__debug__" : Str)) = false) (df : (f == ("__debug__" : Str)) = false) (dc : (f == ("__classdict__" : Str)) = false) (df2 : (g == ("__debug__" : Str)) = false) (dc2 : (g == ("__classdict__" : Str)) = false)
    (hc : ∀ env : Env, ∃ pl : Sem Bool, eval (.Call (.Attribute (.Name B p1) "__init__" p2) [.Name "self" p3, .Constant (.str m) j p4] [] p5) env = (do
      let ov ← eval (.Name B p1) env
      standAt p2.atName
      let (f, first) ← holding [ov] (getMethod ov "__init__" pl)
      callWith p5 f first (backTo p5 (starEach [.Name "self" p3, .Constant (.str m) j p4] env)) (backToKw p5 (keywordEach [] env)))) : FnOk P w K mg base (L2.CX P w) (k + 1) fI fd ["self", f, g] (spG b K [f, g]) := by
  refine F.ok S (fun vs H Q E ⟨a, C, ws, e, hl, _⟩ => by rw [e, List.length_cons, hl]; rfl) fun cdv A outer s H vs Q E hr ⟨a, C, ws, e, hl, T, no, ea, q⟩ => ⟨_, pss_cons (ps_expr (pe_ginit bo hg hm bi (pa_cons (pe_var (i := 0) rfl (.inl hs) (by decide) (by decide)) (pa_cons pe_str pa_nil)) db (hc _).choose_spec rfl rfl)) (pss_cons (ps_gst bo (pe_var (i := 0) rfl (.inl hs) (by decide) (by decide)) (pe_var (i := 1) rfl (.inl hf) df dc)) (pss_one (ps_gst bo (pe_var (i := 0) rfl (.inl hs) (by decide) (by decide)) (pe_var (i := 2) rfl (.inl hf2) df2 dc2)))), ?_⟩
  subst e
  match ws, hl with
  | [y, z], _ =>
    refine ⟨_, rfl, a, C, [.str m], rfl, by simp, T, ea, _, rfl, _, rfl, a, C, rfl, T, no f (.head _), .inl ⟨ea, fun dx n ne => ⟨_, rfl, _, rfl, a, C, rfl, T, no g (.tail _ (.head _)), .inr ⟨dx, [(f, y)], by rw [upd_ne (Ne.symm ne)]; exact upd_same, upd_same, by simp, ?_⟩⟩⟩⟩
    rw [upd_upd]
    exact q dx n ne
end
section
variable {b : Bb} {X : Cx} {W : Wd} {e : Expr} {es : List Expr} {xa : XA} {x : Str} {fl : List Str} {C fI : Addr} {fd : FuncData} {ps : List Str} {k : Nat} {p pos rpos : Pos}
theorem raiseG_of {K : Gw} (hm : K.mg x = some (.ref C)) (T : OexG b K.K C) (no : ∀ f ∈ fl, PySem.W.findIn K.K (.ref C) f = some none) {D : Ends} {σ : L2.St} {H : Hp} (h : tXS K W (sRaise x fl xa) D σ H) : tMkO C (spG b K.K fl) [] (tXA K W xa) σ H fun cls d H' => W.w cls d σ H' := by
  obtain ⟨ρ, env, h, S, E, q⟩ := h
  refine ⟨ρ, env, h, S, E, (afterA (f := fun vs h1 => if vs.length = fl.length ∧ vs.length ≤ 1000 then .exc x (fl.zip vs).reverse env h1 else .stuck) E q).imp fun vs h1 ρ1 H1 g1 S1 q1 us rs => ?_⟩
  by_cases hl : vs.length = fl.length ∧ vs.length ≤ 1000
  · rw [if_pos hl] at q1
    refine ⟨by rw [← rs.length]; exact hl.2, fun a na => ⟨a, C, us ++ [], rfl, by rw [List.append_nil, ← rs.length]; exact hl.1, T, no, upd_same, fun dx nx ne => ?_⟩⟩
    rw [List.append_nil]
    have nd : H1 dx = none := by rw [upd_ne ne] at nx; exact nx
    refine ⟨rfl, dx, _, by rw [upd_ne (Ne.symm ne)]; exact upd_same, upd_same, nd, ?_⟩
    have eq : upd (del (upd (upd (upd H1 a (exo a C none)) a (exo a C (some dx))) dx (exd dx (fl.zip us).reverse)) a) dx (.xd (fl.zip us).reverse) = upd H1 dx (.xd (fl.zip us).reverse) := funext fun c => by
      by_cases h1 : c = dx
      · subst h1; rw [upd_same, upd_same]
      · by_cases h2 : c = a
        · subst h2; rw [upd_ne h1, del_same, upd_ne h1, na]
        · rw [upd_ne h1, del_ne h2, upd_ne h1, upd_ne h2, upd_ne h2, upd_ne h1]
    rw [eq]
    have gr := Grow.new (ρ := ρ1) (o := .xd (fl.zip us).reverse) nd
    exact q1 ρ1 _ (some dx) σ (.ref C) gr (S1.new nd) ((E.mono g1).mono gr) ⟨_, upd_same, (repF_reverse (repF_zip rs)).mono gr⟩ hm
  · rw [if_neg hl] at q1
    exact q1.elim
theorem qs_raiseG (hc : X.calm = true) (tk : Takes X W.w) (bo : BbOk b) (T : OexG b X.K C) (no : ∀ f ∈ fl, PySem.W.findIn X.K (.ref C) f = some none) (iC : PySem.W.findIn X.K (.ref C) "__init__" = some (some (.ref fI))) (tI : PySem.W.typeIn X.K (.ref fI) = some (.type "function"))
    (F1 : FnOk X.prog X.w X.K X.mg X.base (L2.CX X.prog X.w) k fI fd ps (spG b X.K fl)) (hr : Room (k + 1) X.A) (hb : Binds X.K fd ps []) (hg : Gl X x) (hm : X.mg x = some (.ref C)) (ha : QA X W (e :: es) xa)
    (hdb : (x == ("__debug__" : Str)) = false := by decide) (he : starEach (e :: es) X.env = (false, eval e X.env) :: starEach es X.env := by rfl) (hpl : (backTo pos (starEach es X.env)).any (·.1) = false := by rfl) :
    QS X W (.Raise (some (.Call (.Name x p) (e :: es) [] pos)) none rpos) (sRaise x fl xa) :=
  PS.of (ps_raise hc tk (pmk_g bo T iC tI F1 hr hb (passes_call tk fun _ _ _ _ z => z.elim) hg hm ha hdb he hpl)) fun _ _ _ => raiseG_of hm T no
end
/-! ### the head's looks -/
open He
def baseGB (b : Bb) (K : PySem.W.Frag) (D : Addr) : Bool := eqO (PySem.W.specialIn K (.ref D) "__getattribute__") (some (some (.builtin "type.__getattribute__"))) && (PySem.W.readsIn K D (.type "type") && ((match PySem.W.findCls K (.ref D) (.type "type") "__init__" with
  | some (.val v) => decide (v = .builtin b.ini)
  | _ => false) && PySem.W.handedIn (.builtin b.ini)))
theorem baseGB_ok {b : Bb} {K : PySem.W.Frag} {D : Addr} (h : baseGB b K D = true) : BaseG b K D := by
  obtain ⟨h1, h⟩ := ba h
  obtain ⟨h2, h⟩ := ba h
  obtain ⟨h3, h4⟩ := ba h
  refine ⟨eqO_ok h1, h2, ?_, h4⟩
  split at h3
  · rename_i v e
    rw [e, of_decide_eq_true h3]
  · cases h3
def oexGB (b : Bb) (K : PySem.W.Frag) (C : Addr) : Bool := (match K.lookup C with
  | some ⟨.type t, _, .cls cd, sl⟩ => decide (t = "type") && (!cd.hasDel && (cd.hasDict && ((match cd.mro with
    | .ref C' :: bm => decide (C' = C) && PySem.W.excTail b.mro bm
    | _ => false) && (match sl.toList with
    | [_, _, _, _, some (.builtin n), _] => decide (n = b.nw)
    | _ => false))))
  | _ => false) && (eqO (PySem.W.findIn K (.ref C) "__setattr__") (some (some (.builtin "object.__setattr__"))) && (decide (PySem.W.subIn K (.ref C) (.type "BaseException") = some true) && (decide (PySem.W.typeIn K (.ref C) = some (.type "type")) && PySem.W.keepIn K (.ref C))))
theorem oexGB_ok {b : Bb} {K : PySem.W.Frag} {C : Addr} (h : oexGB b K C = true) : OexG b K C := by
  obtain ⟨h0, h⟩ := ba h
  obtain ⟨h1, h⟩ := ba h
  obtain ⟨h2, h⟩ := ba h
  obtain ⟨h3, h4⟩ := ba h
  refine ⟨?_, eqO_ok h1, of_decide_eq_true h2, of_decide_eq_true h3, h4⟩
  split at h0
  · rename_i t dd cd sl ho
    obtain ⟨z1, z⟩ := ba h0
    obtain ⟨z2, z⟩ := ba z
    obtain ⟨z3, z⟩ := ba z
    obtain ⟨z4, z5⟩ := ba z
    have e1 : t = "type" := of_decide_eq_true z1
    subst e1
    split at z4
    · rename_i C' bm hm
      obtain ⟨y1, y2⟩ := ba z4
      have e2 : C' = C := of_decide_eq_true y1
      subst e2
      split at z5
      · rename_i k0 k1 k2 k3 n k5 hs
        have e3 : n = b.nw := of_decide_eq_true z5
        subst e3
        obtain ⟨nm, bs, mro, ns, qn, hd, sn, sub, ab, col, del⟩ := cd
        dsimp only at hm z2 z3
        subst hm z3
        have e4 : del = false := by cases del <;> first | rfl | cases z2
        subst e4
        obtain ⟨l⟩ := sl
        dsimp only at hs
        subst hs
        exact ⟨nm, qn, ns, bs, bm, sn, sub, ab, col, dd, k0, k1, k2, k3, k5, ho, y2⟩
      · cases z5
    · cases z4
  · cases h0
structure ClsG (b : Bb) (K : PySem.W.Frag) (x : Str) (fl : List Str) : Prop where
  oex : OexG b K (ga K x)
  no : ∀ f ∈ fl, PySem.W.findIn K (.ref (ga K x)) f = some none
  iC : PySem.W.findIn K (.ref (ga K x)) "__init__" = some (some (.ref (ma K (ga K x) "__init__")))
  tI : PySem.W.typeIn K (.ref (ma K (ga K x) "__init__")) = some (.type "function")
def clsGB (b : Bb) (K : PySem.W.Frag) (x : Str) (fl : List Str) : Bool := oexGB b K (ga K x) && ((fl.all fun f => eqO (PySem.W.findIn K (.ref (ga K x)) f) (some none)) && (eqO (PySem.W.findIn K (.ref (ga K x)) "__init__") (some (some (.ref (ma K (ga K x) "__init__")))) &&
  decide (PySem.W.typeIn K (.ref (ma K (ga K x) "__init__")) = some (.type "function"))))
theorem clsGB_ok {b : Bb} {K : PySem.W.Frag} {x : Str} {fl : List Str} (h : clsGB b K x fl = true) : ClsG b K x fl := by
  obtain ⟨h1, h⟩ := ba h
  obtain ⟨h2, h⟩ := ba h
  obtain ⟨h3, h4⟩ := ba h
  exact ⟨oexGB_ok h1, fun f hf => eqO_ok (List.all_eq_true.mp h2 f hf), eqO_ok h3, of_decide_eq_true h4⟩
end EX

set_option Elab.async false
set_option linter.all false
set_option maxRecDepth 100000
set_option maxHeartbeats 2000000
namespace EX
open PySem PySem.Spec L2
open PyProof.Rows hiding St
/-! ### len({e for x in xs if t}): how many unlike keys a set comprehension has -/
/-- the set at D of the first ones of ks -/
def SetK (P : Program) (w : World) (D : Addr) (ks : List Key) : HO := .ext fun h => SetTo P w h D ks
theorem setK_ok {P : Program} {w : World} {H : Hp} {h : Heap} {D : Addr} {ks : List Key} (S : SetTo P w h D ks) : ObjOk P w H h D (SetK P w D ks) := by
  have ⟨o, _, _, _, ho, _⟩ := S
  exact ⟨S, ⟨o, ho⟩, fun h1 h2 p k => SetTo.kept p k⟩
theorem setK_new {P : Program} {w : World} {h : Heap} {led : Bool} : SetTo P w (h.push (set0 led)) h.objs.size [] :=
  ⟨set0 led, #[], 0, _, Heap.get?_push_size _ rfl, ⟨rfl, rfl, rfl⟩, rfl, (fun e he => by simp at he), (fun k => by simp [metK, hasK]), (by decide), (by rfl), rfl⟩
section
variable {X : Cx}
theorem setK_at {pins : List (Addr × Obj)} {σ : L2.St} {H : Hp} {s : Shared} {D : Addr} {ks : List Key} (I : L2.Inv X pins σ H s) (h : H D = some (SetK X.prog X.w D ks)) : SetTo X.prog X.w s.heap D ks := (I.hok D _ h).1
theorem setTo_snoc {P : Program} {w : World} {h h' : Heap} {D : Addr} {ks : List Key} {k : Key} (q : h'.SetOf (mixKind P w) D (fun j => hasK (metK ks) j || decide (j = k)) (if hasK (metK ks) k = true then (metK ks).length else (metK ks).length + 1)) : SetTo P w h' D (ks ++ [k]) := by
  unfold SetTo
  rw [metK_snoc, stepK_len]
  have e : hasK (stepK (metK ks) k) = fun j => hasK (metK ks) j || decide (j = k) := funext fun j => hasK_step
  rw [e]
  exact q
/-- the set's add, of a key -/
theorem addK {pins : List (Addr × Obj)} {σ : L2.St} {H : Hp} {s : Shared} {E : Value → Shared → Prop} {D : Addr} {ks : List Key} {k : Key} {u : Value} {Q : Value → Shared → Prop} (I : L2.Inv X pins σ H s) (hD : H D = some (SetK X.prog X.w D ks)) (kv : keyIs k u = true) (room : ks.length + 1 < scanBound)
    (h : ∀ s', L2.Inv X pins σ (upd H D (SetK X.prog X.w D (ks ++ [k]))) s' → Q .none s') : wpAny (model X.prog X.w) X.A (call (.builtin "set.add") [.ref D, u]) Q E s := by
  have S := setK_at I hD
  have sc : u.scannable = true := by
    rcases keyIs_shape kv with ⟨j, t, _, rfl⟩ | ⟨x, t, _, rfl⟩ <;> rfl
  have ml := metK_len ks
  refine wpAny_call_entry F.slot_set_add S.typeIs F.entry_set_add ?_ (F.args_set_add_2 _ _)
  unfold Builtin.«set.add» Builtin.Frozenset.oneOther Builtin.Frozenset.addrOf setAdd
  simp only [List.isEmpty_nil, bind_assoc]
  refine wpAny_bind (wpAny_pure ?_)
  try dsimp only
  refine wpAny_bind (wpAny_pure ?_)
  try dsimp only
  refine wpAny_bind (wpAny_holding (wpAny_bind ((mixKind X.prog X.w).pyHash (k := k) kv ?_)))
  refine wpAny_setAddHashed_of (knd := mixKind X.prog X.w) (s := { s with toks := s.toks + 1 }) kv sc S (by omega) fun h' sb q2 => ?_
  have S2 : SetTo X.prog X.w h' D (ks ++ [k]) := setTo_snoc (h := s.heap) q2
  have ex : ∃ o, h'.get? D = some o := by obtain ⟨o, _, _, _, ho, _⟩ := S2; exact ⟨o, ho⟩
  show wpAny _ _ (ret Value.none) _ _ _
  exact wpAny_pure ⟨_, rfl, h _ (I.write (x := D) (e := D) (t' := s.toks + 1) (by rw [hD]; trivial) (.inl rfl) (fun b o hb q => (sb.2 b hb).trans q) ex (setK_ok S2))⟩
/-- the reading: D the new set, W the invariant of the turns -/
def tSk (P : Program) (w : World) (wi : TI) (g : TG) (tt : TT) (te : TE) (vs : List Nat) : L2.St → Hp → (Addr → List Key → Hp → Prop) → Prop := fun σ H Q => wi σ H fun J H1 => ∀ D, H1 D = none → ∃ W : Nat → Nat → Hp → Prop, (∃ m, W 0 m (upd H1 D (SetK P w D []))) ∧ ∀ i m H, W i m H →
  (J.stop i H ∧ ∃ ks, H D = some (SetK P w D ks) ∧ Q D ks H) ∨ (J.go i H ∧ ∃ Nx : Hp → Prop, (∀ H', Nx H' → ∃ m', m' < m ∧ W (i + 1) m' H') ∧ ∀ x H', J.yld i H x H' → g x (wipe σ vs) H' fun σ2 H2 => wipe σ2 vs = wipe σ vs ∧ tt σ2 H2 fun b H3 =>
    if b = true then te σ2 H3 fun y H4 => ∃ (k : Key) (ks : List Key), y = kV k ∧ H4 D = some (SetK P w D ks) ∧ ks.length + 1 < scanBound ∧ Nx (upd H4 D (SetK P w D (ks ++ [k]))) else Nx H3)
theorem keyIs_of {k : Key} {u : Value} (r : RelV (kV k) u) : keyIs k u = true := by
  cases k with
  | inl i => obtain ⟨t, rfl⟩ := (show ∃ t, u = Value.int i t from r); exact decide_eq_true rfl
  | inr x => obtain ⟨t, rfl⟩ := (show ∃ t, u = Value.str x t from r); exact decide_eq_true rfl
end
end EX

set_option Elab.async false
set_option linter.all false
set_option maxRecDepth 100000
set_option maxHeartbeats 2000000
namespace EX
open PySem PySem.Spec L2
open PyProof.Rows hiding St
section
variable {X : Cx} {elt tg iter : Expr} {ifs : List Expr} {scope : Scope} {own : List (PySem.Str × Nat)} {pos : Pos} {wi : TI} {g : TG} {tt : TT} {te : TE}
/-- the set that {elt for tg in iter if ..} makes; what its cells were is let go behind -/
theorem sk_run {pins : List (Addr × Obj)} {s : Shared} {σ : L2.St} {H : Hp} {Q : Addr → List Key → Hp → Prop} {Qv : Value → Shared → Prop}
    (hc : X.calm = true) (hN : X.N.Nodup) (I : L2.Inv X pins σ H s) (hi : PI X tg iter wi) (ok : BlkOk X.N X.env.scope scope own)
    (hg : ∀ (s : Shared) (H : Hp) (C : Addr) (cl : List (PySem.Str × Addr)) (fp : List Addr), PG (X.blk s H scope (compEnvC scope cl C X.env) fp) tg g)
    (ht : ∀ (s : Shared) (H : Hp) (C : Addr) (cl : List (PySem.Str × Addr)) (fp : List Addr), PTs (X.blk s H scope (compEnvC scope cl C X.env) fp) ifs tt)
    (he : ∀ (s : Shared) (H : Hp) (C : Addr) (cl : List (PySem.Str × Addr)) (fp : List Addr), PE (X.blk s H scope (compEnvC scope cl C X.env) fp) elt te)
    (hs : ∀ x, foldedSetIterable iter X.env x = pure x) (h : tSk X.prog X.w wi g tt te (own.map (·.2)) σ H Q)
    (fin : ∀ D ks s' H', L2.Inv X pins σ H' s' → H' D = some (SetK X.prog X.w D ks) → Q D ks H' → Qv (.ref D) s') :
    wpAny (model X.prog X.w) X.A (eval (.SetComp elt [⟨tg, iter, ifs, 0⟩] scope pos) X.env) Qv X.xe s := by
  rw [PpSet.eval_SetComp]
  refine wpAny_comprehension_free (use := none) rfl hs (closure_ok fun y hy e => (ok.free y hy e).elim (fun k => I.ok.has _ (.inl k)) fun k => I.ok.has _ (.inr k)) ok.kind (fun y hy e => by rw [ok.uniq y hy, e]) ?_
  refine thn (hi.run pins s σ H _ I h) fun xv s1 hx => thn hx fun itv s2 hit => ?_
  obtain ⟨it, fp, tn, J, H2, rfl, I2, T, st2, f2, q⟩ := hit
  refine PpSet.newSet_ok (newEnv_comp ?_)
  -- the new set is D, tracked from now on
  have hDn : H2 s2.heap.objs.size = none := I2.hok.fresh (Nat.le_refl _)
  obtain ⟨W, ⟨m0, w0⟩, turn⟩ := q s2.heap.objs.size hDn
  have low : ∀ c ∈ fp, c < s2.heap.objs.size := fun c hcm => by
    obtain ⟨o, z, _⟩ := T.obj _ _ st2 c hcm
    exact Heap.lt_size z
  generalize hD : s2.heap.objs.size = D at *
  generalize hs3 : ({ s2 with heap := s2.heap.push (set0 (!X.w.params.followText "set-order")) } : Shared) = s3
  have kp3 : ∀ c o, s2.heap.get? c = some o → s3.heap.get? c = some o := fun c o z => by rw [← hs3]; exact Heap.get?_push_of_some _ z
  have sz3 : s3.heap.objs.size = D + 1 := by rw [← hs3, ← hD]; exact Heap.size_push ..
  have I3 : L2.Inv X pins σ (upd H2 D (SetK X.prog X.w D [])) s3 := by
    rw [← hs3]
    refine I2.laid (t' := s2.toks) (fun c o z => Heap.get?_push_of_some _ z) (Nat.le_of_eq hD) ?_
    rw [← hD]
    exact setK_ok setK_new
  have f3 : ∀ c ∈ fp, FpOk X pins (upd H2 D (SetK X.prog X.w D [])) c ∧ c < s3.heap.objs.size := fun c hcm => by
    have l := low c hcm
    exact ⟨⟨by rw [upd_ne (Nat.ne_of_lt l)]; exact (f2 c hcm).1, (f2 c hcm).2⟩, by rw [sz3]; exact Nat.lt_succ_of_lt l⟩
  have st3 : tn 0 s3.heap := T.keep _ _ _ st2 fun c _ o z => kp3 c o z
  have I4 := block_start I3 ok hN f3
  generalize hH3 : upd H2 D (SetK X.prog X.w D []) = H3 at *
  have pg := hg s3 H3 s3.heap.objs.size (cellsFrom (s3.heap.objs.size + 1) scope.names (cloFrom X.env.cells scope.names [])) fp
  have pt := ht s3 H3 s3.heap.objs.size (cellsFrom (s3.heap.objs.size + 1) scope.names (cloFrom X.env.cells scope.names [])) fp
  have pe := he s3 H3 s3.heap.objs.size (cellsFrom (s3.heap.objs.size + 1) scope.names (cloFrom X.env.cells scope.names [])) fp
  show codeAny _ _ (.compStart (.SetComp elt [⟨tg, iter, ifs, 0⟩] scope pos) 0 (.ref it) (.ref D) (compEnvC scope (cellsFrom (s3.heap.objs.size + 1) scope.names (cloFrom X.env.cells scope.names [])) s3.heap.objs.size X.env)) (compPost (model X.prog X.w) X.A X.xe none Qv (.ref D) s3.heap.objs.size) { s3 with heap := pushCells (s3.heap.push { cls := .type "dict", data := .dict #[] }) scope.names }
  have loc : (compEnvC scope (cellsFrom (s3.heap.objs.size + 1) scope.names (cloFrom X.env.cells scope.names [])) s3.heap.objs.size X.env).locals = s3.heap.objs.size := rfl
  generalize compEnvC scope (cellsFrom (s3.heap.objs.size + 1) scope.names (cloFrom X.env.cells scope.names [])) s3.heap.objs.size X.env = ce at *
  have st4 : tn 0 (pushCells (s3.heap.push { cls := .type "dict", data := .dict #[] }) scope.names) := T.keep _ _ _ st3 fun c _ o z => pushCells_keeps _ _ _ _ (Heap.get?_push_of_some _ z)
  have nfp : ∀ c ∈ fp, H3 c = none := fun c hcm => (f3 c hcm).1.1
  -- the iterator's cells, seen from the block
  have seen : ∀ {σ' : L2.St} {H' : Hp} {s' : Shared}, L2.Inv (X.blk s3 H3 scope ce fp) [] σ' H' s' → (∀ c ∈ fp, H' c = none) → ∀ c ∈ fp, FpOk (X.blk s3 H3 scope ce fp) [] H' c := fun {σ' H' s'} J' hn c hcm =>
    ⟨hn c hcm, (J'.ok.exf c hcm).1, J'.ok.exfs c hcm, .inl hcm, fun x cc e => (J'.ok.exf c hcm).2 x cc e, fun p hp => absurd (show p ∈ ([] : List (Addr × Obj)) ++ [] from hp) (by simp)⟩
  have loop : codeAny (model X.prog X.w) X.A (.compLoop (.SetComp elt [⟨tg, iter, ifs, 0⟩] scope pos) 0 (.ref it) (.ref D) ce) (compPost (model X.prog X.w) X.A X.xe none Qv (.ref D) s3.heap.objs.size) { s3 with heap := pushCells (s3.heap.push { cls := .type "dict", data := .dict #[] }) scope.names } := by
    refine PpSet.compLoopS_any (fun n s' => ∃ i H', L2.Inv (X.blk s3 H3 scope ce fp) [] (wipe σ (own.map (·.2))) H' s' ∧ tn i s'.heap ∧ (∀ c ∈ fp, H' c = none) ∧ W i n H') (fun n s5 ⟨i, H5, I5, st5, n5, w5⟩ => ?_) m0 ⟨0, H3, I4, st4, nfp, w0⟩
    rcases turn i n H5 w5 with ⟨stop, ks, hks, qq⟩ | ⟨go, Nx, hNx, step⟩
    · refine thnF (T.done (X.blk s3 H3 scope ce fp) rfl rfl rfl hc i [] s5 _ H5 (fun _ _ => False) I5 (seen I5 n5) st5 stop) fun r s6 ⟨hr, I6⟩ => ?_
      subst hr
      have I7 : L2.Inv X pins σ H5 s6 := I3.call' (ch := fp) I6.os I6.base I6.hok I6.bare fun c hcm => ⟨(f3 c hcm).1.2.2.2.1, (f3 c hcm).1.2.1, (f3 c hcm).1.2.2.2.2.1, (f3 c hcm).1.2.2.2.2.2⟩
      have nC : H5 s3.heap.objs.size = none := loc ▸ (show H5 ce.locals = none from I6.free)
      obtain ⟨m, hn, _⟩ := I6.loc
      have hn : s6.heap.Ns ce.locals m := hn
      rw [loc] at hn
      obtain ⟨a0, a1, a2, a3, a4, a5⟩ := I3.fpOk (H' := H5) (Nat.le_refl _) nC
      exact ⟨m, hn, fun h'' sb => fin D ks _ H5 (I7.turned (t' := s6.toks) (fun c o hcm z => (sb.2 c hcm).trans z) a0 a1 a3 a4 a5) hks qq⟩
    · refine thnF (T.item (X.blk s3 H3 scope ce fp) rfl rfl rfl hc i [] s5 _ H5 (fun _ _ => False) I5 (seen I5 n5) st5 go) fun r s6 ⟨u, hr, h6⟩ => ?_
      subst hr
      refine thnF h6 fun _ s7 ⟨x, H7, I7, r7, y7, st7, n7⟩ => ?_
      refine thnF (pg.run _ s7 _ H7 x u _ (I7.pinned (seen I7 n7) (T.obj _ _ st7)) r7 (step x H7 y7)) fun _ s8 ⟨σ8, H8, I8, hw8, q8⟩ => ?_
      refine thnF (pt.run _ s8 σ8 H8 _ I8 q8) fun b s9 ⟨H9, I9, q9⟩ => ?_
      have next : ∀ {s' : Shared} {H' : Hp}, L2.Inv (X.blk s3 H3 scope ce fp) ([] ++ pinsAt fp s7.heap) σ8 H' s' → Nx H' → ∃ m, m < n ∧ ∃ i H', L2.Inv (X.blk s3 H3 scope ce fp) [] (wipe σ (own.map (·.2))) H' s' ∧ tn i s'.heap ∧ (∀ c ∈ fp, H' c = none) ∧ W i m H' := fun {s' H'} I' nx => by
        obtain ⟨m', hm, w'⟩ := hNx H' nx
        have held : ∀ c ∈ fp, ∀ o, s7.heap.get? c = some o → s'.heap.get? c = some o ∧ H' c = none := fun c hcm o z =>
          ⟨(I'.pin (c, o) (List.mem_append_right _ (List.mem_append_right _ (mem_pinsAt hcm z)))).1, (I'.pin (c, o) (List.mem_append_right _ (List.mem_append_right _ (mem_pinsAt hcm z)))).2.1⟩
        refine ⟨m', hm, i + 1, H', (I'.unpinned (pins := [])).weak (by rw [← hw8, wipe_length]) (fun j v z => by rw [← hw8] at z; exact (wipe_some z).1), T.keep _ _ _ st7 fun c hcm o z => (held c hcm o z).1, fun c hcm => ?_, w'⟩
        obtain ⟨o, z, _⟩ := T.obj _ _ st7 c hcm
        exact (held c hcm o z).2
      cases b with
      | false => exact next I9 q9
      | true =>
        refine thnF (pe.run _ s9 σ8 H9 _ I9 q9) fun z s10 ⟨yv, H10, I10, r10, k, ks, ey, hD10, hz10, nx⟩ => ?_
        subst ey
        exact addK (X := X.blk s3 H3 scope ce fp) I10 hD10 (keyIs_of r10) hz10 fun s11 I11 => next I11 nx
  exact PpSet.codeAny_compStart_set loop (T.self X.A 0 _ _ _ st4 loop)
end
/-! ### as an expression -/
open Classical in
noncomputable def setLoop (it : Itn) (t : Tg) (tt : XT) (x : XE) (e : En) : List Val → List Key → Hh → Res (List Key)
  | [], acc, h => if it.okAt h then .ok acc h else .stuck
  | v :: vs, acc, h => if it.okAt h then (match t.put v e with
    | none => .stuck
    | some e1 => (tt e1 h).bindS fun b h1 => if b = true then (x e1 h1).bindS fun y h2 => (match keyOf y with
        | some k => if acc.length < 1000 then setLoop it t tt x e vs (acc ++ [k]) h2 else .stuck
        | none => .stuck)
      else setLoop it t tt x e vs acc h1) else .stuck
noncomputable def xLenSc (xi : XI) (t : Tg) (tt : XT) (x : XE) (vs : List Nat) : XE := fun e h => (xi e h).bind fun it h1 =>
  (setLoop it t tt x (wipeE e vs) it.xs [] h1).bind fun ks h2 => if ks.length ≤ 1000 then .ok (.int (metK ks).length) h2 else .stuck
section
variable {K : Gw} {ρ ρ' : List Addr} {H H' : Hp} {D : Addr} {φ : Heap → Prop}
theorem nD_of {h : Hh} (S : Sim K ρ H h) (e : H D = some (.ext φ)) (m : D ∈ ρ) : False := by
  obtain ⟨n, hn⟩ := List.getElem?_of_mem m
  obtain ⟨o, _, r⟩ := S.get hn
  cases o with
  | lst xs => obtain ⟨vs, z, _⟩ := r; rw [e] at z; cases z
  | dct lk kvs =>
    obtain ⟨vs, z, _⟩ := r
    cases lk with
    | false => rw [show H D = _ from z] at e; cases e
    | true => obtain ⟨o, z⟩ := z; rw [e] at z; cases z
  | ins C fs => obtain ⟨_, _, _, _, z, _⟩ := r; rw [e] at z; cases z
/-- what is not ours changes at D, which was not there at first -/
theorem Grow.over {o : HO} (g : Grow ρ ρ' H H') (hn : ∀ {a : Addr}, a = D → H a = none) : Grow ρ ρ' H (upd H' D o) := by
  have ne : ∀ {a : Addr} {u : HO}, H a = some u → a ≠ D := fun h z => by rw [hn z] at h; cases h
  exact ⟨g.pre, fun a _ h => by rw [upd_ne (ne h)]; exact g.xd _ _ h, fun a _ h => by rw [upd_ne (ne h)]; exact g.tup _ _ h, fun a _ _ h => by rw [upd_ne (ne h)]; exact g.frz _ _ _ h, fun a _ h => by rw [upd_ne (ne h)]; exact g.ext _ _ h⟩
/-- .. and an ext object changes -/
structure Ch (H H' : Hp) (D : Addr) : Prop where
  at_ : ∃ φ, H D = some (.ext φ)
  off : ∀ a, a ≠ D → H' a = H a
theorem Ch.keep {H H' : Hp} {D : Addr} (c : Ch H H' D) {a : Addr} {u : HO} (h : H a = some u) (nx : ∀ φ, u ≠ .ext φ) : H' a = some u := by
  obtain ⟨φ, e⟩ := c.at_
  rw [c.off a (fun z => by rw [z, e] at h; exact nx φ (Option.some.inj h).symm)]; exact h
mutual
theorem Rep.ch (c : Ch H H' D) : ∀ {x : Val} {v : V}, Rep K ρ H x v → Rep K ρ H' x v
  | _, _, .non => .non
  | _, _, .bl b => .bl b
  | _, _, .int i => .int i
  | _, _, .str s => .str s
  | _, _, .tup s r => .tup (by
      rcases s with (h | ⟨o, h⟩) | h
      · exact .inl (.inl (c.keep h (fun _ z => by cases z)))
      · exact .inl (.inr ⟨o, c.keep h (fun _ z => by cases z)⟩)
      · exact .inr h) (RepL.ch c r)
  | _, _, .scr s r => .scr (by
      rcases s with ⟨o, h⟩ | h
      · exact .inl ⟨o, c.keep h (fun _ z => by cases z)⟩
      · exact .inr h) (RepL.ch c r)
  | _, _, .loc e => .loc e
  | _, _, .ref e => .ref e
  | _, _, .ty n => .ty n
theorem RepL.ch (c : Ch H H' D) : ∀ {xs : List Val} {vs : List V}, RepL K ρ H xs vs → RepL K ρ H' xs vs
  | _, _, .nil => .nil
  | _, _, .cons a b => .cons (Rep.ch c a) (RepL.ch c b)
end
theorem RepF.ch {κ : Type} (c : Ch H H' D) {fs : List (κ × Val)} {vs : List (κ × V)} (h : RepF K ρ H fs vs) : RepF K ρ H' fs vs := Paired.mapP h fun _ _ z => ⟨z.1, z.2.ch c⟩
theorem Sim.over {h : Hh} {o : HO} (S : Sim K ρ H h) (nD : D ∉ ρ) (e : H D = some (.ext φ)) : Sim K ρ (upd H D o) h := by
  have c : Ch H (upd H D o) D := ⟨⟨φ, e⟩, fun a ha => upd_ne ha⟩
  refine ⟨S.len, S.nd, fun n u eu => ?_⟩
  obtain ⟨a, ea, r⟩ := S.at_ n u eu
  have na : a ≠ D := fun z => nD (z ▸ List.mem_of_getElem? ea)
  refine ⟨a, ea, ?_⟩
  cases u with
  | lst xs => obtain ⟨vs, z, r⟩ := r; exact ⟨vs, (upd_ne na).trans z, r.ch c⟩
  | dct lk kvs => obtain ⟨vs, z, r⟩ := r; exact ⟨vs, z.eq (upd_ne na), r.ch c⟩
  | ins C fs => obtain ⟨Ca, dx, vs, m, z, d, r⟩ := r; exact ⟨Ca, dx, vs, m, (upd_ne na).trans z, c.keep d (fun _ z => by cases z), r.ch c⟩
end
section
variable {X : Cx} {W : Wd}
theorem Post.bindB {α β γ : Type} {K : Gw} {σ σ' : L2.St} {ρ ρb : List Addr} {H Hb : Hp} {R : γ → Hh → List Addr → Hp → Prop} {r : Res α} {f : α → Hh → Res β} {g : β → Hh → Res γ} (h : Post K W σ ρb Hb R ((r.bindS f).bind g)) :
    Post K WN σ' ρ H (fun a h1 _ _ => Post K W σ ρb Hb R ((f a h1).bind g)) r := by
  cases r with
  | ok a h' => exact fun ρ2 H2 g2 _ => h
  | exc c fs h' => exact h.elim
  | stuck => exact h
theorem sk_of {P : Program} {K : Gw} {xi : XI} {t : Tg} {tt : XT} {x : XE} {vs : List Nat} {σ : L2.St} {H : Hp} {Q : VK} (hv : ∀ i ∈ t.slots, i ∈ vs) (h : tX K W (xLenSc xi t tt x vs) σ H Q) :
    tSk P K.w (tXI K W xi) (tTg K t) (tXT K WN tt) (tX K WN x) vs σ H fun D ks H' => ks.length ≤ 1000 ∧ Q (.int (metK ks).length) H' := by
  obtain ⟨ρ, env, h, S, E, p⟩ := h
  refine ⟨ρ, env, h, S, E, (Post.bind p).imp fun it h1 ρ1 H1 g1 S1 q J ok0 hJ D hD => ?_⟩
  have g2 : Grow ρ1 ρ1 H1 (upd H1 D (SetK P K.w D [])) := Grow.new hD
  refine ⟨fun i m H3 => m = it.xs.length - i ∧ i ≤ it.xs.length ∧ ∃ ρ3 h3 ks, D ∉ ρ3 ∧ H3 D = some (SetK P K.w D ks) ∧ Grow ρ1 ρ3 H1 H3 ∧ Sim K ρ3 H3 h3 ∧ Post K W σ ρ1 H1 (RV K Q) ((setLoop it t tt x (wipeE env vs) (it.xs.drop i) ks h3).bind fun ks h2 => if ks.length ≤ 1000 then .ok (.int (metK ks).length) h2 else .stuck),
    ⟨it.xs.length, by simp, Nat.zero_le _, ρ1, h1, [], fun z => S1.tracked z hD, upd_same, g2, S1.new hD, by rw [List.drop_zero]; exact q⟩, ?_⟩
  rintro i m H3 ⟨rfl, hi, ρ3, h3, ks, nD, eD, g3, S3, p3⟩
  by_cases hlt : i < it.xs.length
  · rw [List.drop_eq_getElem_cons hlt] at p3
    unfold setLoop at p3
    by_cases ok : it.okAt h3
    · rw [if_pos ok] at p3
      refine .inr ⟨hJ.go i ρ3 H3 h3 g3 S3 ok hlt, fun H' => ∃ ρ' h' ks', D ∉ ρ' ∧ H' D = some (SetK P K.w D ks') ∧ Grow ρ1 ρ' H1 H' ∧ Sim K ρ' H' h' ∧ Post K W σ ρ1 H1 (RV K Q) ((setLoop it t tt x (wipeE env vs) (it.xs.drop (i + 1)) ks' h').bind fun ks h2 => if ks.length ≤ 1000 then .ok (.int (metK ks).length) h2 else .stuck), fun H' hn => ⟨it.xs.length - (i + 1), by omega, rfl, hlt, hn⟩, fun y H4 hy => ?_⟩
      obtain ⟨g4, S4, r4⟩ := hJ.yld i ρ3 H3 h3 _ y H4 g3 S3 ok (List.getElem?_eq_getElem hlt) hy
      cases e2 : t.put it.xs[i] (wipeE env vs) with
      | none => rw [e2] at p3; exact p3.elim
      | some e1 =>
        rw [e2] at p3
        dsimp only at p3
        have g34 := g3.trans g4
        have eD4 : H4 D = some (SetK P K.w D ks) := g4.ext D _ eD
        refine ⟨ρ3, wipeE env vs, h3, it.xs[i], e1, S4, (((E.mono g1).mono g3).mono g4).wipe vs, r4, e2, fun σ1 E1 B1 => ⟨wipe_but B1 hv, ρ3, e1, h3, S4, E1, ?_⟩⟩
        refine (Post.bindB p3).imp fun b h5 ρ5 H5 g5 S5 q5 => ?_
        have nD5 : D ∉ ρ5 := fun z => nD_of S5 (g5.ext D _ eD4) z
        cases b with
        | false => exact ⟨ρ5, h5, ks, nD5, g5.ext D _ eD4, g34.trans g5, S5, q5⟩
        | true =>
          refine ⟨ρ5, e1, h5, S5, E1.mono g5, (Post.bindB q5).imp fun z h6 ρ6 H6 g6 S6 q6 u ru => ?_⟩
          have eD6 : H6 D = some (SetK P K.w D ks) := g6.ext D _ (g5.ext D _ eD4)
          cases ek : keyOf z with
          | none => rw [ek] at q6; exact q6.elim
          | some k =>
            rw [ek] at q6
            dsimp only at q6
            by_cases hz : ks.length < 1000
            · rw [if_pos hz] at q6
              have nD6 : D ∉ ρ6 := fun z => nD_of S6 eD6 z
              have g36 := (g34.trans g5).trans g6
              have g7 : Grow ρ1 ρ6 H1 (upd H6 D (SetK P K.w D (ks ++ [k]))) := g36.over (fun z => z ▸ hD)
              have S7 : Sim K ρ6 (upd H6 D (SetK P K.w D (ks ++ [k]))) h6 := S6.over nD6 eD6
              exact ⟨k, ks, keyOf_rep ru ek, eD6, by unfold scanBound; omega, ρ6, h6, _, nD6, upd_same, g7, S7, q6⟩
            · rw [if_neg hz] at q6; exact q6.elim
    · rw [if_neg ok] at p3; exact p3.elim
  · have e1 : i = it.xs.length := by omega
    subst e1
    rw [List.drop_length] at p3
    unfold setLoop at p3
    by_cases ok : it.okAt h3
    · rw [if_pos ok] at p3
      dsimp only [Res.bind_ok] at p3
      by_cases hl : ks.length ≤ 1000
      · rw [if_pos hl] at p3
        exact .inl ⟨hJ.stop _ ρ3 H3 h3 g3 S3 ok (Nat.le_refl _), ks, eD, hl, p3 ρ3 H3 g3 S3 _ (.int _)⟩
      · rw [if_neg hl] at p3; exact p3.elim
    · rw [if_neg ok] at p3; exact p3.elim
theorem q_lenSc {elt tg iter : Expr} {ifs : List Expr} {scope : Scope} {own : List (PySem.Str × Nat)} {p pos cpos : Pos} {xi : XI} {t : Tg} {tt : XT} {x : XE} (hg : Gl X "len") (hm : X.mg "len" = none) (hc : X.calm = true) (hN : X.N.Nodup) (hi : QI X W tg iter xi) (ok : BlkOk X.N X.env.scope scope own)
    (hgt : ∀ (s : Shared) (H : Hp) (C : Addr) (cl : List (PySem.Str × Addr)) (fp : List Addr), PG (X.blk s H scope (compEnvC scope cl C X.env) fp) tg (tTg (gw X) t))
    (ht : ∀ (s : Shared) (H : Hp) (C : Addr) (cl : List (PySem.Str × Addr)) (fp : List Addr), PTs (X.blk s H scope (compEnvC scope cl C X.env) fp) ifs (tXT (gw X) WN tt))
    (he : ∀ (s : Shared) (H : Hp) (C : Addr) (cl : List (PySem.Str × Addr)) (fp : List Addr), PE (X.blk s H scope (compEnvC scope cl C X.env) fp) elt (tX (gw X) WN x))
    (hv : ∀ i ∈ t.slots, i ∈ own.map (·.2) := by decide) (hs : ∀ x, foldedSetIterable iter X.env x = pure x := by intro _; rfl) (na : starEach [.SetComp elt [⟨tg, iter, ifs, 0⟩] scope pos] X.env = (false, eval (.SetComp elt [⟨tg, iter, ifs, 0⟩] scope pos) X.env) :: starEach [] X.env := by rfl) :
    QE X W (.Call (.Name "len" p) [.SetComp elt [⟨tg, iter, ifs, 0⟩] scope pos] [] cpos) (xLenSc xi t tt x (own.map (·.2))) := by
  refine ⟨fun pins s σ H Q I h => ?_⟩
  refine PyProof.Rows.Call_ (ld_blt I hg hm (by decide +kernel : bootBuiltins "len" = some (.builtin "len")) (PyProof.Rows.callWith_builtin1 (PyProof.Rows.args_cons ?_ na) na rfl))
  refine sk_run hc hN I hi ok hgt ht he hs (sk_of (P := X.prog) hv h) fun D ks s' H' I' hD ⟨hl, q⟩ => PyProof.Rows.args_nil ?_
  obtain ⟨o, es, ep, tb, ho, hex, hd, _, _, _, hf, hn⟩ := setK_at I' hD
  have ml := metK_len ks
  exact call_len_set ho hex hd hf (by rw [hn]; omega) ⟨.int (metK ks).length, H', I'.tok _, ⟨_, by rw [hn]⟩, q⟩
end
end EX

set_option Elab.async false
set_option linter.all false
set_option maxRecDepth 100000
set_option maxHeartbeats 2000000
namespace EX
open PySem PySem.Spec L2
open PyProof.Rows hiding St
/-! ### calls by the parameters' names -/
def pick (perm : List Nat) (vs : List Val) : Option (List Val) := perm.mapM fun i => vs[i]?
def xCallK (n : Nat) (G : Fn) (perm : List Nat) (xa : XA) : XE := fun e h => (xa e h).bind fun vs h1 => match pick perm vs with
  | some ws => if ws.length = n then G ws h1 else .stuck
  | none => .stuck
theorem mapM_rep {K : Gw} {ρ : List Addr} {H : Hp} {vs : List Val} {us : List V} (r : RepL K ρ H vs us) : ∀ {perm : List Nat} {ws : List Val}, pick perm vs = some ws → ∃ zs, perm.mapM (fun i => us[i]?) = some zs ∧ RepL K ρ H ws zs
  | [], ws, e => by
    have e : (some [] : Option (List Val)) = some ws := e
    cases e
    exact ⟨[], rfl, .nil⟩
  | i :: perm, ws, e => by
    unfold pick at e
    rw [List.mapM_cons] at e
    cases e1 : vs[i]? with
    | none => rw [e1] at e; cases e
    | some v =>
      rw [e1] at e
      cases e2 : perm.mapM (fun i => vs[i]?) with
      | none => rw [e2] at e; cases e
      | some ws' =>
        rw [e2] at e
        cases e
        obtain ⟨u, eu, ru⟩ := r.get e1
        obtain ⟨zs, ez, rz⟩ := mapM_rep r (perm := perm) e2
        exact ⟨u :: zs, by rw [List.mapM_cons, eu, ez]; rfl, .cons ru rz⟩
section
variable {X : Cx} {W : Wd}
theorem qk_nil : PK X [] (tXA (gw X) W xNil) := ⟨fun pos pins s σ H Q I h => pk_nil.run pos pins s σ H Q I (by
  obtain ⟨ρ, env, h, S, E, p⟩ := h
  exact p ρ H (Grow.refl _ _) S [] .nil)⟩
theorem qk_cons {e : Expr} {nm : Option Str} {kpos : Pos} {kws : List Keyword} {xe : XE} {xr : XA} (ha : QE X W e xe) (hr : PK X kws (tXA (gw X) W xr)) : PK X (⟨nm, e, kpos⟩ :: kws) (tXA (gw X) W (xCons xe xr)) :=
  ⟨fun pos pins s σ H Q I h => (pk_cons ha hr).run pos pins s σ H Q I (qa_cons_of h)⟩
theorem bindsK {K : PySem.W.Frag} {x qual : Str} {params : Arguments} {body : List Stmt} {scope : Scope} {kws : List (Str × V)} {f : Addr} {fd : FuncData} {ps ks : List Str} {perm : List Nat} (F : FunD K x qual params body scope [] kws f fd)
    (h : ∀ (kV doc pm : Value) (an : Option Addr) (cdv ct : Value) (us : List Value), us.length = ks.length → ∃ zs, perm.mapM (fun i => us[i]?) = some zs ∧ bindArgs (PySem.W.fnOf x qual params body scope .none kV doc pm an cdv ct) ⟨[], ks.zip us⟩ = pure (ps.zip zs)) (s : Shared) (us : List Value) (hl : us.length = ks.length) :
    ∃ zs, perm.mapM (fun i => us[i]?) = some zs ∧ BindsTo s fd ⟨[], ks.zip us⟩ (ps.zip zs) := by
  obtain ⟨oc, od, dV, kV, doc, pm, an, cdv, ct, osl, rfl, lk, hcd, hD, hK⟩ := F.ex
  rcases hD with ⟨_, rfl⟩ | ⟨e, _⟩
  · obtain ⟨zs, e1, e2⟩ := h kV doc pm an cdv ct us hl
    exact ⟨zs, e1, .of_eq e2⟩
  · exact absurd rfl e
theorem mapM_vals {vs : List V} {us : List Value} (r : Vals vs us) : ∀ {perm : List Nat} {zs : List V} {ws : List Value}, perm.mapM (fun i => vs[i]?) = some zs → perm.mapM (fun i => us[i]?) = some ws → Vals zs ws
  | [], zs, ws, e1, e2 => by
    have e1 : (some [] : Option (List V)) = some zs := e1
    have e2 : (some [] : Option (List Value)) = some ws := e2
    cases e1; cases e2
    exact .nil
  | i :: perm, zs, ws, e1, e2 => by
    rw [List.mapM_cons] at e1 e2
    cases a1 : vs[i]? with
    | none => rw [a1] at e1; cases e1
    | some v =>
      obtain ⟨u, a2, rv⟩ := r.get a1
      rw [a1] at e1
      rw [a2] at e2
      cases b1 : perm.mapM (fun i => vs[i]?) with
      | none => rw [b1] at e1; cases e1
      | some zs' =>
        cases b2 : perm.mapM (fun i => us[i]?) with
        | none => rw [b2] at e2; cases e2
        | some ws' =>
          rw [b1] at e1
          rw [b2] at e2
          cases e1; cases e2
          exact .cons rv (mapM_vals r b1 b2)
theorem q_callK {k n : Nat} {f : Addr} {fd : FuncData} {ps ks : List Str} {G : Fn} {x : Str} {p pos : Pos} {kws : List Keyword} {perm : List Nat} {xa : XA} (F : FnG X.prog X.w X.K X.mg X.base k f fd ps (spX (gw X) n G)) (hr : Room k X.A) (hgd : X.A.guards = some []) (hg : Gl X x) (hm : X.mg x = some (.ref f)) (hk : PySem.W.keepIn X.K (.ref f) = true)
    (hb : ∀ (s : Shared) (us : List Value), us.length = ks.length → ∃ zs, perm.mapM (fun i => us[i]?) = some zs ∧ BindsTo s fd ⟨[], ks.zip us⟩ (ps.zip zs)) (tk : Takes X W.w) (ha : PK X kws (tXA (gw X) W xa)) (hlen : ∀ e h vs h', xa e h = .ok vs h' → vs.length = ks.length)
    (hdb : (x == ("__debug__" : Str)) = false := by decide) (hall : (backToKw pos (keywordEach kws X.env)).all (·.1.isSome) = true := by rfl) (hks : (backToKw pos (keywordEach kws X.env)).filterMap (·.1) = ks := by rfl) (hpl : ((backTo pos (starEach [] X.env)).any (·.1) || (backToKw pos (keywordEach kws X.env)).any (·.1.isNone)) = false := by rfl) :
    QE X W (.Call (.Name x p) [] kws pos) (xCallK n G perm xa) := by
  refine ⟨fun pins s σ H Q I h => ?_⟩
  obtain ⟨ρ, env, h, S, E, q⟩ := h
  refine wpAny_Call_Name_kw (ld_glob I hg hm (PySem.W.callWith_KW0 (h₀ := X.base) I.ok.mod.kin hk hall ?_ hpl) hdb)
  refine thn (ha.run pos pins s σ H (fun vs H1 => vs.length = ks.length ∧ ∃ zs, perm.mapM (fun i => vs[i]?) = some zs ∧ spX (gw X) n G zs H1 Q (WE W.w σ)) I ⟨ρ, env, h, S, E, ?_⟩) fun us s1 ⟨vs, H1, I1, r, hl, zs, ez, sp⟩ => ⟨I1.kIn, ?_⟩
  · cases ex : xa env h with
    | ok vs h1 =>
      have hl := hlen _ _ _ _ ex
      have q' : Post (gw X) W σ ρ H (RV (gw X) Q) (match pick perm vs with | some ws => if ws.length = n then G ws h1 else .stuck | none => .stuck) := by
        have := q; unfold xCallK at this; rw [ex] at this; exact this
      intro ρ1 H1 g1 S1 us rs
      refine ⟨by rw [← rs.length]; exact hl, ?_⟩
      cases ep : pick perm vs with
      | none => rw [ep] at q'; exact q'.elim
      | some ws =>
        rw [ep] at q'
        dsimp only at q'
        obtain ⟨zs, ez, rz⟩ := mapM_rep rs ep
        by_cases hn : ws.length = n
        · rw [if_pos hn] at q'
          refine ⟨zs, ez, ρ1, h1, ws, S1, rz, hn, ?_⟩
          have q2 := Post.mono g1 q'
          cases eg : G ws h1 with
          | ok v h2 => rw [eg] at q2; exact q2
          | exc c fs h2 => rw [eg] at q2; exact q2
          | stuck => rw [eg] at q2; exact q2
        · rw [if_neg hn] at q'; exact q'.elim
    | exc c fs h1 =>
      have := q; unfold xCallK at this; rw [ex] at this; exact this
    | stuck =>
      have := q; unfold xCallK at this; rw [ex] at this; exact this.elim
  · rw [hks]
    obtain ⟨zu, eu, hbt⟩ := hb s1 us (by rw [← r.length]; exact hl)
    refine wpAny_call (codeAny_mono (F.run X.A X.stack s1 H1 ⟨[], ks.zip us⟩ zu zs Q (WE W.w σ) hr hgd I1.env0 hbt (mapM_vals r ez eu) sp) fun res s' z => ?_)
    match res, z with
    | .error e, z => exact passAt tk σ pins H1 s1 e s' I1 z
    | .ok (.ret u), z => exact I1.after z
theorem len_nil {e : En} {h h' : Hh} {vs : List Val} (ex : xNil e h = .ok vs h') : vs.length = 0 := by cases ex; rfl
theorem len_cons {a : XE} {r : XA} {n : Nat} (hr : ∀ e h vs h', r e h = .ok vs h' → vs.length = n) {e : En} {h h' : Hh} {vs : List Val} (ex : xCons a r e h = .ok vs h') : vs.length = n + 1 := by
  unfold xCons at ex
  cases ea : a e h with
  | ok v h1 =>
    rw [ea] at ex
    dsimp only [Res.bind_ok] at ex
    cases er : r e h1 with
    | ok ws h2 => rw [er] at ex; cases ex; rw [List.length_cons, hr _ _ _ _ er]
    | exc c fs h2 => rw [er] at ex; cases ex
    | stuck => rw [er] at ex; cases ex
  | exc c fs h1 => rw [ea] at ex; cases ex
  | stuck => rw [ea] at ex; cases ex
end
end EX

set_option Elab.async false
set_option linter.all false
set_option maxRecDepth 100000
set_option maxHeartbeats 2000000
namespace EX
open PySem PySem.Spec L2
open PyProof.Rows hiding St
/-! ### tuple * number -/
theorem tmul_same (l : Addr) (items : Array Value) (n : Nat) (dd : Option Addr) (sl : Array (Option Value)) (u : Tok) :
    Meets (Builtin.«tuple.__mul__» ⟨[.ref l, .int 1 u], []⟩) (fun _ R s => s.heap.get? l = some { cls := .type "tuple", dict := dd, data := .seq items n, slots := sl } ∧ R (.ok (.ret (.ref l))) s) :=
  .of_wp fun prog w A R s h => by
    obtain ⟨hp, g, d, tk, os⟩ := s
    obtain ⟨hl, h⟩ := h
    have f1 := AutoSeq1.idx_int
    have c1 : (items.isEmpty || ((1 : Int) == 1)) = true := by cases items.isEmpty <;> rfl
    wp_walk using wpAny_loadPart' hl
    repeat (first
      | (refine wpAny_ite_false (decide_eq_false (by decide)) ?_; wp_walk using wpAny_loadPart' hl)
      | (refine wpAny_ite_true (decide_eq_true c1) ?_; wp_walk using wpAny_loadPart' hl))
    exact ⟨_, rfl, h⟩
theorem tmul_none (l : Addr) (items : Array Value) (n : Nat) (dd : Option Addr) (sl : Array (Option Value)) (u : Tok) (hi : items.isEmpty = false) :
    Meets (Builtin.«tuple.__mul__» ⟨[.ref l, .int 0 u], []⟩) (fun _ R s => s.heap.get? l = some { cls := .type "tuple", dict := dd, data := .seq items n, slots := sl } ∧ R (.ok (.ret (.ref s.heap.objs.size))) { s with heap := s.heap.push { cls := .type "tuple", data := .seq #[] } }) :=
  .of_wp fun prog w A R s h => by
    obtain ⟨hp, g, d, tk, os⟩ := s
    obtain ⟨hl, h⟩ := h
    have f1 := AutoSeq1.idx_int
    have c1 : ¬ (items.isEmpty || ((0 : Int) == 1)) = true := by rw [hi]; decide
    have c2 : (decide ((0 : Int) ≤ 0) || items.isEmpty) = true := by rfl
    wp_walk using wpAny_loadPart' hl
    repeat (first
      | (refine wpAny_ite_false (decide_eq_false (by decide)) ?_; wp_walk using wpAny_loadPart' hl)
      | (refine wpAny_ite_false (decide_eq_false c1) ?_; wp_walk using wpAny_loadPart' hl)
      | (refine wpAny_ite_true (decide_eq_true c2) ?_; wp_walk using wpAny_loadPart' hl))
    exact ⟨_, rfl, h⟩
def oMul3 : Op2 := fun a b h => match a, b with
  | .tup xs, .int k => if k = 1 then some (.tup xs, h) else if k = 0 then (if xs.isEmpty = false then some (.tup [], h) else none)
    else if 2 ≤ k ∧ k ≤ 1000 ∧ xs.length ≤ 1000 ∧ xs.isEmpty = false then some (.tup (List.replicate k.toNat xs).flatten, h) else none
  | .loc n, .int k => (match h[n]? with
    | some (.lst xs) => if -(2 ^ 63) ≤ k ∧ k < 2 ^ 63 ∧ xs.length * k.toNat ≤ sizeLine then some (.loc h.length, h ++ [.lst (List.replicate k.toNat xs).flatten]) else none
    | _ => none)
  | _, _ => oMul2 a b h
theorem RepL.rep {K : Gw} {ρ : List Addr} {H : Hp} {xs : List Val} {vs : List V} (r : RepL K ρ H xs vs) : ∀ k : Nat, RepL K ρ H (List.replicate k xs).flatten (List.replicate k vs).flatten
  | 0 => .nil
  | k + 1 => by
    rw [List.replicate_succ, List.replicate_succ, List.flatten_cons, List.flatten_cons]
    exact r.append (RepL.rep r k)
section
variable {X : Cx}
theorem op_mul3_x : OpR X (binaryOp .Mult) (rS2 (gw X) oMul3) := by
  intro pins s σ H x y v u Q I rx ry ⟨ρ, h, a, b, z, h', S, ra, rb, e, k⟩
  unfold oMul3 at e
  split at e
  · rename_i xs j
    cases rb
    cases ra with
    | @tup l _ vs sq rs =>
    have emp : ∀ {its : List Value}, Vals vs its → xs.isEmpty = false → its.toArray.isEmpty = false := fun {its} r hx => by
      have h1 := rs.length
      have h2 := r.length
      cases xs with
      | nil => cases hx
      | cons _ _ => cases its with
        | nil => rw [h2] at h1; cases h1
        | cons _ _ => rfl
    by_cases h1 : j = 1
    · subst h1
      rw [if_pos rfl] at e
      cases e
      have rx0 := rx
      cases rx
      obtain ⟨t, rfl⟩ := ry
      obtain ⟨its, r, ⟨⟨cls, dd, data, sl⟩, ho, hc, n, hd⟩, hs⟩ := I.tuple sq
      simp only at hc hd
      subst hc hd
      refine wpAny_binaryOp_repeat_ref (T := "tuple") (U := "int") (by decide) ⟨_, ho, rfl⟩ (fun s' => typeIs_int s' 1 t) noFill_tuple_mul F.fills_int_mul F.slot_int_rmul repeat_tuple F.slot_int_index.lookup
        (call_meets F.slot_int_rmul (typeIs_int s 1 t) F.entry_int_rmul (F.args_int_rmul_2 _ _) (int_rmul_tuple 1 t l its.toArray n dd sl)
          ⟨ho, rfl, ⟨_, ho, rfl⟩, call_meets F.slot_tuple_mul ⟨_, ho, rfl⟩ F.entry_tuple_mul (F.args_tuple_mul_2 _ _) (tmul_same l its.toArray n dd sl t) ⟨ho, ?_⟩⟩)
      exact ⟨.ref l, H, I, rx0, k ρ H _ (Grow.refl _ _) S (.tup sq rs)⟩
    · rw [if_neg h1] at e
      by_cases h0 : j = 0
      · subst h0
        rw [if_pos rfl] at e
        split at e
        · rename_i hx
          cases e
          cases rx
          obtain ⟨t, rfl⟩ := ry
          obtain ⟨its, r, ⟨⟨cls, dd, data, sl⟩, ho, hc, n, hd⟩, hs⟩ := I.tuple sq
          simp only at hc hd
          subst hc hd
          refine wpAny_binaryOp_repeat_ref (T := "tuple") (U := "int") (by decide) ⟨_, ho, rfl⟩ (fun s' => typeIs_int s' 0 t) noFill_tuple_mul F.fills_int_mul F.slot_int_rmul repeat_tuple F.slot_int_index.lookup
            (call_meets F.slot_int_rmul (typeIs_int s 0 t) F.entry_int_rmul (F.args_int_rmul_2 _ _) (int_rmul_tuple 0 t l its.toArray n dd sl)
              ⟨ho, rfl, ⟨_, ho, rfl⟩, call_meets F.slot_tuple_mul ⟨_, ho, rfl⟩ F.entry_tuple_mul (F.args_tuple_mul_2 _ _) (tmul_none l its.toArray n dd sl t (emp r hx)) ⟨ho, ?_⟩⟩)
          have hn := I.hok.fresh (Nat.le_refl s.heap.objs.size)
          refine ⟨.ref s.heap.objs.size, _, I.laid (t' := s.toks) (o := .tup []) (fun b ob q => Heap.get?_push_of_some _ q) (Nat.le_refl _) ⟨Nat.zero_le _, [], .nil, IsTup.new _ _⟩, rfl, ?_⟩
          exact k ρ _ _ (Grow.new hn) (S.new hn) (.tup (.inl (.inl upd_same)) .nil)
        · cases e
      · rw [if_neg h0] at e
        split at e
        · rename_i hx
          cases e
          have hne : vs ≠ [] := fun z => by
            have h1 := rs.length
            rw [z] at h1
            cases xs with
            | nil => cases hx.2.2.2
            | cons _ _ => simp at h1
          refine op_repT pins s σ H _ _ v u Q I rx ry ⟨l, j, vs, rfl, rfl, sq, hne, hx.1, hx.2.1, by rw [← rs.length]; exact hx.2.2.1, fun p hp => ?_⟩
          exact k ρ _ _ (Grow.new hp) (S.new hp) (.tup (.inl (.inl upd_same)) ((rs.rep _).mono (Grow.new hp)))
        · cases e
  · rename_i n j
    cases rb
    cases ra with
    | @loc _ l ea =>
    split at e
    · rename_i xs e2
      split at e
      · rename_i hx
        cases e
        obtain ⟨vs, q1, rs⟩ := S.lst ea e2
        refine op_rep pins s σ H _ _ v u Q I rx ry ⟨l, j, vs, rfl, rfl, q1, hx.1, hx.2.1, by rw [← rs.length]; exact hx.2.2, fun p hp => ?_⟩
        obtain ⟨g, s3, r4⟩ := new_loc S hp (rs.rep j.toNat)
        exact k _ _ _ g s3 r4
      · cases e
    · cases e
  · exact op_mul2_x pins s σ H x y v u Q I rx ry ⟨ρ, h, a, b, z, h', S, ra, rb, e, k⟩
end
end EX

set_option Elab.async false
set_option linter.all false
set_option maxRecDepth 100000
set_option maxHeartbeats 2000000
namespace EX
open PySem PySem.Spec L2
open PyProof.Rows hiding St
/-! ### for i, x in enumerate(xs) -/
def enumX (xs : List Val) : List Val := xs.mapIdx fun i x => .tup [.int i, x]
def xEnum (x : XE) : XI := fun e h => (x e h).bind fun v h1 => match v with
  | .loc n => (match h1[n]? with
    | some (.lst xs) => .ok (.liveAs n xs (enumX xs)) h1
    | _ => .stuck)
  | .scr xs => .ok (.items (enumX xs)) h1
  | _ => .stuck
section
variable {X : Cx} {W : Wd}
theorem enum_get {xs : List Val} {i : Nat} {y : Val} (h : (enumX xs)[i]? = some y) : ∃ x, xs[i]? = some x ∧ y = .tup [.int i, x] := by
  unfold enumX at h
  rw [List.getElem?_mapIdx] at h
  cases e : xs[i]? with
  | none => rw [e] at h; cases h
  | some x => rw [e] at h; cases h; exact ⟨x, rfl, rfl⟩
theorem itR_enum {K : Gw} {ρ : List Addr} {H : Hp} {it : Itn} {xs : List Val} {a : Addr} (hx : it.xs = enumX xs) (key : ∀ {ρ' : List Addr} {H' : Hp} {h : Hh}, Grow ρ ρ' H H' → Sim K ρ' H' h → it.okAt h → ∃ vs, SqL K.K H' a vs ∧ RepL K ρ' H' xs vs) : ItR K ρ H it (Ite K.K a) := by
  have hl : it.xs.length = xs.length := by rw [hx]; unfold enumX; rw [List.length_mapIdx]
  refine ⟨fun i ρ' H' h g S ok hi => ?_, fun i ρ' H' h y v H2 g S ok hy yl => ?_, fun i ρ' H' h g S ok hi => ?_⟩
  · obtain ⟨vs, q, r⟩ := key g S ok
    exact ⟨vs, vs[i]'(by rw [← r.length, ← hl]; exact hi), q, List.getElem?_eq_getElem _⟩
  · obtain ⟨vs, q, r⟩ := key g S ok
    rw [hx] at hy
    obtain ⟨x, ex, rfl⟩ := enum_get hy
    obtain ⟨T, u, rfl, hT, rfl, z⟩ := yl
    obtain ⟨u', e1, ru⟩ := r.get ex
    rw [z vs q] at e1
    cases e1
    have g2 : Grow ρ' ρ' H' (upd H' T (.tup [.int (i : Nat), u])) := Grow.new hT
    exact ⟨g2, S.new hT, .tup (.inl (.inl upd_same)) (.cons (.int _) (.cons (ru.mono g2) .nil))⟩
  · obtain ⟨vs, q, r⟩ := key g S ok
    exact ⟨vs, q, by rw [← r.length, ← hl]; exact hi⟩
theorem qi_enum {elts : List Expr} {kk : Nat} {tpos p pos : Pos} {e : Expr} {x : XE} (hg : Gl X "enumerate") (hm : X.mg "enumerate" = none) (h : QE X W e x) (hs : starEach [e] X.env = (false, eval e X.env) :: starEach [] X.env := by rfl) (hs' : starEach [e] X.env = [(false, eval e X.env)] := by rfl) : QI X W (.Tuple elts kk tpos) (.Call (.Name "enumerate" p) [e] [] pos) (xEnum x) :=
  PI.of (pi_enum hg hm (pa_cons h pa_nil hs) hs') fun σ H R ⟨ρ, env, h, S, E, pp⟩ => ⟨ρ, env, h, S, E, (Post.bind pp).imp fun v h1 ρ1 H1 g1 S1 q u ru => by
    cases ru with
    | @loc n a ea =>
      dsimp only at q
      split at q
      · rename_i xs e2
        obtain ⟨vs, e3, r3⟩ := S1.lst ea e2
        refine ⟨a, vs, rfl, .inl (.inl e3), q ρ1 H1 (Grow.refl _ _) S1 _ e2 (itR_enum rfl fun {ρ' H' h'} g s ok => ?_)⟩
        obtain ⟨ws, e4, r4⟩ := s.lst (g.get ea) ok
        exact ⟨ws, .inl (.inl e4), r4⟩
      · exact q.elim
    | @scr a xs vs sq rs => exact ⟨a, vs, rfl, sq.sql, q ρ1 H1 (Grow.refl _ _) S1 _ trivial (itR_enum rfl fun {ρ' H' h'} g s ok => ⟨vs, (g.ros sq).sql, rs.mono g⟩)⟩
    | _ => exact q.elim⟩
end
/-! ### for a, b, *c in tuples -/
section
variable {prog : Program} {w : World} {A : Around} {E : Value → Shared → Prop} {s : Shared}
theorem unpack_star3 {t : Addr} {items : Array Value} {x y : Value} {xs : List Value} {Q : List Value → Shared → Prop} (hh : A.handled = none) (ht : s.heap.IsTuple t items) (hi : items.toList = x :: y :: xs) (hz : items.size ≤ sizeLine)
    (hQ : ∀ (h' : Heap) (tk : Nat), (∀ b o, s.heap.get? b = some o → h'.get? b = some o) → Q [x, y, .ref h'.objs.size] { s with heap := h'.push { cls := .type "list", data := .seq xs.toArray }, toks := tk }) : wpAny (model prog w) A (unpackItems (.ref t) 3 (some 2)) Q E s := by
  have nI : t ≠ s.heap.objs.size := by obtain ⟨o, ho, _⟩ := ht; exact Nat.ne_of_lt (Heap.lt_size ho)
  have sz : items.size = xs.length + 1 + 1 := by rw [← Array.length_toList, hi, List.length_cons, List.length_cons]
  unfold unpackItems
  refine wpAny_bind ?_
  unfold notIterableAtAll
  refine wpAny_bind (wpAny_specialOf ht.typeIs F.slot_tuple_iter.lookup (wpAny_pure ?_))
  rw [if_neg (by decide)]
  refine wpAny_bind (wpAny_holding (wpAny_pyIter_tuple ht ?_))
  dsimp only
  refine wpAny_bind (wpAny_holding (wpAny_draw_tuple nI 2 0 _ _ ⟨_, Heap.get?_push_size _ rfl, rfl, rfl⟩ (ht.push _) (by omega) fun h1 it1 sb1 => ?_))
  have two : List.take 2 (List.drop 0 items.toList) = [x, y] := by rw [hi]; rfl
  rw [two, if_neg (by simp)]
  have ht1 : h1.IsTuple t items := (ht.push _).extBut sb1.extBut nI
  have W0 := (Walks.tuple (prog := prog) (w := w) (A := A.in1) (by simp [hh]) s.heap.objs.size t nI items).toS
  rw [sz] at W0
  have lt1 : s.heap.objs.size < h1.objs.size := by
    obtain ⟨o, ho, _⟩ := it1
    exact Heap.lt_size ho
  have lt2 : t < h1.objs.size := by
    obtain ⟨o, ho, _⟩ := ht1
    exact Heap.lt_size ho
  refine wpAny_bind (wpAny_holding (wpAny_collect_iter (T := "tuple_iterator") (.inr (.inr (.inr rfl))) (walks_from (walks_from W0)) (fun i s' st => st.1.typeIs) ⟨it1, ht1⟩ (fun b hb => ?_) (.head _) (fun s' acc mv ia => ?_) (by omega)))
  · simp only [List.mem_cons, List.not_mem_nil, or_false] at hb
    rcases hb with rfl | rfl
    · exact lt1
    · exact lt2
  · have ea : acc.toList = xs := by
      apply List.ext_getElem?
      intro j
      by_cases hj : j < xs.length
      · have h2 : j < acc.size := by rw [ia.1]; exact hj
        have := ia.2 j acc[j] (Array.getElem?_eq_getElem h2)
        have e2 : items.toList[j + 1 + 1]? = some acc[j] := by rw [Array.getElem?_toList]; exact this
        rw [hi, List.getElem?_cons_succ, List.getElem?_cons_succ] at e2
        rw [e2, Array.getElem?_toList]
        exact Array.getElem?_eq_getElem h2
      · rw [List.getElem?_eq_none (by rw [Array.length_toList, ia.1]; omega), List.getElem?_eq_none (by omega)]
    rw [ea, if_neg (by simp)]
    refine wpAny_bind (wpAny_newList ?_ (by rw [List.length_take]; omega))
    refine wpAny_pure ?_
    obtain ⟨hp, g, d, tk, os⟩ := s'
    obtain rfl : g = s.gens := mv.gens
    obtain rfl : d = s.drawn := mv.drawn
    obtain rfl : os = s.os := mv.os
    have k1 : ∀ b o, s.heap.get? b = some o → hp.get? b = some o := fun b o e => by
      have nb : b ≠ s.heap.objs.size := Nat.ne_of_lt (Heap.lt_size e)
      exact mv.heap b o (by simpa using nb) (sb1.extBut b o nb (Heap.get?_push_of_some _ e))
    have tk0 : xs.take (xs.length - (3 - 2 - 1)) = xs := by simp
    have dp0 : xs.drop (xs.length - (3 - 2 - 1)) = [] := by simp
    rw [tk0, dp0]
    exact hQ hp tk k1
end
section
variable {X : Cx} {W : Wd} {k : Nat} {q1 q2 q3 q4 q5 pos : Pos} {i j l : Nat} {x y z : Str}
def gStar3 (K : PySem.W.Frag) (i j l : Nat) : TG := fun v σ H Q => ∃ a u u' us, v = .ref a ∧ SqT K H a (u :: u' :: us) ∧ us.length + 2 ≤ sizeLine ∧ ∀ p, H p = none → Q (((σ.set i (some u)).set j (some u')).set l (some (.ref p))) (upd H p (.lst us))
theorem pg_star3 (hc : X.calm = true) (hN : X.N.Nodup) (hi : X.N[i]? = some x) (hx : Loc X.env.scope x) (hj : X.N[j]? = some y) (hy : Loc X.env.scope y) (hl : X.N[l]? = some z) (hz : Loc X.env.scope z)
    (hf : X.fn x = true ∨ X.env.scope.names.lookup x = some .local := by first | exact .inl rfl | exact .inr rfl | assumption) (hf2 : X.fn y = true ∨ X.env.scope.names.lookup y = some .local := by first | exact .inl rfl | exact .inr rfl | assumption) (hf3 : X.fn z = true ∨ X.env.scope.names.lookup z = some .local := by first | exact .inl rfl | exact .inr rfl | assumption) :
    PG X (.Tuple [.Name x q1, .Name y q2, .Starred (.Name z q3) q4] k q5) (gStar3 X.K i j l) := by
  refine ⟨fun pins s σ H v u Q I r ⟨a, u0, u1, us, ev, hq, hlen, q⟩ => ?_⟩
  subst ev
  cases r
  obtain ⟨its, rv, ht, _⟩ := I.tuple hq
  cases rv with
  | @cons _ w0 _ ws0 r0 rs0 =>
    cases rs0 with
    | @cons _ w1 _ ws r1 rs =>
      rw [PyProof.Rows.assign_Tuple]
      refine wpAny_bind (wpAny_standAt ?_)
      unfold unpack
      refine wpAny_bind (wpAny_holding ?_)
      show wpAny _ _ (unpackItems (.ref a) 3 (some 2)) _ _ _
      refine unpack_star3 (x := w0) (y := w1) (xs := ws) (I.ok.hd hc) ht (by simp) (by rw [List.size_toArray, List.length_cons, List.length_cons, ← rs.length]; omega) fun h' tk kp => ?_
      have I1 : L2.Inv X pins σ H { s with heap := h', toks := tk } := I.kept fun b o e => kp b o e
      have hf0 : H h'.objs.size = none := I1.hok.fresh (Nat.le_refl _)
      have I2 : L2.Inv X pins σ (upd H h'.objs.size (.lst us)) { s with heap := h'.push { cls := .type "list", data := .seq ws.toArray }, toks := tk } :=
        I1.laid (t' := tk) (fun b u e => Heap.get?_push_of_some _ e) (Nat.le_refl _) ⟨by omega, ws, 0, rs, Heap.get?_push_size _ rfl⟩
      have g1 : PGs X [.Name x q1, .Name y q2, .Name z q3] (gCons (gName i) (gCons (gName j) (gCons (gName l) gNil))) := pgs_cons (pg_name hN hi hx hf) (pgs_cons (pg_name hN hj hy hf2) (pgs_cons (pg_name hN hl hz hf3) pgs_nil))
      exact g1.run pins _ σ _ [u0, u1, .ref h'.objs.size] _ Q I2 (.cons r0 (.cons r1 (.cons rfl .nil))) ⟨_, _, rfl, _, _, rfl, _, _, rfl, rfl, q _ hf0⟩
open Classical in
noncomputable def forStar (it : Itn) (i j l : Nat) (body : XS) : List Val → En → Hh → RS
  | [], e, h => if it.okAt h then .nx e h else .stuck
  | v :: vs, e, h => if it.okAt h then (match v with
    | .tup (a :: b :: r) => if r.length + 2 ≤ sizeLine then (match body (((e.set i (some a)).set j (some b)).set l (some (.loc h.length))) (h ++ [.lst r]) with
      | .nx e2 h2 => forStar it i j l body vs e2 h2
      | .ct e2 h2 => forStar it i j l body vs e2 h2
      | .bk e2 h2 => .nx e2 h2
      | .rt v h2 => .rt v h2
      | .exc c fs e2 h2 => .exc c fs e2 h2
      | .stuck => .stuck) else .stuck
    | _ => .stuck) else .stuck
noncomputable def sForStar (xi : XI) (i j l : Nat) (body : XS) : XS := fun e h => match xi e h with
  | .ok it h1 => forStar it i j l body it.xs e h1
  | .exc c fs h1 => .exc c fs e h1
  | .stuck => .stuck
theorem forStar_of {K : Gw} {xi : XI} {xb : XS} {D : Ends} {σ : L2.St} {H : Hp} (h0 : W.s = none) (h : tXS K W (sForStar xi i j l xb) D σ H) : tFor (tXI K W xi) (gStar3 K.K i j l) (tXS K W xb) D σ H := by
  obtain ⟨ρ, env, h, S, E, p⟩ := h
  refine ⟨ρ, env, h, S, E, ?_⟩
  unfold sForStar at p
  cases e : xi env h with
  | exc c fs h1 => rw [e] at p; exact fun ρ1 H1 d cv g1 S1 xc => p ρ1 H1 d σ cv g1 S1 (E.mono g1) xc
  | stuck => rw [e] at p; exact p.elim
  | ok it h1 =>
    rw [e] at p
    intro ρ1 H1 g1 S1 J ok0 hJ
    have p1 : PostS K W ρ1 H1 D (forStar it i j l xb it.xs env h1) := PostS.mono g1 p
    refine ⟨fun n m σ2 H2 => m = it.xs.length - n ∧ n ≤ it.xs.length ∧ ∃ ρ2 env2 h2, Grow ρ1 ρ2 H1 H2 ∧ Sim K ρ2 H2 h2 ∧ EnvR K ρ2 H2 W.s env2 σ2 ∧ PostS K W ρ2 H2 D (forStar it i j l xb (it.xs.drop n) env2 h2), ⟨it.xs.length, by simp, Nat.zero_le _, ρ1, env, h1, Grow.refl _ _, S1, E.mono g1, by rw [List.drop_zero]; exact p1⟩, ?_⟩
    rintro n m σ2 H2 ⟨rfl, hi, ρ2, env2, h2, g2, S2, E2, p2⟩
    by_cases hlt : n < it.xs.length
    · rw [List.drop_eq_getElem_cons hlt] at p2
      unfold forStar at p2
      by_cases ok : it.okAt h2
      · rw [if_pos ok] at p2
        refine .inr ⟨hJ.go n ρ2 H2 h2 g2 S2 ok hlt, fun σ' H' => ∃ ρ' env' h', Grow ρ1 ρ' H1 H' ∧ Sim K ρ' H' h' ∧ EnvR K ρ' H' W.s env' σ' ∧ PostS K W ρ' H' D (forStar it i j l xb (it.xs.drop (n + 1)) env' h'), fun σ' H' hn => ⟨it.xs.length - (n + 1), by omega, rfl, hlt, hn⟩, fun x H3 y => ?_⟩
        obtain ⟨g3, S3, r3⟩ := hJ.yld n ρ2 H2 h2 _ x H3 g2 S2 ok (List.getElem?_eq_getElem hlt) y
        split at p2
        · rename_i va vb vr ev
          rw [ev] at r3
          split at p2
          · rename_i hlen
            cases r3 with
            | @tup ad _ us sq rs =>
            cases rs with
            | @cons _ u0 _ us0 r0 rs0 =>
            cases rs0 with
            | @cons _ u1 _ us1 r1 rs1 =>
            refine ⟨ad, u0, u1, us1, rfl, sq, by rw [← rs1.length]; exact hlen, fun pp hp => ?_⟩
            obtain ⟨g4, S4, r4⟩ := new_loc S3 hp rs1
            have E4 := (E2.mono g3).mono g4
            have E5 := ((E4.set i (r0.mono g4) (fun q z => by rw [h0] at z; cases z)).set j (r1.mono g4) (fun q z => by rw [h0] at z; cases z)).set l r4 (fun q z => by rw [h0] at z; cases z)
            refine ⟨_, _, _, S4, E5, ?_⟩
            have g24 := (g2.trans g3).trans g4
            have p3 := PostS.mono (g3.trans g4) p2
            cases e3 : xb (((env2.set i (some va)).set j (some vb)).set l (some (.loc h2.length))) (h2 ++ [.lst vr]) with
            | nx e4 h4 => rw [e3] at p3; exact fun ρ' H' σ' g s er => ⟨ρ', e4, h4, g24.trans g, s, er, PostS.mono g p3⟩
            | ct e4 h4 => rw [e3] at p3; exact fun ρ' H' σ' g s er => ⟨ρ', e4, h4, g24.trans g, s, er, PostS.mono g p3⟩
            | bk e4 h4 => rw [e3] at p3; exact p3
            | rt v h4 => rw [e3] at p3; exact p3
            | exc c fs e4 h4 => rw [e3] at p3; exact p3
            | stuck => rw [e3] at p3; exact p3
          · exact p2.elim
        · exact p2.elim
      · rw [if_neg ok] at p2; exact p2.elim
    · have e1 : n = it.xs.length := by omega
      subst e1
      rw [List.drop_length] at p2
      unfold forStar at p2
      by_cases ok : it.okAt h2
      · rw [if_pos ok] at p2
        exact .inl ⟨hJ.stop _ ρ2 H2 h2 g2 S2 ok (Nat.le_refl _), p2 ρ2 H2 σ2 (Grow.refl _ _) S2 E2⟩
      · rw [if_neg ok] at p2; exact p2.elim
theorem qs_forStar {iter : Expr} {body : List Stmt} {xi : XI} {xb : XS} (hp : PassesOwn (model X.prog X.w) X.A X.env X.xe) (hc : X.calm = true) (hN : X.N.Nodup) (hi : X.N[i]? = some x) (hx : Loc X.env.scope x) (hj : X.N[j]? = some y) (hy : Loc X.env.scope y) (hl : X.N[l]? = some z) (hz : Loc X.env.scope z)
    (hit : QI X W (.Tuple [.Name x q1, .Name y q2, .Starred (.Name z q3) q4] k q5) iter xi) (hb : QSs X W body xb)
    (hf : X.fn x = true ∨ X.env.scope.names.lookup x = some .local := by first | exact .inl rfl | exact .inr rfl | assumption) (hf2 : X.fn y = true ∨ X.env.scope.names.lookup y = some .local := by first | exact .inl rfl | exact .inr rfl | assumption) (hf3 : X.fn z = true ∨ X.env.scope.names.lookup z = some .local := by first | exact .inl rfl | exact .inr rfl | assumption)
    (hs : ∀ x, foldedSetIterable iter X.env x = pure x := by intro _; rfl) (h0 : W.s = none := by rfl) : QS X W (.For (.Tuple [.Name x q1, .Name y q2, .Starred (.Name z q3) q4] k q5) iter body [] pos) (sForStar xi i j l xb) :=
  PS.of (ps_for hp hc hit (pg_star3 hc hN hi hx hj hy hl hz hf hf2 hf3) hb hs) fun _ _ _ => forStar_of h0
end
end EX

set_option Elab.async false
set_option linter.all false
set_option maxRecDepth 100000
set_option maxHeartbeats 2000000
namespace EX
open PySem PySem.Spec L2
open PyProof.Rows hiding St
/-! ### zip of any two iterators whose pairs are kept -/
section
variable {prog : Program} {w : World} {A : Around} {E : Value → Shared → Prop} {s : Shared} {z TI TO i1 i2 T : Addr} {fp1 fp2 : List Addr} {n1 n2 i : Nat} {P1 P2 : Nat → Value → Prop} {St1 St2 : Nat → Heap → Prop} {f : Bool} {oT : Obj}
theorem zh_next {Q : Value → Shared → Prop} (S : ZipSep2 z TI TO i1 i2 fp1 fp2) (D1 : Draws prog w A i1 fp1 n1 P1 St1) (D2 : Draws prog w A i2 fp2 n2 P2 St2) (hz : IsZipHeld s.heap z TI TO T f) (hT : s.heap.get? T = some oT) (hTI : IsTupOf2 s.heap TI (.ref i1) (.ref i2)) (st1 : St1 i s.heap) (st2 : St2 i s.heap) (l1 : i < n1) (l2 : i < n2)
    (hQ : ∀ x y h' tk, P1 i x → P2 i y → IsZipHeld h' z TI TO T true → St1 (i + 1) h' → St2 (i + 1) h' → IsTupOf2 h' s.heap.objs.size x y → h'.objs.size = s.heap.objs.size + 1 → (∀ c o, c ≠ z → c ≠ i1 → c ≠ i2 → s.heap.get? c = some o → h'.get? c = some o) → Q (.ref s.heap.objs.size) { s with heap := h', toks := tk }) :
    wpAny (model prog w) A (Builtin.«zip.__next__» ⟨[.ref z], []⟩) (fun fin s' => ∃ v, fin = .done (.ret v) ∧ Q v s') E s := by
  obtain ⟨hp, g, d, tk0, os⟩ := s
  show wpAny _ _ (field (.ref z) 2 >>= _) _ _ _
  refine wpAny_bind (wpAny_field hz rfl (x := .bool false) rfl ?_)
  show wpAny _ _ (field (.ref z) 3 >>= _) _ _ _
  refine wpAny_bind (wpAny_field hz rfl (x := .ref TI) rfl (wpAny_bind (wpAny_seqItems hTI rfl ?_)))
  show wpAny _ _ (Builtin.SmallTypes.ownedTupleIsFree (.ref z) >>= _) _ _ _
  refine wpAny_bind (wpAny_tupleHeld_zip hz hT fun ha hza sa => ?_)
  simp only [Bool.false_eq_true, if_false]
  refine wpAny_bind ?_
  rw [← Array.forIn_toList]
  simp only [List.forIn_cons, List.forIn_nil]
  refine wpAny_bind (wpAny_bind (wpAny_holding ?_))
  show wpAny _ _ (Builtin.SmallTypes.nextOf (.ref i1) >>= _) _ _ _
  refine wpAny_bind (D1.item i ⟨ha, g, d, tk0, os⟩ _ _ l1 (D1.over st1 sa S.zf1) fun x hb tb px stb sb => wpAny_pure (wpAny_pure ?_))
  refine wpAny_bind (wpAny_bind (wpAny_holding ?_))
  show wpAny _ _ (Builtin.SmallTypes.nextOf (.ref i2) >>= _) _ _ _
  replace sb : Heap.SameBut i1 ha hb := sb
  refine wpAny_bind (D2.item i ⟨hb, g, d, tb, os⟩ _ _ l2 (D2.over (D2.over st2 sa S.zf2) sb S.sep1_2) fun y hc tc py stc sc => wpAny_pure (wpAny_pure (wpAny_pure ?_)))
  replace sc : Heap.SameBut i2 hb hc := sc
  show wpAny _ _ (newTuple [x, y] >>= _) _ _ _
  refine wpAny_bind (wpAny_newTuple (wpAny_pure ⟨_, rfl, ?_⟩))
  have sz : hc.objs.size = hp.objs.size := by rw [sc.1, sb.1, sa.1]
  have kp : ∀ c o, c ≠ z → c ≠ i1 → c ≠ i2 → hp.get? c = some o → hc.get? c = some o := fun c o a b e q => sc.extBut _ _ e (sb.extBut _ _ b (sa.extBut _ _ a q))
  have zc : IsZipHeld hc z TI TO T true := sc.extBut _ _ S.zi2 (sb.extBut _ _ S.zi1 hza)
  have new : (hc.push { cls := .type "tuple", data := .seq #[x, y] }).get? hc.objs.size = some { cls := .type "tuple", data := .seq #[x, y] } := Heap.get?_push_size _ rfl
  have size : (hc.push { cls := .type "tuple", data := .seq #[x, y] }).objs.size = hc.objs.size + 1 := Heap.size_push ..
  show Q (.ref hc.objs.size) _
  rw [sz] at new size ⊢
  exact hQ x y _ tc px py (Heap.get?_push_of_some _ zc) (D1.frame _ _ _ (D1.over stb sc S.sep2_1) fun b _ o q => Heap.get?_push_of_some _ q) (D2.frame _ _ _ stc fun b _ o q => Heap.get?_push_of_some _ q) new size fun c o a b e q => Heap.get?_push_of_some _ (kp c o a b e q)
theorem zh_end {Q : Fin → Shared → Prop} (S : ZipSep2 z TI TO i1 i2 fp1 fp2) (D1 : Draws prog w A i1 fp1 n1 P1 St1) (D2 : Draws prog w A i2 fp2 n2 P2 St2) (hz : IsZipHeld s.heap z TI TO T f) (hT : s.heap.get? T = some oT) (hTI : IsTupOf2 s.heap TI (.ref i1) (.ref i2)) (st1 : St1 i s.heap) (st2 : St2 i s.heap) (l1 : i ≤ n1) (l2 : i ≤ n2) (he : i = n1 ∨ i = n2)
    (hE : ∀ h' tk e, (∀ c o, c ≠ z → c ≠ i1 → c ≠ i2 → s.heap.get? c = some o → h'.get? c = some o) → (∃ o, h'.get? e = some o ∧ o.cls = .type "StopIteration") → E (.ref e) { s with heap := h', toks := tk }) :
    wpAny (model prog w) A (Builtin.«zip.__next__» ⟨[.ref z], []⟩) Q E s := by
  obtain ⟨hp, g, d, tk0, os⟩ := s
  show wpAny _ _ (field (.ref z) 2 >>= _) _ _ _
  refine wpAny_bind (wpAny_field hz rfl (x := .bool false) rfl ?_)
  show wpAny _ _ (field (.ref z) 3 >>= _) _ _ _
  refine wpAny_bind (wpAny_field hz rfl (x := .ref TI) rfl (wpAny_bind (wpAny_seqItems hTI rfl ?_)))
  show wpAny _ _ (Builtin.SmallTypes.ownedTupleIsFree (.ref z) >>= _) _ _ _
  refine wpAny_bind (wpAny_tupleHeld_zip hz hT fun ha hza sa => ?_)
  simp only [Bool.false_eq_true, if_false]
  refine wpAny_bind ?_
  rw [← Array.forIn_toList]
  simp only [List.forIn_cons, List.forIn_nil]
  refine wpAny_bind (wpAny_bind (wpAny_holding ?_))
  show wpAny _ _ (Builtin.SmallTypes.nextOf (.ref i1) >>= _) _ _ _
  by_cases h1 : i = n1
  · subst h1
    refine wpAny_bind (D1.done ⟨ha, g, d, tk0, os⟩ _ _ (D1.over st1 sa S.zf1) fun hb e sb ex => ?_)
    exact hE hb tk0 e (fun c o a b _ q => sb _ _ b (sa.extBut _ _ a q)) ex
  · have h2 : i = n2 := he.resolve_left h1
    subst h2
    refine wpAny_bind (D1.item i ⟨ha, g, d, tk0, os⟩ _ _ (by omega) (D1.over st1 sa S.zf1) fun x hb tb px stb sb => wpAny_pure (wpAny_pure ?_))
    refine wpAny_bind (wpAny_bind (wpAny_holding ?_))
    show wpAny _ _ (Builtin.SmallTypes.nextOf (.ref i2) >>= _) _ _ _
    replace sb : Heap.SameBut i1 ha hb := sb
    refine wpAny_bind (D2.done ⟨hb, g, d, tb, os⟩ _ _ (D2.over (D2.over st2 sa S.zf2) sb S.sep1_2) fun hc e sc ex => ?_)
    exact hE hc tb e (fun c o a b q3 q => sc _ _ q3 (sb.extBut _ _ b (sa.extBut _ _ a q))) ex
end
/-- the zip's state ahead of its turn i; d: an object that is not its own -/
def Zs (d z TI TO i1 i2 : Addr) (St1 St2 : Nat → Heap → Prop) (i : Nat) (h : Heap) : Prop := IsTupOf2 h TI (.ref i1) (.ref i2) ∧ St1 i h ∧ St2 i h ∧
  ((IsZip h z TI TO .none ∧ ∃ a b, IsTupOf2 h TO a b) ∨ ∃ T f oT, IsZipHeld h z TI TO T f ∧ h.get? T = some oT ∧ T ≠ z ∧ T ≠ i1 ∧ T ≠ i2 ∧ T ≠ d)
section
variable {prog : Program} {w : World} {A : Around} {E : Value → Shared → Prop} {s : Shared} {d0 z TI TO i1 i2 : Addr} {fp1 fp2 : List Addr} {n1 n2 i : Nat} {P1 P2 : Nat → Value → Prop} {St1 St2 : Nat → Heap → Prop}
theorem zs_item {Q : Option Value → Shared → Prop} (S : ZipSep2 z TI TO i1 i2 fp1 fp2) (D1 : Draws prog w A.in1 i1 fp1 n1 P1 St1) (D2 : Draws prog w A.in1 i2 fp2 n2 P2 St2) (st : Zs d0 z TI TO i1 i2 St1 St2 i s.heap) (hd : d0 < s.heap.objs.size) (l1 : i < n1) (l2 : i < n2)
    (hQ : ∀ x y h' tk, P1 i x → P2 i y → Zs d0 z TI TO i1 i2 St1 St2 (i + 1) h' → IsTupOf2 h' s.heap.objs.size x y → h'.objs.size = s.heap.objs.size + 1 → (∀ c o, c ≠ z → c ≠ TO → c ≠ i1 → c ≠ i2 → s.heap.get? c = some o → h'.get? c = some o) → Q (some (.ref s.heap.objs.size)) { s with heap := h', toks := tk }) : wpAny (model prog w) A (pyNext (.ref z)) Q E s := by
  obtain ⟨hTI, s1, s2, hz⟩ := st
  have lt : ∀ {c : Addr} {o : Obj}, s.heap.get? c = some o → s.heap.objs.size ≠ c := fun q => Nat.ne_of_gt (Heap.lt_size q)
  have n1' : s.heap.objs.size ≠ i1 := by obtain ⟨_, q⟩ := D1.live _ _ s1; exact lt q
  have n2' : s.heap.objs.size ≠ i2 := by obtain ⟨_, q⟩ := D2.live _ _ s2; exact lt q
  rcases hz with ⟨hz, a, b, hTO⟩ | ⟨T, f, oT, hz, hT, t1, t2, t3, tc⟩
  · refine wpAny_pyNext_zipD2_item S D1 D2 hz hTI hTO s1 s2 l1 l2 fun x y h' tk px py z1 z2 d1 d2 new size kp => hQ x y h' tk px py ⟨kp _ _ S.TIz S.TITO S.TIi1 S.TIi2 hTI, d1, d2, .inr ⟨s.heap.objs.size, false, _, z1, new, lt hz, n1', n2', Nat.ne_of_gt hd⟩⟩ new size kp
  · have hTy : s.TypeIs (.ref z) "zip" := ⟨_, hz, rfl⟩
    unfold pyNext
    refine wpAny_bind (wpAny_attempt (wpAny_callSpecial?_slot (name := Str.ofString "__next__") hTy F.slot_zip_next (wpAny_call_entry F.slot_zip_next hTy F.entry_zip_next (zh_next S D1 D2 hz hT hTI s1 s2 l1 l2 fun x y h' tk px py z1 d1 d2 new size kp => wpAny_pure ?_) (F.args_zip_next_1 _))))
    exact hQ x y h' tk px py ⟨kp _ _ S.TIz S.TIi1 S.TIi2 hTI, d1, d2, .inr ⟨T, true, oT, z1, kp _ _ t1 t2 t3 hT, t1, t2, t3, tc⟩⟩ new size fun c o a _ b e q => kp c o a b e q
theorem zs_done {Q : Option Value → Shared → Prop} (S : ZipSep2 z TI TO i1 i2 fp1 fp2) (D1 : Draws prog w A.in1 i1 fp1 n1 P1 St1) (D2 : Draws prog w A.in1 i2 fp2 n2 P2 St2) (st : Zs d0 z TI TO i1 i2 St1 St2 i s.heap) (l1 : i ≤ n1) (l2 : i ≤ n2) (he : i = n1 ∨ i = n2)
    (hQ : ∀ h' tk, (∀ c o, c ≠ z → c ≠ TO → c ≠ i1 → c ≠ i2 → s.heap.get? c = some o → h'.get? c = some o) → Q none { s with heap := h', toks := tk }) : wpAny (model prog w) A (pyNext (.ref z)) Q E s := by
  obtain ⟨hTI, s1, s2, hz⟩ := st
  rcases hz with ⟨hz, a, b, hTO⟩ | ⟨T, f, oT, hz, hT, t1, t2, t3, tc⟩
  · exact wpAny_pyNext_zipD2_end S D1 D2 hz hTI hTO s1 s2 l1 l2 he hQ
  · have hTy : s.TypeIs (.ref z) "zip" := ⟨_, hz, rfl⟩
    unfold pyNext
    refine wpAny_bind (wpAny_attempt (wpAny_callSpecial?_slot (name := Str.ofString "__next__") hTy F.slot_zip_next (wpAny_call_entry F.slot_zip_next hTy F.entry_zip_next (zh_end S D1 D2 hz hT hTI s1 s2 l1 l2 he fun h' tk e kp ex => ?_) (F.args_zip_next_1 _))))
    obtain ⟨o, ho, hc⟩ := ex
    exact wpAny_bind (wpAny_isInstance (T := "StopIteration") (b := true) ⟨o, ho, hc⟩ isSubtype_stop (wpAny_pure (hQ _ _ fun c o a _ b e q => kp c o a b e q)))
end
end EX

set_option Elab.async false
set_option linter.all false
set_option maxRecDepth 100000
set_option maxHeartbeats 2000000
namespace EX
open PySem PySem.Spec L2
open PyProof.Rows hiding St
/-! ### dict(zip(x, y)), list(zip(x, y)) -/
/-- a sequence that zip walks: its iterator, what it reads -/
structure Sq (prog : Program) (w : World) (it : Addr) (fp : List Addr) (n : Nat) (P : Nat → Value → Prop) (St : Nat → Heap → Prop) : Prop where
  dr : ∀ A : Around, A.handled = none → Draws prog w A it fp n P St
  ex : ∀ i h, St i h → ∀ b ∈ fp, ∃ o, h.get? b = some o
  fr : ∀ i h h', St i h → (∀ b ∈ fp, ∀ o, h.get? b = some o → h'.get? b = some o) → St i h'
theorem sq_list {prog : Program} {w : World} (it l : Addr) (ne : l ≠ it) (items : Array Value) : Sq prog w it [it, l] items.size (fun i v => items[i]? = some v) (fun i h => h.IsListIter it l i ∧ h.IsList l items) :=
  ⟨fun A hh => .list hh it l ne items, fun i h ⟨⟨o, a, _⟩, ⟨q, b, _⟩⟩ c m => by
    simp only [List.mem_cons, List.not_mem_nil, or_false] at m
    rcases m with rfl | rfl
    · exact ⟨_, a⟩
    · exact ⟨_, b⟩, fun i h h' st k => ⟨st.1.at fun o q => k it (by simp) o q, st.2.at fun o q => k l (by simp) o q⟩⟩
theorem sq_tup {prog : Program} {w : World} (it l : Addr) (ne : l ≠ it) (items : Array Value) : Sq prog w it [it, l] items.size (fun i v => items[i]? = some v) (fun i h => h.IsTupleIter it l i ∧ h.IsTuple l items) :=
  ⟨fun A hh => .tuple hh it l ne items, fun i h ⟨⟨o, a, _⟩, ⟨q, b, _⟩⟩ c m => by
    simp only [List.mem_cons, List.not_mem_nil, or_false] at m
    rcases m with rfl | rfl
    · exact ⟨_, a⟩
    · exact ⟨_, b⟩, fun i h h' st k => ⟨st.1.at fun o q => k it (by simp) o q, st.2.at fun o q => k l (by simp) o q⟩⟩
section
variable {prog : Program} {w : World} {z TI TO i1 i2 : Addr} {fp1 fp2 : List Addr} {n1 n2 : Nat} {P1 P2 : Nat → Value → Prop} {St1 St2 : Nat → Heap → Prop}
abbrev ZOk (z TI TO i1 i2 : Addr) (St1 St2 : Nat → Heap → Prop) (h : Heap) : Prop := IsZip h z TI TO .none ∧ IsTupOf2 h TI (.ref i1) (.ref i2) ∧ (∃ a b, IsTupOf2 h TO a b) ∧ St1 0 h ∧ St2 0 h
theorem zip_arg (S : ZipSep2 z TI TO i1 i2 fp1 fp2) (q1 : Sq prog w i1 fp1 n1 P1 St1) (q2 : Sq prog w i2 fp2 n2 P2 St2) : PairArg prog w "zip" z (z :: TI :: TO :: (fp1 ++ fp2)) [z, TO, i1, i2] (min n1 n2) (fun i k v => P1 i k ∧ P2 i v) (ZOk z TI TO i1 i2 St1 St2) where
  type := fun s ok => ⟨_, ok.1, rfl⟩
  notDict := by decide
  keep := fun h h' ⟨a, b, ⟨c, d, e⟩, f, g⟩ k => ⟨k _ _ a, k _ _ b, ⟨c, d, k _ _ e⟩, q1.fr _ _ _ f fun b _ o q => k b o q, q2.fr _ _ _ g fun b _ o q => k b o q⟩
  there := fun h ⟨a, b, ⟨c, d, e⟩, f, g⟩ x hx => by
    simp only [List.mem_cons, List.mem_append] at hx
    rcases hx with rfl | rfl | rfl | hx | hx
    · exact ⟨_, a⟩
    · exact ⟨_, b⟩
    · exact ⟨_, e⟩
    · exact q1.ex _ _ f _ hx
    · exact q2.ex _ _ g _ hx
  sub := fun x hx => by
    simp only [List.mem_cons, List.not_mem_nil, or_false] at hx
    simp only [List.mem_cons, List.mem_append]
    rcases hx with rfl | rfl | rfl | rfl
    · exact .inl rfl
    · exact .inr (.inr (.inl rfl))
    · exact .inr (.inr (.inr (.inl S.mem1)))
    · exact .inr (.inr (.inr (.inr S.mem2)))
  noKeys := fun A s Q E hA ok h => getAttrOr_miss_zip ok.1 rfl rfl rfl zip_no_keys (by decide +kernel) hA h
  iter := fun A s d Q E hA ⟨hz, hTI, ⟨a, b, hTO⟩, s1, s2⟩ hd hdf h => by
    simp only [List.mem_cons, List.mem_append, not_or] at hdf
    obtain ⟨dz, dTI, dTO, d1, d2⟩ := hdf
    have hi : A.in1.handled = none := by simp [hA]
    refine wpAny_pyIter_zip hz (h z [z, TO, i1, i2] (fun i h => Zs d z TI TO i1 i2 St1 St2 i h) s.heap s.toks ?_ ⟨hTI, s1, s2, .inl ⟨hz, a, b, hTO⟩⟩ (fun _ _ q => q) fun _ m => .inl m)
    have off : ∀ c, c ∉ [z, TO, i1, i2] → c ≠ z ∧ c ≠ TO ∧ c ≠ i1 ∧ c ≠ i2 := fun c hc => by simpa [not_or] using hc
    refine { off := fun m => ?_, frame := fun i h h' st k => ?_, item := fun i s Q E li st hds hQ => ?_, done := fun s Q E st hQ => ?_ }
    · simp only [List.mem_cons, List.not_mem_nil, or_false] at m
      rcases m with e | e | e | e
      · exact dz e
      · exact dTO e
      · exact d1 (e ▸ S.mem1)
      · exact d2 (e ▸ S.mem2)
    · obtain ⟨a1, a2, a3, a4⟩ := st
      refine ⟨k _ _ (Ne.symm dTI) a1, q1.fr _ _ _ a2 fun b hb o q => k b o (fun e => d1 (e ▸ hb)) q, q2.fr _ _ _ a3 fun b hb o q => k b o (fun e => d2 (e ▸ hb)) q, ?_⟩
      rcases a4 with ⟨hz, a, b, hTO⟩ | ⟨T, f, oT, hz, hT, t1, t2, t3, t4⟩
      · exact .inl ⟨k _ _ (Ne.symm dz) hz, a, b, k _ _ (Ne.symm dTO) hTO⟩
      · exact .inr ⟨T, f, oT, k _ _ (Ne.symm dz) hz, k _ _ t4 hT, t1, t2, t3, t4⟩
    · refine zs_item S (q1.dr _ hi) (q2.dr _ hi) st hds (by omega) (by omega) fun x y h' tk px py st' new size kp => ?_
      exact hQ _ x y h' tk ⟨px, py⟩ (.inl ⟨_, new, rfl, _, rfl⟩) st' fun c o hc q => kp c o (off c hc).1 (off c hc).2.1 (off c hc).2.2.1 (off c hc).2.2.2 q
    · refine zs_done S (q1.dr _ hi) (q2.dr _ hi) st (by omega) (by omega) (by omega) fun h' tk kp => hQ h' tk fun c o hc q => kp c o (off c hc).1 (off c hc).2.1 (off c hc).2.2.1 (off c hc).2.2.2 q
end
/-! ### list(zip(x, y)) -/
section
variable {prog : Program} {w : World} {A : Around} {s : Shared} {R : Result → Shared → Prop} {z TI TO i1 i2 S : Addr} {fp1 fp2 : List Addr} {n1 n2 : Nat} {P1 P2 : Nat → Value → Prop} {St1 St2 : Nat → Heap → Prop}
/-- the pairs so far: new tuples, each behind the one before it -/
structure Prs (h : Heap) (lo : Nat) (ts : List Addr) (xs ys : List Value) : Prop where
  len : ts.length = xs.length ∧ xs.length = ys.length
  lo : ∀ t ∈ ts, lo ≤ t ∧ t < h.objs.size
  nd : ts.Nodup
  at_ : ∀ (j : Nat) (t : Addr) (x y : Value), ts[j]? = some t → xs[j]? = some x → ys[j]? = some y → IsTupOf2 h t x y
theorem zl_loop (Sp : ZipSep2 z TI TO i1 i2 fp1 fp2) (q1 : Sq prog w i1 fp1 n1 P1 St1) (q2 : Sq prog w i2 fp2 n2 P2 St2) (hh : A.handled = none) (hS : S ≠ z ∧ S ≠ TI ∧ S ≠ TO ∧ S ∉ fp1 ∧ S ∉ fp2) (lo : Nat) (hSlo : S < lo) (hlo : z < lo ∧ TO < lo ∧ i1 < lo ∧ i2 < lo) (hn : min n1 n2 ≤ sizeLine) (res : Value) :
    ∀ (m i : Nat) (s : Shared) (ts : List Addr) (xs ys : List Value) (c : Nat), min n1 n2 - i = m → i ≤ min n1 n2 → Zs S z TI TO i1 i2 St1 St2 i s.heap → lo ≤ s.heap.objs.size → s.heap.get? S = some { cls := .type "list", dict := none, data := .seq (ts.map Value.ref).toArray c, slots := #[] } → Prs s.heap lo ts xs ys → xs.length = i → (∀ j x, xs[j]? = some x → P1 j x) → (∀ j y, ys[j]? = some y → P2 j y) →
      (∀ (h' : Heap) (tk c' : Nat) (ts' : List Addr) (xs' ys' : List Value), h'.get? S = some { cls := .type "list", dict := none, data := .seq (ts'.map Value.ref).toArray c', slots := #[] } → Prs h' lo ts' xs' ys' → xs'.length = min n1 n2 → (∀ j x, xs'[j]? = some x → P1 j x) → (∀ j y, ys'[j]? = some y → P2 j y) →
        (∀ b o, b < lo → b ≠ S → b ≠ z → b ≠ TO → b ≠ i1 → b ≠ i2 → s.heap.get? b = some o → h'.get? b = some o) → R (.ok (.ret res)) { s with heap := h', toks := tk }) →
      codeAny (model prog w) A (.builtin "list.extend.loop" ⟨[.ref S, .ref z, res], []⟩) R s := by
  have hi : A.in1.handled = none := by simp [hh]
  have hi2 : A.in1.in1.handled = none := by simp [hh]
  have far : ∀ {t : Addr}, lo ≤ t → t ≠ z ∧ t ≠ TO ∧ t ≠ i1 ∧ t ≠ i2 ∧ t ≠ S := fun {t} l => ⟨Nat.ne_of_gt (Nat.lt_of_lt_of_le hlo.1 l), Nat.ne_of_gt (Nat.lt_of_lt_of_le hlo.2.1 l), Nat.ne_of_gt (Nat.lt_of_lt_of_le hlo.2.2.1 l), Nat.ne_of_gt (Nat.lt_of_lt_of_le hlo.2.2.2 l), Nat.ne_of_gt (Nat.lt_of_lt_of_le hSlo l)⟩
  intro m
  induction m with
  | zero =>
    intro i s ts xs ys c hm hle st hsz hl pr hxl px py fin
    obtain rfl : i = min n1 n2 := by omega
    refine codeAny_builtin F.entry_extend_loop ?_
    rw [Around.under_plainId F.plain_extend_loop _]
    show wpAny _ A.in1 (pyNext (.ref z) >>= _) _ _ s
    refine wpAny_bind (zs_done Sp (q1.dr _ hi2) (q2.dr _ hi2) st (by omega) (by omega) (by omega) fun h' tk kp => wpAny_pure ?_)
    have kS : ∀ b o, b ≠ z → b ≠ TO → b ≠ i1 → b ≠ i2 → s.heap.get? b = some o → h'.get? b = some o := kp
    have nSi : S ≠ i1 ∧ S ≠ i2 := ⟨fun e => hS.2.2.2.1 (e ▸ Sp.mem1), fun e => hS.2.2.2.2 (e ▸ Sp.mem2)⟩
    refine (fun (pr' : Prs h' lo ts xs ys) => ?_) ⟨pr.len, fun t mt => ?_, pr.nd, fun j t x y a b e => ?_⟩
    · exact fin h' tk c ts xs ys (kp _ _ hS.1 hS.2.2.1 nSi.1 nSi.2 hl) pr' hxl px py fun b o _ _ a1 a2 a3 a4 q => kp b o a1 a2 a3 a4 q
    · obtain ⟨j, hj⟩ := List.getElem?_of_mem mt
      have lj := (List.getElem?_eq_some_iff.mp hj).1
      have e := pr.at_ j t _ _ hj (List.getElem?_eq_getElem (by rw [← pr.len.1]; exact lj)) (List.getElem?_eq_getElem (by rw [← pr.len.2, ← pr.len.1]; exact lj))
      have l := (pr.lo t mt).1
      exact ⟨l, Heap.lt_size (kp _ _ (far l).1 (far l).2.1 (far l).2.2.1 (far l).2.2.2.1 e)⟩
    · have l := (pr.lo t (List.mem_of_getElem? a)).1
      exact kp _ _ (far l).1 (far l).2.1 (far l).2.2.1 (far l).2.2.2.1 (pr.at_ j t x y a b e)
  | succ m ih =>
    intro i s ts xs ys c hm hle st hsz hl pr hxl px py fin
    refine codeAny_builtin F.entry_extend_loop ?_
    rw [Around.under_plainId F.plain_extend_loop _]
    show wpAny _ A.in1 (pyNext (.ref z) >>= _) _ _ s
    have ltS : S < s.heap.objs.size := Heap.lt_size hl
    refine wpAny_bind (zs_item Sp (q1.dr _ hi2) (q2.dr _ hi2) st ltS (by omega) (by omega) fun x y h' tk hx hy st' new size kp => ?_)
    have nSi : S ≠ i1 ∧ S ≠ i2 := ⟨fun e => hS.2.2.2.1 (e ▸ Sp.mem1), fun e => hS.2.2.2.2 (e ▸ Sp.mem2)⟩
    have hl' : h'.get? S = some { cls := .type "list", dict := none, data := .seq (ts.map Value.ref).toArray c, slots := #[] } := kp _ _ hS.1 hS.2.2.1 nSi.1 nSi.2 hl
    show wpAny _ A.in1 (updateSeq S (·.push (.ref s.heap.objs.size)) >>= _) _ _ _
    have lts : ts.length = i := by rw [pr.len.1]; exact hxl
    refine wpAny_bind (wpAny_updateSeq hl' rfl (wpAny_pure ⟨plainId_quiet F.plain_extend_loop _, ?_⟩) (by rw [List.size_toArray, List.length_map]; omega) (by show ((ts.map Value.ref).toArray.push _).size ≤ sizeLine + 1; rw [Array.size_push, List.size_toArray, List.length_map]; omega))
    generalize hh2 : h'.update S (Obj.mapSeq (·.push (Value.ref s.heap.objs.size))) = h2
    have k2 : ∀ b o, b ≠ S → h'.get? b = some o → h2.get? b = some o := fun b o hb q => by rw [← hh2]; exact (Heap.get?_update_other _ _ (Ne.symm hb)).trans q
    have g2 : ∃ c', h2.get? S = some { cls := .type "list", dict := none, data := .seq ((ts ++ [s.heap.objs.size]).map Value.ref).toArray c', slots := #[] } := by
      have q := Heap.get?_update_self (Obj.mapSeq (·.push (Value.ref s.heap.objs.size))) hl' rfl
      rw [hh2] at q
      have e : ((ts ++ [s.heap.objs.size]).map Value.ref).toArray = (ts.map Value.ref).toArray.push (.ref s.heap.objs.size) := by simp
      rw [e]
      exact ⟨_, q⟩
    obtain ⟨c', g2⟩ := g2
    have sz2 : h2.objs.size = s.heap.objs.size + 1 := by rw [← hh2, Heap.size_update]; exact size
    have nT : s.heap.objs.size ≠ S := Nat.ne_of_gt ltS
    have low : ∀ t ∈ ts, lo ≤ t ∧ t < s.heap.objs.size := pr.lo
    refine ih (i + 1) _ (ts ++ [s.heap.objs.size]) (xs ++ [x]) (ys ++ [y]) c' (by omega) (by omega) ?_ (by show lo ≤ h2.objs.size; rw [sz2]; exact Nat.le_succ_of_le hsz) g2 ⟨?_, fun t mt => ?_, ?_, fun j t u v a b e => ?_⟩ (by simp [hxl]) (fun j u e => ?_) (fun j u e => ?_) fun h3 tk3 c3 ts3 xs3 ys3 a1 a2 a3 a4 a5 a6 => ?_
    · obtain ⟨b1, b2, b3, b4⟩ := st'
      refine ⟨k2 _ _ (Ne.symm hS.2.1) b1, q1.fr _ _ _ b2 fun b hb o q => k2 b o (fun e => hS.2.2.2.1 (e ▸ hb)) q, q2.fr _ _ _ b3 fun b hb o q => k2 b o (fun e => hS.2.2.2.2 (e ▸ hb)) q, ?_⟩
      rcases b4 with ⟨hz, a, b, hTO⟩ | ⟨T, f, oT, hz, hT, t1, t2, t3, t4⟩
      · exact .inl ⟨k2 _ _ (Ne.symm hS.1) hz, a, b, k2 _ _ (Ne.symm hS.2.2.1) hTO⟩
      · exact .inr ⟨T, f, oT, k2 _ _ (Ne.symm hS.1) hz, k2 _ _ t4 hT, t1, t2, t3, t4⟩
    · simp [pr.len.1, pr.len.2]
    · show lo ≤ t ∧ t < h2.objs.size
      rcases List.mem_append.mp mt with q | q
      · exact ⟨(low t q).1, by rw [sz2]; exact Nat.lt_succ_of_lt (low t q).2⟩
      · rw [List.mem_singleton.mp q]; exact ⟨hsz, by rw [sz2]; exact Nat.lt_succ_self _⟩
    · rw [List.nodup_append]
      refine ⟨pr.nd, by simp, fun a ma b mb => ?_⟩
      rw [List.mem_singleton.mp mb]
      exact Nat.ne_of_lt (low a ma).2
    · show IsTupOf2 h2 t u v
      by_cases hj : j < ts.length
      · rw [List.getElem?_append_left hj] at a
        rw [List.getElem?_append_left (by rw [← pr.len.1]; exact hj)] at b
        rw [List.getElem?_append_left (by rw [← pr.len.2, ← pr.len.1]; exact hj)] at e
        have l := (low t (List.mem_of_getElem? a)).1
        exact k2 _ _ (far l).2.2.2.2 (kp _ _ (far l).1 (far l).2.1 (far l).2.2.1 (far l).2.2.2.1 (pr.at_ j t u v a b e))
      · have ej : j = ts.length := by
          have := (List.getElem?_eq_some_iff.mp a).1
          rw [List.length_append, List.length_singleton] at this
          omega
        subst ej
        rw [List.getElem?_append_right (Nat.le_refl _), Nat.sub_self] at a
        rw [pr.len.1, List.getElem?_append_right (Nat.le_refl _), Nat.sub_self] at b
        rw [pr.len.1, pr.len.2, List.getElem?_append_right (Nat.le_refl _), Nat.sub_self] at e
        cases a; cases b; cases e
        exact k2 _ _ nT new
    · by_cases hj : j < xs.length
      · rw [List.getElem?_append_left hj] at e; exact px j u e
      · have ej : j = xs.length := by
          have := (List.getElem?_eq_some_iff.mp e).1
          rw [List.length_append, List.length_singleton] at this
          omega
        subst ej
        rw [List.getElem?_append_right (Nat.le_refl _), Nat.sub_self] at e
        cases e
        rw [hxl]; exact hx
    · by_cases hj : j < ys.length
      · rw [List.getElem?_append_left hj] at e; exact py j u e
      · have ej : j = ys.length := by
          have := (List.getElem?_eq_some_iff.mp e).1
          rw [List.length_append, List.length_singleton] at this
          omega
        subst ej
        rw [List.getElem?_append_right (Nat.le_refl _), Nat.sub_self] at e
        cases e
        rw [← pr.len.2, hxl]; exact hy
    · exact fin h3 tk3 c3 ts3 xs3 ys3 a1 a2 a3 a4 a5 fun b o l1 l2 l3 l4 l5 l6 q => a6 b o l1 l2 l3 l4 l5 l6 (k2 _ _ l2 (kp _ _ l3 l4 l5 l6 q))
end
end EX

set_option Elab.async false
set_option linter.all false
set_option maxRecDepth 100000
set_option maxHeartbeats 2000000
namespace EX
open PySem PySem.Spec L2
open PyProof.Rows hiding St
theorem zip_len0 : typeLookup (.type "zip") "__len__" = pure none := am_miss_of_fast (by decide +kernel)
theorem zip_hint0 : typeLookup (.type "zip") "__length_hint__" = pure none := am_miss_of_fast (by decide +kernel)
section
variable {prog : Program} {w : World} {A : Around} {E : Value → Shared → Prop} {s : Shared} {z TI TO i1 i2 : Addr} {fp1 fp2 : List Addr} {n1 n2 : Nat} {P1 P2 : Nat → Value → Prop} {St1 St2 : Nat → Heap → Prop}
theorem call_list_zip {Q : Value → Shared → Prop} (Sp : ZipSep2 z TI TO i1 i2 fp1 fp2) (q1 : Sq prog w i1 fp1 n1 P1 St1) (q2 : Sq prog w i2 fp2 n2 P2 St2) (hh : A.handled = none) (ok : ZOk z TI TO i1 i2 St1 St2 s.heap) (hn : min n1 n2 ≤ sizeLine)
    (hQ : ∀ (h' : Heap) (tk c : Nat) (ts : List Addr) (xs ys : List Value), h'.get? s.heap.objs.size = some { cls := .type "list", dict := none, data := .seq (ts.map Value.ref).toArray c, slots := #[] } → Prs h' (s.heap.objs.size + 1) ts xs ys → xs.length = min n1 n2 → (∀ j x, xs[j]? = some x → P1 j x) → (∀ j y, ys[j]? = some y → P2 j y) →
      (∀ b o, b ≠ z → b ≠ TO → b ≠ i1 → b ≠ i2 → s.heap.get? b = some o → h'.get? b = some o) → Q (.ref s.heap.objs.size) { s with heap := h', toks := tk }) :
    wpAny (model prog w) A (call (.type "list") [.ref z]) Q E s := by
  obtain ⟨hz, hTI, ⟨a, b, hTO⟩, s1, s2⟩ := ok
  refine callType_codes (Q₁ := fun obj t => obj = .ref s.heap.objs.size ∧ t = { s with heap := s.heap.push { cls := .type "list", data := .seq #[] } }) F.called_list (F.typeCall_list_1 _) F.entry_list_init (code_list_new _ ⟨rfl, rfl⟩) fun obj t ht => ?_
  obtain ⟨rfl, rfl⟩ := ht
  have hS : (s.heap.push { cls := .type "list", data := .seq #[] }).get? s.heap.objs.size = some { cls := .type "list", data := .seq #[] } := Heap.get?_push_size _ rfl
  have lt : ∀ {c : Addr} {o : Obj}, s.heap.get? c = some o → c < s.heap.objs.size := fun q => Heap.lt_size q
  have l1 : ∀ c ∈ fp1, c < s.heap.objs.size := fun c m => by obtain ⟨o, q⟩ := q1.ex _ _ s1 c m; exact lt q
  have l2 : ∀ c ∈ fp2, c < s.heap.objs.size := fun c m => by obtain ⟨o, q⟩ := q2.ex _ _ s2 c m; exact lt q
  refine ⟨⟨_, hS, rfl⟩, F.args_list_init_2 _ _, ?_⟩
  show wpAny _ _ (do let old ← Builtin.List.listItems (.ref s.heap.objs.size); Builtin.List.listUpdate (.ref s.heap.objs.size) (fun _ => #[]); letGo old.toList.reverse; Builtin.List.listExtendWith (.ref s.heap.objs.size) (.ref z) .none) _ _ _
  refine wpAny_bind ?_
  unfold Builtin.List.listItems
  refine wpAny_bind (wpAny_seqItems hS rfl (wpAny_pure ?_))
  show wpAny _ _ (updateSeq s.heap.objs.size (fun _ => #[]) >>= fun _ => letGo (#[] : Array Value).toList.reverse >>= fun _ => Builtin.List.listExtendWith (.ref s.heap.objs.size) (.ref z) .none) _ _ _
  refine wpAny_bind (wpAny_updateSeq hS rfl ?_)
  generalize hb : (s.heap.push { cls := .type "list", data := .seq #[] }).update s.heap.objs.size (Obj.mapSeq fun _ => (#[] : Array Value)) = hpB
  have gB : ∃ c, hpB.get? s.heap.objs.size = some { cls := .type "list", dict := none, data := .seq #[] c, slots := #[] } := by
    have q := Heap.get?_update_self (Obj.mapSeq fun _ => (#[] : Array Value)) hS rfl
    rw [hb] at q
    exact ⟨_, q⟩
  obtain ⟨cB, gB⟩ := gB
  have kB : ∀ c o, s.heap.get? c = some o → hpB.get? c = some o := fun c o q => by
    rw [← hb]; exact (Heap.get?_update_other _ _ (Nat.ne_of_gt (lt q))).trans (Heap.get?_push_of_some _ q)
  have sB : hpB.objs.size = s.heap.objs.size + 1 := by rw [← hb, Heap.size_update]; exact Heap.size_push ..
  refine wpAny_bind (wpAny_letGo ?_)
  have hzB := kB _ _ hz
  have hT : Shared.TypeIs { s with heap := hpB } (.ref z) "zip" := ⟨_, hzB, rfl⟩
  unfold Builtin.List.listExtendWith
  refine wpAny_bind (wpAny_typeOf hT ?_)
  have nz : s.heap.objs.size ≠ z := Nat.ne_of_gt (lt hz)
  have e1 : Builtin.List.listSameRef (.ref s.heap.objs.size) (.ref z) = false := by simp [Builtin.List.listSameRef, nz]
  have e2 : (Value.type "zip" == Value.type "list") = false := by decide
  have e3 : (Value.type "zip" == Value.type "tuple") = false := by decide
  simp only [e1, e2, e3, Bool.or_false, Bool.false_eq_true, if_false]
  refine wpAny_bind (wpAny_pyIter_zip hzB ?_)
  refine wpAny_bind (wpAny_holding ?_)
  unfold Builtin.List.listLengthHint
  refine wpAny_bind (wpAny_specialOf hT zip_len0 ?_)
  show wpAny _ _ (specialOf (Value.ref z) (Str.ofString "__length_hint__") >>= _) _ _ _
  refine wpAny_bind (wpAny_specialOf hT zip_hint0 (wpAny_pure ?_))
  show wpAny _ _ (rule "list.extend.makes-room" >>= fun _ => Builtin.List.listTouch (.ref s.heap.objs.size) >>= fun _ => again (.builtin "list.extend.loop" ⟨[.ref s.heap.objs.size, .ref z, .none], []⟩)) _ _ _
  refine wpAny_bind (wpAny_rule (wpAny_bind ?_))
  show wpAny _ _ (updateSeq s.heap.objs.size (·.push .none) >>= fun _ => updateSeq s.heap.objs.size (·.pop)) _ _ _
  refine wpAny_bind (wpAny_updateSeq gB rfl ?_)
  have gC := Heap.get?_update_self (Obj.mapSeq (·.push Value.none)) gB rfl
  refine wpAny_updateSeq (hz := by seq_fits) gC rfl ?_
  generalize hd : (hpB.update s.heap.objs.size (Obj.mapSeq (·.push Value.none))).update s.heap.objs.size (Obj.mapSeq (·.pop)) = hpD
  have gD : ∃ c, hpD.get? s.heap.objs.size = some { cls := .type "list", dict := none, data := .seq #[] c, slots := #[] } := by
    have q := Heap.get?_update_self (Obj.mapSeq (·.pop)) gC rfl
    rw [hd] at q
    exact ⟨_, q⟩
  obtain ⟨cD, gD⟩ := gD
  have kD : ∀ c o, s.heap.get? c = some o → hpD.get? c = some o := fun c o q => by
    rw [← hd]
    exact (Heap.get?_update_other _ _ (Nat.ne_of_gt (lt q))).trans ((Heap.get?_update_other _ _ (Nat.ne_of_gt (lt q))).trans (kB c o q))
  have sD : hpD.objs.size = s.heap.objs.size + 1 := by rw [← hd, Heap.size_update, Heap.size_update]; exact sB
  refine wpAny_pure ⟨plainId_quiet F.plain_extend_loop _, ?_⟩
  have nx : s.heap.objs.size ≠ TI ∧ s.heap.objs.size ≠ TO ∧ s.heap.objs.size ∉ fp1 ∧ s.heap.objs.size ∉ fp2 := ⟨Nat.ne_of_gt (lt hTI), Nat.ne_of_gt (lt hTO), fun m => Nat.lt_irrefl _ (l1 _ m), fun m => Nat.lt_irrefl _ (l2 _ m)⟩
  refine zl_loop (S := s.heap.objs.size) Sp q1 q2 (by simp [hh]) ⟨nz, nx.1, nx.2.1, nx.2.2.1, nx.2.2.2⟩ (s.heap.objs.size + 1) (Nat.lt_succ_self _) ⟨Nat.lt_succ_of_lt (lt hz), Nat.lt_succ_of_lt (lt hTO), Nat.lt_succ_of_lt (l1 _ Sp.mem1), Nat.lt_succ_of_lt (l2 _ Sp.mem2)⟩ hn .none _ 0 { s with heap := hpD } [] [] [] cD rfl (Nat.zero_le _) ⟨kD _ _ hTI, q1.fr _ _ _ s1 fun c _ o q => kD c o q, q2.fr _ _ _ s2 fun c _ o q => kD c o q, .inl ⟨kD _ _ hz, a, b, kD _ _ hTO⟩⟩ (Nat.le_of_eq sD.symm) gD ⟨⟨rfl, rfl⟩, fun t m => (by cases m), .nil, fun j t x y e => (by simp at e)⟩ rfl (fun j x e => by simp at e) (fun j x e => by simp at e) fun h' tk c' ts xs ys c1 c2 c3 c4 c5 c6 => ?_
  exact ⟨rfl, hQ h' tk c' ts xs ys c1 c2 c3 c4 c5 fun c o n1 n2 n3 n4 q => c6 c o (Nat.lt_succ_of_lt (lt q)) (Nat.ne_of_lt (lt q)) n1 n2 n3 n4 (kD c o q)⟩
end
end EX

set_option Elab.async false
set_option linter.all false
set_option maxRecDepth 100000
set_option maxHeartbeats 2000000
namespace EX
open PySem PySem.Spec L2
open PyProof.Rows hiding St
/-- what zip may walk at a -/
def Wk (P : Program) (w : World) (h : Heap) (a : Addr) (its : List Value) : Prop := ∃ (o : Obj) (Hb : Heap → Prop), Begins (.ref a) o Hb ∧ Hb h ∧ a < h.objs.size ∧ ∀ it, a ≠ it → ∃ St, Sq P w it [it, a] its.length (fun i v => its[i]? = some v) St ∧ ∀ h', h'.get? it = some o → (∀ c oc, h.get? c = some oc → h'.get? c = some oc) → St 0 h'
theorem wk_list {P : Program} {w : World} {h : Heap} {a : Addr} {its : List Value} (l : h.IsList a its.toArray) : Wk P w h a its := by
  have sq := sq_list (prog := P) (w := w)
  refine ⟨_, _, begins_list a its.toArray, l, ?_, fun it ne => ⟨fun i h => h.IsListIter it a i ∧ h.IsList a its.toArray, ?_, fun h' g k => ⟨⟨_, g, rfl, rfl⟩, l.at fun o q => k _ o q⟩⟩⟩
  · obtain ⟨o, q, _⟩ := l
    exact Heap.lt_size q
  · have := sq it a ne its.toArray
    simpa using this
theorem wk_tup {P : Program} {w : World} {h : Heap} {a : Addr} {its : List Value} (l : h.IsTuple a its.toArray) : Wk P w h a its := by
  have sq := sq_tup (prog := P) (w := w)
  refine ⟨_, _, begins_tuple a its.toArray, l, ?_, fun it ne => ⟨fun i h => h.IsTupleIter it a i ∧ h.IsTuple a its.toArray, ?_, fun h' g k => ⟨⟨_, g, rfl, rfl⟩, l.at fun o q => k _ o q⟩⟩⟩
  · obtain ⟨o, q, _⟩ := l
    exact Heap.lt_size q
  · have := sq it a ne its.toArray
    simpa using this
section
variable {X : Cx} {pins : List (Addr × Obj)} {σ : L2.St} {H : Hp} {s : Shared}
theorem wk_of {a : Addr} {vs : List V} (I : L2.Inv X pins σ H s) (h : SqL X.K H a vs ∨ SqT X.K H a vs) : ∃ its, Vals vs its ∧ Wk X.prog X.w s.heap a its ∧ its.length ≤ sizeLine := by
  rcases h with h | h
  · obtain ⟨its, r, pl, hz⟩ := I.list h
    exact ⟨its, r, wk_list pl.isList, by rw [← r.length]; exact hz⟩
  · obtain ⟨its, r, pl, hz⟩ := I.tuple h
    exact ⟨its, r, wk_tup pl, by rw [← r.length]; exact hz⟩
theorem zip_made {A : Around} {E : Value → Shared → Prop} {a b : Addr} {xs ys : List Value} {Q : Value → Shared → Prop} (ha : Wk X.prog X.w s.heap a xs) (hb : Wk X.prog X.w s.heap b ys)
    (h : ∀ (h' : Heap) (z TI TO i1 i2 : Addr) (fp1 fp2 : List Addr) (S1 S2 : Nat → Heap → Prop), ZipSep2 z TI TO i1 i2 fp1 fp2 → Sq X.prog X.w i1 fp1 xs.length (fun i v => xs[i]? = some v) S1 → Sq X.prog X.w i2 fp2 ys.length (fun i v => ys[i]? = some v) S2 → ZOk z TI TO i1 i2 S1 S2 h' → s.heap.objs.size ≤ z ∧ s.heap.objs.size ≤ TO ∧ s.heap.objs.size ≤ i1 ∧ s.heap.objs.size ≤ i2 → (∀ c o, s.heap.get? c = some o → h'.get? c = some o) → Q (.ref z) { s with heap := h' }) :
    wpAny (model X.prog X.w) A (call (.type "zip") [.ref a, .ref b]) Q E s := by
  obtain ⟨o1, H1, B1, g1, l1, w1⟩ := ha
  obtain ⟨o2, H2, B2, g2, l2, w2⟩ := hb
  refine zip_begins2 B1 B2 g1 g2 fun h' e1 e2 e3 e4 e5 sz kp => ?_
  obtain ⟨S1, q1, z1⟩ := w1 s.heap.objs.size (Nat.ne_of_lt l1)
  obtain ⟨S2, q2, z2⟩ := w2 (s.heap.objs.size + 1) (Nat.ne_of_lt (Nat.lt_succ_of_lt l2))
  exact h h' _ _ _ _ _ _ _ S1 S2 (zip_sep2 (fp1 := [a]) (fp2 := [b]) (fun c m => by rw [List.mem_singleton.mp m]; exact l1) (fun c m => by rw [List.mem_singleton.mp m]; exact l2)) q1 q2 ⟨e1, e2, ⟨_, _, e3⟩, z1 h' e4 kp, z2 h' e5 kp⟩ ⟨Nat.le_add_right _ _, Nat.le_add_right _ _, Nat.le_refl _, Nat.le_add_right _ _⟩ kp
end
/-! ### as expressions -/
def seqX (v : Val) (h : Hh) : Option (List Val) := match v with
  | .tup xs => some xs
  | .scr xs => some xs
  | .loc n => (match h[n]? with
    | some (.lst xs) => some xs
    | _ => none)
  | _ => none
theorem seqX_ok {K : Gw} {ρ : List Addr} {H : Hp} {h : Hh} {v : Val} {u : V} {xs : List Val} (S : Sim K ρ H h) (r : Rep K ρ H v u) (e : seqX v h = some xs) : ∃ a vs, u = .ref a ∧ (SqL K.K H a vs ∨ SqT K.K H a vs) ∧ RepL K ρ H xs vs := by
  unfold seqX at e
  split at e
  · cases e; cases r with | tup s q => exact ⟨_, _, rfl, .inr s, q⟩
  · cases e; cases r with | scr s q => exact ⟨_, _, rfl, .inl s.sql, q⟩
  · split at e
    · rename_i e2
      cases e
      cases r with
      | loc ea => obtain ⟨vs, q1, r3⟩ := S.lst ea e2; exact ⟨_, vs, rfl, .inl (.inl (.inl q1)), r3⟩
    · cases e
  · cases e
def oDictZip : Op2 := fun a b h => match seqX a h, seqX b h with
  | some xs, some ys => (match keysX (xs.take (min xs.length ys.length)) with
    | some ks => if xs.length ≤ sizeLine then some (.loc h.length, h ++ [.dct false (mergeX [] (ks.zip ys))]) else none
    | none => none)
  | _, _ => none
def oListZip : Op2 := fun a b h => match seqX a h, seqX b h with
  | some xs, some ys => if xs.length ≤ sizeLine then some (.loc h.length, h ++ [.lst (List.zipWith (fun x y => Val.tup [x, y]) xs ys)]) else none
  | _, _ => none
section
variable {X : Cx} {W : Wd}
theorem repF_zipK {K : Gw} {ρ : List Addr} {H : Hp} : ∀ {ks : List Key} {ys : List Val} {us : List V}, RepL K ρ H ys us → RepF K ρ H (ks.zip ys) (ks.zip us)
  | [], _, _, _ => .nil
  | _ :: _, _, _, .nil => .nil
  | _ :: _, _, _, .cons r t => .cons ⟨rfl, r⟩ (repF_zipK t)
theorem kv_zip : ∀ {ks : List Key} {us : List V} {ys : List Value}, Vals us ys → KV (ks.zip us) (ks.zip ys)
  | [], _, _, _ => .nil
  | _ :: _, _, _, .nil => .nil
  | _ :: _, _, _, .cons r t => .cons ⟨rfl, r⟩ (kv_zip t)
theorem keys_len : ∀ {xs : List Val} {ks : List Key}, keysX xs = some ks → ks.length = xs.length
  | [], _, e => by cases e; rfl
  | x :: xs, ks, e => by
    simp only [keysX] at e
    split at e
    · rename_i k ks' e1 e2; cases e; rw [List.length_cons, List.length_cons, keys_len e2]
    · cases e
theorem vals_take : ∀ {vs : List V} {us : List Value} (n : Nat), Vals vs us → Vals (vs.take n) (us.take n)
  | _, _, 0, _ => .nil
  | _, _, _ + 1, .nil => .nil
  | _, _, n + 1, .cons a t => .cons a (vals_take n t)
theorem q_dictZip {a b : Expr} {xa xb : XE} {p p2 q pos : Pos} (hg : Gl X "dict") (hm : X.mg "dict" = none) (hg2 : Gl X "zip") (hm2 : X.mg "zip" = none) (ha : QE X W a xa) (hb : QE X W b xb) (hc : X.calm = true := by rfl)
    (na : starEach [a, b] X.env = (false, eval a X.env) :: starEach [b] X.env := by rfl) (nb : starEach [b] X.env = (false, eval b X.env) :: starEach [] X.env := by rfl) (nz : starEach [.Call (.Name "zip" p2) [a, b] [] q] X.env = (false, eval (.Call (.Name "zip" p2) [a, b] [] q) X.env) :: starEach [] X.env := by rfl) (hpl : (backTo q (starEach [b] X.env)).any (·.1) = false := by rfl) :
    QE X W (.Call (.Name "dict" p) [.Call (.Name "zip" p2) [a, b] [] q] [] pos) (xBin oDictZip xa xb) := by
  refine PE.of (t := tOp (rS2 (gw X) oDictZip) (tX (gw X) W xa) (tX (gw X) W xb)) ⟨fun pins s σ H Q I h => ?_⟩ fun σ H Q h => bin_of h
  refine PyProof.Rows.Call_ (ld_blt I hg hm boot_dict (PyProof.Rows.callWith_type1 (PyProof.Rows.args_cons ?_ nz) nz rfl))
  refine PyProof.Rows.Call_ (ld_blt I hg2 hm2 boot_zip (PyProof.Rows.callWith_type1 (PyProof.Rows.args_cons ?_ na) na hpl))
  refine thn (ha.run pins s σ H _ I h) fun v s1 ⟨x, H1, I1, r1, q1⟩ => PyProof.Rows.args_cons (thn (hb.run pins s1 σ H1 _ I1 q1) fun v2 s2 ⟨y, H2, I2, r2, ⟨ρ, g, va, vb, z, g', S, ra, rb, e, k⟩⟩ => PyProof.Rows.args_nil ?_) nb
  unfold oDictZip at e
  split at e
  · rename_i xs ys ex ey
    split at e
    · rename_i ks ek
      split at e
      · rename_i hle
        cases e
        obtain ⟨ax, vx, rfl, sx, rx⟩ := seqX_ok S ra ex
        obtain ⟨ay, vy, rfl, sy, ry⟩ := seqX_ok S rb ey
        cases r1; cases r2
        obtain ⟨ix, wx, kx, zx⟩ := wk_of I2 sx
        obtain ⟨iy, wy, ky, zy⟩ := wk_of I2 sy
        refine zip_made kx ky fun h' z TI TO i1 i2 fp1 fp2 S1 S2 sep q1 q2 zok ⟨lz, lTO, l1, l2⟩ kp => PyProof.Rows.args_nil ?_
        have lx : ix.length = xs.length := by rw [rx.length]; exact wx.length.symm
        have ly : iy.length = ys.length := by rw [ry.length]; exact wy.length.symm
        have kl : ks.length = min xs.length ys.length := by rw [keys_len ek, List.length_take, Nat.min_eq_left (Nat.min_le_left _ _)]
        have I3 : L2.Inv X pins σ H2 { s2 with heap := h' } := I2.kept (t' := s2.toks) fun c o q => kp c o q
        have rk := vals_take (min xs.length ys.length) wx
        have ev : vx.take (min xs.length ys.length) = ks.map kV := keys_rep (rx.take _) ek
        have have2 : PairsHave (mixKind X.prog X.w) (min ix.length iy.length) (fun i k v => ix[i]? = some k ∧ iy[i]? = some v) (ks.zip iy) := by
          refine ⟨by rw [List.length_zip, kl, lx, ly]; omega, fun i key v ⟨e1, e2⟩ => ?_⟩
          have hi1 : i < ix.length := (List.getElem?_eq_some_iff.mp e1).1
          have hi2 : i < iy.length := (List.getElem?_eq_some_iff.mp e2).1
          have hi : i < ks.length := by rw [kl]; omega
          refine ⟨ks[i], by rw [List.getElem?_zip_eq_some]; exact ⟨List.getElem?_eq_getElem hi, e2⟩, ?_⟩
          rw [ev] at rk
          have hk : (ix.take (min xs.length ys.length))[i]? = some key := by rw [List.getElem?_take_of_lt (by omega)]; exact e1
          obtain ⟨u', hu', ru'⟩ := rk.get (show (ks.map kV)[i]? = some (kV ks[i]) by rw [List.getElem?_map, List.getElem?_eq_getElem hi]; rfl)
          rw [hk] at hu'
          cases hu'
          exact keyIs_of ru'
        refine call_dict_pairs (zip_arg sep q1 q2) (I3.ok.hd hc) zok have2 (by omega) fun h2 tk hd hk => ?_
        have hnew : H2 h'.objs.size = none := I3.hok.fresh (Nat.le_refl _)
        have kk : ∀ c o, s2.heap.get? c = some o → h2.get? c = some o := fun c o qq => hk c o (by
          have l := Heap.lt_size qq
          simp only [List.mem_cons, List.not_mem_nil, or_false, not_or]
          exact ⟨Nat.ne_of_lt (Nat.lt_of_lt_of_le l lz), Nat.ne_of_lt (Nat.lt_of_lt_of_le l lTO), Nat.ne_of_lt (Nat.lt_of_lt_of_le l l1), Nat.ne_of_lt (Nat.lt_of_lt_of_le l l2)⟩) (kp c o qq)
        have big : s2.heap.objs.size ≤ h'.objs.size := by
          have l := Heap.lt_size zok.1
          exact Nat.le_of_lt (Nat.lt_of_le_of_lt lz l)
        have relK : KV (ks.zip vy) (ks.zip iy) := kv_zip wy
        have hlen : (mergeK [] (ks.zip vy)).length ≤ sizeLine := by
          refine Nat.le_trans (length_mergeK _ []) ?_
          rw [List.length_nil, Nat.zero_add, List.length_zip, kl]; omega
        have hm0 : (h'.objs.size == sysModules) = false := beq_eq_false_iff_ne.mpr (Nat.ne_of_gt I3.big)
        have I4 : L2.Inv X pins σ (upd H2 h'.objs.size (.dK (mergeK [] (ks.zip vy)))) { s2 with heap := h2, toks := tk } := I2.laid (t' := tk) kk big (show ObjOk X.prog X.w _ _ _ (.dK (mergeK [] (ks.zip vy))) from ⟨hlen, hm0, merged [] (ks.zip iy), KV.merge relK .nil, hd⟩)
        refine ⟨.ref h'.objs.size, _, I4, rfl, ?_⟩
        have gr : Grow ρ (ρ ++ [h'.objs.size]) H2 (upd H2 h'.objs.size (.dK (mergeK [] (ks.zip vy)))) := (Grow.new hnew).snoc
        refine k _ _ _ gr (S.laid hnew ⟨_, upd_same, (merge_rep (repF_zipK ry) .nil).mono gr⟩) (.loc ?_)
        rw [List.getElem?_append_right (by rw [S.len]; exact Nat.le_refl _), S.len, Nat.sub_self]
        rfl
      · cases e
    · cases e
  · cases e
end
end EX

set_option Elab.async false
set_option linter.all false
set_option maxRecDepth 100000
set_option maxHeartbeats 2000000
namespace EX
open PySem PySem.Spec L2
open PyProof.Rows hiding St
section
variable {X : Cx} {W : Wd}
/-- new tuples are tracked, one behind the other -/
theorem track {pins : List (Addr × Obj)} {σ : L2.St} {H0 : Hp} {s0 s : Shared} (I0 : L2.Inv X pins σ H0 s0) (ts : List Addr) : ∀ (us ws : List V) (xs ys : List Value) (H : Hp), L2.Inv X pins σ H s → Vals us xs → Vals ws ys → ts.length = us.length → us.length = ws.length → ts.Nodup → (∀ t ∈ ts, s0.heap.objs.size ≤ t ∧ H t = none) →
    (∀ (j : Nat) (t : Addr) (x y : Value), ts[j]? = some t → xs[j]? = some x → ys[j]? = some y → IsTupOf2 s.heap t x y) →
    ∃ H', L2.Inv X pins σ H' s ∧ (∀ b, b ∉ ts → H' b = H b) ∧ Paired (fun t (q : V × V) => H' t = some (.tup [q.1, q.2])) ts (us.zip ws) := by
  induction ts with
  | nil =>
    intro us ws xs ys H I _ _ l1 _ _ _ _
    cases us with
    | nil => exact ⟨H, I, fun _ _ => rfl, .nil⟩
    | cons _ _ => cases l1
  | cons t ts ih =>
    intro us ws xs ys H I r1 r2 l1 l2 nd new at_
    cases r1 with
    | nil => cases l1
    | @cons u x us' xs' ru rx =>
      cases r2 with
      | nil => cases l2
      | @cons w y ws' ys' rw' ry =>
        obtain ⟨nt, nd'⟩ := List.nodup_cons.mp nd
        have e := at_ 0 t x y rfl rfl rfl
        have hn := (new t (.head _)).2
        have two : ObjOk X.prog X.w (upd H t (.tup [u, w])) s.heap t (.tup [u, w]) := ⟨by show 2 ≤ sizeLine; decide, [x, y], .cons ru (.cons rw' .nil), ⟨_, e, rfl, _, rfl⟩⟩
        have J := I.take (it := t) (o := .tup [u, w]) (t' := s.toks) (h' := s.heap) (fun _ _ _ q => q) (I0.fpOk (new t (.head _)).1 hn) two
        obtain ⟨H', I', off, pr⟩ := ih us' ws' xs' ys' _ J rx ry (Nat.succ.inj l1) (Nat.succ.inj l2) nd' (fun t' m => ⟨(new t' (.tail _ m)).1, (upd_ne (fun (z : t' = t) => nt (z ▸ m))).trans (new t' (.tail _ m)).2⟩) fun j t' x' y' a b c => at_ (j + 1) t' x' y' (by simpa using a) (by simpa using b) (by simpa using c)
        refine ⟨H', I', fun b hb => ?_, .cons ?_ pr⟩
        · rw [off b (fun m => hb (.tail _ m)), upd_ne (fun z => hb (by rw [z]; exact .head _))]
        · rw [off t nt, upd_same]
theorem repL_pairs {K : Gw} {ρ : List Addr} {H : Hp} : ∀ {xs ys : List Val} {us ws : List V} {ts : List Addr}, RepL K ρ H xs us → RepL K ρ H ys ws → Paired (fun t (q : V × V) => H t = some (.tup [q.1, q.2])) ts (us.zip ws) → RepL K ρ H (List.zipWith (fun x y => Val.tup [x, y]) xs ys) (ts.map V.ref)
  | [], _, _, _, ts, .nil, _, p => by
    rw [List.zip_nil_left] at p
    cases p; exact .nil
  | _ :: _, [], _, _, ts, .cons _ _, .nil, p => by
    rw [List.zip_nil_right] at p
    cases p; exact .nil
  | _ :: _, _ :: _, _, _, _, .cons a r, .cons b r', .cons e p => .cons (.tup (.inl (.inl e)) (.cons a (.cons b .nil))) (repL_pairs r r' p)
theorem zip_take {α β : Type} : ∀ (xs : List α) (ys : List β), (xs.take (min xs.length ys.length)).zip (ys.take (min xs.length ys.length)) = xs.zip ys
  | [], ys => by simp
  | x :: xs, [] => by simp
  | x :: xs, y :: ys => by
    have := zip_take xs ys
    simp only [List.length_cons, Nat.succ_min_succ, List.take_succ_cons, List.zip_cons_cons, this]
theorem q_listZip {a b : Expr} {xa xb : XE} {p p2 q pos : Pos} (hg : Gl X "list") (hm : X.mg "list" = none) (hg2 : Gl X "zip") (hm2 : X.mg "zip" = none) (ha : QE X W a xa) (hb : QE X W b xb) (hc : X.calm = true := by rfl)
    (na : starEach [a, b] X.env = (false, eval a X.env) :: starEach [b] X.env := by rfl) (nb : starEach [b] X.env = (false, eval b X.env) :: starEach [] X.env := by rfl) (nz : starEach [.Call (.Name "zip" p2) [a, b] [] q] X.env = (false, eval (.Call (.Name "zip" p2) [a, b] [] q) X.env) :: starEach [] X.env := by rfl) (hpl : (backTo q (starEach [b] X.env)).any (·.1) = false := by rfl) :
    QE X W (.Call (.Name "list" p) [.Call (.Name "zip" p2) [a, b] [] q] [] pos) (xBin oListZip xa xb) := by
  refine PE.of (t := tOp (rS2 (gw X) oListZip) (tX (gw X) W xa) (tX (gw X) W xb)) ⟨fun pins s σ H Q I h => ?_⟩ fun σ H Q h => bin_of h
  refine PyProof.Rows.Call_ (ld_blt I hg hm boot_list (PyProof.Rows.callWith_type1 (PyProof.Rows.args_cons ?_ nz) nz rfl))
  refine PyProof.Rows.Call_ (ld_blt I hg2 hm2 boot_zip (PyProof.Rows.callWith_type1 (PyProof.Rows.args_cons ?_ na) na hpl))
  refine thn (ha.run pins s σ H _ I h) fun v s1 ⟨x, H1, I1, r1, q1⟩ => PyProof.Rows.args_cons (thn (hb.run pins s1 σ H1 _ I1 q1) fun v2 s2 ⟨y, H2, I2, r2, ⟨ρ, g, va, vb, z, g', S, ra, rb, e, k⟩⟩ => PyProof.Rows.args_nil ?_) nb
  unfold oListZip at e
  split at e
  · rename_i xs ys ex ey
    split at e
    · rename_i hle
      cases e
      obtain ⟨ax, vx, rfl, sx, rx⟩ := seqX_ok S ra ex
      obtain ⟨ay, vy, rfl, sy, ry⟩ := seqX_ok S rb ey
      cases r1; cases r2
      obtain ⟨ix, wx, kx, zx⟩ := wk_of I2 sx
      obtain ⟨iy, wy, ky, zy⟩ := wk_of I2 sy
      refine zip_made kx ky fun h' z TI TO i1 i2 fp1 fp2 S1 S2 sep q1 q2 zok ⟨lz, lTO, l1, l2⟩ kp => PyProof.Rows.args_nil ?_
      have lx : ix.length = vx.length := wx.length.symm
      have ly : iy.length = vy.length := wy.length.symm
      have I3 : L2.Inv X pins σ H2 { s2 with heap := h' } := I2.kept (t' := s2.toks) fun c o q => kp c o q
      refine call_list_zip sep q1 q2 (I3.ok.hd hc) zok (by omega) fun h2 tk c ts us ws gl pr hl pu pw kk2 => ?_
      have big : s2.heap.objs.size ≤ h'.objs.size := Nat.le_of_lt (Nat.lt_of_le_of_lt lz (Heap.lt_size zok.1))
      have kk : ∀ c o, s2.heap.get? c = some o → h2.get? c = some o := fun c o qq => by
        have l := Heap.lt_size qq
        exact kk2 c o (Nat.ne_of_lt (Nat.lt_of_lt_of_le l lz)) (Nat.ne_of_lt (Nat.lt_of_lt_of_le l lTO)) (Nat.ne_of_lt (Nat.lt_of_lt_of_le l l1)) (Nat.ne_of_lt (Nat.lt_of_lt_of_le l l2)) (kp c o qq)
      have I4 : L2.Inv X pins σ H2 { s2 with heap := h2, toks := tk } := I2.kept (t' := tk) kk
      have eu : us = ix.take (min ix.length iy.length) := List.ext_getElem? fun j => by
        by_cases hj : j < us.length
        · rw [List.getElem?_take_of_lt (by omega), pu j us[j] (List.getElem?_eq_getElem hj)]
          exact List.getElem?_eq_getElem hj
        · rw [List.getElem?_eq_none (by omega), List.getElem?_eq_none (by rw [List.length_take]; omega)]
      have ew : ws = iy.take (min ix.length iy.length) := List.ext_getElem? fun j => by
        by_cases hj : j < ws.length
        · have hj2 : j < min ix.length iy.length := by rw [← hl, pr.len.2]; exact hj
          rw [List.getElem?_take_of_lt hj2, pw j ws[j] (List.getElem?_eq_getElem hj)]
          exact List.getElem?_eq_getElem hj
        · have := pr.len.2
          rw [List.getElem?_eq_none (by omega), List.getElem?_eq_none (by rw [List.length_take]; omega)]
      have mn : min ix.length iy.length = min vx.length vy.length := by rw [lx, ly]
      rw [mn] at eu ew hl
      have v1 : Vals (vx.take (min vx.length vy.length)) us := by rw [eu]; exact vals_take _ wx
      have v2' : Vals (vy.take (min vx.length vy.length)) ws := by rw [ew]; exact vals_take _ wy
      have fresh : ∀ t, h'.objs.size ≤ t → H2 t = none := fun t l => I2.hok.fresh (Nat.le_trans big l)
      obtain ⟨H5, I5, off, prd⟩ := track I2 ts _ _ _ _ _ I4 v1 v2' (by rw [pr.len.1, hl, List.length_take]; omega) (by rw [List.length_take, List.length_take]; omega) pr.nd (fun t m => ⟨Nat.le_trans big (Nat.le_of_succ_le (pr.lo t m).1), fresh t (Nat.le_of_succ_le (pr.lo t m).1)⟩) pr.at_
      rw [zip_take] at prd
      have nin : h'.objs.size ∉ ts := fun m => Nat.lt_irrefl _ (pr.lo _ m).1
      have hn5 : H5 h'.objs.size = none := by rw [off _ nin]; exact fresh _ (Nat.le_refl _)
      have lts : ts.length ≤ sizeLine := by rw [pr.len.1, hl]; omega
      have I6 := I5.take (it := h'.objs.size) (o := .lst (ts.map V.ref)) (t' := tk) (h' := h2) (fun _ _ _ q => q) (I2.fpOk big hn5) (show ObjOk X.prog X.w _ _ _ (.lst (ts.map V.ref)) from ⟨by rw [List.length_map]; exact lts, ts.map Value.ref, c, LiI.vals_refs ts, gl⟩)
      have keep : ∀ b u, H2 b = some u → H5 b = some u := fun b u hb => by
        rw [off b (fun m => by rw [fresh b (Nat.le_of_succ_le (pr.lo b m).1)] at hb; cases hb)]; exact hb
      have g5 : Grow ρ ρ H2 H5 := ⟨⟨[], by simp⟩, fun b _ hb => keep b _ hb, fun b _ hb => keep b _ hb, fun b _ _ hb => keep b _ hb, fun b _ hb => keep b _ hb⟩
      have S5 : Sim (gw X) ρ H5 g := ⟨S.len, S.nd, fun n o eo => by
        obtain ⟨ad, ea, r⟩ := S.at_ n o eo
        refine ⟨ad, ea, r.mono g5 ?_ fun d hd => keep d _ hd⟩
        cases hb : H2 ad with
        | none => exact absurd hb r.some
        | some u => exact keep ad u hb⟩
      obtain ⟨gr, S6, r6⟩ := new_loc S5 hn5 (repL_pairs (rx.mono g5) (ry.mono g5) prd)
      exact ⟨.ref h'.objs.size, _, I6, rfl, k _ _ _ (g5.trans gr) S6 r6⟩
    · cases e
  · cases e
/-! ### dict(a list of pairs), dict(a dict) -/
def pairsX : List Val → Option (List (Key × Val))
  | [] => some []
  | .tup [a, b] :: r => (match keyOf a, pairsX r with
    | some k, some l => some ((k, b) :: l)
    | _, _ => none)
  | _ :: _ => none
theorem pairs_rep {K : Gw} {ρ : List Addr} {H : Hp} : ∀ {xs : List Val} {vs : List V} {kvs : List (Key × Val)}, RepL K ρ H xs vs → pairsX xs = some kvs → ∃ (ts : List Addr) (ws : List (Key × V)), vs = ts.map V.ref ∧ Paired (fun p (kv : Key × V) => SqT K.K H p [kV kv.1, kv.2]) ts ws ∧ RepF K ρ H kvs ws
  | [], _, _, .nil, e => by cases e; exact ⟨[], [], rfl, .nil, .nil⟩
  | .tup [a, b] :: xs, _, kvs, .cons r t, e => by
    simp only [pairsX] at e
    split at e
    · rename_i k l e1 e2
      cases e
      obtain ⟨ts, ws, e3, p3, r3⟩ := pairs_rep t e2
      cases r with
      | @tup ad _ us sq rs =>
      cases rs with
      | cons ra rs' =>
      cases rs' with
      | cons rb rs'' =>
      cases rs''
      have ea := keyOf_rep ra e1
      subst ea
      exact ⟨ad :: ts, (k, _) :: ws, by rw [e3]; rfl, .cons sq p3, .cons ⟨rfl, rb⟩ r3⟩
    · cases e
  | .tup [] :: _, _, _, _, e => by simp [pairsX] at e
  | .tup [_] :: _, _, _, _, e => by simp [pairsX] at e
  | .tup (_ :: _ :: _ :: _) :: _, _, _, _, e => by simp [pairsX] at e
  | .non :: _, _, _, _, e => by simp [pairsX] at e
  | .bl _ :: _, _, _, _, e => by simp [pairsX] at e
  | .int _ :: _, _, _, _, e => by simp [pairsX] at e
  | .str _ :: _, _, _, _, e => by simp [pairsX] at e
  | .scr _ :: _, _, _, _, e => by simp [pairsX] at e
  | .loc _ :: _, _, _, _, e => by simp [pairsX] at e
  | .ref _ :: _, _, _, _, e => by simp [pairsX] at e
  | .ty _ :: _, _, _, _, e => by simp [pairsX] at e
def oDictOf : OpN := fun as h => match as with
  | [.loc n] => (match h[n]? with
    | some (.lst xs) => (match pairsX xs with
      | some kvs => some (.loc h.length, h ++ [.dct false (mergeX [] kvs)])
      | none => none)
    | some (.dct _ kvs) => some (.loc h.length, h ++ [.dct false kvs])
    | _ => none)
  | _ => none
theorem new_dctK {K : Gw} {ρ : List Addr} {H : Hp} {h : Hh} {p : Addr} {kvs : List (Key × Val)} {vs : List (Key × V)} (S : Sim K ρ H h) (hp : H p = none) (r : RepF K ρ H kvs vs) :
    Grow ρ (ρ ++ [p]) H (upd H p (.dK vs)) ∧ Sim K (ρ ++ [p]) (upd H p (.dK vs)) (h ++ [.dct false kvs]) ∧ Rep K (ρ ++ [p]) (upd H p (.dK vs)) (.loc h.length) (.ref p) := by
  have g : Grow ρ (ρ ++ [p]) H (upd H p (.dK vs)) := (Grow.new hp).snoc
  refine ⟨g, S.laid hp ⟨vs, upd_same, r.mono g⟩, .loc ?_⟩
  rw [List.getElem?_append_right (by rw [S.len]; exact Nat.le_refl _), S.len, Nat.sub_self]
  rfl
theorem call_dictOf_x (hc : X.calm = true) : CallR X (.type "dict") (rSN (gw X) oDictOf) := by
  intro pins s σ H xs us Q I rs ⟨ρ, h, as, z, h', S, ra, e, k⟩
  unfold oDictOf at e
  split at e
  · cases ra with
    | cons r1 r2 =>
    cases r2
    cases r1 with
    | @loc n a ea =>
    split at e
    · rename_i ys e2
      split at e
      · rename_i kvs ek
        cases e
        obtain ⟨vs, q1, r3⟩ := S.lst ea e2
        obtain ⟨ts, ws, rfl, p3, rf⟩ := pairs_rep r3 ek
        refine call_dictP hc pins s σ H _ us Q I rs ⟨a, ts, ws, rfl, .inl (.inl q1), p3, fun p hp => ?_⟩
        obtain ⟨g, s3, r4⟩ := new_dctK S hp (merge_rep rf .nil)
        exact k _ _ _ g s3 r4
      · cases e
    · rename_i lk kvs e2
      cases e
      obtain ⟨vs, q1, r3⟩ := S.dctR ea e2
      cases rs with
      | @cons _ u _ _ ru rt =>
      cases rt
      cases (show u = Value.ref a from ru)
      obtain ⟨hz, hs0, prs, kv, hdo⟩ : ObjOk X.prog X.w H s.heap a (.dK vs) := q1.ok I.hok
      refine kt_call_dict hs0 hdo (by rw [← kv.length]; exact hz) fun h2 hd sb => ?_
      have hm0 : (s.heap.objs.size == sysModules) = false := beq_eq_false_iff_ne.mpr (Nat.ne_of_gt I.big)
      have I2 : L2.Inv X pins σ (upd H s.heap.objs.size (.dK vs)) { s with heap := h2 } := I.laid (t' := s.toks) (fun b o qq => (sb.2 b (Nat.ne_of_lt (Heap.lt_size qq))).trans (Heap.get?_push_of_some _ qq)) (Nat.le_refl _) (show ObjOk X.prog X.w _ _ _ (.dK vs) from ⟨hz, hm0, prs, kv, hd⟩)
      obtain ⟨g, s3, r4⟩ := new_dctK S (I.hok.fresh (Nat.le_refl _)) r3
      exact ⟨.ref s.heap.objs.size, _, I2, rfl, k _ _ _ g s3 r4⟩
    · cases e
  · cases e
end
end EX

set_option Elab.async false
set_option linter.all false
set_option maxRecDepth 100000
set_option maxHeartbeats 2000000
namespace EX
open PySem PySem.Spec L2
open PyProof.Rows hiding St
section
variable {X : Cx} {W : Wd}
theorem bt_sorted : bootBuiltins "sorted" = some (.builtin "sorted") := by decide +kernel
/-- len, of dicts too -/
def oLenD : OpN := fun as h => match as with
  | [.loc n] => (match h[n]? with
    | some (.dct false kvs) => some (.int kvs.length, h)
    | _ => oLen as h)
  | _ => oLen as h
theorem call_lenD_x : CallR X (.builtin "len") (rSN (gw X) oLenD) := by
  intro pins s σ H xs us Q I rs ⟨ρ, h, as, z, h', S, ra, e, k⟩
  have old : oLen as h = some (z, h') → _ := fun e => call_len_x pins s σ H xs us Q I rs ⟨ρ, h, as, z, h', S, ra, e, k⟩
  unfold oLenD at e
  split at e
  · split at e
    · rename_i n kvs e2
      cases e
      cases ra with
      | cons r1 r2 =>
      cases r2
      cases r1 with
      | @loc n a ea =>
      obtain ⟨vs, q1, r3⟩ := S.dct ea e2
      have hl : vs.length = kvs.length := r3.length.symm
      exact call_lenD pins s σ H _ us Q I rs ⟨a, vs, rfl, q1, k ρ H _ (Grow.refl _ _) S (by rw [hl]; exact .int _)⟩
    · exact old e
  · exact old e
end
end EX

set_option Elab.async false
set_option linter.all false
set_option maxRecDepth 100000
set_option maxHeartbeats 2000000
namespace EX
open PySem PySem.Spec L2
open PyProof.Rows hiding St
/-! ### a, b = a tuple or a list -/
section
variable {X : Cx} {W : Wd} {es : List Expr} {e : Expr} {k : Nat} {pos q : Pos}
def gTupE (K : PySem.W.Frag) (n : Nat) (t : TGs) : TG := fun v σ H Q => ∃ a xs, v = .ref a ∧ (SqT K H a xs ∨ SqL K H a xs) ∧ xs.length = n ∧ t xs σ H Q
theorem pg_tupE {t : TGs} {n : Nat} (hc : X.calm = true) (h : PGs X es t)
    (hn : (assignEach es X.env).length = n := by rfl) (hst : (assignEach es X.env).findIdx? (·.1) = none := by rfl) : PG X (.Tuple es k pos) (gTupE X.K n t) := by
  refine ⟨fun pins s σ H v u Q I r hw => ?_⟩
  obtain ⟨a, xs, e1, hq, hl, hw⟩ := hw
  subst e1
  cases r
  rcases hq with hq | hq
  · obtain ⟨its, rv, ht, hz⟩ := I.tuple hq
    refine assign_Tuple_tuple (I.ok.hd hc) ht (by simp [hn, ← hl, rv.length]) hst fun h' hx => ?_
    have I1 : L2.Inv X pins σ H { s with heap := h' } := I.kept (t' := s.toks) fun b o e => hx b o (Nat.ne_of_lt (Heap.lt_size e)) e
    exact h.run pins _ σ H xs _ Q I1 (by simpa using rv) hw
  · obtain ⟨its, rv, hp, hz⟩ := I.list hq
    have hl' : s.heap.IsList a its.toArray := by
      obtain ⟨o, n, e1, e2, e3, e4⟩ := hp
      exact ⟨o, e1, e2, n, e4⟩
    rw [PyProof.Rows.assign_Tuple]
    refine wpAny_bind (wpAny_standAt ?_)
    unfold unpack
    have sz : (assignEach es X.env).length = its.toArray.size := by simp [hn, ← hl, rv.length]
    rw [sz, hst]
    refine wpAny_bind (wpAny_holding (PySem.W.kun_itemsOf (I.ok.hd hc) hl' fun h' hx => ?_))
    have I1 : L2.Inv X pins σ H { s with heap := h' } := I.kept (t' := s.toks) fun b o e => hx b o (Nat.ne_of_lt (Heap.lt_size e)) e
    exact h.run pins _ σ H xs _ Q I1 (by simpa using rv) hw
def itemsX (v : Val) (h : Hh) : Option (List Val) := match v with
  | .tup xs => some xs
  | .scr xs => some xs
  | .loc n => (match h[n]? with
    | some (.lst xs) => some xs
    | _ => none)
  | _ => none
def sAsgE (ts : List Tg) (x : XE) : XS := fun e h => match x e h with
  | .ok v h1 => (match itemsX v h1 with
    | some xs => (match putL ts xs e with
      | some e1 => .nx e1 h1
      | none => .stuck)
    | none => .stuck)
  | .exc c fs h1 => .exc c fs e h1
  | .stuck => .stuck
theorem itemsX_ok {K : Gw} {ρ : List Addr} {H : Hp} {h : Hh} {v : Val} {u : V} {xs : List Val} (S : Sim K ρ H h) (r : Rep K ρ H v u) (e : itemsX v h = some xs) : ∃ a vs, u = .ref a ∧ (SqT K.K H a vs ∨ SqL K.K H a vs) ∧ RepL K ρ H xs vs := by
  cases r with
  | @tup a ys vs sq rs => cases e; exact ⟨a, vs, rfl, .inl sq, rs⟩
  | @scr a ys vs sq rs => cases e; exact ⟨a, vs, rfl, .inr sq.sql, rs⟩
  | @loc n a ea =>
    have e : (match h[n]? with | some (.lst xs) => some xs | _ => none) = some xs := e
    split at e
    · rename_i ys e2
      cases e
      obtain ⟨vs, q1, q2⟩ := S.lst ea e2
      exact ⟨a, vs, rfl, .inr (.inl (.inl q1)), q2⟩
    · cases e
  | _ => cases e
theorem asgE_of {K : Gw} {ts : List Tg} {x : XE} {D : Ends} {σ : St} {H : Hp} (h0 : W.s = none) (h : tXS K W (sAsgE ts x) D σ H) : tAsg (tX K W x) (gTupE K.K ts.length (tTgs K ts)) D σ H := by
  obtain ⟨ρ, env, h, S, E, p⟩ := h
  refine ⟨ρ, env, h, S, E, (afterE (f := fun v h1 => match itemsX v h1 with
    | some xs => (match putL ts xs env with
      | some e1 => .nx e1 h1
      | none => .stuck)
    | none => .stuck) E p).imp fun v h1 ρ1 H1 g1 S1 q u ru => ?_⟩
  cases ei : itemsX v h1 with
  | none => rw [ei] at q; exact q.elim
  | some xs =>
    rw [ei] at q
    obtain ⟨a, vs, rfl, sq, rs⟩ := itemsX_ok S1 ru ei
    dsimp only at q
    cases e1 : putL ts xs env with
    | none => rw [e1] at q; exact q.elim
    | some e2 =>
      rw [e1] at q
      exact ⟨a, vs, rfl, sq, by rw [← rs.length, putL_len e1], ρ1, env, h1, xs, e2, S1, (E.mono g1).drop, rs, e1, fun σ1 E1 _ => q ρ1 H1 σ1 (Grow.refl _ _) S1 (by rw [h0]; exact E1)⟩
theorem qs_asgE {ts : List Tg} {x : XE} (hc : X.calm = true) (he : QE X W e x) (hg : PGs X es (tTgs (gw X) ts)) (hn : (assignEach es X.env).length = ts.length := by rfl) (hst : (assignEach es X.env).findIdx? (·.1) = none := by rfl)
    (hs : swapsWithSole [.Tuple es k q] e pos.line X.env = pure false := by rfl) (hw : swappedStores [.Tuple es k q] e X.env = pure none := by rfl)
    (h1 : (assignEach [.Tuple es k q] X.env).map (·.2) = [assign (.Tuple es k q) X.env] := by rfl) (h0 : W.s = none := by rfl) : QS X W (.Assign [.Tuple es k q] e pos) (sAsgE ts x) :=
  PS.of (ps_asg he (pg_tupE hc hg hn hst) hs hw h1) fun _ _ _ => asgE_of h0
end
end EX

set_option Elab.async false
set_option linter.all false
set_option maxRecDepth 100000
set_option maxHeartbeats 4000000
namespace K
open PySem L2 EX
def ct : Ct := [("InnerError", ["InnerError", "ValueError"]), ("Missing", ["Missing", "KeyError", "LookupError"]), ("Barred", ["Barred", "LookupError"]), ("NoParams", ["NoParams", "InnerError", "ValueError"]), ("NoRows", ["NoRows", "InnerError", "ValueError"]), ("NoList", ["NoList", "InnerError", "ValueError"]), ("Fault", ["Fault", "Barred", "LookupError"])]
def t_STEPS : List (Str × Val) := [("by", .int 0), ("or", .int 1), ("rest", .int 2), ("only", .int 3), ("onlyor", .int 3)]
def gt : GT := [("STEPS", t_STEPS)]
def k_NO_NAMES : List Val := [.str "me", .str "here", .str "none"]
def k_OWN : List Val := [.str "or", .str "onlyor"]
def k_PLACED : List Val := [.str "by", .str "or"]
def k_WANTED : List Val := [.str "by", .str "only"]
noncomputable def x_is_whole : XS := sRet (xAndV (xCallN oIsi (xCons (xVar 0) (xCons (xC (.ty "int")) (xNil)))) (xAndV (xNotV (xCallN oIsi (xCons (xVar 0) (xCons (xC (.ty "bool")) (xNil))))) (xChain oLe oLe (xVar 1) (xVar 0) (xVar 2))))
noncomputable def f_is_whole : Fn := callF 3 x_is_whole
noncomputable def x_is_name : XS := sSeq (sIf (xOrT (xNotT (xTru (xCallN oIsi (xCons (xVar 0) (xCons (xC (.ty "str")) (xNil)))))) (xOrT (xNotT (xTest (xChain oLe oLe (xC (.int 1)) (xCallN oLenD (xCons (xVar 0) (xNil))) (xC (.int 8))))) (xTest (xBin (oIn2 gt) (xVar 0) (xC (.tup k_NO_NAMES)))))) (sRet (xC (.bl false))) (sNil)) (sRet (xCallN oAll (xCons (xComp (xIter (xVar 0)) (.name 1) (xYes) (xBin (oIn2 gt) (xVar 1) (xC (.str "abcdefghijklmnopqrstuvwxyz"))) [1]) (xNil))))
noncomputable def f_is_name : Fn := callF 2 x_is_name
noncomputable def x_is_text : XS := sSeq (sIf (xOrT (xNotT (xTru (xCallN oIsi (xCons (xVar 0) (xCons (xC (.ty "str")) (xNil)))))) (xTest (xBin oGt (xCallN oLenD (xCons (xVar 0) (xNil))) (xC (.int 60))))) (sRet (xC (.bl false))) (sNil)) (sRet (xCallN oAll (xCons (xComp (xIter (xVar 0)) (.name 1) (xYes) (xAndV (xChain oLe oLe (xC (.str " ")) (xVar 1) (xC (.str "~"))) (xBin (oNotIn2 gt) (xCallN oOrd (xCons (xVar 1) (xNil))) (xTup (xCons (xC (.int 37)) (xCons (xC (.int 39)) (xNil)))))) [1]) (xNil))))
noncomputable def f_is_text : Fn := callF 2 x_is_text
noncomputable def x_is_number : XS := sRet (xCall 3 f_is_whole (xCons (xVar 0) (xCons (xUn oNeg (xC (.int 1000000000))) (xCons (xC (.int 1000000000)) (xNil)))))
noncomputable def f_is_number : Fn := callF 1 x_is_number
noncomputable def x_is_pair : XS := sRet (xAndV (xCallN oIsi (xCons (xVar 0) (xCons (xC (.ty "tuple")) (xNil)))) (xAndV (xBin oEq (xCallN oLenD (xCons (xVar 0) (xNil))) (xC (.int 2))) (xAndV (xCallN oIsi (xCons (xBin (oIx2 gt) (xVar 0) (xC (.int 0))) (xCons (xC (.ty "str")) (xNil)))) (xBin oEq (xBin (oIx2 gt) (xVar 0) (xC (.int 0))) (xVar 1)))))
noncomputable def f_is_pair : Fn := callF 2 x_is_pair
noncomputable def x_is_thing : XS := sRet (xAndV (xCall 2 f_is_pair (xCons (xVar 0) (xCons (xC (.str "thing")) (xNil)))) (xCall 3 f_is_whole (xCons (xBin (oIx2 gt) (xVar 0) (xC (.int 1))) (xCons (xC (.int 0)) (xCons (xC (.int 999)) (xNil))))))
noncomputable def f_is_thing : Fn := callF 1 x_is_thing
noncomputable def x_is_worth_within (self : Fn) : XS := sSeq (sIf (xOrT (xTest (xBin oIs (xVar 0) (xC .non))) (xOrT (xTru (xCall 1 f_is_number (xCons (xVar 0) (xNil)))) (xOrT (xTru (xCall 1 f_is_text (xCons (xVar 0) (xNil)))) (xTru (xCall 1 f_is_thing (xCons (xVar 0) (xNil))))))) (sRet (xC (.bl true))) (sNil)) (sSeq (sIf (xOrT (xTest (xBin oEq (xVar 1) (xC (.int 0)))) (xOrT (xNotT (xTru (xCall 2 f_is_pair (xCons (xVar 0) (xCons (xC (.str "row")) (xNil)))))) (xOrT (xNotT (xTru (xCallN oIsi (xCons (xBin (oIx2 gt) (xVar 0) (xC (.int 1))) (xCons (xC (.ty "tuple")) (xNil)))))) (xTest (xBin oGt (xCallN oLenD (xCons (xBin (oIx2 gt) (xVar 0) (xC (.int 1))) (xNil))) (xC (.int 30))))))) (sRet (xC (.bl false))) (sNil)) (sRet (xCallN oAll (xCons (xComp (xIter (xBin (oIx2 gt) (xVar 0) (xC (.int 1)))) (.name 2) (xYes) (xCall 2 self (xCons (xVar 2) (xCons (xBin oSub (xVar 1) (xC (.int 1))) (xNil)))) [2]) (xNil)))))
noncomputable def f_is_worth_within : Nat → Fn
  | 0 => fun _ _ => .stuck
  | n + 1 => callF 3 (x_is_worth_within (f_is_worth_within n))
noncomputable def x_is_worth : XS := sRet (xCall 2 (f_is_worth_within 12) (xCons (xVar 0) (xCons (xC (.int 4)) (xNil))))
noncomputable def f_is_worth : Fn := callF 1 x_is_worth
noncomputable def x_are_rows : XS := sSeq (sIf (xOrT (xNotT (xTru (xCallN oIsi (xCons (xVar 0) (xCons (xC (.ty "dict")) (xNil)))))) (xTest (xBin oGt (xCallN oLenD (xCons (xVar 0) (xNil))) (xC (.int 30))))) (sRet (xC (.bl false))) (sNil)) (sRet (xCallN oAll (xCons (xLk 0 (xComp (xDIt 0 .items) (.tup [.name 1, .name 2]) (xYes) (xAndV (xCall 1 f_is_name (xCons (xVar 1) (xNil))) (xCall 1 f_is_worth (xCons (xVar 2) (xNil)))) [1, 2])) (xNil))))
noncomputable def f_are_rows : Fn := callF 3 x_are_rows
noncomputable def x_is_list : XS := sRet (xAndV (xIsiT ["list", "tuple"] (xVar 0)) (xBin oLe (xCallN oLenD (xCons (xVar 0) (xNil))) (xVar 1)))
noncomputable def f_is_list : Fn := callF 2 x_is_list
noncomputable def x_is_param : XS := sSeq (sIf (xOrT (xNotT (xTru (xCallN oIsi (xCons (xVar 0) (xCons (xC (.ty "tuple")) (xNil)))))) (xOrT (xTest (xBin oLt (xCallN oLenD (xCons (xVar 0) (xNil))) (xC (.int 2)))) (xOrT (xNotT (xTru (xCallN oIsi (xCons (xBin (oIx2 gt) (xVar 0) (xC (.int 0))) (xCons (xC (.ty "str")) (xNil)))))) (xTest (xBin (oNotIn2 gt) (xBin (oIx2 gt) (xVar 0) (xC (.int 0))) (xC (.ref "STEPS"))))))) (sRet (xC (.bl false))) (sNil)) (sSeq (sIf (xNotT (xTru (xCall 1 f_is_name (xCons (xBin (oIx2 gt) (xVar 0) (xC (.int 1))) (xNil))))) (sRet (xC (.bl false))) (sNil)) (sSeq (sIf (xTest (xBin (oNotIn2 gt) (xBin (oIx2 gt) (xVar 0) (xC (.int 0))) (xC (.tup k_OWN)))) (sRet (xBin oEq (xCallN oLenD (xCons (xVar 0) (xNil))) (xC (.int 2)))) (sNil)) (sRet (xAndV (xBin oEq (xCallN oLenD (xCons (xVar 0) (xNil))) (xC (.int 3))) (xAndV (xCall 1 f_is_worth (xCons (xBin (oIx2 gt) (xVar 0) (xC (.int 2))) (xNil))) (xNotV (xCallN oIsi (xCons (xBin (oIx2 gt) (xVar 0) (xC (.int 2))) (xCons (xC (.ty "tuple")) (xNil))))))))))
noncomputable def f_is_param : Fn := callF 1 x_is_param
noncomputable def x_is_params : XS := sSeq (sIf (xOrT (xNotT (xTru (xCallN oIsi (xCons (xVar 0) (xCons (xC (.ty "tuple")) (xNil)))))) (xOrT (xTest (xBin oGt (xCallN oLenD (xCons (xVar 0) (xNil))) (xC (.int 6)))) (xNotT (xTru (xCallN oAll (xCons (xComp (xIter (xVar 0)) (.name 2) (xYes) (xCall 1 f_is_param (xCons (xVar 2) (xNil))) [2]) (xNil))))))) (sRet (xC (.bl false))) (sNil)) (sSeq (sSet 1 (xComp (xIter (xVar 0)) (.name 2) (xYes) (xBin (oIx2 gt) (xC (.ref "STEPS")) (xBin (oIx2 gt) (xVar 2) (xC (.int 0)))) [2])) (sSeq (sIf (xOrT (xTest (xBin oNe (xVar 1) (xCallN oSorted (xCons (xVar 1) (xNil))))) (xTest (xBin oGt (xMeth "list" oCount (xVar 1) (xCons (xBin (oIx2 gt) (xC (.ref "STEPS")) (xC (.str "rest"))) (xNil))) (xC (.int 1))))) (sRet (xC (.bl false))) (sNil)) (sRet (xBin oEq (xLenSc (xIter (xVar 0)) (.name 2) (xYes) (xBin (oIx2 gt) (xVar 2) (xC (.int 1))) [2]) (xCallN oLenD (xCons (xVar 0) (xNil)))))))
noncomputable def f_is_params : Fn := callF 3 x_is_params
noncomputable def x_need_params : XS := sIf (xNotT (xTru (xCall 1 f_is_params (xCons (xVar 0) (xNil))))) (sRaise "NoParams" ["found"] (xCons (xVar 0) (xNil))) (sNil)
noncomputable def f_need_params : Fn := callF 1 x_need_params
noncomputable def x_with_sorts : XS := sRet (xComp (xIter (xVar 0)) (.name 2) (xTest (xBin (oIn2 gt) (xBin (oIx2 gt) (xVar 2) (xC (.int 0))) (xVar 1))) (xVar 2) [2])
noncomputable def f_with_sorts : Fn := callF 3 x_with_sorts
noncomputable def x_placed : XS := sSeq (sSet 2 (xComp (xIter (xCall 2 f_with_sorts (xCons (xVar 0) (xCons (xC (.tup k_PLACED)) (xNil))))) (.name 6) (xYes) (xBin (oIx2 gt) (xVar 6) (xC (.int 1))) [6])) (sSeq (sSet 3 (xBin oDictZip (xVar 2) (xVar 1))) (sSeq (sSet 4 (xCallN oTuple (xCons (xSl oSl (xVar 1) (some (xCallN oLenD (xCons (xVar 2) (xNil)))) none) (xNil)))) (sSeq (sIf (xTest (xBin oNe (xVar 4) (xTup (xNil)))) (sSeq (sSet 5 (xCall 2 f_with_sorts (xCons (xVar 0) (xCons (xTup (xCons (xC (.str "rest")) (xNil))) (xNil))))) (sSeq (sIf (xOrT (xTest (xBin oEq (xVar 5) (xLst (xNil)))) (xNotT (xTru (xCall 1 f_is_worth (xCons (xTup (xCons (xC (.str "row")) (xCons (xVar 4) (xNil)))) (xNil)))))) (sRaise "Fault" ["why", "found"] (xCons (xC (.str "many")) (xCons (xCallN oLenD (xCons (xVar 1) (xNil))) (xNil)))) (sNil)) (sSetIx (xVar 3) (xBin (oIx2 gt) (xBin (oIx2 gt) (xVar 5) (xC (.int 0))) (xC (.int 1))) (xTup (xCons (xC (.str "row")) (xCons (xVar 4) (xNil))))))) (sNil)) (sRet (xVar 3)))))
noncomputable def f_placed : Fn := callF 7 x_placed
noncomputable def x_matched : XS := sSeq (sExpr (xCall 1 f_need_params (xCons (xVar 0) (xNil)))) (sSeq (sIf (xOrT (xNotT (xTru (xCall 2 f_is_list (xCons (xVar 1) (xCons (xC (.int 20)) (xNil)))))) (xNotT (xTru (xCallN oAll (xCons (xComp (xIter (xVar 1)) (.name 6) (xYes) (xCall 1 f_is_worth (xCons (xVar 6) (xNil))) [6]) (xNil)))))) (sRaise "NoList" ["found"] (xCons (xVar 1) (xNil))) (sNil)) (sSeq (sIf (xNotT (xTru (xCall 1 f_are_rows (xCons (xVar 2) (xNil))))) (sRaise "NoRows" ["found"] (xCons (xVar 2) (xNil))) (sNil)) (sSeq (sSet 3 (xCall 2 f_placed (xCons (xVar 0) (xCons (xVar 1) (xNil))))) (sSeq (sSet 4 (xComp (xIter (xVar 0)) (.name 10) (xTest (xBin oNe (xBin (oIx2 gt) (xVar 10) (xC (.int 0))) (xC (.str "rest")))) (xBin (oIx2 gt) (xVar 10) (xC (.int 1))) [10])) (sSeq (sLk 2 (sFor (xDIt 2 .items) (.tup [.name 5, .name 6]) (sSeq (sIf (xTest (xBin (oNotIn2 gt) (xVar 5) (xVar 4))) (sRaise "Fault" ["why", "found"] (xCons (xC (.str "strange")) (xCons (xVar 5) (xNil)))) (sNil)) (sSeq (sIf (xTest (xBin (oIn2 gt) (xVar 5) (xVar 3))) (sRaise "Fault" ["why", "found"] (xCons (xC (.str "twice")) (xCons (xVar 5) (xNil)))) (sNil)) (sSetIx (xVar 3) (xVar 5) (xVar 6)))))) (sSeq (sSet 7 (xDict [])) (sSeq (sForStar (xIter (xVar 0)) 8 5 9 (sSeq (sIf (xAndT (xTest (xBin (oNotIn2 gt) (xVar 5) (xVar 3))) (xTest (xBin (oIn2 gt) (xVar 8) (xC (.tup k_WANTED))))) (sRaise "Fault" ["why", "found"] (xCons (xC (.str "lacks")) (xCons (xVar 5) (xNil)))) (sNil)) (sSetIx (xVar 7) (xVar 5) (xGet (xVar 3) (xVar 5) (xIf (xTest (xBin oNe (xVar 9) (xLst (xNil)))) (xBin (oIx2 gt) (xVar 9) (xC (.int 0))) (xTup (xCons (xC (.str "row")) (xCons (xTup (xNil)) (xNil))))))))) (sRet (xVar 7)))))))))
noncomputable def f_matched : Fn := callF 11 x_matched
noncomputable def x__law_cell : XS := sSeq (sIf (xTest (xBin oLt (xVar 1) (xCallN oLenD (xCons (xVar 0) (xNil))))) (sRet (xBin (oIx2 gt) (xVar 0) (xVar 1))) (sNil)) (sRet (xBin oAdd (xBin oMul3 (xC (.int 77377)) (xVar 1)) (xC (.int 311))))
noncomputable def f__law_cell : Fn := callF 2 x__law_cell
noncomputable def x__law_box : XS := sRet (xLst (xCons (xCallN oMaxL (xCons (xC (.int 0)) (xCons (xBin oSub (xVar 0) (xBin oPow (xC (.int 10)) (xC (.int 18)))) (xNil)))) (xCons (xBin oMod (xVar 0) (xC (.int 2147483629))) (xCons (xC (.int 0)) (xNil)))))
noncomputable def f__law_box : Fn := callF 1 x__law_box
noncomputable def x__law_take : XS := sSeq (sIf (xTest (xBin oGt (xBin (oIx2 gt) (xVar 0) (xC (.int 0))) (xC (.int 0)))) (sSeq (sSet 2 (xBin oMod (xBin (oIx2 gt) (xVar 0) (xC (.int 0))) (xVar 1))) (sSeq (sSetIx (xVar 0) (xC (.int 0)) (xBin oFdiv (xBin (oIx2 gt) (xVar 0) (xC (.int 0))) (xVar 1))) (sRet (xVar 2)))) (sNil)) (sSeq (sSetIx (xVar 0) (xC (.int 2)) (xBin oAdd (xBin (oIx2 gt) (xVar 0) (xC (.int 2))) (xC (.int 1)))) (sSeq (sSet 3 (xBin oMod (xBin oPow (xBin oAdd (xBin oAdd (xBin (oIx2 gt) (xVar 0) (xC (.int 1))) (xBin oMul3 (xC (.int 7919)) (xBin (oIx2 gt) (xVar 0) (xC (.int 2))))) (xC (.int 11))) (xC (.int 5))) (xC (.int 2147483647)))) (sSeq (sSet 3 (xBin oMod (xBin oPow (xBin oAdd (xVar 3) (xBin oMul3 (xBin oMul3 (xC (.int 104729)) (xBin (oIx2 gt) (xVar 0) (xC (.int 2)))) (xBin (oIx2 gt) (xVar 0) (xC (.int 2))))) (xC (.int 3))) (xC (.int 2147483587)))) (sRet (xBin oMod (xBin oFdiv (xVar 3) (xC (.int 16))) (xVar 1))))))
noncomputable def f__law_take : Fn := callF 4 x__law_take
noncomputable def x__law_names : XS := sSeq (sSet 2 (xC (.str "abcdefghijklmnopqrstuvwxyz"))) (sSeq (sSet 3 (xCall 2 f__law_take (xCons (xVar 0) (xCons (xC (.int 26)) (xNil))))) (sSeq (sSet 4 (xMeth "str" oJoin (xC (.str "")) (xCons (xComp (xRange1 (xC (.int 7))) (.name 7) (xYes) (xBin (oIx2 gt) (xVar 2) (xCall 2 f__law_take (xCons (xVar 0) (xCons (xC (.int 26)) (xNil))))) [7]) (xNil)))) (sSeq (sSet 5 (xCall 2 f__law_take (xCons (xVar 0) (xCons (xC (.int 8)) (xNil))))) (sSeq (sSet 6 (xComp (xRange1 (xVar 1)) (.name 7) (xYes) (xBin oAdd (xBin oAdd (xSl oSl (xVar 4) none (some (xVar 5))) (xBin (oIx2 gt) (xVar 2) (xBin oMod (xBin oAdd (xVar 3) (xBin oMul3 (xC (.int 7)) (xVar 7))) (xC (.int 26))))) (xSl oSl (xVar 4) (some (xVar 5)) none)) [7])) (sSeq (sIf (xAndT (xTest (xBin oEq (xCall 2 f__law_take (xCons (xVar 0) (xCons (xC (.int 3)) (xNil)))) (xC (.int 0)))) (xTest (xBin oLt (xVar 1) (xC (.int 8))))) (sSet 6 (xComp (xRange1 (xVar 1)) (.name 7) (xYes) (xSl oSl (xBin oAdd (xBin (oIx2 gt) (xVar 2) (xVar 3)) (xVar 4)) none (some (xBin oAdd (xC (.int 1)) (xVar 7)))) [7])) (sNil)) (sRet (xComp (xIter (xVar 6)) (.name 8) (xYes) (xBin (oIx2 gt) (xLst (xCons (xVar 8) (xCons (xUn oRev (xVar 8)) (xNil)))) (xCallN oInt (xCons (xBin (oIn2 gt) (xVar 8) (xLst (xCons (xC (.str "me")) (xCons (xC (.str "here")) (xCons (xC (.str "none")) (xNil)))))) (xNil)))) [8])))))))
noncomputable def f__law_names : Fn := callF 9 x__law_names
noncomputable def x__law_writ : XS := sSeq (sSet 1 (xC (.str " !\"#$&()*+,-./0123456789:;<=>?@ABCDEFGHIJKLMNOPQRSTUVWXYZ[\\]^_`abcdefghijklmnopqrstuvwxyz{|}~"))) (sRet (xMeth "str" oJoin (xC (.str "")) (xCons (xComp (xRange1 (xCall 2 f__law_take (xCons (xVar 0) (xCons (xC (.int 9)) (xNil))))) (.name 2) (xYes) (xBin (oIx2 gt) (xVar 1) (xCall 2 f__law_take (xCons (xVar 0) (xCons (xC (.int 93)) (xNil))))) [2]) (xNil))))
noncomputable def f__law_writ : Fn := callF 3 x__law_writ
noncomputable def x__law_lit : XS := sSeq (sSet 1 (xLst (xCons (xC (.int 0)) (xCons (xC (.int 1)) (xCons (xUn oNeg (xC (.int 1))) (xCons (xBin oPow (xC (.int 10)) (xC (.int 9))) (xCons (xBin oSub (xC (.int 0)) (xBin oPow (xC (.int 10)) (xC (.int 9)))) (xCons (xC .non) (xCons (xC (.str "")) (xCons (xC (.str "a b")) (xCons (xC (.str "(x=1)")) (xCons (xC (.str "=..")) (xCons (xC (.str "* ) (")) (xCons (xC (.str "none")) (xCons (xC (.str "#3")) (xCons (xC (.str "[1]")) (xCons (xBin oMul3 (xC (.str "~")) (xC (.int 60))) (xNil)))))))))))))))))) (sRet (xBin (oIx2 gt) (xBin oAdd (xVar 1) (xLst (xCons (xBin oSub (xCall 2 f__law_take (xCons (xVar 0) (xCons (xC (.int 2000)) (xNil)))) (xC (.int 1000))) (xCons (xCall 1 f__law_writ (xCons (xVar 0) (xNil))) (xNil))))) (xCall 2 f__law_take (xCons (xVar 0) (xCons (xC (.int 17)) (xNil))))))
noncomputable def f__law_lit : Fn := callF 2 x__law_lit
noncomputable def x__law_params : XS := sSeq (sSet 3 (xCall 2 f__law_take (xCons (xVar 0) (xCons (xCallN oLenD (xCons (xVar 1) (xNil))) (xNil))))) (sSeq (sSet 4 (xCallN oSorted (xCons (xComp (xRange1 (xCall 2 f__law_take (xCons (xVar 0) (xCons (xBin oAdd (xCallN oMin (xCons (xVar 2) (xCons (xCallN oLenD (xCons (xVar 1) (xNil))) (xNil)))) (xC (.int 1))) (xNil))))) (.name 6) (xYes) (xCall 2 f__law_take (xCons (xVar 0) (xCons (xC (.int 4)) (xNil)))) [6]) (xNil)))) (sSeq (sSet 5 (xLst (xNil))) (sSeq (sFor (xEnum (xVar 4)) (.tup [.name 6, .name 7]) (sSeq (sIf (xAndT (xTest (xBin oEq (xVar 7) (xC (.int 2)))) (xTest (xBin oNe (xComp (xIter (xVar 5)) (.name 9) (xTest (xBin oEq (xBin (oIx2 gt) (xVar 9) (xC (.int 0))) (xC (.str "rest")))) (xVar 9) [9]) (xLst (xNil))))) (sSet 7 (xC (.int 3))) (sNil)) (sSeq (sSet 8 (xBin (oIx2 gt) (xLst (xCons (xC (.str "by")) (xCons (xC (.str "or")) (xCons (xC (.str "rest")) (xCons (xBin (oIx2 gt) (xLst (xCons (xC (.str "only")) (xCons (xC (.str "onlyor")) (xNil)))) (xCall 2 f__law_take (xCons (xVar 0) (xCons (xC (.int 2)) (xNil))))) (xNil)))))) (xVar 7))) (sSeq (sSet 9 (xTup (xCons (xVar 8) (xCons (xBin (oIx2 gt) (xVar 1) (xBin oMod (xBin oAdd (xVar 3) (xVar 6)) (xCallN oLenD (xCons (xVar 1) (xNil))))) (xNil))))) (sExpr (xMeth "list" oAppend (xVar 5) (xCons (xBin oAdd (xVar 9) (xBin oMul3 (xTup (xCons (xCall 1 f__law_lit (xCons (xVar 0) (xNil))) (xNil))) (xCallN oInt (xCons (xBin (oIn2 gt) (xVar 8) (xLst (xCons (xC (.str "or")) (xCons (xC (.str "onlyor")) (xNil))))) (xNil))))) (xNil)))))))) (sRet (xCallN oTuple (xCons (xVar 5) (xNil)))))))
noncomputable def f__law_params : Fn := callF 10 x__law_params
noncomputable def x__law_worth (self : Fn) : XS := sSeq (sSet 2 (xCall 2 f__law_take (xCons (xVar 0) (xCons (xC (.int 8)) (xNil))))) (sSeq (sIf (xOrT (xTest (xBin oLt (xVar 2) (xC (.int 4)))) (xTest (xBin oEq (xVar 1) (xC (.int 0))))) (sRet (xCall 1 f__law_lit (xCons (xVar 0) (xNil)))) (sNil)) (sSeq (sIf (xTest (xBin oEq (xVar 2) (xC (.int 4)))) (sRet (xTup (xCons (xC (.str "thing")) (xCons (xBin (oIx2 gt) (xLst (xCons (xC (.int 0)) (xCons (xC (.int 999)) (xCons (xCall 2 f__law_take (xCons (xVar 0) (xCons (xC (.int 1000)) (xNil)))) (xNil))))) (xCall 2 f__law_take (xCons (xVar 0) (xCons (xC (.int 3)) (xNil))))) (xNil))))) (sNil)) (sSeq (sIf (xTest (xBin oEq (xVar 2) (xC (.int 5)))) (sRet (xTup (xCons (xC (.str "row")) (xCons (xTup (xCons (xCall 2 self (xCons (xVar 0) (xCons (xBin oSub (xVar 1) (xC (.int 1))) (xNil)))) (xNil))) (xNil))))) (sNil)) (sRet (xTup (xCons (xC (.str "row")) (xCons (xCallN oTuple (xCons (xComp (xRange1 (xCall 2 f__law_take (xCons (xVar 0) (xCons (xC (.int 4)) (xNil))))) (.name 3) (xYes) (xCall 2 self (xCons (xVar 0) (xCons (xBin oSub (xVar 1) (xC (.int 1))) (xNil)))) [3]) (xNil))) (xNil))))))))
noncomputable def f__law_worth : Nat → Fn
  | 0 => fun _ _ => .stuck
  | n + 1 => callF 4 (x__law_worth (f__law_worth n))
noncomputable def x__law_call : XS := sSeq (sSet 3 (xComp (xIter (xVar 1)) (.name 9) (xTest (xBin (oIn2 gt) (xBin (oIx2 gt) (xVar 9) (xC (.int 0))) (xLst (xCons (xC (.str "by")) (xCons (xC (.str "or")) (xNil)))))) (xBin (oIx2 gt) (xVar 9) (xC (.int 1))) [9])) (sSeq (sSet 4 (xBin (oIx2 gt) (xLst (xCons (xCallN oLenD (xCons (xVar 3) (xNil))) (xCons (xCall 2 f__law_take (xCons (xVar 0) (xCons (xBin oAdd (xCallN oLenD (xCons (xVar 3) (xNil))) (xC (.int 1))) (xNil)))) (xCons (xCall 2 f__law_take (xCons (xVar 0) (xCons (xC (.int 9)) (xNil)))) (xCons (xCall 2 f__law_take (xCons (xVar 0) (xCons (xC (.int 21)) (xNil)))) (xNil)))))) (xCall 2 f__law_take (xCons (xVar 0) (xCons (xC (.int 4)) (xNil)))))) (sSeq (sSet 5 (xComp (xRange1 (xVar 4)) (.name 8) (xYes) (xCall 2 (f__law_worth 12) (xCons (xVar 0) (xCons (xC (.int 4)) (xNil)))) [8])) (sSeq (sSet 6 (xDict [])) (sSeq (sFor (xIter (xComp (xIter (xVar 1)) (.name 9) (xTest (xBin (oIn2 gt) (xBin (oIx2 gt) (xVar 9) (xC (.int 0))) (xLst (xCons (xC (.str "by")) (xCons (xC (.str "only")) (xNil)))))) (xBin (oIx2 gt) (xVar 9) (xC (.int 1))) [9])) (.name 7) (sIf (xAndT (xTest (xBin (oNotIn2 gt) (xVar 7) (xSl oSl (xVar 3) none (some (xVar 4))))) (xTest (xBin oGt (xCall 2 f__law_take (xCons (xVar 0) (xCons (xC (.int 5)) (xNil)))) (xC (.int 0))))) (sSetIx (xVar 6) (xVar 7) (xCall 2 (f__law_worth 12) (xCons (xVar 0) (xCons (xC (.int 4)) (xNil))))) (sNil))) (sSeq (sFor (xRange1 (xCall 2 f__law_take (xCons (xVar 0) (xCons (xC (.int 3)) (xNil))))) (.name 8) (sSetIx (xVar 6) (xBin (oIx2 gt) (xVar 2) (xCall 2 f__law_take (xCons (xVar 0) (xCons (xCallN oLenD (xCons (xVar 2) (xNil))) (xNil))))) (xCall 2 (f__law_worth 12) (xCons (xVar 0) (xCons (xC (.int 4)) (xNil)))))) (sRet (xLst (xCons (xVar 5) (xCons (xVar 6) (xNil))))))))))
noncomputable def f__law_call : Fn := callF 10 x__law_call
noncomputable def x__law_deep (self : Fn) : XS := sSeq (sIf (xOrT (xNotT (xTru (xCallN oIsi (xCons (xVar 0) (xCons (xC (.ty "tuple")) (xNil)))))) (xTest (xBin oEq (xBin (oIx2 gt) (xVar 0) (xC (.int 0))) (xC (.str "thing"))))) (sRet (xC (.int 0))) (sNil)) (sRet (xBin oAdd (xC (.int 1)) (xCallN oMaxL (xCons (xBin oAdd (xLst (xCons (xC (.int 0)) (xNil))) (xComp (xIter (xBin (oIx2 gt) (xVar 0) (xC (.int 1)))) (.name 1) (xYes) (xCall 1 self (xCons (xVar 1) (xNil))) [1])) (xNil)))))
noncomputable def f__law_deep : Nat → Fn
  | 0 => fun _ _ => .stuck
  | n + 1 => callF 2 (x__law_deep (f__law_deep n))
noncomputable def x__law_due : XS := sSeq (sSet 3 (xComp (xIter (xVar 0)) (.name 11) (xTest (xBin (oIn2 gt) (xBin (oIx2 gt) (xVar 11) (xC (.int 0))) (xLst (xCons (xC (.str "by")) (xCons (xC (.str "or")) (xNil)))))) (xBin (oIx2 gt) (xVar 11) (xC (.int 1))) [11])) (sSeq (sSet 4 (xComp (xIter (xVar 0)) (.name 11) (xTest (xBin oEq (xBin (oIx2 gt) (xVar 11) (xC (.int 0))) (xC (.str "rest")))) (xBin (oIx2 gt) (xVar 11) (xC (.int 1))) [11])) (sSeq (sSet 5 (xCallN oDictOf (xCons (xBin oListZip (xVar 3) (xVar 1)) (xNil)))) (sSeq (sSet 6 (xCallN oTuple (xCons (xSl oSl (xVar 1) (some (xCallN oLenD (xCons (xVar 3) (xNil)))) none) (xNil)))) (sSeq (sIf (xTest (xBin oNe (xVar 6) (xTup (xNil)))) (sSeq (sIf (xOrT (xTest (xBin oEq (xVar 4) (xLst (xNil)))) (xTest (xBin oGt (xCall 1 (f__law_deep 12) (xCons (xTup (xCons (xC (.str "row")) (xCons (xVar 6) (xNil)))) (xNil))) (xC (.int 4))))) (sRet (xTup (xCons (xC (.str "many")) (xCons (xCallN oLenD (xCons (xVar 1) (xNil))) (xNil))))) (sNil)) (sSetIx (xVar 5) (xBin (oIx2 gt) (xVar 4) (xC (.int 0))) (xTup (xCons (xC (.str "row")) (xCons (xVar 6) (xNil)))))) (sNil)) (sSeq (sSet 7 (xCallN oListD (xCons (xVar 5) (xNil)))) (sSeq (sLk 2 (sFor (xDIt 2 .keys) (.name 8) (sSeq (sSet 9 (xComp (xIter (xVar 0)) (.name 11) (xTest (xBin oEq (xBin (oIx2 gt) (xVar 11) (xC (.int 1))) (xVar 8))) (xBin (oIx2 gt) (xVar 11) (xC (.int 0))) [11])) (sSeq (sIf (xOrT (xTest (xBin oEq (xVar 9) (xLst (xNil)))) (xTest (xBin oEq (xVar 9) (xLst (xCons (xC (.str "rest")) (xNil)))))) (sRet (xTup (xCons (xC (.str "strange")) (xCons (xVar 8) (xNil))))) (sNil)) (sSeq (sIf (xTest (xBin (oIn2 gt) (xVar 8) (xVar 7))) (sRet (xTup (xCons (xC (.str "twice")) (xCons (xVar 8) (xNil))))) (sNil)) (sSetIx (xVar 5) (xVar 8) (xBin (oIx2 gt) (xVar 2) (xVar 8)))))))) (sSeq (sSet 10 (xDict [])) (sSeq (sFor (xIter (xVar 0)) (.name 11) (sSeq (sIf (xAndT (xTest (xBin (oNotIn2 gt) (xBin (oIx2 gt) (xVar 11) (xC (.int 1))) (xVar 5))) (xTest (xBin (oIn2 gt) (xBin (oIx2 gt) (xVar 11) (xC (.int 0))) (xLst (xCons (xC (.str "by")) (xCons (xC (.str "only")) (xNil))))))) (sRet (xTup (xCons (xC (.str "lacks")) (xCons (xBin (oIx2 gt) (xVar 11) (xC (.int 1))) (xNil))))) (sNil)) (sSetIx (xVar 10) (xBin (oIx2 gt) (xVar 11) (xC (.int 1))) (xGet (xVar 5) (xBin (oIx2 gt) (xVar 11) (xC (.int 1))) (xBin (oIx2 gt) (xBin oAdd (xVar 11) (xTup (xCons (xTup (xCons (xC (.str "row")) (xCons (xTup (xNil)) (xNil)))) (xNil)))) (xC (.int 2))))))) (sRet (xTup (xCons (xC (.str "told")) (xCons (xVar 10) (xNil)))))))))))))
noncomputable def f__law_due : Fn := callF 12 x__law_due
noncomputable def x__law_found : XS := sTry ct (sRet (xTup (xCons (xC (.str "told")) (xCons (xCallK 3 f_matched [2, 1, 0] (xCons (xVar 2) (xCons (xVar 1) (xCons (xVar 0) (xNil))))) (xNil))))) [⟨["Fault"], some 3, fun c fs => sRet (xTup (xCons (xFld fs "why") (xCons (xFld fs "found") (xNil))))⟩, ⟨["Barred", "InnerError", "Missing"], none, fun c fs => sRet (xTup (xCons (xC (.str "another")) (xCons (xC .non) (xNil))))⟩]
noncomputable def f__law_found : Fn := callF 4 x__law_found
noncomputable def x__law_same : XS := sSeq (sIf (xTest (xBin oNe (xBin (oIx2 gt) (xVar 1) (xC (.int 0))) (xC (.str "told")))) (sRet (xBin oEq (xCallN oRepr (xCons (xVar 0) (xNil))) (xCallN oRepr (xCons (xVar 1) (xNil))))) (sNil)) (sRet (xAndV (xBin oEq (xBin (oIx2 gt) (xVar 0) (xC (.int 0))) (xC (.str "told"))) (xBin oEq (xCallN oRepr (xCons (xUn oItems (xBin (oIx2 gt) (xVar 0) (xC (.int 1)))) (xNil))) (xCallN oRepr (xCons (xUn oItems (xBin (oIx2 gt) (xVar 1) (xC (.int 1)))) (xNil))))))
noncomputable def f__law_same : Fn := callF 2 x__law_same
noncomputable def x__law_right : XS := sSeq (sAsgE [.name 3, .name 4] (xCall 3 f__law_call (xCons (xVar 0) (xCons (xVar 1) (xCons (xVar 2) (xNil)))))) (sSeq (sSet 5 (xCall 3 f__law_due (xCons (xVar 1) (xCons (xVar 3) (xCons (xVar 4) (xNil)))))) (sSeq (sSet 6 (xLst (xCons (xCallN oListD (xCons (xVar 3) (xNil))) (xCons (xCallN oDictOf (xCons (xVar 4) (xNil))) (xNil))))) (sSeq (sSet 7 (xCall 3 f__law_found (xCons (xVar 1) (xCons (xBin (oIx2 gt) (xVar 6) (xC (.int 0))) (xCons (xBin (oIx2 gt) (xVar 6) (xC (.int 1))) (xNil)))))) (sSeq (sIf (xOrT (xNotT (xTru (xCall 2 f__law_same (xCons (xVar 7) (xCons (xVar 5) (xNil)))))) (xTest (xBin oNe (xCallN oRepr (xCons (xVar 6) (xNil))) (xCallN oRepr (xCons (xLst (xCons (xVar 3) (xCons (xVar 4) (xNil)))) (xNil)))))) (sRet (xC (.bl false))) (sNil)) (sSeq (sExpr (xMeth "list" oAppend (xBin (oIx2 gt) (xVar 6) (xC (.int 0))) (xCons (xC (.int 5)) (xNil)))) (sSeq (sSetIx (xBin (oIx2 gt) (xVar 6) (xC (.int 1))) (xC (.str "zzzzzzzz")) (xC (.int 5))) (sSeq (sIf (xNotT (xTru (xCall 2 f__law_same (xCons (xVar 7) (xCons (xVar 5) (xNil)))))) (sRet (xC (.bl false))) (sNil)) (sSeq (sIf (xTest (xBin oEq (xBin (oIx2 gt) (xVar 7) (xC (.int 0))) (xC (.str "told")))) (sExpr (xUn oClear (xBin (oIx2 gt) (xVar 7) (xC (.int 1))))) (sNil)) (sRet (xAndV (xCall 2 f__law_same (xCons (xCall 3 f__law_found (xCons (xVar 1) (xCons (xCallN oTuple (xCons (xVar 3) (xNil))) (xCons (xVar 4) (xNil))))) (xCons (xVar 5) (xNil)))) (xCall 2 f__law_same (xCons (xCall 3 f__law_found (xCons (xVar 1) (xCons (xVar 3) (xCons (xVar 4) (xNil))))) (xCons (xVar 5) (xNil))))))))))))))
noncomputable def f__law_right : Fn := callF 8 x__law_right
noncomputable def x_law : XS := sSeq (sFor (xRange1 (xCallN oMaxL (xCons (xC (.int 2)) (xCons (xCallN oMin (xCons (xC (.int 8)) (xCons (xCallN oLenD (xCons (xVar 0) (xNil))) (xNil)))) (xNil))))) (.name 1) (sSeq (sSet 2 (xCall 1 f__law_box (xCons (xCall 2 f__law_cell (xCons (xVar 0) (xCons (xVar 1) (xNil)))) (xNil)))) (sSeq (sSet 3 (xCall 2 f__law_names (xCons (xVar 2) (xCons (xC (.int 7)) (xNil))))) (sSeq (sSet 4 (xCall 3 f__law_params (xCons (xVar 2) (xCons (xSl oSl (xVar 3) none (some (xC (.int 6)))) (xCons (xC (.int 6)) (xNil)))))) (sFor (xRange1 (xC (.int 6))) (.name 5) (sIf (xNotT (xTru (xCall 3 f__law_right (xCons (xVar 2) (xCons (xVar 4) (xCons (xVar 3) (xNil))))))) (sRet (xC (.bl false))) (sNil))))))) (sRet (xC (.bl true)))
noncomputable def f_law : Fn := callF 6 x_law
end K
namespace K
open PySem L2 EX
def top (i : Nat) : Stmt := PySem.Challenge.pw_innerlook_k11_calls_matched.main.body.getD i (.Pass ⟨0, 0, 0, 0⟩)
abbrev s_is_whole : Stmt := top 19
theorem sc_is_whole : FnScope ["thing", "low", "high"] ["thing", "low", "high"] (defScope s_is_whole) := ⟨rfl, rfl, rfl, by decide +kernel, rfl, by decide +kernel, by decide +kernel⟩
abbrev s_is_name : Stmt := top 20
theorem sc_is_name : FnScope ["thing", "sign"] ["thing"] (defScope s_is_name) := ⟨rfl, rfl, rfl, by decide +kernel, rfl, by decide +kernel, by decide +kernel⟩
abbrev s_is_text : Stmt := top 21
theorem sc_is_text : FnScope ["thing", "sign"] ["thing"] (defScope s_is_text) := ⟨rfl, rfl, rfl, by decide +kernel, rfl, by decide +kernel, by decide +kernel⟩
abbrev s_is_number : Stmt := top 22
theorem sc_is_number : FnScope ["thing"] ["thing"] (defScope s_is_number) := ⟨rfl, rfl, rfl, by decide +kernel, rfl, by decide +kernel, by decide +kernel⟩
abbrev s_is_pair : Stmt := top 23
theorem sc_is_pair : FnScope ["thing", "word"] ["thing", "word"] (defScope s_is_pair) := ⟨rfl, rfl, rfl, by decide +kernel, rfl, by decide +kernel, by decide +kernel⟩
abbrev s_is_thing : Stmt := top 24
theorem sc_is_thing : FnScope ["thing"] ["thing"] (defScope s_is_thing) := ⟨rfl, rfl, rfl, by decide +kernel, rfl, by decide +kernel, by decide +kernel⟩
abbrev s_is_worth_within : Stmt := top 25
theorem sc_is_worth_within : FnScope ["thing", "deep", "part"] ["thing", "deep"] (defScope s_is_worth_within) := ⟨rfl, rfl, rfl, by decide +kernel, rfl, by decide +kernel, by decide +kernel⟩
abbrev s_is_worth : Stmt := top 26
theorem sc_is_worth : FnScope ["thing"] ["thing"] (defScope s_is_worth) := ⟨rfl, rfl, rfl, by decide +kernel, rfl, by decide +kernel, by decide +kernel⟩
abbrev s_are_rows : Stmt := top 27
theorem sc_are_rows : FnScope ["thing", "name", "worth"] ["thing"] (defScope s_are_rows) := ⟨rfl, rfl, rfl, by decide +kernel, rfl, by decide +kernel, by decide +kernel⟩
abbrev s_is_list : Stmt := top 35
theorem sc_is_list : FnScope ["thing", "most"] ["thing", "most"] (defScope s_is_list) := ⟨rfl, rfl, rfl, by decide +kernel, rfl, by decide +kernel, by decide +kernel⟩
abbrev s_is_param : Stmt := top 36
theorem sc_is_param : FnScope ["thing"] ["thing"] (defScope s_is_param) := ⟨rfl, rfl, rfl, by decide +kernel, rfl, by decide +kernel, by decide +kernel⟩
abbrev s_is_params : Stmt := top 37
theorem sc_is_params : FnScope ["thing", "steps", "param"] ["thing"] (defScope s_is_params) := ⟨rfl, rfl, rfl, by decide +kernel, rfl, by decide +kernel, by decide +kernel⟩
abbrev s_need_params : Stmt := top 38
theorem sc_need_params : FnScope ["thing"] ["thing"] (defScope s_need_params) := ⟨rfl, rfl, rfl, by decide +kernel, rfl, by decide +kernel, by decide +kernel⟩
abbrev s_with_sorts : Stmt := top 39
theorem sc_with_sorts : FnScope ["params", "sorts", "param"] ["params", "sorts"] (defScope s_with_sorts) := ⟨rfl, rfl, rfl, by decide +kernel, rfl, by decide +kernel, by decide +kernel⟩
abbrev s_placed : Stmt := top 40
theorem sc_placed : FnScope ["params", "args", "names", "found", "left", "rest", "param"] ["params", "args"] (defScope s_placed) := ⟨rfl, rfl, rfl, by decide +kernel, rfl, by decide +kernel, by decide +kernel⟩
abbrev s_matched : Stmt := top 41
theorem sc_matched : FnScope ["params", "args", "named", "found", "free", "name", "worth", "told", "sort", "own", "param"] ["params", "args", "named"] (defScope s_matched) := ⟨rfl, rfl, rfl, by decide +kernel, rfl, by decide +kernel, by decide +kernel⟩
abbrev s__law_cell : Stmt := top 43
theorem sc__law_cell : FnScope ["_law_script", "_law_k"] ["_law_script", "_law_k"] (defScope s__law_cell) := ⟨rfl, rfl, rfl, by decide +kernel, rfl, by decide +kernel, by decide +kernel⟩
abbrev s__law_box : Stmt := top 44
theorem sc__law_box : FnScope ["_law_cell_here"] ["_law_cell_here"] (defScope s__law_box) := ⟨rfl, rfl, rfl, by decide +kernel, rfl, by decide +kernel, by decide +kernel⟩
abbrev s__law_take : Stmt := top 45
theorem sc__law_take : FnScope ["_law_box_here", "_law_many", "_law_digit", "_law_number"] ["_law_box_here", "_law_many"] (defScope s__law_take) := ⟨rfl, rfl, rfl, by decide +kernel, rfl, by decide +kernel, by decide +kernel⟩
abbrev s__law_names : Stmt := top 46
theorem sc__law_names : FnScope ["_law_box_here", "_law_many", "_law_letters", "_law_first", "_law_stem", "_law_at", "_law_found_here", "_law_k", "_law_name"] ["_law_box_here", "_law_many"] (defScope s__law_names) := ⟨rfl, rfl, rfl, by decide +kernel, rfl, by decide +kernel, by decide +kernel⟩
abbrev s__law_writ : Stmt := top 47
theorem sc__law_writ : FnScope ["_law_box_here", "_law_signs", "_law_k"] ["_law_box_here"] (defScope s__law_writ) := ⟨rfl, rfl, rfl, by decide +kernel, rfl, by decide +kernel, by decide +kernel⟩
abbrev s__law_lit : Stmt := top 48
theorem sc__law_lit : FnScope ["_law_box_here", "_law_some"] ["_law_box_here"] (defScope s__law_lit) := ⟨rfl, rfl, rfl, by decide +kernel, rfl, by decide +kernel, by decide +kernel⟩
abbrev s__law_params : Stmt := top 49
theorem sc__law_params : FnScope ["_law_box_here", "_law_names_here", "_law_most", "_law_turn", "_law_steps", "_law_found_here", "_law_k", "_law_step", "_law_sort", "_law_param"] ["_law_box_here", "_law_names_here", "_law_most"] (defScope s__law_params) := ⟨rfl, rfl, rfl, by decide +kernel, rfl, by decide +kernel, by decide +kernel⟩
abbrev s__law_worth : Stmt := top 50
theorem sc__law_worth : FnScope ["_law_box_here", "_law_deep_here", "_law_way", "_law_k"] ["_law_box_here", "_law_deep_here"] (defScope s__law_worth) := ⟨rfl, rfl, rfl, by decide +kernel, rfl, by decide +kernel, by decide +kernel⟩
abbrev s__law_call : Stmt := top 51
theorem sc__law_call : FnScope ["_law_box_here", "_law_prow", "_law_names_here", "_law_places", "_law_many", "_law_given", "_law_wished", "_law_name", "_law_k", "_law_param"] ["_law_box_here", "_law_prow", "_law_names_here"] (defScope s__law_call) := ⟨rfl, rfl, rfl, by decide +kernel, rfl, by decide +kernel, by decide +kernel⟩
abbrev s__law_deep : Stmt := top 52
theorem sc__law_deep : FnScope ["_law_worth_here", "_law_part"] ["_law_worth_here"] (defScope s__law_deep) := ⟨rfl, rfl, rfl, by decide +kernel, rfl, by decide +kernel, by decide +kernel⟩
abbrev s__law_due : Stmt := top 53
theorem sc__law_due : FnScope ["_law_prow", "_law_given", "_law_wished", "_law_places", "_law_rest", "_law_worths", "_law_left", "_law_by_place", "_law_name", "_law_sorts", "_law_told", "_law_param"] ["_law_prow", "_law_given", "_law_wished"] (defScope s__law_due) := ⟨rfl, rfl, rfl, by decide +kernel, rfl, by decide +kernel, by decide +kernel⟩
abbrev s__law_found : Stmt := top 54
theorem sc__law_found : FnScope ["_law_prow", "_law_given", "_law_wished", "e"] ["_law_prow", "_law_given", "_law_wished"] (defScope s__law_found) := ⟨rfl, rfl, rfl, by decide +kernel, rfl, by decide +kernel, by decide +kernel⟩
abbrev s__law_same : Stmt := top 55
theorem sc__law_same : FnScope ["_law_found_here", "_law_due_here"] ["_law_found_here", "_law_due_here"] (defScope s__law_same) := ⟨rfl, rfl, rfl, by decide +kernel, rfl, by decide +kernel, by decide +kernel⟩
abbrev s__law_right : Stmt := top 56
theorem sc__law_right : FnScope ["_law_box_here", "_law_prow", "_law_names_here", "_law_given", "_law_wished", "_law_due_here", "_law_handed", "_law_first"] ["_law_box_here", "_law_prow", "_law_names_here"] (defScope s__law_right) := ⟨rfl, rfl, rfl, by decide +kernel, rfl, by decide +kernel, by decide +kernel⟩
abbrev s_law : Stmt := top 57
theorem sc_law : FnScope ["_law_script", "_law_k", "_law_box_here", "_law_names_here", "_law_prow", "_law_turn"] ["_law_script"] (defScope s_law) := ⟨rfl, rfl, rfl, by decide +kernel, rfl, by decide +kernel, by decide +kernel⟩
abbrev FnP (K : PySem.W.Frag) (x : Str) (st : Stmt) (fd : Str → FuncData) : Prop := FunD K x x (defArgs st) (defBody st) (defScope st) [] [] (He.ga K x) (fd x)
abbrev s_NoParams : Stmt := inClass (top 4) 0
theorem sc_NoParams : FnScope ["self", "found"] ["self", "found"] (defScope s_NoParams) := ⟨rfl, rfl, rfl, by decide +kernel, rfl, by decide +kernel, by decide +kernel⟩
abbrev s_Fault : Stmt := inClass (top 7) 0
theorem sc_Fault : FnScope ["self", "why", "found"] ["self", "why", "found"] (defScope s_Fault) := ⟨rfl, rfl, rfl, by decide +kernel, rfl, by decide +kernel, by decide +kernel⟩
abbrev s_NoList : Stmt := inClass (top 6) 0
theorem sc_NoList : FnScope ["self", "found"] ["self", "found"] (defScope s_NoList) := ⟨rfl, rfl, rfl, by decide +kernel, rfl, by decide +kernel, by decide +kernel⟩
abbrev s_NoRows : Stmt := inClass (top 5) 0
theorem sc_NoRows : FnScope ["self", "found"] ["self", "found"] (defScope s_NoRows) := ⟨rfl, rfl, rfl, by decide +kernel, rfl, by decide +kernel, by decide +kernel⟩
structure Facts (K : PySem.W.Frag) (mg : Str → Option Value) (w : World) (fd : Str → FuncData) : Prop where
  d_is_whole : FnP K "is_whole" s_is_whole fd
  g_is_whole : mg "is_whole" = some (.ref (He.ga K "is_whole"))
  d_is_name : FnP K "is_name" s_is_name fd
  g_is_name : mg "is_name" = some (.ref (He.ga K "is_name"))
  d_is_text : FnP K "is_text" s_is_text fd
  g_is_text : mg "is_text" = some (.ref (He.ga K "is_text"))
  d_is_number : FnP K "is_number" s_is_number fd
  g_is_number : mg "is_number" = some (.ref (He.ga K "is_number"))
  d_is_pair : FnP K "is_pair" s_is_pair fd
  g_is_pair : mg "is_pair" = some (.ref (He.ga K "is_pair"))
  d_is_thing : FnP K "is_thing" s_is_thing fd
  g_is_thing : mg "is_thing" = some (.ref (He.ga K "is_thing"))
  d_is_worth_within : FnP K "is_worth_within" s_is_worth_within fd
  g_is_worth_within : mg "is_worth_within" = some (.ref (He.ga K "is_worth_within"))
  d_is_worth : FnP K "is_worth" s_is_worth fd
  g_is_worth : mg "is_worth" = some (.ref (He.ga K "is_worth"))
  d_are_rows : FnP K "are_rows" s_are_rows fd
  g_are_rows : mg "are_rows" = some (.ref (He.ga K "are_rows"))
  d_is_list : FnP K "is_list" s_is_list fd
  g_is_list : mg "is_list" = some (.ref (He.ga K "is_list"))
  d_is_param : FnP K "is_param" s_is_param fd
  g_is_param : mg "is_param" = some (.ref (He.ga K "is_param"))
  d_is_params : FnP K "is_params" s_is_params fd
  g_is_params : mg "is_params" = some (.ref (He.ga K "is_params"))
  d_need_params : FnP K "need_params" s_need_params fd
  g_need_params : mg "need_params" = some (.ref (He.ga K "need_params"))
  d_with_sorts : FnP K "with_sorts" s_with_sorts fd
  g_with_sorts : mg "with_sorts" = some (.ref (He.ga K "with_sorts"))
  d_placed : FnP K "placed" s_placed fd
  g_placed : mg "placed" = some (.ref (He.ga K "placed"))
  d_matched : FnP K "matched" s_matched fd
  g_matched : mg "matched" = some (.ref (He.ga K "matched"))
  d__law_cell : FnP K "_law_cell" s__law_cell fd
  g__law_cell : mg "_law_cell" = some (.ref (He.ga K "_law_cell"))
  d__law_box : FnP K "_law_box" s__law_box fd
  g__law_box : mg "_law_box" = some (.ref (He.ga K "_law_box"))
  d__law_take : FnP K "_law_take" s__law_take fd
  g__law_take : mg "_law_take" = some (.ref (He.ga K "_law_take"))
  d__law_names : FnP K "_law_names" s__law_names fd
  g__law_names : mg "_law_names" = some (.ref (He.ga K "_law_names"))
  d__law_writ : FnP K "_law_writ" s__law_writ fd
  g__law_writ : mg "_law_writ" = some (.ref (He.ga K "_law_writ"))
  d__law_lit : FnP K "_law_lit" s__law_lit fd
  g__law_lit : mg "_law_lit" = some (.ref (He.ga K "_law_lit"))
  d__law_params : FnP K "_law_params" s__law_params fd
  g__law_params : mg "_law_params" = some (.ref (He.ga K "_law_params"))
  d__law_worth : FnP K "_law_worth" s__law_worth fd
  g__law_worth : mg "_law_worth" = some (.ref (He.ga K "_law_worth"))
  d__law_call : FnP K "_law_call" s__law_call fd
  g__law_call : mg "_law_call" = some (.ref (He.ga K "_law_call"))
  d__law_deep : FnP K "_law_deep" s__law_deep fd
  g__law_deep : mg "_law_deep" = some (.ref (He.ga K "_law_deep"))
  d__law_due : FnP K "_law_due" s__law_due fd
  g__law_due : mg "_law_due" = some (.ref (He.ga K "_law_due"))
  d__law_found : FnP K "_law_found" s__law_found fd
  g__law_found : mg "_law_found" = some (.ref (He.ga K "_law_found"))
  d__law_same : FnP K "_law_same" s__law_same fd
  g__law_same : mg "_law_same" = some (.ref (He.ga K "_law_same"))
  d__law_right : FnP K "_law_right" s__law_right fd
  g__law_right : mg "_law_right" = some (.ref (He.ga K "_law_right"))
  d_law : FnP K "law" s_law fd
  g_law : mg "law" = some (.ref (He.ga K "law"))
  n_all : mg "all" = none
  n_bool : mg "bool" = none
  n_dict : mg "dict" = none
  n_enumerate : mg "enumerate" = none
  n_int : mg "int" = none
  n_isinstance : mg "isinstance" = none
  n_len : mg "len" = none
  n_list : mg "list" = none
  n_max : mg "max" = none
  n_min : mg "min" = none
  n_ord : mg "ord" = none
  n_range : mg "range" = none
  n_repr : mg "repr" = none
  n_sorted : mg "sorted" = none
  n_str : mg "str" = none
  n_tuple : mg "tuple" = none
  n_zip : mg "zip" = none
  c_LETTERS : ∃ t, mg "LETTERS" = some (.str "abcdefghijklmnopqrstuvwxyz" t)
  c_MOST_ARGS : ∃ t, mg "MOST_ARGS" = some (.int 20 t)
  c_MOST_DEEP : ∃ t, mg "MOST_DEEP" = some (.int 4 t)
  c_MOST_NAME : ∃ t, mg "MOST_NAME" = some (.int 8 t)
  c_MOST_NUMBER : ∃ t, mg "MOST_NUMBER" = some (.int 1000000000 t)
  c_MOST_PARAMS : ∃ t, mg "MOST_PARAMS" = some (.int 6 t)
  c_MOST_PARTS : ∃ t, mg "MOST_PARTS" = some (.int 30 t)
  c_MOST_SIGNS : ∃ t, mg "MOST_SIGNS" = some (.int 60 t)
  c_MOST_THING : ∃ t, mg "MOST_THING" = some (.int 999 t)
  c_NO_NAMES : KTup K mg "NO_NAMES" (k_NO_NAMES.map flatV2)
  c_OWN : KTup K mg "OWN" (k_OWN.map flatV2)
  c_PER_CENT : ∃ t, mg "PER_CENT" = some (.int 37 t)
  c_PLACED : KTup K mg "PLACED" (k_PLACED.map flatV2)
  c_QUOTE : ∃ t, mg "QUOTE" = some (.int 39 t)
  t_STEPS : GTb K mg w "STEPS" t_STEPS
  c_WANTED : KTup K mg "WANTED" (k_WANTED.map flatV2)
  sm : SmIn K
  gt : GtOk K mg w _root_.K.gt
  ct : CtOk K mg _root_.K.ct ["Fault", "Barred", "InnerError", "Missing"] ["found", "why"]
  x_NoParams : ClsF K "NoParams" ["found"]
  i_NoParams : FunD K "__init__" "NoParams.__init__" (defArgs s_NoParams) (defBody s_NoParams) (defScope s_NoParams) [] [] (He.ma K (He.ga K "NoParams") "__init__") (fd "NoParams.__init__")
  x_Fault : ClsG bLook K "Fault" ["why", "found"]
  i_Fault : FunD K "__init__" "Fault.__init__" (defArgs s_Fault) (defBody s_Fault) (defScope s_Fault) [] [] (He.ma K (He.ga K "Fault") "__init__") (fd "Fault.__init__")
  x_NoList : ClsF K "NoList" ["found"]
  i_NoList : FunD K "__init__" "NoList.__init__" (defArgs s_NoList) (defBody s_NoList) (defScope s_NoList) [] [] (He.ma K (He.ga K "NoList") "__init__") (fd "NoList.__init__")
  x_NoRows : ClsF K "NoRows" ["found"]
  i_NoRows : FunD K "__init__" "NoRows.__init__" (defArgs s_NoRows) (defBody s_NoRows) (defScope s_NoRows) [] [] (He.ma K (He.ga K "NoRows") "__init__") (fd "NoRows.__init__")
  bs_Barred : BaseG bLook K (He.ga K "Barred")
  bs_InnerError : BaseI K (He.ga K "InnerError")
  g_Barred : mg "Barred" = some (.ref (He.ga K "Barred"))
  g_Fault : mg "Fault" = some (.ref (He.ga K "Fault"))
  g_InnerError : mg "InnerError" = some (.ref (He.ga K "InnerError"))
  g_Missing : mg "Missing" = some (.ref (He.ga K "Missing"))
  g_NoList : mg "NoList" = some (.ref (He.ga K "NoList"))
  g_NoParams : mg "NoParams" = some (.ref (He.ga K "NoParams"))
  g_NoRows : mg "NoRows" = some (.ref (He.ga K "NoRows"))
section
variable {P : Program} {w : World} {K : PySem.W.Frag} {mg : Str → Option Value} {base : Heap} {fd : Str → FuncData}
theorem bi_NoParams (T : Facts K mg w fd) : Binds K (fd "NoParams.__init__") ["self", "found"] [] := T.i_NoParams.bindsN fun _ _ _ _ _ _ us hl => match us, hl with | [_, _], _ => rfl
theorem ini_NoParams (T : Facts K mg w fd) : FnOk P w K mg base (L2.CX P w) 1 (He.ma K (He.ga K "NoParams") "__init__") (fd "NoParams.__init__") ["self", "found"] (spI K ["found"]) :=
  init1 T.i_NoParams sc_NoParams rfl rfl rfl T.g_InnerError T.bs_InnerError (by decide) (by decide) (by decide) (fun _ => ⟨_, rfl⟩)
theorem bi_Fault (T : Facts K mg w fd) : Binds K (fd "Fault.__init__") ["self", "why", "found"] [] := T.i_Fault.bindsN fun _ _ _ _ _ _ us hl => match us, hl with | [_, _, _], _ => rfl
theorem ini_Fault (T : Facts K mg w fd) : FnOk P w K mg base (L2.CX P w) 1 (He.ma K (He.ga K "Fault") "__init__") (fd "Fault.__init__") ["self", "why", "found"] (spG bLook K ["why", "found"]) :=
  initG2 look_ok T.i_Fault sc_Fault rfl rfl rfl rfl T.g_Barred T.bs_Barred (by decide) (by decide) (by decide) (by decide) (by decide) (fun _ => ⟨_, rfl⟩)
theorem bi_NoList (T : Facts K mg w fd) : Binds K (fd "NoList.__init__") ["self", "found"] [] := T.i_NoList.bindsN fun _ _ _ _ _ _ us hl => match us, hl with | [_, _], _ => rfl
theorem ini_NoList (T : Facts K mg w fd) : FnOk P w K mg base (L2.CX P w) 1 (He.ma K (He.ga K "NoList") "__init__") (fd "NoList.__init__") ["self", "found"] (spI K ["found"]) :=
  init1 T.i_NoList sc_NoList rfl rfl rfl T.g_InnerError T.bs_InnerError (by decide) (by decide) (by decide) (fun _ => ⟨_, rfl⟩)
theorem bi_NoRows (T : Facts K mg w fd) : Binds K (fd "NoRows.__init__") ["self", "found"] [] := T.i_NoRows.bindsN fun _ _ _ _ _ _ us hl => match us, hl with | [_, _], _ => rfl
theorem ini_NoRows (T : Facts K mg w fd) : FnOk P w K mg base (L2.CX P w) 1 (He.ma K (He.ga K "NoRows") "__init__") (fd "NoRows.__init__") ["self", "found"] (spI K ["found"]) :=
  init1 T.i_NoRows sc_NoRows rfl rfl rfl T.g_InnerError T.bs_InnerError (by decide) (by decide) (by decide) (fun _ => ⟨_, rfl⟩)
theorem bk_matched_named_args_params (T : Facts K mg w fd) : ∀ (s : Shared) (us : List Value), us.length = 3 → ∃ zs, List.mapM (m := Option) (fun i => us[i]?) [2, 1, 0] = some zs ∧ BindsTo s (fd "matched") ⟨[], List.zip ["named", "args", "params"] us⟩ (List.zip ["params", "args", "named"] zs) := bindsK (ks := ["named", "args", "params"]) (ps := ["params", "args", "named"]) T.d_matched fun _ _ _ _ _ _ us hl => match us, hl with | [u0, u1, u2], _ => ⟨_, rfl, rfl⟩
theorem b_is_whole (T : Facts K mg w fd) : Binds K (fd "is_whole") ["thing", "low", "high"] [] := T.d_is_whole.bindsN fun _ _ _ _ _ _ us hl => match us, hl with | [_, _, _], _ => rfl
theorem ok_is_whole (T : Facts K mg w fd) : FnG P w K mg base 1 (He.ga K "is_whole") (fd "is_whole") ["thing", "low", "high"] (spX ⟨K, mg, w⟩ 3 f_is_whole) :=
  fn_x (k := 0) T.d_is_whole sc_is_whole fun cdv A outer s H E hr hgd => by
    have tk := takes_of (X := cxOf (L2.CX P w) P w K mg base ["thing", "low", "high"] "is_whole" (defScope s_is_whole) (He.ga K "is_whole") cdv A outer s H E) (E := E) rfl rfl rfl rfl
    have hpo := passes_of (X := cxOf (L2.CX P w) P w K mg base ["thing", "low", "high"] "is_whole" (defScope s_is_whole) (He.ga K "is_whole") cdv A outer s H E) rfl
    have hu1 := hu_of hr; have hu64 := hr.units; have hu70 := un70 hr
    exact (qss_one (qs_ret (q_and (q_callB call_isi_x rfl T.n_isinstance bt_isinstance (qa_cons (q_var 0 (pv 0)) (qa_cons (q_ty rfl T.n_int bt_int) qa_nil))) (q_and (q_not (q_callB call_isi_x rfl T.n_isinstance bt_isinstance (qa_cons (q_var 0 (pv 0)) (qa_cons (q_ty rfl T.n_bool bt_bool) qa_nil)))) (q_one (q_chain op_le_x op_le_x (q_var 1 (pv 1)) (q_var 0 (pv 0)) (q_var 2 (pv 2))))))))
theorem b_is_name (T : Facts K mg w fd) : Binds K (fd "is_name") ["thing"] [] := T.d_is_name.bindsN fun _ _ _ _ _ _ us hl => match us, hl with | [_], _ => rfl
theorem ok_is_name (T : Facts K mg w fd) : FnG P w K mg base 1 (He.ga K "is_name") (fd "is_name") ["thing"] (spX ⟨K, mg, w⟩ 1 f_is_name) :=
  fn_x (k := 0) T.d_is_name sc_is_name fun cdv A outer s H E hr hgd => by
    have tk := takes_of (X := cxOf (L2.CX P w) P w K mg base ["thing", "sign"] "is_name" (defScope s_is_name) (He.ga K "is_name") cdv A outer s H E) (E := E) rfl rfl rfl rfl
    have hpo := passes_of (X := cxOf (L2.CX P w) P w K mg base ["thing", "sign"] "is_name" (defScope s_is_name) (He.ga K "is_name") cdv A outer s H E) rfl
    have hu1 := hu_of hr; have hu64 := hr.units; have hu70 := un70 hr
    exact (qss_cons (qs_if (PW.pt (qw_or (qt_not (qt_tru (q_callB call_isi_x rfl T.n_isinstance bt_isinstance (qa_cons (q_var 0 (pv 0)) (qa_cons (q_ty rfl T.n_str bt_str) qa_nil))))) (qw_or (qt_not (qt_chain op_le_x op_le_x q_int (q_callB call_lenD_x rfl T.n_len bt_len (qa_cons (q_var 0 (pv 0)) qa_nil)) (q_gint T.c_MOST_NAME rfl))) (qw_or1 (qt_cmp (op_in2_x T.gt hu64) (q_var 0 (pv 0)) (q_gtup (xs := k_NO_NAMES) T.c_NO_NAMES rfl) (by rfl)))))) (qss_one (qs_ret q_bl)) qss_nil) (qss_one (qs_ret (q_callB (call_all_x rfl) rfl T.n_all bt_all (qa_cons (q_lc (own := [("sign", 1)]) rfl sc_is_name.nd (qi_any (q_var 0 (pv 0))) (blkOk_by (N := ["thing", "sign"]) (sc := defScope s_is_name) (by decide +kernel)) (fun _ _ _ _ _ => (qg_name 1 sc_is_name.nd rfl (Or.inl rfl))) (fun _ _ _ _ _ => qts_nil) (fun _ _ _ _ _ => (q_cmp (op_in2_x T.gt hu64) (q_var 1 (pv 1)) (q_gstr T.c_LETTERS rfl) (by rfl)))) qa_nil)))))
theorem b_is_text (T : Facts K mg w fd) : Binds K (fd "is_text") ["thing"] [] := T.d_is_text.bindsN fun _ _ _ _ _ _ us hl => match us, hl with | [_], _ => rfl
theorem ok_is_text (T : Facts K mg w fd) : FnG P w K mg base 1 (He.ga K "is_text") (fd "is_text") ["thing"] (spX ⟨K, mg, w⟩ 1 f_is_text) :=
  fn_x (k := 0) T.d_is_text sc_is_text fun cdv A outer s H E hr hgd => by
    have tk := takes_of (X := cxOf (L2.CX P w) P w K mg base ["thing", "sign"] "is_text" (defScope s_is_text) (He.ga K "is_text") cdv A outer s H E) (E := E) rfl rfl rfl rfl
    have hpo := passes_of (X := cxOf (L2.CX P w) P w K mg base ["thing", "sign"] "is_text" (defScope s_is_text) (He.ga K "is_text") cdv A outer s H E) rfl
    have hu1 := hu_of hr; have hu64 := hr.units; have hu70 := un70 hr
    exact (qss_cons (qs_if (PW.pt (qw_or (qt_not (qt_tru (q_callB call_isi_x rfl T.n_isinstance bt_isinstance (qa_cons (q_var 0 (pv 0)) (qa_cons (q_ty rfl T.n_str bt_str) qa_nil))))) (qw_or1 (qt_cmp op_gt_x (q_callB call_lenD_x rfl T.n_len bt_len (qa_cons (q_var 0 (pv 0)) qa_nil)) (q_gint T.c_MOST_SIGNS rfl) (nomark _))))) (qss_one (qs_ret q_bl)) qss_nil) (qss_one (qs_ret (q_callB (call_all_x rfl) rfl T.n_all bt_all (qa_cons (q_lc (own := [("sign", 1)]) rfl sc_is_text.nd (qi_any (q_var 0 (pv 0))) (blkOk_by (N := ["thing", "sign"]) (sc := defScope s_is_text) (by decide +kernel)) (fun _ _ _ _ _ => (qg_name 1 sc_is_text.nd rfl (Or.inl rfl))) (fun _ _ _ _ _ => qts_nil) (fun _ _ _ _ _ => (q_and (q_chain op_le_x op_le_x q_str (q_var 1 (pv 1)) q_str) (q_one (q_cmp (op_notIn2_x T.gt hu64) (q_callB call_ord_x rfl T.n_ord bt_ord (qa_cons (q_var 1 (pv 1)) qa_nil)) (q_tup (qa_cons (q_gint T.c_PER_CENT rfl) (qa_cons (q_gint T.c_QUOTE rfl) qa_nil))) (by rfl)))))) qa_nil)))))
theorem b_is_number (T : Facts K mg w fd) : Binds K (fd "is_number") ["thing"] [] := T.d_is_number.bindsN fun _ _ _ _ _ _ us hl => match us, hl with | [_], _ => rfl
theorem ok_is_number (T : Facts K mg w fd) : FnG P w K mg base 2 (He.ga K "is_number") (fd "is_number") ["thing"] (spX ⟨K, mg, w⟩ 1 f_is_number) :=
  fn_x (k := 1) T.d_is_number sc_is_number fun cdv A outer s H E hr hgd => by
    have tk := takes_of (X := cxOf (L2.CX P w) P w K mg base ["thing"] "is_number" (defScope s_is_number) (He.ga K "is_number") cdv A outer s H E) (E := E) rfl rfl rfl rfl
    have hpo := passes_of (X := cxOf (L2.CX P w) P w K mg base ["thing"] "is_number" (defScope s_is_number) (He.ga K "is_number") cdv A outer s H E) rfl
    have hu1 := hu_of hr; have hu64 := hr.units; have hu70 := un70 hr
    exact (qss_one (qs_ret (q_call ((ok_is_whole T).mono (by decide)) hr hgd rfl T.g_is_whole T.d_is_whole.kp (b_is_whole T) tk (qa_cons (q_var 0 (pv 0)) (qa_cons (q_un un_neg_x (q_gint T.c_MOST_NUMBER rfl)) (qa_cons (q_gint T.c_MOST_NUMBER rfl) qa_nil))))))
theorem b_is_pair (T : Facts K mg w fd) : Binds K (fd "is_pair") ["thing", "word"] [] := T.d_is_pair.bindsN fun _ _ _ _ _ _ us hl => match us, hl with | [_, _], _ => rfl
theorem ok_is_pair (T : Facts K mg w fd) : FnG P w K mg base 1 (He.ga K "is_pair") (fd "is_pair") ["thing", "word"] (spX ⟨K, mg, w⟩ 2 f_is_pair) :=
  fn_x (k := 0) T.d_is_pair sc_is_pair fun cdv A outer s H E hr hgd => by
    have tk := takes_of (X := cxOf (L2.CX P w) P w K mg base ["thing", "word"] "is_pair" (defScope s_is_pair) (He.ga K "is_pair") cdv A outer s H E) (E := E) rfl rfl rfl rfl
    have hpo := passes_of (X := cxOf (L2.CX P w) P w K mg base ["thing", "word"] "is_pair" (defScope s_is_pair) (He.ga K "is_pair") cdv A outer s H E) rfl
    have hu1 := hu_of hr; have hu64 := hr.units; have hu70 := un70 hr
    exact (qss_one (qs_ret (q_and (q_callB call_isi_x rfl T.n_isinstance bt_isinstance (qa_cons (q_var 0 (pv 0)) (qa_cons (q_ty rfl T.n_tuple bt_tuple) qa_nil))) (q_and (q_cmp (op_eq_x hu64) (q_callB call_lenD_x rfl T.n_len bt_len (qa_cons (q_var 0 (pv 0)) qa_nil)) q_int (nomark _)) (q_and (q_callB call_isi_x rfl T.n_isinstance bt_isinstance (qa_cons (q_ix (ix2_x T.gt hu64) (q_var 0 (pv 0)) q_int (fun _ _ => rfl)) (qa_cons (q_ty rfl T.n_str bt_str) qa_nil))) (q_one (q_cmp (op_eq_x hu64) (q_ix (ix2_x T.gt hu64) (q_var 0 (pv 0)) q_int (fun _ _ => rfl)) (q_var 1 (pv 1)) (nomark _))))))))
theorem b_is_thing (T : Facts K mg w fd) : Binds K (fd "is_thing") ["thing"] [] := T.d_is_thing.bindsN fun _ _ _ _ _ _ us hl => match us, hl with | [_], _ => rfl
theorem ok_is_thing (T : Facts K mg w fd) : FnG P w K mg base 2 (He.ga K "is_thing") (fd "is_thing") ["thing"] (spX ⟨K, mg, w⟩ 1 f_is_thing) :=
  fn_x (k := 1) T.d_is_thing sc_is_thing fun cdv A outer s H E hr hgd => by
    have tk := takes_of (X := cxOf (L2.CX P w) P w K mg base ["thing"] "is_thing" (defScope s_is_thing) (He.ga K "is_thing") cdv A outer s H E) (E := E) rfl rfl rfl rfl
    have hpo := passes_of (X := cxOf (L2.CX P w) P w K mg base ["thing"] "is_thing" (defScope s_is_thing) (He.ga K "is_thing") cdv A outer s H E) rfl
    have hu1 := hu_of hr; have hu64 := hr.units; have hu70 := un70 hr
    exact (qss_one (qs_ret (q_and (q_call ((ok_is_pair T).mono (by decide)) hr hgd rfl T.g_is_pair T.d_is_pair.kp (b_is_pair T) tk (qa_cons (q_var 0 (pv 0)) (qa_cons q_str qa_nil))) (q_one (q_call ((ok_is_whole T).mono (by decide)) hr hgd rfl T.g_is_whole T.d_is_whole.kp (b_is_whole T) tk (qa_cons (q_ix (ix2_x T.gt hu64) (q_var 0 (pv 0)) q_int (fun _ _ => rfl)) (qa_cons q_int (qa_cons (q_gint T.c_MOST_THING rfl) qa_nil))))))))
theorem b_is_worth_within (T : Facts K mg w fd) : Binds K (fd "is_worth_within") ["thing", "deep"] [] := T.d_is_worth_within.bindsN fun _ _ _ _ _ _ us hl => match us, hl with | [_, _], _ => rfl
theorem ok_is_worth_within (T : Facts K mg w fd) : ∀ {n : Nat}, FnG P w K mg base (2 + 1 + n) (He.ga K "is_worth_within") (fd "is_worth_within") ["thing", "deep"] (spX ⟨K, mg, w⟩ 2 (f_is_worth_within n))
  | 0 => ⟨fun _ _ _ _ ⟨_, _, _, _, r, hl, _⟩ => by rw [← r.length, hl]; rfl, fun _ _ _ _ _ _ _ _ _ _ _ _ _ _ ⟨_, _, _, _, _, _, z⟩ => z.elim⟩
  | n + 1 => fn_x (k := 2 + 1 + n) T.d_is_worth_within sc_is_worth_within fun cdv A outer s H E hr hgd => by
    have hself := ok_is_worth_within T (n := n)
    have tk := takes_of (X := cxOf (L2.CX P w) P w K mg base ["thing", "deep", "part"] "is_worth_within" (defScope s_is_worth_within) (He.ga K "is_worth_within") cdv A outer s H E) (E := E) rfl rfl rfl rfl
    have hpo := passes_of (X := cxOf (L2.CX P w) P w K mg base ["thing", "deep", "part"] "is_worth_within" (defScope s_is_worth_within) (He.ga K "is_worth_within") cdv A outer s H E) rfl
    have hu1 := hu_of hr; have hu64 := hr.units; have hu70 := un70 hr
    exact (qss_cons (qs_if (PW.pt (qw_or (qt_cmp op_is_x (q_var 0 (pv 0)) q_non (nomark _)) (qw_or (qt_tru (q_call ((ok_is_number T).mono (by omega)) hr hgd rfl T.g_is_number T.d_is_number.kp (b_is_number T) tk (qa_cons (q_var 0 (pv 0)) qa_nil))) (qw_or (qt_tru (q_call ((ok_is_text T).mono (by omega)) hr hgd rfl T.g_is_text T.d_is_text.kp (b_is_text T) tk (qa_cons (q_var 0 (pv 0)) qa_nil))) (qw_or1 (qt_tru (q_call ((ok_is_thing T).mono (by omega)) hr hgd rfl T.g_is_thing T.d_is_thing.kp (b_is_thing T) tk (qa_cons (q_var 0 (pv 0)) qa_nil)))))))) (qss_one (qs_ret q_bl)) qss_nil) (qss_cons (qs_if (PW.pt (qw_or (qt_cmp (op_eq_x hu64) (q_var 1 (pv 1)) q_int (nomark _)) (qw_or (qt_not (qt_tru (q_call ((ok_is_pair T).mono (by omega)) hr hgd rfl T.g_is_pair T.d_is_pair.kp (b_is_pair T) tk (qa_cons (q_var 0 (pv 0)) (qa_cons q_str qa_nil))))) (qw_or (qt_not (qt_tru (q_callB call_isi_x rfl T.n_isinstance bt_isinstance (qa_cons (q_ix (ix2_x T.gt hu64) (q_var 0 (pv 0)) q_int (fun _ _ => rfl)) (qa_cons (q_ty rfl T.n_tuple bt_tuple) qa_nil))))) (qw_or1 (qt_cmp op_gt_x (q_callB call_lenD_x rfl T.n_len bt_len (qa_cons (q_ix (ix2_x T.gt hu64) (q_var 0 (pv 0)) q_int (fun _ _ => rfl)) qa_nil)) (q_gint T.c_MOST_PARTS rfl) (nomark _))))))) (qss_one (qs_ret q_bl)) qss_nil) (qss_one (qs_ret (q_callB (call_all_x rfl) rfl T.n_all bt_all (qa_cons (q_lc (own := [("part", 2)]) rfl sc_is_worth_within.nd (qi_any (q_ix (ix2_x T.gt hu64) (q_var 0 (pv 0)) q_int (fun _ _ => rfl))) (blkOk_by (N := ["thing", "deep", "part"]) (sc := defScope s_is_worth_within) (by decide +kernel)) (fun _ _ _ _ _ => (qg_name 2 sc_is_worth_within.nd rfl (Or.inl rfl))) (fun _ _ _ _ _ => qts_nil) (fun _ _ _ _ _ => (q_call hself hr hgd rfl T.g_is_worth_within T.d_is_worth_within.kp (b_is_worth_within T) takes0 (qa_cons (q_var 2 (pv 2)) (qa_cons (q_op op_sub_x (q_var 1 (pv 1)) q_int) qa_nil))))) qa_nil))))))
theorem b_is_worth (T : Facts K mg w fd) : Binds K (fd "is_worth") ["thing"] [] := T.d_is_worth.bindsN fun _ _ _ _ _ _ us hl => match us, hl with | [_], _ => rfl
theorem ok_is_worth (T : Facts K mg w fd) : FnG P w K mg base 16 (He.ga K "is_worth") (fd "is_worth") ["thing"] (spX ⟨K, mg, w⟩ 1 f_is_worth) :=
  fn_x (k := 15) T.d_is_worth sc_is_worth fun cdv A outer s H E hr hgd => by
    have tk := takes_of (X := cxOf (L2.CX P w) P w K mg base ["thing"] "is_worth" (defScope s_is_worth) (He.ga K "is_worth") cdv A outer s H E) (E := E) rfl rfl rfl rfl
    have hpo := passes_of (X := cxOf (L2.CX P w) P w K mg base ["thing"] "is_worth" (defScope s_is_worth) (He.ga K "is_worth") cdv A outer s H E) rfl
    have hu1 := hu_of hr; have hu64 := hr.units; have hu70 := un70 hr
    exact (qss_one (qs_ret (q_call ((ok_is_worth_within T (n := 12)).mono (by decide)) hr hgd rfl T.g_is_worth_within T.d_is_worth_within.kp (b_is_worth_within T) tk (qa_cons (q_var 0 (pv 0)) (qa_cons (q_gint T.c_MOST_DEEP rfl) qa_nil)))))
theorem b_are_rows (T : Facts K mg w fd) : Binds K (fd "are_rows") ["thing"] [] := T.d_are_rows.bindsN fun _ _ _ _ _ _ us hl => match us, hl with | [_], _ => rfl
theorem ok_are_rows (T : Facts K mg w fd) : FnG P w K mg base 17 (He.ga K "are_rows") (fd "are_rows") ["thing"] (spX ⟨K, mg, w⟩ 1 f_are_rows) :=
  fn_x (k := 16) T.d_are_rows sc_are_rows fun cdv A outer s H E hr hgd => by
    have tk := takes_of (X := cxOf (L2.CX P w) P w K mg base ["thing", "name", "worth"] "are_rows" (defScope s_are_rows) (He.ga K "are_rows") cdv A outer s H E) (E := E) rfl rfl rfl rfl
    have hpo := passes_of (X := cxOf (L2.CX P w) P w K mg base ["thing", "name", "worth"] "are_rows" (defScope s_are_rows) (He.ga K "are_rows") cdv A outer s H E) rfl
    have hu1 := hu_of hr; have hu64 := hr.units; have hu70 := un70 hr
    exact (qss_cons (qs_if (PW.pt (qw_or (qt_not (qt_tru (q_callB call_isi_x rfl T.n_isinstance bt_isinstance (qa_cons (q_var 0 (pv 0)) (qa_cons (q_ty rfl T.n_dict bt_dict) qa_nil))))) (qw_or1 (qt_cmp op_gt_x (q_callB call_lenD_x rfl T.n_len bt_len (qa_cons (q_var 0 (pv 0)) qa_nil)) (q_gint T.c_MOST_PARTS rfl) (nomark _))))) (qss_one (qs_ret q_bl)) qss_nil) (qss_one (qs_ret (q_callB (call_all_x rfl) rfl T.n_all bt_all (qa_cons (q_lockE 0 tk (fun w_ tk => (q_lc (own := [("name", 1), ("worth", 2)]) rfl sc_are_rows.nd (qi_items 0 (pv 0)) (blkOk_by (N := ["thing", "name", "worth"]) (sc := defScope s_are_rows) (by decide +kernel)) (fun _ _ _ _ _ => (qg_tup rfl (qgs_cons (qg_name 1 sc_are_rows.nd rfl (Or.inl rfl)) (qgs_cons (qg_name 2 sc_are_rows.nd rfl (Or.inl rfl)) qgs_nil)))) (fun _ _ _ _ _ => qts_nil) (fun _ _ _ _ _ => (q_and (q_call ((ok_is_name T).mono (by decide)) hr hgd rfl T.g_is_name T.d_is_name.kp (b_is_name T) takes0 (qa_cons (q_var 1 (pv 1)) qa_nil)) (q_one (q_call ((ok_is_worth T).mono (by decide)) hr hgd rfl T.g_is_worth T.d_is_worth.kp (b_is_worth T) takes0 (qa_cons (q_var 2 (pv 2)) qa_nil)))))))) qa_nil)))))
theorem b_is_list (T : Facts K mg w fd) : Binds K (fd "is_list") ["thing", "most"] [] := T.d_is_list.bindsN fun _ _ _ _ _ _ us hl => match us, hl with | [_, _], _ => rfl
theorem ok_is_list (T : Facts K mg w fd) : FnG P w K mg base 1 (He.ga K "is_list") (fd "is_list") ["thing", "most"] (spX ⟨K, mg, w⟩ 2 f_is_list) :=
  fn_x (k := 0) T.d_is_list sc_is_list fun cdv A outer s H E hr hgd => by
    have tk := takes_of (X := cxOf (L2.CX P w) P w K mg base ["thing", "most"] "is_list" (defScope s_is_list) (He.ga K "is_list") cdv A outer s H E) (E := E) rfl rfl rfl rfl
    have hpo := passes_of (X := cxOf (L2.CX P w) P w K mg base ["thing", "most"] "is_list" (defScope s_is_list) (He.ga K "is_list") cdv A outer s H E) rfl
    have hu1 := hu_of hr; have hu64 := hr.units; have hu70 := un70 hr
    exact (qss_one (qs_ret (q_and (q_isiT rfl T.n_isinstance (q_var 0 (pv 0)) (pe_bltn (v := .ty "list") rfl T.n_list bt_list rfl (by decide) (by decide)) (pe_bltn (v := .ty "tuple") rfl T.n_tuple bt_tuple rfl (by decide) (by decide))) (q_one (q_cmp op_le_x (q_callB call_lenD_x rfl T.n_len bt_len (qa_cons (q_var 0 (pv 0)) qa_nil)) (q_var 1 (pv 1)) (nomark _))))))
theorem b_is_param (T : Facts K mg w fd) : Binds K (fd "is_param") ["thing"] [] := T.d_is_param.bindsN fun _ _ _ _ _ _ us hl => match us, hl with | [_], _ => rfl
theorem ok_is_param (T : Facts K mg w fd) : FnG P w K mg base 17 (He.ga K "is_param") (fd "is_param") ["thing"] (spX ⟨K, mg, w⟩ 1 f_is_param) :=
  fn_x (k := 16) T.d_is_param sc_is_param fun cdv A outer s H E hr hgd => by
    have tk := takes_of (X := cxOf (L2.CX P w) P w K mg base ["thing"] "is_param" (defScope s_is_param) (He.ga K "is_param") cdv A outer s H E) (E := E) rfl rfl rfl rfl
    have hpo := passes_of (X := cxOf (L2.CX P w) P w K mg base ["thing"] "is_param" (defScope s_is_param) (He.ga K "is_param") cdv A outer s H E) rfl
    have hu1 := hu_of hr; have hu64 := hr.units; have hu70 := un70 hr
    exact (qss_cons (qs_if (PW.pt (qw_or (qt_not (qt_tru (q_callB call_isi_x rfl T.n_isinstance bt_isinstance (qa_cons (q_var 0 (pv 0)) (qa_cons (q_ty rfl T.n_tuple bt_tuple) qa_nil))))) (qw_or (qt_cmp op_lt_x (q_callB call_lenD_x rfl T.n_len bt_len (qa_cons (q_var 0 (pv 0)) qa_nil)) q_int (nomark _)) (qw_or (qt_not (qt_tru (q_callB call_isi_x rfl T.n_isinstance bt_isinstance (qa_cons (q_ix (ix2_x T.gt hu64) (q_var 0 (pv 0)) q_int (fun _ _ => rfl)) (qa_cons (q_ty rfl T.n_str bt_str) qa_nil))))) (qw_or1 (qt_cmp (op_notIn2_x T.gt hu64) (q_ix (ix2_x T.gt hu64) (q_var 0 (pv 0)) q_int (fun _ _ => rfl)) (q_gtab rfl T.t_STEPS) (by rfl))))))) (qss_one (qs_ret q_bl)) qss_nil) (qss_cons (qs_if (qt_not (qt_tru (q_call ((ok_is_name T).mono (by decide)) hr hgd rfl T.g_is_name T.d_is_name.kp (b_is_name T) tk (qa_cons (q_ix (ix2_x T.gt hu64) (q_var 0 (pv 0)) q_int (fun _ _ => rfl)) qa_nil)))) (qss_one (qs_ret q_bl)) qss_nil) (qss_cons (qs_if (qt_cmp (op_notIn2_x T.gt hu64) (q_ix (ix2_x T.gt hu64) (q_var 0 (pv 0)) q_int (fun _ _ => rfl)) (q_gtup (xs := k_OWN) T.c_OWN rfl) (by rfl)) (qss_one (qs_ret (q_cmp (op_eq_x hu64) (q_callB call_lenD_x rfl T.n_len bt_len (qa_cons (q_var 0 (pv 0)) qa_nil)) q_int (nomark _)))) qss_nil) (qss_one (qs_ret (q_and (q_cmp (op_eq_x hu64) (q_callB call_lenD_x rfl T.n_len bt_len (qa_cons (q_var 0 (pv 0)) qa_nil)) q_int (nomark _)) (q_and (q_call ((ok_is_worth T).mono (by decide)) hr hgd rfl T.g_is_worth T.d_is_worth.kp (b_is_worth T) tk (qa_cons (q_ix (ix2_x T.gt hu64) (q_var 0 (pv 0)) q_int (fun _ _ => rfl)) qa_nil)) (q_one (q_not (q_callB call_isi_x rfl T.n_isinstance bt_isinstance (qa_cons (q_ix (ix2_x T.gt hu64) (q_var 0 (pv 0)) q_int (fun _ _ => rfl)) (qa_cons (q_ty rfl T.n_tuple bt_tuple) qa_nil))))))))))))
theorem b_is_params (T : Facts K mg w fd) : Binds K (fd "is_params") ["thing"] [] := T.d_is_params.bindsN fun _ _ _ _ _ _ us hl => match us, hl with | [_], _ => rfl
theorem ok_is_params (T : Facts K mg w fd) : FnG P w K mg base 18 (He.ga K "is_params") (fd "is_params") ["thing"] (spX ⟨K, mg, w⟩ 1 f_is_params) :=
  fn_x (k := 17) T.d_is_params sc_is_params fun cdv A outer s H E hr hgd => by
    have tk := takes_of (X := cxOf (L2.CX P w) P w K mg base ["thing", "steps", "param"] "is_params" (defScope s_is_params) (He.ga K "is_params") cdv A outer s H E) (E := E) rfl rfl rfl rfl
    have hpo := passes_of (X := cxOf (L2.CX P w) P w K mg base ["thing", "steps", "param"] "is_params" (defScope s_is_params) (He.ga K "is_params") cdv A outer s H E) rfl
    have hu1 := hu_of hr; have hu64 := hr.units; have hu70 := un70 hr
    exact (qss_cons (qs_if (PW.pt (qw_or (qt_not (qt_tru (q_callB call_isi_x rfl T.n_isinstance bt_isinstance (qa_cons (q_var 0 (pv 0)) (qa_cons (q_ty rfl T.n_tuple bt_tuple) qa_nil))))) (qw_or (qt_cmp op_gt_x (q_callB call_lenD_x rfl T.n_len bt_len (qa_cons (q_var 0 (pv 0)) qa_nil)) (q_gint T.c_MOST_PARAMS rfl) (nomark _)) (qw_or1 (qt_not (qt_tru (q_callB (call_all_x rfl) rfl T.n_all bt_all (qa_cons (q_lc (own := [("param", 2)]) rfl sc_is_params.nd (qi_any (q_var 0 (pv 0))) (blkOk_by (N := ["thing", "steps", "param"]) (sc := defScope s_is_params) (by decide +kernel)) (fun _ _ _ _ _ => (qg_name 2 sc_is_params.nd rfl (Or.inl rfl))) (fun _ _ _ _ _ => qts_nil) (fun _ _ _ _ _ => (q_call ((ok_is_param T).mono (by decide)) hr hgd rfl T.g_is_param T.d_is_param.kp (b_is_param T) takes0 (qa_cons (q_var 2 (pv 2)) qa_nil)))) qa_nil)))))))) (qss_one (qs_ret q_bl)) qss_nil) (qss_cons (qs_setLc (own := [("param", 2)]) 1 rfl sc_is_params.nd rfl rfl (sw_true rfl rfl rfl (by decide +kernel)) (qi_any (q_var 0 (pv 0))) (blkOk_by (N := ["thing", "steps", "param"]) (sc := defScope s_is_params) (by decide +kernel)) (fun _ _ _ _ _ => (qg_name 2 sc_is_params.nd rfl (Or.inl rfl))) (fun _ _ _ _ _ => qts_nil) (fun _ _ _ _ _ => (q_ix (ix2_x T.gt hu64) (q_gtab rfl T.t_STEPS) (q_ix (ix2_x T.gt hu64) (q_var 2 (pv 2)) q_int (fun _ _ => rfl)) (fun _ _ => rfl)))) (qss_cons (qs_if (PW.pt (qw_or (qt_cmp (op_ne_x hu64) (q_var 1 (pv 1)) (q_callB call_sorted_x rfl T.n_sorted bt_sorted (qa_cons (q_var 1 (pv 1)) qa_nil)) (nomark _)) (qw_or1 (qt_cmp op_gt_x (q_bm PySem.F.plainAttrs_list PySem.F.slot_list_count PySem.F.type_list_count mt_count_x (q_var 1 (pv 1)) (qa_cons (q_ix (ix2_x T.gt hu64) (q_gtab rfl T.t_STEPS) q_str (fun _ _ => rfl)) qa_nil)) q_int (nomark _))))) (qss_one (qs_ret q_bl)) qss_nil) (qss_one (qs_ret (q_cmp (op_eq_x hu64) (q_lenSc (own := [("param", 2)]) rfl T.n_len rfl sc_is_params.nd (qi_any (q_var 0 (pv 0))) (blkOk_by (N := ["thing", "steps", "param"]) (sc := defScope s_is_params) (by decide +kernel)) (fun _ _ _ _ _ => (qg_name 2 sc_is_params.nd rfl (Or.inl rfl))) (fun _ _ _ _ _ => qts_nil) (fun _ _ _ _ _ => (q_ix (ix2_x T.gt hu64) (q_var 2 (pv 2)) q_int (fun _ _ => rfl)))) (q_callB call_lenD_x rfl T.n_len bt_len (qa_cons (q_var 0 (pv 0)) qa_nil)) (nomark _)))))))
theorem b_need_params (T : Facts K mg w fd) : Binds K (fd "need_params") ["thing"] [] := T.d_need_params.bindsN fun _ _ _ _ _ _ us hl => match us, hl with | [_], _ => rfl
theorem ok_need_params (T : Facts K mg w fd) : FnG P w K mg base 19 (He.ga K "need_params") (fd "need_params") ["thing"] (spX ⟨K, mg, w⟩ 1 f_need_params) :=
  fn_x (k := 18) T.d_need_params sc_need_params fun cdv A outer s H E hr hgd => by
    have tk := takes_of (X := cxOf (L2.CX P w) P w K mg base ["thing"] "need_params" (defScope s_need_params) (He.ga K "need_params") cdv A outer s H E) (E := E) rfl rfl rfl rfl
    have hpo := passes_of (X := cxOf (L2.CX P w) P w K mg base ["thing"] "need_params" (defScope s_need_params) (He.ga K "need_params") cdv A outer s H E) rfl
    have hu1 := hu_of hr; have hu64 := hr.units; have hu70 := un70 hr
    exact (qss_one (qs_if (qt_not (qt_tru (q_call ((ok_is_params T).mono (by decide)) hr hgd rfl T.g_is_params T.d_is_params.kp (b_is_params T) tk (qa_cons (q_var 0 (pv 0)) qa_nil)))) (qss_one (qs_raise rfl tk T.x_NoParams.oex T.x_NoParams.no T.x_NoParams.iC T.x_NoParams.tI (ini_NoParams T) (hr.mono (by decide)) (bi_NoParams T) rfl T.g_NoParams (qa_cons (q_var 0 (pv 0)) qa_nil))) qss_nil))
theorem b_with_sorts (T : Facts K mg w fd) : Binds K (fd "with_sorts") ["params", "sorts"] [] := T.d_with_sorts.bindsN fun _ _ _ _ _ _ us hl => match us, hl with | [_, _], _ => rfl
theorem ok_with_sorts (T : Facts K mg w fd) : FnG P w K mg base 1 (He.ga K "with_sorts") (fd "with_sorts") ["params", "sorts"] (spX ⟨K, mg, w⟩ 2 f_with_sorts) :=
  fn_x (k := 0) T.d_with_sorts sc_with_sorts fun cdv A outer s H E hr hgd => by
    have tk := takes_of (X := cxOf (L2.CX P w) P w K mg base ["params", "sorts", "param"] "with_sorts" (defScope s_with_sorts) (He.ga K "with_sorts") cdv A outer s H E) (E := E) rfl rfl rfl rfl
    have hpo := passes_of (X := cxOf (L2.CX P w) P w K mg base ["params", "sorts", "param"] "with_sorts" (defScope s_with_sorts) (He.ga K "with_sorts") cdv A outer s H E) rfl
    have hu1 := hu_of hr; have hu64 := hr.units; have hu70 := un70 hr
    exact (qss_one (qs_ret (q_lc (own := [("param", 2)]) rfl sc_with_sorts.nd (qi_any (q_var 0 (pv 0))) (blkOk_by (N := ["params", "sorts", "param"]) (sc := defScope s_with_sorts) (by decide +kernel)) (fun _ _ _ _ _ => (qg_name 2 sc_with_sorts.nd rfl (Or.inl rfl))) (fun _ _ _ _ _ => (qts_one (qt_cmp (op_in2_x T.gt hu64) (q_ix (ix2_x T.gt hu64) (q_var 2 (pv 2)) q_int (fun _ _ => rfl)) (q_var 1 (pv 1)) (by rfl)))) (fun _ _ _ _ _ => (q_var 2 (pv 2))))))
theorem b_placed (T : Facts K mg w fd) : Binds K (fd "placed") ["params", "args"] [] := T.d_placed.bindsN fun _ _ _ _ _ _ us hl => match us, hl with | [_, _], _ => rfl
theorem ok_placed (T : Facts K mg w fd) : FnG P w K mg base 17 (He.ga K "placed") (fd "placed") ["params", "args"] (spX ⟨K, mg, w⟩ 2 f_placed) :=
  fn_x (k := 16) T.d_placed sc_placed fun cdv A outer s H E hr hgd => by
    have tk := takes_of (X := cxOf (L2.CX P w) P w K mg base ["params", "args", "names", "found", "left", "rest", "param"] "placed" (defScope s_placed) (He.ga K "placed") cdv A outer s H E) (E := E) rfl rfl rfl rfl
    have hpo := passes_of (X := cxOf (L2.CX P w) P w K mg base ["params", "args", "names", "found", "left", "rest", "param"] "placed" (defScope s_placed) (He.ga K "placed") cdv A outer s H E) rfl
    have hu1 := hu_of hr; have hu64 := hr.units; have hu70 := un70 hr
    exact (qss_cons (qs_setLc (own := [("param", 6)]) 2 rfl sc_placed.nd rfl rfl (sw_true rfl rfl rfl (by decide +kernel)) (qi_any (q_call ((ok_with_sorts T).mono (by decide)) hr hgd rfl T.g_with_sorts T.d_with_sorts.kp (b_with_sorts T) tk (qa_cons (q_var 0 (pv 0)) (qa_cons (q_gtup (xs := k_PLACED) T.c_PLACED rfl) qa_nil)))) (blkOk_by (N := ["params", "args", "names", "found", "left", "rest", "param"]) (sc := defScope s_placed) (by decide +kernel)) (fun _ _ _ _ _ => (qg_name 6 sc_placed.nd rfl (Or.inl rfl))) (fun _ _ _ _ _ => qts_nil) (fun _ _ _ _ _ => (q_ix (ix2_x T.gt hu64) (q_var 6 (pv 6)) q_int (fun _ _ => rfl)))) (qss_cons (qs_set 3 sc_placed.nd rfl (Or.inl rfl) (q_dictZip rfl T.n_dict rfl T.n_zip (q_var 2 (pv 2)) (q_var 1 (pv 1)))) (qss_cons (qs_set 4 sc_placed.nd rfl (Or.inl rfl) (q_callTy call_tuple_x rfl T.n_tuple bt_tuple (qa_cons (q_slice sl_x (q_var 1 (pv 1)) (qo_some (q_callB call_lenD_x rfl T.n_len bt_len (qa_cons (q_var 2 (pv 2)) qa_nil))) qo_none) qa_nil))) (qss_cons (qs_if (qt_cmp (op_ne_x hu64) (q_var 4 (pv 4)) (q_tup qa_nil) (nomark _)) (qss_cons (qs_set 5 sc_placed.nd rfl (Or.inl rfl) (q_call ((ok_with_sorts T).mono (by decide)) hr hgd rfl T.g_with_sorts T.d_with_sorts.kp (b_with_sorts T) tk (qa_cons (q_var 0 (pv 0)) (qa_cons (q_tup (qa_cons q_str qa_nil)) qa_nil)))) (qss_cons (qs_if (PW.pt (qw_or (qt_cmp (op_eq_x hu64) (q_var 5 (pv 5)) (q_lst qa_nil) (nomark _)) (qw_or1 (qt_not (qt_tru (q_call ((ok_is_worth T).mono (by decide)) hr hgd rfl T.g_is_worth T.d_is_worth.kp (b_is_worth T) tk (qa_cons (q_tup (qa_cons q_str (qa_cons (q_var 4 (pv 4)) qa_nil))) qa_nil))))))) (qss_one (qs_raiseG rfl tk look_ok T.x_Fault.oex T.x_Fault.no T.x_Fault.iC T.x_Fault.tI (ini_Fault T) (hr.mono (by decide)) (bi_Fault T) rfl T.g_Fault (qa_cons q_str (qa_cons (q_callB call_lenD_x rfl T.n_len bt_len (qa_cons (q_var 1 (pv 1)) qa_nil)) qa_nil)))) qss_nil) (qss_one (qs_setIx hu1 (q_var 3 (pv 3)) (q_ix (ix2_x T.gt hu64) (q_ix (ix2_x T.gt hu64) (q_var 5 (pv 5)) q_int (fun _ _ => rfl)) q_int (fun _ _ => rfl)) (q_tup (qa_cons q_str (qa_cons (q_var 4 (pv 4)) qa_nil))))))) qss_nil) (qss_one (qs_ret (q_var 3 (pv 3))))))))
theorem b_matched (T : Facts K mg w fd) : Binds K (fd "matched") ["params", "args", "named"] [] := T.d_matched.bindsN fun _ _ _ _ _ _ us hl => match us, hl with | [_, _, _], _ => rfl
theorem ok_matched (T : Facts K mg w fd) : FnG P w K mg base 20 (He.ga K "matched") (fd "matched") ["params", "args", "named"] (spX ⟨K, mg, w⟩ 3 f_matched) :=
  fn_x (k := 19) T.d_matched sc_matched fun cdv A outer s H E hr hgd => by
    have tk := takes_of (X := cxOf (L2.CX P w) P w K mg base ["params", "args", "named", "found", "free", "name", "worth", "told", "sort", "own", "param"] "matched" (defScope s_matched) (He.ga K "matched") cdv A outer s H E) (E := E) rfl rfl rfl rfl
    have hpo := passes_of (X := cxOf (L2.CX P w) P w K mg base ["params", "args", "named", "found", "free", "name", "worth", "told", "sort", "own", "param"] "matched" (defScope s_matched) (He.ga K "matched") cdv A outer s H E) rfl
    have hu1 := hu_of hr; have hu64 := hr.units; have hu70 := un70 hr
    exact (qss_cons (qs_expr (q_call ((ok_need_params T).mono (by decide)) hr hgd rfl T.g_need_params T.d_need_params.kp (b_need_params T) tk (qa_cons (q_var 0 (pv 0)) qa_nil))) (qss_cons (qs_if (PW.pt (qw_or (qt_not (qt_tru (q_call ((ok_is_list T).mono (by decide)) hr hgd rfl T.g_is_list T.d_is_list.kp (b_is_list T) tk (qa_cons (q_var 1 (pv 1)) (qa_cons (q_gint T.c_MOST_ARGS rfl) qa_nil))))) (qw_or1 (qt_not (qt_tru (q_callB (call_all_x rfl) rfl T.n_all bt_all (qa_cons (q_lc (own := [("worth", 6)]) rfl sc_matched.nd (qi_any (q_var 1 (pv 1))) (blkOk_by (N := ["params", "args", "named", "found", "free", "name", "worth", "told", "sort", "own", "param"]) (sc := defScope s_matched) (by decide +kernel)) (fun _ _ _ _ _ => (qg_name 6 sc_matched.nd rfl (Or.inl rfl))) (fun _ _ _ _ _ => qts_nil) (fun _ _ _ _ _ => (q_call ((ok_is_worth T).mono (by decide)) hr hgd rfl T.g_is_worth T.d_is_worth.kp (b_is_worth T) takes0 (qa_cons (q_var 6 (pv 6)) qa_nil)))) qa_nil))))))) (qss_one (qs_raise rfl tk T.x_NoList.oex T.x_NoList.no T.x_NoList.iC T.x_NoList.tI (ini_NoList T) (hr.mono (by decide)) (bi_NoList T) rfl T.g_NoList (qa_cons (q_var 1 (pv 1)) qa_nil))) qss_nil) (qss_cons (qs_if (qt_not (qt_tru (q_call ((ok_are_rows T).mono (by decide)) hr hgd rfl T.g_are_rows T.d_are_rows.kp (b_are_rows T) tk (qa_cons (q_var 2 (pv 2)) qa_nil)))) (qss_one (qs_raise rfl tk T.x_NoRows.oex T.x_NoRows.no T.x_NoRows.iC T.x_NoRows.tI (ini_NoRows T) (hr.mono (by decide)) (bi_NoRows T) rfl T.g_NoRows (qa_cons (q_var 2 (pv 2)) qa_nil))) qss_nil) (qss_cons (qs_set 3 sc_matched.nd rfl (Or.inl rfl) (q_call ((ok_placed T).mono (by decide)) hr hgd rfl T.g_placed T.d_placed.kp (b_placed T) tk (qa_cons (q_var 0 (pv 0)) (qa_cons (q_var 1 (pv 1)) qa_nil)))) (qss_cons (qs_setLc (own := [("param", 10)]) 4 rfl sc_matched.nd rfl rfl (sw_true rfl rfl rfl (by decide +kernel)) (qi_any (q_var 0 (pv 0))) (blkOk_by (N := ["params", "args", "named", "found", "free", "name", "worth", "told", "sort", "own", "param"]) (sc := defScope s_matched) (by decide +kernel)) (fun _ _ _ _ _ => (qg_name 10 sc_matched.nd rfl (Or.inl rfl))) (fun _ _ _ _ _ => (qts_one (qt_cmp (op_ne_x hu64) (q_ix (ix2_x T.gt hu64) (q_var 10 (pv 10)) q_int (fun _ _ => rfl)) q_str (nomark _)))) (fun _ _ _ _ _ => (q_ix (ix2_x T.gt hu64) (q_var 10 (pv 10)) q_int (fun _ _ => rfl)))) (qss_cons (qs_lock 2 tk (fun w_ tk => (qs_for hpo rfl (qi_items 2 (pv 2)) (qg_tup rfl (qgs_cons (qg_name 5 sc_matched.nd rfl (Or.inl rfl)) (qgs_cons (qg_name 6 sc_matched.nd rfl (Or.inl rfl)) qgs_nil))) (qss_cons (qs_if (qt_cmp (op_notIn2_x T.gt hu64) (q_var 5 (pv 5)) (q_var 4 (pv 4)) (by rfl)) (qss_one (qs_raiseG rfl tk look_ok T.x_Fault.oex T.x_Fault.no T.x_Fault.iC T.x_Fault.tI (ini_Fault T) (hr.mono (by decide)) (bi_Fault T) rfl T.g_Fault (qa_cons q_str (qa_cons (q_var 5 (pv 5)) qa_nil)))) qss_nil) (qss_cons (qs_if (qt_cmp (op_in2_x T.gt hu64) (q_var 5 (pv 5)) (q_var 3 (pv 3)) (by rfl)) (qss_one (qs_raiseG rfl tk look_ok T.x_Fault.oex T.x_Fault.no T.x_Fault.iC T.x_Fault.tI (ini_Fault T) (hr.mono (by decide)) (bi_Fault T) rfl T.g_Fault (qa_cons q_str (qa_cons (q_var 5 (pv 5)) qa_nil)))) qss_nil) (qss_one (qs_setIx hu1 (q_var 3 (pv 3)) (q_var 5 (pv 5)) (q_var 6 (pv 6))))))))) (qss_cons (qs_set 7 sc_matched.nd rfl (Or.inl rfl) q_dict0) (qss_cons (qs_forStar hpo rfl sc_matched.nd rfl (Or.inl rfl) rfl (Or.inl rfl) rfl (Or.inl rfl) (qi_any (q_var 0 (pv 0))) (qss_cons (qs_if (PW.pt (qw_and (qt_cmp (op_notIn2_x T.gt hu64) (q_var 5 (pv 5)) (q_var 3 (pv 3)) (by rfl)) (qw_and1 (qt_cmp (op_in2_x T.gt hu64) (q_var 8 (pv 8)) (q_gtup (xs := k_WANTED) T.c_WANTED rfl) (by rfl))))) (qss_one (qs_raiseG rfl tk look_ok T.x_Fault.oex T.x_Fault.no T.x_Fault.iC T.x_Fault.tI (ini_Fault T) (hr.mono (by decide)) (bi_Fault T) rfl T.g_Fault (qa_cons q_str (qa_cons (q_var 5 (pv 5)) qa_nil)))) qss_nil) (qss_one (qs_setIx hu1 (q_var 7 (pv 7)) (q_var 5 (pv 5)) (q_get hu1 (q_var 3 (pv 3)) (q_var 5 (pv 5)) (q_if (qt_cmp (op_ne_x hu64) (q_var 9 (pv 9)) (q_lst qa_nil) (nomark _)) (q_ix (ix2_x T.gt hu64) (q_var 9 (pv 9)) q_int (fun _ _ => rfl)) (q_tup (qa_cons q_str (qa_cons (q_tup qa_nil) qa_nil))))))))) (qss_one (qs_ret (q_var 7 (pv 7))))))))))))
theorem b__law_cell (T : Facts K mg w fd) : Binds K (fd "_law_cell") ["_law_script", "_law_k"] [] := T.d__law_cell.bindsN fun _ _ _ _ _ _ us hl => match us, hl with | [_, _], _ => rfl
theorem ok__law_cell (T : Facts K mg w fd) : FnG P w K mg base 1 (He.ga K "_law_cell") (fd "_law_cell") ["_law_script", "_law_k"] (spX ⟨K, mg, w⟩ 2 f__law_cell) :=
  fn_x (k := 0) T.d__law_cell sc__law_cell fun cdv A outer s H E hr hgd => by
    have tk := takes_of (X := cxOf (L2.CX P w) P w K mg base ["_law_script", "_law_k"] "_law_cell" (defScope s__law_cell) (He.ga K "_law_cell") cdv A outer s H E) (E := E) rfl rfl rfl rfl
    have hpo := passes_of (X := cxOf (L2.CX P w) P w K mg base ["_law_script", "_law_k"] "_law_cell" (defScope s__law_cell) (He.ga K "_law_cell") cdv A outer s H E) rfl
    have hu1 := hu_of hr; have hu64 := hr.units; have hu70 := un70 hr
    exact (qss_cons (qs_if (qt_cmp op_lt_x (q_var 1 (pv 1)) (q_callB call_lenD_x rfl T.n_len bt_len (qa_cons (q_var 0 (pv 0)) qa_nil)) (nomark _)) (qss_one (qs_ret (q_ix (ix2_x T.gt hu64) (q_var 0 (pv 0)) (q_var 1 (pv 1)) (fun _ _ => rfl)))) qss_nil) (qss_one (qs_ret (q_op op_add_x (q_op op_mul3_x q_int (q_var 1 (pv 1))) q_int))))
theorem b__law_box (T : Facts K mg w fd) : Binds K (fd "_law_box") ["_law_cell_here"] [] := T.d__law_box.bindsN fun _ _ _ _ _ _ us hl => match us, hl with | [_], _ => rfl
theorem ok__law_box (T : Facts K mg w fd) : FnG P w K mg base 1 (He.ga K "_law_box") (fd "_law_box") ["_law_cell_here"] (spX ⟨K, mg, w⟩ 1 f__law_box) :=
  fn_x (k := 0) T.d__law_box sc__law_box fun cdv A outer s H E hr hgd => by
    have tk := takes_of (X := cxOf (L2.CX P w) P w K mg base ["_law_cell_here"] "_law_box" (defScope s__law_box) (He.ga K "_law_box") cdv A outer s H E) (E := E) rfl rfl rfl rfl
    have hpo := passes_of (X := cxOf (L2.CX P w) P w K mg base ["_law_cell_here"] "_law_box" (defScope s__law_box) (He.ga K "_law_box") cdv A outer s H E) rfl
    have hu1 := hu_of hr; have hu64 := hr.units; have hu70 := un70 hr
    exact (qss_one (qs_ret (q_lst (qa_cons (q_callB (call_maxL_x rfl) rfl T.n_max bt_max (qa_cons q_int (qa_cons (q_op op_sub_x (q_var 0 (pv 0)) (q_op op_pow_x q_int q_int)) qa_nil))) (qa_cons (q_op op_mod_x (q_var 0 (pv 0)) q_int) (qa_cons q_int qa_nil))))))
theorem b__law_take (T : Facts K mg w fd) : Binds K (fd "_law_take") ["_law_box_here", "_law_many"] [] := T.d__law_take.bindsN fun _ _ _ _ _ _ us hl => match us, hl with | [_, _], _ => rfl
theorem ok__law_take (T : Facts K mg w fd) : FnG P w K mg base 1 (He.ga K "_law_take") (fd "_law_take") ["_law_box_here", "_law_many"] (spX ⟨K, mg, w⟩ 2 f__law_take) :=
  fn_x (k := 0) T.d__law_take sc__law_take fun cdv A outer s H E hr hgd => by
    have tk := takes_of (X := cxOf (L2.CX P w) P w K mg base ["_law_box_here", "_law_many", "_law_digit", "_law_number"] "_law_take" (defScope s__law_take) (He.ga K "_law_take") cdv A outer s H E) (E := E) rfl rfl rfl rfl
    have hpo := passes_of (X := cxOf (L2.CX P w) P w K mg base ["_law_box_here", "_law_many", "_law_digit", "_law_number"] "_law_take" (defScope s__law_take) (He.ga K "_law_take") cdv A outer s H E) rfl
    have hu1 := hu_of hr; have hu64 := hr.units; have hu70 := un70 hr
    exact (qss_cons (qs_if (qt_cmp op_gt_x (q_ix (ix2_x T.gt hu64) (q_var 0 (pv 0)) q_int (fun _ _ => rfl)) q_int (nomark _)) (qss_cons (qs_set 2 sc__law_take.nd rfl (Or.inl rfl) (q_op op_mod_x (q_ix (ix2_x T.gt hu64) (q_var 0 (pv 0)) q_int (fun _ _ => rfl)) (q_var 1 (pv 1)))) (qss_cons (qs_setIx hu1 (q_var 0 (pv 0)) q_int (q_op op_fdiv_x (q_ix (ix2_x T.gt hu64) (q_var 0 (pv 0)) q_int (fun _ _ => rfl)) (q_var 1 (pv 1)))) (qss_one (qs_ret (q_var 2 (pv 2)))))) qss_nil) (qss_cons (qs_setIx hu1 (q_var 0 (pv 0)) q_int (q_op op_add_x (q_ix (ix2_x T.gt hu64) (q_var 0 (pv 0)) q_int (fun _ _ => rfl)) q_int)) (qss_cons (qs_set 3 sc__law_take.nd rfl (Or.inl rfl) (q_op op_mod_x (q_op op_pow_x (q_op op_add_x (q_op op_add_x (q_ix (ix2_x T.gt hu64) (q_var 0 (pv 0)) q_int (fun _ _ => rfl)) (q_op op_mul3_x q_int (q_ix (ix2_x T.gt hu64) (q_var 0 (pv 0)) q_int (fun _ _ => rfl)))) q_int) q_int) q_int)) (qss_cons (qs_set 3 sc__law_take.nd rfl (Or.inl rfl) (q_op op_mod_x (q_op op_pow_x (q_op op_add_x (q_var 3 (pv 3)) (q_op op_mul3_x (q_op op_mul3_x q_int (q_ix (ix2_x T.gt hu64) (q_var 0 (pv 0)) q_int (fun _ _ => rfl))) (q_ix (ix2_x T.gt hu64) (q_var 0 (pv 0)) q_int (fun _ _ => rfl)))) q_int) q_int)) (qss_one (qs_ret (q_op op_mod_x (q_op op_fdiv_x (q_var 3 (pv 3)) q_int) (q_var 1 (pv 1)))))))))
theorem b__law_names (T : Facts K mg w fd) : Binds K (fd "_law_names") ["_law_box_here", "_law_many"] [] := T.d__law_names.bindsN fun _ _ _ _ _ _ us hl => match us, hl with | [_, _], _ => rfl
theorem ok__law_names (T : Facts K mg w fd) : FnG P w K mg base 2 (He.ga K "_law_names") (fd "_law_names") ["_law_box_here", "_law_many"] (spX ⟨K, mg, w⟩ 2 f__law_names) :=
  fn_x (k := 1) T.d__law_names sc__law_names fun cdv A outer s H E hr hgd => by
    have tk := takes_of (X := cxOf (L2.CX P w) P w K mg base ["_law_box_here", "_law_many", "_law_letters", "_law_first", "_law_stem", "_law_at", "_law_found_here", "_law_k", "_law_name"] "_law_names" (defScope s__law_names) (He.ga K "_law_names") cdv A outer s H E) (E := E) rfl rfl rfl rfl
    have hpo := passes_of (X := cxOf (L2.CX P w) P w K mg base ["_law_box_here", "_law_many", "_law_letters", "_law_first", "_law_stem", "_law_at", "_law_found_here", "_law_k", "_law_name"] "_law_names" (defScope s__law_names) (He.ga K "_law_names") cdv A outer s H E) rfl
    have hu1 := hu_of hr; have hu64 := hr.units; have hu70 := un70 hr
    exact (qss_cons (qs_set 2 sc__law_names.nd rfl (Or.inr rfl) q_str) (qss_cons (qs_set 3 sc__law_names.nd rfl (Or.inr rfl) (q_call ((ok__law_take T).mono (by decide)) hr hgd rfl T.g__law_take T.d__law_take.kp (b__law_take T) tk (qa_cons (q_var 0 (pv 0)) (qa_cons q_int qa_nil)))) (qss_cons (qs_set 4 sc__law_names.nd rfl (Or.inr rfl) (q_bm PySem.F.plainAttrs_str PySem.F.slot_str_join PySem.F.type_str_join mt_join_x q_str (qa_cons (q_lc (own := [("_law_k", 7)]) rfl sc__law_names.nd (qi_range1 rfl T.n_range q_int) (blkOk_by (N := ["_law_box_here", "_law_many", "_law_letters", "_law_first", "_law_stem", "_law_at", "_law_found_here", "_law_k", "_law_name"]) (sc := defScope s__law_names) (by decide +kernel)) (fun _ _ _ _ _ => (qg_name 7 sc__law_names.nd rfl (Or.inl rfl))) (fun _ _ _ _ _ => qts_nil) (fun _ _ _ _ _ => (q_ix (ix2_x T.gt hu64) (q_var 2 (pv 2)) (q_call ((ok__law_take T).mono (by decide)) hr hgd rfl T.g__law_take T.d__law_take.kp (b__law_take T) takes0 (qa_cons (q_var 0 (pv 0)) (qa_cons q_int qa_nil))) (fun _ _ => rfl)))) qa_nil))) (qss_cons (qs_set 5 sc__law_names.nd rfl (Or.inr rfl) (q_call ((ok__law_take T).mono (by decide)) hr hgd rfl T.g__law_take T.d__law_take.kp (b__law_take T) tk (qa_cons (q_var 0 (pv 0)) (qa_cons q_int qa_nil)))) (qss_cons (qs_setLc (own := [("_law_k", 7)]) 6 rfl sc__law_names.nd rfl rfl (sw_true rfl rfl rfl (by decide +kernel)) (qi_range1 rfl T.n_range (q_var 1 (pv 1))) (blkOk_by (N := ["_law_box_here", "_law_many", "_law_letters", "_law_first", "_law_stem", "_law_at", "_law_found_here", "_law_k", "_law_name"]) (sc := defScope s__law_names) (by decide +kernel)) (fun _ _ _ _ _ => (qg_name 7 sc__law_names.nd rfl (Or.inl rfl))) (fun _ _ _ _ _ => qts_nil) (fun _ _ _ _ _ => (q_op op_add_x (q_op op_add_x (q_slice sl_x (q_var 4 (pv 4)) qo_none (qo_some (q_var 5 (pv 5)))) (q_ix (ix2_x T.gt hu64) (q_var 2 (pv 2)) (q_op op_mod_x (q_op op_add_x (q_var 3 (pv 3)) (q_op op_mul3_x q_int (q_var 7 (pv 7)))) q_int) (fun _ _ => rfl))) (q_slice sl_x (q_var 4 (pv 4)) (qo_some (q_var 5 (pv 5))) qo_none)))) (qss_cons (qs_if (PW.pt (qw_and (qt_cmp (op_eq_x hu64) (q_call ((ok__law_take T).mono (by decide)) hr hgd rfl T.g__law_take T.d__law_take.kp (b__law_take T) tk (qa_cons (q_var 0 (pv 0)) (qa_cons q_int qa_nil))) q_int (nomark _)) (qw_and1 (qt_cmp op_lt_x (q_var 1 (pv 1)) q_int (nomark _))))) (qss_one (qs_setLc (own := [("_law_k", 7)]) 6 rfl sc__law_names.nd rfl rfl (sw_true rfl rfl rfl (by decide +kernel)) (qi_range1 rfl T.n_range (q_var 1 (pv 1))) (blkOk_by (N := ["_law_box_here", "_law_many", "_law_letters", "_law_first", "_law_stem", "_law_at", "_law_found_here", "_law_k", "_law_name"]) (sc := defScope s__law_names) (by decide +kernel)) (fun _ _ _ _ _ => (qg_name 7 sc__law_names.nd rfl (Or.inl rfl))) (fun _ _ _ _ _ => qts_nil) (fun _ _ _ _ _ => (q_slice sl_x (q_op op_add_x (q_ix (ix2_x T.gt hu64) (q_var 2 (pv 2)) (q_var 3 (pv 3)) (fun _ _ => rfl)) (q_var 4 (pv 4))) qo_none (qo_some (q_op op_add_x q_int (q_var 7 (pv 7)))))))) qss_nil) (qss_one (qs_ret (q_lc (own := [("_law_name", 8)]) rfl sc__law_names.nd (qi_any (q_var 6 (pv 6))) (blkOk_by (N := ["_law_box_here", "_law_many", "_law_letters", "_law_first", "_law_stem", "_law_at", "_law_found_here", "_law_k", "_law_name"]) (sc := defScope s__law_names) (by decide +kernel)) (fun _ _ _ _ _ => (qg_name 8 sc__law_names.nd rfl (Or.inl rfl))) (fun _ _ _ _ _ => qts_nil) (fun _ _ _ _ _ => (q_ix (ix2_x T.gt hu64) (q_lst (qa_cons (q_var 8 (pv 8)) (qa_cons (q_rev (q_var 8 (pv 8))) qa_nil))) (q_callTy call_int_x rfl T.n_int bt_int (qa_cons (q_cmp (op_in2_x T.gt hu64) (q_var 8 (pv 8)) (q_lst (qa_cons q_str (qa_cons q_str (qa_cons q_str qa_nil)))) (by rfl)) qa_nil)) (fun _ _ => rfl))))))))))))
theorem b__law_writ (T : Facts K mg w fd) : Binds K (fd "_law_writ") ["_law_box_here"] [] := T.d__law_writ.bindsN fun _ _ _ _ _ _ us hl => match us, hl with | [_], _ => rfl
theorem ok__law_writ (T : Facts K mg w fd) : FnG P w K mg base 2 (He.ga K "_law_writ") (fd "_law_writ") ["_law_box_here"] (spX ⟨K, mg, w⟩ 1 f__law_writ) :=
  fn_x (k := 1) T.d__law_writ sc__law_writ fun cdv A outer s H E hr hgd => by
    have tk := takes_of (X := cxOf (L2.CX P w) P w K mg base ["_law_box_here", "_law_signs", "_law_k"] "_law_writ" (defScope s__law_writ) (He.ga K "_law_writ") cdv A outer s H E) (E := E) rfl rfl rfl rfl
    have hpo := passes_of (X := cxOf (L2.CX P w) P w K mg base ["_law_box_here", "_law_signs", "_law_k"] "_law_writ" (defScope s__law_writ) (He.ga K "_law_writ") cdv A outer s H E) rfl
    have hu1 := hu_of hr; have hu64 := hr.units; have hu70 := un70 hr
    exact (qss_cons (qs_set 1 sc__law_writ.nd rfl (Or.inr rfl) q_str) (qss_one (qs_ret (q_bm PySem.F.plainAttrs_str PySem.F.slot_str_join PySem.F.type_str_join mt_join_x q_str (qa_cons (q_lc (own := [("_law_k", 2)]) rfl sc__law_writ.nd (qi_range1 rfl T.n_range (q_call ((ok__law_take T).mono (by decide)) hr hgd rfl T.g__law_take T.d__law_take.kp (b__law_take T) tk (qa_cons (q_var 0 (pv 0)) (qa_cons q_int qa_nil)))) (blkOk_by (N := ["_law_box_here", "_law_signs", "_law_k"]) (sc := defScope s__law_writ) (by decide +kernel)) (fun _ _ _ _ _ => (qg_name 2 sc__law_writ.nd rfl (Or.inl rfl))) (fun _ _ _ _ _ => qts_nil) (fun _ _ _ _ _ => (q_ix (ix2_x T.gt hu64) (q_var 1 (pv 1)) (q_call ((ok__law_take T).mono (by decide)) hr hgd rfl T.g__law_take T.d__law_take.kp (b__law_take T) takes0 (qa_cons (q_var 0 (pv 0)) (qa_cons q_int qa_nil))) (fun _ _ => rfl)))) qa_nil)))))
theorem b__law_lit (T : Facts K mg w fd) : Binds K (fd "_law_lit") ["_law_box_here"] [] := T.d__law_lit.bindsN fun _ _ _ _ _ _ us hl => match us, hl with | [_], _ => rfl
theorem ok__law_lit (T : Facts K mg w fd) : FnG P w K mg base 3 (He.ga K "_law_lit") (fd "_law_lit") ["_law_box_here"] (spX ⟨K, mg, w⟩ 1 f__law_lit) :=
  fn_x (k := 2) T.d__law_lit sc__law_lit fun cdv A outer s H E hr hgd => by
    have tk := takes_of (X := cxOf (L2.CX P w) P w K mg base ["_law_box_here", "_law_some"] "_law_lit" (defScope s__law_lit) (He.ga K "_law_lit") cdv A outer s H E) (E := E) rfl rfl rfl rfl
    have hpo := passes_of (X := cxOf (L2.CX P w) P w K mg base ["_law_box_here", "_law_some"] "_law_lit" (defScope s__law_lit) (He.ga K "_law_lit") cdv A outer s H E) rfl
    have hu1 := hu_of hr; have hu64 := hr.units; have hu70 := un70 hr
    exact (qss_cons (qs_set 1 sc__law_lit.nd rfl (Or.inl rfl) (q_lst (qa_cons q_int (qa_cons q_int (qa_cons (q_un un_neg_x q_int) (qa_cons (q_op op_pow_x q_int q_int) (qa_cons (q_op op_sub_x q_int (q_op op_pow_x q_int q_int)) (qa_cons q_non (qa_cons q_str (qa_cons q_str (qa_cons q_str (qa_cons q_str (qa_cons q_str (qa_cons q_str (qa_cons q_str (qa_cons q_str (qa_cons (q_op op_mul3_x q_str q_int) qa_nil))))))))))))))))) (qss_one (qs_ret (q_ix (ix2_x T.gt hu64) (q_op op_add_x (q_var 1 (pv 1)) (q_lst (qa_cons (q_op op_sub_x (q_call ((ok__law_take T).mono (by decide)) hr hgd rfl T.g__law_take T.d__law_take.kp (b__law_take T) tk (qa_cons (q_var 0 (pv 0)) (qa_cons q_int qa_nil))) q_int) (qa_cons (q_call ((ok__law_writ T).mono (by decide)) hr hgd rfl T.g__law_writ T.d__law_writ.kp (b__law_writ T) tk (qa_cons (q_var 0 (pv 0)) qa_nil)) qa_nil)))) (q_call ((ok__law_take T).mono (by decide)) hr hgd rfl T.g__law_take T.d__law_take.kp (b__law_take T) tk (qa_cons (q_var 0 (pv 0)) (qa_cons q_int qa_nil))) (fun _ _ => rfl)))))
theorem b__law_params (T : Facts K mg w fd) : Binds K (fd "_law_params") ["_law_box_here", "_law_names_here", "_law_most"] [] := T.d__law_params.bindsN fun _ _ _ _ _ _ us hl => match us, hl with | [_, _, _], _ => rfl
theorem ok__law_params (T : Facts K mg w fd) : FnG P w K mg base 4 (He.ga K "_law_params") (fd "_law_params") ["_law_box_here", "_law_names_here", "_law_most"] (spX ⟨K, mg, w⟩ 3 f__law_params) :=
  fn_x (k := 3) T.d__law_params sc__law_params fun cdv A outer s H E hr hgd => by
    have tk := takes_of (X := cxOf (L2.CX P w) P w K mg base ["_law_box_here", "_law_names_here", "_law_most", "_law_turn", "_law_steps", "_law_found_here", "_law_k", "_law_step", "_law_sort", "_law_param"] "_law_params" (defScope s__law_params) (He.ga K "_law_params") cdv A outer s H E) (E := E) rfl rfl rfl rfl
    have hpo := passes_of (X := cxOf (L2.CX P w) P w K mg base ["_law_box_here", "_law_names_here", "_law_most", "_law_turn", "_law_steps", "_law_found_here", "_law_k", "_law_step", "_law_sort", "_law_param"] "_law_params" (defScope s__law_params) (He.ga K "_law_params") cdv A outer s H E) rfl
    have hu1 := hu_of hr; have hu64 := hr.units; have hu70 := un70 hr
    exact (qss_cons (qs_set 3 sc__law_params.nd rfl (Or.inl rfl) (q_call ((ok__law_take T).mono (by decide)) hr hgd rfl T.g__law_take T.d__law_take.kp (b__law_take T) tk (qa_cons (q_var 0 (pv 0)) (qa_cons (q_callB call_lenD_x rfl T.n_len bt_len (qa_cons (q_var 1 (pv 1)) qa_nil)) qa_nil)))) (qss_cons (qs_set 4 sc__law_params.nd rfl (Or.inl rfl) (q_callB call_sorted_x rfl T.n_sorted bt_sorted (qa_cons (q_lc (own := [("_law_k", 6)]) rfl sc__law_params.nd (qi_range1 rfl T.n_range (q_call ((ok__law_take T).mono (by decide)) hr hgd rfl T.g__law_take T.d__law_take.kp (b__law_take T) tk (qa_cons (q_var 0 (pv 0)) (qa_cons (q_op op_add_x (q_callB (call_min_x rfl) rfl T.n_min bt_min (qa_cons (q_var 2 (pv 2)) (qa_cons (q_callB call_lenD_x rfl T.n_len bt_len (qa_cons (q_var 1 (pv 1)) qa_nil)) qa_nil))) q_int) qa_nil)))) (blkOk_by (N := ["_law_box_here", "_law_names_here", "_law_most", "_law_turn", "_law_steps", "_law_found_here", "_law_k", "_law_step", "_law_sort", "_law_param"]) (sc := defScope s__law_params) (by decide +kernel)) (fun _ _ _ _ _ => (qg_name 6 sc__law_params.nd rfl (Or.inl rfl))) (fun _ _ _ _ _ => qts_nil) (fun _ _ _ _ _ => (q_call ((ok__law_take T).mono (by decide)) hr hgd rfl T.g__law_take T.d__law_take.kp (b__law_take T) takes0 (qa_cons (q_var 0 (pv 0)) (qa_cons q_int qa_nil))))) qa_nil))) (qss_cons (qs_set 5 sc__law_params.nd rfl (Or.inl rfl) (q_lst qa_nil)) (qss_cons (qs_for hpo rfl (qi_enum rfl T.n_enumerate (q_var 4 (pv 4))) (qg_tup rfl (qgs_cons (qg_name 6 sc__law_params.nd rfl (Or.inl rfl)) (qgs_cons (qg_name 7 sc__law_params.nd rfl (Or.inl rfl)) qgs_nil))) (qss_cons (qs_if (PW.pt (qw_and (qt_cmp (op_eq_x hu64) (q_var 7 (pv 7)) q_int (nomark _)) (qw_and1 (qt_cmp (op_ne_x hu64) (q_lc (own := [("_law_param", 9)]) rfl sc__law_params.nd (qi_any (q_var 5 (pv 5))) (blkOk_by (N := ["_law_box_here", "_law_names_here", "_law_most", "_law_turn", "_law_steps", "_law_found_here", "_law_k", "_law_step", "_law_sort", "_law_param"]) (sc := defScope s__law_params) (by decide +kernel)) (fun _ _ _ _ _ => (qg_name 9 sc__law_params.nd rfl (Or.inl rfl))) (fun _ _ _ _ _ => (qts_one (qt_cmp (op_eq_x hu64) (q_ix (ix2_x T.gt hu64) (q_var 9 (pv 9)) q_int (fun _ _ => rfl)) q_str (nomark _)))) (fun _ _ _ _ _ => (q_var 9 (pv 9)))) (q_lst qa_nil) (nomark _))))) (qss_one (qs_set 7 sc__law_params.nd rfl (Or.inl rfl) q_int)) qss_nil) (qss_cons (qs_set 8 sc__law_params.nd rfl (Or.inl rfl) (q_ix (ix2_x T.gt hu64) (q_lst (qa_cons q_str (qa_cons q_str (qa_cons q_str (qa_cons (q_ix (ix2_x T.gt hu64) (q_lst (qa_cons q_str (qa_cons q_str qa_nil))) (q_call ((ok__law_take T).mono (by decide)) hr hgd rfl T.g__law_take T.d__law_take.kp (b__law_take T) tk (qa_cons (q_var 0 (pv 0)) (qa_cons q_int qa_nil))) (fun _ _ => rfl)) qa_nil))))) (q_var 7 (pv 7)) (fun _ _ => rfl))) (qss_cons (qs_set 9 sc__law_params.nd rfl (Or.inl rfl) (q_tup (qa_cons (q_var 8 (pv 8)) (qa_cons (q_ix (ix2_x T.gt hu64) (q_var 1 (pv 1)) (q_op op_mod_x (q_op op_add_x (q_var 3 (pv 3)) (q_var 6 (pv 6))) (q_callB call_lenD_x rfl T.n_len bt_len (qa_cons (q_var 1 (pv 1)) qa_nil))) (fun _ _ => rfl)) qa_nil)))) (qss_one (qs_expr (q_bm PySem.F.plainAttrs_list PySem.F.slot_list_append PySem.F.type_list_append mt_append_x (q_var 5 (pv 5)) (qa_cons (q_op op_add_x (q_var 9 (pv 9)) (q_op op_mul3_x (q_tup (qa_cons (q_call ((ok__law_lit T).mono (by decide)) hr hgd rfl T.g__law_lit T.d__law_lit.kp (b__law_lit T) tk (qa_cons (q_var 0 (pv 0)) qa_nil)) qa_nil)) (q_callTy call_int_x rfl T.n_int bt_int (qa_cons (q_cmp (op_in2_x T.gt hu64) (q_var 8 (pv 8)) (q_lst (qa_cons q_str (qa_cons q_str qa_nil))) (by rfl)) qa_nil)))) qa_nil)))))))) (qss_one (qs_ret (q_callTy call_tuple_x rfl T.n_tuple bt_tuple (qa_cons (q_var 5 (pv 5)) qa_nil))))))))
theorem b__law_worth (T : Facts K mg w fd) : Binds K (fd "_law_worth") ["_law_box_here", "_law_deep_here"] [] := T.d__law_worth.bindsN fun _ _ _ _ _ _ us hl => match us, hl with | [_, _], _ => rfl
theorem ok__law_worth (T : Facts K mg w fd) : ∀ {n : Nat}, FnG P w K mg base (3 + 1 + n) (He.ga K "_law_worth") (fd "_law_worth") ["_law_box_here", "_law_deep_here"] (spX ⟨K, mg, w⟩ 2 (f__law_worth n))
  | 0 => ⟨fun _ _ _ _ ⟨_, _, _, _, r, hl, _⟩ => by rw [← r.length, hl]; rfl, fun _ _ _ _ _ _ _ _ _ _ _ _ _ _ ⟨_, _, _, _, _, _, z⟩ => z.elim⟩
  | n + 1 => fn_x (k := 3 + 1 + n) T.d__law_worth sc__law_worth fun cdv A outer s H E hr hgd => by
    have hself := ok__law_worth T (n := n)
    have tk := takes_of (X := cxOf (L2.CX P w) P w K mg base ["_law_box_here", "_law_deep_here", "_law_way", "_law_k"] "_law_worth" (defScope s__law_worth) (He.ga K "_law_worth") cdv A outer s H E) (E := E) rfl rfl rfl rfl
    have hpo := passes_of (X := cxOf (L2.CX P w) P w K mg base ["_law_box_here", "_law_deep_here", "_law_way", "_law_k"] "_law_worth" (defScope s__law_worth) (He.ga K "_law_worth") cdv A outer s H E) rfl
    have hu1 := hu_of hr; have hu64 := hr.units; have hu70 := un70 hr
    exact (qss_cons (qs_set 2 sc__law_worth.nd rfl (Or.inl rfl) (q_call ((ok__law_take T).mono (by omega)) hr hgd rfl T.g__law_take T.d__law_take.kp (b__law_take T) tk (qa_cons (q_var 0 (pv 0)) (qa_cons q_int qa_nil)))) (qss_cons (qs_if (PW.pt (qw_or (qt_cmp op_lt_x (q_var 2 (pv 2)) q_int (nomark _)) (qw_or1 (qt_cmp (op_eq_x hu64) (q_var 1 (pv 1)) q_int (nomark _))))) (qss_one (qs_ret (q_call ((ok__law_lit T).mono (by omega)) hr hgd rfl T.g__law_lit T.d__law_lit.kp (b__law_lit T) tk (qa_cons (q_var 0 (pv 0)) qa_nil)))) qss_nil) (qss_cons (qs_if (qt_cmp (op_eq_x hu64) (q_var 2 (pv 2)) q_int (nomark _)) (qss_one (qs_ret (q_tup (qa_cons q_str (qa_cons (q_ix (ix2_x T.gt hu64) (q_lst (qa_cons q_int (qa_cons q_int (qa_cons (q_call ((ok__law_take T).mono (by omega)) hr hgd rfl T.g__law_take T.d__law_take.kp (b__law_take T) tk (qa_cons (q_var 0 (pv 0)) (qa_cons q_int qa_nil))) qa_nil)))) (q_call ((ok__law_take T).mono (by omega)) hr hgd rfl T.g__law_take T.d__law_take.kp (b__law_take T) tk (qa_cons (q_var 0 (pv 0)) (qa_cons q_int qa_nil))) (fun _ _ => rfl)) qa_nil))))) qss_nil) (qss_cons (qs_if (qt_cmp (op_eq_x hu64) (q_var 2 (pv 2)) q_int (nomark _)) (qss_one (qs_ret (q_tup (qa_cons q_str (qa_cons (q_tup (qa_cons (q_call hself hr hgd rfl T.g__law_worth T.d__law_worth.kp (b__law_worth T) tk (qa_cons (q_var 0 (pv 0)) (qa_cons (q_op op_sub_x (q_var 1 (pv 1)) q_int) qa_nil))) qa_nil)) qa_nil))))) qss_nil) (qss_one (qs_ret (q_tup (qa_cons q_str (qa_cons (q_callTy call_tuple_x rfl T.n_tuple bt_tuple (qa_cons (q_lc (own := [("_law_k", 3)]) rfl sc__law_worth.nd (qi_range1 rfl T.n_range (q_call ((ok__law_take T).mono (by omega)) hr hgd rfl T.g__law_take T.d__law_take.kp (b__law_take T) tk (qa_cons (q_var 0 (pv 0)) (qa_cons q_int qa_nil)))) (blkOk_by (N := ["_law_box_here", "_law_deep_here", "_law_way", "_law_k"]) (sc := defScope s__law_worth) (by decide +kernel)) (fun _ _ _ _ _ => (qg_name 3 sc__law_worth.nd rfl (Or.inl rfl))) (fun _ _ _ _ _ => qts_nil) (fun _ _ _ _ _ => (q_call hself hr hgd rfl T.g__law_worth T.d__law_worth.kp (b__law_worth T) takes0 (qa_cons (q_var 0 (pv 0)) (qa_cons (q_op op_sub_x (q_var 1 (pv 1)) q_int) qa_nil))))) qa_nil)) qa_nil)))))))))
theorem b__law_call (T : Facts K mg w fd) : Binds K (fd "_law_call") ["_law_box_here", "_law_prow", "_law_names_here"] [] := T.d__law_call.bindsN fun _ _ _ _ _ _ us hl => match us, hl with | [_, _, _], _ => rfl
theorem ok__law_call (T : Facts K mg w fd) : FnG P w K mg base 17 (He.ga K "_law_call") (fd "_law_call") ["_law_box_here", "_law_prow", "_law_names_here"] (spX ⟨K, mg, w⟩ 3 f__law_call) :=
  fn_x (k := 16) T.d__law_call sc__law_call fun cdv A outer s H E hr hgd => by
    have tk := takes_of (X := cxOf (L2.CX P w) P w K mg base ["_law_box_here", "_law_prow", "_law_names_here", "_law_places", "_law_many", "_law_given", "_law_wished", "_law_name", "_law_k", "_law_param"] "_law_call" (defScope s__law_call) (He.ga K "_law_call") cdv A outer s H E) (E := E) rfl rfl rfl rfl
    have hpo := passes_of (X := cxOf (L2.CX P w) P w K mg base ["_law_box_here", "_law_prow", "_law_names_here", "_law_places", "_law_many", "_law_given", "_law_wished", "_law_name", "_law_k", "_law_param"] "_law_call" (defScope s__law_call) (He.ga K "_law_call") cdv A outer s H E) rfl
    have hu1 := hu_of hr; have hu64 := hr.units; have hu70 := un70 hr
    exact (qss_cons (qs_setLc (own := [("_law_param", 9)]) 3 rfl sc__law_call.nd rfl rfl (sw_true rfl rfl rfl (by decide +kernel)) (qi_any (q_var 1 (pv 1))) (blkOk_by (N := ["_law_box_here", "_law_prow", "_law_names_here", "_law_places", "_law_many", "_law_given", "_law_wished", "_law_name", "_law_k", "_law_param"]) (sc := defScope s__law_call) (by decide +kernel)) (fun _ _ _ _ _ => (qg_name 9 sc__law_call.nd rfl (Or.inl rfl))) (fun _ _ _ _ _ => (qts_one (qt_cmp (op_in2_x T.gt hu64) (q_ix (ix2_x T.gt hu64) (q_var 9 (pv 9)) q_int (fun _ _ => rfl)) (q_lst (qa_cons q_str (qa_cons q_str qa_nil))) (by rfl)))) (fun _ _ _ _ _ => (q_ix (ix2_x T.gt hu64) (q_var 9 (pv 9)) q_int (fun _ _ => rfl)))) (qss_cons (qs_set 4 sc__law_call.nd rfl (Or.inl rfl) (q_ix (ix2_x T.gt hu64) (q_lst (qa_cons (q_callB call_lenD_x rfl T.n_len bt_len (qa_cons (q_var 3 (pv 3)) qa_nil)) (qa_cons (q_call ((ok__law_take T).mono (by decide)) hr hgd rfl T.g__law_take T.d__law_take.kp (b__law_take T) tk (qa_cons (q_var 0 (pv 0)) (qa_cons (q_op op_add_x (q_callB call_lenD_x rfl T.n_len bt_len (qa_cons (q_var 3 (pv 3)) qa_nil)) q_int) qa_nil))) (qa_cons (q_call ((ok__law_take T).mono (by decide)) hr hgd rfl T.g__law_take T.d__law_take.kp (b__law_take T) tk (qa_cons (q_var 0 (pv 0)) (qa_cons q_int qa_nil))) (qa_cons (q_call ((ok__law_take T).mono (by decide)) hr hgd rfl T.g__law_take T.d__law_take.kp (b__law_take T) tk (qa_cons (q_var 0 (pv 0)) (qa_cons q_int qa_nil))) qa_nil))))) (q_call ((ok__law_take T).mono (by decide)) hr hgd rfl T.g__law_take T.d__law_take.kp (b__law_take T) tk (qa_cons (q_var 0 (pv 0)) (qa_cons q_int qa_nil))) (fun _ _ => rfl))) (qss_cons (qs_setLc (own := [("_law_k", 8)]) 5 rfl sc__law_call.nd rfl rfl (sw_true rfl rfl rfl (by decide +kernel)) (qi_range1 rfl T.n_range (q_var 4 (pv 4))) (blkOk_by (N := ["_law_box_here", "_law_prow", "_law_names_here", "_law_places", "_law_many", "_law_given", "_law_wished", "_law_name", "_law_k", "_law_param"]) (sc := defScope s__law_call) (by decide +kernel)) (fun _ _ _ _ _ => (qg_name 8 sc__law_call.nd rfl (Or.inl rfl))) (fun _ _ _ _ _ => qts_nil) (fun _ _ _ _ _ => (q_call ((ok__law_worth T (n := 12)).mono (by decide)) hr hgd rfl T.g__law_worth T.d__law_worth.kp (b__law_worth T) takes0 (qa_cons (q_var 0 (pv 0)) (qa_cons q_int qa_nil))))) (qss_cons (qs_set 6 sc__law_call.nd rfl (Or.inl rfl) q_dict0) (qss_cons (qs_for hpo rfl (qi_any (q_lc (own := [("_law_param", 9)]) rfl sc__law_call.nd (qi_any (q_var 1 (pv 1))) (blkOk_by (N := ["_law_box_here", "_law_prow", "_law_names_here", "_law_places", "_law_many", "_law_given", "_law_wished", "_law_name", "_law_k", "_law_param"]) (sc := defScope s__law_call) (by decide +kernel)) (fun _ _ _ _ _ => (qg_name 9 sc__law_call.nd rfl (Or.inl rfl))) (fun _ _ _ _ _ => (qts_one (qt_cmp (op_in2_x T.gt hu64) (q_ix (ix2_x T.gt hu64) (q_var 9 (pv 9)) q_int (fun _ _ => rfl)) (q_lst (qa_cons q_str (qa_cons q_str qa_nil))) (by rfl)))) (fun _ _ _ _ _ => (q_ix (ix2_x T.gt hu64) (q_var 9 (pv 9)) q_int (fun _ _ => rfl))))) (qg_name 7 sc__law_call.nd rfl (Or.inl rfl)) (qss_one (qs_if (PW.pt (qw_and (qt_cmp (op_notIn2_x T.gt hu64) (q_var 7 (pv 7)) (q_slice sl_x (q_var 3 (pv 3)) qo_none (qo_some (q_var 4 (pv 4)))) (by rfl)) (qw_and1 (qt_cmp op_gt_x (q_call ((ok__law_take T).mono (by decide)) hr hgd rfl T.g__law_take T.d__law_take.kp (b__law_take T) tk (qa_cons (q_var 0 (pv 0)) (qa_cons q_int qa_nil))) q_int (nomark _))))) (qss_one (qs_setIx hu1 (q_var 6 (pv 6)) (q_var 7 (pv 7)) (q_call ((ok__law_worth T (n := 12)).mono (by decide)) hr hgd rfl T.g__law_worth T.d__law_worth.kp (b__law_worth T) tk (qa_cons (q_var 0 (pv 0)) (qa_cons q_int qa_nil))))) qss_nil))) (qss_cons (qs_for hpo rfl (qi_range1 rfl T.n_range (q_call ((ok__law_take T).mono (by decide)) hr hgd rfl T.g__law_take T.d__law_take.kp (b__law_take T) tk (qa_cons (q_var 0 (pv 0)) (qa_cons q_int qa_nil)))) (qg_name 8 sc__law_call.nd rfl (Or.inl rfl)) (qss_one (qs_setIx hu1 (q_var 6 (pv 6)) (q_ix (ix2_x T.gt hu64) (q_var 2 (pv 2)) (q_call ((ok__law_take T).mono (by decide)) hr hgd rfl T.g__law_take T.d__law_take.kp (b__law_take T) tk (qa_cons (q_var 0 (pv 0)) (qa_cons (q_callB call_lenD_x rfl T.n_len bt_len (qa_cons (q_var 2 (pv 2)) qa_nil)) qa_nil))) (fun _ _ => rfl)) (q_call ((ok__law_worth T (n := 12)).mono (by decide)) hr hgd rfl T.g__law_worth T.d__law_worth.kp (b__law_worth T) tk (qa_cons (q_var 0 (pv 0)) (qa_cons q_int qa_nil)))))) (qss_one (qs_ret (q_lst (qa_cons (q_var 5 (pv 5)) (qa_cons (q_var 6 (pv 6)) qa_nil)))))))))))
theorem b__law_deep (T : Facts K mg w fd) : Binds K (fd "_law_deep") ["_law_worth_here"] [] := T.d__law_deep.bindsN fun _ _ _ _ _ _ us hl => match us, hl with | [_], _ => rfl
theorem ok__law_deep (T : Facts K mg w fd) : ∀ {n : Nat}, FnG P w K mg base (0 + 1 + n) (He.ga K "_law_deep") (fd "_law_deep") ["_law_worth_here"] (spX ⟨K, mg, w⟩ 1 (f__law_deep n))
  | 0 => ⟨fun _ _ _ _ ⟨_, _, _, _, r, hl, _⟩ => by rw [← r.length, hl]; rfl, fun _ _ _ _ _ _ _ _ _ _ _ _ _ _ ⟨_, _, _, _, _, _, z⟩ => z.elim⟩
  | n + 1 => fn_x (k := 0 + 1 + n) T.d__law_deep sc__law_deep fun cdv A outer s H E hr hgd => by
    have hself := ok__law_deep T (n := n)
    have tk := takes_of (X := cxOf (L2.CX P w) P w K mg base ["_law_worth_here", "_law_part"] "_law_deep" (defScope s__law_deep) (He.ga K "_law_deep") cdv A outer s H E) (E := E) rfl rfl rfl rfl
    have hpo := passes_of (X := cxOf (L2.CX P w) P w K mg base ["_law_worth_here", "_law_part"] "_law_deep" (defScope s__law_deep) (He.ga K "_law_deep") cdv A outer s H E) rfl
    have hu1 := hu_of hr; have hu64 := hr.units; have hu70 := un70 hr
    exact (qss_cons (qs_if (PW.pt (qw_or (qt_not (qt_tru (q_callB call_isi_x rfl T.n_isinstance bt_isinstance (qa_cons (q_var 0 (pv 0)) (qa_cons (q_ty rfl T.n_tuple bt_tuple) qa_nil))))) (qw_or1 (qt_cmp (op_eq_x hu64) (q_ix (ix2_x T.gt hu64) (q_var 0 (pv 0)) q_int (fun _ _ => rfl)) q_str (nomark _))))) (qss_one (qs_ret q_int)) qss_nil) (qss_one (qs_ret (q_op op_add_x q_int (q_callB (call_maxL_x rfl) rfl T.n_max bt_max (qa_cons (q_op op_add_x (q_lst (qa_cons q_int qa_nil)) (q_lc (own := [("_law_part", 1)]) rfl sc__law_deep.nd (qi_any (q_ix (ix2_x T.gt hu64) (q_var 0 (pv 0)) q_int (fun _ _ => rfl))) (blkOk_by (N := ["_law_worth_here", "_law_part"]) (sc := defScope s__law_deep) (by decide +kernel)) (fun _ _ _ _ _ => (qg_name 1 sc__law_deep.nd rfl (Or.inl rfl))) (fun _ _ _ _ _ => qts_nil) (fun _ _ _ _ _ => (q_call hself hr hgd rfl T.g__law_deep T.d__law_deep.kp (b__law_deep T) takes0 (qa_cons (q_var 1 (pv 1)) qa_nil))))) qa_nil))))))
theorem b__law_due (T : Facts K mg w fd) : Binds K (fd "_law_due") ["_law_prow", "_law_given", "_law_wished"] [] := T.d__law_due.bindsN fun _ _ _ _ _ _ us hl => match us, hl with | [_, _, _], _ => rfl
theorem ok__law_due (T : Facts K mg w fd) : FnG P w K mg base 14 (He.ga K "_law_due") (fd "_law_due") ["_law_prow", "_law_given", "_law_wished"] (spX ⟨K, mg, w⟩ 3 f__law_due) :=
  fn_x (k := 13) T.d__law_due sc__law_due fun cdv A outer s H E hr hgd => by
    have tk := takes_of (X := cxOf (L2.CX P w) P w K mg base ["_law_prow", "_law_given", "_law_wished", "_law_places", "_law_rest", "_law_worths", "_law_left", "_law_by_place", "_law_name", "_law_sorts", "_law_told", "_law_param"] "_law_due" (defScope s__law_due) (He.ga K "_law_due") cdv A outer s H E) (E := E) rfl rfl rfl rfl
    have hpo := passes_of (X := cxOf (L2.CX P w) P w K mg base ["_law_prow", "_law_given", "_law_wished", "_law_places", "_law_rest", "_law_worths", "_law_left", "_law_by_place", "_law_name", "_law_sorts", "_law_told", "_law_param"] "_law_due" (defScope s__law_due) (He.ga K "_law_due") cdv A outer s H E) rfl
    have hu1 := hu_of hr; have hu64 := hr.units; have hu70 := un70 hr
    exact (qss_cons (qs_setLc (own := [("_law_param", 11)]) 3 rfl sc__law_due.nd rfl rfl (sw_true rfl rfl rfl (by decide +kernel)) (qi_any (q_var 0 (pv 0))) (blkOk_by (N := ["_law_prow", "_law_given", "_law_wished", "_law_places", "_law_rest", "_law_worths", "_law_left", "_law_by_place", "_law_name", "_law_sorts", "_law_told", "_law_param"]) (sc := defScope s__law_due) (by decide +kernel)) (fun _ _ _ _ _ => (qg_name 11 sc__law_due.nd rfl (Or.inl rfl))) (fun _ _ _ _ _ => (qts_one (qt_cmp (op_in2_x T.gt hu64) (q_ix (ix2_x T.gt hu64) (q_var 11 (pv 11)) q_int (fun _ _ => rfl)) (q_lst (qa_cons q_str (qa_cons q_str qa_nil))) (by rfl)))) (fun _ _ _ _ _ => (q_ix (ix2_x T.gt hu64) (q_var 11 (pv 11)) q_int (fun _ _ => rfl)))) (qss_cons (qs_setLc (own := [("_law_param", 11)]) 4 rfl sc__law_due.nd rfl rfl (sw_true rfl rfl rfl (by decide +kernel)) (qi_any (q_var 0 (pv 0))) (blkOk_by (N := ["_law_prow", "_law_given", "_law_wished", "_law_places", "_law_rest", "_law_worths", "_law_left", "_law_by_place", "_law_name", "_law_sorts", "_law_told", "_law_param"]) (sc := defScope s__law_due) (by decide +kernel)) (fun _ _ _ _ _ => (qg_name 11 sc__law_due.nd rfl (Or.inl rfl))) (fun _ _ _ _ _ => (qts_one (qt_cmp (op_eq_x hu64) (q_ix (ix2_x T.gt hu64) (q_var 11 (pv 11)) q_int (fun _ _ => rfl)) q_str (nomark _)))) (fun _ _ _ _ _ => (q_ix (ix2_x T.gt hu64) (q_var 11 (pv 11)) q_int (fun _ _ => rfl)))) (qss_cons (qs_set 5 sc__law_due.nd rfl (Or.inl rfl) (q_callTy (call_dictOf_x rfl) rfl T.n_dict bt_dict (qa_cons (q_listZip rfl T.n_list rfl T.n_zip (q_var 3 (pv 3)) (q_var 1 (pv 1))) qa_nil))) (qss_cons (qs_set 6 sc__law_due.nd rfl (Or.inl rfl) (q_callTy call_tuple_x rfl T.n_tuple bt_tuple (qa_cons (q_slice sl_x (q_var 1 (pv 1)) (qo_some (q_callB call_lenD_x rfl T.n_len bt_len (qa_cons (q_var 3 (pv 3)) qa_nil))) qo_none) qa_nil))) (qss_cons (qs_if (qt_cmp (op_ne_x hu64) (q_var 6 (pv 6)) (q_tup qa_nil) (nomark _)) (qss_cons (qs_if (PW.pt (qw_or (qt_cmp (op_eq_x hu64) (q_var 4 (pv 4)) (q_lst qa_nil) (nomark _)) (qw_or1 (qt_cmp op_gt_x (q_call ((ok__law_deep T (n := 12)).mono (by decide)) hr hgd rfl T.g__law_deep T.d__law_deep.kp (b__law_deep T) tk (qa_cons (q_tup (qa_cons q_str (qa_cons (q_var 6 (pv 6)) qa_nil))) qa_nil)) q_int (nomark _))))) (qss_one (qs_ret (q_tup (qa_cons q_str (qa_cons (q_callB call_lenD_x rfl T.n_len bt_len (qa_cons (q_var 1 (pv 1)) qa_nil)) qa_nil))))) qss_nil) (qss_one (qs_setIx hu1 (q_var 5 (pv 5)) (q_ix (ix2_x T.gt hu64) (q_var 4 (pv 4)) q_int (fun _ _ => rfl)) (q_tup (qa_cons q_str (qa_cons (q_var 6 (pv 6)) qa_nil)))))) qss_nil) (qss_cons (qs_set 7 sc__law_due.nd rfl (Or.inl rfl) (q_callTy (call_listD_x rfl) rfl T.n_list bt_list (qa_cons (q_var 5 (pv 5)) qa_nil))) (qss_cons (qs_lock 2 tk (fun w_ tk => (qs_for hpo rfl (qi_keys 2 (pv 2)) (qg_name 8 sc__law_due.nd rfl (Or.inr rfl)) (qss_cons (qs_setLc (own := [("_law_param", 11)]) 9 rfl sc__law_due.nd rfl rfl (sw_true rfl rfl rfl (by decide +kernel)) (qi_any (q_var 0 (pv 0))) (blkOk_by (N := ["_law_prow", "_law_given", "_law_wished", "_law_places", "_law_rest", "_law_worths", "_law_left", "_law_by_place", "_law_name", "_law_sorts", "_law_told", "_law_param"]) (sc := defScope s__law_due) (by decide +kernel)) (fun _ _ _ _ _ => (qg_name 11 sc__law_due.nd rfl (Or.inl rfl))) (fun _ _ _ _ _ => (qts_one (qt_cmp (op_eq_x hu64) (q_ix (ix2_x T.gt hu64) (q_var 11 (pv 11)) q_int (fun _ _ => rfl)) (q_var 8 (pv 8)) (nomark _)))) (fun _ _ _ _ _ => (q_ix (ix2_x T.gt hu64) (q_var 11 (pv 11)) q_int (fun _ _ => rfl)))) (qss_cons (qs_if (PW.pt (qw_or (qt_cmp (op_eq_x hu64) (q_var 9 (pv 9)) (q_lst qa_nil) (nomark _)) (qw_or1 (qt_cmp (op_eq_x hu64) (q_var 9 (pv 9)) (q_lst (qa_cons q_str qa_nil)) (nomark _))))) (qss_one (qs_ret (q_tup (qa_cons q_str (qa_cons (q_var 8 (pv 8)) qa_nil))))) qss_nil) (qss_cons (qs_if (qt_cmp (op_in2_x T.gt hu64) (q_var 8 (pv 8)) (q_var 7 (pv 7)) (by rfl)) (qss_one (qs_ret (q_tup (qa_cons q_str (qa_cons (q_var 8 (pv 8)) qa_nil))))) qss_nil) (qss_one (qs_setIx hu1 (q_var 5 (pv 5)) (q_var 8 (pv 8)) (q_ix (ix2_x T.gt hu64) (q_var 2 (pv 2)) (q_var 8 (pv 8)) (fun _ _ => rfl)))))))))) (qss_cons (qs_set 10 sc__law_due.nd rfl (Or.inl rfl) q_dict0) (qss_cons (qs_for hpo rfl (qi_any (q_var 0 (pv 0))) (qg_name 11 sc__law_due.nd rfl (Or.inl rfl)) (qss_cons (qs_if (PW.pt (qw_and (qt_cmp (op_notIn2_x T.gt hu64) (q_ix (ix2_x T.gt hu64) (q_var 11 (pv 11)) q_int (fun _ _ => rfl)) (q_var 5 (pv 5)) (by rfl)) (qw_and1 (qt_cmp (op_in2_x T.gt hu64) (q_ix (ix2_x T.gt hu64) (q_var 11 (pv 11)) q_int (fun _ _ => rfl)) (q_lst (qa_cons q_str (qa_cons q_str qa_nil))) (by rfl))))) (qss_one (qs_ret (q_tup (qa_cons q_str (qa_cons (q_ix (ix2_x T.gt hu64) (q_var 11 (pv 11)) q_int (fun _ _ => rfl)) qa_nil))))) qss_nil) (qss_one (qs_setIx hu1 (q_var 10 (pv 10)) (q_ix (ix2_x T.gt hu64) (q_var 11 (pv 11)) q_int (fun _ _ => rfl)) (q_get hu1 (q_var 5 (pv 5)) (q_ix (ix2_x T.gt hu64) (q_var 11 (pv 11)) q_int (fun _ _ => rfl)) (q_ix (ix2_x T.gt hu64) (q_op op_add_x (q_var 11 (pv 11)) (q_tup (qa_cons (q_tup (qa_cons q_str (qa_cons (q_tup qa_nil) qa_nil))) qa_nil))) q_int (fun _ _ => rfl))))))) (qss_one (qs_ret (q_tup (qa_cons q_str (qa_cons (q_var 10 (pv 10)) qa_nil))))))))))))))
theorem b__law_found (T : Facts K mg w fd) : Binds K (fd "_law_found") ["_law_prow", "_law_given", "_law_wished"] [] := T.d__law_found.bindsN fun _ _ _ _ _ _ us hl => match us, hl with | [_, _, _], _ => rfl
theorem ok__law_found (T : Facts K mg w fd) : FnG P w K mg base 21 (He.ga K "_law_found") (fd "_law_found") ["_law_prow", "_law_given", "_law_wished"] (spX ⟨K, mg, w⟩ 3 f__law_found) :=
  fn_x (k := 20) T.d__law_found sc__law_found fun cdv A outer s H E hr hgd => by
    have tk := takes_of (X := cxOf (L2.CX P w) P w K mg base ["_law_prow", "_law_given", "_law_wished", "e"] "_law_found" (defScope s__law_found) (He.ga K "_law_found") cdv A outer s H E) (E := E) rfl rfl rfl rfl
    have hpo := passes_of (X := cxOf (L2.CX P w) P w K mg base ["_law_prow", "_law_given", "_law_wished", "e"] "_law_found" (defScope s__law_found) (He.ga K "_law_found") cdv A outer s H E) rfl
    have hu1 := hu_of hr; have hu64 := hr.units; have hu70 := un70 hr
    exact (qss_one (qs_try T.ct rfl rfl sc__law_found.nd tk rfl (fun Wb pn xe tk hpo => (qss_one (qs_ret (q_tup (qa_cons q_str (qa_cons (q_callK (ks := ["named", "args", "params"]) ((ok_matched T).mono (by decide)) hr hgd rfl T.g_matched T.d_matched.kp (bk_matched_named_args_params T) tk (qk_cons (q_var 2 (pv 2)) (qk_cons (q_var 1 (pv 1)) (qk_cons (q_var 0 (pv 0)) qk_nil))) (fun _ _ _ _ z => len_cons (fun _ _ _ _ z => len_cons (fun _ _ _ _ z => len_cons (fun _ _ _ _ z => len_nil z) z) z) z)) qa_nil)))))) (.named (tn_one ⟨rfl, by decide, .inl T.g_Fault⟩) (by decide) rfl rfl (fun a oe cls d pn c fs hz hv hc ⟨_, hl⟩ => (qss_one (qs_ret (q_tup (qa_cons (q_fld T.ct hl (by decide) hz hv hc (pv 3)) (qa_cons (q_fld T.ct hl (by decide) hz hv hc (pv 3)) qa_nil)))))) (.plain (tn_three ⟨rfl, by decide, .inl T.g_Barred⟩ ⟨rfl, by decide, .inl T.g_InnerError⟩ ⟨rfl, by decide, .inl T.g_Missing⟩) (by decide) (fun a oe cls d pn c fs hz hv hc hl => (qss_one (qs_ret (q_tup (qa_cons q_str (qa_cons q_non qa_nil)))))) .nil))))
theorem b__law_same (T : Facts K mg w fd) : Binds K (fd "_law_same") ["_law_found_here", "_law_due_here"] [] := T.d__law_same.bindsN fun _ _ _ _ _ _ us hl => match us, hl with | [_, _], _ => rfl
theorem ok__law_same (T : Facts K mg w fd) : FnG P w K mg base 1 (He.ga K "_law_same") (fd "_law_same") ["_law_found_here", "_law_due_here"] (spX ⟨K, mg, w⟩ 2 f__law_same) :=
  fn_x (k := 0) T.d__law_same sc__law_same fun cdv A outer s H E hr hgd => by
    have tk := takes_of (X := cxOf (L2.CX P w) P w K mg base ["_law_found_here", "_law_due_here"] "_law_same" (defScope s__law_same) (He.ga K "_law_same") cdv A outer s H E) (E := E) rfl rfl rfl rfl
    have hpo := passes_of (X := cxOf (L2.CX P w) P w K mg base ["_law_found_here", "_law_due_here"] "_law_same" (defScope s__law_same) (He.ga K "_law_same") cdv A outer s H E) rfl
    have hu1 := hu_of hr; have hu64 := hr.units; have hu70 := un70 hr
    exact (qss_cons (qs_if (qt_cmp (op_ne_x hu64) (q_ix (ix2_x T.gt hu64) (q_var 1 (pv 1)) q_int (fun _ _ => rfl)) q_str (nomark _)) (qss_one (qs_ret (q_cmp (op_eq_x hu64) (q_callB (call_repr_x hu70 hgd T.sm) rfl T.n_repr bt_repr (qa_cons (q_var 0 (pv 0)) qa_nil)) (q_callB (call_repr_x hu70 hgd T.sm) rfl T.n_repr bt_repr (qa_cons (q_var 1 (pv 1)) qa_nil)) (nomark _)))) qss_nil) (qss_one (qs_ret (q_and (q_cmp (op_eq_x hu64) (q_ix (ix2_x T.gt hu64) (q_var 0 (pv 0)) q_int (fun _ _ => rfl)) q_str (nomark _)) (q_one (q_cmp (op_eq_x hu64) (q_callB (call_repr_x hu70 hgd T.sm) rfl T.n_repr bt_repr (qa_cons (q_items rfl T.n_list (q_ix (ix2_x T.gt hu64) (q_var 0 (pv 0)) q_int (fun _ _ => rfl))) qa_nil)) (q_callB (call_repr_x hu70 hgd T.sm) rfl T.n_repr bt_repr (qa_cons (q_items rfl T.n_list (q_ix (ix2_x T.gt hu64) (q_var 1 (pv 1)) q_int (fun _ _ => rfl))) qa_nil)) (nomark _)))))))
theorem b__law_right (T : Facts K mg w fd) : Binds K (fd "_law_right") ["_law_box_here", "_law_prow", "_law_names_here"] [] := T.d__law_right.bindsN fun _ _ _ _ _ _ us hl => match us, hl with | [_, _, _], _ => rfl
theorem ok__law_right (T : Facts K mg w fd) : FnG P w K mg base 22 (He.ga K "_law_right") (fd "_law_right") ["_law_box_here", "_law_prow", "_law_names_here"] (spX ⟨K, mg, w⟩ 3 f__law_right) :=
  fn_x (k := 21) T.d__law_right sc__law_right fun cdv A outer s H E hr hgd => by
    have tk := takes_of (X := cxOf (L2.CX P w) P w K mg base ["_law_box_here", "_law_prow", "_law_names_here", "_law_given", "_law_wished", "_law_due_here", "_law_handed", "_law_first"] "_law_right" (defScope s__law_right) (He.ga K "_law_right") cdv A outer s H E) (E := E) rfl rfl rfl rfl
    have hpo := passes_of (X := cxOf (L2.CX P w) P w K mg base ["_law_box_here", "_law_prow", "_law_names_here", "_law_given", "_law_wished", "_law_due_here", "_law_handed", "_law_first"] "_law_right" (defScope s__law_right) (He.ga K "_law_right") cdv A outer s H E) rfl
    have hu1 := hu_of hr; have hu64 := hr.units; have hu70 := un70 hr
    exact (qss_cons (qs_asgE rfl (q_call ((ok__law_call T).mono (by decide)) hr hgd rfl T.g__law_call T.d__law_call.kp (b__law_call T) tk (qa_cons (q_var 0 (pv 0)) (qa_cons (q_var 1 (pv 1)) (qa_cons (q_var 2 (pv 2)) qa_nil)))) (qgs_cons (qg_name 3 sc__law_right.nd rfl (Or.inl rfl)) (qgs_cons (qg_name 4 sc__law_right.nd rfl (Or.inl rfl)) qgs_nil))) (qss_cons (qs_set 5 sc__law_right.nd rfl (Or.inl rfl) (q_call ((ok__law_due T).mono (by decide)) hr hgd rfl T.g__law_due T.d__law_due.kp (b__law_due T) tk (qa_cons (q_var 1 (pv 1)) (qa_cons (q_var 3 (pv 3)) (qa_cons (q_var 4 (pv 4)) qa_nil))))) (qss_cons (qs_set 6 sc__law_right.nd rfl (Or.inl rfl) (q_lst (qa_cons (q_callTy (call_listD_x rfl) rfl T.n_list bt_list (qa_cons (q_var 3 (pv 3)) qa_nil)) (qa_cons (q_callTy (call_dictOf_x rfl) rfl T.n_dict bt_dict (qa_cons (q_var 4 (pv 4)) qa_nil)) qa_nil)))) (qss_cons (qs_set 7 sc__law_right.nd rfl (Or.inl rfl) (q_call ((ok__law_found T).mono (by decide)) hr hgd rfl T.g__law_found T.d__law_found.kp (b__law_found T) tk (qa_cons (q_var 1 (pv 1)) (qa_cons (q_ix (ix2_x T.gt hu64) (q_var 6 (pv 6)) q_int (fun _ _ => rfl)) (qa_cons (q_ix (ix2_x T.gt hu64) (q_var 6 (pv 6)) q_int (fun _ _ => rfl)) qa_nil))))) (qss_cons (qs_if (PW.pt (qw_or (qt_not (qt_tru (q_call ((ok__law_same T).mono (by decide)) hr hgd rfl T.g__law_same T.d__law_same.kp (b__law_same T) tk (qa_cons (q_var 7 (pv 7)) (qa_cons (q_var 5 (pv 5)) qa_nil))))) (qw_or1 (qt_cmp (op_ne_x hu64) (q_callB (call_repr_x hu70 hgd T.sm) rfl T.n_repr bt_repr (qa_cons (q_var 6 (pv 6)) qa_nil)) (q_callB (call_repr_x hu70 hgd T.sm) rfl T.n_repr bt_repr (qa_cons (q_lst (qa_cons (q_var 3 (pv 3)) (qa_cons (q_var 4 (pv 4)) qa_nil))) qa_nil)) (nomark _))))) (qss_one (qs_ret q_bl)) qss_nil) (qss_cons (qs_expr (q_bm PySem.F.plainAttrs_list PySem.F.slot_list_append PySem.F.type_list_append mt_append_x (q_ix (ix2_x T.gt hu64) (q_var 6 (pv 6)) q_int (fun _ _ => rfl)) (qa_cons q_int qa_nil))) (qss_cons (qs_setIx hu1 (q_ix (ix2_x T.gt hu64) (q_var 6 (pv 6)) q_int (fun _ _ => rfl)) q_str q_int) (qss_cons (qs_if (qt_not (qt_tru (q_call ((ok__law_same T).mono (by decide)) hr hgd rfl T.g__law_same T.d__law_same.kp (b__law_same T) tk (qa_cons (q_var 7 (pv 7)) (qa_cons (q_var 5 (pv 5)) qa_nil))))) (qss_one (qs_ret q_bl)) qss_nil) (qss_cons (qs_if (qt_cmp (op_eq_x hu64) (q_ix (ix2_x T.gt hu64) (q_var 7 (pv 7)) q_int (fun _ _ => rfl)) q_str (nomark _)) (qss_one (qs_expr (q_clear (q_ix (ix2_x T.gt hu64) (q_var 7 (pv 7)) q_int (fun _ _ => rfl))))) qss_nil) (qss_one (qs_ret (q_and (q_call ((ok__law_same T).mono (by decide)) hr hgd rfl T.g__law_same T.d__law_same.kp (b__law_same T) tk (qa_cons (q_call ((ok__law_found T).mono (by decide)) hr hgd rfl T.g__law_found T.d__law_found.kp (b__law_found T) tk (qa_cons (q_var 1 (pv 1)) (qa_cons (q_callTy call_tuple_x rfl T.n_tuple bt_tuple (qa_cons (q_var 3 (pv 3)) qa_nil)) (qa_cons (q_var 4 (pv 4)) qa_nil)))) (qa_cons (q_var 5 (pv 5)) qa_nil))) (q_one (q_call ((ok__law_same T).mono (by decide)) hr hgd rfl T.g__law_same T.d__law_same.kp (b__law_same T) tk (qa_cons (q_call ((ok__law_found T).mono (by decide)) hr hgd rfl T.g__law_found T.d__law_found.kp (b__law_found T) tk (qa_cons (q_var 1 (pv 1)) (qa_cons (q_var 3 (pv 3)) (qa_cons (q_var 4 (pv 4)) qa_nil)))) (qa_cons (q_var 5 (pv 5)) qa_nil))))))))))))))))
theorem b_law (T : Facts K mg w fd) : Binds K (fd "law") ["_law_script"] [] := T.d_law.bindsN fun _ _ _ _ _ _ us hl => match us, hl with | [_], _ => rfl
theorem ok_law (T : Facts K mg w fd) : FnG P w K mg base 23 (He.ga K "law") (fd "law") ["_law_script"] (spX ⟨K, mg, w⟩ 1 f_law) :=
  fn_x (k := 22) T.d_law sc_law fun cdv A outer s H E hr hgd => by
    have tk := takes_of (X := cxOf (L2.CX P w) P w K mg base ["_law_script", "_law_k", "_law_box_here", "_law_names_here", "_law_prow", "_law_turn"] "law" (defScope s_law) (He.ga K "law") cdv A outer s H E) (E := E) rfl rfl rfl rfl
    have hpo := passes_of (X := cxOf (L2.CX P w) P w K mg base ["_law_script", "_law_k", "_law_box_here", "_law_names_here", "_law_prow", "_law_turn"] "law" (defScope s_law) (He.ga K "law") cdv A outer s H E) rfl
    have hu1 := hu_of hr; have hu64 := hr.units; have hu70 := un70 hr
    exact (qss_cons (qs_for hpo rfl (qi_range1 rfl T.n_range (q_callB (call_maxL_x rfl) rfl T.n_max bt_max (qa_cons q_int (qa_cons (q_callB (call_min_x rfl) rfl T.n_min bt_min (qa_cons q_int (qa_cons (q_callB call_lenD_x rfl T.n_len bt_len (qa_cons (q_var 0 (pv 0)) qa_nil)) qa_nil))) qa_nil)))) (qg_name 1 sc_law.nd rfl (Or.inl rfl)) (qss_cons (qs_set 2 sc_law.nd rfl (Or.inl rfl) (q_call ((ok__law_box T).mono (by decide)) hr hgd rfl T.g__law_box T.d__law_box.kp (b__law_box T) tk (qa_cons (q_call ((ok__law_cell T).mono (by decide)) hr hgd rfl T.g__law_cell T.d__law_cell.kp (b__law_cell T) tk (qa_cons (q_var 0 (pv 0)) (qa_cons (q_var 1 (pv 1)) qa_nil))) qa_nil))) (qss_cons (qs_set 3 sc_law.nd rfl (Or.inl rfl) (q_call ((ok__law_names T).mono (by decide)) hr hgd rfl T.g__law_names T.d__law_names.kp (b__law_names T) tk (qa_cons (q_var 2 (pv 2)) (qa_cons q_int qa_nil)))) (qss_cons (qs_set 4 sc_law.nd rfl (Or.inl rfl) (q_call ((ok__law_params T).mono (by decide)) hr hgd rfl T.g__law_params T.d__law_params.kp (b__law_params T) tk (qa_cons (q_var 2 (pv 2)) (qa_cons (q_slice sl_x (q_var 3 (pv 3)) qo_none (qo_some q_int)) (qa_cons q_int qa_nil))))) (qss_one (qs_for hpo rfl (qi_range1 rfl T.n_range q_int) (qg_name 5 sc_law.nd rfl (Or.inl rfl)) (qss_one (qs_if (qt_not (qt_tru (q_call ((ok__law_right T).mono (by decide)) hr hgd rfl T.g__law_right T.d__law_right.kp (b__law_right T) tk (qa_cons (q_var 2 (pv 2)) (qa_cons (q_var 4 (pv 4)) (qa_cons (q_var 3 (pv 3)) qa_nil)))))) (qss_one (qs_ret q_bl)) qss_nil)))))))) (qss_one (qs_ret q_bl)))
end
end K

set_option Elab.async false
set_option linter.all false
set_option maxRecDepth 100000
set_option maxHeartbeats 4000000
namespace XL
open PySem L2 EX
/-! ### heaps that point into themselves -/
def Cl (h : Hh) : Prop := h.all (Ob.und h.length) = true
structure Bs where
  x : Int
  y : Int
  z : Int
def bx (s : Bs) : Ob := .lst [.int s.x, .int s.y, .int s.z]
structure Gd (s : Bs) : Prop where
  x0 : 0 ≤ s.x
  y0 : 0 ≤ s.y
  y1 : s.y < 2 ^ 31
  z0 : 0 ≤ s.z
def zM : Int := 2 ^ 22
mutual
theorem und_le {n m : Nat} (h : n ≤ m) : ∀ {v : Val}, v.und n = true → v.und m = true
  | .non, _ => rfl
  | .bl _, _ => rfl
  | .int _, _ => rfl
  | .str _, _ => rfl
  | .ref _, _ => rfl
  | .ty _, _ => rfl
  | .tup xs, e => by
    have e : undL n xs = true := by simpa [Val.und] using e
    simpa [Val.und] using undL_le h e
  | .scr xs, e => by
    have e : undL n xs = true := by simpa [Val.und] using e
    simpa [Val.und] using undL_le h e
  | .loc k, e => by
    have e : k < n := by simpa [Val.und] using e
    have : k < m := by omega
    simpa [Val.und] using this
theorem undL_le {n m : Nat} (h : n ≤ m) : ∀ {xs : List Val}, undL n xs = true → undL m xs = true
  | [], _ => rfl
  | x :: xs, e => by
    simp only [undL, Bool.and_eq_true] at e ⊢
    exact ⟨und_le h e.1, undL_le h e.2⟩
end
theorem ob_le {n m : Nat} (h : n ≤ m) {o : Ob} (e : o.und n = true) : o.und m = true := by
  cases o with
  | lst xs => exact undL_le h e
  | dct lk kvs => exact undL_le h e
  | ins C fs => exact undL_le h e
theorem undL_of {n : Nat} : ∀ {xs : List Val}, (∀ x ∈ xs, x.und n = true) → undL n xs = true
  | [], _ => rfl
  | x :: xs, h => by
    simp only [undL, Bool.and_eq_true]
    exact ⟨h x (.head _), undL_of fun y m => h y (.tail _ m)⟩
theorem of_undL {n : Nat} : ∀ {xs : List Val}, undL n xs = true → ∀ x ∈ xs, x.und n = true
  | [], _, _, m => nomatch m
  | x :: xs, h, y, m => by
    simp only [undL, Bool.and_eq_true] at h
    rcases List.mem_cons.mp m with rfl | m
    · exact h.1
    · exact of_undL h.2 y m
theorem Cl.app {h : Hh} {o : Ob} (c : Cl h) (ho : o.und (h.length + 1) = true) : Cl (h ++ [o]) := by
  unfold Cl at c ⊢
  rw [List.all_append, List.length_append, List.length_singleton]
  rw [List.all_eq_true] at c
  rw [Bool.and_eq_true, List.all_eq_true]
  exact ⟨fun x m => ob_le (Nat.le_succ _) (c x m), by simpa using ho⟩
theorem Cl.put {h : Hh} (c : Cl h) (n : Nat) {o : Ob} (ho : o.und h.length = true) : Cl (h.set n o) := by
  unfold Cl at c ⊢
  rw [List.length_set]
  rw [List.all_eq_true] at c ⊢
  intro x m
  rcases List.mem_or_eq_of_mem_set m with m | m
  · exact c x m
  · rw [m]; exact ho
theorem Cl.get {h : Hh} (c : Cl h) {n : Nat} {o : Ob} (e : h[n]? = some o) : o.und h.length = true := List.all_eq_true.mp c o (List.mem_of_getElem? e)
theorem Cl.app2 {h : Hh} {o : Ob} (c : Cl h) (ho : o.und 0 = true) : Cl (h ++ [o]) := c.app (ob_le (Nat.zero_le _) ho)
theorem Cl.put2 {h : Hh} (c : Cl h) (n : Nat) {o : Ob} (ho : o.und 0 = true) : Cl (h.set n o) := c.put n (ob_le (Nat.zero_le _) ho)
theorem Cl.apps {h : Hh} (c : Cl h) : ∀ {g : Hh}, (∀ o ∈ g, o.und 0 = true) → Cl (h ++ g)
  | [], _ => by rwa [List.append_nil]
  | o :: g, hg => by
    have := Cl.apps (c.app2 (hg o (.head _))) fun p m => hg p (.tail _ m)
    rwa [List.append_assoc] at this
theorem bx_und (s : Bs) : (bx s).und 0 = true := rfl
/-! ### calls -/
theorem gc_pre {n : Nat} {v : Val} {h g : Hh} (c : Cl h) (hn : h.length = n) (hv : v.und n = true) : gc n v (h ++ g) = h := by
  subst hn
  unfold gc
  rw [List.take_left']
  · rw [if_pos ⟨hv, c⟩]
  · rfl
theorem gcX_pre {n : Nat} {fs : List (Str × Val)} {h g : Hh} (c : Cl h) (hn : h.length = n) (hv : undL n (fs.map (·.2)) = true) : gcX n fs (h ++ g) = h := by
  subst hn
  unfold gcX
  rw [List.take_left']
  · rw [if_pos ⟨hv, c⟩]
  · rfl
theorem gc_loc {n m : Nat} {h : Hh} (hm : n ≤ m) : gc n (.loc m) h = h := by
  unfold gc
  rw [if_neg]
  intro z
  have := z.1
  simp only [Val.und, decide_eq_true_eq] at this
  omega
def en (N : Nat) (as : List Val) : En := as.map some ++ List.replicate (N - as.length) none
theorem call_rt {N : Nat} {body : XS} {as : List Val} {h h1 : Hh} {v : Val} (p : body (en N as) h = .rt v h1) : callF N body as h = .ok v (gc h.length v h1) := by
  unfold callF
  have : body (as.map some ++ List.replicate (N - as.length) none) h = .rt v h1 := p
  rw [this]
/-- a call that hands back a plain value and leaves the heap alone -/
theorem call_pv {N : Nat} {body : XS} {as : List Val} {h g : Hh} {v : Val} (c : Cl h) (hv : v.und 0 = true) (p : body (en N as) h = .rt v (h ++ g)) : callF N body as h = .ok v h := by
  rw [call_rt p, gc_pre c rfl (und_le (Nat.zero_le _) hv)]
theorem call_bx {N : Nat} {body : XS} {as : List Val} {h g : Hh} {v : Val} {b : Nat} {s : Bs} (c : Cl h) (hv : v.und 0 = true) (p : body (en N as) h = .rt v (h.set b (bx s) ++ g)) : callF N body as h = .ok v (h.set b (bx s)) := by
  rw [call_rt p, gc_pre (c.put2 b (bx_und s)) (by rw [List.length_set]) (und_le (Nat.zero_le _) hv)]
theorem call_nx {N : Nat} {body : XS} {as : List Val} {h g : Hh} {e : En} (c : Cl h) (p : body (en N as) h = .nx e (h ++ g)) : callF N body as h = .ok .non h := by
  unfold callF
  have : body (as.map some ++ List.replicate (N - as.length) none) h = .nx e (h ++ g) := p
  rw [this]
  show Res.ok Val.non (gc h.length .non (h ++ g)) = _
  rw [gc_pre c rfl rfl]
theorem call_ex {N : Nat} {body : XS} {as : List Val} {h g : Hh} {e : En} {cl : Str} {fs : List (Str × Val)} (c : Cl h) (hv : undL 0 (fs.map (·.2)) = true) (p : body (en N as) h = .exc cl fs e (h ++ g)) : callF N body as h = .exc cl fs h := by
  unfold callF
  have : body (as.map some ++ List.replicate (N - as.length) none) h = .exc cl fs e (h ++ g) := p
  rw [this]
  show Res.exc cl fs (gcX h.length fs (h ++ g)) = _
  rw [gcX_pre c rfl (undL_le (Nat.zero_le _) hv)]
/-! ### reading what was put -/
theorem at_app {h g : Hh} {n : Nat} {o : Ob} (e : h[n]? = some o) : (h ++ g)[n]? = some o := by
  rw [List.getElem?_append_left (List.getElem?_eq_some_iff.mp e).1]; exact e
theorem at_new {h g : Hh} {o : Ob} : (h ++ o :: g)[h.length]? = some o := by
  rw [List.getElem?_append_right (Nat.le_refl _), Nat.sub_self]; rfl
theorem at_put {h : Hh} {n b : Nat} {o q : Ob} (hb : n ≠ b) (e : h[n]? = some o) : (h.set b q)[n]? = some o := by
  rw [List.getElem?_set_ne (Ne.symm hb)]; exact e
theorem at_same {h : Hh} {b : Nat} {o q : Ob} (e : h[b]? = some o) : (h.set b q)[b]? = some q := List.getElem?_set_self (List.getElem?_eq_some_iff.mp e).1
theorem set_same {h : Hh} {b : Nat} {o : Ob} (e : h[b]? = some o) : h.set b o = h := by
  obtain ⟨l, e⟩ := List.getElem?_eq_some_iff.mp e
  rw [← e]; exact List.set_getElem_self l
theorem set_app {h g : Hh} {b : Nat} {o q : Ob} (e : h[b]? = some o) : (h ++ g).set b q = h.set b q ++ g := List.set_append_left _ _ (List.getElem?_eq_some_iff.mp e).1
theorem set_new {h g : Hh} {o q : Ob} : (h ++ o :: g).set h.length q = h ++ q :: g := by
  rw [List.set_append_right _ _ (Nat.le_refl _), Nat.sub_self]; rfl
/-! ### comprehensions that draw nothing -/
def okIt (it : Itn) (h : Hh) : Prop := it.okAt h
theorem okAt_app {it : Itn} {h g : Hh} (e : it.okAt h) : it.okAt (h ++ g) := by
  cases it with
  | items xs => trivial
  | live n xs => exact at_app e
  | liveAs n ys xs => exact at_app e
theorem loop_pv {it : Itn} {t : Tg} {tt : XT} {x : XE} {e : En} {h1 : Hh} {c : Val → Bool} {f : Val → Val} (ok : it.okAt h1) :
    ∀ (vs acc : List Val) (g : Hh), (∀ v ∈ vs, ∃ e1, t.put v e = some e1 ∧ ∀ g, Cl (h1 ++ g) → ∃ g1, tt e1 (h1 ++ g) = .ok (c v) (h1 ++ g ++ g1) ∧ Cl (h1 ++ g ++ g1) ∧ (c v = true → (f v).und 0 = true ∧ ∃ g2, x e1 (h1 ++ g ++ g1) = .ok (f v) (h1 ++ g ++ g1 ++ g2) ∧ Cl (h1 ++ g ++ g1 ++ g2))) →
      acc.length + vs.length ≤ sizeLine → undL 0 acc = true → Cl (h1 ++ .lst acc :: g) → ∃ g', compLoop it t tt x h1.length e vs (h1 ++ .lst acc :: g) = .ok () (h1 ++ .lst (acc ++ (vs.filter c).map f) :: g') ∧ Cl (h1 ++ .lst (acc ++ (vs.filter c).map f) :: g') ∧ undL 0 (acc ++ (vs.filter c).map f) = true
  | [], acc, g, _, _, ua, cl => ⟨g, by rw [compLoop, if_pos (okAt_app ok), List.filter_nil, List.map_nil, List.append_nil], by rwa [List.filter_nil, List.map_nil, List.append_nil], by rwa [List.filter_nil, List.map_nil, List.append_nil]⟩
  | v :: vs, acc, g, st, hl, ua, cl => by
    obtain ⟨e1, pe, hs⟩ := st v (.head _)
    obtain ⟨g1, e2, c2, hx⟩ := hs _ cl
    have rest := fun w m => st w (.tail _ m)
    rw [List.length_cons] at hl
    rw [compLoop, if_pos (okAt_app ok)]
    simp only [pe, e2, Res.bindS]
    cases hc : c v with
    | false =>
      rw [if_neg (by simp), List.filter_cons_of_neg (by rw [hc]; simp)]
      have c2' := c2
      rw [List.append_assoc, List.cons_append] at c2' ⊢
      exact loop_pv ok vs acc (g ++ g1) rest (by omega) ua c2'
    | true =>
      obtain ⟨uf, g2, e3, c3⟩ := hx hc
      rw [if_pos rfl, e3, List.filter_cons_of_pos hc, List.map_cons]
      have hh : h1 ++ Ob.lst acc :: g ++ g1 ++ g2 = h1 ++ Ob.lst acc :: (g ++ g1 ++ g2) := by simp
      rw [hh] at c3 ⊢
      simp only [at_new, set_new]
      rw [if_pos (by omega)]
      have ua2 : undL 0 (acc ++ [f v]) = true := undL_of fun y m => by
        rcases List.mem_append.mp m with m | m
        · exact of_undL ua y m
        · rw [List.mem_singleton.mp m]; exact uf
      have c4 : Cl (h1 ++ Ob.lst (acc ++ [f v]) :: (g ++ g1 ++ g2)) := by
        have := c3.put2 h1.length (o := .lst (acc ++ [f v])) ua2
        rwa [set_new] at this
      have := loop_pv ok vs (acc ++ [f v]) (g ++ g1 ++ g2) rest (by rw [List.length_append, List.length_singleton]; omega) ua2 c4
      have ea : acc ++ [f v] ++ (vs.filter c).map f = acc ++ f v :: (vs.filter c).map f := by simp
      rwa [ea] at this
/-- a comprehension that draws nothing: a new list, and rubbish behind it -/
theorem comp_pv {xi : XI} {it : Itn} {t : Tg} {tt : XT} {x : XE} {e : En} {h h1 : Hh} {vs : List Nat} (c : Val → Bool) (f : Val → Val) (hi : xi e h = .ok it h1) (ok : it.okAt h1) (cl : Cl h1) (hl : it.xs.length ≤ sizeLine)
    (st : ∀ v ∈ it.xs, ∃ e1, t.put v (wipeE e vs) = some e1 ∧ ∀ g, Cl (h1 ++ g) → ∃ g1, tt e1 (h1 ++ g) = .ok (c v) (h1 ++ g ++ g1) ∧ Cl (h1 ++ g ++ g1) ∧ (c v = true → (f v).und 0 = true ∧ ∃ g2, x e1 (h1 ++ g ++ g1) = .ok (f v) (h1 ++ g ++ g1 ++ g2) ∧ Cl (h1 ++ g ++ g1 ++ g2))) :
    ∃ g, xComp xi t tt x vs e h = .ok (.loc h1.length) (h1 ++ .lst ((it.xs.filter c).map f) :: g) ∧ Cl (h1 ++ .lst ((it.xs.filter c).map f) :: g) ∧ undL 0 ((it.xs.filter c).map f) = true := by
  obtain ⟨g, e1, c1, u1⟩ := loop_pv (it := it) (t := t) (tt := tt) (x := x) (c := c) (f := f) ok it.xs [] [] st (by simpa using hl) rfl (cl.app2 rfl)
  refine ⟨g, ?_, c1, u1⟩
  unfold xComp
  rw [hi]
  simp only [Res.bind, e1, List.nil_append]
/-- .. and leaves no rubbish -/
theorem comp_pt {xi : XI} {it : Itn} {t : Tg} {x : XE} {e : En} {h h1 : Hh} {vs : List Nat} (f : Val → Val) (hi : xi e h = .ok it h1) (ok : it.okAt h1) (cl : Cl h1) (hl : it.xs.length ≤ sizeLine)
    (st : ∀ v ∈ it.xs, ∃ e1, t.put v (wipeE e vs) = some e1 ∧ (f v).und 0 = true ∧ ∀ g, Cl (h1 ++ g) → ∃ g2, x e1 (h1 ++ g) = .ok (f v) (h1 ++ g ++ g2) ∧ Cl (h1 ++ g ++ g2)) :
    ∃ g, xComp xi t xYes x vs e h = .ok (.loc h1.length) (h1 ++ .lst (it.xs.map f) :: g) ∧ Cl (h1 ++ .lst (it.xs.map f) :: g) ∧ undL 0 (it.xs.map f) = true := by
  have := comp_pv (tt := xYes) (fun _ => true) f hi ok cl hl (x := x) (t := t) (vs := vs) fun v m => by
    obtain ⟨e1, p, u, k⟩ := st v m
    refine ⟨e1, p, fun g cg => ⟨[], by simp [xYes], by simpa using cg, fun _ => ⟨u, ?_⟩⟩⟩
    simpa using k g cg
  have ef : it.xs.filter (fun _ => true) = it.xs := List.filter_eq_self.mpr fun _ _ => rfl
  rwa [ef] at this
end XL

set_option Elab.async false
set_option linter.all false
set_option maxRecDepth 100000
set_option maxHeartbeats 4000000
namespace XL
open PySem L2 EX
@[simp] theorem kit_NoneType_int : kitB "NoneType" "int" = some false := by decide +kernel
@[simp] theorem kit_NoneType_bool : kitB "NoneType" "bool" = some false := by decide +kernel
@[simp] theorem kit_NoneType_str : kitB "NoneType" "str" = some false := by decide +kernel
@[simp] theorem kit_NoneType_tuple : kitB "NoneType" "tuple" = some false := by decide +kernel
@[simp] theorem kit_NoneType_list : kitB "NoneType" "list" = some false := by decide +kernel
@[simp] theorem kit_NoneType_dict : kitB "NoneType" "dict" = some false := by decide +kernel
@[simp] theorem kit_bool_int : kitB "bool" "int" = some true := by decide +kernel
@[simp] theorem kit_bool_bool : kitB "bool" "bool" = some true := by decide +kernel
@[simp] theorem kit_bool_str : kitB "bool" "str" = some false := by decide +kernel
@[simp] theorem kit_bool_tuple : kitB "bool" "tuple" = some false := by decide +kernel
@[simp] theorem kit_bool_list : kitB "bool" "list" = some false := by decide +kernel
@[simp] theorem kit_bool_dict : kitB "bool" "dict" = some false := by decide +kernel
@[simp] theorem kit_int_int : kitB "int" "int" = some true := by decide +kernel
@[simp] theorem kit_int_bool : kitB "int" "bool" = some false := by decide +kernel
@[simp] theorem kit_int_str : kitB "int" "str" = some false := by decide +kernel
@[simp] theorem kit_int_tuple : kitB "int" "tuple" = some false := by decide +kernel
@[simp] theorem kit_int_list : kitB "int" "list" = some false := by decide +kernel
@[simp] theorem kit_int_dict : kitB "int" "dict" = some false := by decide +kernel
@[simp] theorem kit_str_int : kitB "str" "int" = some false := by decide +kernel
@[simp] theorem kit_str_bool : kitB "str" "bool" = some false := by decide +kernel
@[simp] theorem kit_str_str : kitB "str" "str" = some true := by decide +kernel
@[simp] theorem kit_str_tuple : kitB "str" "tuple" = some false := by decide +kernel
@[simp] theorem kit_str_list : kitB "str" "list" = some false := by decide +kernel
@[simp] theorem kit_str_dict : kitB "str" "dict" = some false := by decide +kernel
@[simp] theorem kit_tuple_int : kitB "tuple" "int" = some false := by decide +kernel
@[simp] theorem kit_tuple_bool : kitB "tuple" "bool" = some false := by decide +kernel
@[simp] theorem kit_tuple_str : kitB "tuple" "str" = some false := by decide +kernel
@[simp] theorem kit_tuple_tuple : kitB "tuple" "tuple" = some true := by decide +kernel
@[simp] theorem kit_tuple_list : kitB "tuple" "list" = some false := by decide +kernel
@[simp] theorem kit_tuple_dict : kitB "tuple" "dict" = some false := by decide +kernel
@[simp] theorem kit_list_int : kitB "list" "int" = some false := by decide +kernel
@[simp] theorem kit_list_bool : kitB "list" "bool" = some false := by decide +kernel
@[simp] theorem kit_list_str : kitB "list" "str" = some false := by decide +kernel
@[simp] theorem kit_list_tuple : kitB "list" "tuple" = some false := by decide +kernel
@[simp] theorem kit_list_list : kitB "list" "list" = some true := by decide +kernel
@[simp] theorem kit_list_dict : kitB "list" "dict" = some false := by decide +kernel
@[simp] theorem kit_dict_int : kitB "dict" "int" = some false := by decide +kernel
@[simp] theorem kit_dict_bool : kitB "dict" "bool" = some false := by decide +kernel
@[simp] theorem kit_dict_str : kitB "dict" "str" = some false := by decide +kernel
@[simp] theorem kit_dict_tuple : kitB "dict" "tuple" = some false := by decide +kernel
@[simp] theorem kit_dict_list : kitB "dict" "list" = some false := by decide +kernel
@[simp] theorem kit_dict_dict : kitB "dict" "dict" = some true := by decide +kernel
section
variable {e : En} {h : Hh} {a b c : XE} {s t u : XT} {r : XA} {p q : XS}
@[simp] theorem run_var {i : Nat} : xVar i e h = match e[i]? with
  | some (some v) => .ok v h
  | _ => .stuck := rfl
@[simp] theorem run_C {v : Val} : xC v e h = .ok v h := rfl
@[simp] theorem run_bin {o : Op2} : xBin o a b e h = (a e h).bind fun x h1 => (b e h1).bind fun y h2 => Res.of (o x y h2) := rfl
@[simp] theorem run_un {o : Op1} : xUn o a e h = (a e h).bind fun x h1 => Res.of (o x h1) := rfl
@[simp] theorem run_test : xTest a e h = (a e h).bind fun v h1 => match v with
  | .bl b => .ok b h1
  | _ => .stuck := rfl
@[simp] theorem run_tru : xTru a e h = (a e h).bind fun v h1 => match truth v h1 with
  | some b => .ok b h1
  | none => .stuck := rfl
@[simp] theorem truth_bl {b : Bool} : truth (.bl b) h = some b := rfl
@[simp] theorem run_andT : xAndT s t e h = (s e h).bind fun c h1 => if c = true then t e h1 else .ok false h1 := rfl
@[simp] theorem run_orT : xOrT s t e h = (s e h).bind fun c h1 => if c = true then .ok true h1 else t e h1 := rfl
@[simp] theorem run_notT : xNotT s e h = (s e h).bind fun c h1 => .ok (!c) h1 := rfl
@[simp] theorem run_andV : xAndV a b e h = (a e h).bind fun v h1 => match v with
  | .bl true => b e h1
  | .bl false => .ok (.bl false) h1
  | _ => .stuck := rfl
@[simp] theorem run_orV : xOrV a b e h = (a e h).bind fun v h1 => match v with
  | .bl true => .ok (.bl true) h1
  | .bl false => b e h1
  | _ => .stuck := rfl
@[simp] theorem run_notV : xNotV a e h = (a e h).bind fun v h1 => match v with
  | .bl b => .ok (.bl (!b)) h1
  | _ => .stuck := rfl
@[simp] theorem run_if : xIf s a b e h = (s e h).bind fun c h1 => if c = true then a e h1 else b e h1 := rfl
@[simp] theorem run_chain {o o' : Op2} : xChain o o' a b c e h = (a e h).bind fun x h1 => (b e h1).bind fun y h2 => (Res.of (o x y h2)).bind fun z h3 => match z with
  | .bl true => (c e h3).bind fun w h4 => Res.of (o' y w h4)
  | .bl false => .ok (.bl false) h3
  | _ => .stuck := rfl
@[simp] theorem run_nil : xNil e h = .ok [] h := rfl
@[simp] theorem run_cons : xCons a r e h = (a e h).bind fun x h1 => (r e h1).bind fun xs h2 => .ok (x :: xs) h2 := rfl
@[simp] theorem run_tup : xTup r e h = (r e h).bind fun xs h1 => if xs.length ≤ sizeLine then .ok (.tup xs) h1 else .stuck := rfl
@[simp] theorem run_lst : xLst r e h = (r e h).bind fun xs h1 => if xs.length ≤ sizeLine then .ok (.loc h1.length) (h1 ++ [.lst xs]) else .stuck := rfl
@[simp] theorem run_callN {o : OpN} : xCallN o r e h = (r e h).bind fun xs h1 => Res.of (o xs h1) := rfl
@[simp] theorem run_call {n : Nat} {G : Fn} : xCall n G r e h = (r e h).bind fun vs h1 => if vs.length = n then G vs h1 else .stuck := rfl
@[simp] theorem run_meth {T : String} {o : OpM} : xMeth T o a r e h = (a e h).bind fun v h1 => if isTy T v h1 = true then (r e h1).bind fun xs h2 => Res.of (o v xs h2) else .stuck := rfl
@[simp] theorem run_snil : sNil e h = .nx e h := rfl
@[simp] theorem run_seq : sSeq p q e h = match p e h with
  | .nx e1 h1 => q e1 h1
  | r => r := rfl
@[simp] theorem run_ret : sRet a e h = match a e h with
  | .ok v h1 => .rt v h1
  | .exc c fs h1 => .exc c fs e h1
  | .stuck => .stuck := rfl
@[simp] theorem run_expr : sExpr a e h = match a e h with
  | .ok _ h1 => .nx e h1
  | .exc c fs h1 => .exc c fs e h1
  | .stuck => .stuck := rfl
@[simp] theorem run_set {i : Nat} : sSet i a e h = match a e h with
  | .ok v h1 => .nx (e.set i (some v)) h1
  | .exc c fs h1 => .exc c fs e h1
  | .stuck => .stuck := rfl
@[simp] theorem run_sif : sIf s p q e h = match s e h with
  | .ok c h1 => if c = true then p e h1 else q e h1
  | .exc c fs h1 => .exc c fs e h1
  | .stuck => .stuck := rfl
@[simp] theorem run_iter : xIter a e h = (a e h).bind fun v h1 => match itOf v h1 with
  | some it => .ok it h1
  | none => .stuck := rfl
end
@[simp] theorem bind_ok {α β : Type} {a : α} {h : Hh} {f : α → Hh → Res β} : (Res.ok a h).bind f = f a h := rfl
@[simp] theorem of_some {α : Type} {a : α} {h : Hh} : Res.of (some (a, h)) = .ok a h := rfl
@[simp] theorem ix_tup {G : GT} {xs : List Val} {i : Val} {h : Hh} : oIx2 G (.tup xs) i h = oIx (.tup xs) i h := rfl
@[simp] theorem ix_str {G : GT} {s : Str} {i : Val} {h : Hh} : oIx2 G (.str s) i h = oIx (.str s) i h := rfl
theorem atI_nat {α : Type} {xs : List α} {n : Nat} (h : n < xs.length) : atI xs (n : Int) = xs[n]? := by
  unfold atI ixN
  rw [if_pos (by omega), if_pos (by omega)]
  simp
theorem tup_at {xs : List Val} {n : Nat} {x : Val} {h : Hh} (e : xs[n]? = some x) : oIx (.tup xs) (.int n) h = some (x, h) := by
  have := atI_nat (List.getElem?_eq_some_iff.mp e).1
  simp only [oIx, this, e, Option.map_some]
@[simp] theorem tup_0 {x : Val} {xs : List Val} {h : Hh} : oIx (.tup (x :: xs)) (.int 0) h = some (x, h) := tup_at (n := 0) rfl
@[simp] theorem tup_1 {x y : Val} {xs : List Val} {h : Hh} : oIx (.tup (x :: y :: xs)) (.int 1) h = some (y, h) := tup_at (n := 1) rfl
@[simp] theorem tup_2 {x y z : Val} {xs : List Val} {h : Hh} : oIx (.tup (x :: y :: z :: xs)) (.int 2) h = some (z, h) := tup_at (n := 2) rfl
theorem lst_at {G : GT} {l n : Nat} {xs : List Val} {x : Val} {h : Hh} (el : h[l]? = some (.lst xs)) (e : xs[n]? = some x) : oIx2 G (.loc l) (.int n) h = some (x, h) := by
  have := atI_nat (List.getElem?_eq_some_iff.mp e).1
  simp only [oIx2, el, oIx, this, e, Option.map_some]
theorem str_at {s : Str} {n c : Nat} {h : Hh} (hl : s.length ≤ sizeLine) (e : s.cps.toList[n]? = some c) : oIx (.str s) (.int n) h = some (.str ⟨#[c]⟩, h) := by
  have := atI_nat (List.getElem?_eq_some_iff.mp e).1
  simp only [oIx, hl, if_true, this, e, Option.map_some]
@[simp] theorem eq_str {a b : Str} {h : Hh} : oEq (.str a) (.str b) h = some (.bl (decide (a = b)), h) := rfl
@[simp] theorem eq_int {a b : Int} {h : Hh} : oEq (.int a) (.int b) h = some (.bl (decide (a = b)), h) := rfl
@[simp] theorem ne_str {a b : Str} {h : Hh} : oNe (.str a) (.str b) h = some (.bl (!decide (a = b)), h) := rfl
@[simp] theorem ne_int {a b : Int} {h : Hh} : oNe (.int a) (.int b) h = some (.bl (!decide (a = b)), h) := rfl
@[simp] theorem lt_int {a b : Int} {h : Hh} : oLt (.int a) (.int b) h = some (.bl (decide (a < b)), h) := rfl
@[simp] theorem le_int {a b : Int} {h : Hh} : oLe (.int a) (.int b) h = some (.bl (decide (a ≤ b)), h) := rfl
@[simp] theorem gt_int {a b : Int} {h : Hh} : oGt (.int a) (.int b) h = some (.bl (decide (b < a)), h) := rfl
@[simp] theorem ge_int {a b : Int} {h : Hh} : oGe (.int a) (.int b) h = some (.bl (decide (b ≤ a)), h) := rfl
@[simp] theorem neg_int {a : Int} {h : Hh} : oNeg (.int a) h = some (.int (-a), h) := rfl
@[simp] theorem add_int {a b : Int} {h : Hh} : oAdd (.int a) (.int b) h = some (.int (a + b), h) := rfl
@[simp] theorem sub_int {a b : Int} {h : Hh} : oSub (.int a) (.int b) h = some (.int (a - b), h) := rfl
@[simp] theorem len_tup {xs : List Val} {h : Hh} : oLenD [.tup xs] h = some (.int xs.length, h) := rfl
theorem len_str {s : Str} {h : Hh} (hl : s.length ≤ sizeLine) : oLenD [.str s] h = some (.int s.length, h) := by
  simp [oLenD, oLen, vLen, hl]
theorem len_lst {n : Nat} {xs : List Val} {h : Hh} (e : h[n]? = some (.lst xs)) : oLenD [.loc n] h = some (.int xs.length, h) := by
  simp [oLenD, oLen, vLen, e]
theorem len_dct {n : Nat} {xs : List (Key × Val)} {h : Hh} (e : h[n]? = some (.dct false xs)) : oLenD [.loc n] h = some (.int xs.length, h) := by
  simp [oLenD, e]
@[simp] theorem isi_non {T : String} {h : Hh} : oIsi [.non, .ty T] h = (kitB "NoneType" T).map fun b => (.bl b, h) := rfl
@[simp] theorem isi_bl {b : Bool} {T : String} {h : Hh} : oIsi [.bl b, .ty T] h = (kitB "bool" T).map fun b => (.bl b, h) := rfl
@[simp] theorem isi_int {i : Int} {T : String} {h : Hh} : oIsi [.int i, .ty T] h = (kitB "int" T).map fun b => (.bl b, h) := rfl
@[simp] theorem isi_str {s : Str} {T : String} {h : Hh} : oIsi [.str s, .ty T] h = (kitB "str" T).map fun b => (.bl b, h) := rfl
@[simp] theorem isi_tup {xs : List Val} {T : String} {h : Hh} : oIsi [.tup xs, .ty T] h = (kitB "tuple" T).map fun b => (.bl b, h) := rfl
theorem isi_lst {n : Nat} {xs : List Val} {T : String} {h : Hh} (e : h[n]? = some (.lst xs)) : oIsi [.loc n, .ty T] h = (kitB "list" T).map fun b => (.bl b, h) := by
  simp only [oIsi, tyName, e]
theorem isi_dct {n : Nat} {xs : List (Key × Val)} {T : String} {h : Hh} (e : h[n]? = some (.dct false xs)) : oIsi [.loc n, .ty T] h = (kitB "dict" T).map fun b => (.bl b, h) := by
  simp only [oIsi, tyName, e]
theorem bools_map {α : Type} {f : α → Bool} : ∀ {xs : List α}, bools (xs.map fun x => Val.bl (f x)) = some (xs.map f)
  | [] => rfl
  | x :: xs => by simp only [List.map_cons, bools, bools_map, Option.map_some]
theorem all_map {α : Type} {n : Nat} {xs : List α} {f : α → Bool} {h : Hh} (e : h[n]? = some (.lst (xs.map fun x => Val.bl (f x)))) : oAll [.loc n] h = some (.bl (xs.all f), h) := by
  simp only [oAll, e, bools_map, Option.map_some]
  simp [List.all_map]
/-! ### a heap that grew -/
structure Grew (h H : Hh) : Prop where
  pre : ∃ g, H = h ++ g
  cl : Cl H
theorem Grew.refl {h : Hh} (c : Cl h) : Grew h h := ⟨⟨[], by rw [List.append_nil]⟩, c⟩
theorem Grew.trans {h h1 h2 : Hh} (a : Grew h h1) (b : Grew h1 h2) : Grew h h2 := by
  obtain ⟨⟨g, rfl⟩, _⟩ := a
  obtain ⟨⟨g', rfl⟩, c⟩ := b
  exact ⟨⟨g ++ g', by rw [List.append_assoc]⟩, c⟩
theorem Grew.at_ {h H : Hh} (a : Grew h H) {n : Nat} {o : Ob} (e : h[n]? = some o) : H[n]? = some o := by
  obtain ⟨⟨g, rfl⟩, _⟩ := a
  exact at_app e
theorem Grew.le {h H : Hh} (a : Grew h H) : h.length ≤ H.length := by
  obtain ⟨⟨g, rfl⟩, _⟩ := a
  rw [List.length_append]; omega
theorem Grew.new {h : Hh} {o : Ob} (c : Cl h) (ho : o.und 0 = true) : Grew h (h ++ [o]) := ⟨⟨[o], rfl⟩, c.app2 ho⟩
theorem Grew.new1 {h : Hh} {o : Ob} (c : Cl h) (ho : o.und (h.length + 1) = true) : Grew h (h ++ [o]) := ⟨⟨[o], rfl⟩, c.app ho⟩
theorem Grew.put {h H : Hh} (a : Grew h H) {n : Nat} {o : Ob} (hn : h.length ≤ n) (ho : o.und H.length = true) : Grew h (H.set n o) := by
  obtain ⟨⟨g, rfl⟩, c⟩ := a
  refine ⟨⟨g.set (n - h.length) o, ?_⟩, c.put n ho⟩
  rw [List.set_append_right _ _ hn]
theorem new_at {h : Hh} {o : Ob} : (h ++ [o])[h.length]? = some o := at_new
theorem call_g {N : Nat} {body : XS} {as : List Val} {h H : Hh} {v : Val} (c : Cl h) (hv : v.und 0 = true) (G : Grew h H) (p : body (en N as) h = .rt v H) : callF N body as h = .ok v h := by
  obtain ⟨⟨g, rfl⟩, _⟩ := G
  exact call_pv c hv p
theorem call_gb {N : Nat} {body : XS} {as : List Val} {h H : Hh} {v : Val} {b : Nat} {s : Bs} (c : Cl h) (hv : v.und 0 = true) (G : Grew (h.set b (bx s)) H) (p : body (en N as) h = .rt v H) : callF N body as h = .ok v (h.set b (bx s)) := by
  obtain ⟨⟨g, rfl⟩, _⟩ := G
  exact call_bx c hv p
theorem call_gn {N : Nat} {body : XS} {as : List Val} {h H : Hh} {e : En} (c : Cl h) (G : Grew h H) (p : body (en N as) h = .nx e H) : callF N body as h = .ok .non h := by
  obtain ⟨⟨g, rfl⟩, _⟩ := G
  exact call_nx c p
theorem call_ge {N : Nat} {body : XS} {as : List Val} {h H : Hh} {e : En} {cl : Str} {fs : List (Str × Val)} (c : Cl h) (hv : undL 0 (fs.map (·.2)) = true) (G : Grew h H) (p : body (en N as) h = .exc cl fs e H) : callF N body as h = .exc cl fs h := by
  obtain ⟨⟨g, rfl⟩, _⟩ := G
  exact call_ex c hv p
/-- a call that hands back something new -/
theorem call_gl {N : Nat} {body : XS} {as : List Val} {h H : Hh} {m : Nat} (hm : h.length ≤ m) (p : body (en N as) h = .rt (.loc m) H) : callF N body as h = .ok (.loc m) H := by
  rw [call_rt p, gc_loc hm]
theorem comp_c {xi : XI} {it : Itn} {t : Tg} {tt : XT} {x : XE} {e : En} {h h1 : Hh} {vs : List Nat} (c : Val → Bool) (f : Val → Val) (hi : xi e h = .ok it h1) (ok : it.okAt h1) (cl : Cl h1) (hl : it.xs.length ≤ sizeLine)
    (st : ∀ v ∈ it.xs, ∃ e1, t.put v (wipeE e vs) = some e1 ∧ (c v = true → (f v).und 0 = true) ∧ ∀ h', Grew h1 h' → ∃ h2, tt e1 h' = .ok (c v) h2 ∧ Grew h' h2 ∧ (c v = true → ∃ h3, x e1 h2 = .ok (f v) h3 ∧ Grew h2 h3)) :
    ∃ H, Grew h1 H ∧ xComp xi t tt x vs e h = .ok (.loc h1.length) H ∧ H[h1.length]? = some (.lst ((it.xs.filter c).map f)) := by
  obtain ⟨g, e1, c1, u1⟩ := comp_pv (tt := tt) (x := x) (t := t) (vs := vs) c f hi ok cl hl fun v m => by
    obtain ⟨e1, p, u, k⟩ := st v m
    refine ⟨e1, p, fun g cg => ?_⟩
    obtain ⟨h2, q2, ⟨⟨g1, rfl⟩, c2⟩, k2⟩ := k _ ⟨⟨g, rfl⟩, cg⟩
    refine ⟨g1, q2, c2, fun hc => ⟨u hc, ?_⟩⟩
    obtain ⟨h3, q3, ⟨⟨g3, rfl⟩, c3⟩⟩ := k2 hc
    exact ⟨g3, q3, c3⟩
  exact ⟨_, ⟨⟨_, rfl⟩, c1⟩, e1, at_new⟩
theorem comp_m {xi : XI} {it : Itn} {t : Tg} {x : XE} {e : En} {h h1 : Hh} {vs : List Nat} (f : Val → Val) (hi : xi e h = .ok it h1) (ok : it.okAt h1) (cl : Cl h1) (hl : it.xs.length ≤ sizeLine)
    (st : ∀ v ∈ it.xs, ∃ e1, t.put v (wipeE e vs) = some e1 ∧ (f v).und 0 = true ∧ ∀ h', Grew h1 h' → ∃ h3, x e1 h' = .ok (f v) h3 ∧ Grew h' h3) :
    ∃ H, Grew h1 H ∧ xComp xi t xYes x vs e h = .ok (.loc h1.length) H ∧ H[h1.length]? = some (.lst (it.xs.map f)) := by
  obtain ⟨g, e1, c1, u1⟩ := comp_pt (x := x) (t := t) (vs := vs) f hi ok cl hl fun v m => by
    obtain ⟨e1, p, u, k⟩ := st v m
    refine ⟨e1, p, u, fun g cg => ?_⟩
    obtain ⟨h3, q3, ⟨⟨g3, rfl⟩, c3⟩⟩ := k _ ⟨⟨g, rfl⟩, cg⟩
    exact ⟨g3, q3, c3⟩
  exact ⟨_, ⟨⟨_, rfl⟩, c1⟩, e1, at_new⟩
theorem comp_all {xi : XI} {it : Itn} {t : Tg} {x : XE} {e : En} {h h1 : Hh} {vs : List Nat} (f : Val → Bool) (hi : xi e h = .ok it h1) (ok : it.okAt h1) (cl : Cl h1) (hl : it.xs.length ≤ sizeLine)
    (st : ∀ v ∈ it.xs, ∃ e1, t.put v (wipeE e vs) = some e1 ∧ ∀ h', Grew h1 h' → ∃ h3, x e1 h' = .ok (.bl (f v)) h3 ∧ Grew h' h3) :
    ∃ H n, Grew h1 H ∧ xComp xi t xYes x vs e h = .ok (.loc n) H ∧ oAll [.loc n] H = some (.bl (it.xs.all f), H) := by
  obtain ⟨H, G, e1, a⟩ := comp_m (x := x) (t := t) (vs := vs) (fun v => .bl (f v)) hi ok cl hl fun v m => by
    obtain ⟨e1, p, k⟩ := st v m
    exact ⟨e1, p, rfl, k⟩
  exact ⟨H, _, G, e1, all_map a⟩
end XL

set_option Elab.async false
set_option linter.all false
set_option maxRecDepth 100000
set_option maxHeartbeats 4000000
namespace XL
open PySem L2 EX
/-! ### plain values as data -/
structure TmP (n k : Nat) (x : PyData) : Prop where
  lay : x.canLay0 = true
  sh : x.showable = true
  lv : x.leavesShort 13 = true
  dp : x.depth ≤ n
  bk : x.bulk ≤ k
structure TmL (n k : Nat) (x : List PyData) : Prop where
  lay : PyData.canLayAll0 x = true
  sh : PyData.showableAll x = true
  lv : PyData.leavesShortAll 13 x = true
  dp : PyData.depthAll x ≤ n
  bk : PyData.bulkAll x ≤ k
/-- v is data of depth n and bulk k, whatever the heap -/
def Tm (n k : Nat) (v : Val) : Prop := ∃ x : PyData, TmP n k x ∧ ∀ (h : Hh) (j : Nat), n < j → dat h j v = some x
def Tml (n k : Nat) (vs : List Val) : Prop := ∃ xs : List PyData, TmL n k xs ∧ xs.length = vs.length ∧ ∀ (h : Hh) (j : Nat), n < j → datL (dat h j) vs = some xs
theorem Tm.le {n k n' k' : Nat} {v : Val} (t : Tm n k v) (hn : n ≤ n') (hk : k ≤ k') : Tm n' k' v := by
  obtain ⟨x, t, e⟩ := t
  exact ⟨x, ⟨t.lay, t.sh, t.lv, Nat.le_trans t.dp hn, Nat.le_trans t.bk hk⟩, fun h j hj => e h j (by omega)⟩
theorem Tml.le {n k n' k' : Nat} {v : List Val} (t : Tml n k v) (hn : n ≤ n') (hk : k ≤ k') : Tml n' k' v := by
  obtain ⟨x, t, l, e⟩ := t
  exact ⟨x, ⟨t.lay, t.sh, t.lv, Nat.le_trans t.dp hn, Nat.le_trans t.bk hk⟩, l, fun h j hj => e h j (by omega)⟩
theorem Tml.nil {n k : Nat} : Tml n k [] := ⟨[], ⟨rfl, rfl, rfl, Nat.zero_le _, Nat.zero_le _⟩, rfl, fun _ _ _ => rfl⟩
theorem Tml.cons {n k m : Nat} {v : Val} {vs : List Val} (t : Tm n m v) (u : Tml n k vs) : Tml n (m + 1 + k) (v :: vs) := by
  obtain ⟨x, t, e⟩ := t
  obtain ⟨xs, u, l, e2⟩ := u
  refine ⟨x :: xs, ⟨?_, ?_, ?_, ?_, ?_⟩, by rw [List.length_cons, List.length_cons, l], fun h j hj => by rw [datL, e h j hj, e2 h j hj]⟩
  · simp only [PyData.canLayAll0, t.lay, u.lay, Bool.and_self]
  · simp only [PyData.showableAll, t.sh, u.sh, Bool.and_self]
  · simp only [PyData.leavesShortAll, t.lv, u.lv, Bool.and_self]
  · simp only [PyData.depthAll]; have := t.dp; have := u.dp; omega
  · simp only [PyData.bulkAll]; have := t.bk; have := u.bk; omega
theorem Tml.of {n k : Nat} : ∀ {vs : List Val}, (∀ v ∈ vs, Tm n k v) → Tml n (vs.length * (k + 1)) vs
  | [], _ => Tml.nil
  | v :: vs, h => by
    have := Tml.cons (h v (.head _)) (Tml.of fun w m => h w (.tail _ m))
    refine this.le (Nat.le_refl _) ?_
    rw [List.length_cons, Nat.succ_mul]
    omega
theorem Tml.tup {n k : Nat} {vs : List Val} (t : Tml n k vs) : Tm (n + 1) k (.tup vs) := by
  obtain ⟨xs, t, l, e⟩ := t
  refine ⟨.tuple xs, ⟨?_, ?_, ?_, ?_, ?_⟩, fun h j hj => ?_⟩
  · simpa only [PyData.canLay0] using t.lay
  · simpa only [PyData.showable] using t.sh
  · simpa only [PyData.leavesShort] using t.lv
  · simp only [PyData.depth]; have := t.dp; omega
  · simpa only [PyData.bulk] using t.bk
  · obtain ⟨j, rfl⟩ : ∃ i, j = i + 1 := ⟨j - 1, by omega⟩
    rw [dat, e h j (by omega)]; rfl
theorem Tm.non {n k : Nat} : Tm n k .non := ⟨.none, ⟨rfl, rfl, rfl, Nat.zero_le _, Nat.zero_le _⟩, fun h j hj => by
  obtain ⟨j, rfl⟩ : ∃ i, j = i + 1 := ⟨j - 1, by omega⟩
  rfl⟩
theorem log2_31 {i : Int} (h : i.natAbs < 10 ^ 11) : i.natAbs.log2 < 1920 := by
  by_cases h0 : i.natAbs = 0
  · rw [h0]; decide
  · exact (Nat.log2_lt h0).mpr (Nat.lt_of_lt_of_le h (by decide))
theorem Tm.int {n k : Nat} {i : Int} (h : i.natAbs < 10 ^ 11) : Tm n k (.int i) := by
  refine ⟨.int i, ⟨rfl, ?_, ?_, Nat.zero_le _, Nat.zero_le _⟩, fun h j hj => by
    obtain ⟨j, rfl⟩ : ∃ i, j = i + 1 := ⟨j - 1, by omega⟩
    rfl⟩
  · simp only [PyData.showable, decide_eq_true_eq]; exact log2_31 h
  · have e := int_text_length_le10 (k := 11) (by decide) h
    simp only [PyData.leavesShort, decide_eq_true_eq]
    show (Str.ofString (toString i)).length ≤ 13
    rw [ofString_length]
    omega
theorem Tm.str {n k : Nat} {s : Str} (h : ∀ c ∈ s.cps.toList, c < 0x110000) (hl : s.length ≤ k) : Tm n k (.str s) := by
  refine ⟨.str s, ⟨?_, rfl, ?_, Nat.zero_le _, hl⟩, fun h j hj => by
    obtain ⟨j, rfl⟩ : ∃ i, j = i + 1 := ⟨j - 1, by omega⟩
    rfl⟩
  · simp only [PyData.canLay0, PyData.strOk, Array.all_eq_true, decide_eq_true_eq]
    exact fun i hi => h _ (Array.getElem_mem_toList hi)
  · simp only [PyData.leavesShort, List.all_eq_true, decide_eq_true_eq]
    exact fun c m => Nat.lt_of_lt_of_le (h c m) (by decide)
theorem TmP.shaped {n k : Nat} {x : PyData} (t : TmP n k x) (hn : n < 40) : SeqAt.shaped x = true := by
  simp only [SeqAt.shaped, t.lay, Bool.true_and, decide_eq_true_eq]
  have := t.dp; omega
/-! ### == -/
mutual
theorem eqv_self : (d : PyData) → d.canLay0 = true → PyData.eqv d d = true
  | .none, _ => rfl
  | .bool _, _ => by simp [PyData.eqv]
  | .int _, _ => by simp [PyData.eqv]
  | .str _, _ => by simp [PyData.eqv]
  | .list ys, q => by
    rw [PyData.eqv]
    exact eqv_selfs ys (by simpa only [PyData.canLay0] using q)
  | .tuple ys, q => by
    rw [PyData.eqv]
    exact eqv_selfs ys (by simpa only [PyData.canLay0] using q)
  | .dict _, q => by simp [PyData.canLay0] at q
theorem eqv_selfs : (ys : List PyData) → PyData.canLayAll0 ys = true → PyData.eqvAll ys ys = true
  | [], _ => rfl
  | y :: ys, q => by
    simp only [PyData.canLayAll0, Bool.and_eq_true] at q
    rw [PyData.eqvAll, eqv_self y q.1, eqv_selfs ys q.2]
    rfl
end
theorem shaped_list {n k : Nat} {xs : List PyData} (t : TmL n k xs) (hn : n < 40) : SeqAt.shaped (.list xs) = true := by
  have d : (PyData.list xs).depth ≤ 64 := by simp only [PyData.depth]; have := t.dp; omega
  simp only [SeqAt.shaped, PyData.canLay0, t.lay, Bool.true_and]
  exact decide_eq_true d
theorem shaped_tup {n k : Nat} {xs : List PyData} (t : TmL n k xs) (hn : n < 40) : SeqAt.shaped (.tuple xs) = true := by
  have d : (PyData.tuple xs).depth ≤ 64 := by simp only [PyData.depth]; have := t.dp; omega
  simp only [SeqAt.shaped, PyData.canLay0, t.lay, Bool.true_and]
  exact decide_eq_true d
theorem eq_lst {n k a b : Nat} {vs : List Val} {h : Hh} (t : Tml n k vs) (hn : n < 30) (ha : h[a]? = some (.lst vs)) (hb : h[b]? = some (.lst vs)) : vEq (.loc a) (.loc b) h = some true := by
  obtain ⟨xs, t, l, e⟩ := t
  have e1 := e h 39 (by omega)
  have d1 : dat h 40 (.loc a) = some (.list xs) := by rw [dat]; simp only [ha, e1, Option.map_some]
  have d2 : dat h 40 (.loc b) = some (.list xs) := by rw [dat]; simp only [hb, e1, Option.map_some]
  have s1 : SeqAt.shaped (.list xs) = true := shaped_list t (by omega)
  have sc : scEq (.loc a) (.loc b) = none := rfl
  simp only [vEq, sc, d1, d2, s1, and_self, if_true]
  rw [eqv_self _ (by simpa only [PyData.canLay0] using t.lay)]
theorem eqv_nil {xs : List PyData} : PyData.eqv (.list xs) (.list []) = xs.isEmpty := by
  cases xs <;> simp [PyData.eqv, PyData.eqvAll]
theorem eqv_nilT {xs : List PyData} : PyData.eqv (.tuple xs) (.tuple []) = xs.isEmpty := by
  cases xs <;> simp [PyData.eqv, PyData.eqvAll]
theorem emp_len {α β : Type} {xs : List α} {ys : List β} (h : xs.length = ys.length) : xs.isEmpty = ys.isEmpty := by
  cases xs <;> cases ys <;> first | rfl | cases h
theorem vEq_nil {n k a b : Nat} {vs : List Val} {h : Hh} (t : Tml n k vs) (hn : n < 30) (ha : h[a]? = some (.lst vs)) (hb : h[b]? = some (.lst [])) : vEq (.loc a) (.loc b) h = some vs.isEmpty := by
  obtain ⟨xs, t, l, e⟩ := t
  have e1 := e h 39 (by omega)
  have d1 : dat h 40 (.loc a) = some (.list xs) := by rw [dat]; simp only [ha, e1, Option.map_some]
  have d2 : dat h 40 (.loc b) = some (.list []) := by rw [dat]; simp only [hb]; rfl
  have s1 : SeqAt.shaped (.list xs) = true := shaped_list t (by omega)
  have s2 : SeqAt.shaped (.list []) = true := rfl
  have sc : scEq (.loc a) (.loc b) = none := rfl
  simp only [vEq, sc, d1, d2, s1, s2, and_self, if_true, eqv_nil, emp_len l]
theorem ne_nil {n k a b : Nat} {vs : List Val} {h : Hh} (t : Tml n k vs) (hn : n < 30) (ha : h[a]? = some (.lst vs)) (hb : h[b]? = some (.lst [])) : oNe (.loc a) (.loc b) h = some (.bl (!vs.isEmpty), h) := by
  simp only [oNe, vEq_nil t hn ha hb, Option.map_some]
theorem eq_nil {n k a b : Nat} {vs : List Val} {h : Hh} (t : Tml n k vs) (hn : n < 30) (ha : h[a]? = some (.lst vs)) (hb : h[b]? = some (.lst [])) : oEq (.loc a) (.loc b) h = some (.bl vs.isEmpty, h) := by
  unfold oEq vEqL
  by_cases u : unlike (.loc a) (.loc b) h = true
  · rw [if_pos u]
    have : vs.isEmpty = false := by
      cases vs with
      | nil => simp [unlike, lensOf, ha, hb] at u
      | cons _ _ => rfl
    rw [this]; rfl
  · rw [if_neg u, vEq_nil t hn ha hb]; rfl
theorem ne_nilT {n k : Nat} {vs : List Val} {h : Hh} (t : Tml n k vs) (hn : n < 30) : oNe (.tup vs) (.tup []) h = some (.bl (!vs.isEmpty), h) := by
  obtain ⟨xs, t, l, e⟩ := t
  have e1 := e h 39 (by omega)
  have d1 : dat h 40 (.tup vs) = some (.tuple xs) := by rw [dat]; simp only [e1, Option.map_some]
  have d2 : dat h 40 (.tup []) = some (.tuple []) := by rw [dat]; rfl
  have s1 : SeqAt.shaped (.tuple xs) = true := shaped_tup t (by omega)
  have s2 : SeqAt.shaped (.tuple []) = true := rfl
  have sc : scEq (.tup vs) (.tup []) = none := rfl
  simp only [oNe, vEq, sc, d1, d2, s1, s2, and_self, if_true, eqv_nilT, emp_len l, Option.map_some]
theorem vEq_strs {a b : Nat} {s : Str} {ts : List Str} {h : Hh} (hs : ∀ t ∈ ts, t.length ≤ 100 ∧ ∀ c ∈ t.cps.toList, c < 0x110000) (h1 : s.length ≤ 100 ∧ ∀ c ∈ s.cps.toList, c < 0x110000) (ha : h[a]? = some (.lst (ts.map Val.str))) (hb : h[b]? = some (.lst [.str s])) : vEq (.loc a) (.loc b) h = some (decide (ts = [s])) := by
  have t1 : Tml 0 (ts.length * 101) (ts.map Val.str) := by
    have := Tml.of (n := 0) (k := 100) (vs := ts.map Val.str) fun v m => by
      obtain ⟨t, mt, rfl⟩ := List.mem_map.mp m
      exact Tm.str (hs t mt).2 (hs t mt).1
    rwa [List.length_map] at this
  have e0 : ∀ (l : List Str) (g : Hh) (j : Nat), datL (dat g (j + 1)) (l.map Val.str) = some (l.map PyData.str) := fun l g j => by
    induction l with
    | nil => rfl
    | cons x l ih => rw [List.map_cons, List.map_cons, datL, ih]; rfl
  obtain ⟨xs, t, l, e⟩ := t1
  have e1 := e h 39 (by omega)
  have e2 : xs = ts.map PyData.str := by rw [e0 ts h 38] at e1; exact (Option.some.inj e1).symm
  subst e2
  have d1 : dat h 40 (.loc a) = some (.list (ts.map PyData.str)) := by rw [dat]; simp only [ha, e1, Option.map_some]
  have d2 : dat h 40 (.loc b) = some (.list [.str s]) := by rw [dat]; simp only [hb]; rfl
  have s1 : SeqAt.shaped (.list (ts.map PyData.str)) = true := shaped_list t (by omega)
  obtain ⟨y, ty, ey⟩ := Tm.str (n := 0) h1.2 h1.1
  have ey1 : y = .str s := by have := ey h 1 (by omega); exact (Option.some.inj this).symm
  subst ey1
  have s2 : SeqAt.shaped (.list [.str s]) = true := by
    simp only [SeqAt.shaped, PyData.canLay0, PyData.canLayAll0, Bool.and_true, PyData.depth, PyData.depthAll]
    have := ty.lay
    simp only [PyData.canLay0] at this
    simp [this]
  have sc : scEq (.loc a) (.loc b) = none := rfl
  simp only [vEq, sc, d1, d2, s1, s2, and_self, if_true]
  have q : PyData.eqv (.list (ts.map PyData.str)) (.list [.str s]) = decide (ts = [s]) := by
    rcases ts with _ | ⟨t, _ | ⟨t', ts⟩⟩
    · simp [PyData.eqv, PyData.eqvAll]
    · simp [PyData.eqv, PyData.eqvAll]
      rfl
    · simp [PyData.eqv, PyData.eqvAll]
  rw [q]
/-! ### repr -/
theorem shown_ok {x : PyData} (lv : x.leavesShort 13 = true) (bk : x.bulk ≤ 1048576) : x.shown.length ≤ sizeLine := PyData.shown_fits_bulk (by decide) (Nat.le_refl _) lv (Nat.le_trans bk (by decide))
theorem repr_tm {n k : Nat} {v : Val} (t : Tm n k v) (hn : n < 30) (hk : k ≤ 1048576) : ∃ s, ∀ h, oRepr [v] h = some (.str s, h) := by
  obtain ⟨x, t, e⟩ := t
  refine ⟨x.shown, fun h => ?_⟩
  have := t.dp
  simp only [oRepr, e h 40 (by omega)]
  rw [if_pos ⟨t.sh, shown_ok t.lv (Nat.le_trans t.bk hk), by omega⟩]
theorem repr_lst {n k : Nat} {vs : List Val} (t : Tml n k vs) (hn : n < 30) (hk : k ≤ 1048576) : ∃ s, ∀ h a, h[a]? = some (.lst vs) → oRepr [.loc a] h = some (.str s, h) := by
  obtain ⟨xs, t, l, e⟩ := t
  refine ⟨(PyData.list xs).shown, fun h a ha => ?_⟩
  have := t.dp
  have d1 : dat h 40 (.loc a) = some (.list xs) := by rw [dat]; simp only [ha, e h 39 (by omega), Option.map_some]
  simp only [oRepr, d1]
  rw [if_pos ⟨by simpa only [PyData.showable] using t.sh, shown_ok (by simpa only [PyData.leavesShort] using t.lv) (by simp only [PyData.bulk]; have := t.bk; omega), by simp only [PyData.depth]; omega⟩]
end XL

set_option Elab.async false
set_option linter.all false
set_option maxRecDepth 100000
set_option maxHeartbeats 4000000
namespace K
open PySem L2 EX XL
section
/-- texts that are worths -/
structure Tx (s : Str) : Prop where
  len : s.length ≤ 60
  sg : ∀ c ∈ s.cps.toList, 32 ≤ c ∧ c ≤ 126 ∧ c ≠ 37 ∧ c ≠ 39
structure Nm (s : Str) : Prop where
  l1 : 1 ≤ s.length
  l8 : s.length ≤ 8
  sg : ∀ c ∈ s.cps.toList, 97 ≤ c ∧ c ≤ 122
  no : s ≠ "me" ∧ s ≠ "here" ∧ s ≠ "none"
inductive Fw : Val → Prop
  | non : Fw .non
  | int {i : Int} : -1000000000 ≤ i → i ≤ 1000000000 → Fw (.int i)
  | str {s : Str} : Tx s → Fw (.str s)
  | thing {i : Int} : 0 ≤ i → i ≤ 999 → Fw (.tup [.str "thing", .int i])
theorem whole_int {i a b : Int} {h : Hh} (c : Cl h) : f_is_whole [.int i, .int a, .int b] h = .ok (.bl (decide (a ≤ i) && decide (i ≤ b))) h := by
  refine call_pv (g := []) c rfl ?_
  rw [List.append_nil]
  by_cases h1 : a ≤ i <;> simp [en, x_is_whole, h1]
theorem whole_no {v : Val} {a b : Int} {h : Hh} (c : Cl h) (hv : ∀ h, oIsi [v, .ty "int"] h = some (.bl false, h)) : f_is_whole [v, .int a, .int b] h = .ok (.bl false) h := by
  refine call_pv (g := []) c rfl ?_
  rw [List.append_nil]
  simp [en, x_is_whole, hv]
theorem number_int {i : Int} {h : Hh} (c : Cl h) : f_is_number [.int i] h = .ok (.bl (decide (-1000000000 ≤ i) && decide (i ≤ 1000000000))) h := by
  refine call_pv (g := []) c rfl ?_
  rw [List.append_nil]
  simp [en, x_is_number, whole_int c]
theorem number_no {v : Val} {h : Hh} (c : Cl h) (hv : ∀ h, oIsi [v, .ty "int"] h = some (.bl false, h)) : f_is_number [v] h = .ok (.bl false) h := by
  refine call_pv (g := []) c rfl ?_
  rw [List.append_nil]
  simp [en, x_is_number, whole_no c hv]
theorem pair_no {v : Val} {w : Str} {h : Hh} (c : Cl h) (hv : ∀ h, oIsi [v, .ty "tuple"] h = some (.bl false, h)) : f_is_pair [v, .str w] h = .ok (.bl false) h := by
  refine call_pv (g := []) c rfl ?_
  rw [List.append_nil]
  simp [en, x_is_pair, hv]
theorem pair_two {a w : Str} {x : Val} {h : Hh} (c : Cl h) : f_is_pair [.tup [.str a, x], .str w] h = .ok (.bl (decide (a = w))) h := by
  refine call_pv (g := []) c rfl ?_
  rw [List.append_nil]
  simp [en, x_is_pair]
theorem thing_no {v : Val} {h : Hh} (c : Cl h) (hv : ∀ h, oIsi [v, .ty "tuple"] h = some (.bl false, h)) : f_is_thing [v] h = .ok (.bl false) h := by
  refine call_pv (g := []) c rfl ?_
  rw [List.append_nil]
  simp [en, x_is_thing, pair_no c hv]
theorem thing_thing {i : Int} {h : Hh} (c : Cl h) : f_is_thing [.tup [.str "thing", .int i]] h = .ok (.bl (decide (0 ≤ i) && decide (i ≤ 999))) h := by
  refine call_pv (g := []) c rfl ?_
  rw [List.append_nil]
  simp [en, x_is_thing, pair_two c, whole_int c]
theorem thing_row {x : Val} {h : Hh} (c : Cl h) : f_is_thing [.tup [.str "row", x]] h = .ok (.bl false) h := by
  refine call_pv (g := []) c rfl ?_
  rw [List.append_nil]
  have : ¬ ((Str.ofString "row") = (Str.ofString "thing")) := by decide
  simp [en, x_is_thing, pair_two c, this]
theorem text_no {v : Val} {h : Hh} (c : Cl h) (hv : ∀ h, oIsi [v, .ty "str"] h = some (.bl false, h)) : f_is_text [v] h = .ok (.bl false) h := by
  refine call_pv (g := []) c rfl ?_
  rw [List.append_nil]
  simp [en, x_is_text, hv]
end
end K

set_option Elab.async false
set_option linter.all false
set_option maxRecDepth 100000
set_option maxHeartbeats 4000000
namespace K
open PySem L2 EX XL
theorem sl60 : (60 : Nat) ≤ sizeLine := by rw [sizeLine_eq]; decide
theorem sgs_len {s : Str} : (s.cps.toList.map fun c => Val.str ⟨#[c]⟩).length = s.length := by
  rw [List.length_map]; rfl
theorem lt_one (a b : Nat) : [a] < [b] ↔ a < b := by
  rw [List.cons_lt_cons_iff]
  constructor
  · rintro (z | ⟨_, z⟩)
    · exact z
    · exact absurd z (List.not_lt_nil _)
  · exact .inl
theorem sgs_it {s : Str} {h : Hh} {e : En} (h0 : e[0]? = some (some (.str s))) : xIter (xVar 0) e h = .ok (.items (s.cps.toList.map fun c => Val.str ⟨#[c]⟩)) h := by
  simp [itOf, h0]
theorem name_ok {s : Str} {h : Hh} (c : Cl h) (hn : Nm s) : f_is_name [.str s] h = .ok (.bl true) h := by
  have hl : s.length ≤ sizeLine := Nat.le_trans hn.l8 (Nat.le_trans (by decide) sl60)
  obtain ⟨H, n, G, e1, ha⟩ := comp_all (xi := xIter (xVar 0)) (it := .items (s.cps.toList.map fun c => Val.str ⟨#[c]⟩)) (t := .name 1) (x := xBin (oIn2 gt) (xVar 1) (xC (.str "abcdefghijklmnopqrstuvwxyz"))) (e := [some (.str s), none]) (h := h) (h1 := h) (vs := [1]) (fun _ => true) (sgs_it rfl) trivial c (by show (List.map _ _).length ≤ _; rw [sgs_len]; exact hl) (fun v m => by
    obtain ⟨k, mk, rfl⟩ := List.mem_map.mp m
    refine ⟨[some (.str s), some (.str ⟨#[k]⟩)], by simp [wipeE, Tg.put], fun g cg => ⟨g, ?_, Grew.refl cg.cl⟩⟩
    have hk := hn.sg k mk
    have : k ∈ (Str.ofString "abcdefghijklmnopqrstuvwxyz").cps.toList := by
      have e : (Str.ofString "abcdefghijklmnopqrstuvwxyz").cps.toList = (List.range 26).map (97 + ·) := by decide +kernel
      rw [e]
      exact List.mem_map.mpr ⟨k - 97, List.mem_range.mpr (by omega), by omega⟩
    rw [Array.mem_toList_iff] at this
    simp [oIn2, vIn2, vIn, this])
  refine call_g c rfl G ?_
  have hin : oIn2 gt (.str s) (.tup k_NO_NAMES) h = some (.bl false, h) := by
    have n1 := hn.no.1; have n2 := hn.no.2.1; have n3 := hn.no.2.2
    have q : inX (.str s) k_NO_NAMES = false := by
      simp [inX, k_NO_NAMES, eqX, Ne.symm n1, Ne.symm n2, Ne.symm n3]
    have fl : k_NO_NAMES.all flatX = true := rfl
    simp [oIn2, vIn2, vIn, flatX, fl, q]
  have b1 : (1 : Int) ≤ s.length := by have := hn.l1; omega
  have b2 : (s.length : Int) ≤ 8 := by have := hn.l8; omega
  have al : ∀ l : List Val, (l.all fun _ => true) = true := fun l => by simp
  rw [al] at ha
  simp [en, x_is_name, len_str hl, b1, b2, hin, e1, ha]
theorem text_ok {s : Str} {h : Hh} (c : Cl h) (hn : Tx s) : f_is_text [.str s] h = .ok (.bl true) h := by
  have hl : s.length ≤ sizeLine := Nat.le_trans hn.len sl60
  obtain ⟨H, n, G, e1, ha⟩ := comp_all (xi := xIter (xVar 0)) (it := .items (s.cps.toList.map fun c => Val.str ⟨#[c]⟩)) (t := .name 1) (x := xAndV (xChain oLe oLe (xC (.str " ")) (xVar 1) (xC (.str "~"))) (xBin (oNotIn2 gt) (xCallN oOrd (xCons (xVar 1) (xNil))) (xTup (xCons (xC (.int 37)) (xCons (xC (.int 39)) (xNil)))))) (e := [some (.str s), none]) (h := h) (h1 := h) (vs := [1]) (fun _ => true) (sgs_it rfl) trivial c (by show (List.map _ _).length ≤ _; rw [sgs_len]; exact hl) (fun v m => by
    obtain ⟨k, mk, rfl⟩ := List.mem_map.mp m
    refine ⟨[some (.str s), some (.str ⟨#[k]⟩)], by simp [wipeE, Tg.put], fun g cg => ⟨g, ?_, Grew.refl cg.cl⟩⟩
    have hk := hn.sg k mk
    have a1 : (Str.ofString " ").cps.toList = [32] := by decide +kernel
    have a2 : (Str.ofString "~").cps.toList = [126] := by decide +kernel
    have l1 : oLe (.str " ") (.str ⟨#[k]⟩) g = some (.bl true, g) := by
      have e1 : (⟨#[k]⟩ : Str).cps.toList = [k] := rfl
      have : ¬ [k] < [32] := fun z => by have := (lt_one k 32).mp z; omega
      simp only [oLe, a1, e1, this, decide_false, Bool.not_false]
    have l2 : oLe (.str ⟨#[k]⟩) (.str "~") g = some (.bl true, g) := by
      have e1 : (⟨#[k]⟩ : Str).cps.toList = [k] := rfl
      have : ¬ [126] < [k] := fun z => by have := (lt_one 126 k).mp z; omega
      simp only [oLe, a2, e1, this, decide_false, Bool.not_false]
    have o1 : oOrd [.str ⟨#[k]⟩] g = some (.int k, g) := by
      have : (⟨#[k]⟩ : Str).length = 1 := rfl
      simp [oOrd, this]
    have z2 : (2 : Nat) ≤ sizeLine := by rw [sizeLine_eq]; decide
    have i1 : oNotIn2 gt (.int k) (.tup [.int 37, .int 39]) g = some (.bl true, g) := by
      have n1 : ¬ ((37 : Int) = k) := by omega
      have n2 : ¬ ((39 : Int) = k) := by omega
      simp [oNotIn2, vIn2, vIn, flatX, inX, eqX, n1, n2]
    simp [l1, l2, o1, z2, i1])
  refine call_g c rfl G ?_
  have b2 : ¬ ((60 : Int) < s.length) := by have := hn.len; omega
  have al : ∀ l : List Val, (l.all fun _ => true) = true := fun l => by simp
  rw [al] at ha
  simp [en, x_is_text, len_str hl, b2, e1, ha]
end K

set_option Elab.async false
set_option linter.all false
set_option maxRecDepth 100000
set_option maxHeartbeats 4000000
namespace K
open PySem L2 EX XL
/-- worths: rows of m parts at most, d deep at most -/
inductive Wv (m : Nat) : Nat → Val → Prop
  | flat {d : Nat} {v : Val} : Fw v → Wv m d v
  | row {d : Nat} {xs : List Val} : xs.length ≤ m → (∀ x ∈ xs, Wv m d x) → Wv m (d + 1) (.tup [.str "row", .tup xs])
theorem Fw.und {v : Val} (f : Fw v) : v.und 0 = true := by cases f <;> rfl
theorem Wv.und {m d : Nat} {v : Val} (w : Wv m d v) : v.und 0 = true := by
  induction w with
  | flat f => exact f.und
  | row hl hx ih =>
    have := undL_of ih
    simp [Val.und, undL, this]
theorem Wv.le {m m' d d' : Nat} {v : Val} (w : Wv m d v) (hm : m ≤ m') (hd : d ≤ d') : Wv m' d' v := by
  induction w generalizing d' with
  | flat f => exact .flat f
  | @row d xs hl hx ih =>
    obtain ⟨e, rfl⟩ : ∃ e, d' = e + 1 := ⟨d' - 1, by omega⟩
    exact .row (by omega) fun x m => ih x m (by omega)
structure Dp (m d : Nat) (v : Val) (k : Nat) : Prop where
  le : k ≤ d
  wi : ∀ (n e : Nat) (h : Hh), d < n → Cl h → f_is_worth_within n [v, .int e] h = .ok (.bl (decide (k ≤ e))) h
  dp : ∀ (n : Nat) (h : Hh), d < n → Cl h → f__law_deep n [v] h = .ok (.int k) h
theorem flat_wi {v : Val} {n e : Nat} {h : Hh} (c : Cl h) (f : Fw v) : f_is_worth_within (n + 1) [v, .int e] h = .ok (.bl true) h := by
  refine call_g c rfl (Grew.refl c) ?_
  cases f with
  | non => simp [en, x_is_worth_within, oIs, vIs, EX.isNon]
  | int a b => simp [en, x_is_worth_within, oIs, vIs, EX.isNon, number_int c, a, b]
  | str t =>
    have := number_no (v := .str ‹_›) c (fun h => by simp)
    simp [en, x_is_worth_within, oIs, vIs, EX.isNon, this, text_ok c t]
  | @thing i a b =>
    have h1 := number_no (v := .tup [.str "thing", .int i]) c (fun h => by simp)
    have h2 := text_no (v := .tup [.str "thing", .int i]) c (fun h => by simp)
    simp [en, x_is_worth_within, oIs, vIs, EX.isNon, h1, h2, thing_thing c, a, b]
theorem flat_dp {v : Val} {n : Nat} {h : Hh} (c : Cl h) (f : Fw v) : f__law_deep (n + 1) [v] h = .ok (.int 0) h := by
  refine call_g c rfl (Grew.refl c) ?_
  cases f with
  | non => simp [en, x__law_deep]
  | int a b => simp [en, x__law_deep]
  | str t => simp [en, x__law_deep]
  | @thing i a b => simp [en, x__law_deep]
theorem ints_map {α : Type} {f : α → Int} : ∀ {xs : List α}, intsX (xs.map fun x => Val.int (f x)) = some (xs.map f)
  | [] => rfl
  | x :: xs => by simp only [List.map_cons, intsX, ints_map, Option.map_some]
def mx (ks : List Nat) : Nat := ks.foldr max 0
theorem mx_max (ks : List Nat) : ((0 : Int) :: ks.map fun (k : Nat) => (k : Int)).max? = some (mx ks : Int) := by
  rw [List.max?_eq_some_iff]
  induction ks with
  | nil => exact ⟨.head _, fun b m => by rcases List.mem_singleton.mp m with rfl; exact Int.le_refl _⟩
  | cons k ks ih =>
    have e : mx (k :: ks) = max k (mx ks) := rfl
    rw [e]
    constructor
    · by_cases c : mx ks ≤ k
      · rw [Nat.max_eq_left c]; exact .tail _ (.head _)
      · rw [Nat.max_eq_right (by omega)]
        rcases List.mem_cons.mp ih.1 with z | z
        · rw [z]; exact .head _
        · exact .tail _ (.tail _ z)
    · intro b m
      rcases List.mem_cons.mp m with rfl | m
      · omega
      · rw [List.map_cons] at m
        rcases List.mem_cons.mp m with rfl | m
        · omega
        · have := ih.2 b (.tail _ m); omega
theorem mx_all {α : Type} {xs : List α} {f : α → Nat} {e : Nat} : (xs.all fun x => decide (f x ≤ e)) = decide (mx (xs.map f) ≤ e) := by
  induction xs with
  | nil => simp [mx]
  | cons x xs ih =>
    have : mx ((x :: xs).map f) = max (f x) (mx (xs.map f)) := rfl
    rw [List.all_cons, ih, this, Bool.eq_iff_iff]
    simp
    omega
theorem row_wi {m d : Nat} {xs : List Val} {f : Val → Nat} {n e : Nat} {h : Hh} (c : Cl h) (hm : m ≤ 30) (hl : xs.length ≤ m) (hx : ∀ x ∈ xs, Dp m d x (f x)) (hn : d < n) : f_is_worth_within (n + 1) [.tup [.str "row", .tup xs], .int e] h = .ok (.bl (decide (1 + mx (xs.map f) ≤ e))) h := by
  have h1 := number_no (v := .tup [.str "row", .tup xs]) c (fun h => by simp)
  have h2 := text_no (v := .tup [.str "row", .tup xs]) c (fun h => by simp)
  have b2 : ¬ ((30 : Int) < xs.length) := by omega
  by_cases he : e = 0
  · subst he
    refine call_g c rfl (Grew.refl c) ?_
    simp [en, x_is_worth_within, oIs, vIs, EX.isNon, h1, h2, thing_row c]
  · obtain ⟨e, rfl⟩ : ∃ j, e = j + 1 := ⟨e - 1, by omega⟩
    obtain ⟨H, k, G, e1, ha⟩ := comp_all (xi := xIter (xBin (oIx2 gt) (xVar 0) (xC (.int 1)))) (it := .items xs) (t := .name 2) (x := xCall 2 (f_is_worth_within n) (xCons (xVar 2) (xCons (xBin oSub (xVar 1) (xC (.int 1))) (xNil)))) (e := [some (.tup [.str "row", .tup xs]), some (.int ((e + 1 : Nat) : Int)), none]) (h := h) (h1 := h) (vs := [2]) (fun v => decide (f v ≤ e)) (by simp [itOf]) trivial c (by rw [sizeLine_eq]; show xs.length ≤ _; omega) (fun v m => by
      refine ⟨[some (.tup [.str "row", .tup xs]), some (.int ((e + 1 : Nat) : Int)), some v], by simp [wipeE, Tg.put], fun g cg => ⟨g, ?_, Grew.refl cg.cl⟩⟩
      have := (hx v m).wi n e g hn cg.cl
      have ee : ((e + 1 : Nat) : Int) - 1 = (e : Int) := by omega
      simp only [run_call, run_cons, run_var, run_bin, run_C, run_nil, List.getElem?_cons_succ, List.getElem?_cons_zero, bind_ok, sub_int, of_some, ee, List.length_cons, List.length_nil, if_true]
      exact this)
    refine call_g c rfl G ?_
    have b1 : ¬ (((e + 1 : Nat) : Int) = 0) := by omega
    have q : decide (1 + mx (xs.map f) ≤ e + 1) = xs.all fun v => decide (f v ≤ e) := by
      rw [mx_all]
      exact decide_eq_decide.mpr (by omega)
    rw [q]
    have ha : oAll [.loc k] H = some (.bl (xs.all fun v => decide (f v ≤ e)), H) := ha
    generalize hw : ((e + 1 : Nat) : Int) = w at *
    simp [en, x_is_worth_within, oIs, vIs, EX.isNon, h1, h2, thing_row c, pair_two c, b1, b2, e1, ha]
end K

set_option Elab.async false
set_option linter.all false
set_option maxRecDepth 100000
set_option maxHeartbeats 4000000
namespace K
open PySem L2 EX XL
theorem sl_le {n : Nat} (h : n ≤ 16777216) : n ≤ sizeLine := by rw [sizeLine_eq]; exact h
theorem row_dp {m d : Nat} {xs : List Val} {f : Val → Nat} {n : Nat} {h : Hh} (c : Cl h) (hm : m ≤ 30) (hl : xs.length ≤ m) (hx : ∀ x ∈ xs, Dp m d x (f x)) (hn : d < n) : f__law_deep (n + 1) [.tup [.str "row", .tup xs]] h = .ok (.int ((1 + mx (xs.map f) : Nat) : Int)) h := by
  have c0 : Cl (h ++ [.lst [.int 0]]) := c.app2 rfl
  obtain ⟨H, G, e1, ha⟩ := comp_m (xi := xIter (xBin (oIx2 gt) (xVar 0) (xC (.int 1)))) (it := .items xs) (t := .name 1) (x := xCall 1 (f__law_deep n) (xCons (xVar 1) (xNil))) (e := [some (.tup [.str "row", .tup xs]), none]) (h := h ++ [.lst [.int 0]]) (h1 := h ++ [.lst [.int 0]]) (vs := [1]) (fun v => .int (f v)) (by simp [itOf]) trivial c0 (sl_le (by show xs.length ≤ _; omega)) (fun v m => by
      refine ⟨[some (.tup [.str "row", .tup xs]), some v], by simp [wipeE, Tg.put], rfl, fun g cg => ⟨g, ?_, Grew.refl cg.cl⟩⟩
      have := (hx v m).dp n g hn cg.cl
      simp [this])
  have a0 : H[h.length]? = some (.lst [.int 0]) := G.at_ at_new
  generalize hl0 : (h ++ [Ob.lst [.int 0]]).length = l0 at *
  have ha : H[l0]? = some (.lst (xs.map fun v => .int (f v))) := ha
  have s1 : 1 + xs.length ≤ sizeLine := sl_le (by omega)
  have ad : oAdd (.loc h.length) (.loc l0) H = some (.loc H.length, H ++ [.lst (.int 0 :: xs.map fun v => .int (f v))]) := by
    simp [oAdd, a0, ha, s1]
  have mxl : oMaxL [.loc H.length] (H ++ [.lst (.int 0 :: xs.map fun v => .int (f v))]) = some (.int (mx (xs.map f)), H ++ [.lst (.int 0 :: xs.map fun v => .int (f v))]) := by
    have i1 : intsX (.int 0 :: xs.map fun v => .int (f v)) = some (0 :: xs.map fun v => ((f v : Nat) : Int)) := by
      show (intsX (xs.map fun v => .int (f v))).map _ = _
      rw [ints_map]; rfl
    have i2 := mx_max (xs.map f)
    rw [List.map_map] at i2
    have i3 : (fun (k : Nat) => (k : Int)) ∘ f = fun v => ((f v : Nat) : Int) := rfl
    rw [i3] at i2
    have i4 : (H ++ [Ob.lst (.int 0 :: xs.map fun v => .int (f v))])[H.length]? = some (.lst (.int 0 :: xs.map fun v => .int (f v))) := at_new
    simp only [oMaxL, i4, i1, i2, Option.map_some]
  have G2 : Grew h (H ++ [.lst (.int 0 :: xs.map fun v => .int (f v))]) := ((Grew.new c rfl).trans G).trans (Grew.new G.cl (by
    show undL 0 (.int 0 :: xs.map fun v => .int (f v)) = true
    exact undL_of fun y m => by
      rcases List.mem_cons.mp m with rfl | m
      · rfl
      · obtain ⟨z, _, rfl⟩ := List.mem_map.mp m; rfl))
  refine call_g c rfl G2 ?_
  have z1 : (1 : Nat) ≤ sizeLine := sl_le (by decide)
  have n1 : ¬ (Str.ofString "row" = Str.ofString "thing") := by decide
  generalize hH : H ++ [Ob.lst (.int 0 :: xs.map fun v => .int (f v))] = H2 at *
  simp [en, x__law_deep, n1, z1, e1, ad, mxl]
theorem dp_ex {m d : Nat} {v : Val} (hm : m ≤ 30) (w : Wv m d v) : ∃ k, Dp m d v k := by
  induction w with
  | flat f => exact ⟨0, Nat.zero_le _, fun n e h hn c => by
      obtain ⟨n, rfl⟩ : ∃ j, n = j + 1 := ⟨n - 1, by omega⟩
      rw [flat_wi c f]; simp, fun n h hn c => by
      obtain ⟨n, rfl⟩ : ∃ j, n = j + 1 := ⟨n - 1, by omega⟩
      exact flat_dp c f⟩
  | @row d xs hl hx ih =>
    obtain ⟨f, hf⟩ : ∃ f : Val → Nat, ∀ x ∈ xs, Dp m d x (f x) := by
      classical
      refine ⟨fun x => if h : x ∈ xs then Classical.choose (ih x h) else 0, fun x m => ?_⟩
      simp only [m, dif_pos]
      exact Classical.choose_spec (ih x m)
    refine ⟨1 + mx (xs.map f), ?_, fun n e h hn c => ?_, fun n h hn c => ?_⟩
    · have : mx (xs.map f) ≤ d := by
        have := mx_all (xs := xs) (f := f) (e := d)
        have q : (xs.all fun x => decide (f x ≤ d)) = true := List.all_eq_true.mpr fun x m => decide_eq_true (hf x m).le
        rw [q] at this
        exact of_decide_eq_true this.symm
      omega
    · obtain ⟨n, rfl⟩ : ∃ j, n = j + 1 := ⟨n - 1, by omega⟩
      exact row_wi c hm hl hf (by omega)
    · obtain ⟨n, rfl⟩ : ∃ j, n = j + 1 := ⟨n - 1, by omega⟩
      exact row_dp c hm hl hf (by omega)
theorem worth_ok {m : Nat} {v : Val} {h : Hh} (hm : m ≤ 30) (w : Wv m 4 v) (c : Cl h) : f_is_worth [v] h = .ok (.bl true) h := by
  obtain ⟨k, D⟩ := dp_ex hm w
  have := D.wi 12 4 h (by decide) c
  rw [decide_eq_true D.le] at this
  refine call_g c rfl (Grew.refl c) ?_
  simp only [en, x_is_worth, run_ret, run_call, run_cons, run_var, run_C, run_nil, List.map_cons, List.map_nil, List.cons_append, List.getElem?_cons_zero, bind_ok, List.length_cons, List.length_nil, if_true]
  have e4 : ((4 : Nat) : Int) = 4 := rfl
  rw [e4] at this
  rw [this]
/-- is_worth of a row of given worths, and _law_deep of it -/
theorem row_worth {m : Nat} {xs : List Val} (hm : m ≤ 30) (hl : xs.length ≤ m) (w : ∀ x ∈ xs, Wv m 4 x) : ∃ k : Nat, (∀ h, Cl h → f_is_worth [.tup [.str "row", .tup xs]] h = .ok (.bl (decide (k ≤ 4))) h) ∧ ∀ h, Cl h → f__law_deep 12 [.tup [.str "row", .tup xs]] h = .ok (.int k) h := by
  obtain ⟨k, D⟩ := dp_ex hm (.row hl w)
  refine ⟨k, fun h c => ?_, fun h c => D.dp 12 h (by decide) c⟩
  have := D.wi 12 4 h (by decide) c
  refine call_g c rfl (Grew.refl c) ?_
  simp only [en, x_is_worth, run_ret, run_call, run_cons, run_var, run_C, run_nil, List.map_cons, List.map_nil, List.cons_append, List.getElem?_cons_zero, bind_ok, List.length_cons, List.length_nil, if_true]
  have e4 : ((4 : Nat) : Int) = 4 := rfl
  rw [e4] at this
  rw [this]
end K

set_option Elab.async false
set_option linter.all false
set_option maxRecDepth 100000
set_option maxHeartbeats 4000000
namespace K
open PySem L2 EX XL
/-- a parameter -/
structure Pm where
  sort : Str
  name : Str
  own : Option Val
def Pm.val (p : Pm) : Val := .tup (.str p.sort :: .str p.name :: p.own.toList)
/-- what a parameter of its own may hold -/
structure Ow (v : Val) : Prop where
  fw : Fw v
  no : ∀ h, oIsi [v, .ty "tuple"] h = some (.bl false, h)
def stepOf (s : Str) : Int := if s = "by" then 0 else if s = "or" then 1 else if s = "rest" then 2 else 3
inductive Pk : Pm → Prop
  | by_ {n : Str} : Nm n → Pk ⟨"by", n, none⟩
  | or_ {n : Str} {v : Val} : Nm n → Ow v → Pk ⟨"or", n, some v⟩
  | rest {n : Str} : Nm n → Pk ⟨"rest", n, none⟩
  | only {n : Str} : Nm n → Pk ⟨"only", n, none⟩
  | onlyor {n : Str} {v : Val} : Nm n → Ow v → Pk ⟨"onlyor", n, some v⟩
theorem Pk.nm {p : Pm} (k : Pk p) : Nm p.name := by cases k <;> assumption
theorem in_steps {p : Pm} (k : Pk p) {h : Hh} : oNotIn2 gt (.str p.sort) (.ref "STEPS") h = some (.bl false, h) := by cases k <;> rfl
theorem ix_steps {p : Pm} (k : Pk p) {h : Hh} : oIx2 gt (.ref "STEPS") (.str p.sort) h = some (.int (stepOf p.sort), h) := by cases k <;> rfl
theorem param_ok {p : Pm} {h : Hh} (c : Cl h) (k : Pk p) : f_is_param [p.val] h = .ok (.bl true) h := by
  have hs := in_steps k (h := h)
  have hn := name_ok c k.nm
  refine call_g c rfl (Grew.refl c) ?_
  cases k with
  | by_ n =>
    have ow : oNotIn2 gt (.str "by") (.tup k_OWN) h = some (.bl true, h) := rfl
    simp at hs hn
    simp [en, Pm.val, x_is_param, hs, hn, ow]
  | rest n =>
    have ow : oNotIn2 gt (.str "rest") (.tup k_OWN) h = some (.bl true, h) := rfl
    simp at hs hn
    simp [en, Pm.val, x_is_param, hs, hn, ow]
  | only n =>
    have ow : oNotIn2 gt (.str "only") (.tup k_OWN) h = some (.bl true, h) := rfl
    simp at hs hn
    simp [en, Pm.val, x_is_param, hs, hn, ow]
  | or_ n o =>
    have ow : oNotIn2 gt (.str "or") (.tup k_OWN) h = some (.bl false, h) := rfl
    have w := worth_ok (m := 3) (by decide) (.flat o.fw) c
    have i := o.no h
    simp at hs hn
    simp [en, Pm.val, x_is_param, hs, hn, ow, w, i]
  | onlyor n o =>
    have ow : oNotIn2 gt (.str "onlyor") (.tup k_OWN) h = some (.bl false, h) := rfl
    have w := worth_ok (m := 3) (by decide) (.flat o.fw) c
    have i := o.no h
    simp at hs hn
    simp [en, Pm.val, x_is_param, hs, hn, ow, w, i]
structure Pms (P : List Pm) : Prop where
  len : P.length ≤ 6
  ok : ∀ p ∈ P, Pk p
  up : (P.map fun p => stepOf p.sort).Pairwise (· ≤ ·)
  one : (P.map fun p => stepOf p.sort).count 2 ≤ 1
  nd : (P.map fun p => p.name).Nodup
/-- a list over the parameters -/
def pf {α : Type} (z : α) (f : Str → Str → Option Val → α) : Val → α
  | .tup [.str s, .str n] => f s n none
  | .tup [.str s, .str n, v] => f s n (some v)
  | _ => z
theorem pf_val {α : Type} {z : α} {f : Str → Str → Option Val → α} {p : Pm} : pf z f p.val = f p.sort p.name p.own := by
  obtain ⟨s, n, o⟩ := p
  cases o <;> rfl
theorem Fw.tm {v : Val} (f : Fw v) : Tm 1 70 v := by
  cases f with
  | non => exact Tm.non
  | int a b => exact Tm.int (by omega)
  | str t => exact Tm.str (fun c m => by have := t.sg c m; omega) (by have := t.len; omega)
  | thing a b =>
    have h1 : Tm 0 5 (.str "thing") := Tm.str (by decide +kernel) (by decide +kernel)
    exact (Tml.cons h1 (Tml.cons (k := 0) (m := 0) (Tm.int (by omega)) Tml.nil)).tup.le (by decide) (by decide)
theorem Nm.tm {s : Str} (n : Nm s) {j : Nat} : Tm j 8 (.str s) := Tm.str (fun c m => by have := n.sg c m; omega) n.l8
theorem sort5 : ∀ s ∈ (["by", "or", "rest", "only", "onlyor"] : List Str), (∀ c ∈ s.cps.toList, c < 0x110000) ∧ s.length ≤ 6 := by decide +kernel
theorem Pk.five {p : Pm} (k : Pk p) : p.sort ∈ (["by", "or", "rest", "only", "onlyor"] : List Str) := by cases k <;> simp
theorem sort_tm {p : Pm} (k : Pk p) {j : Nat} : Tm j 6 (.str p.sort) := Tm.str (sort5 _ k.five).1 (sort5 _ k.five).2
theorem Pk.tm {p : Pm} (k : Pk p) : Tm 2 100 p.val := by
  have h1 := sort_tm k (j := 1)
  have h2 := k.nm.tm (j := 1)
  have h3 : Tml 1 71 p.own.toList := by
    cases k with
    | by_ n => exact Tml.nil
    | or_ n o => exact (Tml.cons o.fw.tm (k := 0) Tml.nil).le (by omega) (by omega)
    | rest n => exact Tml.nil
    | only n => exact Tml.nil
    | onlyor n o => exact (Tml.cons o.fw.tm (k := 0) Tml.nil).le (by omega) (by omega)
  exact (Tml.cons h1 (Tml.cons h2 h3)).tup.le (by omega) (by omega)
theorem Pk.und {p : Pm} (k : Pk p) : p.val.und 0 = true := by
  cases k with
  | by_ n => rfl
  | rest n => rfl
  | only n => rfl
  | or_ n o => simp [Pm.val, Val.und, undL, o.fw.und]
  | onlyor n o => simp [Pm.val, Val.und, undL, o.fw.und]
/-! ### len of a set comprehension -/
theorem setLoop_pv {t : Tg} {x : XE} {e : En} {h1 : Hh} {all : List Val} {k : Val → Key} : ∀ (vs : List Val) (acc : List Key), (∀ v ∈ vs, ∃ e1 y, t.put v e = some e1 ∧ x e1 h1 = .ok y h1 ∧ keyOf y = some (k v)) → acc.length + vs.length ≤ 1000 → setLoop (.items all) t xYes x e vs acc h1 = .ok (acc ++ vs.map k) h1
  | [], acc, _, _ => by simp [setLoop, Itn.okAt]
  | v :: vs, acc, st, hl => by
    obtain ⟨e1, y, p, q, r⟩ := st v (.head _)
    rw [List.length_cons] at hl
    have ih := setLoop_pv (t := t) (x := x) (e := e) (h1 := h1) (all := all) vs (acc ++ [k v]) (fun w m => st w (.tail _ m)) (by rw [List.length_append, List.length_singleton]; omega)
    rw [setLoop, if_pos (show (Itn.items all).okAt h1 from trivial)]
    simp only [p, xYes, Res.bindS, if_true, q, r]
    rw [if_pos (by omega), ih]
    simp
theorem metK_nd : ∀ (ks acc : List Key), (acc ++ ks).Nodup → ks.foldl EX.stepK acc = acc ++ ks
  | [], acc, _ => by simp
  | k :: ks, acc, nd => by
    have hk : hasK acc k = false := by
      rw [Bool.eq_false_iff]
      intro z
      obtain ⟨j, mj, e⟩ := List.any_eq_true.mp z
      have e := of_decide_eq_true e
      subst e
      have := (List.nodup_append.mp nd).2.2 j mj j (.head _)
      exact this rfl
    rw [List.foldl_cons, EX.stepK, if_neg (by rw [hk]; simp), metK_nd ks (acc ++ [k]) (by simpa using nd)]
    simp
theorem lenSc_pv {xi : XI} {t : Tg} {x : XE} {e : En} {h h1 : Hh} {all : List Val} {vs : List Nat} (k : Val → Key) (hi : xi e h = .ok (.items all) h1) (hl : all.length ≤ 1000) (nd : (all.map k).Nodup) (st : ∀ v ∈ all, ∃ e1 y, t.put v (wipeE e vs) = some e1 ∧ x e1 h1 = .ok y h1 ∧ keyOf y = some (k v)) : xLenSc xi t xYes x vs e h = .ok (.int all.length) h1 := by
  have := setLoop_pv (t := t) (x := x) (h1 := h1) (all := all) all [] st (by simpa using hl)
  unfold xLenSc
  rw [hi]
  simp only [Res.bind, Itn.xs, this, List.nil_append]
  have m : metK (all.map k) = all.map k := by
    have := metK_nd (all.map k) [] (by simpa using nd)
    simpa [metK] using this
  rw [if_pos (by rw [List.length_map]; exact hl), m, List.length_map]
end K

set_option Elab.async false
set_option linter.all false
set_option maxRecDepth 100000
set_option maxHeartbeats 4000000
namespace K
open PySem L2 EX XL
theorem ints_tml {st : List Int} {n : Nat} (hs : ∀ i ∈ st, i.natAbs < 10 ^ 11) : Tml n st.length (st.map Val.int) := by
  have := Tml.of (n := n) (k := 0) (vs := st.map Val.int) fun v m => by
    obtain ⟨i, mi, rfl⟩ := List.mem_map.mp m
    exact Tm.int (hs i mi)
  rw [List.length_map] at this
  exact this.le (Nat.le_refl _) (by omega)
theorem step_small (s : Str) : (stepOf s).natAbs < 10 ^ 11 := by
  unfold stepOf
  split
  · decide
  split
  · decide
  split
  · decide
  decide
theorem ints_int {st : List Int} : intsX (st.map Val.int) = some st := by
  have := ints_map (xs := st) (f := id)
  simpa using this
theorem pv_map {α : Type} {P : List Pm} {z : α} {f : Str → Str → Option Val → α} : (P.map Pm.val).map (pf z f) = P.map fun p => f p.sort p.name p.own := by
  rw [List.map_map]
  apply List.map_congr_left
  intro p _
  exact pf_val
theorem params_ok {P : List Pm} {h : Hh} (c : Cl h) (k : Pms P) : f_is_params [.tup (P.map Pm.val)] h = .ok (.bl true) h := by
  have len := k.len
  have lz : (P.map Pm.val).length ≤ sizeLine := sl_le (by rw [List.length_map]; omega)
  obtain ⟨H1, n1, G1, e1, a1⟩ := comp_all (xi := xIter (xVar 0)) (it := .items (P.map Pm.val)) (t := .name 2) (x := xCall 1 f_is_param (xCons (xVar 2) (xNil))) (e := [some (.tup (P.map Pm.val)), none, none]) (h := h) (h1 := h) (vs := [2]) (fun _ => true) (by simp [itOf]) trivial c lz (fun v m => by
    obtain ⟨p, mp, rfl⟩ := List.mem_map.mp m
    refine ⟨[some (.tup (P.map Pm.val)), none, some p.val], by simp [wipeE, Tg.put], fun g cg => ⟨g, ?_, Grew.refl cg.cl⟩⟩
    simp [param_ok cg.cl (k.ok p mp)])
  have al : ∀ l : List Val, (l.all fun _ => true) = true := fun l => by simp
  rw [al] at a1
  obtain ⟨H2, G2, e2, a2⟩ := comp_m (xi := xIter (xVar 0)) (it := .items (P.map Pm.val)) (t := .name 2) (x := xBin (oIx2 gt) (xC (.ref "STEPS")) (xBin (oIx2 gt) (xVar 2) (xC (.int 0)))) (e := [some (.tup (P.map Pm.val)), none, none]) (h := H1) (h1 := H1) (vs := [2]) (pf .non fun s _ _ => .int (stepOf s)) (by simp [itOf]) trivial G1.cl lz (fun v m => by
    obtain ⟨p, mp, rfl⟩ := List.mem_map.mp m
    refine ⟨[some (.tup (P.map Pm.val)), none, some p.val], by simp [wipeE, Tg.put], by rw [pf_val]; rfl, fun g cg => ⟨g, ?_, Grew.refl cg.cl⟩⟩
    have := ix_steps (k.ok p mp) (h := g)
    rw [pf_val]
    simp [Pm.val] at this ⊢
    simp [this])
  rw [show (Itn.items (P.map Pm.val)).xs = P.map Pm.val from rfl, pv_map] at a2
  generalize hst : (P.map fun p => stepOf p.sort) = st at *
  have a2 : H2[H1.length]? = some (.lst (st.map Val.int)) := by
    rw [a2, ← hst, List.map_map]; rfl
  generalize hl : H1.length = l at *
  have up := k.up
  have one := k.one
  rw [hst] at up one
  have sme : sortI st = st := (sortI_eq (List.Perm.refl st) up).symm
  have so : oSorted [.loc l] H2 = some (.loc H2.length, H2 ++ [.lst (st.map Val.int)]) := by
    simp only [oSorted, a2, ints_int, Option.map_some, sme]
  have G3 : Grew H2 (H2 ++ [.lst (st.map Val.int)]) := Grew.new G2.cl (undL_of fun y m => by
    obtain ⟨i, _, rfl⟩ := List.mem_map.mp m; rfl)
  have b2 : (H2 ++ [Ob.lst (st.map Val.int)])[H2.length]? = some (.lst (st.map Val.int)) := at_new
  have a3 := G3.at_ a2
  generalize hH3 : H2 ++ [Ob.lst (st.map Val.int)] = H3 at *
  have ne : oNe (.loc l) (.loc H2.length) H3 = some (.bl false, H3) := by
    have := eq_lst (ints_tml (n := 0) (st := st) fun i m => by
      rw [← hst] at m
      obtain ⟨p, _, rfl⟩ := List.mem_map.mp m
      exact step_small _) (by decide) a3 b2
    simp only [oNe, this, Option.map_some, Bool.not_true]
  have ct : oCount (.loc l) [.int 2] H3 = some (.int (st.count 2 : Nat), H3) := by
    simp only [oCount, a3, ints_int, Option.map_some]
  have it : isTy "list" (.loc l) H3 = true := by simp only [isTy, a3, decide_true]
  have st2 : oIx2 gt (.ref "STEPS") (.str "rest") H3 = some (.int 2, H3) := rfl
  have b1 : ¬ ((1 : Int) < (st.count 2 : Nat)) := by omega
  have ls : xLenSc (xIter (xVar 0)) (.name 2) xYes (xBin (oIx2 gt) (xVar 2) (xC (.int 1))) [2] [some (.tup (P.map Pm.val)), some (.loc l), none] H3 = .ok (.int (P.map Pm.val).length) H3 := by
    refine lenSc_pv (pf (.inl 0) fun _ n _ => .inr n) (by simp [itOf]) (by rw [List.length_map]; omega) ?_ ?_
    · rw [pv_map]
      have := k.nd
      have e : (P.map fun p => (Sum.inr p.name : Key)) = (P.map fun p => p.name).map Sum.inr := by rw [List.map_map]; rfl
      rw [e]
      exact List.Pairwise.map _ (fun a b hab z => hab (Sum.inr.inj z)) this
    · intro v m
      obtain ⟨p, mp, rfl⟩ := List.mem_map.mp m
      refine ⟨[some (.tup (P.map Pm.val)), some (.loc l), some p.val], .str p.name, by simp [wipeE, Tg.put], by simp [Pm.val], by rw [pf_val]; rfl⟩
  have b0 : ¬ ((6 : Int) < ((P.map Pm.val).length : Nat)) := by rw [List.length_map]; omega
  refine call_g c rfl ((G1.trans G2).trans G3) ?_
  generalize P.map Pm.val = PV at *
  simp [en, x_is_params, b0, e1, a1, e2, so, ne, ct, it, st2, b1, ls]
theorem need_ok {P : List Pm} {h : Hh} (c : Cl h) (k : Pms P) : f_need_params [.tup (P.map Pm.val)] h = .ok .non h := by
  refine call_gn c (Grew.refl c) (e := [some (.tup (P.map Pm.val))]) ?_
  simp [en, x_need_params, params_ok c k]
end K

set_option Elab.async false
set_option linter.all false
set_option maxRecDepth 100000
set_option maxHeartbeats 4000000
namespace K
open PySem L2 EX XL
/-- a list or a tuple of xs -/
inductive Sq (h : Hh) : Val → List Val → Prop
  | tup {xs : List Val} : Sq h (.tup xs) xs
  | loc {a : Nat} {xs : List Val} : h[a]? = some (.lst xs) → Sq h (.loc a) xs
theorem Sq.grew {h H : Hh} {v : Val} {xs : List Val} (s : Sq h v xs) (G : Grew h H) : Sq H v xs := by
  cases s with
  | tup => exact .tup
  | loc e => exact .loc (G.at_ e)
theorem Sq.seq {h : Hh} {v : Val} {xs : List Val} (s : Sq h v xs) : seqX v h = some xs := by
  cases s with
  | tup => rfl
  | loc e => simp only [seqX, e]
theorem Sq.len {h : Hh} {v : Val} {xs : List Val} (s : Sq h v xs) : oLenD [v] h = some (.int xs.length, h) := by
  cases s with
  | tup => rfl
  | loc e => exact len_lst e
theorem Sq.it {h : Hh} {v : Val} {xs : List Val} (s : Sq h v xs) : ∃ it, itOf v h = some it ∧ it.xs = xs ∧ it.okAt h := by
  cases s with
  | tup => exact ⟨_, rfl, rfl, trivial⟩
  | @loc a _ e => exact ⟨.live a xs, by simp only [itOf, e], rfl, e⟩
theorem list_ok {h : Hh} {v : Val} {xs : List Val} (c : Cl h) (s : Sq h v xs) (hl : xs.length ≤ 20) : f_is_list [v, .int 20] h = .ok (.bl true) h := by
  have b1 : (xs.length : Int) ≤ 20 := by omega
  have t : xIsiT ["list", "tuple"] (xVar 0) [some v, some (.int 20)] h = .ok (.bl true) h := by
    cases s with
    | tup => simp [xIsiT, tyName, kitL]
    | loc e => simp [xIsiT, tyName, kitL, e]
  refine call_g c rfl (Grew.refl c) ?_
  simp [en, x_is_list, t, s.len, b1]
theorem in_strs {s : Str} {ss : List Str} : inX (.str s) (ss.map Val.str) = decide (s ∈ ss) := by
  induction ss with
  | nil => rfl
  | cons a ss ih =>
    have e : inX (.str s) (Val.str a :: ss.map Val.str) = (eqX (.str a) (.str s) || inX (.str s) (ss.map Val.str)) := rfl
    have e2 : eqX (.str a) (.str s) = decide (a = s) := by
      show (a == s) = _
      by_cases q : a = s
      · subst q; simp
      · rw [decide_eq_false q]; exact beq_false_of_ne q
    rw [List.map_cons, e, ih, e2, Bool.eq_iff_iff, Bool.or_eq_true, decide_eq_true_eq, decide_eq_true_eq, decide_eq_true_eq, List.mem_cons]
    exact ⟨fun z => z.imp Eq.symm id, fun z => z.imp Eq.symm id⟩
theorem flat_strs {ss : List Str} : (ss.map Val.str).all flatX = true := by
  rw [List.all_eq_true]
  intro v m
  obtain ⟨s, _, rfl⟩ := List.mem_map.mp m
  rfl
theorem oin_tup {G : GT} {s : Str} {ss : List Str} {h : Hh} : oIn2 G (.str s) (.tup (ss.map Val.str)) h = some (.bl (decide (s ∈ ss)), h) := by
  simp only [oIn2, vIn2, vIn, flat_strs, in_strs, flatX, and_self, if_true, Option.map_some]
theorem oin_lst {G : GT} {s : Str} {ss : List Str} {h : Hh} {n : Nat} (e : h[n]? = some (.lst (ss.map Val.str))) : oIn2 G (.str s) (.loc n) h = some (.bl (decide (s ∈ ss)), h) := by
  simp only [oIn2, vIn2, vIn, e, flat_strs, in_strs, flatX, and_self, if_true, Option.map_some]
theorem onot_lst {G : GT} {s : Str} {ss : List Str} {h : Hh} {n : Nat} (e : h[n]? = some (.lst (ss.map Val.str))) : oNotIn2 G (.str s) (.loc n) h = some (.bl (!decide (s ∈ ss)), h) := by
  simp only [oNotIn2, vIn2, vIn, e, flat_strs, in_strs, flatX, and_self, if_true, Option.map_some]
/-- those of some sorts -/
def sel (ss : List Str) (P : List Pm) : List Pm := P.filter fun p => decide (p.sort ∈ ss)
theorem pv_filter {P : List Pm} {f : Str → Str → Option Val → Bool} : (P.map Pm.val).filter (pf false f) = (P.filter fun p => f p.sort p.name p.own).map Pm.val := by
  rw [List.filter_map]
  congr 1
  apply List.filter_congr
  intro p _
  exact pf_val
theorem sorts_ok {P : List Pm} {h : Hh} (ss : List Str) (c : Cl h) (k : Pms P) : ∃ H, Grew h H ∧ f_with_sorts [.tup (P.map Pm.val), .tup (ss.map Val.str)] h = .ok (.loc h.length) H ∧ H[h.length]? = some (.lst ((sel ss P).map Pm.val)) := by
  have len := k.len
  have lz : (P.map Pm.val).length ≤ sizeLine := sl_le (by rw [List.length_map]; omega)
  obtain ⟨H, G, e1, a⟩ := comp_c (xi := xIter (xVar 0)) (it := .items (P.map Pm.val)) (t := .name 2) (tt := xTest (xBin (oIn2 gt) (xBin (oIx2 gt) (xVar 2) (xC (.int 0))) (xVar 1))) (x := xVar 2) (e := [some (.tup (P.map Pm.val)), some (.tup (ss.map Val.str)), none]) (h := h) (h1 := h) (vs := [2]) (pf false fun s _ _ => decide (s ∈ ss)) id (by simp [itOf]) trivial c lz (fun v m => by
    obtain ⟨p, mp, rfl⟩ := List.mem_map.mp m
    refine ⟨[some (.tup (P.map Pm.val)), some (.tup (ss.map Val.str)), some p.val], by simp [wipeE, Tg.put], fun _ => (k.ok p mp).und, fun g cg => ⟨g, ?_, Grew.refl cg.cl, fun _ => ⟨g, by simp, Grew.refl cg.cl⟩⟩⟩
    rw [pf_val]
    simp [Pm.val, oin_tup])
  refine ⟨H, G, ?_, ?_⟩
  · refine call_gl (Nat.le_refl _) ?_
    simp [en, x_with_sorts, e1]
  · rw [a, show (Itn.items (P.map Pm.val)).xs = P.map Pm.val from rfl, pv_filter, List.map_id]
    rfl
/-! ### worths by name -/
structure Nw (kvs : List (Key × Val)) : Prop where
  len : kvs.length ≤ 30
  ok : ∀ kv ∈ kvs, ∃ s, kv.1 = .inr s ∧ Nm s ∧ Wv 3 4 kv.2
  nd : (kvs.map (·.1)).Nodup
theorem unlk_grew {h H : Hh} {d : Nat} {kvs : List (Key × Val)} (c : Cl h) (e : h[d]? = some (.dct false kvs)) (G : Grew (h.set d (.dct true kvs)) H) : ∃ H', unlkH d H = some H' ∧ Grew h H' ∧ ∀ n o, n ≠ d → H[n]? = some o → H'[n]? = some o := by
  have hd : d < h.length := (List.getElem?_eq_some_iff.mp e).1
  have e1 : H[d]? = some (.dct true kvs) := G.at_ (at_same e)
  refine ⟨H.set d (.dct false kvs), by simp only [unlkH, e1], ⟨?_, ?_⟩, fun n o hn ho => at_put hn ho⟩
  · obtain ⟨⟨g, rfl⟩, _⟩ := G
    refine ⟨g, ?_⟩
    rw [List.set_append_left _ _ (by rw [List.length_set]; exact hd), List.set_set, set_same e]
  · exact G.cl.put d (ob_le G.le (by rw [List.length_set]; exact c.get e))
theorem lock_cl {h : Hh} {d : Nat} {kvs : List (Key × Val)} (c : Cl h) (e : h[d]? = some (.dct false kvs)) : Cl (h.set d (.dct true kvs)) := c.put d (show Ob.und h.length (.dct false kvs) = true from c.get e)
def nwf {α : Type} (z : α) (f : Val → Val → α) : Val → α
  | .tup [a, b] => f a b
  | _ => z
theorem rows_ok {h : Hh} {d : Nat} {kvs : List (Key × Val)} (c : Cl h) (e : h[d]? = some (.dct false kvs)) (w : Nw kvs) : f_are_rows [.loc d] h = .ok (.bl true) h := by
  have len := w.len
  have hd : d < h.length := (List.getElem?_eq_some_iff.mp e).1
  have cl := lock_cl c e
  have lz : (kvs.map Md.items.x).length ≤ sizeLine := sl_le (by rw [List.length_map]; omega)
  have e2 : (h.set d (.dct true kvs))[d]? = some (.dct true kvs) := at_same e
  obtain ⟨H, G, e1, a⟩ := comp_m (xi := xDIt 0 .items) (it := .items (kvs.map Md.items.x)) (t := .tup [.name 1, .name 2]) (x := xAndV (xCall 1 f_is_name (xCons (xVar 1) (xNil))) (xCall 1 f_is_worth (xCons (xVar 2) (xNil)))) (e := [some (.loc d), none, none]) (h := h.set d (.dct true kvs)) (h1 := h.set d (.dct true kvs)) (vs := [1, 2]) (fun _ => .bl true) (by simp [xDIt, e2]) trivial cl lz (fun v m => by
    obtain ⟨kv, mk, rfl⟩ := List.mem_map.mp m
    obtain ⟨s, ek, hn, hw⟩ := w.ok kv mk
    have : Md.items.x kv = .tup [.str s, kv.2] := by show Val.tup [kX kv.1, kv.2] = _; rw [ek]; rfl
    rw [this]
    refine ⟨[some (.loc d), some (.str s), some kv.2], by simp [wipeE, Tg.put, putL], rfl, fun g cg => ⟨g, ?_, Grew.refl cg.cl⟩⟩
    simp [name_ok cg.cl hn, worth_ok (by decide) hw cg.cl])
  obtain ⟨H', u, G', keep⟩ := unlk_grew c e G
  have a' := keep _ _ (by rw [List.length_set]; omega) a
  have al := all_map (f := fun _ => true) a'
  have lk : xLk 0 (xComp (xDIt 0 .items) (.tup [.name 1, .name 2]) xYes (xAndV (xCall 1 f_is_name (xCons (xVar 1) (xNil))) (xCall 1 f_is_worth (xCons (xVar 2) (xNil)))) [1, 2]) [some (.loc d), none, none] h = .ok (.loc (h.set d (.dct true kvs)).length) H' := by
    simp only [xLk, List.getElem?_cons_zero, e, e1, unlkE, u]
  have al1 : oAll [.loc (h.set d (.dct true kvs)).length] H' = some (.bl true, H') := by rw [al]; simp
  generalize (h.set d (.dct true kvs)).length = n at *
  have b1 : ¬ ((30 : Int) < kvs.length) := by omega
  refine call_g c rfl G' ?_
  simp [en, x_are_rows, isi_dct e, len_dct e, b1, lk, al1]
end K

set_option Elab.async false
set_option linter.all false
set_option maxRecDepth 100000
set_option maxHeartbeats 4000000
namespace K
open PySem L2 EX XL
def places (P : List Pm) : List Str := (sel ["by", "or"] P).map fun p => p.name
def rests (P : List Pm) : List Str := (sel ["rest"] P).map fun p => p.name
def base (P : List Pm) (G : List Val) : List (Key × Val) := mergeX [] (((places P).map Sum.inr).zip G)
def left (P : List Pm) (G : List Val) : List Val := G.drop (places P).length
def rowV (xs : List Val) : Val := .tup [.str "row", .tup xs]
/-- what placed finds -/
def plc (P : List Pm) (G : List Val) (kd : Nat) : Option (List (Key × Val)) := if (left P G).isEmpty then some (base P G) else match rests P with
  | [] => none
  | r :: _ => if kd ≤ 4 then some (putX (base P G) (.inr r) (rowV (left P G))) else none
theorem cut_drop {α : Type} {xs : List α} {n : Nat} : cutX xs (some (n : Int)) none = xs.drop n := by
  unfold cutX
  rw [HT.sIx_nat, HT.sIx_none]
  by_cases h : n ≤ xs.length
  · rw [Nat.min_eq_left h, List.take_of_length_le (by rw [List.length_drop]; omega)]
  · rw [Nat.min_eq_right (by omega), Nat.sub_self, List.take_zero, List.drop_eq_nil_of_le (by omega)]
theorem cut_take {α : Type} {xs : List α} {n : Nat} : cutX xs none (some (n : Int)) = xs.take n := by
  unfold cutX
  rw [HT.sIx_nat, HT.sIx_none, List.drop_zero, Nat.sub_zero]
  by_cases h : n ≤ xs.length
  · rw [Nat.min_eq_left h]
  · rw [Nat.min_eq_right (by omega), List.take_of_length_le (Nat.le_refl _), List.take_of_length_le (by omega)]
theorem und_mem {xs : List Val} (h : ∀ x ∈ xs, x.und 0 = true) : undL 0 xs = true := undL_of h
/-- tuple(args[n:]) -/
theorem tail_ok {a b : XE} {e : En} {H : Hh} {v : Val} {G : List Val} {n : Nat} (c : Cl H) (ha : a e H = .ok v H) (hb : b e H = .ok (.int n) H) (s : Sq H v G) (hg : ∀ x ∈ G, x.und 0 = true) : ∃ H' u, Grew H H' ∧ xSl oSl a (some b) none e H = .ok u H' ∧ oTuple [u] H' = some (.tup (G.drop n), H') := by
  cases s with
  | tup =>
    refine ⟨H, .tup (G.drop n), Grew.refl c, ?_, rfl⟩
    simp [xSl, ha, hb, xPart, oSl, cut_drop]
  | @loc l _ el =>
    have q : (H ++ [Ob.lst (G.drop n)])[H.length]? = some (.lst (G.drop n)) := at_new
    refine ⟨H ++ [.lst (G.drop n)], .loc H.length, Grew.new (o := .lst (G.drop n)) c (show undL 0 (G.drop n) = true from und_mem fun x m => hg x (List.mem_of_mem_drop m)), ?_, ?_⟩
    · have o1 : oSl (.loc l) (some (n : Int)) none H = some (.loc H.length, H ++ [.lst (G.drop n)]) := by simp only [oSl, el, cut_drop]
      simp [xSl, ha, hb, xPart, o1]
    · simp only [oTuple, q]
theorem keys_strs : ∀ {ss : List Str}, keysX (ss.map Val.str) = some (ss.map Sum.inr)
  | [] => rfl
  | s :: ss => by
    have h := keys_strs (ss := ss)
    simp only [List.map_cons, keysX, h, EX.keyOf]
theorem zip_take {α β : Type} : ∀ (l : List α) (r : List β), (l.take (min l.length r.length)).zip r = l.zip r
  | [], r => by simp
  | a :: l, [] => by simp
  | a :: l, b :: r => by
    have := zip_take l r
    simp only [List.length_cons, Nat.succ_min_succ, List.take_succ_cons, List.zip_cons_cons, this]
theorem putX_mem {kvs : List (Key × Val)} {k : Key} {v : Val} {q : Key × Val} (m : q ∈ putX kvs k v) : (q.1 = k ∧ q.2 = v) ∨ q ∈ kvs := by
  unfold putX at m
  split at m
  · obtain ⟨p, mp, e⟩ := List.mem_map.mp m
    by_cases h : p.1 = k
    · rw [if_pos h] at e; subst e; exact .inl ⟨h, rfl⟩
    · rw [if_neg h] at e; subst e; exact .inr mp
  · rcases List.mem_append.mp m with m | m
    · exact .inr m
    · rw [List.mem_singleton.mp m]; exact .inl ⟨rfl, rfl⟩
theorem merge_mem : ∀ (L acc : List (Key × Val)) {q : Key × Val}, q ∈ mergeX acc L → q ∈ acc ∨ q ∈ L
  | [], acc, q, m => .inl m
  | p :: L, acc, q, m => by
    have m : q ∈ mergeX (putX acc p.1 p.2) L := m
    rcases merge_mem L _ m with m | m
    · rcases putX_mem m with ⟨a, b⟩ | m
      · have : q = p := Prod.ext a b
        subst this; exact .inr (.head _)
      · exact .inl m
    · exact .inr (.tail _ m)
theorem base_mem {P : List Pm} {G : List Val} {q : Key × Val} (m : q ∈ base P G) : q.2 ∈ G ∧ ∃ s ∈ places P, q.1 = .inr s := by
  rcases merge_mem _ _ m with m | m
  · exact absurd m List.not_mem_nil
  · have := List.of_mem_zip m
    obtain ⟨s, ms, e⟩ := List.mem_map.mp this.1
    exact ⟨this.2, s, ms, e.symm⟩
theorem putX_len {kvs : List (Key × Val)} {k : Key} {v : Val} : (putX kvs k v).length ≤ kvs.length + 1 := by
  unfold putX
  split
  · rw [List.length_map]; omega
  · rw [List.length_append, List.length_singleton]; omega
theorem merge_len : ∀ (L acc : List (Key × Val)), (mergeX acc L).length ≤ acc.length + L.length
  | [], acc => by simp [mergeX]
  | p :: L, acc => by
    have := merge_len L (putX acc p.1 p.2)
    have h2 := putX_len (kvs := acc) (k := p.1) (v := p.2)
    have e : mergeX acc (p :: L) = mergeX (putX acc p.1 p.2) L := rfl
    rw [e, List.length_cons]; omega
theorem und_dct {lk : Bool} {kvs : List (Key × Val)} (h : ∀ q ∈ kvs, q.2.und 0 = true) : Ob.und 0 (.dct lk kvs) = true := undL_of fun x m => by
  obtain ⟨q, mq, rfl⟩ := List.mem_map.mp m
  exact h q mq
theorem zip_ok {H : Hh} {l : Nat} {v : Val} {P : List Pm} {G : List Val} (k : Pms P) (el : H[l]? = some (.lst ((places P).map Val.str))) (s : Sq H v G) : oDictZip (.loc l) v H = some (.loc H.length, H ++ [.dct false (base P G)]) := by
  have len := k.len
  have lp : (places P).length ≤ 6 := by
    unfold places sel; rw [List.length_map]; exact Nat.le_trans (List.length_filter_le _ _) len
  have h1 : seqX (.loc l) H = some ((places P).map Val.str) := by simp only [seqX, el]
  have h2 : ((places P).map Val.str).take (min ((places P).map Val.str).length G.length) = ((places P).take (min (places P).length G.length)).map Val.str := by
    rw [List.length_map, List.map_take]
  unfold oDictZip
  simp only [h1, s.seq, h2, keys_strs]
  rw [if_pos (sl_le (by rw [List.length_map]; omega)), base]
  have h3 := zip_take ((places P).map (Sum.inr : Str → Key)) G
  rw [List.length_map] at h3
  rw [List.map_take, h3]
end K

set_option Elab.async false
set_option linter.all false
set_option maxRecDepth 100000
set_option maxHeartbeats 4000000
namespace K
open PySem L2 EX XL
def bkW : Nat → Nat
  | 0 => 70
  | d + 1 => 5 + 3 * (bkW d + 1)
theorem bkW_ge : ∀ d, 70 ≤ bkW d
  | 0 => Nat.le_refl _
  | d + 1 => by have := bkW_ge d; show 70 ≤ 5 + 3 * (bkW d + 1); omega
theorem row_str {n : Nat} : Tm n 3 (.str "row") := Tm.str (by decide +kernel) (by decide +kernel)
theorem row_tm {n k m : Nat} {xs : List Val} (h : ∀ x ∈ xs, Tm n k x) (hl : xs.length ≤ m) : Tm (n + 2) (5 + m * (k + 1)) (rowV xs) := by
  have h1 := (Tml.of h).tup
  have h2 := (Tml.cons (row_str (n := n + 1)) (Tml.cons h1 (k := 0) Tml.nil)).tup
  refine h2.le (Nat.le_refl _) ?_
  have := Nat.mul_le_mul_right (k + 1) hl
  omega
theorem Wv.tm {d : Nat} {v : Val} (w : Wv 3 d v) : Tm (2 * d + 1) (bkW d) v := by
  induction w with
  | @flat d v f => exact f.tm.le (by omega) (bkW_ge d)
  | @row d xs hl hx ih => exact (row_tm ih hl).le (by omega) (Nat.le_refl _)
theorem Wv.tm4 {v : Val} (w : Wv 3 4 v) : Tm 9 5990 v := w.tm.le (by decide) (by decide)
@[simp] theorem run_setix {o i x : XE} {e : En} {h : Hh} : sSetIx o i x e h = match x e h with
  | .ok v h1 => (match o e h1 with
    | .ok ov h2 => (match i e h2 with
      | .ok iv h3 => (match oSet ov iv v h3 with
        | some h4 => .nx e h4
        | none => .stuck)
      | .exc c fs h3 => .exc c fs e h3
      | .stuck => .stuck)
    | .exc c fs h2 => .exc c fs e h2
    | .stuck => .stuck)
  | .exc c fs h1 => .exc c fs e h1
  | .stuck => .stuck := rfl
@[simp] theorem run_raise {c : Str} {fl : List Str} {xa : XA} {e : En} {h : Hh} : sRaise c fl xa e h = match xa e h with
  | .ok vs h1 => if vs.length = fl.length ∧ vs.length ≤ 1000 then .exc c (fl.zip vs).reverse e h1 else .stuck
  | .exc c fs h1 => .exc c fs e h1
  | .stuck => .stuck := rfl
def fltV (w : Str) (v : Val) : List (Str × Val) := [("found", v), ("why", .str w)]
theorem placed_ok {P : List Pm} {G : List Val} {kd : Nat} {v : Val} {h : Hh} (c : Cl h) (k : Pms P) (s : Sq h v G) (hw : ∀ x ∈ G, Wv 3 4 x) (hl : G.length ≤ 20) (hk : ∀ h, Cl h → f_is_worth [rowV (left P G)] h = .ok (.bl (decide (kd ≤ 4))) h) :
    match plc P G kd with
    | some kvs => ∃ H m, Grew h H ∧ f_placed [.tup (P.map Pm.val), v] h = .ok (.loc m) H ∧ h.length ≤ m ∧ H[m]? = some (.dct false kvs)
    | none => f_placed [.tup (P.map Pm.val), v] h = .exc "Fault" (fltV "many" (.int G.length)) h := by
  have hu : ∀ x ∈ G, x.und 0 = true := fun x m => (hw x m).und
  have ku : ∀ p ∈ sel ["by", "or"] P, Pk p := fun p m => k.ok p ((List.mem_filter.mp m).1)
  obtain ⟨H1, G1, e1, a1⟩ := sorts_ok ["by", "or"] c k
  have e1 : f_with_sorts [.tup (P.map Pm.val), .tup k_PLACED] h = .ok (.loc h.length) H1 := e1
  have lsel : ((sel ["by", "or"] P).map Pm.val).length ≤ sizeLine := sl_le (by
    rw [List.length_map]; have := List.length_filter_le (fun p : Pm => decide (p.sort ∈ (["by", "or"] : List Str))) P; have := k.len; unfold sel; omega)
  obtain ⟨H2, G2, e2, a2⟩ := comp_m (xi := xIter (xCall 2 f_with_sorts (xCons (xVar 0) (xCons (xC (.tup k_PLACED)) (xNil))))) (it := .live h.length ((sel ["by", "or"] P).map Pm.val)) (t := .name 6) (x := xBin (oIx2 gt) (xVar 6) (xC (.int 1))) (e := [some (.tup (P.map Pm.val)), some v, none, none, none, none, none]) (h := h) (h1 := H1) (vs := [6]) (pf .non fun _ n _ => .str n) (by simp [e1, itOf, a1]) a1 G1.cl lsel (fun w m => by
    obtain ⟨p, mp, rfl⟩ := List.mem_map.mp m
    refine ⟨[some (.tup (P.map Pm.val)), some v, none, none, none, none, some p.val], by simp [wipeE, Tg.put], by rw [pf_val]; rfl, fun g cg => ⟨g, ?_, Grew.refl cg.cl⟩⟩
    rw [pf_val]
    simp [Pm.val])
  have a2 : H2[H1.length]? = some (.lst ((places P).map Val.str)) := by
    rw [a2, show (Itn.live h.length ((sel ["by", "or"] P).map Pm.val)).xs = (sel ["by", "or"] P).map Pm.val from rfl, pv_map, places, List.map_map]
    rfl
  have G02 := G1.trans G2
  have z := zip_ok k a2 (s.grew G02)
  have G3 : Grew H2 (H2 ++ [.dct false (base P G)]) := Grew.new G2.cl (und_dct fun q m => hu _ (base_mem m).1)
  have b3 : (H2 ++ [Ob.dct false (base P G)])[H2.length]? = some (.dct false (base P G)) := at_new
  have a3 := G3.at_ a2
  have s3 := (s.grew G02).grew G3
  have G03 := G02.trans G3
  have l2 : h.length ≤ H2.length := G02.le
  generalize H2 ++ [Ob.dct false (base P G)] = H3 at *
  generalize hl1 : H1.length = l1 at *
  generalize hl2 : H2.length = m at *
  obtain ⟨H4, u4, G4, e4, t4⟩ := tail_ok (a := xVar 1) (b := xCallN oLenD (xCons (xVar 2) xNil)) (e := [some (.tup (P.map Pm.val)), some v, some (.loc l1), some (.loc m), none, none, none]) (n := (places P).length) G3.cl (by simp) (by simp [len_lst a3]) s3 hu
  have b4 := G4.at_ b3
  have G04 := G03.trans G4
  have t4 : oTuple [u4] H4 = some (.tup (left P G), H4) := t4
  have hlm : ∀ x ∈ left P G, Wv 3 4 x := fun x mx => hw x (List.mem_of_mem_drop mx)
  have tl := Tml.of (vs := left P G) fun x mx => (hlm x mx).tm4
  have ne := ne_nilT (h := H4) tl (by decide)
  generalize hPV : P.map Pm.val = PV at *
  have z0 : (0 : Nat) ≤ sizeLine := Nat.zero_le _
  have z1 : (1 : Nat) ≤ sizeLine := sl_le (by decide)
  have z2 : (2 : Nat) ≤ sizeLine := sl_le (by decide)
  unfold plc
  by_cases le : (left P G).isEmpty = true
  · rw [if_pos le]
    rw [le] at ne
    refine ⟨H4, m, G04, ?_, l2, b4⟩
    refine call_gl l2 ?_
    simp [en, x_placed, e2, z, e4, t4, z1, ne]
  · rw [if_neg le]
    have le' : (left P G).isEmpty = false := by simpa using le
    rw [le'] at ne
    obtain ⟨H5, G5, e5, a5⟩ := sorts_ok ["rest"] G4.cl k
    rw [hPV] at e5
    have e5 : f_with_sorts [.tup PV, .tup [.str "rest"]] H4 = .ok (.loc H4.length) H5 := e5
    have G6 : Grew H5 (H5 ++ [.lst []]) := Grew.new G5.cl rfl
    have b6 : (H5 ++ [Ob.lst []])[H5.length]? = some (.lst []) := at_new
    have a6 := G6.at_ a5
    have c6 := G6.at_ (G5.at_ b4)
    have G06 := (G04.trans G5).trans G6
    generalize hH6 : H5 ++ [Ob.lst []] = H6 at *
    generalize hl5 : H5.length = l5 at *
    generalize H4.length = l4 at *
    have tr : Tml 2 (((sel ["rest"] P).map Pm.val).length * 101) ((sel ["rest"] P).map Pm.val) := Tml.of fun w mw => by
      obtain ⟨p, mp, rfl⟩ := List.mem_map.mp mw
      exact (k.ok p ((List.mem_filter.mp mp).1)).tm
    have er := eq_nil (h := H6) tr (by decide) a6 b6
    have ln := ((s3.grew G4).grew G5).grew G6
    have ln := ln.len
    cases hr : sel ["rest"] P with
    | nil =>
      have : rests P = [] := by unfold rests; rw [hr]; rfl
      rw [this]
      rw [hr] at er
      refine call_ge c rfl G06 (e := [some (.tup PV), some v, some (.loc l1), some (.loc m), some (.tup (left P G)), some (.loc l4), none]) ?_
      have er : oEq (.loc l4) (.loc l5) H6 = some (.bl true, H6) := er
      simp [en, x_placed, e2, z, e4, t4, z1, ne, e5, hH6, hl5, er, ln, fltV]
    | cons p ps =>
      have : rests P = p.name :: ps.map fun p => p.name := by unfold rests; rw [hr]; rfl
      rw [this]
      rw [hr] at er a6
      have er : oEq (.loc l4) (.loc l5) H6 = some (.bl false, H6) := er
      have hk6 := hk H6 G06.cl
      have hk6 : f_is_worth [.tup [.str "row", .tup (left P G)]] H6 = .ok (.bl (decide (kd ≤ 4))) H6 := hk6
      by_cases hd : kd ≤ 4
      · skip
        rw [decide_eq_true hd] at hk6
        simp only [hd, if_true]
        have ix0 : oIx2 gt (.loc l4) (.int 0) H6 = some (p.val, H6) := lst_at (n := 0) a6 rfl
        have ix1 : oIx2 gt p.val (.int 1) H6 = some (.str p.name, H6) := by
          simp [Pm.val]
        have bl : (base P G).length < sizeLine := by
          have := merge_len (((places P).map Sum.inr).zip G) []
          have h2 : (((places P).map (Sum.inr : Str → Key)).zip G).length ≤ 20 := by rw [List.length_zip]; omega
          rw [sizeLine_eq]
          simp only [List.length_nil] at this
          unfold base
          omega
        have st : oSet (.loc m) (.str p.name) (.tup [.str "row", .tup (left P G)]) H6 = some (H6.set m (.dct false (putX (base P G) (.inr p.name) (rowV (left P G))))) := by
          simp only [oSet, c6, EX.keyOf, bl, if_true]; rfl
        have G7 : Grew h (H6.set m (.dct false (putX (base P G) (.inr p.name) (rowV (left P G))))) := G06.put l2 (ob_le (Nat.zero_le _) (und_dct fun q mq => by
          rcases putX_mem mq with ⟨_, e⟩ | mq
          · rw [e]; simp [rowV, Val.und, undL, und_mem fun x mx => (hlm x mx).und]
          · exact hu _ (base_mem mq).1))
        have b7 : (H6.set m (.dct false (putX (base P G) (.inr p.name) (rowV (left P G)))))[m]? = some (.dct false (putX (base P G) (.inr p.name) (rowV (left P G)))) := at_same c6
        generalize H6.set m (.dct false (putX (base P G) (.inr p.name) (rowV (left P G)))) = H7 at *
        refine ⟨H7, m, G7, ?_, l2, b7⟩
        refine call_gl l2 ?_
        simp [en, x_placed, e2, z, e4, t4, z1, z2, ne, e5, hH6, hl5, er, hk6, ix0, ix1, st]
      · rw [decide_eq_false hd] at hk6
        simp only [hd, if_false]
        refine call_ge c rfl G06 (e := [some (.tup PV), some v, some (.loc l1), some (.loc m), some (.tup (left P G)), some (.loc l4), none]) ?_
        simp [en, x_placed, e2, z, e4, t4, z1, z2, ne, e5, hH6, hl5, er, hk6, ln, fltV]
end K

set_option Elab.async false
set_option linter.all false
set_option maxRecDepth 100000
set_option maxHeartbeats 4000000
namespace K
open PySem L2 EX XL
abbrev Kvs := List (Key × Val)
def free (P : List Pm) : List Str := (P.filter fun p => !decide (p.sort = ("rest" : Str))).map fun p => p.name
def fill (fr : List Str) : Kvs → Kvs → Except (Str × Val) Kvs
  | [], acc => .ok acc
  | kv :: r, acc => match kv.1 with
    | .inr s => if s ∈ fr then (if (valX acc kv.1).isSome = true then .error ("twice", .str s) else fill fr r (putX acc kv.1 kv.2)) else .error ("strange", .str s)
    | .inl i => .error ("strange", .int i)
def tell (F : Kvs) : List Pm → Kvs → Except (Str × Val) Kvs
  | [], t => .ok t
  | p :: ps, t => if (valX F (.inr p.name)).isSome = false ∧ p.sort ∈ (["by", "only"] : List Str) then .error ("lacks", .str p.name) else tell F ps (putX t (.inr p.name) ((valX F (.inr p.name)).getD (p.own.getD (rowV []))))
def matP (P : List Pm) (G : List Val) (kvs : Kvs) (kd : Nat) : Except (Str × Val) Kvs := match plc P G kd with
  | none => .error ("many", .int G.length)
  | some b => match fill (free P) kvs b with
    | .error q => .error q
    | .ok F => tell F P []
def UF (F : Kvs) : Prop := ∀ q ∈ F, q.2.und 0 = true
theorem UF.put {F : Kvs} (u : UF F) {k : Key} {v : Val} (hv : v.und 0 = true) : UF (putX F k v) := fun q m => by
  rcases putX_mem m with ⟨_, e⟩ | m
  · rw [e]; exact hv
  · exact u q m
theorem valX_und {F : Kvs} (u : UF F) {k : Key} {v : Val} (e : valX F k = some v) : v.und 0 = true := by
  unfold valX at e
  obtain ⟨q, hq, rfl⟩ := Option.map_eq_some_iff.mp e
  exact u q (List.mem_of_find?_eq_some hq)
theorem in_dct {G : GT} {h : Hh} {n : Nat} {lk : Bool} {F : Kvs} {s : Str} (e : h[n]? = some (.dct lk F)) : oIn2 G (.str s) (.loc n) h = some (.bl (valX F (.inr s)).isSome, h) := by
  simp only [oIn2, vIn2, e, EX.keyOf, Option.map_some]
theorem nin_dct {G : GT} {h : Hh} {n : Nat} {lk : Bool} {F : Kvs} {s : Str} (e : h[n]? = some (.dct lk F)) : oNotIn2 G (.str s) (.loc n) h = some (.bl (!(valX F (.inr s)).isSome), h) := by
  simp only [oNotIn2, vIn2, e, EX.keyOf, Option.map_some]
theorem set_dct {h : Hh} {n : Nat} {F : Kvs} {s : Str} {v : Val} (e : h[n]? = some (.dct false F)) (hl : F.length < sizeLine) : oSet (.loc n) (.str s) v h = some (h.set n (.dct false (putX F (.inr s) v))) := by
  simp only [oSet, e, EX.keyOf, hl, if_true]
noncomputable def bd1 : XS := sSeq (sIf (xTest (xBin (oNotIn2 gt) (xVar 5) (xVar 4))) (sRaise "Fault" ["why", "found"] (xCons (xC (.str "strange")) (xCons (xVar 5) (xNil)))) (sNil)) (sSeq (sIf (xTest (xBin (oIn2 gt) (xVar 5) (xVar 3))) (sRaise "Fault" ["why", "found"] (xCons (xC (.str "twice")) (xCons (xVar 5) (xNil)))) (sNil)) (sSetIx (xVar 3) (xVar 5) (xVar 6)))
def en1 (a b c d f : Val) (x y : Option Val) : En := [some a, some b, some c, some d, some f, x, y, none, none, none, none]
theorem loop1 {fr : List Str} {all : List Val} {a b c : Val} {m l : Nat} (ml : m ≠ l) : ∀ (r acc : Kvs) (x y : Option Val) (H : Hh), (∀ kv ∈ r, ∃ s, kv.1 = .inr s ∧ kv.2.und 0 = true) → UF acc → acc.length + r.length < sizeLine → H[m]? = some (.dct false acc) → H[l]? = some (.lst (fr.map Val.str)) →
    ∃ x' y' acc', UF acc' ∧ match fill fr r acc with
      | .ok F => F = acc' ∧ forLoop (.items all) (.tup [.name 5, .name 6]) bd1 (r.map Md.items.x) (en1 a b c (.loc m) (.loc l) x y) H = .nx (en1 a b c (.loc m) (.loc l) x' y') (H.set m (.dct false acc'))
      | .error q => q.2.und 0 = true ∧ forLoop (.items all) (.tup [.name 5, .name 6]) bd1 (r.map Md.items.x) (en1 a b c (.loc m) (.loc l) x y) H = .exc "Fault" (fltV q.1 q.2) (en1 a b c (.loc m) (.loc l) x' y') (H.set m (.dct false acc'))
  | [], acc, x, y, H, _, u, _, e, _ => ⟨x, y, acc, u, rfl, by rw [set_same e]; simp [forLoop, Itn.okAt]⟩
  | kv :: r, acc, x, y, H, hr, u, hl, e, el => by
    obtain ⟨s, ek, uv⟩ := hr kv (.head _)
    obtain ⟨k, w⟩ := kv
    have ek : k = .inr s := ek
    subst ek
    have hx : Md.items.x (.inr s, w) = .tup [.str s, w] := rfl
    have hp : Tg.put (.tup [.name 5, .name 6]) (.tup [.str s, w]) (en1 a b c (.loc m) (.loc l) x y) = some (en1 a b c (.loc m) (.loc l) (some (.str s)) (some w)) := by simp [Tg.put, putL, en1]
    have ok : (Itn.items all).okAt H := trivial
    rw [List.map_cons, hx, forLoop, if_pos ok]
    simp only [hp]
    rw [List.length_cons] at hl
    by_cases hs : s ∈ fr
    · have n1 := onot_lst (G := gt) (s := s) el
      rw [decide_eq_true hs] at n1
      cases hv : (valX acc (.inr s)).isSome with
      | true =>
        have f1 : fill fr ((.inr s, w) :: r) acc = .error ("twice", .str s) := by simp [fill, hs, hv]
        rw [f1]
        have n2 := in_dct (G := gt) (s := s) e
        rw [hv] at n2
        refine ⟨some (.str s), some w, acc, u, rfl, ?_⟩
        rw [set_same e]
        have : bd1 (en1 a b c (.loc m) (.loc l) (some (.str s)) (some w)) H = .exc "Fault" (fltV "twice" (.str s)) (en1 a b c (.loc m) (.loc l) (some (.str s)) (some w)) H := by
          simp [bd1, en1, n1, n2, fltV]
        rw [this]
      | false =>
        have f1 : fill fr ((.inr s, w) :: r) acc = fill fr r (putX acc (.inr s) w) := by simp [fill, hs, hv]
        rw [f1]
        have n2 := in_dct (G := gt) (s := s) e
        rw [hv] at n2
        have st := set_dct (s := s) (v := w) e (by omega)
        have : bd1 (en1 a b c (.loc m) (.loc l) (some (.str s)) (some w)) H = .nx (en1 a b c (.loc m) (.loc l) (some (.str s)) (some w)) (H.set m (.dct false (putX acc (.inr s) w))) := by
          simp [bd1, en1, n1, n2, st]
        rw [this]
        have := loop1 (fr := fr) (all := all) (a := a) (b := b) (c := c) ml r (putX acc (.inr s) w) (some (.str s)) (some w) (H.set m (.dct false (putX acc (.inr s) w))) (fun q mq => hr q (.tail _ mq)) (u.put uv) (by have := putX_len (kvs := acc) (k := .inr s) (v := w); omega) (at_same e) (at_put (Ne.symm ml) el)
        simpa only [List.set_set] using this
    · have f1 : fill fr ((.inr s, w) :: r) acc = .error ("strange", .str s) := by simp [fill, hs]
      rw [f1]
      have n1 := onot_lst (G := gt) (s := s) el
      rw [decide_eq_false hs] at n1
      refine ⟨some (.str s), some w, acc, u, rfl, ?_⟩
      rw [set_same e]
      have : bd1 (en1 a b c (.loc m) (.loc l) (some (.str s)) (some w)) H = .exc "Fault" (fltV "strange" (.str s)) (en1 a b c (.loc m) (.loc l) (some (.str s)) (some w)) H := by
        simp [bd1, en1, n1, fltV]
      rw [this]
end K

set_option Elab.async false
set_option linter.all false
set_option maxRecDepth 100000
set_option maxHeartbeats 4000000
namespace K
open PySem L2 EX XL
noncomputable def bd2 : XS := sSeq (sIf (xAndT (xTest (xBin (oNotIn2 gt) (xVar 5) (xVar 3))) (xTest (xBin (oIn2 gt) (xVar 8) (xC (.tup k_WANTED))))) (sRaise "Fault" ["why", "found"] (xCons (xC (.str "lacks")) (xCons (xVar 5) (xNil)))) (sNil)) (sSetIx (xVar 7) (xVar 5) (xGet (xVar 3) (xVar 5) (xIf (xTest (xBin oNe (xVar 9) (xLst (xNil)))) (xBin (oIx2 gt) (xVar 9) (xC (.int 0))) (xTup (xCons (xC (.str "row")) (xCons (xTup (xNil)) (xNil)))))))
def en2 (a b c d f t : Val) (x y z w : Option Val) : En := [some a, some b, some c, some d, some f, x, y, some t, z, w, none]
@[simp] theorem run_get {o k d : XE} {e : En} {h : Hh} : xGet o k d e h = (o e h).bind fun ov h1 => match ov with
  | .loc n => (match h1[n]? with
    | some (.dct _ _) => (k e h1).bind fun kv h2 => (d e h2).bind fun dv h3 => (match h3[n]?, EX.keyOf kv with
      | some (.dct _ kvs), some key => .ok ((valX kvs key).getD dv) h3
      | _, _ => .stuck)
    | _ => .stuck)
  | _ => .stuck := rfl
@[simp] theorem keyOf_str {s : Str} : EX.keyOf (.str s) = some (.inr s) := rfl
theorem own_tml {p : Pm} (k : Pk p) : Tml 1 71 p.own.toList := by
  cases k with
  | by_ n => exact Tml.nil
  | or_ n o => exact (Tml.cons o.fw.tm (k := 0) Tml.nil).le (by omega) (by omega)
  | rest n => exact Tml.nil
  | only n => exact Tml.nil
  | onlyor n o => exact (Tml.cons o.fw.tm (k := 0) Tml.nil).le (by omega) (by omega)
theorem own_und {p : Pm} (k : Pk p) : undL 0 p.own.toList = true := by
  cases k with
  | by_ n => rfl
  | or_ n o => simp [undL, o.fw.und]
  | rest n => rfl
  | only n => rfl
  | onlyor n o => simp [undL, o.fw.und]
theorem ownD_und {p : Pm} (k : Pk p) : (p.own.getD (rowV [])).und 0 = true := by
  have := own_und k
  cases h : p.own with
  | none => rfl
  | some v => rw [h] at this; simpa [undL] using this
theorem loop2 {all : List Val} {a b c f : Val} {m t : Nat} {h : Hh} {F : Kvs} {y : Option Val} (uF : UF F) (mt : m ≠ t) (ht : h.length ≤ t) : ∀ (ps : List Pm) (T : Kvs) (x z w : Option Val) (H : Hh), (∀ p ∈ ps, Pk p) → UF T → T.length + ps.length < sizeLine → Grew h H → H[m]? = some (.dct false F) → H[t]? = some (.dct false T) →
    ∃ x' z' w' H', Grew h H' ∧ match tell F ps T with
      | .ok T' => H'[t]? = some (.dct false T') ∧ forStar (.items all) 8 5 9 bd2 (ps.map Pm.val) (en2 a b c (.loc m) f (.loc t) x y z w) H = .nx (en2 a b c (.loc m) f (.loc t) x' y z' w') H'
      | .error q => q.2.und 0 = true ∧ forStar (.items all) 8 5 9 bd2 (ps.map Pm.val) (en2 a b c (.loc m) f (.loc t) x y z w) H = .exc "Fault" (fltV q.1 q.2) (en2 a b c (.loc m) f (.loc t) x' y z' w') H'
  | [], T, x, z, w, H, _, _, _, G, _, e => ⟨x, z, w, H, G, e, by simp [forStar, Itn.okAt]⟩
  | p :: ps, T, x, z, w, H, hp, uT, hl, G, em, et => by
    have kp := hp p (.head _)
    have ok : (Itn.items all).okAt H := trivial
    rw [List.length_cons] at hl
    have lo : p.own.toList.length + 2 ≤ sizeLine := sl_le (by cases p.own <;> simp)
    have pv : p.val = .tup (.str p.sort :: .str p.name :: p.own.toList) := rfl
    rw [List.map_cons, pv, forStar, if_pos ok]
    rw [if_pos lo]
    have es : ((en2 a b c (.loc m) f (.loc t) x y z w).set 8 (some (.str p.sort))).set 5 (some (.str p.name)) = en2 a b c (.loc m) f (.loc t) (some (.str p.name)) y (some (.str p.sort)) w := by simp [en2]
    have es2 : (en2 a b c (.loc m) f (.loc t) (some (.str p.name)) y (some (.str p.sort)) w).set 9 (some (.loc H.length)) = en2 a b c (.loc m) f (.loc t) (some (.str p.name)) y (some (.str p.sort)) (some (.loc H.length)) := by simp [en2]
    rw [es, es2]
    have Ga : Grew H (H ++ [.lst p.own.toList]) := Grew.new (o := .lst p.own.toList) G.cl (own_und kp)
    have ao : (H ++ [Ob.lst p.own.toList])[H.length]? = some (.lst p.own.toList) := at_new
    have em1 := Ga.at_ em
    have et1 := Ga.at_ et
    have G1 := G.trans Ga
    generalize hH1 : H ++ [Ob.lst p.own.toList] = H1 at *
    generalize hlo : H.length = lo at *
    have n1 := nin_dct (G := gt) (s := p.name) em1
    have n2 : oIn2 gt (.str p.sort) (.tup k_WANTED) H1 = some (.bl (decide (p.sort ∈ (["by", "only"] : List Str))), H1) := oin_tup (ss := ["by", "only"])
    by_cases hc : (valX F (.inr p.name)).isSome = false ∧ p.sort ∈ (["by", "only"] : List Str)
    · have f1 : tell F (p :: ps) T = .error ("lacks", .str p.name) := by rw [tell, if_pos hc]
      rw [f1]
      rw [hc.1] at n1
      rw [decide_eq_true hc.2] at n2
      refine ⟨some (.str p.name), some (.str p.sort), some (.loc lo), H1, G1, rfl, ?_⟩
      have : bd2 (en2 a b c (.loc m) f (.loc t) (some (.str p.name)) y (some (.str p.sort)) (some (.loc lo))) H1 = .exc "Fault" (fltV "lacks" (.str p.name)) (en2 a b c (.loc m) f (.loc t) (some (.str p.name)) y (some (.str p.sort)) (some (.loc lo))) H1 := by
        simp [bd2, en2, n1, n2, fltV]
      rw [this]
    · have f1 : tell F (p :: ps) T = tell F ps (putX T (.inr p.name) ((valX F (.inr p.name)).getD (p.own.getD (rowV [])))) := by rw [tell, if_neg hc]
      rw [f1]
      have Gb : Grew H1 (H1 ++ [.lst []]) := Grew.new G1.cl rfl
      have bn : (H1 ++ [Ob.lst []])[H1.length]? = some (.lst []) := at_new
      have ao2 := Gb.at_ ao
      have em2 := Gb.at_ em1
      have et2 := Gb.at_ et1
      have G2 := G1.trans Gb
      generalize hH2 : H1 ++ [Ob.lst []] = H2 at *
      generalize hl1 : H1.length = l1 at *
      have ne := ne_nil (h := H2) (own_tml kp) (by decide) ao2 bn
      have z0 : (0 : Nat) ≤ sizeLine := Nat.zero_le _
      have z2 : (2 : Nat) ≤ sizeLine := sl_le (by decide)
      have uv : ((valX F (.inr p.name)).getD (p.own.getD (rowV []))).und 0 = true := by
        cases hv : valX F (.inr p.name) with
        | none => exact ownD_und kp
        | some u => exact valX_und uF hv
      have dv : (xIf (xTest (xBin oNe (xVar 9) (xLst (xNil)))) (xBin (oIx2 gt) (xVar 9) (xC (.int 0))) (xTup (xCons (xC (.str "row")) (xCons (xTup (xNil)) (xNil))))) (en2 a b c (.loc m) f (.loc t) (some (.str p.name)) y (some (.str p.sort)) (some (.loc lo))) H1 = .ok (p.own.getD (rowV [])) H2 := by
        cases ho : p.own with
        | none =>
          rw [ho] at ne
          have ne : oNe (.loc lo) (.loc l1) H2 = some (.bl false, H2) := ne
          simp [en2, hH2, hl1, ne, z2, rowV]
        | some u =>
          rw [ho] at ne ao2
          have ne : oNe (.loc lo) (.loc l1) H2 = some (.bl true, H2) := ne
          have ix : oIx2 gt (.loc lo) (.int 0) H2 = some (u, H2) := lst_at (n := 0) ao2 rfl
          simp [en2, hH2, hl1, ne, ix]
      have st := set_dct (s := p.name) (v := (valX F (.inr p.name)).getD (p.own.getD (rowV []))) et2 (by omega)
      have G3 : Grew h (H2.set t (.dct false (putX T (.inr p.name) ((valX F (.inr p.name)).getD (p.own.getD (rowV [])))))) := G2.put ht (ob_le (Nat.zero_le _) (und_dct (uT.put uv)))
      have et3 : (H2.set t (.dct false (putX T (.inr p.name) ((valX F (.inr p.name)).getD (p.own.getD (rowV []))))))[t]? = some (.dct false (putX T (.inr p.name) ((valX F (.inr p.name)).getD (p.own.getD (rowV []))))) := at_same et2
      have em3 := at_put (q := .dct false (putX T (.inr p.name) ((valX F (.inr p.name)).getD (p.own.getD (rowV []))))) mt em2
      generalize hH3 : H2.set t (.dct false (putX T (.inr p.name) ((valX F (.inr p.name)).getD (p.own.getD (rowV []))))) = H3 at *
      generalize hxd : (xIf (xTest (xBin oNe (xVar 9) (xLst (xNil)))) (xBin (oIx2 gt) (xVar 9) (xC (.int 0))) (xTup (xCons (xC (.str "row")) (xCons (xTup (xNil)) (xNil))))) = xd at *
      have this : bd2 (en2 a b c (.loc m) f (.loc t) (some (.str p.name)) y (some (.str p.sort)) (some (.loc lo))) H1 = .nx (en2 a b c (.loc m) f (.loc t) (some (.str p.name)) y (some (.str p.sort)) (some (.loc lo))) H3 := by
        unfold bd2
        rw [hxd]
        have e5 : (en2 a b c (.loc m) f (.loc t) (some (.str p.name)) y (some (.str p.sort)) (some (.loc lo)))[5]? = some (some (.str p.name)) := rfl
        have e3 : (en2 a b c (.loc m) f (.loc t) (some (.str p.name)) y (some (.str p.sort)) (some (.loc lo)))[3]? = some (some (.loc m)) := rfl
        have e8 : (en2 a b c (.loc m) f (.loc t) (some (.str p.name)) y (some (.str p.sort)) (some (.loc lo)))[8]? = some (some (.str p.sort)) := rfl
        have e7 : (en2 a b c (.loc m) f (.loc t) (some (.str p.name)) y (some (.str p.sort)) (some (.loc lo)))[7]? = some (some (.loc t)) := rfl
        generalize (en2 a b c (.loc m) f (.loc t) (some (.str p.name)) y (some (.str p.sort)) (some (.loc lo))) = ee at *
        cases hv : (valX F (.inr p.name)).isSome with
        | true =>
          rw [hv] at n1
          simp [e3, e5, e7, e8, n1, em1, dv, em2, st]
        | false =>
          have : ¬ p.sort ∈ (["by", "only"] : List Str) := fun q => hc ⟨hv, q⟩
          rw [hv] at n1
          rw [decide_eq_false this] at n2
          simp [e3, e5, e7, e8, n1, n2, em1, dv, em2, st]
      rw [this]
      exact loop2 uF mt ht ps _ _ _ _ H3 (fun q mq => hp q (.tail _ mq)) (uT.put uv) (by have := putX_len (kvs := T) (k := .inr p.name) (v := (valX F (.inr p.name)).getD (p.own.getD (rowV []))); omega) G3 em3 et3
end K

set_option Elab.async false
set_option linter.all false
set_option maxRecDepth 100000
set_option maxHeartbeats 4000000
namespace K
open PySem L2 EX XL
theorem seq_nx {p q : XS} {e e1 : En} {h h1 : Hh} (r : p e h = .nx e1 h1) : sSeq p q e h = q e1 h1 := by unfold sSeq; rw [r]
theorem seq_exc {p q : XS} {e e1 : En} {h h1 : Hh} {c : Str} {fs : List (Str × Val)} (r : p e h = .exc c fs e1 h1) : sSeq p q e h = .exc c fs e1 h1 := by unfold sSeq; rw [r]
theorem dict_nil {e : En} {H : Hh} : xDict [] e H = .ok (.loc H.length) (H ++ [.dct false []]) := by
  have a : (H ++ [Ob.dct false []])[H.length]? = some (.dct false []) := at_new
  have b : (H ++ [Ob.dct false []]).set H.length (.dct false []) = H ++ [.dct false []] := set_new
  unfold xDict
  simp only [xPairs, Res.bind, keysOf, a, List.length_nil, mergeX, List.foldl_nil]
  rw [if_pos (by decide), b]
theorem base_UF {P : List Pm} {G : List Val} (hu : ∀ x ∈ G, x.und 0 = true) : UF (base P G) := fun q m => hu _ (base_mem m).1
theorem plc_UF {P : List Pm} {G : List Val} {kd : Nat} {b : Kvs} (hu : ∀ x ∈ G, x.und 0 = true) (e : plc P G kd = some b) : UF b ∧ b.length ≤ 21 ∨ 20 < G.length := by
  by_cases hl : 20 < G.length
  · exact .inr hl
  have bl : (base P G).length ≤ 20 := by
    have := merge_len (((places P).map Sum.inr).zip G) []
    have h2 : (((places P).map (Sum.inr : Str → Key)).zip G).length ≤ 20 := by rw [List.length_zip]; omega
    simp only [List.length_nil] at this
    unfold base
    omega
  unfold plc at e
  split at e
  · cases e; exact .inl ⟨base_UF hu, by omega⟩
  · split at e
    · cases e
    · split at e
      · cases e
        refine .inl ⟨(base_UF hu).put ?_, Nat.le_trans putX_len (by omega)⟩
        simp [rowV, Val.und, undL, und_mem (xs := left P G) fun x mx => hu x (List.mem_of_mem_drop mx)]
      · cases e
theorem unlk_ok {H : Hh} {d m : Nat} {kvs F : Kvs} (md : m ≠ d) (e : H[d]? = some (.dct false kvs)) : unlkH d ((H.set d (.dct true kvs)).set m (.dct false F)) = some (H.set m (.dct false F)) := by
  have e1 : ((H.set d (.dct true kvs)).set m (.dct false F))[d]? = some (.dct true kvs) := at_put (Ne.symm md) (at_same e)
  unfold unlkH
  rw [e1]
  show some _ = _
  rw [List.set_comm _ _ md, List.set_set, set_same e]
theorem fill_len {fr : List Str} : ∀ {r acc F : Kvs}, fill fr r acc = .ok F → F.length ≤ acc.length + r.length
  | [], acc, F, e => by cases e; simp
  | kv :: r, acc, F, e => by
    rw [fill] at e
    split at e
    · split at e
      · split at e
        · cases e
        · have := fill_len e
          have h2 := putX_len (kvs := acc) (k := kv.1) (v := kv.2)
          rw [List.length_cons]; omega
      · cases e
    · cases e
theorem matched_ok {P : List Pm} {G : List Val} {kvs : Kvs} {kd d : Nat} {v : Val} {h : Hh} (c : Cl h) (k : Pms P) (s : Sq h v G) (hw : ∀ x ∈ G, Wv 3 4 x) (hl : G.length ≤ 20) (hd : h[d]? = some (.dct false kvs)) (w : Nw kvs) (hk : ∀ h, Cl h → f_is_worth [rowV (left P G)] h = .ok (.bl (decide (kd ≤ 4))) h) :
    match matP P G kvs kd with
    | .ok T => ∃ H m, Grew h H ∧ f_matched [.tup (P.map Pm.val), v, .loc d] h = .ok (.loc m) H ∧ h.length ≤ m ∧ H[m]? = some (.dct false T)
    | .error q => q.2.und 0 = true ∧ f_matched [.tup (P.map Pm.val), v, .loc d] h = .exc "Fault" (fltV q.1 q.2) h := by
  have hu : ∀ x ∈ G, x.und 0 = true := fun x m => (hw x m).und
  have hdl : d < h.length := (List.getElem?_eq_some_iff.mp hd).1
  obtain ⟨it, ei, ex, eo⟩ := s.it
  obtain ⟨H1, n1, G1, e1, a1⟩ := comp_all (xi := xIter (xVar 1)) (it := it) (t := .name 6) (x := xCall 1 f_is_worth (xCons (xVar 6) (xNil))) (e := [some (.tup (P.map Pm.val)), some v, some (.loc d), none, none, none, none, none, none, none, none]) (h := h) (h1 := h) (vs := [6]) (fun _ => true) (by simp [ei]) eo c (sl_le (by rw [ex]; omega)) (fun x m => by
    rw [ex] at m
    refine ⟨[some (.tup (P.map Pm.val)), some v, some (.loc d), none, none, none, some x, none, none, none, none], by simp [wipeE, Tg.put], fun g cg => ⟨g, ?_, Grew.refl cg.cl⟩⟩
    simp [worth_ok (by decide) (hw x m) cg.cl])
  have al : ∀ l : List Val, (l.all fun _ => true) = true := fun l => by simp
  rw [al] at a1
  have n0 := need_ok c k
  have l0 := list_ok c s hl
  have r0 := rows_ok G1.cl (G1.at_ hd) w
  have p0 := placed_ok G1.cl k (s.grew G1) hw hl hk
  have lz : (P.map Pm.val).length ≤ sizeLine := sl_le (by rw [List.length_map]; have := k.len; omega)
  have A1 : sExpr (xCall 1 f_need_params (xCons (xVar 0) (xNil))) (en 11 [.tup (P.map Pm.val), v, .loc d]) h = .nx (en 11 [.tup (P.map Pm.val), v, .loc d]) h := by
    simp [en, n0]
  have A2 : sIf (xOrT (xNotT (xTru (xCall 2 f_is_list (xCons (xVar 1) (xCons (xC (.int 20)) (xNil)))))) (xNotT (xTru (xCallN oAll (xCons (xComp (xIter (xVar 1)) (.name 6) (xYes) (xCall 1 f_is_worth (xCons (xVar 6) (xNil))) [6]) (xNil)))))) (sRaise "NoList" ["found"] (xCons (xVar 1) (xNil))) (sNil) (en 11 [.tup (P.map Pm.val), v, .loc d]) h = .nx (en 11 [.tup (P.map Pm.val), v, .loc d]) H1 := by
    simp [en, l0, e1, a1]
  have A3 : sIf (xNotT (xTru (xCall 1 f_are_rows (xCons (xVar 2) (xNil))))) (sRaise "NoRows" ["found"] (xCons (xVar 2) (xNil))) (sNil) (en 11 [.tup (P.map Pm.val), v, .loc d]) H1 = .nx (en 11 [.tup (P.map Pm.val), v, .loc d]) H1 := by
    simp [en, r0]
  cases hp : plc P G kd with
  | none =>
    rw [hp] at p0
    have hM : matP P G kvs kd = .error ("many", .int G.length) := by unfold matP; rw [hp]
    rw [hM]
    refine ⟨rfl, call_ge c rfl G1 (e := en 11 [.tup (P.map Pm.val), v, .loc d]) ?_⟩
    unfold x_matched
    rw [seq_nx A1, seq_nx A2, seq_nx A3]
    have A4 : sSet 3 (xCall 2 f_placed (xCons (xVar 0) (xCons (xVar 1) (xNil)))) (en 11 [.tup (P.map Pm.val), v, .loc d]) H1 = .exc "Fault" (fltV "many" (.int G.length)) (en 11 [.tup (P.map Pm.val), v, .loc d]) H1 := by
      simp [en, p0]
    rw [seq_exc A4]
  | some b =>
    rw [hp] at p0
    obtain ⟨H2, m, G2, p1, hm, am⟩ := p0
    obtain ⟨ub, lb⟩ : UF b ∧ b.length ≤ 21 := by
      rcases plc_UF hu hp with q | q
      · exact q
      · omega
    have A4 : sSet 3 (xCall 2 f_placed (xCons (xVar 0) (xCons (xVar 1) (xNil)))) (en 11 [.tup (P.map Pm.val), v, .loc d]) H1 = .nx [some (.tup (P.map Pm.val)), some v, some (.loc d), some (.loc m), none, none, none, none, none, none, none] H2 := by
      simp [en, p1]
    obtain ⟨H3, G3, e3, a3⟩ := comp_c (xi := xIter (xVar 0)) (it := .items (P.map Pm.val)) (t := .name 10) (tt := xTest (xBin oNe (xBin (oIx2 gt) (xVar 10) (xC (.int 0))) (xC (.str "rest")))) (x := xBin (oIx2 gt) (xVar 10) (xC (.int 1))) (e := [some (.tup (P.map Pm.val)), some v, some (.loc d), some (.loc m), none, none, none, none, none, none, none]) (h := H2) (h1 := H2) (vs := [10]) (pf false fun s _ _ => !decide (s = ("rest" : Str))) (pf .non fun _ n _ => .str n) (by simp [itOf]) trivial G2.cl lz (fun x mx => by
      obtain ⟨p, mp, rfl⟩ := List.mem_map.mp mx
      refine ⟨[some (.tup (P.map Pm.val)), some v, some (.loc d), some (.loc m), none, none, none, none, none, none, some p.val], by simp [wipeE, Tg.put], fun _ => by rw [pf_val]; rfl, fun g cg => ⟨g, ?_, Grew.refl cg.cl, fun _ => ⟨g, ?_, Grew.refl cg.cl⟩⟩⟩
      · rw [pf_val]; simp [Pm.val]
      · rw [pf_val]; simp [Pm.val])
    have a3 : H3[H2.length]? = some (.lst ((free P).map Val.str)) := by
      rw [a3, show (Itn.items (P.map Pm.val)).xs = P.map Pm.val from rfl, pv_filter, pv_map, free, List.map_map]
      rfl
    have A5 : sSet 4 (xComp (xIter (xVar 0)) (.name 10) (xTest (xBin oNe (xBin (oIx2 gt) (xVar 10) (xC (.int 0))) (xC (.str "rest")))) (xBin (oIx2 gt) (xVar 10) (xC (.int 1))) [10]) [some (.tup (P.map Pm.val)), some v, some (.loc d), some (.loc m), none, none, none, none, none, none, none] H2 = .nx (en1 (.tup (P.map Pm.val)) v (.loc d) (.loc m) (.loc H2.length) none none) H3 := by
      simp [en1, e3]
    have G03 := (G1.trans G2).trans G3
    have hd3 := G03.at_ hd
    have am3 := G3.at_ am
    have hmh : h.length ≤ m := Nat.le_trans G1.le hm
    have hml : m < H2.length := (List.getElem?_eq_some_iff.mp am).1
    have md : m ≠ d := by omega
    generalize hl2 : H2.length = l at *
    have ml : m ≠ l := by omega
    have ld : l ≠ d := by have := G1.le; have := G2.le; omega
    obtain ⟨x', y', acc', ua, L1⟩ := loop1 (fr := free P) (all := kvs.map Md.items.x) (a := .tup (P.map Pm.val)) (b := v) (c := .loc d) ml kvs b none none (H3.set d (.dct true kvs)) (fun kv mk => by
      obtain ⟨s, es, _, wv⟩ := w.ok kv mk
      exact ⟨s, es, wv.und⟩) ub (by have := w.len; rw [sizeLine_eq]; omega) (at_put md am3) (at_put ld a3)
    have di : xDIt 2 .items (en1 (.tup (P.map Pm.val)) v (.loc d) (.loc m) (.loc l) none none) (H3.set d (.dct true kvs)) = .ok (.items (kvs.map Md.items.x)) (H3.set d (.dct true kvs)) := by
      have : (H3.set d (Ob.dct true kvs))[d]? = some (.dct true kvs) := at_same hd3
      simp [xDIt, en1, this]
    have G4 : Grew h (H3.set m (.dct false acc')) := G03.put hmh (ob_le (Nat.zero_le _) (und_dct ua))
    cases hf : fill (free P) kvs b with
    | error q =>
      rw [hf] at L1
      have hM : matP P G kvs kd = .error q := by unfold matP; rw [hp]; dsimp only; rw [hf]
      rw [hM]
      refine ⟨L1.1, call_ge c (by simp [fltV, undL, Val.und, L1.1]) G4 (e := en1 (.tup (P.map Pm.val)) v (.loc d) (.loc m) (.loc l) x' y') ?_⟩
      unfold x_matched
      rw [seq_nx A1, seq_nx A2, seq_nx A3, seq_nx A4, seq_nx A5]
      have A6 : sLk 2 (sFor (xDIt 2 .items) (.tup [.name 5, .name 6]) bd1) (en1 (.tup (P.map Pm.val)) v (.loc d) (.loc m) (.loc l) none none) H3 = .exc "Fault" (fltV q.1 q.2) (en1 (.tup (P.map Pm.val)) v (.loc d) (.loc m) (.loc l) x' y') (H3.set m (.dct false acc')) := by
        have g2 : (en1 (.tup (P.map Pm.val)) v (.loc d) (.loc m) (.loc l) none none)[2]? = some (some (.loc d)) := rfl
        simp only [sLk, g2, hd3, sFor, di, Itn.xs, L1.2, unlk, unlk_ok md hd3]
      exact seq_exc A6
    | ok F =>
      rw [hf] at L1
      obtain ⟨rfl, L1⟩ := L1
      have A6 : sLk 2 (sFor (xDIt 2 .items) (.tup [.name 5, .name 6]) bd1) (en1 (.tup (P.map Pm.val)) v (.loc d) (.loc m) (.loc l) none none) H3 = .nx (en1 (.tup (P.map Pm.val)) v (.loc d) (.loc m) (.loc l) x' y') (H3.set m (.dct false F)) := by
        have g2 : (en1 (.tup (P.map Pm.val)) v (.loc d) (.loc m) (.loc l) none none)[2]? = some (some (.loc d)) := rfl
        simp only [sLk, g2, hd3, sFor, di, Itn.xs, L1, unlk, unlk_ok md hd3]
      have am4 : (H3.set m (.dct false F))[m]? = some (.dct false F) := at_same am3
      have lm4 : m < (H3.set m (.dct false F)).length := (List.getElem?_eq_some_iff.mp am4).1
      generalize H3.set m (.dct false F) = H4 at *
      have G5 : Grew H4 (H4 ++ [.dct false []]) := Grew.new G4.cl rfl
      have at5 : (H4 ++ [Ob.dct false []])[H4.length]? = some (.dct false []) := at_new
      have am5 := G5.at_ am4
      have dn := dict_nil (e := en1 (.tup (P.map Pm.val)) v (.loc d) (.loc m) (.loc l) x' y') (H := H4)
      have ht : h.length ≤ H4.length := G4.le
      have G05 := G4.trans G5
      generalize H4 ++ [Ob.dct false []] = H5 at *
      generalize H4.length = t at *
      have A7 : sSet 7 (xDict []) (en1 (.tup (P.map Pm.val)) v (.loc d) (.loc m) (.loc l) x' y') H4 = .nx (en2 (.tup (P.map Pm.val)) v (.loc d) (.loc m) (.loc l) (.loc t) x' y' none none) H5 := by
        simp only [run_set, dn]; rfl
      obtain ⟨x2, z2, w2, H6, G6, L2'⟩ := loop2 (all := P.map Pm.val) (a := .tup (P.map Pm.val)) (b := v) (c := .loc d) (f := .loc l) (m := m) (t := t) (h := h) (F := F) (y := y') ua (by omega) ht P [] x' none none H5 k.ok (fun q mq => absurd mq List.not_mem_nil) (by have := k.len; rw [sizeLine_eq]; simp only [List.length_nil]; omega) G05 am5 at5
      have i0 : xIter (xVar 0) (en2 (.tup (P.map Pm.val)) v (.loc d) (.loc m) (.loc l) (.loc t) x' y' none none) H5 = .ok (.items (P.map Pm.val)) H5 := by simp [en2, itOf]
      have hM : matP P G kvs kd = tell F P [] := by unfold matP; rw [hp]; dsimp only; rw [hf]
      rw [hM]
      cases ht2 : tell F P [] with
      | error q =>
        rw [ht2] at L2'
        refine ⟨L2'.1, call_ge c (by simp [fltV, undL, Val.und, L2'.1]) G6 (e := en2 (.tup (P.map Pm.val)) v (.loc d) (.loc m) (.loc l) (.loc t) x2 y' z2 w2) ?_⟩
        unfold x_matched
        rw [seq_nx A1, seq_nx A2, seq_nx A3, seq_nx A4, seq_nx A5]
        refine (seq_nx A6).trans ((seq_nx A7).trans (seq_exc ?_))
        unfold sForStar
        rw [i0]
        exact L2'.2
      | ok T =>
        rw [ht2] at L2'
        refine ⟨H6, t, G6, call_gl ht ?_, ht, L2'.1⟩
        unfold x_matched
        rw [seq_nx A1, seq_nx A2, seq_nx A3, seq_nx A4, seq_nx A5]
        refine (seq_nx A6).trans ((seq_nx A7).trans ((seq_nx (e1 := en2 (.tup (P.map Pm.val)) v (.loc d) (.loc m) (.loc l) (.loc t) x2 y' z2 w2) (h1 := H6) ?_).trans ?_))
        · unfold sForStar
          rw [i0]
          exact L2'.2
        · simp [en2]
end K

set_option Elab.async false
set_option linter.all false
set_option maxRecDepth 100000
set_option maxHeartbeats 4000000
namespace K
open PySem L2 EX XL
/-! ### dicts -/
theorem valX_put {F : Kvs} {k j : Key} {v : Val} (h : j ≠ k) : valX (putX F k v) j = valX F j := by
  unfold valX putX
  split
  · rw [List.find?_map]
    have : ((fun kv : Key × Val => decide (kv.1 = j)) ∘ fun kv => if kv.1 = k then (kv.1, v) else kv) = fun kv => decide (kv.1 = j) := by
      funext kv
      simp only [Function.comp]
      split <;> rfl
    rw [this, Option.map_map]
    cases hf : F.find? (fun kv => decide (kv.1 = j)) with
    | none => rfl
    | some q =>
      have hq0 := List.find?_some (p := fun kv : Key × Val => decide (kv.1 = j)) hf
      have hq : q.1 = j := of_decide_eq_true hq0
      simp only [Option.map_some, Function.comp]
      rw [if_neg (by rw [hq]; exact h)]
  · rw [List.find?_append]
    have : List.find? (fun kv : Key × Val => decide (kv.1 = j)) [(k, v)] = none := by
      simp [Ne.symm h]
    rw [this, Option.or_none]
theorem valX_some {F : Kvs} {k : Key} : (valX F k).isSome = true ↔ ∃ q ∈ F, q.1 = k := by
  unfold valX
  rw [Option.isSome_map, List.find?_isSome]
  constructor
  · rintro ⟨q, m, e⟩; exact ⟨q, m, of_decide_eq_true e⟩
  · rintro ⟨q, m, e⟩; exact ⟨q, m, decide_eq_true e⟩
/-- the keys, as texts -/
def keyS : Key → Str
  | .inr s => s
  | .inl _ => ""
def Tk (F : Kvs) : Prop := ∀ q ∈ F, ∃ s, q.1 = .inr s
theorem Tk.put {F : Kvs} (t : Tk F) {s : Str} {v : Val} : Tk (putX F (.inr s) v) := fun q m => by
  rcases putX_mem m with ⟨e, _⟩ | m
  · exact ⟨s, e⟩
  · exact t q m
theorem base_Tk {P : List Pm} {G : List Val} : Tk (base P G) := fun q m => by
  obtain ⟨_, s, _, e⟩ := base_mem m
  exact ⟨s, e⟩
theorem Tk.keys {F : Kvs} (t : Tk F) : (F.map fun kv => kX kv.1) = (F.map fun kv => keyS kv.1).map Val.str := by
  rw [List.map_map]
  apply List.map_congr_left
  intro q m
  obtain ⟨s, e⟩ := t q m
  simp only [Function.comp, e]
  rfl
theorem Tk.mem {F : Kvs} (t : Tk F) {s : Str} : decide (s ∈ F.map fun kv => keyS kv.1) = (valX F (.inr s)).isSome := by
  rw [Bool.eq_iff_iff, valX_some, decide_eq_true_eq, List.mem_map]
  constructor
  · rintro ⟨q, m, e⟩
    obtain ⟨s', e'⟩ := t q m
    rw [e'] at e
    exact ⟨q, m, by rw [e']; exact congrArg Sum.inr e⟩
  · rintro ⟨q, m, e⟩
    exact ⟨q, m, by rw [e]; rfl⟩
theorem pairs_zip : ∀ {ss : List Str} {G : List Val}, pairsX (List.zipWith (fun x y => Val.tup [x, y]) (ss.map Val.str) G) = some ((ss.map Sum.inr).zip G)
  | [], _ => by simp [pairsX]
  | _ :: _, [] => by simp [pairsX]
  | s :: ss, g :: G => by
    have := pairs_zip (ss := ss) (G := G)
    simp only [List.map_cons, List.zipWith_cons_cons, pairsX, keyOf_str, this, List.zip_cons_cons]
theorem rest_sel {P : List Pm} : ((P.filter fun p => decide (p.sort = ("rest" : Str))).map fun p => p.name) = rests P := by
  unfold rests sel
  congr 1
  apply List.filter_congr
  intro p _
  simp
/-- the sorts of one name -/
def sortsOf (P : List Pm) (s : Str) : List Str := (P.filter fun p => decide (p.name = s)).map fun p => p.sort
theorem sorts_free {s : Str} : ∀ {P : List Pm}, (P.map fun p => p.name).Nodup → ((sortsOf P s = [] ∨ sortsOf P s = [("rest" : Str)]) ↔ ¬ s ∈ free P)
  | [], _ => by simp [sortsOf, free]
  | p :: P, nd => by
    rw [List.map_cons, List.nodup_cons] at nd
    have ih := sorts_free (s := s) (P := P) nd.2
    by_cases h : p.name = s
    · have e0 : sortsOf P s = [] := by
        unfold sortsOf
        rw [List.map_eq_nil_iff, List.filter_eq_nil_iff]
        intro q mq z
        exact nd.1 (List.mem_map.mpr ⟨q, mq, by rw [of_decide_eq_true z, h]⟩)
      have e1 : sortsOf (p :: P) s = [p.sort] := by
        have : sortsOf (p :: P) s = p.sort :: sortsOf P s := by unfold sortsOf; rw [List.filter_cons_of_pos (by simp [h])]; rfl
        rw [this, e0]
      have hf : ¬ s ∈ free P := ih.mp (.inl e0)
      rw [e1]
      by_cases hr : p.sort = ("rest" : Str)
      · have : free (p :: P) = free P := by unfold free; rw [List.filter_cons_of_neg (by simp [hr])]
        rw [this, hr]
        exact ⟨fun _ => hf, fun _ => .inr rfl⟩
      · have : free (p :: P) = p.name :: free P := by unfold free; rw [List.filter_cons_of_pos (by simp [hr])]; rfl
        rw [this, h]
        constructor
        · rintro (z | z)
          · cases z
          · exact absurd (List.cons.inj z).1 hr
        · intro z; exact absurd (.head _) z
    · have e1 : sortsOf (p :: P) s = sortsOf P s := by unfold sortsOf; rw [List.filter_cons_of_neg (by simp [h])]
      have e2 : s ∈ free (p :: P) ↔ s ∈ free P := by
        by_cases hr : p.sort = ("rest" : Str)
        · have : free (p :: P) = free P := by unfold free; rw [List.filter_cons_of_neg (by simp [hr])]
          rw [this]
        · have : free (p :: P) = p.name :: free P := by unfold free; rw [List.filter_cons_of_pos (by simp [hr])]; rfl
          rw [this, List.mem_cons]
          exact ⟨fun z => z.resolve_left (fun q => h q.symm), .inr⟩
      rw [e1, e2]
      exact ih
end K

set_option Elab.async false
set_option linter.all false
set_option maxRecDepth 100000
set_option maxHeartbeats 4000000
namespace K
open PySem L2 EX XL
noncomputable def bd3 : XS := sSeq (sSet 9 (xComp (xIter (xVar 0)) (.name 11) (xTest (xBin oEq (xBin (oIx2 gt) (xVar 11) (xC (.int 1))) (xVar 8))) (xBin (oIx2 gt) (xVar 11) (xC (.int 0))) [11])) (sSeq (sIf (xOrT (xTest (xBin oEq (xVar 9) (xLst (xNil)))) (xTest (xBin oEq (xVar 9) (xLst (xCons (xC (.str "rest")) (xNil)))))) (sRet (xTup (xCons (xC (.str "strange")) (xCons (xVar 8) (xNil))))) (sNil)) (sSeq (sIf (xTest (xBin (oIn2 gt) (xVar 8) (xVar 7))) (sRet (xTup (xCons (xC (.str "twice")) (xCons (xVar 8) (xNil))))) (sNil)) (sSetIx (xVar 5) (xVar 8) (xBin (oIx2 gt) (xVar 2) (xVar 8)))))
def en3 (a b c d f m t g : Val) (x y : Option Val) : En := [some a, some b, some c, some d, some f, some m, some t, some g, x, y, none, none]
theorem eq_rest {a b : Nat} {ts : List Str} {h : Hh} (hs : ∀ t ∈ ts, t.length ≤ 100 ∧ ∀ c ∈ t.cps.toList, c < 0x110000) (ha : h[a]? = some (.lst (ts.map Val.str))) (hb : h[b]? = some (.lst [.str "rest"])) : oEq (.loc a) (.loc b) h = some (.bl (decide (ts = [("rest" : Str)])), h) := by
  unfold oEq vEqL
  by_cases u : unlike (.loc a) (.loc b) h = true
  · rw [if_pos u]
    have : ¬ ts = [Str.ofString "rest"] := fun z => by
      subst z
      simp [unlike, lensOf, ha, hb] at u
    rw [decide_eq_false this]; rfl
  · rw [if_neg u, vEq_strs hs (by decide +kernel) ha hb]; rfl
theorem valX_nd : ∀ {kvs : Kvs} {q : Key × Val}, (kvs.map (fun p => p.1)).Nodup → q ∈ kvs → valX kvs q.1 = some q.2
  | p :: kvs, q, nd, m => by
    rw [List.map_cons, List.nodup_cons] at nd
    unfold valX
    rcases List.mem_cons.mp m with rfl | m
    · rw [List.find?_cons_of_pos (by simp)]; rfl
    · have : ¬ p.1 = q.1 := fun z => nd.1 (List.mem_map.mpr ⟨q, m, z.symm⟩)
      rw [List.find?_cons_of_neg (by simp [this])]
      exact valX_nd nd.2 m
theorem sorts_txt {P : List Pm} (k : Pms P) {s : Str} : ∀ t ∈ sortsOf P s, t.length ≤ 100 ∧ ∀ c ∈ t.cps.toList, c < 0x110000 := fun t m => by
  obtain ⟨p, mp, rfl⟩ := List.mem_map.mp m
  have := sort5 _ (k.ok p (List.mem_filter.mp mp).1).five
  exact ⟨by omega, this.1⟩
theorem strs_tml {ts : List Str} {n : Nat} (hs : ∀ t ∈ ts, t.length ≤ 100 ∧ ∀ c ∈ t.cps.toList, c < 0x110000) : Tml n (ts.length * 101) (ts.map Val.str) := by
  have := Tml.of (n := n) (k := 100) (vs := ts.map Val.str) fun v m => by
    obtain ⟨t, mt, rfl⟩ := List.mem_map.mp m
    exact Tm.str (hs t mt).2 (hs t mt).1
  rwa [List.length_map] at this
theorem loop3 {P : List Pm} {all : List Val} {b c3 c4 lf : Val} {d m l7 : Nat} {B : Hh} {kvs b0 : Kvs} {bs : List Str} (k : Pms P) (nk : (kvs.map (fun p => p.1)).Nodup) (hm : B.length ≤ m) (lm : l7 ≠ m) (dB : B[d]? = some (.dct true kvs)) (hbs : ∀ s : Str, decide (s ∈ bs) = (valX b0 (.inr s)).isSome) :
    ∀ (r acc : Kvs) (x y : Option Val) (H : Hh), (∀ kv ∈ r, kv ∈ kvs ∧ kv.2.und 0 = true ∧ ∃ s, kv.1 = .inr s) → (r.map (fun p => p.1)).Nodup → (∀ kv ∈ r, (valX acc kv.1).isSome = (valX b0 kv.1).isSome) → UF acc → acc.length + r.length < sizeLine → Grew B H → H[m]? = some (.dct false acc) → H[l7]? = some (.lst (bs.map Val.str)) →
    ∃ x' y' H', Grew B H' ∧ match fill (free P) r acc with
      | .ok F => UF F ∧ H'[m]? = some (.dct false F) ∧ forLoop (.items all) (.name 8) bd3 (r.map Md.keys.x) (en3 (.tup (P.map Pm.val)) b (.loc d) c3 c4 (.loc m) lf (.loc l7) x y) H = .nx (en3 (.tup (P.map Pm.val)) b (.loc d) c3 c4 (.loc m) lf (.loc l7) x' y') H'
      | .error q => forLoop (.items all) (.name 8) bd3 (r.map Md.keys.x) (en3 (.tup (P.map Pm.val)) b (.loc d) c3 c4 (.loc m) lf (.loc l7) x y) H = .rt (.tup [.str q.1, q.2]) H'
  | [], acc, x, y, H, _, _, _, u, _, G, e, _ => ⟨x, y, H, G, u, e, by simp [forLoop, Itn.okAt]⟩
  | kv :: r, acc, x, y, H, hr, nr, hb, u, hl, G, em, e7 => by
    obtain ⟨mk, uv, s, ek⟩ := hr kv (.head _)
    have lk := valX_nd nk mk
    obtain ⟨kk, w⟩ := kv
    have ek : kk = .inr s := ek
    subst ek
    have hx : Md.keys.x (.inr s, w) = .str s := rfl
    have hbk := hb (.inr s, w) (.head _)
    have ok : (Itn.items all).okAt H := trivial
    rw [List.map_cons, hx, forLoop, if_pos ok]
    have hp : Tg.put (.name 8) (.str s) (en3 (.tup (P.map Pm.val)) b (.loc d) c3 c4 (.loc m) lf (.loc l7) x y) = some (en3 (.tup (P.map Pm.val)) b (.loc d) c3 c4 (.loc m) lf (.loc l7) (some (.str s)) y) := by simp [Tg.put, en3]
    simp only [hp]
    rw [List.length_cons] at hl
    rw [List.map_cons, List.nodup_cons] at nr
    have lz : (P.map Pm.val).length ≤ sizeLine := sl_le (by rw [List.length_map]; have := k.len; omega)
    obtain ⟨H1, G1, e1, a1⟩ := comp_c (xi := xIter (xVar 0)) (it := .items (P.map Pm.val)) (t := .name 11) (tt := xTest (xBin oEq (xBin (oIx2 gt) (xVar 11) (xC (.int 1))) (xVar 8))) (x := xBin (oIx2 gt) (xVar 11) (xC (.int 0))) (e := en3 (.tup (P.map Pm.val)) b (.loc d) c3 c4 (.loc m) lf (.loc l7) (some (.str s)) y) (h := H) (h1 := H) (vs := [11]) (pf false fun _ n _ => decide (n = s)) (pf .non fun s _ _ => .str s) (by simp [itOf, en3]) trivial G.cl lz (fun x mx => by
      obtain ⟨p, mp, rfl⟩ := List.mem_map.mp mx
      refine ⟨[some (.tup (P.map Pm.val)), some b, some (.loc d), some c3, some c4, some (.loc m), some lf, some (.loc l7), some (.str s), y, none, some p.val], by simp [wipeE, Tg.put, en3], fun _ => by rw [pf_val]; rfl, fun g cg => ⟨g, ?_, Grew.refl cg.cl, fun _ => ⟨g, ?_, Grew.refl cg.cl⟩⟩⟩
      · rw [pf_val]; simp [Pm.val]
      · rw [pf_val]; simp [Pm.val])
    have a1 : H1[H.length]? = some (.lst ((sortsOf P s).map Val.str)) := by
      rw [a1, show (Itn.items (P.map Pm.val)).xs = P.map Pm.val from rfl, pv_filter, pv_map, sortsOf, List.map_map]
      rfl
    have em1 := G1.at_ em
    have e71 := G1.at_ e7
    have GB1 := G.trans G1
    have G2 : Grew H1 (H1 ++ [.lst []]) := Grew.new G1.cl rfl
    have n2 : (H1 ++ [Ob.lst []])[H1.length]? = some (.lst []) := at_new
    have a2 := G2.at_ a1
    have em2 := G2.at_ em1
    have e72 := G2.at_ e71
    have GB2 := GB1.trans G2
    generalize hH2 : H1 ++ [Ob.lst []] = H2 at *
    generalize hl1 : H1.length = l1 at *
    generalize hl0 : H.length = l0 at *
    have q1 := eq_nil (strs_tml (n := 0) (sorts_txt k (s := s))) (by decide) a2 n2
    have G3 : Grew H2 (H2 ++ [.lst [.str "rest"]]) := Grew.new G2.cl rfl
    have n3 : (H2 ++ [Ob.lst [.str "rest"]])[H2.length]? = some (.lst [.str "rest"]) := at_new
    have a3 := G3.at_ a2
    have em3 := G3.at_ em2
    have e73 := G3.at_ e72
    have GB3 := GB2.trans G3
    generalize hH3 : H2 ++ [Ob.lst [Val.str (Str.ofString "rest")]] = H3 at *
    generalize hl2 : H2.length = l2 at *
    have q2 := eq_rest (sorts_txt k (s := s)) a3 n3
    have z0 : (0 : Nat) ≤ sizeLine := Nat.zero_le _
    have z1 : (1 : Nat) ≤ sizeLine := sl_le (by decide)
    have z2 : (2 : Nat) ≤ sizeLine := sl_le (by decide)
    have sf := sorts_free (s := s) k.nd
    have B1 : sSet 9 (xComp (xIter (xVar 0)) (.name 11) (xTest (xBin oEq (xBin (oIx2 gt) (xVar 11) (xC (.int 1))) (xVar 8))) (xBin (oIx2 gt) (xVar 11) (xC (.int 0))) [11]) (en3 (.tup (P.map Pm.val)) b (.loc d) c3 c4 (.loc m) lf (.loc l7) (some (.str s)) y) H = .nx (en3 (.tup (P.map Pm.val)) b (.loc d) c3 c4 (.loc m) lf (.loc l7) (some (.str s)) (some (.loc l0))) H1 := by
      simp only [run_set, e1]; rfl
    by_cases hs : s ∈ free P
    · have nn : ¬ (sortsOf P s = [] ∨ sortsOf P s = [("rest" : Str)]) := fun z => sf.mp z hs
      have t1 : (List.map Val.str (sortsOf P s)).isEmpty = false := by
        cases hq : sortsOf P s with
        | nil => exact absurd (.inl hq) nn
        | cons _ _ => rfl
      rw [t1] at q1
      rw [decide_eq_false fun z => nn (.inr z)] at q2
      have B2 : sIf (xOrT (xTest (xBin oEq (xVar 9) (xLst (xNil)))) (xTest (xBin oEq (xVar 9) (xLst (xCons (xC (.str "rest")) (xNil)))))) (sRet (xTup (xCons (xC (.str "strange")) (xCons (xVar 8) (xNil))))) (sNil) (en3 (.tup (P.map Pm.val)) b (.loc d) c3 c4 (.loc m) lf (.loc l7) (some (.str s)) (some (.loc l0))) H1 = .nx (en3 (.tup (P.map Pm.val)) b (.loc d) c3 c4 (.loc m) lf (.loc l7) (some (.str s)) (some (.loc l0))) H3 := by
        simp [en3, hH2, hl1, q1, hH3, hl2, z1, q2]
      have i7 := oin_lst (G := gt) (s := s) e73
      rw [hbs s] at i7
      rw [hbk.symm] at i7
      have i7 : oIn2 gt (.str s) (.loc l7) H3 = some (.bl (valX acc (.inr s)).isSome, H3) := i7
      cases hv : (valX acc (.inr s)).isSome with
      | true =>
        have f1 : fill (free P) ((.inr s, w) :: r) acc = .error ("twice", .str s) := by simp [fill, hs, hv]
        rw [f1]
        rw [hv] at i7
        refine ⟨none, none, H3, GB3, ?_⟩
        have : bd3 (en3 (.tup (P.map Pm.val)) b (.loc d) c3 c4 (.loc m) lf (.loc l7) (some (.str s)) y) H = .rt (.tup [.str "twice", .str s]) H3 := by
          unfold bd3
          rw [seq_nx B1, seq_nx B2]
          simp [en3, i7, z2]
        rw [this]
      | false =>
        have f1 : fill (free P) ((.inr s, w) :: r) acc = fill (free P) r (putX acc (.inr s) w) := by simp [fill, hs, hv]
        rw [f1]
        rw [hv] at i7
        have d3 := GB3.at_ dB
        have ix : oIx2 gt (.loc d) (.str s) H3 = some (w, H3) := by
          have lk : valX kvs (.inr s) = some w := lk
          simp only [oIx2, d3, keyOf_str, lk, Option.map_some]
        have st := set_dct (s := s) (v := w) em3 (by omega)
        have : bd3 (en3 (.tup (P.map Pm.val)) b (.loc d) c3 c4 (.loc m) lf (.loc l7) (some (.str s)) y) H = .nx (en3 (.tup (P.map Pm.val)) b (.loc d) c3 c4 (.loc m) lf (.loc l7) (some (.str s)) (some (.loc l0))) (H3.set m (.dct false (putX acc (.inr s) w))) := by
          unfold bd3
          rw [seq_nx B1, seq_nx B2]
          simp [en3, i7, ix, st]
        rw [this]
        exact loop3 k nk hm lm dB hbs r (putX acc (.inr s) w) (some (.str s)) (some (.loc l0)) _ (fun q mq => hr q (.tail _ mq)) nr.2 (fun q mq => by
          have hne : q.1 ≠ .inr s := fun z => nr.1 (List.mem_map.mpr ⟨q, mq, z⟩)
          rw [valX_put hne]
          exact hb q (.tail _ mq)) (u.put uv) (by have := putX_len (kvs := acc) (k := .inr s) (v := w); omega) (GB3.put hm (ob_le (Nat.zero_le _) (und_dct (u.put uv)))) (at_same em3) (at_put lm e73)
    · have f1 : fill (free P) ((.inr s, w) :: r) acc = .error ("strange", .str s) := by simp [fill, hs]
      rw [f1]
      have yy := sf.mpr hs
      cases ht : (List.map Val.str (sortsOf P s)).isEmpty with
      | true =>
        rw [ht] at q1
        refine ⟨none, none, H2, GB2, ?_⟩
        have : bd3 (en3 (.tup (P.map Pm.val)) b (.loc d) c3 c4 (.loc m) lf (.loc l7) (some (.str s)) y) H = .rt (.tup [.str "strange", .str s]) H2 := by
          unfold bd3
          rw [seq_nx B1]
          simp [en3, hH2, hl1, q1, z2]
        rw [this]
      | false =>
        rw [ht] at q1
        have : sortsOf P s = [("rest" : Str)] := by
          rcases yy with z | z
          · rw [z] at ht; cases ht
          · exact z
        rw [decide_eq_true this] at q2
        refine ⟨none, none, H3, GB3, ?_⟩
        have : bd3 (en3 (.tup (P.map Pm.val)) b (.loc d) c3 c4 (.loc m) lf (.loc l7) (some (.str s)) y) H = .rt (.tup [.str "strange", .str s]) H3 := by
          unfold bd3
          rw [seq_nx B1]
          simp [en3, hH2, hl1, q1, hH3, hl2, z1, q2, z2]
        rw [this]
end K

set_option Elab.async false
set_option linter.all false
set_option maxRecDepth 100000
set_option maxHeartbeats 4000000
namespace K
open PySem L2 EX XL
noncomputable def bd4 : XS := sSeq (sIf (xAndT (xTest (xBin (oNotIn2 gt) (xBin (oIx2 gt) (xVar 11) (xC (.int 1))) (xVar 5))) (xTest (xBin (oIn2 gt) (xBin (oIx2 gt) (xVar 11) (xC (.int 0))) (xLst (xCons (xC (.str "by")) (xCons (xC (.str "only")) (xNil))))))) (sRet (xTup (xCons (xC (.str "lacks")) (xCons (xBin (oIx2 gt) (xVar 11) (xC (.int 1))) (xNil))))) (sNil)) (sSetIx (xVar 10) (xBin (oIx2 gt) (xVar 11) (xC (.int 1))) (xGet (xVar 5) (xBin (oIx2 gt) (xVar 11) (xC (.int 1))) (xBin (oIx2 gt) (xBin oAdd (xVar 11) (xTup (xCons (xTup (xCons (xC (.str "row")) (xCons (xTup (xNil)) (xNil)))) (xNil)))) (xC (.int 2)))))
def en4 (a b c d f m t g : Val) (x y : Option Val) (tl : Val) (z : Option Val) : En := [some a, some b, some c, some d, some f, some m, some t, some g, x, y, some tl, z]
theorem add_own {p : Pm} {h : Hh} : oAdd p.val (.tup [.tup [.str "row", .tup []]]) h = some (.tup (.str p.sort :: .str p.name :: p.own.getD (rowV []) :: (match p.own with | none => [] | some _ => [rowV []])), h) := by
  obtain ⟨s, n, o⟩ := p
  cases o with
  | none =>
    have : (2 : Nat) + 1 ≤ sizeLine := sl_le (by decide)
    simp [Pm.val, oAdd, this, rowV]
  | some v =>
    have : (3 : Nat) + 1 ≤ sizeLine := sl_le (by decide)
    simp [Pm.val, oAdd, this, rowV]
theorem loop4 {all : List Val} {a b c c3 c4 lf c7 : Val} {m t : Nat} {h : Hh} {F : Kvs} {x y : Option Val} (uF : UF F) (mt : m ≠ t) (ht : h.length ≤ t) : ∀ (ps : List Pm) (T : Kvs) (z : Option Val) (H : Hh), (∀ p ∈ ps, Pk p) → UF T → T.length + ps.length < sizeLine → Grew h H → H[m]? = some (.dct false F) → H[t]? = some (.dct false T) →
    ∃ z' H', Grew h H' ∧ match tell F ps T with
      | .ok T' => H'[t]? = some (.dct false T') ∧ forLoop (.items all) (.name 11) bd4 (ps.map Pm.val) (en4 a b c c3 c4 (.loc m) lf c7 x y (.loc t) z) H = .nx (en4 a b c c3 c4 (.loc m) lf c7 x y (.loc t) z') H'
      | .error q => forLoop (.items all) (.name 11) bd4 (ps.map Pm.val) (en4 a b c c3 c4 (.loc m) lf c7 x y (.loc t) z) H = .rt (.tup [.str q.1, q.2]) H'
  | [], T, z, H, _, _, _, G, _, e => ⟨z, H, G, e, by simp [forLoop, Itn.okAt]⟩
  | p :: ps, T, z, H, hp, uT, hl, G, em, et => by
    have kp := hp p (.head _)
    have ok : (Itn.items all).okAt H := trivial
    rw [List.length_cons] at hl
    rw [List.map_cons, forLoop, if_pos ok]
    have pu : Tg.put (.name 11) p.val (en4 a b c c3 c4 (.loc m) lf c7 x y (.loc t) z) = some (en4 a b c c3 c4 (.loc m) lf c7 x y (.loc t) (some p.val)) := by simp [Tg.put, en4]
    simp only [pu]
    have G1 : Grew H (H ++ [.lst [.str "by", .str "only"]]) := Grew.new G.cl rfl
    have n1 : (H ++ [Ob.lst [.str "by", .str "only"]])[H.length]? = some (.lst ((["by", "only"] : List Str).map Val.str)) := at_new
    have em1 := G1.at_ em
    have et1 := G1.at_ et
    have Gh1 := G.trans G1
    generalize hH1 : H ++ [Ob.lst [Val.str (Str.ofString "by"), Val.str (Str.ofString "only")]] = H1 at *
    generalize hl0 : H.length = l0 at *
    have q1 := nin_dct (G := gt) (s := p.name) em
    have q2 := oin_lst (G := gt) (s := p.sort) n1
    have z2 : (2 : Nat) ≤ sizeLine := sl_le (by decide)
    have z1 : (1 : Nat) ≤ sizeLine := sl_le (by decide)
    have i0 : ∀ g, oIx2 gt p.val (.int 0) g = some (.str p.sort, g) := fun g => by simp [Pm.val]
    have i1 : ∀ g, oIx2 gt p.val (.int 1) g = some (.str p.name, g) := fun g => by simp [Pm.val]
    have uv : ((valX F (.inr p.name)).getD (p.own.getD (rowV []))).und 0 = true := by
      cases hv : valX F (.inr p.name) with
      | none => exact ownD_und kp
      | some u => exact valX_und uF hv
    have e11 : (en4 a b c c3 c4 (.loc m) lf c7 x y (.loc t) (some p.val))[11]? = some (some p.val) := rfl
    have e10 : (en4 a b c c3 c4 (.loc m) lf c7 x y (.loc t) (some p.val))[10]? = some (some (.loc t)) := rfl
    have e5 : (en4 a b c c3 c4 (.loc m) lf c7 x y (.loc t) (some p.val))[5]? = some (some (.loc m)) := rfl
    by_cases hc : (valX F (.inr p.name)).isSome = false ∧ p.sort ∈ (["by", "only"] : List Str)
    · have f1 : tell F (p :: ps) T = .error ("lacks", .str p.name) := by rw [tell, if_pos hc]
      rw [f1]
      rw [hc.1] at q1
      rw [decide_eq_true hc.2] at q2
      refine ⟨none, H1, Gh1, ?_⟩
      have : bd4 (en4 a b c c3 c4 (.loc m) lf c7 x y (.loc t) (some p.val)) H = .rt (.tup [.str "lacks", .str p.name]) H1 := by
        generalize (en4 a b c c3 c4 (.loc m) lf c7 x y (.loc t) (some p.val)) = ee at *
        simp [bd4, e11, e5, i0, i1, q1, hH1, hl0, z2, q2]
      rw [this]
    · have f1 : tell F (p :: ps) T = tell F ps (putX T (.inr p.name) ((valX F (.inr p.name)).getD (p.own.getD (rowV [])))) := by rw [tell, if_neg hc]
      rw [f1]
      have i2 : ∀ g (r : List Val), oIx2 gt (.tup (.str p.sort :: .str p.name :: p.own.getD (rowV []) :: r)) (.int 2) g = some (p.own.getD (rowV []), g) := fun g r => by simp
      have go : ∀ Hx, Grew h Hx → Hx[m]? = some (.dct false F) → Hx[t]? = some (.dct false T) → sSetIx (xVar 10) (xBin (oIx2 gt) (xVar 11) (xC (.int 1))) (xGet (xVar 5) (xBin (oIx2 gt) (xVar 11) (xC (.int 1))) (xBin (oIx2 gt) (xBin oAdd (xVar 11) (xTup (xCons (xTup (xCons (xC (.str "row")) (xCons (xTup (xNil)) (xNil)))) (xNil)))) (xC (.int 2)))) (en4 a b c c3 c4 (.loc m) lf c7 x y (.loc t) (some p.val)) Hx = .nx (en4 a b c c3 c4 (.loc m) lf c7 x y (.loc t) (some p.val)) (Hx.set t (.dct false (putX T (.inr p.name) ((valX F (.inr p.name)).getD (p.own.getD (rowV [])))))) := fun Hx Gx mx tx => by
        have st := set_dct (s := p.name) (v := (valX F (.inr p.name)).getD (p.own.getD (rowV []))) tx (by omega)
        have ad := add_own (p := p) (h := Hx)
        generalize (match p.own with | none => [] | some _ => [rowV []]) = rr at ad
        generalize hee : (en4 a b c c3 c4 (.loc m) lf c7 x y (.loc t) (some p.val)) = ee at *
        have i2 := i2 Hx rr
        generalize (Val.tup (.str p.sort :: .str p.name :: p.own.getD (rowV []) :: rr)) = tv at *
        simp [e11, e5, e10, i1, mx, z1, z2, ad, i2, st]
      have fin : ∀ Hx, Grew h Hx → Hx[m]? = some (.dct false F) → Hx[t]? = some (.dct false T) → bd4 (en4 a b c c3 c4 (.loc m) lf c7 x y (.loc t) (some p.val)) H = .nx (en4 a b c c3 c4 (.loc m) lf c7 x y (.loc t) (some p.val)) (Hx.set t (.dct false (putX T (.inr p.name) ((valX F (.inr p.name)).getD (p.own.getD (rowV [])))))) →
          ∃ z' H', Grew h H' ∧ match tell F ps (putX T (.inr p.name) ((valX F (.inr p.name)).getD (p.own.getD (rowV [])))) with
            | .ok T' => H'[t]? = some (.dct false T') ∧ (match bd4 (en4 a b c c3 c4 (.loc m) lf c7 x y (.loc t) (some p.val)) H with
              | .nx e2 h2 => forLoop (.items all) (.name 11) bd4 (ps.map Pm.val) e2 h2
              | .ct e2 h2 => forLoop (.items all) (.name 11) bd4 (ps.map Pm.val) e2 h2
              | .bk e2 h2 => .nx e2 h2
              | .rt v h2 => .rt v h2
              | .exc c fs e2 h2 => .exc c fs e2 h2
              | .stuck => .stuck) = .nx (en4 a b c c3 c4 (.loc m) lf c7 x y (.loc t) z') H'
            | .error q => (match bd4 (en4 a b c c3 c4 (.loc m) lf c7 x y (.loc t) (some p.val)) H with
              | .nx e2 h2 => forLoop (.items all) (.name 11) bd4 (ps.map Pm.val) e2 h2
              | .ct e2 h2 => forLoop (.items all) (.name 11) bd4 (ps.map Pm.val) e2 h2
              | .bk e2 h2 => .nx e2 h2
              | .rt v h2 => .rt v h2
              | .exc c fs e2 h2 => .exc c fs e2 h2
              | .stuck => .stuck) = .rt (.tup [.str q.1, q.2]) H' := fun Hx Gx mx tx e => by
        rw [e]
        exact loop4 uF mt ht ps _ (some p.val) _ (fun q mq => hp q (.tail _ mq)) (uT.put uv) (by have := putX_len (kvs := T) (k := .inr p.name) (v := (valX F (.inr p.name)).getD (p.own.getD (rowV []))); omega) (Gx.put ht (ob_le (Nat.zero_le _) (und_dct (uT.put uv)))) (at_put mt mx) (at_same tx)
      cases hv : (valX F (.inr p.name)).isSome with
      | true =>
        rw [hv] at q1
        refine fin H G em et ?_
        unfold bd4
        rw [seq_nx (e1 := en4 a b c c3 c4 (.loc m) lf c7 x y (.loc t) (some p.val)) (h1 := H) (by simp [e11, e5, i1, q1])]
        exact go H G em et
      | false =>
        have hn : ¬ p.sort ∈ (["by", "only"] : List Str) := fun q => hc ⟨hv, q⟩
        rw [hv] at q1
        rw [decide_eq_false hn] at q2
        refine fin H1 Gh1 em1 et1 ?_
        unfold bd4
        rw [seq_nx (e1 := en4 a b c c3 c4 (.loc m) lf c7 x y (.loc t) (some p.val)) (h1 := H1) (by simp [e11, e5, i0, i1, q1, hH1, hl0, z2, q2])]
        exact go H1 Gh1 em1 et1
end K

set_option Elab.async false
set_option linter.all false
set_option maxRecDepth 100000
set_option maxHeartbeats 4000000
namespace K
open PySem L2 EX XL
theorem Grew.lock {h H : Hh} {d : Nat} {kvs : Kvs} (G : Grew h H) (c : Cl h) (e : h[d]? = some (.dct false kvs)) : Grew (h.set d (.dct true kvs)) (H.set d (.dct true kvs)) := by
  obtain ⟨⟨g, rfl⟩, cl⟩ := G
  refine ⟨⟨g, ?_⟩, lock_cl cl (at_app e)⟩
  rw [List.set_append_left _ _ (List.getElem?_eq_some_iff.mp e).1]
theorem seq_rt {p q : XS} {e : En} {h h1 : Hh} {v : Val} (r : p e h = .rt v h1) : sSeq p q e h = .rt v h1 := by unfold sSeq; rw [r]
noncomputable def rest5 : XS := sSeq (sSet 7 (xCallN oListD (xCons (xVar 5) (xNil)))) (sSeq (sLk 2 (sFor (xDIt 2 .keys) (.name 8) bd3)) (sSeq (sSet 10 (xDict [])) (sSeq (sFor (xIter (xVar 0)) (.name 11) bd4) (sRet (xTup (xCons (xC (.str "told")) (xCons (xVar 10) (xNil))))))))
def aft (P : List Pm) (kvs b : Kvs) : Except (Str × Val) Kvs := match fill (free P) kvs b with
  | .error q => .error q
  | .ok F => tell F P []
theorem due_tail {P : List Pm} {kvs b : Kvs} {av c3 c4 lf : Val} {d m : Nat} {h H : Hh} (c : Cl h) (k : Pms P) (w : Nw kvs) (hd : h[d]? = some (.dct false kvs)) (G : Grew h H) (hm : h.length ≤ m) (am : H[m]? = some (.dct false b)) (ub : UF b) (tb : Tk b) (lb : b.length ≤ 21) :
    match aft P kvs b with
    | .ok T => ∃ H' t, Grew h H' ∧ h.length ≤ t ∧ H'[t]? = some (.dct false T) ∧ rest5 [some (.tup (P.map Pm.val)), some av, some (.loc d), some c3, some c4, some (.loc m), some lf, none, none, none, none, none] H = .rt (.tup [.str "told", .loc t]) H'
    | .error q => ∃ H', Grew h H' ∧ rest5 [some (.tup (P.map Pm.val)), some av, some (.loc d), some c3, some c4, some (.loc m), some lf, none, none, none, none, none] H = .rt (.tup [.str q.1, q.2]) H' := by
  have hdl : d < h.length := (List.getElem?_eq_some_iff.mp hd).1
  have hml : m < H.length := (List.getElem?_eq_some_iff.mp am).1
  have G1 : Grew H (H ++ [.lst ((b.map fun kv => keyS kv.1).map Val.str)]) := Grew.new G.cl (undL_of fun x mx => by
    obtain ⟨s, _, rfl⟩ := List.mem_map.mp mx; rfl)
  have n1 : (H ++ [Ob.lst ((b.map fun kv => keyS kv.1).map Val.str)])[H.length]? = some (.lst ((b.map fun kv => keyS kv.1).map Val.str)) := at_new
  have ld : oListD [.loc m] H = some (.loc H.length, H ++ [.lst ((b.map fun kv => keyS kv.1).map Val.str)]) := by
    simp only [oListD, am, tb.keys]
  have am1 := G1.at_ am
  have Gh1 := G.trans G1
  have hH : h.length ≤ H.length := G.le
  generalize H ++ [Ob.lst ((b.map fun kv => keyS kv.1).map Val.str)] = H1 at *
  generalize hl7 : H.length = l7 at *
  have A6 : sSet 7 (xCallN oListD (xCons (xVar 5) (xNil))) [some (.tup (P.map Pm.val)), some av, some (.loc d), some c3, some c4, some (.loc m), some lf, none, none, none, none, none] H = .nx (en3 (.tup (P.map Pm.val)) av (.loc d) c3 c4 (.loc m) lf (.loc l7) none none) H1 := by
    simp [ld, en3]
  have hd1 := Gh1.at_ hd
  obtain ⟨x', y', H2, G2, L3⟩ := loop3 (P := P) (all := kvs.map Md.keys.x) (b := av) (c3 := c3) (c4 := c4) (lf := lf) (d := d) (m := m) (l7 := l7) (B := h.set d (.dct true kvs)) (kvs := kvs) (b0 := b) (bs := b.map fun kv => keyS kv.1) k w.nd (by rw [List.length_set]; exact hm) (by omega) (at_same hd) (fun s => tb.mem) kvs b none none (H1.set d (.dct true kvs)) (fun kv mk => by
    obtain ⟨s, es, _, wv⟩ := w.ok kv mk
    exact ⟨mk, wv.und, s, es⟩) w.nd (fun _ _ => rfl) ub (by have := w.len; rw [sizeLine_eq]; omega) (Grew.lock Gh1 c hd) (at_put (by omega) am1) (at_put (by omega) n1)
  have di : xDIt 2 .keys (en3 (.tup (P.map Pm.val)) av (.loc d) c3 c4 (.loc m) lf (.loc l7) none none) (H1.set d (.dct true kvs)) = .ok (.items (kvs.map Md.keys.x)) (H1.set d (.dct true kvs)) := by
    have : (H1.set d (Ob.dct true kvs))[d]? = some (.dct true kvs) := at_same hd1
    simp [xDIt, en3, this]
  have g2 : (en3 (.tup (P.map Pm.val)) av (.loc d) c3 c4 (.loc m) lf (.loc l7) none none)[2]? = some (some (.loc d)) := rfl
  obtain ⟨H3, u3, G3, keep⟩ := unlk_grew c hd G2
  cases hf : fill (free P) kvs b with
  | error q =>
    rw [hf] at L3
    have hA : aft P kvs b = .error q := by unfold aft; rw [hf]
    rw [hA]
    refine ⟨H3, G3, ?_⟩
    unfold rest5
    rw [seq_nx A6]
    refine seq_rt ?_
    simp only [sLk, g2, hd1, sFor, di, Itn.xs, L3, unlk, u3]
  | ok F =>
    rw [hf] at L3
    obtain ⟨uF, am2, L3⟩ := L3
    have am3 := keep m _ (by omega) am2
    have A7 : sLk 2 (sFor (xDIt 2 .keys) (.name 8) bd3) (en3 (.tup (P.map Pm.val)) av (.loc d) c3 c4 (.loc m) lf (.loc l7) none none) H1 = .nx (en3 (.tup (P.map Pm.val)) av (.loc d) c3 c4 (.loc m) lf (.loc l7) x' y') H3 := by
      simp only [sLk, g2, hd1, sFor, di, Itn.xs, L3, unlk, u3]
    have G4 : Grew H3 (H3 ++ [.dct false []]) := Grew.new G3.cl rfl
    have at4 : (H3 ++ [Ob.dct false []])[H3.length]? = some (.dct false []) := at_new
    have am4 := G4.at_ am3
    have dn := dict_nil (e := en3 (.tup (P.map Pm.val)) av (.loc d) c3 c4 (.loc m) lf (.loc l7) x' y') (H := H3)
    have hml3 : m < H3.length := (List.getElem?_eq_some_iff.mp am3).1
    have ht : h.length ≤ H3.length := G3.le
    have Gh4 := G3.trans G4
    generalize H3 ++ [Ob.dct false []] = H4 at *
    generalize H3.length = t at *
    have A8 : sSet 10 (xDict []) (en3 (.tup (P.map Pm.val)) av (.loc d) c3 c4 (.loc m) lf (.loc l7) x' y') H3 = .nx (en4 (.tup (P.map Pm.val)) av (.loc d) c3 c4 (.loc m) lf (.loc l7) x' y' (.loc t) none) H4 := by
      simp only [run_set, dn]; rfl
    obtain ⟨z', H5, G5, L4⟩ := loop4 (all := P.map Pm.val) (a := .tup (P.map Pm.val)) (b := av) (c := .loc d) (c3 := c3) (c4 := c4) (lf := lf) (c7 := .loc l7) (m := m) (t := t) (h := h) (F := F) (x := x') (y := y') uF (by omega) ht P [] none H4 k.ok (fun q mq => absurd mq List.not_mem_nil) (by have := k.len; rw [sizeLine_eq]; simp only [List.length_nil]; omega) Gh4 am4 at4
    have i0 : xIter (xVar 0) (en4 (.tup (P.map Pm.val)) av (.loc d) c3 c4 (.loc m) lf (.loc l7) x' y' (.loc t) none) H4 = .ok (.items (P.map Pm.val)) H4 := by simp [en4, itOf]
    have z2 : (2 : Nat) ≤ sizeLine := sl_le (by decide)
    have hA : aft P kvs b = tell F P [] := by unfold aft; rw [hf]
    rw [hA]
    cases ht2 : tell F P [] with
    | error q =>
      rw [ht2] at L4
      refine ⟨H5, G5, ?_⟩
      unfold rest5
      rw [seq_nx A6, seq_nx A7, seq_nx A8]
      refine seq_rt ?_
      unfold sFor
      rw [i0]
      exact L4
    | ok T =>
      rw [ht2] at L4
      refine ⟨H5, t, G5, ht, L4.1, ?_⟩
      unfold rest5
      rw [seq_nx A6, seq_nx A7, seq_nx A8]
      refine (seq_nx (e1 := en4 (.tup (P.map Pm.val)) av (.loc d) c3 c4 (.loc m) lf (.loc l7) x' y' (.loc t) z') (h1 := H5) ?_).trans ?_
      · unfold sFor
        rw [i0]
        exact L4.2
      · simp [en4, z2]
end K

set_option Elab.async false
set_option linter.all false
set_option maxRecDepth 100000
set_option maxHeartbeats 4000000
namespace K
open PySem L2 EX XL
theorem gc_tup {n m : Nat} {s : Str} {h : Hh} (hm : n ≤ m) : gc n (.tup [.str s, .loc m]) h = h := by
  unfold gc
  rw [if_neg]
  intro z
  have := z.1
  simp only [Val.und, undL, Bool.and_true, Bool.true_and, decide_eq_true_eq] at this
  omega
theorem call_gt {N : Nat} {body : XS} {as : List Val} {h H : Hh} {m : Nat} {s : Str} (hm : h.length ≤ m) (p : body (en N as) h = .rt (.tup [.str s, .loc m]) H) : callF N body as h = .ok (.tup [.str s, .loc m]) H := by
  rw [call_rt p, gc_tup hm]
theorem fill_err {fr : List Str} : ∀ {r acc : Kvs} {q : Str × Val}, fill fr r acc = .error q → q.2.und 0 = true
  | [], acc, q, e => by cases e
  | kv :: r, acc, q, e => by
    rw [fill] at e
    split at e
    · split at e
      · split at e
        · cases e; rfl
        · exact fill_err e
      · cases e; rfl
    · cases e; rfl
theorem tell_err {F : Kvs} : ∀ {ps : List Pm} {T : Kvs} {q : Str × Val}, tell F ps T = .error q → q.2.und 0 = true
  | [], T, q, e => by cases e
  | p :: ps, T, q, e => by
    rw [tell] at e
    split at e
    · cases e; rfl
    · exact tell_err e
theorem mat_err {P : List Pm} {G : List Val} {kvs : Kvs} {kd : Nat} {q : Str × Val} (e : matP P G kvs kd = .error q) : q.2.und 0 = true := by
  unfold matP at e
  split at e
  · cases e; rfl
  · split at e
    · rename_i hf; cases e; exact fill_err hf
    · exact tell_err e
theorem plc_Tk {P : List Pm} {G : List Val} {kd : Nat} {b : Kvs} (e : plc P G kd = some b) : Tk b := by
  unfold plc at e
  split at e
  · cases e; exact base_Tk
  · split at e
    · cases e
    · split at e
      · cases e; exact base_Tk.put
      · cases e
theorem rest_txt {P : List Pm} (k : Pms P) : ∀ t ∈ rests P, t.length ≤ 100 ∧ ∀ c ∈ t.cps.toList, c < 0x110000 := fun t m => by
  obtain ⟨p, mp, rfl⟩ := List.mem_map.mp m
  have := (k.ok p (List.mem_filter.mp mp).1).nm
  exact ⟨by have := this.l8; omega, fun c mc => by have := this.sg c mc; omega⟩
noncomputable def A5c : XS := sIf (xTest (xBin oNe (xVar 6) (xTup (xNil)))) (sSeq (sIf (xOrT (xTest (xBin oEq (xVar 4) (xLst (xNil)))) (xTest (xBin oGt (xCall 1 (f__law_deep 12) (xCons (xTup (xCons (xC (.str "row")) (xCons (xVar 6) (xNil)))) (xNil))) (xC (.int 4))))) (sRet (xTup (xCons (xC (.str "many")) (xCons (xCallN oLenD (xCons (xVar 1) (xNil))) (xNil))))) (sNil)) (sSetIx (xVar 5) (xBin (oIx2 gt) (xVar 4) (xC (.int 0))) (xTup (xCons (xC (.str "row")) (xCons (xVar 6) (xNil)))))) (sNil)
theorem due_ok {P : List Pm} {G : List Val} {kvs : Kvs} {kd d a : Nat} {h : Hh} (c : Cl h) (k : Pms P) (ea : h[a]? = some (.lst G)) (hw : ∀ x ∈ G, Wv 3 4 x) (hl : G.length ≤ 20) (hd : h[d]? = some (.dct false kvs)) (w : Nw kvs) (hk : ∀ h, Cl h → f__law_deep 12 [rowV (left P G)] h = .ok (.int kd) h) :
    match matP P G kvs kd with
    | .ok T => ∃ H m, Grew h H ∧ f__law_due [.tup (P.map Pm.val), .loc a, .loc d] h = .ok (.tup [.str "told", .loc m]) H ∧ h.length ≤ m ∧ H[m]? = some (.dct false T)
    | .error q => f__law_due [.tup (P.map Pm.val), .loc a, .loc d] h = .ok (.tup [.str q.1, q.2]) h := by
  have hu : ∀ x ∈ G, x.und 0 = true := fun x m => (hw x m).und
  have lz : (P.map Pm.val).length ≤ sizeLine := sl_le (by rw [List.length_map]; have := k.len; omega)
  have z0 : (0 : Nat) ≤ sizeLine := Nat.zero_le _
  have z1 : (1 : Nat) ≤ sizeLine := sl_le (by decide)
  have z2 : (2 : Nat) ≤ sizeLine := sl_le (by decide)
  obtain ⟨H1, G1, e1, a1⟩ := comp_c (xi := xIter (xVar 0)) (it := .items (P.map Pm.val)) (t := .name 11) (tt := xTest (xBin (oIn2 gt) (xBin (oIx2 gt) (xVar 11) (xC (.int 0))) (xLst (xCons (xC (.str "by")) (xCons (xC (.str "or")) (xNil)))))) (x := xBin (oIx2 gt) (xVar 11) (xC (.int 1))) (e := [some (.tup (P.map Pm.val)), some (.loc a), some (.loc d), none, none, none, none, none, none, none, none, none]) (h := h) (h1 := h) (vs := [11]) (pf false fun s _ _ => decide (s ∈ (["by", "or"] : List Str))) (pf .non fun _ n _ => .str n) (by simp [itOf]) trivial c lz (fun x mx => by
    obtain ⟨p, mp, rfl⟩ := List.mem_map.mp mx
    refine ⟨[some (.tup (P.map Pm.val)), some (.loc a), some (.loc d), none, none, none, none, none, none, none, none, some p.val], by simp [wipeE, Tg.put], fun _ => by rw [pf_val]; rfl, fun g cg => ⟨g ++ [.lst [.str "by", .str "or"]], ?_, Grew.new cg.cl rfl, fun _ => ⟨_, ?_, Grew.refl (cg.cl.app2 rfl)⟩⟩⟩
    · have n1 : (g ++ [Ob.lst [.str "by", .str "or"]])[g.length]? = some (.lst ((["by", "or"] : List Str).map Val.str)) := at_new
      have q := oin_lst (G := gt) (s := p.sort) n1
      rw [pf_val]
      have i0 : ∀ g, oIx2 gt p.val (.int 0) g = some (.str p.sort, g) := fun g => by simp [Pm.val]
      generalize hgg : g ++ [Ob.lst [Val.str (Str.ofString "by"), Val.str (Str.ofString "or")]] = gg at *
      simp only [run_test, run_bin, run_var, run_C, run_lst, run_cons, run_nil, bind_ok, List.getElem?_cons_succ, List.getElem?_cons_zero, i0, of_some, List.length_cons, List.length_nil, z2, if_true, hgg, q]
    · rw [pf_val]; simp [Pm.val])
  have a1 : H1[h.length]? = some (.lst ((places P).map Val.str)) := by
    rw [a1, show (Itn.items (P.map Pm.val)).xs = P.map Pm.val from rfl, pv_filter, pv_map, places, sel, List.map_map]
    rfl
  generalize hlh : h.length = n at *
  obtain ⟨H2, G2, e2, a2⟩ := comp_c (xi := xIter (xVar 0)) (it := .items (P.map Pm.val)) (t := .name 11) (tt := xTest (xBin oEq (xBin (oIx2 gt) (xVar 11) (xC (.int 0))) (xC (.str "rest")))) (x := xBin (oIx2 gt) (xVar 11) (xC (.int 1))) (e := [some (.tup (P.map Pm.val)), some (.loc a), some (.loc d), some (.loc n), none, none, none, none, none, none, none, none]) (h := H1) (h1 := H1) (vs := [11]) (pf false fun s _ _ => decide (s = ("rest" : Str))) (pf .non fun _ n _ => .str n) (by simp [itOf]) trivial G1.cl lz (fun x mx => by
    obtain ⟨p, mp, rfl⟩ := List.mem_map.mp mx
    refine ⟨[some (.tup (P.map Pm.val)), some (.loc a), some (.loc d), some (.loc n), none, none, none, none, none, none, none, some p.val], by simp [wipeE, Tg.put], fun _ => by rw [pf_val]; rfl, fun g cg => ⟨g, ?_, Grew.refl cg.cl, fun _ => ⟨g, ?_, Grew.refl cg.cl⟩⟩⟩
    · rw [pf_val]; simp [Pm.val]
    · rw [pf_val]; simp [Pm.val])
  have a2 : H2[H1.length]? = some (.lst ((rests P).map Val.str)) := by
    rw [a2, show (Itn.items (P.map Pm.val)).xs = P.map Pm.val from rfl, pv_filter, pv_map, ← rest_sel, List.map_map]
    rfl
  generalize hl1 : H1.length = l4 at *
  have b2 := G2.at_ a1
  have G02 := G1.trans G2
  have ea2 := G02.at_ ea
  have lp : (places P).length ≤ 6 := by
    unfold places sel; rw [List.length_map]; exact Nat.le_trans (List.length_filter_le _ _) k.len
  have zz : oListZip (.loc n) (.loc a) H2 = some (.loc H2.length, H2 ++ [.lst (List.zipWith (fun x y => Val.tup [x, y]) ((places P).map Val.str) G)]) := by
    simp only [oListZip, seqX, b2, ea2]
    rw [if_pos (sl_le (by rw [List.length_map]; omega))]
  have G3 : Grew H2 (H2 ++ [.lst (List.zipWith (fun x y => Val.tup [x, y]) ((places P).map Val.str) G)]) := Grew.new G2.cl (undL_of fun x mx => by
    rw [← List.map_uncurry_zip_eq_zipWith] at mx
    obtain ⟨q, mq, rfl⟩ := List.mem_map.mp mx
    have := List.of_mem_zip mq
    obtain ⟨s, _, es⟩ := List.mem_map.mp this.1
    show Val.und 0 (.tup [q.1, q.2]) = true
    rw [← es]
    simp [Val.und, undL, hu _ this.2])
  have n3 : (H2 ++ [Ob.lst (List.zipWith (fun x y => Val.tup [x, y]) ((places P).map Val.str) G)])[H2.length]? = some (.lst (List.zipWith (fun x y => Val.tup [x, y]) ((places P).map Val.str) G)) := at_new
  have G03 := G02.trans G3
  have b3 := G3.at_ b2
  have a3 := G3.at_ a2
  generalize hH3 : H2 ++ [Ob.lst (List.zipWith (fun x y => Val.tup [x, y]) ((places P).map Val.str) G)] = H3 at *
  generalize hl2 : H2.length = l2 at *
  have dz : oDictOf [.loc l2] H3 = some (.loc H3.length, H3 ++ [.dct false (base P G)]) := by
    simp only [oDictOf, n3, pairs_zip]; rfl
  have G4 : Grew H3 (H3 ++ [.dct false (base P G)]) := Grew.new G3.cl (und_dct (base_UF hu))
  have m4 : (H3 ++ [Ob.dct false (base P G)])[H3.length]? = some (.dct false (base P G)) := at_new
  have hm : h.length ≤ H3.length := G03.le
  have G04 := G03.trans G4
  have b4 := G4.at_ b3
  have a4 := G4.at_ a3
  generalize hH4 : H3 ++ [Ob.dct false (base P G)] = H4 at *
  generalize hl3 : H3.length = m at *
  obtain ⟨H5, u5, G5, e5, t5⟩ := tail_ok (a := xVar 1) (b := xCallN oLenD (xCons (xVar 3) xNil)) (e := [some (.tup (P.map Pm.val)), some (.loc a), some (.loc d), some (.loc n), some (.loc l4), some (.loc m), none, none, none, none, none, none]) (n := (places P).length) G4.cl (by simp) (by simp [len_lst b4]) (.loc (G04.at_ ea)) hu
  have t5 : oTuple [u5] H5 = some (.tup (left P G), H5) := t5
  have m5 := G5.at_ m4
  have a5 := G5.at_ a4
  have G05 := G04.trans G5
  have hlm : ∀ x ∈ left P G, Wv 3 4 x := fun x mx => hw x (List.mem_of_mem_drop mx)
  have ne := ne_nilT (h := H5) (Tml.of (vs := left P G) fun x mx => (hlm x mx).tm4) (by decide)
  have A1 : sSet 3 (xComp (xIter (xVar 0)) (.name 11) (xTest (xBin (oIn2 gt) (xBin (oIx2 gt) (xVar 11) (xC (.int 0))) (xLst (xCons (xC (.str "by")) (xCons (xC (.str "or")) (xNil)))))) (xBin (oIx2 gt) (xVar 11) (xC (.int 1))) [11]) (en 12 [.tup (P.map Pm.val), .loc a, .loc d]) h = .nx [some (.tup (P.map Pm.val)), some (.loc a), some (.loc d), some (.loc n), none, none, none, none, none, none, none, none] H1 := by
    have : en 12 [.tup (P.map Pm.val), .loc a, .loc d] = [some (.tup (P.map Pm.val)), some (.loc a), some (.loc d), none, none, none, none, none, none, none, none, none] := rfl
    rw [this]
    simp only [run_set, e1]; rfl
  have A2 : sSet 4 (xComp (xIter (xVar 0)) (.name 11) (xTest (xBin oEq (xBin (oIx2 gt) (xVar 11) (xC (.int 0))) (xC (.str "rest")))) (xBin (oIx2 gt) (xVar 11) (xC (.int 1))) [11]) [some (.tup (P.map Pm.val)), some (.loc a), some (.loc d), some (.loc n), none, none, none, none, none, none, none, none] H1 = .nx [some (.tup (P.map Pm.val)), some (.loc a), some (.loc d), some (.loc n), some (.loc l4), none, none, none, none, none, none, none] H2 := by
    simp only [run_set, e2]; rfl
  have A3 : sSet 5 (xCallN oDictOf (xCons (xBin oListZip (xVar 3) (xVar 1)) (xNil))) [some (.tup (P.map Pm.val)), some (.loc a), some (.loc d), some (.loc n), some (.loc l4), none, none, none, none, none, none, none] H2 = .nx [some (.tup (P.map Pm.val)), some (.loc a), some (.loc d), some (.loc n), some (.loc l4), some (.loc m), none, none, none, none, none, none] H4 := by
    simp [zz, dz]
  have A4 : sSet 6 (xCallN oTuple (xCons (xSl oSl (xVar 1) (some (xCallN oLenD (xCons (xVar 3) (xNil)))) none) (xNil))) [some (.tup (P.map Pm.val)), some (.loc a), some (.loc d), some (.loc n), some (.loc l4), some (.loc m), none, none, none, none, none, none] H4 = .nx [some (.tup (P.map Pm.val)), some (.loc a), some (.loc d), some (.loc n), some (.loc l4), some (.loc m), some (.tup (left P G)), none, none, none, none, none] H5 := by
    simp [e5, t5]
  subst hlh
  have form : x__law_due (en 12 [.tup (P.map Pm.val), .loc a, .loc d]) h = sSeq A5c rest5 [some (.tup (P.map Pm.val)), some (.loc a), some (.loc d), some (.loc h.length), some (.loc l4), some (.loc m), some (.tup (left P G)), none, none, none, none, none] H5 := by
    unfold x__law_due
    rw [seq_nx A1, seq_nx A2, seq_nx A3, seq_nx A4]
    rfl
  have tail : ∀ (b : Kvs) (Hx : Hh), plc P G kd = some b → Grew h Hx → Hx[m]? = some (.dct false b) → x__law_due (en 12 [.tup (P.map Pm.val), .loc a, .loc d]) h = rest5 [some (.tup (P.map Pm.val)), some (.loc a), some (.loc d), some (.loc h.length), some (.loc l4), some (.loc m), some (.tup (left P G)), none, none, none, none, none] Hx →
      match matP P G kvs kd with
      | .ok T => ∃ H m, Grew h H ∧ f__law_due [.tup (P.map Pm.val), .loc a, .loc d] h = .ok (.tup [.str "told", .loc m]) H ∧ h.length ≤ m ∧ H[m]? = some (.dct false T)
      | .error q => f__law_due [.tup (P.map Pm.val), .loc a, .loc d] h = .ok (.tup [.str q.1, q.2]) h := fun b Hx hp Gx mx ex => by
    obtain ⟨ub, lb⟩ : UF b ∧ b.length ≤ 21 := by
      rcases plc_UF hu hp with q | q
      · exact q
      · omega
    have T := due_tail (av := .loc a) (c3 := .loc h.length) (c4 := .loc l4) (lf := .tup (left P G)) c k w hd Gx hm mx ub (plc_Tk hp) lb
    have hM : matP P G kvs kd = aft P kvs b := by
      unfold matP aft
      first
      | (rw [hp]; done)
      | (rw [hp]; dsimp only; cases fill (free P) kvs b <;> rfl)
    rw [← hM] at T
    cases hr : matP P G kvs kd with
    | error q =>
      rw [hr] at T
      obtain ⟨H', G', r⟩ := T
      refine call_g c ?_ G' (ex.trans r)
      simp [Val.und, undL, mat_err hr]
    | ok T' =>
      rw [hr] at T
      obtain ⟨H', t, G', ht, at', r⟩ := T
      exact ⟨H', t, G', call_gt ht (ex.trans r), ht, at'⟩
  by_cases le : (left P G).isEmpty = true
  · have hp : plc P G kd = some (base P G) := by unfold plc; rw [if_pos le]
    refine tail _ H5 hp G05 m5 (form.trans (seq_nx ?_))
    rw [le] at ne
    simp [A5c, ne]
  · have le' : (left P G).isEmpty = false := by simpa using le
    rw [le'] at ne
    have G6 : Grew H5 (H5 ++ [.lst []]) := Grew.new G5.cl rfl
    have n6 : (H5 ++ [Ob.lst []])[H5.length]? = some (.lst []) := at_new
    have a6 := G6.at_ a5
    have m6 := G6.at_ m5
    have ea6 := G6.at_ (G05.at_ ea)
    have G06 := G05.trans G6
    generalize hH6 : H5 ++ [Ob.lst []] = H6 at *
    generalize hl5 : H5.length = l5 at *
    have er := eq_nil (h := H6) (strs_tml (n := 0) (rest_txt k)) (by decide) a6 n6
    have many : plc P G kd = none → A5c [some (.tup (P.map Pm.val)), some (.loc a), some (.loc d), some (.loc h.length), some (.loc l4), some (.loc m), some (.tup (left P G)), none, none, none, none, none] H5 = .rt (.tup [.str "many", .int G.length]) H6 → _ := fun hp r => (by
      have hM : matP P G kvs kd = .error ("many", .int G.length) := by unfold matP; rw [hp]
      rw [hM]
      exact call_g c rfl G06 (form.trans (seq_rt r)) : match matP P G kvs kd with
      | .ok T => ∃ H m, Grew h H ∧ f__law_due [.tup (P.map Pm.val), .loc a, .loc d] h = .ok (.tup [.str "told", .loc m]) H ∧ h.length ≤ m ∧ H[m]? = some (.dct false T)
      | .error q => f__law_due [.tup (P.map Pm.val), .loc a, .loc d] h = .ok (.tup [.str q.1, q.2]) h)
    have lnG := len_lst ea6
    cases hr : rests P with
    | nil =>
      rw [hr] at er
      have er : oEq (.loc l4) (.loc l5) H6 = some (.bl true, H6) := er
      refine many (by unfold plc; rw [if_neg le, hr]) ?_
      simp [A5c, ne, hH6, hl5, er, lnG, z2]
    | cons r rs =>
      rw [hr] at er a6
      have er : oEq (.loc l4) (.loc l5) H6 = some (.bl false, H6) := er
      have dk : f__law_deep 12 [.tup [.str "row", .tup (left P G)]] H6 = .ok (.int kd) H6 := hk H6 G06.cl
      by_cases h4 : kd ≤ 4
      · have hp : plc P G kd = some (putX (base P G) (.inr r) (rowV (left P G))) := by unfold plc; rw [if_neg le, hr]; simp [h4]
        have b4 : ¬ ((4 : Int) < (kd : Int)) := by omega
        have ix0 : oIx2 gt (.loc l4) (.int 0) H6 = some (.str r, H6) := lst_at (n := 0) a6 rfl
        have bl : (base P G).length < sizeLine := by
          have := merge_len (((places P).map Sum.inr).zip G) []
          have h2 : (((places P).map (Sum.inr : Str → Key)).zip G).length ≤ 20 := by rw [List.length_zip]; omega
          rw [sizeLine_eq]
          simp only [List.length_nil] at this
          unfold base
          omega
        have st := set_dct (s := r) (v := .tup [.str "row", .tup (left P G)]) m6 bl
        refine tail _ (H6.set m (.dct false (putX (base P G) (.inr r) (rowV (left P G))))) hp (G06.put hm (ob_le (Nat.zero_le _) (und_dct ((base_UF hu).put ?_)))) (at_same m6) (form.trans (seq_nx ?_))
        · simp [rowV, Val.und, undL, und_mem fun x mx => (hlm x mx).und]
        · have : rowV (left P G) = .tup [.str "row", .tup (left P G)] := rfl
          rw [this]
          simp [A5c, ne, hH6, hl5, er, dk, b4, z2, ix0, st]
      · have b4 : (4 : Int) < (kd : Int) := by omega
        refine many (by unfold plc; rw [if_neg le, hr]; simp [h4]) ?_
        simp [A5c, ne, hH6, hl5, er, dk, b4, lnG, z2]
end K

set_option Elab.async false
set_option linter.all false
set_option maxRecDepth 100000
set_option maxHeartbeats 4000000
namespace K
open PySem L2 EX XL
theorem found_ok {P : List Pm} {G : List Val} {kvs : Kvs} {kd d : Nat} {v : Val} {h : Hh} (c : Cl h) (k : Pms P) (s : Sq h v G) (hw : ∀ x ∈ G, Wv 3 4 x) (hl : G.length ≤ 20) (hd : h[d]? = some (.dct false kvs)) (w : Nw kvs) (hk : ∀ h, Cl h → f_is_worth [rowV (left P G)] h = .ok (.bl (decide (kd ≤ 4))) h) :
    match matP P G kvs kd with
    | .ok T => ∃ H m, Grew h H ∧ f__law_found [.tup (P.map Pm.val), v, .loc d] h = .ok (.tup [.str "told", .loc m]) H ∧ h.length ≤ m ∧ H[m]? = some (.dct false T)
    | .error q => f__law_found [.tup (P.map Pm.val), v, .loc d] h = .ok (.tup [.str q.1, q.2]) h := by
  have M := matched_ok c k s hw hl hd w hk
  have z2 : (2 : Nat) ≤ sizeLine := sl_le (by decide)
  have pk : pick [2, 1, 0] [.loc d, v, .tup (P.map Pm.val)] = some [.tup (P.map Pm.val), v, .loc d] := rfl
  cases hr : matP P G kvs kd with
  | error q =>
    rw [hr] at M
    obtain ⟨uq, M⟩ := M
    have an : anyX ct "Fault" ["Fault"] = some true := by decide +kernel
    have f1 : (fltV q.1 q.2).lookup ("why" : Str) = some (Val.str q.1) := rfl
    have f2 : (fltV q.1 q.2).lookup ("found" : Str) = some q.2 := rfl
    refine call_g c (by simp [Val.und, undL, uq]) (Grew.refl c) ?_
    simp [en, x__law_found, sTry, xCallK, pk, M, handle, an, unslot, unS, xFld, f1, f2, z2]
  | ok T =>
    rw [hr] at M
    obtain ⟨H, m, G', M, hm, am⟩ := M
    refine ⟨H, m, G', call_gt hm ?_, hm, am⟩
    simp [en, x__law_found, sTry, xCallK, pk, M, z2]
/-- what a fault tells -/
structure Eg (q : Str × Val) : Prop where
  ne : q.1 ≠ "told"
  tm : Tm 1 200 (.tup [.str q.1, q.2])
theorem same_err {q : Str × Val} {h : Hh} (c : Cl h) (g : Eg q) : f__law_same [.tup [.str q.1, q.2], .tup [.str q.1, q.2]] h = .ok (.bl true) h := by
  obtain ⟨s, r⟩ := repr_tm g.tm (by decide) (by decide)
  refine call_g c rfl (Grew.refl c) ?_
  have n := g.ne
  simp [en, x__law_same, n, r h]
def Told (T : Kvs) : Prop := Tml 14 1048576 (T.map Md.items.x) ∧ undL 0 (T.map Md.items.x) = true
theorem same_told {T : Kvs} {m m' : Nat} {h : Hh} (c : Cl h) (t : Told T) (e : h[m]? = some (.dct false T)) (e' : h[m']? = some (.dct false T)) : f__law_same [.tup [.str "told", .loc m], .tup [.str "told", .loc m']] h = .ok (.bl true) h := by
  obtain ⟨s, r⟩ := repr_lst t.1 (by decide) (by decide)
  have G1 : Grew h (h ++ [.lst (T.map Md.items.x)]) := Grew.new (o := .lst (T.map Md.items.x)) c t.2
  have n1 : (h ++ [Ob.lst (T.map Md.items.x)])[h.length]? = some (.lst (T.map Md.items.x)) := at_new
  have i1 : oItems (.loc m) h = some (.loc h.length, h ++ [.lst (T.map Md.items.x)]) := by simp only [oItems, e]
  have e1 := G1.at_ e'
  generalize h ++ [Ob.lst (T.map Md.items.x)] = H1 at *
  generalize h.length = l at *
  have r1 := r H1 l n1
  have G2 : Grew H1 (H1 ++ [.lst (T.map Md.items.x)]) := Grew.new (o := .lst (T.map Md.items.x)) G1.cl t.2
  have n2 : (H1 ++ [Ob.lst (T.map Md.items.x)])[H1.length]? = some (.lst (T.map Md.items.x)) := at_new
  have i2 : oItems (.loc m') H1 = some (.loc H1.length, H1 ++ [.lst (T.map Md.items.x)]) := by simp only [oItems, e1]
  have G02 := G1.trans G2
  generalize H1 ++ [Ob.lst (T.map Md.items.x)] = H2 at *
  generalize H1.length = l1 at *
  have r2 := r H2 l1 n2
  refine call_g c rfl G02 ?_
  simp [en, x__law_same, i1, r1, i2, r2]
end K

set_option Elab.async false
set_option linter.all false
set_option maxRecDepth 100000
set_option maxHeartbeats 4000000
namespace K
open PySem L2 EX XL
structure Vt (q : Key × Val) : Prop where
  key : ∃ s, q.1 = .inr s ∧ Nm s
  tm : Tm 11 119825 q.2
  und : q.2.und 0 = true
def Ft (F : Kvs) : Prop := ∀ q ∈ F, Vt q
theorem Ft.put {F : Kvs} (f : Ft F) {s : Str} {v : Val} (n : Nm s) (t : Tm 11 119825 v) (u : v.und 0 = true) : Ft (putX F (.inr s) v) := fun q m => by
  rcases putX_mem m with ⟨a, b⟩ | m
  · exact ⟨⟨s, a, n⟩, by rw [b]; exact t, by rw [b]; exact u⟩
  · exact f q m
theorem Wv.vt {v : Val} (w : Wv 3 4 v) : Tm 11 119825 v := w.tm4.le (by decide) (by decide)
theorem name_in {P : List Pm} {ss : List Str} (k : Pms P) {s : Str} (m : s ∈ (sel ss P).map fun p => p.name) : Nm s := by
  obtain ⟨p, mp, rfl⟩ := List.mem_map.mp m
  exact (k.ok p (List.mem_filter.mp mp).1).nm
theorem base_Ft {P : List Pm} {G : List Val} (k : Pms P) (hw : ∀ x ∈ G, Wv 3 4 x) : Ft (base P G) := fun q m => by
  obtain ⟨mv, s, ms, e⟩ := base_mem m
  exact ⟨⟨s, e, name_in k ms⟩, (hw _ mv).vt, (hw _ mv).und⟩
theorem rowV_und {xs : List Val} (hw : ∀ x ∈ xs, Wv 3 4 x) : (rowV xs).und 0 = true := by
  simp [rowV, Val.und, undL, und_mem fun x mx => (hw x mx).und]
theorem left_mem {P : List Pm} {G : List Val} {x : Val} (m : x ∈ left P G) : x ∈ G := List.mem_of_mem_drop m
theorem plc_Ft {P : List Pm} {G : List Val} {kd : Nat} {b : Kvs} (k : Pms P) (hw : ∀ x ∈ G, Wv 3 4 x) (hl : G.length ≤ 20) (e : plc P G kd = some b) : Ft b := by
  unfold plc at e
  split at e
  · cases e; exact base_Ft k hw
  · split at e
    · cases e
    · rename_i r rs hr
      split at e
      · cases e
        refine (base_Ft k hw).put (name_in k (ss := ["rest"]) ?_) ?_ (rowV_und fun x m => hw x (left_mem m))
        · show r ∈ rests P
          rw [hr]; exact .head _
        · refine (row_tm (n := 9) (k := 5990) (m := 20) (fun x m => (hw x (left_mem m)).tm4) ?_).le (by decide) (by decide)
          unfold left; rw [List.length_drop]; omega
      · cases e
theorem eg_str {w s : Str} (hw : w ∈ (["strange", "twice", "lacks"] : List Str)) (n : Nm s) : Eg (w, .str s) := by
  have h3 : ∀ w ∈ (["strange", "twice", "lacks"] : List Str), w ≠ "told" ∧ (∀ c ∈ w.cps.toList, c < 0x110000) ∧ w.length ≤ 7 := by decide +kernel
  obtain ⟨a, b, c⟩ := h3 w hw
  exact ⟨a, (Tml.cons (n := 0) (Tm.str b c) (Tml.cons n.tm (k := 0) Tml.nil)).tup.le (by decide) (by decide)⟩
theorem fill_Ft {fr : List Str} : ∀ {r acc : Kvs}, (∀ kv ∈ r, ∃ s, kv.1 = .inr s ∧ Nm s ∧ Wv 3 4 kv.2) → Ft acc → match fill fr r acc with
    | .ok F => Ft F
    | .error q => Eg q
  | [], acc, _, f => f
  | kv :: r, acc, hr, f => by
    obtain ⟨s, ek, n, wv⟩ := hr kv (.head _)
    obtain ⟨kk, w⟩ := kv
    have ek : kk = .inr s := ek
    subst ek
    have ih := fill_Ft (fr := fr) (r := r) (acc := putX acc (.inr s) w) (fun q m => hr q (.tail _ m)) (f.put n wv.vt wv.und)
    by_cases hs : s ∈ fr
    · cases hv : (valX acc (.inr s)).isSome with
      | true =>
        have f1 : fill fr ((.inr s, w) :: r) acc = .error ("twice", .str s) := by simp [fill, hs, hv]
        rw [f1]
        exact eg_str (by decide +kernel) n
      | false =>
        have f1 : fill fr ((.inr s, w) :: r) acc = fill fr r (putX acc (.inr s) w) := by simp [fill, hs, hv]
        rw [f1]
        exact ih
    · have f1 : fill fr ((.inr s, w) :: r) acc = .error ("strange", .str s) := by simp [fill, hs]
      rw [f1]
      exact eg_str (by decide +kernel) n
theorem valX_Ft {F : Kvs} (f : Ft F) {k : Key} {v : Val} (e : valX F k = some v) : Tm 11 119825 v := by
  unfold valX at e
  obtain ⟨q, hq, rfl⟩ := Option.map_eq_some_iff.mp e
  exact (f q (List.mem_of_find?_eq_some hq)).tm
theorem own_vt {p : Pm} (k : Pk p) : Tm 11 119825 (p.own.getD (rowV [])) := by
  have e : Tm 11 119825 (rowV []) := (row_tm (n := 0) (k := 0) (m := 0) (xs := []) (fun _ m => nomatch m) (Nat.le_refl _)).le (by decide) (by decide)
  cases k with
  | by_ n => exact e
  | rest n => exact e
  | only n => exact e
  | or_ n o => exact o.fw.tm.le (by decide) (by decide)
  | onlyor n o => exact o.fw.tm.le (by decide) (by decide)
theorem Ft.uf {F : Kvs} (f : Ft F) : UF F := fun q m => (f q m).und
theorem tell_Ft {F : Kvs} (f : Ft F) : ∀ {ps : List Pm} {T : Kvs}, (∀ p ∈ ps, Pk p) → Ft T → match tell F ps T with
    | .ok T' => Ft T' ∧ T'.length ≤ T.length + ps.length
    | .error q => Eg q
  | [], T, _, t => ⟨t, by simp⟩
  | p :: ps, T, hp, t => by
    have kp := hp p (.head _)
    by_cases hc : (valX F (.inr p.name)).isSome = false ∧ p.sort ∈ (["by", "only"] : List Str)
    · have f1 : tell F (p :: ps) T = .error ("lacks", .str p.name) := by rw [tell, if_pos hc]
      rw [f1]
      exact eg_str (by decide +kernel) kp.nm
    · have f1 : tell F (p :: ps) T = tell F ps (putX T (.inr p.name) ((valX F (.inr p.name)).getD (p.own.getD (rowV [])))) := by rw [tell, if_neg hc]
      rw [f1]
      have tv : Tm 11 119825 ((valX F (.inr p.name)).getD (p.own.getD (rowV []))) := by
        cases hv : valX F (.inr p.name) with
        | none => exact own_vt kp
        | some u => exact valX_Ft f hv
      have uv : ((valX F (.inr p.name)).getD (p.own.getD (rowV []))).und 0 = true := by
        cases hv : valX F (.inr p.name) with
        | none => exact ownD_und kp
        | some u => exact valX_und f.uf hv
      have ih := tell_Ft f (ps := ps) (T := putX T (.inr p.name) ((valX F (.inr p.name)).getD (p.own.getD (rowV [])))) (fun q m => hp q (.tail _ m)) (t.put kp.nm tv uv)
      have hl := putX_len (kvs := T) (k := .inr p.name) (v := (valX F (.inr p.name)).getD (p.own.getD (rowV [])))
      revert ih
      cases tell F ps (putX T (.inr p.name) ((valX F (.inr p.name)).getD (p.own.getD (rowV [])))) with
      | error q => exact fun z => z
      | ok T' => exact fun z => ⟨z.1, by rw [List.length_cons]; have := z.2; omega⟩
theorem Ft.told {T : Kvs} (f : Ft T) (hl : T.length ≤ 6) : Told T := by
  have h1 : ∀ v ∈ T.map Md.items.x, Tm 12 119835 v ∧ v.und 0 = true := fun v m => by
    obtain ⟨q, mq, rfl⟩ := List.mem_map.mp m
    obtain ⟨⟨s, e, n⟩, tm, u⟩ := f q mq
    have : Md.items.x q = .tup [.str s, q.2] := by show Val.tup [kX q.1, q.2] = _; rw [e]; rfl
    rw [this]
    exact ⟨(Tml.cons n.tm (Tml.cons tm (k := 0) Tml.nil)).tup.le (by decide) (by decide), by simp [Val.und, undL, u]⟩
  refine ⟨(Tml.of fun v m => (h1 v m).1).le (by decide) ?_, undL_of fun v m => (h1 v m).2⟩
  rw [List.length_map]
  have := Nat.mul_le_mul_right (119835 + 1) hl
  omega
theorem mat_good {P : List Pm} {G : List Val} {kvs : Kvs} {kd : Nat} (k : Pms P) (hw : ∀ x ∈ G, Wv 3 4 x) (hl : G.length ≤ 20) (w : Nw kvs) : match matP P G kvs kd with
    | .ok T => Told T
    | .error q => Eg q := by
  unfold matP
  cases hp : plc P G kd with
  | none =>
    have h3 : (Str.ofString "many") ≠ (Str.ofString "told") ∧ (∀ c ∈ (Str.ofString "many").cps.toList, c < 0x110000) ∧ (Str.ofString "many").length ≤ 4 := by decide +kernel
    exact ⟨h3.1, (Tml.cons (n := 0) (m := 4) (Tm.str h3.2.1 h3.2.2) (Tml.cons (m := 0) (Tm.int (by omega)) (k := 0) Tml.nil)).tup.le (by decide) (by decide)⟩
  | some b =>
    have f1 := fill_Ft (fr := free P) (r := kvs) (acc := b) w.ok (plc_Ft k hw hl hp)
    dsimp only
    revert f1
    cases hf : fill (free P) kvs b with
    | error q => exact fun z => z
    | ok F =>
      intro f1
      have f2 := tell_Ft f1 (ps := P) (T := []) k.ok (fun _ m => nomatch m)
      dsimp only
      revert f2
      cases tell F P [] with
      | error q => exact fun z => z
      | ok T => exact fun z => z.1.told (by have := z.2; have := k.len; simp only [List.length_nil] at *; omega)
end K

set_option Elab.async false
set_option linter.all false
set_option maxRecDepth 100000
set_option maxHeartbeats 4000000
namespace K
open PySem L2 EX XL
theorem gc_self {n : Nat} {v : Val} {h : Hh} (e : h.length = n) : gc n v h = h := by
  unfold gc
  split
  · exact List.take_of_length_le (by omega)
  · rfl
theorem take_ok {h : Hh} {b : Nat} {s : Bs} {m : Int} (hb : h[b]? = some (bx s)) (g : Gd s) (hz : s.z + 1 ≤ 4194304) (hm : 0 < m) (hm2 : m.natAbs.log2 < 9000) :
    ∃ (r : Int) (s' : Bs), f__law_take [.loc b, .int m] h = .ok (.int r) (h.set b (bx s')) ∧ 0 ≤ r ∧ r < m ∧ Gd s' ∧ s'.z ≤ s.z + 1 := by
  have hl : b < h.length := (List.getElem?_eq_some_iff.mp hb).1
  by_cases hx : 0 < s.x
  · refine ⟨s.x % m, ⟨s.x / m, s.y, s.z⟩, ?_, Int.emod_nonneg _ (by omega), Int.emod_lt_of_pos _ hm, ⟨Int.ediv_nonneg g.x0 (by omega), g.y0, g.y1, g.z0⟩, by show s.z ≤ s.z + 1; omega⟩
    simp [f__law_take, callF, x__law_take, oIx2, oIx, hb, bx, atI, ixN, hx, oMod, hm, oFdiv, hm2, oSet, gc_self]
  · have hx0 : s.x = 0 := by have := g.x0; omega
    have z0 := g.z0; have y0 := g.y0; have y1 := g.y1
    have a1 : (s.y + 7919 * (s.z + 1) + 11).natAbs < 2 ^ 64 := by omega
    have q0 : 0 ≤ 104729 * (s.z + 1) * (s.z + 1) := Int.mul_nonneg (by omega) (by omega)
    have q1 : 104729 * (s.z + 1) * (s.z + 1) ≤ 104729 * 4194304 * 4194304 := Int.mul_le_mul (by omega) (by omega) (by omega) (by omega)
    have p0 : 0 ≤ (s.y + 7919 * (s.z + 1) + 11) ^ 5 % 2147483647 := Int.emod_nonneg _ (by decide)
    have p1 : (s.y + 7919 * (s.z + 1) + 11) ^ 5 % 2147483647 < 2147483647 := Int.emod_lt_of_pos _ (by decide)
    have c1 : ((s.y + 7919 * (s.z + 1) + 11) ^ 5 % 2147483647 + 104729 * (s.z + 1) * (s.z + 1)).natAbs < 2 ^ 64 := by omega
    have c2 : -18446744073709551616 < s.z + 1 ∧ s.z + 1 < 18446744073709551616 := by omega
    have l16 : Nat.log2 16 < 9000 := by decide
    refine ⟨((s.y + 7919 * (s.z + 1) + 11) ^ 5 % 2147483647 + 104729 * (s.z + 1) * (s.z + 1)) ^ 3 % 2147483587 / 16 % m, ⟨0, s.y, s.z + 1⟩, ?_, Int.emod_nonneg _ (by omega), Int.emod_lt_of_pos _ hm, ⟨Int.le_refl _, y0, y1, by show 0 ≤ s.z + 1; omega⟩, Int.le_refl _⟩
    have e1 : f__law_take [.loc b, .int m] h = .ok (.int (((s.y + 7919 * (s.z + 1) + 11) ^ 5 % 2147483647 + 104729 * (s.z + 1) * (s.z + 1)) ^ 3 % 2147483587 / 16 % m)) (h.set b (bx ⟨0, s.y, s.z + 1⟩)) := by
      simp [f__law_take, callF, x__law_take, oIx2, oIx, hb, bx, atI, ixN, hx0, oMod, hm, oFdiv, hm2, oSet, gc_self, oMul3, oMul2, oMul, oPow, List.getElem?_set_self hl, a1, c1, c2, l16]
    exact e1
end K

set_option Elab.async false
set_option linter.all false
set_option maxRecDepth 100000
set_option maxHeartbeats 4000000
namespace XL
open PySem L2 EX
/-! ### comprehensions that draw -/
theorem loop_bx {t : Tg} {x : XE} {e : En} {h1 : Hh} {b : Nat} {all : List Val} {P : Val → Prop} {k : Nat} (hb : b < h1.length) :
    ∀ (vs acc : List Val) (s : Bs) (g : Hh), (∀ v ∈ vs, ∃ e1, t.put v e = some e1 ∧ ∀ s h', Grew (h1.set b (bx s)) h' → Gd s → s.z + k ≤ 4194304 → ∃ y s' h3, x e1 h' = .ok y h3 ∧ Grew (h'.set b (bx s')) h3 ∧ Gd s' ∧ s'.z ≤ s.z + k ∧ P y ∧ y.und 0 = true) →
      s.z + k * vs.length ≤ 4194304 → Gd s → acc.length + vs.length ≤ sizeLine → undL 0 acc = true → Cl (h1.set b (bx s) ++ .lst acc :: g) →
      ∃ ys s' g', compLoop (.items all) t xYes x h1.length e vs (h1.set b (bx s) ++ .lst acc :: g) = .ok () (h1.set b (bx s') ++ .lst (acc ++ ys) :: g') ∧ Cl (h1.set b (bx s') ++ .lst (acc ++ ys) :: g') ∧ Gd s' ∧ s'.z ≤ s.z + k * vs.length ∧ ys.length = vs.length ∧ (∀ y ∈ ys, P y) ∧ undL 0 (acc ++ ys) = true
  | [], acc, s, g, _, _, gd, _, ua, cl => ⟨[], s, g, by simp [compLoop, Itn.okAt], by simpa using cl, gd, by simp, rfl, (fun _ m => absurd m List.not_mem_nil), by simpa using ua⟩
  | v :: vs, acc, s, g, st, hz, gd, hl, ua, cl => by
    obtain ⟨e1, pe, hs⟩ := st v (.head _)
    rw [List.length_cons] at hz hl
    have ek : (k : Int) * ((vs.length + 1 : Nat) : Int) = k * vs.length + k := by
      rw [Int.natCast_add, Int.mul_add]; simp
    rw [ek] at hz
    have kn : (0 : Int) ≤ k * vs.length := Int.mul_nonneg (by omega) (by omega)
    obtain ⟨y, s1, h3, ex, ⟨⟨g3, e3⟩, c3⟩, gd1, z1, py, uy⟩ := hs s _ ⟨⟨_, rfl⟩, cl⟩ gd (by omega)
    have ok : (Itn.items all).okAt (h1.set b (bx s) ++ Ob.lst acc :: g) := trivial
    have hh : h3 = h1.set b (bx s1) ++ Ob.lst acc :: (g ++ g3) := by
      rw [e3, List.set_append_left _ _ (by rw [List.length_set]; exact hb), List.set_set]
      simp
    subst hh
    have n1 : (h1.set b (bx s1) ++ Ob.lst acc :: (g ++ g3))[h1.length]? = some (.lst acc) := by
      have := at_new (h := h1.set b (bx s1)) (o := Ob.lst acc) (g := g ++ g3)
      rwa [List.length_set] at this
    have n2 : (h1.set b (bx s1) ++ Ob.lst acc :: (g ++ g3)).set h1.length (.lst (acc ++ [y])) = h1.set b (bx s1) ++ Ob.lst (acc ++ [y]) :: (g ++ g3) := by
      have := set_new (h := h1.set b (bx s1)) (o := Ob.lst acc) (q := .lst (acc ++ [y])) (g := g ++ g3)
      rwa [List.length_set] at this
    have ua2 : undL 0 (acc ++ [y]) = true := undL_of fun w m => by
      rcases List.mem_append.mp m with m | m
      · exact of_undL ua w m
      · rw [List.mem_singleton.mp m]; exact uy
    have c4 : Cl (h1.set b (bx s1) ++ Ob.lst (acc ++ [y]) :: (g ++ g3)) := by
      rw [← n2]; exact c3.put2 _ ua2
    obtain ⟨ys, s', g', q1, q2, q3, q4, q5, q6, q7⟩ := loop_bx (all := all) (P := P) hb vs (acc ++ [y]) s1 (g ++ g3) (fun w m => st w (.tail _ m)) (by omega) gd1 (by rw [List.length_append, List.length_singleton]; omega) ua2 c4
    have ea : acc ++ [y] ++ ys = acc ++ y :: ys := by simp
    rw [ea] at q1 q2 q7
    refine ⟨y :: ys, s', g', ?_, q2, q3, ?_, by rw [List.length_cons, q5, List.length_cons], fun w m => ?_, q7⟩
    · rw [compLoop, if_pos ok]
      simp only [pe, xYes, Res.bindS, if_true, ex, n1, n2]
      rw [if_pos (by omega)]
      exact q1
    · rw [List.length_cons, ek]; omega
    · rcases List.mem_cons.mp m with rfl | m
      · exact py
      · exact q6 w m
theorem comp_bx {xi : XI} {t : Tg} {x : XE} {e : En} {h h1 : Hh} {vs : List Nat} {all : List Val} {b k : Nat} {s : Bs} (P : Val → Prop) (hi : xi e h = .ok (.items all) h1) (hb : h1[b]? = some (bx s)) (cl : Cl h1) (hl : all.length ≤ sizeLine) (gd : Gd s) (hz : s.z + k * all.length ≤ 4194304)
    (st : ∀ v ∈ all, ∃ e1, t.put v (wipeE e vs) = some e1 ∧ ∀ s h', Grew (h1.set b (bx s)) h' → Gd s → s.z + k ≤ 4194304 → ∃ y s' h3, x e1 h' = .ok y h3 ∧ Grew (h'.set b (bx s')) h3 ∧ Gd s' ∧ s'.z ≤ s.z + k ∧ P y ∧ y.und 0 = true) :
    ∃ ys s' H, Grew (h1.set b (bx s')) H ∧ xComp xi t xYes x vs e h = .ok (.loc h1.length) H ∧ H[h1.length]? = some (.lst ys) ∧ Gd s' ∧ s'.z ≤ s.z + k * all.length ∧ ys.length = all.length ∧ (∀ y ∈ ys, P y) ∧ undL 0 ys = true := by
  have hlt := (List.getElem?_eq_some_iff.mp hb).1
  have c0 : Cl (h1.set b (bx s) ++ [.lst []]) := by rw [set_same hb]; exact cl.app2 rfl
  obtain ⟨ys, s', g', q1, q2, q3, q4, q5, q6, q7⟩ := loop_bx (x := x) (t := t) (all := all) (P := P) (k := k) hlt all [] s [] st hz gd (by simpa using hl) rfl c0
  rw [List.nil_append] at q1 q2 q7
  refine ⟨ys, s', _, ⟨⟨_, rfl⟩, q2⟩, ?_, ?_, q3, q4, q5, q6, q7⟩
  · unfold xComp
    rw [hi]
    rw [set_same hb] at q1
    simp only [Res.bind, Itn.xs, q1]
  · have := at_new (h := h1.set b (bx s')) (o := Ob.lst ys) (g := g')
    rwa [List.length_set] at this
end XL

set_option Elab.async false
set_option linter.all false
set_option maxRecDepth 100000
set_option maxHeartbeats 4000000
namespace K
open PySem L2 EX XL
theorem grew_bx {h h' : Hh} {b : Nat} {s0 s : Bs} (hb : h[b]? = some (bx s0)) (G : Grew (h.set b (bx s)) h') : h'[b]? = some (bx s) := G.at_ (at_same hb)
/-- drawing in a heap that grew -/
theorem take_g {h' : Hh} {b : Nat} {s : Bs} {m : Int} (c : Cl h') (hb : h'[b]? = some (bx s)) (g : Gd s) (hz : s.z + 1 ≤ 4194304) (hm : 0 < m) (hm2 : m.natAbs.log2 < 9000) :
    ∃ (r : Int) (s' : Bs), f__law_take [.loc b, .int m] h' = .ok (.int r) (h'.set b (bx s')) ∧ 0 ≤ r ∧ r < m ∧ Gd s' ∧ s'.z ≤ s.z + 1 ∧ Cl (h'.set b (bx s')) ∧ (h'.set b (bx s'))[b]? = some (bx s') := by
  obtain ⟨r, s', e, r0, r1, g', z⟩ := take_ok hb g hz hm hm2
  exact ⟨r, s', e, r0, r1, g', z, c.put2 b (bx_und s'), at_same hb⟩
theorem txts_map : ∀ {ys : List Val}, (∀ y ∈ ys, ∃ s, y = .str s) → ∃ ss, ys = ss.map Val.str ∧ txts ys = some ss
  | [], _ => ⟨[], rfl, rfl⟩
  | y :: ys, h => by
    obtain ⟨s, rfl⟩ := h y (.head _)
    obtain ⟨ss, rfl, e⟩ := txts_map fun w m => h w (.tail _ m)
    exact ⟨s :: ss, rfl, by simp only [txts, e, Option.map_some]⟩
theorem glue_fold : ∀ (ss : List Str) (acc : Array Nat), (ss.foldl (fun acc p => acc ++ (Str.ofString "").cps ++ p.cps) acc).toList = acc.toList ++ (ss.map fun s => s.cps.toList).flatten
  | [], acc => by simp
  | s :: ss, acc => by
    have e0 : (Str.ofString "").cps = #[] := by decide +kernel
    rw [List.foldl_cons, glue_fold ss, e0]
    simp
theorem glue (ss : List Str) : (Txt.join "" ss).cps.toList = (ss.map fun s => s.cps.toList).flatten := by
  unfold Txt.join Builtin.Str.glued
  cases ss with
  | nil => rfl
  | cons s ss =>
    show ((ss.foldl (fun acc p => acc ++ (Str.ofString "").cps ++ p.cps) s.cps)).toList = _
    rw [glue_fold ss]
    rfl
/-- join of single signs -/
theorem join_ok {ys : List Val} {n : Nat} {h : Hh} {C : Nat → Prop} (e : h[n]? = some (.lst ys)) (hy : ∀ y ∈ ys, ∃ c, C c ∧ y = .str ⟨#[c]⟩) (hl : ys.length ≤ 1000) : ∃ w : Str, oJoin (.str "") [.loc n] h = some (.str w, h) ∧ w.length = ys.length ∧ ∀ c ∈ w.cps.toList, C c := by
  obtain ⟨cs, hc, rfl⟩ : ∃ cs : List Nat, (∀ c ∈ cs, C c) ∧ ys = cs.map fun c => Val.str ⟨#[c]⟩ := by
    clear e hl
    induction ys with
    | nil => exact ⟨[], fun _ m => absurd m List.not_mem_nil, rfl⟩
    | cons y ys ih =>
      obtain ⟨c, pc, rfl⟩ := hy y (.head _)
      obtain ⟨cs, h1, h2⟩ := ih fun w m => hy w (.tail _ m)
      exact ⟨c :: cs, fun x m => by rcases List.mem_cons.mp m with rfl | m; exact pc; exact h1 x m, by rw [List.map_cons, h2]⟩
  have t : txts (cs.map fun c => Val.str ⟨#[c]⟩) = some (cs.map fun c => (⟨#[c]⟩ : Str)) := by
    clear e hl hy hc
    induction cs with
    | nil => rfl
    | cons c cs ih => simp only [List.map_cons, txts, ih, Option.map_some]
  have fl : ((cs.map fun c => (⟨#[c]⟩ : Str)).map fun s => s.cps.toList).flatten = cs := by
    clear e hl hy hc t
    induction cs with
    | nil => rfl
    | cons c cs ih => simpa using ih
  have sm : ((cs.map fun c => (⟨#[c]⟩ : Str)).map (·.length)).sum = cs.length := by
    clear e hl hy hc t fl
    induction cs with
    | nil => rfl
    | cons c cs ih =>
      rw [List.map_cons, List.map_cons, List.sum_cons, ih, List.length_cons]
      show 1 + _ = _
      omega
  have l0 : (Str.ofString "").length = 0 := by decide +kernel
  have gl := glue (cs.map fun c => (⟨#[c]⟩ : Str))
  rw [fl] at gl
  refine ⟨Txt.join "" (cs.map fun c => (⟨#[c]⟩ : Str)), ?_, ?_, fun c m => hc c (by rw [← gl]; exact m)⟩
  · simp only [oJoin, vStrs, e, t]
    rw [if_pos]
    rw [sm, l0]
    rw [List.length_map] at hl
    omega
  · show (Txt.join "" _).cps.size = _
    rw [← Array.length_toList, gl, List.length_map]
end K

set_option Elab.async false
set_option linter.all false
set_option maxRecDepth 100000
set_option maxHeartbeats 4000000
namespace K
open PySem L2 EX XL
def signs : Str := " !\"#$&()*+,-./0123456789:;<=>?@ABCDEFGHIJKLMNOPQRSTUVWXYZ[\\]^_`abcdefghijklmnopqrstuvwxyz{|}~"
theorem signs_ok : signs.cps.toList.length = 93 ∧ ∀ c ∈ signs.cps.toList, 32 ≤ c ∧ c ≤ 126 ∧ c ≠ 37 ∧ c ≠ 39 := by decide +kernel
theorem sign_at {S : Str} {r : Int} {n : Nat} (hS : S.cps.toList.length = n) (hn : n ≤ 1000) (r0 : 0 ≤ r) (r1 : r < n) : ∃ c ∈ S.cps.toList, ∀ h, oIx (.str S) (.int r) h = some (.str ⟨#[c]⟩, h) := by
  obtain ⟨i, rfl⟩ := Int.eq_ofNat_of_zero_le r0
  have hi : i < S.cps.toList.length := by omega
  refine ⟨S.cps.toList[i], List.getElem_mem hi, fun h => ?_⟩
  exact str_at (sl_le (by show S.cps.size ≤ _; rw [← Array.length_toList]; omega)) (List.getElem?_eq_getElem hi)
theorem log_small {m : Nat} (h : m < 2 ^ 60) (h0 : m ≠ 0) : m.log2 < 9000 := by
  have := (Nat.log2_lt h0).mpr h
  omega
theorem range_it {x : XE} {e : En} {h h1 : Hh} {r : Int} (hx : x e h = .ok (.int r) h1) (r0 : 0 ≤ r) (r1 : r < 2 ^ 62) : xRange1 x e h = .ok (.items ((List.range r.toNat).map fun (i : Nat) => .int ((0 : Int) + i))) h1 := by
  unfold xRange1
  rw [hx]
  show (if -(2 ^ 62) ≤ r ∧ r < 2 ^ 62 then _ else _) = _
  rw [if_pos ⟨by omega, r1⟩]
theorem writ_ok {h : Hh} {b : Nat} {s : Bs} (c : Cl h) (hb : h[b]? = some (bx s)) (g : Gd s) (hz : s.z + 9 ≤ 4194304) : ∃ (w : Str) (s' : Bs), f__law_writ [.loc b] h = .ok (.str w) (h.set b (bx s')) ∧ Tx w ∧ Gd s' ∧ s'.z ≤ s.z + 9 := by
  obtain ⟨r, s1, e1, r0, r1, g1, z1, c1, b1⟩ := take_g (m := 9) c hb g (by omega) (by decide) (log_small (by decide) (by decide))
  have ra := range_it (x := xCall 2 f__law_take (xCons (xVar 0) (xCons (xC (.int 9)) (xNil)))) (e := [some (.loc b), some (.str signs), none]) (h := h) (r := r) (h1 := h.set b (bx s1)) (by simp [e1]) r0 (by omega)
  have ll : ((List.range r.toNat).map fun (i : Nat) => Val.int ((0 : Int) + i)).length = r.toNat := by simp
  obtain ⟨ys, s2, H, G, e2, a2, g2, z2, l2, py, uy⟩ := comp_bx (t := .name 2) (x := xBin (oIx2 gt) (xVar 1) (xCall 2 f__law_take (xCons (xVar 0) (xCons (xC (.int 93)) (xNil))))) (vs := [2]) (k := 1) (fun y => ∃ c, (32 ≤ c ∧ c ≤ 126 ∧ c ≠ 37 ∧ c ≠ 39) ∧ y = .str ⟨#[c]⟩) ra b1 c1 (sl_le (by rw [ll]; omega)) g1 (by rw [ll]; omega) (fun v m => by
    refine ⟨[some (.loc b), some (.str signs), some v], by simp [wipeE, Tg.put], fun s' h' G' g' hz' => ?_⟩
    have hb' := grew_bx b1 G'
    obtain ⟨q, s3, e3, q0, q1, g3, z3, c3, b3⟩ := take_g (m := 93) G'.cl hb' g' hz' (by decide) (log_small (by decide) (by decide))
    obtain ⟨k, mk, ik⟩ := sign_at (S := signs) (r := q) (n := 93) signs_ok.1 (by decide) q0 q1
    exact ⟨.str ⟨#[k]⟩, s3, h'.set b (bx s3), by simp [e3, ik], Grew.refl c3, g3, z3, ⟨k, signs_ok.2 k mk, rfl⟩, rfl⟩)
  rw [ll] at z2 l2
  rw [List.set_set] at G
  obtain ⟨w, j, wl, wc⟩ := join_ok a2 py (by omega)
  refine ⟨w, s2, call_gb c rfl G ?_, ⟨by omega, wc⟩, g2, by omega⟩
  generalize (h.set b (bx s1)).length = n at *
  have st : isTy "str" (.str "") h = true := by simp [isTy]
  have en0 : en 3 [.loc b] = [some (.loc b), none, none] := rfl
  have e2 : xComp (xRange1 (xCall 2 f__law_take (xCons (xVar 0) (xCons (xC (.int 9)) (xNil))))) (.name 2) xYes (xBin (oIx2 gt) (xVar 1) (xCall 2 f__law_take (xCons (xVar 0) (xCons (xC (.int 93)) (xNil))))) [2] [some (.loc b), some (.str signs), none] h = .ok (.loc n) H := e2
  unfold x__law_writ
  rw [en0]
  rw [seq_nx (e1 := [some (.loc b), some (.str signs), none]) (h1 := h) (by simp; rfl)]
  simp [st, e2, j]
end K

set_option Elab.async false
set_option linter.all false
set_option maxRecDepth 100000
set_option maxHeartbeats 4000000
namespace K
open PySem L2 EX XL
def tild : Str := Txt.mul "~" 60
def lits : List Val := [.int 0, .int 1, .int (-1), .int 1000000000, .int (-1000000000), .non, .str "", .str "a b", .str "(x=1)", .str "=..", .str "* ) (", .str "none", .str "#3", .str "[1]", .str tild]
theorem Ow.int {i : Int} (a : -1000000000 ≤ i) (b : i ≤ 1000000000) : Ow (.int i) := ⟨.int a b, fun h => by simp⟩
theorem Ow.str {s : Str} (t : Tx s) : Ow (.str s) := ⟨.str t, fun h => by simp⟩
theorem Ow.non : Ow .non := ⟨.non, fun h => by simp⟩
theorem tx_some : ∀ s ∈ (["", "a b", "(x=1)", "=..", "* ) (", "none", "#3", "[1]", tild] : List Str), s.length ≤ 60 ∧ ∀ c ∈ s.cps.toList, 32 ≤ c ∧ c ≤ 126 ∧ c ≠ 37 ∧ c ≠ 39 := by decide +kernel
theorem tx_of {s : Str} (m : s ∈ (["", "a b", "(x=1)", "=..", "* ) (", "none", "#3", "[1]", tild] : List Str)) : Ow (.str s) := Ow.str ⟨(tx_some s m).1, (tx_some s m).2⟩
theorem lits_ok : ∀ v ∈ lits, Ow v := by
  intro v m
  simp only [lits, List.mem_cons, List.not_mem_nil, or_false] at m
  rcases m with rfl | rfl | rfl | rfl | rfl | rfl | rfl | rfl | rfl | rfl | rfl | rfl | rfl | rfl | rfl
  · exact Ow.int (by decide) (by decide)
  · exact Ow.int (by decide) (by decide)
  · exact Ow.int (by decide) (by decide)
  · exact Ow.int (by decide) (by decide)
  · exact Ow.int (by decide) (by decide)
  · exact Ow.non
  all_goals exact tx_of (by simp)
theorem lits_und : undL 0 lits = true := rfl
theorem Grew.setb {h H : Hh} {b : Nat} {o : Ob} (G : Grew h H) (e : h[b]? = some o) (s : Bs) : Grew (h.set b (bx s)) (H.set b (bx s)) := by
  obtain ⟨⟨g, rfl⟩, cl⟩ := G
  exact ⟨⟨g, set_app e⟩, cl.put2 b (bx_und s)⟩
theorem lit_ok {h : Hh} {b : Nat} {s : Bs} (c : Cl h) (hb : h[b]? = some (bx s)) (g : Gd s) (hz : s.z + 11 ≤ 4194304) : ∃ (v : Val) (s' : Bs), f__law_lit [.loc b] h = .ok v (h.set b (bx s')) ∧ Ow v ∧ Gd s' ∧ s'.z ≤ s.z + 11 := by
  have hbl : b < h.length := (List.getElem?_eq_some_iff.mp hb).1
  have G1 : Grew h (h ++ [.lst lits]) := Grew.new c lits_und
  have n1 : (h ++ [Ob.lst lits])[h.length]? = some (.lst lits) := at_new
  have b1 := G1.at_ hb
  have z15 : (15 : Nat) ≤ sizeLine := sl_le (by decide)
  have z2 : (2 : Nat) ≤ sizeLine := sl_le (by decide)
  have mu : oMul3 (.str "~") (.int 60) h = some (.str tild, h) := rfl
  have pw : oPow (.int 10) (.int 9) h = some (.int 1000000000, h) := rfl
  have A1 : sSet 1 (xLst (xCons (xC (.int 0)) (xCons (xC (.int 1)) (xCons (xUn oNeg (xC (.int 1))) (xCons (xBin oPow (xC (.int 10)) (xC (.int 9))) (xCons (xBin oSub (xC (.int 0)) (xBin oPow (xC (.int 10)) (xC (.int 9)))) (xCons (xC .non) (xCons (xC (.str "")) (xCons (xC (.str "a b")) (xCons (xC (.str "(x=1)")) (xCons (xC (.str "=..")) (xCons (xC (.str "* ) (")) (xCons (xC (.str "none")) (xCons (xC (.str "#3")) (xCons (xC (.str "[1]")) (xCons (xBin oMul3 (xC (.str "~")) (xC (.int 60))) (xNil))))))))))))))))) (en 2 [.loc b]) h = .nx [some (.loc b), some (.loc h.length)] (h ++ [.lst lits]) := by
    simp [en, mu, pw, z15, lits]
  have nb : h.length ≠ b := by omega
  generalize h ++ [Ob.lst lits] = H1 at *
  generalize h.length = l at *
  obtain ⟨r, s1, e1, r0, r1, g1, w1, c1, b2⟩ := take_g (m := 2000) G1.cl b1 g (by omega) (by decide) (log_small (by decide) (by decide))
  obtain ⟨w, s2, e2, tw, g2, w2⟩ := writ_ok c1 b2 g1 (by omega)
  rw [List.set_set] at e2
  have n2 : (H1.set b (bx s2))[l]? = some (.lst lits) := at_put nb n1
  have G2 := Grew.setb G1 hb s2
  have b3 : (H1.set b (bx s2))[b]? = some (bx s2) := at_same b1
  generalize hH2 : H1.set b (bx s2) = H2 at *
  have G3 : Grew H2 (H2 ++ [.lst [.int (r - 1000), .str w]]) := Grew.new G2.cl rfl
  have n3 : (H2 ++ [Ob.lst [.int (r - 1000), .str w]])[H2.length]? = some (.lst [.int (r - 1000), .str w]) := at_new
  have m3 := G3.at_ n2
  have b4 := G3.at_ b3
  have G23 := G2.trans G3
  generalize hH3 : H2 ++ [Ob.lst [Val.int (r - 1000), Val.str w]] = H3 at *
  generalize hl2 : H2.length = l2 at *
  have ad : oAdd (.loc l) (.loc l2) H3 = some (.loc H3.length, H3 ++ [.lst (lits ++ [.int (r - 1000), .str w])]) := by
    have : lits.length + 2 ≤ sizeLine := sl_le (by decide)
    simp [oAdd, m3, n3, this]
  have G4 : Grew H3 (H3 ++ [.lst (lits ++ [.int (r - 1000), .str w])]) := Grew.new G3.cl (by rfl)
  have n4 : (H3 ++ [Ob.lst (lits ++ [.int (r - 1000), .str w])])[H3.length]? = some (.lst (lits ++ [.int (r - 1000), .str w])) := at_new
  have b5 := G4.at_ b4
  have b3l : b < H3.length := (List.getElem?_eq_some_iff.mp b4).1
  have G24 := G23.trans G4
  generalize hH4 : H3 ++ [Ob.lst (lits ++ [Val.int (r - 1000), Val.str w])] = H4 at *
  generalize hl3 : H3.length = l3 at *
  obtain ⟨q, s3, e3, q0, q1, g3, w3, c3, b6⟩ := take_g (m := 17) G4.cl b5 g2 (by omega) (by decide) (log_small (by decide) (by decide))
  obtain ⟨i, rfl⟩ := Int.eq_ofNat_of_zero_le q0
  have li : i < (lits ++ [Val.int (r - 1000), Val.str w]).length := by
    have : (lits ++ [Val.int (r - 1000), Val.str w]).length = 17 := rfl
    omega
  have ix : oIx2 gt (.loc l3) (.int i) (H4.set b (bx s3)) = some ((lits ++ [Val.int (r - 1000), Val.str w])[i], H4.set b (bx s3)) := lst_at (at_put (by omega) n4) (List.getElem?_eq_getElem li)
  have ow : Ow ((lits ++ [Val.int (r - 1000), Val.str w])[i]) := by
    have m := List.getElem_mem li
    rcases List.mem_append.mp m with m | m
    · exact lits_ok _ m
    · rcases List.mem_cons.mp m with e | m
      · rw [e]; exact Ow.int (by omega) (by omega)
      · rw [List.mem_singleton.mp m]; exact Ow.str tw
  generalize (lits ++ [Val.int (r - 1000), Val.str w])[i] = v at *
  have G5 := Grew.setb G24 (at_same hb) s3
  rw [List.set_set] at G5
  refine ⟨v, s3, call_gb c ow.fw.und G5 ?_, ow, g3, by omega⟩
  unfold x__law_lit
  rw [seq_nx A1]
  simp [e1, e2, hH3, hl2, z2, ad, e3, ix]
end K

set_option Elab.async false
set_option linter.all false
set_option maxRecDepth 100000
set_option maxHeartbeats 4000000
namespace K
open PySem L2 EX XL
def cw : Nat → Nat
  | 0 => 14
  | d + 1 => 14 + 3 * cw d
theorem cw_ge : ∀ d, 14 ≤ cw d
  | 0 => Nat.le_refl _
  | d + 1 => by show 14 ≤ 14 + 3 * cw d; omega
theorem worth_mk : ∀ (d n : Nat) {h : Hh} {b : Nat} {s : Bs}, d < n → Cl h → h[b]? = some (bx s) → Gd s → s.z + cw d ≤ 4194304 → ∃ (v : Val) (s' : Bs), f__law_worth n [.loc b, .int d] h = .ok v (h.set b (bx s')) ∧ Wv 3 d v ∧ Gd s' ∧ s'.z ≤ s.z + cw d
  | d, 0, h, b, s, hn, _, _, _, _ => absurd hn (by omega)
  | d, n + 1, h, b, s, hn, c, hb, g, hz => by
    have hcw := cw_ge d
    have z1 : (1 : Nat) ≤ sizeLine := sl_le (by decide)
    have z2 : (2 : Nat) ≤ sizeLine := sl_le (by decide)
    have z3 : (3 : Nat) ≤ sizeLine := sl_le (by decide)
    obtain ⟨r, s1, e1, r0, r1, g1, w1, c1, b1⟩ := take_g (m := 8) c hb g (by omega) (by decide) (log_small (by decide) (by decide))
    by_cases hf : r < 4 ∨ d = 0
    · obtain ⟨v, s2, e2, ow, g2, w2⟩ := lit_ok c1 b1 g1 (by omega)
      rw [List.set_set] at e2
      refine ⟨v, s2, call_gb c ow.fw.und (Grew.refl (c.put2 b (bx_und s2))) ?_, .flat ow.fw, g2, by omega⟩
      by_cases h4 : r < 4
      · simp [en, x__law_worth, e1, h4, e2]
      · have d0 : d = 0 := hf.resolve_left h4
        subst d0
        simp [en, x__law_worth, e1, h4, e2]
    · have h4 : ¬ r < 4 := fun z => hf (.inl z)
      have hd0 : ¬ d = 0 := fun z => hf (.inr z)
      obtain ⟨d, rfl⟩ : ∃ j, d = j + 1 := ⟨d - 1, by omega⟩
      have hdI : ¬ (((d + 1 : Nat) : Int) = 0) := by omega
      have hd1 : ((d + 1 : Nat) : Int) - 1 = (d : Int) := by omega
      have cwe : cw (d + 1) = 14 + 3 * cw d := rfl
      have hcd := cw_ge d
      by_cases h5 : r = 5
      · obtain ⟨v, s2, e2, wv, g2, w2⟩ := worth_mk d n (by omega) c1 b1 g1 (by omega)
        rw [List.set_set] at e2
        refine ⟨rowV [v], s2, call_gb c ?_ (Grew.refl (c.put2 b (bx_und s2))) ?_, .row (by simp) (fun x m => by rw [List.mem_singleton.mp m]; exact wv), g2, by omega⟩
        · simp [rowV, Val.und, undL, wv.und]
        · subst h5
          generalize ((d + 1 : Nat) : Int) = D at *
          simp [en, x__law_worth, e1, hdI, hd1, e2, z1, z2, rowV]
      · by_cases h44 : r = 4
        · obtain ⟨q, s2, e2, q0, q1, g2, w2, c2, b2⟩ := take_g (m := 1000) c1 b1 g1 (by omega) (by decide) (log_small (by decide) (by decide))
          rw [List.set_set] at e2 c2 b2
          have G2 : Grew (h.set b (bx s2)) (h.set b (bx s2) ++ [.lst [.int 0, .int 999, .int q]]) := Grew.new c2 rfl
          have n2 : (h.set b (bx s2) ++ [Ob.lst [.int 0, .int 999, .int q]])[(h.set b (bx s2)).length]? = some (.lst [.int 0, .int 999, .int q]) := at_new
          have b3 := G2.at_ b2
          have lb : b < (h.set b (bx s2)).length := (List.getElem?_eq_some_iff.mp b2).1
          generalize hH2 : h.set b (bx s2) ++ [Ob.lst [Val.int 0, Val.int 999, Val.int q]] = H2 at *
          obtain ⟨i, s3, e3, i0, i1, g3, w3, c3, b4⟩ := take_g (m := 3) G2.cl b3 g2 (by omega) (by decide) (log_small (by decide) (by decide))
          obtain ⟨i, rfl⟩ := Int.eq_ofNat_of_zero_le i0
          have li : i < [Val.int 0, Val.int 999, Val.int q].length := by simp; omega
          have ix : oIx2 gt (.loc (h.set b (bx s2)).length) (.int i) (H2.set b (bx s3)) = some ([Val.int 0, Val.int 999, Val.int q][i], H2.set b (bx s3)) := lst_at (at_put (by omega) n2) (List.getElem?_eq_getElem li)
          obtain ⟨j, ej, j0, j1⟩ : ∃ j : Int, [Val.int 0, Val.int 999, Val.int q][i] = .int j ∧ 0 ≤ j ∧ j ≤ 999 := by
            have m := List.getElem_mem li
            simp only [List.mem_cons, List.not_mem_nil, or_false] at m
            rcases m with e | e | e
            · exact ⟨0, e, by omega, by omega⟩
            · exact ⟨999, e, by omega, by omega⟩
            · exact ⟨q, e, by omega, by omega⟩
          rw [ej] at ix
          have G5 := Grew.setb G2 b2 s3
          rw [List.set_set] at G5
          generalize hl : (h.set b (bx s2)).length = l at *
          refine ⟨.tup [.str "thing", .int j], s3, call_gb c rfl G5 ?_, .flat (.thing j0 j1), g3, by omega⟩
          subst h44
          generalize ((d + 1 : Nat) : Int) = D at *
          simp [en, x__law_worth, e1, hdI, e2, hH2, hl, z3, e3, ix, z2]
        · obtain ⟨q, s2, e2, q0, q1, g2, w2, c2, b2⟩ := take_g (m := 4) c1 b1 g1 (by omega) (by decide) (log_small (by decide) (by decide))
          rw [List.set_set] at e2 c2 b2
          have ra := range_it (x := xCall 2 f__law_take (xCons (xVar 0) (xCons (xC (.int 4)) (xNil)))) (e := [some (.loc b), some (.int ((d + 1 : Nat) : Int)), some (.int r), none]) (h := h.set b (bx s1)) (r := q) (h1 := h.set b (bx s2)) (by simp [e2]) q0 (by omega)
          have ll : ((List.range q.toNat).map fun (i : Nat) => Val.int ((0 : Int) + i)).length = q.toNat := by simp
          have hq : (cw d : Int) * q.toNat ≤ cw d * 3 := Int.mul_le_mul_of_nonneg_left (by omega) (by omega)
          obtain ⟨ys, s3, H, G, e3, a3, g3, w3, l3, py, uy⟩ := comp_bx (t := .name 3) (x := xCall 2 (f__law_worth n) (xCons (xVar 0) (xCons (xBin oSub (xVar 1) (xC (.int 1))) (xNil)))) (vs := [3]) (k := cw d) (Wv 3 d) ra b2 c2 (sl_le (by rw [ll]; omega)) g2 (by rw [ll]; omega) (fun v m => by
            refine ⟨[some (.loc b), some (.int ((d + 1 : Nat) : Int)), some (.int r), some v], by simp [wipeE, Tg.put], fun s' h' G' g' hz' => ?_⟩
            obtain ⟨y, s4, e4, wy, g4, w4⟩ := worth_mk d n (by omega) G'.cl (grew_bx b2 G') g' hz'
            refine ⟨y, s4, h'.set b (bx s4), ?_, Grew.refl (G'.cl.put2 b (bx_und s4)), g4, w4, wy, wy.und⟩
            generalize ((d + 1 : Nat) : Int) = D at *
            simp [hd1, e4])
          rw [ll] at w3 l3
          rw [List.set_set] at G
          have tu : oTuple [.loc (h.set b (bx s2)).length] H = some (.tup ys, H) := by simp only [oTuple, a3]
          generalize (h.set b (bx s2)).length = l at *
          refine ⟨rowV ys, s3, call_gb c (by simp [rowV, Val.und, undL, uy]) G ?_, .row (by omega) py, g3, by omega⟩
          have h6 : ¬ r = 4 := h44
          generalize ((d + 1 : Nat) : Int) = D at *
          simp [en, x__law_worth, e1, h4, hdI, h5, h6, e3, tu, z2, rowV]
end K

set_option Elab.async false
set_option linter.all false
set_option maxRecDepth 100000
set_option maxHeartbeats 4000000
namespace K
open PySem L2 EX XL
/-! ### texts as lists of signs -/
def tx (l : List Nat) : Str := ⟨l.toArray⟩
@[simp] theorem tx_cps (l : List Nat) : (tx l).cps.toList = l := rfl
@[simp] theorem tx_len (l : List Nat) : (tx l).length = l.length := by show l.toArray.size = _; simp
theorem tx_of_cps (s : Str) : tx s.cps.toList = s := by cases s; simp [tx]
theorem tx_app (a b : List Nat) : tx a ++ tx b = tx (a ++ b) := by
  show (⟨a.toArray ++ b.toArray⟩ : Str) = ⟨(a ++ b).toArray⟩
  simp
theorem tx_inj {a b : List Nat} (h : tx a = tx b) : a = b := by
  have := congrArg (fun s : Str => s.cps.toList) h
  simpa using this
theorem letters_eq : (Str.ofString "abcdefghijklmnopqrstuvwxyz") = tx ((List.range 26).map (97 + ·)) := by decide +kernel
theorem add_tx {a b : List Nat} {h : Hh} (hl : a.length + b.length ≤ 1000) : oAdd (.str (tx a)) (.str (tx b)) h = some (.str (tx (a ++ b)), h) := by
  have : a.length + b.length ≤ sizeLine := sl_le (by omega)
  simp [oAdd, this, tx_app]
theorem cutS_take {a : List Nat} {n : Nat} : cutS (tx a) none (some (n : Int)) = tx (a.take n) := by
  have := cut_take (xs := a) (n := n)
  unfold cutX at this
  unfold cutS
  rw [tx_len, tx_cps, this]
  rfl
theorem cutS_drop {a : List Nat} {n : Nat} : cutS (tx a) (some (n : Int)) none = tx (a.drop n) := by
  have := cut_drop (xs := a) (n := n)
  unfold cutX at this
  unfold cutS
  rw [tx_len, tx_cps, this]
  rfl
theorem letter_at {i : Nat} {h : Hh} (hi : i < 26) : oIx (.str (tx ((List.range 26).map (97 + ·)))) (.int i) h = some (.str (tx [97 + i]), h) := by
  refine str_at (sl_le (by simp)) ?_
  simp [hi]
end K

set_option Elab.async false
set_option linter.all false
set_option maxRecDepth 100000
set_option maxHeartbeats 4000000
namespace K
open PySem L2 EX XL
def nm1 (f a : Nat) (st : List Nat) (k : Nat) : List Nat := st.take a ++ [97 + (f + 7 * k) % 26] ++ st.drop a
def nm2 (f : Nat) (st : List Nat) (k : Nat) : List Nat := ((97 + f) :: st).take (1 + k)
theorem nm1_inj {f a : Nat} {st : List Nat} (ha : a ≤ st.length) {j k : Nat} (hj : j < 7) (hk : k < 7) (e : nm1 f a st j = nm1 f a st k) : j = k := by
  unfold nm1 at e
  rw [List.append_assoc, List.append_assoc] at e
  have e := List.append_cancel_left e
  have := (List.cons.inj e).1
  omega
theorem nm2_inj {f : Nat} {st : List Nat} (hs : st.length = 7) {j k : Nat} (hj : j < 7) (hk : k < 7) (e : nm2 f st j = nm2 f st k) : j = k := by
  have := congrArg List.length e
  unfold nm2 at this
  rw [List.length_take, List.length_take, List.length_cons, hs] at this
  omega
end K

set_option Elab.async false
set_option linter.all false
set_option maxRecDepth 100000
set_option maxHeartbeats 4000000
namespace K
open PySem L2 EX XL
def lets : Str := tx ((List.range 26).map (97 + ·))
theorem rng7 {e : En} {h : Hh} {x : XE} (hx : x e h = .ok (.int 7) h) : xRange1 x e h = .ok (.items ((List.range 7).map fun (i : Nat) => .int ((0 : Int) + i))) h := by
  have := range_it hx (by decide) (by decide)
  exact this
theorem sl_take {a : XE} {b : XE} {e : En} {h : Hh} {l : List Nat} {n : Nat} (ha : a e h = .ok (.str (tx l)) h) (hb : b e h = .ok (.int n) h) (hl : l.length ≤ 1000) : xSl oSl a none (some b) e h = .ok (.str (tx (l.take n))) h := by
  have : l.length ≤ sizeLine := sl_le (by omega)
  simp [xSl, ha, hb, xPart, oSl, this, cutS_take]
theorem sl_drop {a : XE} {b : XE} {e : En} {h : Hh} {l : List Nat} {n : Nat} (ha : a e h = .ok (.str (tx l)) h) (hb : b e h = .ok (.int n) h) (hl : l.length ≤ 1000) : xSl oSl a (some b) none e h = .ok (.str (tx (l.drop n))) h := by
  have : l.length ≤ sizeLine := sl_le (by omega)
  simp [xSl, ha, hb, xPart, oSl, this, cutS_drop]
end K

set_option Elab.async false
set_option linter.all false
set_option maxRecDepth 100000
set_option maxHeartbeats 4000000
namespace K
open PySem L2 EX XL
noncomputable def cm1 : XE := xComp (xRange1 (xVar 1)) (.name 7) (xYes) (xBin oAdd (xBin oAdd (xSl oSl (xVar 4) none (some (xVar 5))) (xBin (oIx2 gt) (xVar 2) (xBin oMod (xBin oAdd (xVar 3) (xBin oMul3 (xC (.int 7)) (xVar 7))) (xC (.int 26))))) (xSl oSl (xVar 4) (some (xVar 5)) none)) [7]
noncomputable def cm2 : XE := xComp (xRange1 (xVar 1)) (.name 7) (xYes) (xSl oSl (xBin oAdd (xBin (oIx2 gt) (xVar 2) (xVar 3)) (xVar 4)) none (some (xBin oAdd (xC (.int 1)) (xVar 7)))) [7]
def en5 (b : Nat) (f a : Nat) (st : List Nat) (x : Option Val) : En := [some (.loc b), some (.int 7), some (.str lets), some (.int f), some (.str (tx st)), some (.int a), x, none, none]
theorem cm1_ok {b f a : Nat} {st : List Nat} {x : Option Val} {h : Hh} (c : Cl h) (hs : st.length = 7) (hf : f < 26) : ∃ H, Grew h H ∧ cm1 (en5 b f a st x) h = .ok (.loc h.length) H ∧ H[h.length]? = some (.lst (((List.range 7).map fun k => tx (nm1 f a st k)).map Val.str)) := by
  obtain ⟨H, G, e1, a1⟩ := comp_m (xi := xRange1 (xVar 1)) (it := .items ((List.range 7).map fun (i : Nat) => .int ((0 : Int) + i))) (t := .name 7) (x := xBin oAdd (xBin oAdd (xSl oSl (xVar 4) none (some (xVar 5))) (xBin (oIx2 gt) (xVar 2) (xBin oMod (xBin oAdd (xVar 3) (xBin oMul3 (xC (.int 7)) (xVar 7))) (xC (.int 26))))) (xSl oSl (xVar 4) (some (xVar 5)) none)) (e := en5 b f a st x) (h := h) (h1 := h) (vs := [7]) (fun v => match v with | .int i => .str (tx (nm1 f a st i.toNat)) | _ => .non) (rng7 (by simp [en5])) trivial c (sl_le (by simp [Itn.xs])) (fun v m => by
    obtain ⟨k, mk, rfl⟩ := List.mem_map.mp m
    have hk := List.mem_range.mp mk
    refine ⟨[some (.loc b), some (.int 7), some (.str lets), some (.int f), some (.str (tx st)), some (.int a), x, some (.int ((0 : Int) + k)), none], by simp [wipeE, Tg.put, en5], rfl, fun g cg => ⟨g, ?_, Grew.refl cg.cl⟩⟩
    have t1 := sl_take (a := xVar 4) (b := xVar 5) (e := [some (.loc b), some (.int 7), some (.str lets), some (.int f), some (.str (tx st)), some (.int a), x, some (.int ((0 : Int) + k)), none]) (h := g) (l := st) (n := a) (by simp) (by simp) (by omega)
    have t2 := sl_drop (a := xVar 4) (b := xVar 5) (e := [some (.loc b), some (.int 7), some (.str lets), some (.int f), some (.str (tx st)), some (.int a), x, some (.int ((0 : Int) + k)), none]) (h := g) (l := st) (n := a) (by simp) (by simp) (by omega)
    have mu : oMul3 (.int 7) (.int ((0 : Int) + k)) g = some (.int (7 * ((0 : Int) + k)), g) := by
      simp [oMul3, oMul2, oMul]
    have md : oMod (.int ((f : Int) + 7 * ((0 : Int) + k))) (.int 26) g = some (.int (((f + 7 * k) % 26 : Nat) : Int), g) := by
      have : (f : Int) + 7 * ((0 : Int) + k) = ((f + 7 * k : Nat) : Int) := by omega
      rw [this]
      simp [oMod]
    have la := letter_at (i := (f + 7 * k) % 26) (h := g) (Nat.mod_lt _ (by decide))
    have la : oIx2 gt (.str lets) (.int (((f + 7 * k) % 26 : Nat) : Int)) g = some (.str (tx [97 + (f + 7 * k) % 26]), g) := la
    have a1 := add_tx (a := st.take a) (b := [97 + (f + 7 * k) % 26]) (h := g) (by rw [List.length_take]; simp; omega)
    have a2 := add_tx (a := st.take a ++ [97 + (f + 7 * k) % 26]) (b := st.drop a) (h := g) (by rw [List.length_append, List.length_take, List.length_drop]; simp; omega)
    have kk : ((0 : Int) + k).toNat = k := by omega
    show _ = Res.ok (Val.str (tx (nm1 f a st ((0 : Int) + k).toNat))) g
    rw [kk, run_bin, run_bin, t1]
    simp only [bind_ok, run_bin, run_var, run_C, List.getElem?_cons_succ, List.getElem?_cons_zero, mu, of_some, add_int, md, la, a1, t2, a2]
    rfl)
  refine ⟨H, G, e1, ?_⟩
  rw [a1]
  rfl
end K

set_option Elab.async false
set_option linter.all false
set_option maxRecDepth 100000
set_option maxHeartbeats 4000000
namespace K
open PySem L2 EX XL
theorem cm2_ok {b f a : Nat} {st : List Nat} {x : Option Val} {h : Hh} (c : Cl h) (hs : st.length = 7) (hf : f < 26) : ∃ H, Grew h H ∧ cm2 (en5 b f a st x) h = .ok (.loc h.length) H ∧ H[h.length]? = some (.lst (((List.range 7).map fun k => tx (nm2 f st k)).map Val.str)) := by
  obtain ⟨H, G, e1, a1⟩ := comp_m (xi := xRange1 (xVar 1)) (it := .items ((List.range 7).map fun (i : Nat) => .int ((0 : Int) + i))) (t := .name 7) (x := xSl oSl (xBin oAdd (xBin (oIx2 gt) (xVar 2) (xVar 3)) (xVar 4)) none (some (xBin oAdd (xC (.int 1)) (xVar 7)))) (e := en5 b f a st x) (h := h) (h1 := h) (vs := [7]) (fun v => match v with | .int i => .str (tx (nm2 f st i.toNat)) | _ => .non) (rng7 (by simp [en5])) trivial c (sl_le (by simp [Itn.xs])) (fun v m => by
    obtain ⟨k, mk, rfl⟩ := List.mem_map.mp m
    have hk := List.mem_range.mp mk
    refine ⟨[some (.loc b), some (.int 7), some (.str lets), some (.int f), some (.str (tx st)), some (.int a), x, some (.int ((0 : Int) + k)), none], by simp [wipeE, Tg.put, en5], rfl, fun g cg => ⟨g, ?_, Grew.refl cg.cl⟩⟩
    have la : oIx2 gt (.str lets) (.int f) g = some (.str (tx [97 + f]), g) := letter_at hf
    have a1 := add_tx (a := [97 + f]) (b := st) (h := g) (by simp; omega)
    have t1 := sl_take (a := xBin oAdd (xBin (oIx2 gt) (xVar 2) (xVar 3)) (xVar 4)) (b := xBin oAdd (xC (.int 1)) (xVar 7)) (e := [some (.loc b), some (.int 7), some (.str lets), some (.int f), some (.str (tx st)), some (.int a), x, some (.int ((0 : Int) + k)), none]) (h := g) (l := [97 + f] ++ st) (n := 1 + k) (by simp only [bind_ok, run_bin, run_var, run_C, List.getElem?_cons_succ, List.getElem?_cons_zero, la, of_some, a1]) (by
      have : (1 : Int) + ((0 : Int) + k) = ((1 + k : Nat) : Int) := by omega
      simp only [bind_ok, run_bin, run_var, run_C, List.getElem?_cons_succ, List.getElem?_cons_zero, add_int, of_some, this]) (by simp; omega)
    have kk : ((0 : Int) + k).toNat = k := by omega
    show _ = Res.ok (Val.str (tx (nm2 f st ((0 : Int) + k).toNat))) g
    rw [kk]
    exact t1)
  refine ⟨H, G, e1, ?_⟩
  rw [a1]
  rfl
/-- a name turned round when it is one of three -/
def turn (l : List Nat) : List Nat := if tx l ∈ (["me", "here", "none"] : List Str) then l.reverse else l
theorem rev_tx (l : List Nat) : revS (tx l) = tx l.reverse := rfl
noncomputable def cm3 : XE := xComp (xIter (xVar 6)) (.name 8) (xYes) (xBin (oIx2 gt) (xLst (xCons (xVar 8) (xCons (xUn oRev (xVar 8)) (xNil)))) (xCallN oInt (xCons (xBin (oIn2 gt) (xVar 8) (xLst (xCons (xC (.str "me")) (xCons (xC (.str "here")) (xCons (xC (.str "none")) (xNil)))))) (xNil)))) [8]
theorem cm3_ok {b f a l : Nat} {st : List Nat} {h : Hh} {ns : List (List Nat)} (c : Cl h) (el : h[l]? = some (.lst ((ns.map tx).map Val.str))) (hl : ns.length ≤ 10) (h8 : ∀ n ∈ ns, n.length ≤ 8) : ∃ H, Grew h H ∧ cm3 (en5 b f a st (some (.loc l))) h = .ok (.loc h.length) H ∧ H[h.length]? = some (.lst (((ns.map turn).map tx).map Val.str)) := by
  have z2 : (2 : Nat) ≤ sizeLine := sl_le (by decide)
  have z3 : (3 : Nat) ≤ sizeLine := sl_le (by decide)
  obtain ⟨H, G, e1, a1⟩ := comp_m (xi := xIter (xVar 6)) (it := .live l ((ns.map tx).map Val.str)) (t := .name 8) (x := xBin (oIx2 gt) (xLst (xCons (xVar 8) (xCons (xUn oRev (xVar 8)) (xNil)))) (xCallN oInt (xCons (xBin (oIn2 gt) (xVar 8) (xLst (xCons (xC (.str "me")) (xCons (xC (.str "here")) (xCons (xC (.str "none")) (xNil)))))) (xNil)))) (e := en5 b f a st (some (.loc l))) (h := h) (h1 := h) (vs := [8]) (fun v => match v with | .str s => .str (tx (turn s.cps.toList)) | _ => .non) (by simp [en5, itOf, el]) el c (sl_le (by simp [Itn.xs]; omega)) (fun v m => by
    obtain ⟨s, ms, rfl⟩ := List.mem_map.mp m
    obtain ⟨n, mn, rfl⟩ := List.mem_map.mp ms
    have n8 : n.length ≤ sizeLine := sl_le (by have := h8 n mn; omega)
    have rv : ∀ g, oRev (.str (tx n)) g = some (.str (tx n.reverse), g) := fun g => by simp [oRev, n8, rev_tx]
    refine ⟨[some (.loc b), some (.int 7), some (.str lets), some (.int f), some (.str (tx st)), some (.int a), some (.loc l), none, some (.str (tx n))], by simp [wipeE, Tg.put, en5], rfl, fun g cg => ?_⟩
    have G1 : Grew g (g ++ [.lst [.str (tx n), .str (tx n.reverse)]]) := Grew.new cg.cl rfl
    have n1 : (g ++ [Ob.lst [.str (tx n), .str (tx n.reverse)]])[g.length]? = some (.lst [.str (tx n), .str (tx n.reverse)]) := at_new
    generalize hg1 : g ++ [Ob.lst [Val.str (tx n), Val.str (tx n.reverse)]] = g1 at *
    have G2 : Grew g1 (g1 ++ [.lst [.str "me", .str "here", .str "none"]]) := Grew.new G1.cl rfl
    have n2 : (g1 ++ [Ob.lst [.str "me", .str "here", .str "none"]])[g1.length]? = some (.lst ((["me", "here", "none"] : List Str).map Val.str)) := at_new
    have n1' := G2.at_ n1
    generalize hg2 : g1 ++ [Ob.lst [Val.str (Str.ofString "me"), Val.str (Str.ofString "here"), Val.str (Str.ofString "none")]] = g2 at *
    generalize hl0 : g.length = l0 at *
    generalize hl1 : g1.length = l1 at *
    have q := oin_lst (G := gt) (s := tx n) n2
    refine ⟨g2, ?_, G1.trans G2⟩
    show _ = Res.ok (Val.str (tx (turn n))) g2
    by_cases hm : tx n ∈ (["me", "here", "none"] : List Str)
    · rw [decide_eq_true hm] at q
      have ix : oIx2 gt (.loc l0) (.int 1) g2 = some (.str (tx n.reverse), g2) := lst_at (n := 1) n1' rfl
      have oi : oInt [.bl true] g2 = some (.int 1, g2) := rfl
      have tn : turn n = n.reverse := by unfold turn; rw [if_pos hm]
      rw [tn]
      simp [rv, z2, hg1, hl0, z3, hg2, hl1, q, oi, ix]
    · rw [decide_eq_false hm] at q
      have ix : oIx2 gt (.loc l0) (.int 0) g2 = some (.str (tx n), g2) := lst_at (n := 0) n1' rfl
      have oi : oInt [.bl false] g2 = some (.int 0, g2) := rfl
      have tn : turn n = n := by unfold turn; rw [if_neg hm]
      rw [tn]
      simp [rv, z2, hg1, hl0, z3, hg2, hl1, q, oi, ix])
  refine ⟨H, G, e1, ?_⟩
  rw [a1]
  simp [Itn.xs, List.map_map, Function.comp]
end K

set_option Elab.async false
set_option linter.all false
set_option maxRecDepth 100000
set_option maxHeartbeats 4000000
namespace K
open PySem L2 EX XL
/-! ### names -/
def Lt (l : List Nat) : Prop := ∀ c ∈ l, 97 ≤ c ∧ c ≤ 122
theorem three_eq : (["me", "here", "none"] : List Str) = [tx [109, 101], tx [104, 101, 114, 101], tx [110, 111, 110, 101]] := by decide +kernel
theorem three_in {l : List Nat} : tx l ∈ (["me", "here", "none"] : List Str) ↔ l = [109, 101] ∨ l = [104, 101, 114, 101] ∨ l = [110, 111, 110, 101] := by
  rw [three_eq]
  simp only [List.mem_cons, List.not_mem_nil, or_false]
  constructor
  · rintro (h | h | h)
    · exact .inl (tx_inj h)
    · exact .inr (.inl (tx_inj h))
    · exact .inr (.inr (tx_inj h))
  · rintro (h | h | h) <;> subst h <;> simp
theorem turn_len {l : List Nat} : (turn l).length = l.length := by
  unfold turn; split <;> simp
theorem turn_8 {l : List Nat} (h : l.length = 8) : turn l = l := by
  unfold turn
  rw [if_neg]
  intro m
  rcases three_in.mp m with e | e | e <;> rw [e] at h <;> simp at h
theorem turn_lt {l : List Nat} (h : Lt l) : Lt (turn l) := by
  unfold turn
  split
  · intro c m; exact h c (by simpa using m)
  · exact h
theorem turn_no {l : List Nat} : ¬ tx (turn l) ∈ (["me", "here", "none"] : List Str) := by
  unfold turn
  split
  · rename_i m
    rcases three_in.mp m with e | e | e <;> rw [e] <;> rw [three_in] <;> decide
  · assumption
theorem turn_nm {l : List Nat} (h : Lt l) (h1 : 1 ≤ l.length) (h8 : l.length ≤ 8) : Nm (tx (turn l)) := by
  have n := turn_no (l := l)
  simp only [List.mem_cons, List.not_mem_nil, or_false, not_or] at n
  exact ⟨by rw [tx_len, turn_len]; exact h1, by rw [tx_len, turn_len]; exact h8, turn_lt h, n⟩
theorem nm1_len {f a k : Nat} {st : List Nat} (hs : st.length = 7) (ha : a < 8) : (nm1 f a st k).length = 8 := by
  unfold nm1; simp; omega
theorem nm2_len {f k : Nat} {st : List Nat} (hs : st.length = 7) (hk : k < 7) : (nm2 f st k).length = 1 + k := by
  unfold nm2; simp; omega
theorem nm1_lt {f a k : Nat} {st : List Nat} (h : Lt st) : Lt (nm1 f a st k) := by
  intro c m
  unfold nm1 at m
  rw [List.append_assoc] at m
  rcases List.mem_append.mp m with m | m
  · exact h c (List.mem_of_mem_take m)
  rcases List.mem_append.mp m with m | m
  · have := Nat.mod_lt (f + 7 * k) (show 0 < 26 by decide)
    rw [List.mem_singleton.mp m]; omega
  · exact h c (List.mem_of_mem_drop m)
theorem nm2_lt {f k : Nat} {st : List Nat} (h : Lt st) (hf : f < 26) : Lt (nm2 f st k) := by
  intro c m
  have m := List.mem_of_mem_take m
  rcases List.mem_cons.mp m with rfl | m
  · omega
  · exact h c m
structure Ns (n : Nat) (ns : List Str) : Prop where
  len : ns.length = n
  nd : ns.Nodup
  ok : ∀ s ∈ ns, Nm s
theorem map_nd {α : Type} {f : Nat → α} {n : Nat} (h : ∀ j k, j < n → k < n → f j = f k → j = k) : ((List.range n).map f).Nodup := by
  rw [List.nodup_iff_pairwise_ne, List.pairwise_map]
  refine List.Pairwise.imp_of_mem ?_ (List.nodup_iff_pairwise_ne.mp List.nodup_range)
  intro a b ma mb ne e
  exact ne (h a b (List.mem_range.mp ma) (List.mem_range.mp mb) e)
theorem ns1 {f a : Nat} {st : List Nat} (hs : st.length = 7) (ha : a < 8) (h : Lt st) : Ns 7 ((((List.range 7).map fun k => nm1 f a st k).map turn).map tx) := by
  refine ⟨by simp, ?_, fun s m => ?_⟩
  · rw [List.map_map, List.map_map]
    refine map_nd fun j k hj hk e => ?_
    have e := tx_inj e
    simp only [Function.comp] at e
    rw [turn_8 (nm1_len hs ha), turn_8 (nm1_len hs ha)] at e
    exact nm1_inj (by omega) hj hk e
  · obtain ⟨l1, m1, rfl⟩ := List.mem_map.mp m
    obtain ⟨l2, m2, rfl⟩ := List.mem_map.mp m1
    obtain ⟨k, mk, rfl⟩ := List.mem_map.mp m2
    exact turn_nm (nm1_lt h) (by rw [nm1_len hs ha]; omega) (by rw [nm1_len hs ha]; omega)
theorem ns2 {f : Nat} {st : List Nat} (hs : st.length = 7) (hf : f < 26) (h : Lt st) : Ns 7 ((((List.range 7).map fun k => nm2 f st k).map turn).map tx) := by
  refine ⟨by simp, ?_, fun s m => ?_⟩
  · rw [List.map_map, List.map_map]
    refine map_nd fun j k hj hk e => ?_
    have e := congrArg List.length (tx_inj e)
    simp only [Function.comp] at e
    rw [turn_len, turn_len, nm2_len hs hj, nm2_len hs hk] at e
    omega
  · obtain ⟨l1, m1, rfl⟩ := List.mem_map.mp m
    obtain ⟨l2, m2, rfl⟩ := List.mem_map.mp m1
    obtain ⟨k, mk, rfl⟩ := List.mem_map.mp m2
    have := List.mem_range.mp mk
    exact turn_nm (nm2_lt h hf) (by rw [nm2_len hs this]; omega) (by rw [nm2_len hs this]; omega)
end K

set_option Elab.async false
set_option linter.all false
set_option maxRecDepth 100000
set_option maxHeartbeats 4000000
namespace K
open PySem L2 EX XL
/-- join of single letters, as a list of signs -/
theorem join_tx {ys : List Val} {n : Nat} {h : Hh} {C : Nat → Prop} (e : h[n]? = some (.lst ys)) (hy : ∀ y ∈ ys, ∃ c, C c ∧ y = .str ⟨#[c]⟩) (hl : ys.length ≤ 1000) : ∃ w : List Nat, oJoin (.str "") [.loc n] h = some (.str (tx w), h) ∧ w.length = ys.length ∧ ∀ c ∈ w, C c := by
  obtain ⟨w, j, l, p⟩ := join_ok e hy hl
  refine ⟨w.cps.toList, by rw [tx_of_cps]; exact j, ?_, p⟩
  rw [← l]
  show w.cps.toList.length = w.cps.size
  simp
theorem lets_sg : lets.cps.toList.length = 26 ∧ ∀ c ∈ lets.cps.toList, 97 ≤ c ∧ c ≤ 122 := by decide +kernel
noncomputable def cm0 : XE := xComp (xRange1 (xC (.int 7))) (.name 7) (xYes) (xBin (oIx2 gt) (xVar 2) (xCall 2 f__law_take (xCons (xVar 0) (xCons (xC (.int 26)) (xNil))))) [7]
theorem names_ok {h : Hh} {b : Nat} {s : Bs} (c : Cl h) (hb : h[b]? = some (bx s)) (g : Gd s) (hz : s.z + 10 ≤ 4194304) : ∃ (ns : List Str) (s' : Bs) (H : Hh) (m : Nat), f__law_names [.loc b, .int 7] h = .ok (.loc m) H ∧ Grew (h.set b (bx s')) H ∧ h.length ≤ m ∧ H[m]? = some (.lst (ns.map Val.str)) ∧ Ns 7 ns ∧ Gd s' ∧ s'.z ≤ s.z + 10 := by
  have z2 : (2 : Nat) ≤ sizeLine := sl_le (by decide)
  have hbl : b < h.length := (List.getElem?_eq_some_iff.mp hb).1
  have le : (Str.ofString "abcdefghijklmnopqrstuvwxyz") = lets := letters_eq
  obtain ⟨f, s1, e1, f0, f1, g1, w1, c1, b1⟩ := take_g (m := 26) c hb g (by omega) (by decide) (log_small (by decide) (by decide))
  obtain ⟨f, rfl⟩ := Int.eq_ofNat_of_zero_le f0
  have hf : f < 26 := by omega
  obtain ⟨ys, s2, H2, G2, e2, a2, g2, w2, l2, py, uy⟩ := comp_bx (t := .name 7) (x := xBin (oIx2 gt) (xVar 2) (xCall 2 f__law_take (xCons (xVar 0) (xCons (xC (.int 26)) (xNil))))) (vs := [7]) (k := 1) (e := [some (.loc b), some (.int 7), some (.str lets), some (.int f), none, none, none, none, none]) (fun y => ∃ c, (97 ≤ c ∧ c ≤ 122) ∧ y = .str ⟨#[c]⟩) (rng7 (x := xC (.int 7)) rfl) b1 c1 (sl_le (by simp)) g1 (by simp; omega) (fun v m => by
    refine ⟨[some (.loc b), some (.int 7), some (.str lets), some (.int f), none, none, none, some v, none], by simp [wipeE, Tg.put], fun s' h' G' g' hz' => ?_⟩
    have hb' := grew_bx b1 G'
    obtain ⟨q, s3, e3, q0, q1, g3, z3, c3, b3⟩ := take_g (m := 26) G'.cl hb' g' hz' (by decide) (log_small (by decide) (by decide))
    obtain ⟨k, mk, ik⟩ := sign_at (S := lets) (r := q) (n := 26) lets_sg.1 (by decide) q0 q1
    exact ⟨.str ⟨#[k]⟩, s3, h'.set b (bx s3), by simp [e3, ik], Grew.refl c3, g3, z3, ⟨k, lets_sg.2 k mk, rfl⟩, rfl⟩)
  rw [List.set_set] at G2
  simp only [List.length_map, List.length_range] at l2 w2
  obtain ⟨st, j2, stl, stc⟩ := join_tx a2 py (by omega)
  rw [l2] at stl
  have b2 : H2[b]? = some (bx s2) := G2.at_ (at_same hb)
  have lb2 : (h.set b (bx s2)).length ≤ H2.length := G2.le
  rw [List.length_set] at lb2
  obtain ⟨a, s3, e3, a0, a1, g3, w3, c3, b3⟩ := take_g (m := 8) G2.cl b2 g2 (by omega) (by decide) (log_small (by decide) (by decide))
  obtain ⟨a, rfl⟩ := Int.eq_ofNat_of_zero_le a0
  have ha : a < 8 := by omega
  have G3 := Grew.setb G2 (at_same hb) s3
  rw [List.set_set] at G3
  have S0 : sSet 2 (xC (.str "abcdefghijklmnopqrstuvwxyz")) (en 9 [.loc b, .int 7]) h = .nx [some (.loc b), some (.int 7), some (.str lets), none, none, none, none, none, none] h := by
    rw [← le]; rfl
  have S1 : sSet 3 (xCall 2 f__law_take (xCons (xVar 0) (xCons (xC (.int 26)) (xNil)))) [some (.loc b), some (.int 7), some (.str lets), none, none, none, none, none, none] h = .nx [some (.loc b), some (.int 7), some (.str lets), some (.int f), none, none, none, none, none] (h.set b (bx s1)) := by
    simp [e1]
  have isS : isTy "str" (.str "") (h.set b (bx s1)) = true := by simp [isTy]
  have S2 : sSet 4 (xMeth "str" oJoin (xC (.str "")) (xCons cm0 (xNil))) [some (.loc b), some (.int 7), some (.str lets), some (.int f), none, none, none, none, none] (h.set b (bx s1)) = .nx [some (.loc b), some (.int 7), some (.str lets), some (.int f), some (.str (tx st)), none, none, none, none] H2 := by
    have e2 : cm0 [some (.loc b), some (.int 7), some (.str lets), some (.int f), none, none, none, none, none] (h.set b (bx s1)) = .ok (.loc (h.set b (bx s1)).length) H2 := e2
    simp [isS, e2]
    rw [List.length_set] at j2
    simp [j2]
  have S3 : sSet 5 (xCall 2 f__law_take (xCons (xVar 0) (xCons (xC (.int 8)) (xNil)))) [some (.loc b), some (.int 7), some (.str lets), some (.int f), some (.str (tx st)), none, none, none, none] H2 = .nx [some (.loc b), some (.int 7), some (.str lets), some (.int f), some (.str (tx st)), some (.int a), none, none, none] (H2.set b (bx s3)) := by
    simp [e3]
  generalize hH3 : H2.set b (bx s3) = H3 at *
  have ln3 : h.length ≤ H3.length := by rw [← hH3, List.length_set]; exact lb2
  obtain ⟨H4, G4, e4, a4⟩ := cm1_ok (b := b) (f := f) (a := a) (st := st) (x := none) c3 stl hf
  have S4 : sSet 6 cm1 [some (.loc b), some (.int 7), some (.str lets), some (.int f), some (.str (tx st)), some (.int a), none, none, none] H3 = .nx (en5 b f a st (some (.loc H3.length))) H4 := by
    have e4 : cm1 [some (.loc b), some (.int 7), some (.str lets), some (.int f), some (.str (tx st)), some (.int a), none, none, none] H3 = .ok (.loc H3.length) H4 := e4
    simp [e4, en5]
  have b4 := G4.at_ b3
  have nb : H3.length ≠ b := by omega
  have nbh : h.length ≠ b := by omega
  obtain ⟨q, s5, e5, q0, q1, g5, w5, c5, b5⟩ := take_g (m := 3) G4.cl b4 g3 (by omega) (by decide) (log_small (by decide) (by decide))
  have G5 : Grew (h.set b (bx s5)) (H4.set b (bx s5)) := by
    have := Grew.setb (G3.trans G4) (at_same hb) s5
    rwa [List.set_set] at this
  have a5 : (H4.set b (bx s5))[H3.length]? = some (.lst (((List.range 7).map fun k => tx (nm1 f a st k)).map Val.str)) := at_put nb a4
  have ln5 : h.length ≤ (H4.set b (bx s5)).length := by rw [List.length_set]; have := G4.le; omega
  have nlt : Lt st := stc
  -- the test
  have fin : ∀ (H6 : Hh) (l : Nat) (ns : List (List Nat)) (S6 : sIf (xAndT (xTest (xBin oEq (xCall 2 f__law_take (xCons (xVar 0) (xCons (xC (.int 3)) (xNil)))) (xC (.int 0)))) (xTest (xBin oLt (xVar 1) (xC (.int 8))))) (sSet 6 cm2) (sNil) (en5 b f a st (some (.loc H3.length))) H4 = .nx (en5 b f a st (some (.loc l))) H6), Grew (h.set b (bx s5)) H6 → h.length ≤ H6.length → H6[l]? = some (.lst ((ns.map tx).map Val.str)) → ns.length = 7 → (∀ n ∈ ns, n.length ≤ 8) → Ns 7 ((ns.map turn).map tx) →
      ∃ (ns : List Str) (s' : Bs) (H : Hh) (m : Nat), f__law_names [.loc b, .int 7] h = .ok (.loc m) H ∧ Grew (h.set b (bx s')) H ∧ h.length ≤ m ∧ H[m]? = some (.lst (ns.map Val.str)) ∧ Ns 7 ns ∧ Gd s' ∧ s'.z ≤ s.z + 10 := by
    intro H6 l ns S6 G6 l6 a6 n7 n8 N
    obtain ⟨H7, G7, e7, a7⟩ := cm3_ok (b := b) (f := f) (a := a) (st := st) G6.cl a6 (by omega) n8
    refine ⟨_, s5, H7, H6.length, call_gl l6 ?_, G6.trans G7, l6, a7, N, g5, by omega⟩
    show x__law_names (en 9 [.loc b, .int 7]) h = _
    unfold x__law_names
    rw [seq_nx S0, seq_nx S1]
    have S2' := S2; unfold cm0 at S2'
    rw [seq_nx S2', seq_nx S3]
    have S4' := S4; unfold cm1 at S4'
    rw [seq_nx S4']
    have S6' := S6; unfold cm2 at S6'
    rw [seq_nx S6']
    have e7' := e7; unfold cm3 at e7'
    simp only [run_ret, e7']
  by_cases h0 : q = 0
  · obtain ⟨H6, G6, e6, a6⟩ := cm2_ok (b := b) (f := f) (a := a) (st := st) (x := some (.loc H3.length)) c5 stl hf
    have a6' : H6[(H4.set b (bx s5)).length]? = some (.lst ((((List.range 7).map fun k => nm2 f st k).map tx).map Val.str)) := by
      rw [a6, List.map_map, List.map_map, List.map_map]; rfl
    refine fin H6 _ _ ?_ (G5.trans G6) (Nat.le_trans ln5 G6.le) a6' (by simp) (fun n m => ?_) (ns2 stl hf nlt)
    · have e6' : cm2 (en5 b f a st (some (.loc H3.length))) (H4.set b (bx s5)) = .ok (.loc (H4.set b (bx s5)).length) H6 := e6
      subst h0
      have e5' : f__law_take [.loc b, .int 3] H4 = .ok (.int 0) (H4.set b (bx s5)) := e5
      generalize H4.set b (bx s5) = H5 at *
      simp only [run_sif, run_andT, run_test, run_bin, run_call, run_cons, run_nil, run_var, run_C, en5, List.getElem?_cons_zero, List.getElem?_cons_succ, bind_ok, List.length_cons, List.length_nil, Nat.zero_add, Nat.reduceAdd, if_true, e5', eq_int, of_some, lt_int, decide_true, show decide ((7 : Int) < 8) = true by decide, run_set]
      unfold en5 at e6'
      rw [e6']
      rfl
    · obtain ⟨k, mk, rfl⟩ := List.mem_map.mp m
      have := List.mem_range.mp mk
      rw [nm2_len stl this]; omega
  · have a5' : (H4.set b (bx s5))[H3.length]? = some (.lst ((((List.range 7).map fun k => nm1 f a st k).map tx).map Val.str)) := by
      rw [a5, List.map_map, List.map_map, List.map_map]; rfl
    refine fin (H4.set b (bx s5)) H3.length _ ?_ G5 ln5 a5' (by simp) (fun n m => ?_) (ns1 stl ha nlt)
    · have e5' : f__law_take [.loc b, .int 3] H4 = .ok (.int q) (H4.set b (bx s5)) := e5
      generalize H4.set b (bx s5) = H5 at *
      simp only [run_sif, run_andT, run_test, run_bin, run_call, run_cons, run_nil, run_var, run_C, en5, List.getElem?_cons_zero, List.getElem?_cons_succ, bind_ok, List.length_cons, List.length_nil, Nat.zero_add, Nat.reduceAdd, if_true, e5', eq_int, of_some, h0, decide_false, Bool.false_eq_true, if_false, run_snil]
    · obtain ⟨k, mk, rfl⟩ := List.mem_map.mp m
      rw [nm1_len stl ha]
      exact Nat.le_refl _
end K

set_option Elab.async false
set_option linter.all false
set_option maxRecDepth 100000
set_option maxHeartbeats 4000000
namespace K
open PySem L2 EX XL
/-! ### a row of parameters -/
def en6 (b l t st f : Nat) (x6 x7 x8 x9 : Option Val) : En := [some (.loc b), some (.loc l), some (.int 6), some (.int t), some (.loc st), some (.loc f), x6, x7, x8, x9]
def hasRest (ps : List Pm) : Prop := ∃ p ∈ ps, p.sort = "rest"
instance {ps : List Pm} : Decidable (hasRest ps) := inferInstanceAs (Decidable (∃ p ∈ ps, p.sort = ("rest" : Str)))
noncomputable def if7 : XS := sIf (xAndT (xTest (xBin oEq (xVar 7) (xC (.int 2)))) (xTest (xBin oNe (xComp (xIter (xVar 5)) (.name 9) (xTest (xBin oEq (xBin (oIx2 gt) (xVar 9) (xC (.int 0))) (xC (.str "rest")))) (xVar 9) [9]) (xLst (xNil))))) (sSet 7 (xC (.int 3))) (sNil)
noncomputable def set8 : XS := sSet 8 (xBin (oIx2 gt) (xLst (xCons (xC (.str "by")) (xCons (xC (.str "or")) (xCons (xC (.str "rest")) (xCons (xBin (oIx2 gt) (xLst (xCons (xC (.str "only")) (xCons (xC (.str "onlyor")) (xNil)))) (xCall 2 f__law_take (xCons (xVar 0) (xCons (xC (.int 2)) (xNil))))) (xNil)))))) (xVar 7))
noncomputable def set9 : XS := sSet 9 (xTup (xCons (xVar 8) (xCons (xBin (oIx2 gt) (xVar 1) (xBin oMod (xBin oAdd (xVar 3) (xVar 6)) (xCallN oLenD (xCons (xVar 1) (xNil))))) (xNil))))
noncomputable def app9 : XS := sExpr (xMeth "list" oAppend (xVar 5) (xCons (xBin oAdd (xVar 9) (xBin oMul3 (xTup (xCons (xCall 1 f__law_lit (xCons (xVar 0) (xNil))) (xNil))) (xCallN oInt (xCons (xBin (oIn2 gt) (xVar 8) (xLst (xCons (xC (.str "or")) (xCons (xC (.str "onlyor")) (xNil))))) (xNil))))) (xNil)))
noncomputable def bd5 : XS := sSeq if7 (sSeq set8 (sSeq set9 app9))
theorem st7 {b l t st f : Nat} {x6 x8 x9 : Option Val} {i : Int} {ps : List Pm} {H : Hh} (c : Cl H) (ef : H[f]? = some (.lst (ps.map Pm.val))) (hp : ∀ p ∈ ps, Pk p) (hl : ps.length ≤ 6) :
    ∃ H', Grew H H' ∧ if7 (en6 b l t st f x6 (some (.int i)) x8 x9) H = .nx (en6 b l t st f x6 (some (.int (if i = 2 ∧ hasRest ps then 3 else i))) x8 x9) H' := by
  by_cases h2 : i = 2
  · have lz : (ps.map Pm.val).length ≤ sizeLine := sl_le (by rw [List.length_map]; omega)
    have z0 : (0 : Nat) ≤ sizeLine := Nat.zero_le _
    obtain ⟨H1, G1, e1, a1⟩ := comp_c (xi := xIter (xVar 5)) (it := .live f (ps.map Pm.val)) (t := .name 9) (tt := xTest (xBin oEq (xBin (oIx2 gt) (xVar 9) (xC (.int 0))) (xC (.str "rest")))) (x := xVar 9) (e := en6 b l t st f x6 (some (.int i)) x8 x9) (h := H) (h1 := H) (vs := [9]) (pf false fun s _ _ => decide (s = ("rest" : Str))) id (by simp [itOf, ef, en6]) ef c lz (fun v m => by
      obtain ⟨p, mp, rfl⟩ := List.mem_map.mp m
      refine ⟨en6 b l t st f x6 (some (.int i)) x8 (some p.val), by simp [wipeE, Tg.put, en6], fun _ => (hp p mp).und, fun g cg => ⟨g, ?_, Grew.refl cg.cl, fun _ => ⟨g, ?_, Grew.refl cg.cl⟩⟩⟩
      · rw [pf_val]; simp [Pm.val, en6]
      · simp [en6])
    have a1 : H1[H.length]? = some (.lst ((ps.filter fun p => decide (p.sort = ("rest" : Str))).map Pm.val)) := by
      rw [a1, show (Itn.live f (ps.map Pm.val)).xs = ps.map Pm.val from rfl, pv_filter, List.map_id]
    have G2 : Grew H1 (H1 ++ [.lst []]) := Grew.new G1.cl rfl
    have n2 : (H1 ++ [Ob.lst []])[H1.length]? = some (.lst []) := at_new
    have a2 := G2.at_ a1
    have tm : Tml 2 (((ps.filter fun p => decide (p.sort = ("rest" : Str))).map Pm.val).length * 101) ((ps.filter fun p => decide (p.sort = ("rest" : Str))).map Pm.val) := Tml.of fun v m => by
      obtain ⟨p, mp, rfl⟩ := List.mem_map.mp m
      exact (hp p (List.mem_filter.mp mp).1).tm
    have ne := ne_nil tm (by decide) a2 n2
    generalize hH2 : H1 ++ [Ob.lst []] = H2 at *
    generalize hlH : H.length = n at *
    generalize hl1 : H1.length = n1 at *
    refine ⟨H2, G1.trans G2, ?_⟩
    subst h2
    have hx : ((ps.filter fun p => decide (p.sort = ("rest" : Str))).map Pm.val).isEmpty = !decide (hasRest ps) := by
      by_cases r : hasRest ps
      · obtain ⟨p, mp, e⟩ := r
        have mf : p ∈ ps.filter fun p => decide (p.sort = ("rest" : Str)) := List.mem_filter.mpr ⟨mp, decide_eq_true e⟩
        have r : hasRest ps := ⟨p, mp, e⟩
        rw [decide_eq_true r]
        cases hf : ps.filter fun p => decide (p.sort = ("rest" : Str)) with
        | nil => rw [hf] at mf; cases mf
        | cons y ys => rfl
      · rw [decide_eq_false r]
        have : (ps.filter fun p => decide (p.sort = ("rest" : Str))) = [] := List.filter_eq_nil_iff.mpr fun p mp e => r ⟨p, mp, of_decide_eq_true e⟩
        rw [this]; rfl
    rw [hx, Bool.not_not] at ne
    have A : ∀ e, xAndT (xTest (xBin oEq (xVar 7) (xC (.int 2)))) (xTest (xBin oNe (xComp (xIter (xVar 5)) (.name 9) (xTest (xBin oEq (xBin (oIx2 gt) (xVar 9) (xC (.int 0))) (xC (.str "rest")))) (xVar 9) [9]) (xLst (xNil)))) e H = .ok (decide (hasRest ps)) H2 → if7 e H = if hasRest ps then sSet 7 (xC (.int 3)) e H2 else .nx e H2 := by
      intro e p
      unfold if7
      rw [run_sif, p]
      by_cases r : hasRest ps
      · simp [r]
      · simp [r]
    rw [A]
    · by_cases r : hasRest ps
      · simp [r, en6]
      · simp [r, en6]
    · rw [run_andT, run_test, run_bin]
      have v7 : xVar 7 (en6 b l t st f x6 (some (.int 2)) x8 x9) H = .ok (.int 2) H := rfl
      rw [v7]
      simp only [bind_ok, run_C, eq_int, of_some, decide_true, if_true, run_test, run_bin, e1, run_lst, run_nil, List.length_nil, z0, hH2, hl1, ne]
  · refine ⟨H, Grew.refl c, ?_⟩
    rw [if_neg (fun z => h2 z.1)]
    have v7 : xVar 7 (en6 b l t st f x6 (some (.int i)) x8 x9) H = .ok (.int i) H := rfl
    unfold if7
    rw [run_sif, run_andT, run_test, run_bin, v7]
    simp [h2]
theorem step_w : stepOf "by" = 0 ∧ stepOf "or" = 1 ∧ stepOf "rest" = 2 ∧ stepOf "only" = 3 ∧ stepOf "onlyor" = 3 := by decide +kernel
theorem st8 {b l t st f : Nat} {x6 x8 x9 : Option Val} {i : Int} {s : Bs} {H : Hh} (c : Cl H) (hb : H[b]? = some (bx s)) (g : Gd s) (hz : s.z + 1 ≤ 4194304) (i0 : 0 ≤ i) (i3 : i ≤ 3) :
    ∃ w s' H', Grew (H.set b (bx s')) H' ∧ set8 (en6 b l t st f x6 (some (.int i)) x8 x9) H = .nx (en6 b l t st f x6 (some (.int i)) (some (.str w)) x9) H' ∧ stepOf w = i ∧ w ∈ (["by", "or", "rest", "only", "onlyor"] : List Str) ∧ Gd s' ∧ s'.z ≤ s.z + 1 := by
  have z2 : (2 : Nat) ≤ sizeLine := sl_le (by decide)
  have z4 : (4 : Nat) ≤ sizeLine := sl_le (by decide)
  have G1 : Grew H (H ++ [.lst [.str "only", .str "onlyor"]]) := Grew.new c rfl
  have n1 : (H ++ [Ob.lst [.str "only", .str "onlyor"]])[H.length]? = some (.lst [.str "only", .str "onlyor"]) := at_new
  have b1 := G1.at_ hb
  have lb : b < H.length := (List.getElem?_eq_some_iff.mp hb).1
  generalize hH1 : H ++ [Ob.lst [Val.str (Str.ofString "only"), Val.str (Str.ofString "onlyor")]] = H1 at *
  obtain ⟨q, s1, e1, q0, q1, g1, w1, c1, b2⟩ := take_g (m := 2) G1.cl b1 g (by omega) (by decide) (log_small (by decide) (by decide))
  obtain ⟨q, rfl⟩ := Int.eq_ofNat_of_zero_le q0
  have n2 : (H1.set b (bx s1))[H.length]? = some (.lst [.str "only", .str "onlyor"]) := at_put (by omega) n1
  obtain ⟨u, eu, mu⟩ : ∃ u, [Val.str "only", Val.str "onlyor"][q]? = some (.str u) ∧ (u = "only" ∨ u = "onlyor") := by
    rcases q with _ | _ | q
    · exact ⟨_, rfl, .inl rfl⟩
    · exact ⟨_, rfl, .inr rfl⟩
    · omega
  have ix : oIx2 gt (.loc H.length) (.int q) (H1.set b (bx s1)) = some (.str u, H1.set b (bx s1)) := lst_at n2 eu
  have G2 : Grew (H1.set b (bx s1)) (H1.set b (bx s1) ++ [.lst [.str "by", .str "or", .str "rest", .str u]]) := Grew.new c1 rfl
  have n3 : (H1.set b (bx s1) ++ [Ob.lst [.str "by", .str "or", .str "rest", .str u]])[(H1.set b (bx s1)).length]? = some (.lst [.str "by", .str "or", .str "rest", .str u]) := at_new
  have G3 := (Grew.setb G1 hb s1).trans G2
  generalize hH2 : H1.set b (bx s1) = H2 at *
  generalize hH3 : H2 ++ [Ob.lst [Val.str (Str.ofString "by"), Val.str (Str.ofString "or"), Val.str (Str.ofString "rest"), Val.str u]] = H3 at *
  generalize hl : H.length = n at *
  generalize hl2 : H2.length = n2 at *
  obtain ⟨i, rfl⟩ := Int.eq_ofNat_of_zero_le i0
  obtain ⟨w, ew, sw, mw⟩ : ∃ w, [Val.str "by", Val.str "or", Val.str "rest", Val.str u][i]? = some (.str w) ∧ stepOf w = i ∧ w ∈ (["by", "or", "rest", "only", "onlyor"] : List Str) := by
    rcases i with _ | _ | _ | _ | i
    · exact ⟨_, rfl, step_w.1, by simp⟩
    · exact ⟨_, rfl, step_w.2.1, by simp⟩
    · exact ⟨_, rfl, step_w.2.2.1, by simp⟩
    · refine ⟨u, rfl, ?_, ?_⟩
      · rcases mu with rfl | rfl
        · exact step_w.2.2.2.1
        · exact step_w.2.2.2.2
      · rcases mu with rfl | rfl <;> simp
    · omega
  have ix2 : oIx2 gt (.loc n2) (.int i) H3 = some (.str w, H3) := lst_at n3 ew
  refine ⟨w, s1, H3, G3, ?_, sw, mw, g1, w1⟩
  simp [set8, en6, z2, z4, hH1, hl, e1, ix, hH3, hl2, ix2]
theorem st9 {b l t st f k : Nat} {x7 x9 : Option Val} {w : Str} {ns : List Str} {H : Hh} (el : H[l]? = some (.lst (ns.map Val.str))) (hn : ns.length = 6) :
    ∃ n, ns[(t + k) % 6]? = some n ∧ set9 (en6 b l t st f (some (.int k)) x7 (some (.str w)) x9) H = .nx (en6 b l t st f (some (.int k)) x7 (some (.str w)) (some (.tup [.str w, .str n]))) H := by
  have z2 : (2 : Nat) ≤ sizeLine := sl_le (by decide)
  have lt := Nat.mod_lt (t + k) (show 0 < 6 by decide)
  have ln : oLenD [.loc l] H = some (.int 6, H) := by rw [len_lst el, List.length_map, hn]; rfl
  have md : oMod (.int ((t : Int) + k)) (.int 6) H = some (.int (((t + k) % 6 : Nat) : Int), H) := by
    have : (t : Int) + k = ((t + k : Nat) : Int) := by omega
    rw [this]
    simp [oMod]
  have ix : oIx2 gt (.loc l) (.int (((t + k) % 6 : Nat) : Int)) H = some (.str (ns[(t + k) % 6]'(by omega)), H) := lst_at el (by rw [List.getElem?_map, List.getElem?_eq_getElem (by omega)]; rfl)
  refine ⟨ns[(t + k) % 6]'(by omega), List.getElem?_eq_getElem _, ?_⟩
  simp only [set9, en6, run_set, run_tup, run_cons, run_nil, run_var, run_bin, run_callN, List.getElem?_cons_zero, List.getElem?_cons_succ, bind_ok, add_int, of_some, ln, md, ix, List.length_cons, List.length_nil, Nat.zero_add, Nat.reduceAdd, z2, if_true, List.set_cons_succ, List.set_cons_zero]
end K

set_option Elab.async false
set_option linter.all false
set_option maxRecDepth 100000
set_option maxHeartbeats 4000000
namespace K
open PySem L2 EX XL
theorem mk_pk {w n : Str} {v : Val} (mw : w ∈ (["by", "or", "rest", "only", "onlyor"] : List Str)) (nn : Nm n) (ow : Ow v) : ∃ p : Pm, Pk p ∧ p.sort = w ∧ p.name = n ∧ p.own = (if w ∈ (["or", "onlyor"] : List Str) then some v else none) := by
  simp only [List.mem_cons, List.not_mem_nil, or_false] at mw
  rcases mw with rfl | rfl | rfl | rfl | rfl
  · exact ⟨_, .by_ nn, rfl, rfl, by rw [if_neg (by decide +kernel)]⟩
  · exact ⟨_, .or_ nn ow, rfl, rfl, by rw [if_pos (by decide +kernel)]⟩
  · exact ⟨_, .rest nn, rfl, rfl, by rw [if_neg (by decide +kernel)]⟩
  · exact ⟨_, .only nn, rfl, rfl, by rw [if_neg (by decide +kernel)]⟩
  · exact ⟨_, .onlyor nn ow, rfl, rfl, by rw [if_pos (by decide +kernel)]⟩
theorem st10 {b l t st f : Nat} {x6 x7 : Option Val} {w n : Str} {ps : List Pm} {s s0 : Bs} {h H : Hh} (hb : h[b]? = some (bx s0)) (G : Grew (h.set b (bx s)) H) (fh : h.length ≤ f) (ef : H[f]? = some (.lst (ps.map Pm.val))) (hp : ∀ p ∈ ps, Pk p) (hl : ps.length ≤ 6) (g : Gd s) (hz : s.z + 11 ≤ 4194304) (mw : w ∈ (["by", "or", "rest", "only", "onlyor"] : List Str)) (nn : Nm n) :
    ∃ p s' H', Grew (h.set b (bx s')) H' ∧ app9 (en6 b l t st f x6 x7 (some (.str w)) (some (.tup [.str w, .str n]))) H = .nx (en6 b l t st f x6 x7 (some (.str w)) (some (.tup [.str w, .str n]))) H' ∧ H'[f]? = some (.lst ((ps ++ [p]).map Pm.val)) ∧ Pk p ∧ p.sort = w ∧ p.name = n ∧ Gd s' ∧ s'.z ≤ s.z + 11 ∧ ∀ j o, j ≠ b → j ≠ f → H[j]? = some o → H'[j]? = some o := by
  have z1 : (1 : Nat) ≤ sizeLine := sl_le (by decide)
  have z2 : (2 : Nat) ≤ sizeLine := sl_le (by decide)
  have lb : b < h.length := (List.getElem?_eq_some_iff.mp hb).1
  have b1 : H[b]? = some (bx s) := G.at_ (at_same hb)
  obtain ⟨v, s1, e1, ow, g1, w1⟩ := lit_ok G.cl b1 g hz
  have G1 := Grew.setb G (at_same hb) s1
  rw [List.set_set] at G1
  have f1 : (H.set b (bx s1))[f]? = some (.lst (ps.map Pm.val)) := at_put (by omega) ef
  have k1 : ∀ j o, j ≠ b → H[j]? = some o → (H.set b (bx s1))[j]? = some o := fun j o hj e => at_put hj e
  have isL : isTy "list" (.loc f) H = true := by simp [isTy, ef]
  generalize hH1 : H.set b (bx s1) = H1 at *
  have G2 : Grew H1 (H1 ++ [.lst [.str "or", .str "onlyor"]]) := Grew.new G1.cl rfl
  have n2 : (H1 ++ [Ob.lst [.str "or", .str "onlyor"]])[H1.length]? = some (.lst ((["or", "onlyor"] : List Str).map Val.str)) := at_new
  have f2 := G2.at_ f1
  generalize hH2 : H1 ++ [Ob.lst [Val.str (Str.ofString "or"), Val.str (Str.ofString "onlyor")]] = H2 at *
  have q := oin_lst (G := gt) (s := w) n2
  obtain ⟨p, kp, sp, np, op⟩ := mk_pk mw nn ow
  have pv : p.val = .tup (.str w :: .str n :: p.own.toList) := by unfold Pm.val; rw [sp, np]
  have G3 : Grew (h.set b (bx s1)) (H2.set f (.lst ((ps ++ [p]).map Pm.val))) := (G1.trans G2).put (by rw [List.length_set]; exact fh) (show undL H2.length _ = true from undL_le (Nat.zero_le _) (undL_of fun x m => by
    obtain ⟨p', mp, rfl⟩ := List.mem_map.mp m
    rcases List.mem_append.mp mp with mp | mp
    · exact (hp _ mp).und
    · rw [List.mem_singleton.mp mp]; exact kp.und))
  have lps : (ps.map Pm.val).length < sizeLine := by
    rw [List.length_map]; have : 7 ≤ sizeLine := sl_le (by decide); omega
  have ap : oAppend (.loc f) [p.val] H2 = some (.non, H2.set f (.lst ((ps ++ [p]).map Pm.val))) := by
    simp only [oAppend, f2, lps, if_true, List.map_append, List.map_cons, List.map_nil]
  refine ⟨p, s1, _, G3, ?_, at_same f2, kp, sp, np, g1, w1, fun j o hj hf e => at_put hf (G2.at_ (k1 j o hj e))⟩
  generalize hl : H1.length = n1 at *
  generalize H2.set f (Ob.lst ((ps ++ [p]).map Pm.val)) = H3 at *
  have oi : oInt [.bl (decide (w ∈ (["or", "onlyor"] : List Str)))] H2 = some (.int (if w ∈ (["or", "onlyor"] : List Str) then 1 else 0), H2) := by
    by_cases m : w ∈ (["or", "onlyor"] : List Str)
    · rw [decide_eq_true m, if_pos m]; rfl
    · rw [decide_eq_false m, if_neg m]; rfl
  have mu : oMul3 (.tup [v]) (.int (if w ∈ (["or", "onlyor"] : List Str) then 1 else 0)) H2 = some (.tup p.own.toList, H2) := by
    rw [op]
    by_cases m : w ∈ (["or", "onlyor"] : List Str)
    · rw [if_pos m, if_pos m]; rfl
    · rw [if_neg m, if_neg m]; rfl
  have ol : p.own.toList.length ≤ 1 := by cases p.own <;> simp
  have z3 : 2 + p.own.toList.length ≤ sizeLine := sl_le (by omega)
  have ad : oAdd (.tup [.str w, .str n]) (.tup p.own.toList) H2 = some (p.val, H2) := by
    rw [pv]
    simp [oAdd, z3]
  simp only [app9, en6, run_expr, run_meth, run_var, run_cons, run_nil, run_bin, run_tup, run_call, run_callN, run_lst, run_C, List.getElem?_cons_zero, List.getElem?_cons_succ, bind_ok, isL, if_true, List.length_cons, List.length_nil, Nat.zero_add, Nat.reduceAdd, z1, z2, e1, hH1, hH2, hl, q, of_some, oi, mu, ad, ap]
theorem body5 {b l t st f k : Nat} {x8 x9 : Option Val} {i : Int} {ns : List Str} {ps : List Pm} {s s0 : Bs} {h H : Hh} (hb : h[b]? = some (bx s0)) (G : Grew (h.set b (bx s)) H) (fh : h.length ≤ f) (fl : f ≠ l) (lb : l ≠ b) (ef : H[f]? = some (.lst (ps.map Pm.val))) (hp : ∀ p ∈ ps, Pk p) (hl : ps.length ≤ 6) (g : Gd s) (hz : s.z + 12 ≤ 4194304) (i0 : 0 ≤ i) (i3 : i ≤ 3)
    (el : H[l]? = some (.lst (ns.map Val.str))) (hn : ns.length = 6) (hm : ∀ n ∈ ns, Nm n) :
    ∃ p s' H' x7' x8' x9', Grew (h.set b (bx s')) H' ∧ bd5 (en6 b l t st f (some (.int k)) (some (.int i)) x8 x9) H = .nx (en6 b l t st f (some (.int k)) x7' x8' x9') H' ∧ H'[f]? = some (.lst ((ps ++ [p]).map Pm.val)) ∧ Pk p ∧ stepOf p.sort = (if i = 2 ∧ hasRest ps then 3 else i) ∧ ns[(t + k) % 6]? = some p.name ∧ Gd s' ∧ s'.z ≤ s.z + 12 ∧ ∀ j o, j ≠ b → j ≠ f → H[j]? = some o → H'[j]? = some o := by
  have bh : b < h.length := (List.getElem?_eq_some_iff.mp hb).1
  obtain ⟨H1, G1, e1⟩ := st7 (b := b) (l := l) (t := t) (st := st) (x6 := some (.int k)) (x8 := x8) (x9 := x9) (i := i) G.cl ef hp hl
  have G01 := G.trans G1
  have j0 : 0 ≤ (if i = 2 ∧ hasRest ps then (3 : Int) else i) := by split <;> omega
  have j3 : (if i = 2 ∧ hasRest ps then (3 : Int) else i) ≤ 3 := by split <;> omega
  generalize (if i = 2 ∧ hasRest ps then (3 : Int) else i) = j at *
  obtain ⟨w, s2, H2, G2, e2, sw, mw, g2, w2⟩ := st8 (b := b) (l := l) (t := t) (st := st) (f := f) (x6 := some (.int k)) (x8 := x8) (x9 := x9) G01.cl (G01.at_ (at_same hb)) g (by omega) j0 j3
  have G02 := (Grew.setb G01 (at_same hb) s2).trans G2
  rw [List.set_set] at G02
  have k2 : ∀ j o, j ≠ b → H[j]? = some o → H2[j]? = some o := fun j o hj e => G2.at_ (at_put hj (G1.at_ e))
  obtain ⟨n, en, e3⟩ := st9 (b := b) (t := t) (st := st) (f := f) (k := k) (x7 := some (.int j)) (x9 := x9) (w := w) (k2 l _ lb el) hn
  obtain ⟨p, s4, H4, G4, e4, f4, kp, sp, np, g4, w4, k4⟩ := st10 (l := l) (t := t) (st := st) (x6 := some (.int k)) (x7 := some (.int j)) hb G02 fh (k2 f _ (by omega) ef) hp hl g2 (by omega) mw (hm n (List.mem_of_getElem? en))
  refine ⟨p, s4, H4, some (.int j), some (.str w), some (.tup [.str w, .str n]), G4, ?_, f4, kp, by rw [sp]; exact sw, by rw [np]; exact en, g4, by omega, fun j o hj hf e => k4 j o hj hf (k2 j o hj e)⟩
  unfold bd5
  rw [seq_nx e1, seq_nx e2, seq_nx e3]
  exact e4
def enI : Nat → List Int → List Val
  | _, [] => []
  | k, i :: r => .tup [.int k, .int i] :: enI (k + 1) r
theorem enI_map (xs : List Int) (f : Nat → Nat) (k : Nat) (hf : ∀ j, f j = k + j) : ((xs.map Val.int).mapIdx fun i x => Val.tup [.int (f i : Nat), x]) = enI k xs := by
  induction xs generalizing k f with
  | nil => rfl
  | cons x xs ih =>
    rw [List.map_cons, List.mapIdx_cons, enI]
    have h0 := hf 0
    rw [h0]
    congr 1
    exact ih (fun i => f (i + 1)) (k + 1) fun j => by rw [hf]; omega
theorem enum_ints {xs : List Int} : enumX (xs.map Val.int) = enI 0 xs := enI_map xs (fun i => i) 0 fun j => by omega
/-- what is so while the row grows -/
structure Gr (t : Nat) (ns : List Str) (ps : List Pm) (r : List Int) : Prop where
  ok : ∀ p ∈ ps, Pk p
  up : (ps.map fun p => stepOf p.sort).Pairwise (· ≤ ·)
  one : (ps.map fun p => stepOf p.sort).count 2 ≤ 1
  rs : hasRest ps ↔ 2 ∈ ps.map fun p => stepOf p.sort
  lo : ∀ p ∈ ps, ∀ i ∈ r, stepOf p.sort ≤ (if i = 2 ∧ hasRest ps then 3 else i)
  r3 : ∀ i ∈ r, 0 ≤ i ∧ i ≤ 3
  r2 : hasRest ps → ∀ i ∈ r, 2 ≤ i
  ru : r.Pairwise (· ≤ ·)
  nm : ∀ j (h : j < ps.length), ns[(t + j) % 6]? = some ps[j].name
theorem step_rest0 : ∀ s ∈ (["by", "or", "rest", "only", "onlyor"] : List Str), s = "rest" ↔ stepOf s = 2 := by decide +kernel
theorem step_rest {p : Pm} (k : Pk p) : p.sort = "rest" ↔ stepOf p.sort = 2 := step_rest0 _ k.five
theorem rest_iff {ps : List Pm} (h : ∀ p ∈ ps, Pk p) : hasRest ps ↔ 2 ∈ ps.map fun p => stepOf p.sort := by
  constructor
  · rintro ⟨p, m, e⟩
    exact List.mem_map.mpr ⟨p, m, (step_rest (h p m)).mp e⟩
  · intro m
    obtain ⟨p, m, e⟩ := List.mem_map.mp m
    exact ⟨p, m, (step_rest (h p m)).mpr e⟩
theorem hasRest_app {ps : List Pm} {p : Pm} : hasRest (ps ++ [p]) ↔ hasRest ps ∨ p.sort = "rest" := by
  constructor
  · rintro ⟨q, m, e⟩
    rcases List.mem_append.mp m with m | m
    · exact .inl ⟨q, m, e⟩
    · rw [List.mem_singleton.mp m] at e; exact .inr e
  · rintro (⟨q, m, e⟩ | e)
    · exact ⟨q, List.mem_append.mpr (.inl m), e⟩
    · exact ⟨p, List.mem_append.mpr (.inr (.head _)), e⟩
theorem Gr.step {t : Nat} {ns : List Str} {ps : List Pm} {i : Int} {r : List Int} {p : Pm} (g : Gr t ns ps (i :: r)) (k : Pk p) (e : stepOf p.sort = (if i = 2 ∧ hasRest ps then 3 else i)) (n : ns[(t + ps.length) % 6]? = some p.name) : Gr t ns (ps ++ [p]) r := by
  have ok : ∀ q ∈ ps ++ [p], Pk q := fun q m => by
    rcases List.mem_append.mp m with m | m
    · exact g.ok q m
    · rw [List.mem_singleton.mp m]; exact k
  have i03 := g.r3 i (.head _)
  have il : ∀ j ∈ r, i ≤ j := (List.pairwise_cons.mp g.ru).1
  have r3 : ∀ j ∈ r, 0 ≤ j ∧ j ≤ 3 := fun j m => g.r3 j (.tail _ m)
  have pr := step_rest k
  have lo' : ∀ q ∈ ps, stepOf q.sort ≤ stepOf p.sort := fun q m => by rw [e]; exact g.lo q m i (.head _)
  refine ⟨ok, ?_, ?_, rest_iff ok, ?_, r3, ?_, (List.pairwise_cons.mp g.ru).2, ?_⟩
  · rw [List.map_append, List.pairwise_append]
    refine ⟨g.up, by simp, fun a ma c mc => ?_⟩
    obtain ⟨q, mq, rfl⟩ := List.mem_map.mp ma
    rw [List.map_cons, List.map_nil, List.mem_singleton] at mc
    rw [mc]; exact lo' q mq
  · rw [List.map_append, List.count_append, List.map_cons, List.map_nil]
    by_cases hr : hasRest ps
    · have : stepOf p.sort ≠ 2 := by
        rw [e]
        intro z
        split at z
        · omega
        · rename_i h; exact h ⟨z, hr⟩
      have c0 : List.count 2 [stepOf p.sort] = 0 := List.count_eq_zero.mpr (by simp; omega)
      rw [c0]
      exact g.one
    · have c0 : List.count 2 (ps.map fun p => stepOf p.sort) = 0 := List.count_eq_zero.mpr fun m => hr (g.rs.mpr m)
      rw [c0]
      have : List.count 2 [stepOf p.sort] ≤ [stepOf p.sort].length := List.count_le_length
      simpa using this
  · intro q m j mj
    have ij := il j mj
    have jj := r3 j mj
    rcases List.mem_append.mp m with m | m
    · have h1 := g.lo q m j (.tail _ mj)
      split at h1
      · rename_i h
        rw [if_pos ⟨h.1, hasRest_app.mpr (.inl h.2)⟩]; exact h1
      · split
        · omega
        · exact h1
    · rw [List.mem_singleton.mp m, e]
      by_cases hr : hasRest ps
      · have i2 := g.r2 hr i (.head _)
        have j2 := g.r2 hr j (.tail _ mj)
        have hr' : hasRest (ps ++ [p]) := hasRest_app.mpr (.inl hr)
        simp only [hr, hr', and_true]
        split <;> split <;> omega
      · simp only [hr, and_false, if_false]
        split <;> omega
  · intro hr j mj
    rcases hasRest_app.mp hr with hr | hr
    · exact g.r2 hr j (.tail _ mj)
    · have h2 := pr.mp hr
      rw [e] at h2
      have := il j mj
      split at h2 <;> omega
  · intro j hj
    rw [List.length_append, List.length_singleton] at hj
    by_cases h : j < ps.length
    · rw [List.getElem_append_left h]; exact g.nm j h
    · have : j = ps.length := by omega
      subst this
      rw [List.getElem_append_right (Nat.le_refl _)]
      simpa using n
theorem loop5 {b l t st f : Nat} {ns : List Str} {s0 : Bs} {h : Hh} {sts : List Int} (hb : h[b]? = some (bx s0)) (fh : h.length ≤ f) (fl : f ≠ l) (lb : l ≠ b) (fs : f ≠ st) (sb : st ≠ b) (hn : ns.length = 6) (hm : ∀ n ∈ ns, Nm n) :
    ∀ (r : List Int) (ps : List Pm) (s : Bs) (H : Hh) (x6 x7 x8 x9 : Option Val), Gr t ns ps r → ps.length + r.length ≤ 6 → Grew (h.set b (bx s)) H → H[f]? = some (.lst (ps.map Pm.val)) → H[l]? = some (.lst (ns.map Val.str)) → H[st]? = some (.lst (sts.map Val.int)) → Gd s → s.z + 12 * r.length ≤ 4194304 →
      ∃ ps' s' H' x6' x7' x8' x9', forLoop (.liveAs st (sts.map Val.int) (enumX (sts.map Val.int))) (.tup [.name 6, .name 7]) bd5 (enI ps.length r) (en6 b l t st f x6 x7 x8 x9) H = .nx (en6 b l t st f x6' x7' x8' x9') H' ∧ Grew (h.set b (bx s')) H' ∧ H'[f]? = some (.lst (ps'.map Pm.val)) ∧ Gr t ns ps' [] ∧ ps'.length ≤ 6 ∧ Gd s' ∧ s'.z ≤ s.z + 12 * r.length
  | [], ps, s, H, x6, x7, x8, x9, gr, hl, G, ef, el, es, g, hz => ⟨ps, s, H, x6, x7, x8, x9, by rw [enI, forLoop, if_pos (show (Itn.liveAs st (sts.map Val.int) (enumX (sts.map Val.int))).okAt H from es)], G, ef, gr, by simpa using hl, g, by simp⟩
  | i :: r, ps, s, H, x6, x7, x8, x9, gr, hl, G, ef, el, es, g, hz => by
    rw [List.length_cons] at hl hz
    have i03 := gr.r3 i (.head _)
    have pt : Tg.put (.tup [.name 6, .name 7]) (.tup [.int (ps.length : Nat), .int i]) (en6 b l t st f x6 x7 x8 x9) = some (en6 b l t st f (some (.int (ps.length : Nat))) (some (.int i)) x8 x9) := by simp [Tg.put, putL, en6]
    obtain ⟨p, s1, H1, y7, y8, y9, G1, e1, f1, kp, sp, np, g1, w1, k1⟩ := body5 (t := t) (st := st) (k := ps.length) (x8 := x8) (x9 := x9) (i := i) hb G fh fl lb ef gr.ok (by omega) g (by omega) i03.1 i03.2 el hn hm
    obtain ⟨ps', s', H', z6, z7, z8, z9, e2, G2, f2, gr2, l2, g2, w2⟩ := loop5 (t := t) (sts := sts) hb fh fl lb fs sb hn hm r (ps ++ [p]) s1 H1 (some (.int (ps.length : Nat))) y7 y8 y9 (gr.step kp sp np) (by rw [List.length_append, List.length_singleton]; omega) G1 f1 (k1 l _ lb (Ne.symm fl) el) (k1 st _ sb (Ne.symm fs) es) g1 (by omega)
    refine ⟨ps', s', H', z6, z7, z8, z9, ?_, G2, f2, gr2, l2, g2, by rw [List.length_cons]; omega⟩
    rw [enI, forLoop, if_pos (show (Itn.liveAs st (sts.map Val.int) (enumX (sts.map Val.int))).okAt H from es)]
    simp only [pt, e1]
    have : (ps ++ [p]).length = ps.length + 1 := by simp
    rw [this] at e2
    exact e2
end K

set_option Elab.async false
set_option linter.all false
set_option maxRecDepth 100000
set_option maxHeartbeats 4000000
namespace K
open PySem L2 EX XL
theorem mod6_nd {t j k : Nat} (hj : j < 6) (hk : k < 6) (e : (t + j) % 6 = (t + k) % 6) : j = k := by omega
theorem Gr.pms {t : Nat} {ns : List Str} {ps : List Pm} (g : Gr t ns ps []) (hl : ps.length ≤ 6) (nd : ns.Nodup) (hn : ns.length = 6) : Pms ps := by
  refine ⟨hl, g.ok, g.up, g.one, ?_⟩
  have e : (ps.map fun p => p.name) = (List.range ps.length).map fun j => (ns[(t + j) % 6]?).getD "" := by
    apply List.ext_getElem
    · simp
    · intro j h1 h2
      rw [List.length_map] at h1
      rw [List.getElem_map, List.getElem_map, List.getElem_range, g.nm j h1]
      rfl
  rw [e]
  refine map_nd fun j k hj hk e => ?_
  have lj : (t + j) % 6 < ns.length := by rw [hn]; exact Nat.mod_lt _ (by decide)
  have lk : (t + k) % 6 < ns.length := by rw [hn]; exact Nat.mod_lt _ (by decide)
  rw [List.getElem?_eq_getElem lj, List.getElem?_eq_getElem lk] at e
  simp only [Option.getD_some] at e
  exact mod6_nd (t := t) (by omega) (by omega) ((List.getElem_inj nd).mp e)
theorem ints_of : ∀ {ys : List Val}, (∀ y ∈ ys, ∃ i : Int, (0 ≤ i ∧ i ≤ 3) ∧ y = .int i) → ∃ is : List Int, ys = is.map Val.int ∧ ∀ i ∈ is, 0 ≤ i ∧ i ≤ 3
  | [], _ => ⟨[], rfl, fun _ m => absurd m List.not_mem_nil⟩
  | y :: ys, h => by
    obtain ⟨i, hi, rfl⟩ := h y (.head _)
    obtain ⟨is, rfl, his⟩ := ints_of fun w m => h w (.tail _ m)
    exact ⟨i :: is, rfl, fun j m => by rcases List.mem_cons.mp m with rfl | m; exact hi; exact his j m⟩
theorem params_mk {h : Hh} {b l : Nat} {s : Bs} {ns : List Str} (c : Cl h) (hb : h[b]? = some (bx s)) (el : h[l]? = some (.lst (ns.map Val.str))) (hn : ns.length = 6) (nd : ns.Nodup) (hm : ∀ n ∈ ns, Nm n) (g : Gd s) (hz : s.z + 80 ≤ 4194304) :
    ∃ ps s', f__law_params [.loc b, .loc l, .int 6] h = .ok (.tup (ps.map Pm.val)) (h.set b (bx s')) ∧ Pms ps ∧ Gd s' ∧ s'.z ≤ s.z + 80 := by
  have lb : b < h.length := (List.getElem?_eq_some_iff.mp hb).1
  have ll : l < h.length := (List.getElem?_eq_some_iff.mp el).1
  have nlb : l ≠ b := by
    intro z; subst z
    rw [hb] at el
    have e := Ob.lst.inj (Option.some.inj el)
    cases ns with
    | nil => cases hn
    | cons x xs => rw [List.map_cons] at e; cases (List.cons.inj e).1
  have ln : oLenD [.loc l] h = some (.int 6, h) := by rw [len_lst el, List.length_map, hn]; rfl
  obtain ⟨t, s1, e1, t0, t1, g1, w1, c1, b1⟩ := take_g (m := 6) c hb g (by omega) (by decide) (log_small (by decide) (by decide))
  obtain ⟨t, rfl⟩ := Int.eq_ofNat_of_zero_le t0
  have ln1 : oLenD [.loc l] (h.set b (bx s1)) = some (.int 6, h.set b (bx s1)) := by rw [len_lst (at_put nlb el), List.length_map, hn]; rfl
  obtain ⟨q, s2, e2, q0, q1, g2, w2, c2, b2⟩ := take_g (m := 7) c1 b1 g1 (by omega) (by decide) (log_small (by decide) (by decide))
  rw [List.set_set] at e2 c2 b2
  have mi : oMin [.int 6, .int 6] (h.set b (bx s1)) = some (.int 6, h.set b (bx s1)) := rfl
  have ra := range_it (x := xCall 2 f__law_take (xCons (xVar 0) (xCons (xBin oAdd (xCallN oMin (xCons (xVar 2) (xCons (xCallN oLenD (xCons (xVar 1) (xNil))) (xNil)))) (xC (.int 1))) (xNil)))) (e := [some (.loc b), some (.loc l), some (.int 6), some (.int t), none, none, none, none, none, none]) (h := h.set b (bx s1)) (r := q) (h1 := h.set b (bx s2)) (by simp [ln1, mi, e2]) q0 (by omega)
  have lr : ((List.range q.toNat).map fun (i : Nat) => Val.int ((0 : Int) + i)).length = q.toNat := by simp
  obtain ⟨ys, s3, H3, G3, e3, a3, g3, w3, l3, py, uy⟩ := comp_bx (t := .name 6) (x := xCall 2 f__law_take (xCons (xVar 0) (xCons (xC (.int 4)) (xNil)))) (vs := [6]) (k := 1) (fun y => ∃ i : Int, (0 ≤ i ∧ i ≤ 3) ∧ y = .int i) ra b2 c2 (sl_le (by rw [lr]; omega)) g2 (by rw [lr]; omega) (fun v m => by
    refine ⟨[some (.loc b), some (.loc l), some (.int 6), some (.int t), none, none, some v, none, none, none], by simp [wipeE, Tg.put], fun s' h' G' g' hz' => ?_⟩
    obtain ⟨i, s4, e4, i0, i1, g4, w4, c4, b4⟩ := take_g (m := 4) G'.cl (grew_bx b2 G') g' hz' (by decide) (log_small (by decide) (by decide))
    exact ⟨.int i, s4, h'.set b (bx s4), by simp [e4], Grew.refl c4, g4, w4, ⟨i, ⟨i0, by omega⟩, rfl⟩, rfl⟩)
  rw [lr] at w3 l3
  rw [List.set_set] at G3
  obtain ⟨is, rfl, his⟩ := ints_of py
  rw [List.length_map] at l3
  have n3 : (h.set b (bx s2)).length = h.length := List.length_set
  rw [n3] at e3 a3
  -- sorted
  have so : oSorted [.loc h.length] H3 = some (.loc H3.length, H3 ++ [.lst ((sortI is).map Val.int)]) := by
    simp only [oSorted, a3, ints_int, Option.map_some]
  have ui : ∀ (xs : List Int), undL 0 (xs.map Val.int) = true := fun xs => undL_of fun x m => by
    obtain ⟨i, _, rfl⟩ := List.mem_map.mp m; rfl
  have G4 : Grew H3 (H3 ++ [.lst ((sortI is).map Val.int)]) := Grew.new G3.cl (ui _)
  have n4 : (H3 ++ [Ob.lst ((sortI is).map Val.int)])[H3.length]? = some (.lst ((sortI is).map Val.int)) := at_new
  have G04 := G3.trans G4
  have lh3 : h.length ≤ H3.length := by have := G3.le; rwa [List.length_set] at this
  generalize hH4 : H3 ++ [Ob.lst ((sortI is).map Val.int)] = H4 at *
  have G5 : Grew H4 (H4 ++ [.lst []]) := Grew.new G4.cl rfl
  have n5 : (H4 ++ [Ob.lst []])[H4.length]? = some (.lst (([] : List Pm).map Pm.val)) := at_new
  have m5 := G5.at_ n4
  have G05 := G04.trans G5
  have l34 : H3.length < H4.length := by rw [← hH4]; simp
  have l5 := G05.at_ (at_put nlb el (q := bx s3))
  generalize hH5 : H4 ++ [Ob.lst []] = H5 at *
  have sp : (sortI is).Perm is := sortI_perm is
  have gr : Gr t ns [] (sortI is) := {
    ok := fun _ m => absurd m List.not_mem_nil
    up := List.Pairwise.nil
    one := by simp
    rs := ⟨fun ⟨_, m, _⟩ => absurd m List.not_mem_nil, fun m => absurd m List.not_mem_nil⟩
    lo := fun _ m => absurd m List.not_mem_nil
    r3 := fun i m => his i (sp.mem_iff.mp m)
    r2 := fun ⟨_, m, _⟩ => absurd m List.not_mem_nil
    ru := sortI_le is
    nm := fun j hj => absurd hj (by simp) }
  have lsp : (sortI is).length = is.length := sp.length_eq
  obtain ⟨ps, s6, H6, x6, x7, x8, x9, e6, G6, f6, gr6, l6, g6, w6⟩ := loop5 (t := t) (st := H3.length) (sts := sortI is) (ns := ns) hb (f := H4.length) (by omega) (by omega) nlb (by omega) (by omega) hn hm (sortI is) [] s3 H5 none none none none gr (by rw [lsp, l3]; simp; omega) G05 n5 l5 m5 g3 (by rw [lsp, l3]; omega)
  have tu : oTuple [.loc H4.length] H6 = some (.tup (ps.map Pm.val), H6) := by simp only [oTuple, f6]
  have uP : (Val.tup (ps.map Pm.val)).und 0 = true := by
    rw [Val.und]
    exact undL_of fun x m => by
      obtain ⟨p, mp, rfl⟩ := List.mem_map.mp m
      exact (gr6.ok p mp).und
  refine ⟨ps, s6, call_gb c uP G6 ?_, gr6.pms l6 nd hn, g6, by rw [lsp, l3] at w6; omega⟩
  have z0 : (0 : Nat) ≤ sizeLine := Nat.zero_le _
  have A1 : sSet 3 (xCall 2 f__law_take (xCons (xVar 0) (xCons (xCallN oLenD (xCons (xVar 1) (xNil))) (xNil)))) (en 10 [.loc b, .loc l, .int 6]) h = .nx [some (.loc b), some (.loc l), some (.int 6), some (.int t), none, none, none, none, none, none] (h.set b (bx s1)) := by
    simp [en, ln, e1]
  have e3' : xComp (xRange1 (xCall 2 f__law_take (xCons (xVar 0) (xCons (xBin oAdd (xCallN oMin (xCons (xVar 2) (xCons (xCallN oLenD (xCons (xVar 1) (xNil))) (xNil)))) (xC (.int 1))) (xNil))))) (.name 6) (xYes) (xCall 2 f__law_take (xCons (xVar 0) (xCons (xC (.int 4)) (xNil)))) [6] [some (.loc b), some (.loc l), some (.int 6), some (.int t), none, none, none, none, none, none] (h.set b (bx s1)) = .ok (.loc h.length) H3 := e3
  have A2 : sSet 4 (xCallN oSorted (xCons (xComp (xRange1 (xCall 2 f__law_take (xCons (xVar 0) (xCons (xBin oAdd (xCallN oMin (xCons (xVar 2) (xCons (xCallN oLenD (xCons (xVar 1) (xNil))) (xNil)))) (xC (.int 1))) (xNil))))) (.name 6) (xYes) (xCall 2 f__law_take (xCons (xVar 0) (xCons (xC (.int 4)) (xNil)))) [6]) (xNil))) [some (.loc b), some (.loc l), some (.int 6), some (.int t), none, none, none, none, none, none] (h.set b (bx s1)) = .nx [some (.loc b), some (.loc l), some (.int 6), some (.int t), some (.loc H3.length), none, none, none, none, none] H4 := by
    simp only [run_set, run_callN, run_cons, run_nil, e3', bind_ok, so, of_some, hH4]
    rfl
  have A3 : sSet 5 (xLst (xNil)) [some (.loc b), some (.loc l), some (.int 6), some (.int t), some (.loc H3.length), none, none, none, none, none] H4 = .nx (en6 b l t H3.length H4.length none none none none) H5 := by
    simp only [run_set, run_lst, run_nil, bind_ok, List.length_nil, z0, if_true, hH5]
    rfl
  have A4 : sFor (xEnum (xVar 4)) (.tup [.name 6, .name 7]) bd5 (en6 b l t H3.length H4.length none none none none) H5 = .nx (en6 b l t H3.length H4.length x6 x7 x8 x9) H6 := by
    have xe : xEnum (xVar 4) (en6 b l t H3.length H4.length none none none none) H5 = .ok (.liveAs H3.length ((sortI is).map Val.int) (enumX ((sortI is).map Val.int))) H5 := by
      simp [xEnum, en6, m5]
    unfold sFor
    rw [xe]
    show forLoop _ _ _ (enumX ((sortI is).map Val.int)) _ _ = _
    rw [enum_ints]
    rw [enum_ints] at e6
    exact e6
  unfold x__law_params
  rw [seq_nx A1, seq_nx A2, seq_nx A3]
  have A4' := A4; unfold bd5 if7 set8 set9 app9 at A4'
  rw [seq_nx A4']
  simp only [run_ret, run_callN, run_cons, run_nil, run_var, en6, List.getElem?_cons_succ, List.getElem?_cons_zero, bind_ok, tu, of_some]
end K

set_option Elab.async false
set_option linter.all false
set_option maxRecDepth 100000
set_option maxHeartbeats 4000000
namespace K
open PySem L2 EX XL
/-! ### a call -/
theorem byc {w1 w2 : Str} {P : List Pm} {e : En} {H : Hh} (c : Cl H) (k : Pms P) (e1 : e[1]? = some (some (.tup (P.map Pm.val)))) (e9 : e.length = 10) :
    ∃ H', Grew H H' ∧ xComp (xIter (xVar 1)) (.name 9) (xTest (xBin (oIn2 gt) (xBin (oIx2 gt) (xVar 9) (xC (.int 0))) (xLst (xCons (xC (.str w1)) (xCons (xC (.str w2)) (xNil)))))) (xBin (oIx2 gt) (xVar 9) (xC (.int 1))) [9] e H = .ok (.loc H.length) H' ∧ H'[H.length]? = some (.lst (((sel [w1, w2] P).map fun p => p.name).map Val.str)) := by
  have lz : (P.map Pm.val).length ≤ sizeLine := sl_le (by rw [List.length_map]; have := k.len; omega)
  have z2 : (2 : Nat) ≤ sizeLine := sl_le (by decide)
  obtain ⟨H1, G1, q1, a1⟩ := comp_c (xi := xIter (xVar 1)) (it := .items (P.map Pm.val)) (t := .name 9) (tt := xTest (xBin (oIn2 gt) (xBin (oIx2 gt) (xVar 9) (xC (.int 0))) (xLst (xCons (xC (.str w1)) (xCons (xC (.str w2)) (xNil)))))) (x := xBin (oIx2 gt) (xVar 9) (xC (.int 1))) (e := e) (h := H) (h1 := H) (vs := [9]) (pf false fun s _ _ => decide (s ∈ [w1, w2])) (pf .non fun _ n _ => .str n) (by simp [itOf, e1]) trivial c lz (fun x mx => by
    obtain ⟨p, mp, rfl⟩ := List.mem_map.mp mx
    have at9 : ((wipeE e [9]).set 9 (some p.val))[9]? = some (some p.val) := by
      have : (wipeE e [9]).length = 10 := by simp [wipeE, e9]
      exact List.getElem?_set_self (by omega)
    refine ⟨(wipeE e [9]).set 9 (some p.val), by simp [Tg.put], fun _ => by rw [pf_val]; rfl, fun g cg => ⟨g ++ [.lst [.str w1, .str w2]], ?_, Grew.new cg.cl rfl, fun _ => ⟨_, ?_, Grew.refl (cg.cl.app2 rfl)⟩⟩⟩
    · have n1 : (g ++ [Ob.lst [.str w1, .str w2]])[g.length]? = some (.lst ([w1, w2].map Val.str)) := at_new
      have q := oin_lst (G := gt) (s := p.sort) n1
      rw [pf_val]
      have i0 : ∀ g, oIx2 gt p.val (.int 0) g = some (.str p.sort, g) := fun g => by simp [Pm.val]
      generalize hgg : g ++ [Ob.lst [Val.str w1, Val.str w2]] = gg at *
      simp only [run_test, run_bin, run_var, run_C, run_lst, run_cons, run_nil, bind_ok, at9, i0, of_some, List.length_cons, List.length_nil, z2, if_true, hgg, q]
    · rw [pf_val]
      have i1 : ∀ g, oIx2 gt p.val (.int 1) g = some (.str p.name, g) := fun g => by simp [Pm.val]
      simp only [run_bin, run_var, run_C, bind_ok, at9, i1, of_some])
  refine ⟨H1, G1, q1, ?_⟩
  rw [a1, show (Itn.items (P.map Pm.val)).xs = P.map Pm.val from rfl, pv_filter, pv_map, sel, List.map_map]
  rfl
structure Wk (kvs : Kvs) : Prop where
  ok : ∀ kv ∈ kvs, ∃ s, kv.1 = .inr s ∧ Nm s ∧ Wv 3 4 kv.2
  nd : (kvs.map (·.1)).Nodup
theorem putX_nd {kvs : Kvs} {k : Key} {v : Val} (h : (kvs.map (·.1)).Nodup) : ((putX kvs k v).map (·.1)).Nodup := by
  unfold putX
  split
  · have : (kvs.map fun kv => if kv.1 = k then (kv.1, v) else kv).map (·.1) = kvs.map (·.1) := by
      rw [List.map_map]
      apply List.map_congr_left
      intro q _
      simp only [Function.comp]
      split <;> rfl
    rw [this]; exact h
  · rename_i hn
    rw [List.map_append, List.map_cons, List.map_nil]
    refine List.nodup_append.mpr ⟨h, by simp, fun a ma c mc => ?_⟩
    rw [List.mem_singleton.mp mc]
    intro e
    subst e
    obtain ⟨q, mq, e⟩ := List.mem_map.mp ma
    exact hn (List.any_eq_true.mpr ⟨q, mq, decide_eq_true e⟩)
theorem Wk.put {kvs : Kvs} (w : Wk kvs) {s : Str} {v : Val} (n : Nm s) (wv : Wv 3 4 v) : Wk (putX kvs (.inr s) v) := ⟨fun q m => by
  rcases putX_mem m with ⟨a, b⟩ | m
  · exact ⟨s, a, n, by rw [b]; exact wv⟩
  · exact w.ok q m, putX_nd w.nd⟩
theorem Wk.und {kvs : Kvs} (w : Wk kvs) : Ob.und 0 (.dct false kvs) = true := und_dct fun q m => by
  obtain ⟨s, _, _, wv⟩ := w.ok q m
  exact wv.und
def en7 (b l pl many gv w : Nat) (P : List Pm) (x7 x8 x9 : Option Val) : En := [some (.loc b), some (.tup (P.map Pm.val)), some (.loc l), some (.loc pl), some (.int many), some (.loc gv), some (.loc w), x7, x8, x9]
noncomputable def bd6 : XS := sIf (xAndT (xTest (xBin (oNotIn2 gt) (xVar 7) (xSl oSl (xVar 3) none (some (xVar 4))))) (xTest (xBin oGt (xCall 2 f__law_take (xCons (xVar 0) (xCons (xC (.int 5)) (xNil)))) (xC (.int 0))))) (sSetIx (xVar 6) (xVar 7) (xCall 2 (f__law_worth 12) (xCons (xVar 0) (xCons (xC (.int 4)) (xNil))))) (sNil)
noncomputable def bd7 : XS := sSetIx (xVar 6) (xBin (oIx2 gt) (xVar 2) (xCall 2 f__law_take (xCons (xVar 0) (xCons (xCallN oLenD (xCons (xVar 2) (xNil))) (xNil))))) (xCall 2 (f__law_worth 12) (xCons (xVar 0) (xCons (xC (.int 4)) (xNil))))
theorem cw4 : cw 4 = 1694 := rfl
/-- putting a worth under a name -/
theorem putw {kvs : Kvs} {w b : Nat} {n : Str} {v : Val} {s s0 : Bs} {h H : Hh} (hb : h[b]? = some (bx s0)) (G : Grew (h.set b (bx s)) H) (wh : h.length ≤ w) (ew : H[w]? = some (.dct false kvs)) (wk : Wk kvs) (hl : kvs.length ≤ 100) (nn : Nm n) (wv : Wv 3 4 v) :
    ∃ H', oSet (.loc w) (.str n) v H = some H' ∧ Grew (h.set b (bx s)) H' ∧ H'[w]? = some (.dct false (putX kvs (.inr n) v)) ∧ ∀ j o, j ≠ w → H[j]? = some o → H'[j]? = some o := by
  have sz : kvs.length < sizeLine := by have : 101 ≤ sizeLine := sl_le (by decide); omega
  exact ⟨_, set_dct ew sz, G.put (by rw [List.length_set]; exact wh) (ob_le (Nat.zero_le _) (wk.put nn wv).und), at_same ew, fun j o hj e => at_put hj e⟩
theorem body6 {b l pl many gv w : Nat} {P : List Pm} {n : Str} {x8 x9 : Option Val} {pls : List Str} {kvs : Kvs} {s s0 : Bs} {h H : Hh} (hb : h[b]? = some (bx s0)) (G : Grew (h.set b (bx s)) H) (wh : h.length ≤ w) (pb : pl ≠ b) (pw : pl ≠ w) (ew : H[w]? = some (.dct false kvs)) (ep : H[pl]? = some (.lst (pls.map Val.str))) (wk : Wk kvs) (hl : kvs.length ≤ 100) (nn : Nm n) (g : Gd s) (hz : s.z + 1695 ≤ 4194304) :
    ∃ kvs' s' H', bd6 (en7 b l pl many gv w P (some (.str n)) x8 x9) H = .nx (en7 b l pl many gv w P (some (.str n)) x8 x9) H' ∧ Grew (h.set b (bx s')) H' ∧ H'[w]? = some (.dct false kvs') ∧ Wk kvs' ∧ kvs'.length ≤ kvs.length + 1 ∧ Gd s' ∧ s'.z ≤ s.z + 1695 ∧ ∀ j o, j ≠ b → j ≠ w → H[j]? = some o → H'[j]? = some o := by
  have lb : b < h.length := (List.getElem?_eq_some_iff.mp hb).1
  have sl : oSl (.loc pl) none (some (many : Int)) H = some (.loc H.length, H ++ [.lst ((pls.take many).map Val.str)]) := by
    simp only [oSl, ep, cut_take, List.map_take]
  have G1 : Grew H (H ++ [.lst ((pls.take many).map Val.str)]) := Grew.new G.cl (undL_of fun x m => by obtain ⟨i, _, rfl⟩ := List.mem_map.mp m; rfl)
  have n1 : (H ++ [Ob.lst ((pls.take many).map Val.str)])[H.length]? = some (.lst ((pls.take many).map Val.str)) := at_new
  have q := onot_lst (G := gt) (s := n) n1
  have G01 := G.trans G1
  have w1 := G1.at_ ew
  have k1 : ∀ j o, H[j]? = some o → (H ++ [Ob.lst ((pls.take many).map Val.str)])[j]? = some o := fun j o e => G1.at_ e
  generalize hH1 : H ++ [Ob.lst ((pls.take many).map Val.str)] = H1 at *
  generalize hl0 : H.length = l0 at *
  have T1 : xTest (xBin (oNotIn2 gt) (xVar 7) (xSl oSl (xVar 3) none (some (xVar 4)))) (en7 b l pl many gv w P (some (.str n)) x8 x9) H = .ok (!decide (n ∈ pls.take many)) H1 := by
    simp [en7, xSl, xPart, sl, q]
  by_cases hin : n ∈ pls.take many
  · rw [decide_eq_true hin] at T1
    refine ⟨kvs, s, H1, ?_, G01, w1, wk, by omega, g, by omega, fun j o _ _ e => k1 j o e⟩
    unfold bd6
    rw [run_sif, run_andT, T1]
    simp
  · rw [decide_eq_false hin] at T1
    obtain ⟨r, s2, e2, r0, r1, g2, z2, c2, b2⟩ := take_g (m := 5) G01.cl (G01.at_ (at_same hb)) g (by omega) (by decide) (log_small (by decide) (by decide))
    have G2 := Grew.setb G01 (at_same hb) s2
    rw [List.set_set] at G2
    have w2 : (H1.set b (bx s2))[w]? = some (.dct false kvs) := at_put (by omega) w1
    have k2 : ∀ j o, j ≠ b → H[j]? = some o → (H1.set b (bx s2))[j]? = some o := fun j o hj e => at_put hj (k1 j o e)
    generalize hH2 : H1.set b (bx s2) = H2 at *
    have T2 : xTest (xBin oGt (xCall 2 f__law_take (xCons (xVar 0) (xCons (xC (.int 5)) (xNil)))) (xC (.int 0))) (en7 b l pl many gv w P (some (.str n)) x8 x9) H1 = .ok (decide (0 < r)) H2 := by
      simp [en7, e2]
    by_cases hr : 0 < r
    · rw [decide_eq_true hr] at T2
      obtain ⟨v, s3, e3, wv, g3, z3⟩ := worth_mk 4 12 (by decide) G2.cl b2 g2 (by rw [cw4]; omega)
      rw [cw4] at z3
      have G3 := Grew.setb G2 (at_same hb) s3
      rw [List.set_set] at G3
      obtain ⟨H4, e4, G4, w4, k4⟩ := putw (n := n) (v := v) hb G3 wh (at_put (by omega) w2) wk hl nn wv
      refine ⟨_, s3, H4, ?_, G4, w4, wk.put nn wv, putX_len, g3, by omega, fun j o hj hw e => k4 j o hw (at_put hj (k2 j o hj e))⟩
      have e3' : f__law_worth 12 [.loc b, .int 4] H2 = .ok v (H2.set b (bx s3)) := e3
      unfold bd6
      rw [run_sif, run_andT, T1]
      simp only [bind_ok, Bool.not_false, if_true, T2]
      simp only [run_setix, run_call, run_cons, run_nil, run_var, run_C, en7, List.getElem?_cons_succ, List.getElem?_cons_zero, bind_ok, List.length_cons, List.length_nil, Nat.zero_add, Nat.reduceAdd, if_true, e3', e4]
    · rw [decide_eq_false hr] at T2
      refine ⟨kvs, s2, H2, ?_, G2, w2, wk, by omega, g2, by omega, fun j o hj _ e => k2 j o hj e⟩
      unfold bd6
      rw [run_sif, run_andT, T1]
      simp only [bind_ok, Bool.not_false, if_true, T2, Bool.false_eq_true, if_false, run_snil]
theorem body7 {b l pl many gv w : Nat} {P : List Pm} {x7 x8 x9 : Option Val} {ns : List Str} {kvs : Kvs} {s s0 : Bs} {h H : Hh} (hb : h[b]? = some (bx s0)) (G : Grew (h.set b (bx s)) H) (wh : h.length ≤ w) (nb : l ≠ b) (nw : l ≠ w) (ew : H[w]? = some (.dct false kvs)) (el : H[l]? = some (.lst (ns.map Val.str))) (hn : ns.length = 7) (hm : ∀ n ∈ ns, Nm n) (wk : Wk kvs) (hl : kvs.length ≤ 100) (g : Gd s) (hz : s.z + 1695 ≤ 4194304) :
    ∃ kvs' s' H', bd7 (en7 b l pl many gv w P x7 x8 x9) H = .nx (en7 b l pl many gv w P x7 x8 x9) H' ∧ Grew (h.set b (bx s')) H' ∧ H'[w]? = some (.dct false kvs') ∧ Wk kvs' ∧ kvs'.length ≤ kvs.length + 1 ∧ Gd s' ∧ s'.z ≤ s.z + 1695 ∧ ∀ j o, j ≠ b → j ≠ w → H[j]? = some o → H'[j]? = some o := by
  have lb : b < h.length := (List.getElem?_eq_some_iff.mp hb).1
  obtain ⟨v, s1, e1, wv, g1, z1⟩ := worth_mk 4 12 (by decide) G.cl (G.at_ (at_same hb)) g (by rw [cw4]; omega)
  rw [cw4] at z1
  have G1 := Grew.setb G (at_same hb) s1
  rw [List.set_set] at G1
  have l1 : (H.set b (bx s1))[l]? = some (.lst (ns.map Val.str)) := at_put nb el
  have w1 : (H.set b (bx s1))[w]? = some (.dct false kvs) := at_put (by omega) ew
  have k1 : ∀ j o, j ≠ b → H[j]? = some o → (H.set b (bx s1))[j]? = some o := fun j o hj e => at_put hj e
  generalize hH1 : H.set b (bx s1) = H1 at *
  have ln : oLenD [.loc l] H1 = some (.int 7, H1) := by rw [len_lst l1, List.length_map, hn]; rfl
  obtain ⟨r, s2, e2, r0, r1, g2, z2, c2, b2⟩ := take_g (m := 7) G1.cl (G1.at_ (at_same hb)) g1 (by omega) (by decide) (log_small (by decide) (by decide))
  obtain ⟨r, rfl⟩ := Int.eq_ofNat_of_zero_le r0
  have G2 := Grew.setb G1 (at_same hb) s2
  rw [List.set_set] at G2
  have k2 : ∀ j o, j ≠ b → H[j]? = some o → (H1.set b (bx s2))[j]? = some o := fun j o hj e => at_put hj (k1 j o hj e)
  have ix : oIx2 gt (.loc l) (.int r) (H1.set b (bx s2)) = some (.str (ns[r]'(by omega)), H1.set b (bx s2)) := lst_at (at_put nb l1) (by rw [List.getElem?_map, List.getElem?_eq_getElem (by omega)]; rfl)
  have nn : Nm (ns[r]'(by omega)) := hm _ (List.getElem_mem _)
  generalize ns[r]'(by omega) = n at *
  have w2 : (H1.set b (bx s2))[w]? = some (.dct false kvs) := at_put (by omega) w1
  generalize hH2 : H1.set b (bx s2) = H2 at *
  obtain ⟨H4, e4, G4, w4, k4⟩ := putw (n := n) (v := v) hb G2 wh w2 wk hl nn wv
  refine ⟨_, s2, H4, ?_, G4, w4, wk.put nn wv, putX_len, g2, by omega, fun j o hj hw e => k4 j o hw (k2 j o hj e)⟩
  have e1' : f__law_worth 12 [.loc b, .int 4] H = .ok v H1 := e1
  simp only [bd7, run_setix, run_call, run_cons, run_nil, run_var, run_C, run_bin, run_callN, en7, List.getElem?_cons_succ, List.getElem?_cons_zero, bind_ok, List.length_cons, List.length_nil, Nat.zero_add, Nat.reduceAdd, if_true, e1', ln, of_some, e2, hH2, ix, e4]
theorem loop6 {b l pl many gv w L : Nat} {P : List Pm} {all : List Val} {pls : List Str} {s0 : Bs} {h : Hh} {x8 x9 : Option Val} (hb : h[b]? = some (bx s0)) (wh : h.length ≤ w) (pb : pl ≠ b) (pw : pl ≠ w) (Lb : L ≠ b) (Lw : L ≠ w) :
    ∀ (r : List Str) (kvs : Kvs) (s : Bs) (H : Hh) (x7 : Option Val), (∀ n ∈ r, Nm n) → Grew (h.set b (bx s)) H → H[w]? = some (.dct false kvs) → H[pl]? = some (.lst (pls.map Val.str)) → H[L]? = some (.lst all) → Wk kvs → kvs.length + r.length ≤ 100 → Gd s → s.z + 1695 * r.length ≤ 4194304 →
      ∃ kvs' s' H' x7', forLoop (.live L all) (.name 7) bd6 (r.map Val.str) (en7 b l pl many gv w P x7 x8 x9) H = .nx (en7 b l pl many gv w P x7' x8 x9) H' ∧ Grew (h.set b (bx s')) H' ∧ H'[w]? = some (.dct false kvs') ∧ Wk kvs' ∧ kvs'.length ≤ kvs.length + r.length ∧ Gd s' ∧ s'.z ≤ s.z + 1695 * r.length ∧ ∀ j o, j ≠ b → j ≠ w → H[j]? = some o → H'[j]? = some o
  | [], kvs, s, H, x7, _, G, ew, ep, eL, wk, hl, g, hz => ⟨kvs, s, H, x7, by rw [List.map_nil, forLoop, if_pos (show (Itn.live L all).okAt H from eL)], G, ew, wk, by simp, g, by simp, fun _ _ _ _ e => e⟩
  | n :: r, kvs, s, H, x7, hm, G, ew, ep, eL, wk, hl, g, hz => by
    rw [List.length_cons] at hl hz
    obtain ⟨kvs1, s1, H1, e1, G1, w1, wk1, l1, g1, z1, k1⟩ := body6 (l := l) (many := many) (gv := gv) (P := P) (x8 := x8) (x9 := x9) hb G wh pb pw ew ep wk (by omega) (hm n (.head _)) g (by omega)
    obtain ⟨kvs2, s2, H2, y7, e2, G2, w2, wk2, l2, g2, z2, k2⟩ := loop6 (l := l) (many := many) (gv := gv) (P := P) (all := all) (x8 := x8) (x9 := x9) hb wh pb pw Lb Lw r kvs1 s1 H1 (some (.str n)) (fun m mm => hm m (.tail _ mm)) G1 w1 (k1 pl _ pb pw ep) (k1 L _ Lb Lw eL) wk1 (by omega) g1 (by omega)
    refine ⟨kvs2, s2, H2, y7, ?_, G2, w2, wk2, by rw [List.length_cons]; omega, g2, by rw [List.length_cons]; omega, fun j o hj hw e => k2 j o hj hw (k1 j o hj hw e)⟩
    rw [List.map_cons, forLoop, if_pos (show (Itn.live L all).okAt H from eL)]
    have pt : Tg.put (.name 7) (.str n) (en7 b l pl many gv w P x7 x8 x9) = some (en7 b l pl many gv w P (some (.str n)) x8 x9) := rfl
    simp only [pt, e1]
    exact e2
theorem loop7 {b l pl many gv w : Nat} {P : List Pm} {all : List Val} {ns : List Str} {s0 : Bs} {h : Hh} {x7 x9 : Option Val} (hb : h[b]? = some (bx s0)) (wh : h.length ≤ w) (nb : l ≠ b) (nw : l ≠ w) (hn : ns.length = 7) (hm : ∀ n ∈ ns, Nm n) :
    ∀ (r : List Val) (kvs : Kvs) (s : Bs) (H : Hh) (x8 : Option Val), Grew (h.set b (bx s)) H → H[w]? = some (.dct false kvs) → H[l]? = some (.lst (ns.map Val.str)) → Wk kvs → kvs.length + r.length ≤ 100 → Gd s → s.z + 1695 * r.length ≤ 4194304 →
      ∃ kvs' s' H' x8', forLoop (.items all) (.name 8) bd7 r (en7 b l pl many gv w P x7 x8 x9) H = .nx (en7 b l pl many gv w P x7 x8' x9) H' ∧ Grew (h.set b (bx s')) H' ∧ H'[w]? = some (.dct false kvs') ∧ Wk kvs' ∧ kvs'.length ≤ kvs.length + r.length ∧ Gd s' ∧ s'.z ≤ s.z + 1695 * r.length ∧ ∀ j o, j ≠ b → j ≠ w → H[j]? = some o → H'[j]? = some o
  | [], kvs, s, H, x8, G, ew, el, wk, hl, g, hz => ⟨kvs, s, H, x8, by rw [forLoop, if_pos (show (Itn.items all).okAt H from trivial)], G, ew, wk, by simp, g, by simp, fun _ _ _ _ e => e⟩
  | v :: r, kvs, s, H, x8, G, ew, el, wk, hl, g, hz => by
    rw [List.length_cons] at hl hz
    obtain ⟨kvs1, s1, H1, e1, G1, w1, wk1, l1, g1, z1, k1⟩ := body7 (pl := pl) (many := many) (gv := gv) (P := P) (x7 := x7) (x8 := some v) (x9 := x9) hb G wh nb nw ew el hn hm wk (by omega) g (by omega)
    obtain ⟨kvs2, s2, H2, y8, e2, G2, w2, wk2, l2, g2, z2, k2⟩ := loop7 (pl := pl) (many := many) (gv := gv) (P := P) (all := all) (x7 := x7) (x9 := x9) hb wh nb nw hn hm r kvs1 s1 H1 (some v) G1 w1 (k1 l _ nb nw el) wk1 (by omega) g1 (by omega)
    refine ⟨kvs2, s2, H2, y8, ?_, G2, w2, wk2, by rw [List.length_cons]; omega, g2, by rw [List.length_cons]; omega, fun j o hj hw e => k2 j o hj hw (k1 j o hj hw e)⟩
    rw [forLoop, if_pos (show (Itn.items all).okAt H from trivial)]
    have pt : Tg.put (.name 8) v (en7 b l pl many gv w P x7 x8 x9) = some (en7 b l pl many gv w P x7 (some v) x9) := rfl
    simp only [pt, e1]
    exact e2
end K

set_option Elab.async false
set_option linter.all false
set_option maxRecDepth 100000
set_option maxHeartbeats 4000000
namespace K
open PySem L2 EX XL
noncomputable def set4 : XS := sSet 4 (xBin (oIx2 gt) (xLst (xCons (xCallN oLenD (xCons (xVar 3) (xNil))) (xCons (xCall 2 f__law_take (xCons (xVar 0) (xCons (xBin oAdd (xCallN oLenD (xCons (xVar 3) (xNil))) (xC (.int 1))) (xNil)))) (xCons (xCall 2 f__law_take (xCons (xVar 0) (xCons (xC (.int 9)) (xNil)))) (xCons (xCall 2 f__law_take (xCons (xVar 0) (xCons (xC (.int 21)) (xNil)))) (xNil)))))) (xCall 2 f__law_take (xCons (xVar 0) (xCons (xC (.int 4)) (xNil)))))
theorem set4_ok {b l pl : Nat} {P : List Pm} {pls : List Val} {x4 x5 x6 x7 x8 x9 : Option Val} {s s0 : Bs} {h H : Hh} (hb : h[b]? = some (bx s0)) (G : Grew (h.set b (bx s)) H) (pb : pl ≠ b) (ep : H[pl]? = some (.lst pls)) (lp : pls.length ≤ 6) (g : Gd s) (hz : s.z + 4 ≤ 4194304) :
    ∃ (many : Nat) (s' : Bs) (H' : Hh), set4 [some (.loc b), some (.tup (P.map Pm.val)), some (.loc l), some (.loc pl), x4, x5, x6, x7, x8, x9] H = .nx [some (.loc b), some (.tup (P.map Pm.val)), some (.loc l), some (.loc pl), some (.int many), x5, x6, x7, x8, x9] H' ∧ many ≤ 20 ∧ Grew (h.set b (bx s')) H' ∧ Gd s' ∧ s'.z ≤ s.z + 4 ∧ ∀ j o, j ≠ b → H[j]? = some o → H'[j]? = some o := by
  have z4 : (4 : Nat) ≤ sizeLine := sl_le (by decide)
  have lb : b < h.length := (List.getElem?_eq_some_iff.mp hb).1
  obtain ⟨r1, s1, e1, r10, r11, g1, z1, c1, b1⟩ := take_g (m := (pls.length : Int) + 1) G.cl (G.at_ (at_same hb)) g (by omega) (by omega) (log_small (by omega) (by omega))
  have p1 : (H.set b (bx s1))[pl]? = some (.lst pls) := at_put pb ep
  have G1 := Grew.setb G (at_same hb) s1
  rw [List.set_set] at G1
  have k1 : ∀ j o, j ≠ b → H[j]? = some o → (H.set b (bx s1))[j]? = some o := fun j o hj e => at_put hj e
  generalize hH1 : H.set b (bx s1) = H1 at *
  obtain ⟨r2, s2, e2, r20, r21, g2, z2, c2, b2⟩ := take_g (m := 9) G1.cl (G1.at_ (at_same hb)) g1 (by omega) (by decide) (log_small (by decide) (by decide))
  have G2 := Grew.setb G1 (at_same hb) s2
  rw [List.set_set] at G2
  have k2 : ∀ j o, j ≠ b → H[j]? = some o → (H1.set b (bx s2))[j]? = some o := fun j o hj e => at_put hj (k1 j o hj e)
  generalize hH2 : H1.set b (bx s2) = H2 at *
  obtain ⟨r3, s3, e3, r30, r31, g3, z3, c3, b3⟩ := take_g (m := 21) G2.cl (G2.at_ (at_same hb)) g2 (by omega) (by decide) (log_small (by decide) (by decide))
  have G3 := Grew.setb G2 (at_same hb) s3
  rw [List.set_set] at G3
  have k3 : ∀ j o, j ≠ b → H[j]? = some o → (H2.set b (bx s3))[j]? = some o := fun j o hj e => at_put hj (k2 j o hj e)
  generalize hH3 : H2.set b (bx s3) = H3 at *
  have G4 : Grew H3 (H3 ++ [.lst [.int pls.length, .int r1, .int r2, .int r3]]) := Grew.new G3.cl rfl
  have n4 : (H3 ++ [Ob.lst [.int pls.length, .int r1, .int r2, .int r3]])[H3.length]? = some (.lst [.int pls.length, .int r1, .int r2, .int r3]) := at_new
  have G04 := G3.trans G4
  have k4 : ∀ j o, j ≠ b → H[j]? = some o → (H3 ++ [Ob.lst [.int pls.length, .int r1, .int r2, .int r3]])[j]? = some o := fun j o hj e => G4.at_ (k3 j o hj e)
  have bH3 : b < H3.length := by have := G3.le; rw [List.length_set] at this; omega
  generalize hH4 : H3 ++ [Ob.lst [Val.int pls.length, Val.int r1, Val.int r2, Val.int r3]] = H4 at *
  obtain ⟨q, s5, e5, q0, q1, g5, z5, c5, b5⟩ := take_g (m := 4) G04.cl (G04.at_ (at_same hb)) g3 (by omega) (by decide) (log_small (by decide) (by decide))
  have G5 := Grew.setb G04 (at_same hb) s5
  rw [List.set_set] at G5
  obtain ⟨q, rfl⟩ := Int.eq_ofNat_of_zero_le q0
  obtain ⟨m, em, m20⟩ : ∃ m : Nat, [Val.int pls.length, Val.int r1, Val.int r2, Val.int r3][q]? = some (.int m) ∧ m ≤ 20 := by
    obtain ⟨a1, rfl⟩ := Int.eq_ofNat_of_zero_le r10
    obtain ⟨a2, rfl⟩ := Int.eq_ofNat_of_zero_le r20
    obtain ⟨a3, rfl⟩ := Int.eq_ofNat_of_zero_le r30
    rcases q with _ | _ | _ | _ | q
    · exact ⟨pls.length, rfl, by omega⟩
    · exact ⟨a1, rfl, by omega⟩
    · exact ⟨a2, rfl, by omega⟩
    · exact ⟨a3, rfl, by omega⟩
    · omega
  have ix : oIx2 gt (.loc H3.length) (.int q) (H4.set b (bx s5)) = some (.int m, H4.set b (bx s5)) := lst_at (at_put (by omega) n4) em
  refine ⟨m, s5, H4.set b (bx s5), ?_, m20, G5, g5, by omega, fun j o hj e => at_put hj (k4 j o hj e)⟩
  have ln : oLenD [.loc pl] H = some (.int pls.length, H) := len_lst ep
  simp only [set4, run_set, run_bin, run_lst, run_callN, run_call, run_cons, run_nil, run_var, run_C, List.getElem?_cons_succ, List.getElem?_cons_zero, bind_ok, ln, of_some, add_int, List.length_cons, List.length_nil, Nat.zero_add, Nat.reduceAdd, if_true, e1, e2, e3, z4, hH4, e5, ix]
  rfl
theorem sel_names {P : List Pm} {ss : List Str} (k : Pms P) : ∀ n ∈ (sel ss P).map fun p => p.name, Nm n := fun n m => name_in k m
theorem sel_len {P : List Pm} {ss : List Str} (k : Pms P) : ((sel ss P).map fun p => p.name).length ≤ 6 := by
  rw [List.length_map]; exact Nat.le_trans (List.length_filter_le _ _) k.len
/-- what a call is made of -/
theorem call_mk {h : Hh} {b l : Nat} {s : Bs} {ns : List Str} {P : List Pm} (c : Cl h) (hb : h[b]? = some (bx s)) (el : h[l]? = some (.lst (ns.map Val.str))) (hn : ns.length = 7) (hm : ∀ n ∈ ns, Nm n) (k : Pms P) (g : Gd s) (hz : s.z + 50000 ≤ 4194304) :
    ∃ (G : List Val) (kvs : Kvs) (s' : Bs) (H : Hh) (m gv w : Nat), f__law_call [.loc b, .tup (P.map Pm.val), .loc l] h = .ok (.loc m) H ∧ Grew (h.set b (bx s')) H ∧ h.length ≤ m ∧ h.length ≤ gv ∧ h.length ≤ w ∧ gv ≠ w ∧ m ≠ gv ∧ m ≠ w ∧ H[m]? = some (.lst [.loc gv, .loc w]) ∧ H[gv]? = some (.lst G) ∧ H[w]? = some (.dct false kvs) ∧ (∀ x ∈ G, Wv 3 4 x) ∧ G.length ≤ 20 ∧ Nw kvs ∧ kvs.length ≤ 8 ∧ Gd s' ∧ s'.z ≤ s.z + 50000 := by
  have lb : b < h.length := (List.getElem?_eq_some_iff.mp hb).1
  have ll : l < h.length := (List.getElem?_eq_some_iff.mp el).1
  have nlb : l ≠ b := by
    intro z; subst z
    rw [hb] at el
    have e := Ob.lst.inj (Option.some.inj el)
    cases ns with
    | nil => cases hn
    | cons x xs => rw [List.map_cons] at e; cases (List.cons.inj e).1
  obtain ⟨H1, G1, e1, a1⟩ := byc (w1 := "by") (w2 := "or") (e := [some (.loc b), some (.tup (P.map Pm.val)), some (.loc l), none, none, none, none, none, none, none]) c k rfl rfl
  have G1' : Grew (h.set b (bx s)) H1 := by rw [set_same hb]; exact G1
  have lp := sel_len (ss := ["by", "or"]) k
  generalize ((sel ["by", "or"] P).map fun p => p.name) = pls at *
  obtain ⟨many, s2, H2, e2, m20, G2, g2, z2, k2⟩ := set4_ok (l := l) (P := P) (x4 := none) (x5 := none) (x6 := none) (x7 := none) (x8 := none) (x9 := none) hb G1' (pl := h.length) (by omega) a1 (by rw [List.length_map]; omega) g (by omega)
  have p2 := k2 h.length _ (by omega) a1
  have b2 : H2[b]? = some (bx s2) := G2.at_ (at_same hb)
  have lh2 : h.length < H2.length := (List.getElem?_eq_some_iff.mp p2).1
  have l2 : H2[l]? = some (.lst (ns.map Val.str)) := G2.at_ (at_put nlb el)
  have ra := range_it (x := xVar 4) (e := [some (.loc b), some (.tup (P.map Pm.val)), some (.loc l), some (.loc h.length), some (.int many), none, none, none, none, none]) (h := H2) (r := many) (h1 := H2) rfl (by omega) (by omega)
  have lr : ((List.range (many : Int).toNat).map fun (i : Nat) => Val.int ((0 : Int) + i)).length = many := by simp
  obtain ⟨ys, s3, H3, G3, e3, a3, g3, z3, l3, py, uy⟩ := comp_bx (t := .name 8) (x := xCall 2 (f__law_worth 12) (xCons (xVar 0) (xCons (xC (.int 4)) (xNil)))) (vs := [8]) (k := 1694) (Wv 3 4) ra b2 G2.cl (sl_le (by rw [lr]; omega)) g2 (by rw [lr]; omega) (fun v m => by
    refine ⟨[some (.loc b), some (.tup (P.map Pm.val)), some (.loc l), some (.loc h.length), some (.int many), none, none, none, some v, none], by simp [wipeE, Tg.put], fun s' h' G' g' hz' => ?_⟩
    obtain ⟨y, s4, e4, wy, g4, z4⟩ := worth_mk 4 12 (by decide) G'.cl (grew_bx b2 G') g' (by rw [cw4]; omega)
    rw [cw4] at z4
    have e4' : f__law_worth 12 [.loc b, .int 4] h' = .ok y (h'.set b (bx s4)) := e4
    exact ⟨y, s4, h'.set b (bx s4), by simp [e4'], Grew.refl (G'.cl.put2 b (bx_und s4)), g4, by omega, wy, wy.und⟩)
  rw [lr] at z3 l3
  have G03 : Grew (h.set b (bx s3)) H3 := by
    have := (Grew.setb G2 (at_same hb) s3).trans G3
    rwa [List.set_set] at this
  have k3 : ∀ j o, j ≠ b → H2[j]? = some o → H3[j]? = some o := fun j o hj e => G3.at_ (at_put hj e)
  have p3 := k3 _ _ (by omega) p2
  have l3' := k3 _ _ nlb l2
  have lh3 : H2.length < H3.length := (List.getElem?_eq_some_iff.mp a3).1
  -- the dict
  have G4 : Grew H3 (H3 ++ [.dct false []]) := Grew.new G03.cl rfl
  have n4 : (H3 ++ [Ob.dct false []])[H3.length]? = some (.dct false []) := at_new
  have G04 := G03.trans G4
  have p4 := G4.at_ p3
  have l4 := G4.at_ l3'
  have a4 := G4.at_ a3
  have lh4 : (H3 ++ [Ob.dct false []]).length = H3.length + 1 := by simp
  generalize hH4 : H3 ++ [Ob.dct false []] = H4 at *
  obtain ⟨H5, G5, e5, a5⟩ := byc (w1 := "by") (w2 := "only") (e := en7 b l h.length many H2.length H3.length P none none none) G04.cl k rfl rfl
  have G05 := G04.trans G5
  have lq := sel_len (ss := ["by", "only"]) k
  have nq := sel_names (ss := ["by", "only"]) k
  generalize ((sel ["by", "only"] P).map fun p => p.name) = qs at *
  have wk0 : Wk [] := ⟨fun _ m => absurd m List.not_mem_nil, List.nodup_nil⟩
  obtain ⟨kvs6, s6, H6, x7, e6, G6, w6, wk6, n6, g6, z6, k6⟩ := loop6 (l := l) (many := many) (gv := H2.length) (P := P) (all := qs.map Val.str) (x8 := none) (x9 := none) hb (w := H3.length) (by omega) (pl := h.length) (by omega) (by omega) (L := H4.length) (by omega) (by omega) qs [] s3 H5 none nq G05 (G5.at_ n4) (G5.at_ p4) a5 wk0 (by simp; omega) g3 (by omega)
  have l6 := k6 l _ nlb (by omega) (G5.at_ l4)
  have a6 := k6 H2.length _ (by omega) (by omega) (G5.at_ a4)
  simp only [List.length_nil, Nat.zero_add] at n6
  obtain ⟨r, s7, e7, r0, r1, g7, z7, c7, b7⟩ := take_g (m := 3) G6.cl (G6.at_ (at_same hb)) g6 (by omega) (by decide) (log_small (by decide) (by decide))
  have G7 := Grew.setb G6 (at_same hb) s7
  rw [List.set_set] at G7
  have w7 : (H6.set b (bx s7))[H3.length]? = some (.dct false kvs6) := at_put (by omega) w6
  have l7 : (H6.set b (bx s7))[l]? = some (.lst (ns.map Val.str)) := at_put nlb l6
  have a7 : (H6.set b (bx s7))[H2.length]? = some (.lst ys) := at_put (by omega) a6
  have ra7 := range_it (x := xCall 2 f__law_take (xCons (xVar 0) (xCons (xC (.int 3)) (xNil)))) (e := en7 b l h.length many H2.length H3.length P x7 none none) (h := H6) (r := r) (h1 := H6.set b (bx s7)) (by simp [en7, e7]) r0 (by omega)
  have lr7 : ((List.range r.toNat).map fun (i : Nat) => Val.int ((0 : Int) + i)).length = r.toNat := by simp
  generalize (List.range r.toNat).map (fun (i : Nat) => Val.int ((0 : Int) + i)) = rng at *
  generalize hH7 : H6.set b (bx s7) = H7 at *
  obtain ⟨kvs8, s8, H8, x8, e8, G8, w8, wk8, n8, g8, z8, k8⟩ := loop7 (pl := h.length) (many := many) (gv := H2.length) (P := P) (all := rng) (x7 := x7) (x9 := none) hb (w := H3.length) (by omega) nlb (by omega) hn hm rng kvs6 s7 H7 none G7 w7 l7 wk6 (by rw [lr7]; omega) g7 (by rw [lr7]; omega)
  have a8 := k8 H2.length _ (by omega) (by omega) a7
  have u9 : Ob.und (H8.length + 1) (.lst [.loc H2.length, .loc H3.length]) = true := by
    have u1 : H2.length < H8.length + 1 := by have := (List.getElem?_eq_some_iff.mp a8).1; omega
    have u2 : H3.length < H8.length + 1 := by have := (List.getElem?_eq_some_iff.mp w8).1; omega
    simp [Ob.und, undL, Val.und, u1, u2]
  have G9 : Grew H8 (H8 ++ [.lst [.loc H2.length, .loc H3.length]]) := Grew.new1 G8.cl u9
  have n9 : (H8 ++ [Ob.lst [.loc H2.length, .loc H3.length]])[H8.length]? = some (.lst [.loc H2.length, .loc H3.length]) := at_new
  have lw8 := (List.getElem?_eq_some_iff.mp w8).1
  have la8 := (List.getElem?_eq_some_iff.mp a8).1
  have z2' : (2 : Nat) ≤ sizeLine := sl_le (by decide)
  have hlen : H8.length ≥ h.length := by omega
  refine ⟨ys, kvs8, s8, _, H8.length, H2.length, H3.length, call_gl hlen ?_, G8.trans G9, hlen, by omega, by omega, by omega, by omega, by omega, n9, G9.at_ a8, G9.at_ w8, py, by omega, ⟨by omega, wk8.ok, wk8.nd⟩, by omega, g8, by omega⟩
  have A1 : sSet 3 (xComp (xIter (xVar 1)) (.name 9) (xTest (xBin (oIn2 gt) (xBin (oIx2 gt) (xVar 9) (xC (.int 0))) (xLst (xCons (xC (.str "by")) (xCons (xC (.str "or")) (xNil)))))) (xBin (oIx2 gt) (xVar 9) (xC (.int 1))) [9]) (en 10 [.loc b, .tup (P.map Pm.val), .loc l]) h = .nx [some (.loc b), some (.tup (P.map Pm.val)), some (.loc l), some (.loc h.length), none, none, none, none, none, none] H1 := by
    have : en 10 [.loc b, .tup (P.map Pm.val), .loc l] = [some (.loc b), some (.tup (P.map Pm.val)), some (.loc l), none, none, none, none, none, none, none] := rfl
    rw [this, run_set, e1]
    rfl
  have A3 : sSet 5 (xComp (xRange1 (xVar 4)) (.name 8) (xYes) (xCall 2 (f__law_worth 12) (xCons (xVar 0) (xCons (xC (.int 4)) (xNil)))) [8]) [some (.loc b), some (.tup (P.map Pm.val)), some (.loc l), some (.loc h.length), some (.int many), none, none, none, none, none] H2 = .nx [some (.loc b), some (.tup (P.map Pm.val)), some (.loc l), some (.loc h.length), some (.int many), some (.loc H2.length), none, none, none, none] H3 := by
    rw [run_set, e3]
    rfl
  have A4 : sSet 6 (xDict []) [some (.loc b), some (.tup (P.map Pm.val)), some (.loc l), some (.loc h.length), some (.int many), some (.loc H2.length), none, none, none, none] H3 = .nx (en7 b l h.length many H2.length H3.length P none none none) H4 := by
    rw [run_set, dict_nil, hH4]
    rfl
  have A5 : sFor (xIter (xComp (xIter (xVar 1)) (.name 9) (xTest (xBin (oIn2 gt) (xBin (oIx2 gt) (xVar 9) (xC (.int 0))) (xLst (xCons (xC (.str "by")) (xCons (xC (.str "only")) (xNil)))))) (xBin (oIx2 gt) (xVar 9) (xC (.int 1))) [9])) (.name 7) bd6 (en7 b l h.length many H2.length H3.length P none none none) H4 = .nx (en7 b l h.length many H2.length H3.length P x7 none none) H6 := by
    unfold sFor
    rw [run_iter, e5]
    simp only [bind_ok, itOf, a5, Itn.xs]
    exact e6
  have A6 : sFor (xRange1 (xCall 2 f__law_take (xCons (xVar 0) (xCons (xC (.int 3)) (xNil))))) (.name 8) bd7 (en7 b l h.length many H2.length H3.length P x7 none none) H6 = .nx (en7 b l h.length many H2.length H3.length P x7 x8 none) H8 := by
    unfold sFor
    rw [ra7]
    exact e8
  unfold x__law_call
  rw [seq_nx A1]
  have e2' := e2; unfold set4 at e2'
  rw [seq_nx e2', seq_nx A3, seq_nx A4]
  have A5' := A5; unfold bd6 at A5'
  rw [seq_nx A5']
  have A6' := A6; unfold bd7 at A6'
  rw [seq_nx A6']
  simp only [run_ret, run_lst, run_cons, run_nil, run_var, en7, List.getElem?_cons_succ, List.getElem?_cons_zero, bind_ok, List.length_cons, List.length_nil, Nat.zero_add, Nat.reduceAdd, z2', if_true]
end K

set_option Elab.async false
set_option linter.all false
set_option maxRecDepth 100000
set_option maxHeartbeats 4000000
namespace K
open PySem L2 EX XL
/-! ### repr of a list and a dict in a list -/
structure TmK (n k : Nat) (x : List (PyData × PyData)) : Prop where
  sh : PyData.showableKv x = true
  lv : PyData.leavesShortKv 13 x = true
  dp : PyData.depthKv x ≤ n
  bk : PyData.bulkKv x ≤ k
theorem kv_data {n k : Nat} : ∀ (kvs : Kvs), (∀ kv ∈ kvs, ∃ s, kv.1 = .inr s ∧ Nm s ∧ Tm n k kv.2) → ∃ ds, TmK n (kvs.length * (k + 10)) ((kvs.map fun p => keyD p.1).zip ds) ∧ ds.length = kvs.length ∧ ∀ (h : Hh) (j : Nat), n < j → datL (dat h j) (kvs.map (·.2)) = some ds
  | [], _ => ⟨[], ⟨rfl, rfl, Nat.zero_le _, Nat.zero_le _⟩, rfl, fun _ _ _ => rfl⟩
  | kv :: kvs, hk => by
    obtain ⟨s, e, nm, tm⟩ := hk kv (.head _)
    obtain ⟨ds, T, l, e2⟩ := kv_data kvs fun q m => hk q (.tail _ m)
    obtain ⟨kk, v⟩ := kv
    have e : kk = .inr s := e
    subst e
    obtain ⟨x, t, ex⟩ := tm
    have hl := nm.l8
    have kd : keyD (.inr s : Key) = .str s := rfl
    have ls : s.cps.toList.all (fun c => decide (c < 16 ^ 8)) = true := List.all_eq_true.mpr fun c m => decide_eq_true (by have := nm.sg c m; omega)
    refine ⟨x :: ds, ⟨?_, ?_, ?_, ?_⟩, by rw [List.length_cons, List.length_cons, l], fun h j hj => by rw [List.map_cons, datL, ex h j hj, e2 h j hj]⟩
    · simp only [List.map_cons, List.zip_cons_cons, PyData.showableKv, kd, PyData.showable, t.sh, T.sh, Bool.and_self]
    · simp only [List.map_cons, List.zip_cons_cons, PyData.leavesShortKv, kd, PyData.leavesShort, t.lv, T.lv, ls, Bool.and_self]
    · simp only [List.map_cons, List.zip_cons_cons, PyData.depthKv, kd, PyData.depth]
      have := t.dp; have := T.dp; omega
    · simp only [List.map_cons, List.zip_cons_cons, PyData.bulkKv, kd, PyData.bulk]
      have := t.bk; have := T.bk
      have hs : s.cps.size ≤ 8 := hl
      rw [List.length_cons, Nat.succ_mul]
      omega
theorem repr_pair {n k m' : Nat} {G : List Val} {kvs : Kvs} (tG : Tml n m' G) (tV : ∀ kv ∈ kvs, ∃ s, kv.1 = .inr s ∧ Nm s ∧ Tm n k kv.2) (hn : n ≤ 20) (hm : m' + kvs.length * (k + 10) + 2 ≤ 1048576) :
    ∃ r, ∀ (h : Hh) (m a d : Nat), h[m]? = some (.lst [.loc a, .loc d]) → h[a]? = some (.lst G) → h[d]? = some (.dct false kvs) → oRepr [.loc m] h = some (.str r, h) := by
  obtain ⟨xs, t, l, ex⟩ := tG
  obtain ⟨ds, T, ld, ed⟩ := kv_data kvs tV
  refine ⟨(PyData.list [.list xs, .dict ((kvs.map fun p => keyD p.1).zip ds)]).shown, fun h m a d em ea ed' => ?_⟩
  have d1 : dat h 39 (.loc a) = some (.list xs) := by rw [dat]; simp only [ea, ex h 38 (by omega), Option.map_some]
  have d2 : dat h 39 (.loc d) = some (.dict ((kvs.map fun p => keyD p.1).zip ds)) := by rw [dat]; simp only [ed', ed h 38 (by omega), Option.map_some]
  have d3 : dat h 40 (.loc m) = some (.list [.list xs, .dict ((kvs.map fun p => keyD p.1).zip ds)]) := by rw [dat]; simp only [em, datL, d1, d2, Option.map_some]
  have dp1 := t.dp
  have dp2 := T.dp
  simp only [oRepr, d3]
  rw [if_pos ⟨by simp only [PyData.showable, PyData.showableAll, t.sh, T.sh, Bool.and_self], shown_ok (by simp only [PyData.leavesShort, PyData.leavesShortAll, t.lv, T.lv, Bool.and_self]) (by simp only [PyData.bulk, PyData.bulkAll]; have := t.bk; have := T.bk; omega), by simp only [PyData.depth, PyData.depthAll]; omega⟩]
end K

set_option Elab.async false
set_option linter.all false
set_option maxRecDepth 100000
set_option maxHeartbeats 4000000
namespace K
open PySem L2 EX XL
/-! ### one call, held against what is due -/
def Ans (r : Except (Str × Val) Kvs) (v : Val) (H : Hh) (lo : Nat) : Prop := match r with
  | .ok T => ∃ m, v = .tup [.str "told", .loc m] ∧ lo ≤ m ∧ H[m]? = some (.dct false T)
  | .error q => v = .tup [.str q.1, q.2]
def Good (r : Except (Str × Val) Kvs) : Prop := match r with
  | .ok T => Told T
  | .error q => Eg q
theorem ans_same {r : Except (Str × Val) Kvs} {v v' : Val} {H : Hh} {lo lo' : Nat} (c : Cl H) (g : Good r) (a : Ans r v H lo) (a' : Ans r v' H lo') : f__law_same [v, v'] H = .ok (.bl true) H := by
  cases r with
  | error q =>
    have a : v = _ := a
    have a' : v' = _ := a'
    rw [a, a']
    exact same_err c g
  | ok T =>
    obtain ⟨m, rfl, _, e⟩ := a
    obtain ⟨m', rfl, _, e'⟩ := a'
    exact same_told c g e e'
theorem ans_keep {r : Except (Str × Val) Kvs} {v : Val} {H H' : Hh} {lo : Nat} (a : Ans r v H lo) (k : ∀ j o, lo ≤ j → H[j]? = some o → H'[j]? = some o) : Ans r v H' lo := by
  cases r with
  | error q => exact a
  | ok T =>
    obtain ⟨m, e, l, e'⟩ := a
    exact ⟨m, e, l, k m _ l e'⟩
theorem ans_lt {r : Except (Str × Val) Kvs} {v : Val} {H H' : Hh} {lo : Nat} (a : Ans r v H lo) (k : ∀ j o, lo ≤ j → j < H.length → H[j]? = some o → H'[j]? = some o) : Ans r v H' lo := by
  cases r with
  | error q => exact a
  | ok T =>
    obtain ⟨m, e, l, e'⟩ := a
    exact ⟨m, e, l, k m _ l (List.getElem?_eq_some_iff.mp e').1 e'⟩
theorem due_a {P : List Pm} {G : List Val} {kvs : Kvs} {kd d a : Nat} {h : Hh} (c : Cl h) (k : Pms P) (ea : h[a]? = some (.lst G)) (hw : ∀ x ∈ G, Wv 3 4 x) (hl : G.length ≤ 20) (hd : h[d]? = some (.dct false kvs)) (w : Nw kvs) (hk : ∀ h, Cl h → f__law_deep 12 [rowV (left P G)] h = .ok (.int kd) h) :
    ∃ H v, Grew h H ∧ f__law_due [.tup (P.map Pm.val), .loc a, .loc d] h = .ok v H ∧ Ans (matP P G kvs kd) v H h.length := by
  have := due_ok c k ea hw hl hd w hk
  cases hr : matP P G kvs kd with
  | error q => rw [hr] at this; exact ⟨h, _, Grew.refl c, this, rfl⟩
  | ok T =>
    rw [hr] at this
    obtain ⟨H, m, G', e, l, e'⟩ := this
    exact ⟨H, _, G', e, m, rfl, l, e'⟩
theorem found_a {P : List Pm} {G : List Val} {kvs : Kvs} {kd d : Nat} {v : Val} {h : Hh} (c : Cl h) (k : Pms P) (s : Sq h v G) (hw : ∀ x ∈ G, Wv 3 4 x) (hl : G.length ≤ 20) (hd : h[d]? = some (.dct false kvs)) (w : Nw kvs) (hk : ∀ h, Cl h → f_is_worth [rowV (left P G)] h = .ok (.bl (decide (kd ≤ 4))) h) :
    ∃ H u, Grew h H ∧ f__law_found [.tup (P.map Pm.val), v, .loc d] h = .ok u H ∧ Ans (matP P G kvs kd) u H h.length := by
  have := found_ok c k s hw hl hd w hk
  cases hr : matP P G kvs kd with
  | error q => rw [hr] at this; exact ⟨h, _, Grew.refl c, this, rfl⟩
  | ok T =>
    rw [hr] at this
    obtain ⟨H, m, G', e, l, e'⟩ := this
    exact ⟨H, _, G', e, m, rfl, l, e'⟩
theorem good_mat {P : List Pm} {G : List Val} {kvs : Kvs} {kd : Nat} (k : Pms P) (hw : ∀ x ∈ G, Wv 3 4 x) (hl : G.length ≤ 20) (w : Nw kvs) : Good (matP P G kvs kd) := by
  have := mat_good (kd := kd) k hw hl w
  cases hr : matP P G kvs kd with
  | error q => rw [hr] at this; exact this
  | ok T => rw [hr] at this; exact this
theorem Nw.tv {kvs : Kvs} (w : Nw kvs) : ∀ kv ∈ kvs, ∃ s, kv.1 = .inr s ∧ Nm s ∧ Tm 11 5990 kv.2 := fun kv m => by
  obtain ⟨s, e, n, wv⟩ := w.ok kv m
  exact ⟨s, e, n, wv.tm4.le (by decide) (Nat.le_refl _)⟩
theorem Wv.wide {m n d : Nat} {v : Val} (w : Wv m d v) (h : m ≤ n) : Wv n d v := by
  induction w with
  | flat f => exact .flat f
  | row l _ ih => exact .row (Nat.le_trans l h) ih
theorem G_tml {G : List Val} (hw : ∀ x ∈ G, Wv 3 4 x) (hl : G.length ≤ 20) : Tml 11 (20 * 5991) G := (Tml.of fun v m => (hw v m).tm4).le (by decide) (Nat.mul_le_mul_right _ hl)
noncomputable def rst5 : XS := (sSeq (sExpr (xMeth "list" oAppend (xBin (oIx2 gt) (xVar 6) (xC (.int 0))) (xCons (xC (.int 5)) (xNil)))) (sSeq (sSetIx (xBin (oIx2 gt) (xVar 6) (xC (.int 1))) (xC (.str "zzzzzzzz")) (xC (.int 5))) (sSeq (sIf (xNotT (xTru (xCall 2 f__law_same (xCons (xVar 7) (xCons (xVar 5) (xNil)))))) (sRet (xC (.bl false))) (sNil)) (sSeq (sIf (xTest (xBin oEq (xBin (oIx2 gt) (xVar 7) (xC (.int 0))) (xC (.str "told")))) (sExpr (xUn oClear (xBin (oIx2 gt) (xVar 7) (xC (.int 1))))) (sNil)) (sRet (xAndV (xCall 2 f__law_same (xCons (xCall 3 f__law_found (xCons (xVar 1) (xCons (xCallN oTuple (xCons (xVar 3) (xNil))) (xCons (xVar 4) (xNil))))) (xCons (xVar 5) (xNil)))) (xCall 2 f__law_same (xCons (xCall 3 f__law_found (xCons (xVar 1) (xCons (xVar 3) (xCons (xVar 4) (xNil))))) (xCons (xVar 5) (xNil))))))))))
theorem right_ok {h : Hh} {b l : Nat} {s : Bs} {ns : List Str} {P : List Pm} (c : Cl h) (hb : h[b]? = some (bx s)) (el : h[l]? = some (.lst (ns.map Val.str))) (hn : ns.length = 7) (hm : ∀ n ∈ ns, Nm n) (k : Pms P) (g : Gd s) (hz : s.z + 50000 ≤ 4194304) :
    ∃ s', f__law_right [.loc b, .tup (P.map Pm.val), .loc l] h = .ok (.bl true) (h.set b (bx s')) ∧ Gd s' ∧ s'.z ≤ s.z + 50000 := by
  have z2 : (2 : Nat) ≤ sizeLine := sl_le (by decide)
  obtain ⟨G, kvs, s1, H1, m, gv, w, e1, G1, lm, lgv, lw, gw, mg, mw, em, eg, ew, hw, hl, nw, k8, g1, z1⟩ := call_mk c hb el hn hm k g hz
  obtain ⟨kd, k1, k2⟩ := row_worth (m := 20) (xs := left P G) (by decide) (by unfold left; rw [List.length_drop]; omega) (fun x mx => (hw x (left_mem mx)).wide (by decide))
  have good := good_mat (kd := kd) k hw hl nw
  obtain ⟨H2, vd, G2, e2, A2⟩ := due_a G1.cl k eg hw hl ew nw k2
  have found := fun {h : Hh} {v : Val} {d : Nat} (c : Cl h) (s : Sq h v G) (hd : h[d]? = some (.dct false kvs)) => found_a (kd := kd) c k s hw hl hd nw k1
  generalize matP P G kvs kd = R at *
  have GB2 := G1.trans G2
  have eg2 := G2.at_ eg
  have ew2 := G2.at_ ew
  have lg1 := (List.getElem?_eq_some_iff.mp eg).1
  have lw1 := (List.getElem?_eq_some_iff.mp ew).1
  have l12 := G2.le
  have lB : h.length ≤ H1.length := by have := G1.le; rwa [List.length_set] at this
  have uG : undL 0 G = true := undL_of fun x mx => (hw x mx).und
  have uK : Ob.und 0 (.dct false kvs) = true := und_dct fun q mq => by obtain ⟨_, _, _, wv⟩ := nw.ok q mq; exact wv.und
  -- the copies
  have oL : oListD [.loc gv] H2 = some (.loc H2.length, H2 ++ [.lst G]) := by simp [oListD, eg2, oList]
  have Ga : Grew H2 (H2 ++ [.lst G]) := Grew.new G2.cl uG
  have na : (H2 ++ [Ob.lst G])[H2.length]? = some (.lst G) := at_new
  have la : (H2 ++ [Ob.lst G]).length = H2.length + 1 := by simp
  generalize hHa : H2 ++ [Ob.lst G] = Ha at *
  have oD : oDictOf [.loc w] Ha = some (.loc Ha.length, Ha ++ [.dct false kvs]) := by simp [oDictOf, Ga.at_ ew2]
  have Gb : Grew Ha (Ha ++ [.dct false kvs]) := Grew.new Ga.cl uK
  have nb : (Ha ++ [Ob.dct false kvs])[Ha.length]? = some (.dct false kvs) := at_new
  have lb : (Ha ++ [Ob.dct false kvs]).length = Ha.length + 1 := by simp
  generalize hHb : Ha ++ [Ob.dct false kvs] = Hb at *
  have Gc : Grew Hb (Hb ++ [.lst [.loc H2.length, .loc Ha.length]]) := Grew.new1 Gb.cl (by simp [Ob.und, undL, Val.und]; omega)
  have nc : (Hb ++ [Ob.lst [.loc H2.length, .loc Ha.length]])[Hb.length]? = some (.lst [.loc H2.length, .loc Ha.length]) := at_new
  have lc : (Hb ++ [Ob.lst [.loc H2.length, .loc Ha.length]]).length = Hb.length + 1 := by simp
  have a3 := Gc.at_ (Gb.at_ na)
  have d3 := Gc.at_ nb
  have G23 := (Ga.trans Gb).trans Gc
  generalize hH3 : Hb ++ [Ob.lst [Val.loc H2.length, Val.loc Ha.length]] = H3 at *
  obtain ⟨H4, v1, G4, e4, A4⟩ := found (h := H3) (v := .loc H2.length) (d := Ha.length) Gc.cl (.loc a3) d3
  have G24 := G23.trans G4
  have A2' : Ans R vd H4 H1.length := ans_keep A2 fun j o _ e => G24.at_ e
  have same4 := ans_same G4.cl good A4 A2'
  obtain ⟨r, hr⟩ := repr_pair (G_tml hw hl) nw.tv (by decide) (by have := nw.len; omega)
  have r4 := hr H4 Hb.length H2.length Ha.length (G4.at_ nc) (G4.at_ a3) (G4.at_ d3)
  have eg4 := G24.at_ eg2
  have ew4 := G24.at_ ew2
  have lg4 := (List.getElem?_eq_some_iff.mp eg4).1
  have lw4 := (List.getElem?_eq_some_iff.mp ew4).1
  have G5 : Grew H4 (H4 ++ [.lst [.loc gv, .loc w]]) := Grew.new1 G4.cl (by simp [Ob.und, undL, Val.und]; omega)
  have n5 : (H4 ++ [Ob.lst [.loc gv, .loc w]])[H4.length]? = some (.lst [.loc gv, .loc w]) := at_new
  have G25 := G24.trans G5
  have GB5 := GB2.trans G25
  have eg5 := G5.at_ eg4
  have ew5 := G5.at_ ew4
  have nc5 := G5.at_ (G4.at_ nc)
  have a5 := G5.at_ (G4.at_ a3)
  have d5 := G5.at_ (G4.at_ d3)
  have A15 : Ans R v1 (H4 ++ [Ob.lst [.loc gv, .loc w]]) H3.length := ans_keep A4 fun j o _ e => G5.at_ e
  have A25 : Ans R vd (H4 ++ [Ob.lst [.loc gv, .loc w]]) H1.length := ans_keep A2' fun j o _ e => G5.at_ e
  have lAlt : ∀ j o, H2[j]? = some o → j < H2.length := fun j o e => (List.getElem?_eq_some_iff.mp e).1
  have lh1B : (h.set b (bx s1)).length = h.length := List.length_set
  have r5 := hr _ H4.length gv w n5 eg5 ew5
  generalize hH5 : H4 ++ [Ob.lst [Val.loc gv, Val.loc w]] = H5 at *
  -- changed
  have z21 : G.length < sizeLine := by have : 21 ≤ sizeLine := sl_le (by decide); omega
  have ap : oAppend (.loc H2.length) [.int 5] H5 = some (.non, H5.set H2.length (.lst (G ++ [.int 5]))) := by simp only [oAppend, a5, z21, if_true]
  have isL : isTy "list" (.loc H2.length) H5 = true := by simp [isTy, a5]
  have G6 : Grew (h.set b (bx s1)) (H5.set H2.length (.lst (G ++ [.int 5]))) := GB5.put (by omega) (undL_le (Nat.zero_le _) (undL_of fun x mx => by
    rcases List.mem_append.mp mx with mx | mx
    · exact (hw x mx).und
    · rw [List.mem_singleton.mp mx]; rfl))
  have d6 : (H5.set H2.length (.lst (G ++ [.int 5])))[Ha.length]? = some (.dct false kvs) := at_put (by omega) d5
  have c6 : (H5.set H2.length (.lst (G ++ [.int 5])))[Hb.length]? = some (.lst [.loc H2.length, .loc Ha.length]) := at_put (by omega) nc5
  have eg6 : (H5.set H2.length (.lst (G ++ [.int 5])))[gv]? = some (.lst G) := at_put (by omega) eg5
  have ew6 : (H5.set H2.length (.lst (G ++ [.int 5])))[w]? = some (.dct false kvs) := at_put (by omega) ew5
  have keep6 : ∀ j o, j ≠ H2.length → H5[j]? = some o → (H5.set H2.length (.lst (G ++ [.int 5])))[j]? = some o := fun j o hj e => at_put hj e
  generalize hH6 : H5.set H2.length (.lst (G ++ [.int 5])) = H6 at *
  have z31 : kvs.length < sizeLine := by have : 31 ≤ sizeLine := sl_le (by decide); have := nw.len; omega
  have st := set_dct (s := "zzzzzzzz") (v := .int 5) d6 z31
  have G7 : Grew (h.set b (bx s1)) (H6.set Ha.length (.dct false (putX kvs (.inr "zzzzzzzz") (.int 5)))) := G6.put (by omega) (ob_le (Nat.zero_le _) (und_dct fun q mq => by
    rcases putX_mem mq with ⟨_, e⟩ | mq
    · rw [e]; rfl
    · obtain ⟨_, _, _, wv⟩ := nw.ok q mq; exact wv.und))
  have eg7 : (H6.set Ha.length (.dct false (putX kvs (.inr "zzzzzzzz") (.int 5))))[gv]? = some (.lst G) := at_put (by omega) eg6
  have ew7 : (H6.set Ha.length (.dct false (putX kvs (.inr "zzzzzzzz") (.int 5))))[w]? = some (.dct false kvs) := at_put (by omega) ew6
  have keep7 : ∀ j o, j ≠ H2.length → j ≠ Ha.length → H5[j]? = some o → (H6.set Ha.length (.dct false (putX kvs (.inr "zzzzzzzz") (.int 5))))[j]? = some o := fun j o hj hd e => at_put hd (keep6 j o hj e)
  generalize hH7 : H6.set Ha.length (.dct false (putX kvs (.inr "zzzzzzzz") (.int 5))) = H7 at *
  have A17 : Ans R v1 H7 H3.length := ans_keep A15 fun j o lj e => keep7 j o (by omega) (by omega) e
  have A2lt : Ans R vd H7 H1.length := by
    cases R with
    | error q => exact A25
    | ok T =>
      obtain ⟨md, ed, ld, edd⟩ := A2
      have := lAlt md _ edd
      exact ⟨md, ed, ld, keep7 md _ (by omega) (by omega) (G25.at_ edd)⟩
  have same7 := ans_same G7.cl good A17 A2lt
  -- cleared
  have T9 : ∃ H9, Grew (h.set b (bx s1)) H9 ∧ sIf (xTest (xBin oEq (xBin (oIx2 gt) (xVar 7) (xC (.int 0))) (xC (.str "told")))) (sExpr (xUn oClear (xBin (oIx2 gt) (xVar 7) (xC (.int 1))))) (sNil) [some (.loc b), some (.tup (P.map Pm.val)), some (.loc l), some (.loc gv), some (.loc w), some vd, some (.loc Hb.length), some v1] H7 = .nx [some (.loc b), some (.tup (P.map Pm.val)), some (.loc l), some (.loc gv), some (.loc w), some vd, some (.loc Hb.length), some v1] H9 ∧ ∀ j o, j < H3.length → H7[j]? = some o → H9[j]? = some o := by
    cases R with
    | error q =>
      have A : v1 = .tup [.str q.1, q.2] := A17
      have ne : q.1 ≠ ("told" : Str) := (show Eg q from good).ne
      refine ⟨H7, G7, ?_, fun j o _ e => e⟩
      rw [A]
      simp [ne]
    | ok T =>
      obtain ⟨m1, rfl, lm1, em1⟩ := A17
      refine ⟨H7.set m1 (.dct false []), G7.put (by omega) rfl, ?_, fun j o hj e => at_put (by omega) e⟩
      simp [oClear, em1]
  obtain ⟨H9, G9, e9, keep9⟩ := T9
  have lg9 : gv < H3.length := by omega
  have lw9 : w < H3.length := by omega
  have eg9 := keep9 gv _ lg9 eg7
  have ew9 := keep9 w _ lw9 ew7
  have A29 : Ans R vd H9 H1.length := by
    cases R with
    | error q => exact A2lt
    | ok T =>
      obtain ⟨md, ed, ld, edd⟩ := A2
      have := lAlt md _ edd
      have e7 := keep7 md _ (by omega) (by omega) (G25.at_ edd)
      exact ⟨md, ed, ld, keep9 md _ (by omega) e7⟩
  -- the last two
  have tu : oTuple [.loc gv] H9 = some (.tup G, H9) := by simp only [oTuple, eg9]
  obtain ⟨H10, v2, G10, e10, A10⟩ := found (h := H9) (v := .tup G) (d := w) G9.cl .tup ew9
  have A210 : Ans R vd H10 H1.length := ans_keep A29 fun j o _ e => G10.at_ e
  have same10 := ans_same G10.cl good A10 A210
  obtain ⟨H11, v3, G11, e11, A11⟩ := found (h := H10) (v := .loc gv) (d := w) G10.cl (.loc (G10.at_ eg9)) (G10.at_ ew9)
  have A211 : Ans R vd H11 H1.length := ans_keep A210 fun j o _ e => G11.at_ e
  have same11 := ans_same G11.cl good A11 A211
  refine ⟨s1, call_gb c rfl ((G9.trans G10).trans G11) ?_, g1, z1⟩
  have B1 : sAsgE [.name 3, .name 4] (xCall 3 f__law_call (xCons (xVar 0) (xCons (xVar 1) (xCons (xVar 2) (xNil))))) (en 8 [.loc b, .tup (P.map Pm.val), .loc l]) h = .nx [some (.loc b), some (.tup (P.map Pm.val)), some (.loc l), some (.loc gv), some (.loc w), none, none, none] H1 := by
    simp [sAsgE, en, e1, itemsX, em, putL, Tg.put]
  have B2 : sSet 5 (xCall 3 f__law_due (xCons (xVar 1) (xCons (xVar 3) (xCons (xVar 4) (xNil))))) [some (.loc b), some (.tup (P.map Pm.val)), some (.loc l), some (.loc gv), some (.loc w), none, none, none] H1 = .nx [some (.loc b), some (.tup (P.map Pm.val)), some (.loc l), some (.loc gv), some (.loc w), some vd, none, none] H2 := by
    simp [e2]
  have B3 : sSet 6 (xLst (xCons (xCallN oListD (xCons (xVar 3) (xNil))) (xCons (xCallN oDictOf (xCons (xVar 4) (xNil))) (xNil)))) [some (.loc b), some (.tup (P.map Pm.val)), some (.loc l), some (.loc gv), some (.loc w), some vd, none, none] H2 = .nx [some (.loc b), some (.tup (P.map Pm.val)), some (.loc l), some (.loc gv), some (.loc w), some vd, some (.loc Hb.length), none] H3 := by
    simp only [run_set, run_lst, run_cons, run_nil, run_callN, run_var, List.getElem?_cons_succ, List.getElem?_cons_zero, bind_ok, oL, of_some, oD, List.length_cons, List.length_nil, Nat.zero_add, Nat.reduceAdd, z2, if_true, hH3]
    rfl
  have i30 : oIx2 gt (.loc Hb.length) (.int 0) H3 = some (.loc H2.length, H3) := lst_at (n := 0) nc rfl
  have i31 : oIx2 gt (.loc Hb.length) (.int 1) H3 = some (.loc Ha.length, H3) := lst_at (n := 1) nc rfl
  have B4 : sSet 7 (xCall 3 f__law_found (xCons (xVar 1) (xCons (xBin (oIx2 gt) (xVar 6) (xC (.int 0))) (xCons (xBin (oIx2 gt) (xVar 6) (xC (.int 1))) (xNil))))) [some (.loc b), some (.tup (P.map Pm.val)), some (.loc l), some (.loc gv), some (.loc w), some vd, some (.loc Hb.length), none] H3 = .nx [some (.loc b), some (.tup (P.map Pm.val)), some (.loc l), some (.loc gv), some (.loc w), some vd, some (.loc Hb.length), some v1] H4 := by
    simp only [run_set, run_call, run_cons, run_nil, run_var, run_bin, run_C, List.getElem?_cons_succ, List.getElem?_cons_zero, bind_ok, i30, i31, of_some, List.length_cons, List.length_nil, Nat.zero_add, Nat.reduceAdd, if_true, e4]
    rfl
  have B5 : sIf (xOrT (xNotT (xTru (xCall 2 f__law_same (xCons (xVar 7) (xCons (xVar 5) (xNil)))))) (xTest (xBin oNe (xCallN oRepr (xCons (xVar 6) (xNil))) (xCallN oRepr (xCons (xLst (xCons (xVar 3) (xCons (xVar 4) (xNil)))) (xNil)))))) (sRet (xC (.bl false))) (sNil) [some (.loc b), some (.tup (P.map Pm.val)), some (.loc l), some (.loc gv), some (.loc w), some vd, some (.loc Hb.length), some v1] H4 = .nx [some (.loc b), some (.tup (P.map Pm.val)), some (.loc l), some (.loc gv), some (.loc w), some vd, some (.loc Hb.length), some v1] H5 := by
    simp only [run_sif, run_orT, run_notT, run_tru, run_test, run_call, run_callN, run_cons, run_nil, run_var, run_bin, run_lst, List.getElem?_cons_succ, List.getElem?_cons_zero, bind_ok, same4, truth_bl, Bool.not_true, Bool.false_eq_true, if_false, r4, of_some, List.length_cons, List.length_nil, Nat.zero_add, Nat.reduceAdd, if_true, z2, hH5, r5, ne_str, decide_true, Bool.not_true, run_snil]
  have i50 : oIx2 gt (.loc Hb.length) (.int 0) H5 = some (.loc H2.length, H5) := lst_at (n := 0) nc5 rfl
  have i61 : oIx2 gt (.loc Hb.length) (.int 1) H6 = some (.loc Ha.length, H6) := lst_at (n := 1) c6 rfl
  have B6 : sExpr (xMeth "list" oAppend (xBin (oIx2 gt) (xVar 6) (xC (.int 0))) (xCons (xC (.int 5)) (xNil))) [some (.loc b), some (.tup (P.map Pm.val)), some (.loc l), some (.loc gv), some (.loc w), some vd, some (.loc Hb.length), some v1] H5 = .nx [some (.loc b), some (.tup (P.map Pm.val)), some (.loc l), some (.loc gv), some (.loc w), some vd, some (.loc Hb.length), some v1] H6 := by
    simp only [run_expr, run_meth, run_bin, run_var, run_C, run_cons, run_nil, List.getElem?_cons_succ, List.getElem?_cons_zero, bind_ok, i50, of_some, isL, if_true, ap]
  have B7 : sSetIx (xBin (oIx2 gt) (xVar 6) (xC (.int 1))) (xC (.str "zzzzzzzz")) (xC (.int 5)) [some (.loc b), some (.tup (P.map Pm.val)), some (.loc l), some (.loc gv), some (.loc w), some vd, some (.loc Hb.length), some v1] H6 = .nx [some (.loc b), some (.tup (P.map Pm.val)), some (.loc l), some (.loc gv), some (.loc w), some vd, some (.loc Hb.length), some v1] H7 := by
    simp only [run_setix, run_bin, run_var, run_C, List.getElem?_cons_succ, List.getElem?_cons_zero, bind_ok, i61, of_some, st, hH7]
  have B8 : sIf (xNotT (xTru (xCall 2 f__law_same (xCons (xVar 7) (xCons (xVar 5) (xNil)))))) (sRet (xC (.bl false))) (sNil) [some (.loc b), some (.tup (P.map Pm.val)), some (.loc l), some (.loc gv), some (.loc w), some vd, some (.loc Hb.length), some v1] H7 = .nx [some (.loc b), some (.tup (P.map Pm.val)), some (.loc l), some (.loc gv), some (.loc w), some vd, some (.loc Hb.length), some v1] H7 := by
    simp only [run_sif, run_notT, run_tru, run_call, run_cons, run_nil, run_var, List.getElem?_cons_succ, List.getElem?_cons_zero, bind_ok, same7, truth_bl, Bool.not_true, Bool.false_eq_true, if_false, List.length_cons, List.length_nil, Nat.zero_add, Nat.reduceAdd, if_true, run_snil]
  unfold x__law_right
  rw [seq_nx B1, seq_nx B2, seq_nx B3, seq_nx B4, seq_nx B5, seq_nx B6, seq_nx B7, seq_nx B8, seq_nx e9]
  simp only [run_ret, run_andV, run_call, run_cons, run_nil, run_var, run_callN, List.getElem?_cons_succ, List.getElem?_cons_zero, bind_ok, tu, of_some, List.length_cons, List.length_nil, Nat.zero_add, Nat.reduceAdd, if_true, e10, same10, e11, same11]
end K

set_option Elab.async false
set_option linter.all false
set_option maxRecDepth 100000
set_option maxHeartbeats 4000000
namespace K
open PySem L2 EX XL
/-! ### the law -/
theorem len_scrI {ns : List Int} {h : Hh} : oLenD [.scr (ns.map Val.int)] h = some (.int ns.length, h) := by
  simp [oLenD, oLen, vLen]
theorem max2 {i j : Int} {h : Hh} : oMaxL [.int i, .int j] h = some (.int (max i j), h) := by
  have : (if j > i then j else i) = max i j := by split <;> omega
  unfold oMaxL oMax
  simp only [this]
theorem min2 {i j : Int} {h : Hh} : oMin [.int i, .int j] h = some (.int (min i j), h) := by
  have : (if j < i then j else i) = min i j := by split <;> omega
  unfold oMin
  simp only [this]
theorem cell_ok {ns : List Int} {k : Nat} {h : Hh} (c : Cl h) (hk : k ≤ 100) : ∃ i : Int, f__law_cell [.scr (ns.map Val.int), .int k] h = .ok (.int i) h := by
  by_cases hc : k < ns.length
  · have q : decide ((k : Int) < (ns.length : Int)) = true := decide_eq_true (by omega)
    refine ⟨ns[k], call_g c rfl (Grew.refl c) ?_⟩
    have e : oIx2 gt (.scr (ns.map Val.int)) (.int k) h = some (.int ns[k], h) := by
      have : atI (ns.map Val.int) (k : Int) = some (.int ns[k]) := by
        rw [atI_nat (by rw [List.length_map]; exact hc)]
        simp [List.getElem?_eq_getElem hc]
      show oIx (.scr (ns.map Val.int)) (.int k) h = _
      unfold oIx
      simp only [this, Option.map_some]
    have hc' : (k : Int) < ns.length := by omega
    simp [en, x__law_cell, len_scrI, hc', e]
  · have hc' : ¬ (k : Int) < ns.length := by omega
    have mu : oMul3 (.int 77377) (.int k) h = some (.int (77377 * k), h) := by
      simp [oMul3, oMul2, oMul]
    refine ⟨77377 * k + 311, call_g c rfl (Grew.refl c) ?_⟩
    simp [en, x__law_cell, len_scrI, hc', mu]
theorem box_ok {i : Int} {h : Hh} (c : Cl h) : ∃ s, f__law_box [.int i] h = .ok (.loc h.length) (h ++ [bx s]) ∧ Gd s ∧ s.z = 0 := by
  have z3 : (3 : Nat) ≤ sizeLine := sl_le (by decide)
  have pw : oPow (.int 10) (.int 18) h = some (.int 1000000000000000000, h) := rfl
  have md : oMod (.int i) (.int 2147483629) h = some (.int (i % 2147483629), h) := by simp [oMod]
  have b1 := Int.emod_lt_of_pos i (show (0 : Int) < 2147483629 by decide)
  refine ⟨⟨max 0 (i - 1000000000000000000), i % 2147483629, 0⟩, call_gl (Nat.le_refl _) ?_, ⟨Int.le_max_left _ _, Int.emod_nonneg _ (by decide), by show i % 2147483629 < 2 ^ 31; omega, Int.le_refl _⟩, rfl⟩
  simp only [x__law_box, en, run_ret, run_lst, run_cons, run_nil, run_callN, run_bin, run_var, run_C, List.map_cons, List.map_nil, List.cons_append, List.getElem?_cons_zero, bind_ok, pw, of_some, sub_int, max2, md, List.length_cons, List.length_nil, Nat.zero_add, Nat.reduceAdd, z3, if_true]
  rfl
noncomputable def bdT : XS := sIf (xNotT (xTru (xCall 3 f__law_right (xCons (xVar 2) (xCons (xVar 4) (xCons (xVar 3) (xNil))))))) (sRet (xC (.bl false))) (sNil)
def en0 (sc : Val) (k : Option Val) (b l : Nat) (P : List Pm) (t : Option Val) : En := [some sc, k, some (.loc b), some (.loc l), some (.tup (P.map Pm.val)), t]
theorem turns {sc : Val} {k : Option Val} {b l : Nat} {P : List Pm} {ns : List Str} {all : List Val} (lb : l ≠ b) (hn : ns.length = 7) (hm : ∀ n ∈ ns, Nm n) (kP : Pms P) :
    ∀ (r : List Val) (t : Option Val) (s : Bs) (h : Hh), Cl h → h[b]? = some (bx s) → h[l]? = some (.lst (ns.map Val.str)) → Gd s → s.z + 50000 * r.length ≤ 4194304 →
      ∃ t' s', forLoop (.items all) (.name 5) bdT r (en0 sc k b l P t) h = .nx (en0 sc k b l P t') (h.set b (bx s')) ∧ Cl (h.set b (bx s'))
  | [], t, s, h, c, hb, el, g, hz => ⟨t, s, by rw [forLoop, if_pos (show (Itn.items all).okAt h from trivial), set_same hb], by rw [set_same hb]; exact c⟩
  | v :: r, t, s, h, c, hb, el, g, hz => by
    rw [List.length_cons] at hz
    obtain ⟨s1, e1, g1, z1⟩ := right_ok c hb el hn hm kP g (by omega)
    have c1 := c.put2 b (bx_und s1)
    obtain ⟨t', s2, e2, c2⟩ := turns (sc := sc) (k := k) (all := all) lb hn hm kP r (some v) s1 (h.set b (bx s1)) c1 (at_same hb) (at_put lb el) g1 (by omega)
    rw [List.set_set] at e2 c2
    refine ⟨t', s2, ?_, c2⟩
    rw [forLoop, if_pos (show (Itn.items all).okAt h from trivial)]
    have pt : Tg.put (.name 5) v (en0 sc k b l P t) = some (en0 sc k b l P (some v)) := rfl
    have bd : bdT (en0 sc k b l P (some v)) h = .nx (en0 sc k b l P (some v)) (h.set b (bx s1)) := by
      simp [bdT, en0, e1]
    simp only [pt, bd]
    exact e2
noncomputable def XB : XS := sSeq (sSet 2 (xCall 1 f__law_box (xCons (xCall 2 f__law_cell (xCons (xVar 0) (xCons (xVar 1) (xNil)))) (xNil)))) (sSeq (sSet 3 (xCall 2 f__law_names (xCons (xVar 2) (xCons (xC (.int 7)) (xNil))))) (sSeq (sSet 4 (xCall 3 f__law_params (xCons (xVar 2) (xCons (xSl oSl (xVar 3) none (some (xC (.int 6)))) (xCons (xC (.int 6)) (xNil)))))) (sFor (xRange1 (xC (.int 6))) (.name 5) bdT)))
theorem step_ok {ns : List Int} {k : Nat} {x2 x3 x4 x5 : Option Val} {h : Hh} (c : Cl h) (hk : k ≤ 100) : ∃ x2' x3' x4' x5' h', XB [some (.scr (ns.map Val.int)), some (.int k), x2, x3, x4, x5] h = .nx [some (.scr (ns.map Val.int)), some (.int k), x2', x3', x4', x5'] h' ∧ Cl h' := by
  obtain ⟨i, e1⟩ := cell_ok (ns := ns) c hk
  obtain ⟨s, e2, g, z⟩ := box_ok (i := i) c
  have c2 : Cl (h ++ [bx s]) := c.app2 (bx_und s)
  have b2 : (h ++ [bx s])[h.length]? = some (bx s) := at_new
  have l2 : (h ++ [bx s]).length = h.length + 1 := by simp
  generalize h ++ [bx s] = H2 at *
  obtain ⟨nm, s3, H3, m, e3, G3, lm, em, N, g3, z3⟩ := names_ok c2 b2 g (by omega)
  have b3 : H3[h.length]? = some (bx s3) := G3.at_ (at_same b2)
  have sl : oSl (.loc m) none (some (6 : Int)) H3 = some (.loc H3.length, H3 ++ [.lst ((nm.take 6).map Val.str)]) := by
    have ct : cutX (nm.map Val.str) none (some (6 : Int)) = (nm.map Val.str).take 6 := cut_take (n := 6)
    simp only [oSl, em, ct, List.map_take]
  have G4 : Grew H3 (H3 ++ [.lst ((nm.take 6).map Val.str)]) := Grew.new G3.cl (undL_of fun x mx => by obtain ⟨i, _, rfl⟩ := List.mem_map.mp mx; rfl)
  have n4 : (H3 ++ [Ob.lst ((nm.take 6).map Val.str)])[H3.length]? = some (.lst ((nm.take 6).map Val.str)) := at_new
  have b4 := G4.at_ b3
  have em4 := G4.at_ em
  generalize hH4 : H3 ++ [Ob.lst ((nm.take 6).map Val.str)] = H4 at *
  have n7 := N.len
  obtain ⟨P, s5, e5, kP, g5, z5⟩ := params_mk G4.cl b4 n4 (by rw [List.length_take, n7]; rfl) (N.nd.sublist (List.take_sublist _ _)) (fun n mn => N.ok n (List.mem_of_mem_take mn)) g3 (by omega)
  have c5 := G4.cl.put2 h.length (bx_und s5)
  have lb : m ≠ h.length := by omega
  obtain ⟨t, s6, e6, c6⟩ := turns (sc := .scr (ns.map Val.int)) (k := some (.int k)) (all := (List.range 6).map fun (i : Nat) => Val.int ((0 : Int) + i)) (P := P) lb n7 N.ok kP ((List.range 6).map fun (i : Nat) => Val.int ((0 : Int) + i)) x5 s5 (H4.set h.length (bx s5)) c5 (at_same b4) (at_put lb em4) g5 (by simp; omega)
  refine ⟨some (.loc h.length), some (.loc m), some (.tup (P.map Pm.val)), t, _, ?_, c6⟩
  have A1 : sSet 2 (xCall 1 f__law_box (xCons (xCall 2 f__law_cell (xCons (xVar 0) (xCons (xVar 1) (xNil)))) (xNil))) [some (.scr (ns.map Val.int)), some (.int k), x2, x3, x4, x5] h = .nx [some (.scr (ns.map Val.int)), some (.int k), some (.loc h.length), x3, x4, x5] H2 := by
    simp [e1, e2]
  have A2 : sSet 3 (xCall 2 f__law_names (xCons (xVar 2) (xCons (xC (.int 7)) (xNil)))) [some (.scr (ns.map Val.int)), some (.int k), some (.loc h.length), x3, x4, x5] H2 = .nx [some (.scr (ns.map Val.int)), some (.int k), some (.loc h.length), some (.loc m), x4, x5] H3 := by
    simp [e3]
  have A3 : sSet 4 (xCall 3 f__law_params (xCons (xVar 2) (xCons (xSl oSl (xVar 3) none (some (xC (.int 6)))) (xCons (xC (.int 6)) (xNil))))) [some (.scr (ns.map Val.int)), some (.int k), some (.loc h.length), some (.loc m), x4, x5] H3 = .nx (en0 (.scr (ns.map Val.int)) (some (.int k)) h.length m P x5) (H4.set h.length (bx s5)) := by
    simp [xSl, xPart, sl, hH4, e5, en0]
  have A4 : sFor (xRange1 (xC (.int 6))) (.name 5) bdT (en0 (.scr (ns.map Val.int)) (some (.int k)) h.length m P x5) (H4.set h.length (bx s5)) = .nx (en0 (.scr (ns.map Val.int)) (some (.int k)) h.length m P t) ((H4.set h.length (bx s5)).set h.length (bx s6)) := by
    have ra := range_it (x := xC (.int 6)) (e := en0 (.scr (ns.map Val.int)) (some (.int k)) h.length m P x5) (h := H4.set h.length (bx s5)) (r := 6) (h1 := H4.set h.length (bx s5)) rfl (by decide) (by decide)
    unfold sFor
    rw [ra]
    exact e6
  unfold XB
  rw [seq_nx A1, seq_nx A2, seq_nx A3, A4]
  rfl
theorem steps_ok {ns : List Int} {all : List Val} : ∀ (ks : List Nat) (x1 x2 x3 x4 x5 : Option Val) (h : Hh), (∀ k ∈ ks, k ≤ 100) → Cl h → ∃ e' h', forLoop (.items all) (.name 1) XB (ks.map fun (k : Nat) => Val.int ((0 : Int) + k)) [some (.scr (ns.map Val.int)), x1, x2, x3, x4, x5] h = .nx e' h'
  | [], x1, x2, x3, x4, x5, h, _, _ => ⟨_, h, by rw [List.map_nil, forLoop, if_pos (show (Itn.items all).okAt h from trivial)]⟩
  | k :: ks, x1, x2, x3, x4, x5, h, hk, c => by
    obtain ⟨y2, y3, y4, y5, h1, e1, c1⟩ := step_ok (ns := ns) (k := k) (x2 := x2) (x3 := x3) (x4 := x4) (x5 := x5) c (hk k (.head _))
    obtain ⟨e', h', e2⟩ := steps_ok (ns := ns) (all := all) ks (some (.int k)) y2 y3 y4 y5 h1 (fun j m => hk j (.tail _ m)) c1
    refine ⟨e', h', ?_⟩
    rw [List.map_cons, forLoop, if_pos (show (Itn.items all).okAt h from trivial)]
    have pt : Tg.put (.name 1) (.int ((0 : Int) + k)) [some (.scr (ns.map Val.int)), x1, x2, x3, x4, x5] = some [some (.scr (ns.map Val.int)), some (.int k), x2, x3, x4, x5] := by simp [Tg.put]
    simp only [pt, e1]
    exact e2
theorem law_eq (ns : List Int) (hn : ns.length ≤ 63) : ∃ h', f_law [.scr (ns.map Val.int)] [] = .ok (.bl true) h' := by
  have c0 : Cl [] := rfl
  have m0 : 0 ≤ max 2 (min 8 (ns.length : Int)) := by omega
  have m1 : max 2 (min 8 (ns.length : Int)) ≤ 8 := by omega
  have ra := range_it (x := xCallN oMaxL (xCons (xC (.int 2)) (xCons (xCallN oMin (xCons (xC (.int 8)) (xCons (xCallN oLenD (xCons (xVar 0) (xNil))) (xNil)))) (xNil)))) (e := [some (.scr (ns.map Val.int)), none, none, none, none, none]) (h := []) (r := max 2 (min 8 (ns.length : Int))) (h1 := []) (by simp [len_scrI, min2, max2]) m0 (by omega)
  generalize max 2 (min 8 (ns.length : Int)) = q at *
  obtain ⟨e', h', e⟩ := steps_ok (ns := ns) (all := (List.range q.toNat).map fun (k : Nat) => Val.int ((0 : Int) + k)) (List.range q.toNat) none none none none none [] (fun k mk => by have := List.mem_range.mp mk; omega) c0
  refine ⟨gc ([] : Hh).length (.bl true) h', ?_⟩
  unfold f_law
  refine call_rt ?_
  have A : sFor (xRange1 (xCallN oMaxL (xCons (xC (.int 2)) (xCons (xCallN oMin (xCons (xC (.int 8)) (xCons (xCallN oLenD (xCons (xVar 0) (xNil))) (xNil)))) (xNil))))) (.name 1) XB (en 6 [.scr (ns.map Val.int)]) [] = .nx e' h' := by
    have : en 6 [.scr (ns.map Val.int)] = [some (.scr (ns.map Val.int)), none, none, none, none, none] := rfl
    unfold sFor
    rw [this, ra]
    exact e
  unfold x_law
  unfold XB bdT at A
  rw [seq_nx A]
  rfl
end K

set_option Elab.async false
set_option linter.all false
set_option maxRecDepth 100000
set_option maxHeartbeats 4000000
namespace K
open PySem PySem.Spec PyProof.Rows L2 EX
def dD_is_whole : He.DefD := ⟨("is_whole", none), "is_whole", "is_whole", defArgs s_is_whole, defBody s_is_whole, defScope s_is_whole, [], []⟩
def dD_is_name : He.DefD := ⟨("is_name", none), "is_name", "is_name", defArgs s_is_name, defBody s_is_name, defScope s_is_name, [], []⟩
def dD_is_text : He.DefD := ⟨("is_text", none), "is_text", "is_text", defArgs s_is_text, defBody s_is_text, defScope s_is_text, [], []⟩
def dD_is_number : He.DefD := ⟨("is_number", none), "is_number", "is_number", defArgs s_is_number, defBody s_is_number, defScope s_is_number, [], []⟩
def dD_is_pair : He.DefD := ⟨("is_pair", none), "is_pair", "is_pair", defArgs s_is_pair, defBody s_is_pair, defScope s_is_pair, [], []⟩
def dD_is_thing : He.DefD := ⟨("is_thing", none), "is_thing", "is_thing", defArgs s_is_thing, defBody s_is_thing, defScope s_is_thing, [], []⟩
def dD_is_worth_within : He.DefD := ⟨("is_worth_within", none), "is_worth_within", "is_worth_within", defArgs s_is_worth_within, defBody s_is_worth_within, defScope s_is_worth_within, [], []⟩
def dD_is_worth : He.DefD := ⟨("is_worth", none), "is_worth", "is_worth", defArgs s_is_worth, defBody s_is_worth, defScope s_is_worth, [], []⟩
def dD_are_rows : He.DefD := ⟨("are_rows", none), "are_rows", "are_rows", defArgs s_are_rows, defBody s_are_rows, defScope s_are_rows, [], []⟩
def dD_is_list : He.DefD := ⟨("is_list", none), "is_list", "is_list", defArgs s_is_list, defBody s_is_list, defScope s_is_list, [], []⟩
def dD_is_param : He.DefD := ⟨("is_param", none), "is_param", "is_param", defArgs s_is_param, defBody s_is_param, defScope s_is_param, [], []⟩
def dD_is_params : He.DefD := ⟨("is_params", none), "is_params", "is_params", defArgs s_is_params, defBody s_is_params, defScope s_is_params, [], []⟩
def dD_need_params : He.DefD := ⟨("need_params", none), "need_params", "need_params", defArgs s_need_params, defBody s_need_params, defScope s_need_params, [], []⟩
def dD_with_sorts : He.DefD := ⟨("with_sorts", none), "with_sorts", "with_sorts", defArgs s_with_sorts, defBody s_with_sorts, defScope s_with_sorts, [], []⟩
def dD_placed : He.DefD := ⟨("placed", none), "placed", "placed", defArgs s_placed, defBody s_placed, defScope s_placed, [], []⟩
def dD_matched : He.DefD := ⟨("matched", none), "matched", "matched", defArgs s_matched, defBody s_matched, defScope s_matched, [], []⟩
def dD__law_cell : He.DefD := ⟨("_law_cell", none), "_law_cell", "_law_cell", defArgs s__law_cell, defBody s__law_cell, defScope s__law_cell, [], []⟩
def dD__law_box : He.DefD := ⟨("_law_box", none), "_law_box", "_law_box", defArgs s__law_box, defBody s__law_box, defScope s__law_box, [], []⟩
def dD__law_take : He.DefD := ⟨("_law_take", none), "_law_take", "_law_take", defArgs s__law_take, defBody s__law_take, defScope s__law_take, [], []⟩
def dD__law_names : He.DefD := ⟨("_law_names", none), "_law_names", "_law_names", defArgs s__law_names, defBody s__law_names, defScope s__law_names, [], []⟩
def dD__law_writ : He.DefD := ⟨("_law_writ", none), "_law_writ", "_law_writ", defArgs s__law_writ, defBody s__law_writ, defScope s__law_writ, [], []⟩
def dD__law_lit : He.DefD := ⟨("_law_lit", none), "_law_lit", "_law_lit", defArgs s__law_lit, defBody s__law_lit, defScope s__law_lit, [], []⟩
def dD__law_params : He.DefD := ⟨("_law_params", none), "_law_params", "_law_params", defArgs s__law_params, defBody s__law_params, defScope s__law_params, [], []⟩
def dD__law_worth : He.DefD := ⟨("_law_worth", none), "_law_worth", "_law_worth", defArgs s__law_worth, defBody s__law_worth, defScope s__law_worth, [], []⟩
def dD__law_call : He.DefD := ⟨("_law_call", none), "_law_call", "_law_call", defArgs s__law_call, defBody s__law_call, defScope s__law_call, [], []⟩
def dD__law_deep : He.DefD := ⟨("_law_deep", none), "_law_deep", "_law_deep", defArgs s__law_deep, defBody s__law_deep, defScope s__law_deep, [], []⟩
def dD__law_due : He.DefD := ⟨("_law_due", none), "_law_due", "_law_due", defArgs s__law_due, defBody s__law_due, defScope s__law_due, [], []⟩
def dD__law_found : He.DefD := ⟨("_law_found", none), "_law_found", "_law_found", defArgs s__law_found, defBody s__law_found, defScope s__law_found, [], []⟩
def dD__law_same : He.DefD := ⟨("_law_same", none), "_law_same", "_law_same", defArgs s__law_same, defBody s__law_same, defScope s__law_same, [], []⟩
def dD__law_right : He.DefD := ⟨("_law_right", none), "_law_right", "_law_right", defArgs s__law_right, defBody s__law_right, defScope s__law_right, [], []⟩
def dD_law : He.DefD := ⟨("law", none), "law", "law", defArgs s_law, defBody s_law, defScope s_law, [], []⟩
def dI_NoParams : He.DefD := ⟨("NoParams", some "__init__"), "__init__", "NoParams.__init__", defArgs s_NoParams, defBody s_NoParams, defScope s_NoParams, [], []⟩
def dI_Fault : He.DefD := ⟨("Fault", some "__init__"), "__init__", "Fault.__init__", defArgs s_Fault, defBody s_Fault, defScope s_Fault, [], []⟩
def dI_NoList : He.DefD := ⟨("NoList", some "__init__"), "__init__", "NoList.__init__", defArgs s_NoList, defBody s_NoList, defScope s_NoList, [], []⟩
def dI_NoRows : He.DefD := ⟨("NoRows", some "__init__"), "__init__", "NoRows.__init__", defArgs s_NoRows, defBody s_NoRows, defScope s_NoRows, [], []⟩
def fn_0 : List He.DefD := [dD_is_whole, dD_is_name, dD_is_text, dD_is_number, dD_is_pair, dD_is_thing, dD_is_worth_within, dD_is_worth, dD_are_rows, dD_is_list, dD_is_param, dD_is_params, dD_need_params, dD_with_sorts, dD_placed, dD_matched, dD__law_cell, dD__law_box, dD__law_take, dD__law_names, dD__law_writ, dD__law_lit, dD__law_params, dD__law_worth, dD__law_call, dD__law_deep, dD__law_due, dD__law_found, dD__law_same, dD__law_right]
def fn_1 : List He.DefD := [dD_law, dI_NoParams, dI_Fault, dI_NoList, dI_NoRows]
def fn : List He.DefD := fn_0 ++ (fn_1)
def fa_0 : List He.Fa := [.glo "is_whole", .glo "is_name", .glo "is_text", .glo "is_number", .glo "is_pair", .glo "is_thing", .glo "is_worth_within", .glo "is_worth", .glo "are_rows", .glo "is_list", .glo "is_param", .glo "is_params", .glo "need_params", .glo "with_sorts", .glo "placed", .glo "matched", .glo "_law_cell", .glo "_law_box", .glo "_law_take", .glo "_law_names", .glo "_law_writ", .glo "_law_lit", .glo "_law_params", .glo "_law_worth", .glo "_law_call", .glo "_law_deep", .glo "_law_due", .glo "_law_found", .glo "_law_same", .glo "_law_right"]
def fa_1 : List He.Fa := [.glo "law", .glo "Barred", .glo "Fault", .glo "InnerError", .glo "Missing", .glo "NoList", .glo "NoParams", .glo "NoRows", .free "all", .free "bool", .free "dict", .free "enumerate", .free "int", .free "isinstance", .free "len", .free "list", .free "max", .free "min", .free "ord", .free "range", .free "repr", .free "sorted", .free "str", .free "tuple", .free "zip", .str "LETTERS" "abcdefghijklmnopqrstuvwxyz", .int "MOST_ARGS" 20, .int "MOST_DEEP" 4, .int "MOST_NAME" 8, .int "MOST_NUMBER" 1000000000]
def fa_2 : List He.Fa := [.int "MOST_PARAMS" 6, .int "MOST_PARTS" 30, .int "MOST_SIGNS" 60, .int "MOST_THING" 999, .glo "NO_NAMES", .glo "OWN", .int "PER_CENT" 37, .glo "PLACED", .int "QUOTE" 39, .glo "STEPS", .glo "WANTED"]
def fa : List He.Fa := fa_0 ++ (fa_1 ++ (fa_2))
def ex (K : PySem.W.Frag) : Bool := smB K && (ctB K ct ["Fault", "Barred", "InnerError", "Missing"] [] ["found", "why"] && (He.tupB K "NO_NAMES" [.str "me", .str "here", .str "none"] && (He.tupB K "OWN" [.str "or", .str "onlyor"] && (He.tupB K "PLACED" [.str "by", .str "or"] && (He.valsB K (He.ga K "STEPS") (_root_.K.t_STEPS.map fun p => (p.1, dvOf p.2)) && (He.tupB K "WANTED" [.str "by", .str "only"] && (clsFB K "NoParams" ["found"] && (clsGB bLook K "Fault" ["why", "found"] && (clsFB K "NoList" ["found"] && (clsFB K "NoRows" ["found"] && (baseGB bLook K (He.ga K "Barred") && (baseB K (He.ga K "InnerError")))))))))))))
def loose_0 : List Str := ["InnerError", "Missing", "Barred", "NoParams", "NoRows", "NoList", "Fault", "MOST_NUMBER", "MOST_THING", "MOST_SIGNS", "MOST_PARTS", "MOST_DEEP", "MOST_NAME", "PER_CENT", "QUOTE", "LETTERS", "NO_NAMES", "is_whole", "is_name", "is_text", "is_number", "is_pair", "is_thing", "is_worth_within", "is_worth", "are_rows", "MOST_PARAMS", "MOST_ARGS", "STEPS", "PLACED"]
def loose_1 : List Str := ["WANTED", "OWN", "is_list", "is_param", "is_params", "need_params", "with_sorts", "placed", "matched", "_law_cell", "_law_box", "_law_take", "_law_names", "_law_writ", "_law_lit", "_law_params", "_law_worth", "_law_call", "_law_deep", "_law_due", "_law_found", "_law_same", "_law_right"]
def loose : List Str := loose_0 ++ (loose_1)
abbrev R : PySem.W.OpenRow := PySem.W.OpenLaw.row PySem.Challenge.rw_innerlook_k11_calls_matched
def ts : List He.Tab := [(fun K => He.ga K "STEPS", t_STEPS.map (·.1))]
abbrev hk : PySem.W.Hook := hookF 5 fa fn ex ts
def ob (s : PySem.W.SharedT) : AlE := obsF 5 fa fn ex ts (HandSHeadRun.getT s)
theorem ob_eq (s : PySem.W.SharedT) : ob s = hk.obs s.abs := obsF_eq (HandSHeadRun.getT_eq s)
theorem run (w : World) : HandSHeadRun.RunEq R (PySem.W.view R.prog [57]) hk ob 3000 loose w :=
  PySem.W.byRow2 "special-get-raises" (P := fun w => HandSHeadRun.RunEq R (PySem.W.view R.prog [57]) hk ob 3000 loose w) (fun w os => by kernel_rfl) (fun w os => by kernel_rfl) w
theorem facts {K : PySem.W.Frag} {h : Heap} {mg : Str → Option Value} (X : K.In h) (G : h.Ns mainGlobals mg) {w : World} (tt : tabsE ts K = keysE ts w) (c : He.SaysD fa fn K) (e : _root_.K.ex K = true) : ∃ fd : Str → FuncData, Facts K mg w fd := by
  obtain ⟨fd0, F0⟩ := c.def_ 0 (d := dD_is_whole) rfl
  obtain ⟨fd1, F1⟩ := c.def_ 1 (d := dD_is_name) rfl
  obtain ⟨fd2, F2⟩ := c.def_ 2 (d := dD_is_text) rfl
  obtain ⟨fd3, F3⟩ := c.def_ 3 (d := dD_is_number) rfl
  obtain ⟨fd4, F4⟩ := c.def_ 4 (d := dD_is_pair) rfl
  obtain ⟨fd5, F5⟩ := c.def_ 5 (d := dD_is_thing) rfl
  obtain ⟨fd6, F6⟩ := c.def_ 6 (d := dD_is_worth_within) rfl
  obtain ⟨fd7, F7⟩ := c.def_ 7 (d := dD_is_worth) rfl
  obtain ⟨fd8, F8⟩ := c.def_ 8 (d := dD_are_rows) rfl
  obtain ⟨fd9, F9⟩ := c.def_ 9 (d := dD_is_list) rfl
  obtain ⟨fd10, F10⟩ := c.def_ 10 (d := dD_is_param) rfl
  obtain ⟨fd11, F11⟩ := c.def_ 11 (d := dD_is_params) rfl
  obtain ⟨fd12, F12⟩ := c.def_ 12 (d := dD_need_params) rfl
  obtain ⟨fd13, F13⟩ := c.def_ 13 (d := dD_with_sorts) rfl
  obtain ⟨fd14, F14⟩ := c.def_ 14 (d := dD_placed) rfl
  obtain ⟨fd15, F15⟩ := c.def_ 15 (d := dD_matched) rfl
  obtain ⟨fd16, F16⟩ := c.def_ 16 (d := dD__law_cell) rfl
  obtain ⟨fd17, F17⟩ := c.def_ 17 (d := dD__law_box) rfl
  obtain ⟨fd18, F18⟩ := c.def_ 18 (d := dD__law_take) rfl
  obtain ⟨fd19, F19⟩ := c.def_ 19 (d := dD__law_names) rfl
  obtain ⟨fd20, F20⟩ := c.def_ 20 (d := dD__law_writ) rfl
  obtain ⟨fd21, F21⟩ := c.def_ 21 (d := dD__law_lit) rfl
  obtain ⟨fd22, F22⟩ := c.def_ 22 (d := dD__law_params) rfl
  obtain ⟨fd23, F23⟩ := c.def_ 23 (d := dD__law_worth) rfl
  obtain ⟨fd24, F24⟩ := c.def_ 24 (d := dD__law_call) rfl
  obtain ⟨fd25, F25⟩ := c.def_ 25 (d := dD__law_deep) rfl
  obtain ⟨fd26, F26⟩ := c.def_ 26 (d := dD__law_due) rfl
  obtain ⟨fd27, F27⟩ := c.def_ 27 (d := dD__law_found) rfl
  obtain ⟨fd28, F28⟩ := c.def_ 28 (d := dD__law_same) rfl
  obtain ⟨fd29, F29⟩ := c.def_ 29 (d := dD__law_right) rfl
  obtain ⟨fd30, F30⟩ := c.def_ 30 (d := dD_law) rfl
  obtain ⟨fd31, F31⟩ := c.def_ 31 (d := dI_NoParams) rfl
  obtain ⟨fd32, F32⟩ := c.def_ 32 (d := dI_Fault) rfl
  obtain ⟨fd33, F33⟩ := c.def_ 33 (d := dI_NoList) rfl
  obtain ⟨fd34, F34⟩ := c.def_ 34 (d := dI_NoRows) rfl
  obtain ⟨e0, e⟩ := He.ba e
  obtain ⟨e1, e⟩ := He.ba e
  obtain ⟨e2, e⟩ := He.ba e
  obtain ⟨e3, e⟩ := He.ba e
  obtain ⟨e4, e⟩ := He.ba e
  obtain ⟨e5, e⟩ := He.ba e
  obtain ⟨e6, e⟩ := He.ba e
  obtain ⟨e7, e⟩ := He.ba e
  obtain ⟨e8, e⟩ := He.ba e
  obtain ⟨e9, e⟩ := He.ba e
  obtain ⟨e10, e⟩ := He.ba e
  obtain ⟨e11, e⟩ := He.ba e
  have e12 := e
  let fd : Str → FuncData := fun x => (([(("is_whole" : Str), fd0), (("is_name" : Str), fd1), (("is_text" : Str), fd2), (("is_number" : Str), fd3), (("is_pair" : Str), fd4), (("is_thing" : Str), fd5), (("is_worth_within" : Str), fd6), (("is_worth" : Str), fd7), (("are_rows" : Str), fd8), (("is_list" : Str), fd9), (("is_param" : Str), fd10), (("is_params" : Str), fd11), (("need_params" : Str), fd12), (("with_sorts" : Str), fd13), (("placed" : Str), fd14), (("matched" : Str), fd15), (("_law_cell" : Str), fd16), (("_law_box" : Str), fd17), (("_law_take" : Str), fd18), (("_law_names" : Str), fd19), (("_law_writ" : Str), fd20), (("_law_lit" : Str), fd21), (("_law_params" : Str), fd22), (("_law_worth" : Str), fd23), (("_law_call" : Str), fd24), (("_law_deep" : Str), fd25), (("_law_due" : Str), fd26), (("_law_found" : Str), fd27), (("_law_same" : Str), fd28), (("_law_right" : Str), fd29), (("law" : Str), fd30), (("NoParams.__init__" : Str), fd31), (("Fault.__init__" : Str), fd32), (("NoList.__init__" : Str), fd33), (("NoRows.__init__" : Str), fd34)] : List (Str × FuncData)).lookup x).getD fd0
  have gtb_STEPS : GTb K mg w "STEPS" t_STEPS := gtb_ok (He.glo_ok X G (c.fact 69 (f := .glo "STEPS") rfl)) (tab_at tt 0 rfl) e5 (by decide)
  refine ⟨fd, {
    d_is_whole := F0
    g_is_whole := He.glo_ok X G (c.fact 0 (f := .glo "is_whole") rfl)
    d_is_name := F1
    g_is_name := He.glo_ok X G (c.fact 1 (f := .glo "is_name") rfl)
    d_is_text := F2
    g_is_text := He.glo_ok X G (c.fact 2 (f := .glo "is_text") rfl)
    d_is_number := F3
    g_is_number := He.glo_ok X G (c.fact 3 (f := .glo "is_number") rfl)
    d_is_pair := F4
    g_is_pair := He.glo_ok X G (c.fact 4 (f := .glo "is_pair") rfl)
    d_is_thing := F5
    g_is_thing := He.glo_ok X G (c.fact 5 (f := .glo "is_thing") rfl)
    d_is_worth_within := F6
    g_is_worth_within := He.glo_ok X G (c.fact 6 (f := .glo "is_worth_within") rfl)
    d_is_worth := F7
    g_is_worth := He.glo_ok X G (c.fact 7 (f := .glo "is_worth") rfl)
    d_are_rows := F8
    g_are_rows := He.glo_ok X G (c.fact 8 (f := .glo "are_rows") rfl)
    d_is_list := F9
    g_is_list := He.glo_ok X G (c.fact 9 (f := .glo "is_list") rfl)
    d_is_param := F10
    g_is_param := He.glo_ok X G (c.fact 10 (f := .glo "is_param") rfl)
    d_is_params := F11
    g_is_params := He.glo_ok X G (c.fact 11 (f := .glo "is_params") rfl)
    d_need_params := F12
    g_need_params := He.glo_ok X G (c.fact 12 (f := .glo "need_params") rfl)
    d_with_sorts := F13
    g_with_sorts := He.glo_ok X G (c.fact 13 (f := .glo "with_sorts") rfl)
    d_placed := F14
    g_placed := He.glo_ok X G (c.fact 14 (f := .glo "placed") rfl)
    d_matched := F15
    g_matched := He.glo_ok X G (c.fact 15 (f := .glo "matched") rfl)
    d__law_cell := F16
    g__law_cell := He.glo_ok X G (c.fact 16 (f := .glo "_law_cell") rfl)
    d__law_box := F17
    g__law_box := He.glo_ok X G (c.fact 17 (f := .glo "_law_box") rfl)
    d__law_take := F18
    g__law_take := He.glo_ok X G (c.fact 18 (f := .glo "_law_take") rfl)
    d__law_names := F19
    g__law_names := He.glo_ok X G (c.fact 19 (f := .glo "_law_names") rfl)
    d__law_writ := F20
    g__law_writ := He.glo_ok X G (c.fact 20 (f := .glo "_law_writ") rfl)
    d__law_lit := F21
    g__law_lit := He.glo_ok X G (c.fact 21 (f := .glo "_law_lit") rfl)
    d__law_params := F22
    g__law_params := He.glo_ok X G (c.fact 22 (f := .glo "_law_params") rfl)
    d__law_worth := F23
    g__law_worth := He.glo_ok X G (c.fact 23 (f := .glo "_law_worth") rfl)
    d__law_call := F24
    g__law_call := He.glo_ok X G (c.fact 24 (f := .glo "_law_call") rfl)
    d__law_deep := F25
    g__law_deep := He.glo_ok X G (c.fact 25 (f := .glo "_law_deep") rfl)
    d__law_due := F26
    g__law_due := He.glo_ok X G (c.fact 26 (f := .glo "_law_due") rfl)
    d__law_found := F27
    g__law_found := He.glo_ok X G (c.fact 27 (f := .glo "_law_found") rfl)
    d__law_same := F28
    g__law_same := He.glo_ok X G (c.fact 28 (f := .glo "_law_same") rfl)
    d__law_right := F29
    g__law_right := He.glo_ok X G (c.fact 29 (f := .glo "_law_right") rfl)
    d_law := F30
    g_law := He.glo_ok X G (c.fact 30 (f := .glo "law") rfl)
    n_all := He.free_ok X G (c.fact 38 (f := .free "all") rfl)
    n_bool := He.free_ok X G (c.fact 39 (f := .free "bool") rfl)
    n_dict := He.free_ok X G (c.fact 40 (f := .free "dict") rfl)
    n_enumerate := He.free_ok X G (c.fact 41 (f := .free "enumerate") rfl)
    n_int := He.free_ok X G (c.fact 42 (f := .free "int") rfl)
    n_isinstance := He.free_ok X G (c.fact 43 (f := .free "isinstance") rfl)
    n_len := He.free_ok X G (c.fact 44 (f := .free "len") rfl)
    n_list := He.free_ok X G (c.fact 45 (f := .free "list") rfl)
    n_max := He.free_ok X G (c.fact 46 (f := .free "max") rfl)
    n_min := He.free_ok X G (c.fact 47 (f := .free "min") rfl)
    n_ord := He.free_ok X G (c.fact 48 (f := .free "ord") rfl)
    n_range := He.free_ok X G (c.fact 49 (f := .free "range") rfl)
    n_repr := He.free_ok X G (c.fact 50 (f := .free "repr") rfl)
    n_sorted := He.free_ok X G (c.fact 51 (f := .free "sorted") rfl)
    n_str := He.free_ok X G (c.fact 52 (f := .free "str") rfl)
    n_tuple := He.free_ok X G (c.fact 53 (f := .free "tuple") rfl)
    n_zip := He.free_ok X G (c.fact 54 (f := .free "zip") rfl)
    c_LETTERS := He.str_ok X G (c.fact 55 (f := .str "LETTERS" "abcdefghijklmnopqrstuvwxyz") rfl)
    c_MOST_ARGS := He.int_ok X G (c.fact 56 (f := .int "MOST_ARGS" 20) rfl)
    c_MOST_DEEP := He.int_ok X G (c.fact 57 (f := .int "MOST_DEEP" 4) rfl)
    c_MOST_NAME := He.int_ok X G (c.fact 58 (f := .int "MOST_NAME" 8) rfl)
    c_MOST_NUMBER := He.int_ok X G (c.fact 59 (f := .int "MOST_NUMBER" 1000000000) rfl)
    c_MOST_PARAMS := He.int_ok X G (c.fact 60 (f := .int "MOST_PARAMS" 6) rfl)
    c_MOST_PARTS := He.int_ok X G (c.fact 61 (f := .int "MOST_PARTS" 30) rfl)
    c_MOST_SIGNS := He.int_ok X G (c.fact 62 (f := .int "MOST_SIGNS" 60) rfl)
    c_MOST_THING := He.int_ok X G (c.fact 63 (f := .int "MOST_THING" 999) rfl)
    c_NO_NAMES := ⟨_, He.glo_ok X G (c.fact 64 (f := .glo "NO_NAMES") rfl), fun H => He.tupB_ok e2 H⟩
    c_OWN := ⟨_, He.glo_ok X G (c.fact 65 (f := .glo "OWN") rfl), fun H => He.tupB_ok e3 H⟩
    c_PER_CENT := He.int_ok X G (c.fact 66 (f := .int "PER_CENT" 37) rfl)
    c_PLACED := ⟨_, He.glo_ok X G (c.fact 67 (f := .glo "PLACED") rfl), fun H => He.tupB_ok e4 H⟩
    c_QUOTE := He.int_ok X G (c.fact 68 (f := .int "QUOTE" 39) rfl)
    t_STEPS := gtb_STEPS
    c_WANTED := ⟨_, He.glo_ok X G (c.fact 70 (f := .glo "WANTED") rfl), fun H => He.tupB_ok e6 H⟩
    sm := smB_ok e0
    gt := fun x kvs el => by have m := lookup_mem el; simp only [_root_.K.gt, List.mem_cons, List.not_mem_nil, or_false, Prod.mk.injEq] at m; rcases m with m <;> (obtain ⟨rfl, rfl⟩ := m) <;> first | exact gtb_STEPS
    g_Barred := He.glo_ok X G (c.fact 31 (f := .glo "Barred") rfl)
    g_Fault := He.glo_ok X G (c.fact 32 (f := .glo "Fault") rfl)
    g_InnerError := He.glo_ok X G (c.fact 33 (f := .glo "InnerError") rfl)
    g_Missing := He.glo_ok X G (c.fact 34 (f := .glo "Missing") rfl)
    g_NoList := He.glo_ok X G (c.fact 35 (f := .glo "NoList") rfl)
    g_NoParams := He.glo_ok X G (c.fact 36 (f := .glo "NoParams") rfl)
    g_NoRows := He.glo_ok X G (c.fact 37 (f := .glo "NoRows") rfl)
    ct := ctB_ok (db := []) e1 (fun q m => by simp only [_root_.K.ct, List.mem_cons, List.not_mem_nil, or_false] at m; rcases m with m | m | m | m | m | m | m <;> subst m <;> first | exact He.glo_ok X G (c.fact 31 (f := .glo "Barred") rfl) | exact He.glo_ok X G (c.fact 32 (f := .glo "Fault") rfl) | exact He.glo_ok X G (c.fact 33 (f := .glo "InnerError") rfl) | exact He.glo_ok X G (c.fact 34 (f := .glo "Missing") rfl) | exact He.glo_ok X G (c.fact 35 (f := .glo "NoList") rfl) | exact He.glo_ok X G (c.fact 36 (f := .glo "NoParams") rfl) | exact He.glo_ok X G (c.fact 37 (f := .glo "NoRows") rfl)) (fun q m => by simp only [List.mem_cons, List.not_mem_nil, or_false] at m; rcases m with m | m | m | m <;> subst m <;> first | exact He.glo_ok X G (c.fact 32 (f := .glo "Fault") rfl) | exact He.glo_ok X G (c.fact 31 (f := .glo "Barred") rfl) | exact He.glo_ok X G (c.fact 33 (f := .glo "InnerError") rfl) | exact He.glo_ok X G (c.fact 34 (f := .glo "Missing") rfl)) (fun d m => by simp at m)
    x_NoParams := clsFB_ok e7
    i_NoParams := F31
    x_Fault := clsGB_ok e8
    i_Fault := F32
    x_NoList := clsFB_ok e9
    i_NoList := F33
    x_NoRows := clsFB_ok e10
    i_NoRows := F34
    bs_Barred := baseGB_ok e11
    bs_InnerError := baseB_ok e12
  }⟩
theorem holds_of (hlaw : ∀ ns : List Int, ns.length ≤ 63 → ∃ h', f_law [.scr (ns.map Val.int)] [] = .ok (.bl true) h') : PySem.W.WalkO (PySem.W.view R.prog [57]) loose (PySem.W.XL (PySem.W.view R.prog [57]) []) hk.says R.toRowW (HandSHeadRun.topDef R.prog 57) [] (fun f vs => PySem.call f vs) := by
  refine walk_g (l := PySem.Challenge.rw_innerlook_k11_calls_matched) (n := 63) (k := 23) (x := "_law_script") rfl (by decide) (by kernel_rfl) ⟨rfl, by decide, by decide⟩ ?F
  intro w mg fa h Y G hmg0
  obtain ⟨K, KX, ⟨c, e⟩, tt⟩ := Y
  have hmg : mg ("law" : PySem.Str) = some (.ref fa) := by
    have e : (HandSHeadRun.topDef R.prog 57).name = ("law" : PySem.Str) := by kernel_rfl
    rw [← e]
    exact hmg0
  obtain ⟨fd, T⟩ := facts KX G tt c e
  have ef := hmg.symm.trans T.g_law
  cases ef
  have b := FunD.bindsA (ps := ["_law_script"]) T.d_law fun _ _ _ _ _ _ us hl => match us, hl with | [_], _ => rfl
  exact ⟨K, fd "law", _, KX, fun s v => b s [v] rfl, fun H a ns hl hO hS => law_sp (K := ⟨K, mg, w⟩) (hlaw ns hl) hO hS, fun base _ _ => ok_law T⟩
end K
open PySem PySem.W PySem.Calls PyProof.Rows
theorem holds (hlaw : ∀ ns : List Int, ns.length ≤ 63 → ∃ h', K.f_law [.scr (ns.map EX.Val.int)] [] = .ok (.bl true) h') : PySem.Challenge.rw_innerlook_k11_calls_matched.Holds := by
  w_on; o_law
  refine HandSHeadRun.head_any (r := OpenLaw.row PySem.Challenge.rw_innerlook_k11_calls_matched) (q := view (OpenLaw.row PySem.Challenge.rw_innerlook_k11_calls_matched).prog [57]) (H := K.hk) (ob := K.ob) (M := 3000) (loose := K.loose) (d := HandSHeadRun.topDef (OpenLaw.row PySem.Challenge.rw_innerlook_k11_calls_matched).prog 57) (kwd := []) K.ob_eq
    (by kernel_rfl) (fun s => by kernel_rfl) K.run (by kernel_rfl) (by kernel_rfl) (by kernel_rfl) (by rfl) (by first | assumption | decide +kernel) (by decide +kernel) ⟨rfl, rfl, rfl, rfl, rfl, by decide +kernel⟩ ?hw ?hc
  case hw => w_witness2
  case hc => exact K.holds_of hlaw

set_option maxRecDepth 100000 in
set_option maxHeartbeats 8000000 in
theorem PySem.Challenge.cw_innerlook_k11_calls_matched_holds : PySem.Challenge.rw_innerlook_k11_calls_matched.Holds := by
  exact holds K.law_eq

import PyProof.Rows.All
import Wide.All
import OpenK.AllK
import Wide.FinOn
import PyProof.EqAt
import PyProof.EqKinds
import PyProof.TupleCall
import HandS.ForMost
import HandS.Exc
import HandS.ExcOwn
import HandS.WordsExc
import HandS.Flow
import HandS.IsInst
import HandS.TupLe
import HandS.TupAny
import HandS.TupMul
import HandS.Zip
import HandS.Conv
import HandS.Deep
import HandS.Style
import HandS.Sort
import HandS.TupLen
import HandS.NoneIn
import PySem.Challenge.RW_sparkboard_k21_whole_exchanges_and_copie
set_option Elab.async false
set_option linter.all false
set_option maxRecDepth 100000
set_option maxHeartbeats 4000000
/-! Mz0: a logical state (values D, a store of mutable objects), programs over it (T, M), and what a piece of syntax does told as such a program. -/
namespace Mz
open PySem PySem.Spec PyProof.Rows L2

/-- a value, its immutable parts written out; ref n: the n-th mutable object of the store -/
inductive D where
  | non | bl (b : Bool) | int (i : Int) | str (s : Str) | tup (xs : List D) | cup (xs : List D) | ref (n : Nat) | scr (ns : List Int) | rng (lo hi : Int) | fn (a : Addr) | ty (n : String)

/-- a mutable object -/
inductive LO where
  | lst (xs : List D)
  | dK (kvs : List (Key × D))
  | dT (kvs : List (List Key × D))
  | ins (C : Addr) (fs : List (Str × D))
  | pen (k m : Nat)
  | cel

/-- an exception: its class, its fields -/
structure Ex where
  cls : Value
  fs : List (Str × D)

/-- the logical state: the slots, the store -/
structure LS where
  env : List (Option D)
  st : List LO

/-- a program's outcomes, a tree over the draws -/
inductive T (α : Type) where
  | ret (a : α) (s : LS)
  | exc (x : Ex) (s : LS)
  | bad
  | draw (n : Nat) (k : Nat → T α)

def T.all {α : Type} (P : α → LS → Prop) (E : Ex → LS → Prop) : T α → Prop
  | .ret a s => P a s
  | .exc x s => E x s
  | .bad => False
  | .draw n k => ∀ i, i < n → (k i).all P E
def T.bind {α β : Type} : T α → (α → LS → T β) → T β
  | .ret a s, f => f a s
  | .exc x s, _ => .exc x s
  | .bad, _ => .bad
  | .draw n k, f => .draw n fun i => (k i).bind f
theorem T.all_bind {α β : Type} {P : β → LS → Prop} {E : Ex → LS → Prop} {f : α → LS → T β} : ∀ {t : T α}, (t.bind f).all P E ↔ t.all (fun a s => (f a s).all P E) E
  | .ret a s => Iff.rfl
  | .exc x s => Iff.rfl
  | .bad => Iff.rfl
  | .draw n k => ⟨fun h i hi => T.all_bind.mp (h i hi), fun h i hi => T.all_bind.mpr (h i hi)⟩
theorem T.all_mono {α : Type} {P P' : α → LS → Prop} {E E' : Ex → LS → Prop} (hP : ∀ a s, P a s → P' a s) (hE : ∀ x s, E x s → E' x s) : ∀ {t : T α}, t.all P E → t.all P' E'
  | .ret _ _, h => hP _ _ h
  | .exc _ _, h => hE _ _ h
  | .bad, h => h
  | .draw _ _, h => fun i hi => T.all_mono hP hE (h i hi)
abbrev M (α : Type) := LS → T α
def T.ofO {α : Type} (o : Option α) (s : LS) : T α := match o with
  | some a => .ret a s
  | none => .bad
theorem T.ofO_all {α : Type} {o : Option α} {s : LS} {P : α → LS → Prop} {E : Ex → LS → Prop} (h : (T.ofO o s).all P E) : ∃ a, o = some a ∧ P a s := by
  cases o with
  | none => exact h.elim
  | some a => exact ⟨a, rfl, h⟩

/-! ### what is what in the abstract heap -/
/-- what a row's text is run with -/
structure Bx where
  P : Program
  w : World
  K : PySem.W.Frag
/-- the pen's entries -/
def penK (c : Addr) (at_ dg cn fo : Int) : List (Key × V) := [(.inr "cells", .ref c), (.inr "at", .int at_), (.inr "digits", .int dg), (.inr "count", .int cn), (.inr "fold", .int fo)]
structure PenN (k : Nat) (at_ dg cn fo : Int) : Prop where
  a0 : 0 ≤ at_
  d0 : 0 ≤ dg
  c0 : 0 ≤ cn
  c1 : cn ≤ k
  f0 : 0 ≤ fo
  f1 : fo < 2147483587
/-- the pen's own dict at p, its list of cells at c, at most k draws done -/
def penHO (B : Bx) (p c : Addr) (k : Nat) : HO := .ext fun h => ∃ at_ dg cn fo, PenN k at_ dg cn fo ∧ (p == sysModules) = false ∧ ∃ vs, KV (penK c at_ dg cn fo) vs ∧ h.DictOf (mixKind B.P B.w) p vs
section
variable (B : Bx) (ρ : List Addr) (H : Hp)
/-- a tuple of the written part -/
def StaT (a : Addr) (vs : List V) : Prop := ∃ (o : Obj) (its : Array Value) (n : Nat), B.K.lookup a = some o ∧ o.cls = .type "tuple" ∧ o.data = .seq its n ∧ its.size ≤ sizeLine ∧ Vals vs its.toList
def StaL (a : Addr) (vs : List V) : Prop := ∃ (o : Obj) (its : Array Value) (n : Nat), B.K.lookup a = some o ∧ o.cls = .type "list" ∧ o.dict = none ∧ o.data = .seq its n ∧ its.size ≤ sizeLine ∧ Vals vs its.toList
mutual
def Rep : D → V → Prop
  | .non, v => v = .non
  | .bl b, v => v = .bl b
  | .int i, v => v = .int i
  | .str s, v => v = .str s
  | .tup ds, v => ∃ a vs, v = .ref a ∧ H a = some (.tup vs) ∧ a ∉ ρ ∧ RepL ds vs
  | .cup ds, v => ∃ a vs, v = .ref a ∧ StaT B a vs ∧ RepL ds vs
  | .ref n, v => ∃ a, v = .ref a ∧ ρ[n]? = some a
  | .scr ns, v => ∃ (a : Addr), v = .ref a ∧ ((a ∉ ρ ∧ ∃ o, H a = some (.frz o (.lst (ns.map V.int)))) ∨ StaL B a (ns.map V.int)) ∧ ns.length ≤ 63
  | .rng lo hi, v => ∃ a, v = .ref a ∧ a ∉ ρ ∧ H a = some (.rng lo hi)
  | .fn a, v => v = .ref a
  | .ty n, v => v = .ty n
def RepL : List D → List V → Prop
  | [], vs => vs = []
  | d :: ds, vs => ∃ v vr, vs = v :: vr ∧ Rep d v ∧ RepL ds vr
end
def RepK {κ : Type} : List (κ × D) → List (κ × V) → Prop
  | [], vs => vs = []
  | (f, d) :: ds, vs => ∃ v vr, vs = (f, v) :: vr ∧ Rep B ρ H d v ∧ RepK ds vr
def RepO (a : Addr) : LO → Prop
  | .lst ds => ∃ vs, H a = some (.lst vs) ∧ RepL B ρ H ds vs
  | .dK kvs => ∃ vs, H a = some (.dK vs) ∧ RepK B ρ H kvs vs
  | .dT kvs => ∃ vs, H a = some (.dT vs) ∧ RepK B ρ H kvs vs
  | .ins C fs => ∃ dx vs, H a = some (.ins C dx vs) ∧ RepK B ρ H fs vs
  | .pen k m => ∃ c : Addr, H a = some (penHO B a c k) ∧ ρ[m]? = some c
  | .cel => ∃ ns : List Int, H a = some (.lst (ns.map V.int)) ∧ ns.length ≤ 63
structure StoR (S : List LO) : Prop where
  len : ρ.length = S.length
  nd : ρ.Nodup
  obj : ∀ (n : Nat) a o, ρ[n]? = some a → S[n]? = some o → RepO B ρ H a o
structure EnvR (env : List (Option D)) (σ : L2.St) : Prop where
  len : env.length = σ.length
  at_ : ∀ (i : Nat) d, env[i]? = some (some d) → ∃ v, σ[i]? = some (some v) ∧ Rep B ρ H d v
structure SR (s : LS) (σ : L2.St) : Prop where
  env : EnvR B ρ H s.env σ
  st : StoR B ρ H s.st
end

/-- from (ρ, H) to (ρ', H'): all that is tracked and no logical object stays; new logical objects are new -/
structure Go (ρ : List Addr) (H : Hp) (ρ' : List Addr) (H' : Hp) : Prop where
  keep : ∀ a o, a ∉ ρ → H a = some o → H' a = some o
  pre : ρ <+: ρ'
  nu : ∀ a ∈ ρ', a ∈ ρ ∨ H a = none
section
variable {B : Bx} {ρ ρ1 ρ2 ρ' : List Addr} {H H1 H2 H' : Hp}
theorem Go.refl : Go ρ H ρ H := ⟨fun _ _ _ h => h, List.prefix_refl _, fun _ h => .inl h⟩
theorem Go.trans (a : Go ρ H ρ1 H1) (b : Go ρ1 H1 ρ2 H2) : Go ρ H ρ2 H2 where
  keep := fun x o hx e => b.keep x o (fun z => by
    rcases a.nu x z with q | q
    · exact hx q
    · rw [e] at q; cases q) (a.keep x o hx e)
  pre := a.pre.trans b.pre
  nu := fun x hx => by
    rcases b.nu x hx with q | q
    · exact a.nu x q
    · by_cases hr : x ∈ ρ
      · exact .inl hr
      · refine .inr ?_
        cases e : H x with
        | none => rfl
        | some o => rw [a.keep x o hr e] at q; cases q
theorem Go.out (g : Go ρ H ρ' H') {a : Addr} {o : HO} (ha : a ∉ ρ) (e : H a = some o) : a ∉ ρ' := fun z => by
  rcases g.nu a z with q | q
  · exact ha q
  · rw [e] at q; cases q
theorem Go.rd (g : Go ρ H ρ' H') {a : Addr} {o : HO} (ha : a ∉ ρ) (e : Rd H a o) : Rd H' a o ∧ a ∉ ρ' := by
  rcases e with e | ⟨u, e⟩
  · exact ⟨.inl (g.keep a _ ha e), g.out ha e⟩
  · exact ⟨.inr ⟨u, g.keep a _ ha e⟩, g.out ha e⟩
mutual
theorem Rep.go (g : Go ρ H ρ' H') : ∀ {d : D} {v : V}, Rep B ρ H d v → Rep B ρ' H' d v
  | .non, _, h => by simpa [Rep] using h
  | .bl _, _, h => by simpa [Rep] using h
  | .int _, _, h => by simpa [Rep] using h
  | .str _, _, h => by simpa [Rep] using h
  | .fn _, _, h => by simpa [Rep] using h
  | .ty _, _, h => by simpa [Rep] using h
  | .tup ds, v, h => by
    simp only [Rep] at h ⊢
    obtain ⟨a, vs, e, t, o, r⟩ := h
    exact ⟨a, vs, e, g.keep _ _ o t, g.out o t, RepL.go g r⟩
  | .cup ds, v, h => by
    simp only [Rep] at h ⊢
    obtain ⟨a, vs, e, t, r⟩ := h
    exact ⟨a, vs, e, t, RepL.go g r⟩
  | .ref n, v, h => by
    simp only [Rep] at h ⊢
    obtain ⟨a, e, q⟩ := h
    obtain ⟨t, rfl⟩ := g.pre
    refine ⟨a, e, ?_⟩
    rw [List.getElem?_append_left (List.getElem?_eq_some_iff.mp q).1]
    exact q
  | .scr ns, v, h => by
    simp only [Rep] at h ⊢
    obtain ⟨a, e, h1, h3⟩ := h
    exact ⟨a, e, h1.elim (fun ⟨h1, o, h2⟩ => .inl ⟨g.out h1 h2, o, g.keep _ _ h1 h2⟩) .inr, h3⟩
  | .rng lo hi, v, h => by
    simp only [Rep] at h ⊢
    obtain ⟨a, e, h1, h2⟩ := h
    exact ⟨a, e, g.out h1 h2, g.keep _ _ h1 h2⟩
theorem RepL.go (g : Go ρ H ρ' H') : ∀ {ds : List D} {vs : List V}, RepL B ρ H ds vs → RepL B ρ' H' ds vs
  | [], _, h => by simpa [RepL] using h
  | d :: ds, _, h => by
    simp only [RepL] at h ⊢
    obtain ⟨v, vr, e, h1, h2⟩ := h
    exact ⟨v, vr, e, Rep.go g h1, RepL.go g h2⟩
end
theorem RepK.go {κ : Type} (g : Go ρ H ρ' H') : ∀ {ds : List (κ × D)} {vs : List (κ × V)}, RepK B ρ H ds vs → RepK B ρ' H' ds vs
  | [], _, h => by simpa [RepK] using h
  | (f, d) :: ds, _, h => by
    simp only [RepK] at h ⊢
    obtain ⟨v, vr, e, h1, h2⟩ := h
    exact ⟨v, vr, e, Rep.go g h1, RepK.go g h2⟩
/-- from H to H' all but lists stays -/
def Hard : HO → Prop
  | .lst _ => False
  | _ => True
mutual
theorem Rep.hard (k : ∀ a o, Hard o → H a = some o → H' a = some o) : ∀ {d : D} {v : V}, Rep B ρ H d v → Rep B ρ H' d v
  | .non, _, h => by simpa [Rep] using h
  | .bl _, _, h => by simpa [Rep] using h
  | .int _, _, h => by simpa [Rep] using h
  | .str _, _, h => by simpa [Rep] using h
  | .fn _, _, h => by simpa [Rep] using h
  | .ty _, _, h => by simpa [Rep] using h
  | .ref _, _, h => by simpa [Rep] using h
  | .tup ds, v, h => by
    simp only [Rep] at h ⊢
    obtain ⟨a, vs, e, t, o, r⟩ := h
    exact ⟨a, vs, e, k _ _ trivial t, o, RepL.hard k r⟩
  | .cup ds, v, h => by
    simp only [Rep] at h ⊢
    obtain ⟨a, vs, e, t, r⟩ := h
    exact ⟨a, vs, e, t, RepL.hard k r⟩
  | .scr ns, v, h => by
    simp only [Rep] at h ⊢
    obtain ⟨a, e, h1, h3⟩ := h
    exact ⟨a, e, h1.elim (fun ⟨h1, o, h2⟩ => .inl ⟨h1, o, k _ _ trivial h2⟩) .inr, h3⟩
  | .rng lo hi, v, h => by
    simp only [Rep] at h ⊢
    obtain ⟨a, e, h1, h2⟩ := h
    exact ⟨a, e, h1, k _ _ trivial h2⟩
theorem RepL.hard (k : ∀ a o, Hard o → H a = some o → H' a = some o) : ∀ {ds : List D} {vs : List V}, RepL B ρ H ds vs → RepL B ρ H' ds vs
  | [], _, h => by simpa [RepL] using h
  | d :: ds, _, h => by
    simp only [RepL] at h ⊢
    obtain ⟨v, vr, e, h1, h2⟩ := h
    exact ⟨v, vr, e, Rep.hard k h1, RepL.hard k h2⟩
end
mutual
theorem Rep.more {p : Addr} {xs : List V} (hp : H p = some (.lst xs)) : ∀ {d : D} {v : V}, Rep B ρ H d v → Rep B (ρ ++ [p]) H d v
  | .non, _, h => by simpa [Rep] using h
  | .bl _, _, h => by simpa [Rep] using h
  | .int _, _, h => by simpa [Rep] using h
  | .str _, _, h => by simpa [Rep] using h
  | .fn _, _, h => by simpa [Rep] using h
  | .ty _, _, h => by simpa [Rep] using h
  | .ref n, _, h => by
    simp only [Rep] at h ⊢
    obtain ⟨a, e, q⟩ := h
    exact ⟨a, e, by rw [List.getElem?_append_left (List.getElem?_eq_some_iff.mp q).1]; exact q⟩
  | .tup ds, v, h => by
    simp only [Rep] at h ⊢
    obtain ⟨a, vs, e, t, o, r⟩ := h
    refine ⟨a, vs, e, t, fun z => ?_, RepL.more hp r⟩
    rcases List.mem_append.mp z with z | z
    · exact o z
    · simp at z; subst z; rw [hp] at t; cases t
  | .cup ds, v, h => by
    simp only [Rep] at h ⊢
    obtain ⟨a, vs, e, t, r⟩ := h
    exact ⟨a, vs, e, t, RepL.more hp r⟩
  | .scr ns, v, h => by
    simp only [Rep] at h ⊢
    obtain ⟨a, e, h1, h3⟩ := h
    refine ⟨a, e, h1.elim (fun ⟨h1, o, h2⟩ => .inl ⟨fun z => ?_, o, h2⟩) .inr, h3⟩
    rcases List.mem_append.mp z with z | z
    · exact h1 z
    · simp at z; subst z; rw [hp] at h2; cases h2
  | .rng lo hi, v, h => by
    simp only [Rep] at h ⊢
    obtain ⟨a, e, h1, h2⟩ := h
    refine ⟨a, e, fun z => ?_, h2⟩
    rcases List.mem_append.mp z with z | z
    · exact h1 z
    · simp at z; subst z; rw [hp] at h2; cases h2
theorem RepL.more {p : Addr} {xs : List V} (hp : H p = some (.lst xs)) : ∀ {ds : List D} {vs : List V}, RepL B ρ H ds vs → RepL B (ρ ++ [p]) H ds vs
  | [], _, h => by simpa [RepL] using h
  | d :: ds, _, h => by
    simp only [RepL] at h ⊢
    obtain ⟨v, vr, e, h1, h2⟩ := h
    exact ⟨v, vr, e, Rep.more hp h1, RepL.more hp h2⟩
end
theorem RepK.more {κ : Type} {p : Addr} {xs : List V} (hp : H p = some (.lst xs)) : ∀ {ds : List (κ × D)} {vs : List (κ × V)}, RepK B ρ H ds vs → RepK B (ρ ++ [p]) H ds vs
  | [], _, h => by simpa [RepK] using h
  | (f, d) :: ds, _, h => by
    simp only [RepK] at h ⊢
    obtain ⟨v, vr, e, h1, h2⟩ := h
    exact ⟨v, vr, e, Rep.more hp h1, RepK.more hp h2⟩
theorem RepO.more {p : Addr} {xs : List V} (hp : H p = some (.lst xs)) {a : Addr} {o : LO} (h : RepO B ρ H a o) : RepO B (ρ ++ [p]) H a o := by
  cases o with
  | lst _ => obtain ⟨vs, e, r⟩ := h; exact ⟨vs, e, r.more hp⟩
  | dK _ => obtain ⟨vs, e, r⟩ := h; exact ⟨vs, e, r.more hp⟩
  | dT _ => obtain ⟨vs, e, r⟩ := h; exact ⟨vs, e, r.more hp⟩
  | ins _ _ => obtain ⟨dx, vs, e, r⟩ := h; exact ⟨dx, vs, e, r.more hp⟩
  | pen _ m => obtain ⟨c, e, h1⟩ := h; exact ⟨c, e, by rw [List.getElem?_append_left (List.getElem?_eq_some_iff.mp h1).1]; exact h1⟩
  | cel => exact h
theorem RepK.hard {κ : Type} (k : ∀ a o, Hard o → H a = some o → H' a = some o) : ∀ {ds : List (κ × D)} {vs : List (κ × V)}, RepK B ρ H ds vs → RepK B ρ H' ds vs
  | [], _, h => by simpa [RepK] using h
  | (f, d) :: ds, _, h => by
    simp only [RepK] at h ⊢
    obtain ⟨v, vr, e, h1, h2⟩ := h
    exact ⟨v, vr, e, Rep.hard k h1, RepK.hard k h2⟩
theorem RepL.length : ∀ {ds : List D} {vs : List V}, RepL B ρ H ds vs → vs.length = ds.length
  | [], _, h => by simp only [RepL] at h; subst h; rfl
  | d :: ds, _, h => by
    simp only [RepL] at h
    obtain ⟨v, vr, e, h1, h2⟩ := h
    subst e
    simp [RepL.length h2]
theorem RepL.get : ∀ {ds : List D} {vs : List V} {i : Nat} {d : D}, RepL B ρ H ds vs → ds[i]? = some d → ∃ v, vs[i]? = some v ∧ Rep B ρ H d v
  | d :: ds, _, 0, _, h, e => by
    simp only [RepL] at h
    obtain ⟨v, vr, q, h1, h2⟩ := h
    simp at e; subst e; subst q
    exact ⟨v, rfl, h1⟩
  | d :: ds, _, i + 1, x, h, e => by
    simp only [RepL] at h
    obtain ⟨v, vr, q, h1, h2⟩ := h
    subst q
    obtain ⟨u, a, b⟩ := RepL.get (i := i) h2 (by simpa using e)
    exact ⟨u, by simpa using a, b⟩
theorem RepL.get' : ∀ {ds : List D} {vs : List V} {i : Nat} {v : V}, RepL B ρ H ds vs → vs[i]? = some v → ∃ d, ds[i]? = some d ∧ Rep B ρ H d v := fun {ds vs i v} h e => by
  have l := h.length
  have hi := (List.getElem?_eq_some_iff.mp e).1
  obtain ⟨u, a, b⟩ := h.get (i := i) (d := ds[i]'(by omega)) (by simp [show i < ds.length by omega])
  rw [e] at a; cases a
  exact ⟨_, by simp [show i < ds.length by omega], b⟩
theorem RepL.append : ∀ {ds es : List D} {vs ws : List V}, RepL B ρ H ds vs → RepL B ρ H es ws → RepL B ρ H (ds ++ es) (vs ++ ws)
  | [], _, _, _, h, k => by simp only [RepL] at h; subst h; simpa using k
  | d :: ds, _, _, _, h, k => by
    simp only [RepL] at h
    obtain ⟨v, vr, q, h1, h2⟩ := h
    subst q
    simp only [List.cons_append, RepL]
    exact ⟨v, _, rfl, h1, RepL.append h2 k⟩
theorem RepL.take : ∀ {ds : List D} {vs : List V} (n : Nat), RepL B ρ H ds vs → RepL B ρ H (ds.take n) (vs.take n)
  | [], _, n, h => by simp only [RepL] at h; subst h; simp [RepL]
  | d :: ds, _, 0, h => by simp [RepL]
  | d :: ds, _, n + 1, h => by
    simp only [RepL] at h
    obtain ⟨v, vr, q, h1, h2⟩ := h
    subst q
    simp only [List.take_succ_cons, RepL]
    exact ⟨v, _, rfl, h1, RepL.take n h2⟩
theorem RepL.drop : ∀ {ds : List D} {vs : List V} (n : Nat), RepL B ρ H ds vs → RepL B ρ H (ds.drop n) (vs.drop n)
  | [], _, n, h => by simp only [RepL] at h; subst h; simp [RepL]
  | d :: ds, _, 0, h => by simpa using h
  | d :: ds, _, n + 1, h => by
    simp only [RepL] at h
    obtain ⟨v, vr, q, h1, h2⟩ := h
    subst q
    simp only [List.drop_succ_cons]
    exact RepL.drop n h2
theorem RepL.set : ∀ {ds : List D} {vs : List V} (n : Nat) {d : D} {v : V}, RepL B ρ H ds vs → Rep B ρ H d v → RepL B ρ H (ds.set n d) (vs.set n v)
  | [], _, n, _, _, h, _ => by simp only [RepL] at h; subst h; simp [RepL]
  | d :: ds, _, 0, _, _, h, k => by
    simp only [RepL] at h
    obtain ⟨v, vr, q, h1, h2⟩ := h
    subst q
    simp only [List.set_cons_zero, RepL]
    exact ⟨_, _, rfl, k, h2⟩
  | d :: ds, _, n + 1, _, _, h, k => by
    simp only [RepL] at h
    obtain ⟨v, vr, q, h1, h2⟩ := h
    subst q
    simp only [List.set_cons_succ, RepL]
    exact ⟨v, _, rfl, h1, RepL.set n h2 k⟩
theorem RepL.snoc {ds : List D} {vs : List V} {d : D} {v : V} (h : RepL B ρ H ds vs) (k : Rep B ρ H d v) : RepL B ρ H (ds ++ [d]) (vs ++ [v]) :=
  h.append (by simp only [RepL]; exact ⟨v, [], rfl, k, rfl⟩)
theorem RepL.map {α : Type} {f : α → D} {g : α → V} (h : ∀ a, Rep B ρ H (f a) (g a)) : ∀ (l : List α), RepL B ρ H (l.map f) (l.map g)
  | [] => by simp [RepL]
  | a :: l => by
    simp only [List.map_cons, RepL]
    exact ⟨_, _, rfl, h a, RepL.map h l⟩

/-! ### the state's changes -/
theorem EnvR.go (g : Go ρ H ρ' H') {env : List (Option D)} {σ : L2.St} (h : EnvR B ρ H env σ) : EnvR B ρ' H' env σ :=
  ⟨h.len, fun i d e => let ⟨v, a, b⟩ := h.at_ i d e; ⟨v, a, b.go g⟩⟩
theorem EnvR.set {env : List (Option D)} {σ : L2.St} (h : EnvR B ρ H env σ) {i : Nat} {d : D} {v : V} (r : Rep B ρ H d v) : EnvR B ρ H (env.set i (some d)) (σ.set i (some v)) := by
  refine ⟨by simpa using h.len, fun j x e => ?_⟩
  by_cases hj : i = j
  · subst hj
    by_cases hi : i < env.length
    · rw [List.getElem?_set_self hi] at e
      cases e
      exact ⟨v, by rw [List.getElem?_set_self (by rw [← h.len]; exact hi)], r⟩
    · rw [List.getElem?_eq_none (by simpa using hi)] at e
      cases e
  · rw [List.getElem?_set_ne hj] at e
    obtain ⟨u, a, b⟩ := h.at_ j x e
    exact ⟨u, by rw [List.getElem?_set_ne hj]; exact a, b⟩
theorem RepO.some_ {a : Addr} {o : LO} (h : RepO B ρ H a o) : ∃ u, H a = some u := by
  cases o with
  | lst _ => obtain ⟨_, e, _⟩ := h; exact ⟨_, e⟩
  | dK _ => obtain ⟨_, e, _⟩ := h; exact ⟨_, e⟩
  | dT _ => obtain ⟨_, e, _⟩ := h; exact ⟨_, e⟩
  | ins _ _ => obtain ⟨_, _, e, _⟩ := h; exact ⟨_, e⟩
  | pen _ _ => obtain ⟨_, e, _⟩ := h; exact ⟨_, e⟩
  | cel => obtain ⟨_, e, _⟩ := h; exact ⟨_, e⟩
theorem RepO.go (g : Go ρ H ρ' H') {a : Addr} {o : LO} (same : H' a = H a) (h : RepO B ρ H a o) : RepO B ρ' H' a o := by
  cases o with
  | lst _ => obtain ⟨vs, e, r⟩ := h; exact ⟨vs, same.trans e, r.go g⟩
  | dK _ => obtain ⟨vs, e, r⟩ := h; exact ⟨vs, same.trans e, r.go g⟩
  | dT _ => obtain ⟨vs, e, r⟩ := h; exact ⟨vs, same.trans e, r.go g⟩
  | ins _ _ => obtain ⟨dx, vs, e, r⟩ := h; exact ⟨dx, vs, same.trans e, r.go g⟩
  | pen _ m =>
    obtain ⟨c, e, h1⟩ := h
    obtain ⟨t, rfl⟩ := g.pre
    exact ⟨c, same.trans e, by rw [List.getElem?_append_left (List.getElem?_eq_some_iff.mp h1).1]; exact h1⟩
  | cel => obtain ⟨ns, e, h1⟩ := h; exact ⟨ns, same.trans e, h1⟩
theorem StoR.in_ {S : List LO} (h : StoR B ρ H S) {a : Addr} (ha : a ∈ ρ) : ∃ u, H a = some u := by
  obtain ⟨n, hn, e⟩ := List.getElem_of_mem ha
  have hS : n < S.length := by rw [← h.len]; exact hn
  exact (h.obj n a S[n] (by simp [hn, e]) (by simp [hS])).some_
theorem StoR.fresh {S : List LO} (h : StoR B ρ H S) {p : Addr} (hp : H p = none) : p ∉ ρ := fun z => by
  obtain ⟨u, e⟩ := h.in_ z
  rw [hp] at e; cases e
/-- something new that is no logical object -/
theorem Go.laid {p : Addr} {o : HO} (hp : H p = none) : Go ρ H ρ (upd H p o) :=
  ⟨fun a u _ e => by rw [upd_ne (ne_of_none e hp)]; exact e, List.prefix_refl _, fun _ h => .inl h⟩
theorem StoR.laid {S : List LO} (h : StoR B ρ H S) {p : Addr} {o : HO} (hp : H p = none) : StoR B ρ (upd H p o) S :=
  ⟨h.len, h.nd, fun n a u e1 e2 => (h.obj n a u e1 e2).go (Go.laid hp) (upd_ne (fun z => by
    obtain ⟨w, q⟩ := (h.obj n a u e1 e2).some_
    rw [z, hp] at q; cases q))⟩
/-- a new logical object -/
theorem Go.new {p : Addr} {o : HO} (hp : H p = none) : Go ρ H (ρ ++ [p]) (upd H p o) :=
  ⟨fun a u _ e => by rw [upd_ne (ne_of_none e hp)]; exact e, List.prefix_append _ _, fun a h => by
    rcases List.mem_append.mp h with h | h
    · exact .inl h
    · exact .inr (by simp at h; rw [h]; exact hp)⟩
theorem StoR.new {S : List LO} (h : StoR B ρ H S) {p : Addr} {o : HO} {u : LO} (hp : H p = none) (hr : RepO B (ρ ++ [p]) (upd H p o) p u) : StoR B (ρ ++ [p]) (upd H p o) (S ++ [u]) := by
  refine ⟨by simp [h.len], ?_, fun n a x e1 e2 => ?_⟩
  · rw [List.nodup_append]
    refine ⟨h.nd, by simp, fun a ha b hb => ?_⟩
    simp at hb; subst hb
    exact fun z => h.fresh hp (z ▸ ha)
  · by_cases hn : n < ρ.length
    · rw [List.getElem?_append_left hn] at e1
      rw [List.getElem?_append_left (by rw [← h.len]; exact hn)] at e2
      have q := h.obj n a x e1 e2
      refine q.go (Go.new hp) (upd_ne fun z => ?_)
      obtain ⟨w, q⟩ := q.some_
      rw [z, hp] at q; cases q
    · have e1' := e1
      rw [List.getElem?_append_right (by omega)] at e1
      rw [List.getElem?_append_right (by rw [← h.len]; omega)] at e2
      have z : n - ρ.length = 0 := by
        have := (List.getElem?_eq_some_iff.mp e1).1
        simp at this; omega
      rw [z] at e1
      rw [← h.len, z] at e2
      simp at e1 e2
      subst e1; subst e2
      exact hr
/-- a list that is no logical object changes -/
theorem hard_upd {p : Addr} {xs ys : List V} (hp : H p = some (.lst xs)) : ∀ a o, Hard o → H a = some o → upd H p (.lst ys) a = some o := fun a o h e => by
  rw [upd_ne (ne_of e hp (fun z => by subst z; exact h))]
  exact e
theorem SR.soft {s : LS} {σ : L2.St} (sr : SR B ρ H s σ) {p : Addr} {xs ys : List V} (hp : H p = some (.lst xs)) (hn : p ∉ ρ) : SR B ρ (upd H p (.lst ys)) s σ := by
  have k := hard_upd (ys := ys) hp
  refine ⟨⟨sr.env.len, fun i d e => let ⟨v, a, b⟩ := sr.env.at_ i d e; ⟨v, a, b.hard k⟩⟩, sr.st.len, sr.st.nd, fun n a o e1 e2 => ?_⟩
  have ne : a ≠ p := fun z => hn (z ▸ List.mem_of_getElem? e1)
  have q := sr.st.obj n a o e1 e2
  cases o with
  | lst _ => obtain ⟨vs, e, r⟩ := q; exact ⟨vs, (upd_ne ne).trans e, r.hard k⟩
  | dK _ => obtain ⟨vs, e, r⟩ := q; exact ⟨vs, (upd_ne ne).trans e, r.hard k⟩
  | dT _ => obtain ⟨vs, e, r⟩ := q; exact ⟨vs, (upd_ne ne).trans e, r.hard k⟩
  | ins _ _ => obtain ⟨dx, vs, e, r⟩ := q; exact ⟨dx, vs, (upd_ne ne).trans e, r.hard k⟩
  | pen _ _ => obtain ⟨c, e, h1⟩ := q; exact ⟨c, (upd_ne ne).trans e, h1⟩
  | cel => obtain ⟨ns, e, h1⟩ := q; exact ⟨ns, (upd_ne ne).trans e, h1⟩
/-- .. and what was new stays new -/
theorem Go.soft (g : Go ρ H ρ1 H1) {p : Addr} {o : HO} (hp : H p = none) : Go ρ H ρ1 (upd H1 p o) :=
  ⟨fun a u ha e => by rw [upd_ne (ne_of_none e hp)]; exact g.keep a u ha e, g.pre, g.nu⟩
/-- a logical object is written -/
theorem Go.write {a : Addr} {o : HO} (ha : a ∈ ρ) : Go ρ H ρ (upd H a o) :=
  ⟨fun b u hb e => by rw [upd_ne (show b ≠ a from fun z => hb (by rw [z]; exact ha))]; exact e, List.prefix_refl _, fun _ h => .inl h⟩
theorem StoR.write {S : List LO} (h : StoR B ρ H S) {n : Nat} {a : Addr} {o : HO} {u : LO} (hn : ρ[n]? = some a) (hr : RepO B ρ (upd H a o) a u) : StoR B ρ (upd H a o) (S.set n u) := by
  have ha : a ∈ ρ := List.mem_of_getElem? hn
  refine ⟨by simp [h.len], h.nd, fun m b x e1 e2 => ?_⟩
  by_cases hm : n = m
  · subst hm
    rw [hn] at e1; cases e1
    have hl : n < S.length := by rw [← h.len]; exact (List.getElem?_eq_some_iff.mp hn).1
    rw [List.getElem?_set_self hl] at e2
    cases e2
    exact hr
  · rw [List.getElem?_set_ne hm] at e2
    refine (h.obj m b x e1 e2).go (Go.write ha) (upd_ne fun z => ?_)
    subst z
    exact hm (nd_ix h.nd hn e1)
end
end Mz

set_option Elab.async false
set_option linter.all false
set_option maxRecDepth 100000
set_option maxHeartbeats 4000000
namespace Mz
open PySem PySem.Spec PyProof.Rows L2

abbrev bx (X : Cx) : Bx := ⟨X.prog, X.w, X.K⟩

/-! ### what is wanted behind -/
section
variable (B : Bx)
/-- an exception's own dict -/
def ExD (ρ : List Addr) (H : Hp) (fs : List (Str × D)) : Option Addr → Prop
  | some dx => ∃ vs, H dx = some (.xd vs) ∧ RepK B ρ H fs vs
  | none => fs = []
def PX (W : WX) (ρ : List Addr) (H : Hp) : Ex → LS → Prop := fun x s' => ∀ ρ' H' σ' d, Go ρ H ρ' H' → SR B ρ' H' s' σ' → ExD B ρ' H' x.fs d → W x.cls d σ' H'
def PV (ρ : List Addr) (H : Hp) (σ : L2.St) (Q : VK) : D → LS → Prop := fun d s' => ∀ ρ' H' v, Go ρ H ρ' H' → SR B ρ' H' s' σ → Rep B ρ' H' d v → Q v H'
def PB (ρ : List Addr) (H : Hp) (σ : L2.St) (Q : Bool → Hp → Prop) : Bool → LS → Prop := fun b s' => ∀ ρ' H', Go ρ H ρ' H' → SR B ρ' H' s' σ → Q b H'
def PL (ρ : List Addr) (H : Hp) (σ : L2.St) (Q : List V → Hp → Prop) : List D → LS → Prop := fun ds s' => ∀ ρ' H' vs, Go ρ H ρ' H' → SR B ρ' H' s' σ → RepL B ρ' H' ds vs → Q vs H'
inductive Fl where
  | nx | bk | ct | rt (d : D)
def PF (ρ : List Addr) (H : Hp) (E : Ends) : Fl → LS → Prop := fun f s' => ∀ ρ' H' σ', Go ρ H ρ' H' → SR B ρ' H' s' σ' → match f with
  | .nx => E.nx σ' H'
  | .bk => E.bk σ' H'
  | .ct => E.ct σ' H'
  | .rt d => ∀ v, Rep B ρ' H' d v → E.rt v H'
def PU (ρ : List Addr) (H : Hp) (Q : L2.St → Hp → Prop) : Unit → LS → Prop := fun _ s' => ∀ ρ' H' σ', Go ρ H ρ' H' → SR B ρ' H' s' σ' → Q σ' H'
def tE (W : WX) (m : M D) : TE := fun σ H Q => ∃ ρ s, SR B ρ H s σ ∧ (m s).all (PV B ρ H σ Q) (PX B W ρ H)
def tT (W : WX) (m : M Bool) : TT := fun σ H Q => ∃ ρ s, SR B ρ H s σ ∧ (m s).all (PB B ρ H σ Q) (PX B W ρ H)
def tL (W : WX) (m : M (List D)) : TA := fun σ H Q => ∃ ρ s, SR B ρ H s σ ∧ (m s).all (PL B ρ H σ Q) (PX B W ρ H)
def tS (W : WX) (m : M Fl) : TS := fun E σ H => ∃ ρ s, SR B ρ H s σ ∧ (m s).all (PF B ρ H E) (PX B W ρ H)
def tG (W : WX) (g : D → M Unit) : TG := fun v σ H Q => ∃ ρ s d, SR B ρ H s σ ∧ Rep B ρ H d v ∧ (g d s).all (PU B ρ H Q) (PX B W ρ H)
def tGs (W : WX) (g : List D → M Unit) : TGs := fun vs σ H Q => ∃ ρ s ds, SR B ρ H s σ ∧ RepL B ρ H ds vs ∧ (g ds s).all (PU B ρ H Q) (PX B W ρ H)
end
section
variable {B : Bx} {W : WX} {ρ ρ1 : List Addr} {H H1 : Hp} {σ : L2.St}
theorem PX.go (g : Go ρ H ρ1 H1) {x : Ex} {s : LS} (h : PX B W ρ H x s) : PX B W ρ1 H1 x s := fun ρ' H' σ' d g' => h ρ' H' σ' d (g.trans g')
theorem PV.go (g : Go ρ H ρ1 H1) {Q : VK} {d : D} {s : LS} (h : PV B ρ H σ Q d s) : PV B ρ1 H1 σ Q d s := fun ρ' H' v g' => h ρ' H' v (g.trans g')
theorem PB.go (g : Go ρ H ρ1 H1) {Q : Bool → Hp → Prop} {d : Bool} {s : LS} (h : PB B ρ H σ Q d s) : PB B ρ1 H1 σ Q d s := fun ρ' H' g' => h ρ' H' (g.trans g')
theorem PL.go (g : Go ρ H ρ1 H1) {Q : List V → Hp → Prop} {d : List D} {s : LS} (h : PL B ρ H σ Q d s) : PL B ρ1 H1 σ Q d s := fun ρ' H' v g' => h ρ' H' v (g.trans g')
theorem PF.go (g : Go ρ H ρ1 H1) {E : Ends} {f : Fl} {s : LS} (h : PF B ρ H E f s) : PF B ρ1 H1 E f s := fun ρ' H' σ' g' => h ρ' H' σ' (g.trans g')
theorem PU.go (g : Go ρ H ρ1 H1) {Q : L2.St → Hp → Prop} {u : Unit} {s : LS} (h : PU B ρ H Q u s) : PU B ρ1 H1 Q u s := fun ρ' H' σ' g' => h ρ' H' σ' (g.trans g')

/-- run m from here, then go on -/
theorem tE.run {ρ0 : List Addr} {H0 : Hp} {m : M D} {s : LS} {P : D → LS → Prop} {Q : VK} (sr : SR B ρ H s σ) (g : Go ρ0 H0 ρ H) (h : (m s).all P (PX B W ρ0 H0))
    (hP : ∀ d s1 ρ1 H1 v, P d s1 → Go ρ H ρ1 H1 → Go ρ0 H0 ρ1 H1 → SR B ρ1 H1 s1 σ → Rep B ρ1 H1 d v → Q v H1) : tE B W m σ H Q :=
  ⟨ρ, s, sr, T.all_mono (fun d s1 p ρ1 H1 v g1 sr1 r => hP d s1 ρ1 H1 v p g1 (g.trans g1) sr1 r) (fun x s1 p => p.go g) h⟩
theorem tT.run {ρ0 : List Addr} {H0 : Hp} {m : M Bool} {s : LS} {P : Bool → LS → Prop} {Q : Bool → Hp → Prop} (sr : SR B ρ H s σ) (g : Go ρ0 H0 ρ H) (h : (m s).all P (PX B W ρ0 H0))
    (hP : ∀ d s1 ρ1 H1, P d s1 → Go ρ H ρ1 H1 → Go ρ0 H0 ρ1 H1 → SR B ρ1 H1 s1 σ → Q d H1) : tT B W m σ H Q :=
  ⟨ρ, s, sr, T.all_mono (fun d s1 p ρ1 H1 g1 sr1 => hP d s1 ρ1 H1 p g1 (g.trans g1) sr1) (fun x s1 p => p.go g) h⟩
theorem tL.run {ρ0 : List Addr} {H0 : Hp} {m : M (List D)} {s : LS} {P : List D → LS → Prop} {Q : List V → Hp → Prop} (sr : SR B ρ H s σ) (g : Go ρ0 H0 ρ H) (h : (m s).all P (PX B W ρ0 H0))
    (hP : ∀ d s1 ρ1 H1 v, P d s1 → Go ρ H ρ1 H1 → Go ρ0 H0 ρ1 H1 → SR B ρ1 H1 s1 σ → RepL B ρ1 H1 d v → Q v H1) : tL B W m σ H Q :=
  ⟨ρ, s, sr, T.all_mono (fun d s1 p ρ1 H1 v g1 sr1 r => hP d s1 ρ1 H1 v p g1 (g.trans g1) sr1 r) (fun x s1 p => p.go g) h⟩
theorem tS.run {ρ0 : List Addr} {H0 : Hp} {m : M Fl} {s : LS} {P : Fl → LS → Prop} {E : Ends} (sr : SR B ρ H s σ) (g : Go ρ0 H0 ρ H) (h : (m s).all P (PX B W ρ0 H0))
    (hP : ∀ f s1 ρ1 H1 σ1, P f s1 → Go ρ H ρ1 H1 → Go ρ0 H0 ρ1 H1 → SR B ρ1 H1 s1 σ1 → match f with
      | .nx => E.nx σ1 H1
      | .bk => E.bk σ1 H1
      | .ct => E.ct σ1 H1
      | .rt d => ∀ v, Rep B ρ1 H1 d v → E.rt v H1) : tS B W m E σ H :=
  ⟨ρ, s, sr, T.all_mono (fun f s1 p ρ1 H1 σ1 g1 sr1 => hP f s1 ρ1 H1 σ1 p g1 (g.trans g1) sr1) (fun x s1 p => p.go g) h⟩
theorem tG.run {ρ0 : List Addr} {H0 : Hp} {gm : D → M Unit} {d : D} {v : V} {s : LS} {P : Unit → LS → Prop} {Q : L2.St → Hp → Prop} (sr : SR B ρ H s σ) (r : Rep B ρ H d v) (g : Go ρ0 H0 ρ H) (h : (gm d s).all P (PX B W ρ0 H0))
    (hP : ∀ s1 ρ1 H1 σ1, P () s1 → Go ρ H ρ1 H1 → Go ρ0 H0 ρ1 H1 → SR B ρ1 H1 s1 σ1 → Q σ1 H1) : tG B W gm v σ H Q :=
  ⟨ρ, s, d, sr, r, T.all_mono (fun _ s1 p ρ1 H1 σ1 g1 sr1 => hP s1 ρ1 H1 σ1 p g1 (g.trans g1) sr1) (fun x s1 p => p.go g) h⟩
theorem tGs.run {ρ0 : List Addr} {H0 : Hp} {gm : List D → M Unit} {d : List D} {v : List V} {s : LS} {P : Unit → LS → Prop} {Q : L2.St → Hp → Prop} (sr : SR B ρ H s σ) (r : RepL B ρ H d v) (g : Go ρ0 H0 ρ H) (h : (gm d s).all P (PX B W ρ0 H0))
    (hP : ∀ s1 ρ1 H1 σ1, P () s1 → Go ρ H ρ1 H1 → Go ρ0 H0 ρ1 H1 → SR B ρ1 H1 s1 σ1 → Q σ1 H1) : tGs B W gm v σ H Q :=
  ⟨ρ, s, d, sr, r, T.all_mono (fun _ s1 p ρ1 H1 σ1 g1 sr1 => hP s1 ρ1 H1 σ1 p g1 (g.trans g1) sr1) (fun x s1 p => p.go g) h⟩
end

/-! ### weaker readings -/
theorem PE.imp {X : Cx} {e : Expr} {t t' : TE} (h : PE X e t) (i : ∀ σ H Q, t' σ H Q → t σ H Q) : PE X e t' := ⟨fun pins s σ H Q I q => h.run pins s σ H Q I (i σ H Q q)⟩
theorem PT.imp {X : Cx} {e : Expr} {t t' : TT} (h : PT X e t) (i : ∀ σ H Q, t' σ H Q → t σ H Q) : PT X e t' := ⟨fun pins s σ H Q I q => h.run pins s σ H Q I (i σ H Q q)⟩
theorem PW.imp {X : Cx} {e : Expr} {t t' : TT} (h : PW X e t) (i : ∀ σ H Q, t' σ H Q → t σ H Q) : PW X e t' := ⟨fun wh pins s σ H Q I q => h.run wh pins s σ H Q I (i σ H Q q)⟩
theorem PA.imp {X : Cx} {e : List Expr} {t t' : TA} (h : PA X e t) (i : ∀ σ H Q, t' σ H Q → t σ H Q) : PA X e t' := ⟨fun pos pins s σ H Q I q => h.run pos pins s σ H Q I (i σ H Q q)⟩
theorem PS.imp {X : Cx} {e : Stmt} {t t' : TS} (h : PS X e t) (i : ∀ E σ H, t' E σ H → t E σ H) : PS X e t' := ⟨fun pins s σ H E I q => h.run pins s σ H E I (i E σ H q)⟩
theorem PSs.imp {X : Cx} {e : List Stmt} {t t' : TS} (h : PSs X e t) (i : ∀ E σ H, t' E σ H → t E σ H) : PSs X e t' := ⟨fun pins s σ H E I q => h.run pins s σ H E I (i E σ H q)⟩
theorem PG.imp {X : Cx} {e : Expr} {t t' : TG} (h : PG X e t) (i : ∀ v σ H Q, t' v σ H Q → t v σ H Q) : PG X e t' := ⟨fun pins s σ H v u Q I r q => h.run pins s σ H v u Q I r (i v σ H Q q)⟩
theorem PGs.imp {X : Cx} {e : List Expr} {t t' : TGs} (h : PGs X e t) (i : ∀ v σ H Q, t' v σ H Q → t v σ H Q) : PGs X e t' := ⟨fun pins s σ H v u Q I r q => h.run pins s σ H v u Q I r (i v σ H Q q)⟩
theorem PI.imp {X : Cx} {tg e : Expr} {t t' : TI} (h : PI X tg e t) (i : ∀ σ H R, t' σ H R → t σ H R) : PI X tg e t' := ⟨fun pins s σ H R I q => h.run pins s σ H R I (i σ H R q)⟩
theorem PO.imp {X : Cx} {e : Option Expr} {t t' : TO} (h : PO X e t) (i : ∀ σ H Q, t' σ H Q → t σ H Q) : PO X e t' := ⟨fun pins s σ H Q I q => h.run pins s σ H Q I (i σ H Q q)⟩

/-- a piece of syntax does what the program m says -/
abbrev ME (X : Cx) (W : WX) (e : Expr) (m : M D) : Prop := PE X e (tE (bx X) W m)
abbrev MT (X : Cx) (W : WX) (e : Expr) (m : M Bool) : Prop := PT X e (tT (bx X) W m)
abbrev MW (X : Cx) (W : WX) (e : Expr) (m : M Bool) : Prop := PW X e (tT (bx X) W m)
abbrev MA (X : Cx) (W : WX) (e : List Expr) (m : M (List D)) : Prop := PA X e (tL (bx X) W m)
abbrev MS (X : Cx) (W : WX) (e : Stmt) (m : M Fl) : Prop := PS X e (tS (bx X) W m)
abbrev MSs (X : Cx) (W : WX) (e : List Stmt) (m : M Fl) : Prop := PSs X e (tS (bx X) W m)
abbrev MG (X : Cx) (W : WX) (e : Expr) (g : D → M Unit) : Prop := PG X e (tG (bx X) W g)
abbrev MGs (X : Cx) (W : WX) (e : List Expr) (g : List D → M Unit) : Prop := PGs X e (tGs (bx X) W g)

/-! ### the programs' words -/
def M.bind {α β : Type} (m : M α) (f : α → M β) : M β := fun s => (m s).bind f
def mRet {α : Type} (a : α) : M α := fun s => .ret a s
def mBad {α : Type} : M α := fun _ => .bad
def mO {α : Type} (o : Option α) : M α := fun s => match o with
  | some a => .ret a s
  | none => .bad
def mVar (i : Nat) : M D := fun s => match s.env[i]? with
  | some (some d) => .ret d s
  | _ => .bad
def mOp (f : D → D → M D) (a b : M D) : M D := fun s => (a s).bind fun x s1 => (b s1).bind fun y s2 => f x y s2
def mUn (f : D → M D) (a : M D) : M D := fun s => (a s).bind fun x s1 => f x s1
def mNil : M (List D) := fun s => .ret [] s
def mCons (a : M D) (r : M (List D)) : M (List D) := fun s => (a s).bind fun x s1 => (r s1).bind fun xs s2 => .ret (x :: xs) s2
def alloc (o : LO) : M D := fun s => .ret (.ref s.st.length) { s with st := s.st ++ [o] }
def put (n : Nat) (o : LO) : M Unit := fun s => .ret () { s with st := s.st.set n o }
/-- a list's items -/
def lstAt (S : List LO) : D → Option (List D)
  | .ref n => match S[n]? with
    | some (.lst xs) => some xs
    | _ => none
  | _ => none
/-- a list's or a tuple's -/
def seqAt (S : List LO) : D → Option (List D)
  | .tup xs => some xs
  | .ref n => match S[n]? with
    | some (.lst xs) => some xs
    | _ => none
  | _ => none

/-! ### names, constants -/
section
variable {X : Cx} {W : WX}
/-- the names of a def (or a block in it): N by slot, the scope -/
structure Cc (X : Cx) (N : List Str) (sc : Scope) : Prop where
  hN : X.N = N
  nd : N.Nodup
  hs : X.env.scope = sc
  calm : X.calm = true
theorem Cc.nd' {N : List Str} {sc : Scope} (c : Cc X N sc) : X.N.Nodup := by rw [c.hN]; exact c.nd
theorem me_var {N : List Str} {sc : Scope} (c : Cc X N sc) (i : Nat) {x : Str} {pos : Pos} (h1 : N[i]? = some x) (h2 : Vis sc x) (hd : (x == ("__debug__" : Str)) = false := by decide +kernel) (hcd : (x == ("__classdict__" : Str)) = false := by decide +kernel) :
    ME X W (.Name x pos) (mVar i) := by
  refine PE.imp (pe_var (i := i) (by rw [c.hN]; exact h1) (by rw [c.hs]; exact h2) hd hcd) fun σ H Q h => ?_
  obtain ⟨ρ, s, sr, h⟩ := h
  unfold mVar at h
  cases e : s.env[i]? with
  | none => rw [e] at h; exact h.elim
  | some o =>
    cases o with
    | none => rw [e] at h; exact h.elim
    | some d =>
      rw [e] at h
      obtain ⟨v, ev, r⟩ := sr.env.at_ i d e
      exact ⟨v, ev, h ρ H v .refl sr r⟩
theorem me_c {e : Expr} {v : V} {d : D} (h : PE X e (tC v)) (r : ∀ ρ H, Rep (bx X) ρ H d v) : ME X W e (mRet d) := by
  refine PE.imp h fun σ H Q ⟨ρ, s, sr, h⟩ => ?_
  exact h ρ H v .refl sr (r ρ H)
theorem me_int {i : Int} {j : Nat} {pos : Pos} : ME X W (.Constant (.int i) j pos) (mRet (.int i)) := me_c pe_int fun _ _ => rfl
theorem me_bl {i : Bool} {j : Nat} {pos : Pos} : ME X W (.Constant (.bool i) j pos) (mRet (.bl i)) := me_c pe_bl fun _ _ => rfl
theorem me_non {j : Nat} {pos : Pos} : ME X W (.Constant .none j pos) (mRet .non) := me_c pe_non fun _ _ => rfl
theorem me_str {i : Str} {j : Nat} {pos : Pos} : ME X W (.Constant (.str i) j pos) (mRet (.str i)) := me_c pe_str fun _ _ => rfl

/-! ### operators -/
/-- f does what the rule r asks -/
def Op2 (B : Bx) (f : D → D → M D) (r : R2) : Prop := ∀ ρ H σ s x y v w Q E, SR B ρ H s σ → Rep B ρ H x v → Rep B ρ H y w → (f x y s).all (PV B ρ H σ Q) E → r v w H Q
theorem op2_run {r : R2} {f : D → D → M D} {ta tb : TE} {a b : M D} (hf : Op2 (bx X) f r) : ∀ σ H Q, tE (bx X) W (mOp f a b) σ H Q → tOp r (tE (bx X) W a) (tE (bx X) W b) σ H Q := by
  rintro σ H Q ⟨ρ, s, sr, h⟩
  unfold mOp at h
  rw [T.all_bind] at h
  refine tE.run sr .refl h fun d s1 ρ1 H1 v p g1 g1' sr1 r1 => ?_
  rw [T.all_bind] at p
  refine tE.run sr1 g1 p fun e s2 ρ2 H2 w p2 g2 g2' sr2 r2 => ?_
  exact hf ρ2 H2 σ s2 d e v w Q _ sr2 (r1.go g2) r2 (T.all_mono (fun _ _ q => q.go g2') (fun _ _ q => q) p2)
theorem me_op {op : Operator} {r : R2} {f : D → D → M D} {a b : Expr} {ma mb : M D} {pos : Pos} (ho : OpR X (binaryOp op) r) (hf : Op2 (bx X) f r) (ha : ME X W a ma) (hb : ME X W b mb) : ME X W (.BinOp a op b pos) (mOp f ma mb) :=
  PE.imp (pe_op ho ha hb) (op2_run (ta := tE (bx X) W ma) (tb := tE (bx X) W mb) hf)
theorem me_cmp {op : CmpOp} {r : R2} {f : D → D → M D} {a b : Expr} {ma mb : M D} {pos : Pos} (ho : OpR X (compareOp op) r) (hf : Op2 (bx X) f r) (ha : ME X W a ma) (hb : ME X W b mb) (hm : behindInMarks op b = false) : ME X W (.Compare a [op] [b] pos) (mOp f ma mb) :=
  PE.imp (pe_cmpR ho ha hb hm) (op2_run (ta := tE (bx X) W ma) (tb := tE (bx X) W mb) hf)
theorem me_un {op : UnaryOp} {r : V → Hp → VK → Prop} {f : D → M D} {a : Expr} {ma : M D} {pos : Pos} (ho : UnR X (unaryOp op) r)
    (hf : ∀ ρ H σ s x v Q E, SR (bx X) ρ H s σ → Rep (bx X) ρ H x v → (f x s).all (PV (bx X) ρ H σ Q) E → r v H Q) (ha : ME X W a ma) : ME X W (.UnaryOp op a pos) (mUn f ma) := by
  refine PE.imp (pe_un ho ha) fun σ H Q ⟨ρ, s, sr, h⟩ => ?_
  unfold mUn at h
  rw [T.all_bind] at h
  refine tE.run sr .refl h fun d s1 ρ1 H1 v p g1 g1' sr1 r1 => ?_
  exact hf ρ1 H1 σ s1 d v Q _ sr1 r1 (T.all_mono (fun _ _ q => q.go g1) (fun _ _ q => q) p)
end
end Mz

set_option Elab.async false
set_option linter.all false
set_option maxRecDepth 100000
set_option maxHeartbeats 4000000
namespace Mz
open PySem PySem.Spec PyProof.Rows L2

abbrev LIM : Nat := 16777216
theorem lim {n : Nat} (h : n ≤ LIM) : n ≤ sizeLine := by rw [sizeLine_eq]; exact h
theorem limlt {n : Nat} (h : n < LIM) : n < sizeLine := by rw [sizeLine_eq]; exact h

/-- of few bits (told so that the kernel stops at an unknown number) -/
def i62 (a : Int) : Bool := Nat.blt a.natAbs 4611686018427387904
def i63 (a : Int) : Bool := Nat.blt a.natAbs 9223372036854775808
def i64 (a : Int) : Bool := Nat.blt a.natAbs 18446744073709551616
theorem blt_iff {a b : Nat} : Nat.blt a b = true ↔ a < b := by
  unfold Nat.blt
  rw [Nat.ble_eq]
  exact Nat.succ_le_iff
theorem i62_ok {a : Int} (h : i62 a = true) : -(2 ^ 62) ≤ a ∧ a < 2 ^ 62 := by
  have := blt_iff.mp h
  omega
theorem i63_ok {a : Int} (h : i63 a = true) : -(2 ^ 63) ≤ a ∧ a < 2 ^ 63 := by
  have := blt_iff.mp h
  omega
theorem i64_ok {a : Int} (h : i64 a = true) : -(2 ^ 64) < a ∧ a < 2 ^ 64 := by
  have := blt_iff.mp h
  omega
theorem i62_eq {a : Int} : i62 a = (decide (-4611686018427387904 < a) && decide (a < 4611686018427387904)) := by
  rw [Bool.eq_iff_iff, Bool.and_eq_true, decide_eq_true_iff, decide_eq_true_iff]
  refine blt_iff.trans ?_
  omega
theorem i63_eq {a : Int} : i63 a = (decide (-9223372036854775808 < a) && decide (a < 9223372036854775808)) := by
  rw [Bool.eq_iff_iff, Bool.and_eq_true, decide_eq_true_iff, decide_eq_true_iff]
  refine blt_iff.trans ?_
  omega
theorem i64_eq {a : Int} : i64 a = (decide (-18446744073709551616 < a) && decide (a < 18446744073709551616)) := by
  rw [Bool.eq_iff_iff, Bool.and_eq_true, decide_eq_true_iff, decide_eq_true_iff]
  refine blt_iff.trans ?_
  omega
theorem i62_of {a : Int} (h : a.natAbs < 4611686018427387904) : i62 a = true := blt_iff.mpr h
theorem i63_of {a : Int} (h : a.natAbs < 9223372036854775808) : i63 a = true := blt_iff.mpr h
theorem i64_of {a : Int} (h : a.natAbs < 18446744073709551616) : i64 a = true := blt_iff.mpr h

/-! ### reading logical values -/
def tupAt : D → Option (List D)
  | .tup xs => some xs
  | .cup xs => some xs
  | _ => none
section
variable {B : Bx} {ρ : List Addr} {H : Hp} {s : LS} {σ : L2.St}
theorem rep_tup {d : D} {xs : List D} {v : V} (e : tupAt d = some xs) (r : Rep B ρ H d v) : ∃ a vs, v = .ref a ∧ SqT B.K H a vs ∧ RepL B ρ H xs vs := by
  cases d with
  | tup ys =>
    cases e
    obtain ⟨a, vs, e, t, _, q⟩ := (r : ∃ a vs, v = .ref a ∧ H a = some (.tup vs) ∧ a ∉ ρ ∧ RepL B ρ H xs vs)
    exact ⟨a, vs, e, .of t, q⟩
  | cup ys =>
    cases e
    obtain ⟨a, vs, e, t, q⟩ := (r : ∃ a vs, v = .ref a ∧ StaT B a vs ∧ RepL B ρ H xs vs)
    exact ⟨a, vs, e, .inr t, q⟩
  | _ => cases e
theorem rep_obj {n : Nat} {o : LO} {v : V} (st : StoR B ρ H s.st) (e : s.st[n]? = some o) (r : Rep B ρ H (.ref n) v) : ∃ a, v = .ref a ∧ ρ[n]? = some a ∧ RepO B ρ H a o := by
  obtain ⟨a, rfl, h⟩ := (r : ∃ a, v = .ref a ∧ ρ[n]? = some a)
  exact ⟨a, rfl, h, st.obj n a o h e⟩
theorem rep_lst {d : D} {xs : List D} {v : V} (st : StoR B ρ H s.st) (e : lstAt s.st d = some xs) (r : Rep B ρ H d v) : ∃ a vs, v = .ref a ∧ H a = some (.lst vs) ∧ a ∈ ρ ∧ RepL B ρ H xs vs := by
  cases d with
  | ref n =>
    simp only [lstAt] at e
    split at e
    · rename_i ys q
      cases e
      obtain ⟨a, rfl, h, vs, e1, e2⟩ := rep_obj st q r
      exact ⟨a, vs, rfl, e1, List.mem_of_getElem? h, e2⟩
    · cases e
  | _ => simp [lstAt] at e
theorem rep_seq {d : D} {xs : List D} {v : V} (st : StoR B ρ H s.st) (e : (tupAt d).or (lstAt s.st d) = some xs) (r : Rep B ρ H d v) : ∃ a vs, v = .ref a ∧ (SqL B.K H a vs ∨ SqT B.K H a vs) ∧ RepL B ρ H xs vs := by
  cases h : tupAt d with
  | some ys =>
    rw [h] at e
    cases e
    obtain ⟨a, vs, e, t, q⟩ := rep_tup h r
    exact ⟨a, vs, e, .inr t, q⟩
  | none =>
    rw [h] at e
    obtain ⟨a, vs, e, t, _, q⟩ := rep_lst st (by simpa using e) r
    exact ⟨a, vs, e, .inl (.of t), q⟩
/-- a new tuple -/
theorem SR.tup (sr : SR B ρ H s σ) {p : Addr} (hp : H p = none) {ds : List D} {vs : List V} (r : RepL B ρ H ds vs) :
    Go ρ H ρ (upd H p (.tup vs)) ∧ SR B ρ (upd H p (.tup vs)) s σ ∧ Rep B ρ (upd H p (.tup vs)) (.tup ds) (.ref p) :=
  ⟨.laid hp, ⟨sr.env.go (.laid hp), sr.st.laid hp⟩, p, vs, rfl, upd_same, sr.st.fresh hp, r.go (.laid hp)⟩
/-- a new logical object -/
theorem SR.alloc (sr : SR B ρ H s σ) {p : Addr} (hp : H p = none) {o : HO} {u : LO} (r : RepO B (ρ ++ [p]) (upd H p o) p u) :
    Go ρ H (ρ ++ [p]) (upd H p o) ∧ SR B (ρ ++ [p]) (upd H p o) { s with st := s.st ++ [u] } σ ∧ Rep B (ρ ++ [p]) (upd H p o) (.ref s.st.length) (.ref p) :=
  ⟨.new hp, ⟨sr.env.go (.new hp), sr.st.new hp r⟩, p, rfl, by rw [← sr.st.len]; simp⟩
theorem SR.lst (sr : SR B ρ H s σ) {p : Addr} (hp : H p = none) {ds : List D} {vs : List V} (r : RepL B ρ H ds vs) :
    Go ρ H (ρ ++ [p]) (upd H p (.lst vs)) ∧ SR B (ρ ++ [p]) (upd H p (.lst vs)) { s with st := s.st ++ [.lst ds] } σ ∧ Rep B (ρ ++ [p]) (upd H p (.lst vs)) (.ref s.st.length) (.ref p) :=
  sr.alloc hp ⟨vs, upd_same, r.go (.new hp)⟩
/-- a logical object written -/
theorem SR.write (sr : SR B ρ H s σ) {n : Nat} {a : Addr} (hn : ρ[n]? = some a) {o : HO} {u : LO} (r : RepO B ρ (upd H a o) a u) :
    Go ρ H ρ (upd H a o) ∧ SR B ρ (upd H a o) { s with st := s.st.set n u } σ :=
  ⟨.write (List.mem_of_getElem? hn), sr.env.go (.write (List.mem_of_getElem? hn)), sr.st.write hn r⟩
end

/-! ### data, for == and in -/
def allO {α β : Type} (f : α → Option β) : List α → Option (List β)
  | [] => some []
  | x :: r => match f x, allO f r with
    | some y, some ys => some (y :: ys)
    | _, _ => none
def toP (S : List LO) : Nat → D → Option PyData
  | 0, _ => none
  | n + 1, d => match d with
    | .non => some .none
    | .bl b => some (.bool b)
    | .int i => some (.int i)
    | .str x => some (.str x)
    | .tup xs => (allO (toP S n) xs).map .tuple
    | .cup xs => (allO (toP S n) xs).map .tuple
    | .ref k => match S[k]? with
      | some (.lst xs) => (allO (toP S n) xs).map .list
      | _ => none
    | _ => none
section
variable {B : Bx} {ρ : List Addr} {H : Hp} {S : List LO}
theorem dp_all {f : D → Option PyData} (hf : ∀ d p v, f d = some p → Rep B ρ H d v → Dp B.K H v p) : ∀ {xs : List D} {ps : List PyData} {vs : List V}, allO f xs = some ps → RepL B ρ H xs vs → DpAll B.K H vs ps
  | [], _, _, e, r => by
    cases e
    cases (r : _ = [])
    exact .nil
  | x :: xs, _, _, e, r => by
    obtain ⟨v, vr, rfl, r1, r2⟩ := (r : ∃ v vr, _ = v :: vr ∧ Rep B ρ H x v ∧ RepL B ρ H xs vr)
    unfold allO at e
    split at e
    · rename_i y ys e1 e2
      cases e
      exact .cons (hf _ _ _ e1 r1) (dp_all hf e2 r2)
    · cases e
theorem dp_of (st : StoR B ρ H S) : ∀ (n : Nat) d p v, toP S n d = some p → Rep B ρ H d v → Dp B.K H v p
  | 0, _, _, _, e, _ => by cases e
  | n + 1, d, p, v, e, r => by
    unfold toP at e
    split at e
    · cases e; cases (r : v = _); exact .non
    · cases e; cases (r : v = _); exact .bl _
    · cases e; cases (r : v = _); exact .int _
    · cases e; cases (r : v = _); exact .str _
    · rename_i xs
      obtain ⟨ps, e1, rfl⟩ := Option.map_eq_some_iff.mp e
      obtain ⟨a, vs, rfl, t, q⟩ := rep_tup (d := .tup xs) rfl r
      exact .tup t (dp_all (dp_of st n) e1 q)
    · rename_i xs
      obtain ⟨ps, e1, rfl⟩ := Option.map_eq_some_iff.mp e
      obtain ⟨a, vs, rfl, t, q⟩ := rep_tup (d := .cup xs) rfl r
      exact .tup t (dp_all (dp_of st n) e1 q)
    · rename_i k
      split at e
      · rename_i xs q
        obtain ⟨ps, e1, rfl⟩ := Option.map_eq_some_iff.mp e
        obtain ⟨a, rfl, h, vs, h1, h2⟩ := rep_obj (s := ⟨[], S⟩) st q r
        exact .lst (.of h1) (dp_all (dp_of st n) e1 h2)
      · cases e
    · cases e
end

/-! ### arithmetic and joining -/
def addD (x y : D) : M D := fun s => match x, y with
  | .int a, .int b => .ret (.int (a + b)) s
  | .str a, .str b => if a.length + b.length ≤ LIM then .ret (.str (a ++ b)) s else .bad
  | .tup a, .tup b => if a.length + b.length ≤ LIM then .ret (.tup (a ++ b)) s else .bad
  | x, y => match tupAt x, tupAt y with
    | some a, some b => if a.isEmpty || b.isEmpty then .bad else if a.length + b.length ≤ LIM then .ret (.tup (a ++ b)) s else .bad
    | _, _ => match lstAt s.st x, lstAt s.st y with
      | some a, some b => if a.length + b.length ≤ LIM then alloc (.lst (a ++ b)) s else .bad
      | _, _ => .bad
def rAddU (K : PySem.W.Frag) : R2 := fun x y H Q => rI0 (fun i j => .int (i + j)) x y H Q ∨ (fun x y H (Q : VK) => ∃ i j, x = V.str i ∧ y = V.str j ∧ i.length + j.length ≤ sizeLine ∧ Q (.str (i ++ j)) H) x y H Q ∨ rCatA K x y H Q ∨ rCat x y H Q
section
variable {X : Cx}
theorem op_addU : OpR X (binaryOp .Add) (rAddU X.K) := op_add.or (op_add_str.or (op_catA.or op_cat))
theorem isEmpty_ne {α : Type} {l : List α} (h : ¬ l.isEmpty = true) : l ≠ [] := by
  intro e; subst e; simp at h
theorem repl_ne {B : Bx} {ρ : List Addr} {H : Hp} {ds : List D} {vs : List V} (r : RepL B ρ H ds vs) : vs = [] ↔ ds = [] := by
  have := r.length
  constructor
  · intro e; subst e; exact List.length_eq_zero_iff.mp (by simpa using this.symm)
  · intro e; subst e; exact List.length_eq_zero_iff.mp (by simpa using this)
theorem op2_add : Op2 (bx X) addD (rAddU X.K) := by
  intro ρ H σ s x y v w Q E sr rx ry h
  unfold addD at h
  split at h
  · cases (rx : v = _); cases (ry : w = _)
    exact .inl ⟨_, _, rfl, rfl, h ρ H _ .refl sr rfl⟩
  · cases (rx : v = _); cases (ry : w = _)
    split at h
    · rename_i hl
      exact .inr (.inl ⟨_, _, rfl, rfl, lim hl, h ρ H _ .refl sr rfl⟩)
    · exact h.elim
  · rename_i xs ys
    split at h
    · rename_i hl
      obtain ⟨a, vs, rfl, t, ha, r1⟩ := (rx : ∃ a vs, v = .ref a ∧ H a = some (.tup vs) ∧ a ∉ ρ ∧ RepL _ ρ H xs vs)
      obtain ⟨b, ws, rfl, u, hb, r2⟩ := (ry : ∃ a vs, w = .ref a ∧ H a = some (.tup vs) ∧ a ∉ ρ ∧ RepL _ ρ H ys vs)
      refine .inr (.inr (.inl ⟨a, b, vs, ws, rfl, rfl, .of t, .of u, lim (by rw [r1.length, r2.length]; exact hl), fun e => ?_, fun e e' => ?_, fun e e' p hp => ?_⟩))
      · have e2 := (repl_ne r1).mp e
        subst e2
        exact h ρ H _ .refl sr ⟨b, ws, rfl, u, hb, r2⟩
      · have e2 := (repl_ne r2).mp e'
        subst e2
        exact h ρ H _ .refl sr ⟨a, vs, rfl, t, ha, by simpa using r1⟩
      · obtain ⟨g, sr', r⟩ := sr.tup hp (r1.append r2)
        exact h _ _ _ g sr' r
    · exact h.elim
  · split at h
    · rename_i xs ys e1 e2
      split at h
      · exact h.elim
      · rename_i hne
        split at h
        · rename_i hl
          obtain ⟨a, vs, rfl, t, r1⟩ := rep_tup e1 rx
          obtain ⟨b, ws, rfl, u, r2⟩ := rep_tup e2 ry
          have n1 : xs ≠ [] := fun z => by subst z; simp at hne
          have n2 : ys ≠ [] := fun z => by subst z; simp at hne
          refine .inr (.inr (.inl ⟨a, b, vs, ws, rfl, rfl, t, u, lim (by rw [r1.length, r2.length]; exact hl), fun e => absurd ((repl_ne r1).mp e) n1, fun _ e => absurd ((repl_ne r2).mp e) n2, fun e e' p hp => ?_⟩))
          obtain ⟨g, sr', r⟩ := sr.tup hp (r1.append r2)
          exact h _ _ _ g sr' r
        · exact h.elim
    · split at h
      · rename_i xs ys e1 e2
        split at h
        · rename_i hl
          obtain ⟨a, vs, rfl, t, _, r1⟩ := rep_lst sr.st e1 rx
          obtain ⟨b, ws, rfl, u, _, r2⟩ := rep_lst sr.st e2 ry
          refine .inr (.inr (.inr ⟨a, b, vs, ws, rfl, rfl, t, u, lim (by rw [r1.length, r2.length]; exact hl), fun p hp => ?_⟩))
          obtain ⟨g, sr', r⟩ := sr.lst hp (r1.append r2)
          exact h _ _ _ g sr' r
        · exact h.elim
      · exact h.elim
end
end Mz

set_option Elab.async false
set_option linter.all false
set_option maxRecDepth 100000
set_option maxHeartbeats 4000000
namespace Mz
open PySem PySem.Spec PyProof.Rows L2

/-! ### ints -/
def int2 (c : Int → Int → Bool) (g : Int → Int → V × D) (x y : D) : M D := fun s => match x, y with
  | .int a, .int b => if c a b then .ret (g a b).2 s else .bad
  | _, _ => .bad
theorem op2_int {B : Bx} {C : Int → Int → Prop} {c : Int → Int → Bool} {g : Int → Int → V × D} (hc : ∀ a b, c a b = true → C a b) (hg : ∀ a b ρ H, Rep B ρ H (g a b).2 (g a b).1) : Op2 B (int2 c g) (rI C fun i j => (g i j).1) := by
  intro ρ H σ s x y v w Q E sr rx ry h
  unfold int2 at h
  split at h
  · cases (rx : v = _); cases (ry : w = _)
    split at h
    · rename_i hl
      exact ⟨_, _, rfl, rfl, hc _ _ hl, h ρ H _ .refl sr (hg _ _ _ _)⟩
    · exact h.elim
  · exact h.elim
theorem op2_int0 {B : Bx} {g : Int → Int → V × D} (hg : ∀ a b ρ H, Rep B ρ H (g a b).2 (g a b).1) : Op2 B (int2 (fun _ _ => true) g) (rI0 fun i j => (g i j).1) := by
  intro ρ H σ s x y v w Q E sr rx ry h
  unfold int2 at h
  split at h
  · cases (rx : v = _); cases (ry : w = _)
    rw [if_pos rfl] at h
    exact ⟨_, _, rfl, rfl, h ρ H _ .refl sr (hg _ _ _ _)⟩
  · exact h.elim
abbrev gI (f : Int → Int → Int) : Int → Int → V × D := fun a b => (.int (f a b), .int (f a b))
abbrev gB (f : Int → Int → Bool) : Int → Int → V × D := fun a b => (.bl (f a b), .bl (f a b))
def subD := int2 (fun _ _ => true) (gI fun a b => a - b)
def fdivD := int2 (fun _ b => b != 0 && decide (b.natAbs < 1073741824)) (gI fun a b => a.fdiv b)
def modD := int2 (fun _ b => b != 0) (gI fun a b => a.fmod b)
def powD := int2 (fun a b => decide (0 ≤ b) && decide (b ≤ 1000000) && decide (a.natAbs < 2 ^ 64)) (gI fun a b => a ^ b.toNat)
def andD := int2 (fun _ _ => true) (gI Builtin.bitAnd)
def orD := int2 (fun _ _ => true) (gI Builtin.bitOr)
def xorD := int2 (fun _ _ => true) (gI Builtin.bitXor)
def ltD := int2 (fun _ _ => true) (gB fun a b => decide (a < b))
def leD := int2 (fun _ _ => true) (gB fun a b => decide (a ≤ b))
def gtD := int2 (fun _ _ => true) (gB fun a b => decide (b < a))
def geD := int2 (fun _ _ => true) (gB fun a b => decide (b ≤ a))
def mulD (x y : D) : M D := fun s => match x, y with
  | .int a, .int b => if i64 a || i64 b then .ret (.int (a * b)) s else .bad
  | .tup a, .int k => if !a.isEmpty && decide (2 ≤ k) && decide (k ≤ 1000) && decide (a.length ≤ 1000) then .ret (.tup (List.replicate k.toNat a).flatten) s else .bad
  | x, .int k => match lstAt s.st x with
    | some a => if i63 k && decide (a.length * k.toNat ≤ LIM) then alloc (.lst (List.replicate k.toNat a).flatten) s else .bad
    | none => .bad
  | _, _ => .bad
def rMulU (K : PySem.W.Frag) : R2 := fun x y H Q => rI CMul (fun i j => .int (i * j)) x y H Q ∨ rRepT K x y H Q ∨ rRep x y H Q
theorem RepL.rep {B : Bx} {ρ : List Addr} {H : Hp} {ds : List D} {vs : List V} (r : RepL B ρ H ds vs) : ∀ k : Nat, RepL B ρ H (List.replicate k ds).flatten (List.replicate k vs).flatten
  | 0 => by simp [RepL]
  | k + 1 => by
    simp only [List.replicate_succ, List.flatten_cons]
    exact r.append (RepL.rep r k)
section
variable {X : Cx}
theorem op_mulU : OpR X (binaryOp .Mult) (rMulU X.K) := op_mul.or (op_repT.or op_rep)
theorem op2_mul : Op2 (bx X) mulD (rMulU X.K) := by
  intro ρ H σ s x y v w Q E sr rx ry h
  unfold mulD at h
  split at h
  · cases (rx : v = _); cases (ry : w = _)
    split at h
    · rename_i hl
      refine .inl ⟨_, _, rfl, rfl, ?_, h ρ H _ .refl sr rfl⟩
      rw [Bool.or_eq_true] at hl
      exact hl.elim (fun z => .inl (i64_ok z)) fun z => .inr (i64_ok z)
    · exact h.elim
  · rename_i xs k
    split at h
    · rename_i hl
      simp only [Bool.and_eq_true, decide_eq_true_eq] at hl
      obtain ⟨⟨⟨h1, h2⟩, h3⟩, h4⟩ := hl
      cases (ry : w = _)
      obtain ⟨a, vs, rfl, t, ha, r1⟩ := (rx : ∃ a vs, v = .ref a ∧ H a = some (.tup vs) ∧ a ∉ ρ ∧ RepL _ ρ H xs vs)
      refine .inr (.inl ⟨a, k, vs, rfl, rfl, .of t, fun e => ?_, h2, h3, by rw [r1.length]; exact h4, fun p hp => ?_⟩)
      · have := (repl_ne r1).mp e
        subst this
        simp at h1
      · obtain ⟨g, sr', r⟩ := sr.tup hp (r1.rep k.toNat)
        exact h _ _ _ g sr' r
    · exact h.elim
  · split at h
    · rename_i xs e1
      split at h
      · rename_i hl
        simp only [Bool.and_eq_true, decide_eq_true_eq] at hl
        obtain ⟨h0, h3⟩ := hl
        obtain ⟨h1, h2⟩ := i63_ok h0
        cases (ry : w = _)
        obtain ⟨a, vs, rfl, t, _, r1⟩ := rep_lst sr.st e1 rx
        refine .inr (.inr ⟨a, _, vs, rfl, rfl, t, h1, h2, lim (by rw [r1.length]; exact h3), fun p hp => ?_⟩)
        obtain ⟨g, sr', r⟩ := sr.lst hp (r1.rep _)
        exact h _ _ _ g sr' r
      · exact h.elim
    · exact h.elim
  · exact h.elim

/-! ### == and != of data -/
def eqD (x y : D) : M D := fun s => match toP s.st 66 x, toP s.st 66 y with
  | some d, some e => if SeqAt.shaped d && SeqAt.shaped e then .ret (.bl (PyData.eqv d e)) s else .bad
  | _, _ => .bad
def neD (x y : D) : M D := fun s => match toP s.st 66 x, toP s.st 66 y with
  | some d, some e => if SeqAt.shaped d && SeqAt.shaped e then .ret (.bl (!PyData.eqv d e)) s else .bad
  | _, _ => .bad
theorem op2_eq : Op2 (bx X) eqD (rEqD X.K) := by
  intro ρ H σ s x y v w Q E sr rx ry h
  unfold eqD at h
  split at h
  · rename_i d e h1 h2
    split at h
    · rename_i hl
      simp only [Bool.and_eq_true] at hl
      exact ⟨d, e, dp_of sr.st 66 x d v h1 rx, dp_of sr.st 66 y e w h2 ry, hl.1, hl.2, h ρ H _ .refl sr rfl⟩
    · exact h.elim
  · exact h.elim
theorem op2_ne : Op2 (bx X) neD (rNeD X.K) := by
  intro ρ H σ s x y v w Q E sr rx ry h
  unfold neD at h
  split at h
  · rename_i d e h1 h2
    split at h
    · rename_i hl
      simp only [Bool.and_eq_true] at hl
      exact ⟨d, e, dp_of sr.st 66 x d v h1 rx, dp_of sr.st 66 y e w h2 ry, hl.1, hl.2, h ρ H _ .refl sr rfl⟩
    · exact h.elim
  · exact h.elim

/-! ### is -/
def isNon : D → Bool
  | .non => true
  | _ => false
def OptR (B : Bx) (ρ : List Addr) (H : Hp) : Option D → Option V → Prop
  | some d, o' => ∃ u, o' = some u ∧ Rep B ρ H d u
  | none, o' => o' = none
def isD (neg : Bool) (x y : D) : M D := fun s => match y with
  | .non => .ret (.bl (isNon x != neg)) s
  | .bl b => match x with
    | .bl a => .ret (.bl ((a == b) != neg)) s
    | _ => .bad
  | _ => .bad
def rIsU : R2 := fun x y H Q => (y = .non ∧ Q (.bl (decide (x = .non))) H) ∨ rIsB x y H Q
def rIsNotU : R2 := fun x y H Q => (y = .non ∧ Q (.bl (!decide (x = .non))) H) ∨ rNotB x y H Q
theorem op_isU : OpR X (compareOp .Is) rIsU := op_isN.or op_isBl
theorem op_isNotU : OpR X (compareOp .IsNot) rIsNotU := op_notN.or op_notBl
theorem rep_non {B : Bx} {ρ : List Addr} {H : Hp} {x : D} {v : V} (r : Rep B ρ H x v) : decide (v = .non) = isNon x := by
  cases x with
  | non => cases (r : v = _); rfl
  | bl _ => cases (r : v = _); rfl
  | int _ => cases (r : v = _); rfl
  | str _ => cases (r : v = _); rfl
  | fn _ => cases (r : v = _); rfl
  | ty _ => cases (r : v = _); rfl
  | tup _ => obtain ⟨a, vs, rfl, _⟩ := (r : ∃ a vs, v = .ref a ∧ _); rfl
  | cup _ => obtain ⟨a, vs, rfl, _⟩ := (r : ∃ a vs, v = .ref a ∧ _); rfl
  | ref _ => obtain ⟨a, rfl, _⟩ := (r : ∃ a, v = .ref a ∧ _); rfl
  | scr ns => obtain ⟨a, rfl, _⟩ := (r : ∃ p, v = .ref p ∧ _); rfl
  | rng _ _ => obtain ⟨a, rfl, _⟩ := (r : ∃ a, v = .ref a ∧ _); rfl
theorem op2_is : Op2 (bx X) (isD false) rIsU := by
  intro ρ H σ s x y v w Q E sr rx ry h
  unfold isD at h
  split at h
  · cases (ry : w = _)
    refine .inl ⟨rfl, ?_⟩
    rw [rep_non rx]
    have := h ρ H _ .refl sr rfl
    simpa using this
  · cases (ry : w = _)
    split at h
    · cases (rx : v = _)
      refine .inr ⟨_, _, rfl, rfl, ?_⟩
      have := h ρ H _ .refl sr rfl
      simpa [Bool.beq_eq_decide_eq] using this
    · exact h.elim
  · exact h.elim
theorem op2_isNot : Op2 (bx X) (isD true) rIsNotU := by
  intro ρ H σ s x y v w Q E sr rx ry h
  unfold isD at h
  split at h
  · cases (ry : w = _)
    refine .inl ⟨rfl, ?_⟩
    rw [rep_non rx]
    have := h ρ H _ .refl sr rfl
    simpa using this
  · cases (ry : w = _)
    split at h
    · cases (rx : v = _)
      refine .inr ⟨_, _, rfl, rfl, ?_⟩
      have := h ρ H _ .refl sr rfl
      simpa [Bool.beq_eq_decide_eq] using this
    · exact h.elim
  · exact h.elim

/-! ### keys, look-ups -/
def keyK : D → Option Key
  | .int i => some (.inl i)
  | .str x => some (.inr x)
  | _ => none
def keyT : D → Option (List Key)
  | .tup xs => allO keyK xs
  | _ => none
def valD {κ : Type} [DecidableEq κ] (kvs : List (κ × D)) (k : κ) : Option D := (kvs.find? fun kv => decide (kv.1 = k)).map (·.2)
def putD {κ : Type} [DecidableEq κ] (kvs : List (κ × D)) (k : κ) (v : D) : List (κ × D) :=
  if kvs.any fun kv => decide (kv.1 = k) then kvs.map fun kv => if kv.1 = k then (kv.1, v) else kv else kvs ++ [(k, v)]
theorem rep_key {B : Bx} {ρ : List Addr} {H : Hp} {x : D} {v : V} {k : Key} (e : keyK x = some k) (r : Rep B ρ H x v) : v = kV k := by
  cases x with
  | int i => cases e; exact r
  | str i => cases e; exact r
  | _ => cases e
theorem rep_keys {B : Bx} {ρ : List Addr} {H : Hp} : ∀ {xs : List D} {vs : List V} {ks : List Key}, allO keyK xs = some ks → RepL B ρ H xs vs → vs = ks.map kV
  | [], _, _, e, r => by cases e; cases (r : _ = []); rfl
  | x :: xs, _, _, e, r => by
    obtain ⟨v, vr, rfl, r1, r2⟩ := (r : ∃ v vr, _ = v :: vr ∧ Rep B ρ H x v ∧ RepL B ρ H xs vr)
    unfold allO at e
    split at e
    · rename_i y ys e1 e2
      cases e
      rw [rep_key e1 r1, rep_keys e2 r2]
      rfl
    · cases e
theorem rep_keyT {B : Bx} {ρ : List Addr} {H : Hp} {x : D} {v : V} {k : List Key} (e : keyT x = some k) (r : Rep B ρ H x v) : ∃ a, v = .ref a ∧ H a = some (.tup (k.map kV)) := by
  cases x with
  | tup xs =>
    obtain ⟨a, vs, rfl, t, _, q⟩ := (r : ∃ a vs, v = .ref a ∧ H a = some (.tup vs) ∧ a ∉ ρ ∧ RepL B ρ H xs vs)
    exact ⟨a, rfl, by rw [t, rep_keys e q]⟩
  | _ => cases e
theorem repK_val {B : Bx} {ρ : List Addr} {H : Hp} {κ : Type} [DecidableEq κ] (k : κ) : ∀ {kvs : List (κ × D)} {vs : List (κ × V)}, RepK B ρ H kvs vs → OptR B ρ H (valD kvs k) (valV vs k)
  | [], _, r => by cases (r : _ = []); rfl
  | (j, d) :: kvs, _, r => by
    obtain ⟨v, vr, rfl, r1, r2⟩ := (r : ∃ v vr, _ = (j, v) :: vr ∧ Rep B ρ H d v ∧ RepK B ρ H kvs vr)
    by_cases e : j = k
    · have h1 : valD ((j, d) :: kvs) k = some d := by simp [valD, List.find?_cons, e]
      rw [h1]
      exact ⟨v, valV_pos e, r1⟩
    · have h1 : valD ((j, d) :: kvs) k = valD kvs k := by simp [valD, List.find?_cons, e]
      rw [h1, valV_neg (p := (j, v)) e]
      exact repK_val k r2
theorem repK_len {B : Bx} {ρ : List Addr} {H : Hp} {κ : Type} : ∀ {kvs : List (κ × D)} {vs : List (κ × V)}, RepK B ρ H kvs vs → vs.length = kvs.length
  | [], _, r => by cases (r : _ = []); rfl
  | (j, d) :: kvs, _, r => by
    obtain ⟨v, vr, rfl, r1, r2⟩ := (r : ∃ v vr, _ = (j, v) :: vr ∧ Rep B ρ H d v ∧ RepK B ρ H kvs vr)
    simp [repK_len r2]
theorem repK_any {B : Bx} {ρ : List Addr} {H : Hp} {κ : Type} [DecidableEq κ] (k : κ) : ∀ {kvs : List (κ × D)} {vs : List (κ × V)}, RepK B ρ H kvs vs → (vs.any fun kv => decide (kv.1 = k)) = kvs.any fun kv => decide (kv.1 = k)
  | [], _, r => by cases (r : _ = []); rfl
  | (j, d) :: kvs, _, r => by
    obtain ⟨v, vr, rfl, r1, r2⟩ := (r : ∃ v vr, _ = (j, v) :: vr ∧ Rep B ρ H d v ∧ RepK B ρ H kvs vr)
    simp [repK_any k r2]
theorem repK_map {B : Bx} {ρ : List Addr} {H : Hp} {κ : Type} [DecidableEq κ] (k : κ) {x : D} {w : V} (rx : Rep B ρ H x w) : ∀ {kvs : List (κ × D)} {vs : List (κ × V)}, RepK B ρ H kvs vs →
    RepK B ρ H (kvs.map fun kv => if kv.1 = k then (kv.1, x) else kv) (vs.map fun kv => if kv.1 = k then (kv.1, w) else kv)
  | [], _, r => by cases (r : _ = []); rfl
  | (j, d) :: kvs, _, r => by
    obtain ⟨v, vr, rfl, r1, r2⟩ := (r : ∃ v vr, _ = (j, v) :: vr ∧ Rep B ρ H d v ∧ RepK B ρ H kvs vr)
    simp only [List.map_cons]
    by_cases e : j = k
    · rw [if_pos e, if_pos e]
      exact ⟨w, _, rfl, rx, repK_map k rx r2⟩
    · rw [if_neg e, if_neg e]
      exact ⟨v, _, rfl, r1, repK_map k rx r2⟩
theorem repK_snoc {B : Bx} {ρ : List Addr} {H : Hp} {κ : Type} {k : κ} {x : D} {w : V} (rx : Rep B ρ H x w) : ∀ {kvs : List (κ × D)} {vs : List (κ × V)}, RepK B ρ H kvs vs → RepK B ρ H (kvs ++ [(k, x)]) (vs ++ [(k, w)])
  | [], _, r => by cases (r : _ = []); exact ⟨w, [], rfl, rx, rfl⟩
  | (j, d) :: kvs, _, r => by
    obtain ⟨v, vr, rfl, r1, r2⟩ := (r : ∃ v vr, _ = (j, v) :: vr ∧ Rep B ρ H d v ∧ RepK B ρ H kvs vr)
    exact ⟨v, _, rfl, r1, repK_snoc rx r2⟩
theorem repK_put {B : Bx} {ρ : List Addr} {H : Hp} {κ : Type} [DecidableEq κ] {k : κ} {x : D} {w : V} {kvs : List (κ × D)} {vs : List (κ × V)} (r : RepK B ρ H kvs vs) (rx : Rep B ρ H x w) : RepK B ρ H (putD kvs k x) (putK vs k w) := by
  unfold putD putK
  rw [repK_any k r]
  split
  · exact repK_map k rx r
  · exact repK_snoc rx r
/-- what a dict holds at a key; none: not a dict, or no key of its kind -/
def dGet (S : List LO) (x k : D) : Option (Option D) := match x with
  | .ref n => match S[n]? with
    | some (.dK kvs) => (keyK k).map (valD kvs)
    | some (.dT kvs) => (keyT k).map (valD kvs)
    | _ => none
  | _ => none
theorem rep_dGet {B : Bx} {ρ : List Addr} {H : Hp} {S : List LO} (st : StoR B ρ H S) {x k : D} {v w : V} {o : Option D} (e : dGet S x k = some o) (rx : Rep B ρ H x v) (rk : Rep B ρ H k w) :
    ∃ a o', v = .ref a ∧ DGet H a w o' ∧ OptR B ρ H o o' := by
  cases x with
  | ref n =>
    simp only [dGet] at e
    split at e
    · rename_i kvs q
      obtain ⟨kk, e1, rfl⟩ := Option.map_eq_some_iff.mp e
      obtain ⟨a, rfl, _, vs, h1, h2⟩ := rep_obj (s := ⟨[], S⟩) st q rx
      cases rep_key e1 rk
      refine ⟨a, _, rfl, DGet.k h1, ?_⟩
      exact repK_val kk h2
    · rename_i kvs q
      obtain ⟨kk, e1, rfl⟩ := Option.map_eq_some_iff.mp e
      obtain ⟨a, rfl, _, vs, h1, h2⟩ := rep_obj (s := ⟨[], S⟩) st q rx
      obtain ⟨b, rfl, hb⟩ := rep_keyT e1 rk
      refine ⟨a, _, rfl, DGet.t h1 hb, ?_⟩
      exact repK_val kk h2
    · cases e
  | _ => simp [dGet] at e

/-! ### in -/
def rDInU (neg : Bool) : R2 := fun y x H Q => ∃ a o, x = V.ref a ∧ DGet H a y o ∧ Q (.bl (o.isSome != neg)) H
theorem op_dIn (hu : X.A.units + 1 < cLine) : OpR X (compareOp .In) (rDInU false) := by
  intro pins s σ H x y v u Q I rx ry ⟨a, o, e, g, q⟩
  subst e
  cases (show u = Value.ref a from ry)
  exact d_in hu I g rx fun s' I' => ⟨V.bl o.isSome, H, I', rfl, by simpa using q⟩
theorem op_dNotIn (hu : X.A.units + 1 < cLine) : OpR X (compareOp .NotIn) (rDInU true) := by
  intro pins s σ H x y v u Q I rx ry ⟨a, o, e, g, q⟩
  subst e
  cases (show u = Value.ref a from ry)
  exact d_notIn hu I g rx fun s' I' => ⟨V.bl (!o.isSome), H, I', rfl, by simpa using q⟩
def rInT (K : PySem.W.Frag) (neg : Bool) : R2 := fun x y H Q => ∃ d ds, Dp K H x d ∧ Dp K H y (.tuple ds) ∧ SeqAt.shaped d = true ∧ SeqAt.shaped (.tuple ds) = true ∧ Q (.bl ((ds.any fun z => PyData.eqv z d) != neg)) H
theorem op_inT (hu : X.A.units + 65 < cLine) : OpR X (compareOp .In) (rInT X.K false) := by
  intro pins s σ H x y v u Q I rx ry h
  obtain ⟨d, ds, hd, he, sd, se, q⟩ := h
  obtain ⟨as, r1⟩ := Dp.reads I d x v hd rx
  obtain ⟨bs, r2⟩ := Dp.reads I (.tuple ds) y u he ry
  exact SeqAt.in_tuple_reads r2 r1 (SeqAt.canLay_of_shaped se) (SeqAt.canLay_of_shaped sd) (room_in_shaped sd hu) ⟨.bl _, H, I, rfl, by simpa using q⟩
theorem op_notInT (hu : X.A.units + 65 < cLine) : OpR X (compareOp .NotIn) (rInT X.K true) := by
  intro pins s σ H x y v u Q I rx ry h
  obtain ⟨d, ds, hd, he, sd, se, q⟩ := h
  obtain ⟨as, r1⟩ := Dp.reads I d x v hd rx
  obtain ⟨bs, r2⟩ := Dp.reads I (.tuple ds) y u he ry
  exact SeqAt.notIn_tuple_reads r2 r1 (SeqAt.canLay_of_shaped se) (SeqAt.canLay_of_shaped sd) (room_in_shaped sd hu) ⟨.bl _, H, I, rfl, by simpa using q⟩
def inD (neg : Bool) (x y : D) : M D := fun s => match dGet s.st y x with
  | some o => .ret (.bl (o.isSome != neg)) s
  | none => match toP s.st 66 x, toP s.st 66 y with
    | some d, some (.list ds) => if SeqAt.shaped d && SeqAt.shaped (.list ds) then .ret (.bl ((ds.any fun z => PyData.eqv z d) != neg)) s else .bad
    | some d, some (.tuple ds) => if SeqAt.shaped d && SeqAt.shaped (.tuple ds) then .ret (.bl ((ds.any fun z => PyData.eqv z d) != neg)) s else .bad
    | _, _ => .bad
def rInU (K : PySem.W.Frag) : R2 := fun x y H Q => rDInU false x y H Q ∨ rInD K x y H Q ∨ rInT K false x y H Q
def rNotInU (K : PySem.W.Frag) : R2 := fun x y H Q => rDInU true x y H Q ∨ rNotInD K x y H Q ∨ rInT K true x y H Q
theorem op_inU (hu : X.A.units + 65 < cLine) : OpR X (compareOp .In) (rInU X.K) := (op_dIn (by omega)).or ((op_inD hu).or (op_inT hu))
theorem op_notInU (hu : X.A.units + 65 < cLine) : OpR X (compareOp .NotIn) (rNotInU X.K) := (op_dNotIn (by omega)).or ((op_notInD hu).or (op_notInT hu))
theorem op2_in : Op2 (bx X) (inD false) (rInU X.K) := by
  intro ρ H σ s x y v w Q E sr rx ry h
  unfold inD at h
  split at h
  · rename_i o e
    obtain ⟨a, o', rfl, g, q⟩ := rep_dGet sr.st e ry rx
    refine .inl ⟨a, o', rfl, g, ?_⟩
    have e2 : o'.isSome = o.isSome := by
      cases o with
      | none => rw [show o' = none from q]; rfl
      | some d => obtain ⟨u, rfl, _⟩ := q; rfl
    rw [e2]
    exact h ρ H _ .refl sr rfl
  · split at h
    · rename_i d ds h1 h2
      split at h
      · rename_i hl
        simp only [Bool.and_eq_true] at hl
        have := h ρ H _ .refl sr rfl
        exact .inr (.inl ⟨d, ds, dp_of sr.st 66 x d v h1 rx, dp_of sr.st 66 y _ w h2 ry, hl.1, hl.2, by simpa using this⟩)
      · exact h.elim
    · rename_i d ds h1 h2
      split at h
      · rename_i hl
        simp only [Bool.and_eq_true] at hl
        exact .inr (.inr ⟨d, ds, dp_of sr.st 66 x d v h1 rx, dp_of sr.st 66 y _ w h2 ry, hl.1, hl.2, h ρ H _ .refl sr rfl⟩)
      · exact h.elim
    · exact h.elim
theorem op2_notIn : Op2 (bx X) (inD true) (rNotInU X.K) := by
  intro ρ H σ s x y v w Q E sr rx ry h
  unfold inD at h
  split at h
  · rename_i o e
    obtain ⟨a, o', rfl, g, q⟩ := rep_dGet sr.st e ry rx
    refine .inl ⟨a, o', rfl, g, ?_⟩
    have e2 : o'.isSome = o.isSome := by
      cases o with
      | none => rw [show o' = none from q]; rfl
      | some d => obtain ⟨u, rfl, _⟩ := q; rfl
    rw [e2]
    exact h ρ H _ .refl sr rfl
  · split at h
    · rename_i d ds h1 h2
      split at h
      · rename_i hl
        simp only [Bool.and_eq_true] at hl
        have := h ρ H _ .refl sr rfl
        exact .inr (.inl ⟨d, ds, dp_of sr.st 66 x d v h1 rx, dp_of sr.st 66 y _ w h2 ry, hl.1, hl.2, by simpa using this⟩)
      · exact h.elim
    · rename_i d ds h1 h2
      split at h
      · rename_i hl
        simp only [Bool.and_eq_true] at hl
        exact .inr (.inr ⟨d, ds, dp_of sr.st 66 x d v h1 rx, dp_of sr.st 66 y _ w h2 ry, hl.1, hl.2, h ρ H _ .refl sr rfl⟩)
      · exact h.elim
    · exact h.elim
end
end Mz

set_option Elab.async false
set_option linter.all false
set_option maxRecDepth 100000
set_option maxHeartbeats 4000000
namespace Mz
open PySem PySem.Spec PyProof.Rows L2

section
variable {X : Cx} {W : WX}
/-! ### argument lists, displays -/
theorem ma_nil : MA X W [] mNil := PA.imp pa_nil fun σ H Q ⟨ρ, s, sr, h⟩ => h ρ H [] .refl sr rfl
theorem ma_cons {e : Expr} {es : List Expr} {a : M D} {r : M (List D)} (ha : ME X W e a) (hr : MA X W es r) (hs : starEach (e :: es) X.env = (false, eval e X.env) :: starEach es X.env := by rfl) : MA X W (e :: es) (mCons a r) := by
  refine PA.imp (pa_cons ha hr hs) fun σ H Q ⟨ρ, s, sr, h⟩ => ?_
  unfold mCons at h
  rw [T.all_bind] at h
  refine tE.run sr .refl h fun d s1 ρ1 H1 v p g1 g1' sr1 r1 => ?_
  rw [T.all_bind] at p
  refine tL.run sr1 g1 p fun ds s2 ρ2 H2 vs p2 g2 g2' sr2 r2 => ?_
  exact p2 ρ2 H2 (v :: vs) g2' sr2 ⟨v, vs, rfl, r1.go g2, r2⟩
def mTup (m : M (List D)) : M D := fun s => (m s).bind fun ds s1 => if ds.length ≤ LIM then .ret (.tup ds) s1 else .bad
def mLst (m : M (List D)) : M D := fun s => (m s).bind fun ds s1 => if ds.length ≤ LIM then alloc (.lst ds) s1 else .bad
theorem me_tup {es : List Expr} {m : M (List D)} {k : Nat} {pos : Pos} (h : MA X W es m) : ME X W (.Tuple es k pos) (mTup m) := by
  refine PE.imp (pe_tup h) fun σ H Q ⟨ρ, s, sr, h⟩ => ?_
  unfold mTup at h
  rw [T.all_bind] at h
  refine tL.run sr .refl h fun ds s1 ρ1 H1 vs p g1 g1' sr1 r1 => ?_
  split at p
  · rename_i hl
    refine ⟨lim (by rw [r1.length]; exact hl), fun q hq => ?_⟩
    obtain ⟨g, sr', r⟩ := sr1.tup hq r1
    exact p _ _ _ (g1.trans g) sr' r
  · exact p.elim
theorem me_lst {es : List Expr} {m : M (List D)} {pos : Pos} (h : MA X W es m) : ME X W (.List es pos) (mLst m) := by
  refine PE.imp (pe_lst h) fun σ H Q ⟨ρ, s, sr, h⟩ => ?_
  unfold mLst at h
  rw [T.all_bind] at h
  refine tL.run sr .refl h fun ds s1 ρ1 H1 vs p g1 g1' sr1 r1 => ?_
  split at p
  · rename_i hl
    refine ⟨lim (by rw [r1.length]; exact hl), fun q hq => ?_⟩
    obtain ⟨g, sr', r⟩ := sr1.lst hq r1
    exact p _ _ _ (g1.trans g) sr' r
  · exact p.elim

/-! ### items, slices -/
def ixD (x y : D) : M D := fun s => match (tupAt x).or (lstAt s.st x) with
  | some ds => match y with
    | .int i => mO (atI ds i) s
    | _ => .bad
  | none => match dGet s.st x y with
    | some o => mO o s
    | none => match x, y with
      | .str z, .int i => if z.length ≤ LIM then mO ((atI z.cps.toList i).map fun c => D.str ⟨#[c]⟩) s else .bad
      | _, _ => .bad
def rIxD : R2 := fun x y H Q => ∃ a v, x = V.ref a ∧ DGet H a y (some v) ∧ Q v H
def rIxU (K : PySem.W.Frag) : R2 := fun x y H Q => rIx K x y H Q ∨ rIxD x y H Q
theorem ix_dict (hu : X.A.units + 1 < cLine) : IxR X rIxD := by
  intro value slice pins s σ H x y v u Q I rx ry ⟨a, v', e, g, q⟩ hs
  subst e
  cases (show v = Value.ref a from rx)
  exact tail_any (dict_typeIs I g) PySem.F.slot_dict_getitem.lookup (d_getItem hu I g ry fun w' s' I' r => ⟨v', H, I', r, q⟩) hs
theorem ix_all (hu : X.A.units + 1 < cLine) : IxR X (rIxU X.K) := ix_seq.or (ix_dict hu)
theorem rep_at {B : Bx} {ρ : List Addr} {H : Hp} {ds : List D} {vs : List V} {i : Int} {d : D} (r : RepL B ρ H ds vs) (e : atI ds i = some d) : ∃ v, atI vs i = some v ∧ Rep B ρ H d v := by
  unfold atI at e ⊢
  rw [r.length]
  cases h : ixN ds.length i with
  | none => rw [h] at e; cases e
  | some j =>
    rw [h] at e
    exact r.get e
theorem op2_ix : Op2 (bx X) ixD (rIxU X.K) := by
  intro ρ H σ s x y v w Q E sr rx ry h
  unfold ixD at h
  split at h
  · rename_i ds e
    split at h
    · cases (ry : w = _)
      unfold mO at h
      split at h
      · rename_i d hd
        obtain ⟨a, vs, rfl, t, r⟩ := rep_seq sr.st e rx
        obtain ⟨u, hu, ru⟩ := rep_at r hd
        refine .inl ?_
        rcases t with t | t
        · exact .inl ⟨a, vs, _, u, rfl, rfl, t, hu, h ρ H _ .refl sr ru⟩
        · exact .inr (.inl ⟨a, vs, _, u, rfl, rfl, t, hu, h ρ H _ .refl sr ru⟩)
      · exact h.elim
    · exact h.elim
  · split at h
    · rename_i o e1
      unfold mO at h
      split at h
      · rename_i d
        obtain ⟨a, o', rfl, g, u, rfl, r⟩ := rep_dGet sr.st e1 rx ry
        exact .inr ⟨a, u, rfl, g, h ρ H _ .refl sr r⟩
      · exact h.elim
    · split at h
      · rename_i z i _
        cases (rx : v = _); cases (ry : w = _)
        split at h
        · rename_i hl
          unfold mO at h
          split at h
          · rename_i d hd
            obtain ⟨c, hc, rfl⟩ := Option.map_eq_some_iff.mp hd
            exact .inl (.inr (.inr ⟨_, _, c, rfl, rfl, lim hl, hc, h ρ H _ .refl sr rfl⟩))
          · exact h.elim
        · exact h.elim
      · exact h.elim
theorem me_ix {a b : Expr} {ma mb : M D} {pos : Pos} (hu : X.A.units + 1 < cLine) (ha : ME X W a ma) (hb : ME X W b mb) (hs : PlainIx b := by exact fun _ _ => rfl) : ME X W (.Subscript a b pos) (mOp ixD ma mb) :=
  PE.imp (pe_ix (ix_all hu) ha hb hs) (op2_run (ta := tE (bx X) W ma) (tb := tE (bx X) W mb) op2_ix)

def cutD (xs : List D) (lo hi : Option Int) : List D := (xs.drop (HT.sIx xs.length 0 lo)).take (HT.sIx xs.length xs.length hi - HT.sIx xs.length 0 lo)
theorem rep_cut {B : Bx} {ρ : List Addr} {H : Hp} {ds : List D} {vs : List V} (r : RepL B ρ H ds vs) (lo hi : Option Int) : RepL B ρ H (cutD ds lo hi) (cutV vs lo hi) := by
  unfold cutD cutV
  rw [r.length]
  exact (r.drop _).take _
theorem cut_whole {α : Type} {xs : List α} {lo hi : Option Int} (h : HT.sIx xs.length 0 lo = 0 ∧ HT.sIx xs.length xs.length hi = xs.length) : (xs.drop (HT.sIx xs.length 0 lo)).take (HT.sIx xs.length xs.length hi - HT.sIx xs.length 0 lo) = xs := by
  rw [h.1, h.2]; simp
def slD (x : D) (lo hi : Option Int) : M D := fun s => match x with
  | .tup xs => .ret (.tup (cutD xs lo hi)) s
  | .cup xs => if HT.sIx xs.length 0 lo = 0 ∧ HT.sIx xs.length xs.length hi = xs.length then .ret (.cup xs) s else .ret (.tup (cutD xs lo hi)) s
  | .str z => if z.length ≤ LIM then .ret (.str (cutS z lo hi)) s else .bad
  | x => match lstAt s.st x with
    | some xs => alloc (.lst (cutD xs lo hi)) s
    | none => .bad
def rSlU (K : PySem.W.Frag) : V → Option Int → Option Int → Hp → VK → Prop := fun x lo hi H Q => rSlL K x lo hi H Q ∨ rSlA K x lo hi H Q ∨ rSlS x lo hi H Q
theorem sl_all : SlR X (rSlU X.K) := sl_list.or (sl_tupA.or sl_str)
/-- an optional part -/
def mNoPart : M (Option Int) := fun s => .ret none s
def mPart (m : M D) : M (Option Int) := fun s => (m s).bind fun d s1 => match d with
  | .int i => .ret (some i) s1
  | _ => .bad
def PO' (B : Bx) (ρ : List Addr) (H : Hp) (σ : L2.St) (Q : Option Int → Hp → Prop) : Option Int → LS → Prop := fun b s' => ∀ ρ' H', Go ρ H ρ' H' → SR B ρ' H' s' σ → Q b H'
def tP (B : Bx) (W : WX) (m : M (Option Int)) : TO := fun σ H Q => ∃ ρ s, SR B ρ H s σ ∧ (m s).all (PO' B ρ H σ Q) (PX B W ρ H)
abbrev MP (X : Cx) (W : WX) (e : Option Expr) (m : M (Option Int)) : Prop := PO X e (tP (bx X) W m)
theorem mp_none : MP X W none mNoPart := PO.imp po_none fun σ H Q ⟨ρ, s, sr, h⟩ => h ρ H .refl sr
theorem mp_some {e : Expr} {m : M D} (h : ME X W e m) : MP X W (some e) (mPart m) := by
  refine PO.imp (po_some h) fun σ H Q ⟨ρ, s, sr, h⟩ => ?_
  unfold mPart at h
  rw [T.all_bind] at h
  refine tE.run sr .refl h fun d s1 ρ1 H1 v p g1 g1' sr1 r1 => ?_
  split at p
  · cases (r1 : v = _)
    exact ⟨_, rfl, p ρ1 H1 g1 sr1⟩
  · exact p.elim
theorem tP.run {B : Bx} {ρ ρ0 : List Addr} {H H0 : Hp} {σ : L2.St} {m : M (Option Int)} {s : LS} {P : Option Int → LS → Prop} {Q : Option Int → Hp → Prop} (sr : SR B ρ H s σ) (g : Go ρ0 H0 ρ H) (h : (m s).all P (PX B W ρ0 H0))
    (hP : ∀ d s1 ρ1 H1, P d s1 → Go ρ H ρ1 H1 → Go ρ0 H0 ρ1 H1 → SR B ρ1 H1 s1 σ → Q d H1) : tP B W m σ H Q :=
  ⟨ρ, s, sr, T.all_mono (fun d s1 p ρ1 H1 g1 sr1 => hP d s1 ρ1 H1 p g1 (g.trans g1) sr1) (fun x s1 p => p.go g) h⟩
def mSl (a : M D) (l h : M (Option Int)) : M D := fun s => (a s).bind fun x s1 => (l s1).bind fun lo s2 => (h s2).bind fun hi s3 => slD x lo hi s3
theorem sl_run {x : D} {lo hi : Option Int} {ρ : List Addr} {H : Hp} {σ : L2.St} {s : LS} {v : V} {Q : VK} {E : Ex → LS → Prop} (sr : SR (bx X) ρ H s σ) (rx : Rep (bx X) ρ H x v) (h : (slD x lo hi s).all (PV (bx X) ρ H σ Q) E) : rSlU X.K v lo hi H Q := by
  unfold slD at h
  split at h
  · rename_i xs
    obtain ⟨a, vs, rfl, t, ha, r1⟩ := (rx : ∃ a vs, v = .ref a ∧ H a = some (.tup vs) ∧ a ∉ ρ ∧ RepL _ ρ H xs vs)
    refine .inr (.inl ⟨a, vs, rfl, .of t, fun hw => ?_, fun hw p hp => ?_⟩)
    · rw [r1.length] at hw
      have e : cutD xs lo hi = xs := cut_whole hw
      rw [e] at h
      exact h ρ H _ .refl sr ⟨a, vs, rfl, t, ha, r1⟩
    · obtain ⟨g, sr', r⟩ := sr.tup hp (rep_cut r1 lo hi)
      exact h _ _ _ g sr' r
  · rename_i xs
    obtain ⟨a, vs, rfl, t, r1⟩ := (rx : ∃ a vs, v = .ref a ∧ StaT _ a vs ∧ RepL _ ρ H xs vs)
    refine .inr (.inl ⟨a, vs, rfl, .inr t, fun hw => ?_, fun hw p hp => ?_⟩)
    · rw [r1.length] at hw
      rw [if_pos hw] at h
      exact h ρ H _ .refl sr ⟨a, vs, rfl, t, r1⟩
    · rw [r1.length] at hw
      rw [if_neg hw] at h
      obtain ⟨g, sr', r⟩ := sr.tup hp (rep_cut r1 lo hi)
      exact h _ _ _ g sr' r
  · cases (rx : v = _)
    split at h
    · rename_i hl
      exact .inr (.inr ⟨_, rfl, lim hl, h ρ H _ .refl sr rfl⟩)
    · exact h.elim
  · split at h
    · rename_i xs e
      obtain ⟨a, vs, rfl, t, _, r1⟩ := rep_lst sr.st e rx
      refine .inl ⟨a, vs, rfl, .of t, fun p hp => ?_⟩
      obtain ⟨g, sr', r⟩ := sr.lst hp (rep_cut r1 lo hi)
      exact h _ _ _ g sr' r
    · exact h.elim
theorem me_sl {e : Expr} {lo hi : Option Expr} {m : M D} {l u : M (Option Int)} {p2 pos : Pos} (he : ME X W e m) (hl : MP X W lo l) (hu : MP X W hi u) : ME X W (.Subscript e (.Slice lo hi none p2) pos) (mSl m l u) := by
  refine PE.imp (pe_slice sl_all he hl hu) fun σ H Q ⟨ρ, s, sr, h⟩ => ?_
  unfold mSl at h
  rw [T.all_bind] at h
  refine tE.run sr .refl h fun d s1 ρ1 H1 v p g1 g1' sr1 r1 => ?_
  rw [T.all_bind] at p
  refine tP.run sr1 g1 p fun lo s2 ρ2 H2 p2 g2 g2' sr2 => ?_
  rw [T.all_bind] at p2
  refine tP.run sr2 g2' p2 fun hi s3 ρ3 H3 p3 g3 g3' sr3 => ?_
  exact sl_run sr3 ((r1.go g2).go g3) (T.all_mono (fun _ _ q => q.go g3') (fun _ _ q => q) p3)

/-! ### tests -/
def truD (S : List LO) : D → Option Bool
  | .non => some false
  | .bl b => some b
  | .int i => some (i != 0)
  | .str y => if y.length ≤ LIM then some ((y.length : Int) != 0) else none
  | .tup xs => some (!xs.isEmpty)
  | .cup xs => some (!xs.isEmpty)
  | .ref n => match S[n]? with
    | some (.lst xs) => some (!xs.isEmpty)
    | some (.dK kvs) => some (!kvs.isEmpty)
    | _ => none
  | _ => none
theorem repl_emp {B : Bx} {ρ : List Addr} {H : Hp} {ds : List D} {vs : List V} (r : RepL B ρ H ds vs) : ds.isEmpty = vs.isEmpty := by
  have := r.length
  cases ds <;> cases vs <;> simp_all
theorem repk_emp {B : Bx} {ρ : List Addr} {H : Hp} {κ : Type} {ds : List (κ × D)} {vs : List (κ × V)} (r : RepK B ρ H ds vs) : ds.isEmpty = vs.isEmpty := by
  have := repK_len r
  cases ds <;> cases vs <;> simp_all
theorem tru_of {B : Bx} {ρ : List Addr} {H : Hp} {S : List LO} {d : D} {v : V} {b : Bool} (st : StoR B ρ H S) (e : truD S d = some b) (r : Rep B ρ H d v) : TruV B.K v H b := by
  cases d with
  | non => cases e; cases (r : v = _); rfl
  | bl _ => cases e; cases (r : v = _); rfl
  | int _ => cases e; cases (r : v = _); rfl
  | str y =>
    cases (r : v = _)
    simp only [truD] at e
    split at e
    · rename_i hl
      cases e
      exact ⟨lim hl, rfl⟩
    · cases e
  | tup xs =>
    cases e
    obtain ⟨a, vs, rfl, t, q⟩ := rep_tup (d := .tup xs) rfl r
    exact .inr (.inl ⟨vs, t, by rw [repl_emp q]⟩)
  | cup xs =>
    cases e
    obtain ⟨a, vs, rfl, t, q⟩ := rep_tup (d := .cup xs) rfl r
    exact .inr (.inl ⟨vs, t, by rw [repl_emp q]⟩)
  | ref n =>
    simp only [truD] at e
    split at e
    · rename_i xs q
      cases e
      obtain ⟨a, rfl, _, vs, h1, h2⟩ := rep_obj (s := ⟨[], S⟩) st q r
      exact .inl ⟨vs, .of h1, by rw [repl_emp h2]⟩
    · rename_i xs q
      cases e
      obtain ⟨a, rfl, _, vs, h1, h2⟩ := rep_obj (s := ⟨[], S⟩) st q r
      exact .inr (.inr ⟨vs, h1, by rw [repk_emp h2]⟩)
    · cases e
  | _ => simp [truD] at e
def mTru (m : M D) : M Bool := fun s => (m s).bind fun d s1 => mO (truD s1.st d) s1
theorem mt_tru {e : Expr} {m : M D} (h : ME X W e m) (he : ∀ whole, isTrue e X.env whole = (do let v ← whole; standAt e.pos; holding [v] (truthy v)) := by intro _; rfl) : MT X W e (mTru m) := by
  refine PT.imp (pt_truth h he) fun σ H Q ⟨ρ, s, sr, h⟩ => ?_
  unfold mTru at h
  rw [T.all_bind] at h
  refine tE.run sr .refl h fun d s1 ρ1 H1 v p g1 g1' sr1 r1 => ?_
  unfold mO at p
  split at p
  · rename_i b hb
    exact ⟨b, tru_of sr1.st hb r1, p ρ1 H1 g1 sr1⟩
  · exact p.elim
/-- a test that is True or False as a value -/
def mBool (m : M D) : M Bool := fun s => (m s).bind fun d s1 => match d with
  | .bl b => .ret b s1
  | _ => .bad
theorem mt_cmp {op : CmpOp} {r : R2} {f : D → D → M D} {a b : Expr} {ma mb : M D} {pos : Pos} (ho : OpR X (compareOp op) r) (hf : Op2 (bx X) f r) (ha : ME X W a ma) (hb : ME X W b mb) (hm : behindInMarks op b = false) : MT X W (.Compare a [op] [b] pos) (mBool (mOp f ma mb)) := by
  refine PT.imp (pt_cmpR ho ha hb hm) fun σ H Q ⟨ρ, s, sr, h⟩ => ?_
  refine op2_run (X := X) (W := W) (ta := tE (bx X) W ma) (tb := tE (bx X) W mb) (a := ma) (b := mb) hf σ H _ ?_
  unfold mBool at h
  rw [T.all_bind] at h
  refine tE.run sr .refl h fun d s1 ρ1 H1 v p g1 g1' sr1 r1 => ?_
  split at p
  · cases (r1 : v = _)
    exact ⟨_, rfl, p ρ1 H1 g1 sr1⟩
  · exact p.elim
def mAnd (a b : M Bool) : M Bool := fun s => (a s).bind fun x s1 => if x then b s1 else .ret false s1
def mOr (a b : M Bool) : M Bool := fun s => (a s).bind fun x s1 => if x then .ret true s1 else b s1
def mNot (a : M Bool) : M Bool := fun s => (a s).bind fun x s1 => .ret (!x) s1
theorem mt_not {e : Expr} {a : M Bool} {pos : Pos} (h : MT X W e a) : MT X W (.UnaryOp .Not e pos) (mNot a) := by
  refine PT.imp (pt_not h) fun σ H Q ⟨ρ, s, sr, h⟩ => ?_
  unfold mNot at h
  rw [T.all_bind] at h
  exact tT.run sr .refl h fun d s1 ρ1 H1 p g1 g1' sr1 => p ρ1 H1 g1 sr1
theorem mw_and1 {e : Expr} {a : M Bool} {pos : Pos} (h : MT X W e a) : MW X W (.BoolOp .And [e] pos) a := pw_and1 h
theorem mw_or1 {e : Expr} {a : M Bool} {pos : Pos} (h : MT X W e a) : MW X W (.BoolOp .Or [e] pos) a := pw_or1 h
theorem mw_and {e f : Expr} {r : List Expr} {a b : M Bool} {pos : Pos} (h : MT X W e a) (k : MW X W (.BoolOp .And (f :: r) pos) b) : MW X W (.BoolOp .And (e :: f :: r) pos) (mAnd a b) := by
  refine PW.imp (pw_and h k) fun σ H Q ⟨ρ, s, sr, h⟩ => ?_
  unfold mAnd at h
  rw [T.all_bind] at h
  refine tT.run sr .refl h fun d s1 ρ1 H1 p g1 g1' sr1 => ?_
  cases d with
  | true =>
    rw [if_pos rfl] at p ⊢
    exact tT.run sr1 g1 p fun d s2 ρ2 H2 p g2 g2' sr2 => p ρ2 H2 g2' sr2
  | false =>
    rw [if_neg Bool.false_ne_true] at p ⊢
    exact p ρ1 H1 g1 sr1
theorem mw_or {e f : Expr} {r : List Expr} {a b : M Bool} {pos : Pos} (h : MT X W e a) (k : MW X W (.BoolOp .Or (f :: r) pos) b) : MW X W (.BoolOp .Or (e :: f :: r) pos) (mOr a b) := by
  refine PW.imp (pw_or h k) fun σ H Q ⟨ρ, s, sr, h⟩ => ?_
  unfold mOr at h
  rw [T.all_bind] at h
  refine tT.run sr .refl h fun d s1 ρ1 H1 p g1 g1' sr1 => ?_
  cases d with
  | true =>
    rw [if_pos rfl] at p ⊢
    exact p ρ1 H1 g1 sr1
  | false =>
    rw [if_neg Bool.false_ne_true] at p ⊢
    exact tT.run sr1 g1 p fun d s2 ρ2 H2 p g2 g2' sr2 => p ρ2 H2 g2' sr2
/-- as values -/
def mAndV (a b : M D) : M D := fun s => (a s).bind fun x s1 => match truD s1.st x with
  | some true => b s1
  | some false => .ret x s1
  | none => .bad
def mOrV (a b : M D) : M D := fun s => (a s).bind fun x s1 => match truD s1.st x with
  | some true => .ret x s1
  | some false => b s1
  | none => .bad
theorem me_one {op : PySem.BoolOp} {e : Expr} {a : M D} {pos : Pos} (h : ME X W e a) : ME X W (.BoolOp op [e] pos) a := pe_one h
theorem me_and {e f : Expr} {r : List Expr} {a b : M D} {pos : Pos} (h : ME X W e a) (k : ME X W (.BoolOp .And (f :: r) pos) b) : ME X W (.BoolOp .And (e :: f :: r) pos) (mAndV a b) := by
  refine PE.imp (pe_andT h k) fun σ H Q ⟨ρ, s, sr, h⟩ => ?_
  unfold mAndV at h
  rw [T.all_bind] at h
  refine tE.run sr .refl h fun d s1 ρ1 H1 v p g1 g1' sr1 r1 => ?_
  split at p
  · rename_i hb
    refine ⟨true, tru_of sr1.st hb r1, ?_⟩
    rw [if_pos rfl]
    exact tE.run sr1 g1 p fun d s2 ρ2 H2 w p g2 g2' sr2 r2 => p ρ2 H2 w g2' sr2 r2
  · rename_i hb
    refine ⟨false, tru_of sr1.st hb r1, ?_⟩
    rw [if_neg Bool.false_ne_true]
    exact p ρ1 H1 v g1 sr1 r1
  · exact p.elim
theorem me_or {e f : Expr} {r : List Expr} {a b : M D} {pos : Pos} (h : ME X W e a) (k : ME X W (.BoolOp .Or (f :: r) pos) b) : ME X W (.BoolOp .Or (e :: f :: r) pos) (mOrV a b) := by
  refine PE.imp (pe_orT h k) fun σ H Q ⟨ρ, s, sr, h⟩ => ?_
  unfold mOrV at h
  rw [T.all_bind] at h
  refine tE.run sr .refl h fun d s1 ρ1 H1 v p g1 g1' sr1 r1 => ?_
  split at p
  · rename_i hb
    refine ⟨true, tru_of sr1.st hb r1, ?_⟩
    rw [if_pos rfl]
    exact p ρ1 H1 v g1 sr1 r1
  · rename_i hb
    refine ⟨false, tru_of sr1.st hb r1, ?_⟩
    rw [if_neg Bool.false_ne_true]
    exact tE.run sr1 g1 p fun d s2 ρ2 H2 w p g2 g2' sr2 r2 => p ρ2 H2 w g2' sr2 r2
  · exact p.elim
def mNotV (a : M D) : M D := fun s => (a s).bind fun x s1 => mO ((truD s1.st x).map fun b => D.bl (!b)) s1
theorem me_not {e : Expr} {a : M D} {pos : Pos} (h : ME X W e a) : ME X W (.UnaryOp .Not e pos) (mNotV a) := by
  refine PE.imp (pe_notT h) fun σ H Q ⟨ρ, s, sr, h⟩ => ?_
  unfold mNotV at h
  rw [T.all_bind] at h
  refine tE.run sr .refl h fun d s1 ρ1 H1 v p g1 g1' sr1 r1 => ?_
  unfold mO at p
  split at p
  · rename_i b hb
    obtain ⟨k, hk, rfl⟩ := Option.map_eq_some_iff.mp hb
    exact ⟨k, tru_of sr1.st hk r1, p ρ1 H1 _ g1 sr1 rfl⟩
  · exact p.elim
def mIfE (t : M Bool) (a b : M D) : M D := fun s => (t s).bind fun x s1 => if x then a s1 else b s1
theorem me_if {c a b : Expr} {t : M Bool} {ma mb : M D} {pos : Pos} (hc : MT X W c t) (ha : ME X W a ma) (hb : ME X W b mb) : ME X W (.IfExp c a b pos) (mIfE t ma mb) := by
  refine PE.imp (pe_ifExp hc ha hb) fun σ H Q ⟨ρ, s, sr, h⟩ => ?_
  unfold mIfE at h
  rw [T.all_bind] at h
  refine tT.run sr .refl h fun d s1 ρ1 H1 p g1 g1' sr1 => ?_
  cases d with
  | true =>
    rw [if_pos rfl] at p ⊢
    exact tE.run sr1 g1 p fun d s2 ρ2 H2 w p g2 g2' sr2 r2 => p ρ2 H2 w g2' sr2 r2
  | false =>
    rw [if_neg Bool.false_ne_true] at p ⊢
    exact tE.run sr1 g1 p fun d s2 ρ2 H2 w p g2 g2' sr2 r2 => p ρ2 H2 w g2' sr2 r2
/-- a chain of two comparisons -/
def mChain (f g : D → D → M D) (a b c : M D) : M D := fun s => (a s).bind fun x s1 => (b s1).bind fun y s2 => (f x y s2).bind fun z s3 => match z with
  | .bl true => (c s3).bind fun w s4 => g y w s4
  | .bl false => .ret (.bl false) s3
  | _ => .bad
end
end Mz

set_option Elab.async false
set_option linter.all false
set_option maxRecDepth 100000
set_option maxHeartbeats 4000000
namespace Mz
open PySem PySem.Spec PyProof.Rows L2

section
variable {X : Cx} {W : WX}
/-! ### blocks -/
def mNext : M Fl := fun s => .ret .nx s
def mSeq (a b : M Fl) : M Fl := fun s => (a s).bind fun f s1 => match f with
  | .nx => b s1
  | f => .ret f s1
theorem mss_nil : MSs X W [] mNext := PSs.imp pss_nil fun E σ H ⟨ρ, s, sr, h⟩ => h ρ H σ .refl sr
theorem mss_one {st : Stmt} {a : M Fl} (h : MS X W st a) : MSs X W [st] a := pss_one h
theorem mss_cons {st : Stmt} {r : List Stmt} {a b : M Fl} (h : MS X W st a) (k : MSs X W r b) : MSs X W (st :: r) (mSeq a b) := by
  refine PSs.imp (pss_cons h k) fun E σ H ⟨ρ, s, sr, h⟩ => ?_
  unfold mSeq at h
  rw [T.all_bind] at h
  refine tS.run (E := { E with nx := tS (bx X) W b E }) sr .refl h fun f s1 ρ1 H1 σ1 p g1 g1' sr1 => ?_
  cases f with
  | nx =>
    refine tS.run sr1 g1 p fun f s2 ρ2 H2 σ2 p g2 g2' sr2 => ?_
    exact p ρ2 H2 σ2 g2' sr2
  | bk => exact p ρ1 H1 σ1 g1 sr1
  | ct => exact p ρ1 H1 σ1 g1 sr1
  | rt d => exact p ρ1 H1 σ1 g1 sr1
def mBreak : M Fl := fun s => .ret .bk s
def mCont : M Fl := fun s => .ret .ct s
theorem ms_pass {pos : Pos} : MS X W (.Pass pos) mNext := PS.imp ps_pass fun E σ H ⟨ρ, s, sr, h⟩ => h ρ H σ .refl sr
theorem ms_break {pos : Pos} : MS X W (.Break pos) mBreak := PS.imp ps_break fun E σ H ⟨ρ, s, sr, h⟩ => h ρ H σ .refl sr
theorem ms_cont {pos : Pos} : MS X W (.Continue pos) mCont := PS.imp ps_continue fun E σ H ⟨ρ, s, sr, h⟩ => h ρ H σ .refl sr
def mDrop (e : M D) : M Fl := fun s => (e s).bind fun _ s1 => .ret .nx s1
theorem ms_expr {e : Expr} {m : M D} {pos : Pos} (h : ME X W e m) (hs : swapsWith e none pos.line X.env = pure false := by rfl) : MS X W (.Expr e pos) (mDrop m) := by
  refine PS.imp (ps_expr h hs) fun E σ H ⟨ρ, s, sr, h⟩ => ?_
  unfold mDrop at h
  rw [T.all_bind] at h
  exact tE.run sr .refl h fun d s1 ρ1 H1 v p g1 g1' sr1 r1 => p ρ1 H1 σ g1 sr1
def mRetS (e : M D) : M Fl := fun s => (e s).bind fun d s1 => .ret (.rt d) s1
theorem ms_ret {e : Expr} {m : M D} {pos : Pos} (h : ME X W e m) : MS X W (.Return (some e) pos) (mRetS m) := by
  refine PS.imp (ps_ret h) fun E σ H ⟨ρ, s, sr, h⟩ => ?_
  unfold mRetS at h
  rw [T.all_bind] at h
  exact tE.run sr .refl h fun d s1 ρ1 H1 v p g1 g1' sr1 r1 => p ρ1 H1 σ g1 sr1 v r1
theorem ms_retN {pos : Pos} : MS X W (.Return none pos) (mRetS (mRet .non)) := by
  refine PS.imp ps_retN fun E σ H ⟨ρ, s, sr, h⟩ => ?_
  exact h ρ H σ .refl sr _ rfl
def mIfS (t : M Bool) (a b : M Fl) : M Fl := fun s => (t s).bind fun x s1 => if x then a s1 else b s1
theorem ms_if {c : Expr} {p q : List Stmt} {t : M Bool} {a b : M Fl} {pos : Pos} (hc : MT X W c t) (ha : MSs X W p a) (hb : MSs X W q b) : MS X W (.If c p q pos) (mIfS t a b) := by
  refine PS.imp (ps_if hc ha hb) fun E σ H ⟨ρ, s, sr, h⟩ => ?_
  unfold mIfS at h
  rw [T.all_bind] at h
  refine tT.run sr .refl h fun d s1 ρ1 H1 p g1 g1' sr1 => ?_
  cases d with
  | true =>
    rw [if_pos rfl] at p ⊢
    exact tS.run sr1 g1 p fun f s2 ρ2 H2 σ2 p g2 g2' sr2 => p ρ2 H2 σ2 g2' sr2
  | false =>
    rw [if_neg Bool.false_ne_true] at p ⊢
    exact tS.run sr1 g1 p fun f s2 ρ2 H2 σ2 p g2 g2' sr2 => p ρ2 H2 σ2 g2' sr2

/-! ### targets -/
def gNm (i : Nat) : D → M Unit := fun d s => .ret () { s with env := s.env.set i (some d) }
theorem SR.set {B : Bx} {ρ : List Addr} {H : Hp} {s : LS} {σ : L2.St} (sr : SR B ρ H s σ) {i : Nat} {d : D} {v : V} (r : Rep B ρ H d v) : SR B ρ H { s with env := s.env.set i (some d) } (σ.set i (some v)) := ⟨sr.env.set r, sr.st⟩
theorem mg_nm {N : List Str} {sc : Scope} (c : Cc X N sc) (i : Nat) {x : Str} {pos : Pos} (h1 : N[i]? = some x) (h2 : Loc sc x) (h3 : X.fn x = true ∨ sc.names.lookup x = some .local) : MG X W (.Name x pos) (gNm i) := by
  refine PG.imp (pg_name (i := i) c.nd' (by rw [c.hN]; exact h1) (by rw [c.hs]; exact h2) (by rw [c.hs]; exact h3)) fun v σ H Q ⟨ρ, s, d, sr, r, h⟩ => ?_
  exact h ρ H _ .refl (sr.set r)
def gNil : List D → M Unit := fun ds s => match ds with
  | [] => .ret () s
  | _ => .bad
def gCons (g : D → M Unit) (r : List D → M Unit) : List D → M Unit := fun ds s => match ds with
  | d :: ds => (g d s).bind fun _ s1 => r ds s1
  | [] => .bad
theorem mgs_nil : MGs X W [] gNil := by
  refine PGs.imp pgs_nil fun v σ H Q ⟨ρ, s, ds, sr, r, h⟩ => ?_
  unfold gNil at h
  split at h
  · cases (r : v = [])
    exact ⟨rfl, h ρ H σ .refl sr⟩
  · exact h.elim
theorem mgs_cons {e : Expr} {es : List Expr} {g : D → M Unit} {r : List D → M Unit} (h1 : MG X W e g) (h2 : MGs X W es r)
    (hs : (assignEach (e :: es) X.env).map (·.2) = assign e X.env :: (assignEach es X.env).map (·.2) := by rfl) : MGs X W (e :: es) (gCons g r) := by
  refine PGs.imp (pgs_cons h1 h2 hs) fun v σ H Q ⟨ρ, s, ds, sr, r, h⟩ => ?_
  unfold gCons at h
  split at h
  · obtain ⟨w, vr, rfl, r1, r2⟩ := (r : ∃ w vr, v = w :: vr ∧ Rep _ ρ H _ w ∧ RepL _ ρ H _ vr)
    rw [T.all_bind] at h
    refine ⟨w, vr, rfl, tG.run sr r1 .refl h fun s1 ρ1 H1 σ1 p g1 g1' sr1 => ?_⟩
    exact tGs.run sr1 (r2.go g1) g1 p fun s2 ρ2 H2 σ2 p g2 g2' sr2 => p ρ2 H2 σ2 g2' sr2
  · exact h.elim
def gTupM (n : Nat) (r : List D → M Unit) : D → M Unit := fun d s => match (tupAt d).or (lstAt s.st d) with
  | some ds => if ds.length = n then r ds s else .bad
  | none => .bad
def gTU (K : PySem.W.Frag) (n : Nat) (t : TGs) : TG := fun v σ H Q => gTup K n t v σ H Q ∨ gUnl K n t v σ H Q
theorem pg_unp {es : List Expr} {k : Nat} {pos : Pos} {t : TGs} {n : Nat} (hc : X.calm = true) (h : PGs X es t)
    (hn : (assignEach es X.env).length = n) (hst : (assignEach es X.env).findIdx? (·.1) = none) : PG X (.Tuple es k pos) (gTU X.K n t) :=
  ⟨fun pins s σ H v u Q I r q => q.elim ((pg_tup hc h hn hst).run pins s σ H v u Q I r) ((pg_unl hc h hn hst).run pins s σ H v u Q I r)⟩
theorem mg_tup {es : List Expr} {k : Nat} {pos : Pos} {r : List D → M Unit} {n : Nat} (hc : X.calm = true) (h : MGs X W es r)
    (hn : (assignEach es X.env).length = n := by rfl) (hst : (assignEach es X.env).findIdx? (·.1) = none := by rfl) : MG X W (.Tuple es k pos) (gTupM n r) := by
  refine PG.imp (pg_unp hc h hn hst) fun v σ H Q ⟨ρ, s, d, sr, r, h⟩ => ?_
  unfold gTupM at h
  split at h
  · rename_i ds e
    split at h
    · rename_i hl
      obtain ⟨a, vs, rfl, t, q⟩ := rep_seq sr.st e r
      have go : tGs (bx X) W _ vs σ H Q := tGs.run sr q .refl h fun s2 ρ2 H2 σ2 p g2 g2' sr2 => p ρ2 H2 σ2 g2' sr2
      rcases t with t | t
      · exact .inr ⟨a, vs, rfl, t, q.length.trans hl, go⟩
      · exact .inl ⟨a, vs, rfl, t, q.length.trans hl, go⟩
    · exact h.elim
  · exact h.elim
/-- o[i] = d -/
def setD (x i d : D) : M Unit := fun s => match x with
  | .ref n => match s.st[n]? with
    | some (.lst xs) => match i with
      | .int k => match ixN xs.length k with
        | some j => put n (.lst (xs.set j d)) s
        | none => .bad
      | _ => .bad
    | some (.dK kvs) => match keyK i with
      | some k => if kvs.length < LIM then put n (.dK (putD kvs k d)) s else .bad
      | none => .bad
    | some (.dT kvs) => match keyT i with
      | some k => if kvs.length < LIM then put n (.dT (putD kvs k d)) s else .bad
      | none => .bad
    | _ => .bad
  | _ => .bad
def rDSet : TSet := fun o i v H Q => ∃ a H', o = V.ref a ∧ DPut H a i v H' ∧ Q H'
theorem set_dict (hu : X.A.units + 1 < cLine) : PSet X rDSet := by
  intro pins s σ H o i v ov iv u Q I ro ri rv ⟨a, H', e, p, q⟩
  subst e
  cases (show ov = Value.ref a from ro)
  exact d_setItem hu I p ri rv fun s' I' => ⟨H', I', q⟩
def rSetU : TSet := fun o i v H Q => rSetL o i v H Q ∨ rDSet o i v H Q
theorem set_all (hu : X.A.units + 1 < cLine) : PSet X rSetU := by
  intro pins s σ H o i v ov iv u Q I ro ri rv q
  rcases q with q | q
  · exact set_list pins s σ H o i v ov iv u Q I ro ri rv q
  · exact set_dict hu pins s σ H o i v ov iv u Q I ro ri rv q
theorem set_run {B : Bx} {x i d : D} {ρ : List Addr} {H : Hp} {σ : L2.St} {s : LS} {o w v : V} {Q : L2.St → Hp → Prop} {E : Ex → LS → Prop} (sr : SR B ρ H s σ) (rx : Rep B ρ H x o) (ri : Rep B ρ H i w) (rd : Rep B ρ H d v)
    (h : (setD x i d s).all (PU B ρ H Q) E) : rSetU o w v H fun H' => Q σ H' := by
  unfold setD at h
  split at h
  · rename_i n
    split at h
    · rename_i xs e
      obtain ⟨a, rfl, hn, vs, h1, h2⟩ := rep_obj sr.st e rx
      split at h
      · cases (ri : w = _)
        split at h
        · rename_i k j hj
          refine .inl ⟨a, vs, _, j, rfl, rfl, h1, by rw [h2.length]; exact hj, ?_⟩
          obtain ⟨g, sr'⟩ := sr.write hn (o := .lst (vs.set j v)) (u := .lst (xs.set j d)) ⟨_, upd_same, (h2.set j rd).go (.write (List.mem_of_getElem? hn))⟩
          exact h _ _ _ g sr'
        · exact h.elim
      · exact h.elim
    · rename_i kvs e
      obtain ⟨a, rfl, hn, vs, h1, h2⟩ := rep_obj sr.st e rx
      split at h
      · rename_i k hk
        cases rep_key hk ri
        split at h
        · rename_i hl
          refine .inr ⟨a, _, rfl, DPut.k h1 (limlt (by rw [repK_len h2]; exact hl)), ?_⟩
          obtain ⟨g, sr'⟩ := sr.write hn (o := .dK (putK vs k v)) (u := .dK (putD kvs k d)) ⟨_, upd_same, (repK_put h2 rd).go (.write (List.mem_of_getElem? hn))⟩
          exact h _ _ _ g sr'
        · exact h.elim
      · exact h.elim
    · rename_i kvs e
      obtain ⟨a, rfl, hn, vs, h1, h2⟩ := rep_obj sr.st e rx
      split at h
      · rename_i k hk
        obtain ⟨b, rfl, hb⟩ := rep_keyT hk ri
        split at h
        · rename_i hl
          refine .inr ⟨a, _, rfl, DPut.t h1 hb (limlt (by rw [repK_len h2]; exact hl)), ?_⟩
          obtain ⟨g, sr'⟩ := sr.write hn (o := .dT (putK vs k v)) (u := .dT (putD kvs k d)) ⟨_, upd_same, (repK_put h2 rd).go (.write (List.mem_of_getElem? hn))⟩
          exact h _ _ _ g sr'
        · exact h.elim
      · exact h.elim
    · exact h.elim
  · exact h.elim
def gSubM (o i : M D) : D → M Unit := fun d s => (o s).bind fun x s1 => (i s1).bind fun y s2 => setD x y d s2
theorem mg_sub {o i : Expr} {mo mi : M D} {pos : Pos} (hu : X.A.units + 1 < cLine) (ho : ME X W o mo) (hi : ME X W i mi)
    (ha : ∀ v, assign (.Subscript o i pos) X.env v = (do
      let ov ← holding [v] (eval o X.env)
      let iv ← holding [v, ov] (eval i X.env)
      standAt pos
      holding [v, ov, iv] (setItem ov iv v)
      release [v, ov, iv] []) := by intro _; rfl) : MG X W (.Subscript o i pos) (gSubM mo mi) := by
  refine PG.imp (pg_sub ho hi (set_all hu) ha) fun v σ H Q ⟨ρ, s, d, sr, r, h⟩ => ?_
  unfold gSubM at h
  rw [T.all_bind] at h
  refine tE.run sr .refl h fun x s1 ρ1 H1 w p g1 g1' sr1 r1 => ?_
  rw [T.all_bind] at p
  refine tE.run sr1 g1 p fun y s2 ρ2 H2 u p2 g2 g2' sr2 r2 => ?_
  exact set_run sr2 (r1.go g2) r2 (r.go g2') (T.all_mono (fun _ _ q => q.go g2') (fun _ _ q => q) p2)

/-! ### assignments -/
def mAsg (e : M D) (g : D → M Unit) : M Fl := fun s => (e s).bind fun d s1 => (g d s1).bind fun _ s2 => .ret .nx s2
theorem asg_run {e : M D} {g : D → M Unit} {E : Ends} {σ : L2.St} {H : Hp} (h : tS (bx X) W (mAsg e g) E σ H) : tAsg (tE (bx X) W e) (tG (bx X) W g) E σ H := by
  obtain ⟨ρ, s, sr, h⟩ := h
  unfold mAsg at h
  rw [T.all_bind] at h
  refine tE.run sr .refl h fun d s1 ρ1 H1 v p g1 g1' sr1 r1 => ?_
  rw [T.all_bind] at p
  exact tG.run sr1 r1 g1 p fun s2 ρ2 H2 σ2 p g2 g2' sr2 => p ρ2 H2 σ2 g2' sr2
theorem ms_asg {tg e : Expr} {m : M D} {g : D → M Unit} {pos : Pos} (he : ME X W e m) (hg : MG X W tg g) (hs : swapsWithSole [tg] e pos.line X.env = pure false := by rfl) (hw : swappedStores [tg] e X.env = pure none := by rfl)
    (h1 : (assignEach [tg] X.env).map (·.2) = [assign tg X.env] := by rfl) : MS X W (.Assign [tg] e pos) (mAsg m g) :=
  PS.imp (ps_asg he hg hs hw h1) fun E σ H h => asg_run h
theorem ms_set {N : List Str} {sc : Scope} (c : Cc X N sc) (i : Nat) {x : Str} {e : Expr} {m : M D} {pos pos' : Pos} (h1 : N[i]? = some x) (h2 : Loc sc x) (h3 : X.fn x = true ∨ sc.names.lookup x = some .local) (he : ME X W e m)
    (hs : swapsWith e (some (.Name x pos')) pos.line X.env = pure false := by rfl) : MS X W (.Assign [.Name x pos'] e pos) (mAsg m (gNm i)) := by
  refine PS.imp (ps_set (i := i) c.nd' (by rw [c.hN]; exact h1) (by rw [c.hs]; exact h2) he hs (by rw [c.hs]; exact h3)) fun E σ H h => ?_
  obtain ⟨ρ, s, sr, h⟩ := h
  unfold mAsg at h
  rw [T.all_bind] at h
  refine tE.run sr .refl h fun d s1 ρ1 H1 v p g1 g1' sr1 r1 => ?_
  exact p ρ1 H1 _ g1 (sr1.set r1)
/-- a, b = e1, e2, both plain local names -/
def mPar (i j : Nat) (m : M (List D)) : M Fl := fun s => (m s).bind fun ds s1 => match ds with
  | [x, y] => .ret .nx { s1 with env := (s1.env.set i (some x)).set j (some y) }
  | _ => .bad
theorem ms_par {N : List Str} {sc : Scope} (c : Cc X N sc) (i j : Nat) {x y : Str} {a b : Expr} {m : M (List D)} {px py pt pos : Pos} {kt k2 : Nat} {pt2 : Pos} (h1 : N[i]? = some x) (h2 : N[j]? = some y) (hij : i ≠ j)
    (hx : sc.names.lookup x = some .local) (hy : sc.names.lookup y = some .local) (ha : MA X W [a, b] m)
    (H : ∀ (hc : X.calm = true) (hN : X.N.Nodup) (hi : X.N[i]? = some x) (hj : X.N[j]? = some y) (hx : X.env.scope.names.lookup x = some .local) (hy : X.env.scope.names.lookup y = some .local) (ha : PA X [a, b] (tL (bx X) W m)),
      PS X (.Assign [.Tuple [.Name x px, .Name y py] kt pt] (.Tuple [a, b] k2 pt2) pos) (tPar i j (tL (bx X) W m))) :
    MS X W (.Assign [.Tuple [.Name x px, .Name y py] kt pt] (.Tuple [a, b] k2 pt2) pos) (mPar i j m) := by
  refine PS.imp (H c.calm c.nd' (by rw [c.hN]; exact h1) (by rw [c.hN]; exact h2) (by rw [c.hs]; exact hx) (by rw [c.hs]; exact hy) ha) fun E σ H h => ?_
  obtain ⟨ρ, s, sr, h⟩ := h
  unfold mPar at h
  rw [T.all_bind] at h
  refine tL.run sr .refl h fun ds s1 ρ1 H1 vs p g1 g1' sr1 r1 => ?_
  split at p
  · rename_i d e
    obtain ⟨v, vr, rfl, q1, q2⟩ := (r1 : ∃ v vr, vs = v :: vr ∧ Rep _ ρ1 H1 d v ∧ RepL _ ρ1 H1 [e] vr)
    obtain ⟨w, wr, rfl, q3, q4⟩ := (q2 : ∃ v vr, _ = v :: vr ∧ Rep _ ρ1 H1 e v ∧ RepL _ ρ1 H1 [] vr)
    cases (q4 : wr = [])
    exact ⟨v, w, rfl, p ρ1 H1 _ g1 ((sr1.set q1).set q3)⟩
  · exact p.elim

/-! ### loops -/
/-- what is walked: a list as it stands at each turn, items that don't change, a range -/
inductive Sq where
  | ls (n : Nat)
  | tp (ds : List D)
  | st (z : List Nat)
  | sc (ns : List Int)
  | rg (lo : Int) (n : Nat)
/-- a tuple that stays -/
def TupS (B : Bx) (ρ : List Addr) (H : Hp) (a : Addr) (vs : List V) : Prop := (H a = some (.tup vs) ∧ a ∉ ρ) ∨ StaT B a vs
theorem TupS.go {B : Bx} {ρ ρ' : List Addr} {H H' : Hp} {a : Addr} {vs : List V} (g : Go ρ H ρ' H') (h : TupS B ρ H a vs) : TupS B ρ' H' a vs := h.elim (fun h => .inl ⟨g.keep _ _ h.2 h.1, g.out h.2 h.1⟩) .inr
theorem TupS.sq {B : Bx} {ρ : List Addr} {H : Hp} {a : Addr} {vs : List V} (h : TupS B ρ H a vs) : SqT B.K H a vs := h.elim (fun h => .of h.1) .inr
theorem rep_tupS {B : Bx} {ρ : List Addr} {H : Hp} {d : D} {xs : List D} {v : V} (e : tupAt d = some xs) (r : Rep B ρ H d v) : ∃ a vs, v = .ref a ∧ TupS B ρ H a vs ∧ RepL B ρ H xs vs := by
  cases d with
  | tup ys =>
    cases e
    obtain ⟨a, vs, e, t, o, q⟩ := (r : ∃ a vs, v = .ref a ∧ H a = some (.tup vs) ∧ a ∉ ρ ∧ RepL B ρ H xs vs)
    exact ⟨a, vs, e, .inl ⟨t, o⟩, q⟩
  | cup ys =>
    cases e
    obtain ⟨a, vs, e, t, q⟩ := (r : ∃ a vs, v = .ref a ∧ StaT B a vs ∧ RepL B ρ H xs vs)
    exact ⟨a, vs, e, .inr t, q⟩
  | _ => cases e
/-- the script -/
def ScrL (B : Bx) (ρ : List Addr) (H : Hp) (a : Addr) (ns : List Int) : Prop := (a ∉ ρ ∧ ∃ o, H a = some (.frz o (.lst (ns.map V.int)))) ∨ StaL B a (ns.map V.int)
theorem ScrL.go {B : Bx} {ρ ρ' : List Addr} {H H' : Hp} {a : Addr} {ns : List Int} (g : Go ρ H ρ' H') (h : ScrL B ρ H a ns) : ScrL B ρ' H' a ns := h.elim (fun ⟨h1, o, h2⟩ => .inl ⟨g.out h1 h2, o, g.keep _ _ h1 h2⟩) .inr
theorem ScrL.sq {B : Bx} {ρ : List Addr} {H : Hp} {a : Addr} {ns : List Int} (h : ScrL B ρ H a ns) : SqL B.K H a (ns.map V.int) := h.elim (fun h => .inl (.inr h.2)) .inr
def PJ (B : Bx) (ρ : List Addr) (H : Hp) (σ : L2.St) (R : It → Hp → Prop) : Sq → LS → Prop := fun q s' => ∀ ρ' H', Go ρ H ρ' H' → SR B ρ' H' s' σ → match q with
  | .ls n => ∀ a, ρ'[n]? = some a → R (Itl B.K a) H'
  | .tp ds => ∀ a vs, TupS B ρ' H' a vs → RepL B ρ' H' ds vs → R (Itt B.K a) H'
  | .st z => ∀ x : Str, x.cps.toList = z → R (Its x) H'
  | .sc ns => ∀ a, ScrL B ρ' H' a ns → R (Itl B.K a) H'
  | .rg lo n => R (Itr lo n) H'
def tJ (B : Bx) (W : WX) (m : M Sq) : TI := fun σ H R => ∃ ρ s, SR B ρ H s σ ∧ (m s).all (PJ B ρ H σ R) (PX B W ρ H)
abbrev MI (X : Cx) (W : WX) (tg e : Expr) (m : M Sq) : Prop := PI X tg e (tJ (bx X) W m)
def sqOf (S : List LO) (d : D) : Option Sq := match d with
  | .tup ds => some (.tp ds)
  | .cup ds => some (.tp ds)
  | .ref n => match S[n]? with
    | some (.lst _) => some (.ls n)
    | _ => none
  | .rng lo hi => if i62 lo && i62 hi then some (.rg lo (hi - lo).toNat) else none
  | .str z => some (.st z.cps.toList)
  | .scr ns => some (.sc ns)
  | _ => none
def mIt (m : M D) : M Sq := fun s => (m s).bind fun d s1 => mO (sqOf s1.st d) s1
/-- a list, a tuple, a range object, a text: by what it is -/
def iAny (K : PySem.W.Frag) (tl : TE) : TI := fun σ H R => tl σ H fun x H1 =>
  (∃ a, x = .ref a ∧ (∃ xs, SqL K H1 a xs) ∧ R (Itl K a) H1) ∨ (∃ a, x = .ref a ∧ (∃ xs, SqT K H1 a xs) ∧ R (Itt K a) H1) ∨
  (∃ a lo hi, x = .ref a ∧ H1 a = some (.rng lo hi) ∧ (-(2 ^ 62) ≤ lo ∧ lo < 2 ^ 62 ∧ -(2 ^ 62) ≤ hi ∧ hi < 2 ^ 62) ∧ R (Itr lo (hi - lo).toNat) H1) ∨ ∃ z, x = .str z ∧ R (Its z) H1
end
end Mz

set_option Elab.async false
set_option linter.all false
set_option maxRecDepth 100000
set_option maxHeartbeats 4000000
namespace Mz
open PySem PySem.Spec PyProof.Rows L2

/-! ### what is walked -/
theorem pi_any {X : Cx} {tg l : Expr} {tl : TE} (hl : PE X l tl) : PI X tg l (iAny X.K tl) := by
  refine ⟨fun pins s σ H R I h => ?_⟩
  refine thn (hl.run pins s σ H _ I h) fun v s1 ⟨x, H1, I1, r1, q1⟩ => ?_
  rcases q1 with ⟨a, e, ⟨xs, hq⟩, q⟩ | ⟨a, e, ⟨xs, hq⟩, q⟩ | ⟨a, lo, hi, e, hq, ⟨b1, b2, b3, b4⟩, q⟩ | ⟨z, e, q⟩
  · subst e
    cases r1
    obtain ⟨its, rv, p, hz⟩ := I1.list hq
    exact wpAny_pyIter_list p.isList (pi_one (tk := s1.toks) I1 _ (turn_list a _) ⟨_, Heap.get?_push_size _ rfl, rfl, rfl⟩ q)
  · subst e
    cases r1
    obtain ⟨its, rv, p, hz⟩ := I1.tuple hq
    exact wpAny_pyIter_tuple (show s1.heap.IsTuple a its.toArray from p) (pi_one (tk := s1.toks) I1 _ (turn_tuple a _) ⟨_, Heap.get?_push_size _ rfl, rfl, rfl⟩ q)
  · subst e
    cases r1
    obtain ⟨t, u, w, hr⟩ := (show ObjOk X.prog X.w H1 s1.heap a (.rng lo hi) from I1.hok a _ hq)
    refine wpAny_pyIter_range (a := lo) (b := hi) (c := 1) (t := t) (u := u) (v := w) hr (small_one b1 b2 b3 b4) (pi_one (tk := s1.toks) I1 _ (turn_range _ lo (hi - lo).toNat) ?_ q)
    have e1 : lo + ((0 : Nat) : Int) * 1 = lo := by simp
    have e2 : (((hi - lo).toNat : Nat) : Int) - ((0 : Nat) : Int) = Builtin.Range.rangeSize lo hi 1 := by rw [rangeSize_one]; split <;> omega
    show IsRangeIter _ _ (lo + ((0 : Nat) : Int) * 1) ((((hi - lo).toNat : Nat) : Int) - ((0 : Nat) : Int)) 1
    rw [e1, e2]
    exact Heap.get?_push_size _ rfl
  · subst e
    obtain ⟨t, rfl⟩ := r1
    cases ha : z.cps.all (· < 128)
    · exact wpAny_pyIter_wide ha (pi_one (tk := s1.toks) I1 _ (turn_str _ z t "str_iterator" (.inr rfl)) ⟨_, Heap.get?_push_size _ rfl, rfl, rfl⟩ q)
    · exact wpAny_pyIter_ascii ha (pi_one (tk := s1.toks) I1 _ (turn_str _ z t "str_ascii_iterator" (.inl rfl)) ⟨_, Heap.get?_push_size _ rfl, rfl, rfl⟩ q)
section
variable {X : Cx} {W : WX}
theorem mi_any {tg e : Expr} {m : M D} (h : ME X W e m) : MI X W tg e (mIt m) := by
  refine PI.imp (pi_any h) fun σ H R ⟨ρ, s, sr, h⟩ => ?_
  unfold mIt at h
  rw [T.all_bind] at h
  refine tE.run sr .refl h fun d s1 ρ1 H1 v p g1 g1' sr1 r1 => ?_
  unfold mO at p
  split at p
  · rename_i q hq
    have p := p ρ1 H1 g1 sr1
    cases d with
    | tup ds =>
      cases hq
      obtain ⟨a, vs, rfl, t, r⟩ := rep_tupS (d := .tup ds) rfl r1
      exact .inr (.inl ⟨a, rfl, ⟨vs, t.sq⟩, p a vs t r⟩)
    | cup ds =>
      cases hq
      obtain ⟨a, vs, rfl, t, r⟩ := rep_tupS (d := .cup ds) rfl r1
      exact .inr (.inl ⟨a, rfl, ⟨vs, t.sq⟩, p a vs t r⟩)
    | ref n =>
      simp only [sqOf] at hq
      split at hq
      · rename_i xs e
        cases hq
        obtain ⟨a, rfl, hn, vs, h1, h2⟩ := rep_obj sr1.st e r1
        exact .inl ⟨a, rfl, ⟨vs, .of h1⟩, p a hn⟩
      · cases hq
    | rng lo hi =>
      simp only [sqOf] at hq
      split at hq
      · rename_i hb
        cases hq
        rw [Bool.and_eq_true] at hb
        obtain ⟨a, rfl, _, e⟩ := (r1 : ∃ a, v = .ref a ∧ a ∉ ρ1 ∧ H1 a = some (.rng lo hi))
        exact .inr (.inr (.inl ⟨a, lo, hi, rfl, e, ⟨(i62_ok hb.1).1, (i62_ok hb.1).2, (i62_ok hb.2).1, (i62_ok hb.2).2⟩, p⟩))
      · cases hq
    | str z =>
      cases hq
      cases (r1 : v = _)
      exact .inr (.inr (.inr ⟨z, rfl, p z rfl⟩))
    | scr ns =>
      cases hq
      obtain ⟨a, rfl, h1, _⟩ := (r1 : ∃ a, v = .ref a ∧ ScrL _ ρ1 H1 a ns ∧ _)
      have h1 : ScrL (bx X) ρ1 H1 a ns := h1
      exact .inl ⟨a, rfl, ⟨_, h1.sq⟩, p a h1⟩
    | _ => simp [sqOf] at hq
  · exact p.elim
/-- range(n), range(a, b) in a for's head -/
def mRg1 (m : M (List D)) : M Sq := fun s => (m s).bind fun ds s1 => match ds with
  | [.int n] => if i62 n then .ret (.rg 0 n.toNat) s1 else .bad
  | _ => .bad
def mRg2 (m : M (List D)) : M Sq := fun s => (m s).bind fun ds s1 => match ds with
  | [.int a, .int b] => if i62 a && i62 b then .ret (.rg a (b - a).toNat) s1 else .bad
  | _ => .bad
theorem Cc.gl {N : List Str} {sc : Scope} (c : Cc X N sc) {x : Str} (h : sc.names.lookup x = some .globalImplicit) : Gl X x := by
  unfold Gl Env.kindOf
  rw [c.hs]; exact h
theorem mi_rg1 {tg a : Expr} {m : M (List D)} {p pos : Pos} (hg : Gl X "range") (hm : X.mg "range" = none) (ha : MA X W [a] m) (hs : starEach [a] X.env = [(false, eval a X.env)] := by rfl) : MI X W tg (.Call (.Name "range" p) [a] [] pos) (mRg1 m) := by
  refine PI.imp (pi_range1 hg hm ha hs) fun σ H R ⟨ρ, s, sr, h⟩ => ?_
  unfold mRg1 at h
  rw [T.all_bind] at h
  refine tL.run sr .refl h fun ds s1 ρ1 H1 vs p g1 g1' sr1 r1 => ?_
  split at p
  · rename_i n
    obtain ⟨v, vr, rfl, q1, q2⟩ := (r1 : ∃ v vr, vs = v :: vr ∧ Rep _ ρ1 H1 (.int n) v ∧ RepL _ ρ1 H1 [] vr)
    cases (q1 : v = _); cases (q2 : vr = [])
    split at p
    · rename_i hb
      exact ⟨n, rfl, (i62_ok hb).1, (i62_ok hb).2, p ρ1 H1 g1 sr1⟩
    · exact p.elim
  · exact p.elim
theorem mi_rg2 {tg a b : Expr} {m : M (List D)} {p pos : Pos} (hg : Gl X "range") (hm : X.mg "range" = none) (ha : MA X W [a, b] m) (hs : starEach [a, b] X.env = [(false, eval a X.env), (false, eval b X.env)] := by rfl) (hs2 : starEach [b] X.env = [(false, eval b X.env)] := by rfl) :
    MI X W tg (.Call (.Name "range" p) [a, b] [] pos) (mRg2 m) := by
  refine PI.imp (pi_range2 hg hm ha hs hs2) fun σ H R ⟨ρ, s, sr, h⟩ => ?_
  unfold mRg2 at h
  rw [T.all_bind] at h
  refine tL.run sr .refl h fun ds s1 ρ1 H1 vs p g1 g1' sr1 r1 => ?_
  split at p
  · rename_i i j
    obtain ⟨v, vr, rfl, q1, q2⟩ := (r1 : ∃ v vr, vs = v :: vr ∧ Rep _ ρ1 H1 (.int i) v ∧ RepL _ ρ1 H1 [.int j] vr)
    obtain ⟨w, wr, rfl, q3, q4⟩ := (q2 : ∃ v vr, _ = v :: vr ∧ Rep _ ρ1 H1 (.int j) v ∧ RepL _ ρ1 H1 [] vr)
    cases (q1 : v = _); cases (q3 : w = _); cases (q4 : wr = [])
    split at p
    · rename_i hb
      rw [Bool.and_eq_true] at hb
      exact ⟨i, j, rfl, ⟨(i62_ok hb.1).1, (i62_ok hb.1).2, (i62_ok hb.2).1, (i62_ok hb.2).2⟩, p ρ1 H1 g1 sr1⟩
    · exact p.elim
  · exact p.elim

/-! ### for, while -/
def turn (b : M Fl) (again : M Fl) : M Fl := fun s => (b s).bind fun f s1 => match f with
  | .nx => again s1
  | .ct => again s1
  | .bk => .ret .nx s1
  | .rt d => .ret (.rt d) s1
def loopR (g : D → M Unit) (b : M Fl) : Nat → Int → M Fl
  | 0, _ => mNext
  | n + 1, i => fun s => (g (.int i) s).bind fun _ s1 => turn b (loopR g b n (i + 1)) s1
def loopT (g : D → M Unit) (b : M Fl) : List D → M Fl
  | [] => mNext
  | d :: ds => fun s => (g d s).bind fun _ s1 => turn b (loopT g b ds) s1
def loopL (g : D → M Unit) (b : M Fl) (n : Nat) : Nat → Nat → M Fl
  | 0, i => fun s => match lstAt s.st (.ref n) with
    | some xs => if xs.length ≤ i then .ret .nx s else .bad
    | none => .bad
  | k + 1, i => fun s => match lstAt s.st (.ref n) with
    | some xs => match xs[i]? with
      | some d => (g d s).bind fun _ s1 => turn b (loopL g b n k (i + 1)) s1
      | none => .ret .nx s
    | none => .bad
def loopQ (g : D → M Unit) (b : M Fl) : Sq → M Fl
  | .rg lo n => loopR g b n lo
  | .tp ds => loopT g b ds
  | .st z => loopT g b (z.map fun c => .str ⟨#[c]⟩)
  | .sc ns => loopT g b (ns.map D.int)
  | .ls n => fun s => loopL g b n (((lstAt s.st (.ref n)).getD []).length) 0 s
def mFor (m : M Sq) (g : D → M Unit) (b : M Fl) : M Fl := fun s => (m s).bind fun q s1 => loopQ g b q s1
def mWhile (t : M Bool) (b : M Fl) : Nat → M Fl
  | 0 => fun _ => .bad
  | k + 1 => fun s => (t s).bind fun x s1 => if x then turn b (mWhile t b k) s1 else .ret .nx s1
section
variable {B : Bx} {ρ ρ0 : List Addr} {H H0 : Hp} {σ : L2.St} {s : LS} {g : D → M Unit} {b again : M Fl} {E : Ends}
theorem turn_run {N : L2.St → Hp → Prop} (sr : SR B ρ H s σ) (g0 : Go ρ0 H0 ρ H) (h : (turn b again s).all (PF B ρ0 H0 E) (PX B W ρ0 H0))
    (hN : ∀ s1 ρ1 H1 σ1, Go ρ0 H0 ρ1 H1 → SR B ρ1 H1 s1 σ1 → (again s1).all (PF B ρ0 H0 E) (PX B W ρ0 H0) → N σ1 H1) : tS B W b { E with nx := N, ct := N, bk := E.nx } σ H := by
  unfold turn at h
  rw [T.all_bind] at h
  refine tS.run sr g0 h fun f s1 ρ1 H1 σ1 p g1 g1' sr1 => ?_
  cases f with
  | nx => exact hN s1 ρ1 H1 σ1 g1' sr1 p
  | ct => exact hN s1 ρ1 H1 σ1 g1' sr1 p
  | bk => exact p ρ1 H1 σ1 g1' sr1
  | rt d => exact p ρ1 H1 σ1 g1' sr1
/-- one turn: the target, the body -/
theorem turn_at {N : L2.St → Hp → Prop} {d : D} {v : V} (sr : SR B ρ H s σ) (r : Rep B ρ H d v) (g0 : Go ρ0 H0 ρ H) (h : ((g d s).bind fun _ s1 => turn b again s1).all (PF B ρ0 H0 E) (PX B W ρ0 H0))
    (hN : ∀ s1 ρ1 H1 σ1, Go ρ0 H0 ρ1 H1 → SR B ρ1 H1 s1 σ1 → (again s1).all (PF B ρ0 H0 E) (PX B W ρ0 H0) → N σ1 H1) :
    tG B W g v σ H fun σ2 H2 => tS B W b { E with nx := N, ct := N, bk := E.nx } σ2 H2 := by
  rw [T.all_bind] at h
  exact tG.run sr r g0 h fun s1 ρ1 H1 σ1 p g1 g1' sr1 => turn_run sr1 g1' p hN
/-- what a for asks of a walk J -/
def ForJ (B : Bx) (W : WX) (g : D → M Unit) (b : M Fl) (E : Ends) (σ : L2.St) (J : It) (H1 : Hp) : Prop := ∃ W' : Nat → Nat → L2.St → Hp → Prop, (∃ m, W' 0 m σ H1) ∧ ∀ i m σ H, W' i m σ H →
  (J.stop i H ∧ E.nx σ H) ∨ (J.go i H ∧ ∃ N : L2.St → Hp → Prop, (∀ σ' H', N σ' H' → ∃ m', m' < m ∧ W' (i + 1) m' σ' H') ∧ ∀ x H', J.yld i H x H' → tG B W g x σ H' fun σ2 H2 => tS B W b { E with nx := N, ct := N, bk := E.nx } σ2 H2)
theorem for_rg {lo : Int} {n : Nat} (sr : SR B ρ H s σ) (g0 : Go ρ0 H0 ρ H) (h : (loopR g b n lo s).all (PF B ρ0 H0 E) (PX B W ρ0 H0)) : ForJ B W g b E σ (Itr lo n) H := by
  refine ⟨fun i m σ H => ∃ ρ s, i + m = n ∧ SR B ρ H s σ ∧ Go ρ0 H0 ρ H ∧ (loopR g b m (lo + i) s).all (PF B ρ0 H0 E) (PX B W ρ0 H0), ⟨n, ρ, s, by omega, sr, g0, by simpa using h⟩, ?_⟩
  rintro i m σ H ⟨ρ, s, hn, sr, g0, h⟩
  cases m with
  | zero => exact .inl ⟨(by omega : n ≤ i), h ρ H σ g0 sr⟩
  | succ m =>
    refine .inr ⟨(by omega : i < n), _, fun σ' H' w => ⟨m, Nat.lt_succ_self m, w⟩, fun x H' y => ?_⟩
    obtain ⟨e, ex⟩ := y
    subst e ex
    exact turn_at (d := .int (lo + (i : Int))) sr rfl g0 h fun s1 ρ1 H1 σ1 g1 sr1 q => ⟨ρ1, s1, by omega, sr1, g1, by rw [show lo + ((i + 1 : Nat) : Int) = lo + (i : Int) + 1 by omega]; exact q⟩
theorem for_tp {a : Addr} {ds0 : List D} {vs0 : List V} (t0 : TupS B ρ0 H0 a vs0) (r0 : RepL B ρ0 H0 ds0 vs0)
    (sr : SR B ρ0 H0 s σ) (h : (loopT g b ds0 s).all (PF B ρ0 H0 E) (PX B W ρ0 H0)) : ForJ B W g b E σ (Itt B.K a) H0 := by
  refine ⟨fun i m σ H => ∃ ρ s, i + m = ds0.length ∧ SR B ρ H s σ ∧ Go ρ0 H0 ρ H ∧ (loopT g b (ds0.drop i) s).all (PF B ρ0 H0 E) (PX B W ρ0 H0), ⟨ds0.length, ρ0, s, by omega, sr, .refl, by simpa using h⟩, ?_⟩
  rintro i m σ H ⟨ρ, s, hn, sr, g0, h⟩
  have t := t0.go g0
  have r := r0.go g0
  have hl := r.length
  cases m with
  | zero =>
    rw [List.drop_eq_nil_of_le (by omega)] at h
    exact .inl ⟨⟨vs0, t.sq, by omega⟩, h ρ H σ g0 sr⟩
  | succ m =>
    have hi : i < ds0.length := by omega
    rw [List.drop_eq_getElem_cons hi] at h
    obtain ⟨v, hv, rv⟩ := r.get (i := i) (d := ds0[i]) (by simp [hi])
    refine .inr ⟨⟨vs0, v, t.sq, hv⟩, _, fun σ' H' w => ⟨m, Nat.lt_succ_self m, w⟩, fun x H' y => ?_⟩
    obtain ⟨e, ex⟩ := y
    subst e
    have ex := ex vs0 t.sq
    rw [hv] at ex; cases ex
    exact turn_at sr rv g0 h fun s1 ρ1 H1 σ1 g1 sr1 q => ⟨ρ1, s1, by omega, sr1, g1, q⟩
theorem for_sc {a : Addr} {ns : List Int} (t0 : ScrL B ρ0 H0 a ns)
    (sr : SR B ρ0 H0 s σ) (h : (loopT g b (ns.map D.int) s).all (PF B ρ0 H0 E) (PX B W ρ0 H0)) : ForJ B W g b E σ (Itl B.K a) H0 := by
  refine ⟨fun i m σ H => ∃ ρ s, i + m = ns.length ∧ SR B ρ H s σ ∧ Go ρ0 H0 ρ H ∧ (loopT g b ((ns.map D.int).drop i) s).all (PF B ρ0 H0 E) (PX B W ρ0 H0), ⟨ns.length, ρ0, s, by omega, sr, .refl, by simpa using h⟩, ?_⟩
  rintro i m σ H ⟨ρ, s, hn, sr, g0, h⟩
  have t := t0.go g0
  cases m with
  | zero =>
    rw [List.drop_eq_nil_of_le (by simp; omega)] at h
    exact .inl ⟨⟨_, t.sq, by simp; omega⟩, h ρ H σ g0 sr⟩
  | succ m =>
    have hi : i < (ns.map D.int).length := by simp; omega
    rw [List.drop_eq_getElem_cons hi] at h
    have hi' : i < ns.length := by omega
    have hv : (ns.map V.int)[i]? = some (.int ns[i]) := by simp [hi']
    refine .inr ⟨⟨_, _, t.sq, hv⟩, _, fun σ' H' w => ⟨m, Nat.lt_succ_self m, w⟩, fun x H' y => ?_⟩
    obtain ⟨e, ex⟩ := y
    subst e
    have ex := ex _ t.sq
    rw [hv] at ex; cases ex
    have rr : Rep B ρ H' ((ns.map D.int)[i]) (.int ns[i]) := by rw [List.getElem_map]; rfl
    exact turn_at sr rr g0 h fun s1 ρ1 H1 σ1 g1 sr1 q => ⟨ρ1, s1, by omega, sr1, g1, q⟩
theorem for_st {z : List Nat} {x0 : Str} (hx : x0.cps.toList = z) (sr : SR B ρ0 H0 s σ) (h : (loopT g b (z.map fun c => .str ⟨#[c]⟩) s).all (PF B ρ0 H0 E) (PX B W ρ0 H0)) : ForJ B W g b E σ (Its x0) H0 := by
  subst hx
  refine ⟨fun i m σ H => ∃ ρ s, i + m = x0.cps.size ∧ SR B ρ H s σ ∧ Go ρ0 H0 ρ H ∧ (loopT g b ((x0.cps.toList.map fun c => D.str ⟨#[c]⟩).drop i) s).all (PF B ρ0 H0 E) (PX B W ρ0 H0), ⟨x0.cps.size, ρ0, s, by omega, sr, .refl, by simpa using h⟩, ?_⟩
  rintro i m σ H ⟨ρ, s, hn, sr, g0, h⟩
  cases m with
  | zero =>
    rw [List.drop_eq_nil_of_le (by simp; omega)] at h
    exact .inl ⟨(by omega : x0.cps.size ≤ i), h ρ H σ g0 sr⟩
  | succ m =>
    have hi : i < (x0.cps.toList.map fun c => D.str ⟨#[c]⟩).length := by simp; omega
    rw [List.drop_eq_getElem_cons hi] at h
    refine .inr ⟨(by omega : i < x0.cps.size), _, fun σ' H' w => ⟨m, Nat.lt_succ_self m, w⟩, fun x H' y => ?_⟩
    obtain ⟨e, c, hc, ex⟩ := y
    subst e ex
    refine turn_at (d := (x0.cps.toList.map fun c => D.str ⟨#[c]⟩)[i]) sr ?_ g0 h fun s1 ρ1 H1 σ1 g1 sr1 q => ⟨ρ1, s1, by omega, sr1, g1, q⟩
    obtain ⟨hc1, hc2⟩ := Array.getElem?_eq_some_iff.mp hc
    simp [hc2]
    rfl
theorem for_ls {n : Nat} {a : Addr} {k0 : Nat} (hn : ρ0[n]? = some a) (sr : SR B ρ0 H0 s σ) (h : (loopL g b n k0 0 s).all (PF B ρ0 H0 E) (PX B W ρ0 H0)) : ForJ B W g b E σ (Itl B.K a) H0 := by
  refine ⟨fun i m σ H => ∃ ρ s, SR B ρ H s σ ∧ Go ρ0 H0 ρ H ∧ (loopL g b n m i s).all (PF B ρ0 H0 E) (PX B W ρ0 H0), ⟨k0, ρ0, s, sr, .refl, h⟩, ?_⟩
  rintro i m σ H ⟨ρ, s, sr, g0, h⟩
  have hn' : ρ[n]? = some a := by
    obtain ⟨t, rfl⟩ := g0.pre
    rw [List.getElem?_append_left (List.getElem?_eq_some_iff.mp hn).1]
    exact hn
  have rn : Rep B ρ H (.ref n) (.ref a) := ⟨a, rfl, hn'⟩
  cases m with
  | zero =>
    unfold loopL at h
    split at h
    · rename_i xs e
      obtain ⟨a', vs, q, h1, _, h2⟩ := rep_lst sr.st e rn
      cases q
      split at h
      · rename_i hl
        exact .inl ⟨⟨vs, .of h1, by rw [h2.length]; exact hl⟩, h ρ H σ g0 sr⟩
      · exact h.elim
    · exact h.elim
  | succ m =>
    unfold loopL at h
    split at h
    · rename_i xs e
      obtain ⟨a', vs, q, h1, _, h2⟩ := rep_lst sr.st e rn
      cases q
      split at h
      · rename_i d hd
        obtain ⟨v, hv, rv⟩ := h2.get hd
        refine .inr ⟨⟨vs, v, .of h1, hv⟩, _, fun σ' H' w => ⟨m, Nat.lt_succ_self m, w⟩, fun x H' y => ?_⟩
        obtain ⟨e', ex⟩ := y
        subst e'
        have ex := ex vs (.of h1)
        rw [hv] at ex; cases ex
        exact turn_at sr rv g0 h fun s1 ρ1 H1 σ1 g1 sr1 q => ⟨ρ1, s1, sr1, g1, q⟩
      · rename_i hd
        have hl : xs.length ≤ i := by simpa using hd
        exact .inl ⟨⟨vs, .of h1, by rw [h2.length]; exact hl⟩, h ρ H σ g0 sr⟩
    · exact h.elim
end
theorem ms_for {tg iter : Expr} {body : List Stmt} {m : M Sq} {g : D → M Unit} {b : M Fl} {pos : Pos} (hp : PassesOwn (model X.prog X.w) X.A X.env X.xe) (hc : X.calm = true) (hi : MI X W tg iter m) (hg : MG X W tg g) (hb : MSs X W body b)
    (hs : ∀ x, foldedSetIterable iter X.env x = pure x := by intro _; rfl) : MS X W (.For tg iter body [] pos) (mFor m g b) := by
  refine PS.imp (ps_for hp hc hi hg hb hs) fun E σ H ⟨ρ, s, sr, h⟩ => ?_
  unfold mFor at h
  rw [T.all_bind] at h
  refine ⟨ρ, s, sr, T.all_mono (fun q s1 p => ?_) (fun _ _ q => q) h⟩
  intro ρ1 H1 g1 sr1
  have p : (loopQ g b q s1).all (PF (bx X) ρ1 H1 E) (PX (bx X) W ρ1 H1) := T.all_mono (fun _ _ q => q.go g1) (fun _ _ q => q.go g1) p
  cases q with
  | rg lo n => exact for_rg sr1 .refl p
  | tp ds => exact fun a vs t r => for_tp t r sr1 p
  | st z => exact fun x hx => for_st hx sr1 p
  | ls n => exact fun a ha => for_ls ha sr1 p
  | sc ns => exact fun a ha => for_sc ha sr1 p
theorem ms_while {c : Expr} {body : List Stmt} {t : M Bool} {b : M Fl} {pos : Pos} (k : Nat) (hp : PassesOwn (model X.prog X.w) X.A X.env X.xe) (hc : MT X W c t) (hb : MSs X W body b) : MS X W (.While c body [] pos) (mWhile t b k) := by
  refine PS.imp (ps_while hp hc hb) fun E σ H ⟨ρ0, s, sr, h⟩ => ?_
  refine ⟨fun m σ H' => ∃ ρ s, SR (bx X) ρ H' s σ ∧ Go ρ0 H ρ H' ∧ (mWhile t b m s).all (PF (bx X) ρ0 H E) (PX (bx X) W ρ0 H), ⟨k, ρ0, s, sr, .refl, h⟩, ?_⟩
  rintro m σ H' ⟨ρ, s, sr, g0, h⟩
  cases m with
  | zero => exact h.elim
  | succ m =>
    unfold mWhile at h
    rw [T.all_bind] at h
    refine tT.run sr g0 h fun d s1 ρ1 H1 p g1 g1' sr1 => ?_
    cases d with
    | true =>
      rw [if_pos rfl] at p ⊢
      exact ⟨_, fun σ' H' w => ⟨m, Nat.lt_succ_self m, w⟩, turn_run sr1 g1' p fun s2 ρ2 H2 σ2 g2 sr2 q => ⟨ρ2, s2, sr2, g2, q⟩⟩
    | false =>
      rw [if_neg Bool.false_ne_true] at p ⊢
      exact p ρ1 H1 σ g1' sr1
end
end Mz

set_option Elab.async false
set_option linter.all false
set_option maxRecDepth 100000
set_option maxHeartbeats 4000000
namespace Mz
open PySem PySem.Spec PyProof.Rows L2

/-! ### targets of comprehensions, exactly -/
inductive Tg where
  | nm (j : Nat)
  | tup (ts : List Tg)
mutual
def rT (K : PySem.W.Frag) : Tg → TG
  | .nm j => gName j
  | .tup ts => gTU K ts.length (rTs K ts)
def rTs (K : PySem.W.Frag) : List Tg → TGs
  | [] => L2.gNil
  | t :: ts => L2.gCons (rT K t) (rTs K ts)
end
mutual
def gT : Tg → D → M Unit
  | .nm j => gNm j
  | .tup ts => gTupM ts.length (gTs ts)
def gTs : List Tg → List D → M Unit
  | [] => gNil
  | t :: ts => gCons (gT t) (gTs ts)
end
mutual
def Tg.inS (vs : List Nat) : Tg → Bool
  | .nm j => vs.contains j
  | .tup ts => Tg.inSs vs ts
def Tg.inSs (vs : List Nat) : List Tg → Bool
  | [] => true
  | t :: ts => t.inS vs && Tg.inSs vs ts
end
theorem wipe_at (σ : L2.St) : ∀ (vs : List Nat) (i : Nat), (wipe σ vs)[i]? = if i ∈ vs ∧ i < σ.length then some none else σ[i]?
  | [], i => by simp [wipe]
  | v :: vs, i => by
    unfold wipe
    rw [List.getElem?_set, wipe_at σ vs i, wipe_length]
    by_cases h : v = i
    · subst h
      by_cases hl : v < σ.length
      · simp [hl]
      · simp [hl]
    · rw [if_neg h]
      have : (i ∈ v :: vs) ↔ i ∈ vs := by simp [List.mem_cons, Ne.symm (a := v) (b := i) (fun e => h e), show ¬ i = v from fun e => h e.symm]
      simp only [this]
theorem wipe_set (σ : L2.St) (vs : List Nat) {j : Nat} (x : Option V) (hj : j ∈ vs) : wipe (σ.set j x) vs = wipe σ vs := by
  apply List.ext_getElem?
  intro i
  rw [wipe_at, wipe_at, List.length_set]
  by_cases h : i ∈ vs ∧ i < σ.length
  · rw [if_pos h, if_pos h]
  · rw [if_neg h, if_neg h]
    by_cases e : j = i
    · subst e
      have hl : ¬ j < σ.length := fun z => h ⟨hj, z⟩
      rw [List.getElem?_eq_none (by simpa using hl), List.getElem?_eq_none (by simpa using hl)]
    · rw [List.getElem?_set_ne e]
theorem wipe_wipe (σ : L2.St) (vs : List Nat) : wipe (wipe σ vs) vs = wipe σ vs := by
  apply List.ext_getElem?
  intro i
  rw [wipe_at, wipe_length]
  by_cases h : i ∈ vs ∧ i < σ.length
  · rw [if_pos h, wipe_at, if_pos h]
  · rw [if_neg h]
def wipeE (env : List (Option D)) : List Nat → List (Option D)
  | [] => env
  | v :: vs => (wipeE env vs).set v none
theorem wipeE_at (σ : List (Option D)) : ∀ (vs : List Nat) (i : Nat), (wipeE σ vs)[i]? = if i ∈ vs ∧ i < σ.length then some none else σ[i]?
  | [], i => by simp [wipeE]
  | v :: vs, i => by
    have hl : ∀ vs, (wipeE σ vs).length = σ.length := fun vs => by
      induction vs with
      | nil => rfl
      | cons a r ih => unfold wipeE; rw [List.length_set, ih]
    unfold wipeE
    rw [List.getElem?_set, wipeE_at σ vs i, hl]
    by_cases h : v = i
    · subst h
      by_cases hl : v < σ.length
      · simp [hl]
      · simp [hl]
    · rw [if_neg h]
      have : (i ∈ v :: vs) ↔ i ∈ vs := by simp [List.mem_cons, show ¬ i = v from fun e => h e.symm]
      simp only [this]
theorem wipeE_len (σ : List (Option D)) : ∀ vs, (wipeE σ vs).length = σ.length
  | [] => rfl
  | a :: r => by unfold wipeE; rw [List.length_set, wipeE_len σ r]
theorem EnvR.wipe {B : Bx} {ρ : List Addr} {H : Hp} {env : List (Option D)} {σ : L2.St} (h : EnvR B ρ H env σ) (vs : List Nat) : EnvR B ρ H (wipeE env vs) (L2.wipe σ vs) := by
  refine ⟨by rw [wipeE_len, wipe_length]; exact h.len, fun i d e => ?_⟩
  rw [wipeE_at] at e
  split at e
  · cases e
  · rename_i hn
    obtain ⟨v, a, b⟩ := h.at_ i d e
    refine ⟨v, ?_, b⟩
    rw [wipe_at, if_neg (by rw [← h.len]; exact hn)]
    exact a
section
variable {B : Bx} {ρ : List Addr} {H : Hp} {vs : List Nat} {P : Unit → LS → Prop} {E : Ex → LS → Prop}
mutual
theorem tg_run : ∀ {t : Tg} {s : LS} {σ : L2.St} {d : D} {v : V} {Q : L2.St → Hp → Prop} {P : Unit → LS → Prop}, t.inS vs = true → SR B ρ H s σ → Rep B ρ H d v → (gT t d s).all P E →
    (∀ s2 σ2, P () s2 → SR B ρ H s2 σ2 → s2.st = s.st → L2.wipe σ2 vs = L2.wipe σ vs → Q σ2 H) → rT B.K t v σ H Q
  | .nm j, s, σ, d, v, Q, P, hi, sr, r, h, k => by
    simp only [rT, gT, Tg.inS] at *
    exact k _ _ h (sr.set r) rfl (wipe_set σ vs _ (by simpa using hi))
  | .tup ts, s, σ, d, v, Q, P, hi, sr, r, h, k => by
    simp only [rT, gT, Tg.inS] at *
    unfold gTupM at h
    split at h
    · rename_i ds e
      split at h
      · rename_i hl
        obtain ⟨a, ws, rfl, t, q⟩ := rep_seq sr.st e r
        have go := tgs_run (ts := ts) hi sr q h k
        rcases t with t | t
        · exact .inr ⟨a, ws, rfl, t, q.length.trans hl, go⟩
        · exact .inl ⟨a, ws, rfl, t, q.length.trans hl, go⟩
      · exact h.elim
    · exact h.elim
theorem tgs_run : ∀ {ts : List Tg} {s : LS} {σ : L2.St} {ds : List D} {ws : List V} {Q : L2.St → Hp → Prop} {P : Unit → LS → Prop}, Tg.inSs vs ts = true → SR B ρ H s σ → RepL B ρ H ds ws → (gTs ts ds s).all P E →
    (∀ s2 σ2, P () s2 → SR B ρ H s2 σ2 → s2.st = s.st → L2.wipe σ2 vs = L2.wipe σ vs → Q σ2 H) → rTs B.K ts ws σ H Q
  | [], s, σ, ds, ws, Q, P, hi, sr, r, h, k => by
    simp only [rTs, gTs] at *
    unfold gNil at h
    split at h
    · cases (r : ws = [])
      exact ⟨rfl, k _ _ h sr rfl rfl⟩
    · exact h.elim
  | t :: ts, s, σ, ds, ws, Q, P, hi, sr, r, h, k => by
    simp only [rTs, gTs, Tg.inSs, Bool.and_eq_true] at *
    unfold gCons at h
    split at h
    · rename_i d ds
      obtain ⟨w, wr, rfl, r1, r2⟩ := (r : ∃ v vr, ws = v :: vr ∧ Rep _ ρ H d v ∧ RepL _ ρ H ds vr)
      rw [T.all_bind] at h
      refine ⟨w, wr, rfl, tg_run (t := t) hi.1 sr r1 h fun s2 σ2 p sr2 e2 w2 => ?_⟩
      exact tgs_run (ts := ts) hi.2 sr2 r2 p fun s3 σ3 p3 sr3 e3 w3 => k s3 σ3 p3 sr3 (e3.trans e2) (w3.trans w2)
    · exact h.elim
end
end
abbrev MGx (X : Cx) (e : Expr) (t : Tg) : Prop := PG X e (rT X.K t)
abbrev MGxs (X : Cx) (es : List Expr) (ts : List Tg) : Prop := PGs X es (rTs X.K ts)
section
variable {X : Cx}
theorem mgx_nm {N : List Str} {sc : Scope} (c : Cc X N sc) (j : Nat) {x : Str} {pos : Pos} (h1 : N[j]? = some x) (h2 : sc.names.lookup x = some .local) : MGx X (.Name x pos) (.nm j) :=
  PG.imp (pg_name (i := j) c.nd' (by rw [c.hN]; exact h1) (by rw [c.hs]; exact .inl h2) (by rw [c.hs]; exact .inr h2)) fun v σ H Q h => by simpa [rT] using h
theorem mgxs_nil : MGxs X [] [] := PGs.imp pgs_nil fun v σ H Q h => by simpa [rTs] using h
theorem mgxs_cons {e : Expr} {es : List Expr} {t : Tg} {ts : List Tg} (h1 : MGx X e t) (h2 : MGxs X es ts)
    (hs : (assignEach (e :: es) X.env).map (·.2) = assign e X.env :: (assignEach es X.env).map (·.2) := by rfl) : MGxs X (e :: es) (t :: ts) :=
  PGs.imp (pgs_cons h1 h2 hs) fun v σ H Q h => by simpa [rTs] using h
theorem mgx_tup {es : List Expr} {k : Nat} {pos : Pos} {ts : List Tg} (hc : X.calm = true) (h : MGxs X es ts)
    (hn : (assignEach es X.env).length = ts.length := by rfl) (hst : (assignEach es X.env).findIdx? (·.1) = none := by rfl) : MGx X (.Tuple es k pos) (.tup ts) :=
  PG.imp (pg_unp hc h hn hst) fun v σ H Q h => by simpa [rT] using h
end

/-! ### list comprehensions -/
def T.noX {α : Type} : T α → T α
  | .ret a s => .ret a s
  | .exc _ _ => .bad
  | .bad => .bad
  | .draw n k => .draw n fun i => (k i).noX
theorem T.noX_all {α : Type} {P : α → LS → Prop} {E E' : Ex → LS → Prop} : ∀ {t : T α}, t.noX.all P E → t.all P E'
  | .ret _ _, h => h
  | .exc _ _, h => h.elim
  | .bad, h => h
  | .draw _ k, h => fun i hi => T.noX_all (h i hi)
abbrev W0 : WX := fun _ _ _ _ => False
def lcStep (g : D → M Unit) (t : M Bool) (e : M D) (w : List (Option D)) (d : D) (acc : List D) (again : List D → M (List D)) : M (List D) := fun s =>
  (g d s).noX.bind fun _ s1 => (t s1).noX.bind fun b s2 => if b then (e s2).noX.bind fun y s3 => if acc.length < LIM then again (acc ++ [y]) { s3 with env := w } else .bad
    else again acc { s2 with env := w }
def lcR (g : D → M Unit) (t : M Bool) (e : M D) (w : List (Option D)) : Nat → Int → List D → M (List D)
  | 0, _, acc => fun s => .ret acc s
  | n + 1, i, acc => lcStep g t e w (.int i) acc (lcR g t e w n (i + 1))
def lcT (g : D → M Unit) (t : M Bool) (e : M D) (w : List (Option D)) : List D → List D → M (List D)
  | [], acc => fun s => .ret acc s
  | d :: ds, acc => lcStep g t e w d acc (lcT g t e w ds)
def lcL (g : D → M Unit) (t : M Bool) (e : M D) (w : List (Option D)) (n : Nat) : Nat → Nat → List D → M (List D)
  | 0, i, acc => fun s => match lstAt s.st (.ref n) with
    | some xs => if xs.length ≤ i then .ret acc s else .bad
    | none => .bad
  | k + 1, i, acc => fun s => match lstAt s.st (.ref n) with
    | some xs => match xs[i]? with
      | some d => lcStep g t e w d acc (lcL g t e w n k (i + 1)) s
      | none => .ret acc s
    | none => .bad
def lcQ (g : D → M Unit) (t : M Bool) (e : M D) (w : List (Option D)) : Sq → M (List D)
  | .rg lo n => lcR g t e w n lo []
  | .tp ds => lcT g t e w ds []
  | .st z => lcT g t e w (z.map fun c => .str ⟨#[c]⟩) []
  | .sc _ => fun _ => .bad
  | .ls n => fun s => lcL g t e w n (((lstAt s.st (.ref n)).getD []).length) 0 [] s
def mLc (m : M Sq) (g : D → M Unit) (t : M Bool) (e : M D) (vs : List Nat) : M D := fun s => (m s).bind fun q s1 =>
  (lcQ g t e (wipeE s1.env vs) q { s1 with env := wipeE s1.env vs }).noX.bind fun ys s2 => .ret (.ref s2.st.length) { env := s1.env, st := s2.st ++ [.lst ys] }
section
variable {B : Bx} {ρ ρ0 : List Addr} {H H0 : Hp} {σ : L2.St} {s : LS} {tg : Tg} {t : M Bool} {e : M D} {vs : List Nat} {w : List (Option D)} {P : List D → LS → Prop} {E : Ex → LS → Prop} {Dl : Addr}
/-- between two turns of a comprehension -/
structure LcI (B : Bx) (ρ0 : List Addr) (H0 : Hp) (σ : L2.St) (vs : List Nat) (w : List (Option D)) (Dl : Addr) (ρ : List Addr) (H : Hp) (s : LS) (acc : List D) : Prop where
  sr : SR B ρ H s (L2.wipe σ vs)
  go : Go ρ0 H0 ρ H
  env : s.env = w
  out : Dl ∉ ρ
  lst : ∃ ws, H Dl = some (.lst ws) ∧ RepL B ρ H acc ws
theorem lc_step {d : D} {x : V} {acc : List D} {again : List D → M (List D)} {Nx : Hp → Prop} (hd : H0 Dl = none) (I : LcI B ρ0 H0 σ vs w Dl ρ H s acc) (r : Rep B ρ H d x) (ht : tg.inS vs = true)
    (h : (lcStep (gT tg) t e w d acc again s).all P E)
    (hN : ∀ ρ1 H1 s1 acc1, LcI B ρ0 H0 σ vs w Dl ρ1 H1 s1 acc1 → (again acc1 s1).all P E → Nx H1) :
    rT B.K tg x (L2.wipe σ vs) H fun σ2 H2 => L2.wipe σ2 vs = L2.wipe σ vs ∧ tT B W0 t σ2 H2 fun b H3 =>
      if b = true then tE B W0 e σ2 H3 fun y H4 => ∃ acc, H4 Dl = some (.lst acc) ∧ acc.length < sizeLine ∧ Nx (upd H4 Dl (.lst (acc ++ [y]))) else Nx H3 := by
  unfold lcStep at h
  rw [T.all_bind] at h
  obtain ⟨ws, hw, ra⟩ := I.lst
  refine tg_run ht I.sr r (T.noX_all (E' := PX B W0 ρ H) h) fun s2 σ2 p sr2 e2 w2 => ⟨w2.trans (wipe_wipe σ vs), ?_⟩
  rw [T.all_bind] at p
  refine tT.run sr2 .refl (T.noX_all (E' := PX B W0 ρ H) p) fun b s3 ρ3 H3 p3 g3 _ sr3 => ?_
  -- the slots behind a turn
  have back : ∀ {ρ' : List Addr} {H' : Hp} {s' : LS}, Go ρ H ρ' H' → StoR B ρ' H' s'.st → SR B ρ' H' { s' with env := w } (L2.wipe σ vs) := fun {ρ' H' s'} g st => ⟨by have := I.sr.env.go g; rw [I.env] at this; exact this, st⟩
  cases b with
  | true =>
    rw [if_pos rfl] at p3 ⊢
    rw [T.all_bind] at p3
    refine tE.run sr3 .refl (T.noX_all (E' := PX B W0 ρ3 H3) p3) fun y s4 ρ4 H4 v p4 g4 _ sr4 r4 => ?_
    have g' := g3.trans g4
    have k4 := g'.keep _ _ I.out hw
    have o4 := g'.out I.out hw
    split at p4
    · rename_i hl
      refine ⟨ws, k4, limlt (by rw [ra.length]; exact hl), hN ρ4 _ { s4 with env := w } _ ⟨?_, (I.go.trans g').soft hd, rfl, o4, _, upd_same, ?_⟩ p4⟩
      · exact (back g' sr4.st).soft k4 o4
      · exact ((ra.go g').hard (hard_upd k4)).snoc (r4.hard (hard_upd k4))
    · exact p4.elim
  | false =>
    rw [if_neg Bool.false_ne_true] at p3 ⊢
    exact hN ρ3 H3 { s3 with env := w } acc ⟨back g3 sr3.st, I.go.trans g3, rfl, g3.out I.out hw, ws, g3.keep _ _ I.out hw, ra.go g3⟩ p3
/-- what a comprehension asks of a walk J -/
def LcJ (B : Bx) (tg : Tg) (t : M Bool) (e : M D) (vs : List Nat) (σ : L2.St) (Q : Hp → Prop) (Dl : Addr) (J : It) (H1 : Hp) : Prop := ∃ W : Nat → Nat → Hp → Prop, (∃ m, W 0 m H1) ∧ ∀ i m H, W i m H →
  (J.stop i H ∧ Q H) ∨ (J.go i H ∧ ∃ Nx : Hp → Prop, (∀ H', Nx H' → ∃ m', m' < m ∧ W (i + 1) m' H') ∧ ∀ x H', J.yld i H x H' → rT B.K tg x (L2.wipe σ vs) H' fun σ2 H2 => L2.wipe σ2 vs = L2.wipe σ vs ∧ tT B W0 t σ2 H2 fun b H3 =>
    if b = true then tE B W0 e σ2 H3 fun y H4 => ∃ acc, H4 Dl = some (.lst acc) ∧ acc.length < sizeLine ∧ Nx (upd H4 Dl (.lst (acc ++ [y]))) else Nx H3)
theorem lc_rg {lo : Int} {n : Nat} {Q : Hp → Prop} (hd : H0 Dl = none) (I : LcI B ρ0 H0 σ vs w Dl ρ H s []) (ht : tg.inS vs = true) (h : (lcR (gT tg) t e w n lo [] s).all P E)
    (hQ : ∀ ρ1 H1 s1 acc1, LcI B ρ0 H0 σ vs w Dl ρ1 H1 s1 acc1 → P acc1 s1 → Q H1) : LcJ B tg t e vs σ Q Dl (Itr lo n) H := by
  refine ⟨fun i m H => ∃ ρ s acc, i + m = n ∧ LcI B ρ0 H0 σ vs w Dl ρ H s acc ∧ (lcR (gT tg) t e w m (lo + i) acc s).all P E, ⟨n, ρ, s, [], by omega, I, by simpa using h⟩, ?_⟩
  rintro i m H ⟨ρ, s, acc, hn, I, h⟩
  cases m with
  | zero => exact .inl ⟨(by omega : n ≤ i), hQ ρ H s acc I h⟩
  | succ m =>
    refine .inr ⟨(by omega : i < n), _, fun H' w => ⟨m, Nat.lt_succ_self m, w⟩, fun x H' y => ?_⟩
    obtain ⟨e, ex⟩ := y
    subst e ex
    exact lc_step (d := .int (lo + (i : Int))) hd I rfl ht h fun ρ1 H1 s1 acc1 I1 q => ⟨ρ1, s1, acc1, by omega, I1, by rw [show lo + ((i + 1 : Nat) : Int) = lo + (i : Int) + 1 by omega]; exact q⟩
theorem lc_tp {a : Addr} {ds0 : List D} {vs0 : List V} {Q : Hp → Prop} (t0 : TupS B ρ0 H0 a vs0) (r0 : RepL B ρ0 H0 ds0 vs0) (hd : H0 Dl = none) (I : LcI B ρ0 H0 σ vs w Dl ρ H s []) (ht : tg.inS vs = true) (h : (lcT (gT tg) t e w ds0 [] s).all P E)
    (hQ : ∀ ρ1 H1 s1 acc1, LcI B ρ0 H0 σ vs w Dl ρ1 H1 s1 acc1 → P acc1 s1 → Q H1) : LcJ B tg t e vs σ Q Dl (Itt B.K a) H := by
  refine ⟨fun i m H => ∃ ρ s acc, i + m = ds0.length ∧ LcI B ρ0 H0 σ vs w Dl ρ H s acc ∧ (lcT (gT tg) t e w (ds0.drop i) acc s).all P E, ⟨ds0.length, ρ, s, [], by omega, I, by simpa using h⟩, ?_⟩
  rintro i m H ⟨ρ, s, acc, hn, I, h⟩
  have tt := t0.go I.go
  have r := r0.go I.go
  have hl := r.length
  cases m with
  | zero =>
    rw [List.drop_eq_nil_of_le (by omega)] at h
    exact .inl ⟨⟨vs0, tt.sq, by omega⟩, hQ ρ H s acc I h⟩
  | succ m =>
    have hi : i < ds0.length := by omega
    rw [List.drop_eq_getElem_cons hi] at h
    obtain ⟨v, hv, rv⟩ := r.get (i := i) (d := ds0[i]) (by simp [hi])
    refine .inr ⟨⟨vs0, v, tt.sq, hv⟩, _, fun H' w => ⟨m, Nat.lt_succ_self m, w⟩, fun x H' y => ?_⟩
    obtain ⟨e, ex⟩ := y
    subst e
    have ex := ex vs0 tt.sq
    rw [hv] at ex; cases ex
    exact lc_step hd I rv ht h fun ρ1 H1 s1 acc1 I1 q => ⟨ρ1, s1, acc1, by omega, I1, q⟩
theorem lc_st {x0 : Str} {Q : Hp → Prop} (hd : H0 Dl = none) (I : LcI B ρ0 H0 σ vs w Dl ρ H s []) (ht : tg.inS vs = true) (h : (lcT (gT tg) t e w (x0.cps.toList.map fun c => .str ⟨#[c]⟩) [] s).all P E)
    (hQ : ∀ ρ1 H1 s1 acc1, LcI B ρ0 H0 σ vs w Dl ρ1 H1 s1 acc1 → P acc1 s1 → Q H1) : LcJ B tg t e vs σ Q Dl (Its x0) H := by
  refine ⟨fun i m H => ∃ ρ s acc, i + m = x0.cps.size ∧ LcI B ρ0 H0 σ vs w Dl ρ H s acc ∧ (lcT (gT tg) t e w ((x0.cps.toList.map fun c => D.str ⟨#[c]⟩).drop i) acc s).all P E, ⟨x0.cps.size, ρ, s, [], by omega, I, by simpa using h⟩, ?_⟩
  rintro i m H ⟨ρ, s, acc, hn, I, h⟩
  cases m with
  | zero =>
    rw [List.drop_eq_nil_of_le (by simp; omega)] at h
    exact .inl ⟨(by omega : x0.cps.size ≤ i), hQ ρ H s acc I h⟩
  | succ m =>
    have hi : i < (x0.cps.toList.map fun c => D.str ⟨#[c]⟩).length := by simp; omega
    rw [List.drop_eq_getElem_cons hi] at h
    refine .inr ⟨(by omega : i < x0.cps.size), _, fun H' w => ⟨m, Nat.lt_succ_self m, w⟩, fun x H' y => ?_⟩
    obtain ⟨e, c, hc, ex⟩ := y
    subst e ex
    refine lc_step (d := (x0.cps.toList.map fun c => D.str ⟨#[c]⟩)[i]) hd I ?_ ht h fun ρ1 H1 s1 acc1 I1 q => ⟨ρ1, s1, acc1, by omega, I1, q⟩
    obtain ⟨hc1, hc2⟩ := Array.getElem?_eq_some_iff.mp hc
    simp [hc2]
    rfl
theorem lc_ls {n : Nat} {a : Addr} {k0 : Nat} {Q : Hp → Prop} (hn : ρ0[n]? = some a) (hd : H0 Dl = none) (I : LcI B ρ0 H0 σ vs w Dl ρ H s []) (ht : tg.inS vs = true) (h : (lcL (gT tg) t e w n k0 0 [] s).all P E)
    (hQ : ∀ ρ1 H1 s1 acc1, LcI B ρ0 H0 σ vs w Dl ρ1 H1 s1 acc1 → P acc1 s1 → Q H1) : LcJ B tg t e vs σ Q Dl (Itl B.K a) H := by
  refine ⟨fun i m H => ∃ ρ s acc, LcI B ρ0 H0 σ vs w Dl ρ H s acc ∧ (lcL (gT tg) t e w n m i acc s).all P E, ⟨k0, ρ, s, [], I, h⟩, ?_⟩
  rintro i m H ⟨ρ, s, acc, I, h⟩
  have hn' : ρ[n]? = some a := by
    obtain ⟨t, rfl⟩ := I.go.pre
    rw [List.getElem?_append_left (List.getElem?_eq_some_iff.mp hn).1]
    exact hn
  have rn : Rep B ρ H (.ref n) (.ref a) := ⟨a, rfl, hn'⟩
  cases m with
  | zero =>
    unfold lcL at h
    split at h
    · rename_i xs e
      obtain ⟨a', ws, q, h1, _, h2⟩ := rep_lst I.sr.st e rn
      cases q
      split at h
      · rename_i hl
        exact .inl ⟨⟨ws, .of h1, by rw [h2.length]; exact hl⟩, hQ ρ H s acc I h⟩
      · exact h.elim
    · exact h.elim
  | succ m =>
    unfold lcL at h
    split at h
    · rename_i xs e
      obtain ⟨a', ws, q, h1, _, h2⟩ := rep_lst I.sr.st e rn
      cases q
      split at h
      · rename_i d hd'
        obtain ⟨v, hv, rv⟩ := h2.get hd'
        refine .inr ⟨⟨ws, v, .of h1, hv⟩, _, fun H' w => ⟨m, Nat.lt_succ_self m, w⟩, fun x H' y => ?_⟩
        obtain ⟨e', ex⟩ := y
        subst e'
        have ex := ex ws (.of h1)
        rw [hv] at ex; cases ex
        exact lc_step hd I rv ht h fun ρ1 H1 s1 acc1 I1 q => ⟨ρ1, s1, acc1, I1, q⟩
      · rename_i hd'
        have hl : xs.length ≤ i := by simpa using hd'
        exact .inl ⟨⟨ws, .of h1, by rw [h2.length]; exact hl⟩, hQ ρ H s acc I h⟩
    · exact h.elim
/-- a list that stands becomes a logical object -/
theorem StoR.adopt {S : List LO} (h : StoR B ρ H S) {p : Addr} {ws : List V} {ds : List D} (hp : p ∉ ρ) (hw : H p = some (.lst ws)) (r : RepL B ρ H ds ws) : StoR B (ρ ++ [p]) H (S ++ [.lst ds]) := by
  refine ⟨by simp [h.len], ?_, fun n a x e1 e2 => ?_⟩
  · rw [List.nodup_append]
    refine ⟨h.nd, by simp, fun a ha b hb => ?_⟩
    simp at hb; subst hb
    exact fun z => hp (z ▸ ha)
  · by_cases hl : n < ρ.length
    · rw [List.getElem?_append_left hl] at e1
      rw [List.getElem?_append_left (by rw [← h.len]; exact hl)] at e2
      exact (h.obj n a x e1 e2).more hw
    · rw [List.getElem?_append_right (by omega)] at e1
      rw [List.getElem?_append_right (by rw [← h.len]; omega)] at e2
      have z : n - ρ.length = 0 := by
        have := (List.getElem?_eq_some_iff.mp e1).1
        simp at this; omega
      rw [z] at e1
      rw [← h.len, z] at e2
      simp at e1 e2
      subst e1; subst e2
      exact ⟨ws, hw, r.more hw⟩
theorem EnvR.more {env : List (Option D)} {p : Addr} {ws : List V} (hp : H p = some (.lst ws)) (h : EnvR B ρ H env σ) : EnvR B (ρ ++ [p]) H env σ :=
  ⟨h.len, fun i d e => let ⟨v, a, b⟩ := h.at_ i d e; ⟨v, a, b.more hp⟩⟩
/-- the list is handed on -/
theorem lc_end {ρ1 : List Addr} {H1 : Hp} {s1 : LS} {acc : List D} {env : List (Option D)} {Q : VK} {ρb : List Addr} {Hb : Hp} (gb : Go ρb Hb ρ0 H0) (hd : H0 Dl = none) (he : EnvR B ρ0 H0 env σ) (ib : ∀ a ∈ ρb, ∃ o, H0 a = some o)
    (I : LcI B ρ0 H0 σ vs w Dl ρ1 H1 s1 acc) (p : PV B ρb Hb σ Q (.ref s1.st.length) { env := env, st := s1.st ++ [.lst acc] }) : Q (.ref Dl) H1 := by
  obtain ⟨ws, hw, r⟩ := I.lst
  have hb : Hb Dl = none := by
    cases e : Hb Dl with
    | none => rfl
    | some o =>
      by_cases hm : Dl ∈ ρb
      · obtain ⟨u, q⟩ := ib _ hm
        rw [hd] at q; cases q
      · rw [gb.keep _ _ hm e] at hd; cases hd
  have g := gb.trans I.go
  refine p (ρ1 ++ [Dl]) H1 (.ref Dl) ⟨g.keep, g.pre.trans (List.prefix_append _ _), fun a ha => ?_⟩ ⟨(he.go I.go).more hw, I.sr.st.adopt I.out hw r⟩ ⟨Dl, rfl, by rw [← I.sr.st.len]; simp⟩
  rcases List.mem_append.mp ha with ha | ha
  · exact g.nu a ha
  · simp at ha; subst ha; exact .inr hb
end
section
variable {X : Cx} {W : WX}
theorem lc_run {q : M Sq} {tg : Tg} {t : M Bool} {e : M D} {vs : List Nat} (ht : tg.inS vs = true) {σ : L2.St} {H : Hp} {Q : VK} (h : tE (bx X) W (mLc q (gT tg) t e vs) σ H Q) :
    tLc (tJ (bx X) W q) (rT X.K tg) (tT (bx X) W0 t) (tE (bx X) W0 e) vs σ H Q := by
  obtain ⟨ρ, s, sr, h⟩ := h
  unfold mLc at h
  rw [T.all_bind] at h
  refine ⟨ρ, s, sr, T.all_mono (fun q s1 p => ?_) (fun _ _ q => q) h⟩
  rw [T.all_bind] at p
  intro ρ1 H1 g1 sr1
  have p := T.noX_all (E' := fun _ _ => False) p
  -- the list is laid
  have start : ∀ Dl, H1 Dl = none → LcI (bx X) ρ1 H1 σ vs (wipeE s1.env vs) Dl ρ1 (upd H1 Dl (.lst [])) { s1 with env := wipeE s1.env vs } [] := fun Dl hd =>
    ⟨⟨(sr1.env.go (.laid hd)).wipe vs, sr1.st.laid hd⟩, .laid hd, rfl, sr1.st.fresh hd, [], upd_same, rfl⟩
  have fin : ∀ Dl, H1 Dl = none → ∀ ρ2 H2 s2 acc, LcI (bx X) ρ1 H1 σ vs (wipeE s1.env vs) Dl ρ2 H2 s2 acc → PV (bx X) ρ H σ Q (.ref s2.st.length) { env := s1.env, st := s2.st ++ [.lst acc] } → Q (.ref Dl) H2 := fun Dl hd ρ2 H2 s2 acc I2 p2 =>
    lc_end g1 hd sr1.env (fun a ha => sr1.st.in_ (by obtain ⟨t, rfl⟩ := g1.pre; exact List.mem_append_left _ ha)) I2 p2
  cases q with
  | rg lo n => exact fun Dl hd => lc_rg hd (start Dl hd) ht p (fin Dl hd)
  | tp ds => exact fun a ws ts r Dl hd => lc_tp ts r hd (start Dl hd) ht p (fin Dl hd)
  | st z => exact fun x hx Dl hd => by subst hx; exact lc_st hd (start Dl hd) ht p (fin Dl hd)
  | ls n => exact fun a ha Dl hd => lc_ls ha hd (start Dl hd) ht p (fin Dl hd)
  | sc ns => exact p.elim
abbrev MTs (X : Cx) (W : WX) (ifs : List Expr) (t : M Bool) : Prop := PTs X ifs (tT (bx X) W t)
theorem PTs.imp {X : Cx} {e : List Expr} {t t' : TT} (h : PTs X e t) (i : ∀ σ H Q, t' σ H Q → t σ H Q) : PTs X e t' := ⟨fun pins s σ H Q I q => h.run pins s σ H Q I (i σ H Q q)⟩
theorem mts_nil : MTs X W [] (mRet true) := PTs.imp pts_nil fun σ H Q ⟨ρ, s, sr, h⟩ => h ρ H .refl sr
theorem mts_one {c : Expr} {t : M Bool} (h : MT X W c t) : MTs X W [c] t := pts_one h
/-- the context of a block in X -/
abbrev Cx.b (X : Cx) (s : Shared) (H : Hp) (scope : Scope) (C : Addr) (cl : List (Str × Addr)) (fp : List Addr) : Cx := X.blk s H scope (compEnvC scope cl C X.env) fp
theorem Cc.blk {N : List Str} {sc : Scope} (c : Cc X N sc) (s : Shared) (H : Hp) (scope : Scope) (C : Addr) (cl : List (Str × Addr)) (fp : List Addr) : Cc (Cx.b X s H scope C cl fp) N (relS scope sc) :=
  ⟨c.hN, c.nd, by rw [← c.hs]; rfl, c.calm⟩
theorem me_lc {N : List Str} {sc : Scope} (c : Cc X N sc) {elt tg iter : Expr} {ifs : List Expr} {scope : Scope} {own : List (Str × Nat)} {pos : Pos} {q : M Sq} {g : Tg} {t : M Bool} {e : M D} (hi : MI X W tg iter q) (ok : blkC N sc scope own = true) (ho : g.inS (own.map (·.2)) = true)
    (hg : ∀ (s : Shared) (H : Hp) (C : Addr) (cl : List (Str × Addr)) (fp : List Addr), Cc (Cx.b X s H scope C cl fp) N (relS scope sc) → MGx (Cx.b X s H scope C cl fp) tg g)
    (ht : ∀ (s : Shared) (H : Hp) (C : Addr) (cl : List (Str × Addr)) (fp : List Addr), Cc (Cx.b X s H scope C cl fp) N (relS scope sc) → MTs (Cx.b X s H scope C cl fp) W0 ifs t)
    (he : ∀ (s : Shared) (H : Hp) (C : Addr) (cl : List (Str × Addr)) (fp : List Addr), Cc (Cx.b X s H scope C cl fp) N (relS scope sc) → ME (Cx.b X s H scope C cl fp) W0 elt e)
    (hs : ∀ x, foldedSetIterable iter X.env x = pure x := by intro _; rfl) : ME X W (.ListComp elt [⟨tg, iter, ifs, 0⟩] scope pos) (mLc q (gT g) t e (own.map (·.2))) :=
  PE.imp (pe_lc (own := own) (g := rT X.K g) (tt := tT (bx X) W0 t) (te := tE (bx X) W0 e) c.calm c.nd' hi (blkOk_by (by rw [c.hN, c.hs]; exact ok)) (fun s H C cl fp => hg s H C cl fp (c.blk ..)) (fun s H C cl fp => ht s H C cl fp (c.blk ..)) (fun s H C cl fp => he s H C cl fp (c.blk ..)) hs) fun σ H Q h => lc_run ho h
/-- name = [..] on one line, the name a plain local -/
theorem ms_setLc {N : List Str} {sc : Scope} (c : Cc X N sc) (i : Nat) {y : Str} {py : Pos} {elt tg iter : Expr} {ifs : List Expr} {scope : Scope} {own : List (Str × Nat)} {pos spos : Pos} {q : M Sq} {g : Tg} {t : M Bool} {e : M D}
    (hy : N[i]? = some y) (hyl : sc.names.lookup y = some .local) (hk : sc.kind = .function) (hl : (py.line == pos.line) = true) (hany : (scope.names.any fun (n, k) => n == y && (k == .local || k == .cell)) = false)
    (hi : MI X W tg iter q) (ok : blkC N sc scope own = true) (ho : g.inS (own.map (·.2)) = true)
    (hg : ∀ (s : Shared) (H : Hp) (C : Addr) (cl : List (Str × Addr)) (fp : List Addr), Cc (Cx.b X s H scope C cl fp) N (relS scope sc) → MGx (Cx.b X s H scope C cl fp) tg g)
    (ht : ∀ (s : Shared) (H : Hp) (C : Addr) (cl : List (Str × Addr)) (fp : List Addr), Cc (Cx.b X s H scope C cl fp) N (relS scope sc) → MTs (Cx.b X s H scope C cl fp) W0 ifs t)
    (he : ∀ (s : Shared) (H : Hp) (C : Addr) (cl : List (Str × Addr)) (fp : List Addr), Cc (Cx.b X s H scope C cl fp) N (relS scope sc) → ME (Cx.b X s H scope C cl fp) W0 elt e)
    (hs : ∀ x, foldedSetIterable iter X.env x = pure x := by intro _; rfl) : MS X W (.Assign [.Name y py] (.ListComp elt [⟨tg, iter, ifs, 0⟩] scope pos) spos) (mAsg (mLc q (gT g) t e (own.map (·.2))) (gNm i)) := by
  refine PS.imp (ps_setLc (i := i) (own := own) (g := rT X.K g) (tt := tT (bx X) W0 t) (te := tE (bx X) W0 e) c.calm c.nd' (by rw [c.hN]; exact hy) (by rw [c.hs]; exact hyl) (sw_true (by rw [c.hs]; exact hk) (by rw [c.hs]; exact hyl) hl hany) hi (blkOk_by (by rw [c.hN, c.hs]; exact ok)) (fun s H C cl fp => hg s H C cl fp (c.blk ..)) (fun s H C cl fp => ht s H C cl fp (c.blk ..)) (fun s H C cl fp => he s H C cl fp (c.blk ..)) hs) fun E σ H h => ?_
  obtain ⟨ρ, s, sr, h⟩ := h
  unfold mAsg at h
  rw [T.all_bind] at h
  refine lc_run ho ?_
  refine tE.run sr .refl h fun d s1 ρ1 H1 v p g1 g1' sr1 r1 => ?_
  exact p ρ1 H1 _ g1 (sr1.set r1)
end
end Mz

set_option Elab.async false
set_option linter.all false
set_option maxRecDepth 100000
set_option maxHeartbeats 4000000
namespace Mz
open PySem PySem.Spec PyProof.Rows L2

/-! ### defs -/
def T.setEnv {α : Type} (env : List (Option D)) : T α → T α
  | .ret a s => .ret a { s with env := env }
  | .exc x s => .exc x { s with env := env }
  | .bad => .bad
  | .draw n k => .draw n fun i => (k i).setEnv env
theorem T.setEnv_all {α : Type} {env : List (Option D)} {P : α → LS → Prop} {E : Ex → LS → Prop} : ∀ {t : T α}, (t.setEnv env).all P E → t.all (fun a s => P a { s with env := env }) (fun x s => E x { s with env := env })
  | .ret _ _, h => h
  | .exc _ _, h => h
  | .bad, h => h
  | .draw _ k, h => fun i hi => T.setEnv_all (h i hi)
/-- what a def does: its arguments, the store -/
abbrev F := List D → List LO → T D
section
variable (B : Bx)
def QV (ρ : List Addr) (H : Hp) (Q : VK) : D → LS → Prop := fun d s' => ∀ ρ' H' v, Go ρ H ρ' H' → StoR B ρ' H' s'.st → Rep B ρ' H' d v → Q v H'
def QX (ρ : List Addr) (H : Hp) (E : XK) : Ex → LS → Prop := fun x s' => ∀ ρ' H' d, Go ρ H ρ' H' → StoR B ρ' H' s'.st → ExD B ρ' H' x.fs d → E x.cls d H'
/-- a def's promise -/
def spM (n : Nat) (f : F) : Sp := fun vs H Q E => vs.length = n ∧ ∃ ρ S ds, StoR B ρ H S ∧ RepL B ρ H ds vs ∧ (f ds S).all (QV B ρ H Q) (QX B ρ H E)
end
def startE (n m : Nat) (ds : List D) : List (Option D) := ds.map some ++ List.replicate (m - n) none
/-- a body as a def of n arguments and m slots -/
def fnM (n m : Nat) (b : M Fl) : F := fun ds S => if ds.length = n then (b { env := startE n m ds, st := S }).bind fun f s => match f with
  | .rt d => .ret d s
  | .nx => .ret .non s
  | _ => .bad
  else .bad
/-- the context of a def's body, for its derivation -/
structure Dc (X : Cx) (W : WX) (N : List Str) (sc : Scope) (k : Nat) : Prop where
  c : Cc X N sc
  fn : X.fn = fun _ => true
  tk : Takes X W
  hr : Room k X.A
  po : PassesOwn (model X.prog X.w) X.A X.env X.xe
  stk : X.stack = X.env :: X.outer
  frm : X.env.frame = some X.env.locals
theorem Dc.hu {X : Cx} {W : WX} {N : List Str} {sc : Scope} {k : Nat} (d : Dc X W N sc k) : X.A.units + 1 < cLine := hu_of d.hr
theorem Dc.hu65 {X : Cx} {W : WX} {N : List Str} {sc : Scope} {k : Nat} (d : Dc X W N sc k) : X.A.units + 65 < cLine := by
  have := d.hr.un
  omega
theorem Dc.hu64 {X : Cx} {W : WX} {N : List Str} {sc : Scope} {k : Nat} (d : Dc X W N sc k) : X.A.units + 64 < cLine := d.hr.units
section
variable {P : Program} {w : World} {K : PySem.W.Frag} {mg : Str → Option Value} {base : Heap}
theorem startR {B : Bx} {ρ : List Addr} {H : Hp} {N : List Str} {n : Nat} {ds : List D} {vs : List V} (r : RepL B ρ H ds vs) (hn : ds.length = n) : EnvR B ρ H (startE n N.length ds) (L2.start N vs) := by
  have hl := r.length
  unfold startE L2.start
  refine ⟨by simp [hl]; omega, fun i d e => ?_⟩
  by_cases hi : i < ds.length
  · rw [List.getElem?_append_left (by simpa using hi), List.getElem?_map] at e
    cases q : ds[i]? with
    | none => rw [q] at e; cases e
    | some x =>
      rw [q] at e; cases e
      obtain ⟨v, a, b⟩ := r.get q
      exact ⟨v, by rw [List.getElem?_append_left (by rw [List.length_map]; omega), List.getElem?_map, a]; rfl, b⟩
  · rw [List.getElem?_append_right (by simpa using hi), List.getElem?_replicate] at e
    split at e <;> cases e
theorem fn_ok {x qual : Str} {st : Stmt} {f : Addr} {fd : FuncData} {N ps : List Str} {k : Nat} {b : M Fl} (F : Fun K x qual st f fd) (S : FnScope N ps (defScope st))
    (hb : ∀ (X : Cx) (W : WX), X.prog = P → X.w = w → X.K = K → X.mg = mg → X.base = base → Dc X W N (defScope st) k → MSs X W (defBody st) b) : FnOk P w K mg base (L2.CX P w) (k + 1) f fd ps (spM ⟨P, w, K⟩ ps.length (fnM ps.length N.length b)) := by
  refine F.okX S (fun vs H Q E h => h.1) fun cdv A outer s H vs Q E hr h => ?_
  obtain ⟨hl, ρ, S0, ds, sto, r, h⟩ := h
  refine ⟨tS ⟨P, w, K⟩ (fun cls d _ H => E cls d H) b, hb _ _ rfl rfl rfl rfl rfl ⟨⟨rfl, S.nd, rfl, rfl⟩, rfl, takes_of rfl rfl rfl rfl, hr, passes_of rfl, rfl, rfl⟩, ?_⟩
  have hd : ds.length = ps.length := by rw [← hl, r.length]
  unfold fnM at h
  rw [if_pos hd, T.all_bind] at h
  refine ⟨ρ, _, ⟨startR r hd, sto⟩, T.all_mono (fun f s1 p => ?_) (fun x s1 p => ?_) h⟩
  · intro ρ1 H1 σ1 g1 sr1
    cases f with
    | nx => exact p ρ1 H1 _ g1 sr1.st rfl
    | rt d => exact fun v rv => p ρ1 H1 v g1 sr1.st rv
    | bk => exact p.elim
    | ct => exact p.elim
  · intro ρ1 H1 σ1 d g1 sr1 q
    exact p ρ1 H1 d g1 sr1.st q
/-- a def of the text, as its callers see it -/
structure Fc (P : Program) (w : World) (K : PySem.W.Frag) (mg : Str → Option Value) (base : Heap) (x : Str) (k n : Nat) (m : F) : Prop where
  ex : ∃ (f : Addr) (fd : FuncData) (ps : List Str), mg x = some (.ref f) ∧ PySem.W.keepIn K (.ref f) = true ∧ Binds K fd ps [] ∧ FnOk P w K mg base (L2.CX P w) k f fd ps (spM ⟨P, w, K⟩ n m)
end
def mCall (f : F) (a : M (List D)) : M D := fun s => (a s).bind fun ds s1 => (f ds s1.st).setEnv s1.env
abbrev Fx (X : Cx) := Fc X.prog X.w X.K X.mg X.base
section
variable {X : Cx} {W : WX}
theorem call_run {n : Nat} {f : F} {ρ ρ0 : List Addr} {H H0 : Hp} {σ : L2.St} {s : LS} {ds : List D} {vs : List V} {Q : VK} (sr : SR (bx X) ρ H s σ) (g0 : Go ρ0 H0 ρ H) (r : RepL (bx X) ρ H ds vs) (hn : vs.length = n)
    (h : ((f ds s.st).setEnv s.env).all (PV (bx X) ρ0 H0 σ Q) (PX (bx X) W ρ0 H0)) : spM (bx X) n f vs H Q (WE W σ) := by
  refine ⟨hn, ρ, s.st, ds, sr.st, r, T.all_mono (fun d s1 p => ?_) (fun x s1 p => ?_) (T.setEnv_all h)⟩
  · intro ρ1 H1 v g1 st1 rv
    exact p ρ1 H1 v (g0.trans g1) ⟨sr.env.go g1, st1⟩ rv
  · intro ρ1 H1 d g1 st1 q
    exact p ρ1 H1 σ d (g0.trans g1) ⟨sr.env.go g1, st1⟩ q
theorem me_call {x : Str} {k n : Nat} {f : F} {p pos : Pos} {e : Expr} {es : List Expr} {m : M (List D)} (hf : Fx X x k n f) (hr : Room k X.A) (tk : Takes X W) (hg : Gl X x) (ha : MA X W (e :: es) m) (hn : (e :: es).length = n)
    (hdb : (x == ("__debug__" : Str)) = false := by decide +kernel) (he : starEach (e :: es) X.env = (false, eval e X.env) :: starEach es X.env := by rfl) (hpl : (backTo pos (starEach es X.env)).any (·.1) = false := by rfl)
    (hlen : ∀ s : LS, ∀ P E, (m s).all P E → (m s).all (fun ds s1 => ds.length = n ∧ P ds s1) E) :
    ME X W (.Call (.Name x p) (e :: es) [] pos) (mCall f m) := by
  obtain ⟨fa, fd, ps, hm, hk, hb, F⟩ := hf.ex
  refine PE.imp (pe_callS F hr hg hm hk hb (fun σ => passAt tk σ) ha hdb he hpl) fun σ H Q ⟨ρ, s, sr, h⟩ => ?_
  unfold mCall at h
  rw [T.all_bind] at h
  refine tL.run sr .refl (hlen s _ _ h) fun ds s1 ρ1 H1 vs p g1 g1' sr1 r1 => ?_
  exact call_run sr1 g1 r1 (r1.length.trans p.1) p.2
/-- as many values as there are expressions -/
theorem len_nil {s : LS} {P : List D → LS → Prop} {E : Ex → LS → Prop} (h : (mNil s).all P E) : (mNil s).all (fun ds s1 => ds.length = 0 ∧ P ds s1) E := ⟨rfl, h⟩
theorem len_cons {n : Nat} {a : M D} {r : M (List D)} (hr : ∀ s : LS, ∀ P E, (r s).all P E → (r s).all (fun ds s1 => ds.length = n ∧ P ds s1) E) (s : LS) (P : List D → LS → Prop) (E : Ex → LS → Prop) (h : (mCons a r s).all P E) : (mCons a r s).all (fun ds s1 => ds.length = n + 1 ∧ P ds s1) E := by
  unfold mCons at h ⊢
  rw [T.all_bind] at h ⊢
  refine T.all_mono (fun x s1 p => ?_) (fun _ _ q => q) h
  rw [T.all_bind] at p ⊢
  refine T.all_mono (fun xs s2 p => ?_) (fun _ _ q => q) (hr s1 _ _ p)
  exact ⟨by simp [p.1], p.2⟩
theorem me_call0 {x : Str} {k : Nat} {f : F} {p pos : Pos} (hf : Fx X x k 0 f) (hr : Room k X.A) (tk : Takes X W) (hg : Gl X x) (hdb : (x == ("__debug__" : Str)) = false := by decide +kernel) :
    ME X W (.Call (.Name x p) [] [] pos) (mCall f mNil) := by
  obtain ⟨fa, fd, ps, hm, hk, hb, F⟩ := hf.ex
  refine ⟨fun pins s σ H Q I h => ?_⟩
  obtain ⟨ρ, s0, sr, h⟩ := h
  refine wpAny_Call_Name_kw (ld_glob I hg hm ?_ hdb)
  refine PySem.W.callWith_K0 I.kIn hk (run_fnS (E := WE W) (us := []) F hr hb (passAt tk σ) I .nil ?_)
  exact call_run sr .refl (show RepL (bx X) ρ H [] [] from rfl) rfl h

/-! ### built-in functions -/
def OpN (B : Bx) (f : List D → M D) (r : List V → Hp → VK → Prop) : Prop := ∀ ρ H σ s ds vs Q E, SR B ρ H s σ → RepL B ρ H ds vs → (f ds s).all (PV B ρ H σ Q) E → r vs H Q
def mFn (f : List D → M D) (a : M (List D)) : M D := fun s => (a s).bind fun ds s1 => f ds s1
theorem fn_run {r : List V → Hp → VK → Prop} {f : List D → M D} {m : M (List D)} (hf : OpN (bx X) f r) : ∀ σ H Q, tE (bx X) W (mFn f m) σ H Q → tCB r (tL (bx X) W m) σ H Q := by
  rintro σ H Q ⟨ρ, s, sr, h⟩
  unfold mFn at h
  rw [T.all_bind] at h
  refine tL.run sr .refl h fun ds s1 ρ1 H1 vs p g1 g1' sr1 r1 => ?_
  exact hf ρ1 H1 σ s1 ds vs Q _ sr1 r1 (T.all_mono (fun _ _ q => q.go g1) (fun _ _ q => q) p)
theorem me_fnB {id : String} {r : List V → Hp → VK → Prop} {f : List D → M D} {x : Str} {e : Expr} {es : List Expr} {m : M (List D)} {p pos : Pos} (hc : CallR X (.builtin id) r) (hf : OpN (bx X) f r) (hg : Gl X x) (hm : X.mg x = none) (hv : bootBuiltins x = some (.builtin id)) (ha : MA X W (e :: es) m)
    (hn : x ≠ "__name__" := by decide +kernel) (hdb : (x == ("__debug__" : Str)) = false := by decide +kernel) (he : starEach (e :: es) X.env = (false, eval e X.env) :: starEach es X.env := by rfl) (hpl : (backTo pos (starEach es X.env)).any (·.1) = false := by rfl) :
    ME X W (.Call (.Name x p) (e :: es) [] pos) (mFn f m) := PE.imp (pe_callB hc hg hm hv ha hn hdb he hpl) (fn_run hf)
theorem me_fnT {id : String} {r : List V → Hp → VK → Prop} {f : List D → M D} {x : Str} {e : Expr} {es : List Expr} {m : M (List D)} {p pos : Pos} (hc : CallR X (.type id) r) (hf : OpN (bx X) f r) (hg : Gl X x) (hm : X.mg x = none) (hv : bootBuiltins x = some (.type id)) (ha : MA X W (e :: es) m)
    (hn : x ≠ "__name__" := by decide +kernel) (hdb : (x == ("__debug__" : Str)) = false := by decide +kernel) (he : starEach (e :: es) X.env = (false, eval e X.env) :: starEach es X.env := by rfl) (hpl : (backTo pos (starEach es X.env)).any (·.1) = false := by rfl) :
    ME X W (.Call (.Name x p) (e :: es) [] pos) (mFn f m) := PE.imp (pe_callTy hc hg hm hv ha hn hdb he hpl) (fn_run hf)
theorem repl1 {B : Bx} {ρ : List Addr} {H : Hp} {d : D} {vs : List V} (r : RepL B ρ H [d] vs) : ∃ v, vs = [v] ∧ Rep B ρ H d v := by
  obtain ⟨v, vr, rfl, q1, q2⟩ := (r : ∃ v vr, vs = v :: vr ∧ Rep _ ρ H d v ∧ RepL _ ρ H [] vr)
  cases (q2 : vr = [])
  exact ⟨v, rfl, q1⟩
theorem repl2 {B : Bx} {ρ : List Addr} {H : Hp} {d e : D} {vs : List V} (r : RepL B ρ H [d, e] vs) : ∃ v w, vs = [v, w] ∧ Rep B ρ H d v ∧ Rep B ρ H e w := by
  obtain ⟨v, vr, rfl, q1, q2⟩ := (r : ∃ v vr, vs = v :: vr ∧ Rep _ ρ H d v ∧ RepL _ ρ H [e] vr)
  obtain ⟨w, rfl, q3⟩ := repl1 q2
  exact ⟨v, w, rfl, q1, q3⟩
/-- len -/
def lenD (ds : List D) : M D := fun s => match ds with
  | [d] => match (tupAt d).or (lstAt s.st d) with
    | some xs => .ret (.int xs.length) s
    | none => match d with
      | .str z => if z.length ≤ LIM then .ret (.int z.length) s else .bad
      | .ref n => match s.st[n]? with
        | some (.dK kvs) => .ret (.int kvs.length) s
        | some (.dT kvs) => .ret (.int kvs.length) s
        | _ => .bad
      | _ => .bad
  | _ => .bad
def rLenU (K : PySem.W.Frag) : List V → Hp → VK → Prop := fun xs H Q => (∃ x n, xs = [x] ∧ LenV K x H n ∧ Q (.int n) H) ∨ (∃ a kvs, xs = [V.ref a] ∧ H a = some (.dK kvs) ∧ Q (.int kvs.length) H) ∨ rLenT xs H Q
theorem call_lenU : CallR X (.builtin "len") (rLenU X.K) := call_len.or (call_lenD.or call_len_dT)
theorem opn_len : OpN (bx X) lenD (rLenU X.K) := by
  intro ρ H σ s ds vs Q E sr r h
  unfold lenD at h
  split at h
  · rename_i d
    obtain ⟨v, rfl, rv⟩ := repl1 r
    split at h
    · rename_i xs e
      obtain ⟨a, ws, rfl, t, q⟩ := rep_seq sr.st e rv
      refine .inl ⟨_, xs.length, rfl, ?_, h ρ H _ .refl sr rfl⟩
      rcases t with t | t
      · exact .inl ⟨ws, t, q.length.symm⟩
      · exact .inr ⟨ws, t, q.length.symm⟩
    · split at h
      · cases (rv : v = _)
        split at h
        · rename_i hl
          exact .inl ⟨_, _, rfl, ⟨lim hl, rfl⟩, h ρ H _ .refl sr rfl⟩
        · exact h.elim
      · split at h
        · rename_i kvs e
          obtain ⟨a, rfl, _, ws, h1, h2⟩ := rep_obj sr.st e rv
          refine .inr (.inl ⟨a, ws, rfl, h1, ?_⟩)
          rw [repK_len h2]
          exact h ρ H _ .refl sr rfl
        · rename_i kvs e
          obtain ⟨a, rfl, _, ws, h1, h2⟩ := rep_obj sr.st e rv
          refine .inr (.inr ⟨a, ws, rfl, h1, ?_⟩)
          rw [repK_len h2]
          exact h ρ H _ .refl sr rfl
        · exact h.elim
      · exact h.elim
  · exact h.elim
/-- tuple(..), list(..) of a list or a tuple -/
def tupleD (ds : List D) : M D := fun s => match ds with
  | [.tup xs] => .ret (.tup xs) s
  | [.cup xs] => .ret (.cup xs) s
  | [d] => match lstAt s.st d with
    | some xs => .ret (.tup xs) s
    | none => .bad
  | _ => .bad
theorem opn_tuple : OpN (bx X) tupleD (fun xs H Q => ∃ p ys, xs = [.ref p] ∧ ((SqL X.K H p ys ∧ ∀ l, H l = none → Q (.ref l) (upd H l (.tup ys))) ∨ (SqT X.K H p ys ∧ Q (.ref p) H))) := by
  intro ρ H σ s ds vs Q E sr r h
  unfold tupleD at h
  split at h
  · rename_i xs
    obtain ⟨v, rfl, rv⟩ := repl1 r
    obtain ⟨a, ws, rfl, t, q⟩ := rep_tup (d := .tup xs) rfl rv
    exact ⟨a, ws, rfl, .inr ⟨t, h ρ H _ .refl sr rv⟩⟩
  · rename_i xs
    obtain ⟨v, rfl, rv⟩ := repl1 r
    obtain ⟨a, ws, rfl, t, q⟩ := rep_tup (d := .cup xs) rfl rv
    exact ⟨a, ws, rfl, .inr ⟨t, h ρ H _ .refl sr rv⟩⟩
  · rename_i d _ _
    obtain ⟨v, rfl, rv⟩ := repl1 r
    split at h
    · rename_i xs e
      obtain ⟨a, ws, rfl, t, _, q⟩ := rep_lst sr.st e rv
      refine ⟨a, ws, rfl, .inl ⟨.of t, fun l hl => ?_⟩⟩
      obtain ⟨g, sr', rr⟩ := sr.tup hl q
      exact h _ _ _ g sr' rr
    · exact h.elim
  · exact h.elim
def listD (ds : List D) : M D := fun s => match ds with
  | [.scr ns] => alloc (.lst (ns.map D.int)) s
  | [d] => match (tupAt d).or (lstAt s.st d) with
    | some xs => alloc (.lst xs) s
    | none => .bad
  | _ => .bad
theorem opn_list : OpN (bx X) listD (fun xs H Q => ∃ p ys, xs = [.ref p] ∧ (SqL X.K H p ys ∨ SqT X.K H p ys) ∧ ∀ l, H l = none → Q (.ref l) (upd H l (.lst ys))) := by
  intro ρ H σ s ds vs Q E sr r h
  unfold listD at h
  split at h
  · rename_i ns
    obtain ⟨v, rfl, rv⟩ := repl1 r
    obtain ⟨a, rfl, h1, _⟩ := (rv : ∃ a, v = .ref a ∧ ScrL _ ρ H a ns ∧ _)
    have h1 : ScrL (bx X) ρ H a ns := h1
    refine ⟨a, ns.map V.int, rfl, .inl h1.sq, fun l hl => ?_⟩
    obtain ⟨g, sr', rr⟩ := sr.lst hl (RepL.map (B := bx X) (ρ := ρ) (H := H) (f := D.int) (g := V.int) (fun _ => rfl) ns)
    exact h _ _ _ g sr' rr
  · rename_i d _
    obtain ⟨v, rfl, rv⟩ := repl1 r
    split at h
    · rename_i xs e
      obtain ⟨a, ws, rfl, t, q⟩ := rep_seq sr.st e rv
      refine ⟨a, ws, rfl, t, fun l hl => ?_⟩
      obtain ⟨g, sr', rr⟩ := sr.lst hl q
      exact h _ _ _ g sr' rr
    · exact h.elim
  · exact h.elim
/-- range(a, b) as a value -/
def range2D (ds : List D) : M D := fun s => match ds with
  | [.int a, .int b] => .ret (.rng a b) s
  | _ => .bad
theorem opn_range2 : OpN (bx X) range2D (fun vs H Q => ∃ i j, vs = [V.int i, V.int j] ∧ ∀ p, H p = none → Q (.ref p) (upd H p (.rng i j))) := by
  intro ρ H σ s ds vs Q E sr r h
  unfold range2D at h
  split at h
  · rename_i a b
    obtain ⟨v, w, rfl, q1, q2⟩ := repl2 r
    cases (q1 : v = _); cases (q2 : w = _)
    refine ⟨a, b, rfl, fun p hp => ?_⟩
    exact h ρ _ _ (.laid hp) ⟨sr.env.go (.laid hp), sr.st.laid hp⟩ ⟨p, rfl, sr.st.fresh hp, upd_same⟩
  · exact h.elim
/-- int(..) of ints and bools; abs; min, max of two ints -/
def intD (ds : List D) : M D := fun s => match ds with
  | [.int a] => .ret (.int a) s
  | [.bl b] => .ret (.int (if b then 1 else 0)) s
  | _ => .bad
theorem opn_int : OpN (bx X) intD (fun xs H Q => (∃ i, xs = [.int i] ∧ Q (.int i) H) ∨ ∃ k, xs = [.bl k] ∧ Q (.int (if k then 1 else 0)) H) := by
  intro ρ H σ s ds vs Q E sr r h
  unfold intD at h
  split at h
  · obtain ⟨v, rfl, rv⟩ := repl1 r
    cases (rv : v = _)
    exact .inl ⟨_, rfl, h ρ H _ .refl sr rfl⟩
  · obtain ⟨v, rfl, rv⟩ := repl1 r
    cases (rv : v = _)
    exact .inr ⟨_, rfl, h ρ H _ .refl sr rfl⟩
  · exact h.elim
def absD (ds : List D) : M D := fun s => match ds with
  | [.int a] => .ret (.int (if a < 0 then -a else a)) s
  | _ => .bad
theorem opn_abs : OpN (bx X) absD (fun xs H Q => ∃ i, xs = [.int i] ∧ Q (.int (if i < 0 then -i else i)) H) := by
  intro ρ H σ s ds vs Q E sr r h
  unfold absD at h
  split at h
  · obtain ⟨v, rfl, rv⟩ := repl1 r
    cases (rv : v = _)
    exact ⟨_, rfl, h ρ H _ .refl sr rfl⟩
  · exact h.elim
def maxOf : List Int → Option Int
  | [] => none
  | a :: r => some (r.foldl (fun m x => if x > m then x else m) a)
def minOf : List Int → Option Int
  | [] => none
  | a :: r => some (r.foldl (fun m x => if x < m then x else m) a)
theorem foldmax : ∀ (r : List Int) (a : Int), (r.foldl (fun m x => if x > m then x else m) a ∈ a :: r) ∧ ∀ y ∈ a :: r, y ≤ r.foldl (fun m x => if x > m then x else m) a
  | [], a => by simp
  | b :: r, a => by
    obtain ⟨h1, h2⟩ := foldmax r (if b > a then b else a)
    rw [List.foldl_cons]
    constructor
    · rcases List.mem_cons.mp h1 with h | h
      · rw [h]; split <;> simp
      · exact List.mem_cons_of_mem _ (List.mem_cons_of_mem _ h)
    · intro y hy
      have ha := h2 _ List.mem_cons_self
      rcases List.mem_cons.mp hy with h | h
      · exact Int.le_trans (by subst h; split <;> omega) ha
      · rcases List.mem_cons.mp h with h | h
        · exact Int.le_trans (by subst h; split <;> omega) ha
        · exact h2 y (List.mem_cons_of_mem _ h)
theorem foldmin : ∀ (r : List Int) (a : Int), (r.foldl (fun m x => if x < m then x else m) a ∈ a :: r) ∧ ∀ y ∈ a :: r, r.foldl (fun m x => if x < m then x else m) a ≤ y
  | [], a => by simp
  | b :: r, a => by
    obtain ⟨h1, h2⟩ := foldmin r (if b < a then b else a)
    rw [List.foldl_cons]
    constructor
    · rcases List.mem_cons.mp h1 with h | h
      · rw [h]; split <;> simp
      · exact List.mem_cons_of_mem _ (List.mem_cons_of_mem _ h)
    · intro y hy
      have ha := h2 _ List.mem_cons_self
      rcases List.mem_cons.mp hy with h | h
      · exact Int.le_trans ha (by subst h; split <;> omega)
      · rcases List.mem_cons.mp h with h | h
        · exact Int.le_trans ha (by subst h; split <;> omega)
        · exact h2 y (List.mem_cons_of_mem _ h)
def intK : D → Option Int
  | .int i => some i
  | _ => none
theorem rep_ints {B : Bx} {ρ : List Addr} {H : Hp} : ∀ {xs : List D} {vs : List V} {ns : List Int}, allO intK xs = some ns → RepL B ρ H xs vs → vs = ns.map V.int
  | [], _, _, e, r => by cases e; cases (r : _ = []); rfl
  | x :: xs, _, _, e, r => by
    obtain ⟨v, vr, rfl, r1, r2⟩ := (r : ∃ v vr, _ = v :: vr ∧ Rep B ρ H x v ∧ RepL B ρ H xs vr)
    unfold allO at e
    split at e
    · rename_i y ys e1 e2
      cases e
      rw [rep_ints e2 r2]
      cases x with
      | int i => cases e1; cases (r1 : v = _); rfl
      | _ => cases e1
    · cases e
/-- max(list of ints), max(a, b) -/
def maxD (ds : List D) : M D := fun s => match ds with
  | [.int a, .int b] => .ret (.int (if b > a then b else a)) s
  | [d] => match lstAt s.st d with
    | some xs => mO (((allO intK xs).bind maxOf).map D.int) s
    | none => .bad
  | _ => .bad
def minD (ds : List D) : M D := fun s => match ds with
  | [.int a, .int b] => .ret (.int (if b < a then b else a)) s
  | [d] => match lstAt s.st d with
    | some xs => mO (((allO intK xs).bind minOf).map D.int) s
    | none => .bad
  | _ => .bad
def rMaxU (K : PySem.W.Frag) : List V → Hp → VK → Prop := fun xs H Q => (∃ i j, xs = [.int i, .int j] ∧ Q (.int (if j > i then j else i)) H) ∨ rMax K xs H Q
def rMinU (K : PySem.W.Frag) : List V → Hp → VK → Prop := fun xs H Q => (∃ i j, xs = [.int i, .int j] ∧ Q (.int (if j < i then j else i)) H) ∨ rMin K xs H Q
theorem opn_max : OpN (bx X) maxD (rMaxU X.K) := by
  intro ρ H σ s ds vs Q E sr r h
  unfold maxD at h
  split at h
  · obtain ⟨v, w, rfl, q1, q2⟩ := repl2 r
    cases (q1 : v = _); cases (q2 : w = _)
    exact .inl ⟨_, _, rfl, h ρ H _ .refl sr rfl⟩
  · obtain ⟨v, rfl, rv⟩ := repl1 r
    split at h
    · rename_i xs e
      obtain ⟨a, ws, rfl, t, _, q⟩ := rep_lst sr.st e rv
      unfold mO at h
      split at h
      · rename_i d hd
        obtain ⟨m, hm, rfl⟩ := Option.map_eq_some_iff.mp hd
        obtain ⟨ns, h1, h2⟩ := Option.bind_eq_some_iff.mp hm
        have ew := rep_ints h1 q
        subst ew
        cases ns with
        | nil => cases h2
        | cons b bs =>
          cases h2
          refine .inr ⟨a, b :: bs, rfl, .of t, by simp, fun m' hm' hle => ?_⟩
          obtain ⟨k1, k2⟩ := foldmax bs b
          have : m' = bs.foldl (fun m x => if x > m then x else m) b := Int.le_antisymm (k2 _ hm') (hle _ k1)
          rw [this]
          exact h ρ H _ .refl sr rfl
      · exact h.elim
    · exact h.elim
  · exact h.elim
theorem opn_min : OpN (bx X) minD (rMinU X.K) := by
  intro ρ H σ s ds vs Q E sr r h
  unfold minD at h
  split at h
  · obtain ⟨v, w, rfl, q1, q2⟩ := repl2 r
    cases (q1 : v = _); cases (q2 : w = _)
    exact .inl ⟨_, _, rfl, h ρ H _ .refl sr rfl⟩
  · obtain ⟨v, rfl, rv⟩ := repl1 r
    split at h
    · rename_i xs e
      obtain ⟨a, ws, rfl, t, _, q⟩ := rep_lst sr.st e rv
      unfold mO at h
      split at h
      · rename_i d hd
        obtain ⟨m, hm, rfl⟩ := Option.map_eq_some_iff.mp hd
        obtain ⟨ns, h1, h2⟩ := Option.bind_eq_some_iff.mp hm
        have ew := rep_ints h1 q
        subst ew
        cases ns with
        | nil => cases h2
        | cons b bs =>
          cases h2
          refine .inr ⟨a, b :: bs, rfl, .of t, by simp, fun m' hm' hle => ?_⟩
          obtain ⟨k1, k2⟩ := foldmin bs b
          have : m' = bs.foldl (fun m x => if x < m then x else m) b := Int.le_antisymm (hle _ k1) (k2 _ hm')
          rw [this]
          exact h ρ H _ .refl sr rfl
      · exact h.elim
    · exact h.elim
  · exact h.elim
theorem call_maxU (hc : X.calm = true) : CallR X (.builtin "max") (rMaxU X.K) := (call_max2 hc).or (cr_max hc)
theorem call_minU (hc : X.calm = true) : CallR X (.builtin "min") (rMinU X.K) := (call_min2 hc).or (cr_min hc)
/-- isinstance by built-in classes -/
def tyD (S : List LO) : D → Option String
  | .non => some "NoneType"
  | .bl _ => some "bool"
  | .int _ => some "int"
  | .str _ => some "str"
  | .tup _ => some "tuple"
  | .cup _ => some "tuple"
  | .ref n => match S[n]? with
    | some (.lst _) => some "list"
    | some (.dK _) => some "dict"
    | some (.dT _) => some "dict"
    | _ => none
  | _ => none
def subT (a b : String) : Bool := a == b || (a == "bool" && b == "int")
def tyNames : List String := ["NoneType", "bool", "int", "str", "tuple", "list", "dict"]
theorem kitB_sub : (tyNames.all fun a => (tyNames.drop 1).all fun b => kitB a b == some (subT a b)) = true := by decide +kernel
theorem kitB_of {a b : String} (ha : a ∈ tyNames) (hb : b ∈ tyNames.drop 1) : kitB a b = some (subT a b) := by
  have h := List.all_eq_true.mp (List.all_eq_true.mp kitB_sub a ha) b hb
  simpa using h
def isiD (ds : List D) : M D := fun s => match ds with
  | [d, .ty b] => match tyD s.st d with
    | some a => if (tyNames.drop 1).contains b then .ret (.bl (subT a b)) s else .bad
    | none => .bad
  | [d, .tup bs] => match tyD s.st d, allO (fun d => match d with | .ty b => some b | _ => none) bs with
    | some a, some ns => if ns.all (tyNames.drop 1).contains then .ret (.bl (ns.any (subT a))) s else .bad
    | _, _ => .bad
  | _ => .bad
theorem tyD_ok {B : Bx} {ρ : List Addr} {H : Hp} {S : List LO} {d : D} {v : V} {a : String} (st : StoR B ρ H S) (e : tyD S d = some a) (r : Rep B ρ H d v) : TyX B.K H v (.type a) ∧ a ∈ tyNames := by
  cases d with
  | non => cases e; cases (r : v = _); exact ⟨.base .non, by decide⟩
  | bl _ => cases e; cases (r : v = _); exact ⟨.base (.bl _), by decide⟩
  | int _ => cases e; cases (r : v = _); exact ⟨.base (.int _), by decide⟩
  | str _ => cases e; cases (r : v = _); exact ⟨.base (.str _), by decide⟩
  | tup xs =>
    cases e
    obtain ⟨a, vs, rfl, t, _⟩ := (r : ∃ a vs, v = .ref a ∧ H a = some (.tup vs) ∧ a ∉ ρ ∧ RepL _ ρ H xs vs)
    exact ⟨.base (.tup t), by decide⟩
  | cup xs =>
    cases e
    obtain ⟨a, vs, rfl, ⟨o, its, n, h1, h2, _⟩, _⟩ := (r : ∃ a vs, v = .ref a ∧ StaT _ a vs ∧ RepL _ ρ H xs vs)
    exact ⟨.kTuple h1 h2, by decide⟩
  | ref n =>
    simp only [tyD] at e
    split at e
    · rename_i xs q
      cases e
      obtain ⟨a, rfl, _, vs, h1, h2⟩ := rep_obj (s := ⟨[], S⟩) st q r
      exact ⟨.base (.lst h1), by decide⟩
    · rename_i xs q
      cases e
      obtain ⟨a, rfl, _, vs, h1, h2⟩ := rep_obj (s := ⟨[], S⟩) st q r
      exact ⟨.base (.dK h1), by decide⟩
    · rename_i xs q
      cases e
      obtain ⟨a, rfl, _, vs, h1, h2⟩ := rep_obj (s := ⟨[], S⟩) st q r
      exact ⟨.base (.dT h1), by decide⟩
    · cases e
  | _ => simp [tyD] at e
theorem kitAny_of {K : PySem.W.Frag} {a : String} (ha : a ∈ tyNames) : ∀ {ns : List String}, ns.all (tyNames.drop 1).contains = true → PySem.W.kitAny K (.type a) (ns.map Value.type) = some (ns.any (subT a))
  | [], _ => rfl
  | b :: r, h => by
    simp only [List.all_cons, Bool.and_eq_true] at h
    have h1 := kit_ty (K := K) (kitB_of ha (by simpa using h.1))
    refine kitAny_cons h1 (fun e => ?_) (fun e => ?_)
    · rw [List.any_cons, e, Bool.false_or]; exact kitAny_of ha h.2
    · rw [List.any_cons, e, Bool.true_or]
theorem rep_tys {B : Bx} {ρ : List Addr} {H : Hp} : ∀ {xs : List D} {vs : List V} {ns : List String}, allO (fun d => match d with | .ty b => some b | _ => none) xs = some ns → RepL B ρ H xs vs → Paired ClsV vs (ns.map Value.type)
  | [], _, _, e, r => by cases e; cases (r : _ = []); exact .nil
  | x :: xs, _, _, e, r => by
    obtain ⟨v, vr, rfl, r1, r2⟩ := (r : ∃ v vr, _ = v :: vr ∧ Rep B ρ H x v ∧ RepL B ρ H xs vr)
    unfold allO at e
    split at e
    · rename_i y ys e1 e2
      cases e
      cases x with
      | ty b => cases e1; cases (r1 : v = _); exact .cons (.ty _) (rep_tys e2 r2)
      | _ => cases e1
    · cases e
def rIsiU (K : PySem.W.Frag) : List V → Hp → VK → Prop := fun xs H Q => rIsi K xs H Q ∨ rIsiT K xs H Q
theorem call_isiU : CallR X (.builtin "isinstance") (rIsiU X.K) := call_isi.or call_isiT
theorem opn_isi : OpN (bx X) isiD (rIsiU X.K) := by
  intro ρ H σ s ds vs Q E sr r h
  unfold isiD at h
  split at h
  · rename_i d b
    obtain ⟨v, w, rfl, q1, q2⟩ := repl2 r
    cases (q2 : w = _)
    split at h
    · rename_i a e
      obtain ⟨t, ha⟩ := tyD_ok sr.st e q1
      split at h
      · rename_i hb
        exact .inl ⟨v, .ty b, .type a, .type b, _, rfl, .ty b, t, kit_ty (kitB_of ha (by simpa using hb)), h ρ H _ .refl sr rfl⟩
      · exact h.elim
    · exact h.elim
  · rename_i d bs
    obtain ⟨v, w, rfl, q1, q2⟩ := repl2 r
    obtain ⟨tp, ws, rfl, t2, _, q3⟩ := (q2 : ∃ a vs, w = .ref a ∧ H a = some (.tup vs) ∧ a ∉ ρ ∧ RepL _ ρ H bs vs)
    split at h
    · rename_i a ns e e2
      obtain ⟨t, ha⟩ := tyD_ok sr.st e q1
      split at h
      · rename_i hb
        exact .inr ⟨v, tp, ws, .type a, ns.map Value.type, _, rfl, t2, rep_tys e2 q3, t, kitAny_of ha hb, h ρ H _ .refl sr rfl⟩
      · exact h.elim
    · exact h.elim
  · exact h.elim
theorem me_ty {x : Str} {n : String} {pos : Pos} (hg : Gl X x) (hm : X.mg x = none) (hv : bootBuiltins x = some (.type n)) (hn : x ≠ "__name__" := by decide +kernel) (hd : (x == ("__debug__" : Str)) = false := by decide +kernel) : ME X W (.Name x pos) (mRet (.ty n)) :=
  me_c (pe_bltn hg hm hv (v := .ty n) rfl hn hd) fun _ _ => rfl

/-! ### methods of lists -/
def mMt (f : D → List D → M D) (o : M D) (a : M (List D)) : M D := fun s => (o s).bind fun x s1 => (a s1).bind fun ds s2 => f x ds s2
def OpM (B : Bx) (f : D → List D → M D) (r : V → List V → Hp → VK → Prop) : Prop := ∀ ρ H σ s x v ds vs Q E, SR B ρ H s σ → Rep B ρ H x v → RepL B ρ H ds vs → (f x ds s).all (PV B ρ H σ Q) E → r v vs H Q
/-- the receiver is a list -/
def isL (m : M D) : M D := fun s => (m s).bind fun d s1 => match lstAt s1.st d with
  | some _ => .ret d s1
  | none => .bad
theorem me_mtL {id : String} {name : Str} {f : D → List D → M D} {r : V → List V → Hp → VK → Prop} {o e : Expr} {es : List Expr} {mo : M D} {m : M (List D)} {apos cpos : Pos} (slot : Slot "list" name id) (hty : typeOf (.builtin id) = pure (.type "method_descriptor")) (hm : MtR X id r) (hf : OpM (bx X) f r)
    (ho : ME X W o mo) (ha : MA X W (e :: es) m) (hbase : attributeBase o name X.env (eval o X.env) = eval o X.env := by rfl)
    (hfew : ((backTo cpos (starEach (e :: es) X.env)).all (fun x => !x.1) && (backToKw cpos (keywordEach [] X.env)).all (fun x => x.1.isSome)
      && decide ((e :: es).length + ([] : List Keyword).length + (if ([] : List Keyword).isEmpty then 0 else 1) < 30)) = true := by rfl)
    (hline : (apos.endLine == cpos.line) = true := by rfl) (hs : starEach (e :: es) X.env = (false, eval e X.env) :: starEach es X.env := by rfl) (hplain : (backTo cpos (starEach es X.env)).any (·.1) = false := by rfl) :
    ME X W (.Call (.Attribute o name apos) (e :: es) [] cpos) (mMt f (isL mo) m) := by
  refine PE.imp (pe_bm PySem.F.plainAttrs_list slot hty hm ho ha hbase hfew hline hs hplain) fun σ H Q ⟨ρ, s, sr, h⟩ => ?_
  unfold mMt isL at h
  rw [T.all_bind, T.all_bind] at h
  refine tE.run sr .refl h fun x s1 ρ1 H1 v p g1 g1' sr1 r1 => ?_
  split at p
  · rename_i xs hx
    obtain ⟨a, ws, rfl, t, _, q⟩ := rep_lst sr1.st hx r1
    refine ⟨.inl ⟨rfl, ws, .inl (.inl t)⟩, ?_⟩
    have p : ((m s1).bind fun ds s2 => f x ds s2).all _ _ := p
    rw [T.all_bind] at p
    refine tL.run sr1 g1 p fun ds s2 ρ2 H2 vs p2 g2 g2' sr2 r2 => ?_
    exact hf ρ2 H2 σ s2 x (.ref a) ds vs Q _ sr2 (r1.go g2) r2 (T.all_mono (fun _ _ q => q.go g2') (fun _ _ q => q) p2)
  · exact p.elim
def appendD (x : D) (ds : List D) : M D := fun s => match x, ds with
  | .ref n, [d] => match s.st[n]? with
    | some (.lst xs) => if xs.length < LIM then .ret .non { s with st := s.st.set n (.lst (xs ++ [d])) } else .bad
    | _ => .bad
  | _, _ => .bad
theorem opm_append : OpM (bx X) appendD rAppend := by
  intro ρ H σ s x v ds vs Q E sr rx r h
  unfold appendD at h
  split at h
  · rename_i n d
    split at h
    · rename_i xs e
      split at h
      · rename_i hl
        obtain ⟨w, rfl, rw'⟩ := repl1 r
        obtain ⟨a, rfl, hn, ws, h1, h2⟩ := rep_obj sr.st e rx
        refine ⟨a, ws, w, rfl, rfl, h1, limlt (by rw [h2.length]; exact hl), ?_⟩
        obtain ⟨g, sr'⟩ := sr.write hn (o := .lst (ws ++ [w])) (u := .lst (xs ++ [d])) ⟨_, upd_same, (h2.snoc rw').go (.write (List.mem_of_getElem? hn))⟩
        exact h _ _ _ g sr' rfl
      · exact h.elim
    · exact h.elim
  · exact h.elim
end
end Mz

set_option Elab.async false
set_option linter.all false
set_option maxRecDepth 100000
set_option maxHeartbeats 4000000
namespace Mz
open PySem PySem.Spec PyProof.Rows L2

section
variable {X : Cx} {W : WX}
theorem op2_sub {B : Bx} : Op2 B subD (rI0 fun i j => .int (i - j)) := op2_int0 fun _ _ _ _ => rfl
theorem op2_band {B : Bx} : Op2 B andD (rI0 fun i j => .int (Builtin.bitAnd i j)) := op2_int0 fun _ _ _ _ => rfl
theorem op2_bor {B : Bx} : Op2 B orD (rI0 fun i j => .int (Builtin.bitOr i j)) := op2_int0 fun _ _ _ _ => rfl
theorem op2_bxor {B : Bx} : Op2 B xorD (rI0 fun i j => .int (Builtin.bitXor i j)) := op2_int0 fun _ _ _ _ => rfl
theorem op2_lt {B : Bx} : Op2 B ltD (rI0 fun i j => .bl (decide (i < j))) := op2_int0 fun _ _ _ _ => rfl
theorem op2_le {B : Bx} : Op2 B leD (rI0 fun i j => .bl (decide (i ≤ j))) := op2_int0 fun _ _ _ _ => rfl
theorem op2_gt {B : Bx} : Op2 B gtD (rI0 fun i j => .bl (decide (j < i))) := op2_int0 fun _ _ _ _ => rfl
theorem op2_ge {B : Bx} : Op2 B geD (rI0 fun i j => .bl (decide (j ≤ i))) := op2_int0 fun _ _ _ _ => rfl
theorem op2_fdiv {B : Bx} : Op2 B fdivD (rI CDivN fun i j => .int (i.fdiv j)) := op2_int (fun a b h => by simpa [CDivN] using h) fun _ _ _ _ => rfl
theorem op2_mod {B : Bx} : Op2 B modD (rI (fun _ j => j ≠ 0) fun i j => .int (i.fmod j)) := op2_int (fun a b h => by simpa using h) fun _ _ _ _ => rfl
theorem op2_pow {B : Bx} : Op2 B powD (rI CPow fun i j => .int (i ^ j.toNat)) := op2_int (fun a b h => by
  simp only [Bool.and_eq_true, decide_eq_true_eq] at h
  exact ⟨h.1.1, h.1.2, h.2⟩) fun _ _ _ _ => rfl
def negD (x : D) : M D := fun s => match x with
  | .int i => .ret (.int (-i)) s
  | _ => .bad
theorem un1_neg {B : Bx} : ∀ ρ H σ s x v Q E, SR B ρ H s σ → Rep B ρ H x v → (negD x s).all (PV B ρ H σ Q) E → (rU fun i => .int (-i)) v H Q := by
  intro ρ H σ s x v Q E sr r h
  unfold negD at h
  split at h
  · cases (r : v = _)
    exact ⟨_, rfl, h ρ H _ .refl sr rfl⟩
  · exact h.elim

/-! ### chains of comparisons -/
theorem chain_run {r r' : R2} {f g : D → D → M D} {a b c : M D} (hf : Op2 (bx X) f r) (hg : Op2 (bx X) g r') {σ : L2.St} {H : Hp} {Q : VK} (h : tE (bx X) W (mChain f g a b c) σ H Q) : tChain r r' (tE (bx X) W a) (tE (bx X) W b) (tE (bx X) W c) σ H Q := by
  obtain ⟨ρ, s, sr, h⟩ := h
  unfold mChain at h
  rw [T.all_bind] at h
  refine tE.run sr .refl h fun x s1 ρ1 H1 v p g1 g1' sr1 r1 => ?_
  rw [T.all_bind] at p
  refine tE.run sr1 g1 p fun y s2 ρ2 H2 w p2 g2 g2' sr2 r2 => ?_
  rw [T.all_bind] at p2
  refine hf ρ2 H2 σ s2 x y v w _ _ sr2 (r1.go g2) r2 (T.all_mono (fun z s3 p3 => ?_) (fun _ _ q => q) p2)
  intro ρ3 H3 u g3 sr3 r3
  split at p3
  · cases (r3 : u = _)
    refine ⟨true, rfl, ?_⟩
    rw [if_pos rfl]
    rw [T.all_bind] at p3
    refine tE.run sr3 (g2'.trans g3) p3 fun z s4 ρ4 H4 t p4 g4 g4' sr4 r4 => ?_
    exact hg ρ4 H4 σ s4 y z w t Q _ sr4 ((r2.go g3).go g4) r4 (T.all_mono (fun _ _ q => q.go g4') (fun _ _ q => q) p4)
  · cases (r3 : u = _)
    refine ⟨false, rfl, ?_⟩
    rw [if_neg Bool.false_ne_true]
    exact p3 ρ3 H3 _ (g2'.trans g3) sr3 rfl
  · exact p3.elim
theorem me_chain {op op' : CmpOp} {r r' : R2} {f g : D → D → M D} {a b c : Expr} {ma mb mc : M D} {pos : Pos} (ho : OpR X (compareOp op) r) (hf : Op2 (bx X) f r) (ho' : OpR X (compareOp op') r') (hg : Op2 (bx X) g r') (ha : ME X W a ma) (hb : ME X W b mb) (hc : ME X W c mc)
    (hm : lastMarks [op, op'] [b, c] = false := by with_unfolding_all rfl) : ME X W (.Compare a [op, op'] [b, c] pos) (mChain f g ma mb mc) :=
  PE.imp (pe_chain ho ho' ha hb hc hm) fun σ H Q h => chain_run hf hg h
theorem mt_chain {op op' : CmpOp} {r r' : R2} {f g : D → D → M D} {a b c : Expr} {ma mb mc : M D} {pos : Pos} (ho : OpR X (compareOp op) r) (hf : Op2 (bx X) f r) (ho' : OpR X (compareOp op') r') (hg : Op2 (bx X) g r') (ha : ME X W a ma) (hb : ME X W b mb) (hc : ME X W c mc)
    (hm : lastMarks [op, op'] [b, c] = false := by with_unfolding_all rfl) : MT X W (.Compare a [op, op'] [b, c] pos) (mBool (mChain f g ma mb mc)) := by
  refine PT.imp (pt_chain ho ho' ha hb hc hm) fun σ H Q ⟨ρ, s, sr, h⟩ => ?_
  refine chain_run hf hg ?_
  unfold mBool at h
  rw [T.all_bind] at h
  refine tE.run sr .refl h fun d s1 ρ1 H1 v p g1 g1' sr1 r1 => ?_
  split at p
  · cases (r1 : v = _)
    exact ⟨_, rfl, p ρ1 H1 g1 sr1⟩
  · exact p.elim

/-! ### displays of dicts, keys ints and texts -/
def mPairs : List (M D × M D) → M (List (D × D))
  | [] => fun s => .ret [] s
  | (k, v) :: r => fun s => (k s).bind fun x s1 => (v s1).bind fun y s2 => (mPairs r s2).bind fun ps s3 => .ret ((x, y) :: ps) s3
def keyP (p : D × D) : Option (Key × D) := (keyK p.1).map fun k => (k, p.2)
def mergeD (kvs : List (Key × D)) : List (Key × D) := kvs.foldl (fun acc kv => putD acc kv.1 kv.2) []
def mDict (mps : List (M D × M D)) : M D := fun s => (mPairs mps { s with st := s.st ++ [.dK []] }).bind fun ps s1 => match allO keyP ps, s1.st[s.st.length]? with
  | some kvs, some (.dK []) => if kvs.length ≤ 15 then .ret (.ref s.st.length) { s1 with st := s1.st.set s.st.length (.dK (mergeD kvs)) } else .bad
  | _, _ => .bad
def RepP (B : Bx) (ρ : List Addr) (H : Hp) : List (D × D) → List (V × V) → Prop
  | [], vs => vs = []
  | (d, e) :: ds, vs => ∃ v w vr, vs = (v, w) :: vr ∧ Rep B ρ H d v ∧ Rep B ρ H e w ∧ RepP B ρ H ds vr
theorem RepP.go {B : Bx} {ρ ρ' : List Addr} {H H' : Hp} (g : Go ρ H ρ' H') : ∀ {ds : List (D × D)} {vs : List (V × V)}, RepP B ρ H ds vs → RepP B ρ' H' ds vs
  | [], _, h => h
  | (d, e) :: ds, _, ⟨v, w, vr, q, h1, h2, h3⟩ => ⟨v, w, vr, q, h1.go g, h2.go g, RepP.go g h3⟩
abbrev MPs (X : Cx) (W : WX) (pos : Pos) (ks : List (Option Expr)) (vs : List Expr) (mps : List (M D × M D)) : Prop := PPs X pos ks vs (mps.map fun p => (tE (bx X) W p.1, tE (bx X) W p.2))
theorem md_nil {pos : Pos} : MPs X W pos [] [] [] := pps_nil
theorem md_cons {pos : Pos} {k v : Expr} {ks : List (Option Expr)} {vs : List Expr} {mk mv : M D} {mps : List (M D × M D)} (hk : ME X W k mk) (hv : ME X W v mv) (hr : MPs X W pos ks vs mps) : MPs X W pos (some k :: ks) (v :: vs) ((mk, mv) :: mps) := pps_cons hk hv hr
theorem pairs_run {ρ0 : List Addr} {H0 : Hp} : ∀ {mps : List (M D × M D)} {ρ : List Addr} {H : Hp} {σ : L2.St} {s : LS} {P : List (D × D) → LS → Prop} {Q : List (V × V) → Hp → Prop}, SR (bx X) ρ H s σ → Go ρ0 H0 ρ H → (mPairs mps s).all P (PX (bx X) W ρ0 H0) →
    (∀ ps s1 ρ1 H1 vs, P ps s1 → Go ρ H ρ1 H1 → SR (bx X) ρ1 H1 s1 σ → RepP (bx X) ρ1 H1 ps vs → Q vs H1) → tPairs (mps.map fun p => (tE (bx X) W p.1, tE (bx X) W p.2)) σ H Q
  | [], ρ, H, σ, s, P, Q, sr, g0, h, k => k [] s ρ H [] h .refl sr rfl
  | (mk, mv) :: r, ρ, H, σ, s, P, Q, sr, g0, h, k => by
    unfold mPairs at h
    rw [T.all_bind] at h
    refine tE.run sr g0 h fun x s1 ρ1 H1 v p g1 g1' sr1 r1 => ?_
    rw [T.all_bind] at p
    refine tE.run sr1 g1' p fun y s2 ρ2 H2 w p2 g2 g2' sr2 r2 => ?_
    rw [T.all_bind] at p2
    exact pairs_run sr2 g2' p2 fun ps s3 ρ3 H3 vs p3 g3 sr3 r3 => k ((x, y) :: ps) s3 ρ3 H3 ((v, w) :: vs) p3 ((g1.trans g2).trans g3) sr3 ⟨v, w, vs, rfl, (r1.go g2).go g3, r2.go g3, r3⟩
theorem rep_keyP {B : Bx} {ρ : List Addr} {H : Hp} : ∀ {ps : List (D × D)} {vs : List (V × V)} {kvs : List (Key × D)}, allO keyP ps = some kvs → RepP B ρ H ps vs → ∃ ws : List (Key × V), vs = ws.map (fun kv => (kV kv.1, kv.2)) ∧ RepK B ρ H kvs ws
  | [], _, _, e, r => by cases e; cases (r : _ = []); exact ⟨[], rfl, rfl⟩
  | (x, y) :: ps, _, _, e, ⟨v, w, vr, q, h1, h2, h3⟩ => by
    subst q
    unfold allO at e
    split at e
    · rename_i z zs e1 e2
      cases e
      obtain ⟨k, ek, rfl⟩ := Option.map_eq_some_iff.mp e1
      obtain ⟨ws, rfl, rr⟩ := rep_keyP e2 h3
      cases rep_key ek h1
      exact ⟨(k, w) :: ws, rfl, w, ws, rfl, h2, rr⟩
    · cases e
theorem rep_merge {B : Bx} {ρ : List Addr} {H : Hp} : ∀ {kvs : List (Key × D)} {ws : List (Key × V)} {acc : List (Key × D)} {acw : List (Key × V)}, RepK B ρ H kvs ws → RepK B ρ H acc acw → RepK B ρ H (kvs.foldl (fun acc kv => putD acc kv.1 kv.2) acc) (ws.foldl (fun acc kv => putK acc kv.1 kv.2) acw)
  | [], _, _, _, r, q => by cases (r : _ = []); exact q
  | (k, d) :: kvs, _, _, _, r, q => by
    obtain ⟨v, vr, rfl, r1, r2⟩ := (r : ∃ v vr, _ = (k, v) :: vr ∧ Rep B ρ H d v ∧ RepK B ρ H kvs vr)
    simp only [List.foldl_cons]
    exact rep_merge r2 (repK_put q r1)
theorem me_dict {pos : Pos} {ks : List (Option Expr)} {vs : List Expr} {mps : List (M D × M D)} (h : MPs X W pos ks vs mps) (hall : ks.all (·.isSome) = true := by rfl) (hl : ks.length = vs.length := by rfl) (h0 : ks ≠ [] := by exact fun z => by cases z) (h15 : ks.length ≤ 15 := by decide) :
    ME X W (.Dict ks vs pos) (mDict mps) := by
  refine PE.imp (pe_disp h hall hl h0 h15) fun σ H Q ⟨ρ, s, sr, h⟩ p hp => ?_
  unfold mDict at h
  rw [T.all_bind] at h
  obtain ⟨g1, sr1, r1⟩ := sr.alloc (o := .dK []) (u := .dK []) hp ⟨[], upd_same, rfl⟩
  refine pairs_run sr1 g1 h fun ps s2 ρ2 H2 vs p2 g2 sr2 rp => ?_
  split at p2
  · rename_i kvs e1 e2
    have hn : ρ2[s.st.length]? = some p := by
      obtain ⟨t, rfl⟩ := g2.pre
      rw [List.getElem?_append_left (by simp [← sr.st.len]), ← sr.st.len]; simp
    obtain ⟨ws0, h1, h2⟩ := sr2.st.obj _ _ _ hn e2
    cases (h2 : ws0 = [])
    obtain ⟨ws, rfl, rk⟩ := rep_keyP e1 rp
    split at p2
    · rename_i hl
      refine ⟨h1, ws, rfl, by rw [repK_len rk]; exact hl, ?_⟩
      obtain ⟨g3, sr3⟩ := sr2.write hn (o := .dK (mergeK [] ws)) (u := .dK (mergeD kvs)) ⟨_, upd_same, (rep_merge rk (show RepK _ _ _ ([] : List (Key × D)) [] from rfl)).go (.write (List.mem_of_getElem? hn))⟩
      exact p2 _ _ _ ((g1.trans g2).trans g3) sr3 ⟨p, rfl, hn⟩
    · exact p2.elim
  · exact p2.elim

/-! ### any, all, sum -/
def blK : D → Option Bool
  | .bl b => some b
  | _ => none
theorem rep_bls {B : Bx} {ρ : List Addr} {H : Hp} : ∀ {xs : List D} {vs : List V} {bs : List Bool}, allO blK xs = some bs → RepL B ρ H xs vs → vs = bs.map V.bl
  | [], _, _, e, r => by cases e; cases (r : _ = []); rfl
  | x :: xs, _, _, e, r => by
    obtain ⟨v, vr, rfl, r1, r2⟩ := (r : ∃ v vr, _ = v :: vr ∧ Rep B ρ H x v ∧ RepL B ρ H xs vr)
    unfold allO at e
    split at e
    · rename_i y ys e1 e2
      cases e
      rw [rep_bls e2 r2]
      cases x with
      | bl i => cases e1; cases (r1 : v = _); rfl
      | _ => cases e1
    · cases e
def anyD (ds : List D) : M D := fun s => match ds with
  | [d] => mO (((lstAt s.st d).bind (allO blK)).map fun bs => D.bl (bs.any id)) s
  | _ => .bad
def allD (ds : List D) : M D := fun s => match ds with
  | [d] => mO (((lstAt s.st d).bind (allO blK)).map fun bs => D.bl (bs.all id)) s
  | _ => .bad
def sumD (ds : List D) : M D := fun s => match ds with
  | [d] => mO (((lstAt s.st d).bind (allO intK)).map fun ns => D.int ns.sum) s
  | _ => .bad
theorem opn_any : OpN (bx X) anyD (rAny X.K) := by
  intro ρ H σ s ds vs Q E sr r h
  unfold anyD at h
  split at h
  · obtain ⟨v, rfl, rv⟩ := repl1 r
    unfold mO at h
    split at h
    · rename_i d hd
      obtain ⟨bs, h1, rfl⟩ := Option.map_eq_some_iff.mp hd
      obtain ⟨xs, h2, h3⟩ := Option.bind_eq_some_iff.mp h1
      obtain ⟨a, ws, rfl, t, _, q⟩ := rep_lst sr.st h2 rv
      have ew := rep_bls h3 q
      subst ew
      exact ⟨a, bs, rfl, .of t, h ρ H _ .refl sr rfl⟩
    · exact h.elim
  · exact h.elim
theorem opn_all : OpN (bx X) allD (rAll X.K) := by
  intro ρ H σ s ds vs Q E sr r h
  unfold allD at h
  split at h
  · obtain ⟨v, rfl, rv⟩ := repl1 r
    unfold mO at h
    split at h
    · rename_i d hd
      obtain ⟨bs, h1, rfl⟩ := Option.map_eq_some_iff.mp hd
      obtain ⟨xs, h2, h3⟩ := Option.bind_eq_some_iff.mp h1
      obtain ⟨a, ws, rfl, t, _, q⟩ := rep_lst sr.st h2 rv
      have ew := rep_bls h3 q
      subst ew
      exact ⟨a, bs, rfl, .of t, h ρ H _ .refl sr rfl⟩
    · exact h.elim
  · exact h.elim
theorem opn_sum : OpN (bx X) sumD (rSum X.K) := by
  intro ρ H σ s ds vs Q E sr r h
  unfold sumD at h
  split at h
  · obtain ⟨v, rfl, rv⟩ := repl1 r
    unfold mO at h
    split at h
    · rename_i d hd
      obtain ⟨bs, h1, rfl⟩ := Option.map_eq_some_iff.mp hd
      obtain ⟨xs, h2, h3⟩ := Option.bind_eq_some_iff.mp h1
      obtain ⟨a, ws, rfl, t, _, q⟩ := rep_lst sr.st h2 rv
      have ew := rep_ints h3 q
      subst ew
      exact ⟨a, bs, rfl, .of t, h ρ H _ .refl sr rfl⟩
    · exact h.elim
  · exact h.elim

/-! ### more assignments -/
theorem sw_env {N : List Str} {sc : Scope} (c : Cc X N sc) {α : Type} {f : Env → α} {y : α} (h : ∀ env : Env, env.scope = sc → f env = y) : f X.env = y := h X.env c.hs
theorem sw_cell {N : List Str} {sc : Scope} (c : Cc X N sc) {y : Str} (hk : sc.names.lookup y = some .cell) {elt : Expr} {gs : List Comprehension} {scope : Scope} {pos py : Pos} {l : Nat} : swapsWith (.ListComp elt gs scope pos) (some (.Name y py)) l X.env = pure false := by
  have ky : X.env.kindOf y = some .cell := by unfold Env.kindOf; rw [c.hs]; exact hk
  unfold swapsWith
  simp only [ky]
  have e : (some NameKind.cell == some NameKind.local) = false := by decide
  simp only [e, Bool.and_false, Bool.false_and]
def mPar3 (i j l : Nat) (m : M (List D)) : M Fl := fun s => (m s).bind fun ds s1 => match ds with
  | [x, y, z] => .ret .nx { s1 with env := ((s1.env.set i (some x)).set j (some y)).set l (some z) }
  | _ => .bad
theorem ms_par3 {N : List Str} {sc : Scope} (c : Cc X N sc) (i j l : Nat) {x y z : Str} {a b e : Expr} {m : M (List D)} {px py pz pt pos : Pos} {kt k2 : Nat} {pt2 : Pos} (h1 : N[i]? = some x) (h2 : N[j]? = some y) (h3 : N[l]? = some z) (hij : i ≠ j) (hil : i ≠ l) (hjl : j ≠ l)
    (hx : sc.names.lookup x = some .local) (hy : sc.names.lookup y = some .local) (hz : sc.names.lookup z = some .local) (ha : MA X W [a, b, e] m)
    (hw : swappedStores [.Tuple [.Name x px, .Name y py, .Name z pz] kt pt] (.Tuple [a, b, e] k2 pt2) X.env = pure (some [x, y, z])) :
    MS X W (.Assign [.Tuple [.Name x px, .Name y py, .Name z pz] kt pt] (.Tuple [a, b, e] k2 pt2) pos) (mPar3 i j l m) := by
  refine PS.imp (ps_par3 (i := i) (j := j) (l := l) c.calm c.nd' (by rw [c.hN]; exact h1) (by rw [c.hN]; exact h2) (by rw [c.hN]; exact h3) hij hil hjl (by rw [c.hs]; exact hx) (by rw [c.hs]; exact hy) (by rw [c.hs]; exact hz) ha hw) fun E σ H h => ?_
  obtain ⟨ρ, s, sr, h⟩ := h
  unfold mPar3 at h
  rw [T.all_bind] at h
  refine tL.run sr .refl h fun ds s1 ρ1 H1 vs p g1 g1' sr1 r1 => ?_
  split at p
  · rename_i d e f
    obtain ⟨v, vr, rfl, q1, q2⟩ := (r1 : ∃ v vr, vs = v :: vr ∧ Rep _ ρ1 H1 d v ∧ RepL _ ρ1 H1 [e, f] vr)
    obtain ⟨w, u, rfl, q3, q4⟩ := repl2 q2
    exact ⟨v, w, u, rfl, p ρ1 H1 _ g1 (((sr1.set q1).set q3).set q4)⟩
  · exact p.elim
/-- x += e, x -= e of ints -/
def addI (a b : Int) : Int := a + b
def subI (a b : Int) : Int := a - b
def mAug (f : Int → Int → Int) (i : Nat) (m : M D) : M Fl := fun s => match s.env[i]? with
  | some (some (.int a)) => (m s).bind fun d s1 => match d with
    | .int b => .ret .nx { s1 with env := s1.env.set i (some (.int (f a b))) }
    | _ => .bad
  | _ => .bad
theorem aug_run {f : Int → Int → Int} {i : Nat} {m : M D} {E : Ends} {σ : L2.St} {H : Hp} (h : tS (bx X) W (mAug f i m) E σ H) : tAug i (tE (bx X) W m) (ipI f) E σ H := by
  obtain ⟨ρ, s, sr, h⟩ := h
  unfold mAug at h
  split at h
  · rename_i a e
    obtain ⟨v, hv, rv⟩ := sr.env.at_ i _ e
    cases (rv : v = _)
    rw [T.all_bind] at h
    refine ⟨_, hv, tE.run sr .refl h fun d s1 ρ1 H1 v p g1 g1' sr1 r1 => ?_⟩
    split at p
    · cases (r1 : v = _)
      exact ⟨_, _, rfl, rfl, p ρ1 H1 _ g1 (sr1.set rfl)⟩
    · exact p.elim
  · exact h.elim
theorem ms_augAdd {N : List Str} {sc : Scope} (c : Cc X N sc) (i : Nat) {x : Str} {e : Expr} {m : M D} {pos pos' : Pos} (h1 : N[i]? = some x) (h2 : Loc sc x) (h3 : X.fn x = true ∨ sc.names.lookup x = some .local) (he : ME X W e m) : MS X W (.AugAssign (.Name x pos') .Add e pos) (mAug addI i m) :=
  PS.imp (ps_aug (i := i) c.nd' (by rw [c.hN]; exact h1) (by rw [c.hs]; exact h2) he ip_add (by rw [c.hs]; exact h3)) fun E σ H h => aug_run h
theorem ms_augSub {N : List Str} {sc : Scope} (c : Cc X N sc) (i : Nat) {x : Str} {e : Expr} {m : M D} {pos pos' : Pos} (h1 : N[i]? = some x) (h2 : Loc sc x) (h3 : X.fn x = true ∨ sc.names.lookup x = some .local) (he : ME X W e m) : MS X W (.AugAssign (.Name x pos') .Sub e pos) (mAug subI i m) :=
  PS.imp (ps_aug (i := i) c.nd' (by rw [c.hN]; exact h1) (by rw [c.hs]; exact h2) he ip_sub (by rw [c.hs]; exact h3)) fun E σ H h => aug_run h
end
end Mz

set_option Elab.async false
set_option linter.all false
set_option maxRecDepth 100000
set_option maxHeartbeats 4000000
namespace Mz
open PySem PySem.Spec PyProof.Rows L2

/-! ### running programs on symbols -/
theorem bind_ret {α β : Type} {a : α} {s : LS} {f : α → LS → T β} : (T.ret a s).bind f = f a s := Eq.trans rfl rfl
theorem bind_draw {α β : Type} {n : Nat} {k : Nat → T α} {f : α → LS → T β} : (T.draw n k).bind f = .draw n fun i => (k i).bind f := rfl
theorem bind_bad {α β : Type} {f : α → LS → T β} : (T.bad).bind f = T.bad := rfl
theorem ix_dK {n : Nat} {s : LS} {kvs : List (Key × D)} {x : D} {k : Key} {v : D} (e : s.st[n]? = some (.dK kvs)) (hk : keyK x = some k) (hv : valD kvs k = some v) : ixD (.ref n) x s = .ret v s := by
  unfold ixD
  simp only [tupAt, lstAt, e, dGet, hk, Option.none_or, Option.map_some, hv, mO]
theorem ix_lst {n : Nat} {s : LS} {xs : List D} {i : Int} {v : D} (e : s.st[n]? = some (.lst xs)) (hv : atI xs i = some v) : ixD (.ref n) (.int i) s = .ret v s := by
  unfold ixD
  simp only [tupAt, lstAt, e, Option.none_or, hv, mO]
theorem set_dK {n : Nat} {s : LS} {kvs : List (Key × D)} {x d : D} {k : Key} (e : s.st[n]? = some (.dK kvs)) (hk : keyK x = some k) (hl : kvs.length < LIM) : setD (.ref n) x d s = .ret () { s with st := s.st.set n (.dK (putD kvs k d)) } := by
  unfold setD put
  simp only [e, hk, if_pos hl]

/-! ### the pen -/
def penD (c : Nat) (at_ dg cn fo : Int) : List (Key × D) := [(.inr "cells", .ref c), (.inr "at", .int at_), (.inr "digits", .int dg), (.inr "count", .int cn), (.inr "fold", .int fo)]
section
variable {c : Nat} {at_ dg cn fo x : Int}
theorem kn1 : ¬ ((.inr "cells" : Key) = .inr "at") := by decide +kernel
theorem kn2 : ¬ ((.inr "cells" : Key) = .inr "digits") := by decide +kernel
theorem kn3 : ¬ ((.inr "cells" : Key) = .inr "count") := by decide +kernel
theorem kn4 : ¬ ((.inr "cells" : Key) = .inr "fold") := by decide +kernel
theorem kn5 : ¬ ((.inr "at" : Key) = .inr "digits") := by decide +kernel
theorem kn6 : ¬ ((.inr "at" : Key) = .inr "count") := by decide +kernel
theorem kn7 : ¬ ((.inr "at" : Key) = .inr "fold") := by decide +kernel
theorem kn8 : ¬ ((.inr "digits" : Key) = .inr "count") := by decide +kernel
theorem kn9 : ¬ ((.inr "digits" : Key) = .inr "fold") := by decide +kernel
theorem kn10 : ¬ ((.inr "count" : Key) = .inr "fold") := by decide +kernel
theorem pv_cells : valD (penD c at_ dg cn fo) (.inr "cells") = some (.ref c) := by simp [valD, penD]
theorem pv_at : valD (penD c at_ dg cn fo) (.inr "at") = some (.int at_) := by
  unfold valD penD
  simp only [List.find?_cons, decide_eq_false kn1, decide_true, Option.map_some]
theorem pv_digits : valD (penD c at_ dg cn fo) (.inr "digits") = some (.int dg) := by
  unfold valD penD
  simp only [List.find?_cons, decide_eq_false kn2, decide_eq_false kn5, decide_true, Option.map_some]
theorem pv_count : valD (penD c at_ dg cn fo) (.inr "count") = some (.int cn) := by
  unfold valD penD
  simp only [List.find?_cons, decide_eq_false kn3, decide_eq_false kn6, decide_eq_false kn8, decide_true, Option.map_some]
theorem pv_fold : valD (penD c at_ dg cn fo) (.inr "fold") = some (.int fo) := by
  unfold valD penD
  simp only [List.find?_cons, decide_eq_false kn4, decide_eq_false kn7, decide_eq_false kn9, decide_eq_false kn10, decide_true, Option.map_some]
theorem ps_at : putD (penD c at_ dg cn fo) (.inr "at") (.int x) = penD c x dg cn fo := by
  unfold putD penD
  simp only [List.any_cons, List.any_nil, List.map_cons, List.map_nil, decide_eq_false kn1, decide_true, Bool.true_or, Bool.or_true, Bool.false_or, if_true, if_neg kn1, if_neg (Ne.symm kn5), if_neg (Ne.symm kn6), if_neg (Ne.symm kn7)]
theorem ps_digits : putD (penD c at_ dg cn fo) (.inr "digits") (.int x) = penD c at_ x cn fo := by
  unfold putD penD
  simp only [List.any_cons, List.any_nil, List.map_cons, List.map_nil, decide_true, Bool.true_or, Bool.or_true, Bool.false_or, if_true, if_neg kn2, if_neg kn5, if_neg (Ne.symm kn8), if_neg (Ne.symm kn9)]
theorem ps_count : putD (penD c at_ dg cn fo) (.inr "count") (.int x) = penD c at_ dg x fo := by
  unfold putD penD
  simp only [List.any_cons, List.any_nil, List.map_cons, List.map_nil, decide_true, Bool.true_or, Bool.or_true, Bool.false_or, if_true, if_neg kn3, if_neg kn6, if_neg kn8, if_neg (Ne.symm kn10)]
theorem ps_fold : putD (penD c at_ dg cn fo) (.inr "fold") (.int x) = penD c at_ dg cn x := by
  unfold putD penD
  simp only [List.any_cons, List.any_nil, List.map_cons, List.map_nil, decide_true, Bool.true_or, Bool.or_true, Bool.false_or, if_true, if_neg kn4, if_neg kn7, if_neg kn9, if_neg kn10]
theorem pen_len : (penD c at_ dg cn fo).length < LIM := by show 5 < LIM; decide
end

/-- one draw, as the text's own def does it -/
def m_draw : M Fl :=
    (mSeq (mAsg (mOp addD (mOp ixD (mVar 0) (mRet (.str "count"))) (mRet (.int 1))) (gSubM (mVar 0) (mRet (.str "count"))))
    (mSeq (mIfS (mAnd (mBool (mOp eqD (mOp ixD (mVar 0) (mRet (.str "digits"))) (mRet (.int 0)))) (mBool (mOp ltD (mOp ixD (mVar 0) (mRet (.str "at"))) (mFn lenD (mCons (mOp ixD (mVar 0) (mRet (.str "cells"))) mNil))))) (mSeq (mAsg (mOp ixD (mOp ixD (mVar 0) (mRet (.str "cells"))) (mOp ixD (mVar 0) (mRet (.str "at")))) (gNm 2))
    (mSeq (mAsg (mOp addD (mOp ixD (mVar 0) (mRet (.str "at"))) (mRet (.int 1))) (gSubM (mVar 0) (mRet (.str "at"))))
    (mIfS (mBool (mOp geD (mVar 2) (mOp powD (mRet (.int 10)) (mRet (.int 18))))) (mAsg (mOp subD (mVar 2) (mOp powD (mRet (.int 10)) (mRet (.int 18)))) (gSubM (mVar 0) (mRet (.str "digits")))) (mAsg (mOp modD (mFn intD (mCons (mOp addD (mOp mulD (mOp ixD (mVar 0) (mRet (.str "fold"))) (mRet (.int 69069))) (mVar 2)) mNil)) (mRet (.int 2147483587))) (gSubM (mVar 0) (mRet (.str "fold"))))))) mNext)
    (mSeq (mIfS (mBool (mOp gtD (mOp ixD (mVar 0) (mRet (.str "digits"))) (mRet (.int 0)))) (mSeq (mAsg (mOp modD (mFn intD (mCons (mOp ixD (mVar 0) (mRet (.str "digits"))) mNil)) (mVar 1)) (gNm 3))
    (mSeq (mAsg (mOp fdivD (mOp ixD (mVar 0) (mRet (.str "digits"))) (mVar 1)) (gSubM (mVar 0) (mRet (.str "digits"))))
    (mRetS (mVar 3)))) mNext)
    (mSeq (mAsg (mOp addD (mOp addD (mOp ixD (mVar 0) (mRet (.str "fold"))) (mOp mulD (mOp ixD (mVar 0) (mRet (.str "count"))) (mRet (.int 8111)))) (mRet (.int 57))) (gNm 4))
    (mRetS (mOp modD (mOp fdivD (mFn intD (mCons (mOp modD (mOp powD (mVar 4) (mRet (.int 17))) (mRet (.int 2305843009213693951))) mNil)) (mRet (.int 128))) (mVar 1)))))))
/-- the state of a pen in the open -/
structure PenS (n c : Nat) (k : Nat) (ns : List Int) (at_ dg cn fo : Int) (st : List LO) : Prop where
  p : st[n]? = some (.dK (penD c at_ dg cn fo))
  c : st[c]? = some (.lst (ns.map D.int))
  b : PenN k at_ dg cn fo
theorem PenS.ne {n c k : Nat} {ns : List Int} {at_ dg cn fo : Int} {st : List LO} (h : PenS n c k ns at_ dg cn fo st) : n ≠ c := fun z => by
  have := h.p
  rw [z, h.c] at this
  cases this
theorem PenS.put {n c k j : Nat} {ns : List Int} {at_ dg cn fo a d m f : Int} {st : List LO} (h : PenS n c k ns at_ dg cn fo st) (b : PenN j a d m f) : PenS n c j ns a d m f (st.set n (.dK (penD c a d m f))) :=
  ⟨by rw [List.getElem?_set_self (List.getElem?_eq_some_iff.mp h.p).1], by rw [List.getElem?_set_ne h.ne]; exact h.c, b⟩
section
variable {n c k : Nat} {ns : List Int} {at_ dg cn fo m x : Int} {e : List (Option D)} {st : List LO} {i : Nat}
theorem dr_at (h : PenS n c k ns at_ dg cn fo st) (he : e[0]? = some (some (.ref n))) : mOp ixD (mVar 0) (mRet (.str "at")) ⟨e, st⟩ = .ret (.int at_) ⟨e, st⟩ := by
  simp only [mOp, mVar, he, bind_ret, mRet]
  exact ix_dK h.p rfl pv_at
theorem dr_cells (h : PenS n c k ns at_ dg cn fo st) (he : e[0]? = some (some (.ref n))) : mOp ixD (mVar 0) (mRet (.str "cells")) ⟨e, st⟩ = .ret (.ref c) ⟨e, st⟩ := by
  simp only [mOp, mVar, he, bind_ret, mRet]
  exact ix_dK h.p rfl pv_cells
theorem dr_digits (h : PenS n c k ns at_ dg cn fo st) (he : e[0]? = some (some (.ref n))) : mOp ixD (mVar 0) (mRet (.str "digits")) ⟨e, st⟩ = .ret (.int dg) ⟨e, st⟩ := by
  simp only [mOp, mVar, he, bind_ret, mRet]
  exact ix_dK h.p rfl pv_digits
theorem dr_count (h : PenS n c k ns at_ dg cn fo st) (he : e[0]? = some (some (.ref n))) : mOp ixD (mVar 0) (mRet (.str "count")) ⟨e, st⟩ = .ret (.int cn) ⟨e, st⟩ := by
  simp only [mOp, mVar, he, bind_ret, mRet]
  exact ix_dK h.p rfl pv_count
theorem dr_fold (h : PenS n c k ns at_ dg cn fo st) (he : e[0]? = some (some (.ref n))) : mOp ixD (mVar 0) (mRet (.str "fold")) ⟨e, st⟩ = .ret (.int fo) ⟨e, st⟩ := by
  simp only [mOp, mVar, he, bind_ret, mRet]
  exact ix_dK h.p rfl pv_fold
theorem dw_count (h : PenS n c k ns at_ dg cn fo st) (he : e[0]? = some (some (.ref n))) : gSubM (mVar 0) (mRet (.str "count")) (.int x) ⟨e, st⟩ = .ret () ⟨e, st.set n (.dK (penD c at_ dg x fo))⟩ := by
  simp only [gSubM, mVar, he, bind_ret, mRet]
  rw [set_dK h.p rfl pen_len, ps_count]
theorem dw_at (h : PenS n c k ns at_ dg cn fo st) (he : e[0]? = some (some (.ref n))) : gSubM (mVar 0) (mRet (.str "at")) (.int x) ⟨e, st⟩ = .ret () ⟨e, st.set n (.dK (penD c x dg cn fo))⟩ := by
  simp only [gSubM, mVar, he, bind_ret, mRet]
  rw [set_dK h.p rfl pen_len, ps_at]
theorem dw_digits (h : PenS n c k ns at_ dg cn fo st) (he : e[0]? = some (some (.ref n))) : gSubM (mVar 0) (mRet (.str "digits")) (.int x) ⟨e, st⟩ = .ret () ⟨e, st.set n (.dK (penD c at_ x cn fo))⟩ := by
  simp only [gSubM, mVar, he, bind_ret, mRet]
  rw [set_dK h.p rfl pen_len, ps_digits]
theorem dw_fold (h : PenS n c k ns at_ dg cn fo st) (he : e[0]? = some (some (.ref n))) : gSubM (mVar 0) (mRet (.str "fold")) (.int x) ⟨e, st⟩ = .ret () ⟨e, st.set n (.dK (penD c at_ dg cn x))⟩ := by
  simp only [gSubM, mVar, he, bind_ret, mRet]
  rw [set_dK h.p rfl pen_len, ps_fold]
end
/-- a run that ends in a return of a number below m, the pen written -/
def DrawE (n c j : Nat) (m : Int) (ns : List Int) (st0 : List LO) (t : T Fl) : Prop := ∃ (i : Int) (at_ dg cn fo : Int) (e : List (Option D)), t = .ret (.rt (.int i)) ⟨e, st0.set n (.dK (penD c at_ dg cn fo))⟩ ∧ 0 ≤ i ∧ i < m ∧ PenN j at_ dg cn fo
/-! ### ints -/
theorem eqv_int (a b : Int) : PyData.eqv (.int a) (.int b) = decide (a = b) := by
  simp [PyData.eqv]
  rfl
theorem eqD_int (a b : Int) (s : LS) : eqD (.int a) (.int b) s = .ret (.bl (decide (a = b))) s := by
  unfold eqD
  simp only [toP]
  rw [if_pos (by rfl), eqv_int]
theorem addD_int (a b : Int) (s : LS) : addD (.int a) (.int b) s = .ret (.int (a + b)) s := rfl
theorem subD_int (a b : Int) (s : LS) : subD (.int a) (.int b) s = .ret (.int (a - b)) s := rfl
theorem ltD_int (a b : Int) (s : LS) : ltD (.int a) (.int b) s = .ret (.bl (decide (a < b))) s := rfl
theorem leD_int (a b : Int) (s : LS) : leD (.int a) (.int b) s = .ret (.bl (decide (a ≤ b))) s := rfl
theorem gtD_int (a b : Int) (s : LS) : gtD (.int a) (.int b) s = .ret (.bl (decide (b < a))) s := rfl
theorem geD_int (a b : Int) (s : LS) : geD (.int a) (.int b) s = .ret (.bl (decide (b ≤ a))) s := rfl
theorem modD_int {a b : Int} (h : b ≠ 0) (s : LS) : modD (.int a) (.int b) s = .ret (.int (a.fmod b)) s := by
  unfold modD int2
  simp [h]
theorem fdivD_int {a b : Int} (h : b ≠ 0) (h2 : b.natAbs < 1073741824) (s : LS) : fdivD (.int a) (.int b) s = .ret (.int (a.fdiv b)) s := by
  unfold fdivD int2
  simp [h, h2]
theorem powD_int {a b : Int} (h1 : 0 ≤ b) (h2 : b ≤ 1000000) (h3 : a.natAbs < 2 ^ 64) (s : LS) : powD (.int a) (.int b) s = .ret (.int (a ^ b.toNat)) s := by
  unfold powD int2
  simp only [h1, h2, h3, decide_true, Bool.and_self, if_true]
theorem mulD_int {a b : Int} (h : i64 b = true) (s : LS) : mulD (.int a) (.int b) s = .ret (.int (a * b)) s := by
  unfold mulD
  simp only [h, Bool.or_true, if_true]

/-! ### single steps -/
section
variable {s s1 s2 : LS} {a b : M D} {x y : D} {f : D → D → M D}
theorem op_r (ha : a s = .ret x s1) (hb : b s1 = .ret y s2) : mOp f a b s = f x y s2 := by unfold mOp; rw [ha, bind_ret, hb, bind_ret]
theorem asg_r {g : D → M Unit} (ha : a s = .ret x s1) (hg : g x s1 = .ret () s2) : mAsg a g s = .ret .nx s2 := by unfold mAsg; rw [ha, bind_ret, hg, bind_ret]
theorem seq_r {c d : M Fl} (h : c s = .ret .nx s1) : mSeq c d s = d s1 := by unfold mSeq; rw [h, bind_ret]
theorem if_r {t : M Bool} {c d : M Fl} {z : Bool} (h : t s = .ret z s1) : mIfS t c d s = if z then c s1 else d s1 := by unfold mIfS; rw [h, bind_ret]
theorem bool_r {z : Bool} (h : a s = .ret (.bl z) s1) : mBool a s = .ret z s1 := by unfold mBool; rw [h, bind_ret]
theorem and_r {t u : M Bool} {z : Bool} (h : t s = .ret z s1) : mAnd t u s = if z then u s1 else .ret false s1 := by unfold mAnd; rw [h, bind_ret]
theorem or_r {t u : M Bool} {z : Bool} (h : t s = .ret z s1) : mOr t u s = if z then .ret true s1 else u s1 := by unfold mOr; rw [h, bind_ret]
theorem not_r {t : M Bool} {z : Bool} (h : t s = .ret z s1) : mNot t s = .ret (!z) s1 := by unfold mNot; rw [h, bind_ret]
theorem var_r {i : Nat} (h : s.env[i]? = some (some x)) : mVar i s = .ret x s := by unfold mVar; rw [h]
theorem ret_r : mRet x s = .ret x s := rfl
theorem retS_r (ha : a s = .ret x s1) : mRetS a s = .ret (.rt x) s1 := by unfold mRetS; rw [ha, bind_ret]
theorem nm_r {i : Nat} : gNm i x s = .ret () { s with env := s.env.set i (some x) } := rfl
theorem fn1_r {F : List D → M D} (ha : a s = .ret x s1) : mFn F (mCons a mNil) s = F [x] s1 := by unfold mFn mCons; rw [ha, bind_ret]; rfl
theorem fn2_r {F : List D → M D} (ha : a s = .ret x s1) (hb : b s1 = .ret y s2) : mFn F (mCons a (mCons b mNil)) s = F [x, y] s2 := by unfold mFn mCons; rw [ha, bind_ret, hb]; rfl
end

/-! ### one draw -/
section
variable {n c k : Nat} {ns : List Int} {at_ dg cn fo m x : Int} {e : List (Option D)} {st : List LO} {i : Nat}
theorem dr_A (h : PenS n c k ns at_ dg cn fo st) (he : e[0]? = some (some (.ref n))) : mAsg (mOp addD (mOp ixD (mVar 0) (mRet (.str "count"))) (mRet (.int 1))) (gSubM (mVar 0) (mRet (.str "count"))) ⟨e, st⟩ = .ret .nx ⟨e, st.set n (.dK (penD c at_ dg (cn + 1) fo))⟩ := by
  exact asg_r ((op_r (dr_count h he) ret_r).trans (addD_int _ _ _)) (dw_count h he)
theorem dr_B (hl : ns.length ≤ 63) (h : PenS n c k ns at_ dg cn fo st) (he : e[0]? = some (some (.ref n))) (hm : e[1]? = some (some (.int m))) (h5 : e.length = 5) : ∃ (e' : List (Option D)) (a d f : Int),
    (mIfS (mAnd (mBool (mOp eqD (mOp ixD (mVar 0) (mRet (.str "digits"))) (mRet (.int 0)))) (mBool (mOp ltD (mOp ixD (mVar 0) (mRet (.str "at"))) (mFn lenD (mCons (mOp ixD (mVar 0) (mRet (.str "cells"))) mNil))))) (mSeq (mAsg (mOp ixD (mOp ixD (mVar 0) (mRet (.str "cells"))) (mOp ixD (mVar 0) (mRet (.str "at")))) (gNm 2))
    (mSeq (mAsg (mOp addD (mOp ixD (mVar 0) (mRet (.str "at"))) (mRet (.int 1))) (gSubM (mVar 0) (mRet (.str "at"))))
    (mIfS (mBool (mOp geD (mVar 2) (mOp powD (mRet (.int 10)) (mRet (.int 18))))) (mAsg (mOp subD (mVar 2) (mOp powD (mRet (.int 10)) (mRet (.int 18)))) (gSubM (mVar 0) (mRet (.str "digits")))) (mAsg (mOp modD (mFn intD (mCons (mOp addD (mOp mulD (mOp ixD (mVar 0) (mRet (.str "fold"))) (mRet (.int 69069))) (mVar 2)) mNil)) (mRet (.int 2147483587))) (gSubM (mVar 0) (mRet (.str "fold"))))))) mNext) ⟨e, st⟩ = .ret .nx ⟨e', st.set n (.dK (penD c a d cn f))⟩ ∧
    e'[0]? = some (some (.ref n)) ∧ e'[1]? = some (some (.int m)) ∧ e'.length = 5 ∧ PenN k a d cn f := by
  have hb := h.b
  have t1 : mBool (mOp eqD (mOp ixD (mVar 0) (mRet (.str "digits"))) (mRet (.int 0))) ⟨e, st⟩ = .ret (decide (dg = 0)) ⟨e, st⟩ := bool_r ((op_r (dr_digits h he) ret_r).trans (eqD_int _ _ _))
  have t2 : mBool (mOp ltD (mOp ixD (mVar 0) (mRet (.str "at"))) (mFn lenD (mCons (mOp ixD (mVar 0) (mRet (.str "cells"))) mNil))) ⟨e, st⟩ = .ret (decide (at_ < ns.length)) ⟨e, st⟩ := by
    have h2 : lenD [.ref c] ⟨e, st⟩ = .ret (.int ns.length) ⟨e, st⟩ := by
      unfold lenD
      simp only [tupAt, lstAt, h.c, Option.none_or, List.length_map]
    exact bool_r ((op_r (dr_at h he) ((fn1_r (dr_cells h he)).trans h2)).trans (ltD_int _ _ _))
  have same : st.set n (.dK (penD c at_ dg cn fo)) = st := by
    have := h.p
    rw [List.getElem?_eq_some_iff] at this
    obtain ⟨hn, q⟩ := this
    rw [← q, List.set_getElem_self]
  have out : (mNext ⟨e, st⟩ : T Fl) = .ret .nx ⟨e, st.set n (.dK (penD c at_ dg cn fo))⟩ := by rw [same]; rfl
  by_cases hd : dg = 0
  · by_cases hat : at_ < ns.length
    · have a0 := hb.a0
      have t : mAnd (mBool (mOp eqD (mOp ixD (mVar 0) (mRet (.str "digits"))) (mRet (.int 0)))) (mBool (mOp ltD (mOp ixD (mVar 0) (mRet (.str "at"))) (mFn lenD (mCons (mOp ixD (mVar 0) (mRet (.str "cells"))) mNil)))) ⟨e, st⟩ = .ret true ⟨e, st⟩ := by
        rw [and_r t1, decide_eq_true hd, if_pos rfl, t2, decide_eq_true hat]
      have hj : at_.toNat < ns.length := by omega
      have hix : atI (ns.map D.int) at_ = some (.int ns[at_.toNat]) := by
        unfold atI ixN
        rw [if_pos a0, if_pos (by rw [List.length_map]; exact hat)]
        simp [hj]
      have s1 : mAsg (mOp ixD (mOp ixD (mVar 0) (mRet (.str "cells"))) (mOp ixD (mVar 0) (mRet (.str "at")))) (gNm 2) ⟨e, st⟩ = .ret .nx ⟨e.set 2 (some (.int ns[at_.toNat])), st⟩ :=
        asg_r ((op_r (dr_cells h he) (dr_at h he)).trans (ix_lst h.c hix)) nm_r
      have he2 : (e.set 2 (some (.int ns[at_.toNat])))[0]? = some (some (.ref n)) := by rw [List.getElem?_set_ne (by decide)]; exact he
      have hm2 : (e.set 2 (some (.int ns[at_.toNat])))[1]? = some (some (.int m)) := by rw [List.getElem?_set_ne (by decide)]; exact hm
      have hc2 : (e.set 2 (some (.int ns[at_.toNat])))[2]? = some (some (.int ns[at_.toNat])) := by rw [List.getElem?_set_self (by omega)]
      generalize hx : ns[at_.toNat] = cell at *
      generalize he' : e.set 2 (some (.int cell)) = e' at *
      have hl' : e'.length = 5 := by rw [← he']; simpa using h5
      have s2 : mAsg (mOp addD (mOp ixD (mVar 0) (mRet (.str "at"))) (mRet (.int 1))) (gSubM (mVar 0) (mRet (.str "at"))) ⟨e', st⟩ = .ret .nx ⟨e', st.set n (.dK (penD c (at_ + 1) dg cn fo))⟩ :=
        asg_r ((op_r (dr_at h he2) ret_r).trans (addD_int _ _ _)) (dw_at h he2)
      have h2 : PenS n c k ns (at_ + 1) dg cn fo (st.set n (.dK (penD c (at_ + 1) dg cn fo))) := h.put ⟨by omega, hb.d0, hb.c0, hb.c1, hb.f0, hb.f1⟩
      have pw : ∀ s : LS, mOp powD (mRet (.int 10)) (mRet (.int 18)) s = .ret (.int 1000000000000000000) s := fun s =>
        ((op_r ret_r ret_r).trans (powD_int (by decide) (by decide) (by decide) _)).trans rfl
      have t3 : mBool (mOp geD (mVar 2) (mOp powD (mRet (.int 10)) (mRet (.int 18)))) ⟨e', st.set n (.dK (penD c (at_ + 1) dg cn fo))⟩ = .ret (decide (1000000000000000000 ≤ cell)) ⟨e', st.set n (.dK (penD c (at_ + 1) dg cn fo))⟩ :=
        bool_r ((op_r (var_r hc2) (pw _)).trans (geD_int _ _ _))
      by_cases hg : 1000000000000000000 ≤ cell
      · refine ⟨e', at_ + 1, cell - 1000000000000000000, fo, ?_, he2, hm2, hl', ⟨by omega, by omega, hb.c0, hb.c1, hb.f0, hb.f1⟩⟩
        rw [if_r t, if_pos rfl, seq_r s1, seq_r s2, if_r t3, decide_eq_true hg, if_pos rfl]
        have s3 := dw_digits (x := cell - 1000000000000000000) h2 he2
        rw [List.set_set] at s3
        exact asg_r ((op_r (var_r hc2) (pw _)).trans (subD_int _ _ _)) s3
      · refine ⟨e', at_ + 1, dg, (fo * 69069 + cell).fmod 2147483587, ?_, he2, hm2, hl', ⟨by omega, hb.d0, hb.c0, hb.c1, ?_, ?_⟩⟩
        · rw [if_r t, if_pos rfl, seq_r s1, seq_r s2, if_r t3, decide_eq_false hg, if_neg Bool.false_ne_true]
          have s3 := dw_fold (x := (fo * 69069 + cell).fmod 2147483587) h2 he2
          rw [List.set_set] at s3
          refine asg_r ((op_r ((fn1_r ((op_r ((op_r (dr_fold h2 he2) ret_r).trans (mulD_int (by decide) _)) (var_r hc2)).trans (addD_int _ _ _))).trans ?_) ret_r).trans (modD_int (by decide) _)) s3
          rfl
        · exact Int.fmod_nonneg_of_pos _ (by decide)
        · exact Int.fmod_lt_of_pos _ (by decide)
    · refine ⟨e, at_, dg, fo, ?_, he, hm, h5, hb⟩
      rw [if_r ((and_r t1).trans (by rw [decide_eq_true hd, if_pos rfl, t2, decide_eq_false hat])), if_neg Bool.false_ne_true]
      exact out
  · refine ⟨e, at_, dg, fo, ?_, he, hm, h5, hb⟩
    rw [if_r ((and_r t1).trans (by rw [decide_eq_false hd, if_neg Bool.false_ne_true])), if_neg Bool.false_ne_true]
    exact out
theorem dr_C (h : PenS n c k ns at_ dg cn fo st) (he : e[0]? = some (some (.ref n))) (hm : e[1]? = some (some (.int m))) (h5 : e.length = 5) (m0 : 0 < m) (m1 : m < 1073741824) (hk : k < 2 ^ 40) : ∃ (r : Int) (a d f : Int) (e' : List (Option D)),
    (mSeq (mIfS (mBool (mOp gtD (mOp ixD (mVar 0) (mRet (.str "digits"))) (mRet (.int 0)))) (mSeq (mAsg (mOp modD (mFn intD (mCons (mOp ixD (mVar 0) (mRet (.str "digits"))) mNil)) (mVar 1)) (gNm 3))
    (mSeq (mAsg (mOp fdivD (mOp ixD (mVar 0) (mRet (.str "digits"))) (mVar 1)) (gSubM (mVar 0) (mRet (.str "digits"))))
    (mRetS (mVar 3)))) mNext)
    (mSeq (mAsg (mOp addD (mOp addD (mOp ixD (mVar 0) (mRet (.str "fold"))) (mOp mulD (mOp ixD (mVar 0) (mRet (.str "count"))) (mRet (.int 8111)))) (mRet (.int 57))) (gNm 4))
    (mRetS (mOp modD (mOp fdivD (mFn intD (mCons (mOp modD (mOp powD (mVar 4) (mRet (.int 17))) (mRet (.int 2305843009213693951))) mNil)) (mRet (.int 128))) (mVar 1))))) ⟨e, st⟩ = .ret (.rt (.int r)) ⟨e', st.set n (.dK (penD c a d cn f))⟩ ∧ 0 ≤ r ∧ r < m ∧ PenN k a d cn f := by
  have hb := h.b
  have same : st.set n (.dK (penD c at_ dg cn fo)) = st := by
    have := h.p
    rw [List.getElem?_eq_some_iff] at this
    obtain ⟨hn, q⟩ := this
    rw [← q, List.set_getElem_self]
  have t1 : mBool (mOp gtD (mOp ixD (mVar 0) (mRet (.str "digits"))) (mRet (.int 0))) ⟨e, st⟩ = .ret (decide (0 < dg)) ⟨e, st⟩ := bool_r ((op_r (dr_digits h he) ret_r).trans (gtD_int _ _ _))
  have mn : m ≠ 0 := by omega
  have in1 : ∀ (x : Int) (s : LS), intD [.int x] s = .ret (.int x) s := fun _ _ => rfl
  by_cases hd : 0 < dg
  · have s1 : mAsg (mOp modD (mFn intD (mCons (mOp ixD (mVar 0) (mRet (.str "digits"))) mNil)) (mVar 1)) (gNm 3) ⟨e, st⟩ = .ret .nx ⟨e.set 3 (some (.int (dg.fmod m))), st⟩ :=
      asg_r ((op_r ((fn1_r (dr_digits h he)).trans (in1 _ _)) (var_r hm)).trans (modD_int mn _)) nm_r
    have he2 : (e.set 3 (some (.int (dg.fmod m))))[0]? = some (some (.ref n)) := by rw [List.getElem?_set_ne (by decide)]; exact he
    have hm2 : (e.set 3 (some (.int (dg.fmod m))))[1]? = some (some (.int m)) := by rw [List.getElem?_set_ne (by decide)]; exact hm
    have hc2 : (e.set 3 (some (.int (dg.fmod m))))[3]? = some (some (.int (dg.fmod m))) := by rw [List.getElem?_set_self (by omega)]
    have s2 : mAsg (mOp fdivD (mOp ixD (mVar 0) (mRet (.str "digits"))) (mVar 1)) (gSubM (mVar 0) (mRet (.str "digits"))) ⟨e.set 3 (some (.int (dg.fmod m))), st⟩ = .ret .nx ⟨e.set 3 (some (.int (dg.fmod m))), st.set n (.dK (penD c at_ (dg.fdiv m) cn fo))⟩ :=
      asg_r ((op_r (dr_digits h he2) (var_r hm2)).trans (fdivD_int mn (by omega) _)) (dw_digits h he2)
    refine ⟨dg.fmod m, at_, dg.fdiv m, fo, e.set 3 (some (.int (dg.fmod m))), ?_, Int.fmod_nonneg_of_pos _ m0, Int.fmod_lt_of_pos _ m0, ⟨hb.a0, Int.fdiv_nonneg (by omega) (by omega), hb.c0, hb.c1, hb.f0, hb.f1⟩⟩
    have r : mIfS (mBool (mOp gtD (mOp ixD (mVar 0) (mRet (.str "digits"))) (mRet (.int 0)))) (mSeq (mAsg (mOp modD (mFn intD (mCons (mOp ixD (mVar 0) (mRet (.str "digits"))) mNil)) (mVar 1)) (gNm 3))
        (mSeq (mAsg (mOp fdivD (mOp ixD (mVar 0) (mRet (.str "digits"))) (mVar 1)) (gSubM (mVar 0) (mRet (.str "digits")))) (mRetS (mVar 3)))) mNext ⟨e, st⟩ = .ret (.rt (.int (dg.fmod m))) ⟨e.set 3 (some (.int (dg.fmod m))), st.set n (.dK (penD c at_ (dg.fdiv m) cn fo))⟩ := by
      rw [if_r t1, decide_eq_true hd, if_pos rfl, seq_r s1, seq_r s2]
      exact retS_r (var_r hc2)
    unfold mSeq at r ⊢
    rw [r]
    rfl
  · have r : mIfS (mBool (mOp gtD (mOp ixD (mVar 0) (mRet (.str "digits"))) (mRet (.int 0)))) (mSeq (mAsg (mOp modD (mFn intD (mCons (mOp ixD (mVar 0) (mRet (.str "digits"))) mNil)) (mVar 1)) (gNm 3))
        (mSeq (mAsg (mOp fdivD (mOp ixD (mVar 0) (mRet (.str "digits"))) (mVar 1)) (gSubM (mVar 0) (mRet (.str "digits")))) (mRetS (mVar 3)))) mNext ⟨e, st⟩ = .ret .nx ⟨e, st⟩ := by
      rw [if_r t1, decide_eq_false hd, if_neg Bool.false_ne_true]
      rfl
    have bl : (fo + cn * 8111 + 57).natAbs < 2 ^ 64 := by
      have := hb.c1; have := hb.c0; have := hb.f0; have := hb.f1
      omega
    have s1 : mAsg (mOp addD (mOp addD (mOp ixD (mVar 0) (mRet (.str "fold"))) (mOp mulD (mOp ixD (mVar 0) (mRet (.str "count"))) (mRet (.int 8111)))) (mRet (.int 57))) (gNm 4) ⟨e, st⟩ = .ret .nx ⟨e.set 4 (some (.int (fo + cn * 8111 + 57))), st⟩ :=
      asg_r ((op_r ((op_r (dr_fold h he) ((op_r (dr_count h he) ret_r).trans (mulD_int (by decide) _))).trans (addD_int _ _ _)) ret_r).trans (addD_int _ _ _)) nm_r
    have hm2 : (e.set 4 (some (.int (fo + cn * 8111 + 57))))[1]? = some (some (.int m)) := by rw [List.getElem?_set_ne (by decide)]; exact hm
    have hc2 : (e.set 4 (some (.int (fo + cn * 8111 + 57))))[4]? = some (some (.int (fo + cn * 8111 + 57))) := by rw [List.getElem?_set_self (by omega)]
    refine ⟨((((fo + cn * 8111 + 57) ^ (17 : Int).toNat).fmod 2305843009213693951).fdiv 128).fmod m, at_, dg, fo, e.set 4 (some (.int (fo + cn * 8111 + 57))), ?_, Int.fmod_nonneg_of_pos _ m0, Int.fmod_lt_of_pos _ m0, hb⟩
    rw [seq_r r, seq_r s1, same]
    exact retS_r ((op_r ((op_r ((fn1_r ((op_r ((op_r (var_r hc2) ret_r).trans (powD_int (by decide) (by decide) bl _)) ret_r).trans (modD_int (by decide) _))).trans (in1 _ _)) ret_r).trans (fdivD_int (by decide) (by decide) _)) (var_r hm2)).trans (modD_int mn _))
end
/-- the text's own draw -/
def rawDraw : F := fnM 2 5 m_draw
theorem raw_ok {n c k : Nat} {ns : List Int} {at_ dg cn fo m : Int} {S : List LO} (hl : ns.length ≤ 63) (h : PenS n c k ns at_ dg cn fo S) (m0 : 0 < m) (m1 : m < 1073741824) (hk : k < 2 ^ 39) : ∃ (r : Int) (a d q f : Int) (e : List (Option D)),
    rawDraw [.ref n, .int m] S = .ret (.int r) ⟨e, S.set n (.dK (penD c a d q f))⟩ ∧ 0 ≤ r ∧ r < m ∧ PenN (k + 1) a d q f := by
  have he : (startE 2 5 [.ref n, .int m])[0]? = some (some (.ref n)) := rfl
  have hm : (startE 2 5 [.ref n, .int m])[1]? = some (some (.int m)) := rfl
  have hb := h.b
  have h1 : PenS n c (k + 1) ns at_ dg (cn + 1) fo (S.set n (.dK (penD c at_ dg (cn + 1) fo))) := h.put ⟨hb.a0, hb.d0, by have := hb.c0; omega, by have := hb.c1; omega, hb.f0, hb.f1⟩
  have A := dr_A h he
  obtain ⟨e2, a2, d2, f2, B, he2, hm2, h52, b2⟩ := dr_B hl h1 he hm rfl
  rw [List.set_set] at B
  have h2 : PenS n c (k + 1) ns a2 d2 (cn + 1) f2 (S.set n (.dK (penD c a2 d2 (cn + 1) f2))) := h.put b2
  obtain ⟨r, a3, d3, f3, e3, C, r0, r1, b3⟩ := dr_C h2 he2 hm2 h52 m0 m1 (by omega)
  rw [List.set_set] at C
  refine ⟨r, a3, d3, cn + 1, f3, e3, ?_, r0, r1, b3⟩
  unfold rawDraw fnM
  rw [if_pos (show [D.ref n, D.int m].length = 2 from rfl)]
  have D : m_draw { env := startE 2 5 [.ref n, .int m], st := S } = .ret (.rt (.int r)) ⟨e3, S.set n (.dK (penD c a3 d3 (cn + 1) f3))⟩ := by
    unfold m_draw
    rw [seq_r A, seq_r B, C]
  rw [D]
  rfl
end Mz

set_option Elab.async false
set_option linter.all false
set_option maxRecDepth 100000
set_option maxHeartbeats 4000000
namespace Mz
open PySem PySem.Spec PyProof.Rows L2

/-! ### the pen closed: a draw as any number below m -/
def drawF : F := fun ds S => match ds with
  | [.ref n, .int m] => match S[n]? with
    | some (.pen k c) => match S[c]? with
      | some .cel => if 0 < m ∧ m < 1073741824 ∧ k < 549755813888 then .draw m.toNat fun i => .ret (.int i) ⟨[], S.set n (.pen (k + 1) c)⟩ else .bad
      | _ => .bad
    | _ => .bad
  | _ => .bad
theorem penHO_stable {B : Bx} {p c : Addr} {k : Nat} {h1 h2 : Heap} (x : ∃ at_ dg cn fo, PenN k at_ dg cn fo ∧ (p == sysModules) = false ∧ ∃ vs, KV (penK c at_ dg cn fo) vs ∧ h1.DictOf (mixKind B.P B.w) p vs)
    (e : ∀ o, h1.get? p = some o → h2.get? p = some o) : ∃ at_ dg cn fo, PenN k at_ dg cn fo ∧ (p == sysModules) = false ∧ ∃ vs, KV (penK c at_ dg cn fo) vs ∧ h2.DictOf (mixKind B.P B.w) p vs := by
  obtain ⟨at_, dg, cn, fo, pn, sm, vs, kv, d⟩ := x
  obtain ⟨o, es, ep, g, r⟩ := d
  exact ⟨at_, dg, cn, fo, pn, sm, vs, kv, o, es, ep, e o g, r⟩
theorem repk_pen {B : Bx} {ρ : List Addr} {H : Hp} {c : Nat} {c' : Addr} {a d q f : Int} {vs : List (Key × V)} (hc : ρ[c]? = some c') (r : RepK B ρ H (penD c a d q f) vs) : vs = penK c' a d q f := by
  obtain ⟨v1, r1, rfl, ⟨c2, rfl, hc2⟩, h1⟩ := r
  rw [hc] at hc2; cases hc2
  obtain ⟨v2, r2, rfl, e2, h2⟩ := h1
  obtain ⟨v3, r3, rfl, e3, h3⟩ := h2
  obtain ⟨v4, r4, rfl, e4, h4⟩ := h3
  obtain ⟨v5, r5, rfl, e5, h5⟩ := h4
  cases (e2 : v2 = _); cases (e3 : v3 = _); cases (e4 : v4 = _); cases (e5 : v5 = _); cases (h5 : r5 = [])
  rfl
theorem pen_repk {B : Bx} {ρ : List Addr} {H : Hp} {c : Nat} {c' : Addr} {a d q f : Int} (hc : ρ[c]? = some c') : RepK B ρ H (penD c a d q f) (penK c' a d q f) :=
  ⟨_, _, rfl, ⟨c', rfl, hc⟩, _, _, rfl, rfl, _, _, rfl, rfl, _, _, rfl, rfl, _, _, rfl, rfl, rfl⟩
theorem upd_self {H : Hp} {a : Addr} {o : HO} (h : H a = some o) : upd H a o = H := by
  funext b
  by_cases hb : b = a
  · subst hb; rw [upd_same, h]
  · rw [upd_ne hb]
theorem five : (5 : Nat) ≤ sizeLine := by rw [sizeLine_eq]; decide
theorem pre_eq {ρ ρ' : List Addr} (p : ρ <+: ρ') (l : ρ'.length = ρ.length) : ρ' = ρ := (p.eq_of_length l.symm).symm
section
variable {P : Program} {w : World} {K : PySem.W.Frag} {mg : Str → Option Value} {base : Heap}
theorem set3 {S : List LO} {n c : Nat} {X Y Z U : LO} (hne : n ≠ c) (hc : S[c]? = some .cel) : ((((S.set n X).set c Y).set n Z).set n U).set c .cel = S.set n U := by
  apply List.ext_getElem?
  intro i
  have hcl := (List.getElem?_eq_some_iff.mp hc).1
  by_cases h1 : c = i
  · subst h1
    rw [List.getElem?_set_self (by simpa using hcl), List.getElem?_set_ne hne, hc]
  · rw [List.getElem?_set_ne h1]
    by_cases h2 : n = i
    · subst h2
      by_cases hn : n < S.length
      · rw [List.getElem?_set_self (by simpa using hn), List.getElem?_set_self (by simpa using hn)]
      · rw [List.getElem?_eq_none (by simpa using hn), List.getElem?_eq_none (by simpa using hn)]
    · rw [List.getElem?_set_ne h2, List.getElem?_set_ne h2, List.getElem?_set_ne h1, List.getElem?_set_ne h2, List.getElem?_set_ne h2]
theorem draw_ok {j : Nat} {f : Addr} {fd : FuncData} {ps : List Str} (hps : ps.length = 2) (F : FnOk P w K mg base (L2.CX P w) j f fd ps (spM ⟨P, w, K⟩ 2 rawDraw)) : FnOk P w K mg base (L2.CX P w) j f fd ps (spM ⟨P, w, K⟩ 2 drawF) := by
  refine ⟨fun vs H Q E h => h.1.trans hps.symm, fun A outer s H args us vs Q E hr he hb hv hs => ?_⟩
  obtain ⟨hvl, ρ, S, ds, sto, rl, h⟩ := hs
  unfold drawF at h
  split at h
  · rename_i n m
    split at h
    · rename_i k c hSn
      split at h
      · rename_i hSc
        split at h
        · rename_i hm
          obtain ⟨m0, m1, hk⟩ := hm
          obtain ⟨v1, v2, rfl, q1, q2⟩ := repl2 rl
          obtain ⟨a, rfl, hn⟩ := (q1 : ∃ a, v1 = .ref a ∧ ρ[n]? = some a)
          cases (q2 : v2 = _)
          obtain ⟨c', hHa, hρc⟩ := (sto.obj n a _ hn hSn : ∃ c : Addr, H a = some (penHO ⟨P, w, K⟩ a c k) ∧ ρ[_]? = some c)
          obtain ⟨ns, hHc, hl⟩ := (sto.obj c c' _ hρc hSc : ∃ ns : List Int, H c' = some (.lst (ns.map V.int)) ∧ ns.length ≤ 63)
          obtain ⟨⟨at_, dg, cn, fo, pn, sm, vs', kv, dict⟩, ⟨ob, hob⟩, _⟩ := (he.hok a _ hHa : ObjOk P w H s.heap a (penHO ⟨P, w, K⟩ a c' k))
          have ha : a ∈ ρ := List.mem_of_getElem? hn
          have nac : c' ≠ a := fun z => by subst z; rw [hHa] at hHc; cases hHc
          have nnc : n ≠ c := fun z => by subst z; rw [hn] at hρc; cases hρc; exact nac rfl
          have mu : Mut (H a) := by rw [hHa]; trivial
          obtain ⟨H2, eH2⟩ : ∃ H2, H2 = upd H a (.dK (penK c' at_ dg cn fo)) := ⟨_, rfl⟩
          have hok2 : HOk P w H2 s.heap := by
            rw [eH2]
            exact he.hok.write mu (.inl rfl) (fun b u _ q => q) ⟨ob, hob⟩ ⟨five, sm, vs', kv, dict⟩
          have un2 : ∀ fs ex, Un fs ex H H2 s.heap s.heap := fun fs ex => by
            rw [eH2]
            exact Un.write mu (.inl rfl) (fun b u _ q => q) ⟨ob, hob⟩
          have nn : ∀ b, H b = none → H2 b = none := fun b e => by
            rw [eH2, upd_ne (fun z => by subst z; rw [hHa] at e; cases e)]
            exact e
          have env2 : Env0 P w K mg base A outer s H2 := ⟨he.frames, he.mod, fun b o e => ⟨(he.bs b o e).1, nn b (he.bs b o e).2⟩, he.bsz, he.funs, fun b hb => nn b (he.frf b hb), hok2, he.bare⟩
          have hH2c : H2 c' = some (.lst (ns.map V.int)) := by rw [eH2, upd_ne nac]; exact hHc
          have go2 : Go ρ H ρ H2 := by rw [eH2]; exact .write ha
          have sto1 : StoR ⟨P, w, K⟩ ρ H2 (S.set n (.dK (penD c at_ dg cn fo))) := by
            rw [eH2]
            exact sto.write hn ⟨_, upd_same, pen_repk hρc⟩
          have sto2 : StoR ⟨P, w, K⟩ ρ H2 ((S.set n (.dK (penD c at_ dg cn fo))).set c (.lst (ns.map D.int))) := by
            have := sto1.write (o := .lst (ns.map V.int)) (u := .lst (ns.map D.int)) hρc ⟨ns.map V.int, upd_same, RepL.map (f := D.int) (g := V.int) (fun _ => rfl) ns⟩
            rw [upd_self hH2c] at this
            exact this
          obtain ⟨S2, eS2⟩ : ∃ S2, S2 = (S.set n (.dK (penD c at_ dg cn fo))).set c (.lst (ns.map D.int)) := ⟨_, rfl⟩
          rw [← eS2] at sto2
          have hnl := (List.getElem?_eq_some_iff.mp hSn).1
          have hcl := (List.getElem?_eq_some_iff.mp hSc).1
          have pS : PenS n c k ns at_ dg cn fo S2 := by
            rw [eS2]
            exact ⟨by rw [List.getElem?_set_ne nnc.symm, List.getElem?_set_self hnl], by rw [List.getElem?_set_self (by simpa using hcl)], pn⟩
          obtain ⟨r, a3, d3, q3, f3, e3, eq, r0, r1, b3⟩ := raw_ok hl pS m0 m1 hk
          have sp2 : spM ⟨P, w, K⟩ 2 rawDraw [.ref a, .int m] H2 (fun v H' => StoR ⟨P, w, K⟩ ρ H' (S2.set n (.dK (penD c a3 d3 q3 f3))) ∧ Go ρ H2 ρ H' ∧ v = .int r) (fun _ _ _ => False) := by
            refine ⟨rfl, ρ, S2, [.ref n, .int m], sto2, ⟨_, _, rfl, ⟨a, rfl, hn⟩, _, _, rfl, rfl, rfl⟩, ?_⟩
            rw [eq]
            intro ρ' H' v g st rv
            have hl2 : ρ'.length = ρ.length := by rw [st.len, sto2.len]; simp
            have e2 := pre_eq g.pre hl2
            subst e2
            exact ⟨st, g, rv⟩
          refine codeAny_mono (F.run A outer s H2 args us _ _ _ hr env2 hb hv sp2) fun r' s' hq => ?_
          cases r' with
          | error e =>
            obtain ⟨_, _, _, _, _, _, _, _, _, _, _, _, hE⟩ := (hq : L2.CX P w outer H2 s (fun _ _ _ => False) e s')
            exact hE.elim
          | ok fl =>
            cases fl with
            | ret u =>
              obtain ⟨v, H', os, bare, un, hok', rv, st', g', ev⟩ := (hq : CE outer P w H2 s _ u s')
              subst ev
              have hS2n : (S2.set n (.dK (penD c a3 d3 q3 f3)))[n]? = some (.dK (penD c a3 d3 q3 f3)) := by rw [List.getElem?_set_self (by rw [eS2]; simpa using hnl)]
              obtain ⟨vs3, hH'a, rk⟩ := (st'.obj n a _ hn hS2n : ∃ vs, H' a = some (.dK vs) ∧ RepK ⟨P, w, K⟩ ρ H' (penD c a3 d3 q3 f3) vs)
              have evs := repk_pen hρc rk
              subst evs
              obtain ⟨_, sm', vs4, kv4, dict4⟩ := (hok' a _ hH'a : ObjOk P w H' s'.heap a (.dK (penK c' a3 d3 q3 f3)))
              have mu' : Mut (H' a) := by rw [hH'a]; trivial
              obtain ⟨o4, ho4⟩ : ∃ o, s'.heap.get? a = some o := by
                obtain ⟨o, _, _, ho, _⟩ := dict4
                exact ⟨o, ho⟩
              have hH'c : H' c' = some (.lst (ns.map V.int)) := by
                have hS2c : (S2.set n (.dK (penD c a3 d3 q3 f3)))[c]? = some (.lst (ns.map D.int)) := by rw [List.getElem?_set_ne nnc]; exact pS.c
                obtain ⟨vs5, h5, r5⟩ := (st'.obj c c' _ hρc hS2c : ∃ vs, H' c' = some (.lst vs) ∧ RepL ⟨P, w, K⟩ ρ H' (ns.map D.int) vs)
                have : vs5 = ns.map V.int := by
                  have e1 : ∀ (l : List Int) (us : List V), RepL ⟨P, w, K⟩ ρ H' (l.map D.int) us → us = l.map V.int := by
                    intro l
                    induction l with
                    | nil => intro us q; exact q
                    | cons i l ih =>
                      intro us q
                      obtain ⟨v, vr, rfl, q1, q2⟩ := (q : ∃ v vr, us = v :: vr ∧ Rep _ ρ H' (.int i) v ∧ RepL _ ρ H' (l.map D.int) vr)
                      cases (q1 : v = _)
                      rw [ih _ q2]
                      rfl
                  exact e1 ns vs5 r5
                rw [this] at h5
                exact h5
              have hfin : HOk P w (upd H' a (penHO ⟨P, w, K⟩ a c' (k + 1))) s'.heap :=
                hok'.write mu' (.inl rfl) (fun b u _ q => q) ⟨o4, ho4⟩ ⟨⟨a3, d3, q3, f3, b3, sm', vs4, kv4, dict4⟩, ⟨o4, ho4⟩, fun h1 h2 x e => penHO_stable (B := ⟨P, w, K⟩) x e⟩
              refine ⟨.int r, upd H' a (penHO ⟨P, w, K⟩ a c' (k + 1)), os, bare, (un2 _ _).trans (un.trans (Un.write mu' (.inl rfl) (fun b u _ q => q) ⟨o4, ho4⟩)), hfin, rv, ?_⟩
              have st6 := st'.write (o := penHO ⟨P, w, K⟩ a c' (k + 1)) (u := .pen (k + 1) c) hn ⟨c', upd_same, hρc⟩
              have hH6c : upd H' a (penHO ⟨P, w, K⟩ a c' (k + 1)) c' = some (.lst (ns.map V.int)) := by rw [upd_ne nac]; exact hH'c
              have st7 := st6.write (o := .lst (ns.map V.int)) (u := .cel) hρc ⟨ns, upd_same, hl⟩
              rw [upd_self hH6c, eS2, set3 nnc hSc] at st7
              refine h r.toNat (by omega) ρ _ (.int r) ((go2.trans g').trans (.write ha)) st7 ?_
              show V.int r = V.int ((r.toNat : Nat) : Int)
              rw [Int.toNat_of_nonneg r0]
            | next => exact False.elim hq
            | brk => exact False.elim hq
            | cont => exact False.elim hq
        · exact h.elim
      · exact h.elim
    · exact h.elim
  · exact h.elim
end
end Mz

set_option Elab.async false
set_option linter.all false
set_option maxRecDepth 100000
set_option maxHeartbeats 4000000
namespace Mz
open PySem PySem.Spec PyProof.Rows L2

/-! ### the pen made -/
def m_pen : M Fl :=
    (mSeq (mAsg (mRet (.int 0)) (gNm 1))
    (mSeq (mFor (mIt (mVar 0)) (gNm 2) (mAsg (mOp modD (mFn intD (mCons (mOp addD (mOp mulD (mVar 1) (mRet (.int 61))) (mVar 2)) mNil)) (mRet (.int 1000000007))) (gNm 1)))
    (mRetS (mDict [((mRet (.str "cells")), (mFn listD (mCons (mVar 0) mNil))), ((mRet (.str "at")), (mRet (.int 0))), ((mRet (.str "digits")), (mRet (.int 0))), ((mRet (.str "count")), (mRet (.int 0))), ((mRet (.str "fold")), mVar 1)]))))
def rawPen : F := fnM 1 3 m_pen
def penF : F := fun ds S => match ds with
  | [.scr _] => .ret (.ref S.length) ⟨[], S ++ [.pen 0 (S.length + 1), .cel]⟩
  | _ => .bad
theorem pen_loop (z : List Int) : ∀ (ns : List Int) (fo : Int) (x : Option D) (S : List LO), 0 ≤ fo → fo < 2147483587 → ∃ (f' : Int) (x' : Option D), 0 ≤ f' ∧ f' < 2147483587 ∧
    loopT (gNm 2) (mAsg (mOp modD (mFn intD (mCons (mOp addD (mOp mulD (mVar 1) (mRet (.int 61))) (mVar 2)) mNil)) (mRet (.int 1000000007))) (gNm 1)) (ns.map D.int) ⟨[some (.scr z), some (.int fo), x], S⟩ = .ret .nx ⟨[some (.scr z), some (.int f'), x'], S⟩
  | [], fo, x, S, h0, h1 => ⟨fo, x, h0, h1, rfl⟩
  | i :: ns, fo, x, S, h0, h1 => by
    have st : mAsg (mOp modD (mFn intD (mCons (mOp addD (mOp mulD (mVar 1) (mRet (.int 61))) (mVar 2)) mNil)) (mRet (.int 1000000007))) (gNm 1) ⟨[some (.scr z), some (.int fo), some (.int i)], S⟩ = .ret .nx ⟨[some (.scr z), some (.int ((fo * 61 + i).fmod 1000000007)), some (.int i)], S⟩ :=
      asg_r ((op_r ((fn1_r ((op_r ((op_r (var_r rfl) ret_r).trans (mulD_int (by decide) _)) (var_r rfl)).trans (addD_int _ _ _))).trans (show intD [.int (fo * 61 + i)] _ = _ from rfl)) ret_r).trans (modD_int (by decide) _)) nm_r
    have a0 : 0 ≤ (fo * 61 + i).fmod 1000000007 := Int.fmod_nonneg_of_pos _ (by decide)
    have a1 : (fo * 61 + i).fmod 1000000007 < 1000000007 := Int.fmod_lt_of_pos _ (by decide)
    obtain ⟨f', x', g0, g1, e⟩ := pen_loop z ns ((fo * 61 + i).fmod 1000000007) (some (.int i)) S a0 (by omega)
    refine ⟨f', x', g0, g1, ?_⟩
    rw [List.map_cons]
    unfold loopT
    rw [nm_r, bind_ret]
    unfold turn
    show ((mAsg _ _ (⟨[some (.scr z), some (.int fo), some (.int i)], S⟩ : LS)).bind _) = _
    rw [st, bind_ret]
    exact e
theorem pen_merge {c : Nat} {fo : Int} : mergeD [(.inr "cells", .ref c), (.inr "at", .int 0), (.inr "digits", .int 0), (.inr "count", .int 0), (.inr "fold", .int fo)] = penD c 0 0 0 fo := by
  unfold mergeD penD putD
  simp only [List.foldl_cons, List.foldl_nil, List.any_cons, List.any_nil, List.map_cons, List.map_nil, Bool.false_eq_true, if_false, List.nil_append, List.cons_append, decide_eq_false kn1, decide_eq_false kn2, decide_eq_false kn3, decide_eq_false kn4, decide_eq_false kn5, decide_eq_false kn6, decide_eq_false kn7, decide_eq_false kn8, decide_eq_false kn9, decide_eq_false kn10, Bool.or_false, Bool.false_or]
theorem rawPen_ok (ns : List Int) (S : List LO) : ∃ (fo : Int) (e : List (Option D)), rawPen [.scr ns] S = .ret (.ref S.length) ⟨e, S ++ [.dK (penD (S.length + 1) 0 0 0 fo), .lst (ns.map D.int)]⟩ ∧ 0 ≤ fo ∧ fo < 2147483587 := by
  obtain ⟨f', x', g0, g1, e⟩ := pen_loop ns ns 0 none S (by decide) (by decide)
  refine ⟨f', [some (.scr ns), some (.int f'), x'], ?_, g0, g1⟩
  unfold rawPen fnM
  rw [if_pos (show [D.scr ns].length = 1 from rfl)]
  have s1 : mAsg (mRet (.int 0)) (gNm 1) { env := startE 1 3 [.scr ns], st := S } = .ret .nx ⟨[some (.scr ns), some (.int 0), none], S⟩ := asg_r ret_r nm_r
  have s2 : mFor (mIt (mVar 0)) (gNm 2) (mAsg (mOp modD (mFn intD (mCons (mOp addD (mOp mulD (mVar 1) (mRet (.int 61))) (mVar 2)) mNil)) (mRet (.int 1000000007))) (gNm 1)) ⟨[some (.scr ns), some (.int 0), none], S⟩ = .ret .nx ⟨[some (.scr ns), some (.int f'), x'], S⟩ := e
  have s3 : mDict [((mRet (.str "cells")), (mFn listD (mCons (mVar 0) mNil))), ((mRet (.str "at")), (mRet (.int 0))), ((mRet (.str "digits")), (mRet (.int 0))), ((mRet (.str "count")), (mRet (.int 0))), ((mRet (.str "fold")), mVar 1)] ⟨[some (.scr ns), some (.int f'), x'], S⟩ =
      .ret (.ref S.length) ⟨[some (.scr ns), some (.int f'), x'], S ++ [.dK (penD (S.length + 1) 0 0 0 f'), .lst (ns.map D.int)]⟩ := by
    unfold mDict
    have p : mPairs [((mRet (.str "cells")), (mFn listD (mCons (mVar 0) mNil))), ((mRet (.str "at")), (mRet (.int 0))), ((mRet (.str "digits")), (mRet (.int 0))), ((mRet (.str "count")), (mRet (.int 0))), ((mRet (.str "fold")), mVar 1)] ⟨[some (.scr ns), some (.int f'), x'], S ++ [.dK []]⟩ =
        .ret [(.str "cells", .ref (S ++ [LO.dK []]).length), (.str "at", .int 0), (.str "digits", .int 0), (.str "count", .int 0), (.str "fold", .int f')] ⟨[some (.scr ns), some (.int f'), x'], (S ++ [.dK []]) ++ [.lst (ns.map D.int)]⟩ := rfl
    show ((mPairs _ (⟨[some (.scr ns), some (.int f'), x'], S ++ [.dK []]⟩ : LS)).bind _) = _
    rw [p, bind_ret]
    have k : allO keyP [(.str "cells", .ref (S ++ [LO.dK []]).length), (.str "at", .int 0), (.str "digits", .int 0), (.str "count", .int 0), (.str "fold", .int f')] = some [(.inr "cells", .ref (S.length + 1)), (.inr "at", .int 0), (.inr "digits", .int 0), (.inr "count", .int 0), (.inr "fold", .int f')] := by
      rw [List.length_append]
      rfl
    have g : ((S ++ [LO.dK []]) ++ [.lst (ns.map D.int)])[S.length]? = some (.dK []) := by
      rw [List.append_assoc, List.getElem?_append_right (Nat.le_refl _), Nat.sub_self]
      rfl
    rw [k]
    simp only [g]
    rw [if_pos (Nat.le_of_ble_eq_true rfl), pen_merge]
    congr 1
    congr 1
    rw [List.append_assoc, List.set_append_right _ _ (Nat.le_refl _), Nat.sub_self]
    rfl
  have D : m_pen { env := startE 1 3 [.scr ns], st := S } = .ret (.rt (.ref S.length)) ⟨[some (.scr ns), some (.int f'), x'], S ++ [.dK (penD (S.length + 1) 0 0 0 f'), .lst (ns.map D.int)]⟩ := by
    unfold m_pen
    rw [seq_r s1, seq_r s2]
    exact retS_r s3
  rw [D]
  rfl
section
variable {P : Program} {w : World} {K : PySem.W.Frag} {mg : Str → Option Value} {base : Heap}
theorem repl_ints {B : Bx} {ρ : List Addr} {H : Hp} : ∀ (l : List Int) (us : List V), RepL B ρ H (l.map D.int) us → us = l.map V.int
  | [], us, q => q
  | i :: l, us, q => by
    obtain ⟨v, vr, rfl, q1, q2⟩ := (q : ∃ v vr, us = v :: vr ∧ Rep _ ρ H (.int i) v ∧ RepL _ ρ H (l.map D.int) vr)
    cases (q1 : v = _)
    rw [repl_ints l _ q2]
    rfl
theorem pen_ok {j : Nat} {f : Addr} {fd : FuncData} {ps : List Str} (hps : ps.length = 1) (F : FnOk P w K mg base (L2.CX P w) j f fd ps (spM ⟨P, w, K⟩ 1 rawPen)) : FnOk P w K mg base (L2.CX P w) j f fd ps (spM ⟨P, w, K⟩ 1 penF) := by
  refine ⟨fun vs H Q E h => h.1.trans hps.symm, fun A outer s H args us vs Q E hr he hb hv hs => ?_⟩
  obtain ⟨hvl, ρ, S, ds, sto, rl, h⟩ := hs
  unfold penF at h
  split at h
  · rename_i ns
    obtain ⟨v1, rfl, q1⟩ := repl1 rl
    obtain ⟨_, _, _, hl⟩ := (q1 : ∃ a, v1 = .ref a ∧ _ ∧ ns.length ≤ 63)
    obtain ⟨fo, e, eq, f0, f1⟩ := rawPen_ok ns S
    obtain ⟨S2, eS2⟩ : ∃ S2, S2 = S ++ [.dK (penD (S.length + 1) 0 0 0 fo), .lst (ns.map D.int)] := ⟨_, rfl⟩
    have sp2 : spM ⟨P, w, K⟩ 1 rawPen [v1] H (fun v H' => ∃ ρ', Go ρ H ρ' H' ∧ StoR ⟨P, w, K⟩ ρ' H' S2 ∧ Rep ⟨P, w, K⟩ ρ' H' (.ref S.length) v) (fun _ _ _ => False) := by
      refine ⟨rfl, ρ, S, [.scr ns], sto, rl, ?_⟩
      rw [eq, ← eS2]
      exact fun ρ' H' v g st rv => ⟨ρ', g, st, rv⟩
    refine codeAny_mono (F.run A outer s H args us _ _ _ hr he hb hv sp2) fun r' s' hq => ?_
    cases r' with
    | error e =>
      obtain ⟨_, _, _, _, _, _, _, _, _, _, _, _, hE⟩ := (hq : L2.CX P w outer H s (fun _ _ _ => False) e s')
      exact hE.elim
    | ok fl =>
      cases fl with
      | ret u =>
        obtain ⟨v, H', os, bare, un, hok', rv, ρ', g', st', a, rfl, hn⟩ := (hq : CE outer P w H s _ u s')
        have hS2n : S2[S.length]? = some (.dK (penD (S.length + 1) 0 0 0 fo)) := by
          rw [eS2, List.getElem?_append_right (Nat.le_refl _), Nat.sub_self]; rfl
        have hS2c : S2[S.length + 1]? = some (.lst (ns.map D.int)) := by
          rw [eS2, List.getElem?_append_right (Nat.le_succ _), show S.length.succ - S.length = 1 by omega]; rfl
        obtain ⟨c', hρc⟩ : ∃ c', ρ'[S.length + 1]? = some c' := by
          have hlen : ρ'.length = S.length + 2 := by rw [st'.len, eS2]; simp
          exact ⟨_, List.getElem?_eq_getElem (by omega)⟩
        obtain ⟨vs3, hH'a, rk⟩ := (st'.obj _ a _ hn hS2n : ∃ vs, H' a = some (.dK vs) ∧ RepK ⟨P, w, K⟩ ρ' H' (penD (S.length + 1) 0 0 0 fo) vs)
        have evs := repk_pen hρc rk
        subst evs
        obtain ⟨_, sm', vs4, kv4, dict4⟩ := (hok' a _ hH'a : ObjOk P w H' s'.heap a (.dK (penK c' 0 0 0 fo)))
        have mu' : Mut (H' a) := by rw [hH'a]; trivial
        obtain ⟨o4, ho4⟩ : ∃ o, s'.heap.get? a = some o := by
          obtain ⟨o, _, _, ho, _⟩ := dict4
          exact ⟨o, ho⟩
        obtain ⟨vs5, hH'c, r5⟩ := (st'.obj _ c' _ hρc hS2c : ∃ vs, H' c' = some (.lst vs) ∧ RepL ⟨P, w, K⟩ ρ' H' (ns.map D.int) vs)
        rw [repl_ints ns vs5 r5] at hH'c
        have nac : c' ≠ a := fun z => by subst z; rw [hH'a] at hH'c; cases hH'c
        have b0 : PenN 0 0 0 0 fo := ⟨by decide, by decide, by decide, by decide, f0, f1⟩
        have hfin : HOk P w (upd H' a (penHO ⟨P, w, K⟩ a c' 0)) s'.heap :=
          hok'.write mu' (.inl rfl) (fun b u _ q => q) ⟨o4, ho4⟩ ⟨⟨0, 0, 0, fo, b0, sm', vs4, kv4, dict4⟩, ⟨o4, ho4⟩, fun h1 h2 x e => penHO_stable (B := ⟨P, w, K⟩) x e⟩
        refine ⟨.ref a, upd H' a (penHO ⟨P, w, K⟩ a c' 0), os, bare, un.trans (Un.write mu' (.inl rfl) (fun b u _ q => q) ⟨o4, ho4⟩), hfin, rv, ?_⟩
        have st6 := st'.write (o := penHO ⟨P, w, K⟩ a c' 0) (u := .pen 0 (S.length + 1)) hn ⟨c', upd_same, hρc⟩
        have hH6c : upd H' a (penHO ⟨P, w, K⟩ a c' 0) c' = some (.lst (ns.map V.int)) := by rw [upd_ne nac]; exact hH'c
        have st7 := st6.write (o := .lst (ns.map V.int)) (u := .cel) hρc ⟨ns, upd_same, hl⟩
        rw [upd_self hH6c] at st7
        have e7 : ((S2.set S.length (.pen 0 (S.length + 1))).set (S.length + 1) .cel) = S ++ [.pen 0 (S.length + 1), .cel] := by
          rw [eS2, List.set_append_right _ _ (Nat.le_refl _), List.set_append_right _ _ (Nat.le_succ _), Nat.sub_self, show S.length.succ - S.length = 1 by omega]
          rfl
        rw [e7] at st7
        exact h ρ' _ (.ref a) (g'.trans (.write (List.mem_of_getElem? hn))) st7 ⟨a, rfl, hn⟩
      | next => exact False.elim hq
      | brk => exact False.elim hq
      | cont => exact False.elim hq
  · exact h.elim
end
end Mz

set_option Elab.async false
set_option linter.all false
set_option maxRecDepth 100000
set_option maxHeartbeats 4000000
namespace Mz
open PySem PySem.Spec PyProof.Rows L2
/-- what a law comes to: every run of its program says True -/
def Keeps (f : F) : Prop := ∀ ns : List Int, ns.length ≤ 63 → (f [.scr ns] []).all (fun d _ => d = .bl true) (fun _ _ => False)
theorem keeps_sp {B : Bx} {f : F} (h : Keeps f) {H : Hp} {a : Addr} {ns : List Int} (hl : ns.length ≤ 63) (hO : Only H) (hS : SqL B.K H a (ns.map V.int)) : spM B 1 f [.ref a] H (fun v _ => v = .bl true) fun _ _ _ => False := by
  refine ⟨rfl, [], [], [.scr ns], ⟨rfl, List.nodup_nil, fun n a o h1 _ => by simp at h1⟩, ⟨.ref a, [], rfl, ⟨a, rfl, ?_, hl⟩, rfl⟩, T.all_mono (fun d s p => ?_) (fun x s p => p.elim) (h ns hl)⟩
  · rcases hS with (hS | ⟨o, hS⟩) | hS
    · rcases hO a with z | ⟨o, xs, z⟩
      · rw [hS] at z; cases z
      · rw [hS] at z; cases z
    · exact .inl ⟨by simp, o, hS⟩
    · exact .inr hS
  · subst p
    intro ρ' H' v g st r
    exact r
theorem walkM {l : PySem.W.OpenLaw} {f : F} {k : Nat} {q : Program} {loose : List Str} {XP : (Str → Option Value) → Heap → Prop} {YP : World → Heap → Prop} {d : DefRec} {K : Params → PySem.W.Frag} (hf : Keeps f) (hn : l.most = some 63) (hdf : d.params.defaults = []) (hr : Room k callerA)
    (hY : ∀ (w : World) (h : Heap), YP w h → (K w.params).In h)
    (F : ∀ (w : World) (mg : Str → Option Value) (fa : Addr) (h : Heap), (K w.params).In h → h.Ns mainGlobals mg → mg d.name = some (.ref fa) →
      ∃ fd : FuncData, (∀ (s : Shared) (u : Value), BindsTo s fd ⟨[u], []⟩ [("_law_script", u)]) ∧ ∀ base : Heap, (K w.params).In base → base.Ns mainGlobals mg → FnOk l.prog w (K w.params) mg base (L2.CX l.prog w) k fa fd ["_law_script"] (spM ⟨l.prog, w, K w.params⟩ 1 f)) :
    PySem.W.WalkO q loose XP YP l.row.toRowW d [] (fun f vs => PySem.call f vs) :=
  L2.walk_of (n := 63) (k := k) (x := "_law_script") (CX := fun w => L2.CX l.prog w) (sp := fun w => spM ⟨l.prog, w, K w.params⟩ 1 f) hn (by decide) hdf hr hY F (fun w H a ns hl hO hS => keeps_sp hf hl hO hS) fun w H s e s' z => by
    obtain ⟨_, _, _, _, _, _, _, _, _, _, _, _, hE⟩ := z
    exact hE
end Mz

set_option Elab.async false
set_option linter.all false
set_option maxRecDepth 100000
set_option maxHeartbeats 4000000
namespace Mz
open PySem PySem.Spec PyProof.Rows L2
/-! ### symbolic runs: each word as a head and what goes on behind it -/
section
variable {s s1 : LS} {e : List (Option D)} {st : List LO} {a b c : M D} {l r : M (List D)} {x y z : D} {xs : List D} {f g : D → D → M D} {F : List D → M D} {p q : M Fl} {t u : M Bool} {gm : D → M Unit} {j : M Sq} {i n : Nat} {β : Bool}
def kSeq (q : M Fl) : Fl → LS → T Fl
  | .nx, s => q s
  | f, s => .ret f s
theorem sx_seq : mSeq p q s = (p s).bind (kSeq q) := by
  unfold mSeq
  congr 1
  funext f s1
  cases f <;> rfl
theorem kSeq_nx : kSeq q .nx s = q s := rfl
theorem kSeq_rt : kSeq q (.rt x) s = .ret (.rt x) s := rfl
theorem kSeq_bk : kSeq q .bk s = .ret .bk s := rfl
theorem kSeq_ct : kSeq q .ct s = .ret .ct s := rfl
theorem sx_next : mNext s = .ret .nx s := rfl
theorem sx_break : mBreak s = .ret .bk s := rfl
theorem sx_cont : mCont s = .ret .ct s := rfl
def kDrop : D → LS → T Fl := fun _ s => .ret .nx s
theorem sx_drop : mDrop a s = (a s).bind kDrop := rfl
theorem kDrop_ : kDrop x s = .ret .nx s := rfl
def kRetS : D → LS → T Fl := fun d s => .ret (.rt d) s
theorem sx_retS : mRetS a s = (a s).bind kRetS := rfl
theorem kRetS_ : kRetS x s = .ret (.rt x) s := rfl
def kIf (p q : M Fl) : Bool → LS → T Fl := fun b s => if b then p s else q s
theorem sx_if : mIfS t p q s = (t s).bind (kIf p q) := rfl
theorem kIf_t : kIf p q true s = p s := rfl
theorem kIf_f : kIf p q false s = q s := rfl
def kAsg (gm : D → M Unit) : D → LS → T Fl := fun d s => (gm d s).bind fun _ s2 => .ret .nx s2
def kNx : Unit → LS → T Fl := fun _ s => .ret .nx s
theorem sx_asg : mAsg a gm s = (a s).bind (kAsg gm) := rfl
theorem kAsg_ : kAsg gm x s = (gm x s).bind kNx := rfl
theorem kNx_ {w : Unit} : kNx w s = .ret .nx s := rfl
theorem sx_nm : gNm i x ⟨e, st⟩ = .ret () ⟨e.set i (some x), st⟩ := rfl
def kVar : Option (Option D) → LS → T D
  | some (some d), s => .ret d s
  | _, _ => .bad
theorem sx_var : mVar i ⟨e, st⟩ = kVar e[i]? ⟨e, st⟩ := by
  unfold mVar kVar
  cases h : e[i]? with
  | none => rfl
  | some o => cases o <;> rfl
theorem kVar_ : kVar (some (some x)) s = .ret x s := rfl
theorem sx_ret {α : Type} {x : α} : mRet x s = .ret x s := rfl
def kOp1 (f : D → D → M D) (b : M D) : D → LS → T D := fun x s1 => (b s1).bind fun y s2 => f x y s2
def kOp2 (f : D → D → M D) (x : D) : D → LS → T D := fun y s2 => f x y s2
theorem sx_op : mOp f a b s = (a s).bind (kOp1 f b) := rfl
theorem kOp1_ : kOp1 f b x s = (b s).bind (kOp2 f x) := rfl
theorem kOp2_ : kOp2 f x y s = f x y s := rfl
def kUn (h : D → M D) : D → LS → T D := fun x s1 => h x s1
theorem sx_un {h : D → M D} : mUn h a s = (a s).bind (kUn h) := rfl
theorem kUn_ {h : D → M D} : kUn h x s = h x s := rfl
theorem sx_nil : mNil s = .ret [] s := rfl
def kCons1 (r : M (List D)) : D → LS → T (List D) := fun x s1 => (r s1).bind fun xs s2 => .ret (x :: xs) s2
def kCons2 (x : D) : List D → LS → T (List D) := fun xs s2 => .ret (x :: xs) s2
theorem sx_cons : mCons a r s = (a s).bind (kCons1 r) := rfl
theorem kCons1_ : kCons1 r x s = (r s).bind (kCons2 x) := rfl
theorem kCons2_ : kCons2 x xs s = .ret (x :: xs) s := rfl
def kTup : List D → LS → T D := fun ds s1 => if ds.length ≤ LIM then .ret (.tup ds) s1 else .bad
def kLst : List D → LS → T D := fun ds s1 => if ds.length ≤ LIM then alloc (.lst ds) s1 else .bad
theorem sx_tup : mTup r s = (r s).bind kTup := rfl
theorem sx_lst : mLst r s = (r s).bind kLst := rfl
theorem kTup_ (h : xs.length ≤ LIM) : kTup xs s = .ret (.tup xs) s := if_pos h
theorem kLst_ (h : xs.length ≤ LIM) : kLst xs ⟨e, st⟩ = .ret (.ref st.length) ⟨e, st ++ [.lst xs]⟩ := if_pos h
def kFn (F : List D → M D) : List D → LS → T D := fun ds s1 => F ds s1
theorem sx_fn : mFn F r s = (r s).bind (kFn F) := rfl
theorem kFn_ : kFn F xs s = F xs s := rfl
def kCall (env : List (Option D)) (h : Mz.F) : List D → LS → T D := fun ds s1 => (h ds s1.st).setEnv s1.env
theorem sx_call {h : Mz.F} : mCall h r s = (r s).bind (kCall [] h) := rfl
/-- a call's outcome, whatever its slots at the end -/
def Run (h : Mz.F) (ds : List D) (S : List LO) (v : D) (S' : List LO) : Prop := ∃ e, h ds S = .ret v ⟨e, S'⟩
theorem kCall_ {h : Mz.F} {env : List (Option D)} {S' : List LO} {v : D} (q : Run h xs st v S') : kCall env h xs ⟨e, st⟩ = .ret v ⟨e, S'⟩ := by
  obtain ⟨e', q⟩ := q
  unfold kCall
  simp only [q]
  rfl
def kBool : D → LS → T Bool
  | .bl b, s => .ret b s
  | _, _ => .bad
theorem sx_bool : mBool a s = (a s).bind kBool := by
  unfold mBool
  congr 1
  funext d s1
  cases d <;> rfl
theorem kBool_ : kBool (.bl β) s = .ret β s := rfl
def kTru : D → LS → T Bool := fun d s1 => mO (truD s1.st d) s1
theorem sx_tru : mTru a s = (a s).bind kTru := rfl
theorem kTru_bl : kTru (.bl β) s = .ret β s := rfl
def kAnd (u : M Bool) : Bool → LS → T Bool := fun x s1 => if x then u s1 else .ret false s1
def kOr (u : M Bool) : Bool → LS → T Bool := fun x s1 => if x then .ret true s1 else u s1
def kNot : Bool → LS → T Bool := fun x s1 => .ret (!x) s1
theorem sx_and : mAnd t u s = (t s).bind (kAnd u) := rfl
theorem sx_or : mOr t u s = (t s).bind (kOr u) := rfl
theorem sx_not : mNot t s = (t s).bind kNot := rfl
theorem kAnd_t : kAnd u true s = u s := rfl
theorem kAnd_f : kAnd u false s = .ret false s := rfl
theorem kOr_t : kOr u true s = .ret true s := rfl
theorem kOr_f : kOr u false s = u s := rfl
theorem kNot_ : kNot β s = .ret (!β) s := rfl
def kAndV (b : M D) : D → LS → T D := fun x s1 => match truD s1.st x with
  | some true => b s1
  | some false => .ret x s1
  | none => .bad
def kOrV (b : M D) : D → LS → T D := fun x s1 => match truD s1.st x with
  | some true => .ret x s1
  | some false => b s1
  | none => .bad
def kNotV : D → LS → T D := fun x s1 => mO ((truD s1.st x).map fun b => D.bl (!b)) s1
theorem sx_andV : mAndV a b s = (a s).bind (kAndV b) := rfl
theorem sx_orV : mOrV a b s = (a s).bind (kOrV b) := rfl
theorem sx_notV : mNotV a s = (a s).bind kNotV := rfl
theorem kAndV_t : kAndV b (.bl true) s = b s := rfl
theorem kAndV_f : kAndV b (.bl false) s = .ret (.bl false) s := rfl
theorem kOrV_t : kOrV b (.bl true) s = .ret (.bl true) s := rfl
theorem kOrV_f : kOrV b (.bl false) s = b s := rfl
theorem kNotV_ : kNotV (.bl β) s = .ret (.bl (!β)) s := rfl
def kIfE (a b : M D) : Bool → LS → T D := fun x s1 => if x then a s1 else b s1
theorem sx_ifE : mIfE t a b s = (t s).bind (kIfE a b) := rfl
theorem kIfE_t : kIfE a b true s = a s := rfl
theorem kIfE_f : kIfE a b false s = b s := rfl
def kCh1 (f g : D → D → M D) (b c : M D) : D → LS → T D := fun x s1 => (b s1).bind fun y s2 => (f x y s2).bind fun z s3 => match z with
  | .bl true => (c s3).bind fun w s4 => g y w s4
  | .bl false => .ret (.bl false) s3
  | _ => .bad
def kCh2 (f g : D → D → M D) (c : M D) (x : D) : D → LS → T D := fun y s2 => (f x y s2).bind fun z s3 => match z with
  | .bl true => (c s3).bind fun w s4 => g y w s4
  | .bl false => .ret (.bl false) s3
  | _ => .bad
def kCh3 (g : D → D → M D) (c : M D) (y : D) : D → LS → T D := fun z s3 => match z with
  | .bl true => (c s3).bind fun w s4 => g y w s4
  | .bl false => .ret (.bl false) s3
  | _ => .bad
theorem sx_chain : mChain f g a b c s = (a s).bind (kCh1 f g b c) := rfl
theorem kCh1_ : kCh1 f g b c x s = (b s).bind (kCh2 f g c x) := rfl
theorem kCh2_ : kCh2 f g c x y s = (f x y s).bind (kCh3 g c y) := rfl
theorem kCh3_t : kCh3 g c y (.bl true) s = (c s).bind (kOp2 g y) := rfl
theorem kCh3_f : kCh3 g c y (.bl false) s = .ret (.bl false) s := rfl
/-! targets -/
theorem sx_gNil : gNil [] s = .ret () s := rfl
def kG (r : List D → M Unit) (xs : List D) : Unit → LS → T Unit := fun _ s => r xs s
theorem sx_gCons {r : List D → M Unit} : gCons gm r (x :: xs) s = (gm x s).bind (kG r xs) := rfl
theorem kG_ {r : List D → M Unit} {w : Unit} : kG r xs w s = r xs s := rfl
theorem sx_gTup {r : List D → M Unit} (h : xs.length = n) : gTupM n r (.tup xs) s = r xs s := by
  unfold gTupM
  simp only [tupAt, Option.some_or, if_pos h]
theorem gT_nm : gT (.nm i) = gNm i := by unfold gT; rfl
theorem gT_tup {ts : List Tg} : gT (.tup ts) = gTupM ts.length (gTs ts) := by rw [gT]
theorem gTs_nil : gTs [] = gNil := by rw [gTs]
theorem gTs_cons {w : Tg} {ts : List Tg} : gTs (w :: ts) = gCons (gT w) (gTs ts) := by rw [gTs]
def kSub1 (i : M D) (d : D) : D → LS → T Unit := fun x s1 => (i s1).bind fun y s2 => setD x y d s2
def kSub2 (x d : D) : D → LS → T Unit := fun y s2 => setD x y d s2
theorem sx_gSub : gSubM a b x s = (a s).bind (kSub1 b x) := rfl
theorem kSub1_ : kSub1 b x y s = (b s).bind (kSub2 y x) := rfl
theorem kSub2_ : kSub2 y x z s = setD y z x s := rfl
def kPar (i j : Nat) : List D → LS → T Fl := fun ds s1 => match ds with
  | [x, y] => .ret .nx { s1 with env := (s1.env.set i (some x)).set j (some y) }
  | _ => .bad
theorem sx_par {i j : Nat} : mPar i j r s = (r s).bind (kPar i j) := rfl
theorem kPar_ {i j : Nat} : kPar i j [x, y] ⟨e, st⟩ = .ret .nx ⟨(e.set i (some x)).set j (some y), st⟩ := rfl
def kPar3 (i j l : Nat) : List D → LS → T Fl := fun ds s1 => match ds with
  | [x, y, z] => .ret .nx { s1 with env := ((s1.env.set i (some x)).set j (some y)).set l (some z) }
  | _ => .bad
theorem sx_par3 {i j l : Nat} : mPar3 i j l r s = (r s).bind (kPar3 i j l) := rfl
theorem kPar3_ {i j l : Nat} : kPar3 i j l [x, y, z] ⟨e, st⟩ = .ret .nx ⟨((e.set i (some x)).set j (some y)).set l (some z), st⟩ := rfl
/-! what is walked -/
def kIt : D → LS → T Sq := fun d s1 => mO (sqOf s1.st d) s1
theorem sx_it : mIt a s = (a s).bind kIt := rfl
theorem kIt_tup : kIt (.tup xs) s = .ret (.tp xs) s := rfl
theorem kIt_lst (h : st[n]? = some (.lst xs)) : kIt (.ref n) ⟨e, st⟩ = .ret (.ls n) ⟨e, st⟩ := by
  unfold kIt sqOf
  simp only [h]
  rfl
def kRg1 : List D → LS → T Sq := fun ds s1 => match ds with
  | [.int n] => if i62 n then .ret (.rg 0 n.toNat) s1 else .bad
  | _ => .bad
theorem sx_rg1 : mRg1 r s = (r s).bind kRg1 := rfl
theorem kRg1_ {k : Int} (h : i62 k = true) : kRg1 [.int k] s = .ret (.rg 0 k.toNat) s := if_pos h
def kRg2 : List D → LS → T Sq := fun ds s1 => match ds with
  | [.int a, .int b] => if i62 a && i62 b then .ret (.rg a (b - a).toNat) s1 else .bad
  | _ => .bad
theorem sx_rg2 : mRg2 r s = (r s).bind kRg2 := rfl
theorem kRg2_ {k m : Int} (h1 : i62 k = true) (h2 : i62 m = true) : kRg2 [.int k, .int m] s = .ret (.rg k (m - k).toNat) s := if_pos (by rw [h1, h2]; rfl)
def kFor (gm : D → M Unit) (p : M Fl) : Sq → LS → T Fl := fun q s1 => loopQ gm p q s1
theorem sx_for : mFor j gm p s = (j s).bind (kFor gm p) := rfl
theorem kFor_rg {k : Int} : kFor gm p (.rg k n) s = loopR gm p n k s := rfl
theorem kFor_tp : kFor gm p (.tp xs) s = loopT gm p xs s := rfl
theorem kFor_ls (h : st[n]? = some (.lst xs)) : kFor gm p (.ls n) ⟨e, st⟩ = loopL gm p n xs.length 0 ⟨e, st⟩ := by
  unfold kFor loopQ
  simp only [lstAt, h, Option.getD_some]
def kTurn (q : M Fl) : Fl → LS → T Fl
  | .nx, s => q s
  | .ct, s => q s
  | .bk, s => .ret .nx s
  | .rt d, s => .ret (.rt d) s
theorem sx_turn : turn p q s = (p s).bind (kTurn q) := by
  unfold turn
  congr 1
  funext f s1
  cases f <;> rfl
theorem kTurn_nx : kTurn q .nx s = q s := rfl
theorem kTurn_ct : kTurn q .ct s = q s := rfl
theorem kTurn_bk : kTurn q .bk s = .ret .nx s := rfl
theorem kTurn_rt : kTurn q (.rt x) s = .ret (.rt x) s := rfl
def kGo (p q : M Fl) : Unit → LS → T Fl := fun _ s1 => turn p q s1
theorem sx_loopT : loopT gm p (x :: xs) s = (gm x s).bind (kGo p (loopT gm p xs)) := rfl
theorem sx_loopT0 : loopT gm p [] s = .ret .nx s := rfl
theorem sx_loopR {k : Int} : loopR gm p (n + 1) k s = (gm (.int k) s).bind (kGo p (loopR gm p n (k + 1))) := rfl
theorem sx_loopR0 {k : Int} : loopR gm p 0 k s = .ret .nx s := rfl
theorem kGo_ {w : Unit} : kGo p q w s = (p s).bind (kTurn q) := by
  unfold kGo
  exact sx_turn
theorem sx_loopL {k : Nat} (h : st[n]? = some (.lst xs)) (h2 : xs[i]? = some x) : loopL gm p n (k + 1) i ⟨e, st⟩ = (gm x ⟨e, st⟩).bind (kGo p (loopL gm p n k (i + 1))) := by
  show (match lstAt st (.ref n) with
    | some xs => match xs[i]? with
      | some d => (gm d ⟨e, st⟩).bind fun _ s1 => turn p (loopL gm p n k (i + 1)) s1
      | none => .ret .nx ⟨e, st⟩
    | none => .bad) = _
  simp only [lstAt, h, h2]
  rfl
theorem sx_loopL0 (h : st[n]? = some (.lst xs)) (h2 : xs.length ≤ i) : loopL gm p n 0 i ⟨e, st⟩ = .ret .nx ⟨e, st⟩ := by
  show (match lstAt st (.ref n) with
    | some xs => if xs.length ≤ i then T.ret Fl.nx ⟨e, st⟩ else T.bad
    | none => T.bad) = _
  simp only [lstAt, h, if_pos h2]
/-! slices -/
theorem sx_noPart : mNoPart s = .ret none s := rfl
def kPart : D → LS → T (Option Int) := fun d s1 => match d with
  | .int i => .ret (some i) s1
  | _ => .bad
theorem sx_part : mPart a s = (a s).bind kPart := rfl
theorem kPart_ {k : Int} : kPart (.int k) s = .ret (some k) s := rfl
def kSl1 (l h : M (Option Int)) : D → LS → T D := fun x s1 => (l s1).bind fun lo s2 => (h s2).bind fun hi s3 => slD x lo hi s3
def kSl2 (h : M (Option Int)) (x : D) : Option Int → LS → T D := fun lo s2 => (h s2).bind fun hi s3 => slD x lo hi s3
def kSl3 (x : D) (lo : Option Int) : Option Int → LS → T D := fun hi s3 => slD x lo hi s3
theorem sx_sl {l h : M (Option Int)} : mSl a l h s = (a s).bind (kSl1 l h) := rfl
theorem kSl1_ {l h : M (Option Int)} : kSl1 l h x s = (l s).bind (kSl2 h x) := rfl
theorem kSl2_ {h : M (Option Int)} {lo : Option Int} : kSl2 h x lo s = (h s).bind (kSl3 x lo) := rfl
theorem kSl3_ {lo hi : Option Int} : kSl3 x lo hi s = slD x lo hi s := rfl
/-! comprehensions -/
def kLc (gm : D → M Unit) (t : M Bool) (a : M D) (vs : List Nat) : Sq → LS → T D := fun q s1 =>
  (lcQ gm t a (wipeE s1.env vs) q { s1 with env := wipeE s1.env vs }).noX.bind fun ys s2 => .ret (.ref s2.st.length) { env := s1.env, st := s2.st ++ [.lst ys] }
theorem sx_lc {vs : List Nat} : mLc j gm t a vs s = (j s).bind (kLc gm t a vs) := rfl
/-- a comprehension of a pure item: no store is touched -/
theorem lcT_pure {w : List (Option D)} {h : D → D} : ∀ (ds acc : List D), acc.length + ds.length ≤ LIM → (∀ d ∈ ds, ∃ e1, gm d ⟨w, st⟩ = .ret () ⟨e1, st⟩ ∧ t ⟨e1, st⟩ = .ret true ⟨e1, st⟩ ∧ a ⟨e1, st⟩ = .ret (h d) ⟨e1, st⟩) →
    lcT gm t a w ds acc ⟨w, st⟩ = .ret (acc ++ ds.map h) ⟨w, st⟩
  | [], acc, _, _ => by simp [lcT]
  | d :: ds, acc, hl, k => by
    obtain ⟨e1, h1, h2, h3⟩ := k d (by simp)
    have hl' : acc.length < LIM := by simp at hl; omega
    show ((gm d ⟨w, st⟩).noX.bind _) = _
    simp only [h1, T.noX, bind_ret, h2, ↓reduceIte, h3, if_pos hl']
    rw [lcT_pure ds (acc ++ [h d]) (by simp at hl ⊢; omega) fun d hd => k d (by simp [hd])]
    simp
theorem lcR_pure {w : List (Option D)} {h : Int → D} : ∀ (n : Nat) (lo : Int) (acc : List D), acc.length + n ≤ LIM → (∀ i, i < n → ∃ e1, gm (.int (lo + i)) ⟨w, st⟩ = .ret () ⟨e1, st⟩ ∧ t ⟨e1, st⟩ = .ret true ⟨e1, st⟩ ∧ a ⟨e1, st⟩ = .ret (h (lo + i)) ⟨e1, st⟩) →
    lcR gm t a w n lo acc ⟨w, st⟩ = .ret (acc ++ (List.range n).map fun (i : Nat) => h (lo + (i : Int))) ⟨w, st⟩
  | 0, lo, acc, _, _ => by simp [lcR]
  | n + 1, lo, acc, hl, k => by
    obtain ⟨e1, h1, h2, h3⟩ := k 0 (by omega)
    have hl' : acc.length < LIM := by omega
    show ((gm (.int lo) ⟨w, st⟩).noX.bind _) = _
    simp only [Int.add_zero, Int.ofNat_zero, Int.natCast_zero] at h1 h3
    simp only [h1, T.noX, bind_ret, h2, if_true, h3, if_pos hl']
    rw [lcR_pure n (lo + 1) (acc ++ [h lo]) (by simp; omega) fun i hi => by
      have := k (i + 1) (by omega)
      rw [show lo + ((i + 1 : Nat) : Int) = lo + 1 + (i : Int) by omega] at this
      exact this]
    rw [List.range_succ_eq_map, List.map_cons, List.map_map, List.append_assoc]
    congr 2
    simp
    intro i _
    rw [show lo + ((i : Int) + 1) = lo + 1 + (i : Int) by omega]
theorem kLc_tp {vs : List Nat} {h : D → D} (hl : xs.length ≤ LIM) (k : ∀ d ∈ xs, ∃ e1, gm d ⟨wipeE e vs, st⟩ = .ret () ⟨e1, st⟩ ∧ t ⟨e1, st⟩ = .ret true ⟨e1, st⟩ ∧ a ⟨e1, st⟩ = .ret (h d) ⟨e1, st⟩) :
    kLc gm t a vs (.tp xs) ⟨e, st⟩ = .ret (.ref st.length) ⟨e, st ++ [.lst (xs.map h)]⟩ := by
  unfold kLc
  simp only [lcQ]
  rw [lcT_pure (h := h) xs [] (by simpa using hl) k]
  simp only [T.noX, bind_ret, List.nil_append]
theorem kLc_rg {vs : List Nat} {h : Int → D} {lo : Int} (hl : n ≤ LIM) (k : ∀ i, i < n → ∃ e1, gm (.int (lo + i)) ⟨wipeE e vs, st⟩ = .ret () ⟨e1, st⟩ ∧ t ⟨e1, st⟩ = .ret true ⟨e1, st⟩ ∧ a ⟨e1, st⟩ = .ret (h (lo + i)) ⟨e1, st⟩) :
    kLc gm t a vs (.rg lo n) ⟨e, st⟩ = .ret (.ref st.length) ⟨e, st ++ [.lst ((List.range n).map fun (i : Nat) => h (lo + (i : Int)))]⟩ := by
  unfold kLc
  simp only [lcQ]
  rw [lcR_pure (h := h) n lo [] (by simpa using hl) k]
  simp only [T.noX, bind_ret, List.nil_append]
/-! dict displays -/
def kP1 (b : M D) (r : List (M D × M D)) : D → LS → T (List (D × D)) := fun x s1 => (b s1).bind fun y s2 => (mPairs r s2).bind fun ps s3 => .ret ((x, y) :: ps) s3
def kP2 (r : List (M D × M D)) (x : D) : D → LS → T (List (D × D)) := fun y s2 => (mPairs r s2).bind fun ps s3 => .ret ((x, y) :: ps) s3
def kP3 (x y : D) : List (D × D) → LS → T (List (D × D)) := fun ps s3 => .ret ((x, y) :: ps) s3
theorem sx_pairs0 : mPairs [] s = .ret [] s := rfl
theorem sx_pairs {ps : List (M D × M D)} : mPairs ((a, b) :: ps) s = (a s).bind (kP1 b ps) := rfl
theorem kP1_ {ps : List (M D × M D)} : kP1 b ps x s = (b s).bind (kP2 ps x) := rfl
theorem kP2_ {ps : List (M D × M D)} : kP2 ps x y s = (mPairs ps s).bind (kP3 x y) := rfl
theorem kP3_ {ps : List (D × D)} : kP3 x y ps s = .ret ((x, y) :: ps) s := rfl
def kDict (n : Nat) : List (D × D) → LS → T D := fun ps s1 => match allO keyP ps, s1.st[n]? with
  | some kvs, some (.dK []) => if kvs.length ≤ 15 then .ret (.ref n) { s1 with st := s1.st.set n (.dK (mergeD kvs)) } else .bad
  | _, _ => .bad
theorem sx_dict {ps : List (M D × M D)} : mDict ps ⟨e, st⟩ = (mPairs ps ⟨e, st ++ [.dK []]⟩).bind (kDict st.length) := rfl
theorem kDict_ {g : List LO} {ps : List (D × D)} {kvs : List (Key × D)} (h : allO keyP ps = some kvs) (hl : kvs.length ≤ 15) : kDict st.length ps ⟨e, st ++ .dK [] :: g⟩ = .ret (.ref st.length) ⟨e, st ++ .dK (mergeD kvs) :: g⟩ := by
  unfold kDict
  have h1 : (st ++ .dK [] :: g)[st.length]? = some (.dK []) := by rw [List.getElem?_append_right (Nat.le_refl _), Nat.sub_self]; rfl
  simp only [h, h1, if_pos hl]
  congr 2
  rw [List.set_append_right _ _ (Nat.le_refl _), Nat.sub_self]
  rfl
theorem at_end {o : LO} {g : List LO} : (st ++ o :: g)[st.length]? = some o := by rw [List.getElem?_append_right (Nat.le_refl _), Nat.sub_self]; rfl
theorem at_end1 {o p : LO} {g : List LO} : (st ++ o :: p :: g)[st.length + 1]? = some p := by rw [List.getElem?_append_right (by omega), Nat.add_sub_cancel_left]; rfl
theorem at_end2 {o p q : LO} {g : List LO} : (st ++ o :: p :: q :: g)[st.length + 2]? = some q := by rw [List.getElem?_append_right (by omega), Nat.add_sub_cancel_left]; rfl
theorem at_end3 {o p q r : LO} {g : List LO} : (st ++ o :: p :: q :: r :: g)[st.length + 3]? = some r := by rw [List.getElem?_append_right (by omega), Nat.add_sub_cancel_left]; rfl
theorem at_end4 {o p q r t : LO} {g : List LO} : (st ++ o :: p :: q :: r :: t :: g)[st.length + 4]? = some t := by rw [List.getElem?_append_right (by omega), Nat.add_sub_cancel_left]; rfl
theorem at_end5 {o p q r t u : LO} {g : List LO} : (st ++ o :: p :: q :: r :: t :: u :: g)[st.length + 5]? = some u := by rw [List.getElem?_append_right (by omega), Nat.add_sub_cancel_left]; rfl
theorem set_end1 {o p p' : LO} {g : List LO} : (st ++ o :: p :: g).set (st.length + 1) p' = st ++ o :: p' :: g := by rw [List.set_append_right _ _ (by omega), Nat.add_sub_cancel_left]; rfl
theorem set_end2 {o p q q' : LO} {g : List LO} : (st ++ o :: p :: q :: g).set (st.length + 2) q' = st ++ o :: p :: q' :: g := by rw [List.set_append_right _ _ (by omega), Nat.add_sub_cancel_left]; rfl
theorem at_k {g : List LO} {k : Nat} : (st ++ g)[st.length + k]? = g[k]? := by rw [List.getElem?_append_right (by omega), Nat.add_sub_cancel_left]
theorem at_k0 {g : List LO} : (st ++ g)[st.length]? = g[0]? := by rw [List.getElem?_append_right (Nat.le_refl _), Nat.sub_self]
theorem set_k {g : List LO} {k : Nat} {o : LO} : (st ++ g).set (st.length + k) o = st ++ g.set k o := by rw [List.set_append_right _ _ (by omega), Nat.add_sub_cancel_left]
theorem set_k0 {g : List LO} {o : LO} : (st ++ g).set st.length o = st ++ g.set 0 o := by rw [List.set_append_right _ _ (Nat.le_refl _), Nat.sub_self]
theorem set_end {o o' : LO} {g : List LO} : (st ++ o :: g).set st.length o' = st ++ o' :: g := by rw [List.set_append_right _ _ (Nat.le_refl _), Nat.sub_self]; rfl
theorem at_old {o : LO} {g : List LO} (h : st[n]? = some o) : (st ++ g)[n]? = some o := by rw [List.getElem?_append_left (List.getElem?_eq_some_iff.mp h).1]; exact h
theorem set_old {o' : LO} {g : List LO} (h : n < st.length) : (st ++ g).set n o' = st.set n o' ++ g := List.set_append_left _ _ h
/-! items, comparisons -/
theorem ix_tup {k : Int} (h : atI xs k = some x) : ixD (.tup xs) (.int k) s = .ret x s := by
  unfold ixD
  simp only [tupAt, Option.some_or, h, mO]
theorem eqv_str (a b : Str) : PyData.eqv (.str a) (.str b) = decide (a = b) := by
  simp [PyData.eqv]
  rfl
theorem eqD_str {a b : Str} (ha : SeqAt.shaped (.str a) = true) (hb : SeqAt.shaped (.str b) = true) (s : LS) : eqD (.str a) (.str b) s = .ret (.bl (decide (a = b))) s := by
  unfold eqD
  simp only [toP]
  rw [if_pos (by rw [ha, hb]; rfl), eqv_str]
theorem neD_int (a b : Int) (s : LS) : neD (.int a) (.int b) s = .ret (.bl (!decide (a = b))) s := by
  unfold neD
  simp only [toP]
  rw [if_pos (by rfl), eqv_int]
theorem neD_str {a b : Str} (ha : SeqAt.shaped (.str a) = true) (hb : SeqAt.shaped (.str b) = true) (s : LS) : neD (.str a) (.str b) s = .ret (.bl (!decide (a = b))) s := by
  unfold neD
  simp only [toP]
  rw [if_pos (by rw [ha, hb]; rfl), eqv_str]
theorem intD_int {k : Int} : intD [.int k] s = .ret (.int k) s := rfl
theorem intD_bl : intD [.bl β] s = .ret (.int (if β then 1 else 0)) s := rfl
theorem lenD_tup : lenD [.tup xs] s = .ret (.int xs.length) s := by
  unfold lenD
  simp only [tupAt, Option.some_or]
theorem lenD_lst (h : st[n]? = some (.lst xs)) : lenD [.ref n] ⟨e, st⟩ = .ret (.int xs.length) ⟨e, st⟩ := by
  unfold lenD
  simp only [tupAt, lstAt, h, Option.none_or]
theorem tupleD_lst (h : st[n]? = some (.lst xs)) : tupleD [.ref n] ⟨e, st⟩ = .ret (.tup xs) ⟨e, st⟩ := by
  unfold tupleD
  simp only [lstAt, h]
theorem tupleD_tup : tupleD [.tup xs] s = .ret (.tup xs) s := rfl
theorem listD_lst (h : st[n]? = some (.lst xs)) : listD [.ref n] ⟨e, st⟩ = .ret (.ref st.length) ⟨e, st ++ [.lst xs]⟩ := by
  unfold listD
  simp only [tupAt, lstAt, h, Option.none_or]
  rfl
theorem listD_tup : listD [.tup xs] ⟨e, st⟩ = .ret (.ref st.length) ⟨e, st ++ [.lst xs]⟩ := by
  unfold listD
  simp only [tupAt, Option.some_or]
  rfl
theorem set_lst {k : Int} {j : Nat} (h : st[n]? = some (.lst xs)) (h2 : ixN xs.length k = some j) : setD (.ref n) (.int k) x ⟨e, st⟩ = .ret () ⟨e, st.set n (.lst (xs.set j x))⟩ := by
  unfold setD put
  simp only [h, h2]
theorem app_lst (h : st[n]? = some (.lst xs)) (hl : xs.length < LIM) : appendD (.ref n) [x] ⟨e, st⟩ = .ret .non ⟨e, st.set n (.lst (xs ++ [x]))⟩ := by
  unfold appendD
  simp only [h, if_pos hl]
theorem add_lst {m : Nat} {ys : List D} (h1 : st[n]? = some (.lst xs)) (h2 : st[m]? = some (.lst ys)) (hl : xs.length + ys.length ≤ LIM) : addD (.ref n) (.ref m) ⟨e, st⟩ = .ret (.ref st.length) ⟨e, st ++ [.lst (xs ++ ys)]⟩ := by
  unfold addD
  simp only [tupAt, lstAt, h1, h2, if_pos hl]
  rfl
theorem add_tup {ys : List D} (hl : xs.length + ys.length ≤ LIM) : addD (.tup xs) (.tup ys) s = .ret (.tup (xs ++ ys)) s := by
  unfold addD
  simp only [if_pos hl]
theorem mul_lst {k : Int} (h1 : st[n]? = some (.lst xs)) (hk : (i63 k && decide (xs.length * k.toNat ≤ LIM)) = true) : mulD (.ref n) (.int k) ⟨e, st⟩ = .ret (.ref st.length) ⟨e, st ++ [.lst (List.replicate k.toNat xs).flatten]⟩ := by
  unfold mulD
  simp only [lstAt, h1, if_pos hk]
  rfl
theorem slD_lst {lo hi : Option Int} (h : st[n]? = some (.lst xs)) : slD (.ref n) lo hi ⟨e, st⟩ = .ret (.ref st.length) ⟨e, st ++ [.lst (cutD xs lo hi)]⟩ := by
  unfold slD
  simp only [lstAt, h]
  rfl
theorem ixN_of {m j : Nat} (h : j < m) : ixN m (j : Int) = some j := by
  unfold ixN
  rw [if_pos (by omega), if_pos (by omega)]
  simp
theorem atI_of {α : Type} {l : List α} {j : Nat} {y : α} (h : l[j]? = some y) : atI l (j : Int) = some y := by
  unfold atI
  rw [ixN_of (List.getElem?_eq_some_iff.mp h).1]
  exact h
end
section
variable {x y z u v : D} {l : List D} {s : LS}
theorem at_0 {α : Type} {x : α} {l : List α} : atI (x :: l) 0 = some x := atI_of (j := 0) rfl
theorem at_1 {α : Type} {x y : α} {l : List α} : atI (x :: y :: l) 1 = some y := atI_of (j := 1) rfl
theorem at_2 {α : Type} {x y z : α} {l : List α} : atI (x :: y :: z :: l) 2 = some z := atI_of (j := 2) rfl
theorem at_3 {α : Type} {x y z u : α} {l : List α} : atI (x :: y :: z :: u :: l) 3 = some u := atI_of (j := 3) rfl
theorem ix_t0 : ixD (.tup (x :: l)) (.int 0) s = .ret x s := ix_tup at_0
theorem ix_t1 : ixD (.tup (x :: y :: l)) (.int 1) s = .ret y s := ix_tup at_1
theorem ix_t2 : ixD (.tup (x :: y :: z :: l)) (.int 2) s = .ret z s := ix_tup at_2
theorem ix_t3 : ixD (.tup (x :: y :: z :: u :: l)) (.int 3) s = .ret u s := ix_tup at_3
end
/-- a def's run -/
theorem run_fn {n m : Nat} {b : M Fl} {ds : List D} {S S' : List LO} {v : D} {e : List (Option D)} (hl : ds.length = n) (h : b ⟨startE n m ds, S⟩ = .ret (.rt v) ⟨e, S'⟩) : Run (fnM n m b) ds S v S' := by
  refine ⟨e, ?_⟩
  unfold fnM
  rw [if_pos hl, h]
  rfl
theorem keyP_str {a : Str} {x : D} : keyP (.str a, x) = some (.inr a, x) := rfl
theorem keyP_int {a : Int} {x : D} : keyP (.int a, x) = some (.inl a, x) := rfl
theorem allO_nil {α β : Type} {f : α → Option β} : allO f [] = some [] := rfl
theorem allO_cons {α β : Type} {f : α → Option β} {x : α} {l : List α} {y : β} {l' : List β} (h : f x = some y) (h' : allO f l = some l') : allO f (x :: l) = some (y :: l') := by
  unfold allO
  rw [h, h']
theorem keyK_str {a : Str} : keyK (.str a) = some (.inr a) := rfl
theorem keyK_int {a : Int} : keyK (.int a) = some (.inl a) := rfl
theorem append1 {α : Type} {a b : List α} {x : α} : a ++ x :: b = a ++ x :: b := rfl
theorem app_assoc1 {α : Type} {a b c : List α} : (a ++ b) ++ c = a ++ (b ++ c) := List.append_assoc _ _ _
theorem intK_int {k : Int} : intK (.int k) = some k := rfl
theorem maxD_lst {n : Nat} {e : List (Option D)} {st : List LO} {xs : List D} {ns : List Int} {k : Int} (h : st[n]? = some (.lst xs)) (h1 : allO intK xs = some ns) (h2 : maxOf ns = some k) : maxD [.ref n] ⟨e, st⟩ = .ret (.int k) ⟨e, st⟩ := by
  unfold maxD
  simp only [lstAt, h, h1, mO, Option.bind_some, h2, Option.map_some]
theorem minD_lst {n : Nat} {e : List (Option D)} {st : List LO} {xs : List D} {ns : List Int} {k : Int} (h : st[n]? = some (.lst xs)) (h1 : allO intK xs = some ns) (h2 : minOf ns = some k) : minD [.ref n] ⟨e, st⟩ = .ret (.int k) ⟨e, st⟩ := by
  unfold minD
  simp only [lstAt, h, h1, mO, Option.bind_some, h2, Option.map_some]
theorem ixD_dict {n : Nat} {e : List (Option D)} {st : List LO} {kvs : List (Key × D)} {x : D} {k : Key} {v : D} (h : st[n]? = some (.dK kvs)) (hk : keyK x = some k) (hv : valD kvs k = some v) : ixD (.ref n) x ⟨e, st⟩ = .ret v ⟨e, st⟩ := ix_dK h hk hv
/-! words on a ref, by what stands there -/
section
variable {n k : Nat} {e : List (Option D)} {st : List LO} {s : LS} {xs ys : List D} {kvs : List (Key × D)} {kts : List (List Key × D)} {x y z : D} {i j : Int}
theorem mO_some {α : Type} {x : α} : mO (some x) s = .ret x s := rfl
def kIx : Option LO → D → LS → T D
  | some (.lst xs), .int i, s => mO (atI xs i) s
  | some (.dK kvs), y, s => mO ((keyK y).bind (valD kvs)) s
  | some (.dT kvs), y, s => mO ((keyT y).bind (valD kvs)) s
  | _, _, _ => .bad
theorem ixD_ref : ixD (.ref n) y ⟨e, st⟩ = kIx st[n]? y ⟨e, st⟩ := by
  unfold ixD
  simp only [tupAt, lstAt, dGet, Option.none_or]
  cases h : st[n]? with
  | none => rfl
  | some o =>
    cases o with
    | lst xs => cases y <;> rfl
    | dK kvs =>
      simp only [kIx]
      cases h2 : keyK y with
      | none => rfl
      | some k => rfl
    | dT kvs =>
      simp only [kIx]
      cases h2 : keyT y with
      | none => rfl
      | some k => rfl
    | _ => rfl
theorem kIx_lst : kIx (some (.lst xs)) (.int i) s = mO (atI xs i) s := rfl
theorem kIx_dK : kIx (some (.dK kvs)) y s = mO ((keyK y).bind (valD kvs)) s := by cases y <;> rfl
theorem kIx_dT : kIx (some (.dT kts)) y s = mO ((keyT y).bind (valD kts)) s := by cases y <;> rfl
theorem ixD_tup : ixD (.tup xs) (.int i) s = mO (atI xs i) s := by
  unfold ixD
  simp only [tupAt, Option.some_or]
def kItr (n : Nat) : Option LO → LS → T Sq
  | some (.lst _), s => .ret (.ls n) s
  | _, _ => .bad
theorem kIt_ref : kIt (.ref n) ⟨e, st⟩ = kItr n st[n]? ⟨e, st⟩ := by
  unfold kIt sqOf
  dsimp only
  cases h : st[n]? with
  | none => rfl
  | some o => cases o <;> rfl
theorem kItr_ : kItr n (some (.lst xs)) s = .ret (.ls n) s := rfl
def kLoopL (gm : D → M Unit) (p : M Fl) (n : Nat) : Option LO → LS → T Fl
  | some (.lst xs), s => loopL gm p n xs.length 0 s
  | _, s => loopL gm p n 0 0 s
theorem kFor_ref {gm : D → M Unit} {p : M Fl} : kFor gm p (.ls n) ⟨e, st⟩ = kLoopL gm p n st[n]? ⟨e, st⟩ := by
  unfold kFor loopQ
  simp only [lstAt]
  cases h : st[n]? with
  | none => rfl
  | some o => cases o <;> rfl
theorem kLoopL_ {gm : D → M Unit} {p : M Fl} : kLoopL gm p n (some (.lst xs)) s = loopL gm p n xs.length 0 s := rfl
def kLen : Option LO → LS → T D
  | some (.lst xs), s => .ret (.int xs.length) s
  | some (.dK kvs), s => .ret (.int kvs.length) s
  | some (.dT kvs), s => .ret (.int kvs.length) s
  | _, _ => .bad
theorem lenD_ref : lenD [.ref n] ⟨e, st⟩ = kLen st[n]? ⟨e, st⟩ := by
  unfold lenD
  simp only [tupAt, lstAt, Option.none_or]
  cases h : st[n]? with
  | none => rfl
  | some o => cases o <;> rfl
theorem kLen_lst : kLen (some (.lst xs)) s = .ret (.int xs.length) s := rfl
theorem kLen_dK : kLen (some (.dK kvs)) s = .ret (.int kvs.length) s := rfl
theorem kLen_dT : kLen (some (.dT kts)) s = .ret (.int kts.length) s := rfl
def kTuple : Option LO → LS → T D
  | some (.lst xs), s => .ret (.tup xs) s
  | _, _ => .bad
theorem tupleD_ref : tupleD [.ref n] ⟨e, st⟩ = kTuple st[n]? ⟨e, st⟩ := by
  unfold tupleD
  simp only [lstAt]
  cases h : st[n]? with
  | none => rfl
  | some o => cases o <;> rfl
theorem kTuple_ : kTuple (some (.lst xs)) s = .ret (.tup xs) s := rfl
def kList : Option LO → LS → T D
  | some (.lst xs), s => .ret (.ref s.st.length) { s with st := s.st ++ [.lst xs] }
  | _, _ => .bad
theorem listD_ref : listD [.ref n] ⟨e, st⟩ = kList st[n]? ⟨e, st⟩ := by
  unfold listD
  simp only [tupAt, lstAt, Option.none_or]
  cases h : st[n]? with
  | none => rfl
  | some o => cases o <;> rfl
theorem kList_ : kList (some (.lst xs)) ⟨e, st⟩ = .ret (.ref st.length) ⟨e, st ++ [.lst xs]⟩ := rfl
def kSet (n : Nat) (y x : D) : Option LO → LS → T Unit
  | some (.lst xs), s => match y with
    | .int i => match ixN xs.length i with
      | some j => .ret () { s with st := s.st.set n (.lst (xs.set j x)) }
      | none => .bad
    | _ => .bad
  | some (.dK kvs), s => match keyK y with
    | some k => if kvs.length < LIM then .ret () { s with st := s.st.set n (.dK (putD kvs k x)) } else .bad
    | none => .bad
  | some (.dT kvs), s => match keyT y with
    | some k => if kvs.length < LIM then .ret () { s with st := s.st.set n (.dT (putD kvs k x)) } else .bad
    | none => .bad
  | _, _ => .bad
theorem setD_ref : setD (.ref n) y x ⟨e, st⟩ = kSet n y x st[n]? ⟨e, st⟩ := by
  unfold setD
  dsimp only
  cases h : st[n]? with
  | none => rfl
  | some o => cases o <;> rfl
def kSetL (n : Nat) (xs : List D) (x : D) : Option Nat → LS → T Unit
  | some j, s => .ret () { s with st := s.st.set n (.lst (xs.set j x)) }
  | none, _ => .bad
theorem kSet_lst : kSet n (.int i) x (some (.lst xs)) s = kSetL n xs x (ixN xs.length i) s := by
  unfold kSet kSetL
  cases h : ixN xs.length i <;> simp only [h]
theorem kSetL_ {j : Nat} : kSetL n xs x (some j) ⟨e, st⟩ = .ret () ⟨e, st.set n (.lst (xs.set j x))⟩ := rfl
def kSetK (n : Nat) (kvs : List (Key × D)) (x : D) : Option Key → LS → T Unit
  | some k, s => if kvs.length < LIM then .ret () { s with st := s.st.set n (.dK (putD kvs k x)) } else .bad
  | none, _ => .bad
theorem kSet_dK : kSet n y x (some (.dK kvs)) s = kSetK n kvs x (keyK y) s := by
  unfold kSet kSetK
  cases h : keyK y <;> simp only [h]
theorem kSetK_ {k : Key} (h : kvs.length < LIM) : kSetK n kvs x (some k) ⟨e, st⟩ = .ret () ⟨e, st.set n (.dK (putD kvs k x))⟩ := if_pos h
def kSetT (n : Nat) (kvs : List (List Key × D)) (x : D) : Option (List Key) → LS → T Unit
  | some k, s => if kvs.length < LIM then .ret () { s with st := s.st.set n (.dT (putD kvs k x)) } else .bad
  | none, _ => .bad
theorem kSet_dT : kSet n y x (some (.dT kts)) s = kSetT n kts x (keyT y) s := by
  unfold kSet kSetT
  cases h : keyT y <;> simp only [h]
theorem kSetT_ {k : List Key} (h : kts.length < LIM) : kSetT n kts x (some k) ⟨e, st⟩ = .ret () ⟨e, st.set n (.dT (putD kts k x))⟩ := if_pos h
def kApp (n : Nat) (x : D) : Option LO → LS → T D
  | some (.lst xs), s => if xs.length < LIM then .ret .non { s with st := s.st.set n (.lst (xs ++ [x])) } else .bad
  | _, _ => .bad
theorem appendD_ref : appendD (.ref n) [x] ⟨e, st⟩ = kApp n x st[n]? ⟨e, st⟩ := by
  unfold appendD
  dsimp only
  cases h : st[n]? with
  | none => rfl
  | some o => cases o <;> rfl
theorem kApp_ (h : xs.length < LIM) : kApp n x (some (.lst xs)) ⟨e, st⟩ = .ret .non ⟨e, st.set n (.lst (xs ++ [x]))⟩ := if_pos h
def kAddL : Option LO → Option LO → LS → T D
  | some (.lst a), some (.lst b), s => if a.length + b.length ≤ LIM then .ret (.ref s.st.length) { s with st := s.st ++ [.lst (a ++ b)] } else .bad
  | _, _, _ => .bad
theorem addD_ref {m : Nat} : addD (.ref n) (.ref m) ⟨e, st⟩ = kAddL st[n]? st[m]? ⟨e, st⟩ := by
  unfold addD
  simp only [tupAt, lstAt]
  cases h : st[n]? with
  | none => rfl
  | some o =>
    cases o with
    | lst a =>
      cases h2 : st[m]? with
      | none => rfl
      | some o2 => cases o2 <;> rfl
    | _ => rfl
theorem kAddL_ (h : xs.length + ys.length ≤ LIM) : kAddL (some (.lst xs)) (some (.lst ys)) ⟨e, st⟩ = .ret (.ref st.length) ⟨e, st ++ [.lst (xs ++ ys)]⟩ := if_pos h
def kMulL (k : Int) : Option LO → LS → T D
  | some (.lst a), s => if i63 k && decide (a.length * k.toNat ≤ LIM) then .ret (.ref s.st.length) { s with st := s.st ++ [.lst (List.replicate k.toNat a).flatten] } else .bad
  | _, _ => .bad
theorem mulD_ref : mulD (.ref n) (.int i) ⟨e, st⟩ = kMulL i st[n]? ⟨e, st⟩ := by
  unfold mulD
  simp only [lstAt]
  cases h : st[n]? with
  | none => rfl
  | some o => cases o <;> rfl
theorem kMulL_ (h1 : i63 i = true) (h3 : xs.length * i.toNat ≤ LIM) : kMulL i (some (.lst xs)) ⟨e, st⟩ = .ret (.ref st.length) ⟨e, st ++ [.lst (List.replicate i.toNat xs).flatten]⟩ := by
  unfold kMulL
  simp only [h1, h3, decide_true, Bool.and_self, if_true]
def kSlice (lo hi : Option Int) : Option LO → LS → T D
  | some (.lst xs), s => .ret (.ref s.st.length) { s with st := s.st ++ [.lst (cutD xs lo hi)] }
  | _, _ => .bad
theorem slD_ref {lo hi : Option Int} : slD (.ref n) lo hi ⟨e, st⟩ = kSlice lo hi st[n]? ⟨e, st⟩ := by
  unfold slD
  simp only [lstAt]
  cases h : st[n]? with
  | none => rfl
  | some o => cases o <;> rfl
theorem kSlice_ {lo hi : Option Int} : kSlice lo hi (some (.lst xs)) ⟨e, st⟩ = .ret (.ref st.length) ⟨e, st ++ [.lst (cutD xs lo hi)]⟩ := rfl
theorem slD_tup {lo hi : Option Int} : slD (.tup xs) lo hi s = .ret (.tup (cutD xs lo hi)) s := rfl
def kOnInts (h : List Int → Option Int) : Option LO → LS → T D
  | some (.lst xs), s => mO (((allO intK xs).bind h).map D.int) s
  | _, _ => .bad
theorem maxD_ref : maxD [.ref n] ⟨e, st⟩ = kOnInts maxOf st[n]? ⟨e, st⟩ := by
  unfold maxD
  simp only [lstAt]
  cases h : st[n]? with
  | none => rfl
  | some o => cases o <;> rfl
theorem minD_ref : minD [.ref n] ⟨e, st⟩ = kOnInts minOf st[n]? ⟨e, st⟩ := by
  unfold minD
  simp only [lstAt]
  cases h : st[n]? with
  | none => rfl
  | some o => cases o <;> rfl
theorem kOnInts_ {h : List Int → Option Int} : kOnInts h (some (.lst xs)) s = mO (((allO intK xs).bind h).map D.int) s := rfl
def kAll {β : Type} : Option β → Option (List β) → Option (List β)
  | some y, some ys => some (y :: ys)
  | _, _ => none
theorem allO_c {α β : Type} {f : α → Option β} {x : α} {l : List α} : allO f (x :: l) = kAll (f x) (allO f l) := by
  show (match f x, allO f l with
    | some y, some ys => some (y :: ys)
    | _, _ => none) = _
  cases f x with
  | none => rfl
  | some y => cases allO f l <;> rfl
theorem kAll_ {β : Type} {y : β} {l : List β} : kAll (some y) (some l) = some (y :: l) := rfl
theorem allO_map {α β γ : Type} {f : α → Option β} {g : γ → α} {h : γ → β} (q : ∀ c, f (g c) = some (h c)) : ∀ l : List γ, allO f (l.map g) = some (l.map h)
  | [] => rfl
  | c :: l => by rw [List.map_cons, allO_c, q c, allO_map q l]; rfl
def kDict2 (n : Nat) : Option (List (Key × D)) → Option LO → LS → T D
  | some kvs, some (.dK []), s1 => if kvs.length ≤ 15 then .ret (.ref n) { s1 with st := s1.st.set n (.dK (mergeD kvs)) } else .bad
  | _, _, _ => .bad
theorem kDict_eq {ps : List (D × D)} : kDict n ps ⟨e, st⟩ = kDict2 n (allO keyP ps) st[n]? ⟨e, st⟩ := by
  unfold kDict kDict2
  cases h : allO keyP ps with
  | none => rfl
  | some kvs =>
    cases h2 : st[n]? with
    | none => rfl
    | some o =>
      cases o with
      | dK l => cases l <;> rfl
      | _ => rfl
theorem kDict2_ (h : kvs.length ≤ 15) : kDict2 n (some kvs) (some (.dK [])) ⟨e, st⟩ = .ret (.ref n) ⟨e, st.set n (.dK (mergeD kvs))⟩ := if_pos h
end
theorem mulD_intL {a b : Int} (h : i64 a = true) (s : LS) : mulD (.int a) (.int b) s = .ret (.int (a * b)) s := by
  unfold mulD
  simp only [h, Bool.true_or, if_true]
/-! comprehensions over lists, whiles, methods, isinstance -/
section
variable {n k : Nat} {e : List (Option D)} {st : List LO} {s : LS} {xs ys : List D} {x y z : D} {i j : Int} {gm : D → M Unit} {t : M Bool} {a b : M D} {r : M (List D)} {p q : M Fl} {β : Bool}
theorem lcL_pure {w : List (Option D)} {h : D → D} (hn : st[n]? = some (.lst xs)) : ∀ (k i : Nat) (acc : List D), k + i = xs.length → acc.length + k ≤ LIM → (∀ d ∈ xs, ∃ e1, gm d ⟨w, st⟩ = .ret () ⟨e1, st⟩ ∧ t ⟨e1, st⟩ = .ret true ⟨e1, st⟩ ∧ a ⟨e1, st⟩ = .ret (h d) ⟨e1, st⟩) →
    lcL gm t a w n k i acc ⟨w, st⟩ = .ret (acc ++ (xs.drop i).map h) ⟨w, st⟩
  | 0, i, acc, hk, _, _ => by
    unfold lcL
    simp only [lstAt, hn]
    rw [if_pos (by omega), List.drop_eq_nil_of_le (by omega)]
    simp
  | k + 1, i, acc, hk, hl, q => by
    have hi : i < xs.length := by omega
    obtain ⟨e1, h1, h2, h3⟩ := q xs[i] (List.getElem_mem hi)
    have hl' : acc.length < LIM := by omega
    have hx : xs[i]? = some xs[i] := by simp [hi]
    show (match lstAt st (.ref n) with
      | some xs => match xs[i]? with
        | some d => lcStep gm t a w d acc (lcL gm t a w n k (i + 1)) ⟨w, st⟩
        | none => T.ret acc ⟨w, st⟩
      | none => T.bad) = _
    simp only [lstAt, hn, hx]
    show ((gm xs[i] ⟨w, st⟩).noX.bind _) = _
    simp only [h1, T.noX, bind_ret, h2, ↓reduceIte, h3, if_pos hl']
    rw [lcL_pure (h := h) hn k (i + 1) (acc ++ [h xs[i]]) (by omega) (by simp; omega) q, List.drop_eq_getElem_cons hi, List.map_cons, List.append_assoc]
    rfl
theorem kLc_ls {vs : List Nat} {h : D → D} (hn : st[n]? = some (.lst xs)) (hl : xs.length ≤ LIM) (q : ∀ d ∈ xs, ∃ e1, gm d ⟨wipeE e vs, st⟩ = .ret () ⟨e1, st⟩ ∧ t ⟨e1, st⟩ = .ret true ⟨e1, st⟩ ∧ a ⟨e1, st⟩ = .ret (h d) ⟨e1, st⟩) :
    kLc gm t a vs (.ls n) ⟨e, st⟩ = .ret (.ref st.length) ⟨e, st ++ [.lst (xs.map h)]⟩ := by
  unfold kLc
  simp only [lcQ, lstAt, hn, Option.getD_some]
  rw [lcL_pure (h := h) hn xs.length 0 [] (by omega) (by simpa using hl) q]
  simp only [T.noX, bind_ret, List.nil_append, List.drop_zero]
def kWh (p q : M Fl) : Bool → LS → T Fl := fun x s1 => if x then turn p q s1 else .ret .nx s1
theorem sx_while : mWhile t p (k + 1) s = (t s).bind (kWh p (mWhile t p k)) := rfl
theorem kWh_t : kWh p q true s = (p s).bind (kTurn q) := by
  unfold kWh
  exact sx_turn
theorem kWh_f : kWh p q false s = .ret .nx s := rfl
def kMt1 (f : D → List D → M D) (r : M (List D)) : D → LS → T D := fun x s1 => (r s1).bind fun ds s2 => f x ds s2
def kMt2 (f : D → List D → M D) (x : D) : List D → LS → T D := fun ds s2 => f x ds s2
theorem sx_mt {f : D → List D → M D} : mMt f a r s = (a s).bind (kMt1 f r) := rfl
theorem kMt1_ {f : D → List D → M D} : kMt1 f r x s = (r s).bind (kMt2 f x) := rfl
theorem kMt2_ {f : D → List D → M D} : kMt2 f x xs s = f x xs s := rfl
def kIsL : D → LS → T D := fun d s1 => match lstAt s1.st d with
  | some _ => .ret d s1
  | none => .bad
theorem sx_isL : isL a s = (a s).bind kIsL := rfl
def kIsL2 (n : Nat) : Option LO → LS → T D
  | some (.lst _), s => .ret (.ref n) s
  | _, _ => .bad
theorem kIsL_ref : kIsL (.ref n) ⟨e, st⟩ = kIsL2 n st[n]? ⟨e, st⟩ := by
  unfold kIsL
  simp only [lstAt]
  cases h : st[n]? with
  | none => rfl
  | some o => cases o <;> rfl
theorem kIsL2_ : kIsL2 n (some (.lst xs)) s = .ret (.ref n) s := rfl
theorem absD_int : absD [.int i] s = .ret (.int (if i < 0 then -i else i)) s := rfl
theorem minD_int : minD [.int i, .int j] s = .ret (.int (if j < i then j else i)) s := rfl
theorem maxD_int : maxD [.int i, .int j] s = .ret (.int (if j > i then j else i)) s := rfl
theorem negD_int : negD (.int i) s = .ret (.int (-i)) s := rfl
theorem isi_tup_tuple : isiD [.tup xs, .ty "tuple"] s = .ret (.bl true) s := by
  show (if (tyNames.drop 1).contains "tuple" then T.ret (D.bl (subT "tuple" "tuple")) s else T.bad) = _
  rw [if_pos (by decide)]
  rfl
theorem isi_int_int : isiD [.int i, .ty "int"] s = .ret (.bl true) s := by
  show (if (tyNames.drop 1).contains "int" then T.ret (D.bl (subT "int" "int")) s else T.bad) = _
  rw [if_pos (by decide)]
  rfl
theorem isi_int_bool : isiD [.int i, .ty "bool"] s = .ret (.bl false) s := by
  show (if (tyNames.drop 1).contains "bool" then T.ret (D.bl (subT "int" "bool")) s else T.bad) = _
  rw [if_pos (by decide)]
  rfl
end
theorem nc0 : ((0 : Nat) : Int) = 0 := rfl
theorem nc1 : ((1 : Nat) : Int) = 1 := rfl
theorem nc2 : ((2 : Nat) : Int) = 2 := rfl
theorem nc3 : ((3 : Nat) : Int) = 3 := rfl
theorem nc4 : ((4 : Nat) : Int) = 4 := rfl
theorem nc5 : ((5 : Nat) : Int) = 5 := rfl
theorem nc6 : ((6 : Nat) : Int) = 6 := rfl
theorem nc7 : ((7 : Nat) : Int) = 7 := rfl
theorem nc8 : ((8 : Nat) : Int) = 8 := rfl
theorem nc9 : ((9 : Nat) : Int) = 9 := rfl
theorem nc10 : ((10 : Nat) : Int) = 10 := rfl
theorem nc11 : ((11 : Nat) : Int) = 11 := rfl
theorem nc12 : ((12 : Nat) : Int) = 12 := rfl
theorem nc13 : ((13 : Nat) : Int) = 13 := rfl
theorem nc14 : ((14 : Nat) : Int) = 14 := rfl
theorem nc15 : ((15 : Nat) : Int) = 15 := rfl
theorem nc16 : ((16 : Nat) : Int) = 16 := rfl
/-! equality of data -/
theorem eqD_same {x y : D} {e : List (Option D)} {st : List LO} {d : PyData} (hx : toP st 66 x = some d) (hy : toP st 66 y = some d) (hs : SeqAt.shaped d = true) : eqD x y ⟨e, st⟩ = .ret (.bl true) ⟨e, st⟩ := by
  unfold eqD
  simp only [hx, hy, hs, Bool.and_self, if_true, SeqAt.eqv_refl d (SeqAt.canLay_of_shaped hs)]
theorem neD_same {x y : D} {e : List (Option D)} {st : List LO} {d : PyData} (hx : toP st 66 x = some d) (hy : toP st 66 y = some d) (hs : SeqAt.shaped d = true) : neD x y ⟨e, st⟩ = .ret (.bl false) ⟨e, st⟩ := by
  unfold neD
  simp only [hx, hy, hs, Bool.and_self, if_true, SeqAt.eqv_refl d (SeqAt.canLay_of_shaped hs), Bool.not_true]
theorem canLay_ints : ∀ l : List Int, PyData.canLayAll0 (l.map PyData.int) = true
  | [] => by simp [PyData.canLayAll0]
  | i :: l => by simp [PyData.canLayAll0, PyData.canLay0, canLay_ints l]
theorem depth_ints : ∀ l : List Int, PyData.depthAll (l.map PyData.int) = 0
  | [] => by simp [PyData.depthAll]
  | i :: l => by simp [PyData.depthAll, PyData.depth, depth_ints l]
theorem shaped_ints (l : List Int) : SeqAt.shaped (.list (l.map PyData.int)) = true := by
  unfold SeqAt.shaped
  simp [PyData.canLay0, PyData.depth, canLay_ints, depth_ints]
theorem toP_ints {n k : Nat} {st : List LO} {l : List Int} (h : st[n]? = some (.lst (l.map D.int))) : toP st (k + 2) (.ref n) = some (.list (l.map PyData.int)) := by
  unfold toP
  simp only [h]
  rw [allO_map (f := toP st (k + 1)) (g := D.int) (h := PyData.int) (fun c => rfl)]
  rfl
theorem canLay_strs : ∀ {l : List Str}, l.all (fun a => SeqAt.shaped (.str a)) = true → PyData.canLayAll0 (l.map PyData.str) = true
  | [], _ => by simp [PyData.canLayAll0]
  | a :: l, h => by
    simp only [List.all_cons, Bool.and_eq_true] at h
    have h1 := SeqAt.canLay_of_shaped h.1
    simp [PyData.canLayAll0, h1, canLay_strs h.2]
theorem depth_strs : ∀ l : List Str, PyData.depthAll (l.map PyData.str) = 0
  | [] => by simp [PyData.depthAll]
  | i :: l => by simp [PyData.depthAll, PyData.depth, depth_strs l]
theorem shaped_strs {l : List Str} (h : l.all (fun a => SeqAt.shaped (.str a)) = true) : SeqAt.shaped (.list (l.map PyData.str)) = true := by
  unfold SeqAt.shaped
  simp [PyData.canLay0, PyData.depth, canLay_strs h, depth_strs]
theorem inD_strs {n : Nat} {e : List (Option D)} {st : List LO} {l : List Str} {a : Str} {neg : Bool} (h : st[n]? = some (.lst (l.map D.str))) (ha : SeqAt.shaped (.str a) = true) (hl : l.all (fun a => SeqAt.shaped (.str a)) = true) : inD neg (.str a) (.ref n) ⟨e, st⟩ = .ret (.bl ((l.any fun b => decide (b = a)) != neg)) ⟨e, st⟩ := by
  unfold inD
  have h2 : toP st 66 (.ref n) = some (.list (l.map PyData.str)) := by
    unfold toP
    simp only [h]
    rw [allO_map (f := toP st 65) (g := D.str) (h := PyData.str) (fun c => rfl)]
    rfl
  have h1 : toP st 66 (.str a) = some (.str a) := rfl
  simp only [dGet, h, h1, h2, ha, shaped_strs hl, Bool.and_self, if_true]
  rw [List.any_map]
  have : ((fun z => PyData.eqv z (.str a)) ∘ PyData.str) = fun b => decide (b = a) := by
    funext b
    exact eqv_str b a
  rw [this]
theorem run_ex {n m : Nat} {b : M Fl} {ds : List D} {S : List LO} {v : D} (hl : ds.length = n) (h : ∃ g e, b ⟨startE n m ds, S⟩ = .ret (.rt v) ⟨e, S ++ g⟩) : ∃ g, Run (fnM n m b) ds S v (S ++ g) := by
  obtain ⟨g, e, h⟩ := h
  exact ⟨g, run_fn hl h⟩
end Mz

set_option Elab.async false
set_option linter.all false
set_option maxRecDepth 100000
set_option maxHeartbeats 4000000
namespace K21
open PySem PySem.Spec PyProof.Rows L2 Mz
def m_doubled_e1 : M D :=
    (mTup (mCons (mRet (.str "wire")) (mCons (mOp mulD (mRet (.int 2)) (mVar 5)) mNil)))
def m_doubled_e2 : M D :=
    (mTup (mCons (mRet (.str "down")) (mCons (mOp mulD (mRet (.int 2)) (mVar 5)) mNil)))
def m_doubled_e3 : M D :=
    (mTup (mCons (mRet (.str "down")) (mCons (mOp addD (mOp mulD (mRet (.int 2)) (mVar 5)) (mRet (.int 1))) mNil)))
def m_doubled : M Fl :=
    (mSeq (mAsg (mFn range2D (mCons (mOp addD (mVar 1) (mRet (.int 1))) (mCons (mVar 0) mNil))) (gNm 2))
    (mSeq (mAsg (mOp addD (mOp addD (mLc (mRg1 (mCons (mVar 1) mNil)) (gT (.nm 5)) (mRet true) m_doubled_e1 [5]) (mLst (mCons (mTup (mCons (mRet (.str "copy")) (mCons (mOp mulD (mRet (.int 2)) (mVar 1)) mNil))) mNil))) (mLc (mIt (mVar 2)) (gT (.nm 5)) (mRet true) m_doubled_e2 [5])) (gNm 3))
    (mSeq (mAsg (mOp addD (mOp addD (mLc (mRg1 (mCons (mOp addD (mVar 1) (mRet (.int 1))) mNil)) (gT (.nm 5)) (mRet true) m_doubled_e1 [5]) (mLst (mCons (mTup (mCons (mRet (.str "down")) (mCons (mOp addD (mOp mulD (mRet (.int 2)) (mVar 1)) (mRet (.int 1))) mNil))) mNil))) (mLc (mIt (mVar 2)) (gT (.nm 5)) (mRet true) m_doubled_e3 [5])) (gNm 4))
    (mRetS (mTup (mCons (mFn tupleD (mCons (mVar 3) mNil)) (mCons (mFn tupleD (mCons (mVar 4) mNil)) mNil)))))))
def F_doubled : F := fnM 2 6 m_doubled
def m_exchanged_e1 : M D :=
    (mTup (mCons (mRet (.str "wire")) (mCons (mOp mulD (mRet (.int 2)) (mVar 7)) mNil)))
def m_exchanged_e2 : M D :=
    (mOp addD (mOp addD (mVar 5) (mVar 8)) (mVar 6))
def m_exchanged : M Fl :=
    (mSeq (mPar 2 3 (mCons (mOp mulD (mRet (.int 2)) (mVar 1)) (mCons (mOp addD (mOp mulD (mRet (.int 2)) (mVar 1)) (mRet (.int 3))) mNil)))
    (mSeq (mAsg (mLst (mCons (mTup (mCons (mTup (mCons (mRet (.str "copy")) (mCons (mVar 2) mNil))) (mCons (mTup (mCons (mRet (.str "copy")) (mCons (mOp addD (mVar 2) (mRet (.int 2))) mNil))) mNil))) (mCons (mTup (mCons (mTup (mCons (mRet (.str "wire")) (mCons (mVar 2) mNil))) (mCons (mTup (mCons (mRet (.str "xor")) (mCons (mOp addD (mVar 2) (mRet (.int 1))) mNil))) (mCons (mTup (mCons (mRet (.str "wire")) (mCons (mVar 3) mNil))) mNil)))) (mCons (mTup (mCons (mTup (mCons (mRet (.str "wire")) (mCons (mVar 2) mNil))) (mCons (mTup (mCons (mRet (.str "copy")) (mCons (mOp addD (mVar 2) (mRet (.int 1))) mNil))) (mCons (mTup (mCons (mRet (.str "wire")) (mCons (mVar 3) mNil))) mNil)))) (mCons (mTup (mCons (mTup (mCons (mRet (.str "xor")) (mCons (mVar 2) mNil))) (mCons (mTup (mCons (mRet (.str "xor")) (mCons (mOp addD (mVar 2) (mRet (.int 2))) mNil))) mNil))) mNil))))) (gNm 4))
    (mSeq (mAsg (mFn tupleD (mCons (mLc (mRg1 (mCons (mVar 1) mNil)) (gT (.nm 7)) (mRet true) m_exchanged_e1 [7]) mNil)) (gNm 5))
    (mSeq (mAsg (mFn tupleD (mCons (mLc (mRg2 (mCons (mOp addD (mVar 1) (mRet (.int 2))) (mCons (mVar 0) mNil))) (gT (.nm 7)) (mRet true) m_exchanged_e1 [7]) mNil)) (gNm 6))
    (mRetS (mFn tupleD (mCons (mLc (mIt (mVar 4)) (gT (.nm 8)) (mRet true) m_exchanged_e2 [8]) mNil)))))))
def F_exchanged : F := fnM 2 9 m_exchanged
def m_led_t1 : M Bool :=
    (mBool (mOp neD (mVar 1) (mVar 2)))
def m_led_l2 : M Fl :=
    (mSeq (mAsg (mOp addD (mVar 3) (mCall F_exchanged (mCons (mVar 0) (mCons (mFn minD (mCons (mVar 1) (mCons (mIfE (mBool (mOp ltD (mVar 1) (mVar 2))) (mOp addD (mVar 1) (mRet (.int 1))) (mOp subD (mVar 1) (mRet (.int 1)))) mNil))) mNil)))) (gNm 3))
    (mAsg (mIfE (mBool (mOp ltD (mVar 1) (mVar 2))) (mOp addD (mVar 1) (mRet (.int 1))) (mOp subD (mVar 1) (mRet (.int 1)))) (gNm 1)))
def m_led : M Fl :=
    (mSeq (mAsg (mTup mNil) (gNm 3))
    (mSeq (mWhile m_led_t1 m_led_l2 1000000)
    (mRetS (mVar 3))))
def F_led : F := fnM 3 4 m_led
def m_made_at_e1 : M D :=
    (mTup (mCons (mRet (.str "wire")) (mCons (mOp mulD (mRet (.int 2)) (mVar 6)) mNil)))
def m_made_at_e2 : M D :=
    (mTup (mCons (mRet (.str "up")) (mCons (mOp mulD (mRet (.int 2)) (mVar 6)) mNil)))
def m_made_at_e3 : M D :=
    (mTup (mCons (mRet (.str "up")) (mCons (mOp subD (mOp mulD (mRet (.int 2)) (mVar 6)) (mRet (.int 1))) mNil)))
def m_made_at : M Fl :=
    (mSeq (mAsg (mLc (mRg1 (mCons (mVar 1) mNil)) (gT (.nm 6)) (mRet true) m_made_at_e1 [6]) (gNm 3))
    (mSeq (mAsg (mOp addD (mOp addD (mVar 3) (mLst (mCons (mTup (mCons (mRet (.str "wire")) (mCons (mOp mulD (mRet (.int 2)) (mVar 1)) mNil))) mNil))) (mLc (mRg2 (mCons (mOp addD (mVar 1) (mRet (.int 1))) (mCons (mVar 0) mNil))) (gT (.nm 6)) (mRet true) m_made_at_e2 [6])) (gNm 4))
    (mSeq (mAsg (mOp addD (mOp addD (mVar 3) (mLst (mCons (mTup (mCons (mVar 2) (mCons (mOp mulD (mRet (.int 2)) (mVar 1)) mNil))) mNil))) (mLc (mRg2 (mCons (mOp addD (mVar 1) (mRet (.int 2))) (mCons (mVar 0) mNil))) (gT (.nm 6)) (mRet true) m_made_at_e3 [6])) (gNm 5))
    (mRetS (mTup (mCons (mFn tupleD (mCons (mVar 4) mNil)) (mCons (mFn tupleD (mCons (mVar 5) mNil)) mNil)))))))
def F_made_at : F := fnM 3 7 m_made_at
abbrev F__law_pen : F := Mz.penF
abbrev F__law_draw : F := Mz.drawF
def m__law_pick : M Fl :=
    (mRetS (mOp ixD (mVar 1) (mCall F__law_draw (mCons (mVar 0) (mCons (mFn lenD (mCons (mVar 1) mNil)) mNil)))))
def F__law_pick : F := fnM 2 2 m__law_pick
def m__law_is_whole : M Fl :=
    (mRetS (mAndV (mFn isiD (mCons (mVar 0) (mCons (mRet (.ty "int")) mNil))) (mNotV (mFn isiD (mCons (mVar 0) (mCons (mRet (.ty "bool")) mNil))))))
def F__law_is_whole : F := fnM 1 1 m__law_is_whole
def m__law_gate : M Fl :=
    (mSeq (mIfS (mBool (mOp eqD (mOp ixD (mVar 0) (mRet (.int 0))) (mRet (.str "one")))) (mRetS (mRet (.int 1))) mNext)
    (mSeq (mIfS (mBool (mOp eqD (mOp ixD (mVar 0) (mRet (.int 0))) (mRet (.str "not")))) (mRetS (mOp subD (mRet (.int 1)) (mOp ixD (mVar 1) (mOp ixD (mVar 0) (mRet (.int 1)))))) mNext)
    (mSeq (mPar 2 3 (mCons (mOp ixD (mVar 1) (mOp ixD (mVar 0) (mRet (.int 1)))) (mCons (mOp ixD (mVar 1) (mOp ixD (mVar 0) (mRet (.int 2)))) mNil)))
    (mRetS (mOp ixD (mDict [((mRet (.str "and")), (mOp mulD (mVar 2) (mVar 3))), ((mRet (.str "or")), (mFn maxD (mCons (mLst (mCons (mVar 2) (mCons (mVar 3) mNil))) mNil))), ((mRet (.str "xor")), (mFn intD (mCons (mOp neD (mVar 2) (mVar 3)) mNil))), ((mRet (.str "but")), (mOp mulD (mVar 2) (mOp subD (mRet (.int 1)) (mVar 3))))]) (mOp ixD (mVar 0) (mRet (.int 0))))))))
def F__law_gate : F := fnM 2 4 m__law_gate
def m__law_bit_rows_l1 : M Fl :=
    (mAsg (mOp addD (mVar 3) (mLst (mCons (mOp addD (mVar 4) (mTup (mCons (mRet (.int 0)) mNil))) (mCons (mOp addD (mVar 4) (mTup (mCons (mRet (.int 1)) mNil))) mNil)))) (gNm 3))
def m__law_bit_rows_l2 : M Fl :=
    (mSeq (mAsg (mLst mNil) (gNm 3))
    (mSeq (mFor (mIt (mVar 1)) (gNm 4) m__law_bit_rows_l1)
    (mAsg (mVar 3) (gNm 1))))
def m__law_bit_rows : M Fl :=
    (mSeq (mAsg (mLst (mCons (mTup mNil) mNil)) (gNm 1))
    (mSeq (mFor (mRg1 (mCons (mVar 0) mNil)) (gNm 2) m__law_bit_rows_l2)
    (mRetS (mVar 1))))
def F__law_bit_rows : F := fnM 1 5 m__law_bit_rows
def m__law_rows_of : M Fl :=
    (mSeq (mAsg (mVar 0) (gTupM 2 (gCons (gNm 1) (gCons (gNm 2) gNil))))
    (mSeq (mIfS (mBool (mOp eqD (mVar 1) (mRet (.str "wire")))) (mRetS (mLst (mCons (mVar 2) mNil))) mNext)
    (mRetS (mIfE (mBool (mOp eqD (mVar 1) (mRet (.str "up")))) (mLst (mCons (mOp subD (mVar 2) (mRet (.int 1))) (mCons (mVar 2) mNil))) (mLst (mCons (mVar 2) (mCons (mOp addD (mVar 2) (mRet (.int 1))) mNil)))))))
def F__law_rows_of : F := fnM 1 3 m__law_rows_of
def m__law_stage_behind_l1 : M Fl :=
    (mIfS (mBool (mOp eqD (mVar 3) (mRet (.str "wire")))) (mAsg (mOp ixD (mVar 1) (mVar 4)) (gSubM (mVar 2) (mVar 4))) (mIfS (mBool (mOp eqD (mVar 3) (mRet (.str "up")))) (mAsg (mOp ixD (mVar 1) (mVar 4)) (gSubM (mVar 2) (mOp subD (mVar 4) (mRet (.int 1))))) (mIfS (mBool (mOp eqD (mVar 3) (mRet (.str "down")))) (mAsg (mOp ixD (mVar 1) (mVar 4)) (gSubM (mVar 2) (mOp addD (mVar 4) (mRet (.int 1))))) (mIfS (mBool (mOp eqD (mVar 3) (mRet (.str "copy")))) (mAsg (mTup (mCons (mOp ixD (mVar 1) (mVar 4)) (mCons (mOp ixD (mVar 1) (mVar 4)) mNil))) (gTupM 2 (gCons (gSubM (mVar 2) (mVar 4)) (gCons (gSubM (mVar 2) (mOp addD (mVar 4) (mRet (.int 1)))) gNil)))) (mAsg (mCall F__law_gate (mCons (mTup (mCons (mVar 3) (mCons (mVar 4) (mCons (mOp addD (mVar 4) (mRet (.int 1))) mNil)))) (mCons (mVar 1) mNil))) (gSubM (mVar 2) (mVar 4)))))))
def m__law_stage_behind : M Fl :=
    (mSeq (mAsg (mOp mulD (mLst (mCons (mRet (.int 0)) mNil)) (mFn lenD (mCons (mVar 1) mNil))) (gNm 2))
    (mSeq (mFor (mIt (mVar 0)) (gTupM 2 (gCons (gNm 3) (gCons (gNm 4) gNil))) m__law_stage_behind_l1)
    (mRetS (mVar 2))))
def F__law_stage_behind : F := fnM 2 5 m__law_stage_behind
def m__law_passed_l1 : M Fl :=
    (mAsg (mCall F__law_stage_behind (mCons (mVar 2) (mCons (mVar 1) mNil))) (gNm 1))
def m__law_passed : M Fl :=
    (mSeq (mFor (mIt (mVar 0)) (gNm 2) m__law_passed_l1)
    (mRetS (mFn listD (mCons (mVar 1) mNil))))
def F__law_passed : F := fnM 2 3 m__law_passed
def m__law_are_stages_l1 : M Fl :=
    (mSeq (mIfS (mOr (mNot (mTru (mFn isiD (mCons (mVar 4) (mCons (mRet (.ty "tuple")) mNil))))) (mOr (mBool (mOp neD (mFn lenD (mCons (mVar 4) mNil)) (mRet (.int 2)))) (mNot (mTru (mCall F__law_is_whole (mCons (mOp ixD (mVar 4) (mRet (.int 1))) mNil)))))) (mRetS (mRet (.bl false))) mNext)
    (mSeq (mIfS (mBool (mOp (inD true) (mOp ixD (mVar 4) (mRet (.int 0))) (mLst (mCons (mRet (.str "wire")) (mCons (mRet (.str "up")) (mCons (mRet (.str "down")) (mCons (mRet (.str "copy")) (mCons (mRet (.str "or")) (mCons (mRet (.str "xor")) (mCons (mRet (.str "but")) mNil)))))))))) (mRetS (mRet (.bl false))) mNext)
    (mSeq (mAsg (mCall F__law_rows_of (mCons (mVar 4) mNil)) (gNm 5))
    (mSeq (mIfS (mOr (mBool (mOp leD (mOp ixD (mVar 5) (mRet (.int 0))) (mVar 3))) (mBool (mOp geD (mOp ixD (mVar 5) (mUn negD (mRet (.int 1)))) (mVar 1)))) (mRetS (mRet (.bl false))) mNext)
    (mAsg (mOp ixD (mVar 5) (mUn negD (mRet (.int 1)))) (gNm 3))))))
def m__law_are_stages_l2 : M Fl :=
    (mSeq (mIfS (mNot (mTru (mFn isiD (mCons (mVar 2) (mCons (mRet (.ty "tuple")) mNil))))) (mRetS (mRet (.bl false))) mNext)
    (mSeq (mAsg (mUn negD (mRet (.int 1))) (gNm 3))
    (mFor (mIt (mVar 2)) (gNm 4) m__law_are_stages_l1)))
def m__law_are_stages : M Fl :=
    (mSeq (mIfS (mNot (mTru (mFn isiD (mCons (mVar 0) (mCons (mRet (.ty "tuple")) mNil))))) (mRetS (mRet (.bl false))) mNext)
    (mSeq (mFor (mIt (mVar 0)) (gNm 2) m__law_are_stages_l2)
    (mRetS (mRet (.bl true)))))
def F__law_are_stages : F := fnM 2 6 m__law_are_stages
def m__law_slot_bits_l1 : M Fl :=
    (mAsg (mOp ixD (mVar 1) (mVar 3)) (gSubM (mVar 2) (mOp mulD (mRet (.int 2)) (mVar 3))))
def m__law_slot_bits : M Fl :=
    (mSeq (mAsg (mOp mulD (mLst (mCons (mRet (.int 0)) mNil)) (mVar 0)) (gNm 2))
    (mSeq (mFor (mRg1 (mCons (mFn lenD (mCons (mVar 1) mNil)) mNil)) (gNm 3) m__law_slot_bits_l1)
    (mRetS (mVar 2))))
def F__law_slot_bits : F := fnM 2 4 m__law_slot_bits
def m__law_own_exchanged_e1 : M D :=
    (mTup (mCons (mRet (.str "wire")) (mCons (mOp mulD (mRet (.int 2)) (mVar 6)) mNil)))
def m__law_own_exchanged_e2 : M D :=
    (mOp addD (mOp addD (mVar 3) (mVar 7)) (mVar 4))
def m__law_own_exchanged : M Fl :=
    (mSeq (mAsg (mOp mulD (mRet (.int 2)) (mVar 1)) (gNm 2))
    (mSeq (mAsg (mFn tupleD (mCons (mLc (mRg1 (mCons (mVar 1) mNil)) (gT (.nm 6)) (mRet true) m__law_own_exchanged_e1 [6]) mNil)) (gNm 3))
    (mSeq (mAsg (mFn tupleD (mCons (mLc (mRg2 (mCons (mOp addD (mVar 1) (mRet (.int 2))) (mCons (mVar 0) mNil))) (gT (.nm 6)) (mRet true) m__law_own_exchanged_e1 [6]) mNil)) (gNm 4))
    (mSeq (mAsg (mLst (mCons (mTup (mCons (mTup (mCons (mRet (.str "copy")) (mCons (mVar 2) mNil))) (mCons (mTup (mCons (mRet (.str "copy")) (mCons (mOp addD (mVar 2) (mRet (.int 2))) mNil))) mNil))) mNil)) (gNm 5))
    (mSeq (mDrop (mMt appendD (isL (mVar 5)) (mCons (mTup (mCons (mTup (mCons (mRet (.str "wire")) (mCons (mVar 2) mNil))) (mCons (mTup (mCons (mRet (.str "xor")) (mCons (mOp addD (mVar 2) (mRet (.int 1))) mNil))) (mCons (mTup (mCons (mRet (.str "wire")) (mCons (mOp addD (mVar 2) (mRet (.int 3))) mNil))) mNil)))) mNil)))
    (mSeq (mDrop (mMt appendD (isL (mVar 5)) (mCons (mTup (mCons (mTup (mCons (mRet (.str "wire")) (mCons (mVar 2) mNil))) (mCons (mTup (mCons (mRet (.str "copy")) (mCons (mOp addD (mVar 2) (mRet (.int 1))) mNil))) (mCons (mTup (mCons (mRet (.str "wire")) (mCons (mOp addD (mVar 2) (mRet (.int 3))) mNil))) mNil)))) mNil)))
    (mSeq (mDrop (mMt appendD (isL (mVar 5)) (mCons (mTup (mCons (mTup (mCons (mRet (.str "xor")) (mCons (mVar 2) mNil))) (mCons (mTup (mCons (mRet (.str "xor")) (mCons (mOp addD (mVar 2) (mRet (.int 2))) mNil))) mNil))) mNil)))
    (mRetS (mFn tupleD (mCons (mLc (mIt (mVar 5)) (gT (.nm 7)) (mRet true) m__law_own_exchanged_e2 [7]) mNil))))))))))
def F__law_own_exchanged : F := fnM 2 8 m__law_own_exchanged
def m__law_doubled_stages_e1 : M D :=
    (mTup (mCons (mRet (.str "wire")) (mCons (mOp mulD (mRet (.int 2)) (mVar 4)) mNil)))
def m__law_doubled_stages_e2 : M D :=
    (mTup (mCons (mRet (.str "down")) (mCons (mOp mulD (mRet (.int 2)) (mVar 4)) mNil)))
def m__law_doubled_stages_e3 : M D :=
    (mTup (mCons (mRet (.str "down")) (mCons (mOp addD (mOp mulD (mRet (.int 2)) (mVar 4)) (mRet (.int 1))) mNil)))
def m__law_doubled_stages : M Fl :=
    (mSeq (mAsg (mOp addD (mOp addD (mLc (mRg1 (mCons (mVar 1) mNil)) (gT (.nm 4)) (mRet true) m__law_doubled_stages_e1 [4]) (mLst (mCons (mTup (mCons (mRet (.str "copy")) (mCons (mOp mulD (mRet (.int 2)) (mVar 1)) mNil))) mNil))) (mLc (mRg2 (mCons (mOp addD (mVar 1) (mRet (.int 1))) (mCons (mVar 0) mNil))) (gT (.nm 4)) (mRet true) m__law_doubled_stages_e2 [4])) (gNm 2))
    (mSeq (mAsg (mOp addD (mLc (mRg1 (mCons (mOp addD (mVar 1) (mRet (.int 1))) mNil)) (gT (.nm 4)) (mRet true) m__law_doubled_stages_e1 [4]) (mLst (mCons (mTup (mCons (mRet (.str "down")) (mCons (mOp addD (mOp mulD (mRet (.int 2)) (mVar 1)) (mRet (.int 1))) mNil))) mNil))) (gNm 3))
    (mRetS (mTup (mCons (mFn tupleD (mCons (mVar 2) mNil)) (mCons (mFn tupleD (mCons (mOp addD (mVar 3) (mLc (mRg2 (mCons (mOp addD (mVar 1) (mRet (.int 1))) (mCons (mVar 0) mNil))) (gT (.nm 4)) (mRet true) m__law_doubled_stages_e3 [4])) mNil)) mNil))))))
def F__law_doubled_stages : F := fnM 2 5 m__law_doubled_stages
def m__law_made_stages_e1 : M D :=
    (mTup (mCons (mRet (.str "wire")) (mCons (mOp mulD (mRet (.int 2)) (mVar 5)) mNil)))
def m__law_made_stages_e2 : M D :=
    (mTup (mCons (mRet (.str "up")) (mCons (mOp mulD (mRet (.int 2)) (mVar 5)) mNil)))
def m__law_made_stages_e3 : M D :=
    (mTup (mCons (mRet (.str "up")) (mCons (mOp subD (mOp mulD (mRet (.int 2)) (mVar 5)) (mRet (.int 1))) mNil)))
def m__law_made_stages : M Fl :=
    (mSeq (mAsg (mOp addD (mLc (mRg1 (mCons (mOp addD (mVar 1) (mRet (.int 1))) mNil)) (gT (.nm 5)) (mRet true) m__law_made_stages_e1 [5]) (mLc (mRg2 (mCons (mOp addD (mVar 1) (mRet (.int 1))) (mCons (mVar 0) mNil))) (gT (.nm 5)) (mRet true) m__law_made_stages_e2 [5])) (gNm 3))
    (mSeq (mAsg (mOp addD (mLc (mRg1 (mCons (mVar 1) mNil)) (gT (.nm 5)) (mRet true) m__law_made_stages_e1 [5]) (mLst (mCons (mTup (mCons (mVar 2) (mCons (mOp mulD (mRet (.int 2)) (mVar 1)) mNil))) mNil))) (gNm 4))
    (mRetS (mTup (mCons (mFn tupleD (mCons (mVar 3) mNil)) (mCons (mFn tupleD (mCons (mOp addD (mVar 4) (mLc (mRg2 (mCons (mOp addD (mVar 1) (mRet (.int 2))) (mCons (mVar 0) mNil))) (gT (.nm 5)) (mRet true) m__law_made_stages_e3 [5])) mNil)) mNil))))))
def F__law_made_stages : F := fnM 3 6 m__law_made_stages
def m__law_led_stages_l1 : M Fl :=
    (mSeq (mIfS (mBool (mOp eqD (mVar 1) (mVar 2))) mBreak mNext)
    (mSeq (mAsg (mOp addD (mVar 3) (mCall F__law_own_exchanged (mCons (mVar 0) (mCons (mIfE (mBool (mOp eqD (mFn absD (mCons (mOp subD (mVar 1) (mVar 2)) mNil)) (mRet (.int 1)))) (mFn minD (mCons (mLst (mCons (mVar 1) (mCons (mVar 2) mNil))) mNil)) (mIfE (mBool (mOp ltD (mVar 1) (mVar 2))) (mVar 1) (mOp subD (mVar 1) (mRet (.int 1))))) mNil)))) (gNm 3))
    (mAsg (mIfE (mBool (mOp ltD (mVar 1) (mVar 2))) (mOp addD (mVar 1) (mRet (.int 1))) (mOp subD (mVar 1) (mRet (.int 1)))) (gNm 1))))
def m__law_led_stages : M Fl :=
    (mSeq (mAsg (mTup mNil) (gNm 3))
    (mSeq (mFor (mRg1 (mCons (mVar 0) mNil)) (gNm 4) m__law_led_stages_l1)
    (mRetS (mVar 3))))
def F__law_led_stages : F := fnM 3 5 m__law_led_stages
def m__law_leads : M Fl :=
    (mRetS (mOp eqD (mCall F__law_passed (mCons (mVar 0) (mCons (mCall F__law_slot_bits (mCons (mVar 1) (mCons (mVar 2) mNil))) mNil))) (mCall F__law_slot_bits (mCons (mVar 1) (mCons (mVar 3) mNil)))))
def F__law_leads : F := fnM 4 4 m__law_leads
def m_law_l1 : M Fl :=
    (mIfS (mNot (mTru (mCall F__law_are_stages (mCons (mVar 13) (mCons (mVar 6) mNil))))) (mRetS (mRet (.bl false))) mNext)
def m_law_l2 : M Fl :=
    (mSeq (mAsg (mFn listD (mCons (mVar 14) mNil)) (gNm 15))
    (mSeq (mIfS (mNot (mTru (mCall F__law_leads (mCons (mVar 9) (mCons (mVar 6) (mCons (mVar 15) (mCons (mOp addD (mSl (mVar 15) mNoPart (mPart (mOp addD (mVar 4) (mRet (.int 1))))) (mSl (mVar 15) (mPart (mVar 4)) mNoPart)) mNil))))))) (mRetS (mRet (.bl false))) mNext)
    (mSeq (mIfS (mNot (mTru (mCall F__law_leads (mCons (mVar 10) (mCons (mVar 6) (mCons (mVar 15) (mCons (mOp addD (mOp addD (mSl (mVar 15) mNoPart (mPart (mVar 7))) (mLst (mCons (mOp ixD (mVar 15) (mOp addD (mVar 7) (mRet (.int 1)))) (mCons (mOp ixD (mVar 15) (mVar 7)) mNil)))) (mSl (mVar 15) (mPart (mOp addD (mVar 7) (mRet (.int 2)))) mNoPart)) mNil))))))) (mRetS (mRet (.bl false))) mNext)
    (mSeq (mAsg (mOp addD (mSl (mVar 15) mNoPart (mPart (mVar 4))) (mSl (mVar 15) (mPart (mOp addD (mVar 4) (mRet (.int 1)))) mNoPart)) (gNm 16))
    (mSeq (mIfS (mNot (mTru (mCall F__law_leads (mCons (mVar 11) (mCons (mVar 6) (mCons (mVar 15) (mCons (mOp addD (mOp addD (mSl (mVar 16) mNoPart (mPart (mVar 5))) (mLst (mCons (mOp ixD (mVar 15) (mVar 4)) mNil))) (mSl (mVar 16) (mPart (mVar 5)) mNoPart)) mNil))))))) (mRetS (mRet (.bl false))) mNext)
    (mSeq (mAsg (mCall F__law_gate (mCons (mTup (mCons (mVar 8) (mCons (mRet (.int 0)) (mCons (mRet (.int 1)) mNil)))) (mCons (mSl (mVar 15) (mPart (mVar 7)) (mPart (mOp addD (mVar 7) (mRet (.int 2))))) mNil))) (gNm 17))
    (mIfS (mNot (mTru (mCall F__law_leads (mCons (mVar 12) (mCons (mVar 6) (mCons (mVar 15) (mCons (mOp addD (mOp addD (mSl (mVar 15) mNoPart (mPart (mVar 7))) (mLst (mCons (mVar 17) mNil))) (mSl (mVar 15) (mPart (mOp addD (mVar 7) (mRet (.int 2)))) mNoPart)) mNil))))))) (mRetS (mRet (.bl false))) mNext)))))))
def m_law_l3 : M Fl :=
    (mSeq (mAsg (mOp addD (mRet (.int 2)) (mCall F__law_draw (mCons (mVar 1) (mCons (mRet (.int 5)) mNil)))) (gNm 3))
    (mSeq (mPar3 4 5 6 (mCons (mCall F__law_draw (mCons (mVar 1) (mCons (mVar 3) mNil))) (mCons (mCall F__law_draw (mCons (mVar 1) (mCons (mVar 3) mNil))) (mCons (mOp addD (mOp mulD (mRet (.int 2)) (mVar 3)) (mRet (.int 2))) mNil))))
    (mSeq (mPar 7 8 (mCons (mCall F__law_draw (mCons (mVar 1) (mCons (mOp subD (mVar 3) (mRet (.int 1))) mNil))) (mCons (mCall F__law_pick (mCons (mVar 1) (mCons (mLst (mCons (mRet (.str "or")) (mCons (mRet (.str "xor")) (mCons (mRet (.str "but")) mNil)))) mNil))) mNil)))
    (mSeq (mAsg (mTup (mCons (mCall F_doubled (mCons (mVar 3) (mCons (mVar 4) mNil))) (mCons (mCall F_exchanged (mCons (mVar 3) (mCons (mVar 7) mNil))) (mCons (mCall F_led (mCons (mVar 3) (mCons (mVar 4) (mCons (mVar 5) mNil)))) (mCons (mCall F_made_at (mCons (mVar 3) (mCons (mVar 7) (mCons (mVar 8) mNil)))) mNil))))) (gTupM 4 (gCons (gNm 9) (gCons (gNm 10) (gCons (gNm 11) (gCons (gNm 12) gNil))))))
    (mSeq (mIfS (mOr (mBool (mOp neD (mVar 9) (mCall F__law_doubled_stages (mCons (mVar 3) (mCons (mVar 4) mNil))))) (mBool (mOp neD (mVar 10) (mCall F__law_own_exchanged (mCons (mVar 3) (mCons (mVar 7) mNil)))))) (mRetS (mRet (.bl false))) mNext)
    (mSeq (mIfS (mOr (mBool (mOp neD (mVar 11) (mCall F__law_led_stages (mCons (mVar 3) (mCons (mVar 4) (mCons (mVar 5) mNil)))))) (mBool (mOp neD (mVar 12) (mCall F__law_made_stages (mCons (mVar 3) (mCons (mVar 7) (mCons (mVar 8) mNil))))))) (mRetS (mRet (.bl false))) mNext)
    (mSeq (mFor (mIt (mLst (mCons (mVar 9) (mCons (mVar 10) (mCons (mVar 11) (mCons (mVar 12) mNil)))))) (gNm 13) m_law_l1)
    (mFor (mIt (mCall F__law_bit_rows (mCons (mVar 3) mNil))) (gNm 14) m_law_l2))))))))
def m_law : M Fl :=
    (mSeq (mAsg (mCall F__law_pen (mCons (mVar 0) mNil)) (gNm 1))
    (mSeq (mFor (mRg1 (mCons (mRet (.int 3)) mNil)) (gNm 2) m_law_l3)
    (mRetS (mOp eqD (mCall F_doubled (mCons (mRet (.int 1)) (mCons (mRet (.int 0)) mNil))) (mTup (mCons (mTup (mCons (mTup (mCons (mRet (.str "copy")) (mCons (mRet (.int 0)) mNil))) mNil)) (mCons (mTup (mCons (mTup (mCons (mRet (.str "wire")) (mCons (mRet (.int 0)) mNil))) (mCons (mTup (mCons (mRet (.str "down")) (mCons (mRet (.int 1)) mNil))) mNil))) mNil)))))))
def F_law : F := fnM 1 18 m_law
end K21

set_option Elab.async false
set_option linter.all false
set_option maxRecDepth 100000
set_option maxHeartbeats 4000000
namespace K21
open PySem PySem.Spec PyProof.Rows L2 Mz
def top (i : Nat) : Stmt := PySem.Challenge.pw_sparkboard_k21_whole_exchanges_and_copie.main.body.getD i (.Pass ⟨0, 0, 0, 0⟩)
section
variable {P : Program} {w : World} {K : PySem.W.Frag} {mg : Str → Option Value} {base : Heap}
abbrev s_doubled : Stmt := top 1
theorem sc_doubled : FnScope ["m", "p", "later", "first", "second", "k"] ["m", "p"] (defScope s_doubled) := ⟨rfl, rfl, rfl, by decide +kernel, rfl, by decide +kernel, by decide +kernel⟩
theorem v_doubled_m : Vis (defScope s_doubled) "m" := .inl (by decide +kernel)
theorem v_doubled_p : Vis (defScope s_doubled) "p" := .inl (by decide +kernel)
theorem g_doubled_range : ((defScope s_doubled) : Scope).names.lookup ("range" : Str) = some NameKind.globalImplicit := by decide +kernel
theorem l_doubled_later : Loc (defScope s_doubled) "later" := .inl (by decide +kernel)
theorem k_doubled_b1_k : ((relS { kind := PySem.ScopeKind.function, names := [(PySem.Str.ofString ".0", PySem.NameKind.local), (PySem.Str.ofString "k", PySem.NameKind.local)], isGenerator := false, isCoroutine := false, more := [] : PySem.Scope } (defScope s_doubled)) : Scope).names.lookup ("k" : Str) = some NameKind.local := by decide +kernel
theorem v_doubled_b1_k : Vis (relS { kind := PySem.ScopeKind.function, names := [(PySem.Str.ofString ".0", PySem.NameKind.local), (PySem.Str.ofString "k", PySem.NameKind.local)], isGenerator := false, isCoroutine := false, more := [] : PySem.Scope } (defScope s_doubled)) "k" := .inl (by decide +kernel)
theorem v_doubled_later : Vis (defScope s_doubled) "later" := .inl (by decide +kernel)
theorem k_doubled_b2_k : ((relS { kind := PySem.ScopeKind.function, names := [(PySem.Str.ofString ".0", PySem.NameKind.local), (PySem.Str.ofString "k", PySem.NameKind.local)], isGenerator := false, isCoroutine := false, more := [] : PySem.Scope } (defScope s_doubled)) : Scope).names.lookup ("k" : Str) = some NameKind.local := by decide +kernel
theorem v_doubled_b2_k : Vis (relS { kind := PySem.ScopeKind.function, names := [(PySem.Str.ofString ".0", PySem.NameKind.local), (PySem.Str.ofString "k", PySem.NameKind.local)], isGenerator := false, isCoroutine := false, more := [] : PySem.Scope } (defScope s_doubled)) "k" := .inl (by decide +kernel)
theorem l_doubled_first : Loc (defScope s_doubled) "first" := .inl (by decide +kernel)
theorem k_doubled_b3_k : ((relS { kind := PySem.ScopeKind.function, names := [(PySem.Str.ofString ".0", PySem.NameKind.local), (PySem.Str.ofString "k", PySem.NameKind.local)], isGenerator := false, isCoroutine := false, more := [] : PySem.Scope } (defScope s_doubled)) : Scope).names.lookup ("k" : Str) = some NameKind.local := by decide +kernel
theorem v_doubled_b3_k : Vis (relS { kind := PySem.ScopeKind.function, names := [(PySem.Str.ofString ".0", PySem.NameKind.local), (PySem.Str.ofString "k", PySem.NameKind.local)], isGenerator := false, isCoroutine := false, more := [] : PySem.Scope } (defScope s_doubled)) "k" := .inl (by decide +kernel)
theorem k_doubled_b4_k : ((relS { kind := PySem.ScopeKind.function, names := [(PySem.Str.ofString ".0", PySem.NameKind.local), (PySem.Str.ofString "k", PySem.NameKind.local)], isGenerator := false, isCoroutine := false, more := [] : PySem.Scope } (defScope s_doubled)) : Scope).names.lookup ("k" : Str) = some NameKind.local := by decide +kernel
theorem v_doubled_b4_k : Vis (relS { kind := PySem.ScopeKind.function, names := [(PySem.Str.ofString ".0", PySem.NameKind.local), (PySem.Str.ofString "k", PySem.NameKind.local)], isGenerator := false, isCoroutine := false, more := [] : PySem.Scope } (defScope s_doubled)) "k" := .inl (by decide +kernel)
theorem l_doubled_second : Loc (defScope s_doubled) "second" := .inl (by decide +kernel)
theorem v_doubled_second : Vis (defScope s_doubled) "second" := .inl (by decide +kernel)
theorem g_doubled_tuple : ((defScope s_doubled) : Scope).names.lookup ("tuple" : Str) = some NameKind.globalImplicit := by decide +kernel
theorem v_doubled_first : Vis (defScope s_doubled) "first" := .inl (by decide +kernel)
theorem d_doubled {X : Cx} {W : WX} (d : Dc X W ["m", "p", "later", "first", "second", "k"] (defScope s_doubled) 1) (z_range : X.mg "range" = none) (z_tuple : X.mg "tuple" = none) : MSs X W (defBody s_doubled) m_doubled :=
    (mss_cons (ms_set d.c 2 (by rfl) l_doubled_later (.inl (by rw [d.fn])) (me_fnT cr_range2 opn_range2 (d.c.gl g_doubled_range) z_range (by decide +kernel) (ma_cons (me_op op_addU op2_add (me_var d.c 1 (by rfl) v_doubled_p) me_int) (ma_cons (me_var d.c 0 (by rfl) v_doubled_m) ma_nil))))
    (mss_cons (ms_set d.c 3 (by rfl) l_doubled_first (.inl (by rw [d.fn])) (me_op op_addU op2_add (me_op op_addU op2_add (me_lc d.c (own := [("k", 5)]) (mi_rg1 (d.c.gl g_doubled_range) z_range (ma_cons (me_var d.c 1 (by rfl) v_doubled_p) ma_nil)) (by decide +kernel) (by decide) (fun _ _ _ _ _ c1 => (mgx_nm c1 5 (by rfl) k_doubled_b1_k)) (fun _ _ _ _ _ c1 => mts_nil) (fun _ _ _ _ _ c1 => (me_tup (ma_cons me_str (ma_cons (me_op op_mulU op2_mul me_int (me_var c1 5 (by rfl) v_doubled_b1_k)) ma_nil))))) (me_lst (ma_cons (me_tup (ma_cons me_str (ma_cons (me_op op_mulU op2_mul me_int (me_var d.c 1 (by rfl) v_doubled_p)) ma_nil))) ma_nil))) (me_lc d.c (own := [("k", 5)]) (mi_any (me_var d.c 2 (by rfl) v_doubled_later)) (by decide +kernel) (by decide) (fun _ _ _ _ _ c2 => (mgx_nm c2 5 (by rfl) k_doubled_b2_k)) (fun _ _ _ _ _ c2 => mts_nil) (fun _ _ _ _ _ c2 => (me_tup (ma_cons me_str (ma_cons (me_op op_mulU op2_mul me_int (me_var c2 5 (by rfl) v_doubled_b2_k)) ma_nil)))))))
    (mss_cons (ms_set d.c 4 (by rfl) l_doubled_second (.inl (by rw [d.fn])) (me_op op_addU op2_add (me_op op_addU op2_add (me_lc d.c (own := [("k", 5)]) (mi_rg1 (d.c.gl g_doubled_range) z_range (ma_cons (me_op op_addU op2_add (me_var d.c 1 (by rfl) v_doubled_p) me_int) ma_nil)) (by decide +kernel) (by decide) (fun _ _ _ _ _ c3 => (mgx_nm c3 5 (by rfl) k_doubled_b3_k)) (fun _ _ _ _ _ c3 => mts_nil) (fun _ _ _ _ _ c3 => (me_tup (ma_cons me_str (ma_cons (me_op op_mulU op2_mul me_int (me_var c3 5 (by rfl) v_doubled_b3_k)) ma_nil))))) (me_lst (ma_cons (me_tup (ma_cons me_str (ma_cons (me_op op_addU op2_add (me_op op_mulU op2_mul me_int (me_var d.c 1 (by rfl) v_doubled_p)) me_int) ma_nil))) ma_nil))) (me_lc d.c (own := [("k", 5)]) (mi_any (me_var d.c 2 (by rfl) v_doubled_later)) (by decide +kernel) (by decide) (fun _ _ _ _ _ c4 => (mgx_nm c4 5 (by rfl) k_doubled_b4_k)) (fun _ _ _ _ _ c4 => mts_nil) (fun _ _ _ _ _ c4 => (me_tup (ma_cons me_str (ma_cons (me_op op_addU op2_add (me_op op_mulU op2_mul me_int (me_var c4 5 (by rfl) v_doubled_b4_k)) me_int) ma_nil)))))))
    (mss_one (ms_ret (me_tup (ma_cons (me_fnT call_tuple_of opn_tuple (d.c.gl g_doubled_tuple) z_tuple (by decide +kernel) (ma_cons (me_var d.c 3 (by rfl) v_doubled_first) ma_nil)) (ma_cons (me_fnT call_tuple_of opn_tuple (d.c.gl g_doubled_tuple) z_tuple (by decide +kernel) (ma_cons (me_var d.c 4 (by rfl) v_doubled_second) ma_nil)) ma_nil))))))))
theorem fk_doubled {f : Addr} {fd : FuncData} (Fn : Fun K "doubled" "doubled" s_doubled f fd) (z_range : mg "range" = none) (z_tuple : mg "tuple" = none) : FnOk P w K mg base (L2.CX P w) 2 f fd ["m", "p"] (spM ⟨P, w, K⟩ 2 F_doubled) :=
  fn_ok Fn sc_doubled fun X W e1 e2 e3 e4 e5 d => by subst e1 e2 e3 e4 e5; exact d_doubled d z_range z_tuple
theorem ok_doubled {f : Addr} {fd : FuncData} (Fn : Fun K "doubled" "doubled" s_doubled f fd) (hm : mg "doubled" = some (.ref f)) (z_range : mg "range" = none) (z_tuple : mg "tuple" = none) : Fc P w K mg base "doubled" 2 2 F_doubled :=
  ⟨f, fd, ["m", "p"], hm, Fn.kp, Fn.binds (fun _ _ _ _ _ _ us hl => match us, hl with | [_, _], _ => rfl), fk_doubled Fn z_range z_tuple⟩
abbrev s_exchanged : Stmt := top 2
theorem sc_exchanged : FnScope ["m", "p", "low", "high", "middle", "ahead", "behind", "k", "tiles"] ["m", "p"] (defScope s_exchanged) := ⟨rfl, rfl, rfl, by decide +kernel, rfl, by decide +kernel, by decide +kernel⟩
theorem v_exchanged_p : Vis (defScope s_exchanged) "p" := .inl (by decide +kernel)
theorem k_exchanged_low : ((defScope s_exchanged) : Scope).names.lookup ("low" : Str) = some NameKind.local := by decide +kernel
theorem k_exchanged_high : ((defScope s_exchanged) : Scope).names.lookup ("high" : Str) = some NameKind.local := by decide +kernel
theorem v_exchanged_low : Vis (defScope s_exchanged) "low" := .inl (by decide +kernel)
theorem v_exchanged_high : Vis (defScope s_exchanged) "high" := .inl (by decide +kernel)
theorem l_exchanged_middle : Loc (defScope s_exchanged) "middle" := .inl (by decide +kernel)
theorem g_exchanged_range : ((defScope s_exchanged) : Scope).names.lookup ("range" : Str) = some NameKind.globalImplicit := by decide +kernel
theorem k_exchanged_b1_k : ((relS { kind := PySem.ScopeKind.function, names := [(PySem.Str.ofString ".0", PySem.NameKind.local), (PySem.Str.ofString "k", PySem.NameKind.local)], isGenerator := false, isCoroutine := false, more := [] : PySem.Scope } (defScope s_exchanged)) : Scope).names.lookup ("k" : Str) = some NameKind.local := by decide +kernel
theorem v_exchanged_b1_k : Vis (relS { kind := PySem.ScopeKind.function, names := [(PySem.Str.ofString ".0", PySem.NameKind.local), (PySem.Str.ofString "k", PySem.NameKind.local)], isGenerator := false, isCoroutine := false, more := [] : PySem.Scope } (defScope s_exchanged)) "k" := .inl (by decide +kernel)
theorem g_exchanged_tuple : ((defScope s_exchanged) : Scope).names.lookup ("tuple" : Str) = some NameKind.globalImplicit := by decide +kernel
theorem l_exchanged_ahead : Loc (defScope s_exchanged) "ahead" := .inr (by decide +kernel)
theorem v_exchanged_m : Vis (defScope s_exchanged) "m" := .inl (by decide +kernel)
theorem k_exchanged_b2_k : ((relS { kind := PySem.ScopeKind.function, names := [(PySem.Str.ofString ".0", PySem.NameKind.local), (PySem.Str.ofString "k", PySem.NameKind.local)], isGenerator := false, isCoroutine := false, more := [] : PySem.Scope } (defScope s_exchanged)) : Scope).names.lookup ("k" : Str) = some NameKind.local := by decide +kernel
theorem v_exchanged_b2_k : Vis (relS { kind := PySem.ScopeKind.function, names := [(PySem.Str.ofString ".0", PySem.NameKind.local), (PySem.Str.ofString "k", PySem.NameKind.local)], isGenerator := false, isCoroutine := false, more := [] : PySem.Scope } (defScope s_exchanged)) "k" := .inl (by decide +kernel)
theorem l_exchanged_behind : Loc (defScope s_exchanged) "behind" := .inr (by decide +kernel)
theorem v_exchanged_middle : Vis (defScope s_exchanged) "middle" := .inl (by decide +kernel)
theorem k_exchanged_b3_tiles : ((relS { kind := PySem.ScopeKind.function, names := [(PySem.Str.ofString ".0", PySem.NameKind.local), (PySem.Str.ofString "tiles", PySem.NameKind.local), (PySem.Str.ofString "ahead", PySem.NameKind.free), (PySem.Str.ofString "behind", PySem.NameKind.free)], isGenerator := false, isCoroutine := false, more := [] : PySem.Scope } (defScope s_exchanged)) : Scope).names.lookup ("tiles" : Str) = some NameKind.local := by decide +kernel
theorem v_exchanged_b3_ahead : Vis (relS { kind := PySem.ScopeKind.function, names := [(PySem.Str.ofString ".0", PySem.NameKind.local), (PySem.Str.ofString "tiles", PySem.NameKind.local), (PySem.Str.ofString "ahead", PySem.NameKind.free), (PySem.Str.ofString "behind", PySem.NameKind.free)], isGenerator := false, isCoroutine := false, more := [] : PySem.Scope } (defScope s_exchanged)) "ahead" := .inr (.inl (by decide +kernel))
theorem v_exchanged_b3_tiles : Vis (relS { kind := PySem.ScopeKind.function, names := [(PySem.Str.ofString ".0", PySem.NameKind.local), (PySem.Str.ofString "tiles", PySem.NameKind.local), (PySem.Str.ofString "ahead", PySem.NameKind.free), (PySem.Str.ofString "behind", PySem.NameKind.free)], isGenerator := false, isCoroutine := false, more := [] : PySem.Scope } (defScope s_exchanged)) "tiles" := .inl (by decide +kernel)
theorem v_exchanged_b3_behind : Vis (relS { kind := PySem.ScopeKind.function, names := [(PySem.Str.ofString ".0", PySem.NameKind.local), (PySem.Str.ofString "tiles", PySem.NameKind.local), (PySem.Str.ofString "ahead", PySem.NameKind.free), (PySem.Str.ofString "behind", PySem.NameKind.free)], isGenerator := false, isCoroutine := false, more := [] : PySem.Scope } (defScope s_exchanged)) "behind" := .inr (.inl (by decide +kernel))
theorem d_exchanged {X : Cx} {W : WX} (d : Dc X W ["m", "p", "low", "high", "middle", "ahead", "behind", "k", "tiles"] (defScope s_exchanged) 1) (z_range : X.mg "range" = none) (z_tuple : X.mg "tuple" = none) : MSs X W (defBody s_exchanged) m_exchanged :=
    (mss_cons (ms_par d.c 2 3 (by rfl) (by rfl) (by decide) k_exchanged_low k_exchanged_high (ma_cons (me_op op_mulU op2_mul me_int (me_var d.c 1 (by rfl) v_exchanged_p)) (ma_cons (me_op op_addU op2_add (me_op op_mulU op2_mul me_int (me_var d.c 1 (by rfl) v_exchanged_p)) me_int) ma_nil)) (fun hc hN hi hj hx hy ha => ps_par hc hN hi hj (by decide) hx hy ha (sw_env d.c (fun env h => by cases env; cases h; rfl))))
    (mss_cons (ms_set d.c 4 (by rfl) l_exchanged_middle (.inl (by rw [d.fn])) (me_lst (ma_cons (me_tup (ma_cons (me_tup (ma_cons me_str (ma_cons (me_var d.c 2 (by rfl) v_exchanged_low) ma_nil))) (ma_cons (me_tup (ma_cons me_str (ma_cons (me_op op_addU op2_add (me_var d.c 2 (by rfl) v_exchanged_low) me_int) ma_nil))) ma_nil))) (ma_cons (me_tup (ma_cons (me_tup (ma_cons me_str (ma_cons (me_var d.c 2 (by rfl) v_exchanged_low) ma_nil))) (ma_cons (me_tup (ma_cons me_str (ma_cons (me_op op_addU op2_add (me_var d.c 2 (by rfl) v_exchanged_low) me_int) ma_nil))) (ma_cons (me_tup (ma_cons me_str (ma_cons (me_var d.c 3 (by rfl) v_exchanged_high) ma_nil))) ma_nil)))) (ma_cons (me_tup (ma_cons (me_tup (ma_cons me_str (ma_cons (me_var d.c 2 (by rfl) v_exchanged_low) ma_nil))) (ma_cons (me_tup (ma_cons me_str (ma_cons (me_op op_addU op2_add (me_var d.c 2 (by rfl) v_exchanged_low) me_int) ma_nil))) (ma_cons (me_tup (ma_cons me_str (ma_cons (me_var d.c 3 (by rfl) v_exchanged_high) ma_nil))) ma_nil)))) (ma_cons (me_tup (ma_cons (me_tup (ma_cons me_str (ma_cons (me_var d.c 2 (by rfl) v_exchanged_low) ma_nil))) (ma_cons (me_tup (ma_cons me_str (ma_cons (me_op op_addU op2_add (me_var d.c 2 (by rfl) v_exchanged_low) me_int) ma_nil))) ma_nil))) ma_nil))))))
    (mss_cons (ms_set d.c 5 (by rfl) l_exchanged_ahead (.inl (by rw [d.fn])) (me_fnT call_tuple_of opn_tuple (d.c.gl g_exchanged_tuple) z_tuple (by decide +kernel) (ma_cons (me_lc d.c (own := [("k", 7)]) (mi_rg1 (d.c.gl g_exchanged_range) z_range (ma_cons (me_var d.c 1 (by rfl) v_exchanged_p) ma_nil)) (by decide +kernel) (by decide) (fun _ _ _ _ _ c1 => (mgx_nm c1 7 (by rfl) k_exchanged_b1_k)) (fun _ _ _ _ _ c1 => mts_nil) (fun _ _ _ _ _ c1 => (me_tup (ma_cons me_str (ma_cons (me_op op_mulU op2_mul me_int (me_var c1 7 (by rfl) v_exchanged_b1_k)) ma_nil))))) ma_nil)))
    (mss_cons (ms_set d.c 6 (by rfl) l_exchanged_behind (.inl (by rw [d.fn])) (me_fnT call_tuple_of opn_tuple (d.c.gl g_exchanged_tuple) z_tuple (by decide +kernel) (ma_cons (me_lc d.c (own := [("k", 7)]) (mi_rg2 (d.c.gl g_exchanged_range) z_range (ma_cons (me_op op_addU op2_add (me_var d.c 1 (by rfl) v_exchanged_p) me_int) (ma_cons (me_var d.c 0 (by rfl) v_exchanged_m) ma_nil))) (by decide +kernel) (by decide) (fun _ _ _ _ _ c2 => (mgx_nm c2 7 (by rfl) k_exchanged_b2_k)) (fun _ _ _ _ _ c2 => mts_nil) (fun _ _ _ _ _ c2 => (me_tup (ma_cons me_str (ma_cons (me_op op_mulU op2_mul me_int (me_var c2 7 (by rfl) v_exchanged_b2_k)) ma_nil))))) ma_nil)))
    (mss_one (ms_ret (me_fnT call_tuple_of opn_tuple (d.c.gl g_exchanged_tuple) z_tuple (by decide +kernel) (ma_cons (me_lc d.c (own := [("tiles", 8)]) (mi_any (me_var d.c 4 (by rfl) v_exchanged_middle)) (by decide +kernel) (by decide) (fun _ _ _ _ _ c3 => (mgx_nm c3 8 (by rfl) k_exchanged_b3_tiles)) (fun _ _ _ _ _ c3 => mts_nil) (fun _ _ _ _ _ c3 => (me_op op_addU op2_add (me_op op_addU op2_add (me_var c3 5 (by rfl) v_exchanged_b3_ahead) (me_var c3 8 (by rfl) v_exchanged_b3_tiles)) (me_var c3 6 (by rfl) v_exchanged_b3_behind)))) ma_nil))))))))
theorem fk_exchanged {f : Addr} {fd : FuncData} (Fn : Fun K "exchanged" "exchanged" s_exchanged f fd) (z_range : mg "range" = none) (z_tuple : mg "tuple" = none) : FnOk P w K mg base (L2.CX P w) 2 f fd ["m", "p"] (spM ⟨P, w, K⟩ 2 F_exchanged) :=
  fn_ok Fn sc_exchanged fun X W e1 e2 e3 e4 e5 d => by subst e1 e2 e3 e4 e5; exact d_exchanged d z_range z_tuple
theorem ok_exchanged {f : Addr} {fd : FuncData} (Fn : Fun K "exchanged" "exchanged" s_exchanged f fd) (hm : mg "exchanged" = some (.ref f)) (z_range : mg "range" = none) (z_tuple : mg "tuple" = none) : Fc P w K mg base "exchanged" 2 2 F_exchanged :=
  ⟨f, fd, ["m", "p"], hm, Fn.kp, Fn.binds (fun _ _ _ _ _ _ us hl => match us, hl with | [_, _], _ => rfl), fk_exchanged Fn z_range z_tuple⟩
abbrev s_led : Stmt := top 3
theorem sc_led : FnScope ["m", "p", "q", "stages"] ["m", "p", "q"] (defScope s_led) := ⟨rfl, rfl, rfl, by decide +kernel, rfl, by decide +kernel, by decide +kernel⟩
theorem l_led_stages : Loc (defScope s_led) "stages" := .inl (by decide +kernel)
theorem v_led_p : Vis (defScope s_led) "p" := .inl (by decide +kernel)
theorem v_led_q : Vis (defScope s_led) "q" := .inl (by decide +kernel)
theorem v_led_stages : Vis (defScope s_led) "stages" := .inl (by decide +kernel)
theorem g_led_min : ((defScope s_led) : Scope).names.lookup ("min" : Str) = some NameKind.globalImplicit := by decide +kernel
theorem v_led_m : Vis (defScope s_led) "m" := .inl (by decide +kernel)
theorem g_led_exchanged : ((defScope s_led) : Scope).names.lookup ("exchanged" : Str) = some NameKind.globalImplicit := by decide +kernel
theorem l_led_p : Loc (defScope s_led) "p" := .inl (by decide +kernel)
theorem d_led {X : Cx} {W : WX} (d : Dc X W ["m", "p", "q", "stages"] (defScope s_led) 2) (f_exchanged : Fx X "exchanged" 2 2 F_exchanged) (z_min : X.mg "min" = none) : MSs X W (defBody s_led) m_led :=
    (mss_cons (ms_set d.c 3 (by rfl) l_led_stages (.inl (by rw [d.fn])) (me_tup ma_nil))
    (mss_cons (ms_while 1000000 d.po (mt_cmp (op_neD d.hu64) op2_ne (me_var d.c 1 (by rfl) v_led_p) (me_var d.c 2 (by rfl) v_led_q) (nomark _)) (mss_cons (ms_set d.c 3 (by rfl) l_led_stages (.inl (by rw [d.fn])) (me_op op_addU op2_add (me_var d.c 3 (by rfl) v_led_stages) (me_call f_exchanged (d.hr.mono (by decide)) d.tk (d.c.gl g_led_exchanged) (ma_cons (me_var d.c 0 (by rfl) v_led_m) (ma_cons (me_fnB (call_minU d.c.calm) opn_min (d.c.gl g_led_min) z_min (by decide +kernel) (ma_cons (me_var d.c 1 (by rfl) v_led_p) (ma_cons (me_if (mt_cmp op_lt op2_lt (me_var d.c 1 (by rfl) v_led_p) (me_var d.c 2 (by rfl) v_led_q) (nomark _)) (me_op op_addU op2_add (me_var d.c 1 (by rfl) v_led_p) me_int) (me_op op_sub op2_sub (me_var d.c 1 (by rfl) v_led_p) me_int)) ma_nil))) ma_nil)) (by rfl) (hlen := (len_cons (len_cons (fun _ _ _ => len_nil)))))))
    (mss_one (ms_set d.c 1 (by rfl) l_led_p (.inl (by rw [d.fn])) (me_if (mt_cmp op_lt op2_lt (me_var d.c 1 (by rfl) v_led_p) (me_var d.c 2 (by rfl) v_led_q) (nomark _)) (me_op op_addU op2_add (me_var d.c 1 (by rfl) v_led_p) me_int) (me_op op_sub op2_sub (me_var d.c 1 (by rfl) v_led_p) me_int))))))
    (mss_one (ms_ret (me_var d.c 3 (by rfl) v_led_stages)))))
theorem fk_led {f : Addr} {fd : FuncData} (Fn : Fun K "led" "led" s_led f fd) (f_exchanged : Fc P w K mg base "exchanged" 2 2 F_exchanged) (z_min : mg "min" = none) : FnOk P w K mg base (L2.CX P w) 3 f fd ["m", "p", "q"] (spM ⟨P, w, K⟩ 3 F_led) :=
  fn_ok Fn sc_led fun X W e1 e2 e3 e4 e5 d => by subst e1 e2 e3 e4 e5; exact d_led d f_exchanged z_min
theorem ok_led {f : Addr} {fd : FuncData} (Fn : Fun K "led" "led" s_led f fd) (hm : mg "led" = some (.ref f)) (f_exchanged : Fc P w K mg base "exchanged" 2 2 F_exchanged) (z_min : mg "min" = none) : Fc P w K mg base "led" 3 3 F_led :=
  ⟨f, fd, ["m", "p", "q"], hm, Fn.kp, Fn.binds (fun _ _ _ _ _ _ us hl => match us, hl with | [_, _, _], _ => rfl), fk_led Fn f_exchanged z_min⟩
abbrev s_made_at : Stmt := top 4
theorem sc_made_at : FnScope ["m", "p", "kind", "ahead", "first", "second", "k"] ["m", "p", "kind"] (defScope s_made_at) := ⟨rfl, rfl, rfl, by decide +kernel, rfl, by decide +kernel, by decide +kernel⟩
theorem v_made_at_p : Vis (defScope s_made_at) "p" := .inl (by decide +kernel)
theorem g_made_at_range : ((defScope s_made_at) : Scope).names.lookup ("range" : Str) = some NameKind.globalImplicit := by decide +kernel
theorem k_made_at_b1_k : ((relS { kind := PySem.ScopeKind.function, names := [(PySem.Str.ofString ".0", PySem.NameKind.local), (PySem.Str.ofString "k", PySem.NameKind.local)], isGenerator := false, isCoroutine := false, more := [] : PySem.Scope } (defScope s_made_at)) : Scope).names.lookup ("k" : Str) = some NameKind.local := by decide +kernel
theorem v_made_at_b1_k : Vis (relS { kind := PySem.ScopeKind.function, names := [(PySem.Str.ofString ".0", PySem.NameKind.local), (PySem.Str.ofString "k", PySem.NameKind.local)], isGenerator := false, isCoroutine := false, more := [] : PySem.Scope } (defScope s_made_at)) "k" := .inl (by decide +kernel)
theorem k_made_at_ahead : ((defScope s_made_at) : Scope).names.lookup ("ahead" : Str) = some NameKind.local := by decide +kernel
theorem v_made_at_ahead : Vis (defScope s_made_at) "ahead" := .inl (by decide +kernel)
theorem v_made_at_m : Vis (defScope s_made_at) "m" := .inl (by decide +kernel)
theorem k_made_at_b2_k : ((relS { kind := PySem.ScopeKind.function, names := [(PySem.Str.ofString ".0", PySem.NameKind.local), (PySem.Str.ofString "k", PySem.NameKind.local)], isGenerator := false, isCoroutine := false, more := [] : PySem.Scope } (defScope s_made_at)) : Scope).names.lookup ("k" : Str) = some NameKind.local := by decide +kernel
theorem v_made_at_b2_k : Vis (relS { kind := PySem.ScopeKind.function, names := [(PySem.Str.ofString ".0", PySem.NameKind.local), (PySem.Str.ofString "k", PySem.NameKind.local)], isGenerator := false, isCoroutine := false, more := [] : PySem.Scope } (defScope s_made_at)) "k" := .inl (by decide +kernel)
theorem l_made_at_first : Loc (defScope s_made_at) "first" := .inl (by decide +kernel)
theorem v_made_at_kind : Vis (defScope s_made_at) "kind" := .inl (by decide +kernel)
theorem k_made_at_b3_k : ((relS { kind := PySem.ScopeKind.function, names := [(PySem.Str.ofString ".0", PySem.NameKind.local), (PySem.Str.ofString "k", PySem.NameKind.local)], isGenerator := false, isCoroutine := false, more := [] : PySem.Scope } (defScope s_made_at)) : Scope).names.lookup ("k" : Str) = some NameKind.local := by decide +kernel
theorem v_made_at_b3_k : Vis (relS { kind := PySem.ScopeKind.function, names := [(PySem.Str.ofString ".0", PySem.NameKind.local), (PySem.Str.ofString "k", PySem.NameKind.local)], isGenerator := false, isCoroutine := false, more := [] : PySem.Scope } (defScope s_made_at)) "k" := .inl (by decide +kernel)
theorem l_made_at_second : Loc (defScope s_made_at) "second" := .inl (by decide +kernel)
theorem v_made_at_second : Vis (defScope s_made_at) "second" := .inl (by decide +kernel)
theorem g_made_at_tuple : ((defScope s_made_at) : Scope).names.lookup ("tuple" : Str) = some NameKind.globalImplicit := by decide +kernel
theorem v_made_at_first : Vis (defScope s_made_at) "first" := .inl (by decide +kernel)
theorem d_made_at {X : Cx} {W : WX} (d : Dc X W ["m", "p", "kind", "ahead", "first", "second", "k"] (defScope s_made_at) 1) (z_range : X.mg "range" = none) (z_tuple : X.mg "tuple" = none) : MSs X W (defBody s_made_at) m_made_at :=
    (mss_cons (ms_setLc d.c 3 (own := [("k", 6)]) (by rfl) k_made_at_ahead (by rfl) (by rfl) (by decide +kernel) (mi_rg1 (d.c.gl g_made_at_range) z_range (ma_cons (me_var d.c 1 (by rfl) v_made_at_p) ma_nil)) (by decide +kernel) (by decide) (fun _ _ _ _ _ c1 => (mgx_nm c1 6 (by rfl) k_made_at_b1_k)) (fun _ _ _ _ _ c1 => mts_nil) (fun _ _ _ _ _ c1 => (me_tup (ma_cons me_str (ma_cons (me_op op_mulU op2_mul me_int (me_var c1 6 (by rfl) v_made_at_b1_k)) ma_nil)))))
    (mss_cons (ms_set d.c 4 (by rfl) l_made_at_first (.inl (by rw [d.fn])) (me_op op_addU op2_add (me_op op_addU op2_add (me_var d.c 3 (by rfl) v_made_at_ahead) (me_lst (ma_cons (me_tup (ma_cons me_str (ma_cons (me_op op_mulU op2_mul me_int (me_var d.c 1 (by rfl) v_made_at_p)) ma_nil))) ma_nil))) (me_lc d.c (own := [("k", 6)]) (mi_rg2 (d.c.gl g_made_at_range) z_range (ma_cons (me_op op_addU op2_add (me_var d.c 1 (by rfl) v_made_at_p) me_int) (ma_cons (me_var d.c 0 (by rfl) v_made_at_m) ma_nil))) (by decide +kernel) (by decide) (fun _ _ _ _ _ c2 => (mgx_nm c2 6 (by rfl) k_made_at_b2_k)) (fun _ _ _ _ _ c2 => mts_nil) (fun _ _ _ _ _ c2 => (me_tup (ma_cons me_str (ma_cons (me_op op_mulU op2_mul me_int (me_var c2 6 (by rfl) v_made_at_b2_k)) ma_nil)))))))
    (mss_cons (ms_set d.c 5 (by rfl) l_made_at_second (.inl (by rw [d.fn])) (me_op op_addU op2_add (me_op op_addU op2_add (me_var d.c 3 (by rfl) v_made_at_ahead) (me_lst (ma_cons (me_tup (ma_cons (me_var d.c 2 (by rfl) v_made_at_kind) (ma_cons (me_op op_mulU op2_mul me_int (me_var d.c 1 (by rfl) v_made_at_p)) ma_nil))) ma_nil))) (me_lc d.c (own := [("k", 6)]) (mi_rg2 (d.c.gl g_made_at_range) z_range (ma_cons (me_op op_addU op2_add (me_var d.c 1 (by rfl) v_made_at_p) me_int) (ma_cons (me_var d.c 0 (by rfl) v_made_at_m) ma_nil))) (by decide +kernel) (by decide) (fun _ _ _ _ _ c3 => (mgx_nm c3 6 (by rfl) k_made_at_b3_k)) (fun _ _ _ _ _ c3 => mts_nil) (fun _ _ _ _ _ c3 => (me_tup (ma_cons me_str (ma_cons (me_op op_sub op2_sub (me_op op_mulU op2_mul me_int (me_var c3 6 (by rfl) v_made_at_b3_k)) me_int) ma_nil)))))))
    (mss_one (ms_ret (me_tup (ma_cons (me_fnT call_tuple_of opn_tuple (d.c.gl g_made_at_tuple) z_tuple (by decide +kernel) (ma_cons (me_var d.c 4 (by rfl) v_made_at_first) ma_nil)) (ma_cons (me_fnT call_tuple_of opn_tuple (d.c.gl g_made_at_tuple) z_tuple (by decide +kernel) (ma_cons (me_var d.c 5 (by rfl) v_made_at_second) ma_nil)) ma_nil))))))))
theorem fk_made_at {f : Addr} {fd : FuncData} (Fn : Fun K "made_at" "made_at" s_made_at f fd) (z_range : mg "range" = none) (z_tuple : mg "tuple" = none) : FnOk P w K mg base (L2.CX P w) 2 f fd ["m", "p", "kind"] (spM ⟨P, w, K⟩ 3 F_made_at) :=
  fn_ok Fn sc_made_at fun X W e1 e2 e3 e4 e5 d => by subst e1 e2 e3 e4 e5; exact d_made_at d z_range z_tuple
theorem ok_made_at {f : Addr} {fd : FuncData} (Fn : Fun K "made_at" "made_at" s_made_at f fd) (hm : mg "made_at" = some (.ref f)) (z_range : mg "range" = none) (z_tuple : mg "tuple" = none) : Fc P w K mg base "made_at" 2 3 F_made_at :=
  ⟨f, fd, ["m", "p", "kind"], hm, Fn.kp, Fn.binds (fun _ _ _ _ _ _ us hl => match us, hl with | [_, _, _], _ => rfl), fk_made_at Fn z_range z_tuple⟩
abbrev s__law_pen : Stmt := top 6
theorem sc__law_pen : FnScope ["_law_script", "_law_fold", "_law_cell"] ["_law_script"] (defScope s__law_pen) := ⟨rfl, rfl, rfl, by decide +kernel, rfl, by decide +kernel, by decide +kernel⟩
theorem l__law_pen__law_fold : Loc (defScope s__law_pen) "_law_fold" := .inl (by decide +kernel)
theorem v__law_pen__law_script : Vis (defScope s__law_pen) "_law_script" := .inl (by decide +kernel)
theorem l__law_pen__law_cell : Loc (defScope s__law_pen) "_law_cell" := .inl (by decide +kernel)
theorem v__law_pen__law_fold : Vis (defScope s__law_pen) "_law_fold" := .inl (by decide +kernel)
theorem v__law_pen__law_cell : Vis (defScope s__law_pen) "_law_cell" := .inl (by decide +kernel)
theorem g__law_pen_int : ((defScope s__law_pen) : Scope).names.lookup ("int" : Str) = some NameKind.globalImplicit := by decide +kernel
theorem g__law_pen_list : ((defScope s__law_pen) : Scope).names.lookup ("list" : Str) = some NameKind.globalImplicit := by decide +kernel
theorem d__law_pen {X : Cx} {W : WX} (d : Dc X W ["_law_script", "_law_fold", "_law_cell"] (defScope s__law_pen) 1) (z_int : X.mg "int" = none) (z_list : X.mg "list" = none) : MSs X W (defBody s__law_pen) Mz.m_pen :=
    (mss_cons (ms_set d.c 1 (by rfl) l__law_pen__law_fold (.inl (by rw [d.fn])) me_int)
    (mss_cons (ms_for d.po d.c.calm (mi_any (me_var d.c 0 (by rfl) v__law_pen__law_script)) (mg_nm d.c 2 (by rfl) l__law_pen__law_cell (.inl (by rw [d.fn]))) (mss_one (ms_set d.c 1 (by rfl) l__law_pen__law_fold (.inl (by rw [d.fn])) (me_op op_modN op2_mod (me_fnT call_int1 opn_int (d.c.gl g__law_pen_int) z_int (by decide +kernel) (ma_cons (me_op op_addU op2_add (me_op op_mulU op2_mul (me_var d.c 1 (by rfl) v__law_pen__law_fold) me_int) (me_var d.c 2 (by rfl) v__law_pen__law_cell)) ma_nil)) me_int))))
    (mss_one (ms_ret (me_dict (md_cons me_str (me_fnT call_list_of opn_list (d.c.gl g__law_pen_list) z_list (by decide +kernel) (ma_cons (me_var d.c 0 (by rfl) v__law_pen__law_script) ma_nil)) (md_cons me_str me_int (md_cons me_str me_int (md_cons me_str me_int (md_cons me_str (me_var d.c 1 (by rfl) v__law_pen__law_fold) md_nil))))))))))
theorem fk__law_pen {f : Addr} {fd : FuncData} (Fn : Fun K "_law_pen" "_law_pen" s__law_pen f fd) (z_int : mg "int" = none) (z_list : mg "list" = none) : FnOk P w K mg base (L2.CX P w) 2 f fd ["_law_script"] (spM ⟨P, w, K⟩ 1 F__law_pen) :=
  pen_ok rfl (fn_ok Fn sc__law_pen fun X W e1 e2 e3 e4 e5 d => by subst e1 e2 e3 e4 e5; exact d__law_pen d z_int z_list)
theorem ok__law_pen {f : Addr} {fd : FuncData} (Fn : Fun K "_law_pen" "_law_pen" s__law_pen f fd) (hm : mg "_law_pen" = some (.ref f)) (z_int : mg "int" = none) (z_list : mg "list" = none) : Fc P w K mg base "_law_pen" 2 1 F__law_pen :=
  ⟨f, fd, ["_law_script"], hm, Fn.kp, Fn.binds (fun _ _ _ _ _ _ us hl => match us, hl with | [_], _ => rfl), fk__law_pen Fn z_int z_list⟩
abbrev s__law_draw : Stmt := top 7
theorem sc__law_draw : FnScope ["_law_pen_here", "_law_many", "_law_cell", "_law_digit", "_law_blend"] ["_law_pen_here", "_law_many"] (defScope s__law_draw) := ⟨rfl, rfl, rfl, by decide +kernel, rfl, by decide +kernel, by decide +kernel⟩
theorem v__law_draw__law_pen_here : Vis (defScope s__law_draw) "_law_pen_here" := .inl (by decide +kernel)
theorem g__law_draw_len : ((defScope s__law_draw) : Scope).names.lookup ("len" : Str) = some NameKind.globalImplicit := by decide +kernel
theorem l__law_draw__law_cell : Loc (defScope s__law_draw) "_law_cell" := .inl (by decide +kernel)
theorem v__law_draw__law_cell : Vis (defScope s__law_draw) "_law_cell" := .inl (by decide +kernel)
theorem g__law_draw_int : ((defScope s__law_draw) : Scope).names.lookup ("int" : Str) = some NameKind.globalImplicit := by decide +kernel
theorem v__law_draw__law_many : Vis (defScope s__law_draw) "_law_many" := .inl (by decide +kernel)
theorem l__law_draw__law_digit : Loc (defScope s__law_draw) "_law_digit" := .inl (by decide +kernel)
theorem v__law_draw__law_digit : Vis (defScope s__law_draw) "_law_digit" := .inl (by decide +kernel)
theorem l__law_draw__law_blend : Loc (defScope s__law_draw) "_law_blend" := .inl (by decide +kernel)
theorem v__law_draw__law_blend : Vis (defScope s__law_draw) "_law_blend" := .inl (by decide +kernel)
theorem d__law_draw {X : Cx} {W : WX} (d : Dc X W ["_law_pen_here", "_law_many", "_law_cell", "_law_digit", "_law_blend"] (defScope s__law_draw) 1) (z_len : X.mg "len" = none) (z_int : X.mg "int" = none) : MSs X W (defBody s__law_draw) Mz.m_draw :=
    (mss_cons (ms_asg (me_op op_addU op2_add (me_ix d.hu (me_var d.c 0 (by rfl) v__law_draw__law_pen_here) me_str) me_int) (mg_sub d.hu (me_var d.c 0 (by rfl) v__law_draw__law_pen_here) me_str))
    (mss_cons (ms_if (PW.pt (mw_and (mt_cmp (op_eqD d.hu64) op2_eq (me_ix d.hu (me_var d.c 0 (by rfl) v__law_draw__law_pen_here) me_str) me_int (nomark _)) (mw_and1 (mt_cmp op_lt op2_lt (me_ix d.hu (me_var d.c 0 (by rfl) v__law_draw__law_pen_here) me_str) (me_fnB call_lenU opn_len (d.c.gl g__law_draw_len) z_len (by decide +kernel) (ma_cons (me_ix d.hu (me_var d.c 0 (by rfl) v__law_draw__law_pen_here) me_str) ma_nil)) (nomark _))))) (mss_cons (ms_set d.c 2 (by rfl) l__law_draw__law_cell (.inl (by rw [d.fn])) (me_ix d.hu (me_ix d.hu (me_var d.c 0 (by rfl) v__law_draw__law_pen_here) me_str) (me_ix d.hu (me_var d.c 0 (by rfl) v__law_draw__law_pen_here) me_str)))
    (mss_cons (ms_asg (me_op op_addU op2_add (me_ix d.hu (me_var d.c 0 (by rfl) v__law_draw__law_pen_here) me_str) me_int) (mg_sub d.hu (me_var d.c 0 (by rfl) v__law_draw__law_pen_here) me_str))
    (mss_one (ms_if (mt_cmp op_ge op2_ge (me_var d.c 2 (by rfl) v__law_draw__law_cell) (me_op op_pow op2_pow me_int me_int) (nomark _)) (mss_one (ms_asg (me_op op_sub op2_sub (me_var d.c 2 (by rfl) v__law_draw__law_cell) (me_op op_pow op2_pow me_int me_int)) (mg_sub d.hu (me_var d.c 0 (by rfl) v__law_draw__law_pen_here) me_str))) (mss_one (ms_asg (me_op op_modN op2_mod (me_fnT call_int1 opn_int (d.c.gl g__law_draw_int) z_int (by decide +kernel) (ma_cons (me_op op_addU op2_add (me_op op_mulU op2_mul (me_ix d.hu (me_var d.c 0 (by rfl) v__law_draw__law_pen_here) me_str) me_int) (me_var d.c 2 (by rfl) v__law_draw__law_cell)) ma_nil)) me_int) (mg_sub d.hu (me_var d.c 0 (by rfl) v__law_draw__law_pen_here) me_str))))))) mss_nil)
    (mss_cons (ms_if (mt_cmp op_gt op2_gt (me_ix d.hu (me_var d.c 0 (by rfl) v__law_draw__law_pen_here) me_str) me_int (nomark _)) (mss_cons (ms_set d.c 3 (by rfl) l__law_draw__law_digit (.inl (by rw [d.fn])) (me_op op_modN op2_mod (me_fnT call_int1 opn_int (d.c.gl g__law_draw_int) z_int (by decide +kernel) (ma_cons (me_ix d.hu (me_var d.c 0 (by rfl) v__law_draw__law_pen_here) me_str) ma_nil)) (me_var d.c 1 (by rfl) v__law_draw__law_many)))
    (mss_cons (ms_asg (me_op op_fdivN op2_fdiv (me_ix d.hu (me_var d.c 0 (by rfl) v__law_draw__law_pen_here) me_str) (me_var d.c 1 (by rfl) v__law_draw__law_many)) (mg_sub d.hu (me_var d.c 0 (by rfl) v__law_draw__law_pen_here) me_str))
    (mss_one (ms_ret (me_var d.c 3 (by rfl) v__law_draw__law_digit))))) mss_nil)
    (mss_cons (ms_set d.c 4 (by rfl) l__law_draw__law_blend (.inl (by rw [d.fn])) (me_op op_addU op2_add (me_op op_addU op2_add (me_ix d.hu (me_var d.c 0 (by rfl) v__law_draw__law_pen_here) me_str) (me_op op_mulU op2_mul (me_ix d.hu (me_var d.c 0 (by rfl) v__law_draw__law_pen_here) me_str) me_int)) me_int))
    (mss_one (ms_ret (me_op op_modN op2_mod (me_op op_fdivN op2_fdiv (me_fnT call_int1 opn_int (d.c.gl g__law_draw_int) z_int (by decide +kernel) (ma_cons (me_op op_modN op2_mod (me_op op_pow op2_pow (me_var d.c 4 (by rfl) v__law_draw__law_blend) me_int) me_int) ma_nil)) me_int) (me_var d.c 1 (by rfl) v__law_draw__law_many))))))))
theorem fk__law_draw {f : Addr} {fd : FuncData} (Fn : Fun K "_law_draw" "_law_draw" s__law_draw f fd) (z_len : mg "len" = none) (z_int : mg "int" = none) : FnOk P w K mg base (L2.CX P w) 2 f fd ["_law_pen_here", "_law_many"] (spM ⟨P, w, K⟩ 2 F__law_draw) :=
  draw_ok rfl (fn_ok Fn sc__law_draw fun X W e1 e2 e3 e4 e5 d => by subst e1 e2 e3 e4 e5; exact d__law_draw d z_len z_int)
theorem ok__law_draw {f : Addr} {fd : FuncData} (Fn : Fun K "_law_draw" "_law_draw" s__law_draw f fd) (hm : mg "_law_draw" = some (.ref f)) (z_len : mg "len" = none) (z_int : mg "int" = none) : Fc P w K mg base "_law_draw" 2 2 F__law_draw :=
  ⟨f, fd, ["_law_pen_here", "_law_many"], hm, Fn.kp, Fn.binds (fun _ _ _ _ _ _ us hl => match us, hl with | [_, _], _ => rfl), fk__law_draw Fn z_len z_int⟩
abbrev s__law_pick : Stmt := top 8
theorem sc__law_pick : FnScope ["_law_pen_here", "_law_some"] ["_law_pen_here", "_law_some"] (defScope s__law_pick) := ⟨rfl, rfl, rfl, by decide +kernel, rfl, by decide +kernel, by decide +kernel⟩
theorem v__law_pick__law_some : Vis (defScope s__law_pick) "_law_some" := .inl (by decide +kernel)
theorem g__law_pick_len : ((defScope s__law_pick) : Scope).names.lookup ("len" : Str) = some NameKind.globalImplicit := by decide +kernel
theorem v__law_pick__law_pen_here : Vis (defScope s__law_pick) "_law_pen_here" := .inl (by decide +kernel)
theorem g__law_pick__law_draw : ((defScope s__law_pick) : Scope).names.lookup ("_law_draw" : Str) = some NameKind.globalImplicit := by decide +kernel
theorem d__law_pick {X : Cx} {W : WX} (d : Dc X W ["_law_pen_here", "_law_some"] (defScope s__law_pick) 2) (f__law_draw : Fx X "_law_draw" 2 2 F__law_draw) (z_len : X.mg "len" = none) : MSs X W (defBody s__law_pick) m__law_pick :=
    (mss_one (ms_ret (me_ix d.hu (me_var d.c 1 (by rfl) v__law_pick__law_some) (me_call f__law_draw (d.hr.mono (by decide)) d.tk (d.c.gl g__law_pick__law_draw) (ma_cons (me_var d.c 0 (by rfl) v__law_pick__law_pen_here) (ma_cons (me_fnB call_lenU opn_len (d.c.gl g__law_pick_len) z_len (by decide +kernel) (ma_cons (me_var d.c 1 (by rfl) v__law_pick__law_some) ma_nil)) ma_nil)) (by rfl) (hlen := (len_cons (len_cons (fun _ _ _ => len_nil))))))))
theorem fk__law_pick {f : Addr} {fd : FuncData} (Fn : Fun K "_law_pick" "_law_pick" s__law_pick f fd) (f__law_draw : Fc P w K mg base "_law_draw" 2 2 F__law_draw) (z_len : mg "len" = none) : FnOk P w K mg base (L2.CX P w) 3 f fd ["_law_pen_here", "_law_some"] (spM ⟨P, w, K⟩ 2 F__law_pick) :=
  fn_ok Fn sc__law_pick fun X W e1 e2 e3 e4 e5 d => by subst e1 e2 e3 e4 e5; exact d__law_pick d f__law_draw z_len
theorem ok__law_pick {f : Addr} {fd : FuncData} (Fn : Fun K "_law_pick" "_law_pick" s__law_pick f fd) (hm : mg "_law_pick" = some (.ref f)) (f__law_draw : Fc P w K mg base "_law_draw" 2 2 F__law_draw) (z_len : mg "len" = none) : Fc P w K mg base "_law_pick" 3 2 F__law_pick :=
  ⟨f, fd, ["_law_pen_here", "_law_some"], hm, Fn.kp, Fn.binds (fun _ _ _ _ _ _ us hl => match us, hl with | [_, _], _ => rfl), fk__law_pick Fn f__law_draw z_len⟩
abbrev s__law_is_whole : Stmt := top 9
theorem sc__law_is_whole : FnScope ["_law_thing"] ["_law_thing"] (defScope s__law_is_whole) := ⟨rfl, rfl, rfl, by decide +kernel, rfl, by decide +kernel, by decide +kernel⟩
theorem g__law_is_whole_int : ((defScope s__law_is_whole) : Scope).names.lookup ("int" : Str) = some NameKind.globalImplicit := by decide +kernel
theorem v__law_is_whole__law_thing : Vis (defScope s__law_is_whole) "_law_thing" := .inl (by decide +kernel)
theorem g__law_is_whole_isinstance : ((defScope s__law_is_whole) : Scope).names.lookup ("isinstance" : Str) = some NameKind.globalImplicit := by decide +kernel
theorem g__law_is_whole_bool : ((defScope s__law_is_whole) : Scope).names.lookup ("bool" : Str) = some NameKind.globalImplicit := by decide +kernel
theorem d__law_is_whole {X : Cx} {W : WX} (d : Dc X W ["_law_thing"] (defScope s__law_is_whole) 1) (z_int : X.mg "int" = none) (z_isinstance : X.mg "isinstance" = none) (z_bool : X.mg "bool" = none) : MSs X W (defBody s__law_is_whole) m__law_is_whole :=
    (mss_one (ms_ret (me_and (me_fnB call_isiU opn_isi (d.c.gl g__law_is_whole_isinstance) z_isinstance (by decide +kernel) (ma_cons (me_var d.c 0 (by rfl) v__law_is_whole__law_thing) (ma_cons (me_ty (d.c.gl g__law_is_whole_int) z_int (by decide +kernel)) ma_nil))) (me_one (me_not (me_fnB call_isiU opn_isi (d.c.gl g__law_is_whole_isinstance) z_isinstance (by decide +kernel) (ma_cons (me_var d.c 0 (by rfl) v__law_is_whole__law_thing) (ma_cons (me_ty (d.c.gl g__law_is_whole_bool) z_bool (by decide +kernel)) ma_nil))))))))
theorem fk__law_is_whole {f : Addr} {fd : FuncData} (Fn : Fun K "_law_is_whole" "_law_is_whole" s__law_is_whole f fd) (z_int : mg "int" = none) (z_isinstance : mg "isinstance" = none) (z_bool : mg "bool" = none) : FnOk P w K mg base (L2.CX P w) 2 f fd ["_law_thing"] (spM ⟨P, w, K⟩ 1 F__law_is_whole) :=
  fn_ok Fn sc__law_is_whole fun X W e1 e2 e3 e4 e5 d => by subst e1 e2 e3 e4 e5; exact d__law_is_whole d z_int z_isinstance z_bool
theorem ok__law_is_whole {f : Addr} {fd : FuncData} (Fn : Fun K "_law_is_whole" "_law_is_whole" s__law_is_whole f fd) (hm : mg "_law_is_whole" = some (.ref f)) (z_int : mg "int" = none) (z_isinstance : mg "isinstance" = none) (z_bool : mg "bool" = none) : Fc P w K mg base "_law_is_whole" 2 1 F__law_is_whole :=
  ⟨f, fd, ["_law_thing"], hm, Fn.kp, Fn.binds (fun _ _ _ _ _ _ us hl => match us, hl with | [_], _ => rfl), fk__law_is_whole Fn z_int z_isinstance z_bool⟩
abbrev s__law_gate : Stmt := top 10
theorem sc__law_gate : FnScope ["_law_gate_here", "_law_values", "_law_one", "_law_two"] ["_law_gate_here", "_law_values"] (defScope s__law_gate) := ⟨rfl, rfl, rfl, by decide +kernel, rfl, by decide +kernel, by decide +kernel⟩
theorem v__law_gate__law_gate_here : Vis (defScope s__law_gate) "_law_gate_here" := .inl (by decide +kernel)
theorem v__law_gate__law_values : Vis (defScope s__law_gate) "_law_values" := .inl (by decide +kernel)
theorem k__law_gate__law_one : ((defScope s__law_gate) : Scope).names.lookup ("_law_one" : Str) = some NameKind.local := by decide +kernel
theorem k__law_gate__law_two : ((defScope s__law_gate) : Scope).names.lookup ("_law_two" : Str) = some NameKind.local := by decide +kernel
theorem v__law_gate__law_one : Vis (defScope s__law_gate) "_law_one" := .inl (by decide +kernel)
theorem v__law_gate__law_two : Vis (defScope s__law_gate) "_law_two" := .inl (by decide +kernel)
theorem g__law_gate_max : ((defScope s__law_gate) : Scope).names.lookup ("max" : Str) = some NameKind.globalImplicit := by decide +kernel
theorem g__law_gate_int : ((defScope s__law_gate) : Scope).names.lookup ("int" : Str) = some NameKind.globalImplicit := by decide +kernel
theorem d__law_gate {X : Cx} {W : WX} (d : Dc X W ["_law_gate_here", "_law_values", "_law_one", "_law_two"] (defScope s__law_gate) 1) (z_max : X.mg "max" = none) (z_int : X.mg "int" = none) : MSs X W (defBody s__law_gate) m__law_gate :=
    (mss_cons (ms_if (mt_cmp (op_eqD d.hu64) op2_eq (me_ix d.hu (me_var d.c 0 (by rfl) v__law_gate__law_gate_here) me_int) me_str (nomark _)) (mss_one (ms_ret me_int)) mss_nil)
    (mss_cons (ms_if (mt_cmp (op_eqD d.hu64) op2_eq (me_ix d.hu (me_var d.c 0 (by rfl) v__law_gate__law_gate_here) me_int) me_str (nomark _)) (mss_one (ms_ret (me_op op_sub op2_sub me_int (me_ix d.hu (me_var d.c 1 (by rfl) v__law_gate__law_values) (me_ix d.hu (me_var d.c 0 (by rfl) v__law_gate__law_gate_here) me_int))))) mss_nil)
    (mss_cons (ms_par d.c 2 3 (by rfl) (by rfl) (by decide) k__law_gate__law_one k__law_gate__law_two (ma_cons (me_ix d.hu (me_var d.c 1 (by rfl) v__law_gate__law_values) (me_ix d.hu (me_var d.c 0 (by rfl) v__law_gate__law_gate_here) me_int)) (ma_cons (me_ix d.hu (me_var d.c 1 (by rfl) v__law_gate__law_values) (me_ix d.hu (me_var d.c 0 (by rfl) v__law_gate__law_gate_here) me_int)) ma_nil)) (fun hc hN hi hj hx hy ha => ps_par hc hN hi hj (by decide) hx hy ha (sw_env d.c (fun env h => by cases env; cases h; rfl))))
    (mss_one (ms_ret (me_ix d.hu (me_dict (md_cons me_str (me_op op_mulU op2_mul (me_var d.c 2 (by rfl) v__law_gate__law_one) (me_var d.c 3 (by rfl) v__law_gate__law_two)) (md_cons me_str (me_fnB (call_maxU d.c.calm) opn_max (d.c.gl g__law_gate_max) z_max (by decide +kernel) (ma_cons (me_lst (ma_cons (me_var d.c 2 (by rfl) v__law_gate__law_one) (ma_cons (me_var d.c 3 (by rfl) v__law_gate__law_two) ma_nil))) ma_nil)) (md_cons me_str (me_fnT call_int1 opn_int (d.c.gl g__law_gate_int) z_int (by decide +kernel) (ma_cons (me_cmp (op_neD d.hu64) op2_ne (me_var d.c 2 (by rfl) v__law_gate__law_one) (me_var d.c 3 (by rfl) v__law_gate__law_two) (nomark _)) ma_nil)) (md_cons me_str (me_op op_mulU op2_mul (me_var d.c 2 (by rfl) v__law_gate__law_one) (me_op op_sub op2_sub me_int (me_var d.c 3 (by rfl) v__law_gate__law_two))) md_nil))))) (me_ix d.hu (me_var d.c 0 (by rfl) v__law_gate__law_gate_here) me_int)))))))
theorem fk__law_gate {f : Addr} {fd : FuncData} (Fn : Fun K "_law_gate" "_law_gate" s__law_gate f fd) (z_max : mg "max" = none) (z_int : mg "int" = none) : FnOk P w K mg base (L2.CX P w) 2 f fd ["_law_gate_here", "_law_values"] (spM ⟨P, w, K⟩ 2 F__law_gate) :=
  fn_ok Fn sc__law_gate fun X W e1 e2 e3 e4 e5 d => by subst e1 e2 e3 e4 e5; exact d__law_gate d z_max z_int
theorem ok__law_gate {f : Addr} {fd : FuncData} (Fn : Fun K "_law_gate" "_law_gate" s__law_gate f fd) (hm : mg "_law_gate" = some (.ref f)) (z_max : mg "max" = none) (z_int : mg "int" = none) : Fc P w K mg base "_law_gate" 2 2 F__law_gate :=
  ⟨f, fd, ["_law_gate_here", "_law_values"], hm, Fn.kp, Fn.binds (fun _ _ _ _ _ _ us hl => match us, hl with | [_, _], _ => rfl), fk__law_gate Fn z_max z_int⟩
abbrev s__law_bit_rows : Stmt := top 11
theorem sc__law_bit_rows : FnScope ["_law_many", "_law_rows", "_law_lap", "_law_longer", "_law_row"] ["_law_many"] (defScope s__law_bit_rows) := ⟨rfl, rfl, rfl, by decide +kernel, rfl, by decide +kernel, by decide +kernel⟩
theorem l__law_bit_rows__law_rows : Loc (defScope s__law_bit_rows) "_law_rows" := .inl (by decide +kernel)
theorem v__law_bit_rows__law_many : Vis (defScope s__law_bit_rows) "_law_many" := .inl (by decide +kernel)
theorem g__law_bit_rows_range : ((defScope s__law_bit_rows) : Scope).names.lookup ("range" : Str) = some NameKind.globalImplicit := by decide +kernel
theorem l__law_bit_rows__law_lap : Loc (defScope s__law_bit_rows) "_law_lap" := .inl (by decide +kernel)
theorem l__law_bit_rows__law_longer : Loc (defScope s__law_bit_rows) "_law_longer" := .inl (by decide +kernel)
theorem v__law_bit_rows__law_rows : Vis (defScope s__law_bit_rows) "_law_rows" := .inl (by decide +kernel)
theorem l__law_bit_rows__law_row : Loc (defScope s__law_bit_rows) "_law_row" := .inl (by decide +kernel)
theorem v__law_bit_rows__law_longer : Vis (defScope s__law_bit_rows) "_law_longer" := .inl (by decide +kernel)
theorem v__law_bit_rows__law_row : Vis (defScope s__law_bit_rows) "_law_row" := .inl (by decide +kernel)
theorem d__law_bit_rows {X : Cx} {W : WX} (d : Dc X W ["_law_many", "_law_rows", "_law_lap", "_law_longer", "_law_row"] (defScope s__law_bit_rows) 1) (z_range : X.mg "range" = none) : MSs X W (defBody s__law_bit_rows) m__law_bit_rows :=
    (mss_cons (ms_set d.c 1 (by rfl) l__law_bit_rows__law_rows (.inl (by rw [d.fn])) (me_lst (ma_cons (me_tup ma_nil) ma_nil)))
    (mss_cons (ms_for d.po d.c.calm (mi_rg1 (d.c.gl g__law_bit_rows_range) z_range (ma_cons (me_var d.c 0 (by rfl) v__law_bit_rows__law_many) ma_nil)) (mg_nm d.c 2 (by rfl) l__law_bit_rows__law_lap (.inl (by rw [d.fn]))) (mss_cons (ms_set d.c 3 (by rfl) l__law_bit_rows__law_longer (.inl (by rw [d.fn])) (me_lst ma_nil))
    (mss_cons (ms_for d.po d.c.calm (mi_any (me_var d.c 1 (by rfl) v__law_bit_rows__law_rows)) (mg_nm d.c 4 (by rfl) l__law_bit_rows__law_row (.inl (by rw [d.fn]))) (mss_one (ms_set d.c 3 (by rfl) l__law_bit_rows__law_longer (.inl (by rw [d.fn])) (me_op op_addU op2_add (me_var d.c 3 (by rfl) v__law_bit_rows__law_longer) (me_lst (ma_cons (me_op op_addU op2_add (me_var d.c 4 (by rfl) v__law_bit_rows__law_row) (me_tup (ma_cons me_int ma_nil))) (ma_cons (me_op op_addU op2_add (me_var d.c 4 (by rfl) v__law_bit_rows__law_row) (me_tup (ma_cons me_int ma_nil))) ma_nil)))))))
    (mss_one (ms_set d.c 1 (by rfl) l__law_bit_rows__law_rows (.inl (by rw [d.fn])) (me_var d.c 3 (by rfl) v__law_bit_rows__law_longer))))))
    (mss_one (ms_ret (me_var d.c 1 (by rfl) v__law_bit_rows__law_rows)))))
theorem fk__law_bit_rows {f : Addr} {fd : FuncData} (Fn : Fun K "_law_bit_rows" "_law_bit_rows" s__law_bit_rows f fd) (z_range : mg "range" = none) : FnOk P w K mg base (L2.CX P w) 2 f fd ["_law_many"] (spM ⟨P, w, K⟩ 1 F__law_bit_rows) :=
  fn_ok Fn sc__law_bit_rows fun X W e1 e2 e3 e4 e5 d => by subst e1 e2 e3 e4 e5; exact d__law_bit_rows d z_range
theorem ok__law_bit_rows {f : Addr} {fd : FuncData} (Fn : Fun K "_law_bit_rows" "_law_bit_rows" s__law_bit_rows f fd) (hm : mg "_law_bit_rows" = some (.ref f)) (z_range : mg "range" = none) : Fc P w K mg base "_law_bit_rows" 2 1 F__law_bit_rows :=
  ⟨f, fd, ["_law_many"], hm, Fn.kp, Fn.binds (fun _ _ _ _ _ _ us hl => match us, hl with | [_], _ => rfl), fk__law_bit_rows Fn z_range⟩
abbrev s__law_rows_of : Stmt := top 12
theorem sc__law_rows_of : FnScope ["_law_tile", "_law_kind", "_law_row"] ["_law_tile"] (defScope s__law_rows_of) := ⟨rfl, rfl, rfl, by decide +kernel, rfl, by decide +kernel, by decide +kernel⟩
theorem v__law_rows_of__law_tile : Vis (defScope s__law_rows_of) "_law_tile" := .inl (by decide +kernel)
theorem l__law_rows_of__law_row : Loc (defScope s__law_rows_of) "_law_row" := .inl (by decide +kernel)
theorem l__law_rows_of__law_kind : Loc (defScope s__law_rows_of) "_law_kind" := .inl (by decide +kernel)
theorem v__law_rows_of__law_kind : Vis (defScope s__law_rows_of) "_law_kind" := .inl (by decide +kernel)
theorem v__law_rows_of__law_row : Vis (defScope s__law_rows_of) "_law_row" := .inl (by decide +kernel)
theorem d__law_rows_of {X : Cx} {W : WX} (d : Dc X W ["_law_tile", "_law_kind", "_law_row"] (defScope s__law_rows_of) 1) : MSs X W (defBody s__law_rows_of) m__law_rows_of :=
    (mss_cons (ms_asg (me_var d.c 0 (by rfl) v__law_rows_of__law_tile) (mg_tup d.c.calm (mgs_cons (mg_nm d.c 1 (by rfl) l__law_rows_of__law_kind (.inl (by rw [d.fn]))) (mgs_cons (mg_nm d.c 2 (by rfl) l__law_rows_of__law_row (.inl (by rw [d.fn]))) mgs_nil))))
    (mss_cons (ms_if (mt_cmp (op_eqD d.hu64) op2_eq (me_var d.c 1 (by rfl) v__law_rows_of__law_kind) me_str (nomark _)) (mss_one (ms_ret (me_lst (ma_cons (me_var d.c 2 (by rfl) v__law_rows_of__law_row) ma_nil)))) mss_nil)
    (mss_one (ms_ret (me_if (mt_cmp (op_eqD d.hu64) op2_eq (me_var d.c 1 (by rfl) v__law_rows_of__law_kind) me_str (nomark _)) (me_lst (ma_cons (me_op op_sub op2_sub (me_var d.c 2 (by rfl) v__law_rows_of__law_row) me_int) (ma_cons (me_var d.c 2 (by rfl) v__law_rows_of__law_row) ma_nil))) (me_lst (ma_cons (me_var d.c 2 (by rfl) v__law_rows_of__law_row) (ma_cons (me_op op_addU op2_add (me_var d.c 2 (by rfl) v__law_rows_of__law_row) me_int) ma_nil))))))))
theorem fk__law_rows_of {f : Addr} {fd : FuncData} (Fn : Fun K "_law_rows_of" "_law_rows_of" s__law_rows_of f fd) : FnOk P w K mg base (L2.CX P w) 2 f fd ["_law_tile"] (spM ⟨P, w, K⟩ 1 F__law_rows_of) :=
  fn_ok Fn sc__law_rows_of fun X W e1 e2 e3 e4 e5 d => by subst e1 e2 e3 e4 e5; exact d__law_rows_of d
theorem ok__law_rows_of {f : Addr} {fd : FuncData} (Fn : Fun K "_law_rows_of" "_law_rows_of" s__law_rows_of f fd) (hm : mg "_law_rows_of" = some (.ref f)) : Fc P w K mg base "_law_rows_of" 2 1 F__law_rows_of :=
  ⟨f, fd, ["_law_tile"], hm, Fn.kp, Fn.binds (fun _ _ _ _ _ _ us hl => match us, hl with | [_], _ => rfl), fk__law_rows_of Fn⟩
abbrev s__law_stage_behind : Stmt := top 13
theorem sc__law_stage_behind : FnScope ["_law_tiles", "_law_bits", "_law_found", "_law_kind", "_law_row"] ["_law_tiles", "_law_bits"] (defScope s__law_stage_behind) := ⟨rfl, rfl, rfl, by decide +kernel, rfl, by decide +kernel, by decide +kernel⟩
theorem v__law_stage_behind__law_bits : Vis (defScope s__law_stage_behind) "_law_bits" := .inl (by decide +kernel)
theorem g__law_stage_behind_len : ((defScope s__law_stage_behind) : Scope).names.lookup ("len" : Str) = some NameKind.globalImplicit := by decide +kernel
theorem l__law_stage_behind__law_found : Loc (defScope s__law_stage_behind) "_law_found" := .inl (by decide +kernel)
theorem v__law_stage_behind__law_tiles : Vis (defScope s__law_stage_behind) "_law_tiles" := .inl (by decide +kernel)
theorem l__law_stage_behind__law_row : Loc (defScope s__law_stage_behind) "_law_row" := .inl (by decide +kernel)
theorem l__law_stage_behind__law_kind : Loc (defScope s__law_stage_behind) "_law_kind" := .inl (by decide +kernel)
theorem v__law_stage_behind__law_kind : Vis (defScope s__law_stage_behind) "_law_kind" := .inl (by decide +kernel)
theorem v__law_stage_behind__law_row : Vis (defScope s__law_stage_behind) "_law_row" := .inl (by decide +kernel)
theorem v__law_stage_behind__law_found : Vis (defScope s__law_stage_behind) "_law_found" := .inl (by decide +kernel)
theorem g__law_stage_behind__law_gate : ((defScope s__law_stage_behind) : Scope).names.lookup ("_law_gate" : Str) = some NameKind.globalImplicit := by decide +kernel
theorem d__law_stage_behind {X : Cx} {W : WX} (d : Dc X W ["_law_tiles", "_law_bits", "_law_found", "_law_kind", "_law_row"] (defScope s__law_stage_behind) 2) (f__law_gate : Fx X "_law_gate" 2 2 F__law_gate) (z_len : X.mg "len" = none) : MSs X W (defBody s__law_stage_behind) m__law_stage_behind :=
    (mss_cons (ms_set d.c 2 (by rfl) l__law_stage_behind__law_found (.inl (by rw [d.fn])) (me_op op_mulU op2_mul (me_lst (ma_cons me_int ma_nil)) (me_fnB call_lenU opn_len (d.c.gl g__law_stage_behind_len) z_len (by decide +kernel) (ma_cons (me_var d.c 1 (by rfl) v__law_stage_behind__law_bits) ma_nil))))
    (mss_cons (ms_for d.po d.c.calm (mi_any (me_var d.c 0 (by rfl) v__law_stage_behind__law_tiles)) (mg_tup d.c.calm (mgs_cons (mg_nm d.c 3 (by rfl) l__law_stage_behind__law_kind (.inl (by rw [d.fn]))) (mgs_cons (mg_nm d.c 4 (by rfl) l__law_stage_behind__law_row (.inl (by rw [d.fn]))) mgs_nil))) (mss_one (ms_if (mt_cmp (op_eqD d.hu64) op2_eq (me_var d.c 3 (by rfl) v__law_stage_behind__law_kind) me_str (nomark _)) (mss_one (ms_asg (me_ix d.hu (me_var d.c 1 (by rfl) v__law_stage_behind__law_bits) (me_var d.c 4 (by rfl) v__law_stage_behind__law_row)) (mg_sub d.hu (me_var d.c 2 (by rfl) v__law_stage_behind__law_found) (me_var d.c 4 (by rfl) v__law_stage_behind__law_row)))) (mss_one (ms_if (mt_cmp (op_eqD d.hu64) op2_eq (me_var d.c 3 (by rfl) v__law_stage_behind__law_kind) me_str (nomark _)) (mss_one (ms_asg (me_ix d.hu (me_var d.c 1 (by rfl) v__law_stage_behind__law_bits) (me_var d.c 4 (by rfl) v__law_stage_behind__law_row)) (mg_sub d.hu (me_var d.c 2 (by rfl) v__law_stage_behind__law_found) (me_op op_sub op2_sub (me_var d.c 4 (by rfl) v__law_stage_behind__law_row) me_int)))) (mss_one (ms_if (mt_cmp (op_eqD d.hu64) op2_eq (me_var d.c 3 (by rfl) v__law_stage_behind__law_kind) me_str (nomark _)) (mss_one (ms_asg (me_ix d.hu (me_var d.c 1 (by rfl) v__law_stage_behind__law_bits) (me_var d.c 4 (by rfl) v__law_stage_behind__law_row)) (mg_sub d.hu (me_var d.c 2 (by rfl) v__law_stage_behind__law_found) (me_op op_addU op2_add (me_var d.c 4 (by rfl) v__law_stage_behind__law_row) me_int)))) (mss_one (ms_if (mt_cmp (op_eqD d.hu64) op2_eq (me_var d.c 3 (by rfl) v__law_stage_behind__law_kind) me_str (nomark _)) (mss_one (ms_asg (me_tup (ma_cons (me_ix d.hu (me_var d.c 1 (by rfl) v__law_stage_behind__law_bits) (me_var d.c 4 (by rfl) v__law_stage_behind__law_row)) (ma_cons (me_ix d.hu (me_var d.c 1 (by rfl) v__law_stage_behind__law_bits) (me_var d.c 4 (by rfl) v__law_stage_behind__law_row)) ma_nil))) (mg_tup d.c.calm (mgs_cons (mg_sub d.hu (me_var d.c 2 (by rfl) v__law_stage_behind__law_found) (me_var d.c 4 (by rfl) v__law_stage_behind__law_row)) (mgs_cons (mg_sub d.hu (me_var d.c 2 (by rfl) v__law_stage_behind__law_found) (me_op op_addU op2_add (me_var d.c 4 (by rfl) v__law_stage_behind__law_row) me_int)) mgs_nil))) (hw := (sw_env d.c (fun env h => by cases env; cases h; rfl))))) (mss_one (ms_asg (me_call f__law_gate (d.hr.mono (by decide)) d.tk (d.c.gl g__law_stage_behind__law_gate) (ma_cons (me_tup (ma_cons (me_var d.c 3 (by rfl) v__law_stage_behind__law_kind) (ma_cons (me_var d.c 4 (by rfl) v__law_stage_behind__law_row) (ma_cons (me_op op_addU op2_add (me_var d.c 4 (by rfl) v__law_stage_behind__law_row) me_int) ma_nil)))) (ma_cons (me_var d.c 1 (by rfl) v__law_stage_behind__law_bits) ma_nil)) (by rfl) (hlen := (len_cons (len_cons (fun _ _ _ => len_nil))))) (mg_sub d.hu (me_var d.c 2 (by rfl) v__law_stage_behind__law_found) (me_var d.c 4 (by rfl) v__law_stage_behind__law_row)))))))))))))
    (mss_one (ms_ret (me_var d.c 2 (by rfl) v__law_stage_behind__law_found)))))
theorem fk__law_stage_behind {f : Addr} {fd : FuncData} (Fn : Fun K "_law_stage_behind" "_law_stage_behind" s__law_stage_behind f fd) (f__law_gate : Fc P w K mg base "_law_gate" 2 2 F__law_gate) (z_len : mg "len" = none) : FnOk P w K mg base (L2.CX P w) 3 f fd ["_law_tiles", "_law_bits"] (spM ⟨P, w, K⟩ 2 F__law_stage_behind) :=
  fn_ok Fn sc__law_stage_behind fun X W e1 e2 e3 e4 e5 d => by subst e1 e2 e3 e4 e5; exact d__law_stage_behind d f__law_gate z_len
theorem ok__law_stage_behind {f : Addr} {fd : FuncData} (Fn : Fun K "_law_stage_behind" "_law_stage_behind" s__law_stage_behind f fd) (hm : mg "_law_stage_behind" = some (.ref f)) (f__law_gate : Fc P w K mg base "_law_gate" 2 2 F__law_gate) (z_len : mg "len" = none) : Fc P w K mg base "_law_stage_behind" 3 2 F__law_stage_behind :=
  ⟨f, fd, ["_law_tiles", "_law_bits"], hm, Fn.kp, Fn.binds (fun _ _ _ _ _ _ us hl => match us, hl with | [_, _], _ => rfl), fk__law_stage_behind Fn f__law_gate z_len⟩
abbrev s__law_passed : Stmt := top 14
theorem sc__law_passed : FnScope ["_law_stages", "_law_bits", "_law_tiles"] ["_law_stages", "_law_bits"] (defScope s__law_passed) := ⟨rfl, rfl, rfl, by decide +kernel, rfl, by decide +kernel, by decide +kernel⟩
theorem v__law_passed__law_stages : Vis (defScope s__law_passed) "_law_stages" := .inl (by decide +kernel)
theorem l__law_passed__law_tiles : Loc (defScope s__law_passed) "_law_tiles" := .inl (by decide +kernel)
theorem v__law_passed__law_bits : Vis (defScope s__law_passed) "_law_bits" := .inl (by decide +kernel)
theorem v__law_passed__law_tiles : Vis (defScope s__law_passed) "_law_tiles" := .inl (by decide +kernel)
theorem g__law_passed__law_stage_behind : ((defScope s__law_passed) : Scope).names.lookup ("_law_stage_behind" : Str) = some NameKind.globalImplicit := by decide +kernel
theorem l__law_passed__law_bits : Loc (defScope s__law_passed) "_law_bits" := .inl (by decide +kernel)
theorem g__law_passed_list : ((defScope s__law_passed) : Scope).names.lookup ("list" : Str) = some NameKind.globalImplicit := by decide +kernel
theorem d__law_passed {X : Cx} {W : WX} (d : Dc X W ["_law_stages", "_law_bits", "_law_tiles"] (defScope s__law_passed) 3) (f__law_stage_behind : Fx X "_law_stage_behind" 3 2 F__law_stage_behind) (z_list : X.mg "list" = none) : MSs X W (defBody s__law_passed) m__law_passed :=
    (mss_cons (ms_for d.po d.c.calm (mi_any (me_var d.c 0 (by rfl) v__law_passed__law_stages)) (mg_nm d.c 2 (by rfl) l__law_passed__law_tiles (.inl (by rw [d.fn]))) (mss_one (ms_set d.c 1 (by rfl) l__law_passed__law_bits (.inl (by rw [d.fn])) (me_call f__law_stage_behind (d.hr.mono (by decide)) d.tk (d.c.gl g__law_passed__law_stage_behind) (ma_cons (me_var d.c 2 (by rfl) v__law_passed__law_tiles) (ma_cons (me_var d.c 1 (by rfl) v__law_passed__law_bits) ma_nil)) (by rfl) (hlen := (len_cons (len_cons (fun _ _ _ => len_nil))))))))
    (mss_one (ms_ret (me_fnT call_list_of opn_list (d.c.gl g__law_passed_list) z_list (by decide +kernel) (ma_cons (me_var d.c 1 (by rfl) v__law_passed__law_bits) ma_nil)))))
theorem fk__law_passed {f : Addr} {fd : FuncData} (Fn : Fun K "_law_passed" "_law_passed" s__law_passed f fd) (f__law_stage_behind : Fc P w K mg base "_law_stage_behind" 3 2 F__law_stage_behind) (z_list : mg "list" = none) : FnOk P w K mg base (L2.CX P w) 4 f fd ["_law_stages", "_law_bits"] (spM ⟨P, w, K⟩ 2 F__law_passed) :=
  fn_ok Fn sc__law_passed fun X W e1 e2 e3 e4 e5 d => by subst e1 e2 e3 e4 e5; exact d__law_passed d f__law_stage_behind z_list
theorem ok__law_passed {f : Addr} {fd : FuncData} (Fn : Fun K "_law_passed" "_law_passed" s__law_passed f fd) (hm : mg "_law_passed" = some (.ref f)) (f__law_stage_behind : Fc P w K mg base "_law_stage_behind" 3 2 F__law_stage_behind) (z_list : mg "list" = none) : Fc P w K mg base "_law_passed" 4 2 F__law_passed :=
  ⟨f, fd, ["_law_stages", "_law_bits"], hm, Fn.kp, Fn.binds (fun _ _ _ _ _ _ us hl => match us, hl with | [_, _], _ => rfl), fk__law_passed Fn f__law_stage_behind z_list⟩
abbrev s__law_are_stages : Stmt := top 15
theorem sc__law_are_stages : FnScope ["_law_value", "_law_rows", "_law_tiles", "_law_last", "_law_tile", "_law_here"] ["_law_value", "_law_rows"] (defScope s__law_are_stages) := ⟨rfl, rfl, rfl, by decide +kernel, rfl, by decide +kernel, by decide +kernel⟩
theorem g__law_are_stages_tuple : ((defScope s__law_are_stages) : Scope).names.lookup ("tuple" : Str) = some NameKind.globalImplicit := by decide +kernel
theorem v__law_are_stages__law_value : Vis (defScope s__law_are_stages) "_law_value" := .inl (by decide +kernel)
theorem g__law_are_stages_isinstance : ((defScope s__law_are_stages) : Scope).names.lookup ("isinstance" : Str) = some NameKind.globalImplicit := by decide +kernel
theorem l__law_are_stages__law_tiles : Loc (defScope s__law_are_stages) "_law_tiles" := .inl (by decide +kernel)
theorem v__law_are_stages__law_tiles : Vis (defScope s__law_are_stages) "_law_tiles" := .inl (by decide +kernel)
theorem l__law_are_stages__law_last : Loc (defScope s__law_are_stages) "_law_last" := .inl (by decide +kernel)
theorem l__law_are_stages__law_tile : Loc (defScope s__law_are_stages) "_law_tile" := .inl (by decide +kernel)
theorem v__law_are_stages__law_tile : Vis (defScope s__law_are_stages) "_law_tile" := .inl (by decide +kernel)
theorem g__law_are_stages_len : ((defScope s__law_are_stages) : Scope).names.lookup ("len" : Str) = some NameKind.globalImplicit := by decide +kernel
theorem g__law_are_stages__law_is_whole : ((defScope s__law_are_stages) : Scope).names.lookup ("_law_is_whole" : Str) = some NameKind.globalImplicit := by decide +kernel
theorem g__law_are_stages__law_rows_of : ((defScope s__law_are_stages) : Scope).names.lookup ("_law_rows_of" : Str) = some NameKind.globalImplicit := by decide +kernel
theorem l__law_are_stages__law_here : Loc (defScope s__law_are_stages) "_law_here" := .inl (by decide +kernel)
theorem v__law_are_stages__law_here : Vis (defScope s__law_are_stages) "_law_here" := .inl (by decide +kernel)
theorem v__law_are_stages__law_last : Vis (defScope s__law_are_stages) "_law_last" := .inl (by decide +kernel)
theorem v__law_are_stages__law_rows : Vis (defScope s__law_are_stages) "_law_rows" := .inl (by decide +kernel)
theorem d__law_are_stages {X : Cx} {W : WX} (d : Dc X W ["_law_value", "_law_rows", "_law_tiles", "_law_last", "_law_tile", "_law_here"] (defScope s__law_are_stages) 2) (f__law_is_whole : Fx X "_law_is_whole" 2 1 F__law_is_whole) (f__law_rows_of : Fx X "_law_rows_of" 2 1 F__law_rows_of) (z_tuple : X.mg "tuple" = none) (z_isinstance : X.mg "isinstance" = none) (z_len : X.mg "len" = none) : MSs X W (defBody s__law_are_stages) m__law_are_stages :=
    (mss_cons (ms_if (mt_not (mt_tru (me_fnB call_isiU opn_isi (d.c.gl g__law_are_stages_isinstance) z_isinstance (by decide +kernel) (ma_cons (me_var d.c 0 (by rfl) v__law_are_stages__law_value) (ma_cons (me_ty (d.c.gl g__law_are_stages_tuple) z_tuple (by decide +kernel)) ma_nil))))) (mss_one (ms_ret me_bl)) mss_nil)
    (mss_cons (ms_for d.po d.c.calm (mi_any (me_var d.c 0 (by rfl) v__law_are_stages__law_value)) (mg_nm d.c 2 (by rfl) l__law_are_stages__law_tiles (.inl (by rw [d.fn]))) (mss_cons (ms_if (mt_not (mt_tru (me_fnB call_isiU opn_isi (d.c.gl g__law_are_stages_isinstance) z_isinstance (by decide +kernel) (ma_cons (me_var d.c 2 (by rfl) v__law_are_stages__law_tiles) (ma_cons (me_ty (d.c.gl g__law_are_stages_tuple) z_tuple (by decide +kernel)) ma_nil))))) (mss_one (ms_ret me_bl)) mss_nil)
    (mss_cons (ms_set d.c 3 (by rfl) l__law_are_stages__law_last (.inl (by rw [d.fn])) (me_un un_neg un1_neg me_int))
    (mss_one (ms_for d.po d.c.calm (mi_any (me_var d.c 2 (by rfl) v__law_are_stages__law_tiles)) (mg_nm d.c 4 (by rfl) l__law_are_stages__law_tile (.inl (by rw [d.fn]))) (mss_cons (ms_if (PW.pt (mw_or (mt_not (mt_tru (me_fnB call_isiU opn_isi (d.c.gl g__law_are_stages_isinstance) z_isinstance (by decide +kernel) (ma_cons (me_var d.c 4 (by rfl) v__law_are_stages__law_tile) (ma_cons (me_ty (d.c.gl g__law_are_stages_tuple) z_tuple (by decide +kernel)) ma_nil))))) (mw_or (mt_cmp (op_neD d.hu64) op2_ne (me_fnB call_lenU opn_len (d.c.gl g__law_are_stages_len) z_len (by decide +kernel) (ma_cons (me_var d.c 4 (by rfl) v__law_are_stages__law_tile) ma_nil)) me_int (nomark _)) (mw_or1 (mt_not (mt_tru (me_call f__law_is_whole (d.hr.mono (by decide)) d.tk (d.c.gl g__law_are_stages__law_is_whole) (ma_cons (me_ix d.hu (me_var d.c 4 (by rfl) v__law_are_stages__law_tile) me_int) ma_nil) (by rfl) (hlen := (len_cons (fun _ _ _ => len_nil)))))))))) (mss_one (ms_ret me_bl)) mss_nil)
    (mss_cons (ms_if (mt_cmp (op_notInU d.hu65) op2_notIn (me_ix d.hu (me_var d.c 4 (by rfl) v__law_are_stages__law_tile) me_int) (me_lst (ma_cons me_str (ma_cons me_str (ma_cons me_str (ma_cons me_str (ma_cons me_str (ma_cons me_str (ma_cons me_str ma_nil)))))))) (by rfl)) (mss_one (ms_ret me_bl)) mss_nil)
    (mss_cons (ms_set d.c 5 (by rfl) l__law_are_stages__law_here (.inl (by rw [d.fn])) (me_call f__law_rows_of (d.hr.mono (by decide)) d.tk (d.c.gl g__law_are_stages__law_rows_of) (ma_cons (me_var d.c 4 (by rfl) v__law_are_stages__law_tile) ma_nil) (by rfl) (hlen := (len_cons (fun _ _ _ => len_nil)))))
    (mss_cons (ms_if (PW.pt (mw_or (mt_cmp op_le op2_le (me_ix d.hu (me_var d.c 5 (by rfl) v__law_are_stages__law_here) me_int) (me_var d.c 3 (by rfl) v__law_are_stages__law_last) (nomark _)) (mw_or1 (mt_cmp op_ge op2_ge (me_ix d.hu (me_var d.c 5 (by rfl) v__law_are_stages__law_here) (me_un un_neg un1_neg me_int)) (me_var d.c 1 (by rfl) v__law_are_stages__law_rows) (nomark _))))) (mss_one (ms_ret me_bl)) mss_nil)
    (mss_one (ms_set d.c 3 (by rfl) l__law_are_stages__law_last (.inl (by rw [d.fn])) (me_ix d.hu (me_var d.c 5 (by rfl) v__law_are_stages__law_here) (me_un un_neg un1_neg me_int)))))))))))))
    (mss_one (ms_ret me_bl))))
theorem fk__law_are_stages {f : Addr} {fd : FuncData} (Fn : Fun K "_law_are_stages" "_law_are_stages" s__law_are_stages f fd) (f__law_is_whole : Fc P w K mg base "_law_is_whole" 2 1 F__law_is_whole) (f__law_rows_of : Fc P w K mg base "_law_rows_of" 2 1 F__law_rows_of) (z_tuple : mg "tuple" = none) (z_isinstance : mg "isinstance" = none) (z_len : mg "len" = none) : FnOk P w K mg base (L2.CX P w) 3 f fd ["_law_value", "_law_rows"] (spM ⟨P, w, K⟩ 2 F__law_are_stages) :=
  fn_ok Fn sc__law_are_stages fun X W e1 e2 e3 e4 e5 d => by subst e1 e2 e3 e4 e5; exact d__law_are_stages d f__law_is_whole f__law_rows_of z_tuple z_isinstance z_len
theorem ok__law_are_stages {f : Addr} {fd : FuncData} (Fn : Fun K "_law_are_stages" "_law_are_stages" s__law_are_stages f fd) (hm : mg "_law_are_stages" = some (.ref f)) (f__law_is_whole : Fc P w K mg base "_law_is_whole" 2 1 F__law_is_whole) (f__law_rows_of : Fc P w K mg base "_law_rows_of" 2 1 F__law_rows_of) (z_tuple : mg "tuple" = none) (z_isinstance : mg "isinstance" = none) (z_len : mg "len" = none) : Fc P w K mg base "_law_are_stages" 3 2 F__law_are_stages :=
  ⟨f, fd, ["_law_value", "_law_rows"], hm, Fn.kp, Fn.binds (fun _ _ _ _ _ _ us hl => match us, hl with | [_, _], _ => rfl), fk__law_are_stages Fn f__law_is_whole f__law_rows_of z_tuple z_isinstance z_len⟩
abbrev s__law_slot_bits : Stmt := top 16
theorem sc__law_slot_bits : FnScope ["_law_rows", "_law_bits", "_law_found", "_law_k"] ["_law_rows", "_law_bits"] (defScope s__law_slot_bits) := ⟨rfl, rfl, rfl, by decide +kernel, rfl, by decide +kernel, by decide +kernel⟩
theorem v__law_slot_bits__law_rows : Vis (defScope s__law_slot_bits) "_law_rows" := .inl (by decide +kernel)
theorem l__law_slot_bits__law_found : Loc (defScope s__law_slot_bits) "_law_found" := .inl (by decide +kernel)
theorem v__law_slot_bits__law_bits : Vis (defScope s__law_slot_bits) "_law_bits" := .inl (by decide +kernel)
theorem g__law_slot_bits_len : ((defScope s__law_slot_bits) : Scope).names.lookup ("len" : Str) = some NameKind.globalImplicit := by decide +kernel
theorem g__law_slot_bits_range : ((defScope s__law_slot_bits) : Scope).names.lookup ("range" : Str) = some NameKind.globalImplicit := by decide +kernel
theorem l__law_slot_bits__law_k : Loc (defScope s__law_slot_bits) "_law_k" := .inl (by decide +kernel)
theorem v__law_slot_bits__law_k : Vis (defScope s__law_slot_bits) "_law_k" := .inl (by decide +kernel)
theorem v__law_slot_bits__law_found : Vis (defScope s__law_slot_bits) "_law_found" := .inl (by decide +kernel)
theorem d__law_slot_bits {X : Cx} {W : WX} (d : Dc X W ["_law_rows", "_law_bits", "_law_found", "_law_k"] (defScope s__law_slot_bits) 1) (z_len : X.mg "len" = none) (z_range : X.mg "range" = none) : MSs X W (defBody s__law_slot_bits) m__law_slot_bits :=
    (mss_cons (ms_set d.c 2 (by rfl) l__law_slot_bits__law_found (.inl (by rw [d.fn])) (me_op op_mulU op2_mul (me_lst (ma_cons me_int ma_nil)) (me_var d.c 0 (by rfl) v__law_slot_bits__law_rows)))
    (mss_cons (ms_for d.po d.c.calm (mi_rg1 (d.c.gl g__law_slot_bits_range) z_range (ma_cons (me_fnB call_lenU opn_len (d.c.gl g__law_slot_bits_len) z_len (by decide +kernel) (ma_cons (me_var d.c 1 (by rfl) v__law_slot_bits__law_bits) ma_nil)) ma_nil)) (mg_nm d.c 3 (by rfl) l__law_slot_bits__law_k (.inl (by rw [d.fn]))) (mss_one (ms_asg (me_ix d.hu (me_var d.c 1 (by rfl) v__law_slot_bits__law_bits) (me_var d.c 3 (by rfl) v__law_slot_bits__law_k)) (mg_sub d.hu (me_var d.c 2 (by rfl) v__law_slot_bits__law_found) (me_op op_mulU op2_mul me_int (me_var d.c 3 (by rfl) v__law_slot_bits__law_k))))))
    (mss_one (ms_ret (me_var d.c 2 (by rfl) v__law_slot_bits__law_found)))))
theorem fk__law_slot_bits {f : Addr} {fd : FuncData} (Fn : Fun K "_law_slot_bits" "_law_slot_bits" s__law_slot_bits f fd) (z_len : mg "len" = none) (z_range : mg "range" = none) : FnOk P w K mg base (L2.CX P w) 2 f fd ["_law_rows", "_law_bits"] (spM ⟨P, w, K⟩ 2 F__law_slot_bits) :=
  fn_ok Fn sc__law_slot_bits fun X W e1 e2 e3 e4 e5 d => by subst e1 e2 e3 e4 e5; exact d__law_slot_bits d z_len z_range
theorem ok__law_slot_bits {f : Addr} {fd : FuncData} (Fn : Fun K "_law_slot_bits" "_law_slot_bits" s__law_slot_bits f fd) (hm : mg "_law_slot_bits" = some (.ref f)) (z_len : mg "len" = none) (z_range : mg "range" = none) : Fc P w K mg base "_law_slot_bits" 2 2 F__law_slot_bits :=
  ⟨f, fd, ["_law_rows", "_law_bits"], hm, Fn.kp, Fn.binds (fun _ _ _ _ _ _ us hl => match us, hl with | [_, _], _ => rfl), fk__law_slot_bits Fn z_len z_range⟩
abbrev s__law_own_exchanged : Stmt := top 17
theorem sc__law_own_exchanged : FnScope ["_law_m", "_law_p", "_law_low", "_law_ahead", "_law_behind", "_law_found", "_law_k", "_law_tiles"] ["_law_m", "_law_p"] (defScope s__law_own_exchanged) := ⟨rfl, rfl, rfl, by decide +kernel, rfl, by decide +kernel, by decide +kernel⟩
theorem v__law_own_exchanged__law_p : Vis (defScope s__law_own_exchanged) "_law_p" := .inl (by decide +kernel)
theorem l__law_own_exchanged__law_low : Loc (defScope s__law_own_exchanged) "_law_low" := .inl (by decide +kernel)
theorem g__law_own_exchanged_range : ((defScope s__law_own_exchanged) : Scope).names.lookup ("range" : Str) = some NameKind.globalImplicit := by decide +kernel
theorem k__law_own_exchanged_b1__law_k : ((relS { kind := PySem.ScopeKind.function, names := [(PySem.Str.ofString ".0", PySem.NameKind.local), (PySem.Str.ofString "_law_k", PySem.NameKind.local)], isGenerator := false, isCoroutine := false, more := [] : PySem.Scope } (defScope s__law_own_exchanged)) : Scope).names.lookup ("_law_k" : Str) = some NameKind.local := by decide +kernel
theorem v__law_own_exchanged_b1__law_k : Vis (relS { kind := PySem.ScopeKind.function, names := [(PySem.Str.ofString ".0", PySem.NameKind.local), (PySem.Str.ofString "_law_k", PySem.NameKind.local)], isGenerator := false, isCoroutine := false, more := [] : PySem.Scope } (defScope s__law_own_exchanged)) "_law_k" := .inl (by decide +kernel)
theorem g__law_own_exchanged_tuple : ((defScope s__law_own_exchanged) : Scope).names.lookup ("tuple" : Str) = some NameKind.globalImplicit := by decide +kernel
theorem l__law_own_exchanged__law_ahead : Loc (defScope s__law_own_exchanged) "_law_ahead" := .inr (by decide +kernel)
theorem v__law_own_exchanged__law_m : Vis (defScope s__law_own_exchanged) "_law_m" := .inl (by decide +kernel)
theorem k__law_own_exchanged_b2__law_k : ((relS { kind := PySem.ScopeKind.function, names := [(PySem.Str.ofString ".0", PySem.NameKind.local), (PySem.Str.ofString "_law_k", PySem.NameKind.local)], isGenerator := false, isCoroutine := false, more := [] : PySem.Scope } (defScope s__law_own_exchanged)) : Scope).names.lookup ("_law_k" : Str) = some NameKind.local := by decide +kernel
theorem v__law_own_exchanged_b2__law_k : Vis (relS { kind := PySem.ScopeKind.function, names := [(PySem.Str.ofString ".0", PySem.NameKind.local), (PySem.Str.ofString "_law_k", PySem.NameKind.local)], isGenerator := false, isCoroutine := false, more := [] : PySem.Scope } (defScope s__law_own_exchanged)) "_law_k" := .inl (by decide +kernel)
theorem l__law_own_exchanged__law_behind : Loc (defScope s__law_own_exchanged) "_law_behind" := .inr (by decide +kernel)
theorem v__law_own_exchanged__law_low : Vis (defScope s__law_own_exchanged) "_law_low" := .inl (by decide +kernel)
theorem l__law_own_exchanged__law_found : Loc (defScope s__law_own_exchanged) "_law_found" := .inl (by decide +kernel)
theorem v__law_own_exchanged__law_found : Vis (defScope s__law_own_exchanged) "_law_found" := .inl (by decide +kernel)
theorem k__law_own_exchanged_b3__law_tiles : ((relS { kind := PySem.ScopeKind.function, names := [(PySem.Str.ofString ".0", PySem.NameKind.local), (PySem.Str.ofString "_law_tiles", PySem.NameKind.local), (PySem.Str.ofString "_law_ahead", PySem.NameKind.free), (PySem.Str.ofString "_law_behind", PySem.NameKind.free)], isGenerator := false, isCoroutine := false, more := [] : PySem.Scope } (defScope s__law_own_exchanged)) : Scope).names.lookup ("_law_tiles" : Str) = some NameKind.local := by decide +kernel
theorem v__law_own_exchanged_b3__law_ahead : Vis (relS { kind := PySem.ScopeKind.function, names := [(PySem.Str.ofString ".0", PySem.NameKind.local), (PySem.Str.ofString "_law_tiles", PySem.NameKind.local), (PySem.Str.ofString "_law_ahead", PySem.NameKind.free), (PySem.Str.ofString "_law_behind", PySem.NameKind.free)], isGenerator := false, isCoroutine := false, more := [] : PySem.Scope } (defScope s__law_own_exchanged)) "_law_ahead" := .inr (.inl (by decide +kernel))
theorem v__law_own_exchanged_b3__law_tiles : Vis (relS { kind := PySem.ScopeKind.function, names := [(PySem.Str.ofString ".0", PySem.NameKind.local), (PySem.Str.ofString "_law_tiles", PySem.NameKind.local), (PySem.Str.ofString "_law_ahead", PySem.NameKind.free), (PySem.Str.ofString "_law_behind", PySem.NameKind.free)], isGenerator := false, isCoroutine := false, more := [] : PySem.Scope } (defScope s__law_own_exchanged)) "_law_tiles" := .inl (by decide +kernel)
theorem v__law_own_exchanged_b3__law_behind : Vis (relS { kind := PySem.ScopeKind.function, names := [(PySem.Str.ofString ".0", PySem.NameKind.local), (PySem.Str.ofString "_law_tiles", PySem.NameKind.local), (PySem.Str.ofString "_law_ahead", PySem.NameKind.free), (PySem.Str.ofString "_law_behind", PySem.NameKind.free)], isGenerator := false, isCoroutine := false, more := [] : PySem.Scope } (defScope s__law_own_exchanged)) "_law_behind" := .inr (.inl (by decide +kernel))
theorem d__law_own_exchanged {X : Cx} {W : WX} (d : Dc X W ["_law_m", "_law_p", "_law_low", "_law_ahead", "_law_behind", "_law_found", "_law_k", "_law_tiles"] (defScope s__law_own_exchanged) 1) (z_range : X.mg "range" = none) (z_tuple : X.mg "tuple" = none) : MSs X W (defBody s__law_own_exchanged) m__law_own_exchanged :=
    (mss_cons (ms_set d.c 2 (by rfl) l__law_own_exchanged__law_low (.inl (by rw [d.fn])) (me_op op_mulU op2_mul me_int (me_var d.c 1 (by rfl) v__law_own_exchanged__law_p)))
    (mss_cons (ms_set d.c 3 (by rfl) l__law_own_exchanged__law_ahead (.inl (by rw [d.fn])) (me_fnT call_tuple_of opn_tuple (d.c.gl g__law_own_exchanged_tuple) z_tuple (by decide +kernel) (ma_cons (me_lc d.c (own := [("_law_k", 6)]) (mi_rg1 (d.c.gl g__law_own_exchanged_range) z_range (ma_cons (me_var d.c 1 (by rfl) v__law_own_exchanged__law_p) ma_nil)) (by decide +kernel) (by decide) (fun _ _ _ _ _ c1 => (mgx_nm c1 6 (by rfl) k__law_own_exchanged_b1__law_k)) (fun _ _ _ _ _ c1 => mts_nil) (fun _ _ _ _ _ c1 => (me_tup (ma_cons me_str (ma_cons (me_op op_mulU op2_mul me_int (me_var c1 6 (by rfl) v__law_own_exchanged_b1__law_k)) ma_nil))))) ma_nil)))
    (mss_cons (ms_set d.c 4 (by rfl) l__law_own_exchanged__law_behind (.inl (by rw [d.fn])) (me_fnT call_tuple_of opn_tuple (d.c.gl g__law_own_exchanged_tuple) z_tuple (by decide +kernel) (ma_cons (me_lc d.c (own := [("_law_k", 6)]) (mi_rg2 (d.c.gl g__law_own_exchanged_range) z_range (ma_cons (me_op op_addU op2_add (me_var d.c 1 (by rfl) v__law_own_exchanged__law_p) me_int) (ma_cons (me_var d.c 0 (by rfl) v__law_own_exchanged__law_m) ma_nil))) (by decide +kernel) (by decide) (fun _ _ _ _ _ c2 => (mgx_nm c2 6 (by rfl) k__law_own_exchanged_b2__law_k)) (fun _ _ _ _ _ c2 => mts_nil) (fun _ _ _ _ _ c2 => (me_tup (ma_cons me_str (ma_cons (me_op op_mulU op2_mul me_int (me_var c2 6 (by rfl) v__law_own_exchanged_b2__law_k)) ma_nil))))) ma_nil)))
    (mss_cons (ms_set d.c 5 (by rfl) l__law_own_exchanged__law_found (.inl (by rw [d.fn])) (me_lst (ma_cons (me_tup (ma_cons (me_tup (ma_cons me_str (ma_cons (me_var d.c 2 (by rfl) v__law_own_exchanged__law_low) ma_nil))) (ma_cons (me_tup (ma_cons me_str (ma_cons (me_op op_addU op2_add (me_var d.c 2 (by rfl) v__law_own_exchanged__law_low) me_int) ma_nil))) ma_nil))) ma_nil)))
    (mss_cons (ms_expr (me_mtL PySem.F.slot_list_append PySem.F.type_list_append mt_append opm_append (me_var d.c 5 (by rfl) v__law_own_exchanged__law_found) (ma_cons (me_tup (ma_cons (me_tup (ma_cons me_str (ma_cons (me_var d.c 2 (by rfl) v__law_own_exchanged__law_low) ma_nil))) (ma_cons (me_tup (ma_cons me_str (ma_cons (me_op op_addU op2_add (me_var d.c 2 (by rfl) v__law_own_exchanged__law_low) me_int) ma_nil))) (ma_cons (me_tup (ma_cons me_str (ma_cons (me_op op_addU op2_add (me_var d.c 2 (by rfl) v__law_own_exchanged__law_low) me_int) ma_nil))) ma_nil)))) ma_nil)))
    (mss_cons (ms_expr (me_mtL PySem.F.slot_list_append PySem.F.type_list_append mt_append opm_append (me_var d.c 5 (by rfl) v__law_own_exchanged__law_found) (ma_cons (me_tup (ma_cons (me_tup (ma_cons me_str (ma_cons (me_var d.c 2 (by rfl) v__law_own_exchanged__law_low) ma_nil))) (ma_cons (me_tup (ma_cons me_str (ma_cons (me_op op_addU op2_add (me_var d.c 2 (by rfl) v__law_own_exchanged__law_low) me_int) ma_nil))) (ma_cons (me_tup (ma_cons me_str (ma_cons (me_op op_addU op2_add (me_var d.c 2 (by rfl) v__law_own_exchanged__law_low) me_int) ma_nil))) ma_nil)))) ma_nil)))
    (mss_cons (ms_expr (me_mtL PySem.F.slot_list_append PySem.F.type_list_append mt_append opm_append (me_var d.c 5 (by rfl) v__law_own_exchanged__law_found) (ma_cons (me_tup (ma_cons (me_tup (ma_cons me_str (ma_cons (me_var d.c 2 (by rfl) v__law_own_exchanged__law_low) ma_nil))) (ma_cons (me_tup (ma_cons me_str (ma_cons (me_op op_addU op2_add (me_var d.c 2 (by rfl) v__law_own_exchanged__law_low) me_int) ma_nil))) ma_nil))) ma_nil)))
    (mss_one (ms_ret (me_fnT call_tuple_of opn_tuple (d.c.gl g__law_own_exchanged_tuple) z_tuple (by decide +kernel) (ma_cons (me_lc d.c (own := [("_law_tiles", 7)]) (mi_any (me_var d.c 5 (by rfl) v__law_own_exchanged__law_found)) (by decide +kernel) (by decide) (fun _ _ _ _ _ c3 => (mgx_nm c3 7 (by rfl) k__law_own_exchanged_b3__law_tiles)) (fun _ _ _ _ _ c3 => mts_nil) (fun _ _ _ _ _ c3 => (me_op op_addU op2_add (me_op op_addU op2_add (me_var c3 3 (by rfl) v__law_own_exchanged_b3__law_ahead) (me_var c3 7 (by rfl) v__law_own_exchanged_b3__law_tiles)) (me_var c3 4 (by rfl) v__law_own_exchanged_b3__law_behind)))) ma_nil)))))))))))
theorem fk__law_own_exchanged {f : Addr} {fd : FuncData} (Fn : Fun K "_law_own_exchanged" "_law_own_exchanged" s__law_own_exchanged f fd) (z_range : mg "range" = none) (z_tuple : mg "tuple" = none) : FnOk P w K mg base (L2.CX P w) 2 f fd ["_law_m", "_law_p"] (spM ⟨P, w, K⟩ 2 F__law_own_exchanged) :=
  fn_ok Fn sc__law_own_exchanged fun X W e1 e2 e3 e4 e5 d => by subst e1 e2 e3 e4 e5; exact d__law_own_exchanged d z_range z_tuple
theorem ok__law_own_exchanged {f : Addr} {fd : FuncData} (Fn : Fun K "_law_own_exchanged" "_law_own_exchanged" s__law_own_exchanged f fd) (hm : mg "_law_own_exchanged" = some (.ref f)) (z_range : mg "range" = none) (z_tuple : mg "tuple" = none) : Fc P w K mg base "_law_own_exchanged" 2 2 F__law_own_exchanged :=
  ⟨f, fd, ["_law_m", "_law_p"], hm, Fn.kp, Fn.binds (fun _ _ _ _ _ _ us hl => match us, hl with | [_, _], _ => rfl), fk__law_own_exchanged Fn z_range z_tuple⟩
abbrev s__law_doubled_stages : Stmt := top 18
theorem sc__law_doubled_stages : FnScope ["_law_m", "_law_p", "_law_first", "_law_second", "_law_k"] ["_law_m", "_law_p"] (defScope s__law_doubled_stages) := ⟨rfl, rfl, rfl, by decide +kernel, rfl, by decide +kernel, by decide +kernel⟩
theorem v__law_doubled_stages__law_p : Vis (defScope s__law_doubled_stages) "_law_p" := .inl (by decide +kernel)
theorem g__law_doubled_stages_range : ((defScope s__law_doubled_stages) : Scope).names.lookup ("range" : Str) = some NameKind.globalImplicit := by decide +kernel
theorem k__law_doubled_stages_b1__law_k : ((relS { kind := PySem.ScopeKind.function, names := [(PySem.Str.ofString ".0", PySem.NameKind.local), (PySem.Str.ofString "_law_k", PySem.NameKind.local)], isGenerator := false, isCoroutine := false, more := [] : PySem.Scope } (defScope s__law_doubled_stages)) : Scope).names.lookup ("_law_k" : Str) = some NameKind.local := by decide +kernel
theorem v__law_doubled_stages_b1__law_k : Vis (relS { kind := PySem.ScopeKind.function, names := [(PySem.Str.ofString ".0", PySem.NameKind.local), (PySem.Str.ofString "_law_k", PySem.NameKind.local)], isGenerator := false, isCoroutine := false, more := [] : PySem.Scope } (defScope s__law_doubled_stages)) "_law_k" := .inl (by decide +kernel)
theorem v__law_doubled_stages__law_m : Vis (defScope s__law_doubled_stages) "_law_m" := .inl (by decide +kernel)
theorem k__law_doubled_stages_b2__law_k : ((relS { kind := PySem.ScopeKind.function, names := [(PySem.Str.ofString ".0", PySem.NameKind.local), (PySem.Str.ofString "_law_k", PySem.NameKind.local)], isGenerator := false, isCoroutine := false, more := [] : PySem.Scope } (defScope s__law_doubled_stages)) : Scope).names.lookup ("_law_k" : Str) = some NameKind.local := by decide +kernel
theorem v__law_doubled_stages_b2__law_k : Vis (relS { kind := PySem.ScopeKind.function, names := [(PySem.Str.ofString ".0", PySem.NameKind.local), (PySem.Str.ofString "_law_k", PySem.NameKind.local)], isGenerator := false, isCoroutine := false, more := [] : PySem.Scope } (defScope s__law_doubled_stages)) "_law_k" := .inl (by decide +kernel)
theorem l__law_doubled_stages__law_first : Loc (defScope s__law_doubled_stages) "_law_first" := .inl (by decide +kernel)
theorem k__law_doubled_stages_b3__law_k : ((relS { kind := PySem.ScopeKind.function, names := [(PySem.Str.ofString ".0", PySem.NameKind.local), (PySem.Str.ofString "_law_k", PySem.NameKind.local)], isGenerator := false, isCoroutine := false, more := [] : PySem.Scope } (defScope s__law_doubled_stages)) : Scope).names.lookup ("_law_k" : Str) = some NameKind.local := by decide +kernel
theorem v__law_doubled_stages_b3__law_k : Vis (relS { kind := PySem.ScopeKind.function, names := [(PySem.Str.ofString ".0", PySem.NameKind.local), (PySem.Str.ofString "_law_k", PySem.NameKind.local)], isGenerator := false, isCoroutine := false, more := [] : PySem.Scope } (defScope s__law_doubled_stages)) "_law_k" := .inl (by decide +kernel)
theorem l__law_doubled_stages__law_second : Loc (defScope s__law_doubled_stages) "_law_second" := .inl (by decide +kernel)
theorem v__law_doubled_stages__law_second : Vis (defScope s__law_doubled_stages) "_law_second" := .inl (by decide +kernel)
theorem k__law_doubled_stages_b4__law_k : ((relS { kind := PySem.ScopeKind.function, names := [(PySem.Str.ofString ".0", PySem.NameKind.local), (PySem.Str.ofString "_law_k", PySem.NameKind.local)], isGenerator := false, isCoroutine := false, more := [] : PySem.Scope } (defScope s__law_doubled_stages)) : Scope).names.lookup ("_law_k" : Str) = some NameKind.local := by decide +kernel
theorem v__law_doubled_stages_b4__law_k : Vis (relS { kind := PySem.ScopeKind.function, names := [(PySem.Str.ofString ".0", PySem.NameKind.local), (PySem.Str.ofString "_law_k", PySem.NameKind.local)], isGenerator := false, isCoroutine := false, more := [] : PySem.Scope } (defScope s__law_doubled_stages)) "_law_k" := .inl (by decide +kernel)
theorem g__law_doubled_stages_tuple : ((defScope s__law_doubled_stages) : Scope).names.lookup ("tuple" : Str) = some NameKind.globalImplicit := by decide +kernel
theorem v__law_doubled_stages__law_first : Vis (defScope s__law_doubled_stages) "_law_first" := .inl (by decide +kernel)
theorem d__law_doubled_stages {X : Cx} {W : WX} (d : Dc X W ["_law_m", "_law_p", "_law_first", "_law_second", "_law_k"] (defScope s__law_doubled_stages) 1) (z_range : X.mg "range" = none) (z_tuple : X.mg "tuple" = none) : MSs X W (defBody s__law_doubled_stages) m__law_doubled_stages :=
    (mss_cons (ms_set d.c 2 (by rfl) l__law_doubled_stages__law_first (.inl (by rw [d.fn])) (me_op op_addU op2_add (me_op op_addU op2_add (me_lc d.c (own := [("_law_k", 4)]) (mi_rg1 (d.c.gl g__law_doubled_stages_range) z_range (ma_cons (me_var d.c 1 (by rfl) v__law_doubled_stages__law_p) ma_nil)) (by decide +kernel) (by decide) (fun _ _ _ _ _ c1 => (mgx_nm c1 4 (by rfl) k__law_doubled_stages_b1__law_k)) (fun _ _ _ _ _ c1 => mts_nil) (fun _ _ _ _ _ c1 => (me_tup (ma_cons me_str (ma_cons (me_op op_mulU op2_mul me_int (me_var c1 4 (by rfl) v__law_doubled_stages_b1__law_k)) ma_nil))))) (me_lst (ma_cons (me_tup (ma_cons me_str (ma_cons (me_op op_mulU op2_mul me_int (me_var d.c 1 (by rfl) v__law_doubled_stages__law_p)) ma_nil))) ma_nil))) (me_lc d.c (own := [("_law_k", 4)]) (mi_rg2 (d.c.gl g__law_doubled_stages_range) z_range (ma_cons (me_op op_addU op2_add (me_var d.c 1 (by rfl) v__law_doubled_stages__law_p) me_int) (ma_cons (me_var d.c 0 (by rfl) v__law_doubled_stages__law_m) ma_nil))) (by decide +kernel) (by decide) (fun _ _ _ _ _ c2 => (mgx_nm c2 4 (by rfl) k__law_doubled_stages_b2__law_k)) (fun _ _ _ _ _ c2 => mts_nil) (fun _ _ _ _ _ c2 => (me_tup (ma_cons me_str (ma_cons (me_op op_mulU op2_mul me_int (me_var c2 4 (by rfl) v__law_doubled_stages_b2__law_k)) ma_nil)))))))
    (mss_cons (ms_set d.c 3 (by rfl) l__law_doubled_stages__law_second (.inl (by rw [d.fn])) (me_op op_addU op2_add (me_lc d.c (own := [("_law_k", 4)]) (mi_rg1 (d.c.gl g__law_doubled_stages_range) z_range (ma_cons (me_op op_addU op2_add (me_var d.c 1 (by rfl) v__law_doubled_stages__law_p) me_int) ma_nil)) (by decide +kernel) (by decide) (fun _ _ _ _ _ c3 => (mgx_nm c3 4 (by rfl) k__law_doubled_stages_b3__law_k)) (fun _ _ _ _ _ c3 => mts_nil) (fun _ _ _ _ _ c3 => (me_tup (ma_cons me_str (ma_cons (me_op op_mulU op2_mul me_int (me_var c3 4 (by rfl) v__law_doubled_stages_b3__law_k)) ma_nil))))) (me_lst (ma_cons (me_tup (ma_cons me_str (ma_cons (me_op op_addU op2_add (me_op op_mulU op2_mul me_int (me_var d.c 1 (by rfl) v__law_doubled_stages__law_p)) me_int) ma_nil))) ma_nil))))
    (mss_one (ms_ret (me_tup (ma_cons (me_fnT call_tuple_of opn_tuple (d.c.gl g__law_doubled_stages_tuple) z_tuple (by decide +kernel) (ma_cons (me_var d.c 2 (by rfl) v__law_doubled_stages__law_first) ma_nil)) (ma_cons (me_fnT call_tuple_of opn_tuple (d.c.gl g__law_doubled_stages_tuple) z_tuple (by decide +kernel) (ma_cons (me_op op_addU op2_add (me_var d.c 3 (by rfl) v__law_doubled_stages__law_second) (me_lc d.c (own := [("_law_k", 4)]) (mi_rg2 (d.c.gl g__law_doubled_stages_range) z_range (ma_cons (me_op op_addU op2_add (me_var d.c 1 (by rfl) v__law_doubled_stages__law_p) me_int) (ma_cons (me_var d.c 0 (by rfl) v__law_doubled_stages__law_m) ma_nil))) (by decide +kernel) (by decide) (fun _ _ _ _ _ c4 => (mgx_nm c4 4 (by rfl) k__law_doubled_stages_b4__law_k)) (fun _ _ _ _ _ c4 => mts_nil) (fun _ _ _ _ _ c4 => (me_tup (ma_cons me_str (ma_cons (me_op op_addU op2_add (me_op op_mulU op2_mul me_int (me_var c4 4 (by rfl) v__law_doubled_stages_b4__law_k)) me_int) ma_nil)))))) ma_nil)) ma_nil)))))))
theorem fk__law_doubled_stages {f : Addr} {fd : FuncData} (Fn : Fun K "_law_doubled_stages" "_law_doubled_stages" s__law_doubled_stages f fd) (z_range : mg "range" = none) (z_tuple : mg "tuple" = none) : FnOk P w K mg base (L2.CX P w) 2 f fd ["_law_m", "_law_p"] (spM ⟨P, w, K⟩ 2 F__law_doubled_stages) :=
  fn_ok Fn sc__law_doubled_stages fun X W e1 e2 e3 e4 e5 d => by subst e1 e2 e3 e4 e5; exact d__law_doubled_stages d z_range z_tuple
theorem ok__law_doubled_stages {f : Addr} {fd : FuncData} (Fn : Fun K "_law_doubled_stages" "_law_doubled_stages" s__law_doubled_stages f fd) (hm : mg "_law_doubled_stages" = some (.ref f)) (z_range : mg "range" = none) (z_tuple : mg "tuple" = none) : Fc P w K mg base "_law_doubled_stages" 2 2 F__law_doubled_stages :=
  ⟨f, fd, ["_law_m", "_law_p"], hm, Fn.kp, Fn.binds (fun _ _ _ _ _ _ us hl => match us, hl with | [_, _], _ => rfl), fk__law_doubled_stages Fn z_range z_tuple⟩
abbrev s__law_made_stages : Stmt := top 19
theorem sc__law_made_stages : FnScope ["_law_m", "_law_p", "_law_kind", "_law_first", "_law_second", "_law_k"] ["_law_m", "_law_p", "_law_kind"] (defScope s__law_made_stages) := ⟨rfl, rfl, rfl, by decide +kernel, rfl, by decide +kernel, by decide +kernel⟩
theorem v__law_made_stages__law_p : Vis (defScope s__law_made_stages) "_law_p" := .inl (by decide +kernel)
theorem g__law_made_stages_range : ((defScope s__law_made_stages) : Scope).names.lookup ("range" : Str) = some NameKind.globalImplicit := by decide +kernel
theorem k__law_made_stages_b1__law_k : ((relS { kind := PySem.ScopeKind.function, names := [(PySem.Str.ofString ".0", PySem.NameKind.local), (PySem.Str.ofString "_law_k", PySem.NameKind.local)], isGenerator := false, isCoroutine := false, more := [] : PySem.Scope } (defScope s__law_made_stages)) : Scope).names.lookup ("_law_k" : Str) = some NameKind.local := by decide +kernel
theorem v__law_made_stages_b1__law_k : Vis (relS { kind := PySem.ScopeKind.function, names := [(PySem.Str.ofString ".0", PySem.NameKind.local), (PySem.Str.ofString "_law_k", PySem.NameKind.local)], isGenerator := false, isCoroutine := false, more := [] : PySem.Scope } (defScope s__law_made_stages)) "_law_k" := .inl (by decide +kernel)
theorem v__law_made_stages__law_m : Vis (defScope s__law_made_stages) "_law_m" := .inl (by decide +kernel)
theorem k__law_made_stages_b2__law_k : ((relS { kind := PySem.ScopeKind.function, names := [(PySem.Str.ofString ".0", PySem.NameKind.local), (PySem.Str.ofString "_law_k", PySem.NameKind.local)], isGenerator := false, isCoroutine := false, more := [] : PySem.Scope } (defScope s__law_made_stages)) : Scope).names.lookup ("_law_k" : Str) = some NameKind.local := by decide +kernel
theorem v__law_made_stages_b2__law_k : Vis (relS { kind := PySem.ScopeKind.function, names := [(PySem.Str.ofString ".0", PySem.NameKind.local), (PySem.Str.ofString "_law_k", PySem.NameKind.local)], isGenerator := false, isCoroutine := false, more := [] : PySem.Scope } (defScope s__law_made_stages)) "_law_k" := .inl (by decide +kernel)
theorem l__law_made_stages__law_first : Loc (defScope s__law_made_stages) "_law_first" := .inl (by decide +kernel)
theorem k__law_made_stages_b3__law_k : ((relS { kind := PySem.ScopeKind.function, names := [(PySem.Str.ofString ".0", PySem.NameKind.local), (PySem.Str.ofString "_law_k", PySem.NameKind.local)], isGenerator := false, isCoroutine := false, more := [] : PySem.Scope } (defScope s__law_made_stages)) : Scope).names.lookup ("_law_k" : Str) = some NameKind.local := by decide +kernel
theorem v__law_made_stages_b3__law_k : Vis (relS { kind := PySem.ScopeKind.function, names := [(PySem.Str.ofString ".0", PySem.NameKind.local), (PySem.Str.ofString "_law_k", PySem.NameKind.local)], isGenerator := false, isCoroutine := false, more := [] : PySem.Scope } (defScope s__law_made_stages)) "_law_k" := .inl (by decide +kernel)
theorem v__law_made_stages__law_kind : Vis (defScope s__law_made_stages) "_law_kind" := .inl (by decide +kernel)
theorem l__law_made_stages__law_second : Loc (defScope s__law_made_stages) "_law_second" := .inl (by decide +kernel)
theorem v__law_made_stages__law_second : Vis (defScope s__law_made_stages) "_law_second" := .inl (by decide +kernel)
theorem k__law_made_stages_b4__law_k : ((relS { kind := PySem.ScopeKind.function, names := [(PySem.Str.ofString ".0", PySem.NameKind.local), (PySem.Str.ofString "_law_k", PySem.NameKind.local)], isGenerator := false, isCoroutine := false, more := [] : PySem.Scope } (defScope s__law_made_stages)) : Scope).names.lookup ("_law_k" : Str) = some NameKind.local := by decide +kernel
theorem v__law_made_stages_b4__law_k : Vis (relS { kind := PySem.ScopeKind.function, names := [(PySem.Str.ofString ".0", PySem.NameKind.local), (PySem.Str.ofString "_law_k", PySem.NameKind.local)], isGenerator := false, isCoroutine := false, more := [] : PySem.Scope } (defScope s__law_made_stages)) "_law_k" := .inl (by decide +kernel)
theorem g__law_made_stages_tuple : ((defScope s__law_made_stages) : Scope).names.lookup ("tuple" : Str) = some NameKind.globalImplicit := by decide +kernel
theorem v__law_made_stages__law_first : Vis (defScope s__law_made_stages) "_law_first" := .inl (by decide +kernel)
theorem d__law_made_stages {X : Cx} {W : WX} (d : Dc X W ["_law_m", "_law_p", "_law_kind", "_law_first", "_law_second", "_law_k"] (defScope s__law_made_stages) 1) (z_range : X.mg "range" = none) (z_tuple : X.mg "tuple" = none) : MSs X W (defBody s__law_made_stages) m__law_made_stages :=
    (mss_cons (ms_set d.c 3 (by rfl) l__law_made_stages__law_first (.inl (by rw [d.fn])) (me_op op_addU op2_add (me_lc d.c (own := [("_law_k", 5)]) (mi_rg1 (d.c.gl g__law_made_stages_range) z_range (ma_cons (me_op op_addU op2_add (me_var d.c 1 (by rfl) v__law_made_stages__law_p) me_int) ma_nil)) (by decide +kernel) (by decide) (fun _ _ _ _ _ c1 => (mgx_nm c1 5 (by rfl) k__law_made_stages_b1__law_k)) (fun _ _ _ _ _ c1 => mts_nil) (fun _ _ _ _ _ c1 => (me_tup (ma_cons me_str (ma_cons (me_op op_mulU op2_mul me_int (me_var c1 5 (by rfl) v__law_made_stages_b1__law_k)) ma_nil))))) (me_lc d.c (own := [("_law_k", 5)]) (mi_rg2 (d.c.gl g__law_made_stages_range) z_range (ma_cons (me_op op_addU op2_add (me_var d.c 1 (by rfl) v__law_made_stages__law_p) me_int) (ma_cons (me_var d.c 0 (by rfl) v__law_made_stages__law_m) ma_nil))) (by decide +kernel) (by decide) (fun _ _ _ _ _ c2 => (mgx_nm c2 5 (by rfl) k__law_made_stages_b2__law_k)) (fun _ _ _ _ _ c2 => mts_nil) (fun _ _ _ _ _ c2 => (me_tup (ma_cons me_str (ma_cons (me_op op_mulU op2_mul me_int (me_var c2 5 (by rfl) v__law_made_stages_b2__law_k)) ma_nil)))))))
    (mss_cons (ms_set d.c 4 (by rfl) l__law_made_stages__law_second (.inl (by rw [d.fn])) (me_op op_addU op2_add (me_lc d.c (own := [("_law_k", 5)]) (mi_rg1 (d.c.gl g__law_made_stages_range) z_range (ma_cons (me_var d.c 1 (by rfl) v__law_made_stages__law_p) ma_nil)) (by decide +kernel) (by decide) (fun _ _ _ _ _ c3 => (mgx_nm c3 5 (by rfl) k__law_made_stages_b3__law_k)) (fun _ _ _ _ _ c3 => mts_nil) (fun _ _ _ _ _ c3 => (me_tup (ma_cons me_str (ma_cons (me_op op_mulU op2_mul me_int (me_var c3 5 (by rfl) v__law_made_stages_b3__law_k)) ma_nil))))) (me_lst (ma_cons (me_tup (ma_cons (me_var d.c 2 (by rfl) v__law_made_stages__law_kind) (ma_cons (me_op op_mulU op2_mul me_int (me_var d.c 1 (by rfl) v__law_made_stages__law_p)) ma_nil))) ma_nil))))
    (mss_one (ms_ret (me_tup (ma_cons (me_fnT call_tuple_of opn_tuple (d.c.gl g__law_made_stages_tuple) z_tuple (by decide +kernel) (ma_cons (me_var d.c 3 (by rfl) v__law_made_stages__law_first) ma_nil)) (ma_cons (me_fnT call_tuple_of opn_tuple (d.c.gl g__law_made_stages_tuple) z_tuple (by decide +kernel) (ma_cons (me_op op_addU op2_add (me_var d.c 4 (by rfl) v__law_made_stages__law_second) (me_lc d.c (own := [("_law_k", 5)]) (mi_rg2 (d.c.gl g__law_made_stages_range) z_range (ma_cons (me_op op_addU op2_add (me_var d.c 1 (by rfl) v__law_made_stages__law_p) me_int) (ma_cons (me_var d.c 0 (by rfl) v__law_made_stages__law_m) ma_nil))) (by decide +kernel) (by decide) (fun _ _ _ _ _ c4 => (mgx_nm c4 5 (by rfl) k__law_made_stages_b4__law_k)) (fun _ _ _ _ _ c4 => mts_nil) (fun _ _ _ _ _ c4 => (me_tup (ma_cons me_str (ma_cons (me_op op_sub op2_sub (me_op op_mulU op2_mul me_int (me_var c4 5 (by rfl) v__law_made_stages_b4__law_k)) me_int) ma_nil)))))) ma_nil)) ma_nil)))))))
theorem fk__law_made_stages {f : Addr} {fd : FuncData} (Fn : Fun K "_law_made_stages" "_law_made_stages" s__law_made_stages f fd) (z_range : mg "range" = none) (z_tuple : mg "tuple" = none) : FnOk P w K mg base (L2.CX P w) 2 f fd ["_law_m", "_law_p", "_law_kind"] (spM ⟨P, w, K⟩ 3 F__law_made_stages) :=
  fn_ok Fn sc__law_made_stages fun X W e1 e2 e3 e4 e5 d => by subst e1 e2 e3 e4 e5; exact d__law_made_stages d z_range z_tuple
theorem ok__law_made_stages {f : Addr} {fd : FuncData} (Fn : Fun K "_law_made_stages" "_law_made_stages" s__law_made_stages f fd) (hm : mg "_law_made_stages" = some (.ref f)) (z_range : mg "range" = none) (z_tuple : mg "tuple" = none) : Fc P w K mg base "_law_made_stages" 2 3 F__law_made_stages :=
  ⟨f, fd, ["_law_m", "_law_p", "_law_kind"], hm, Fn.kp, Fn.binds (fun _ _ _ _ _ _ us hl => match us, hl with | [_, _, _], _ => rfl), fk__law_made_stages Fn z_range z_tuple⟩
abbrev s__law_led_stages : Stmt := top 20
theorem sc__law_led_stages : FnScope ["_law_m", "_law_p", "_law_q", "_law_found", "_law_lap"] ["_law_m", "_law_p", "_law_q"] (defScope s__law_led_stages) := ⟨rfl, rfl, rfl, by decide +kernel, rfl, by decide +kernel, by decide +kernel⟩
theorem l__law_led_stages__law_found : Loc (defScope s__law_led_stages) "_law_found" := .inl (by decide +kernel)
theorem v__law_led_stages__law_m : Vis (defScope s__law_led_stages) "_law_m" := .inl (by decide +kernel)
theorem g__law_led_stages_range : ((defScope s__law_led_stages) : Scope).names.lookup ("range" : Str) = some NameKind.globalImplicit := by decide +kernel
theorem l__law_led_stages__law_lap : Loc (defScope s__law_led_stages) "_law_lap" := .inl (by decide +kernel)
theorem v__law_led_stages__law_p : Vis (defScope s__law_led_stages) "_law_p" := .inl (by decide +kernel)
theorem v__law_led_stages__law_q : Vis (defScope s__law_led_stages) "_law_q" := .inl (by decide +kernel)
theorem v__law_led_stages__law_found : Vis (defScope s__law_led_stages) "_law_found" := .inl (by decide +kernel)
theorem g__law_led_stages_abs : ((defScope s__law_led_stages) : Scope).names.lookup ("abs" : Str) = some NameKind.globalImplicit := by decide +kernel
theorem g__law_led_stages_min : ((defScope s__law_led_stages) : Scope).names.lookup ("min" : Str) = some NameKind.globalImplicit := by decide +kernel
theorem g__law_led_stages__law_own_exchanged : ((defScope s__law_led_stages) : Scope).names.lookup ("_law_own_exchanged" : Str) = some NameKind.globalImplicit := by decide +kernel
theorem l__law_led_stages__law_p : Loc (defScope s__law_led_stages) "_law_p" := .inl (by decide +kernel)
theorem d__law_led_stages {X : Cx} {W : WX} (d : Dc X W ["_law_m", "_law_p", "_law_q", "_law_found", "_law_lap"] (defScope s__law_led_stages) 2) (f__law_own_exchanged : Fx X "_law_own_exchanged" 2 2 F__law_own_exchanged) (z_range : X.mg "range" = none) (z_abs : X.mg "abs" = none) (z_min : X.mg "min" = none) : MSs X W (defBody s__law_led_stages) m__law_led_stages :=
    (mss_cons (ms_set d.c 3 (by rfl) l__law_led_stages__law_found (.inl (by rw [d.fn])) (me_tup ma_nil))
    (mss_cons (ms_for d.po d.c.calm (mi_rg1 (d.c.gl g__law_led_stages_range) z_range (ma_cons (me_var d.c 0 (by rfl) v__law_led_stages__law_m) ma_nil)) (mg_nm d.c 4 (by rfl) l__law_led_stages__law_lap (.inl (by rw [d.fn]))) (mss_cons (ms_if (mt_cmp (op_eqD d.hu64) op2_eq (me_var d.c 1 (by rfl) v__law_led_stages__law_p) (me_var d.c 2 (by rfl) v__law_led_stages__law_q) (nomark _)) (mss_one ms_break) mss_nil)
    (mss_cons (ms_set d.c 3 (by rfl) l__law_led_stages__law_found (.inl (by rw [d.fn])) (me_op op_addU op2_add (me_var d.c 3 (by rfl) v__law_led_stages__law_found) (me_call f__law_own_exchanged (d.hr.mono (by decide)) d.tk (d.c.gl g__law_led_stages__law_own_exchanged) (ma_cons (me_var d.c 0 (by rfl) v__law_led_stages__law_m) (ma_cons (me_if (mt_cmp (op_eqD d.hu64) op2_eq (me_fnB call_abs opn_abs (d.c.gl g__law_led_stages_abs) z_abs (by decide +kernel) (ma_cons (me_op op_sub op2_sub (me_var d.c 1 (by rfl) v__law_led_stages__law_p) (me_var d.c 2 (by rfl) v__law_led_stages__law_q)) ma_nil)) me_int (nomark _)) (me_fnB (call_minU d.c.calm) opn_min (d.c.gl g__law_led_stages_min) z_min (by decide +kernel) (ma_cons (me_lst (ma_cons (me_var d.c 1 (by rfl) v__law_led_stages__law_p) (ma_cons (me_var d.c 2 (by rfl) v__law_led_stages__law_q) ma_nil))) ma_nil)) (me_if (mt_cmp op_lt op2_lt (me_var d.c 1 (by rfl) v__law_led_stages__law_p) (me_var d.c 2 (by rfl) v__law_led_stages__law_q) (nomark _)) (me_var d.c 1 (by rfl) v__law_led_stages__law_p) (me_op op_sub op2_sub (me_var d.c 1 (by rfl) v__law_led_stages__law_p) me_int))) ma_nil)) (by rfl) (hlen := (len_cons (len_cons (fun _ _ _ => len_nil)))))))
    (mss_one (ms_set d.c 1 (by rfl) l__law_led_stages__law_p (.inl (by rw [d.fn])) (me_if (mt_cmp op_lt op2_lt (me_var d.c 1 (by rfl) v__law_led_stages__law_p) (me_var d.c 2 (by rfl) v__law_led_stages__law_q) (nomark _)) (me_op op_addU op2_add (me_var d.c 1 (by rfl) v__law_led_stages__law_p) me_int) (me_op op_sub op2_sub (me_var d.c 1 (by rfl) v__law_led_stages__law_p) me_int)))))))
    (mss_one (ms_ret (me_var d.c 3 (by rfl) v__law_led_stages__law_found)))))
theorem fk__law_led_stages {f : Addr} {fd : FuncData} (Fn : Fun K "_law_led_stages" "_law_led_stages" s__law_led_stages f fd) (f__law_own_exchanged : Fc P w K mg base "_law_own_exchanged" 2 2 F__law_own_exchanged) (z_range : mg "range" = none) (z_abs : mg "abs" = none) (z_min : mg "min" = none) : FnOk P w K mg base (L2.CX P w) 3 f fd ["_law_m", "_law_p", "_law_q"] (spM ⟨P, w, K⟩ 3 F__law_led_stages) :=
  fn_ok Fn sc__law_led_stages fun X W e1 e2 e3 e4 e5 d => by subst e1 e2 e3 e4 e5; exact d__law_led_stages d f__law_own_exchanged z_range z_abs z_min
theorem ok__law_led_stages {f : Addr} {fd : FuncData} (Fn : Fun K "_law_led_stages" "_law_led_stages" s__law_led_stages f fd) (hm : mg "_law_led_stages" = some (.ref f)) (f__law_own_exchanged : Fc P w K mg base "_law_own_exchanged" 2 2 F__law_own_exchanged) (z_range : mg "range" = none) (z_abs : mg "abs" = none) (z_min : mg "min" = none) : Fc P w K mg base "_law_led_stages" 3 3 F__law_led_stages :=
  ⟨f, fd, ["_law_m", "_law_p", "_law_q"], hm, Fn.kp, Fn.binds (fun _ _ _ _ _ _ us hl => match us, hl with | [_, _, _], _ => rfl), fk__law_led_stages Fn f__law_own_exchanged z_range z_abs z_min⟩
abbrev s__law_leads : Stmt := top 21
theorem sc__law_leads : FnScope ["_law_stages", "_law_rows", "_law_ahead", "_law_behind"] ["_law_stages", "_law_rows", "_law_ahead", "_law_behind"] (defScope s__law_leads) := ⟨rfl, rfl, rfl, by decide +kernel, rfl, by decide +kernel, by decide +kernel⟩
theorem v__law_leads__law_ahead : Vis (defScope s__law_leads) "_law_ahead" := .inl (by decide +kernel)
theorem v__law_leads__law_rows : Vis (defScope s__law_leads) "_law_rows" := .inl (by decide +kernel)
theorem g__law_leads__law_slot_bits : ((defScope s__law_leads) : Scope).names.lookup ("_law_slot_bits" : Str) = some NameKind.globalImplicit := by decide +kernel
theorem v__law_leads__law_stages : Vis (defScope s__law_leads) "_law_stages" := .inl (by decide +kernel)
theorem g__law_leads__law_passed : ((defScope s__law_leads) : Scope).names.lookup ("_law_passed" : Str) = some NameKind.globalImplicit := by decide +kernel
theorem v__law_leads__law_behind : Vis (defScope s__law_leads) "_law_behind" := .inl (by decide +kernel)
theorem d__law_leads {X : Cx} {W : WX} (d : Dc X W ["_law_stages", "_law_rows", "_law_ahead", "_law_behind"] (defScope s__law_leads) 4) (f__law_passed : Fx X "_law_passed" 4 2 F__law_passed) (f__law_slot_bits : Fx X "_law_slot_bits" 2 2 F__law_slot_bits) : MSs X W (defBody s__law_leads) m__law_leads :=
    (mss_one (ms_ret (me_cmp (op_eqD d.hu64) op2_eq (me_call f__law_passed (d.hr.mono (by decide)) d.tk (d.c.gl g__law_leads__law_passed) (ma_cons (me_var d.c 0 (by rfl) v__law_leads__law_stages) (ma_cons (me_call f__law_slot_bits (d.hr.mono (by decide)) d.tk (d.c.gl g__law_leads__law_slot_bits) (ma_cons (me_var d.c 1 (by rfl) v__law_leads__law_rows) (ma_cons (me_var d.c 2 (by rfl) v__law_leads__law_ahead) ma_nil)) (by rfl) (hlen := (len_cons (len_cons (fun _ _ _ => len_nil))))) ma_nil)) (by rfl) (hlen := (len_cons (len_cons (fun _ _ _ => len_nil))))) (me_call f__law_slot_bits (d.hr.mono (by decide)) d.tk (d.c.gl g__law_leads__law_slot_bits) (ma_cons (me_var d.c 1 (by rfl) v__law_leads__law_rows) (ma_cons (me_var d.c 3 (by rfl) v__law_leads__law_behind) ma_nil)) (by rfl) (hlen := (len_cons (len_cons (fun _ _ _ => len_nil))))) (nomark _))))
theorem fk__law_leads {f : Addr} {fd : FuncData} (Fn : Fun K "_law_leads" "_law_leads" s__law_leads f fd) (f__law_passed : Fc P w K mg base "_law_passed" 4 2 F__law_passed) (f__law_slot_bits : Fc P w K mg base "_law_slot_bits" 2 2 F__law_slot_bits) : FnOk P w K mg base (L2.CX P w) 5 f fd ["_law_stages", "_law_rows", "_law_ahead", "_law_behind"] (spM ⟨P, w, K⟩ 4 F__law_leads) :=
  fn_ok Fn sc__law_leads fun X W e1 e2 e3 e4 e5 d => by subst e1 e2 e3 e4 e5; exact d__law_leads d f__law_passed f__law_slot_bits
theorem ok__law_leads {f : Addr} {fd : FuncData} (Fn : Fun K "_law_leads" "_law_leads" s__law_leads f fd) (hm : mg "_law_leads" = some (.ref f)) (f__law_passed : Fc P w K mg base "_law_passed" 4 2 F__law_passed) (f__law_slot_bits : Fc P w K mg base "_law_slot_bits" 2 2 F__law_slot_bits) : Fc P w K mg base "_law_leads" 5 4 F__law_leads :=
  ⟨f, fd, ["_law_stages", "_law_rows", "_law_ahead", "_law_behind"], hm, Fn.kp, Fn.binds (fun _ _ _ _ _ _ us hl => match us, hl with | [_, _, _, _], _ => rfl), fk__law_leads Fn f__law_passed f__law_slot_bits⟩
abbrev s_law : Stmt := top 22
theorem sc_law : FnScope ["_law_script", "_law_pen_here", "_law_lap", "_law_m", "_law_p", "_law_q", "_law_rows", "_law_low", "_law_kind", "_law_copy", "_law_change", "_law_way", "_law_gate_here", "_law_stages", "_law_row", "_law_bits", "_law_rest", "_law_word"] ["_law_script"] (defScope s_law) := ⟨rfl, rfl, rfl, by decide +kernel, rfl, by decide +kernel, by decide +kernel⟩
theorem v_law__law_script : Vis (defScope s_law) "_law_script" := .inl (by decide +kernel)
theorem g_law__law_pen : ((defScope s_law) : Scope).names.lookup ("_law_pen" : Str) = some NameKind.globalImplicit := by decide +kernel
theorem l_law__law_pen_here : Loc (defScope s_law) "_law_pen_here" := .inl (by decide +kernel)
theorem g_law_range : ((defScope s_law) : Scope).names.lookup ("range" : Str) = some NameKind.globalImplicit := by decide +kernel
theorem l_law__law_lap : Loc (defScope s_law) "_law_lap" := .inl (by decide +kernel)
theorem v_law__law_pen_here : Vis (defScope s_law) "_law_pen_here" := .inl (by decide +kernel)
theorem g_law__law_draw : ((defScope s_law) : Scope).names.lookup ("_law_draw" : Str) = some NameKind.globalImplicit := by decide +kernel
theorem l_law__law_m : Loc (defScope s_law) "_law_m" := .inl (by decide +kernel)
theorem v_law__law_m : Vis (defScope s_law) "_law_m" := .inl (by decide +kernel)
theorem k_law__law_p : ((defScope s_law) : Scope).names.lookup ("_law_p" : Str) = some NameKind.local := by decide +kernel
theorem k_law__law_q : ((defScope s_law) : Scope).names.lookup ("_law_q" : Str) = some NameKind.local := by decide +kernel
theorem k_law__law_rows : ((defScope s_law) : Scope).names.lookup ("_law_rows" : Str) = some NameKind.local := by decide +kernel
theorem g_law__law_pick : ((defScope s_law) : Scope).names.lookup ("_law_pick" : Str) = some NameKind.globalImplicit := by decide +kernel
theorem k_law__law_low : ((defScope s_law) : Scope).names.lookup ("_law_low" : Str) = some NameKind.local := by decide +kernel
theorem k_law__law_kind : ((defScope s_law) : Scope).names.lookup ("_law_kind" : Str) = some NameKind.local := by decide +kernel
theorem v_law__law_kind : Vis (defScope s_law) "_law_kind" := .inl (by decide +kernel)
theorem v_law__law_low : Vis (defScope s_law) "_law_low" := .inl (by decide +kernel)
theorem g_law_made_at : ((defScope s_law) : Scope).names.lookup ("made_at" : Str) = some NameKind.globalImplicit := by decide +kernel
theorem v_law__law_q : Vis (defScope s_law) "_law_q" := .inl (by decide +kernel)
theorem v_law__law_p : Vis (defScope s_law) "_law_p" := .inl (by decide +kernel)
theorem g_law_led : ((defScope s_law) : Scope).names.lookup ("led" : Str) = some NameKind.globalImplicit := by decide +kernel
theorem g_law_exchanged : ((defScope s_law) : Scope).names.lookup ("exchanged" : Str) = some NameKind.globalImplicit := by decide +kernel
theorem g_law_doubled : ((defScope s_law) : Scope).names.lookup ("doubled" : Str) = some NameKind.globalImplicit := by decide +kernel
theorem l_law__law_gate_here : Loc (defScope s_law) "_law_gate_here" := .inl (by decide +kernel)
theorem l_law__law_way : Loc (defScope s_law) "_law_way" := .inl (by decide +kernel)
theorem l_law__law_change : Loc (defScope s_law) "_law_change" := .inl (by decide +kernel)
theorem l_law__law_copy : Loc (defScope s_law) "_law_copy" := .inl (by decide +kernel)
theorem v_law__law_copy : Vis (defScope s_law) "_law_copy" := .inl (by decide +kernel)
theorem g_law__law_doubled_stages : ((defScope s_law) : Scope).names.lookup ("_law_doubled_stages" : Str) = some NameKind.globalImplicit := by decide +kernel
theorem v_law__law_change : Vis (defScope s_law) "_law_change" := .inl (by decide +kernel)
theorem g_law__law_own_exchanged : ((defScope s_law) : Scope).names.lookup ("_law_own_exchanged" : Str) = some NameKind.globalImplicit := by decide +kernel
theorem v_law__law_way : Vis (defScope s_law) "_law_way" := .inl (by decide +kernel)
theorem g_law__law_led_stages : ((defScope s_law) : Scope).names.lookup ("_law_led_stages" : Str) = some NameKind.globalImplicit := by decide +kernel
theorem v_law__law_gate_here : Vis (defScope s_law) "_law_gate_here" := .inl (by decide +kernel)
theorem g_law__law_made_stages : ((defScope s_law) : Scope).names.lookup ("_law_made_stages" : Str) = some NameKind.globalImplicit := by decide +kernel
theorem l_law__law_stages : Loc (defScope s_law) "_law_stages" := .inl (by decide +kernel)
theorem v_law__law_rows : Vis (defScope s_law) "_law_rows" := .inl (by decide +kernel)
theorem v_law__law_stages : Vis (defScope s_law) "_law_stages" := .inl (by decide +kernel)
theorem g_law__law_are_stages : ((defScope s_law) : Scope).names.lookup ("_law_are_stages" : Str) = some NameKind.globalImplicit := by decide +kernel
theorem g_law__law_bit_rows : ((defScope s_law) : Scope).names.lookup ("_law_bit_rows" : Str) = some NameKind.globalImplicit := by decide +kernel
theorem l_law__law_row : Loc (defScope s_law) "_law_row" := .inl (by decide +kernel)
theorem v_law__law_row : Vis (defScope s_law) "_law_row" := .inl (by decide +kernel)
theorem g_law_list : ((defScope s_law) : Scope).names.lookup ("list" : Str) = some NameKind.globalImplicit := by decide +kernel
theorem l_law__law_bits : Loc (defScope s_law) "_law_bits" := .inl (by decide +kernel)
theorem v_law__law_bits : Vis (defScope s_law) "_law_bits" := .inl (by decide +kernel)
theorem g_law__law_leads : ((defScope s_law) : Scope).names.lookup ("_law_leads" : Str) = some NameKind.globalImplicit := by decide +kernel
theorem l_law__law_rest : Loc (defScope s_law) "_law_rest" := .inl (by decide +kernel)
theorem v_law__law_rest : Vis (defScope s_law) "_law_rest" := .inl (by decide +kernel)
theorem g_law__law_gate : ((defScope s_law) : Scope).names.lookup ("_law_gate" : Str) = some NameKind.globalImplicit := by decide +kernel
theorem l_law__law_word : Loc (defScope s_law) "_law_word" := .inl (by decide +kernel)
theorem v_law__law_word : Vis (defScope s_law) "_law_word" := .inl (by decide +kernel)
theorem d_law {X : Cx} {W : WX} (d : Dc X W ["_law_script", "_law_pen_here", "_law_lap", "_law_m", "_law_p", "_law_q", "_law_rows", "_law_low", "_law_kind", "_law_copy", "_law_change", "_law_way", "_law_gate_here", "_law_stages", "_law_row", "_law_bits", "_law_rest", "_law_word"] (defScope s_law) 5) (f__law_pen : Fx X "_law_pen" 2 1 F__law_pen) (f__law_draw : Fx X "_law_draw" 2 2 F__law_draw) (f__law_pick : Fx X "_law_pick" 3 2 F__law_pick) (f_made_at : Fx X "made_at" 2 3 F_made_at) (f_led : Fx X "led" 3 3 F_led) (f_exchanged : Fx X "exchanged" 2 2 F_exchanged) (f_doubled : Fx X "doubled" 2 2 F_doubled) (f__law_doubled_stages : Fx X "_law_doubled_stages" 2 2 F__law_doubled_stages) (f__law_own_exchanged : Fx X "_law_own_exchanged" 2 2 F__law_own_exchanged) (f__law_led_stages : Fx X "_law_led_stages" 3 3 F__law_led_stages) (f__law_made_stages : Fx X "_law_made_stages" 2 3 F__law_made_stages) (f__law_are_stages : Fx X "_law_are_stages" 3 2 F__law_are_stages) (f__law_bit_rows : Fx X "_law_bit_rows" 2 1 F__law_bit_rows) (f__law_leads : Fx X "_law_leads" 5 4 F__law_leads) (f__law_gate : Fx X "_law_gate" 2 2 F__law_gate) (z_range : X.mg "range" = none) (z_list : X.mg "list" = none) : MSs X W (defBody s_law) m_law :=
    (mss_cons (ms_set d.c 1 (by rfl) l_law__law_pen_here (.inl (by rw [d.fn])) (me_call f__law_pen (d.hr.mono (by decide)) d.tk (d.c.gl g_law__law_pen) (ma_cons (me_var d.c 0 (by rfl) v_law__law_script) ma_nil) (by rfl) (hlen := (len_cons (fun _ _ _ => len_nil)))))
    (mss_cons (ms_for d.po d.c.calm (mi_rg1 (d.c.gl g_law_range) z_range (ma_cons me_int ma_nil)) (mg_nm d.c 2 (by rfl) l_law__law_lap (.inl (by rw [d.fn]))) (mss_cons (ms_set d.c 3 (by rfl) l_law__law_m (.inl (by rw [d.fn])) (me_op op_addU op2_add me_int (me_call f__law_draw (d.hr.mono (by decide)) d.tk (d.c.gl g_law__law_draw) (ma_cons (me_var d.c 1 (by rfl) v_law__law_pen_here) (ma_cons me_int ma_nil)) (by rfl) (hlen := (len_cons (len_cons (fun _ _ _ => len_nil)))))))
    (mss_cons (ms_par3 d.c 4 5 6 (by rfl) (by rfl) (by rfl) (by decide) (by decide) (by decide) k_law__law_p k_law__law_q k_law__law_rows (ma_cons (me_call f__law_draw (d.hr.mono (by decide)) d.tk (d.c.gl g_law__law_draw) (ma_cons (me_var d.c 1 (by rfl) v_law__law_pen_here) (ma_cons (me_var d.c 3 (by rfl) v_law__law_m) ma_nil)) (by rfl) (hlen := (len_cons (len_cons (fun _ _ _ => len_nil))))) (ma_cons (me_call f__law_draw (d.hr.mono (by decide)) d.tk (d.c.gl g_law__law_draw) (ma_cons (me_var d.c 1 (by rfl) v_law__law_pen_here) (ma_cons (me_var d.c 3 (by rfl) v_law__law_m) ma_nil)) (by rfl) (hlen := (len_cons (len_cons (fun _ _ _ => len_nil))))) (ma_cons (me_op op_addU op2_add (me_op op_mulU op2_mul me_int (me_var d.c 3 (by rfl) v_law__law_m)) me_int) ma_nil))) (sw_env d.c (fun env h => by cases env; cases h; rfl)))
    (mss_cons (ms_par d.c 7 8 (by rfl) (by rfl) (by decide) k_law__law_low k_law__law_kind (ma_cons (me_call f__law_draw (d.hr.mono (by decide)) d.tk (d.c.gl g_law__law_draw) (ma_cons (me_var d.c 1 (by rfl) v_law__law_pen_here) (ma_cons (me_op op_sub op2_sub (me_var d.c 3 (by rfl) v_law__law_m) me_int) ma_nil)) (by rfl) (hlen := (len_cons (len_cons (fun _ _ _ => len_nil))))) (ma_cons (me_call f__law_pick (d.hr.mono (by decide)) d.tk (d.c.gl g_law__law_pick) (ma_cons (me_var d.c 1 (by rfl) v_law__law_pen_here) (ma_cons (me_lst (ma_cons me_str (ma_cons me_str (ma_cons me_str ma_nil)))) ma_nil)) (by rfl) (hlen := (len_cons (len_cons (fun _ _ _ => len_nil))))) ma_nil)) (fun hc hN hi hj hx hy ha => ps_par hc hN hi hj (by decide) hx hy ha (sw_env d.c (fun env h => by cases env; cases h; rfl))))
    (mss_cons (ms_asg (me_tup (ma_cons (me_call f_doubled (d.hr.mono (by decide)) d.tk (d.c.gl g_law_doubled) (ma_cons (me_var d.c 3 (by rfl) v_law__law_m) (ma_cons (me_var d.c 4 (by rfl) v_law__law_p) ma_nil)) (by rfl) (hlen := (len_cons (len_cons (fun _ _ _ => len_nil))))) (ma_cons (me_call f_exchanged (d.hr.mono (by decide)) d.tk (d.c.gl g_law_exchanged) (ma_cons (me_var d.c 3 (by rfl) v_law__law_m) (ma_cons (me_var d.c 7 (by rfl) v_law__law_low) ma_nil)) (by rfl) (hlen := (len_cons (len_cons (fun _ _ _ => len_nil))))) (ma_cons (me_call f_led (d.hr.mono (by decide)) d.tk (d.c.gl g_law_led) (ma_cons (me_var d.c 3 (by rfl) v_law__law_m) (ma_cons (me_var d.c 4 (by rfl) v_law__law_p) (ma_cons (me_var d.c 5 (by rfl) v_law__law_q) ma_nil))) (by rfl) (hlen := (len_cons (len_cons (len_cons (fun _ _ _ => len_nil)))))) (ma_cons (me_call f_made_at (d.hr.mono (by decide)) d.tk (d.c.gl g_law_made_at) (ma_cons (me_var d.c 3 (by rfl) v_law__law_m) (ma_cons (me_var d.c 7 (by rfl) v_law__law_low) (ma_cons (me_var d.c 8 (by rfl) v_law__law_kind) ma_nil))) (by rfl) (hlen := (len_cons (len_cons (len_cons (fun _ _ _ => len_nil)))))) ma_nil))))) (mg_tup d.c.calm (mgs_cons (mg_nm d.c 9 (by rfl) l_law__law_copy (.inl (by rw [d.fn]))) (mgs_cons (mg_nm d.c 10 (by rfl) l_law__law_change (.inl (by rw [d.fn]))) (mgs_cons (mg_nm d.c 11 (by rfl) l_law__law_way (.inl (by rw [d.fn]))) (mgs_cons (mg_nm d.c 12 (by rfl) l_law__law_gate_here (.inl (by rw [d.fn]))) mgs_nil))))))
    (mss_cons (ms_if (PW.pt (mw_or (mt_cmp (op_neD d.hu64) op2_ne (me_var d.c 9 (by rfl) v_law__law_copy) (me_call f__law_doubled_stages (d.hr.mono (by decide)) d.tk (d.c.gl g_law__law_doubled_stages) (ma_cons (me_var d.c 3 (by rfl) v_law__law_m) (ma_cons (me_var d.c 4 (by rfl) v_law__law_p) ma_nil)) (by rfl) (hlen := (len_cons (len_cons (fun _ _ _ => len_nil))))) (nomark _)) (mw_or1 (mt_cmp (op_neD d.hu64) op2_ne (me_var d.c 10 (by rfl) v_law__law_change) (me_call f__law_own_exchanged (d.hr.mono (by decide)) d.tk (d.c.gl g_law__law_own_exchanged) (ma_cons (me_var d.c 3 (by rfl) v_law__law_m) (ma_cons (me_var d.c 7 (by rfl) v_law__law_low) ma_nil)) (by rfl) (hlen := (len_cons (len_cons (fun _ _ _ => len_nil))))) (nomark _))))) (mss_one (ms_ret me_bl)) mss_nil)
    (mss_cons (ms_if (PW.pt (mw_or (mt_cmp (op_neD d.hu64) op2_ne (me_var d.c 11 (by rfl) v_law__law_way) (me_call f__law_led_stages (d.hr.mono (by decide)) d.tk (d.c.gl g_law__law_led_stages) (ma_cons (me_var d.c 3 (by rfl) v_law__law_m) (ma_cons (me_var d.c 4 (by rfl) v_law__law_p) (ma_cons (me_var d.c 5 (by rfl) v_law__law_q) ma_nil))) (by rfl) (hlen := (len_cons (len_cons (len_cons (fun _ _ _ => len_nil)))))) (nomark _)) (mw_or1 (mt_cmp (op_neD d.hu64) op2_ne (me_var d.c 12 (by rfl) v_law__law_gate_here) (me_call f__law_made_stages (d.hr.mono (by decide)) d.tk (d.c.gl g_law__law_made_stages) (ma_cons (me_var d.c 3 (by rfl) v_law__law_m) (ma_cons (me_var d.c 7 (by rfl) v_law__law_low) (ma_cons (me_var d.c 8 (by rfl) v_law__law_kind) ma_nil))) (by rfl) (hlen := (len_cons (len_cons (len_cons (fun _ _ _ => len_nil)))))) (nomark _))))) (mss_one (ms_ret me_bl)) mss_nil)
    (mss_cons (ms_for d.po d.c.calm (mi_any (me_lst (ma_cons (me_var d.c 9 (by rfl) v_law__law_copy) (ma_cons (me_var d.c 10 (by rfl) v_law__law_change) (ma_cons (me_var d.c 11 (by rfl) v_law__law_way) (ma_cons (me_var d.c 12 (by rfl) v_law__law_gate_here) ma_nil)))))) (mg_nm d.c 13 (by rfl) l_law__law_stages (.inl (by rw [d.fn]))) (mss_one (ms_if (mt_not (mt_tru (me_call f__law_are_stages (d.hr.mono (by decide)) d.tk (d.c.gl g_law__law_are_stages) (ma_cons (me_var d.c 13 (by rfl) v_law__law_stages) (ma_cons (me_var d.c 6 (by rfl) v_law__law_rows) ma_nil)) (by rfl) (hlen := (len_cons (len_cons (fun _ _ _ => len_nil))))))) (mss_one (ms_ret me_bl)) mss_nil)))
    (mss_one (ms_for d.po d.c.calm (mi_any (me_call f__law_bit_rows (d.hr.mono (by decide)) d.tk (d.c.gl g_law__law_bit_rows) (ma_cons (me_var d.c 3 (by rfl) v_law__law_m) ma_nil) (by rfl) (hlen := (len_cons (fun _ _ _ => len_nil))))) (mg_nm d.c 14 (by rfl) l_law__law_row (.inl (by rw [d.fn]))) (mss_cons (ms_set d.c 15 (by rfl) l_law__law_bits (.inl (by rw [d.fn])) (me_fnT call_list_of opn_list (d.c.gl g_law_list) z_list (by decide +kernel) (ma_cons (me_var d.c 14 (by rfl) v_law__law_row) ma_nil)))
    (mss_cons (ms_if (mt_not (mt_tru (me_call f__law_leads (d.hr.mono (by decide)) d.tk (d.c.gl g_law__law_leads) (ma_cons (me_var d.c 9 (by rfl) v_law__law_copy) (ma_cons (me_var d.c 6 (by rfl) v_law__law_rows) (ma_cons (me_var d.c 15 (by rfl) v_law__law_bits) (ma_cons (me_op op_addU op2_add (me_sl (me_var d.c 15 (by rfl) v_law__law_bits) mp_none (mp_some (me_op op_addU op2_add (me_var d.c 4 (by rfl) v_law__law_p) me_int))) (me_sl (me_var d.c 15 (by rfl) v_law__law_bits) (mp_some (me_var d.c 4 (by rfl) v_law__law_p)) mp_none)) ma_nil)))) (by rfl) (hlen := (len_cons (len_cons (len_cons (len_cons (fun _ _ _ => len_nil))))))))) (mss_one (ms_ret me_bl)) mss_nil)
    (mss_cons (ms_if (mt_not (mt_tru (me_call f__law_leads (d.hr.mono (by decide)) d.tk (d.c.gl g_law__law_leads) (ma_cons (me_var d.c 10 (by rfl) v_law__law_change) (ma_cons (me_var d.c 6 (by rfl) v_law__law_rows) (ma_cons (me_var d.c 15 (by rfl) v_law__law_bits) (ma_cons (me_op op_addU op2_add (me_op op_addU op2_add (me_sl (me_var d.c 15 (by rfl) v_law__law_bits) mp_none (mp_some (me_var d.c 7 (by rfl) v_law__law_low))) (me_lst (ma_cons (me_ix d.hu (me_var d.c 15 (by rfl) v_law__law_bits) (me_op op_addU op2_add (me_var d.c 7 (by rfl) v_law__law_low) me_int)) (ma_cons (me_ix d.hu (me_var d.c 15 (by rfl) v_law__law_bits) (me_var d.c 7 (by rfl) v_law__law_low)) ma_nil)))) (me_sl (me_var d.c 15 (by rfl) v_law__law_bits) (mp_some (me_op op_addU op2_add (me_var d.c 7 (by rfl) v_law__law_low) me_int)) mp_none)) ma_nil)))) (by rfl) (hlen := (len_cons (len_cons (len_cons (len_cons (fun _ _ _ => len_nil))))))))) (mss_one (ms_ret me_bl)) mss_nil)
    (mss_cons (ms_set d.c 16 (by rfl) l_law__law_rest (.inl (by rw [d.fn])) (me_op op_addU op2_add (me_sl (me_var d.c 15 (by rfl) v_law__law_bits) mp_none (mp_some (me_var d.c 4 (by rfl) v_law__law_p))) (me_sl (me_var d.c 15 (by rfl) v_law__law_bits) (mp_some (me_op op_addU op2_add (me_var d.c 4 (by rfl) v_law__law_p) me_int)) mp_none)))
    (mss_cons (ms_if (mt_not (mt_tru (me_call f__law_leads (d.hr.mono (by decide)) d.tk (d.c.gl g_law__law_leads) (ma_cons (me_var d.c 11 (by rfl) v_law__law_way) (ma_cons (me_var d.c 6 (by rfl) v_law__law_rows) (ma_cons (me_var d.c 15 (by rfl) v_law__law_bits) (ma_cons (me_op op_addU op2_add (me_op op_addU op2_add (me_sl (me_var d.c 16 (by rfl) v_law__law_rest) mp_none (mp_some (me_var d.c 5 (by rfl) v_law__law_q))) (me_lst (ma_cons (me_ix d.hu (me_var d.c 15 (by rfl) v_law__law_bits) (me_var d.c 4 (by rfl) v_law__law_p)) ma_nil))) (me_sl (me_var d.c 16 (by rfl) v_law__law_rest) (mp_some (me_var d.c 5 (by rfl) v_law__law_q)) mp_none)) ma_nil)))) (by rfl) (hlen := (len_cons (len_cons (len_cons (len_cons (fun _ _ _ => len_nil))))))))) (mss_one (ms_ret me_bl)) mss_nil)
    (mss_cons (ms_set d.c 17 (by rfl) l_law__law_word (.inl (by rw [d.fn])) (me_call f__law_gate (d.hr.mono (by decide)) d.tk (d.c.gl g_law__law_gate) (ma_cons (me_tup (ma_cons (me_var d.c 8 (by rfl) v_law__law_kind) (ma_cons me_int (ma_cons me_int ma_nil)))) (ma_cons (me_sl (me_var d.c 15 (by rfl) v_law__law_bits) (mp_some (me_var d.c 7 (by rfl) v_law__law_low)) (mp_some (me_op op_addU op2_add (me_var d.c 7 (by rfl) v_law__law_low) me_int))) ma_nil)) (by rfl) (hlen := (len_cons (len_cons (fun _ _ _ => len_nil))))))
    (mss_one (ms_if (mt_not (mt_tru (me_call f__law_leads (d.hr.mono (by decide)) d.tk (d.c.gl g_law__law_leads) (ma_cons (me_var d.c 12 (by rfl) v_law__law_gate_here) (ma_cons (me_var d.c 6 (by rfl) v_law__law_rows) (ma_cons (me_var d.c 15 (by rfl) v_law__law_bits) (ma_cons (me_op op_addU op2_add (me_op op_addU op2_add (me_sl (me_var d.c 15 (by rfl) v_law__law_bits) mp_none (mp_some (me_var d.c 7 (by rfl) v_law__law_low))) (me_lst (ma_cons (me_var d.c 17 (by rfl) v_law__law_word) ma_nil))) (me_sl (me_var d.c 15 (by rfl) v_law__law_bits) (mp_some (me_op op_addU op2_add (me_var d.c 7 (by rfl) v_law__law_low) me_int)) mp_none)) ma_nil)))) (by rfl) (hlen := (len_cons (len_cons (len_cons (len_cons (fun _ _ _ => len_nil))))))))) (mss_one (ms_ret me_bl)) mss_nil))))))))))))))))))
    (mss_one (ms_ret (me_cmp (op_eqD d.hu64) op2_eq (me_call f_doubled (d.hr.mono (by decide)) d.tk (d.c.gl g_law_doubled) (ma_cons me_int (ma_cons me_int ma_nil)) (by rfl) (hlen := (len_cons (len_cons (fun _ _ _ => len_nil))))) (me_tup (ma_cons (me_tup (ma_cons (me_tup (ma_cons me_str (ma_cons me_int ma_nil))) ma_nil)) (ma_cons (me_tup (ma_cons (me_tup (ma_cons me_str (ma_cons me_int ma_nil))) (ma_cons (me_tup (ma_cons me_str (ma_cons me_int ma_nil))) ma_nil))) ma_nil))) (nomark _))))))
theorem fk_law {f : Addr} {fd : FuncData} (Fn : Fun K "law" "law" s_law f fd) (f__law_pen : Fc P w K mg base "_law_pen" 2 1 F__law_pen) (f__law_draw : Fc P w K mg base "_law_draw" 2 2 F__law_draw) (f__law_pick : Fc P w K mg base "_law_pick" 3 2 F__law_pick) (f_made_at : Fc P w K mg base "made_at" 2 3 F_made_at) (f_led : Fc P w K mg base "led" 3 3 F_led) (f_exchanged : Fc P w K mg base "exchanged" 2 2 F_exchanged) (f_doubled : Fc P w K mg base "doubled" 2 2 F_doubled) (f__law_doubled_stages : Fc P w K mg base "_law_doubled_stages" 2 2 F__law_doubled_stages) (f__law_own_exchanged : Fc P w K mg base "_law_own_exchanged" 2 2 F__law_own_exchanged) (f__law_led_stages : Fc P w K mg base "_law_led_stages" 3 3 F__law_led_stages) (f__law_made_stages : Fc P w K mg base "_law_made_stages" 2 3 F__law_made_stages) (f__law_are_stages : Fc P w K mg base "_law_are_stages" 3 2 F__law_are_stages) (f__law_bit_rows : Fc P w K mg base "_law_bit_rows" 2 1 F__law_bit_rows) (f__law_leads : Fc P w K mg base "_law_leads" 5 4 F__law_leads) (f__law_gate : Fc P w K mg base "_law_gate" 2 2 F__law_gate) (z_range : mg "range" = none) (z_list : mg "list" = none) : FnOk P w K mg base (L2.CX P w) 6 f fd ["_law_script"] (spM ⟨P, w, K⟩ 1 F_law) :=
  fn_ok Fn sc_law fun X W e1 e2 e3 e4 e5 d => by subst e1 e2 e3 e4 e5; exact d_law d f__law_pen f__law_draw f__law_pick f_made_at f_led f_exchanged f_doubled f__law_doubled_stages f__law_own_exchanged f__law_led_stages f__law_made_stages f__law_are_stages f__law_bit_rows f__law_leads f__law_gate z_range z_list
theorem ok_law {f : Addr} {fd : FuncData} (Fn : Fun K "law" "law" s_law f fd) (hm : mg "law" = some (.ref f)) (f__law_pen : Fc P w K mg base "_law_pen" 2 1 F__law_pen) (f__law_draw : Fc P w K mg base "_law_draw" 2 2 F__law_draw) (f__law_pick : Fc P w K mg base "_law_pick" 3 2 F__law_pick) (f_made_at : Fc P w K mg base "made_at" 2 3 F_made_at) (f_led : Fc P w K mg base "led" 3 3 F_led) (f_exchanged : Fc P w K mg base "exchanged" 2 2 F_exchanged) (f_doubled : Fc P w K mg base "doubled" 2 2 F_doubled) (f__law_doubled_stages : Fc P w K mg base "_law_doubled_stages" 2 2 F__law_doubled_stages) (f__law_own_exchanged : Fc P w K mg base "_law_own_exchanged" 2 2 F__law_own_exchanged) (f__law_led_stages : Fc P w K mg base "_law_led_stages" 3 3 F__law_led_stages) (f__law_made_stages : Fc P w K mg base "_law_made_stages" 2 3 F__law_made_stages) (f__law_are_stages : Fc P w K mg base "_law_are_stages" 3 2 F__law_are_stages) (f__law_bit_rows : Fc P w K mg base "_law_bit_rows" 2 1 F__law_bit_rows) (f__law_leads : Fc P w K mg base "_law_leads" 5 4 F__law_leads) (f__law_gate : Fc P w K mg base "_law_gate" 2 2 F__law_gate) (z_range : mg "range" = none) (z_list : mg "list" = none) : Fc P w K mg base "law" 6 1 F_law :=
  ⟨f, fd, ["_law_script"], hm, Fn.kp, Fn.binds (fun _ _ _ _ _ _ us hl => match us, hl with | [_], _ => rfl), fk_law Fn f__law_pen f__law_draw f__law_pick f_made_at f_led f_exchanged f_doubled f__law_doubled_stages f__law_own_exchanged f__law_led_stages f__law_made_stages f__law_are_stages f__law_bit_rows f__law_leads f__law_gate z_range z_list⟩
end
theorem all_mk {l : PySem.W.OpenLaw} {w : World} {K : PySem.W.Frag} {h : Heap} {mg : Str → Option Value} {fa : Addr} (X : K.In h) (G : h.Ns mainGlobals mg) (hfa : mg "law" = some (.ref fa))
    {f0 f1 f2 f3 f4 f5 f6 f7 f8 f9 f10 f11 f12 f13 f14 f15 f16 f17 f18 f19 f20 : Addr}
    {od0 an0 od1 an1 od2 an2 od3 an3 od4 an4 od5 an5 od6 an6 od7 an7 od8 an8 od9 an9 od10 an10 od11 an11 od12 an12 od13 an13 od14 an14 od15 an15 od16 an16 od17 an17 od18 an18 od19 an19 od20 an20 : Option Addr}
    {sl0 sl1 sl2 sl3 sl4 sl5 sl6 sl7 sl8 sl9 sl10 sl11 sl12 sl13 sl14 sl15 sl16 sl17 sl18 sl19 sl20 : Array (Option Value)}
    {oc0 kV0 dc0 pm0 cd0 ct0 oc1 kV1 dc1 pm1 cd1 ct1 oc2 kV2 dc2 pm2 cd2 ct2 oc3 kV3 dc3 pm3 cd3 ct3 oc4 kV4 dc4 pm4 cd4 ct4 oc5 kV5 dc5 pm5 cd5 ct5 oc6 kV6 dc6 pm6 cd6 ct6 oc7 kV7 dc7 pm7 cd7 ct7 oc8 kV8 dc8 pm8 cd8 ct8 oc9 kV9 dc9 pm9 cd9 ct9 oc10 kV10 dc10 pm10 cd10 ct10 oc11 kV11 dc11 pm11 cd11 ct11 oc12 kV12 dc12 pm12 cd12 ct12 oc13 kV13 dc13 pm13 cd13 ct13 oc14 kV14 dc14 pm14 cd14 ct14 oc15 kV15 dc15 pm15 cd15 ct15 oc16 kV16 dc16 pm16 cd16 ct16 oc17 kV17 dc17 pm17 cd17 ct17 oc18 kV18 dc18 pm18 cd18 ct18 oc19 kV19 dc19 pm19 cd19 ct19 oc20 kV20 dc20 pm20 cd20 ct20 : Value}
    (a0 : PySem.W.nsIn K mainGlobals "_law_pen" = some (some (.ref f0))) (l0 : K.lookup f0 = some ⟨oc0, od0, .func (PySem.W.fnOf "_law_pen" "_law_pen" (defArgs s__law_pen) (defBody s__law_pen) (defScope s__law_pen) .none kV0 dc0 pm0 an0 cd0 ct0), sl0⟩) (c0 : PySem.W.codeIn K cd0 "_law_pen" = true) (k0 : PySem.W.keepIn K (.ref f0) = true)
    (a1 : PySem.W.nsIn K mainGlobals "_law_draw" = some (some (.ref f1))) (l1 : K.lookup f1 = some ⟨oc1, od1, .func (PySem.W.fnOf "_law_draw" "_law_draw" (defArgs s__law_draw) (defBody s__law_draw) (defScope s__law_draw) .none kV1 dc1 pm1 an1 cd1 ct1), sl1⟩) (c1 : PySem.W.codeIn K cd1 "_law_draw" = true) (k1 : PySem.W.keepIn K (.ref f1) = true)
    (a2 : PySem.W.nsIn K mainGlobals "_law_pick" = some (some (.ref f2))) (l2 : K.lookup f2 = some ⟨oc2, od2, .func (PySem.W.fnOf "_law_pick" "_law_pick" (defArgs s__law_pick) (defBody s__law_pick) (defScope s__law_pick) .none kV2 dc2 pm2 an2 cd2 ct2), sl2⟩) (c2 : PySem.W.codeIn K cd2 "_law_pick" = true) (k2 : PySem.W.keepIn K (.ref f2) = true)
    (a3 : PySem.W.nsIn K mainGlobals "made_at" = some (some (.ref f3))) (l3 : K.lookup f3 = some ⟨oc3, od3, .func (PySem.W.fnOf "made_at" "made_at" (defArgs s_made_at) (defBody s_made_at) (defScope s_made_at) .none kV3 dc3 pm3 an3 cd3 ct3), sl3⟩) (c3 : PySem.W.codeIn K cd3 "made_at" = true) (k3 : PySem.W.keepIn K (.ref f3) = true)
    (a4 : PySem.W.nsIn K mainGlobals "exchanged" = some (some (.ref f4))) (l4 : K.lookup f4 = some ⟨oc4, od4, .func (PySem.W.fnOf "exchanged" "exchanged" (defArgs s_exchanged) (defBody s_exchanged) (defScope s_exchanged) .none kV4 dc4 pm4 an4 cd4 ct4), sl4⟩) (c4 : PySem.W.codeIn K cd4 "exchanged" = true) (k4 : PySem.W.keepIn K (.ref f4) = true)
    (a5 : PySem.W.nsIn K mainGlobals "led" = some (some (.ref f5))) (l5 : K.lookup f5 = some ⟨oc5, od5, .func (PySem.W.fnOf "led" "led" (defArgs s_led) (defBody s_led) (defScope s_led) .none kV5 dc5 pm5 an5 cd5 ct5), sl5⟩) (c5 : PySem.W.codeIn K cd5 "led" = true) (k5 : PySem.W.keepIn K (.ref f5) = true)
    (a6 : PySem.W.nsIn K mainGlobals "doubled" = some (some (.ref f6))) (l6 : K.lookup f6 = some ⟨oc6, od6, .func (PySem.W.fnOf "doubled" "doubled" (defArgs s_doubled) (defBody s_doubled) (defScope s_doubled) .none kV6 dc6 pm6 an6 cd6 ct6), sl6⟩) (c6 : PySem.W.codeIn K cd6 "doubled" = true) (k6 : PySem.W.keepIn K (.ref f6) = true)
    (a7 : PySem.W.nsIn K mainGlobals "_law_doubled_stages" = some (some (.ref f7))) (l7 : K.lookup f7 = some ⟨oc7, od7, .func (PySem.W.fnOf "_law_doubled_stages" "_law_doubled_stages" (defArgs s__law_doubled_stages) (defBody s__law_doubled_stages) (defScope s__law_doubled_stages) .none kV7 dc7 pm7 an7 cd7 ct7), sl7⟩) (c7 : PySem.W.codeIn K cd7 "_law_doubled_stages" = true) (k7 : PySem.W.keepIn K (.ref f7) = true)
    (a8 : PySem.W.nsIn K mainGlobals "_law_own_exchanged" = some (some (.ref f8))) (l8 : K.lookup f8 = some ⟨oc8, od8, .func (PySem.W.fnOf "_law_own_exchanged" "_law_own_exchanged" (defArgs s__law_own_exchanged) (defBody s__law_own_exchanged) (defScope s__law_own_exchanged) .none kV8 dc8 pm8 an8 cd8 ct8), sl8⟩) (c8 : PySem.W.codeIn K cd8 "_law_own_exchanged" = true) (k8 : PySem.W.keepIn K (.ref f8) = true)
    (a9 : PySem.W.nsIn K mainGlobals "_law_led_stages" = some (some (.ref f9))) (l9 : K.lookup f9 = some ⟨oc9, od9, .func (PySem.W.fnOf "_law_led_stages" "_law_led_stages" (defArgs s__law_led_stages) (defBody s__law_led_stages) (defScope s__law_led_stages) .none kV9 dc9 pm9 an9 cd9 ct9), sl9⟩) (c9 : PySem.W.codeIn K cd9 "_law_led_stages" = true) (k9 : PySem.W.keepIn K (.ref f9) = true)
    (a10 : PySem.W.nsIn K mainGlobals "_law_made_stages" = some (some (.ref f10))) (l10 : K.lookup f10 = some ⟨oc10, od10, .func (PySem.W.fnOf "_law_made_stages" "_law_made_stages" (defArgs s__law_made_stages) (defBody s__law_made_stages) (defScope s__law_made_stages) .none kV10 dc10 pm10 an10 cd10 ct10), sl10⟩) (c10 : PySem.W.codeIn K cd10 "_law_made_stages" = true) (k10 : PySem.W.keepIn K (.ref f10) = true)
    (a11 : PySem.W.nsIn K mainGlobals "_law_is_whole" = some (some (.ref f11))) (l11 : K.lookup f11 = some ⟨oc11, od11, .func (PySem.W.fnOf "_law_is_whole" "_law_is_whole" (defArgs s__law_is_whole) (defBody s__law_is_whole) (defScope s__law_is_whole) .none kV11 dc11 pm11 an11 cd11 ct11), sl11⟩) (c11 : PySem.W.codeIn K cd11 "_law_is_whole" = true) (k11 : PySem.W.keepIn K (.ref f11) = true)
    (a12 : PySem.W.nsIn K mainGlobals "_law_rows_of" = some (some (.ref f12))) (l12 : K.lookup f12 = some ⟨oc12, od12, .func (PySem.W.fnOf "_law_rows_of" "_law_rows_of" (defArgs s__law_rows_of) (defBody s__law_rows_of) (defScope s__law_rows_of) .none kV12 dc12 pm12 an12 cd12 ct12), sl12⟩) (c12 : PySem.W.codeIn K cd12 "_law_rows_of" = true) (k12 : PySem.W.keepIn K (.ref f12) = true)
    (a13 : PySem.W.nsIn K mainGlobals "_law_are_stages" = some (some (.ref f13))) (l13 : K.lookup f13 = some ⟨oc13, od13, .func (PySem.W.fnOf "_law_are_stages" "_law_are_stages" (defArgs s__law_are_stages) (defBody s__law_are_stages) (defScope s__law_are_stages) .none kV13 dc13 pm13 an13 cd13 ct13), sl13⟩) (c13 : PySem.W.codeIn K cd13 "_law_are_stages" = true) (k13 : PySem.W.keepIn K (.ref f13) = true)
    (a14 : PySem.W.nsIn K mainGlobals "_law_bit_rows" = some (some (.ref f14))) (l14 : K.lookup f14 = some ⟨oc14, od14, .func (PySem.W.fnOf "_law_bit_rows" "_law_bit_rows" (defArgs s__law_bit_rows) (defBody s__law_bit_rows) (defScope s__law_bit_rows) .none kV14 dc14 pm14 an14 cd14 ct14), sl14⟩) (c14 : PySem.W.codeIn K cd14 "_law_bit_rows" = true) (k14 : PySem.W.keepIn K (.ref f14) = true)
    (a15 : PySem.W.nsIn K mainGlobals "_law_gate" = some (some (.ref f15))) (l15 : K.lookup f15 = some ⟨oc15, od15, .func (PySem.W.fnOf "_law_gate" "_law_gate" (defArgs s__law_gate) (defBody s__law_gate) (defScope s__law_gate) .none kV15 dc15 pm15 an15 cd15 ct15), sl15⟩) (c15 : PySem.W.codeIn K cd15 "_law_gate" = true) (k15 : PySem.W.keepIn K (.ref f15) = true)
    (a16 : PySem.W.nsIn K mainGlobals "_law_stage_behind" = some (some (.ref f16))) (l16 : K.lookup f16 = some ⟨oc16, od16, .func (PySem.W.fnOf "_law_stage_behind" "_law_stage_behind" (defArgs s__law_stage_behind) (defBody s__law_stage_behind) (defScope s__law_stage_behind) .none kV16 dc16 pm16 an16 cd16 ct16), sl16⟩) (c16 : PySem.W.codeIn K cd16 "_law_stage_behind" = true) (k16 : PySem.W.keepIn K (.ref f16) = true)
    (a17 : PySem.W.nsIn K mainGlobals "_law_passed" = some (some (.ref f17))) (l17 : K.lookup f17 = some ⟨oc17, od17, .func (PySem.W.fnOf "_law_passed" "_law_passed" (defArgs s__law_passed) (defBody s__law_passed) (defScope s__law_passed) .none kV17 dc17 pm17 an17 cd17 ct17), sl17⟩) (c17 : PySem.W.codeIn K cd17 "_law_passed" = true) (k17 : PySem.W.keepIn K (.ref f17) = true)
    (a18 : PySem.W.nsIn K mainGlobals "_law_slot_bits" = some (some (.ref f18))) (l18 : K.lookup f18 = some ⟨oc18, od18, .func (PySem.W.fnOf "_law_slot_bits" "_law_slot_bits" (defArgs s__law_slot_bits) (defBody s__law_slot_bits) (defScope s__law_slot_bits) .none kV18 dc18 pm18 an18 cd18 ct18), sl18⟩) (c18 : PySem.W.codeIn K cd18 "_law_slot_bits" = true) (k18 : PySem.W.keepIn K (.ref f18) = true)
    (a19 : PySem.W.nsIn K mainGlobals "_law_leads" = some (some (.ref f19))) (l19 : K.lookup f19 = some ⟨oc19, od19, .func (PySem.W.fnOf "_law_leads" "_law_leads" (defArgs s__law_leads) (defBody s__law_leads) (defScope s__law_leads) .none kV19 dc19 pm19 an19 cd19 ct19), sl19⟩) (c19 : PySem.W.codeIn K cd19 "_law_leads" = true) (k19 : PySem.W.keepIn K (.ref f19) = true)
    (a20 : PySem.W.nsIn K mainGlobals "law" = some (some (.ref f20))) (l20 : K.lookup f20 = some ⟨oc20, od20, .func (PySem.W.fnOf "law" "law" (defArgs s_law) (defBody s_law) (defScope s_law) .none kV20 dc20 pm20 an20 cd20 ct20), sl20⟩) (c20 : PySem.W.codeIn K cd20 "law" = true) (k20 : PySem.W.keepIn K (.ref f20) = true)
    (z_int : PySem.W.nsIn K mainGlobals "int" = some none)
    (z_list : PySem.W.nsIn K mainGlobals "list" = some none)
    (z_len : PySem.W.nsIn K mainGlobals "len" = some none)
    (z_range : PySem.W.nsIn K mainGlobals "range" = some none)
    (z_tuple : PySem.W.nsIn K mainGlobals "tuple" = some none)
    (z_min : PySem.W.nsIn K mainGlobals "min" = some none)
    (z_abs : PySem.W.nsIn K mainGlobals "abs" = some none)
    (z_isinstance : PySem.W.nsIn K mainGlobals "isinstance" = some none)
    (z_bool : PySem.W.nsIn K mainGlobals "bool" = some none)
    (z_max : PySem.W.nsIn K mainGlobals "max" = some none) :
    ∃ fd : FuncData, (∀ (s : Shared) (v : Value), BindsTo s fd ⟨[v], []⟩ [("_law_script", v)]) ∧ ∀ base : Heap, K.In base → base.Ns mainGlobals mg → FnOk l.prog w K mg base (L2.CX l.prog w) 6 fa fd ["_law_script"] (spM ⟨l.prog, w, K⟩ 1 F_law) := by
  have e := hfa.symm.trans (PySem.W.mg_of X G a20)
  cases e
  have z_int := PySem.W.mg_none_of X G z_int
  have z_list := PySem.W.mg_none_of X G z_list
  have z_len := PySem.W.mg_none_of X G z_len
  have z_range := PySem.W.mg_none_of X G z_range
  have z_tuple := PySem.W.mg_none_of X G z_tuple
  have z_min := PySem.W.mg_none_of X G z_min
  have z_abs := PySem.W.mg_none_of X G z_abs
  have z_isinstance := PySem.W.mg_none_of X G z_isinstance
  have z_bool := PySem.W.mg_none_of X G z_bool
  have z_max := PySem.W.mg_none_of X G z_max
  refine ⟨PySem.W.fnOf "law" "law" (defArgs s_law) (defBody s_law) (defScope s_law) .none kV20 dc20 pm20 an20 cd20 ct20, fun s v => .of_eq rfl, fun base _ _ => ?_⟩
  have F__law_pen := ok__law_pen (P := l.prog) (w := w) (base := base) (fun_mk (st := s__law_pen) l0 c0 k0) (PySem.W.mg_of X G a0) z_int z_list
  have F__law_draw := ok__law_draw (P := l.prog) (w := w) (base := base) (fun_mk (st := s__law_draw) l1 c1 k1) (PySem.W.mg_of X G a1) z_len z_int
  have F__law_pick := ok__law_pick (P := l.prog) (w := w) (base := base) (fun_mk (st := s__law_pick) l2 c2 k2) (PySem.W.mg_of X G a2) F__law_draw z_len
  have F_made_at := ok_made_at (P := l.prog) (w := w) (base := base) (fun_mk (st := s_made_at) l3 c3 k3) (PySem.W.mg_of X G a3) z_range z_tuple
  have F_exchanged := ok_exchanged (P := l.prog) (w := w) (base := base) (fun_mk (st := s_exchanged) l4 c4 k4) (PySem.W.mg_of X G a4) z_range z_tuple
  have F_led := ok_led (P := l.prog) (w := w) (base := base) (fun_mk (st := s_led) l5 c5 k5) (PySem.W.mg_of X G a5) F_exchanged z_min
  have F_doubled := ok_doubled (P := l.prog) (w := w) (base := base) (fun_mk (st := s_doubled) l6 c6 k6) (PySem.W.mg_of X G a6) z_range z_tuple
  have F__law_doubled_stages := ok__law_doubled_stages (P := l.prog) (w := w) (base := base) (fun_mk (st := s__law_doubled_stages) l7 c7 k7) (PySem.W.mg_of X G a7) z_range z_tuple
  have F__law_own_exchanged := ok__law_own_exchanged (P := l.prog) (w := w) (base := base) (fun_mk (st := s__law_own_exchanged) l8 c8 k8) (PySem.W.mg_of X G a8) z_range z_tuple
  have F__law_led_stages := ok__law_led_stages (P := l.prog) (w := w) (base := base) (fun_mk (st := s__law_led_stages) l9 c9 k9) (PySem.W.mg_of X G a9) F__law_own_exchanged z_range z_abs z_min
  have F__law_made_stages := ok__law_made_stages (P := l.prog) (w := w) (base := base) (fun_mk (st := s__law_made_stages) l10 c10 k10) (PySem.W.mg_of X G a10) z_range z_tuple
  have F__law_is_whole := ok__law_is_whole (P := l.prog) (w := w) (base := base) (fun_mk (st := s__law_is_whole) l11 c11 k11) (PySem.W.mg_of X G a11) z_int z_isinstance z_bool
  have F__law_rows_of := ok__law_rows_of (P := l.prog) (w := w) (base := base) (fun_mk (st := s__law_rows_of) l12 c12 k12) (PySem.W.mg_of X G a12)
  have F__law_are_stages := ok__law_are_stages (P := l.prog) (w := w) (base := base) (fun_mk (st := s__law_are_stages) l13 c13 k13) (PySem.W.mg_of X G a13) F__law_is_whole F__law_rows_of z_tuple z_isinstance z_len
  have F__law_bit_rows := ok__law_bit_rows (P := l.prog) (w := w) (base := base) (fun_mk (st := s__law_bit_rows) l14 c14 k14) (PySem.W.mg_of X G a14) z_range
  have F__law_gate := ok__law_gate (P := l.prog) (w := w) (base := base) (fun_mk (st := s__law_gate) l15 c15 k15) (PySem.W.mg_of X G a15) z_max z_int
  have F__law_stage_behind := ok__law_stage_behind (P := l.prog) (w := w) (base := base) (fun_mk (st := s__law_stage_behind) l16 c16 k16) (PySem.W.mg_of X G a16) F__law_gate z_len
  have F__law_passed := ok__law_passed (P := l.prog) (w := w) (base := base) (fun_mk (st := s__law_passed) l17 c17 k17) (PySem.W.mg_of X G a17) F__law_stage_behind z_list
  have F__law_slot_bits := ok__law_slot_bits (P := l.prog) (w := w) (base := base) (fun_mk (st := s__law_slot_bits) l18 c18 k18) (PySem.W.mg_of X G a18) z_len z_range
  have F__law_leads := ok__law_leads (P := l.prog) (w := w) (base := base) (fun_mk (st := s__law_leads) l19 c19 k19) (PySem.W.mg_of X G a19) F__law_passed F__law_slot_bits
  exact fk_law (fun_mk (st := s_law) l20 c20 k20) F__law_pen F__law_draw F__law_pick F_made_at F_led F_exchanged F_doubled F__law_doubled_stages F__law_own_exchanged F__law_led_stages F__law_made_stages F__law_are_stages F__law_bit_rows F__law_leads F__law_gate z_range z_list
end K21

set_option Elab.async false
set_option linter.all false
set_option maxRecDepth 100000
set_option maxHeartbeats 4000000
namespace K21
open PySem PySem.Spec PyProof.Rows L2 Mz
theorem sh_one : SeqAt.shaped (.str ("one" : Str)) = true := by decide +kernel
theorem sn_one_not : (("one" : Str) = "not") = False := eq_false (by decide +kernel)
theorem sn_one_and : (("one" : Str) = "and") = False := eq_false (by decide +kernel)
theorem sn_one_or : (("one" : Str) = "or") = False := eq_false (by decide +kernel)
theorem sn_one_xor : (("one" : Str) = "xor") = False := eq_false (by decide +kernel)
theorem sn_one_but : (("one" : Str) = "but") = False := eq_false (by decide +kernel)
theorem sn_one_wire : (("one" : Str) = "wire") = False := eq_false (by decide +kernel)
theorem sn_one_up : (("one" : Str) = "up") = False := eq_false (by decide +kernel)
theorem sn_one_down : (("one" : Str) = "down") = False := eq_false (by decide +kernel)
theorem sn_one_copy : (("one" : Str) = "copy") = False := eq_false (by decide +kernel)
theorem sh_not : SeqAt.shaped (.str ("not" : Str)) = true := by decide +kernel
theorem sn_not_one : (("not" : Str) = "one") = False := eq_false (by decide +kernel)
theorem sn_not_and : (("not" : Str) = "and") = False := eq_false (by decide +kernel)
theorem sn_not_or : (("not" : Str) = "or") = False := eq_false (by decide +kernel)
theorem sn_not_xor : (("not" : Str) = "xor") = False := eq_false (by decide +kernel)
theorem sn_not_but : (("not" : Str) = "but") = False := eq_false (by decide +kernel)
theorem sn_not_wire : (("not" : Str) = "wire") = False := eq_false (by decide +kernel)
theorem sn_not_up : (("not" : Str) = "up") = False := eq_false (by decide +kernel)
theorem sn_not_down : (("not" : Str) = "down") = False := eq_false (by decide +kernel)
theorem sn_not_copy : (("not" : Str) = "copy") = False := eq_false (by decide +kernel)
theorem sh_and : SeqAt.shaped (.str ("and" : Str)) = true := by decide +kernel
theorem sn_and_one : (("and" : Str) = "one") = False := eq_false (by decide +kernel)
theorem sn_and_not : (("and" : Str) = "not") = False := eq_false (by decide +kernel)
theorem sn_and_or : (("and" : Str) = "or") = False := eq_false (by decide +kernel)
theorem sn_and_xor : (("and" : Str) = "xor") = False := eq_false (by decide +kernel)
theorem sn_and_but : (("and" : Str) = "but") = False := eq_false (by decide +kernel)
theorem sn_and_wire : (("and" : Str) = "wire") = False := eq_false (by decide +kernel)
theorem sn_and_up : (("and" : Str) = "up") = False := eq_false (by decide +kernel)
theorem sn_and_down : (("and" : Str) = "down") = False := eq_false (by decide +kernel)
theorem sn_and_copy : (("and" : Str) = "copy") = False := eq_false (by decide +kernel)
theorem sh_or : SeqAt.shaped (.str ("or" : Str)) = true := by decide +kernel
theorem sn_or_one : (("or" : Str) = "one") = False := eq_false (by decide +kernel)
theorem sn_or_not : (("or" : Str) = "not") = False := eq_false (by decide +kernel)
theorem sn_or_and : (("or" : Str) = "and") = False := eq_false (by decide +kernel)
theorem sn_or_xor : (("or" : Str) = "xor") = False := eq_false (by decide +kernel)
theorem sn_or_but : (("or" : Str) = "but") = False := eq_false (by decide +kernel)
theorem sn_or_wire : (("or" : Str) = "wire") = False := eq_false (by decide +kernel)
theorem sn_or_up : (("or" : Str) = "up") = False := eq_false (by decide +kernel)
theorem sn_or_down : (("or" : Str) = "down") = False := eq_false (by decide +kernel)
theorem sn_or_copy : (("or" : Str) = "copy") = False := eq_false (by decide +kernel)
theorem sh_xor : SeqAt.shaped (.str ("xor" : Str)) = true := by decide +kernel
theorem sn_xor_one : (("xor" : Str) = "one") = False := eq_false (by decide +kernel)
theorem sn_xor_not : (("xor" : Str) = "not") = False := eq_false (by decide +kernel)
theorem sn_xor_and : (("xor" : Str) = "and") = False := eq_false (by decide +kernel)
theorem sn_xor_or : (("xor" : Str) = "or") = False := eq_false (by decide +kernel)
theorem sn_xor_but : (("xor" : Str) = "but") = False := eq_false (by decide +kernel)
theorem sn_xor_wire : (("xor" : Str) = "wire") = False := eq_false (by decide +kernel)
theorem sn_xor_up : (("xor" : Str) = "up") = False := eq_false (by decide +kernel)
theorem sn_xor_down : (("xor" : Str) = "down") = False := eq_false (by decide +kernel)
theorem sn_xor_copy : (("xor" : Str) = "copy") = False := eq_false (by decide +kernel)
theorem sh_but : SeqAt.shaped (.str ("but" : Str)) = true := by decide +kernel
theorem sn_but_one : (("but" : Str) = "one") = False := eq_false (by decide +kernel)
theorem sn_but_not : (("but" : Str) = "not") = False := eq_false (by decide +kernel)
theorem sn_but_and : (("but" : Str) = "and") = False := eq_false (by decide +kernel)
theorem sn_but_or : (("but" : Str) = "or") = False := eq_false (by decide +kernel)
theorem sn_but_xor : (("but" : Str) = "xor") = False := eq_false (by decide +kernel)
theorem sn_but_wire : (("but" : Str) = "wire") = False := eq_false (by decide +kernel)
theorem sn_but_up : (("but" : Str) = "up") = False := eq_false (by decide +kernel)
theorem sn_but_down : (("but" : Str) = "down") = False := eq_false (by decide +kernel)
theorem sn_but_copy : (("but" : Str) = "copy") = False := eq_false (by decide +kernel)
theorem sh_wire : SeqAt.shaped (.str ("wire" : Str)) = true := by decide +kernel
theorem sn_wire_one : (("wire" : Str) = "one") = False := eq_false (by decide +kernel)
theorem sn_wire_not : (("wire" : Str) = "not") = False := eq_false (by decide +kernel)
theorem sn_wire_and : (("wire" : Str) = "and") = False := eq_false (by decide +kernel)
theorem sn_wire_or : (("wire" : Str) = "or") = False := eq_false (by decide +kernel)
theorem sn_wire_xor : (("wire" : Str) = "xor") = False := eq_false (by decide +kernel)
theorem sn_wire_but : (("wire" : Str) = "but") = False := eq_false (by decide +kernel)
theorem sn_wire_up : (("wire" : Str) = "up") = False := eq_false (by decide +kernel)
theorem sn_wire_down : (("wire" : Str) = "down") = False := eq_false (by decide +kernel)
theorem sn_wire_copy : (("wire" : Str) = "copy") = False := eq_false (by decide +kernel)
theorem sh_up : SeqAt.shaped (.str ("up" : Str)) = true := by decide +kernel
theorem sn_up_one : (("up" : Str) = "one") = False := eq_false (by decide +kernel)
theorem sn_up_not : (("up" : Str) = "not") = False := eq_false (by decide +kernel)
theorem sn_up_and : (("up" : Str) = "and") = False := eq_false (by decide +kernel)
theorem sn_up_or : (("up" : Str) = "or") = False := eq_false (by decide +kernel)
theorem sn_up_xor : (("up" : Str) = "xor") = False := eq_false (by decide +kernel)
theorem sn_up_but : (("up" : Str) = "but") = False := eq_false (by decide +kernel)
theorem sn_up_wire : (("up" : Str) = "wire") = False := eq_false (by decide +kernel)
theorem sn_up_down : (("up" : Str) = "down") = False := eq_false (by decide +kernel)
theorem sn_up_copy : (("up" : Str) = "copy") = False := eq_false (by decide +kernel)
theorem sh_down : SeqAt.shaped (.str ("down" : Str)) = true := by decide +kernel
theorem sn_down_one : (("down" : Str) = "one") = False := eq_false (by decide +kernel)
theorem sn_down_not : (("down" : Str) = "not") = False := eq_false (by decide +kernel)
theorem sn_down_and : (("down" : Str) = "and") = False := eq_false (by decide +kernel)
theorem sn_down_or : (("down" : Str) = "or") = False := eq_false (by decide +kernel)
theorem sn_down_xor : (("down" : Str) = "xor") = False := eq_false (by decide +kernel)
theorem sn_down_but : (("down" : Str) = "but") = False := eq_false (by decide +kernel)
theorem sn_down_wire : (("down" : Str) = "wire") = False := eq_false (by decide +kernel)
theorem sn_down_up : (("down" : Str) = "up") = False := eq_false (by decide +kernel)
theorem sn_down_copy : (("down" : Str) = "copy") = False := eq_false (by decide +kernel)
theorem sh_copy : SeqAt.shaped (.str ("copy" : Str)) = true := by decide +kernel
theorem sn_copy_one : (("copy" : Str) = "one") = False := eq_false (by decide +kernel)
theorem sn_copy_not : (("copy" : Str) = "not") = False := eq_false (by decide +kernel)
theorem sn_copy_and : (("copy" : Str) = "and") = False := eq_false (by decide +kernel)
theorem sn_copy_or : (("copy" : Str) = "or") = False := eq_false (by decide +kernel)
theorem sn_copy_xor : (("copy" : Str) = "xor") = False := eq_false (by decide +kernel)
theorem sn_copy_but : (("copy" : Str) = "but") = False := eq_false (by decide +kernel)
theorem sn_copy_wire : (("copy" : Str) = "wire") = False := eq_false (by decide +kernel)
theorem sn_copy_up : (("copy" : Str) = "up") = False := eq_false (by decide +kernel)
theorem sn_copy_down : (("copy" : Str) = "down") = False := eq_false (by decide +kernel)
/-! the kinds by number: 0 wire, 1 up, 2 down, 3 copy, 4 or, 5 xor, 6 but -/
def kS : Nat → Str
  | 0 => "wire"
  | 1 => "up"
  | 2 => "down"
  | 3 => "copy"
  | 4 => "or"
  | 5 => "xor"
  | _ => "but"
abbrev bI (b : Bool) : Int := if b then 1 else 0
abbrev bD (b : Bool) : D := .int (bI b)
def gateB (k : Nat) (a b : Bool) : Bool := match k with
  | 4 => a || b
  | 5 => a != b
  | _ => a && !b
theorem gate_ok {k : Nat} (hk : k = 4 ∨ k = 5 ∨ k = 6) {r r2 : Int} {i : Nat} {S : List LO} {xs : List D} {a b : Bool} (hi : S[i]? = some (.lst xs)) (h1 : atI xs r = some (bD a)) (h2 : atI xs r2 = some (bD b)) :
    ∃ g, Run F__law_gate [.tup [.str (kS k), .int r, .int r2], .ref i] S (bD (gateB k a b)) (S ++ g) := by
  have ixr : ∀ (e : List (Option D)) (g : List LO), ixD (.ref i) (.int r) ⟨e, S ++ g⟩ = .ret (bD a) ⟨e, S ++ g⟩ := fun e g => ix_lst (at_old hi) h1
  have ixr2 : ∀ (e : List (Option D)) (g : List LO), ixD (.ref i) (.int r2) ⟨e, S ++ g⟩ = .ret (bD b) ⟨e, S ++ g⟩ := fun e g => ix_lst (at_old hi) h2
  have ixn := fun e => ixr e []
  have ixn2 := fun e => ixr2 e []
  simp only [List.append_nil] at ixn ixn2
  rcases hk with rfl | rfl | rfl <;> cases a <;> cases b <;>
  · refine run_ex rfl ?_
    unfold m__law_gate startE
    simp only [bind_ret, sx_seq, kSeq_nx, kSeq_rt, kSeq_bk, kSeq_ct, sx_next, sx_break, sx_cont, sx_drop, kDrop_, sx_retS, kRetS_, sx_if, kIf_t, kIf_f, sx_asg, kAsg_, kNx_, sx_nm, sx_var, kVar_, sx_ret, sx_op, kOp1_, kOp2_, sx_un, kUn_, sx_nil, sx_cons, kCons1_, kCons2_, sx_tup, sx_lst, kTup_, kLst_, sx_fn, kFn_, sx_call, sx_bool, kBool_, sx_tru, kTru_bl, sx_and, sx_or, sx_not, kAnd_t, kAnd_f, kOr_t, kOr_f, kNot_, sx_andV, sx_orV, sx_notV, kAndV_t, kAndV_f, kOrV_t, kOrV_f, kNotV_, sx_ifE, kIfE_t, kIfE_f, sx_chain, kCh1_, kCh2_, kCh3_t, kCh3_f, sx_gNil, sx_gCons, kG_, sx_gTup, gT_nm, gT_tup, gTs_nil, gTs_cons, sx_gSub, kSub1_, kSub2_, sx_par, kPar_, sx_par3, kPar3_, sx_it, kIt_tup, sx_rg1, sx_rg2, sx_for, kFor_rg, kFor_tp, sx_loopT, sx_loopT0, sx_loopR0, kGo_, kTurn_nx, kTurn_ct, kTurn_bk, kTurn_rt, sx_noPart, sx_part, kPart_, sx_sl, kSl1_, kSl2_, kSl3_, sx_lc, sx_pairs0, sx_pairs, kP1_, kP2_, kP3_, sx_dict, eqD_int, neD_int, addD_int, subD_int, ltD_int, leD_int, gtD_int, geD_int, intD_int, intD_bl, ix_t0, ix_t1, ix_t2, ix_t3, lenD_tup, tupleD_tup, listD_tup, List.getElem?_cons_zero, List.getElem?_cons_succ, List.set_cons_zero, List.set_cons_succ, List.length_cons, List.length_nil, Nat.zero_add, Nat.reduceAdd, Nat.reduceSub, Nat.reduceMul, decide_true, decide_false, Bool.not_true, Bool.not_false, Int.reduceMul, Int.reduceAdd, Int.reduceSub, Int.reduceNeg, Int.reduceLT, Int.reduceLE, Int.reducePow, Int.reduceEq, Int.reduceNe, Nat.reduceLeDiff, Nat.reduceLT, Bool.and_true, Bool.true_and, Bool.and_self, ↓reduceIte, Bool.false_eq_true, sx_mt, kMt1_, kMt2_, sx_isL, kIsL_ref, kIsL2_, absD_int, minD_int, maxD_int, negD_int, isi_tup_tuple, isi_int_int, isi_int_bool, kWh_t, kWh_f, nc1, nc2, nc3, nc4, nc5, nc6, nc7, nc8, nc9, nc10, nc11, nc12, nc13, nc14, nc15, nc16, mulD_int, mulD_intL, kRg1_, kRg2_, i62_eq, i63_eq, i64_eq, LIM, List.length_append, at_k, at_k0, set_k, set_k0, kDict_eq, kDict2_, keyP_str, keyP_int, allO_nil, allO_c, kAll_, mO_some, ixD_ref, kIx_lst, kIx_dK, kIx_dT, kIt_ref, kItr_, kFor_ref, kLoopL_, lenD_ref, kLen_lst, kLen_dK, kLen_dT, tupleD_ref, kTuple_, listD_ref, kList_, setD_ref, kSet_lst, kSetL_, kSet_dK, kSetK_, kSet_dT, kSetT_, appendD_ref, kApp_, addD_ref, kAddL_, mulD_ref, kMulL_, slD_ref, kSlice_, slD_tup, maxD_ref, minD_ref, kOnInts_, Option.bind_some, Option.map_some, maxOf, minOf, List.foldl_cons, List.foldl_nil, mergeD, putD, valD, List.any_cons, List.any_nil, Sum.inr.injEq, Sum.inl.injEq, Bool.or_false, Bool.false_or, Bool.or_true, List.find?_cons, List.find?_nil, keyK_str, keyK_int, intK_int, List.map_cons, List.map_nil, List.cons_append, List.nil_append, List.replicate, List.append_assoc, eqD_str, neD_str, sh_one, sh_not, sh_and, sh_or, sh_xor, sh_but, sh_wire, sh_up, sh_down, sh_copy, sn_one_not, sn_one_and, sn_one_or, sn_one_xor, sn_one_but, sn_one_wire, sn_one_up, sn_one_down, sn_one_copy, sn_not_one, sn_not_and, sn_not_or, sn_not_xor, sn_not_but, sn_not_wire, sn_not_up, sn_not_down, sn_not_copy, sn_and_one, sn_and_not, sn_and_or, sn_and_xor, sn_and_but, sn_and_wire, sn_and_up, sn_and_down, sn_and_copy, sn_or_one, sn_or_not, sn_or_and, sn_or_xor, sn_or_but, sn_or_wire, sn_or_up, sn_or_down, sn_or_copy, sn_xor_one, sn_xor_not, sn_xor_and, sn_xor_or, sn_xor_but, sn_xor_wire, sn_xor_up, sn_xor_down, sn_xor_copy, sn_but_one, sn_but_not, sn_but_and, sn_but_or, sn_but_xor, sn_but_wire, sn_but_up, sn_but_down, sn_but_copy, sn_wire_one, sn_wire_not, sn_wire_and, sn_wire_or, sn_wire_xor, sn_wire_but, sn_wire_up, sn_wire_down, sn_wire_copy, sn_up_one, sn_up_not, sn_up_and, sn_up_or, sn_up_xor, sn_up_but, sn_up_wire, sn_up_down, sn_up_copy, sn_down_one, sn_down_not, sn_down_and, sn_down_or, sn_down_xor, sn_down_but, sn_down_wire, sn_down_up, sn_down_copy, sn_copy_one, sn_copy_not, sn_copy_and, sn_copy_or, sn_copy_xor, sn_copy_but, sn_copy_wire, sn_copy_up, sn_copy_down, kS, ixr, ixr2, ixn, ixn2, bD, bI]
    exact ⟨_, _, rfl⟩
abbrev Tile := Nat × Nat
def tD (t : Tile) : D := .tup [.str (kS t.1), .int (t.2 : Int)]
def bit (bs : List Bool) (r : Nat) : Bool := bs.getD r false
def tileB (bs fs : List Bool) (t : Tile) : List Bool := match t.1 with
  | 0 => fs.set t.2 (bit bs t.2)
  | 1 => fs.set (t.2 - 1) (bit bs t.2)
  | 2 => fs.set (t.2 + 1) (bit bs t.2)
  | 3 => (fs.set t.2 (bit bs t.2)).set (t.2 + 1) (bit bs t.2)
  | k => fs.set t.2 (gateB k (bit bs t.2) (bit bs (t.2 + 1)))
def okTile (n : Nat) (t : Tile) : Bool := match t.1 with
  | 0 => decide (t.2 < n)
  | 1 => decide (1 ≤ t.2) && decide (t.2 < n)
  | 2 => decide (t.2 + 1 < n)
  | 3 => decide (t.2 + 1 < n)
  | 4 => decide (t.2 + 1 < n)
  | 5 => decide (t.2 + 1 < n)
  | 6 => decide (t.2 + 1 < n)
  | _ => false
theorem bit_at {bs : List Bool} {r : Nat} (h : r < bs.length) : atI (bs.map bD) (r : Int) = some (bD (bit bs r)) := by
  refine atI_of ?_
  rw [List.getElem?_map]
  unfold bit
  simp [h]
theorem bit_at1 {bs : List Bool} {r : Nat} (h : r + 1 < bs.length) : atI (bs.map bD) ((r : Int) + 1) = some (bD (bit bs (r + 1))) := bit_at h
theorem tile_ok {T : D} {i : Nat} {S g : List LO} {bs fs : List Bool} {t : Tile} (hi : S[i]? = some (.lst (bs.map bD))) (ht : okTile bs.length t = true) (hl : fs.length = bs.length) :
    ∃ g', m__law_stage_behind_l1 ⟨[some T, some (.ref i), some (.ref S.length), some (.str (kS t.1)), some (.int (t.2 : Int))], S ++ .lst (fs.map bD) :: g⟩ =
      .ret .nx ⟨[some T, some (.ref i), some (.ref S.length), some (.str (kS t.1)), some (.int (t.2 : Int))], S ++ .lst ((tileB bs fs t).map bD) :: g'⟩ := by
  obtain ⟨k, r⟩ := t
  have hi' : ∀ g : List LO, (S ++ g)[i]? = some (.lst (bs.map bD)) := fun g => at_old hi
  have n0 : r < bs.length → ixN bs.length (r : Int) = some r := fun h => ixN_of h
  have n1 : r + 1 < bs.length → ixN bs.length ((r : Int) + 1) = some (r + 1) := fun h => ixN_of h
  have n2 : 1 ≤ r → r < bs.length → ixN bs.length ((r : Int) - 1) = some (r - 1) := fun h h2 => by
    rw [show (r : Int) - 1 = ((r - 1 : Nat) : Int) by omega]
    exact ixN_of (by omega)
  match k with
  | 0 =>
    have h0 : r < bs.length := by simpa [okTile] using ht
    unfold m__law_stage_behind_l1
    simp only [bind_ret, sx_seq, kSeq_nx, kSeq_rt, kSeq_bk, kSeq_ct, sx_next, sx_break, sx_cont, sx_drop, kDrop_, sx_retS, kRetS_, sx_if, kIf_t, kIf_f, sx_asg, kAsg_, kNx_, sx_nm, sx_var, kVar_, sx_ret, sx_op, kOp1_, kOp2_, sx_un, kUn_, sx_nil, sx_cons, kCons1_, kCons2_, sx_tup, sx_lst, kTup_, kLst_, sx_fn, kFn_, sx_call, sx_bool, kBool_, sx_tru, kTru_bl, sx_and, sx_or, sx_not, kAnd_t, kAnd_f, kOr_t, kOr_f, kNot_, sx_andV, sx_orV, sx_notV, kAndV_t, kAndV_f, kOrV_t, kOrV_f, kNotV_, sx_ifE, kIfE_t, kIfE_f, sx_chain, kCh1_, kCh2_, kCh3_t, kCh3_f, sx_gNil, sx_gCons, kG_, sx_gTup, gT_nm, gT_tup, gTs_nil, gTs_cons, sx_gSub, kSub1_, kSub2_, sx_par, kPar_, sx_par3, kPar3_, sx_it, kIt_tup, sx_rg1, sx_rg2, sx_for, kFor_rg, kFor_tp, sx_loopT, sx_loopT0, sx_loopR0, kGo_, kTurn_nx, kTurn_ct, kTurn_bk, kTurn_rt, sx_noPart, sx_part, kPart_, sx_sl, kSl1_, kSl2_, kSl3_, sx_lc, sx_pairs0, sx_pairs, kP1_, kP2_, kP3_, sx_dict, eqD_int, neD_int, addD_int, subD_int, ltD_int, leD_int, gtD_int, geD_int, intD_int, intD_bl, ix_t0, ix_t1, ix_t2, ix_t3, lenD_tup, tupleD_tup, listD_tup, List.getElem?_cons_zero, List.getElem?_cons_succ, List.set_cons_zero, List.set_cons_succ, List.length_cons, List.length_nil, Nat.zero_add, Nat.reduceAdd, Nat.reduceSub, Nat.reduceMul, decide_true, decide_false, Bool.not_true, Bool.not_false, Int.reduceMul, Int.reduceAdd, Int.reduceSub, Int.reduceNeg, Int.reduceLT, Int.reduceLE, Int.reducePow, Int.reduceEq, Int.reduceNe, Nat.reduceLeDiff, Nat.reduceLT, Bool.and_true, Bool.true_and, Bool.and_self, ↓reduceIte, Bool.false_eq_true, sx_mt, kMt1_, kMt2_, sx_isL, kIsL_ref, kIsL2_, absD_int, minD_int, maxD_int, negD_int, isi_tup_tuple, isi_int_int, isi_int_bool, kWh_t, kWh_f, nc1, nc2, nc3, nc4, nc5, nc6, nc7, nc8, nc9, nc10, nc11, nc12, nc13, nc14, nc15, nc16, mulD_int, mulD_intL, kRg1_, kRg2_, i62_eq, i63_eq, i64_eq, LIM, List.length_append, at_k, at_k0, set_k, set_k0, kDict_eq, kDict2_, keyP_str, keyP_int, allO_nil, allO_c, kAll_, mO_some, ixD_ref, kIx_lst, kIx_dK, kIx_dT, kIt_ref, kItr_, kFor_ref, kLoopL_, lenD_ref, kLen_lst, kLen_dK, kLen_dT, tupleD_ref, kTuple_, listD_ref, kList_, setD_ref, kSet_lst, kSetL_, kSet_dK, kSetK_, kSet_dT, kSetT_, appendD_ref, kApp_, addD_ref, kAddL_, mulD_ref, kMulL_, slD_ref, kSlice_, slD_tup, maxD_ref, minD_ref, kOnInts_, Option.bind_some, Option.map_some, maxOf, minOf, List.foldl_cons, List.foldl_nil, mergeD, putD, valD, List.any_cons, List.any_nil, Sum.inr.injEq, Sum.inl.injEq, Bool.or_false, Bool.false_or, Bool.or_true, List.find?_cons, List.find?_nil, keyK_str, keyK_int, intK_int, List.map_cons, List.map_nil, List.cons_append, List.nil_append, List.replicate, List.append_assoc, eqD_str, neD_str, sh_one, sh_not, sh_and, sh_or, sh_xor, sh_but, sh_wire, sh_up, sh_down, sh_copy, sn_one_not, sn_one_and, sn_one_or, sn_one_xor, sn_one_but, sn_one_wire, sn_one_up, sn_one_down, sn_one_copy, sn_not_one, sn_not_and, sn_not_or, sn_not_xor, sn_not_but, sn_not_wire, sn_not_up, sn_not_down, sn_not_copy, sn_and_one, sn_and_not, sn_and_or, sn_and_xor, sn_and_but, sn_and_wire, sn_and_up, sn_and_down, sn_and_copy, sn_or_one, sn_or_not, sn_or_and, sn_or_xor, sn_or_but, sn_or_wire, sn_or_up, sn_or_down, sn_or_copy, sn_xor_one, sn_xor_not, sn_xor_and, sn_xor_or, sn_xor_but, sn_xor_wire, sn_xor_up, sn_xor_down, sn_xor_copy, sn_but_one, sn_but_not, sn_but_and, sn_but_or, sn_but_xor, sn_but_wire, sn_but_up, sn_but_down, sn_but_copy, sn_wire_one, sn_wire_not, sn_wire_and, sn_wire_or, sn_wire_xor, sn_wire_but, sn_wire_up, sn_wire_down, sn_wire_copy, sn_up_one, sn_up_not, sn_up_and, sn_up_or, sn_up_xor, sn_up_but, sn_up_wire, sn_up_down, sn_up_copy, sn_down_one, sn_down_not, sn_down_and, sn_down_or, sn_down_xor, sn_down_but, sn_down_wire, sn_down_up, sn_down_copy, sn_copy_one, sn_copy_not, sn_copy_and, sn_copy_or, sn_copy_xor, sn_copy_but, sn_copy_wire, sn_copy_up, sn_copy_down, kS, hi', bit_at h0, n0 h0, List.length_map, hl, tileB, ← List.map_set]
    exact ⟨_, rfl⟩
  | 1 =>
    have h0 : 1 ≤ r ∧ r < bs.length := by simpa [okTile] using ht
    unfold m__law_stage_behind_l1
    simp only [bind_ret, sx_seq, kSeq_nx, kSeq_rt, kSeq_bk, kSeq_ct, sx_next, sx_break, sx_cont, sx_drop, kDrop_, sx_retS, kRetS_, sx_if, kIf_t, kIf_f, sx_asg, kAsg_, kNx_, sx_nm, sx_var, kVar_, sx_ret, sx_op, kOp1_, kOp2_, sx_un, kUn_, sx_nil, sx_cons, kCons1_, kCons2_, sx_tup, sx_lst, kTup_, kLst_, sx_fn, kFn_, sx_call, sx_bool, kBool_, sx_tru, kTru_bl, sx_and, sx_or, sx_not, kAnd_t, kAnd_f, kOr_t, kOr_f, kNot_, sx_andV, sx_orV, sx_notV, kAndV_t, kAndV_f, kOrV_t, kOrV_f, kNotV_, sx_ifE, kIfE_t, kIfE_f, sx_chain, kCh1_, kCh2_, kCh3_t, kCh3_f, sx_gNil, sx_gCons, kG_, sx_gTup, gT_nm, gT_tup, gTs_nil, gTs_cons, sx_gSub, kSub1_, kSub2_, sx_par, kPar_, sx_par3, kPar3_, sx_it, kIt_tup, sx_rg1, sx_rg2, sx_for, kFor_rg, kFor_tp, sx_loopT, sx_loopT0, sx_loopR0, kGo_, kTurn_nx, kTurn_ct, kTurn_bk, kTurn_rt, sx_noPart, sx_part, kPart_, sx_sl, kSl1_, kSl2_, kSl3_, sx_lc, sx_pairs0, sx_pairs, kP1_, kP2_, kP3_, sx_dict, eqD_int, neD_int, addD_int, subD_int, ltD_int, leD_int, gtD_int, geD_int, intD_int, intD_bl, ix_t0, ix_t1, ix_t2, ix_t3, lenD_tup, tupleD_tup, listD_tup, List.getElem?_cons_zero, List.getElem?_cons_succ, List.set_cons_zero, List.set_cons_succ, List.length_cons, List.length_nil, Nat.zero_add, Nat.reduceAdd, Nat.reduceSub, Nat.reduceMul, decide_true, decide_false, Bool.not_true, Bool.not_false, Int.reduceMul, Int.reduceAdd, Int.reduceSub, Int.reduceNeg, Int.reduceLT, Int.reduceLE, Int.reducePow, Int.reduceEq, Int.reduceNe, Nat.reduceLeDiff, Nat.reduceLT, Bool.and_true, Bool.true_and, Bool.and_self, ↓reduceIte, Bool.false_eq_true, sx_mt, kMt1_, kMt2_, sx_isL, kIsL_ref, kIsL2_, absD_int, minD_int, maxD_int, negD_int, isi_tup_tuple, isi_int_int, isi_int_bool, kWh_t, kWh_f, nc1, nc2, nc3, nc4, nc5, nc6, nc7, nc8, nc9, nc10, nc11, nc12, nc13, nc14, nc15, nc16, mulD_int, mulD_intL, kRg1_, kRg2_, i62_eq, i63_eq, i64_eq, LIM, List.length_append, at_k, at_k0, set_k, set_k0, kDict_eq, kDict2_, keyP_str, keyP_int, allO_nil, allO_c, kAll_, mO_some, ixD_ref, kIx_lst, kIx_dK, kIx_dT, kIt_ref, kItr_, kFor_ref, kLoopL_, lenD_ref, kLen_lst, kLen_dK, kLen_dT, tupleD_ref, kTuple_, listD_ref, kList_, setD_ref, kSet_lst, kSetL_, kSet_dK, kSetK_, kSet_dT, kSetT_, appendD_ref, kApp_, addD_ref, kAddL_, mulD_ref, kMulL_, slD_ref, kSlice_, slD_tup, maxD_ref, minD_ref, kOnInts_, Option.bind_some, Option.map_some, maxOf, minOf, List.foldl_cons, List.foldl_nil, mergeD, putD, valD, List.any_cons, List.any_nil, Sum.inr.injEq, Sum.inl.injEq, Bool.or_false, Bool.false_or, Bool.or_true, List.find?_cons, List.find?_nil, keyK_str, keyK_int, intK_int, List.map_cons, List.map_nil, List.cons_append, List.nil_append, List.replicate, List.append_assoc, eqD_str, neD_str, sh_one, sh_not, sh_and, sh_or, sh_xor, sh_but, sh_wire, sh_up, sh_down, sh_copy, sn_one_not, sn_one_and, sn_one_or, sn_one_xor, sn_one_but, sn_one_wire, sn_one_up, sn_one_down, sn_one_copy, sn_not_one, sn_not_and, sn_not_or, sn_not_xor, sn_not_but, sn_not_wire, sn_not_up, sn_not_down, sn_not_copy, sn_and_one, sn_and_not, sn_and_or, sn_and_xor, sn_and_but, sn_and_wire, sn_and_up, sn_and_down, sn_and_copy, sn_or_one, sn_or_not, sn_or_and, sn_or_xor, sn_or_but, sn_or_wire, sn_or_up, sn_or_down, sn_or_copy, sn_xor_one, sn_xor_not, sn_xor_and, sn_xor_or, sn_xor_but, sn_xor_wire, sn_xor_up, sn_xor_down, sn_xor_copy, sn_but_one, sn_but_not, sn_but_and, sn_but_or, sn_but_xor, sn_but_wire, sn_but_up, sn_but_down, sn_but_copy, sn_wire_one, sn_wire_not, sn_wire_and, sn_wire_or, sn_wire_xor, sn_wire_but, sn_wire_up, sn_wire_down, sn_wire_copy, sn_up_one, sn_up_not, sn_up_and, sn_up_or, sn_up_xor, sn_up_but, sn_up_wire, sn_up_down, sn_up_copy, sn_down_one, sn_down_not, sn_down_and, sn_down_or, sn_down_xor, sn_down_but, sn_down_wire, sn_down_up, sn_down_copy, sn_copy_one, sn_copy_not, sn_copy_and, sn_copy_or, sn_copy_xor, sn_copy_but, sn_copy_wire, sn_copy_up, sn_copy_down, kS, hi', bit_at h0.2, n2 h0.1 h0.2, List.length_map, hl, tileB, ← List.map_set]
    exact ⟨_, rfl⟩
  | 2 =>
    have h0 : r + 1 < bs.length := by simpa [okTile] using ht
    unfold m__law_stage_behind_l1
    simp only [bind_ret, sx_seq, kSeq_nx, kSeq_rt, kSeq_bk, kSeq_ct, sx_next, sx_break, sx_cont, sx_drop, kDrop_, sx_retS, kRetS_, sx_if, kIf_t, kIf_f, sx_asg, kAsg_, kNx_, sx_nm, sx_var, kVar_, sx_ret, sx_op, kOp1_, kOp2_, sx_un, kUn_, sx_nil, sx_cons, kCons1_, kCons2_, sx_tup, sx_lst, kTup_, kLst_, sx_fn, kFn_, sx_call, sx_bool, kBool_, sx_tru, kTru_bl, sx_and, sx_or, sx_not, kAnd_t, kAnd_f, kOr_t, kOr_f, kNot_, sx_andV, sx_orV, sx_notV, kAndV_t, kAndV_f, kOrV_t, kOrV_f, kNotV_, sx_ifE, kIfE_t, kIfE_f, sx_chain, kCh1_, kCh2_, kCh3_t, kCh3_f, sx_gNil, sx_gCons, kG_, sx_gTup, gT_nm, gT_tup, gTs_nil, gTs_cons, sx_gSub, kSub1_, kSub2_, sx_par, kPar_, sx_par3, kPar3_, sx_it, kIt_tup, sx_rg1, sx_rg2, sx_for, kFor_rg, kFor_tp, sx_loopT, sx_loopT0, sx_loopR0, kGo_, kTurn_nx, kTurn_ct, kTurn_bk, kTurn_rt, sx_noPart, sx_part, kPart_, sx_sl, kSl1_, kSl2_, kSl3_, sx_lc, sx_pairs0, sx_pairs, kP1_, kP2_, kP3_, sx_dict, eqD_int, neD_int, addD_int, subD_int, ltD_int, leD_int, gtD_int, geD_int, intD_int, intD_bl, ix_t0, ix_t1, ix_t2, ix_t3, lenD_tup, tupleD_tup, listD_tup, List.getElem?_cons_zero, List.getElem?_cons_succ, List.set_cons_zero, List.set_cons_succ, List.length_cons, List.length_nil, Nat.zero_add, Nat.reduceAdd, Nat.reduceSub, Nat.reduceMul, decide_true, decide_false, Bool.not_true, Bool.not_false, Int.reduceMul, Int.reduceAdd, Int.reduceSub, Int.reduceNeg, Int.reduceLT, Int.reduceLE, Int.reducePow, Int.reduceEq, Int.reduceNe, Nat.reduceLeDiff, Nat.reduceLT, Bool.and_true, Bool.true_and, Bool.and_self, ↓reduceIte, Bool.false_eq_true, sx_mt, kMt1_, kMt2_, sx_isL, kIsL_ref, kIsL2_, absD_int, minD_int, maxD_int, negD_int, isi_tup_tuple, isi_int_int, isi_int_bool, kWh_t, kWh_f, nc1, nc2, nc3, nc4, nc5, nc6, nc7, nc8, nc9, nc10, nc11, nc12, nc13, nc14, nc15, nc16, mulD_int, mulD_intL, kRg1_, kRg2_, i62_eq, i63_eq, i64_eq, LIM, List.length_append, at_k, at_k0, set_k, set_k0, kDict_eq, kDict2_, keyP_str, keyP_int, allO_nil, allO_c, kAll_, mO_some, ixD_ref, kIx_lst, kIx_dK, kIx_dT, kIt_ref, kItr_, kFor_ref, kLoopL_, lenD_ref, kLen_lst, kLen_dK, kLen_dT, tupleD_ref, kTuple_, listD_ref, kList_, setD_ref, kSet_lst, kSetL_, kSet_dK, kSetK_, kSet_dT, kSetT_, appendD_ref, kApp_, addD_ref, kAddL_, mulD_ref, kMulL_, slD_ref, kSlice_, slD_tup, maxD_ref, minD_ref, kOnInts_, Option.bind_some, Option.map_some, maxOf, minOf, List.foldl_cons, List.foldl_nil, mergeD, putD, valD, List.any_cons, List.any_nil, Sum.inr.injEq, Sum.inl.injEq, Bool.or_false, Bool.false_or, Bool.or_true, List.find?_cons, List.find?_nil, keyK_str, keyK_int, intK_int, List.map_cons, List.map_nil, List.cons_append, List.nil_append, List.replicate, List.append_assoc, eqD_str, neD_str, sh_one, sh_not, sh_and, sh_or, sh_xor, sh_but, sh_wire, sh_up, sh_down, sh_copy, sn_one_not, sn_one_and, sn_one_or, sn_one_xor, sn_one_but, sn_one_wire, sn_one_up, sn_one_down, sn_one_copy, sn_not_one, sn_not_and, sn_not_or, sn_not_xor, sn_not_but, sn_not_wire, sn_not_up, sn_not_down, sn_not_copy, sn_and_one, sn_and_not, sn_and_or, sn_and_xor, sn_and_but, sn_and_wire, sn_and_up, sn_and_down, sn_and_copy, sn_or_one, sn_or_not, sn_or_and, sn_or_xor, sn_or_but, sn_or_wire, sn_or_up, sn_or_down, sn_or_copy, sn_xor_one, sn_xor_not, sn_xor_and, sn_xor_or, sn_xor_but, sn_xor_wire, sn_xor_up, sn_xor_down, sn_xor_copy, sn_but_one, sn_but_not, sn_but_and, sn_but_or, sn_but_xor, sn_but_wire, sn_but_up, sn_but_down, sn_but_copy, sn_wire_one, sn_wire_not, sn_wire_and, sn_wire_or, sn_wire_xor, sn_wire_but, sn_wire_up, sn_wire_down, sn_wire_copy, sn_up_one, sn_up_not, sn_up_and, sn_up_or, sn_up_xor, sn_up_but, sn_up_wire, sn_up_down, sn_up_copy, sn_down_one, sn_down_not, sn_down_and, sn_down_or, sn_down_xor, sn_down_but, sn_down_wire, sn_down_up, sn_down_copy, sn_copy_one, sn_copy_not, sn_copy_and, sn_copy_or, sn_copy_xor, sn_copy_but, sn_copy_wire, sn_copy_up, sn_copy_down, kS, hi', bit_at (Nat.lt_of_succ_lt h0), n1 h0, List.length_map, hl, tileB, ← List.map_set]
    exact ⟨_, rfl⟩
  | 3 =>
    have h0 : r + 1 < bs.length := by simpa [okTile] using ht
    unfold m__law_stage_behind_l1
    simp only [bind_ret, sx_seq, kSeq_nx, kSeq_rt, kSeq_bk, kSeq_ct, sx_next, sx_break, sx_cont, sx_drop, kDrop_, sx_retS, kRetS_, sx_if, kIf_t, kIf_f, sx_asg, kAsg_, kNx_, sx_nm, sx_var, kVar_, sx_ret, sx_op, kOp1_, kOp2_, sx_un, kUn_, sx_nil, sx_cons, kCons1_, kCons2_, sx_tup, sx_lst, kTup_, kLst_, sx_fn, kFn_, sx_call, sx_bool, kBool_, sx_tru, kTru_bl, sx_and, sx_or, sx_not, kAnd_t, kAnd_f, kOr_t, kOr_f, kNot_, sx_andV, sx_orV, sx_notV, kAndV_t, kAndV_f, kOrV_t, kOrV_f, kNotV_, sx_ifE, kIfE_t, kIfE_f, sx_chain, kCh1_, kCh2_, kCh3_t, kCh3_f, sx_gNil, sx_gCons, kG_, sx_gTup, gT_nm, gT_tup, gTs_nil, gTs_cons, sx_gSub, kSub1_, kSub2_, sx_par, kPar_, sx_par3, kPar3_, sx_it, kIt_tup, sx_rg1, sx_rg2, sx_for, kFor_rg, kFor_tp, sx_loopT, sx_loopT0, sx_loopR0, kGo_, kTurn_nx, kTurn_ct, kTurn_bk, kTurn_rt, sx_noPart, sx_part, kPart_, sx_sl, kSl1_, kSl2_, kSl3_, sx_lc, sx_pairs0, sx_pairs, kP1_, kP2_, kP3_, sx_dict, eqD_int, neD_int, addD_int, subD_int, ltD_int, leD_int, gtD_int, geD_int, intD_int, intD_bl, ix_t0, ix_t1, ix_t2, ix_t3, lenD_tup, tupleD_tup, listD_tup, List.getElem?_cons_zero, List.getElem?_cons_succ, List.set_cons_zero, List.set_cons_succ, List.length_cons, List.length_nil, Nat.zero_add, Nat.reduceAdd, Nat.reduceSub, Nat.reduceMul, decide_true, decide_false, Bool.not_true, Bool.not_false, Int.reduceMul, Int.reduceAdd, Int.reduceSub, Int.reduceNeg, Int.reduceLT, Int.reduceLE, Int.reducePow, Int.reduceEq, Int.reduceNe, Nat.reduceLeDiff, Nat.reduceLT, Bool.and_true, Bool.true_and, Bool.and_self, ↓reduceIte, Bool.false_eq_true, sx_mt, kMt1_, kMt2_, sx_isL, kIsL_ref, kIsL2_, absD_int, minD_int, maxD_int, negD_int, isi_tup_tuple, isi_int_int, isi_int_bool, kWh_t, kWh_f, nc1, nc2, nc3, nc4, nc5, nc6, nc7, nc8, nc9, nc10, nc11, nc12, nc13, nc14, nc15, nc16, mulD_int, mulD_intL, kRg1_, kRg2_, i62_eq, i63_eq, i64_eq, LIM, List.length_append, at_k, at_k0, set_k, set_k0, kDict_eq, kDict2_, keyP_str, keyP_int, allO_nil, allO_c, kAll_, mO_some, ixD_ref, kIx_lst, kIx_dK, kIx_dT, kIt_ref, kItr_, kFor_ref, kLoopL_, lenD_ref, kLen_lst, kLen_dK, kLen_dT, tupleD_ref, kTuple_, listD_ref, kList_, setD_ref, kSet_lst, kSetL_, kSet_dK, kSetK_, kSet_dT, kSetT_, appendD_ref, kApp_, addD_ref, kAddL_, mulD_ref, kMulL_, slD_ref, kSlice_, slD_tup, maxD_ref, minD_ref, kOnInts_, Option.bind_some, Option.map_some, maxOf, minOf, List.foldl_cons, List.foldl_nil, mergeD, putD, valD, List.any_cons, List.any_nil, Sum.inr.injEq, Sum.inl.injEq, Bool.or_false, Bool.false_or, Bool.or_true, List.find?_cons, List.find?_nil, keyK_str, keyK_int, intK_int, List.map_cons, List.map_nil, List.cons_append, List.nil_append, List.replicate, List.append_assoc, eqD_str, neD_str, sh_one, sh_not, sh_and, sh_or, sh_xor, sh_but, sh_wire, sh_up, sh_down, sh_copy, sn_one_not, sn_one_and, sn_one_or, sn_one_xor, sn_one_but, sn_one_wire, sn_one_up, sn_one_down, sn_one_copy, sn_not_one, sn_not_and, sn_not_or, sn_not_xor, sn_not_but, sn_not_wire, sn_not_up, sn_not_down, sn_not_copy, sn_and_one, sn_and_not, sn_and_or, sn_and_xor, sn_and_but, sn_and_wire, sn_and_up, sn_and_down, sn_and_copy, sn_or_one, sn_or_not, sn_or_and, sn_or_xor, sn_or_but, sn_or_wire, sn_or_up, sn_or_down, sn_or_copy, sn_xor_one, sn_xor_not, sn_xor_and, sn_xor_or, sn_xor_but, sn_xor_wire, sn_xor_up, sn_xor_down, sn_xor_copy, sn_but_one, sn_but_not, sn_but_and, sn_but_or, sn_but_xor, sn_but_wire, sn_but_up, sn_but_down, sn_but_copy, sn_wire_one, sn_wire_not, sn_wire_and, sn_wire_or, sn_wire_xor, sn_wire_but, sn_wire_up, sn_wire_down, sn_wire_copy, sn_up_one, sn_up_not, sn_up_and, sn_up_or, sn_up_xor, sn_up_but, sn_up_wire, sn_up_down, sn_up_copy, sn_down_one, sn_down_not, sn_down_and, sn_down_or, sn_down_xor, sn_down_but, sn_down_wire, sn_down_up, sn_down_copy, sn_copy_one, sn_copy_not, sn_copy_and, sn_copy_or, sn_copy_xor, sn_copy_but, sn_copy_wire, sn_copy_up, sn_copy_down, kS, hi', bit_at (Nat.lt_of_succ_lt h0), n0 (Nat.lt_of_succ_lt h0), n1 h0, List.length_map, hl, tileB, ← List.map_set, List.length_set]
    exact ⟨_, rfl⟩
  | k + 4 =>
    have hk : (k + 4 = 4 ∨ k + 4 = 5 ∨ k + 4 = 6) ∧ r + 1 < bs.length := by
      match k with
      | 0 => simpa [okTile] using ht
      | 1 => simpa [okTile] using ht
      | 2 => simpa [okTile] using ht
      | k + 3 => simp [okTile] at ht
    obtain ⟨hk, h0⟩ := hk
    obtain ⟨g', q⟩ := gate_ok (r := (r : Int)) (r2 := (r : Int) + 1) hk (hi' (.lst (fs.map bD) :: g)) (bit_at (Nat.lt_of_succ_lt h0)) (bit_at1 h0)
    have e1 : tileB bs fs (k + 4, r) = fs.set r (gateB (k + 4) (bit bs r) (bit bs (r + 1))) := rfl
    rw [e1]
    rcases hk with hk | hk | hk
    all_goals
      cases hk
      unfold m__law_stage_behind_l1
      simp only [bind_ret, sx_seq, kSeq_nx, kSeq_rt, kSeq_bk, kSeq_ct, sx_next, sx_break, sx_cont, sx_drop, kDrop_, sx_retS, kRetS_, sx_if, kIf_t, kIf_f, sx_asg, kAsg_, kNx_, sx_nm, sx_var, kVar_, sx_ret, sx_op, kOp1_, kOp2_, sx_un, kUn_, sx_nil, sx_cons, kCons1_, kCons2_, sx_tup, sx_lst, kTup_, kLst_, sx_fn, kFn_, sx_call, sx_bool, kBool_, sx_tru, kTru_bl, sx_and, sx_or, sx_not, kAnd_t, kAnd_f, kOr_t, kOr_f, kNot_, sx_andV, sx_orV, sx_notV, kAndV_t, kAndV_f, kOrV_t, kOrV_f, kNotV_, sx_ifE, kIfE_t, kIfE_f, sx_chain, kCh1_, kCh2_, kCh3_t, kCh3_f, sx_gNil, sx_gCons, kG_, sx_gTup, gT_nm, gT_tup, gTs_nil, gTs_cons, sx_gSub, kSub1_, kSub2_, sx_par, kPar_, sx_par3, kPar3_, sx_it, kIt_tup, sx_rg1, sx_rg2, sx_for, kFor_rg, kFor_tp, sx_loopT, sx_loopT0, sx_loopR0, kGo_, kTurn_nx, kTurn_ct, kTurn_bk, kTurn_rt, sx_noPart, sx_part, kPart_, sx_sl, kSl1_, kSl2_, kSl3_, sx_lc, sx_pairs0, sx_pairs, kP1_, kP2_, kP3_, sx_dict, eqD_int, neD_int, addD_int, subD_int, ltD_int, leD_int, gtD_int, geD_int, intD_int, intD_bl, ix_t0, ix_t1, ix_t2, ix_t3, lenD_tup, tupleD_tup, listD_tup, List.getElem?_cons_zero, List.getElem?_cons_succ, List.set_cons_zero, List.set_cons_succ, List.length_cons, List.length_nil, Nat.zero_add, Nat.reduceAdd, Nat.reduceSub, Nat.reduceMul, decide_true, decide_false, Bool.not_true, Bool.not_false, Int.reduceMul, Int.reduceAdd, Int.reduceSub, Int.reduceNeg, Int.reduceLT, Int.reduceLE, Int.reducePow, Int.reduceEq, Int.reduceNe, Nat.reduceLeDiff, Nat.reduceLT, Bool.and_true, Bool.true_and, Bool.and_self, ↓reduceIte, Bool.false_eq_true, sx_mt, kMt1_, kMt2_, sx_isL, kIsL_ref, kIsL2_, absD_int, minD_int, maxD_int, negD_int, isi_tup_tuple, isi_int_int, isi_int_bool, kWh_t, kWh_f, nc1, nc2, nc3, nc4, nc5, nc6, nc7, nc8, nc9, nc10, nc11, nc12, nc13, nc14, nc15, nc16, mulD_int, mulD_intL, kRg1_, kRg2_, i62_eq, i63_eq, i64_eq, LIM, List.length_append, at_k, at_k0, set_k, set_k0, kDict_eq, kDict2_, keyP_str, keyP_int, allO_nil, allO_c, kAll_, mO_some, ixD_ref, kIx_lst, kIx_dK, kIx_dT, kIt_ref, kItr_, kFor_ref, kLoopL_, lenD_ref, kLen_lst, kLen_dK, kLen_dT, tupleD_ref, kTuple_, listD_ref, kList_, setD_ref, kSet_lst, kSetL_, kSet_dK, kSetK_, kSet_dT, kSetT_, appendD_ref, kApp_, addD_ref, kAddL_, mulD_ref, kMulL_, slD_ref, kSlice_, slD_tup, maxD_ref, minD_ref, kOnInts_, Option.bind_some, Option.map_some, maxOf, minOf, List.foldl_cons, List.foldl_nil, mergeD, putD, valD, List.any_cons, List.any_nil, Sum.inr.injEq, Sum.inl.injEq, Bool.or_false, Bool.false_or, Bool.or_true, List.find?_cons, List.find?_nil, keyK_str, keyK_int, intK_int, List.map_cons, List.map_nil, List.cons_append, List.nil_append, List.replicate, List.append_assoc, eqD_str, neD_str, sh_one, sh_not, sh_and, sh_or, sh_xor, sh_but, sh_wire, sh_up, sh_down, sh_copy, sn_one_not, sn_one_and, sn_one_or, sn_one_xor, sn_one_but, sn_one_wire, sn_one_up, sn_one_down, sn_one_copy, sn_not_one, sn_not_and, sn_not_or, sn_not_xor, sn_not_but, sn_not_wire, sn_not_up, sn_not_down, sn_not_copy, sn_and_one, sn_and_not, sn_and_or, sn_and_xor, sn_and_but, sn_and_wire, sn_and_up, sn_and_down, sn_and_copy, sn_or_one, sn_or_not, sn_or_and, sn_or_xor, sn_or_but, sn_or_wire, sn_or_up, sn_or_down, sn_or_copy, sn_xor_one, sn_xor_not, sn_xor_and, sn_xor_or, sn_xor_but, sn_xor_wire, sn_xor_up, sn_xor_down, sn_xor_copy, sn_but_one, sn_but_not, sn_but_and, sn_but_or, sn_but_xor, sn_but_wire, sn_but_up, sn_but_down, sn_but_copy, sn_wire_one, sn_wire_not, sn_wire_and, sn_wire_or, sn_wire_xor, sn_wire_but, sn_wire_up, sn_wire_down, sn_wire_copy, sn_up_one, sn_up_not, sn_up_and, sn_up_or, sn_up_xor, sn_up_but, sn_up_wire, sn_up_down, sn_up_copy, sn_down_one, sn_down_not, sn_down_and, sn_down_or, sn_down_xor, sn_down_but, sn_down_wire, sn_down_up, sn_down_copy, sn_copy_one, sn_copy_not, sn_copy_and, sn_copy_or, sn_copy_xor, sn_copy_but, sn_copy_wire, sn_copy_up, sn_copy_down, kS, hi'] at q ⊢
      simp only [bind_ret, sx_seq, kSeq_nx, kSeq_rt, kSeq_bk, kSeq_ct, sx_next, sx_break, sx_cont, sx_drop, kDrop_, sx_retS, kRetS_, sx_if, kIf_t, kIf_f, sx_asg, kAsg_, kNx_, sx_nm, sx_var, kVar_, sx_ret, sx_op, kOp1_, kOp2_, sx_un, kUn_, sx_nil, sx_cons, kCons1_, kCons2_, sx_tup, sx_lst, kTup_, kLst_, sx_fn, kFn_, sx_call, sx_bool, kBool_, sx_tru, kTru_bl, sx_and, sx_or, sx_not, kAnd_t, kAnd_f, kOr_t, kOr_f, kNot_, sx_andV, sx_orV, sx_notV, kAndV_t, kAndV_f, kOrV_t, kOrV_f, kNotV_, sx_ifE, kIfE_t, kIfE_f, sx_chain, kCh1_, kCh2_, kCh3_t, kCh3_f, sx_gNil, sx_gCons, kG_, sx_gTup, gT_nm, gT_tup, gTs_nil, gTs_cons, sx_gSub, kSub1_, kSub2_, sx_par, kPar_, sx_par3, kPar3_, sx_it, kIt_tup, sx_rg1, sx_rg2, sx_for, kFor_rg, kFor_tp, sx_loopT, sx_loopT0, sx_loopR0, kGo_, kTurn_nx, kTurn_ct, kTurn_bk, kTurn_rt, sx_noPart, sx_part, kPart_, sx_sl, kSl1_, kSl2_, kSl3_, sx_lc, sx_pairs0, sx_pairs, kP1_, kP2_, kP3_, sx_dict, eqD_int, neD_int, addD_int, subD_int, ltD_int, leD_int, gtD_int, geD_int, intD_int, intD_bl, ix_t0, ix_t1, ix_t2, ix_t3, lenD_tup, tupleD_tup, listD_tup, List.getElem?_cons_zero, List.getElem?_cons_succ, List.set_cons_zero, List.set_cons_succ, List.length_cons, List.length_nil, Nat.zero_add, Nat.reduceAdd, Nat.reduceSub, Nat.reduceMul, decide_true, decide_false, Bool.not_true, Bool.not_false, Int.reduceMul, Int.reduceAdd, Int.reduceSub, Int.reduceNeg, Int.reduceLT, Int.reduceLE, Int.reducePow, Int.reduceEq, Int.reduceNe, Nat.reduceLeDiff, Nat.reduceLT, Bool.and_true, Bool.true_and, Bool.and_self, ↓reduceIte, Bool.false_eq_true, sx_mt, kMt1_, kMt2_, sx_isL, kIsL_ref, kIsL2_, absD_int, minD_int, maxD_int, negD_int, isi_tup_tuple, isi_int_int, isi_int_bool, kWh_t, kWh_f, nc1, nc2, nc3, nc4, nc5, nc6, nc7, nc8, nc9, nc10, nc11, nc12, nc13, nc14, nc15, nc16, mulD_int, mulD_intL, kRg1_, kRg2_, i62_eq, i63_eq, i64_eq, LIM, List.length_append, at_k, at_k0, set_k, set_k0, kDict_eq, kDict2_, keyP_str, keyP_int, allO_nil, allO_c, kAll_, mO_some, ixD_ref, kIx_lst, kIx_dK, kIx_dT, kIt_ref, kItr_, kFor_ref, kLoopL_, lenD_ref, kLen_lst, kLen_dK, kLen_dT, tupleD_ref, kTuple_, listD_ref, kList_, setD_ref, kSet_lst, kSetL_, kSet_dK, kSetK_, kSet_dT, kSetT_, appendD_ref, kApp_, addD_ref, kAddL_, mulD_ref, kMulL_, slD_ref, kSlice_, slD_tup, maxD_ref, minD_ref, kOnInts_, Option.bind_some, Option.map_some, maxOf, minOf, List.foldl_cons, List.foldl_nil, mergeD, putD, valD, List.any_cons, List.any_nil, Sum.inr.injEq, Sum.inl.injEq, Bool.or_false, Bool.false_or, Bool.or_true, List.find?_cons, List.find?_nil, keyK_str, keyK_int, intK_int, List.map_cons, List.map_nil, List.cons_append, List.nil_append, List.replicate, List.append_assoc, eqD_str, neD_str, sh_one, sh_not, sh_and, sh_or, sh_xor, sh_but, sh_wire, sh_up, sh_down, sh_copy, sn_one_not, sn_one_and, sn_one_or, sn_one_xor, sn_one_but, sn_one_wire, sn_one_up, sn_one_down, sn_one_copy, sn_not_one, sn_not_and, sn_not_or, sn_not_xor, sn_not_but, sn_not_wire, sn_not_up, sn_not_down, sn_not_copy, sn_and_one, sn_and_not, sn_and_or, sn_and_xor, sn_and_but, sn_and_wire, sn_and_up, sn_and_down, sn_and_copy, sn_or_one, sn_or_not, sn_or_and, sn_or_xor, sn_or_but, sn_or_wire, sn_or_up, sn_or_down, sn_or_copy, sn_xor_one, sn_xor_not, sn_xor_and, sn_xor_or, sn_xor_but, sn_xor_wire, sn_xor_up, sn_xor_down, sn_xor_copy, sn_but_one, sn_but_not, sn_but_and, sn_but_or, sn_but_xor, sn_but_wire, sn_but_up, sn_but_down, sn_but_copy, sn_wire_one, sn_wire_not, sn_wire_and, sn_wire_or, sn_wire_xor, sn_wire_but, sn_wire_up, sn_wire_down, sn_wire_copy, sn_up_one, sn_up_not, sn_up_and, sn_up_or, sn_up_xor, sn_up_but, sn_up_wire, sn_up_down, sn_up_copy, sn_down_one, sn_down_not, sn_down_and, sn_down_or, sn_down_xor, sn_down_but, sn_down_wire, sn_down_up, sn_down_copy, sn_copy_one, sn_copy_not, sn_copy_and, sn_copy_or, sn_copy_xor, sn_copy_but, sn_copy_wire, sn_copy_up, sn_copy_down, kS, hi', kCall_ q, n0 (Nat.lt_of_succ_lt h0), List.length_map, hl, ← List.map_set]
      exact ⟨_, rfl⟩
theorem tileB_len (bs fs : List Bool) (t : Tile) : (tileB bs fs t).length = fs.length := by
  unfold tileB
  split <;> simp
theorem loop_ok {T : D} {i : Nat} {S : List LO} {bs : List Bool} (hi : S[i]? = some (.lst (bs.map bD))) : ∀ (ts : List Tile) (fs : List Bool) (x y : Option D) (g : List LO), ts.all (okTile bs.length) = true → fs.length = bs.length →
    ∃ x' y' g', loopT (gTupM 2 (gCons (gNm 3) (gCons (gNm 4) gNil))) m__law_stage_behind_l1 (ts.map tD) ⟨[some T, some (.ref i), some (.ref S.length), x, y], S ++ .lst (fs.map bD) :: g⟩ =
      .ret .nx ⟨[some T, some (.ref i), some (.ref S.length), x', y'], S ++ .lst ((ts.foldl (tileB bs) fs).map bD) :: g'⟩
  | [], fs, x, y, g, _, _ => ⟨x, y, g, rfl⟩
  | t :: ts, fs, x, y, g, ht, hl => by
    simp only [List.all_cons, Bool.and_eq_true] at ht
    obtain ⟨g1, q⟩ := tile_ok (T := T) (g := g) hi ht.1 hl
    obtain ⟨x', y', g', q2⟩ := loop_ok hi ts (tileB bs fs t) (some (.str (kS t.1))) (some (.int (t.2 : Int))) g1 ht.2 ((tileB_len _ _ _).trans hl)
    refine ⟨x', y', g', ?_⟩
    rw [List.map_cons, sx_loopT]
    simp only [bind_ret, sx_seq, kSeq_nx, kSeq_rt, kSeq_bk, kSeq_ct, sx_next, sx_break, sx_cont, sx_drop, kDrop_, sx_retS, kRetS_, sx_if, kIf_t, kIf_f, sx_asg, kAsg_, kNx_, sx_nm, sx_var, kVar_, sx_ret, sx_op, kOp1_, kOp2_, sx_un, kUn_, sx_nil, sx_cons, kCons1_, kCons2_, sx_tup, sx_lst, kTup_, kLst_, sx_fn, kFn_, sx_call, sx_bool, kBool_, sx_tru, kTru_bl, sx_and, sx_or, sx_not, kAnd_t, kAnd_f, kOr_t, kOr_f, kNot_, sx_andV, sx_orV, sx_notV, kAndV_t, kAndV_f, kOrV_t, kOrV_f, kNotV_, sx_ifE, kIfE_t, kIfE_f, sx_chain, kCh1_, kCh2_, kCh3_t, kCh3_f, sx_gNil, sx_gCons, kG_, sx_gTup, gT_nm, gT_tup, gTs_nil, gTs_cons, sx_gSub, kSub1_, kSub2_, sx_par, kPar_, sx_par3, kPar3_, sx_it, kIt_tup, sx_rg1, sx_rg2, sx_for, kFor_rg, kFor_tp, sx_loopT, sx_loopT0, sx_loopR0, kGo_, kTurn_nx, kTurn_ct, kTurn_bk, kTurn_rt, sx_noPart, sx_part, kPart_, sx_sl, kSl1_, kSl2_, kSl3_, sx_lc, sx_pairs0, sx_pairs, kP1_, kP2_, kP3_, sx_dict, eqD_int, neD_int, addD_int, subD_int, ltD_int, leD_int, gtD_int, geD_int, intD_int, intD_bl, ix_t0, ix_t1, ix_t2, ix_t3, lenD_tup, tupleD_tup, listD_tup, List.getElem?_cons_zero, List.getElem?_cons_succ, List.set_cons_zero, List.set_cons_succ, List.length_cons, List.length_nil, Nat.zero_add, Nat.reduceAdd, Nat.reduceSub, Nat.reduceMul, decide_true, decide_false, Bool.not_true, Bool.not_false, Int.reduceMul, Int.reduceAdd, Int.reduceSub, Int.reduceNeg, Int.reduceLT, Int.reduceLE, Int.reducePow, Int.reduceEq, Int.reduceNe, Nat.reduceLeDiff, Nat.reduceLT, Bool.and_true, Bool.true_and, Bool.and_self, ↓reduceIte, Bool.false_eq_true, sx_mt, kMt1_, kMt2_, sx_isL, kIsL_ref, kIsL2_, absD_int, minD_int, maxD_int, negD_int, isi_tup_tuple, isi_int_int, isi_int_bool, kWh_t, kWh_f, nc1, nc2, nc3, nc4, nc5, nc6, nc7, nc8, nc9, nc10, nc11, nc12, nc13, nc14, nc15, nc16, mulD_int, mulD_intL, kRg1_, kRg2_, i62_eq, i63_eq, i64_eq, LIM, List.length_append, at_k, at_k0, set_k, set_k0, kDict_eq, kDict2_, keyP_str, keyP_int, allO_nil, allO_c, kAll_, mO_some, ixD_ref, kIx_lst, kIx_dK, kIx_dT, kIt_ref, kItr_, kFor_ref, kLoopL_, lenD_ref, kLen_lst, kLen_dK, kLen_dT, tupleD_ref, kTuple_, listD_ref, kList_, setD_ref, kSet_lst, kSetL_, kSet_dK, kSetK_, kSet_dT, kSetT_, appendD_ref, kApp_, addD_ref, kAddL_, mulD_ref, kMulL_, slD_ref, kSlice_, slD_tup, maxD_ref, minD_ref, kOnInts_, Option.bind_some, Option.map_some, maxOf, minOf, List.foldl_cons, List.foldl_nil, mergeD, putD, valD, List.any_cons, List.any_nil, Sum.inr.injEq, Sum.inl.injEq, Bool.or_false, Bool.false_or, Bool.or_true, List.find?_cons, List.find?_nil, keyK_str, keyK_int, intK_int, List.map_cons, List.map_nil, List.cons_append, List.nil_append, List.replicate, List.append_assoc, tD, q]
    exact q2
def stageB (bs : List Bool) (ts : List Tile) : List Bool := ts.foldl (tileB bs) (List.replicate bs.length false)
theorem stageB_len (bs : List Bool) (ts : List Tile) : (stageB bs ts).length = bs.length := by
  unfold stageB
  have : ∀ (ts : List Tile) (fs : List Bool), (ts.foldl (tileB bs) fs).length = fs.length := by
    intro ts
    induction ts with
    | nil => intro fs; rfl
    | cons t ts ih => intro fs; rw [List.foldl_cons, ih, tileB_len]
  rw [this]
  simp
theorem zeros (n : Nat) : (List.replicate n [D.int 0]).flatten = (List.replicate n false).map bD := by
  induction n with
  | zero => rfl
  | succ n ih => rw [List.replicate_succ, List.flatten_cons, ih, List.replicate_succ]; rfl
theorem stage_ok {i : Nat} {S : List LO} {bs : List Bool} {ts : List Tile} (hi : S[i]? = some (.lst (bs.map bD))) (hb : bs.length ≤ 1000) (ht : ts.all (okTile bs.length) = true) :
    ∃ n g, Run F__law_stage_behind [.tup (ts.map tD), .ref i] S (.ref n) (S ++ g) ∧ (S ++ g)[n]? = some (.lst ((stageB bs ts).map bD)) := by
  obtain ⟨x', y', g', q⟩ := loop_ok (T := .tup (ts.map tD)) (S := S ++ [.lst [.int 0]]) (at_old hi) ts (List.replicate bs.length false) none none [] ht (by simp)
  refine ⟨S.length + 1, .lst [.int 0] :: .lst ((stageB bs ts).map bD) :: g', run_fn rfl (e := [some (.tup (ts.map tD)), some (.ref i), some (.ref (S.length + 1)), x', y']) ?_, at_end1⟩
  unfold m__law_stage_behind startE
  have hi' : ∀ g : List LO, (S ++ g)[i]? = some (.lst (bs.map bD)) := fun g => at_old hi
  have b1 : i63 (bs.length : Int) = true := i63_of (by omega)
  have b3 : 1 * (bs.length : Int).toNat ≤ 16777216 := by omega
  have mm : ∀ (e : List (Option D)) (st : List LO), kMulL (bs.length : Int) (some (.lst [.int 0])) ⟨e, st⟩ = .ret (.ref st.length) ⟨e, st ++ [.lst ((List.replicate bs.length false).map bD)]⟩ := fun e st => by
    rw [kMulL_ b1 (by simpa using b3), Int.toNat_natCast, zeros]
  simp only [bind_ret, sx_seq, kSeq_nx, kSeq_rt, kSeq_bk, kSeq_ct, sx_next, sx_break, sx_cont, sx_drop, kDrop_, sx_retS, kRetS_, sx_if, kIf_t, kIf_f, sx_asg, kAsg_, kNx_, sx_nm, sx_var, kVar_, sx_ret, sx_op, kOp1_, kOp2_, sx_un, kUn_, sx_nil, sx_cons, kCons1_, kCons2_, sx_tup, sx_lst, kTup_, kLst_, sx_fn, kFn_, sx_call, sx_bool, kBool_, sx_tru, kTru_bl, sx_and, sx_or, sx_not, kAnd_t, kAnd_f, kOr_t, kOr_f, kNot_, sx_andV, sx_orV, sx_notV, kAndV_t, kAndV_f, kOrV_t, kOrV_f, kNotV_, sx_ifE, kIfE_t, kIfE_f, sx_chain, kCh1_, kCh2_, kCh3_t, kCh3_f, sx_gNil, sx_gCons, kG_, sx_gTup, gT_nm, gT_tup, gTs_nil, gTs_cons, sx_gSub, kSub1_, kSub2_, sx_par, kPar_, sx_par3, kPar3_, sx_it, kIt_tup, sx_rg1, sx_rg2, sx_for, kFor_rg, kFor_tp, sx_loopT, sx_loopT0, sx_loopR0, kGo_, kTurn_nx, kTurn_ct, kTurn_bk, kTurn_rt, sx_noPart, sx_part, kPart_, sx_sl, kSl1_, kSl2_, kSl3_, sx_lc, sx_pairs0, sx_pairs, kP1_, kP2_, kP3_, sx_dict, eqD_int, neD_int, addD_int, subD_int, ltD_int, leD_int, gtD_int, geD_int, intD_int, intD_bl, ix_t0, ix_t1, ix_t2, ix_t3, lenD_tup, tupleD_tup, listD_tup, List.getElem?_cons_zero, List.getElem?_cons_succ, List.set_cons_zero, List.set_cons_succ, List.length_cons, List.length_nil, Nat.zero_add, Nat.reduceAdd, Nat.reduceSub, Nat.reduceMul, decide_true, decide_false, Bool.not_true, Bool.not_false, Int.reduceMul, Int.reduceAdd, Int.reduceSub, Int.reduceNeg, Int.reduceLT, Int.reduceLE, Int.reducePow, Int.reduceEq, Int.reduceNe, Nat.reduceLeDiff, Nat.reduceLT, Bool.and_true, Bool.true_and, Bool.and_self, ↓reduceIte, Bool.false_eq_true, sx_mt, kMt1_, kMt2_, sx_isL, kIsL_ref, kIsL2_, absD_int, minD_int, maxD_int, negD_int, isi_tup_tuple, isi_int_int, isi_int_bool, kWh_t, kWh_f, nc1, nc2, nc3, nc4, nc5, nc6, nc7, nc8, nc9, nc10, nc11, nc12, nc13, nc14, nc15, nc16, mulD_int, mulD_intL, kRg1_, kRg2_, i62_eq, i63_eq, i64_eq, LIM, List.length_append, at_k, at_k0, set_k, set_k0, kDict_eq, kDict2_, keyP_str, keyP_int, allO_nil, allO_c, kAll_, mO_some, ixD_ref, kIx_lst, kIx_dK, kIx_dT, kIt_ref, kItr_, kFor_ref, kLoopL_, lenD_ref, kLen_lst, kLen_dK, kLen_dT, tupleD_ref, kTuple_, listD_ref, kList_, setD_ref, kSet_lst, kSetL_, kSet_dK, kSetK_, kSet_dT, kSetT_, appendD_ref, kApp_, addD_ref, kAddL_, mulD_ref, kMulL_, slD_ref, kSlice_, slD_tup, maxD_ref, minD_ref, kOnInts_, Option.bind_some, Option.map_some, maxOf, minOf, List.foldl_cons, List.foldl_nil, mergeD, putD, valD, List.any_cons, List.any_nil, Sum.inr.injEq, Sum.inl.injEq, Bool.or_false, Bool.false_or, Bool.or_true, List.find?_cons, List.find?_nil, keyK_str, keyK_int, intK_int, List.map_cons, List.map_nil, List.cons_append, List.nil_append, List.replicate, List.append_assoc, hi', hi, List.length_map, mm]
  simp only [bind_ret, sx_seq, kSeq_nx, kSeq_rt, kSeq_bk, kSeq_ct, sx_next, sx_break, sx_cont, sx_drop, kDrop_, sx_retS, kRetS_, sx_if, kIf_t, kIf_f, sx_asg, kAsg_, kNx_, sx_nm, sx_var, kVar_, sx_ret, sx_op, kOp1_, kOp2_, sx_un, kUn_, sx_nil, sx_cons, kCons1_, kCons2_, sx_tup, sx_lst, kTup_, kLst_, sx_fn, kFn_, sx_call, sx_bool, kBool_, sx_tru, kTru_bl, sx_and, sx_or, sx_not, kAnd_t, kAnd_f, kOr_t, kOr_f, kNot_, sx_andV, sx_orV, sx_notV, kAndV_t, kAndV_f, kOrV_t, kOrV_f, kNotV_, sx_ifE, kIfE_t, kIfE_f, sx_chain, kCh1_, kCh2_, kCh3_t, kCh3_f, sx_gNil, sx_gCons, kG_, sx_gTup, gT_nm, gT_tup, gTs_nil, gTs_cons, sx_gSub, kSub1_, kSub2_, sx_par, kPar_, sx_par3, kPar3_, sx_it, kIt_tup, sx_rg1, sx_rg2, sx_for, kFor_rg, kFor_tp, sx_loopT, sx_loopT0, sx_loopR0, kGo_, kTurn_nx, kTurn_ct, kTurn_bk, kTurn_rt, sx_noPart, sx_part, kPart_, sx_sl, kSl1_, kSl2_, kSl3_, sx_lc, sx_pairs0, sx_pairs, kP1_, kP2_, kP3_, sx_dict, eqD_int, neD_int, addD_int, subD_int, ltD_int, leD_int, gtD_int, geD_int, intD_int, intD_bl, ix_t0, ix_t1, ix_t2, ix_t3, lenD_tup, tupleD_tup, listD_tup, List.getElem?_cons_zero, List.getElem?_cons_succ, List.set_cons_zero, List.set_cons_succ, List.length_cons, List.length_nil, Nat.zero_add, Nat.reduceAdd, Nat.reduceSub, Nat.reduceMul, decide_true, decide_false, Bool.not_true, Bool.not_false, Int.reduceMul, Int.reduceAdd, Int.reduceSub, Int.reduceNeg, Int.reduceLT, Int.reduceLE, Int.reducePow, Int.reduceEq, Int.reduceNe, Nat.reduceLeDiff, Nat.reduceLT, Bool.and_true, Bool.true_and, Bool.and_self, ↓reduceIte, Bool.false_eq_true, sx_mt, kMt1_, kMt2_, sx_isL, kIsL_ref, kIsL2_, absD_int, minD_int, maxD_int, negD_int, isi_tup_tuple, isi_int_int, isi_int_bool, kWh_t, kWh_f, nc1, nc2, nc3, nc4, nc5, nc6, nc7, nc8, nc9, nc10, nc11, nc12, nc13, nc14, nc15, nc16, mulD_int, mulD_intL, kRg1_, kRg2_, i62_eq, i63_eq, i64_eq, LIM, List.length_append, at_k, at_k0, set_k, set_k0, kDict_eq, kDict2_, keyP_str, keyP_int, allO_nil, allO_c, kAll_, mO_some, ixD_ref, kIx_lst, kIx_dK, kIx_dT, kIt_ref, kItr_, kFor_ref, kLoopL_, lenD_ref, kLen_lst, kLen_dK, kLen_dT, tupleD_ref, kTuple_, listD_ref, kList_, setD_ref, kSet_lst, kSetL_, kSet_dK, kSetK_, kSet_dT, kSetT_, appendD_ref, kApp_, addD_ref, kAddL_, mulD_ref, kMulL_, slD_ref, kSlice_, slD_tup, maxD_ref, minD_ref, kOnInts_, Option.bind_some, Option.map_some, maxOf, minOf, List.foldl_cons, List.foldl_nil, mergeD, putD, valD, List.any_cons, List.any_nil, Sum.inr.injEq, Sum.inl.injEq, Bool.or_false, Bool.false_or, Bool.or_true, List.find?_cons, List.find?_nil, keyK_str, keyK_int, intK_int, List.map_cons, List.map_nil, List.cons_append, List.nil_append, List.replicate, List.append_assoc] at q
  rw [q]
  simp only [bind_ret, sx_seq, kSeq_nx, kSeq_rt, kSeq_bk, kSeq_ct, sx_next, sx_break, sx_cont, sx_drop, kDrop_, sx_retS, kRetS_, sx_if, kIf_t, kIf_f, sx_asg, kAsg_, kNx_, sx_nm, sx_var, kVar_, sx_ret, sx_op, kOp1_, kOp2_, sx_un, kUn_, sx_nil, sx_cons, kCons1_, kCons2_, sx_tup, sx_lst, kTup_, kLst_, sx_fn, kFn_, sx_call, sx_bool, kBool_, sx_tru, kTru_bl, sx_and, sx_or, sx_not, kAnd_t, kAnd_f, kOr_t, kOr_f, kNot_, sx_andV, sx_orV, sx_notV, kAndV_t, kAndV_f, kOrV_t, kOrV_f, kNotV_, sx_ifE, kIfE_t, kIfE_f, sx_chain, kCh1_, kCh2_, kCh3_t, kCh3_f, sx_gNil, sx_gCons, kG_, sx_gTup, gT_nm, gT_tup, gTs_nil, gTs_cons, sx_gSub, kSub1_, kSub2_, sx_par, kPar_, sx_par3, kPar3_, sx_it, kIt_tup, sx_rg1, sx_rg2, sx_for, kFor_rg, kFor_tp, sx_loopT, sx_loopT0, sx_loopR0, kGo_, kTurn_nx, kTurn_ct, kTurn_bk, kTurn_rt, sx_noPart, sx_part, kPart_, sx_sl, kSl1_, kSl2_, kSl3_, sx_lc, sx_pairs0, sx_pairs, kP1_, kP2_, kP3_, sx_dict, eqD_int, neD_int, addD_int, subD_int, ltD_int, leD_int, gtD_int, geD_int, intD_int, intD_bl, ix_t0, ix_t1, ix_t2, ix_t3, lenD_tup, tupleD_tup, listD_tup, List.getElem?_cons_zero, List.getElem?_cons_succ, List.set_cons_zero, List.set_cons_succ, List.length_cons, List.length_nil, Nat.zero_add, Nat.reduceAdd, Nat.reduceSub, Nat.reduceMul, decide_true, decide_false, Bool.not_true, Bool.not_false, Int.reduceMul, Int.reduceAdd, Int.reduceSub, Int.reduceNeg, Int.reduceLT, Int.reduceLE, Int.reducePow, Int.reduceEq, Int.reduceNe, Nat.reduceLeDiff, Nat.reduceLT, Bool.and_true, Bool.true_and, Bool.and_self, ↓reduceIte, Bool.false_eq_true, sx_mt, kMt1_, kMt2_, sx_isL, kIsL_ref, kIsL2_, absD_int, minD_int, maxD_int, negD_int, isi_tup_tuple, isi_int_int, isi_int_bool, kWh_t, kWh_f, nc1, nc2, nc3, nc4, nc5, nc6, nc7, nc8, nc9, nc10, nc11, nc12, nc13, nc14, nc15, nc16, mulD_int, mulD_intL, kRg1_, kRg2_, i62_eq, i63_eq, i64_eq, LIM, List.length_append, at_k, at_k0, set_k, set_k0, kDict_eq, kDict2_, keyP_str, keyP_int, allO_nil, allO_c, kAll_, mO_some, ixD_ref, kIx_lst, kIx_dK, kIx_dT, kIt_ref, kItr_, kFor_ref, kLoopL_, lenD_ref, kLen_lst, kLen_dK, kLen_dT, tupleD_ref, kTuple_, listD_ref, kList_, setD_ref, kSet_lst, kSetL_, kSet_dK, kSetK_, kSet_dT, kSetT_, appendD_ref, kApp_, addD_ref, kAddL_, mulD_ref, kMulL_, slD_ref, kSlice_, slD_tup, maxD_ref, minD_ref, kOnInts_, Option.bind_some, Option.map_some, maxOf, minOf, List.foldl_cons, List.foldl_nil, mergeD, putD, valD, List.any_cons, List.any_nil, Sum.inr.injEq, Sum.inl.injEq, Bool.or_false, Bool.false_or, Bool.or_true, List.find?_cons, List.find?_nil, keyK_str, keyK_int, intK_int, List.map_cons, List.map_nil, List.cons_append, List.nil_append, List.replicate, List.append_assoc]
  rfl
/-! ### stages behind one another -/
def stD (sts : List (List Tile)) : D := .tup (sts.map fun ts => .tup (ts.map tD))
def okStages (n : Nat) (sts : List (List Tile)) : Bool := sts.all fun ts => ts.all (okTile n)
def passB (bs : List Bool) (sts : List (List Tile)) : List Bool := sts.foldl stageB bs
theorem passB_len : ∀ (sts : List (List Tile)) (bs : List Bool), (passB bs sts).length = bs.length
  | [], _ => rfl
  | ts :: sts, bs => by
    unfold passB
    rw [List.foldl_cons]
    exact (passB_len sts _).trans (stageB_len _ _)
theorem passl_ok {T : D} : ∀ (sts : List (List Tile)) (S g : List LO) (bs : List Bool) (i : Nat) (x : Option D), (S ++ g)[i]? = some (.lst (bs.map bD)) → bs.length ≤ 1000 → okStages bs.length sts = true →
    ∃ i' x' g', loopT (gNm 2) m__law_passed_l1 (sts.map fun ts => D.tup (ts.map tD)) ⟨[some T, some (.ref i), x], S ++ g⟩ = .ret .nx ⟨[some T, some (.ref i'), x'], S ++ g'⟩ ∧ (S ++ g')[i']? = some (.lst ((passB bs sts).map bD))
  | [], S, g, bs, i, x, hi, _, _ => ⟨i, x, g, rfl, hi⟩
  | ts :: sts, S, g, bs, i, x, hi, hb, ht => by
    simp only [okStages, List.all_cons, Bool.and_eq_true] at ht
    obtain ⟨n, g1, q, hn⟩ := stage_ok hi hb (by simpa using ht.1)
    rw [List.append_assoc] at q hn
    obtain ⟨i', x', g', q2, h2⟩ := passl_ok (T := T) sts S (g ++ g1) (stageB bs ts) n (some (.tup (ts.map tD))) hn (by rw [stageB_len]; exact hb) (by rw [stageB_len]; simpa [okStages] using ht.2)
    refine ⟨i', x', g', ?_, h2⟩
    rw [List.map_cons, sx_loopT]
    unfold m__law_passed_l1
    simp only [bind_ret, sx_seq, kSeq_nx, kSeq_rt, kSeq_bk, kSeq_ct, sx_next, sx_break, sx_cont, sx_drop, kDrop_, sx_retS, kRetS_, sx_if, kIf_t, kIf_f, sx_asg, kAsg_, kNx_, sx_nm, sx_var, kVar_, sx_ret, sx_op, kOp1_, kOp2_, sx_un, kUn_, sx_nil, sx_cons, kCons1_, kCons2_, sx_tup, sx_lst, kTup_, kLst_, sx_fn, kFn_, sx_call, sx_bool, kBool_, sx_tru, kTru_bl, sx_and, sx_or, sx_not, kAnd_t, kAnd_f, kOr_t, kOr_f, kNot_, sx_andV, sx_orV, sx_notV, kAndV_t, kAndV_f, kOrV_t, kOrV_f, kNotV_, sx_ifE, kIfE_t, kIfE_f, sx_chain, kCh1_, kCh2_, kCh3_t, kCh3_f, sx_gNil, sx_gCons, kG_, sx_gTup, gT_nm, gT_tup, gTs_nil, gTs_cons, sx_gSub, kSub1_, kSub2_, sx_par, kPar_, sx_par3, kPar3_, sx_it, kIt_tup, sx_rg1, sx_rg2, sx_for, kFor_rg, kFor_tp, sx_loopT, sx_loopT0, sx_loopR0, kGo_, kTurn_nx, kTurn_ct, kTurn_bk, kTurn_rt, sx_noPart, sx_part, kPart_, sx_sl, kSl1_, kSl2_, kSl3_, sx_lc, sx_pairs0, sx_pairs, kP1_, kP2_, kP3_, sx_dict, eqD_int, neD_int, addD_int, subD_int, ltD_int, leD_int, gtD_int, geD_int, intD_int, intD_bl, ix_t0, ix_t1, ix_t2, ix_t3, lenD_tup, tupleD_tup, listD_tup, List.getElem?_cons_zero, List.getElem?_cons_succ, List.set_cons_zero, List.set_cons_succ, List.length_cons, List.length_nil, Nat.zero_add, Nat.reduceAdd, Nat.reduceSub, Nat.reduceMul, decide_true, decide_false, Bool.not_true, Bool.not_false, Int.reduceMul, Int.reduceAdd, Int.reduceSub, Int.reduceNeg, Int.reduceLT, Int.reduceLE, Int.reducePow, Int.reduceEq, Int.reduceNe, Nat.reduceLeDiff, Nat.reduceLT, Bool.and_true, Bool.true_and, Bool.and_self, ↓reduceIte, Bool.false_eq_true, sx_mt, kMt1_, kMt2_, sx_isL, kIsL_ref, kIsL2_, absD_int, minD_int, maxD_int, negD_int, isi_tup_tuple, isi_int_int, isi_int_bool, kWh_t, kWh_f, nc1, nc2, nc3, nc4, nc5, nc6, nc7, nc8, nc9, nc10, nc11, nc12, nc13, nc14, nc15, nc16, mulD_int, mulD_intL, kRg1_, kRg2_, i62_eq, i63_eq, i64_eq, LIM, List.length_append, at_k, at_k0, set_k, set_k0, kDict_eq, kDict2_, keyP_str, keyP_int, allO_nil, allO_c, kAll_, mO_some, ixD_ref, kIx_lst, kIx_dK, kIx_dT, kIt_ref, kItr_, kFor_ref, kLoopL_, lenD_ref, kLen_lst, kLen_dK, kLen_dT, tupleD_ref, kTuple_, listD_ref, kList_, setD_ref, kSet_lst, kSetL_, kSet_dK, kSetK_, kSet_dT, kSetT_, appendD_ref, kApp_, addD_ref, kAddL_, mulD_ref, kMulL_, slD_ref, kSlice_, slD_tup, maxD_ref, minD_ref, kOnInts_, Option.bind_some, Option.map_some, maxOf, minOf, List.foldl_cons, List.foldl_nil, mergeD, putD, valD, List.any_cons, List.any_nil, Sum.inr.injEq, Sum.inl.injEq, Bool.or_false, Bool.false_or, Bool.or_true, List.find?_cons, List.find?_nil, keyK_str, keyK_int, intK_int, List.map_cons, List.map_nil, List.cons_append, List.nil_append, List.replicate, List.append_assoc] at q ⊢
    simp only [bind_ret, sx_seq, kSeq_nx, kSeq_rt, kSeq_bk, kSeq_ct, sx_next, sx_break, sx_cont, sx_drop, kDrop_, sx_retS, kRetS_, sx_if, kIf_t, kIf_f, sx_asg, kAsg_, kNx_, sx_nm, sx_var, kVar_, sx_ret, sx_op, kOp1_, kOp2_, sx_un, kUn_, sx_nil, sx_cons, kCons1_, kCons2_, sx_tup, sx_lst, kTup_, kLst_, sx_fn, kFn_, sx_call, sx_bool, kBool_, sx_tru, kTru_bl, sx_and, sx_or, sx_not, kAnd_t, kAnd_f, kOr_t, kOr_f, kNot_, sx_andV, sx_orV, sx_notV, kAndV_t, kAndV_f, kOrV_t, kOrV_f, kNotV_, sx_ifE, kIfE_t, kIfE_f, sx_chain, kCh1_, kCh2_, kCh3_t, kCh3_f, sx_gNil, sx_gCons, kG_, sx_gTup, gT_nm, gT_tup, gTs_nil, gTs_cons, sx_gSub, kSub1_, kSub2_, sx_par, kPar_, sx_par3, kPar3_, sx_it, kIt_tup, sx_rg1, sx_rg2, sx_for, kFor_rg, kFor_tp, sx_loopT, sx_loopT0, sx_loopR0, kGo_, kTurn_nx, kTurn_ct, kTurn_bk, kTurn_rt, sx_noPart, sx_part, kPart_, sx_sl, kSl1_, kSl2_, kSl3_, sx_lc, sx_pairs0, sx_pairs, kP1_, kP2_, kP3_, sx_dict, eqD_int, neD_int, addD_int, subD_int, ltD_int, leD_int, gtD_int, geD_int, intD_int, intD_bl, ix_t0, ix_t1, ix_t2, ix_t3, lenD_tup, tupleD_tup, listD_tup, List.getElem?_cons_zero, List.getElem?_cons_succ, List.set_cons_zero, List.set_cons_succ, List.length_cons, List.length_nil, Nat.zero_add, Nat.reduceAdd, Nat.reduceSub, Nat.reduceMul, decide_true, decide_false, Bool.not_true, Bool.not_false, Int.reduceMul, Int.reduceAdd, Int.reduceSub, Int.reduceNeg, Int.reduceLT, Int.reduceLE, Int.reducePow, Int.reduceEq, Int.reduceNe, Nat.reduceLeDiff, Nat.reduceLT, Bool.and_true, Bool.true_and, Bool.and_self, ↓reduceIte, Bool.false_eq_true, sx_mt, kMt1_, kMt2_, sx_isL, kIsL_ref, kIsL2_, absD_int, minD_int, maxD_int, negD_int, isi_tup_tuple, isi_int_int, isi_int_bool, kWh_t, kWh_f, nc1, nc2, nc3, nc4, nc5, nc6, nc7, nc8, nc9, nc10, nc11, nc12, nc13, nc14, nc15, nc16, mulD_int, mulD_intL, kRg1_, kRg2_, i62_eq, i63_eq, i64_eq, LIM, List.length_append, at_k, at_k0, set_k, set_k0, kDict_eq, kDict2_, keyP_str, keyP_int, allO_nil, allO_c, kAll_, mO_some, ixD_ref, kIx_lst, kIx_dK, kIx_dT, kIt_ref, kItr_, kFor_ref, kLoopL_, lenD_ref, kLen_lst, kLen_dK, kLen_dT, tupleD_ref, kTuple_, listD_ref, kList_, setD_ref, kSet_lst, kSetL_, kSet_dK, kSetK_, kSet_dT, kSetT_, appendD_ref, kApp_, addD_ref, kAddL_, mulD_ref, kMulL_, slD_ref, kSlice_, slD_tup, maxD_ref, minD_ref, kOnInts_, Option.bind_some, Option.map_some, maxOf, minOf, List.foldl_cons, List.foldl_nil, mergeD, putD, valD, List.any_cons, List.any_nil, Sum.inr.injEq, Sum.inl.injEq, Bool.or_false, Bool.false_or, Bool.or_true, List.find?_cons, List.find?_nil, keyK_str, keyK_int, intK_int, List.map_cons, List.map_nil, List.cons_append, List.nil_append, List.replicate, List.append_assoc, kCall_ q]
    exact q2
theorem passed_ok {i : Nat} {S : List LO} {bs : List Bool} {sts : List (List Tile)} (hi : S[i]? = some (.lst (bs.map bD))) (hb : bs.length ≤ 1000) (ht : okStages bs.length sts = true) :
    ∃ n g, Run F__law_passed [stD sts, .ref i] S (.ref n) (S ++ g) ∧ (S ++ g)[n]? = some (.lst ((passB bs sts).map bD)) := by
  obtain ⟨i', x', g', q, h2⟩ := passl_ok (T := stD sts) sts S [] bs i none (by simpa using hi) hb ht
  refine ⟨(S ++ g').length, g' ++ [.lst ((passB bs sts).map bD)], run_fn rfl (e := [some (stD sts), some (.ref i'), x']) ?_, by rw [← List.append_assoc]; exact at_end⟩
  rw [List.append_nil] at q
  unfold m__law_passed startE
  unfold stD at q ⊢
  simp only [bind_ret, sx_seq, kSeq_nx, kSeq_rt, kSeq_bk, kSeq_ct, sx_next, sx_break, sx_cont, sx_drop, kDrop_, sx_retS, kRetS_, sx_if, kIf_t, kIf_f, sx_asg, kAsg_, kNx_, sx_nm, sx_var, kVar_, sx_ret, sx_op, kOp1_, kOp2_, sx_un, kUn_, sx_nil, sx_cons, kCons1_, kCons2_, sx_tup, sx_lst, kTup_, kLst_, sx_fn, kFn_, sx_call, sx_bool, kBool_, sx_tru, kTru_bl, sx_and, sx_or, sx_not, kAnd_t, kAnd_f, kOr_t, kOr_f, kNot_, sx_andV, sx_orV, sx_notV, kAndV_t, kAndV_f, kOrV_t, kOrV_f, kNotV_, sx_ifE, kIfE_t, kIfE_f, sx_chain, kCh1_, kCh2_, kCh3_t, kCh3_f, sx_gNil, sx_gCons, kG_, sx_gTup, gT_nm, gT_tup, gTs_nil, gTs_cons, sx_gSub, kSub1_, kSub2_, sx_par, kPar_, sx_par3, kPar3_, sx_it, kIt_tup, sx_rg1, sx_rg2, sx_for, kFor_rg, kFor_tp, sx_loopT, sx_loopT0, sx_loopR0, kGo_, kTurn_nx, kTurn_ct, kTurn_bk, kTurn_rt, sx_noPart, sx_part, kPart_, sx_sl, kSl1_, kSl2_, kSl3_, sx_lc, sx_pairs0, sx_pairs, kP1_, kP2_, kP3_, sx_dict, eqD_int, neD_int, addD_int, subD_int, ltD_int, leD_int, gtD_int, geD_int, intD_int, intD_bl, ix_t0, ix_t1, ix_t2, ix_t3, lenD_tup, tupleD_tup, listD_tup, List.getElem?_cons_zero, List.getElem?_cons_succ, List.set_cons_zero, List.set_cons_succ, List.length_cons, List.length_nil, Nat.zero_add, Nat.reduceAdd, Nat.reduceSub, Nat.reduceMul, decide_true, decide_false, Bool.not_true, Bool.not_false, Int.reduceMul, Int.reduceAdd, Int.reduceSub, Int.reduceNeg, Int.reduceLT, Int.reduceLE, Int.reducePow, Int.reduceEq, Int.reduceNe, Nat.reduceLeDiff, Nat.reduceLT, Bool.and_true, Bool.true_and, Bool.and_self, ↓reduceIte, Bool.false_eq_true, sx_mt, kMt1_, kMt2_, sx_isL, kIsL_ref, kIsL2_, absD_int, minD_int, maxD_int, negD_int, isi_tup_tuple, isi_int_int, isi_int_bool, kWh_t, kWh_f, nc1, nc2, nc3, nc4, nc5, nc6, nc7, nc8, nc9, nc10, nc11, nc12, nc13, nc14, nc15, nc16, mulD_int, mulD_intL, kRg1_, kRg2_, i62_eq, i63_eq, i64_eq, LIM, List.length_append, at_k, at_k0, set_k, set_k0, kDict_eq, kDict2_, keyP_str, keyP_int, allO_nil, allO_c, kAll_, mO_some, ixD_ref, kIx_lst, kIx_dK, kIx_dT, kIt_ref, kItr_, kFor_ref, kLoopL_, lenD_ref, kLen_lst, kLen_dK, kLen_dT, tupleD_ref, kTuple_, listD_ref, kList_, setD_ref, kSet_lst, kSetL_, kSet_dK, kSetK_, kSet_dT, kSetT_, appendD_ref, kApp_, addD_ref, kAddL_, mulD_ref, kMulL_, slD_ref, kSlice_, slD_tup, maxD_ref, minD_ref, kOnInts_, Option.bind_some, Option.map_some, maxOf, minOf, List.foldl_cons, List.foldl_nil, mergeD, putD, valD, List.any_cons, List.any_nil, Sum.inr.injEq, Sum.inl.injEq, Bool.or_false, Bool.false_or, Bool.or_true, List.find?_cons, List.find?_nil, keyK_str, keyK_int, intK_int, List.map_cons, List.map_nil, List.cons_append, List.nil_append, List.replicate, List.append_assoc]
  rw [q]
  simp only [bind_ret, sx_seq, kSeq_nx, kSeq_rt, kSeq_bk, kSeq_ct, sx_next, sx_break, sx_cont, sx_drop, kDrop_, sx_retS, kRetS_, sx_if, kIf_t, kIf_f, sx_asg, kAsg_, kNx_, sx_nm, sx_var, kVar_, sx_ret, sx_op, kOp1_, kOp2_, sx_un, kUn_, sx_nil, sx_cons, kCons1_, kCons2_, sx_tup, sx_lst, kTup_, kLst_, sx_fn, kFn_, sx_call, sx_bool, kBool_, sx_tru, kTru_bl, sx_and, sx_or, sx_not, kAnd_t, kAnd_f, kOr_t, kOr_f, kNot_, sx_andV, sx_orV, sx_notV, kAndV_t, kAndV_f, kOrV_t, kOrV_f, kNotV_, sx_ifE, kIfE_t, kIfE_f, sx_chain, kCh1_, kCh2_, kCh3_t, kCh3_f, sx_gNil, sx_gCons, kG_, sx_gTup, gT_nm, gT_tup, gTs_nil, gTs_cons, sx_gSub, kSub1_, kSub2_, sx_par, kPar_, sx_par3, kPar3_, sx_it, kIt_tup, sx_rg1, sx_rg2, sx_for, kFor_rg, kFor_tp, sx_loopT, sx_loopT0, sx_loopR0, kGo_, kTurn_nx, kTurn_ct, kTurn_bk, kTurn_rt, sx_noPart, sx_part, kPart_, sx_sl, kSl1_, kSl2_, kSl3_, sx_lc, sx_pairs0, sx_pairs, kP1_, kP2_, kP3_, sx_dict, eqD_int, neD_int, addD_int, subD_int, ltD_int, leD_int, gtD_int, geD_int, intD_int, intD_bl, ix_t0, ix_t1, ix_t2, ix_t3, lenD_tup, tupleD_tup, listD_tup, List.getElem?_cons_zero, List.getElem?_cons_succ, List.set_cons_zero, List.set_cons_succ, List.length_cons, List.length_nil, Nat.zero_add, Nat.reduceAdd, Nat.reduceSub, Nat.reduceMul, decide_true, decide_false, Bool.not_true, Bool.not_false, Int.reduceMul, Int.reduceAdd, Int.reduceSub, Int.reduceNeg, Int.reduceLT, Int.reduceLE, Int.reducePow, Int.reduceEq, Int.reduceNe, Nat.reduceLeDiff, Nat.reduceLT, Bool.and_true, Bool.true_and, Bool.and_self, ↓reduceIte, Bool.false_eq_true, sx_mt, kMt1_, kMt2_, sx_isL, kIsL_ref, kIsL2_, absD_int, minD_int, maxD_int, negD_int, isi_tup_tuple, isi_int_int, isi_int_bool, kWh_t, kWh_f, nc1, nc2, nc3, nc4, nc5, nc6, nc7, nc8, nc9, nc10, nc11, nc12, nc13, nc14, nc15, nc16, mulD_int, mulD_intL, kRg1_, kRg2_, i62_eq, i63_eq, i64_eq, LIM, List.length_append, at_k, at_k0, set_k, set_k0, kDict_eq, kDict2_, keyP_str, keyP_int, allO_nil, allO_c, kAll_, mO_some, ixD_ref, kIx_lst, kIx_dK, kIx_dT, kIt_ref, kItr_, kFor_ref, kLoopL_, lenD_ref, kLen_lst, kLen_dK, kLen_dT, tupleD_ref, kTuple_, listD_ref, kList_, setD_ref, kSet_lst, kSetL_, kSet_dK, kSetK_, kSet_dT, kSetT_, appendD_ref, kApp_, addD_ref, kAddL_, mulD_ref, kMulL_, slD_ref, kSlice_, slD_tup, maxD_ref, minD_ref, kOnInts_, Option.bind_some, Option.map_some, maxOf, minOf, List.foldl_cons, List.foldl_nil, mergeD, putD, valD, List.any_cons, List.any_nil, Sum.inr.injEq, Sum.inl.injEq, Bool.or_false, Bool.false_or, Bool.or_true, List.find?_cons, List.find?_nil, keyK_str, keyK_int, intK_int, List.map_cons, List.map_nil, List.cons_append, List.nil_append, List.replicate, List.append_assoc, h2]
/-! ### slots -/
def slotF (bs : List Bool) : Nat → Nat → List Bool → List Bool
  | 0, _, f => f
  | n + 1, k, f => slotF bs n (k + 1) (f.set (2 * k) (bit bs k))
def slotB (rows : Nat) (bs : List Bool) : List Bool := slotF bs bs.length 0 (List.replicate rows false)
theorem slotl_ok {R : D} {i : Nat} {S : List LO} {bs : List Bool} (hi : S[i]? = some (.lst (bs.map bD))) : ∀ (n k : Nat) (f : List Bool) (x : Option D) (g : List LO), k + n = bs.length → 2 * bs.length ≤ f.length + 1 →
    ∃ x', loopR (gNm 3) m__law_slot_bits_l1 n (k : Int) ⟨[some R, some (.ref i), some (.ref S.length), x], S ++ .lst (f.map bD) :: g⟩ = .ret .nx ⟨[some R, some (.ref i), some (.ref S.length), x'], S ++ .lst ((slotF bs n k f).map bD) :: g⟩
  | 0, k, f, x, g, _, _ => ⟨x, rfl⟩
  | n + 1, k, f, x, g, hk, hl => by
    obtain ⟨x', q⟩ := slotl_ok hi n (k + 1) (f.set (2 * k) (bit bs k)) (some (.int (k : Int))) g (by omega) (by simpa using hl)
    refine ⟨x', ?_⟩
    have hi' : ∀ g : List LO, (S ++ g)[i]? = some (.lst (bs.map bD)) := fun g => at_old hi
    have h1 : ixN f.length (2 * (k : Int)) = some (2 * k) := by
      rw [show 2 * (k : Int) = ((2 * k : Nat) : Int) by omega]
      exact ixN_of (by omega)
    rw [sx_loopR]
    unfold m__law_slot_bits_l1
    simp only [bind_ret, sx_seq, kSeq_nx, kSeq_rt, kSeq_bk, kSeq_ct, sx_next, sx_break, sx_cont, sx_drop, kDrop_, sx_retS, kRetS_, sx_if, kIf_t, kIf_f, sx_asg, kAsg_, kNx_, sx_nm, sx_var, kVar_, sx_ret, sx_op, kOp1_, kOp2_, sx_un, kUn_, sx_nil, sx_cons, kCons1_, kCons2_, sx_tup, sx_lst, kTup_, kLst_, sx_fn, kFn_, sx_call, sx_bool, kBool_, sx_tru, kTru_bl, sx_and, sx_or, sx_not, kAnd_t, kAnd_f, kOr_t, kOr_f, kNot_, sx_andV, sx_orV, sx_notV, kAndV_t, kAndV_f, kOrV_t, kOrV_f, kNotV_, sx_ifE, kIfE_t, kIfE_f, sx_chain, kCh1_, kCh2_, kCh3_t, kCh3_f, sx_gNil, sx_gCons, kG_, sx_gTup, gT_nm, gT_tup, gTs_nil, gTs_cons, sx_gSub, kSub1_, kSub2_, sx_par, kPar_, sx_par3, kPar3_, sx_it, kIt_tup, sx_rg1, sx_rg2, sx_for, kFor_rg, kFor_tp, sx_loopT, sx_loopT0, sx_loopR0, kGo_, kTurn_nx, kTurn_ct, kTurn_bk, kTurn_rt, sx_noPart, sx_part, kPart_, sx_sl, kSl1_, kSl2_, kSl3_, sx_lc, sx_pairs0, sx_pairs, kP1_, kP2_, kP3_, sx_dict, eqD_int, neD_int, addD_int, subD_int, ltD_int, leD_int, gtD_int, geD_int, intD_int, intD_bl, ix_t0, ix_t1, ix_t2, ix_t3, lenD_tup, tupleD_tup, listD_tup, List.getElem?_cons_zero, List.getElem?_cons_succ, List.set_cons_zero, List.set_cons_succ, List.length_cons, List.length_nil, Nat.zero_add, Nat.reduceAdd, Nat.reduceSub, Nat.reduceMul, decide_true, decide_false, Bool.not_true, Bool.not_false, Int.reduceMul, Int.reduceAdd, Int.reduceSub, Int.reduceNeg, Int.reduceLT, Int.reduceLE, Int.reducePow, Int.reduceEq, Int.reduceNe, Nat.reduceLeDiff, Nat.reduceLT, Bool.and_true, Bool.true_and, Bool.and_self, ↓reduceIte, Bool.false_eq_true, sx_mt, kMt1_, kMt2_, sx_isL, kIsL_ref, kIsL2_, absD_int, minD_int, maxD_int, negD_int, isi_tup_tuple, isi_int_int, isi_int_bool, kWh_t, kWh_f, nc1, nc2, nc3, nc4, nc5, nc6, nc7, nc8, nc9, nc10, nc11, nc12, nc13, nc14, nc15, nc16, mulD_int, mulD_intL, kRg1_, kRg2_, i62_eq, i63_eq, i64_eq, LIM, List.length_append, at_k, at_k0, set_k, set_k0, kDict_eq, kDict2_, keyP_str, keyP_int, allO_nil, allO_c, kAll_, mO_some, ixD_ref, kIx_lst, kIx_dK, kIx_dT, kIt_ref, kItr_, kFor_ref, kLoopL_, lenD_ref, kLen_lst, kLen_dK, kLen_dT, tupleD_ref, kTuple_, listD_ref, kList_, setD_ref, kSet_lst, kSetL_, kSet_dK, kSetK_, kSet_dT, kSetT_, appendD_ref, kApp_, addD_ref, kAddL_, mulD_ref, kMulL_, slD_ref, kSlice_, slD_tup, maxD_ref, minD_ref, kOnInts_, Option.bind_some, Option.map_some, maxOf, minOf, List.foldl_cons, List.foldl_nil, mergeD, putD, valD, List.any_cons, List.any_nil, Sum.inr.injEq, Sum.inl.injEq, Bool.or_false, Bool.false_or, Bool.or_true, List.find?_cons, List.find?_nil, keyK_str, keyK_int, intK_int, List.map_cons, List.map_nil, List.cons_append, List.nil_append, List.replicate, List.append_assoc, hi', bit_at (show k < bs.length by omega), h1, List.length_map, ← List.map_set]
    exact q
theorem slot_ok {i rows : Nat} {S : List LO} {bs : List Bool} (hi : S[i]? = some (.lst (bs.map bD))) (hr : rows ≤ 1000) (hl : 2 * bs.length ≤ rows + 1) :
    ∃ n g, Run F__law_slot_bits [.int (rows : Int), .ref i] S (.ref n) (S ++ g) ∧ (S ++ g)[n]? = some (.lst ((slotB rows bs).map bD)) := by
  obtain ⟨x', q⟩ := slotl_ok (R := .int (rows : Int)) (S := S ++ [.lst [.int 0]]) (at_old hi) bs.length 0 (List.replicate rows false) none [] (by omega) (by simpa using hl)
  refine ⟨S.length + 1, [.lst [.int 0], .lst ((slotB rows bs).map bD)], run_fn rfl (e := [some (.int (rows : Int)), some (.ref i), some (.ref (S.length + 1)), x']) ?_, at_end1⟩
  unfold m__law_slot_bits startE
  have hi' : ∀ g : List LO, (S ++ g)[i]? = some (.lst (bs.map bD)) := fun g => at_old hi
  have b1 : i63 (rows : Int) = true := i63_of (by omega)
  have b3 : 1 * (rows : Int).toNat ≤ 16777216 := by omega
  have c1 : i62 (bs.length : Int) = true := i62_of (by omega)
  have mm : ∀ (e : List (Option D)) (st : List LO), kMulL (rows : Int) (some (.lst [.int 0])) ⟨e, st⟩ = .ret (.ref st.length) ⟨e, st ++ [.lst ((List.replicate rows false).map bD)]⟩ := fun e st => by
    rw [kMulL_ b1 (by simpa using b3), Int.toNat_natCast, zeros]
  have r1 : ∀ s, kRg1 [.int (bs.length : Int)] s = .ret (.rg 0 bs.length) s := fun s => by
    rw [kRg1_ c1, Int.toNat_natCast]
  simp only [bind_ret, sx_seq, kSeq_nx, kSeq_rt, kSeq_bk, kSeq_ct, sx_next, sx_break, sx_cont, sx_drop, kDrop_, sx_retS, kRetS_, sx_if, kIf_t, kIf_f, sx_asg, kAsg_, kNx_, sx_nm, sx_var, kVar_, sx_ret, sx_op, kOp1_, kOp2_, sx_un, kUn_, sx_nil, sx_cons, kCons1_, kCons2_, sx_tup, sx_lst, kTup_, kLst_, sx_fn, kFn_, sx_call, sx_bool, kBool_, sx_tru, kTru_bl, sx_and, sx_or, sx_not, kAnd_t, kAnd_f, kOr_t, kOr_f, kNot_, sx_andV, sx_orV, sx_notV, kAndV_t, kAndV_f, kOrV_t, kOrV_f, kNotV_, sx_ifE, kIfE_t, kIfE_f, sx_chain, kCh1_, kCh2_, kCh3_t, kCh3_f, sx_gNil, sx_gCons, kG_, sx_gTup, gT_nm, gT_tup, gTs_nil, gTs_cons, sx_gSub, kSub1_, kSub2_, sx_par, kPar_, sx_par3, kPar3_, sx_it, kIt_tup, sx_rg1, sx_rg2, sx_for, kFor_rg, kFor_tp, sx_loopT, sx_loopT0, sx_loopR0, kGo_, kTurn_nx, kTurn_ct, kTurn_bk, kTurn_rt, sx_noPart, sx_part, kPart_, sx_sl, kSl1_, kSl2_, kSl3_, sx_lc, sx_pairs0, sx_pairs, kP1_, kP2_, kP3_, sx_dict, eqD_int, neD_int, addD_int, subD_int, ltD_int, leD_int, gtD_int, geD_int, intD_int, intD_bl, ix_t0, ix_t1, ix_t2, ix_t3, lenD_tup, tupleD_tup, listD_tup, List.getElem?_cons_zero, List.getElem?_cons_succ, List.set_cons_zero, List.set_cons_succ, List.length_cons, List.length_nil, Nat.zero_add, Nat.reduceAdd, Nat.reduceSub, Nat.reduceMul, decide_true, decide_false, Bool.not_true, Bool.not_false, Int.reduceMul, Int.reduceAdd, Int.reduceSub, Int.reduceNeg, Int.reduceLT, Int.reduceLE, Int.reducePow, Int.reduceEq, Int.reduceNe, Nat.reduceLeDiff, Nat.reduceLT, Bool.and_true, Bool.true_and, Bool.and_self, ↓reduceIte, Bool.false_eq_true, sx_mt, kMt1_, kMt2_, sx_isL, kIsL_ref, kIsL2_, absD_int, minD_int, maxD_int, negD_int, isi_tup_tuple, isi_int_int, isi_int_bool, kWh_t, kWh_f, nc1, nc2, nc3, nc4, nc5, nc6, nc7, nc8, nc9, nc10, nc11, nc12, nc13, nc14, nc15, nc16, mulD_int, mulD_intL, kRg1_, kRg2_, i62_eq, i63_eq, i64_eq, LIM, List.length_append, at_k, at_k0, set_k, set_k0, kDict_eq, kDict2_, keyP_str, keyP_int, allO_nil, allO_c, kAll_, mO_some, ixD_ref, kIx_lst, kIx_dK, kIx_dT, kIt_ref, kItr_, kFor_ref, kLoopL_, lenD_ref, kLen_lst, kLen_dK, kLen_dT, tupleD_ref, kTuple_, listD_ref, kList_, setD_ref, kSet_lst, kSetL_, kSet_dK, kSetK_, kSet_dT, kSetT_, appendD_ref, kApp_, addD_ref, kAddL_, mulD_ref, kMulL_, slD_ref, kSlice_, slD_tup, maxD_ref, minD_ref, kOnInts_, Option.bind_some, Option.map_some, maxOf, minOf, List.foldl_cons, List.foldl_nil, mergeD, putD, valD, List.any_cons, List.any_nil, Sum.inr.injEq, Sum.inl.injEq, Bool.or_false, Bool.false_or, Bool.or_true, List.find?_cons, List.find?_nil, keyK_str, keyK_int, intK_int, List.map_cons, List.map_nil, List.cons_append, List.nil_append, List.replicate, List.append_assoc, hi', hi, List.length_map, mm, r1]
  simp only [bind_ret, sx_seq, kSeq_nx, kSeq_rt, kSeq_bk, kSeq_ct, sx_next, sx_break, sx_cont, sx_drop, kDrop_, sx_retS, kRetS_, sx_if, kIf_t, kIf_f, sx_asg, kAsg_, kNx_, sx_nm, sx_var, kVar_, sx_ret, sx_op, kOp1_, kOp2_, sx_un, kUn_, sx_nil, sx_cons, kCons1_, kCons2_, sx_tup, sx_lst, kTup_, kLst_, sx_fn, kFn_, sx_call, sx_bool, kBool_, sx_tru, kTru_bl, sx_and, sx_or, sx_not, kAnd_t, kAnd_f, kOr_t, kOr_f, kNot_, sx_andV, sx_orV, sx_notV, kAndV_t, kAndV_f, kOrV_t, kOrV_f, kNotV_, sx_ifE, kIfE_t, kIfE_f, sx_chain, kCh1_, kCh2_, kCh3_t, kCh3_f, sx_gNil, sx_gCons, kG_, sx_gTup, gT_nm, gT_tup, gTs_nil, gTs_cons, sx_gSub, kSub1_, kSub2_, sx_par, kPar_, sx_par3, kPar3_, sx_it, kIt_tup, sx_rg1, sx_rg2, sx_for, kFor_rg, kFor_tp, sx_loopT, sx_loopT0, sx_loopR0, kGo_, kTurn_nx, kTurn_ct, kTurn_bk, kTurn_rt, sx_noPart, sx_part, kPart_, sx_sl, kSl1_, kSl2_, kSl3_, sx_lc, sx_pairs0, sx_pairs, kP1_, kP2_, kP3_, sx_dict, eqD_int, neD_int, addD_int, subD_int, ltD_int, leD_int, gtD_int, geD_int, intD_int, intD_bl, ix_t0, ix_t1, ix_t2, ix_t3, lenD_tup, tupleD_tup, listD_tup, List.getElem?_cons_zero, List.getElem?_cons_succ, List.set_cons_zero, List.set_cons_succ, List.length_cons, List.length_nil, Nat.zero_add, Nat.reduceAdd, Nat.reduceSub, Nat.reduceMul, decide_true, decide_false, Bool.not_true, Bool.not_false, Int.reduceMul, Int.reduceAdd, Int.reduceSub, Int.reduceNeg, Int.reduceLT, Int.reduceLE, Int.reducePow, Int.reduceEq, Int.reduceNe, Nat.reduceLeDiff, Nat.reduceLT, Bool.and_true, Bool.true_and, Bool.and_self, ↓reduceIte, Bool.false_eq_true, sx_mt, kMt1_, kMt2_, sx_isL, kIsL_ref, kIsL2_, absD_int, minD_int, maxD_int, negD_int, isi_tup_tuple, isi_int_int, isi_int_bool, kWh_t, kWh_f, nc1, nc2, nc3, nc4, nc5, nc6, nc7, nc8, nc9, nc10, nc11, nc12, nc13, nc14, nc15, nc16, mulD_int, mulD_intL, kRg1_, kRg2_, i62_eq, i63_eq, i64_eq, LIM, List.length_append, at_k, at_k0, set_k, set_k0, kDict_eq, kDict2_, keyP_str, keyP_int, allO_nil, allO_c, kAll_, mO_some, ixD_ref, kIx_lst, kIx_dK, kIx_dT, kIt_ref, kItr_, kFor_ref, kLoopL_, lenD_ref, kLen_lst, kLen_dK, kLen_dT, tupleD_ref, kTuple_, listD_ref, kList_, setD_ref, kSet_lst, kSetL_, kSet_dK, kSetK_, kSet_dT, kSetT_, appendD_ref, kApp_, addD_ref, kAddL_, mulD_ref, kMulL_, slD_ref, kSlice_, slD_tup, maxD_ref, minD_ref, kOnInts_, Option.bind_some, Option.map_some, maxOf, minOf, List.foldl_cons, List.foldl_nil, mergeD, putD, valD, List.any_cons, List.any_nil, Sum.inr.injEq, Sum.inl.injEq, Bool.or_false, Bool.false_or, Bool.or_true, List.find?_cons, List.find?_nil, keyK_str, keyK_int, intK_int, List.map_cons, List.map_nil, List.cons_append, List.nil_append, List.replicate, List.append_assoc, Int.ofNat_zero, Int.natCast_zero] at q
  rw [q]
  simp only [bind_ret, sx_seq, kSeq_nx, kSeq_rt, kSeq_bk, kSeq_ct, sx_next, sx_break, sx_cont, sx_drop, kDrop_, sx_retS, kRetS_, sx_if, kIf_t, kIf_f, sx_asg, kAsg_, kNx_, sx_nm, sx_var, kVar_, sx_ret, sx_op, kOp1_, kOp2_, sx_un, kUn_, sx_nil, sx_cons, kCons1_, kCons2_, sx_tup, sx_lst, kTup_, kLst_, sx_fn, kFn_, sx_call, sx_bool, kBool_, sx_tru, kTru_bl, sx_and, sx_or, sx_not, kAnd_t, kAnd_f, kOr_t, kOr_f, kNot_, sx_andV, sx_orV, sx_notV, kAndV_t, kAndV_f, kOrV_t, kOrV_f, kNotV_, sx_ifE, kIfE_t, kIfE_f, sx_chain, kCh1_, kCh2_, kCh3_t, kCh3_f, sx_gNil, sx_gCons, kG_, sx_gTup, gT_nm, gT_tup, gTs_nil, gTs_cons, sx_gSub, kSub1_, kSub2_, sx_par, kPar_, sx_par3, kPar3_, sx_it, kIt_tup, sx_rg1, sx_rg2, sx_for, kFor_rg, kFor_tp, sx_loopT, sx_loopT0, sx_loopR0, kGo_, kTurn_nx, kTurn_ct, kTurn_bk, kTurn_rt, sx_noPart, sx_part, kPart_, sx_sl, kSl1_, kSl2_, kSl3_, sx_lc, sx_pairs0, sx_pairs, kP1_, kP2_, kP3_, sx_dict, eqD_int, neD_int, addD_int, subD_int, ltD_int, leD_int, gtD_int, geD_int, intD_int, intD_bl, ix_t0, ix_t1, ix_t2, ix_t3, lenD_tup, tupleD_tup, listD_tup, List.getElem?_cons_zero, List.getElem?_cons_succ, List.set_cons_zero, List.set_cons_succ, List.length_cons, List.length_nil, Nat.zero_add, Nat.reduceAdd, Nat.reduceSub, Nat.reduceMul, decide_true, decide_false, Bool.not_true, Bool.not_false, Int.reduceMul, Int.reduceAdd, Int.reduceSub, Int.reduceNeg, Int.reduceLT, Int.reduceLE, Int.reducePow, Int.reduceEq, Int.reduceNe, Nat.reduceLeDiff, Nat.reduceLT, Bool.and_true, Bool.true_and, Bool.and_self, ↓reduceIte, Bool.false_eq_true, sx_mt, kMt1_, kMt2_, sx_isL, kIsL_ref, kIsL2_, absD_int, minD_int, maxD_int, negD_int, isi_tup_tuple, isi_int_int, isi_int_bool, kWh_t, kWh_f, nc1, nc2, nc3, nc4, nc5, nc6, nc7, nc8, nc9, nc10, nc11, nc12, nc13, nc14, nc15, nc16, mulD_int, mulD_intL, kRg1_, kRg2_, i62_eq, i63_eq, i64_eq, LIM, List.length_append, at_k, at_k0, set_k, set_k0, kDict_eq, kDict2_, keyP_str, keyP_int, allO_nil, allO_c, kAll_, mO_some, ixD_ref, kIx_lst, kIx_dK, kIx_dT, kIt_ref, kItr_, kFor_ref, kLoopL_, lenD_ref, kLen_lst, kLen_dK, kLen_dT, tupleD_ref, kTuple_, listD_ref, kList_, setD_ref, kSet_lst, kSetL_, kSet_dK, kSetK_, kSet_dT, kSetT_, appendD_ref, kApp_, addD_ref, kAddL_, mulD_ref, kMulL_, slD_ref, kSlice_, slD_tup, maxD_ref, minD_ref, kOnInts_, Option.bind_some, Option.map_some, maxOf, minOf, List.foldl_cons, List.foldl_nil, mergeD, putD, valD, List.any_cons, List.any_nil, Sum.inr.injEq, Sum.inl.injEq, Bool.or_false, Bool.false_or, Bool.or_true, List.find?_cons, List.find?_nil, keyK_str, keyK_int, intK_int, List.map_cons, List.map_nil, List.cons_append, List.nil_append, List.replicate, List.append_assoc]
  rfl
/-! ### leads -/
theorem leads_ok {i j rows : Nat} {S : List LO} {a b : List Bool} {sts : List (List Tile)} (hi : S[i]? = some (.lst (a.map bD))) (hj : S[j]? = some (.lst (b.map bD))) (hr : rows ≤ 1000) (ha : 2 * a.length ≤ rows + 1) (hb : 2 * b.length ≤ rows + 1)
    (ht : okStages rows sts = true) (hp : passB (slotB rows a) sts = slotB rows b) : ∃ g, Run F__law_leads [stD sts, .int (rows : Int), .ref i, .ref j] S (.bl true) (S ++ g) := by
  have len : ∀ (n k : Nat) (bs f : List Bool), (slotF bs n k f).length = f.length := by
    intro n
    induction n with
    | zero => intro k bs f; rfl
    | succ n ih => intro k bs f; rw [slotF, ih]; simp
  have hlen : (slotB rows a).length = rows := by unfold slotB; rw [len]; simp
  obtain ⟨n1, g1, q1, h1⟩ := slot_ok hi hr ha
  obtain ⟨n2, g2, q2, h2⟩ := passed_ok h1 (by rw [hlen]; exact hr) (by rw [hlen]; exact ht)
  rw [List.append_assoc] at q2 h2
  obtain ⟨n3, g3, q3, h3⟩ := slot_ok (S := S ++ (g1 ++ g2)) (at_old hj) hr hb
  rw [List.append_assoc] at q3 h3
  rw [hp] at h2
  have h2' : (S ++ ((g1 ++ g2) ++ g3))[n2]? = some (.lst ((slotB rows b).map bD)) := by rw [← List.append_assoc]; exact at_old h2
  refine run_ex rfl ⟨(g1 ++ g2) ++ g3, [some (stD sts), some (.int (rows : Int)), some (.ref i), some (.ref j)], ?_⟩
  have ee : ∀ (e : List (Option D)), eqD (.ref n2) (.ref n3) ⟨e, S ++ ((g1 ++ g2) ++ g3)⟩ = .ret (.bl true) ⟨e, S ++ ((g1 ++ g2) ++ g3)⟩ := fun e =>
    eqD_same (toP_ints (l := (slotB rows b).map bI) (k := 64) (by rw [List.map_map]; exact h2')) (toP_ints (l := (slotB rows b).map bI) (k := 64) (by rw [List.map_map]; exact h3)) (shaped_ints _)
  unfold m__law_leads startE
  simp only [bind_ret, sx_seq, kSeq_nx, kSeq_rt, kSeq_bk, kSeq_ct, sx_next, sx_break, sx_cont, sx_drop, kDrop_, sx_retS, kRetS_, sx_if, kIf_t, kIf_f, sx_asg, kAsg_, kNx_, sx_nm, sx_var, kVar_, sx_ret, sx_op, kOp1_, kOp2_, sx_un, kUn_, sx_nil, sx_cons, kCons1_, kCons2_, sx_tup, sx_lst, kTup_, kLst_, sx_fn, kFn_, sx_call, sx_bool, kBool_, sx_tru, kTru_bl, sx_and, sx_or, sx_not, kAnd_t, kAnd_f, kOr_t, kOr_f, kNot_, sx_andV, sx_orV, sx_notV, kAndV_t, kAndV_f, kOrV_t, kOrV_f, kNotV_, sx_ifE, kIfE_t, kIfE_f, sx_chain, kCh1_, kCh2_, kCh3_t, kCh3_f, sx_gNil, sx_gCons, kG_, sx_gTup, gT_nm, gT_tup, gTs_nil, gTs_cons, sx_gSub, kSub1_, kSub2_, sx_par, kPar_, sx_par3, kPar3_, sx_it, kIt_tup, sx_rg1, sx_rg2, sx_for, kFor_rg, kFor_tp, sx_loopT, sx_loopT0, sx_loopR0, kGo_, kTurn_nx, kTurn_ct, kTurn_bk, kTurn_rt, sx_noPart, sx_part, kPart_, sx_sl, kSl1_, kSl2_, kSl3_, sx_lc, sx_pairs0, sx_pairs, kP1_, kP2_, kP3_, sx_dict, eqD_int, neD_int, addD_int, subD_int, ltD_int, leD_int, gtD_int, geD_int, intD_int, intD_bl, ix_t0, ix_t1, ix_t2, ix_t3, lenD_tup, tupleD_tup, listD_tup, List.getElem?_cons_zero, List.getElem?_cons_succ, List.set_cons_zero, List.set_cons_succ, List.length_cons, List.length_nil, Nat.zero_add, Nat.reduceAdd, Nat.reduceSub, Nat.reduceMul, decide_true, decide_false, Bool.not_true, Bool.not_false, Int.reduceMul, Int.reduceAdd, Int.reduceSub, Int.reduceNeg, Int.reduceLT, Int.reduceLE, Int.reducePow, Int.reduceEq, Int.reduceNe, Nat.reduceLeDiff, Nat.reduceLT, Bool.and_true, Bool.true_and, Bool.and_self, ↓reduceIte, Bool.false_eq_true, sx_mt, kMt1_, kMt2_, sx_isL, kIsL_ref, kIsL2_, absD_int, minD_int, maxD_int, negD_int, isi_tup_tuple, isi_int_int, isi_int_bool, kWh_t, kWh_f, nc1, nc2, nc3, nc4, nc5, nc6, nc7, nc8, nc9, nc10, nc11, nc12, nc13, nc14, nc15, nc16, mulD_int, mulD_intL, kRg1_, kRg2_, i62_eq, i63_eq, i64_eq, LIM, List.length_append, at_k, at_k0, set_k, set_k0, kDict_eq, kDict2_, keyP_str, keyP_int, allO_nil, allO_c, kAll_, mO_some, ixD_ref, kIx_lst, kIx_dK, kIx_dT, kIt_ref, kItr_, kFor_ref, kLoopL_, lenD_ref, kLen_lst, kLen_dK, kLen_dT, tupleD_ref, kTuple_, listD_ref, kList_, setD_ref, kSet_lst, kSetL_, kSet_dK, kSetK_, kSet_dT, kSetT_, appendD_ref, kApp_, addD_ref, kAddL_, mulD_ref, kMulL_, slD_ref, kSlice_, slD_tup, maxD_ref, minD_ref, kOnInts_, Option.bind_some, Option.map_some, maxOf, minOf, List.foldl_cons, List.foldl_nil, mergeD, putD, valD, List.any_cons, List.any_nil, Sum.inr.injEq, Sum.inl.injEq, Bool.or_false, Bool.false_or, Bool.or_true, List.find?_cons, List.find?_nil, keyK_str, keyK_int, intK_int, List.map_cons, List.map_nil, List.cons_append, List.nil_append, List.replicate, List.append_assoc] at q1 q2 q3 ee ⊢
  simp only [bind_ret, sx_seq, kSeq_nx, kSeq_rt, kSeq_bk, kSeq_ct, sx_next, sx_break, sx_cont, sx_drop, kDrop_, sx_retS, kRetS_, sx_if, kIf_t, kIf_f, sx_asg, kAsg_, kNx_, sx_nm, sx_var, kVar_, sx_ret, sx_op, kOp1_, kOp2_, sx_un, kUn_, sx_nil, sx_cons, kCons1_, kCons2_, sx_tup, sx_lst, kTup_, kLst_, sx_fn, kFn_, sx_call, sx_bool, kBool_, sx_tru, kTru_bl, sx_and, sx_or, sx_not, kAnd_t, kAnd_f, kOr_t, kOr_f, kNot_, sx_andV, sx_orV, sx_notV, kAndV_t, kAndV_f, kOrV_t, kOrV_f, kNotV_, sx_ifE, kIfE_t, kIfE_f, sx_chain, kCh1_, kCh2_, kCh3_t, kCh3_f, sx_gNil, sx_gCons, kG_, sx_gTup, gT_nm, gT_tup, gTs_nil, gTs_cons, sx_gSub, kSub1_, kSub2_, sx_par, kPar_, sx_par3, kPar3_, sx_it, kIt_tup, sx_rg1, sx_rg2, sx_for, kFor_rg, kFor_tp, sx_loopT, sx_loopT0, sx_loopR0, kGo_, kTurn_nx, kTurn_ct, kTurn_bk, kTurn_rt, sx_noPart, sx_part, kPart_, sx_sl, kSl1_, kSl2_, kSl3_, sx_lc, sx_pairs0, sx_pairs, kP1_, kP2_, kP3_, sx_dict, eqD_int, neD_int, addD_int, subD_int, ltD_int, leD_int, gtD_int, geD_int, intD_int, intD_bl, ix_t0, ix_t1, ix_t2, ix_t3, lenD_tup, tupleD_tup, listD_tup, List.getElem?_cons_zero, List.getElem?_cons_succ, List.set_cons_zero, List.set_cons_succ, List.length_cons, List.length_nil, Nat.zero_add, Nat.reduceAdd, Nat.reduceSub, Nat.reduceMul, decide_true, decide_false, Bool.not_true, Bool.not_false, Int.reduceMul, Int.reduceAdd, Int.reduceSub, Int.reduceNeg, Int.reduceLT, Int.reduceLE, Int.reducePow, Int.reduceEq, Int.reduceNe, Nat.reduceLeDiff, Nat.reduceLT, Bool.and_true, Bool.true_and, Bool.and_self, ↓reduceIte, Bool.false_eq_true, sx_mt, kMt1_, kMt2_, sx_isL, kIsL_ref, kIsL2_, absD_int, minD_int, maxD_int, negD_int, isi_tup_tuple, isi_int_int, isi_int_bool, kWh_t, kWh_f, nc1, nc2, nc3, nc4, nc5, nc6, nc7, nc8, nc9, nc10, nc11, nc12, nc13, nc14, nc15, nc16, mulD_int, mulD_intL, kRg1_, kRg2_, i62_eq, i63_eq, i64_eq, LIM, List.length_append, at_k, at_k0, set_k, set_k0, kDict_eq, kDict2_, keyP_str, keyP_int, allO_nil, allO_c, kAll_, mO_some, ixD_ref, kIx_lst, kIx_dK, kIx_dT, kIt_ref, kItr_, kFor_ref, kLoopL_, lenD_ref, kLen_lst, kLen_dK, kLen_dT, tupleD_ref, kTuple_, listD_ref, kList_, setD_ref, kSet_lst, kSetL_, kSet_dK, kSetK_, kSet_dT, kSetT_, appendD_ref, kApp_, addD_ref, kAddL_, mulD_ref, kMulL_, slD_ref, kSlice_, slD_tup, maxD_ref, minD_ref, kOnInts_, Option.bind_some, Option.map_some, maxOf, minOf, List.foldl_cons, List.foldl_nil, mergeD, putD, valD, List.any_cons, List.any_nil, Sum.inr.injEq, Sum.inl.injEq, Bool.or_false, Bool.false_or, Bool.or_true, List.find?_cons, List.find?_nil, keyK_str, keyK_int, intK_int, List.map_cons, List.map_nil, List.cons_append, List.nil_append, List.replicate, List.append_assoc, kCall_ q1, kCall_ q2, kCall_ q3, ee]
/-! ### comprehensions -/
def row (c lo n : Nat) : List Tile := (List.range n).map fun i => (c, 2 * (lo + i))
def rowP (c lo n : Nat) : List Tile := (List.range n).map fun i => (c, 2 * (lo + i) + 1)
def rowM (c lo n : Nat) : List Tile := (List.range n).map fun i => (c, 2 * (lo + i) - 1)
theorem len_row (c lo n : Nat) : (row c lo n).length = n := by simp [row]
theorem len_rowP (c lo n : Nat) : (rowP c lo n).length = n := by simp [rowP]
theorem len_rowM (c lo n : Nat) : (rowM c lo n).length = n := by simp [rowM]
theorem c_d1 {e0 e1 e2 e3 e4 e5 : Option D} {st : List LO} {lo n : Nat} (hn : n ≤ 1000) : kLc (gNm 5) (mRet true) m_doubled_e1 [5] (.rg (lo : Int) n) ⟨[e0, e1, e2, e3, e4, e5], st⟩ = .ret (.ref st.length) ⟨[e0, e1, e2, e3, e4, e5], st ++ [.lst ((row 0 lo n).map tD)]⟩ := by
  rw [kLc_rg (t := mRet true) (h := fun z => .tup [.str "wire", .int (2 * z)]) (Nat.le_trans hn (by decide)) (fun i hi => ⟨_, rfl, rfl, by unfold m_doubled_e1; simp only [wipeE, bind_ret, sx_seq, kSeq_nx, kSeq_rt, kSeq_bk, kSeq_ct, sx_next, sx_break, sx_cont, sx_drop, kDrop_, sx_retS, kRetS_, sx_if, kIf_t, kIf_f, sx_asg, kAsg_, kNx_, sx_nm, sx_var, kVar_, sx_ret, sx_op, kOp1_, kOp2_, sx_un, kUn_, sx_nil, sx_cons, kCons1_, kCons2_, sx_tup, sx_lst, kTup_, kLst_, sx_fn, kFn_, sx_call, sx_bool, kBool_, sx_tru, kTru_bl, sx_and, sx_or, sx_not, kAnd_t, kAnd_f, kOr_t, kOr_f, kNot_, sx_andV, sx_orV, sx_notV, kAndV_t, kAndV_f, kOrV_t, kOrV_f, kNotV_, sx_ifE, kIfE_t, kIfE_f, sx_chain, kCh1_, kCh2_, kCh3_t, kCh3_f, sx_gNil, sx_gCons, kG_, sx_gTup, gT_nm, gT_tup, gTs_nil, gTs_cons, sx_gSub, kSub1_, kSub2_, sx_par, kPar_, sx_par3, kPar3_, sx_it, kIt_tup, sx_rg1, sx_rg2, sx_for, kFor_rg, kFor_tp, sx_loopT, sx_loopT0, sx_loopR0, kGo_, kTurn_nx, kTurn_ct, kTurn_bk, kTurn_rt, sx_noPart, sx_part, kPart_, sx_sl, kSl1_, kSl2_, kSl3_, sx_lc, sx_pairs0, sx_pairs, kP1_, kP2_, kP3_, sx_dict, eqD_int, neD_int, addD_int, subD_int, ltD_int, leD_int, gtD_int, geD_int, intD_int, intD_bl, ix_t0, ix_t1, ix_t2, ix_t3, lenD_tup, tupleD_tup, listD_tup, List.getElem?_cons_zero, List.getElem?_cons_succ, List.set_cons_zero, List.set_cons_succ, List.length_cons, List.length_nil, Nat.zero_add, Nat.reduceAdd, Nat.reduceSub, Nat.reduceMul, decide_true, decide_false, Bool.not_true, Bool.not_false, Int.reduceMul, Int.reduceAdd, Int.reduceSub, Int.reduceNeg, Int.reduceLT, Int.reduceLE, Int.reducePow, Int.reduceEq, Int.reduceNe, Nat.reduceLeDiff, Nat.reduceLT, Bool.and_true, Bool.true_and, Bool.and_self, ↓reduceIte, Bool.false_eq_true, sx_mt, kMt1_, kMt2_, sx_isL, kIsL_ref, kIsL2_, absD_int, minD_int, maxD_int, negD_int, isi_tup_tuple, isi_int_int, isi_int_bool, kWh_t, kWh_f, nc1, nc2, nc3, nc4, nc5, nc6, nc7, nc8, nc9, nc10, nc11, nc12, nc13, nc14, nc15, nc16, mulD_int, mulD_intL, kRg1_, kRg2_, i62_eq, i63_eq, i64_eq, LIM, List.length_append, at_k, at_k0, set_k, set_k0, kDict_eq, kDict2_, keyP_str, keyP_int, allO_nil, allO_c, kAll_, mO_some, ixD_ref, kIx_lst, kIx_dK, kIx_dT, kIt_ref, kItr_, kFor_ref, kLoopL_, lenD_ref, kLen_lst, kLen_dK, kLen_dT, tupleD_ref, kTuple_, listD_ref, kList_, setD_ref, kSet_lst, kSetL_, kSet_dK, kSetK_, kSet_dT, kSetT_, appendD_ref, kApp_, addD_ref, kAddL_, mulD_ref, kMulL_, slD_ref, kSlice_, slD_tup, maxD_ref, minD_ref, kOnInts_, Option.bind_some, Option.map_some, maxOf, minOf, List.foldl_cons, List.foldl_nil, mergeD, putD, valD, List.any_cons, List.any_nil, Sum.inr.injEq, Sum.inl.injEq, Bool.or_false, Bool.false_or, Bool.or_true, List.find?_cons, List.find?_nil, keyK_str, keyK_int, intK_int, List.map_cons, List.map_nil, List.cons_append, List.nil_append, List.replicate, List.append_assoc]⟩)]
  congr 4
  unfold row
  rw [List.map_map]
  congr 1
theorem c_d2 {e0 e1 e2 e3 e4 e5 : Option D} {st : List LO} {lo n : Nat} (hn : n ≤ 1000) : kLc (gNm 5) (mRet true) m_doubled_e2 [5] (.rg (lo : Int) n) ⟨[e0, e1, e2, e3, e4, e5], st⟩ = .ret (.ref st.length) ⟨[e0, e1, e2, e3, e4, e5], st ++ [.lst ((row 2 lo n).map tD)]⟩ := by
  rw [kLc_rg (t := mRet true) (h := fun z => .tup [.str "down", .int (2 * z)]) (Nat.le_trans hn (by decide)) (fun i hi => ⟨_, rfl, rfl, by unfold m_doubled_e2; simp only [wipeE, bind_ret, sx_seq, kSeq_nx, kSeq_rt, kSeq_bk, kSeq_ct, sx_next, sx_break, sx_cont, sx_drop, kDrop_, sx_retS, kRetS_, sx_if, kIf_t, kIf_f, sx_asg, kAsg_, kNx_, sx_nm, sx_var, kVar_, sx_ret, sx_op, kOp1_, kOp2_, sx_un, kUn_, sx_nil, sx_cons, kCons1_, kCons2_, sx_tup, sx_lst, kTup_, kLst_, sx_fn, kFn_, sx_call, sx_bool, kBool_, sx_tru, kTru_bl, sx_and, sx_or, sx_not, kAnd_t, kAnd_f, kOr_t, kOr_f, kNot_, sx_andV, sx_orV, sx_notV, kAndV_t, kAndV_f, kOrV_t, kOrV_f, kNotV_, sx_ifE, kIfE_t, kIfE_f, sx_chain, kCh1_, kCh2_, kCh3_t, kCh3_f, sx_gNil, sx_gCons, kG_, sx_gTup, gT_nm, gT_tup, gTs_nil, gTs_cons, sx_gSub, kSub1_, kSub2_, sx_par, kPar_, sx_par3, kPar3_, sx_it, kIt_tup, sx_rg1, sx_rg2, sx_for, kFor_rg, kFor_tp, sx_loopT, sx_loopT0, sx_loopR0, kGo_, kTurn_nx, kTurn_ct, kTurn_bk, kTurn_rt, sx_noPart, sx_part, kPart_, sx_sl, kSl1_, kSl2_, kSl3_, sx_lc, sx_pairs0, sx_pairs, kP1_, kP2_, kP3_, sx_dict, eqD_int, neD_int, addD_int, subD_int, ltD_int, leD_int, gtD_int, geD_int, intD_int, intD_bl, ix_t0, ix_t1, ix_t2, ix_t3, lenD_tup, tupleD_tup, listD_tup, List.getElem?_cons_zero, List.getElem?_cons_succ, List.set_cons_zero, List.set_cons_succ, List.length_cons, List.length_nil, Nat.zero_add, Nat.reduceAdd, Nat.reduceSub, Nat.reduceMul, decide_true, decide_false, Bool.not_true, Bool.not_false, Int.reduceMul, Int.reduceAdd, Int.reduceSub, Int.reduceNeg, Int.reduceLT, Int.reduceLE, Int.reducePow, Int.reduceEq, Int.reduceNe, Nat.reduceLeDiff, Nat.reduceLT, Bool.and_true, Bool.true_and, Bool.and_self, ↓reduceIte, Bool.false_eq_true, sx_mt, kMt1_, kMt2_, sx_isL, kIsL_ref, kIsL2_, absD_int, minD_int, maxD_int, negD_int, isi_tup_tuple, isi_int_int, isi_int_bool, kWh_t, kWh_f, nc1, nc2, nc3, nc4, nc5, nc6, nc7, nc8, nc9, nc10, nc11, nc12, nc13, nc14, nc15, nc16, mulD_int, mulD_intL, kRg1_, kRg2_, i62_eq, i63_eq, i64_eq, LIM, List.length_append, at_k, at_k0, set_k, set_k0, kDict_eq, kDict2_, keyP_str, keyP_int, allO_nil, allO_c, kAll_, mO_some, ixD_ref, kIx_lst, kIx_dK, kIx_dT, kIt_ref, kItr_, kFor_ref, kLoopL_, lenD_ref, kLen_lst, kLen_dK, kLen_dT, tupleD_ref, kTuple_, listD_ref, kList_, setD_ref, kSet_lst, kSetL_, kSet_dK, kSetK_, kSet_dT, kSetT_, appendD_ref, kApp_, addD_ref, kAddL_, mulD_ref, kMulL_, slD_ref, kSlice_, slD_tup, maxD_ref, minD_ref, kOnInts_, Option.bind_some, Option.map_some, maxOf, minOf, List.foldl_cons, List.foldl_nil, mergeD, putD, valD, List.any_cons, List.any_nil, Sum.inr.injEq, Sum.inl.injEq, Bool.or_false, Bool.false_or, Bool.or_true, List.find?_cons, List.find?_nil, keyK_str, keyK_int, intK_int, List.map_cons, List.map_nil, List.cons_append, List.nil_append, List.replicate, List.append_assoc]⟩)]
  congr 4
  unfold row
  rw [List.map_map]
  congr 1
theorem c_d3 {e0 e1 e2 e3 e4 e5 : Option D} {st : List LO} {lo n : Nat} (hn : n ≤ 1000) : kLc (gNm 5) (mRet true) m_doubled_e3 [5] (.rg (lo : Int) n) ⟨[e0, e1, e2, e3, e4, e5], st⟩ = .ret (.ref st.length) ⟨[e0, e1, e2, e3, e4, e5], st ++ [.lst ((rowP 2 lo n).map tD)]⟩ := by
  rw [kLc_rg (t := mRet true) (h := fun z => .tup [.str "down", .int (2 * z + 1)]) (Nat.le_trans hn (by decide)) (fun i hi => ⟨_, rfl, rfl, by unfold m_doubled_e3; simp only [wipeE, bind_ret, sx_seq, kSeq_nx, kSeq_rt, kSeq_bk, kSeq_ct, sx_next, sx_break, sx_cont, sx_drop, kDrop_, sx_retS, kRetS_, sx_if, kIf_t, kIf_f, sx_asg, kAsg_, kNx_, sx_nm, sx_var, kVar_, sx_ret, sx_op, kOp1_, kOp2_, sx_un, kUn_, sx_nil, sx_cons, kCons1_, kCons2_, sx_tup, sx_lst, kTup_, kLst_, sx_fn, kFn_, sx_call, sx_bool, kBool_, sx_tru, kTru_bl, sx_and, sx_or, sx_not, kAnd_t, kAnd_f, kOr_t, kOr_f, kNot_, sx_andV, sx_orV, sx_notV, kAndV_t, kAndV_f, kOrV_t, kOrV_f, kNotV_, sx_ifE, kIfE_t, kIfE_f, sx_chain, kCh1_, kCh2_, kCh3_t, kCh3_f, sx_gNil, sx_gCons, kG_, sx_gTup, gT_nm, gT_tup, gTs_nil, gTs_cons, sx_gSub, kSub1_, kSub2_, sx_par, kPar_, sx_par3, kPar3_, sx_it, kIt_tup, sx_rg1, sx_rg2, sx_for, kFor_rg, kFor_tp, sx_loopT, sx_loopT0, sx_loopR0, kGo_, kTurn_nx, kTurn_ct, kTurn_bk, kTurn_rt, sx_noPart, sx_part, kPart_, sx_sl, kSl1_, kSl2_, kSl3_, sx_lc, sx_pairs0, sx_pairs, kP1_, kP2_, kP3_, sx_dict, eqD_int, neD_int, addD_int, subD_int, ltD_int, leD_int, gtD_int, geD_int, intD_int, intD_bl, ix_t0, ix_t1, ix_t2, ix_t3, lenD_tup, tupleD_tup, listD_tup, List.getElem?_cons_zero, List.getElem?_cons_succ, List.set_cons_zero, List.set_cons_succ, List.length_cons, List.length_nil, Nat.zero_add, Nat.reduceAdd, Nat.reduceSub, Nat.reduceMul, decide_true, decide_false, Bool.not_true, Bool.not_false, Int.reduceMul, Int.reduceAdd, Int.reduceSub, Int.reduceNeg, Int.reduceLT, Int.reduceLE, Int.reducePow, Int.reduceEq, Int.reduceNe, Nat.reduceLeDiff, Nat.reduceLT, Bool.and_true, Bool.true_and, Bool.and_self, ↓reduceIte, Bool.false_eq_true, sx_mt, kMt1_, kMt2_, sx_isL, kIsL_ref, kIsL2_, absD_int, minD_int, maxD_int, negD_int, isi_tup_tuple, isi_int_int, isi_int_bool, kWh_t, kWh_f, nc1, nc2, nc3, nc4, nc5, nc6, nc7, nc8, nc9, nc10, nc11, nc12, nc13, nc14, nc15, nc16, mulD_int, mulD_intL, kRg1_, kRg2_, i62_eq, i63_eq, i64_eq, LIM, List.length_append, at_k, at_k0, set_k, set_k0, kDict_eq, kDict2_, keyP_str, keyP_int, allO_nil, allO_c, kAll_, mO_some, ixD_ref, kIx_lst, kIx_dK, kIx_dT, kIt_ref, kItr_, kFor_ref, kLoopL_, lenD_ref, kLen_lst, kLen_dK, kLen_dT, tupleD_ref, kTuple_, listD_ref, kList_, setD_ref, kSet_lst, kSetL_, kSet_dK, kSetK_, kSet_dT, kSetT_, appendD_ref, kApp_, addD_ref, kAddL_, mulD_ref, kMulL_, slD_ref, kSlice_, slD_tup, maxD_ref, minD_ref, kOnInts_, Option.bind_some, Option.map_some, maxOf, minOf, List.foldl_cons, List.foldl_nil, mergeD, putD, valD, List.any_cons, List.any_nil, Sum.inr.injEq, Sum.inl.injEq, Bool.or_false, Bool.false_or, Bool.or_true, List.find?_cons, List.find?_nil, keyK_str, keyK_int, intK_int, List.map_cons, List.map_nil, List.cons_append, List.nil_append, List.replicate, List.append_assoc]⟩)]
  congr 4
  unfold rowP
  rw [List.map_map]
  congr 1
theorem c_x1 {e0 e1 e2 e3 e4 e5 e6 e7 e8 : Option D} {st : List LO} {lo n : Nat} (hn : n ≤ 1000) : kLc (gNm 7) (mRet true) m_exchanged_e1 [7] (.rg (lo : Int) n) ⟨[e0, e1, e2, e3, e4, e5, e6, e7, e8], st⟩ = .ret (.ref st.length) ⟨[e0, e1, e2, e3, e4, e5, e6, e7, e8], st ++ [.lst ((row 0 lo n).map tD)]⟩ := by
  rw [kLc_rg (t := mRet true) (h := fun z => .tup [.str "wire", .int (2 * z)]) (Nat.le_trans hn (by decide)) (fun i hi => ⟨_, rfl, rfl, by unfold m_exchanged_e1; simp only [wipeE, bind_ret, sx_seq, kSeq_nx, kSeq_rt, kSeq_bk, kSeq_ct, sx_next, sx_break, sx_cont, sx_drop, kDrop_, sx_retS, kRetS_, sx_if, kIf_t, kIf_f, sx_asg, kAsg_, kNx_, sx_nm, sx_var, kVar_, sx_ret, sx_op, kOp1_, kOp2_, sx_un, kUn_, sx_nil, sx_cons, kCons1_, kCons2_, sx_tup, sx_lst, kTup_, kLst_, sx_fn, kFn_, sx_call, sx_bool, kBool_, sx_tru, kTru_bl, sx_and, sx_or, sx_not, kAnd_t, kAnd_f, kOr_t, kOr_f, kNot_, sx_andV, sx_orV, sx_notV, kAndV_t, kAndV_f, kOrV_t, kOrV_f, kNotV_, sx_ifE, kIfE_t, kIfE_f, sx_chain, kCh1_, kCh2_, kCh3_t, kCh3_f, sx_gNil, sx_gCons, kG_, sx_gTup, gT_nm, gT_tup, gTs_nil, gTs_cons, sx_gSub, kSub1_, kSub2_, sx_par, kPar_, sx_par3, kPar3_, sx_it, kIt_tup, sx_rg1, sx_rg2, sx_for, kFor_rg, kFor_tp, sx_loopT, sx_loopT0, sx_loopR0, kGo_, kTurn_nx, kTurn_ct, kTurn_bk, kTurn_rt, sx_noPart, sx_part, kPart_, sx_sl, kSl1_, kSl2_, kSl3_, sx_lc, sx_pairs0, sx_pairs, kP1_, kP2_, kP3_, sx_dict, eqD_int, neD_int, addD_int, subD_int, ltD_int, leD_int, gtD_int, geD_int, intD_int, intD_bl, ix_t0, ix_t1, ix_t2, ix_t3, lenD_tup, tupleD_tup, listD_tup, List.getElem?_cons_zero, List.getElem?_cons_succ, List.set_cons_zero, List.set_cons_succ, List.length_cons, List.length_nil, Nat.zero_add, Nat.reduceAdd, Nat.reduceSub, Nat.reduceMul, decide_true, decide_false, Bool.not_true, Bool.not_false, Int.reduceMul, Int.reduceAdd, Int.reduceSub, Int.reduceNeg, Int.reduceLT, Int.reduceLE, Int.reducePow, Int.reduceEq, Int.reduceNe, Nat.reduceLeDiff, Nat.reduceLT, Bool.and_true, Bool.true_and, Bool.and_self, ↓reduceIte, Bool.false_eq_true, sx_mt, kMt1_, kMt2_, sx_isL, kIsL_ref, kIsL2_, absD_int, minD_int, maxD_int, negD_int, isi_tup_tuple, isi_int_int, isi_int_bool, kWh_t, kWh_f, nc1, nc2, nc3, nc4, nc5, nc6, nc7, nc8, nc9, nc10, nc11, nc12, nc13, nc14, nc15, nc16, mulD_int, mulD_intL, kRg1_, kRg2_, i62_eq, i63_eq, i64_eq, LIM, List.length_append, at_k, at_k0, set_k, set_k0, kDict_eq, kDict2_, keyP_str, keyP_int, allO_nil, allO_c, kAll_, mO_some, ixD_ref, kIx_lst, kIx_dK, kIx_dT, kIt_ref, kItr_, kFor_ref, kLoopL_, lenD_ref, kLen_lst, kLen_dK, kLen_dT, tupleD_ref, kTuple_, listD_ref, kList_, setD_ref, kSet_lst, kSetL_, kSet_dK, kSetK_, kSet_dT, kSetT_, appendD_ref, kApp_, addD_ref, kAddL_, mulD_ref, kMulL_, slD_ref, kSlice_, slD_tup, maxD_ref, minD_ref, kOnInts_, Option.bind_some, Option.map_some, maxOf, minOf, List.foldl_cons, List.foldl_nil, mergeD, putD, valD, List.any_cons, List.any_nil, Sum.inr.injEq, Sum.inl.injEq, Bool.or_false, Bool.false_or, Bool.or_true, List.find?_cons, List.find?_nil, keyK_str, keyK_int, intK_int, List.map_cons, List.map_nil, List.cons_append, List.nil_append, List.replicate, List.append_assoc]⟩)]
  congr 4
  unfold row
  rw [List.map_map]
  congr 1
theorem c_m1 {e0 e1 e2 e3 e4 e5 e6 : Option D} {st : List LO} {lo n : Nat} (hn : n ≤ 1000) : kLc (gNm 6) (mRet true) m_made_at_e1 [6] (.rg (lo : Int) n) ⟨[e0, e1, e2, e3, e4, e5, e6], st⟩ = .ret (.ref st.length) ⟨[e0, e1, e2, e3, e4, e5, e6], st ++ [.lst ((row 0 lo n).map tD)]⟩ := by
  rw [kLc_rg (t := mRet true) (h := fun z => .tup [.str "wire", .int (2 * z)]) (Nat.le_trans hn (by decide)) (fun i hi => ⟨_, rfl, rfl, by unfold m_made_at_e1; simp only [wipeE, bind_ret, sx_seq, kSeq_nx, kSeq_rt, kSeq_bk, kSeq_ct, sx_next, sx_break, sx_cont, sx_drop, kDrop_, sx_retS, kRetS_, sx_if, kIf_t, kIf_f, sx_asg, kAsg_, kNx_, sx_nm, sx_var, kVar_, sx_ret, sx_op, kOp1_, kOp2_, sx_un, kUn_, sx_nil, sx_cons, kCons1_, kCons2_, sx_tup, sx_lst, kTup_, kLst_, sx_fn, kFn_, sx_call, sx_bool, kBool_, sx_tru, kTru_bl, sx_and, sx_or, sx_not, kAnd_t, kAnd_f, kOr_t, kOr_f, kNot_, sx_andV, sx_orV, sx_notV, kAndV_t, kAndV_f, kOrV_t, kOrV_f, kNotV_, sx_ifE, kIfE_t, kIfE_f, sx_chain, kCh1_, kCh2_, kCh3_t, kCh3_f, sx_gNil, sx_gCons, kG_, sx_gTup, gT_nm, gT_tup, gTs_nil, gTs_cons, sx_gSub, kSub1_, kSub2_, sx_par, kPar_, sx_par3, kPar3_, sx_it, kIt_tup, sx_rg1, sx_rg2, sx_for, kFor_rg, kFor_tp, sx_loopT, sx_loopT0, sx_loopR0, kGo_, kTurn_nx, kTurn_ct, kTurn_bk, kTurn_rt, sx_noPart, sx_part, kPart_, sx_sl, kSl1_, kSl2_, kSl3_, sx_lc, sx_pairs0, sx_pairs, kP1_, kP2_, kP3_, sx_dict, eqD_int, neD_int, addD_int, subD_int, ltD_int, leD_int, gtD_int, geD_int, intD_int, intD_bl, ix_t0, ix_t1, ix_t2, ix_t3, lenD_tup, tupleD_tup, listD_tup, List.getElem?_cons_zero, List.getElem?_cons_succ, List.set_cons_zero, List.set_cons_succ, List.length_cons, List.length_nil, Nat.zero_add, Nat.reduceAdd, Nat.reduceSub, Nat.reduceMul, decide_true, decide_false, Bool.not_true, Bool.not_false, Int.reduceMul, Int.reduceAdd, Int.reduceSub, Int.reduceNeg, Int.reduceLT, Int.reduceLE, Int.reducePow, Int.reduceEq, Int.reduceNe, Nat.reduceLeDiff, Nat.reduceLT, Bool.and_true, Bool.true_and, Bool.and_self, ↓reduceIte, Bool.false_eq_true, sx_mt, kMt1_, kMt2_, sx_isL, kIsL_ref, kIsL2_, absD_int, minD_int, maxD_int, negD_int, isi_tup_tuple, isi_int_int, isi_int_bool, kWh_t, kWh_f, nc1, nc2, nc3, nc4, nc5, nc6, nc7, nc8, nc9, nc10, nc11, nc12, nc13, nc14, nc15, nc16, mulD_int, mulD_intL, kRg1_, kRg2_, i62_eq, i63_eq, i64_eq, LIM, List.length_append, at_k, at_k0, set_k, set_k0, kDict_eq, kDict2_, keyP_str, keyP_int, allO_nil, allO_c, kAll_, mO_some, ixD_ref, kIx_lst, kIx_dK, kIx_dT, kIt_ref, kItr_, kFor_ref, kLoopL_, lenD_ref, kLen_lst, kLen_dK, kLen_dT, tupleD_ref, kTuple_, listD_ref, kList_, setD_ref, kSet_lst, kSetL_, kSet_dK, kSetK_, kSet_dT, kSetT_, appendD_ref, kApp_, addD_ref, kAddL_, mulD_ref, kMulL_, slD_ref, kSlice_, slD_tup, maxD_ref, minD_ref, kOnInts_, Option.bind_some, Option.map_some, maxOf, minOf, List.foldl_cons, List.foldl_nil, mergeD, putD, valD, List.any_cons, List.any_nil, Sum.inr.injEq, Sum.inl.injEq, Bool.or_false, Bool.false_or, Bool.or_true, List.find?_cons, List.find?_nil, keyK_str, keyK_int, intK_int, List.map_cons, List.map_nil, List.cons_append, List.nil_append, List.replicate, List.append_assoc]⟩)]
  congr 4
  unfold row
  rw [List.map_map]
  congr 1
theorem c_m2 {e0 e1 e2 e3 e4 e5 e6 : Option D} {st : List LO} {lo n : Nat} (hn : n ≤ 1000) : kLc (gNm 6) (mRet true) m_made_at_e2 [6] (.rg (lo : Int) n) ⟨[e0, e1, e2, e3, e4, e5, e6], st⟩ = .ret (.ref st.length) ⟨[e0, e1, e2, e3, e4, e5, e6], st ++ [.lst ((row 1 lo n).map tD)]⟩ := by
  rw [kLc_rg (t := mRet true) (h := fun z => .tup [.str "up", .int (2 * z)]) (Nat.le_trans hn (by decide)) (fun i hi => ⟨_, rfl, rfl, by unfold m_made_at_e2; simp only [wipeE, bind_ret, sx_seq, kSeq_nx, kSeq_rt, kSeq_bk, kSeq_ct, sx_next, sx_break, sx_cont, sx_drop, kDrop_, sx_retS, kRetS_, sx_if, kIf_t, kIf_f, sx_asg, kAsg_, kNx_, sx_nm, sx_var, kVar_, sx_ret, sx_op, kOp1_, kOp2_, sx_un, kUn_, sx_nil, sx_cons, kCons1_, kCons2_, sx_tup, sx_lst, kTup_, kLst_, sx_fn, kFn_, sx_call, sx_bool, kBool_, sx_tru, kTru_bl, sx_and, sx_or, sx_not, kAnd_t, kAnd_f, kOr_t, kOr_f, kNot_, sx_andV, sx_orV, sx_notV, kAndV_t, kAndV_f, kOrV_t, kOrV_f, kNotV_, sx_ifE, kIfE_t, kIfE_f, sx_chain, kCh1_, kCh2_, kCh3_t, kCh3_f, sx_gNil, sx_gCons, kG_, sx_gTup, gT_nm, gT_tup, gTs_nil, gTs_cons, sx_gSub, kSub1_, kSub2_, sx_par, kPar_, sx_par3, kPar3_, sx_it, kIt_tup, sx_rg1, sx_rg2, sx_for, kFor_rg, kFor_tp, sx_loopT, sx_loopT0, sx_loopR0, kGo_, kTurn_nx, kTurn_ct, kTurn_bk, kTurn_rt, sx_noPart, sx_part, kPart_, sx_sl, kSl1_, kSl2_, kSl3_, sx_lc, sx_pairs0, sx_pairs, kP1_, kP2_, kP3_, sx_dict, eqD_int, neD_int, addD_int, subD_int, ltD_int, leD_int, gtD_int, geD_int, intD_int, intD_bl, ix_t0, ix_t1, ix_t2, ix_t3, lenD_tup, tupleD_tup, listD_tup, List.getElem?_cons_zero, List.getElem?_cons_succ, List.set_cons_zero, List.set_cons_succ, List.length_cons, List.length_nil, Nat.zero_add, Nat.reduceAdd, Nat.reduceSub, Nat.reduceMul, decide_true, decide_false, Bool.not_true, Bool.not_false, Int.reduceMul, Int.reduceAdd, Int.reduceSub, Int.reduceNeg, Int.reduceLT, Int.reduceLE, Int.reducePow, Int.reduceEq, Int.reduceNe, Nat.reduceLeDiff, Nat.reduceLT, Bool.and_true, Bool.true_and, Bool.and_self, ↓reduceIte, Bool.false_eq_true, sx_mt, kMt1_, kMt2_, sx_isL, kIsL_ref, kIsL2_, absD_int, minD_int, maxD_int, negD_int, isi_tup_tuple, isi_int_int, isi_int_bool, kWh_t, kWh_f, nc1, nc2, nc3, nc4, nc5, nc6, nc7, nc8, nc9, nc10, nc11, nc12, nc13, nc14, nc15, nc16, mulD_int, mulD_intL, kRg1_, kRg2_, i62_eq, i63_eq, i64_eq, LIM, List.length_append, at_k, at_k0, set_k, set_k0, kDict_eq, kDict2_, keyP_str, keyP_int, allO_nil, allO_c, kAll_, mO_some, ixD_ref, kIx_lst, kIx_dK, kIx_dT, kIt_ref, kItr_, kFor_ref, kLoopL_, lenD_ref, kLen_lst, kLen_dK, kLen_dT, tupleD_ref, kTuple_, listD_ref, kList_, setD_ref, kSet_lst, kSetL_, kSet_dK, kSetK_, kSet_dT, kSetT_, appendD_ref, kApp_, addD_ref, kAddL_, mulD_ref, kMulL_, slD_ref, kSlice_, slD_tup, maxD_ref, minD_ref, kOnInts_, Option.bind_some, Option.map_some, maxOf, minOf, List.foldl_cons, List.foldl_nil, mergeD, putD, valD, List.any_cons, List.any_nil, Sum.inr.injEq, Sum.inl.injEq, Bool.or_false, Bool.false_or, Bool.or_true, List.find?_cons, List.find?_nil, keyK_str, keyK_int, intK_int, List.map_cons, List.map_nil, List.cons_append, List.nil_append, List.replicate, List.append_assoc]⟩)]
  congr 4
  unfold row
  rw [List.map_map]
  congr 1
theorem c_m3 {e0 e1 e2 e3 e4 e5 e6 : Option D} {st : List LO} {lo n : Nat} (hn : n ≤ 1000) (hlo : 1 ≤ lo) : kLc (gNm 6) (mRet true) m_made_at_e3 [6] (.rg (lo : Int) n) ⟨[e0, e1, e2, e3, e4, e5, e6], st⟩ = .ret (.ref st.length) ⟨[e0, e1, e2, e3, e4, e5, e6], st ++ [.lst ((rowM 1 lo n).map tD)]⟩ := by
  rw [kLc_rg (t := mRet true) (h := fun z => .tup [.str "up", .int (2 * z - 1)]) (Nat.le_trans hn (by decide)) (fun i hi => ⟨_, rfl, rfl, by unfold m_made_at_e3; simp only [wipeE, bind_ret, sx_seq, kSeq_nx, kSeq_rt, kSeq_bk, kSeq_ct, sx_next, sx_break, sx_cont, sx_drop, kDrop_, sx_retS, kRetS_, sx_if, kIf_t, kIf_f, sx_asg, kAsg_, kNx_, sx_nm, sx_var, kVar_, sx_ret, sx_op, kOp1_, kOp2_, sx_un, kUn_, sx_nil, sx_cons, kCons1_, kCons2_, sx_tup, sx_lst, kTup_, kLst_, sx_fn, kFn_, sx_call, sx_bool, kBool_, sx_tru, kTru_bl, sx_and, sx_or, sx_not, kAnd_t, kAnd_f, kOr_t, kOr_f, kNot_, sx_andV, sx_orV, sx_notV, kAndV_t, kAndV_f, kOrV_t, kOrV_f, kNotV_, sx_ifE, kIfE_t, kIfE_f, sx_chain, kCh1_, kCh2_, kCh3_t, kCh3_f, sx_gNil, sx_gCons, kG_, sx_gTup, gT_nm, gT_tup, gTs_nil, gTs_cons, sx_gSub, kSub1_, kSub2_, sx_par, kPar_, sx_par3, kPar3_, sx_it, kIt_tup, sx_rg1, sx_rg2, sx_for, kFor_rg, kFor_tp, sx_loopT, sx_loopT0, sx_loopR0, kGo_, kTurn_nx, kTurn_ct, kTurn_bk, kTurn_rt, sx_noPart, sx_part, kPart_, sx_sl, kSl1_, kSl2_, kSl3_, sx_lc, sx_pairs0, sx_pairs, kP1_, kP2_, kP3_, sx_dict, eqD_int, neD_int, addD_int, subD_int, ltD_int, leD_int, gtD_int, geD_int, intD_int, intD_bl, ix_t0, ix_t1, ix_t2, ix_t3, lenD_tup, tupleD_tup, listD_tup, List.getElem?_cons_zero, List.getElem?_cons_succ, List.set_cons_zero, List.set_cons_succ, List.length_cons, List.length_nil, Nat.zero_add, Nat.reduceAdd, Nat.reduceSub, Nat.reduceMul, decide_true, decide_false, Bool.not_true, Bool.not_false, Int.reduceMul, Int.reduceAdd, Int.reduceSub, Int.reduceNeg, Int.reduceLT, Int.reduceLE, Int.reducePow, Int.reduceEq, Int.reduceNe, Nat.reduceLeDiff, Nat.reduceLT, Bool.and_true, Bool.true_and, Bool.and_self, ↓reduceIte, Bool.false_eq_true, sx_mt, kMt1_, kMt2_, sx_isL, kIsL_ref, kIsL2_, absD_int, minD_int, maxD_int, negD_int, isi_tup_tuple, isi_int_int, isi_int_bool, kWh_t, kWh_f, nc1, nc2, nc3, nc4, nc5, nc6, nc7, nc8, nc9, nc10, nc11, nc12, nc13, nc14, nc15, nc16, mulD_int, mulD_intL, kRg1_, kRg2_, i62_eq, i63_eq, i64_eq, LIM, List.length_append, at_k, at_k0, set_k, set_k0, kDict_eq, kDict2_, keyP_str, keyP_int, allO_nil, allO_c, kAll_, mO_some, ixD_ref, kIx_lst, kIx_dK, kIx_dT, kIt_ref, kItr_, kFor_ref, kLoopL_, lenD_ref, kLen_lst, kLen_dK, kLen_dT, tupleD_ref, kTuple_, listD_ref, kList_, setD_ref, kSet_lst, kSetL_, kSet_dK, kSetK_, kSet_dT, kSetT_, appendD_ref, kApp_, addD_ref, kAddL_, mulD_ref, kMulL_, slD_ref, kSlice_, slD_tup, maxD_ref, minD_ref, kOnInts_, Option.bind_some, Option.map_some, maxOf, minOf, List.foldl_cons, List.foldl_nil, mergeD, putD, valD, List.any_cons, List.any_nil, Sum.inr.injEq, Sum.inl.injEq, Bool.or_false, Bool.false_or, Bool.or_true, List.find?_cons, List.find?_nil, keyK_str, keyK_int, intK_int, List.map_cons, List.map_nil, List.cons_append, List.nil_append, List.replicate, List.append_assoc]⟩)]
  congr 4
  unfold rowM
  rw [List.map_map]
  refine congrArg LO.lst (List.map_congr_left fun i _ => ?_)
  show D.tup [.str "up", .int _] = D.tup [.str "up", .int ((2 * (lo + i) - 1 : Nat) : Int)]
  have q : 2 * ((lo : Int) + (i : Int)) - 1 = ((2 * (lo + i) - 1 : Nat) : Int) := by omega
  rw [q]
theorem c_ox1 {e0 e1 e2 e3 e4 e5 e6 e7 : Option D} {st : List LO} {lo n : Nat} (hn : n ≤ 1000) : kLc (gNm 6) (mRet true) m__law_own_exchanged_e1 [6] (.rg (lo : Int) n) ⟨[e0, e1, e2, e3, e4, e5, e6, e7], st⟩ = .ret (.ref st.length) ⟨[e0, e1, e2, e3, e4, e5, e6, e7], st ++ [.lst ((row 0 lo n).map tD)]⟩ := by
  rw [kLc_rg (t := mRet true) (h := fun z => .tup [.str "wire", .int (2 * z)]) (Nat.le_trans hn (by decide)) (fun i hi => ⟨_, rfl, rfl, by unfold m__law_own_exchanged_e1; simp only [wipeE, bind_ret, sx_seq, kSeq_nx, kSeq_rt, kSeq_bk, kSeq_ct, sx_next, sx_break, sx_cont, sx_drop, kDrop_, sx_retS, kRetS_, sx_if, kIf_t, kIf_f, sx_asg, kAsg_, kNx_, sx_nm, sx_var, kVar_, sx_ret, sx_op, kOp1_, kOp2_, sx_un, kUn_, sx_nil, sx_cons, kCons1_, kCons2_, sx_tup, sx_lst, kTup_, kLst_, sx_fn, kFn_, sx_call, sx_bool, kBool_, sx_tru, kTru_bl, sx_and, sx_or, sx_not, kAnd_t, kAnd_f, kOr_t, kOr_f, kNot_, sx_andV, sx_orV, sx_notV, kAndV_t, kAndV_f, kOrV_t, kOrV_f, kNotV_, sx_ifE, kIfE_t, kIfE_f, sx_chain, kCh1_, kCh2_, kCh3_t, kCh3_f, sx_gNil, sx_gCons, kG_, sx_gTup, gT_nm, gT_tup, gTs_nil, gTs_cons, sx_gSub, kSub1_, kSub2_, sx_par, kPar_, sx_par3, kPar3_, sx_it, kIt_tup, sx_rg1, sx_rg2, sx_for, kFor_rg, kFor_tp, sx_loopT, sx_loopT0, sx_loopR0, kGo_, kTurn_nx, kTurn_ct, kTurn_bk, kTurn_rt, sx_noPart, sx_part, kPart_, sx_sl, kSl1_, kSl2_, kSl3_, sx_lc, sx_pairs0, sx_pairs, kP1_, kP2_, kP3_, sx_dict, eqD_int, neD_int, addD_int, subD_int, ltD_int, leD_int, gtD_int, geD_int, intD_int, intD_bl, ix_t0, ix_t1, ix_t2, ix_t3, lenD_tup, tupleD_tup, listD_tup, List.getElem?_cons_zero, List.getElem?_cons_succ, List.set_cons_zero, List.set_cons_succ, List.length_cons, List.length_nil, Nat.zero_add, Nat.reduceAdd, Nat.reduceSub, Nat.reduceMul, decide_true, decide_false, Bool.not_true, Bool.not_false, Int.reduceMul, Int.reduceAdd, Int.reduceSub, Int.reduceNeg, Int.reduceLT, Int.reduceLE, Int.reducePow, Int.reduceEq, Int.reduceNe, Nat.reduceLeDiff, Nat.reduceLT, Bool.and_true, Bool.true_and, Bool.and_self, ↓reduceIte, Bool.false_eq_true, sx_mt, kMt1_, kMt2_, sx_isL, kIsL_ref, kIsL2_, absD_int, minD_int, maxD_int, negD_int, isi_tup_tuple, isi_int_int, isi_int_bool, kWh_t, kWh_f, nc1, nc2, nc3, nc4, nc5, nc6, nc7, nc8, nc9, nc10, nc11, nc12, nc13, nc14, nc15, nc16, mulD_int, mulD_intL, kRg1_, kRg2_, i62_eq, i63_eq, i64_eq, LIM, List.length_append, at_k, at_k0, set_k, set_k0, kDict_eq, kDict2_, keyP_str, keyP_int, allO_nil, allO_c, kAll_, mO_some, ixD_ref, kIx_lst, kIx_dK, kIx_dT, kIt_ref, kItr_, kFor_ref, kLoopL_, lenD_ref, kLen_lst, kLen_dK, kLen_dT, tupleD_ref, kTuple_, listD_ref, kList_, setD_ref, kSet_lst, kSetL_, kSet_dK, kSetK_, kSet_dT, kSetT_, appendD_ref, kApp_, addD_ref, kAddL_, mulD_ref, kMulL_, slD_ref, kSlice_, slD_tup, maxD_ref, minD_ref, kOnInts_, Option.bind_some, Option.map_some, maxOf, minOf, List.foldl_cons, List.foldl_nil, mergeD, putD, valD, List.any_cons, List.any_nil, Sum.inr.injEq, Sum.inl.injEq, Bool.or_false, Bool.false_or, Bool.or_true, List.find?_cons, List.find?_nil, keyK_str, keyK_int, intK_int, List.map_cons, List.map_nil, List.cons_append, List.nil_append, List.replicate, List.append_assoc]⟩)]
  congr 4
  unfold row
  rw [List.map_map]
  congr 1
theorem c_od1 {e0 e1 e2 e3 e4 : Option D} {st : List LO} {lo n : Nat} (hn : n ≤ 1000) : kLc (gNm 4) (mRet true) m__law_doubled_stages_e1 [4] (.rg (lo : Int) n) ⟨[e0, e1, e2, e3, e4], st⟩ = .ret (.ref st.length) ⟨[e0, e1, e2, e3, e4], st ++ [.lst ((row 0 lo n).map tD)]⟩ := by
  rw [kLc_rg (t := mRet true) (h := fun z => .tup [.str "wire", .int (2 * z)]) (Nat.le_trans hn (by decide)) (fun i hi => ⟨_, rfl, rfl, by unfold m__law_doubled_stages_e1; simp only [wipeE, bind_ret, sx_seq, kSeq_nx, kSeq_rt, kSeq_bk, kSeq_ct, sx_next, sx_break, sx_cont, sx_drop, kDrop_, sx_retS, kRetS_, sx_if, kIf_t, kIf_f, sx_asg, kAsg_, kNx_, sx_nm, sx_var, kVar_, sx_ret, sx_op, kOp1_, kOp2_, sx_un, kUn_, sx_nil, sx_cons, kCons1_, kCons2_, sx_tup, sx_lst, kTup_, kLst_, sx_fn, kFn_, sx_call, sx_bool, kBool_, sx_tru, kTru_bl, sx_and, sx_or, sx_not, kAnd_t, kAnd_f, kOr_t, kOr_f, kNot_, sx_andV, sx_orV, sx_notV, kAndV_t, kAndV_f, kOrV_t, kOrV_f, kNotV_, sx_ifE, kIfE_t, kIfE_f, sx_chain, kCh1_, kCh2_, kCh3_t, kCh3_f, sx_gNil, sx_gCons, kG_, sx_gTup, gT_nm, gT_tup, gTs_nil, gTs_cons, sx_gSub, kSub1_, kSub2_, sx_par, kPar_, sx_par3, kPar3_, sx_it, kIt_tup, sx_rg1, sx_rg2, sx_for, kFor_rg, kFor_tp, sx_loopT, sx_loopT0, sx_loopR0, kGo_, kTurn_nx, kTurn_ct, kTurn_bk, kTurn_rt, sx_noPart, sx_part, kPart_, sx_sl, kSl1_, kSl2_, kSl3_, sx_lc, sx_pairs0, sx_pairs, kP1_, kP2_, kP3_, sx_dict, eqD_int, neD_int, addD_int, subD_int, ltD_int, leD_int, gtD_int, geD_int, intD_int, intD_bl, ix_t0, ix_t1, ix_t2, ix_t3, lenD_tup, tupleD_tup, listD_tup, List.getElem?_cons_zero, List.getElem?_cons_succ, List.set_cons_zero, List.set_cons_succ, List.length_cons, List.length_nil, Nat.zero_add, Nat.reduceAdd, Nat.reduceSub, Nat.reduceMul, decide_true, decide_false, Bool.not_true, Bool.not_false, Int.reduceMul, Int.reduceAdd, Int.reduceSub, Int.reduceNeg, Int.reduceLT, Int.reduceLE, Int.reducePow, Int.reduceEq, Int.reduceNe, Nat.reduceLeDiff, Nat.reduceLT, Bool.and_true, Bool.true_and, Bool.and_self, ↓reduceIte, Bool.false_eq_true, sx_mt, kMt1_, kMt2_, sx_isL, kIsL_ref, kIsL2_, absD_int, minD_int, maxD_int, negD_int, isi_tup_tuple, isi_int_int, isi_int_bool, kWh_t, kWh_f, nc1, nc2, nc3, nc4, nc5, nc6, nc7, nc8, nc9, nc10, nc11, nc12, nc13, nc14, nc15, nc16, mulD_int, mulD_intL, kRg1_, kRg2_, i62_eq, i63_eq, i64_eq, LIM, List.length_append, at_k, at_k0, set_k, set_k0, kDict_eq, kDict2_, keyP_str, keyP_int, allO_nil, allO_c, kAll_, mO_some, ixD_ref, kIx_lst, kIx_dK, kIx_dT, kIt_ref, kItr_, kFor_ref, kLoopL_, lenD_ref, kLen_lst, kLen_dK, kLen_dT, tupleD_ref, kTuple_, listD_ref, kList_, setD_ref, kSet_lst, kSetL_, kSet_dK, kSetK_, kSet_dT, kSetT_, appendD_ref, kApp_, addD_ref, kAddL_, mulD_ref, kMulL_, slD_ref, kSlice_, slD_tup, maxD_ref, minD_ref, kOnInts_, Option.bind_some, Option.map_some, maxOf, minOf, List.foldl_cons, List.foldl_nil, mergeD, putD, valD, List.any_cons, List.any_nil, Sum.inr.injEq, Sum.inl.injEq, Bool.or_false, Bool.false_or, Bool.or_true, List.find?_cons, List.find?_nil, keyK_str, keyK_int, intK_int, List.map_cons, List.map_nil, List.cons_append, List.nil_append, List.replicate, List.append_assoc]⟩)]
  congr 4
  unfold row
  rw [List.map_map]
  congr 1
theorem c_od2 {e0 e1 e2 e3 e4 : Option D} {st : List LO} {lo n : Nat} (hn : n ≤ 1000) : kLc (gNm 4) (mRet true) m__law_doubled_stages_e2 [4] (.rg (lo : Int) n) ⟨[e0, e1, e2, e3, e4], st⟩ = .ret (.ref st.length) ⟨[e0, e1, e2, e3, e4], st ++ [.lst ((row 2 lo n).map tD)]⟩ := by
  rw [kLc_rg (t := mRet true) (h := fun z => .tup [.str "down", .int (2 * z)]) (Nat.le_trans hn (by decide)) (fun i hi => ⟨_, rfl, rfl, by unfold m__law_doubled_stages_e2; simp only [wipeE, bind_ret, sx_seq, kSeq_nx, kSeq_rt, kSeq_bk, kSeq_ct, sx_next, sx_break, sx_cont, sx_drop, kDrop_, sx_retS, kRetS_, sx_if, kIf_t, kIf_f, sx_asg, kAsg_, kNx_, sx_nm, sx_var, kVar_, sx_ret, sx_op, kOp1_, kOp2_, sx_un, kUn_, sx_nil, sx_cons, kCons1_, kCons2_, sx_tup, sx_lst, kTup_, kLst_, sx_fn, kFn_, sx_call, sx_bool, kBool_, sx_tru, kTru_bl, sx_and, sx_or, sx_not, kAnd_t, kAnd_f, kOr_t, kOr_f, kNot_, sx_andV, sx_orV, sx_notV, kAndV_t, kAndV_f, kOrV_t, kOrV_f, kNotV_, sx_ifE, kIfE_t, kIfE_f, sx_chain, kCh1_, kCh2_, kCh3_t, kCh3_f, sx_gNil, sx_gCons, kG_, sx_gTup, gT_nm, gT_tup, gTs_nil, gTs_cons, sx_gSub, kSub1_, kSub2_, sx_par, kPar_, sx_par3, kPar3_, sx_it, kIt_tup, sx_rg1, sx_rg2, sx_for, kFor_rg, kFor_tp, sx_loopT, sx_loopT0, sx_loopR0, kGo_, kTurn_nx, kTurn_ct, kTurn_bk, kTurn_rt, sx_noPart, sx_part, kPart_, sx_sl, kSl1_, kSl2_, kSl3_, sx_lc, sx_pairs0, sx_pairs, kP1_, kP2_, kP3_, sx_dict, eqD_int, neD_int, addD_int, subD_int, ltD_int, leD_int, gtD_int, geD_int, intD_int, intD_bl, ix_t0, ix_t1, ix_t2, ix_t3, lenD_tup, tupleD_tup, listD_tup, List.getElem?_cons_zero, List.getElem?_cons_succ, List.set_cons_zero, List.set_cons_succ, List.length_cons, List.length_nil, Nat.zero_add, Nat.reduceAdd, Nat.reduceSub, Nat.reduceMul, decide_true, decide_false, Bool.not_true, Bool.not_false, Int.reduceMul, Int.reduceAdd, Int.reduceSub, Int.reduceNeg, Int.reduceLT, Int.reduceLE, Int.reducePow, Int.reduceEq, Int.reduceNe, Nat.reduceLeDiff, Nat.reduceLT, Bool.and_true, Bool.true_and, Bool.and_self, ↓reduceIte, Bool.false_eq_true, sx_mt, kMt1_, kMt2_, sx_isL, kIsL_ref, kIsL2_, absD_int, minD_int, maxD_int, negD_int, isi_tup_tuple, isi_int_int, isi_int_bool, kWh_t, kWh_f, nc1, nc2, nc3, nc4, nc5, nc6, nc7, nc8, nc9, nc10, nc11, nc12, nc13, nc14, nc15, nc16, mulD_int, mulD_intL, kRg1_, kRg2_, i62_eq, i63_eq, i64_eq, LIM, List.length_append, at_k, at_k0, set_k, set_k0, kDict_eq, kDict2_, keyP_str, keyP_int, allO_nil, allO_c, kAll_, mO_some, ixD_ref, kIx_lst, kIx_dK, kIx_dT, kIt_ref, kItr_, kFor_ref, kLoopL_, lenD_ref, kLen_lst, kLen_dK, kLen_dT, tupleD_ref, kTuple_, listD_ref, kList_, setD_ref, kSet_lst, kSetL_, kSet_dK, kSetK_, kSet_dT, kSetT_, appendD_ref, kApp_, addD_ref, kAddL_, mulD_ref, kMulL_, slD_ref, kSlice_, slD_tup, maxD_ref, minD_ref, kOnInts_, Option.bind_some, Option.map_some, maxOf, minOf, List.foldl_cons, List.foldl_nil, mergeD, putD, valD, List.any_cons, List.any_nil, Sum.inr.injEq, Sum.inl.injEq, Bool.or_false, Bool.false_or, Bool.or_true, List.find?_cons, List.find?_nil, keyK_str, keyK_int, intK_int, List.map_cons, List.map_nil, List.cons_append, List.nil_append, List.replicate, List.append_assoc]⟩)]
  congr 4
  unfold row
  rw [List.map_map]
  congr 1
theorem c_od3 {e0 e1 e2 e3 e4 : Option D} {st : List LO} {lo n : Nat} (hn : n ≤ 1000) : kLc (gNm 4) (mRet true) m__law_doubled_stages_e3 [4] (.rg (lo : Int) n) ⟨[e0, e1, e2, e3, e4], st⟩ = .ret (.ref st.length) ⟨[e0, e1, e2, e3, e4], st ++ [.lst ((rowP 2 lo n).map tD)]⟩ := by
  rw [kLc_rg (t := mRet true) (h := fun z => .tup [.str "down", .int (2 * z + 1)]) (Nat.le_trans hn (by decide)) (fun i hi => ⟨_, rfl, rfl, by unfold m__law_doubled_stages_e3; simp only [wipeE, bind_ret, sx_seq, kSeq_nx, kSeq_rt, kSeq_bk, kSeq_ct, sx_next, sx_break, sx_cont, sx_drop, kDrop_, sx_retS, kRetS_, sx_if, kIf_t, kIf_f, sx_asg, kAsg_, kNx_, sx_nm, sx_var, kVar_, sx_ret, sx_op, kOp1_, kOp2_, sx_un, kUn_, sx_nil, sx_cons, kCons1_, kCons2_, sx_tup, sx_lst, kTup_, kLst_, sx_fn, kFn_, sx_call, sx_bool, kBool_, sx_tru, kTru_bl, sx_and, sx_or, sx_not, kAnd_t, kAnd_f, kOr_t, kOr_f, kNot_, sx_andV, sx_orV, sx_notV, kAndV_t, kAndV_f, kOrV_t, kOrV_f, kNotV_, sx_ifE, kIfE_t, kIfE_f, sx_chain, kCh1_, kCh2_, kCh3_t, kCh3_f, sx_gNil, sx_gCons, kG_, sx_gTup, gT_nm, gT_tup, gTs_nil, gTs_cons, sx_gSub, kSub1_, kSub2_, sx_par, kPar_, sx_par3, kPar3_, sx_it, kIt_tup, sx_rg1, sx_rg2, sx_for, kFor_rg, kFor_tp, sx_loopT, sx_loopT0, sx_loopR0, kGo_, kTurn_nx, kTurn_ct, kTurn_bk, kTurn_rt, sx_noPart, sx_part, kPart_, sx_sl, kSl1_, kSl2_, kSl3_, sx_lc, sx_pairs0, sx_pairs, kP1_, kP2_, kP3_, sx_dict, eqD_int, neD_int, addD_int, subD_int, ltD_int, leD_int, gtD_int, geD_int, intD_int, intD_bl, ix_t0, ix_t1, ix_t2, ix_t3, lenD_tup, tupleD_tup, listD_tup, List.getElem?_cons_zero, List.getElem?_cons_succ, List.set_cons_zero, List.set_cons_succ, List.length_cons, List.length_nil, Nat.zero_add, Nat.reduceAdd, Nat.reduceSub, Nat.reduceMul, decide_true, decide_false, Bool.not_true, Bool.not_false, Int.reduceMul, Int.reduceAdd, Int.reduceSub, Int.reduceNeg, Int.reduceLT, Int.reduceLE, Int.reducePow, Int.reduceEq, Int.reduceNe, Nat.reduceLeDiff, Nat.reduceLT, Bool.and_true, Bool.true_and, Bool.and_self, ↓reduceIte, Bool.false_eq_true, sx_mt, kMt1_, kMt2_, sx_isL, kIsL_ref, kIsL2_, absD_int, minD_int, maxD_int, negD_int, isi_tup_tuple, isi_int_int, isi_int_bool, kWh_t, kWh_f, nc1, nc2, nc3, nc4, nc5, nc6, nc7, nc8, nc9, nc10, nc11, nc12, nc13, nc14, nc15, nc16, mulD_int, mulD_intL, kRg1_, kRg2_, i62_eq, i63_eq, i64_eq, LIM, List.length_append, at_k, at_k0, set_k, set_k0, kDict_eq, kDict2_, keyP_str, keyP_int, allO_nil, allO_c, kAll_, mO_some, ixD_ref, kIx_lst, kIx_dK, kIx_dT, kIt_ref, kItr_, kFor_ref, kLoopL_, lenD_ref, kLen_lst, kLen_dK, kLen_dT, tupleD_ref, kTuple_, listD_ref, kList_, setD_ref, kSet_lst, kSetL_, kSet_dK, kSetK_, kSet_dT, kSetT_, appendD_ref, kApp_, addD_ref, kAddL_, mulD_ref, kMulL_, slD_ref, kSlice_, slD_tup, maxD_ref, minD_ref, kOnInts_, Option.bind_some, Option.map_some, maxOf, minOf, List.foldl_cons, List.foldl_nil, mergeD, putD, valD, List.any_cons, List.any_nil, Sum.inr.injEq, Sum.inl.injEq, Bool.or_false, Bool.false_or, Bool.or_true, List.find?_cons, List.find?_nil, keyK_str, keyK_int, intK_int, List.map_cons, List.map_nil, List.cons_append, List.nil_append, List.replicate, List.append_assoc]⟩)]
  congr 4
  unfold rowP
  rw [List.map_map]
  congr 1
theorem c_om1 {e0 e1 e2 e3 e4 e5 : Option D} {st : List LO} {lo n : Nat} (hn : n ≤ 1000) : kLc (gNm 5) (mRet true) m__law_made_stages_e1 [5] (.rg (lo : Int) n) ⟨[e0, e1, e2, e3, e4, e5], st⟩ = .ret (.ref st.length) ⟨[e0, e1, e2, e3, e4, e5], st ++ [.lst ((row 0 lo n).map tD)]⟩ := by
  rw [kLc_rg (t := mRet true) (h := fun z => .tup [.str "wire", .int (2 * z)]) (Nat.le_trans hn (by decide)) (fun i hi => ⟨_, rfl, rfl, by unfold m__law_made_stages_e1; simp only [wipeE, bind_ret, sx_seq, kSeq_nx, kSeq_rt, kSeq_bk, kSeq_ct, sx_next, sx_break, sx_cont, sx_drop, kDrop_, sx_retS, kRetS_, sx_if, kIf_t, kIf_f, sx_asg, kAsg_, kNx_, sx_nm, sx_var, kVar_, sx_ret, sx_op, kOp1_, kOp2_, sx_un, kUn_, sx_nil, sx_cons, kCons1_, kCons2_, sx_tup, sx_lst, kTup_, kLst_, sx_fn, kFn_, sx_call, sx_bool, kBool_, sx_tru, kTru_bl, sx_and, sx_or, sx_not, kAnd_t, kAnd_f, kOr_t, kOr_f, kNot_, sx_andV, sx_orV, sx_notV, kAndV_t, kAndV_f, kOrV_t, kOrV_f, kNotV_, sx_ifE, kIfE_t, kIfE_f, sx_chain, kCh1_, kCh2_, kCh3_t, kCh3_f, sx_gNil, sx_gCons, kG_, sx_gTup, gT_nm, gT_tup, gTs_nil, gTs_cons, sx_gSub, kSub1_, kSub2_, sx_par, kPar_, sx_par3, kPar3_, sx_it, kIt_tup, sx_rg1, sx_rg2, sx_for, kFor_rg, kFor_tp, sx_loopT, sx_loopT0, sx_loopR0, kGo_, kTurn_nx, kTurn_ct, kTurn_bk, kTurn_rt, sx_noPart, sx_part, kPart_, sx_sl, kSl1_, kSl2_, kSl3_, sx_lc, sx_pairs0, sx_pairs, kP1_, kP2_, kP3_, sx_dict, eqD_int, neD_int, addD_int, subD_int, ltD_int, leD_int, gtD_int, geD_int, intD_int, intD_bl, ix_t0, ix_t1, ix_t2, ix_t3, lenD_tup, tupleD_tup, listD_tup, List.getElem?_cons_zero, List.getElem?_cons_succ, List.set_cons_zero, List.set_cons_succ, List.length_cons, List.length_nil, Nat.zero_add, Nat.reduceAdd, Nat.reduceSub, Nat.reduceMul, decide_true, decide_false, Bool.not_true, Bool.not_false, Int.reduceMul, Int.reduceAdd, Int.reduceSub, Int.reduceNeg, Int.reduceLT, Int.reduceLE, Int.reducePow, Int.reduceEq, Int.reduceNe, Nat.reduceLeDiff, Nat.reduceLT, Bool.and_true, Bool.true_and, Bool.and_self, ↓reduceIte, Bool.false_eq_true, sx_mt, kMt1_, kMt2_, sx_isL, kIsL_ref, kIsL2_, absD_int, minD_int, maxD_int, negD_int, isi_tup_tuple, isi_int_int, isi_int_bool, kWh_t, kWh_f, nc1, nc2, nc3, nc4, nc5, nc6, nc7, nc8, nc9, nc10, nc11, nc12, nc13, nc14, nc15, nc16, mulD_int, mulD_intL, kRg1_, kRg2_, i62_eq, i63_eq, i64_eq, LIM, List.length_append, at_k, at_k0, set_k, set_k0, kDict_eq, kDict2_, keyP_str, keyP_int, allO_nil, allO_c, kAll_, mO_some, ixD_ref, kIx_lst, kIx_dK, kIx_dT, kIt_ref, kItr_, kFor_ref, kLoopL_, lenD_ref, kLen_lst, kLen_dK, kLen_dT, tupleD_ref, kTuple_, listD_ref, kList_, setD_ref, kSet_lst, kSetL_, kSet_dK, kSetK_, kSet_dT, kSetT_, appendD_ref, kApp_, addD_ref, kAddL_, mulD_ref, kMulL_, slD_ref, kSlice_, slD_tup, maxD_ref, minD_ref, kOnInts_, Option.bind_some, Option.map_some, maxOf, minOf, List.foldl_cons, List.foldl_nil, mergeD, putD, valD, List.any_cons, List.any_nil, Sum.inr.injEq, Sum.inl.injEq, Bool.or_false, Bool.false_or, Bool.or_true, List.find?_cons, List.find?_nil, keyK_str, keyK_int, intK_int, List.map_cons, List.map_nil, List.cons_append, List.nil_append, List.replicate, List.append_assoc]⟩)]
  congr 4
  unfold row
  rw [List.map_map]
  congr 1
theorem c_om2 {e0 e1 e2 e3 e4 e5 : Option D} {st : List LO} {lo n : Nat} (hn : n ≤ 1000) : kLc (gNm 5) (mRet true) m__law_made_stages_e2 [5] (.rg (lo : Int) n) ⟨[e0, e1, e2, e3, e4, e5], st⟩ = .ret (.ref st.length) ⟨[e0, e1, e2, e3, e4, e5], st ++ [.lst ((row 1 lo n).map tD)]⟩ := by
  rw [kLc_rg (t := mRet true) (h := fun z => .tup [.str "up", .int (2 * z)]) (Nat.le_trans hn (by decide)) (fun i hi => ⟨_, rfl, rfl, by unfold m__law_made_stages_e2; simp only [wipeE, bind_ret, sx_seq, kSeq_nx, kSeq_rt, kSeq_bk, kSeq_ct, sx_next, sx_break, sx_cont, sx_drop, kDrop_, sx_retS, kRetS_, sx_if, kIf_t, kIf_f, sx_asg, kAsg_, kNx_, sx_nm, sx_var, kVar_, sx_ret, sx_op, kOp1_, kOp2_, sx_un, kUn_, sx_nil, sx_cons, kCons1_, kCons2_, sx_tup, sx_lst, kTup_, kLst_, sx_fn, kFn_, sx_call, sx_bool, kBool_, sx_tru, kTru_bl, sx_and, sx_or, sx_not, kAnd_t, kAnd_f, kOr_t, kOr_f, kNot_, sx_andV, sx_orV, sx_notV, kAndV_t, kAndV_f, kOrV_t, kOrV_f, kNotV_, sx_ifE, kIfE_t, kIfE_f, sx_chain, kCh1_, kCh2_, kCh3_t, kCh3_f, sx_gNil, sx_gCons, kG_, sx_gTup, gT_nm, gT_tup, gTs_nil, gTs_cons, sx_gSub, kSub1_, kSub2_, sx_par, kPar_, sx_par3, kPar3_, sx_it, kIt_tup, sx_rg1, sx_rg2, sx_for, kFor_rg, kFor_tp, sx_loopT, sx_loopT0, sx_loopR0, kGo_, kTurn_nx, kTurn_ct, kTurn_bk, kTurn_rt, sx_noPart, sx_part, kPart_, sx_sl, kSl1_, kSl2_, kSl3_, sx_lc, sx_pairs0, sx_pairs, kP1_, kP2_, kP3_, sx_dict, eqD_int, neD_int, addD_int, subD_int, ltD_int, leD_int, gtD_int, geD_int, intD_int, intD_bl, ix_t0, ix_t1, ix_t2, ix_t3, lenD_tup, tupleD_tup, listD_tup, List.getElem?_cons_zero, List.getElem?_cons_succ, List.set_cons_zero, List.set_cons_succ, List.length_cons, List.length_nil, Nat.zero_add, Nat.reduceAdd, Nat.reduceSub, Nat.reduceMul, decide_true, decide_false, Bool.not_true, Bool.not_false, Int.reduceMul, Int.reduceAdd, Int.reduceSub, Int.reduceNeg, Int.reduceLT, Int.reduceLE, Int.reducePow, Int.reduceEq, Int.reduceNe, Nat.reduceLeDiff, Nat.reduceLT, Bool.and_true, Bool.true_and, Bool.and_self, ↓reduceIte, Bool.false_eq_true, sx_mt, kMt1_, kMt2_, sx_isL, kIsL_ref, kIsL2_, absD_int, minD_int, maxD_int, negD_int, isi_tup_tuple, isi_int_int, isi_int_bool, kWh_t, kWh_f, nc1, nc2, nc3, nc4, nc5, nc6, nc7, nc8, nc9, nc10, nc11, nc12, nc13, nc14, nc15, nc16, mulD_int, mulD_intL, kRg1_, kRg2_, i62_eq, i63_eq, i64_eq, LIM, List.length_append, at_k, at_k0, set_k, set_k0, kDict_eq, kDict2_, keyP_str, keyP_int, allO_nil, allO_c, kAll_, mO_some, ixD_ref, kIx_lst, kIx_dK, kIx_dT, kIt_ref, kItr_, kFor_ref, kLoopL_, lenD_ref, kLen_lst, kLen_dK, kLen_dT, tupleD_ref, kTuple_, listD_ref, kList_, setD_ref, kSet_lst, kSetL_, kSet_dK, kSetK_, kSet_dT, kSetT_, appendD_ref, kApp_, addD_ref, kAddL_, mulD_ref, kMulL_, slD_ref, kSlice_, slD_tup, maxD_ref, minD_ref, kOnInts_, Option.bind_some, Option.map_some, maxOf, minOf, List.foldl_cons, List.foldl_nil, mergeD, putD, valD, List.any_cons, List.any_nil, Sum.inr.injEq, Sum.inl.injEq, Bool.or_false, Bool.false_or, Bool.or_true, List.find?_cons, List.find?_nil, keyK_str, keyK_int, intK_int, List.map_cons, List.map_nil, List.cons_append, List.nil_append, List.replicate, List.append_assoc]⟩)]
  congr 4
  unfold row
  rw [List.map_map]
  congr 1
theorem c_om3 {e0 e1 e2 e3 e4 e5 : Option D} {st : List LO} {lo n : Nat} (hn : n ≤ 1000) (hlo : 1 ≤ lo) : kLc (gNm 5) (mRet true) m__law_made_stages_e3 [5] (.rg (lo : Int) n) ⟨[e0, e1, e2, e3, e4, e5], st⟩ = .ret (.ref st.length) ⟨[e0, e1, e2, e3, e4, e5], st ++ [.lst ((rowM 1 lo n).map tD)]⟩ := by
  rw [kLc_rg (t := mRet true) (h := fun z => .tup [.str "up", .int (2 * z - 1)]) (Nat.le_trans hn (by decide)) (fun i hi => ⟨_, rfl, rfl, by unfold m__law_made_stages_e3; simp only [wipeE, bind_ret, sx_seq, kSeq_nx, kSeq_rt, kSeq_bk, kSeq_ct, sx_next, sx_break, sx_cont, sx_drop, kDrop_, sx_retS, kRetS_, sx_if, kIf_t, kIf_f, sx_asg, kAsg_, kNx_, sx_nm, sx_var, kVar_, sx_ret, sx_op, kOp1_, kOp2_, sx_un, kUn_, sx_nil, sx_cons, kCons1_, kCons2_, sx_tup, sx_lst, kTup_, kLst_, sx_fn, kFn_, sx_call, sx_bool, kBool_, sx_tru, kTru_bl, sx_and, sx_or, sx_not, kAnd_t, kAnd_f, kOr_t, kOr_f, kNot_, sx_andV, sx_orV, sx_notV, kAndV_t, kAndV_f, kOrV_t, kOrV_f, kNotV_, sx_ifE, kIfE_t, kIfE_f, sx_chain, kCh1_, kCh2_, kCh3_t, kCh3_f, sx_gNil, sx_gCons, kG_, sx_gTup, gT_nm, gT_tup, gTs_nil, gTs_cons, sx_gSub, kSub1_, kSub2_, sx_par, kPar_, sx_par3, kPar3_, sx_it, kIt_tup, sx_rg1, sx_rg2, sx_for, kFor_rg, kFor_tp, sx_loopT, sx_loopT0, sx_loopR0, kGo_, kTurn_nx, kTurn_ct, kTurn_bk, kTurn_rt, sx_noPart, sx_part, kPart_, sx_sl, kSl1_, kSl2_, kSl3_, sx_lc, sx_pairs0, sx_pairs, kP1_, kP2_, kP3_, sx_dict, eqD_int, neD_int, addD_int, subD_int, ltD_int, leD_int, gtD_int, geD_int, intD_int, intD_bl, ix_t0, ix_t1, ix_t2, ix_t3, lenD_tup, tupleD_tup, listD_tup, List.getElem?_cons_zero, List.getElem?_cons_succ, List.set_cons_zero, List.set_cons_succ, List.length_cons, List.length_nil, Nat.zero_add, Nat.reduceAdd, Nat.reduceSub, Nat.reduceMul, decide_true, decide_false, Bool.not_true, Bool.not_false, Int.reduceMul, Int.reduceAdd, Int.reduceSub, Int.reduceNeg, Int.reduceLT, Int.reduceLE, Int.reducePow, Int.reduceEq, Int.reduceNe, Nat.reduceLeDiff, Nat.reduceLT, Bool.and_true, Bool.true_and, Bool.and_self, ↓reduceIte, Bool.false_eq_true, sx_mt, kMt1_, kMt2_, sx_isL, kIsL_ref, kIsL2_, absD_int, minD_int, maxD_int, negD_int, isi_tup_tuple, isi_int_int, isi_int_bool, kWh_t, kWh_f, nc1, nc2, nc3, nc4, nc5, nc6, nc7, nc8, nc9, nc10, nc11, nc12, nc13, nc14, nc15, nc16, mulD_int, mulD_intL, kRg1_, kRg2_, i62_eq, i63_eq, i64_eq, LIM, List.length_append, at_k, at_k0, set_k, set_k0, kDict_eq, kDict2_, keyP_str, keyP_int, allO_nil, allO_c, kAll_, mO_some, ixD_ref, kIx_lst, kIx_dK, kIx_dT, kIt_ref, kItr_, kFor_ref, kLoopL_, lenD_ref, kLen_lst, kLen_dK, kLen_dT, tupleD_ref, kTuple_, listD_ref, kList_, setD_ref, kSet_lst, kSetL_, kSet_dK, kSetK_, kSet_dT, kSetT_, appendD_ref, kApp_, addD_ref, kAddL_, mulD_ref, kMulL_, slD_ref, kSlice_, slD_tup, maxD_ref, minD_ref, kOnInts_, Option.bind_some, Option.map_some, maxOf, minOf, List.foldl_cons, List.foldl_nil, mergeD, putD, valD, List.any_cons, List.any_nil, Sum.inr.injEq, Sum.inl.injEq, Bool.or_false, Bool.false_or, Bool.or_true, List.find?_cons, List.find?_nil, keyK_str, keyK_int, intK_int, List.map_cons, List.map_nil, List.cons_append, List.nil_append, List.replicate, List.append_assoc]⟩)]
  congr 4
  unfold rowM
  rw [List.map_map]
  refine congrArg LO.lst (List.map_congr_left fun i _ => ?_)
  show D.tup [.str "up", .int _] = D.tup [.str "up", .int ((2 * (lo + i) - 1 : Nat) : Int)]
  have q : 2 * ((lo : Int) + (i : Int)) - 1 = ((2 * (lo + i) - 1 : Nat) : Int) := by omega
  rw [q]

/-! ### the stages that are made -/
def doubledS (m p : Nat) : List (List Tile) := [row 0 0 p ++ [(3, 2 * p)] ++ row 2 (p + 1) (m - (p + 1)), row 0 0 (p + 1) ++ [(2, 2 * p + 1)] ++ rowP 2 (p + 1) (m - (p + 1))]
theorem rg1 {p : Nat} (h : p ≤ 1000) (s : LS) : kRg1 [.int (p : Int)] s = .ret (.rg ((0 : Nat) : Int) p) s := by
  rw [kRg1_ (i62_of (by omega)), Int.toNat_natCast]
  rfl
theorem rg1s {p : Nat} (h : p ≤ 1000) (s : LS) : kRg1 [.int ((p : Int) + 1)] s = .ret (.rg ((0 : Nat) : Int) (p + 1)) s := by
  rw [show ((p : Int) + 1) = ((p + 1 : Nat) : Int) from rfl, kRg1_ (i62_of (by omega)), Int.toNat_natCast]
  rfl
theorem rg2s {p m : Nat} (h : p ≤ 1000) (h2 : m ≤ 1000) (s : LS) : kRg2 [.int ((p : Int) + 1), .int (m : Int)] s = .ret (.rg ((p + 1 : Nat) : Int) (m - (p + 1))) s := by
  rw [kRg2_ (i62_of (by omega)) (i62_of (by omega)), show ((m : Int) - ((p : Int) + 1)).toNat = m - (p + 1) by omega]
  rfl
theorem rg2t {p m : Nat} (h : p ≤ 1000) (h2 : m ≤ 1000) (s : LS) : kRg2 [.int ((p : Int) + 2), .int (m : Int)] s = .ret (.rg ((p + 2 : Nat) : Int) (m - (p + 2))) s := by
  rw [kRg2_ (i62_of (by omega)) (i62_of (by omega)), show ((m : Int) - ((p : Int) + 2)).toNat = m - (p + 2) by omega]
  rfl
theorem it_rng {p m : Nat} (h : p ≤ 1000) (h2 : m ≤ 1000) (s : LS) : kIt (.rng ((p : Int) + 1) (m : Int)) s = .ret (.rg ((p + 1 : Nat) : Int) (m - (p + 1))) s := by
  have h1 : i62 ((p : Int) + 1) = true := i62_of (by omega)
  have h2 : i62 (m : Int) = true := i62_of (by omega)
  unfold kIt sqOf
  dsimp only
  rw [h1, h2, show ((m : Int) - ((p : Int) + 1)).toNat = m - (p + 1) by omega]
  rfl
theorem doubled_ok {m p : Nat} {S : List LO} (hp : p ≤ 900) (hm : m ≤ 900) : ∃ g, Run F_doubled [.int (m : Int), .int (p : Int)] S (stD (doubledS m p)) (S ++ g) := by
  refine run_ex rfl ?_
  have b1 : ∀ s, range2D [.int ((p : Int) + 1), .int (m : Int)] s = .ret (.rng ((p : Int) + 1) (m : Int)) s := fun _ => rfl
  have t1 : D.tup [.str "copy", .int (2 * (p : Int))] = tD (3, 2 * p) := rfl
  have t2 : D.tup [.str "down", .int (2 * (p : Int) + 1)] = tD (2, 2 * p + 1) := rfl
  unfold m_doubled startE
  simp (disch := first | assumption | (simp only [i62_eq, i63_eq, i64_eq, Int.reduceNeg, Int.reduceLT, decide_true, Bool.and_self]; done) | rfl | (simp only [List.length_map, List.length_append, List.length_cons, List.length_nil, LIM, len_row, len_rowP, len_rowM]; omega) | omega) only [bind_ret, sx_seq, kSeq_nx, kSeq_rt, kSeq_bk, kSeq_ct, sx_next, sx_break, sx_cont, sx_drop, kDrop_, sx_retS, kRetS_, sx_if, kIf_t, kIf_f, sx_asg, kAsg_, kNx_, sx_nm, sx_var, kVar_, sx_ret, sx_op, kOp1_, kOp2_, sx_un, kUn_, sx_nil, sx_cons, kCons1_, kCons2_, sx_tup, sx_lst, kTup_, kLst_, sx_fn, kFn_, sx_call, sx_bool, kBool_, sx_tru, kTru_bl, sx_and, sx_or, sx_not, kAnd_t, kAnd_f, kOr_t, kOr_f, kNot_, sx_andV, sx_orV, sx_notV, kAndV_t, kAndV_f, kOrV_t, kOrV_f, kNotV_, sx_ifE, kIfE_t, kIfE_f, sx_chain, kCh1_, kCh2_, kCh3_t, kCh3_f, sx_gNil, sx_gCons, kG_, sx_gTup, gT_nm, gT_tup, gTs_nil, gTs_cons, sx_gSub, kSub1_, kSub2_, sx_par, kPar_, sx_par3, kPar3_, sx_it, kIt_tup, sx_rg1, sx_rg2, sx_for, kFor_rg, kFor_tp, sx_loopT, sx_loopT0, sx_loopR0, kGo_, kTurn_nx, kTurn_ct, kTurn_bk, kTurn_rt, sx_noPart, sx_part, kPart_, sx_sl, kSl1_, kSl2_, kSl3_, sx_lc, sx_pairs0, sx_pairs, kP1_, kP2_, kP3_, sx_dict, eqD_int, neD_int, addD_int, subD_int, ltD_int, leD_int, gtD_int, geD_int, intD_int, intD_bl, ix_t0, ix_t1, ix_t2, ix_t3, lenD_tup, tupleD_tup, listD_tup, List.getElem?_cons_zero, List.getElem?_cons_succ, List.set_cons_zero, List.set_cons_succ, List.length_cons, List.length_nil, Nat.zero_add, Nat.reduceAdd, Nat.reduceSub, Nat.reduceMul, decide_true, decide_false, Bool.not_true, Bool.not_false, Int.reduceMul, Int.reduceAdd, Int.reduceSub, Int.reduceNeg, Int.reduceLT, Int.reduceLE, Int.reducePow, Int.reduceEq, Int.reduceNe, Nat.reduceLeDiff, Nat.reduceLT, Bool.and_true, Bool.true_and, Bool.and_self, ↓reduceIte, Bool.false_eq_true, sx_mt, kMt1_, kMt2_, sx_isL, kIsL_ref, kIsL2_, absD_int, minD_int, maxD_int, negD_int, isi_tup_tuple, isi_int_int, isi_int_bool, kWh_t, kWh_f, nc1, nc2, nc3, nc4, nc5, nc6, nc7, nc8, nc9, nc10, nc11, nc12, nc13, nc14, nc15, nc16, mulD_int, mulD_intL, kRg1_, kRg2_, i62_eq, i63_eq, i64_eq, LIM, List.length_append, at_k, at_k0, set_k, set_k0, kDict_eq, kDict2_, keyP_str, keyP_int, allO_nil, allO_c, kAll_, mO_some, ixD_ref, kIx_lst, kIx_dK, kIx_dT, kIt_ref, kItr_, kFor_ref, kLoopL_, lenD_ref, kLen_lst, kLen_dK, kLen_dT, tupleD_ref, kTuple_, listD_ref, kList_, setD_ref, kSet_lst, kSetL_, kSet_dK, kSetK_, kSet_dT, kSetT_, appendD_ref, kApp_, addD_ref, kAddL_, mulD_ref, kMulL_, slD_ref, kSlice_, slD_tup, maxD_ref, minD_ref, kOnInts_, Option.bind_some, Option.map_some, maxOf, minOf, List.foldl_cons, List.foldl_nil, mergeD, putD, valD, List.any_cons, List.any_nil, Sum.inr.injEq, Sum.inl.injEq, Bool.or_false, Bool.false_or, Bool.or_true, List.find?_cons, List.find?_nil, keyK_str, keyK_int, intK_int, List.map_cons, List.map_nil, List.cons_append, List.nil_append, List.replicate, List.append_assoc, b1, it_rng, rg1, rg1s, c_d1, c_d2, c_d3, List.length_map, len_row, len_rowP, t1, t2]
  simp only [stD, doubledS, List.map_cons, List.map_nil, List.map_append, List.append_assoc, List.cons_append, List.nil_append]
  exact ⟨_, _, rfl⟩
def odoubled_ok {m p : Nat} {S : List LO} (hp : p ≤ 900) (hm : m ≤ 900) : ∃ g, Run F__law_doubled_stages [.int (m : Int), .int (p : Int)] S (stD (doubledS m p)) (S ++ g) := by
  refine run_ex rfl ?_
  have t1 : D.tup [.str "copy", .int (2 * (p : Int))] = tD (3, 2 * p) := rfl
  have t2 : D.tup [.str "down", .int (2 * (p : Int) + 1)] = tD (2, 2 * p + 1) := rfl
  unfold m__law_doubled_stages startE
  simp (disch := first | assumption | (simp only [i62_eq, i63_eq, i64_eq, Int.reduceNeg, Int.reduceLT, decide_true, Bool.and_self]; done) | rfl | (simp only [List.length_map, List.length_append, List.length_cons, List.length_nil, LIM, len_row, len_rowP, len_rowM]; omega) | omega) only [bind_ret, sx_seq, kSeq_nx, kSeq_rt, kSeq_bk, kSeq_ct, sx_next, sx_break, sx_cont, sx_drop, kDrop_, sx_retS, kRetS_, sx_if, kIf_t, kIf_f, sx_asg, kAsg_, kNx_, sx_nm, sx_var, kVar_, sx_ret, sx_op, kOp1_, kOp2_, sx_un, kUn_, sx_nil, sx_cons, kCons1_, kCons2_, sx_tup, sx_lst, kTup_, kLst_, sx_fn, kFn_, sx_call, sx_bool, kBool_, sx_tru, kTru_bl, sx_and, sx_or, sx_not, kAnd_t, kAnd_f, kOr_t, kOr_f, kNot_, sx_andV, sx_orV, sx_notV, kAndV_t, kAndV_f, kOrV_t, kOrV_f, kNotV_, sx_ifE, kIfE_t, kIfE_f, sx_chain, kCh1_, kCh2_, kCh3_t, kCh3_f, sx_gNil, sx_gCons, kG_, sx_gTup, gT_nm, gT_tup, gTs_nil, gTs_cons, sx_gSub, kSub1_, kSub2_, sx_par, kPar_, sx_par3, kPar3_, sx_it, kIt_tup, sx_rg1, sx_rg2, sx_for, kFor_rg, kFor_tp, sx_loopT, sx_loopT0, sx_loopR0, kGo_, kTurn_nx, kTurn_ct, kTurn_bk, kTurn_rt, sx_noPart, sx_part, kPart_, sx_sl, kSl1_, kSl2_, kSl3_, sx_lc, sx_pairs0, sx_pairs, kP1_, kP2_, kP3_, sx_dict, eqD_int, neD_int, addD_int, subD_int, ltD_int, leD_int, gtD_int, geD_int, intD_int, intD_bl, ix_t0, ix_t1, ix_t2, ix_t3, lenD_tup, tupleD_tup, listD_tup, List.getElem?_cons_zero, List.getElem?_cons_succ, List.set_cons_zero, List.set_cons_succ, List.length_cons, List.length_nil, Nat.zero_add, Nat.reduceAdd, Nat.reduceSub, Nat.reduceMul, decide_true, decide_false, Bool.not_true, Bool.not_false, Int.reduceMul, Int.reduceAdd, Int.reduceSub, Int.reduceNeg, Int.reduceLT, Int.reduceLE, Int.reducePow, Int.reduceEq, Int.reduceNe, Nat.reduceLeDiff, Nat.reduceLT, Bool.and_true, Bool.true_and, Bool.and_self, ↓reduceIte, Bool.false_eq_true, sx_mt, kMt1_, kMt2_, sx_isL, kIsL_ref, kIsL2_, absD_int, minD_int, maxD_int, negD_int, isi_tup_tuple, isi_int_int, isi_int_bool, kWh_t, kWh_f, nc1, nc2, nc3, nc4, nc5, nc6, nc7, nc8, nc9, nc10, nc11, nc12, nc13, nc14, nc15, nc16, mulD_int, mulD_intL, kRg1_, kRg2_, i62_eq, i63_eq, i64_eq, LIM, List.length_append, at_k, at_k0, set_k, set_k0, kDict_eq, kDict2_, keyP_str, keyP_int, allO_nil, allO_c, kAll_, mO_some, ixD_ref, kIx_lst, kIx_dK, kIx_dT, kIt_ref, kItr_, kFor_ref, kLoopL_, lenD_ref, kLen_lst, kLen_dK, kLen_dT, tupleD_ref, kTuple_, listD_ref, kList_, setD_ref, kSet_lst, kSetL_, kSet_dK, kSetK_, kSet_dT, kSetT_, appendD_ref, kApp_, addD_ref, kAddL_, mulD_ref, kMulL_, slD_ref, kSlice_, slD_tup, maxD_ref, minD_ref, kOnInts_, Option.bind_some, Option.map_some, maxOf, minOf, List.foldl_cons, List.foldl_nil, mergeD, putD, valD, List.any_cons, List.any_nil, Sum.inr.injEq, Sum.inl.injEq, Bool.or_false, Bool.false_or, Bool.or_true, List.find?_cons, List.find?_nil, keyK_str, keyK_int, intK_int, List.map_cons, List.map_nil, List.cons_append, List.nil_append, List.replicate, List.append_assoc, rg1, rg1s, rg2s, c_od1, c_od2, c_od3, List.length_map, len_row, len_rowP, t1, t2]
  simp only [stD, doubledS, List.map_cons, List.map_nil, List.map_append, List.append_assoc, List.cons_append, List.nil_append]
  exact ⟨_, _, rfl⟩
def madeS (m p k : Nat) : List (List Tile) := [row 0 0 p ++ [(0, 2 * p)] ++ row 1 (p + 1) (m - (p + 1)), row 0 0 p ++ [(k, 2 * p)] ++ rowM 1 (p + 2) (m - (p + 2))]
theorem made_ok {m p k : Nat} {S : List LO} (hp : p ≤ 900) (hm : m ≤ 900) : ∃ g, Run F_made_at [.int (m : Int), .int (p : Int), .str (kS k)] S (stD (madeS m p k)) (S ++ g) := by
  refine run_ex rfl ?_
  have t1 : D.tup [.str "wire", .int (2 * (p : Int))] = tD (0, 2 * p) := rfl
  have t2 : D.tup [.str (kS k), .int (2 * (p : Int))] = tD (k, 2 * p) := rfl
  unfold m_made_at startE
  simp (disch := first | assumption | (simp only [i62_eq, i63_eq, i64_eq, Int.reduceNeg, Int.reduceLT, decide_true, Bool.and_self]; done) | rfl | (simp only [List.length_map, List.length_append, List.length_cons, List.length_nil, LIM, len_row, len_rowP, len_rowM]; omega) | omega) only [bind_ret, sx_seq, kSeq_nx, kSeq_rt, kSeq_bk, kSeq_ct, sx_next, sx_break, sx_cont, sx_drop, kDrop_, sx_retS, kRetS_, sx_if, kIf_t, kIf_f, sx_asg, kAsg_, kNx_, sx_nm, sx_var, kVar_, sx_ret, sx_op, kOp1_, kOp2_, sx_un, kUn_, sx_nil, sx_cons, kCons1_, kCons2_, sx_tup, sx_lst, kTup_, kLst_, sx_fn, kFn_, sx_call, sx_bool, kBool_, sx_tru, kTru_bl, sx_and, sx_or, sx_not, kAnd_t, kAnd_f, kOr_t, kOr_f, kNot_, sx_andV, sx_orV, sx_notV, kAndV_t, kAndV_f, kOrV_t, kOrV_f, kNotV_, sx_ifE, kIfE_t, kIfE_f, sx_chain, kCh1_, kCh2_, kCh3_t, kCh3_f, sx_gNil, sx_gCons, kG_, sx_gTup, gT_nm, gT_tup, gTs_nil, gTs_cons, sx_gSub, kSub1_, kSub2_, sx_par, kPar_, sx_par3, kPar3_, sx_it, kIt_tup, sx_rg1, sx_rg2, sx_for, kFor_rg, kFor_tp, sx_loopT, sx_loopT0, sx_loopR0, kGo_, kTurn_nx, kTurn_ct, kTurn_bk, kTurn_rt, sx_noPart, sx_part, kPart_, sx_sl, kSl1_, kSl2_, kSl3_, sx_lc, sx_pairs0, sx_pairs, kP1_, kP2_, kP3_, sx_dict, eqD_int, neD_int, addD_int, subD_int, ltD_int, leD_int, gtD_int, geD_int, intD_int, intD_bl, ix_t0, ix_t1, ix_t2, ix_t3, lenD_tup, tupleD_tup, listD_tup, List.getElem?_cons_zero, List.getElem?_cons_succ, List.set_cons_zero, List.set_cons_succ, List.length_cons, List.length_nil, Nat.zero_add, Nat.reduceAdd, Nat.reduceSub, Nat.reduceMul, decide_true, decide_false, Bool.not_true, Bool.not_false, Int.reduceMul, Int.reduceAdd, Int.reduceSub, Int.reduceNeg, Int.reduceLT, Int.reduceLE, Int.reducePow, Int.reduceEq, Int.reduceNe, Nat.reduceLeDiff, Nat.reduceLT, Bool.and_true, Bool.true_and, Bool.and_self, ↓reduceIte, Bool.false_eq_true, sx_mt, kMt1_, kMt2_, sx_isL, kIsL_ref, kIsL2_, absD_int, minD_int, maxD_int, negD_int, isi_tup_tuple, isi_int_int, isi_int_bool, kWh_t, kWh_f, nc1, nc2, nc3, nc4, nc5, nc6, nc7, nc8, nc9, nc10, nc11, nc12, nc13, nc14, nc15, nc16, mulD_int, mulD_intL, kRg1_, kRg2_, i62_eq, i63_eq, i64_eq, LIM, List.length_append, at_k, at_k0, set_k, set_k0, kDict_eq, kDict2_, keyP_str, keyP_int, allO_nil, allO_c, kAll_, mO_some, ixD_ref, kIx_lst, kIx_dK, kIx_dT, kIt_ref, kItr_, kFor_ref, kLoopL_, lenD_ref, kLen_lst, kLen_dK, kLen_dT, tupleD_ref, kTuple_, listD_ref, kList_, setD_ref, kSet_lst, kSetL_, kSet_dK, kSetK_, kSet_dT, kSetT_, appendD_ref, kApp_, addD_ref, kAddL_, mulD_ref, kMulL_, slD_ref, kSlice_, slD_tup, maxD_ref, minD_ref, kOnInts_, Option.bind_some, Option.map_some, maxOf, minOf, List.foldl_cons, List.foldl_nil, mergeD, putD, valD, List.any_cons, List.any_nil, Sum.inr.injEq, Sum.inl.injEq, Bool.or_false, Bool.false_or, Bool.or_true, List.find?_cons, List.find?_nil, keyK_str, keyK_int, intK_int, List.map_cons, List.map_nil, List.cons_append, List.nil_append, List.replicate, List.append_assoc, rg1, rg1s, rg2s, rg2t, c_m1, c_m2, c_m3, List.length_map, len_row, len_rowM, t1, t2]
  simp only [stD, madeS, List.map_cons, List.map_nil, List.map_append, List.append_assoc, List.cons_append, List.nil_append]
  exact ⟨_, _, rfl⟩
theorem row_succ (c n : Nat) : row c 0 (n + 1) = row c 0 n ++ [(c, 2 * n)] := by
  simp [row, List.range_succ]
theorem omade_ok {m p k : Nat} {S : List LO} (hp : p ≤ 900) (hm : m ≤ 900) : ∃ g, Run F__law_made_stages [.int (m : Int), .int (p : Int), .str (kS k)] S (stD (madeS m p k)) (S ++ g) := by
  refine run_ex rfl ?_
  have t2 : D.tup [.str (kS k), .int (2 * (p : Int))] = tD (k, 2 * p) := rfl
  unfold m__law_made_stages startE
  simp (disch := first | assumption | (simp only [i62_eq, i63_eq, i64_eq, Int.reduceNeg, Int.reduceLT, decide_true, Bool.and_self]; done) | rfl | (simp only [List.length_map, List.length_append, List.length_cons, List.length_nil, LIM, len_row, len_rowP, len_rowM]; omega) | omega) only [bind_ret, sx_seq, kSeq_nx, kSeq_rt, kSeq_bk, kSeq_ct, sx_next, sx_break, sx_cont, sx_drop, kDrop_, sx_retS, kRetS_, sx_if, kIf_t, kIf_f, sx_asg, kAsg_, kNx_, sx_nm, sx_var, kVar_, sx_ret, sx_op, kOp1_, kOp2_, sx_un, kUn_, sx_nil, sx_cons, kCons1_, kCons2_, sx_tup, sx_lst, kTup_, kLst_, sx_fn, kFn_, sx_call, sx_bool, kBool_, sx_tru, kTru_bl, sx_and, sx_or, sx_not, kAnd_t, kAnd_f, kOr_t, kOr_f, kNot_, sx_andV, sx_orV, sx_notV, kAndV_t, kAndV_f, kOrV_t, kOrV_f, kNotV_, sx_ifE, kIfE_t, kIfE_f, sx_chain, kCh1_, kCh2_, kCh3_t, kCh3_f, sx_gNil, sx_gCons, kG_, sx_gTup, gT_nm, gT_tup, gTs_nil, gTs_cons, sx_gSub, kSub1_, kSub2_, sx_par, kPar_, sx_par3, kPar3_, sx_it, kIt_tup, sx_rg1, sx_rg2, sx_for, kFor_rg, kFor_tp, sx_loopT, sx_loopT0, sx_loopR0, kGo_, kTurn_nx, kTurn_ct, kTurn_bk, kTurn_rt, sx_noPart, sx_part, kPart_, sx_sl, kSl1_, kSl2_, kSl3_, sx_lc, sx_pairs0, sx_pairs, kP1_, kP2_, kP3_, sx_dict, eqD_int, neD_int, addD_int, subD_int, ltD_int, leD_int, gtD_int, geD_int, intD_int, intD_bl, ix_t0, ix_t1, ix_t2, ix_t3, lenD_tup, tupleD_tup, listD_tup, List.getElem?_cons_zero, List.getElem?_cons_succ, List.set_cons_zero, List.set_cons_succ, List.length_cons, List.length_nil, Nat.zero_add, Nat.reduceAdd, Nat.reduceSub, Nat.reduceMul, decide_true, decide_false, Bool.not_true, Bool.not_false, Int.reduceMul, Int.reduceAdd, Int.reduceSub, Int.reduceNeg, Int.reduceLT, Int.reduceLE, Int.reducePow, Int.reduceEq, Int.reduceNe, Nat.reduceLeDiff, Nat.reduceLT, Bool.and_true, Bool.true_and, Bool.and_self, ↓reduceIte, Bool.false_eq_true, sx_mt, kMt1_, kMt2_, sx_isL, kIsL_ref, kIsL2_, absD_int, minD_int, maxD_int, negD_int, isi_tup_tuple, isi_int_int, isi_int_bool, kWh_t, kWh_f, nc1, nc2, nc3, nc4, nc5, nc6, nc7, nc8, nc9, nc10, nc11, nc12, nc13, nc14, nc15, nc16, mulD_int, mulD_intL, kRg1_, kRg2_, i62_eq, i63_eq, i64_eq, LIM, List.length_append, at_k, at_k0, set_k, set_k0, kDict_eq, kDict2_, keyP_str, keyP_int, allO_nil, allO_c, kAll_, mO_some, ixD_ref, kIx_lst, kIx_dK, kIx_dT, kIt_ref, kItr_, kFor_ref, kLoopL_, lenD_ref, kLen_lst, kLen_dK, kLen_dT, tupleD_ref, kTuple_, listD_ref, kList_, setD_ref, kSet_lst, kSetL_, kSet_dK, kSetK_, kSet_dT, kSetT_, appendD_ref, kApp_, addD_ref, kAddL_, mulD_ref, kMulL_, slD_ref, kSlice_, slD_tup, maxD_ref, minD_ref, kOnInts_, Option.bind_some, Option.map_some, maxOf, minOf, List.foldl_cons, List.foldl_nil, mergeD, putD, valD, List.any_cons, List.any_nil, Sum.inr.injEq, Sum.inl.injEq, Bool.or_false, Bool.false_or, Bool.or_true, List.find?_cons, List.find?_nil, keyK_str, keyK_int, intK_int, List.map_cons, List.map_nil, List.cons_append, List.nil_append, List.replicate, List.append_assoc, rg1, rg1s, rg2s, rg2t, c_om1, c_om2, c_om3, List.length_map, len_row, len_rowM, t2]
  simp only [stD, madeS, row_succ, List.map_cons, List.map_nil, List.map_append, List.append_assoc, List.cons_append, List.nil_append]
  exact ⟨_, _, rfl⟩
def midS (p : Nat) : List (List Tile) := [[(3, 2 * p), (3, 2 * p + 2)], [(0, 2 * p), (5, 2 * p + 1), (0, 2 * p + 3)], [(0, 2 * p), (3, 2 * p + 1), (0, 2 * p + 3)], [(5, 2 * p), (5, 2 * p + 2)]]
def exS (m p : Nat) : List (List Tile) := (midS p).map fun t => row 0 0 p ++ t ++ row 0 (p + 2) (m - (p + 2))
theorem c_mid {f : D → M Unit} {el : M D} {slot n : Nat} {e : List (Option D)} {st : List LO} {m p : Nat} (hn : st[n]? = some (.lst ((midS p).map fun t => .tup (t.map tD)))) (hp : p ≤ 900) (hm : m ≤ 900)
    (q : ∀ d : List D, d.length ≤ 3 → ∃ e1, f (.tup d) ⟨wipeE e [slot], st⟩ = .ret () ⟨e1, st⟩ ∧ mRet true ⟨e1, st⟩ = .ret true ⟨e1, st⟩ ∧ el ⟨e1, st⟩ = .ret (.tup ((row 0 0 p).map tD ++ d ++ (row 0 (p + 2) (m - (p + 2))).map tD)) ⟨e1, st⟩) :
    kLc f (mRet true) el [slot] (.ls n) ⟨e, st⟩ = .ret (.ref st.length) ⟨e, st ++ [.lst ((exS m p).map fun t => .tup (t.map tD))]⟩ := by
  rw [kLc_ls (t := mRet true) (h := fun d => match d with
    | .tup d => .tup ((row 0 0 p).map tD ++ d ++ (row 0 (p + 2) (m - (p + 2))).map tD)
    | _ => .non) hn (by simp [midS, LIM])]
  · congr 4
    simp [exS, midS]
  · intro d hd
    obtain ⟨t, ht, rfl⟩ := List.mem_map.mp hd
    refine q _ ?_
    simp [midS] at ht
    rcases ht with rfl | rfl | rfl | rfl <;> simp
theorem exch_ok {m p : Nat} {S : List LO} (hp : p ≤ 900) (hm : m ≤ 900) : ∃ g, Run F_exchanged [.int (m : Int), .int (p : Int)] S (stD (exS m p)) (S ++ g) := by
  refine run_ex rfl ?_
  have t1 : [D.tup [.tup [.str "copy", .int (2 * (p : Int))], .tup [.str "copy", .int (2 * (p : Int) + 2)]], .tup [.tup [.str "wire", .int (2 * (p : Int))], .tup [.str "xor", .int (2 * (p : Int) + 1)], .tup [.str "wire", .int (2 * (p : Int) + 3)]],
      .tup [.tup [.str "wire", .int (2 * (p : Int))], .tup [.str "copy", .int (2 * (p : Int) + 1)], .tup [.str "wire", .int (2 * (p : Int) + 3)]], .tup [.tup [.str "xor", .int (2 * (p : Int))], .tup [.str "xor", .int (2 * (p : Int) + 2)]]] = (midS p).map fun t => D.tup (t.map tD) := rfl
  have cm : ∀ (a0 a1 a2 a3 a4 : Option D) (n : Nat) (st : List LO), st[n]? = some (.lst ((midS p).map fun t => .tup (t.map tD))) → kLc (gNm 8) (mRet true) m_exchanged_e2 [8] (.ls n) ⟨[a0, a1, a2, a3, a4, some (.tup ((row 0 0 p).map tD)), some (.tup ((row 0 (p + 2) (m - (p + 2))).map tD)), none, none], st⟩ =
      .ret (.ref st.length) ⟨[a0, a1, a2, a3, a4, some (.tup ((row 0 0 p).map tD)), some (.tup ((row 0 (p + 2) (m - (p + 2))).map tD)), none, none], st ++ [.lst ((exS m p).map fun t => .tup (t.map tD))]⟩ := fun a0 a1 a2 a3 a4 n st hn =>
    c_mid hn hp hm fun d hd => ⟨_, rfl, rfl, by
      unfold m_exchanged_e2
      simp (disch := first | assumption | (simp only [i62_eq, i63_eq, i64_eq, Int.reduceNeg, Int.reduceLT, decide_true, Bool.and_self]; done) | rfl | (simp only [List.length_map, List.length_append, List.length_cons, List.length_nil, LIM, len_row, len_rowP, len_rowM]; omega) | omega) only [wipeE, bind_ret, sx_seq, kSeq_nx, kSeq_rt, kSeq_bk, kSeq_ct, sx_next, sx_break, sx_cont, sx_drop, kDrop_, sx_retS, kRetS_, sx_if, kIf_t, kIf_f, sx_asg, kAsg_, kNx_, sx_nm, sx_var, kVar_, sx_ret, sx_op, kOp1_, kOp2_, sx_un, kUn_, sx_nil, sx_cons, kCons1_, kCons2_, sx_tup, sx_lst, kTup_, kLst_, sx_fn, kFn_, sx_call, sx_bool, kBool_, sx_tru, kTru_bl, sx_and, sx_or, sx_not, kAnd_t, kAnd_f, kOr_t, kOr_f, kNot_, sx_andV, sx_orV, sx_notV, kAndV_t, kAndV_f, kOrV_t, kOrV_f, kNotV_, sx_ifE, kIfE_t, kIfE_f, sx_chain, kCh1_, kCh2_, kCh3_t, kCh3_f, sx_gNil, sx_gCons, kG_, sx_gTup, gT_nm, gT_tup, gTs_nil, gTs_cons, sx_gSub, kSub1_, kSub2_, sx_par, kPar_, sx_par3, kPar3_, sx_it, kIt_tup, sx_rg1, sx_rg2, sx_for, kFor_rg, kFor_tp, sx_loopT, sx_loopT0, sx_loopR0, kGo_, kTurn_nx, kTurn_ct, kTurn_bk, kTurn_rt, sx_noPart, sx_part, kPart_, sx_sl, kSl1_, kSl2_, kSl3_, sx_lc, sx_pairs0, sx_pairs, kP1_, kP2_, kP3_, sx_dict, eqD_int, neD_int, addD_int, subD_int, ltD_int, leD_int, gtD_int, geD_int, intD_int, intD_bl, ix_t0, ix_t1, ix_t2, ix_t3, lenD_tup, tupleD_tup, listD_tup, List.getElem?_cons_zero, List.getElem?_cons_succ, List.set_cons_zero, List.set_cons_succ, List.length_cons, List.length_nil, Nat.zero_add, Nat.reduceAdd, Nat.reduceSub, Nat.reduceMul, decide_true, decide_false, Bool.not_true, Bool.not_false, Int.reduceMul, Int.reduceAdd, Int.reduceSub, Int.reduceNeg, Int.reduceLT, Int.reduceLE, Int.reducePow, Int.reduceEq, Int.reduceNe, Nat.reduceLeDiff, Nat.reduceLT, Bool.and_true, Bool.true_and, Bool.and_self, ↓reduceIte, Bool.false_eq_true, sx_mt, kMt1_, kMt2_, sx_isL, kIsL_ref, kIsL2_, absD_int, minD_int, maxD_int, negD_int, isi_tup_tuple, isi_int_int, isi_int_bool, kWh_t, kWh_f, nc1, nc2, nc3, nc4, nc5, nc6, nc7, nc8, nc9, nc10, nc11, nc12, nc13, nc14, nc15, nc16, mulD_int, mulD_intL, kRg1_, kRg2_, i62_eq, i63_eq, i64_eq, LIM, List.length_append, at_k, at_k0, set_k, set_k0, kDict_eq, kDict2_, keyP_str, keyP_int, allO_nil, allO_c, kAll_, mO_some, ixD_ref, kIx_lst, kIx_dK, kIx_dT, kIt_ref, kItr_, kFor_ref, kLoopL_, lenD_ref, kLen_lst, kLen_dK, kLen_dT, tupleD_ref, kTuple_, listD_ref, kList_, setD_ref, kSet_lst, kSetL_, kSet_dK, kSetK_, kSet_dT, kSetT_, appendD_ref, kApp_, addD_ref, kAddL_, mulD_ref, kMulL_, slD_ref, kSlice_, slD_tup, maxD_ref, minD_ref, kOnInts_, Option.bind_some, Option.map_some, maxOf, minOf, List.foldl_cons, List.foldl_nil, mergeD, putD, valD, List.any_cons, List.any_nil, Sum.inr.injEq, Sum.inl.injEq, Bool.or_false, Bool.false_or, Bool.or_true, List.find?_cons, List.find?_nil, keyK_str, keyK_int, intK_int, List.map_cons, List.map_nil, List.cons_append, List.nil_append, List.replicate, List.append_assoc, add_tup, List.length_map, len_row]⟩
  have lm : ((midS p).map fun t => D.tup (t.map tD)).length ≤ LIM := by simp [midS, LIM]
  unfold m_exchanged startE
  simp (disch := first | assumption | (simp only [i62_eq, i63_eq, i64_eq, Int.reduceNeg, Int.reduceLT, decide_true, Bool.and_self]; done) | rfl | (simp only [List.length_map, List.length_append, List.length_cons, List.length_nil, LIM, len_row, len_rowP, len_rowM]; omega) | omega) only [bind_ret, sx_seq, kSeq_nx, kSeq_rt, kSeq_bk, kSeq_ct, sx_next, sx_break, sx_cont, sx_drop, kDrop_, sx_retS, kRetS_, sx_if, kIf_t, kIf_f, sx_asg, kAsg_, kNx_, sx_nm, sx_var, kVar_, sx_ret, sx_op, kOp1_, kOp2_, sx_un, kUn_, sx_nil, sx_cons, kCons1_, kCons2_, sx_tup, sx_lst, kTup_, kLst_, sx_fn, kFn_, sx_call, sx_bool, kBool_, sx_tru, kTru_bl, sx_and, sx_or, sx_not, kAnd_t, kAnd_f, kOr_t, kOr_f, kNot_, sx_andV, sx_orV, sx_notV, kAndV_t, kAndV_f, kOrV_t, kOrV_f, kNotV_, sx_ifE, kIfE_t, kIfE_f, sx_chain, kCh1_, kCh2_, kCh3_t, kCh3_f, sx_gNil, sx_gCons, kG_, sx_gTup, gT_nm, gT_tup, gTs_nil, gTs_cons, sx_gSub, kSub1_, kSub2_, sx_par, kPar_, sx_par3, kPar3_, sx_it, kIt_tup, sx_rg1, sx_rg2, sx_for, kFor_rg, kFor_tp, sx_loopT, sx_loopT0, sx_loopR0, kGo_, kTurn_nx, kTurn_ct, kTurn_bk, kTurn_rt, sx_noPart, sx_part, kPart_, sx_sl, kSl1_, kSl2_, kSl3_, sx_lc, sx_pairs0, sx_pairs, kP1_, kP2_, kP3_, sx_dict, eqD_int, neD_int, addD_int, subD_int, ltD_int, leD_int, gtD_int, geD_int, intD_int, intD_bl, ix_t0, ix_t1, ix_t2, ix_t3, lenD_tup, tupleD_tup, listD_tup, List.getElem?_cons_zero, List.getElem?_cons_succ, List.set_cons_zero, List.set_cons_succ, List.length_cons, List.length_nil, Nat.zero_add, Nat.reduceAdd, Nat.reduceSub, Nat.reduceMul, decide_true, decide_false, Bool.not_true, Bool.not_false, Int.reduceMul, Int.reduceAdd, Int.reduceSub, Int.reduceNeg, Int.reduceLT, Int.reduceLE, Int.reducePow, Int.reduceEq, Int.reduceNe, Nat.reduceLeDiff, Nat.reduceLT, Bool.and_true, Bool.true_and, Bool.and_self, ↓reduceIte, Bool.false_eq_true, sx_mt, kMt1_, kMt2_, sx_isL, kIsL_ref, kIsL2_, absD_int, minD_int, maxD_int, negD_int, isi_tup_tuple, isi_int_int, isi_int_bool, kWh_t, kWh_f, nc1, nc2, nc3, nc4, nc5, nc6, nc7, nc8, nc9, nc10, nc11, nc12, nc13, nc14, nc15, nc16, mulD_int, mulD_intL, kRg1_, kRg2_, i62_eq, i63_eq, i64_eq, LIM, List.length_append, at_k, at_k0, set_k, set_k0, kDict_eq, kDict2_, keyP_str, keyP_int, allO_nil, allO_c, kAll_, mO_some, ixD_ref, kIx_lst, kIx_dK, kIx_dT, kIt_ref, kItr_, kFor_ref, kLoopL_, lenD_ref, kLen_lst, kLen_dK, kLen_dT, tupleD_ref, kTuple_, listD_ref, kList_, setD_ref, kSet_lst, kSetL_, kSet_dK, kSetK_, kSet_dT, kSetT_, appendD_ref, kApp_, addD_ref, kAddL_, mulD_ref, kMulL_, slD_ref, kSlice_, slD_tup, maxD_ref, minD_ref, kOnInts_, Option.bind_some, Option.map_some, maxOf, minOf, List.foldl_cons, List.foldl_nil, mergeD, putD, valD, List.any_cons, List.any_nil, Sum.inr.injEq, Sum.inl.injEq, Bool.or_false, Bool.false_or, Bool.or_true, List.find?_cons, List.find?_nil, keyK_str, keyK_int, intK_int, List.map_cons, List.map_nil, List.cons_append, List.nil_append, List.replicate, List.append_assoc, rg1, rg1s, rg2s, rg2t, c_x1, len_row, t1]
  simp only [cm, bind_ret, sx_seq, kSeq_nx, kSeq_rt, kSeq_bk, kSeq_ct, sx_next, sx_break, sx_cont, sx_drop, kDrop_, sx_retS, kRetS_, sx_if, kIf_t, kIf_f, sx_asg, kAsg_, kNx_, sx_nm, sx_var, kVar_, sx_ret, sx_op, kOp1_, kOp2_, sx_un, kUn_, sx_nil, sx_cons, kCons1_, kCons2_, sx_tup, sx_lst, kTup_, kLst_, sx_fn, kFn_, sx_call, sx_bool, kBool_, sx_tru, kTru_bl, sx_and, sx_or, sx_not, kAnd_t, kAnd_f, kOr_t, kOr_f, kNot_, sx_andV, sx_orV, sx_notV, kAndV_t, kAndV_f, kOrV_t, kOrV_f, kNotV_, sx_ifE, kIfE_t, kIfE_f, sx_chain, kCh1_, kCh2_, kCh3_t, kCh3_f, sx_gNil, sx_gCons, kG_, sx_gTup, gT_nm, gT_tup, gTs_nil, gTs_cons, sx_gSub, kSub1_, kSub2_, sx_par, kPar_, sx_par3, kPar3_, sx_it, kIt_tup, sx_rg1, sx_rg2, sx_for, kFor_rg, kFor_tp, sx_loopT, sx_loopT0, sx_loopR0, kGo_, kTurn_nx, kTurn_ct, kTurn_bk, kTurn_rt, sx_noPart, sx_part, kPart_, sx_sl, kSl1_, kSl2_, kSl3_, sx_lc, sx_pairs0, sx_pairs, kP1_, kP2_, kP3_, sx_dict, eqD_int, neD_int, addD_int, subD_int, ltD_int, leD_int, gtD_int, geD_int, intD_int, intD_bl, ix_t0, ix_t1, ix_t2, ix_t3, lenD_tup, tupleD_tup, listD_tup, List.getElem?_cons_zero, List.getElem?_cons_succ, List.set_cons_zero, List.set_cons_succ, List.length_cons, List.length_nil, Nat.zero_add, Nat.reduceAdd, Nat.reduceSub, Nat.reduceMul, decide_true, decide_false, Bool.not_true, Bool.not_false, Int.reduceMul, Int.reduceAdd, Int.reduceSub, Int.reduceNeg, Int.reduceLT, Int.reduceLE, Int.reducePow, Int.reduceEq, Int.reduceNe, Nat.reduceLeDiff, Nat.reduceLT, Bool.and_true, Bool.true_and, Bool.and_self, ↓reduceIte, Bool.false_eq_true, sx_mt, kMt1_, kMt2_, sx_isL, kIsL_ref, kIsL2_, absD_int, minD_int, maxD_int, negD_int, isi_tup_tuple, isi_int_int, isi_int_bool, kWh_t, kWh_f, nc1, nc2, nc3, nc4, nc5, nc6, nc7, nc8, nc9, nc10, nc11, nc12, nc13, nc14, nc15, nc16, mulD_int, mulD_intL, kRg1_, kRg2_, i62_eq, i63_eq, i64_eq, LIM, List.length_append, at_k, at_k0, set_k, set_k0, kDict_eq, kDict2_, keyP_str, keyP_int, allO_nil, allO_c, kAll_, mO_some, ixD_ref, kIx_lst, kIx_dK, kIx_dT, kIt_ref, kItr_, kFor_ref, kLoopL_, lenD_ref, kLen_lst, kLen_dK, kLen_dT, tupleD_ref, kTuple_, listD_ref, kList_, setD_ref, kSet_lst, kSetL_, kSet_dK, kSetK_, kSet_dT, kSetT_, appendD_ref, kApp_, addD_ref, kAddL_, mulD_ref, kMulL_, slD_ref, kSlice_, slD_tup, maxD_ref, minD_ref, kOnInts_, Option.bind_some, Option.map_some, maxOf, minOf, List.foldl_cons, List.foldl_nil, mergeD, putD, valD, List.any_cons, List.any_nil, Sum.inr.injEq, Sum.inl.injEq, Bool.or_false, Bool.false_or, Bool.or_true, List.find?_cons, List.find?_nil, keyK_str, keyK_int, intK_int, List.map_cons, List.map_nil, List.cons_append, List.nil_append, List.replicate, List.append_assoc, at_k0, at_k, stD]
  exact ⟨_, _, rfl⟩
theorem oexch_ok {m p : Nat} {S : List LO} (hp : p ≤ 900) (hm : m ≤ 900) : ∃ g, Run F__law_own_exchanged [.int (m : Int), .int (p : Int)] S (stD (exS m p)) (S ++ g) := by
  refine run_ex rfl ?_
  have t1 : [D.tup [.tup [.str "copy", .int (2 * (p : Int))], .tup [.str "copy", .int (2 * (p : Int) + 2)]], .tup [.tup [.str "wire", .int (2 * (p : Int))], .tup [.str "xor", .int (2 * (p : Int) + 1)], .tup [.str "wire", .int (2 * (p : Int) + 3)]],
      .tup [.tup [.str "wire", .int (2 * (p : Int))], .tup [.str "copy", .int (2 * (p : Int) + 1)], .tup [.str "wire", .int (2 * (p : Int) + 3)]], .tup [.tup [.str "xor", .int (2 * (p : Int))], .tup [.str "xor", .int (2 * (p : Int) + 2)]]] = (midS p).map fun t => D.tup (t.map tD) := rfl
  have cm : ∀ (a0 a1 a2 a5 : Option D) (n : Nat) (st : List LO), st[n]? = some (.lst ((midS p).map fun t => .tup (t.map tD))) → kLc (gNm 7) (mRet true) m__law_own_exchanged_e2 [7] (.ls n) ⟨[a0, a1, a2, some (.tup ((row 0 0 p).map tD)), some (.tup ((row 0 (p + 2) (m - (p + 2))).map tD)), a5, none, none], st⟩ =
      .ret (.ref st.length) ⟨[a0, a1, a2, some (.tup ((row 0 0 p).map tD)), some (.tup ((row 0 (p + 2) (m - (p + 2))).map tD)), a5, none, none], st ++ [.lst ((exS m p).map fun t => .tup (t.map tD))]⟩ := fun a0 a1 a2 a5 n st hn =>
    c_mid hn hp hm fun d hd => ⟨_, rfl, rfl, by
      unfold m__law_own_exchanged_e2
      simp (disch := first | assumption | (simp only [i62_eq, i63_eq, i64_eq, Int.reduceNeg, Int.reduceLT, decide_true, Bool.and_self]; done) | rfl | (simp only [List.length_map, List.length_append, List.length_cons, List.length_nil, LIM, len_row, len_rowP, len_rowM]; omega) | omega) only [wipeE, bind_ret, sx_seq, kSeq_nx, kSeq_rt, kSeq_bk, kSeq_ct, sx_next, sx_break, sx_cont, sx_drop, kDrop_, sx_retS, kRetS_, sx_if, kIf_t, kIf_f, sx_asg, kAsg_, kNx_, sx_nm, sx_var, kVar_, sx_ret, sx_op, kOp1_, kOp2_, sx_un, kUn_, sx_nil, sx_cons, kCons1_, kCons2_, sx_tup, sx_lst, kTup_, kLst_, sx_fn, kFn_, sx_call, sx_bool, kBool_, sx_tru, kTru_bl, sx_and, sx_or, sx_not, kAnd_t, kAnd_f, kOr_t, kOr_f, kNot_, sx_andV, sx_orV, sx_notV, kAndV_t, kAndV_f, kOrV_t, kOrV_f, kNotV_, sx_ifE, kIfE_t, kIfE_f, sx_chain, kCh1_, kCh2_, kCh3_t, kCh3_f, sx_gNil, sx_gCons, kG_, sx_gTup, gT_nm, gT_tup, gTs_nil, gTs_cons, sx_gSub, kSub1_, kSub2_, sx_par, kPar_, sx_par3, kPar3_, sx_it, kIt_tup, sx_rg1, sx_rg2, sx_for, kFor_rg, kFor_tp, sx_loopT, sx_loopT0, sx_loopR0, kGo_, kTurn_nx, kTurn_ct, kTurn_bk, kTurn_rt, sx_noPart, sx_part, kPart_, sx_sl, kSl1_, kSl2_, kSl3_, sx_lc, sx_pairs0, sx_pairs, kP1_, kP2_, kP3_, sx_dict, eqD_int, neD_int, addD_int, subD_int, ltD_int, leD_int, gtD_int, geD_int, intD_int, intD_bl, ix_t0, ix_t1, ix_t2, ix_t3, lenD_tup, tupleD_tup, listD_tup, List.getElem?_cons_zero, List.getElem?_cons_succ, List.set_cons_zero, List.set_cons_succ, List.length_cons, List.length_nil, Nat.zero_add, Nat.reduceAdd, Nat.reduceSub, Nat.reduceMul, decide_true, decide_false, Bool.not_true, Bool.not_false, Int.reduceMul, Int.reduceAdd, Int.reduceSub, Int.reduceNeg, Int.reduceLT, Int.reduceLE, Int.reducePow, Int.reduceEq, Int.reduceNe, Nat.reduceLeDiff, Nat.reduceLT, Bool.and_true, Bool.true_and, Bool.and_self, ↓reduceIte, Bool.false_eq_true, sx_mt, kMt1_, kMt2_, sx_isL, kIsL_ref, kIsL2_, absD_int, minD_int, maxD_int, negD_int, isi_tup_tuple, isi_int_int, isi_int_bool, kWh_t, kWh_f, nc1, nc2, nc3, nc4, nc5, nc6, nc7, nc8, nc9, nc10, nc11, nc12, nc13, nc14, nc15, nc16, mulD_int, mulD_intL, kRg1_, kRg2_, i62_eq, i63_eq, i64_eq, LIM, List.length_append, at_k, at_k0, set_k, set_k0, kDict_eq, kDict2_, keyP_str, keyP_int, allO_nil, allO_c, kAll_, mO_some, ixD_ref, kIx_lst, kIx_dK, kIx_dT, kIt_ref, kItr_, kFor_ref, kLoopL_, lenD_ref, kLen_lst, kLen_dK, kLen_dT, tupleD_ref, kTuple_, listD_ref, kList_, setD_ref, kSet_lst, kSetL_, kSet_dK, kSetK_, kSet_dT, kSetT_, appendD_ref, kApp_, addD_ref, kAddL_, mulD_ref, kMulL_, slD_ref, kSlice_, slD_tup, maxD_ref, minD_ref, kOnInts_, Option.bind_some, Option.map_some, maxOf, minOf, List.foldl_cons, List.foldl_nil, mergeD, putD, valD, List.any_cons, List.any_nil, Sum.inr.injEq, Sum.inl.injEq, Bool.or_false, Bool.false_or, Bool.or_true, List.find?_cons, List.find?_nil, keyK_str, keyK_int, intK_int, List.map_cons, List.map_nil, List.cons_append, List.nil_append, List.replicate, List.append_assoc, add_tup, List.length_map, len_row]⟩
  unfold m__law_own_exchanged startE
  simp (disch := first | assumption | (simp only [i62_eq, i63_eq, i64_eq, Int.reduceNeg, Int.reduceLT, decide_true, Bool.and_self]; done) | rfl | (simp only [List.length_map, List.length_append, List.length_cons, List.length_nil, LIM, len_row, len_rowP, len_rowM]; omega) | omega) only [bind_ret, sx_seq, kSeq_nx, kSeq_rt, kSeq_bk, kSeq_ct, sx_next, sx_break, sx_cont, sx_drop, kDrop_, sx_retS, kRetS_, sx_if, kIf_t, kIf_f, sx_asg, kAsg_, kNx_, sx_nm, sx_var, kVar_, sx_ret, sx_op, kOp1_, kOp2_, sx_un, kUn_, sx_nil, sx_cons, kCons1_, kCons2_, sx_tup, sx_lst, kTup_, kLst_, sx_fn, kFn_, sx_call, sx_bool, kBool_, sx_tru, kTru_bl, sx_and, sx_or, sx_not, kAnd_t, kAnd_f, kOr_t, kOr_f, kNot_, sx_andV, sx_orV, sx_notV, kAndV_t, kAndV_f, kOrV_t, kOrV_f, kNotV_, sx_ifE, kIfE_t, kIfE_f, sx_chain, kCh1_, kCh2_, kCh3_t, kCh3_f, sx_gNil, sx_gCons, kG_, sx_gTup, gT_nm, gT_tup, gTs_nil, gTs_cons, sx_gSub, kSub1_, kSub2_, sx_par, kPar_, sx_par3, kPar3_, sx_it, kIt_tup, sx_rg1, sx_rg2, sx_for, kFor_rg, kFor_tp, sx_loopT, sx_loopT0, sx_loopR0, kGo_, kTurn_nx, kTurn_ct, kTurn_bk, kTurn_rt, sx_noPart, sx_part, kPart_, sx_sl, kSl1_, kSl2_, kSl3_, sx_lc, sx_pairs0, sx_pairs, kP1_, kP2_, kP3_, sx_dict, eqD_int, neD_int, addD_int, subD_int, ltD_int, leD_int, gtD_int, geD_int, intD_int, intD_bl, ix_t0, ix_t1, ix_t2, ix_t3, lenD_tup, tupleD_tup, listD_tup, List.getElem?_cons_zero, List.getElem?_cons_succ, List.set_cons_zero, List.set_cons_succ, List.length_cons, List.length_nil, Nat.zero_add, Nat.reduceAdd, Nat.reduceSub, Nat.reduceMul, decide_true, decide_false, Bool.not_true, Bool.not_false, Int.reduceMul, Int.reduceAdd, Int.reduceSub, Int.reduceNeg, Int.reduceLT, Int.reduceLE, Int.reducePow, Int.reduceEq, Int.reduceNe, Nat.reduceLeDiff, Nat.reduceLT, Bool.and_true, Bool.true_and, Bool.and_self, ↓reduceIte, Bool.false_eq_true, sx_mt, kMt1_, kMt2_, sx_isL, kIsL_ref, kIsL2_, absD_int, minD_int, maxD_int, negD_int, isi_tup_tuple, isi_int_int, isi_int_bool, kWh_t, kWh_f, nc1, nc2, nc3, nc4, nc5, nc6, nc7, nc8, nc9, nc10, nc11, nc12, nc13, nc14, nc15, nc16, mulD_int, mulD_intL, kRg1_, kRg2_, i62_eq, i63_eq, i64_eq, LIM, List.length_append, at_k, at_k0, set_k, set_k0, kDict_eq, kDict2_, keyP_str, keyP_int, allO_nil, allO_c, kAll_, mO_some, ixD_ref, kIx_lst, kIx_dK, kIx_dT, kIt_ref, kItr_, kFor_ref, kLoopL_, lenD_ref, kLen_lst, kLen_dK, kLen_dT, tupleD_ref, kTuple_, listD_ref, kList_, setD_ref, kSet_lst, kSetL_, kSet_dK, kSetK_, kSet_dT, kSetT_, appendD_ref, kApp_, addD_ref, kAddL_, mulD_ref, kMulL_, slD_ref, kSlice_, slD_tup, maxD_ref, minD_ref, kOnInts_, Option.bind_some, Option.map_some, maxOf, minOf, List.foldl_cons, List.foldl_nil, mergeD, putD, valD, List.any_cons, List.any_nil, Sum.inr.injEq, Sum.inl.injEq, Bool.or_false, Bool.false_or, Bool.or_true, List.find?_cons, List.find?_nil, keyK_str, keyK_int, intK_int, List.map_cons, List.map_nil, List.cons_append, List.nil_append, List.replicate, List.append_assoc, rg1, rg1s, rg2s, rg2t, c_ox1, len_row, t1]
  simp only [cm, bind_ret, sx_seq, kSeq_nx, kSeq_rt, kSeq_bk, kSeq_ct, sx_next, sx_break, sx_cont, sx_drop, kDrop_, sx_retS, kRetS_, sx_if, kIf_t, kIf_f, sx_asg, kAsg_, kNx_, sx_nm, sx_var, kVar_, sx_ret, sx_op, kOp1_, kOp2_, sx_un, kUn_, sx_nil, sx_cons, kCons1_, kCons2_, sx_tup, sx_lst, kTup_, kLst_, sx_fn, kFn_, sx_call, sx_bool, kBool_, sx_tru, kTru_bl, sx_and, sx_or, sx_not, kAnd_t, kAnd_f, kOr_t, kOr_f, kNot_, sx_andV, sx_orV, sx_notV, kAndV_t, kAndV_f, kOrV_t, kOrV_f, kNotV_, sx_ifE, kIfE_t, kIfE_f, sx_chain, kCh1_, kCh2_, kCh3_t, kCh3_f, sx_gNil, sx_gCons, kG_, sx_gTup, gT_nm, gT_tup, gTs_nil, gTs_cons, sx_gSub, kSub1_, kSub2_, sx_par, kPar_, sx_par3, kPar3_, sx_it, kIt_tup, sx_rg1, sx_rg2, sx_for, kFor_rg, kFor_tp, sx_loopT, sx_loopT0, sx_loopR0, kGo_, kTurn_nx, kTurn_ct, kTurn_bk, kTurn_rt, sx_noPart, sx_part, kPart_, sx_sl, kSl1_, kSl2_, kSl3_, sx_lc, sx_pairs0, sx_pairs, kP1_, kP2_, kP3_, sx_dict, eqD_int, neD_int, addD_int, subD_int, ltD_int, leD_int, gtD_int, geD_int, intD_int, intD_bl, ix_t0, ix_t1, ix_t2, ix_t3, lenD_tup, tupleD_tup, listD_tup, List.getElem?_cons_zero, List.getElem?_cons_succ, List.set_cons_zero, List.set_cons_succ, List.length_cons, List.length_nil, Nat.zero_add, Nat.reduceAdd, Nat.reduceSub, Nat.reduceMul, decide_true, decide_false, Bool.not_true, Bool.not_false, Int.reduceMul, Int.reduceAdd, Int.reduceSub, Int.reduceNeg, Int.reduceLT, Int.reduceLE, Int.reducePow, Int.reduceEq, Int.reduceNe, Nat.reduceLeDiff, Nat.reduceLT, Bool.and_true, Bool.true_and, Bool.and_self, ↓reduceIte, Bool.false_eq_true, sx_mt, kMt1_, kMt2_, sx_isL, kIsL_ref, kIsL2_, absD_int, minD_int, maxD_int, negD_int, isi_tup_tuple, isi_int_int, isi_int_bool, kWh_t, kWh_f, nc1, nc2, nc3, nc4, nc5, nc6, nc7, nc8, nc9, nc10, nc11, nc12, nc13, nc14, nc15, nc16, mulD_int, mulD_intL, kRg1_, kRg2_, i62_eq, i63_eq, i64_eq, LIM, List.length_append, at_k, at_k0, set_k, set_k0, kDict_eq, kDict2_, keyP_str, keyP_int, allO_nil, allO_c, kAll_, mO_some, ixD_ref, kIx_lst, kIx_dK, kIx_dT, kIt_ref, kItr_, kFor_ref, kLoopL_, lenD_ref, kLen_lst, kLen_dK, kLen_dT, tupleD_ref, kTuple_, listD_ref, kList_, setD_ref, kSet_lst, kSetL_, kSet_dK, kSetK_, kSet_dT, kSetT_, appendD_ref, kApp_, addD_ref, kAddL_, mulD_ref, kMulL_, slD_ref, kSlice_, slD_tup, maxD_ref, minD_ref, kOnInts_, Option.bind_some, Option.map_some, maxOf, minOf, List.foldl_cons, List.foldl_nil, mergeD, putD, valD, List.any_cons, List.any_nil, Sum.inr.injEq, Sum.inl.injEq, Bool.or_false, Bool.false_or, Bool.or_true, List.find?_cons, List.find?_nil, keyK_str, keyK_int, intK_int, List.map_cons, List.map_nil, List.cons_append, List.nil_append, List.replicate, List.append_assoc, at_k0, at_k, stD]
  exact ⟨_, _, rfl⟩
/-! ### led -/
def ledR (m q : Nat) : Nat → Nat → List (List Tile)
  | 0, _ => []
  | n + 1, p => if p = q then [] else if p < q then exS m p ++ ledR m q n (p + 1) else exS m (p - 1) ++ ledR m q n (p - 1)
abbrev stL (sts : List (List Tile)) : List D := sts.map fun t => D.tup (t.map tD)
theorem len_ex (m p : Nat) : (exS m p).length = 4 := rfl
theorem led_loop {m q : Nat} {S : List LO} (hm : m ≤ 900) (hq : q ≤ 900) : ∀ (n k p : Nat) (acc : List D) (g : List LO), p ≤ 900 → p ≤ q + n → q ≤ p + n → n < k → acc.length + 4 * n ≤ 100000 →
    ∃ g', mWhile m_led_t1 m_led_l2 k ⟨[some (.int (m : Int)), some (.int (p : Int)), some (.int (q : Int)), some (.tup acc)], S ++ g⟩ =
      .ret .nx ⟨[some (.int (m : Int)), some (.int (q : Int)), some (.int (q : Int)), some (.tup (acc ++ stL (ledR m q n p)))], S ++ g'⟩
  | n, 0, p, acc, g, _, _, _, hk, _ => absurd hk (by omega)
  | 0, k + 1, p, acc, g, hp, h1, h2, hk, hl => by
    have e : p = q := by omega
    subst e
    refine ⟨g, ?_⟩
    rw [sx_while]
    unfold m_led_t1
    simp only [bind_ret, sx_seq, kSeq_nx, kSeq_rt, kSeq_bk, kSeq_ct, sx_next, sx_break, sx_cont, sx_drop, kDrop_, sx_retS, kRetS_, sx_if, kIf_t, kIf_f, sx_asg, kAsg_, kNx_, sx_nm, sx_var, kVar_, sx_ret, sx_op, kOp1_, kOp2_, sx_un, kUn_, sx_nil, sx_cons, kCons1_, kCons2_, sx_tup, sx_lst, kTup_, kLst_, sx_fn, kFn_, sx_call, sx_bool, kBool_, sx_tru, kTru_bl, sx_and, sx_or, sx_not, kAnd_t, kAnd_f, kOr_t, kOr_f, kNot_, sx_andV, sx_orV, sx_notV, kAndV_t, kAndV_f, kOrV_t, kOrV_f, kNotV_, sx_ifE, kIfE_t, kIfE_f, sx_chain, kCh1_, kCh2_, kCh3_t, kCh3_f, sx_gNil, sx_gCons, kG_, sx_gTup, gT_nm, gT_tup, gTs_nil, gTs_cons, sx_gSub, kSub1_, kSub2_, sx_par, kPar_, sx_par3, kPar3_, sx_it, kIt_tup, sx_rg1, sx_rg2, sx_for, kFor_rg, kFor_tp, sx_loopT, sx_loopT0, sx_loopR0, kGo_, kTurn_nx, kTurn_ct, kTurn_bk, kTurn_rt, sx_noPart, sx_part, kPart_, sx_sl, kSl1_, kSl2_, kSl3_, sx_lc, sx_pairs0, sx_pairs, kP1_, kP2_, kP3_, sx_dict, eqD_int, neD_int, addD_int, subD_int, ltD_int, leD_int, gtD_int, geD_int, intD_int, intD_bl, ix_t0, ix_t1, ix_t2, ix_t3, lenD_tup, tupleD_tup, listD_tup, List.getElem?_cons_zero, List.getElem?_cons_succ, List.set_cons_zero, List.set_cons_succ, List.length_cons, List.length_nil, Nat.zero_add, Nat.reduceAdd, Nat.reduceSub, Nat.reduceMul, decide_true, decide_false, Bool.not_true, Bool.not_false, Int.reduceMul, Int.reduceAdd, Int.reduceSub, Int.reduceNeg, Int.reduceLT, Int.reduceLE, Int.reducePow, Int.reduceEq, Int.reduceNe, Nat.reduceLeDiff, Nat.reduceLT, Bool.and_true, Bool.true_and, Bool.and_self, ↓reduceIte, Bool.false_eq_true, sx_mt, kMt1_, kMt2_, sx_isL, kIsL_ref, kIsL2_, absD_int, minD_int, maxD_int, negD_int, isi_tup_tuple, isi_int_int, isi_int_bool, kWh_t, kWh_f, nc1, nc2, nc3, nc4, nc5, nc6, nc7, nc8, nc9, nc10, nc11, nc12, nc13, nc14, nc15, nc16, mulD_int, mulD_intL, kRg1_, kRg2_, i62_eq, i63_eq, i64_eq, LIM, List.length_append, at_k, at_k0, set_k, set_k0, kDict_eq, kDict2_, keyP_str, keyP_int, allO_nil, allO_c, kAll_, mO_some, ixD_ref, kIx_lst, kIx_dK, kIx_dT, kIt_ref, kItr_, kFor_ref, kLoopL_, lenD_ref, kLen_lst, kLen_dK, kLen_dT, tupleD_ref, kTuple_, listD_ref, kList_, setD_ref, kSet_lst, kSetL_, kSet_dK, kSetK_, kSet_dT, kSetT_, appendD_ref, kApp_, addD_ref, kAddL_, mulD_ref, kMulL_, slD_ref, kSlice_, slD_tup, maxD_ref, minD_ref, kOnInts_, Option.bind_some, Option.map_some, maxOf, minOf, List.foldl_cons, List.foldl_nil, mergeD, putD, valD, List.any_cons, List.any_nil, Sum.inr.injEq, Sum.inl.injEq, Bool.or_false, Bool.false_or, Bool.or_true, List.find?_cons, List.find?_nil, keyK_str, keyK_int, intK_int, List.map_cons, List.map_nil, List.cons_append, List.nil_append, List.replicate, List.append_assoc, ledR, stL, List.map_nil, List.append_nil]
  | n + 1, k + 1, p, acc, g, hp, h1, h2, hk, hl => by
    by_cases e : p = q
    · subst e
      refine ⟨g, ?_⟩
      rw [sx_while]
      unfold m_led_t1
      simp only [bind_ret, sx_seq, kSeq_nx, kSeq_rt, kSeq_bk, kSeq_ct, sx_next, sx_break, sx_cont, sx_drop, kDrop_, sx_retS, kRetS_, sx_if, kIf_t, kIf_f, sx_asg, kAsg_, kNx_, sx_nm, sx_var, kVar_, sx_ret, sx_op, kOp1_, kOp2_, sx_un, kUn_, sx_nil, sx_cons, kCons1_, kCons2_, sx_tup, sx_lst, kTup_, kLst_, sx_fn, kFn_, sx_call, sx_bool, kBool_, sx_tru, kTru_bl, sx_and, sx_or, sx_not, kAnd_t, kAnd_f, kOr_t, kOr_f, kNot_, sx_andV, sx_orV, sx_notV, kAndV_t, kAndV_f, kOrV_t, kOrV_f, kNotV_, sx_ifE, kIfE_t, kIfE_f, sx_chain, kCh1_, kCh2_, kCh3_t, kCh3_f, sx_gNil, sx_gCons, kG_, sx_gTup, gT_nm, gT_tup, gTs_nil, gTs_cons, sx_gSub, kSub1_, kSub2_, sx_par, kPar_, sx_par3, kPar3_, sx_it, kIt_tup, sx_rg1, sx_rg2, sx_for, kFor_rg, kFor_tp, sx_loopT, sx_loopT0, sx_loopR0, kGo_, kTurn_nx, kTurn_ct, kTurn_bk, kTurn_rt, sx_noPart, sx_part, kPart_, sx_sl, kSl1_, kSl2_, kSl3_, sx_lc, sx_pairs0, sx_pairs, kP1_, kP2_, kP3_, sx_dict, eqD_int, neD_int, addD_int, subD_int, ltD_int, leD_int, gtD_int, geD_int, intD_int, intD_bl, ix_t0, ix_t1, ix_t2, ix_t3, lenD_tup, tupleD_tup, listD_tup, List.getElem?_cons_zero, List.getElem?_cons_succ, List.set_cons_zero, List.set_cons_succ, List.length_cons, List.length_nil, Nat.zero_add, Nat.reduceAdd, Nat.reduceSub, Nat.reduceMul, decide_true, decide_false, Bool.not_true, Bool.not_false, Int.reduceMul, Int.reduceAdd, Int.reduceSub, Int.reduceNeg, Int.reduceLT, Int.reduceLE, Int.reducePow, Int.reduceEq, Int.reduceNe, Nat.reduceLeDiff, Nat.reduceLT, Bool.and_true, Bool.true_and, Bool.and_self, ↓reduceIte, Bool.false_eq_true, sx_mt, kMt1_, kMt2_, sx_isL, kIsL_ref, kIsL2_, absD_int, minD_int, maxD_int, negD_int, isi_tup_tuple, isi_int_int, isi_int_bool, kWh_t, kWh_f, nc1, nc2, nc3, nc4, nc5, nc6, nc7, nc8, nc9, nc10, nc11, nc12, nc13, nc14, nc15, nc16, mulD_int, mulD_intL, kRg1_, kRg2_, i62_eq, i63_eq, i64_eq, LIM, List.length_append, at_k, at_k0, set_k, set_k0, kDict_eq, kDict2_, keyP_str, keyP_int, allO_nil, allO_c, kAll_, mO_some, ixD_ref, kIx_lst, kIx_dK, kIx_dT, kIt_ref, kItr_, kFor_ref, kLoopL_, lenD_ref, kLen_lst, kLen_dK, kLen_dT, tupleD_ref, kTuple_, listD_ref, kList_, setD_ref, kSet_lst, kSetL_, kSet_dK, kSetK_, kSet_dT, kSetT_, appendD_ref, kApp_, addD_ref, kAddL_, mulD_ref, kMulL_, slD_ref, kSlice_, slD_tup, maxD_ref, minD_ref, kOnInts_, Option.bind_some, Option.map_some, maxOf, minOf, List.foldl_cons, List.foldl_nil, mergeD, putD, valD, List.any_cons, List.any_nil, Sum.inr.injEq, Sum.inl.injEq, Bool.or_false, Bool.false_or, Bool.or_true, List.find?_cons, List.find?_nil, keyK_str, keyK_int, intK_int, List.map_cons, List.map_nil, List.cons_append, List.nil_append, List.replicate, List.append_assoc, ledR, stL, List.map_nil, List.append_nil, if_true]
    · have d1 : ((p : Int) = (q : Int)) = False := eq_false (by omega)
      by_cases hlt : p < q
      · obtain ⟨g1, x1⟩ := exch_ok (m := m) (p := p) (S := S ++ g) hp hm
        have d2 : ((p : Int) < (q : Int)) = True := eq_true (by omega)
        have d3 : (if (p : Int) + 1 < (p : Int) then (p : Int) + 1 else (p : Int)) = (p : Int) := if_neg (by omega)
        have hl2 : acc.length + (stL (exS m p)).length ≤ LIM := by simp [stL, len_ex, LIM]; omega
        obtain ⟨g', y⟩ := led_loop (S := S) hm hq n k (p + 1) (acc ++ stL (exS m p)) (g ++ g1) (by omega) (by omega) (by omega) (by omega) (by simp [stL, len_ex]; omega)
        refine ⟨g', ?_⟩
        rw [sx_while]
        unfold m_led_t1 m_led_l2
        unfold stD at x1
        simp only [bind_ret, sx_seq, kSeq_nx, kSeq_rt, kSeq_bk, kSeq_ct, sx_next, sx_break, sx_cont, sx_drop, kDrop_, sx_retS, kRetS_, sx_if, kIf_t, kIf_f, sx_asg, kAsg_, kNx_, sx_nm, sx_var, kVar_, sx_ret, sx_op, kOp1_, kOp2_, sx_un, kUn_, sx_nil, sx_cons, kCons1_, kCons2_, sx_tup, sx_lst, kTup_, kLst_, sx_fn, kFn_, sx_call, sx_bool, kBool_, sx_tru, kTru_bl, sx_and, sx_or, sx_not, kAnd_t, kAnd_f, kOr_t, kOr_f, kNot_, sx_andV, sx_orV, sx_notV, kAndV_t, kAndV_f, kOrV_t, kOrV_f, kNotV_, sx_ifE, kIfE_t, kIfE_f, sx_chain, kCh1_, kCh2_, kCh3_t, kCh3_f, sx_gNil, sx_gCons, kG_, sx_gTup, gT_nm, gT_tup, gTs_nil, gTs_cons, sx_gSub, kSub1_, kSub2_, sx_par, kPar_, sx_par3, kPar3_, sx_it, kIt_tup, sx_rg1, sx_rg2, sx_for, kFor_rg, kFor_tp, sx_loopT, sx_loopT0, sx_loopR0, kGo_, kTurn_nx, kTurn_ct, kTurn_bk, kTurn_rt, sx_noPart, sx_part, kPart_, sx_sl, kSl1_, kSl2_, kSl3_, sx_lc, sx_pairs0, sx_pairs, kP1_, kP2_, kP3_, sx_dict, eqD_int, neD_int, addD_int, subD_int, ltD_int, leD_int, gtD_int, geD_int, intD_int, intD_bl, ix_t0, ix_t1, ix_t2, ix_t3, lenD_tup, tupleD_tup, listD_tup, List.getElem?_cons_zero, List.getElem?_cons_succ, List.set_cons_zero, List.set_cons_succ, List.length_cons, List.length_nil, Nat.zero_add, Nat.reduceAdd, Nat.reduceSub, Nat.reduceMul, decide_true, decide_false, Bool.not_true, Bool.not_false, Int.reduceMul, Int.reduceAdd, Int.reduceSub, Int.reduceNeg, Int.reduceLT, Int.reduceLE, Int.reducePow, Int.reduceEq, Int.reduceNe, Nat.reduceLeDiff, Nat.reduceLT, Bool.and_true, Bool.true_and, Bool.and_self, ↓reduceIte, Bool.false_eq_true, sx_mt, kMt1_, kMt2_, sx_isL, kIsL_ref, kIsL2_, absD_int, minD_int, maxD_int, negD_int, isi_tup_tuple, isi_int_int, isi_int_bool, kWh_t, kWh_f, nc1, nc2, nc3, nc4, nc5, nc6, nc7, nc8, nc9, nc10, nc11, nc12, nc13, nc14, nc15, nc16, mulD_int, mulD_intL, kRg1_, kRg2_, i62_eq, i63_eq, i64_eq, LIM, List.length_append, at_k, at_k0, set_k, set_k0, kDict_eq, kDict2_, keyP_str, keyP_int, allO_nil, allO_c, kAll_, mO_some, ixD_ref, kIx_lst, kIx_dK, kIx_dT, kIt_ref, kItr_, kFor_ref, kLoopL_, lenD_ref, kLen_lst, kLen_dK, kLen_dT, tupleD_ref, kTuple_, listD_ref, kList_, setD_ref, kSet_lst, kSetL_, kSet_dK, kSetK_, kSet_dT, kSetT_, appendD_ref, kApp_, addD_ref, kAddL_, mulD_ref, kMulL_, slD_ref, kSlice_, slD_tup, maxD_ref, minD_ref, kOnInts_, Option.bind_some, Option.map_some, maxOf, minOf, List.foldl_cons, List.foldl_nil, mergeD, putD, valD, List.any_cons, List.any_nil, Sum.inr.injEq, Sum.inl.injEq, Bool.or_false, Bool.false_or, Bool.or_true, List.find?_cons, List.find?_nil, keyK_str, keyK_int, intK_int, List.map_cons, List.map_nil, List.cons_append, List.nil_append, List.replicate, List.append_assoc] at x1
        simp only [bind_ret, sx_seq, kSeq_nx, kSeq_rt, kSeq_bk, kSeq_ct, sx_next, sx_break, sx_cont, sx_drop, kDrop_, sx_retS, kRetS_, sx_if, kIf_t, kIf_f, sx_asg, kAsg_, kNx_, sx_nm, sx_var, kVar_, sx_ret, sx_op, kOp1_, kOp2_, sx_un, kUn_, sx_nil, sx_cons, kCons1_, kCons2_, sx_tup, sx_lst, kTup_, kLst_, sx_fn, kFn_, sx_call, sx_bool, kBool_, sx_tru, kTru_bl, sx_and, sx_or, sx_not, kAnd_t, kAnd_f, kOr_t, kOr_f, kNot_, sx_andV, sx_orV, sx_notV, kAndV_t, kAndV_f, kOrV_t, kOrV_f, kNotV_, sx_ifE, kIfE_t, kIfE_f, sx_chain, kCh1_, kCh2_, kCh3_t, kCh3_f, sx_gNil, sx_gCons, kG_, sx_gTup, gT_nm, gT_tup, gTs_nil, gTs_cons, sx_gSub, kSub1_, kSub2_, sx_par, kPar_, sx_par3, kPar3_, sx_it, kIt_tup, sx_rg1, sx_rg2, sx_for, kFor_rg, kFor_tp, sx_loopT, sx_loopT0, sx_loopR0, kGo_, kTurn_nx, kTurn_ct, kTurn_bk, kTurn_rt, sx_noPart, sx_part, kPart_, sx_sl, kSl1_, kSl2_, kSl3_, sx_lc, sx_pairs0, sx_pairs, kP1_, kP2_, kP3_, sx_dict, eqD_int, neD_int, addD_int, subD_int, ltD_int, leD_int, gtD_int, geD_int, intD_int, intD_bl, ix_t0, ix_t1, ix_t2, ix_t3, lenD_tup, tupleD_tup, listD_tup, List.getElem?_cons_zero, List.getElem?_cons_succ, List.set_cons_zero, List.set_cons_succ, List.length_cons, List.length_nil, Nat.zero_add, Nat.reduceAdd, Nat.reduceSub, Nat.reduceMul, decide_true, decide_false, Bool.not_true, Bool.not_false, Int.reduceMul, Int.reduceAdd, Int.reduceSub, Int.reduceNeg, Int.reduceLT, Int.reduceLE, Int.reducePow, Int.reduceEq, Int.reduceNe, Nat.reduceLeDiff, Nat.reduceLT, Bool.and_true, Bool.true_and, Bool.and_self, ↓reduceIte, Bool.false_eq_true, sx_mt, kMt1_, kMt2_, sx_isL, kIsL_ref, kIsL2_, absD_int, minD_int, maxD_int, negD_int, isi_tup_tuple, isi_int_int, isi_int_bool, kWh_t, kWh_f, nc1, nc2, nc3, nc4, nc5, nc6, nc7, nc8, nc9, nc10, nc11, nc12, nc13, nc14, nc15, nc16, mulD_int, mulD_intL, kRg1_, kRg2_, i62_eq, i63_eq, i64_eq, LIM, List.length_append, at_k, at_k0, set_k, set_k0, kDict_eq, kDict2_, keyP_str, keyP_int, allO_nil, allO_c, kAll_, mO_some, ixD_ref, kIx_lst, kIx_dK, kIx_dT, kIt_ref, kItr_, kFor_ref, kLoopL_, lenD_ref, kLen_lst, kLen_dK, kLen_dT, tupleD_ref, kTuple_, listD_ref, kList_, setD_ref, kSet_lst, kSetL_, kSet_dK, kSetK_, kSet_dT, kSetT_, appendD_ref, kApp_, addD_ref, kAddL_, mulD_ref, kMulL_, slD_ref, kSlice_, slD_tup, maxD_ref, minD_ref, kOnInts_, Option.bind_some, Option.map_some, maxOf, minOf, List.foldl_cons, List.foldl_nil, mergeD, putD, valD, List.any_cons, List.any_nil, Sum.inr.injEq, Sum.inl.injEq, Bool.or_false, Bool.false_or, Bool.or_true, List.find?_cons, List.find?_nil, keyK_str, keyK_int, intK_int, List.map_cons, List.map_nil, List.cons_append, List.nil_append, List.replicate, List.append_assoc, d1, d2, d3, kCall_ x1, add_tup hl2]
        unfold m_led_t1 m_led_l2 at y
        simp only [ledR, if_neg e, if_pos hlt, stL, List.map_append, List.append_assoc] at y ⊢
        exact y
      · obtain ⟨g1, x1⟩ := exch_ok (m := m) (p := p - 1) (S := S ++ g) (by omega) hm
        have d2 : ((p : Int) < (q : Int)) = False := eq_false (by omega)
        have d3 : (if (p : Int) - 1 < (p : Int) then (p : Int) - 1 else (p : Int)) = ((p - 1 : Nat) : Int) := by rw [if_pos (by omega)]; omega
        have d4 : (p : Int) - 1 = ((p - 1 : Nat) : Int) := by omega
        have hl2 : acc.length + (stL (exS m (p - 1))).length ≤ LIM := by simp [stL, len_ex, LIM]; omega
        obtain ⟨g', y⟩ := led_loop (S := S) hm hq n k (p - 1) (acc ++ stL (exS m (p - 1))) (g ++ g1) (by omega) (by omega) (by omega) (by omega) (by simp [stL, len_ex]; omega)
        refine ⟨g', ?_⟩
        rw [sx_while]
        unfold m_led_t1 m_led_l2
        unfold stD at x1
        simp only [bind_ret, sx_seq, kSeq_nx, kSeq_rt, kSeq_bk, kSeq_ct, sx_next, sx_break, sx_cont, sx_drop, kDrop_, sx_retS, kRetS_, sx_if, kIf_t, kIf_f, sx_asg, kAsg_, kNx_, sx_nm, sx_var, kVar_, sx_ret, sx_op, kOp1_, kOp2_, sx_un, kUn_, sx_nil, sx_cons, kCons1_, kCons2_, sx_tup, sx_lst, kTup_, kLst_, sx_fn, kFn_, sx_call, sx_bool, kBool_, sx_tru, kTru_bl, sx_and, sx_or, sx_not, kAnd_t, kAnd_f, kOr_t, kOr_f, kNot_, sx_andV, sx_orV, sx_notV, kAndV_t, kAndV_f, kOrV_t, kOrV_f, kNotV_, sx_ifE, kIfE_t, kIfE_f, sx_chain, kCh1_, kCh2_, kCh3_t, kCh3_f, sx_gNil, sx_gCons, kG_, sx_gTup, gT_nm, gT_tup, gTs_nil, gTs_cons, sx_gSub, kSub1_, kSub2_, sx_par, kPar_, sx_par3, kPar3_, sx_it, kIt_tup, sx_rg1, sx_rg2, sx_for, kFor_rg, kFor_tp, sx_loopT, sx_loopT0, sx_loopR0, kGo_, kTurn_nx, kTurn_ct, kTurn_bk, kTurn_rt, sx_noPart, sx_part, kPart_, sx_sl, kSl1_, kSl2_, kSl3_, sx_lc, sx_pairs0, sx_pairs, kP1_, kP2_, kP3_, sx_dict, eqD_int, neD_int, addD_int, subD_int, ltD_int, leD_int, gtD_int, geD_int, intD_int, intD_bl, ix_t0, ix_t1, ix_t2, ix_t3, lenD_tup, tupleD_tup, listD_tup, List.getElem?_cons_zero, List.getElem?_cons_succ, List.set_cons_zero, List.set_cons_succ, List.length_cons, List.length_nil, Nat.zero_add, Nat.reduceAdd, Nat.reduceSub, Nat.reduceMul, decide_true, decide_false, Bool.not_true, Bool.not_false, Int.reduceMul, Int.reduceAdd, Int.reduceSub, Int.reduceNeg, Int.reduceLT, Int.reduceLE, Int.reducePow, Int.reduceEq, Int.reduceNe, Nat.reduceLeDiff, Nat.reduceLT, Bool.and_true, Bool.true_and, Bool.and_self, ↓reduceIte, Bool.false_eq_true, sx_mt, kMt1_, kMt2_, sx_isL, kIsL_ref, kIsL2_, absD_int, minD_int, maxD_int, negD_int, isi_tup_tuple, isi_int_int, isi_int_bool, kWh_t, kWh_f, nc1, nc2, nc3, nc4, nc5, nc6, nc7, nc8, nc9, nc10, nc11, nc12, nc13, nc14, nc15, nc16, mulD_int, mulD_intL, kRg1_, kRg2_, i62_eq, i63_eq, i64_eq, LIM, List.length_append, at_k, at_k0, set_k, set_k0, kDict_eq, kDict2_, keyP_str, keyP_int, allO_nil, allO_c, kAll_, mO_some, ixD_ref, kIx_lst, kIx_dK, kIx_dT, kIt_ref, kItr_, kFor_ref, kLoopL_, lenD_ref, kLen_lst, kLen_dK, kLen_dT, tupleD_ref, kTuple_, listD_ref, kList_, setD_ref, kSet_lst, kSetL_, kSet_dK, kSetK_, kSet_dT, kSetT_, appendD_ref, kApp_, addD_ref, kAddL_, mulD_ref, kMulL_, slD_ref, kSlice_, slD_tup, maxD_ref, minD_ref, kOnInts_, Option.bind_some, Option.map_some, maxOf, minOf, List.foldl_cons, List.foldl_nil, mergeD, putD, valD, List.any_cons, List.any_nil, Sum.inr.injEq, Sum.inl.injEq, Bool.or_false, Bool.false_or, Bool.or_true, List.find?_cons, List.find?_nil, keyK_str, keyK_int, intK_int, List.map_cons, List.map_nil, List.cons_append, List.nil_append, List.replicate, List.append_assoc] at x1
        simp only [bind_ret, sx_seq, kSeq_nx, kSeq_rt, kSeq_bk, kSeq_ct, sx_next, sx_break, sx_cont, sx_drop, kDrop_, sx_retS, kRetS_, sx_if, kIf_t, kIf_f, sx_asg, kAsg_, kNx_, sx_nm, sx_var, kVar_, sx_ret, sx_op, kOp1_, kOp2_, sx_un, kUn_, sx_nil, sx_cons, kCons1_, kCons2_, sx_tup, sx_lst, kTup_, kLst_, sx_fn, kFn_, sx_call, sx_bool, kBool_, sx_tru, kTru_bl, sx_and, sx_or, sx_not, kAnd_t, kAnd_f, kOr_t, kOr_f, kNot_, sx_andV, sx_orV, sx_notV, kAndV_t, kAndV_f, kOrV_t, kOrV_f, kNotV_, sx_ifE, kIfE_t, kIfE_f, sx_chain, kCh1_, kCh2_, kCh3_t, kCh3_f, sx_gNil, sx_gCons, kG_, sx_gTup, gT_nm, gT_tup, gTs_nil, gTs_cons, sx_gSub, kSub1_, kSub2_, sx_par, kPar_, sx_par3, kPar3_, sx_it, kIt_tup, sx_rg1, sx_rg2, sx_for, kFor_rg, kFor_tp, sx_loopT, sx_loopT0, sx_loopR0, kGo_, kTurn_nx, kTurn_ct, kTurn_bk, kTurn_rt, sx_noPart, sx_part, kPart_, sx_sl, kSl1_, kSl2_, kSl3_, sx_lc, sx_pairs0, sx_pairs, kP1_, kP2_, kP3_, sx_dict, eqD_int, neD_int, addD_int, subD_int, ltD_int, leD_int, gtD_int, geD_int, intD_int, intD_bl, ix_t0, ix_t1, ix_t2, ix_t3, lenD_tup, tupleD_tup, listD_tup, List.getElem?_cons_zero, List.getElem?_cons_succ, List.set_cons_zero, List.set_cons_succ, List.length_cons, List.length_nil, Nat.zero_add, Nat.reduceAdd, Nat.reduceSub, Nat.reduceMul, decide_true, decide_false, Bool.not_true, Bool.not_false, Int.reduceMul, Int.reduceAdd, Int.reduceSub, Int.reduceNeg, Int.reduceLT, Int.reduceLE, Int.reducePow, Int.reduceEq, Int.reduceNe, Nat.reduceLeDiff, Nat.reduceLT, Bool.and_true, Bool.true_and, Bool.and_self, ↓reduceIte, Bool.false_eq_true, sx_mt, kMt1_, kMt2_, sx_isL, kIsL_ref, kIsL2_, absD_int, minD_int, maxD_int, negD_int, isi_tup_tuple, isi_int_int, isi_int_bool, kWh_t, kWh_f, nc1, nc2, nc3, nc4, nc5, nc6, nc7, nc8, nc9, nc10, nc11, nc12, nc13, nc14, nc15, nc16, mulD_int, mulD_intL, kRg1_, kRg2_, i62_eq, i63_eq, i64_eq, LIM, List.length_append, at_k, at_k0, set_k, set_k0, kDict_eq, kDict2_, keyP_str, keyP_int, allO_nil, allO_c, kAll_, mO_some, ixD_ref, kIx_lst, kIx_dK, kIx_dT, kIt_ref, kItr_, kFor_ref, kLoopL_, lenD_ref, kLen_lst, kLen_dK, kLen_dT, tupleD_ref, kTuple_, listD_ref, kList_, setD_ref, kSet_lst, kSetL_, kSet_dK, kSetK_, kSet_dT, kSetT_, appendD_ref, kApp_, addD_ref, kAddL_, mulD_ref, kMulL_, slD_ref, kSlice_, slD_tup, maxD_ref, minD_ref, kOnInts_, Option.bind_some, Option.map_some, maxOf, minOf, List.foldl_cons, List.foldl_nil, mergeD, putD, valD, List.any_cons, List.any_nil, Sum.inr.injEq, Sum.inl.injEq, Bool.or_false, Bool.false_or, Bool.or_true, List.find?_cons, List.find?_nil, keyK_str, keyK_int, intK_int, List.map_cons, List.map_nil, List.cons_append, List.nil_append, List.replicate, List.append_assoc, d1, d2, d3, kCall_ x1, add_tup hl2]
        simp only [d4]
        unfold m_led_t1 m_led_l2 at y
        simp only [ledR, if_neg e, if_neg hlt, stL, List.map_append, List.append_assoc] at y ⊢
        exact y
theorem led_ok {m p q : Nat} {S : List LO} (hm : m ≤ 900) (hp : p ≤ m) (hq : q ≤ m) : ∃ g, Run F_led [.int (m : Int), .int (p : Int), .int (q : Int)] S (stD (ledR m q m p)) (S ++ g) := by
  obtain ⟨g', y⟩ := led_loop (S := S) hm (show q ≤ 900 by omega) m 1000000 p [] [] (by omega) (by omega) (by omega) (by omega) (by simp; omega)
  refine run_ex rfl ⟨g', [some (.int (m : Int)), some (.int (q : Int)), some (.int (q : Int)), some (.tup (stL (ledR m q m p)))], ?_⟩
  rw [List.append_nil, List.nil_append] at y
  unfold m_led startE
  simp only [bind_ret, sx_seq, kSeq_nx, kSeq_rt, kSeq_bk, kSeq_ct, sx_next, sx_break, sx_cont, sx_drop, kDrop_, sx_retS, kRetS_, sx_if, kIf_t, kIf_f, sx_asg, kAsg_, kNx_, sx_nm, sx_var, kVar_, sx_ret, sx_op, kOp1_, kOp2_, sx_un, kUn_, sx_nil, sx_cons, kCons1_, kCons2_, sx_tup, sx_lst, kTup_, kLst_, sx_fn, kFn_, sx_call, sx_bool, kBool_, sx_tru, kTru_bl, sx_and, sx_or, sx_not, kAnd_t, kAnd_f, kOr_t, kOr_f, kNot_, sx_andV, sx_orV, sx_notV, kAndV_t, kAndV_f, kOrV_t, kOrV_f, kNotV_, sx_ifE, kIfE_t, kIfE_f, sx_chain, kCh1_, kCh2_, kCh3_t, kCh3_f, sx_gNil, sx_gCons, kG_, sx_gTup, gT_nm, gT_tup, gTs_nil, gTs_cons, sx_gSub, kSub1_, kSub2_, sx_par, kPar_, sx_par3, kPar3_, sx_it, kIt_tup, sx_rg1, sx_rg2, sx_for, kFor_rg, kFor_tp, sx_loopT, sx_loopT0, sx_loopR0, kGo_, kTurn_nx, kTurn_ct, kTurn_bk, kTurn_rt, sx_noPart, sx_part, kPart_, sx_sl, kSl1_, kSl2_, kSl3_, sx_lc, sx_pairs0, sx_pairs, kP1_, kP2_, kP3_, sx_dict, eqD_int, neD_int, addD_int, subD_int, ltD_int, leD_int, gtD_int, geD_int, intD_int, intD_bl, ix_t0, ix_t1, ix_t2, ix_t3, lenD_tup, tupleD_tup, listD_tup, List.getElem?_cons_zero, List.getElem?_cons_succ, List.set_cons_zero, List.set_cons_succ, List.length_cons, List.length_nil, Nat.zero_add, Nat.reduceAdd, Nat.reduceSub, Nat.reduceMul, decide_true, decide_false, Bool.not_true, Bool.not_false, Int.reduceMul, Int.reduceAdd, Int.reduceSub, Int.reduceNeg, Int.reduceLT, Int.reduceLE, Int.reducePow, Int.reduceEq, Int.reduceNe, Nat.reduceLeDiff, Nat.reduceLT, Bool.and_true, Bool.true_and, Bool.and_self, ↓reduceIte, Bool.false_eq_true, sx_mt, kMt1_, kMt2_, sx_isL, kIsL_ref, kIsL2_, absD_int, minD_int, maxD_int, negD_int, isi_tup_tuple, isi_int_int, isi_int_bool, kWh_t, kWh_f, nc1, nc2, nc3, nc4, nc5, nc6, nc7, nc8, nc9, nc10, nc11, nc12, nc13, nc14, nc15, nc16, mulD_int, mulD_intL, kRg1_, kRg2_, i62_eq, i63_eq, i64_eq, LIM, List.length_append, at_k, at_k0, set_k, set_k0, kDict_eq, kDict2_, keyP_str, keyP_int, allO_nil, allO_c, kAll_, mO_some, ixD_ref, kIx_lst, kIx_dK, kIx_dT, kIt_ref, kItr_, kFor_ref, kLoopL_, lenD_ref, kLen_lst, kLen_dK, kLen_dT, tupleD_ref, kTuple_, listD_ref, kList_, setD_ref, kSet_lst, kSetL_, kSet_dK, kSetK_, kSet_dT, kSetT_, appendD_ref, kApp_, addD_ref, kAddL_, mulD_ref, kMulL_, slD_ref, kSlice_, slD_tup, maxD_ref, minD_ref, kOnInts_, Option.bind_some, Option.map_some, maxOf, minOf, List.foldl_cons, List.foldl_nil, mergeD, putD, valD, List.any_cons, List.any_nil, Sum.inr.injEq, Sum.inl.injEq, Bool.or_false, Bool.false_or, Bool.or_true, List.find?_cons, List.find?_nil, keyK_str, keyK_int, intK_int, List.map_cons, List.map_nil, List.cons_append, List.nil_append, List.replicate, List.append_assoc]
  rw [y]
  simp only [bind_ret, sx_seq, kSeq_nx, kSeq_rt, kSeq_bk, kSeq_ct, sx_next, sx_break, sx_cont, sx_drop, kDrop_, sx_retS, kRetS_, sx_if, kIf_t, kIf_f, sx_asg, kAsg_, kNx_, sx_nm, sx_var, kVar_, sx_ret, sx_op, kOp1_, kOp2_, sx_un, kUn_, sx_nil, sx_cons, kCons1_, kCons2_, sx_tup, sx_lst, kTup_, kLst_, sx_fn, kFn_, sx_call, sx_bool, kBool_, sx_tru, kTru_bl, sx_and, sx_or, sx_not, kAnd_t, kAnd_f, kOr_t, kOr_f, kNot_, sx_andV, sx_orV, sx_notV, kAndV_t, kAndV_f, kOrV_t, kOrV_f, kNotV_, sx_ifE, kIfE_t, kIfE_f, sx_chain, kCh1_, kCh2_, kCh3_t, kCh3_f, sx_gNil, sx_gCons, kG_, sx_gTup, gT_nm, gT_tup, gTs_nil, gTs_cons, sx_gSub, kSub1_, kSub2_, sx_par, kPar_, sx_par3, kPar3_, sx_it, kIt_tup, sx_rg1, sx_rg2, sx_for, kFor_rg, kFor_tp, sx_loopT, sx_loopT0, sx_loopR0, kGo_, kTurn_nx, kTurn_ct, kTurn_bk, kTurn_rt, sx_noPart, sx_part, kPart_, sx_sl, kSl1_, kSl2_, kSl3_, sx_lc, sx_pairs0, sx_pairs, kP1_, kP2_, kP3_, sx_dict, eqD_int, neD_int, addD_int, subD_int, ltD_int, leD_int, gtD_int, geD_int, intD_int, intD_bl, ix_t0, ix_t1, ix_t2, ix_t3, lenD_tup, tupleD_tup, listD_tup, List.getElem?_cons_zero, List.getElem?_cons_succ, List.set_cons_zero, List.set_cons_succ, List.length_cons, List.length_nil, Nat.zero_add, Nat.reduceAdd, Nat.reduceSub, Nat.reduceMul, decide_true, decide_false, Bool.not_true, Bool.not_false, Int.reduceMul, Int.reduceAdd, Int.reduceSub, Int.reduceNeg, Int.reduceLT, Int.reduceLE, Int.reducePow, Int.reduceEq, Int.reduceNe, Nat.reduceLeDiff, Nat.reduceLT, Bool.and_true, Bool.true_and, Bool.and_self, ↓reduceIte, Bool.false_eq_true, sx_mt, kMt1_, kMt2_, sx_isL, kIsL_ref, kIsL2_, absD_int, minD_int, maxD_int, negD_int, isi_tup_tuple, isi_int_int, isi_int_bool, kWh_t, kWh_f, nc1, nc2, nc3, nc4, nc5, nc6, nc7, nc8, nc9, nc10, nc11, nc12, nc13, nc14, nc15, nc16, mulD_int, mulD_intL, kRg1_, kRg2_, i62_eq, i63_eq, i64_eq, LIM, List.length_append, at_k, at_k0, set_k, set_k0, kDict_eq, kDict2_, keyP_str, keyP_int, allO_nil, allO_c, kAll_, mO_some, ixD_ref, kIx_lst, kIx_dK, kIx_dT, kIt_ref, kItr_, kFor_ref, kLoopL_, lenD_ref, kLen_lst, kLen_dK, kLen_dT, tupleD_ref, kTuple_, listD_ref, kList_, setD_ref, kSet_lst, kSetL_, kSet_dK, kSetK_, kSet_dT, kSetT_, appendD_ref, kApp_, addD_ref, kAddL_, mulD_ref, kMulL_, slD_ref, kSlice_, slD_tup, maxD_ref, minD_ref, kOnInts_, Option.bind_some, Option.map_some, maxOf, minOf, List.foldl_cons, List.foldl_nil, mergeD, putD, valD, List.any_cons, List.any_nil, Sum.inr.injEq, Sum.inl.injEq, Bool.or_false, Bool.false_or, Bool.or_true, List.find?_cons, List.find?_nil, keyK_str, keyK_int, intK_int, List.map_cons, List.map_nil, List.cons_append, List.nil_append, List.replicate, List.append_assoc, stD]
theorem oled_loop {m q : Nat} {S : List LO} (hm : m ≤ 900) (hq : q ≤ 900) : ∀ (n p : Nat) (k : Int) (acc : List D) (x : Option D) (g : List LO), p + n ≤ 1800 → p ≤ 900 → acc.length + 4 * n ≤ 100000 → q ≤ 900 → p ≤ m → q ≤ m →
    ∃ p' x' g', loopR (gNm 4) m__law_led_stages_l1 n k ⟨[some (.int (m : Int)), some (.int (p : Int)), some (.int (q : Int)), some (.tup acc), x], S ++ g⟩ =
      .ret .nx ⟨[some (.int (m : Int)), p', some (.int (q : Int)), some (.tup (acc ++ stL (ledR m q n p))), x'], S ++ g'⟩
  | 0, p, k, acc, x, g, _, _, _, _, _, _ => ⟨some (.int (p : Int)), x, g, by simp only [sx_loopR0, ledR, stL, List.map_nil, List.append_nil]⟩
  | n + 1, p, k, acc, x, g, h1, hp, hl, hq2, hpm, hqm => by
    by_cases e : p = q
    · subst e
      refine ⟨some (.int (p : Int)), some (.int k), g, ?_⟩
      rw [sx_loopR]
      unfold m__law_led_stages_l1
      simp only [bind_ret, sx_seq, kSeq_nx, kSeq_rt, kSeq_bk, kSeq_ct, sx_next, sx_break, sx_cont, sx_drop, kDrop_, sx_retS, kRetS_, sx_if, kIf_t, kIf_f, sx_asg, kAsg_, kNx_, sx_nm, sx_var, kVar_, sx_ret, sx_op, kOp1_, kOp2_, sx_un, kUn_, sx_nil, sx_cons, kCons1_, kCons2_, sx_tup, sx_lst, kTup_, kLst_, sx_fn, kFn_, sx_call, sx_bool, kBool_, sx_tru, kTru_bl, sx_and, sx_or, sx_not, kAnd_t, kAnd_f, kOr_t, kOr_f, kNot_, sx_andV, sx_orV, sx_notV, kAndV_t, kAndV_f, kOrV_t, kOrV_f, kNotV_, sx_ifE, kIfE_t, kIfE_f, sx_chain, kCh1_, kCh2_, kCh3_t, kCh3_f, sx_gNil, sx_gCons, kG_, sx_gTup, gT_nm, gT_tup, gTs_nil, gTs_cons, sx_gSub, kSub1_, kSub2_, sx_par, kPar_, sx_par3, kPar3_, sx_it, kIt_tup, sx_rg1, sx_rg2, sx_for, kFor_rg, kFor_tp, sx_loopT, sx_loopT0, sx_loopR0, kGo_, kTurn_nx, kTurn_ct, kTurn_bk, kTurn_rt, sx_noPart, sx_part, kPart_, sx_sl, kSl1_, kSl2_, kSl3_, sx_lc, sx_pairs0, sx_pairs, kP1_, kP2_, kP3_, sx_dict, eqD_int, neD_int, addD_int, subD_int, ltD_int, leD_int, gtD_int, geD_int, intD_int, intD_bl, ix_t0, ix_t1, ix_t2, ix_t3, lenD_tup, tupleD_tup, listD_tup, List.getElem?_cons_zero, List.getElem?_cons_succ, List.set_cons_zero, List.set_cons_succ, List.length_cons, List.length_nil, Nat.zero_add, Nat.reduceAdd, Nat.reduceSub, Nat.reduceMul, decide_true, decide_false, Bool.not_true, Bool.not_false, Int.reduceMul, Int.reduceAdd, Int.reduceSub, Int.reduceNeg, Int.reduceLT, Int.reduceLE, Int.reducePow, Int.reduceEq, Int.reduceNe, Nat.reduceLeDiff, Nat.reduceLT, Bool.and_true, Bool.true_and, Bool.and_self, ↓reduceIte, Bool.false_eq_true, sx_mt, kMt1_, kMt2_, sx_isL, kIsL_ref, kIsL2_, absD_int, minD_int, maxD_int, negD_int, isi_tup_tuple, isi_int_int, isi_int_bool, kWh_t, kWh_f, nc1, nc2, nc3, nc4, nc5, nc6, nc7, nc8, nc9, nc10, nc11, nc12, nc13, nc14, nc15, nc16, mulD_int, mulD_intL, kRg1_, kRg2_, i62_eq, i63_eq, i64_eq, LIM, List.length_append, at_k, at_k0, set_k, set_k0, kDict_eq, kDict2_, keyP_str, keyP_int, allO_nil, allO_c, kAll_, mO_some, ixD_ref, kIx_lst, kIx_dK, kIx_dT, kIt_ref, kItr_, kFor_ref, kLoopL_, lenD_ref, kLen_lst, kLen_dK, kLen_dT, tupleD_ref, kTuple_, listD_ref, kList_, setD_ref, kSet_lst, kSetL_, kSet_dK, kSetK_, kSet_dT, kSetT_, appendD_ref, kApp_, addD_ref, kAddL_, mulD_ref, kMulL_, slD_ref, kSlice_, slD_tup, maxD_ref, minD_ref, kOnInts_, Option.bind_some, Option.map_some, maxOf, minOf, List.foldl_cons, List.foldl_nil, mergeD, putD, valD, List.any_cons, List.any_nil, Sum.inr.injEq, Sum.inl.injEq, Bool.or_false, Bool.false_or, Bool.or_true, List.find?_cons, List.find?_nil, keyK_str, keyK_int, intK_int, List.map_cons, List.map_nil, List.cons_append, List.nil_append, List.replicate, List.append_assoc, ledR, stL, List.map_nil, List.append_nil, if_true]
    · have d1 : ((p : Int) = (q : Int)) = False := eq_false (by omega)
      by_cases hlt : p < q
      · have d2 : ((p : Int) < (q : Int)) = True := eq_true (by omega)
        have d3 : ((p : Int) - (q : Int) < 0) = True := eq_true (by omega)
        have d5 : (if (q : Int) < (p : Int) then (q : Int) else (p : Int)) = (p : Int) := if_neg (by omega)
        have hl2 : acc.length + (stL (exS m p)).length ≤ LIM := by simp [stL, len_ex, LIM]; omega
        by_cases h1' : q = p + 1
        · have d4 : (-((p : Int) - (q : Int)) = 1) = True := eq_true (by omega)
          obtain ⟨g1, x1⟩ := oexch_ok (m := m) (p := p) (S := S ++ (g ++ [.lst [.int (p : Int), .int (q : Int)]])) hp hm
          obtain ⟨p', x', g', y⟩ := oled_loop (S := S) hm hq n (p + 1) (k + 1) (acc ++ stL (exS m p)) (some (.int k)) ((g ++ [.lst [.int (p : Int), .int (q : Int)]]) ++ g1) (by omega) (by omega) (by simp [stL, len_ex]; omega) hq2 (by omega) hqm
          refine ⟨p', x', g', ?_⟩
          rw [sx_loopR]
          unfold m__law_led_stages_l1
          unfold stD at x1
          simp only [bind_ret, sx_seq, kSeq_nx, kSeq_rt, kSeq_bk, kSeq_ct, sx_next, sx_break, sx_cont, sx_drop, kDrop_, sx_retS, kRetS_, sx_if, kIf_t, kIf_f, sx_asg, kAsg_, kNx_, sx_nm, sx_var, kVar_, sx_ret, sx_op, kOp1_, kOp2_, sx_un, kUn_, sx_nil, sx_cons, kCons1_, kCons2_, sx_tup, sx_lst, kTup_, kLst_, sx_fn, kFn_, sx_call, sx_bool, kBool_, sx_tru, kTru_bl, sx_and, sx_or, sx_not, kAnd_t, kAnd_f, kOr_t, kOr_f, kNot_, sx_andV, sx_orV, sx_notV, kAndV_t, kAndV_f, kOrV_t, kOrV_f, kNotV_, sx_ifE, kIfE_t, kIfE_f, sx_chain, kCh1_, kCh2_, kCh3_t, kCh3_f, sx_gNil, sx_gCons, kG_, sx_gTup, gT_nm, gT_tup, gTs_nil, gTs_cons, sx_gSub, kSub1_, kSub2_, sx_par, kPar_, sx_par3, kPar3_, sx_it, kIt_tup, sx_rg1, sx_rg2, sx_for, kFor_rg, kFor_tp, sx_loopT, sx_loopT0, sx_loopR0, kGo_, kTurn_nx, kTurn_ct, kTurn_bk, kTurn_rt, sx_noPart, sx_part, kPart_, sx_sl, kSl1_, kSl2_, kSl3_, sx_lc, sx_pairs0, sx_pairs, kP1_, kP2_, kP3_, sx_dict, eqD_int, neD_int, addD_int, subD_int, ltD_int, leD_int, gtD_int, geD_int, intD_int, intD_bl, ix_t0, ix_t1, ix_t2, ix_t3, lenD_tup, tupleD_tup, listD_tup, List.getElem?_cons_zero, List.getElem?_cons_succ, List.set_cons_zero, List.set_cons_succ, List.length_cons, List.length_nil, Nat.zero_add, Nat.reduceAdd, Nat.reduceSub, Nat.reduceMul, decide_true, decide_false, Bool.not_true, Bool.not_false, Int.reduceMul, Int.reduceAdd, Int.reduceSub, Int.reduceNeg, Int.reduceLT, Int.reduceLE, Int.reducePow, Int.reduceEq, Int.reduceNe, Nat.reduceLeDiff, Nat.reduceLT, Bool.and_true, Bool.true_and, Bool.and_self, ↓reduceIte, Bool.false_eq_true, sx_mt, kMt1_, kMt2_, sx_isL, kIsL_ref, kIsL2_, absD_int, minD_int, maxD_int, negD_int, isi_tup_tuple, isi_int_int, isi_int_bool, kWh_t, kWh_f, nc1, nc2, nc3, nc4, nc5, nc6, nc7, nc8, nc9, nc10, nc11, nc12, nc13, nc14, nc15, nc16, mulD_int, mulD_intL, kRg1_, kRg2_, i62_eq, i63_eq, i64_eq, LIM, List.length_append, at_k, at_k0, set_k, set_k0, kDict_eq, kDict2_, keyP_str, keyP_int, allO_nil, allO_c, kAll_, mO_some, ixD_ref, kIx_lst, kIx_dK, kIx_dT, kIt_ref, kItr_, kFor_ref, kLoopL_, lenD_ref, kLen_lst, kLen_dK, kLen_dT, tupleD_ref, kTuple_, listD_ref, kList_, setD_ref, kSet_lst, kSetL_, kSet_dK, kSetK_, kSet_dT, kSetT_, appendD_ref, kApp_, addD_ref, kAddL_, mulD_ref, kMulL_, slD_ref, kSlice_, slD_tup, maxD_ref, minD_ref, kOnInts_, Option.bind_some, Option.map_some, maxOf, minOf, List.foldl_cons, List.foldl_nil, mergeD, putD, valD, List.any_cons, List.any_nil, Sum.inr.injEq, Sum.inl.injEq, Bool.or_false, Bool.false_or, Bool.or_true, List.find?_cons, List.find?_nil, keyK_str, keyK_int, intK_int, List.map_cons, List.map_nil, List.cons_append, List.nil_append, List.replicate, List.append_assoc] at x1
          have at_g : (S ++ (g ++ [LO.lst [D.int (p : Int), D.int (q : Int)]]))[S.length + g.length]? = some (.lst [D.int (p : Int), D.int (q : Int)]) := by
            rw [at_k, at_k0]
            rfl
          simp only [bind_ret, sx_seq, kSeq_nx, kSeq_rt, kSeq_bk, kSeq_ct, sx_next, sx_break, sx_cont, sx_drop, kDrop_, sx_retS, kRetS_, sx_if, kIf_t, kIf_f, sx_asg, kAsg_, kNx_, sx_nm, sx_var, kVar_, sx_ret, sx_op, kOp1_, kOp2_, sx_un, kUn_, sx_nil, sx_cons, kCons1_, kCons2_, sx_tup, sx_lst, kTup_, kLst_, sx_fn, kFn_, sx_call, sx_bool, kBool_, sx_tru, kTru_bl, sx_and, sx_or, sx_not, kAnd_t, kAnd_f, kOr_t, kOr_f, kNot_, sx_andV, sx_orV, sx_notV, kAndV_t, kAndV_f, kOrV_t, kOrV_f, kNotV_, sx_ifE, kIfE_t, kIfE_f, sx_chain, kCh1_, kCh2_, kCh3_t, kCh3_f, sx_gNil, sx_gCons, kG_, sx_gTup, gT_nm, gT_tup, gTs_nil, gTs_cons, sx_gSub, kSub1_, kSub2_, sx_par, kPar_, sx_par3, kPar3_, sx_it, kIt_tup, sx_rg1, sx_rg2, sx_for, kFor_rg, kFor_tp, sx_loopT, sx_loopT0, sx_loopR0, kGo_, kTurn_nx, kTurn_ct, kTurn_bk, kTurn_rt, sx_noPart, sx_part, kPart_, sx_sl, kSl1_, kSl2_, kSl3_, sx_lc, sx_pairs0, sx_pairs, kP1_, kP2_, kP3_, sx_dict, eqD_int, neD_int, addD_int, subD_int, ltD_int, leD_int, gtD_int, geD_int, intD_int, intD_bl, ix_t0, ix_t1, ix_t2, ix_t3, lenD_tup, tupleD_tup, listD_tup, List.getElem?_cons_zero, List.getElem?_cons_succ, List.set_cons_zero, List.set_cons_succ, List.length_cons, List.length_nil, Nat.zero_add, Nat.reduceAdd, Nat.reduceSub, Nat.reduceMul, decide_true, decide_false, Bool.not_true, Bool.not_false, Int.reduceMul, Int.reduceAdd, Int.reduceSub, Int.reduceNeg, Int.reduceLT, Int.reduceLE, Int.reducePow, Int.reduceEq, Int.reduceNe, Nat.reduceLeDiff, Nat.reduceLT, Bool.and_true, Bool.true_and, Bool.and_self, ↓reduceIte, Bool.false_eq_true, sx_mt, kMt1_, kMt2_, sx_isL, kIsL_ref, kIsL2_, absD_int, minD_int, maxD_int, negD_int, isi_tup_tuple, isi_int_int, isi_int_bool, kWh_t, kWh_f, nc1, nc2, nc3, nc4, nc5, nc6, nc7, nc8, nc9, nc10, nc11, nc12, nc13, nc14, nc15, nc16, mulD_int, mulD_intL, kRg1_, kRg2_, i62_eq, i63_eq, i64_eq, LIM, List.length_append, at_k, at_k0, set_k, set_k0, kDict_eq, kDict2_, keyP_str, keyP_int, allO_nil, allO_c, kAll_, mO_some, ixD_ref, kIx_lst, kIx_dK, kIx_dT, kIt_ref, kItr_, kFor_ref, kLoopL_, lenD_ref, kLen_lst, kLen_dK, kLen_dT, tupleD_ref, kTuple_, listD_ref, kList_, setD_ref, kSet_lst, kSetL_, kSet_dK, kSetK_, kSet_dT, kSetT_, appendD_ref, kApp_, addD_ref, kAddL_, mulD_ref, kMulL_, slD_ref, kSlice_, slD_tup, maxD_ref, minD_ref, kOnInts_, Option.bind_some, Option.map_some, maxOf, minOf, List.foldl_cons, List.foldl_nil, mergeD, putD, valD, List.any_cons, List.any_nil, Sum.inr.injEq, Sum.inl.injEq, Bool.or_false, Bool.false_or, Bool.or_true, List.find?_cons, List.find?_nil, keyK_str, keyK_int, intK_int, List.map_cons, List.map_nil, List.cons_append, List.nil_append, List.replicate, List.append_assoc, d1, d2, d3, d4, at_g, d5, kCall_ x1, add_tup hl2]
          unfold m__law_led_stages_l1 at y
          simp only [ledR, if_neg e, if_pos hlt, stL, List.map_append, List.append_assoc, List.cons_append, List.nil_append] at y ⊢
          exact y
        · have d4 : (-((p : Int) - (q : Int)) = 1) = False := eq_false (by omega)
          obtain ⟨g1, x1⟩ := oexch_ok (m := m) (p := p) (S := S ++ g) hp hm
          obtain ⟨p', x', g', y⟩ := oled_loop (S := S) hm hq n (p + 1) (k + 1) (acc ++ stL (exS m p)) (some (.int k)) (g ++ g1) (by omega) (by omega) (by simp [stL, len_ex]; omega) hq2 (by omega) hqm
          refine ⟨p', x', g', ?_⟩
          rw [sx_loopR]
          unfold m__law_led_stages_l1
          unfold stD at x1
          simp only [bind_ret, sx_seq, kSeq_nx, kSeq_rt, kSeq_bk, kSeq_ct, sx_next, sx_break, sx_cont, sx_drop, kDrop_, sx_retS, kRetS_, sx_if, kIf_t, kIf_f, sx_asg, kAsg_, kNx_, sx_nm, sx_var, kVar_, sx_ret, sx_op, kOp1_, kOp2_, sx_un, kUn_, sx_nil, sx_cons, kCons1_, kCons2_, sx_tup, sx_lst, kTup_, kLst_, sx_fn, kFn_, sx_call, sx_bool, kBool_, sx_tru, kTru_bl, sx_and, sx_or, sx_not, kAnd_t, kAnd_f, kOr_t, kOr_f, kNot_, sx_andV, sx_orV, sx_notV, kAndV_t, kAndV_f, kOrV_t, kOrV_f, kNotV_, sx_ifE, kIfE_t, kIfE_f, sx_chain, kCh1_, kCh2_, kCh3_t, kCh3_f, sx_gNil, sx_gCons, kG_, sx_gTup, gT_nm, gT_tup, gTs_nil, gTs_cons, sx_gSub, kSub1_, kSub2_, sx_par, kPar_, sx_par3, kPar3_, sx_it, kIt_tup, sx_rg1, sx_rg2, sx_for, kFor_rg, kFor_tp, sx_loopT, sx_loopT0, sx_loopR0, kGo_, kTurn_nx, kTurn_ct, kTurn_bk, kTurn_rt, sx_noPart, sx_part, kPart_, sx_sl, kSl1_, kSl2_, kSl3_, sx_lc, sx_pairs0, sx_pairs, kP1_, kP2_, kP3_, sx_dict, eqD_int, neD_int, addD_int, subD_int, ltD_int, leD_int, gtD_int, geD_int, intD_int, intD_bl, ix_t0, ix_t1, ix_t2, ix_t3, lenD_tup, tupleD_tup, listD_tup, List.getElem?_cons_zero, List.getElem?_cons_succ, List.set_cons_zero, List.set_cons_succ, List.length_cons, List.length_nil, Nat.zero_add, Nat.reduceAdd, Nat.reduceSub, Nat.reduceMul, decide_true, decide_false, Bool.not_true, Bool.not_false, Int.reduceMul, Int.reduceAdd, Int.reduceSub, Int.reduceNeg, Int.reduceLT, Int.reduceLE, Int.reducePow, Int.reduceEq, Int.reduceNe, Nat.reduceLeDiff, Nat.reduceLT, Bool.and_true, Bool.true_and, Bool.and_self, ↓reduceIte, Bool.false_eq_true, sx_mt, kMt1_, kMt2_, sx_isL, kIsL_ref, kIsL2_, absD_int, minD_int, maxD_int, negD_int, isi_tup_tuple, isi_int_int, isi_int_bool, kWh_t, kWh_f, nc1, nc2, nc3, nc4, nc5, nc6, nc7, nc8, nc9, nc10, nc11, nc12, nc13, nc14, nc15, nc16, mulD_int, mulD_intL, kRg1_, kRg2_, i62_eq, i63_eq, i64_eq, LIM, List.length_append, at_k, at_k0, set_k, set_k0, kDict_eq, kDict2_, keyP_str, keyP_int, allO_nil, allO_c, kAll_, mO_some, ixD_ref, kIx_lst, kIx_dK, kIx_dT, kIt_ref, kItr_, kFor_ref, kLoopL_, lenD_ref, kLen_lst, kLen_dK, kLen_dT, tupleD_ref, kTuple_, listD_ref, kList_, setD_ref, kSet_lst, kSetL_, kSet_dK, kSetK_, kSet_dT, kSetT_, appendD_ref, kApp_, addD_ref, kAddL_, mulD_ref, kMulL_, slD_ref, kSlice_, slD_tup, maxD_ref, minD_ref, kOnInts_, Option.bind_some, Option.map_some, maxOf, minOf, List.foldl_cons, List.foldl_nil, mergeD, putD, valD, List.any_cons, List.any_nil, Sum.inr.injEq, Sum.inl.injEq, Bool.or_false, Bool.false_or, Bool.or_true, List.find?_cons, List.find?_nil, keyK_str, keyK_int, intK_int, List.map_cons, List.map_nil, List.cons_append, List.nil_append, List.replicate, List.append_assoc] at x1
          simp only [bind_ret, sx_seq, kSeq_nx, kSeq_rt, kSeq_bk, kSeq_ct, sx_next, sx_break, sx_cont, sx_drop, kDrop_, sx_retS, kRetS_, sx_if, kIf_t, kIf_f, sx_asg, kAsg_, kNx_, sx_nm, sx_var, kVar_, sx_ret, sx_op, kOp1_, kOp2_, sx_un, kUn_, sx_nil, sx_cons, kCons1_, kCons2_, sx_tup, sx_lst, kTup_, kLst_, sx_fn, kFn_, sx_call, sx_bool, kBool_, sx_tru, kTru_bl, sx_and, sx_or, sx_not, kAnd_t, kAnd_f, kOr_t, kOr_f, kNot_, sx_andV, sx_orV, sx_notV, kAndV_t, kAndV_f, kOrV_t, kOrV_f, kNotV_, sx_ifE, kIfE_t, kIfE_f, sx_chain, kCh1_, kCh2_, kCh3_t, kCh3_f, sx_gNil, sx_gCons, kG_, sx_gTup, gT_nm, gT_tup, gTs_nil, gTs_cons, sx_gSub, kSub1_, kSub2_, sx_par, kPar_, sx_par3, kPar3_, sx_it, kIt_tup, sx_rg1, sx_rg2, sx_for, kFor_rg, kFor_tp, sx_loopT, sx_loopT0, sx_loopR0, kGo_, kTurn_nx, kTurn_ct, kTurn_bk, kTurn_rt, sx_noPart, sx_part, kPart_, sx_sl, kSl1_, kSl2_, kSl3_, sx_lc, sx_pairs0, sx_pairs, kP1_, kP2_, kP3_, sx_dict, eqD_int, neD_int, addD_int, subD_int, ltD_int, leD_int, gtD_int, geD_int, intD_int, intD_bl, ix_t0, ix_t1, ix_t2, ix_t3, lenD_tup, tupleD_tup, listD_tup, List.getElem?_cons_zero, List.getElem?_cons_succ, List.set_cons_zero, List.set_cons_succ, List.length_cons, List.length_nil, Nat.zero_add, Nat.reduceAdd, Nat.reduceSub, Nat.reduceMul, decide_true, decide_false, Bool.not_true, Bool.not_false, Int.reduceMul, Int.reduceAdd, Int.reduceSub, Int.reduceNeg, Int.reduceLT, Int.reduceLE, Int.reducePow, Int.reduceEq, Int.reduceNe, Nat.reduceLeDiff, Nat.reduceLT, Bool.and_true, Bool.true_and, Bool.and_self, ↓reduceIte, Bool.false_eq_true, sx_mt, kMt1_, kMt2_, sx_isL, kIsL_ref, kIsL2_, absD_int, minD_int, maxD_int, negD_int, isi_tup_tuple, isi_int_int, isi_int_bool, kWh_t, kWh_f, nc1, nc2, nc3, nc4, nc5, nc6, nc7, nc8, nc9, nc10, nc11, nc12, nc13, nc14, nc15, nc16, mulD_int, mulD_intL, kRg1_, kRg2_, i62_eq, i63_eq, i64_eq, LIM, List.length_append, at_k, at_k0, set_k, set_k0, kDict_eq, kDict2_, keyP_str, keyP_int, allO_nil, allO_c, kAll_, mO_some, ixD_ref, kIx_lst, kIx_dK, kIx_dT, kIt_ref, kItr_, kFor_ref, kLoopL_, lenD_ref, kLen_lst, kLen_dK, kLen_dT, tupleD_ref, kTuple_, listD_ref, kList_, setD_ref, kSet_lst, kSetL_, kSet_dK, kSetK_, kSet_dT, kSetT_, appendD_ref, kApp_, addD_ref, kAddL_, mulD_ref, kMulL_, slD_ref, kSlice_, slD_tup, maxD_ref, minD_ref, kOnInts_, Option.bind_some, Option.map_some, maxOf, minOf, List.foldl_cons, List.foldl_nil, mergeD, putD, valD, List.any_cons, List.any_nil, Sum.inr.injEq, Sum.inl.injEq, Bool.or_false, Bool.false_or, Bool.or_true, List.find?_cons, List.find?_nil, keyK_str, keyK_int, intK_int, List.map_cons, List.map_nil, List.cons_append, List.nil_append, List.replicate, List.append_assoc, d1, d2, d3, d4, kCall_ x1, add_tup hl2]
          unfold m__law_led_stages_l1 at y
          simp only [ledR, if_neg e, if_pos hlt, stL, List.map_append, List.append_assoc, List.cons_append, List.nil_append] at y ⊢
          exact y
      · have d2 : ((p : Int) < (q : Int)) = False := eq_false (by omega)
        have d3 : ((p : Int) - (q : Int) < 0) = False := eq_false (by omega)
        have d6 : (p : Int) - 1 = ((p - 1 : Nat) : Int) := by omega
        have hl2 : acc.length + (stL (exS m (p - 1))).length ≤ LIM := by simp [stL, len_ex, LIM]; omega
        by_cases h1' : p = q + 1
        · have d4 : ((p : Int) - (q : Int) = 1) = True := eq_true (by omega)
          have d5 : (if (q : Int) < (p : Int) then (q : Int) else (p : Int)) = ((p - 1 : Nat) : Int) := by rw [if_pos (by omega)]; omega
          obtain ⟨g1, x1⟩ := oexch_ok (m := m) (p := p - 1) (S := S ++ (g ++ [.lst [.int (p : Int), .int (q : Int)]])) (by omega) hm
          obtain ⟨p', x', g', y⟩ := oled_loop (S := S) hm hq n (p - 1) (k + 1) (acc ++ stL (exS m (p - 1))) (some (.int k)) ((g ++ [.lst [.int (p : Int), .int (q : Int)]]) ++ g1) (by omega) (by omega) (by simp [stL, len_ex]; omega) hq2 (by omega) hqm
          refine ⟨p', x', g', ?_⟩
          rw [sx_loopR]
          unfold m__law_led_stages_l1
          unfold stD at x1
          simp only [bind_ret, sx_seq, kSeq_nx, kSeq_rt, kSeq_bk, kSeq_ct, sx_next, sx_break, sx_cont, sx_drop, kDrop_, sx_retS, kRetS_, sx_if, kIf_t, kIf_f, sx_asg, kAsg_, kNx_, sx_nm, sx_var, kVar_, sx_ret, sx_op, kOp1_, kOp2_, sx_un, kUn_, sx_nil, sx_cons, kCons1_, kCons2_, sx_tup, sx_lst, kTup_, kLst_, sx_fn, kFn_, sx_call, sx_bool, kBool_, sx_tru, kTru_bl, sx_and, sx_or, sx_not, kAnd_t, kAnd_f, kOr_t, kOr_f, kNot_, sx_andV, sx_orV, sx_notV, kAndV_t, kAndV_f, kOrV_t, kOrV_f, kNotV_, sx_ifE, kIfE_t, kIfE_f, sx_chain, kCh1_, kCh2_, kCh3_t, kCh3_f, sx_gNil, sx_gCons, kG_, sx_gTup, gT_nm, gT_tup, gTs_nil, gTs_cons, sx_gSub, kSub1_, kSub2_, sx_par, kPar_, sx_par3, kPar3_, sx_it, kIt_tup, sx_rg1, sx_rg2, sx_for, kFor_rg, kFor_tp, sx_loopT, sx_loopT0, sx_loopR0, kGo_, kTurn_nx, kTurn_ct, kTurn_bk, kTurn_rt, sx_noPart, sx_part, kPart_, sx_sl, kSl1_, kSl2_, kSl3_, sx_lc, sx_pairs0, sx_pairs, kP1_, kP2_, kP3_, sx_dict, eqD_int, neD_int, addD_int, subD_int, ltD_int, leD_int, gtD_int, geD_int, intD_int, intD_bl, ix_t0, ix_t1, ix_t2, ix_t3, lenD_tup, tupleD_tup, listD_tup, List.getElem?_cons_zero, List.getElem?_cons_succ, List.set_cons_zero, List.set_cons_succ, List.length_cons, List.length_nil, Nat.zero_add, Nat.reduceAdd, Nat.reduceSub, Nat.reduceMul, decide_true, decide_false, Bool.not_true, Bool.not_false, Int.reduceMul, Int.reduceAdd, Int.reduceSub, Int.reduceNeg, Int.reduceLT, Int.reduceLE, Int.reducePow, Int.reduceEq, Int.reduceNe, Nat.reduceLeDiff, Nat.reduceLT, Bool.and_true, Bool.true_and, Bool.and_self, ↓reduceIte, Bool.false_eq_true, sx_mt, kMt1_, kMt2_, sx_isL, kIsL_ref, kIsL2_, absD_int, minD_int, maxD_int, negD_int, isi_tup_tuple, isi_int_int, isi_int_bool, kWh_t, kWh_f, nc1, nc2, nc3, nc4, nc5, nc6, nc7, nc8, nc9, nc10, nc11, nc12, nc13, nc14, nc15, nc16, mulD_int, mulD_intL, kRg1_, kRg2_, i62_eq, i63_eq, i64_eq, LIM, List.length_append, at_k, at_k0, set_k, set_k0, kDict_eq, kDict2_, keyP_str, keyP_int, allO_nil, allO_c, kAll_, mO_some, ixD_ref, kIx_lst, kIx_dK, kIx_dT, kIt_ref, kItr_, kFor_ref, kLoopL_, lenD_ref, kLen_lst, kLen_dK, kLen_dT, tupleD_ref, kTuple_, listD_ref, kList_, setD_ref, kSet_lst, kSetL_, kSet_dK, kSetK_, kSet_dT, kSetT_, appendD_ref, kApp_, addD_ref, kAddL_, mulD_ref, kMulL_, slD_ref, kSlice_, slD_tup, maxD_ref, minD_ref, kOnInts_, Option.bind_some, Option.map_some, maxOf, minOf, List.foldl_cons, List.foldl_nil, mergeD, putD, valD, List.any_cons, List.any_nil, Sum.inr.injEq, Sum.inl.injEq, Bool.or_false, Bool.false_or, Bool.or_true, List.find?_cons, List.find?_nil, keyK_str, keyK_int, intK_int, List.map_cons, List.map_nil, List.cons_append, List.nil_append, List.replicate, List.append_assoc] at x1
          have at_g : (S ++ (g ++ [LO.lst [D.int (p : Int), D.int (q : Int)]]))[S.length + g.length]? = some (.lst [D.int (p : Int), D.int (q : Int)]) := by
            rw [at_k, at_k0]
            rfl
          simp only [bind_ret, sx_seq, kSeq_nx, kSeq_rt, kSeq_bk, kSeq_ct, sx_next, sx_break, sx_cont, sx_drop, kDrop_, sx_retS, kRetS_, sx_if, kIf_t, kIf_f, sx_asg, kAsg_, kNx_, sx_nm, sx_var, kVar_, sx_ret, sx_op, kOp1_, kOp2_, sx_un, kUn_, sx_nil, sx_cons, kCons1_, kCons2_, sx_tup, sx_lst, kTup_, kLst_, sx_fn, kFn_, sx_call, sx_bool, kBool_, sx_tru, kTru_bl, sx_and, sx_or, sx_not, kAnd_t, kAnd_f, kOr_t, kOr_f, kNot_, sx_andV, sx_orV, sx_notV, kAndV_t, kAndV_f, kOrV_t, kOrV_f, kNotV_, sx_ifE, kIfE_t, kIfE_f, sx_chain, kCh1_, kCh2_, kCh3_t, kCh3_f, sx_gNil, sx_gCons, kG_, sx_gTup, gT_nm, gT_tup, gTs_nil, gTs_cons, sx_gSub, kSub1_, kSub2_, sx_par, kPar_, sx_par3, kPar3_, sx_it, kIt_tup, sx_rg1, sx_rg2, sx_for, kFor_rg, kFor_tp, sx_loopT, sx_loopT0, sx_loopR0, kGo_, kTurn_nx, kTurn_ct, kTurn_bk, kTurn_rt, sx_noPart, sx_part, kPart_, sx_sl, kSl1_, kSl2_, kSl3_, sx_lc, sx_pairs0, sx_pairs, kP1_, kP2_, kP3_, sx_dict, eqD_int, neD_int, addD_int, subD_int, ltD_int, leD_int, gtD_int, geD_int, intD_int, intD_bl, ix_t0, ix_t1, ix_t2, ix_t3, lenD_tup, tupleD_tup, listD_tup, List.getElem?_cons_zero, List.getElem?_cons_succ, List.set_cons_zero, List.set_cons_succ, List.length_cons, List.length_nil, Nat.zero_add, Nat.reduceAdd, Nat.reduceSub, Nat.reduceMul, decide_true, decide_false, Bool.not_true, Bool.not_false, Int.reduceMul, Int.reduceAdd, Int.reduceSub, Int.reduceNeg, Int.reduceLT, Int.reduceLE, Int.reducePow, Int.reduceEq, Int.reduceNe, Nat.reduceLeDiff, Nat.reduceLT, Bool.and_true, Bool.true_and, Bool.and_self, ↓reduceIte, Bool.false_eq_true, sx_mt, kMt1_, kMt2_, sx_isL, kIsL_ref, kIsL2_, absD_int, minD_int, maxD_int, negD_int, isi_tup_tuple, isi_int_int, isi_int_bool, kWh_t, kWh_f, nc1, nc2, nc3, nc4, nc5, nc6, nc7, nc8, nc9, nc10, nc11, nc12, nc13, nc14, nc15, nc16, mulD_int, mulD_intL, kRg1_, kRg2_, i62_eq, i63_eq, i64_eq, LIM, List.length_append, at_k, at_k0, set_k, set_k0, kDict_eq, kDict2_, keyP_str, keyP_int, allO_nil, allO_c, kAll_, mO_some, ixD_ref, kIx_lst, kIx_dK, kIx_dT, kIt_ref, kItr_, kFor_ref, kLoopL_, lenD_ref, kLen_lst, kLen_dK, kLen_dT, tupleD_ref, kTuple_, listD_ref, kList_, setD_ref, kSet_lst, kSetL_, kSet_dK, kSetK_, kSet_dT, kSetT_, appendD_ref, kApp_, addD_ref, kAddL_, mulD_ref, kMulL_, slD_ref, kSlice_, slD_tup, maxD_ref, minD_ref, kOnInts_, Option.bind_some, Option.map_some, maxOf, minOf, List.foldl_cons, List.foldl_nil, mergeD, putD, valD, List.any_cons, List.any_nil, Sum.inr.injEq, Sum.inl.injEq, Bool.or_false, Bool.false_or, Bool.or_true, List.find?_cons, List.find?_nil, keyK_str, keyK_int, intK_int, List.map_cons, List.map_nil, List.cons_append, List.nil_append, List.replicate, List.append_assoc, d1, d2, d3, d4, at_g, d5, kCall_ x1, add_tup hl2]
          simp only [d6]
          unfold m__law_led_stages_l1 at y
          simp only [ledR, if_neg e, if_neg hlt, stL, List.map_append, List.append_assoc, List.cons_append, List.nil_append] at y ⊢
          exact y
        · have d4 : ((p : Int) - (q : Int) = 1) = False := eq_false (by omega)
          obtain ⟨g1, x1⟩ := oexch_ok (m := m) (p := p - 1) (S := S ++ g) (by omega) hm
          obtain ⟨p', x', g', y⟩ := oled_loop (S := S) hm hq n (p - 1) (k + 1) (acc ++ stL (exS m (p - 1))) (some (.int k)) (g ++ g1) (by omega) (by omega) (by simp [stL, len_ex]; omega) hq2 (by omega) hqm
          refine ⟨p', x', g', ?_⟩
          rw [sx_loopR]
          unfold m__law_led_stages_l1
          unfold stD at x1
          simp only [bind_ret, sx_seq, kSeq_nx, kSeq_rt, kSeq_bk, kSeq_ct, sx_next, sx_break, sx_cont, sx_drop, kDrop_, sx_retS, kRetS_, sx_if, kIf_t, kIf_f, sx_asg, kAsg_, kNx_, sx_nm, sx_var, kVar_, sx_ret, sx_op, kOp1_, kOp2_, sx_un, kUn_, sx_nil, sx_cons, kCons1_, kCons2_, sx_tup, sx_lst, kTup_, kLst_, sx_fn, kFn_, sx_call, sx_bool, kBool_, sx_tru, kTru_bl, sx_and, sx_or, sx_not, kAnd_t, kAnd_f, kOr_t, kOr_f, kNot_, sx_andV, sx_orV, sx_notV, kAndV_t, kAndV_f, kOrV_t, kOrV_f, kNotV_, sx_ifE, kIfE_t, kIfE_f, sx_chain, kCh1_, kCh2_, kCh3_t, kCh3_f, sx_gNil, sx_gCons, kG_, sx_gTup, gT_nm, gT_tup, gTs_nil, gTs_cons, sx_gSub, kSub1_, kSub2_, sx_par, kPar_, sx_par3, kPar3_, sx_it, kIt_tup, sx_rg1, sx_rg2, sx_for, kFor_rg, kFor_tp, sx_loopT, sx_loopT0, sx_loopR0, kGo_, kTurn_nx, kTurn_ct, kTurn_bk, kTurn_rt, sx_noPart, sx_part, kPart_, sx_sl, kSl1_, kSl2_, kSl3_, sx_lc, sx_pairs0, sx_pairs, kP1_, kP2_, kP3_, sx_dict, eqD_int, neD_int, addD_int, subD_int, ltD_int, leD_int, gtD_int, geD_int, intD_int, intD_bl, ix_t0, ix_t1, ix_t2, ix_t3, lenD_tup, tupleD_tup, listD_tup, List.getElem?_cons_zero, List.getElem?_cons_succ, List.set_cons_zero, List.set_cons_succ, List.length_cons, List.length_nil, Nat.zero_add, Nat.reduceAdd, Nat.reduceSub, Nat.reduceMul, decide_true, decide_false, Bool.not_true, Bool.not_false, Int.reduceMul, Int.reduceAdd, Int.reduceSub, Int.reduceNeg, Int.reduceLT, Int.reduceLE, Int.reducePow, Int.reduceEq, Int.reduceNe, Nat.reduceLeDiff, Nat.reduceLT, Bool.and_true, Bool.true_and, Bool.and_self, ↓reduceIte, Bool.false_eq_true, sx_mt, kMt1_, kMt2_, sx_isL, kIsL_ref, kIsL2_, absD_int, minD_int, maxD_int, negD_int, isi_tup_tuple, isi_int_int, isi_int_bool, kWh_t, kWh_f, nc1, nc2, nc3, nc4, nc5, nc6, nc7, nc8, nc9, nc10, nc11, nc12, nc13, nc14, nc15, nc16, mulD_int, mulD_intL, kRg1_, kRg2_, i62_eq, i63_eq, i64_eq, LIM, List.length_append, at_k, at_k0, set_k, set_k0, kDict_eq, kDict2_, keyP_str, keyP_int, allO_nil, allO_c, kAll_, mO_some, ixD_ref, kIx_lst, kIx_dK, kIx_dT, kIt_ref, kItr_, kFor_ref, kLoopL_, lenD_ref, kLen_lst, kLen_dK, kLen_dT, tupleD_ref, kTuple_, listD_ref, kList_, setD_ref, kSet_lst, kSetL_, kSet_dK, kSetK_, kSet_dT, kSetT_, appendD_ref, kApp_, addD_ref, kAddL_, mulD_ref, kMulL_, slD_ref, kSlice_, slD_tup, maxD_ref, minD_ref, kOnInts_, Option.bind_some, Option.map_some, maxOf, minOf, List.foldl_cons, List.foldl_nil, mergeD, putD, valD, List.any_cons, List.any_nil, Sum.inr.injEq, Sum.inl.injEq, Bool.or_false, Bool.false_or, Bool.or_true, List.find?_cons, List.find?_nil, keyK_str, keyK_int, intK_int, List.map_cons, List.map_nil, List.cons_append, List.nil_append, List.replicate, List.append_assoc] at x1
          simp only [bind_ret, sx_seq, kSeq_nx, kSeq_rt, kSeq_bk, kSeq_ct, sx_next, sx_break, sx_cont, sx_drop, kDrop_, sx_retS, kRetS_, sx_if, kIf_t, kIf_f, sx_asg, kAsg_, kNx_, sx_nm, sx_var, kVar_, sx_ret, sx_op, kOp1_, kOp2_, sx_un, kUn_, sx_nil, sx_cons, kCons1_, kCons2_, sx_tup, sx_lst, kTup_, kLst_, sx_fn, kFn_, sx_call, sx_bool, kBool_, sx_tru, kTru_bl, sx_and, sx_or, sx_not, kAnd_t, kAnd_f, kOr_t, kOr_f, kNot_, sx_andV, sx_orV, sx_notV, kAndV_t, kAndV_f, kOrV_t, kOrV_f, kNotV_, sx_ifE, kIfE_t, kIfE_f, sx_chain, kCh1_, kCh2_, kCh3_t, kCh3_f, sx_gNil, sx_gCons, kG_, sx_gTup, gT_nm, gT_tup, gTs_nil, gTs_cons, sx_gSub, kSub1_, kSub2_, sx_par, kPar_, sx_par3, kPar3_, sx_it, kIt_tup, sx_rg1, sx_rg2, sx_for, kFor_rg, kFor_tp, sx_loopT, sx_loopT0, sx_loopR0, kGo_, kTurn_nx, kTurn_ct, kTurn_bk, kTurn_rt, sx_noPart, sx_part, kPart_, sx_sl, kSl1_, kSl2_, kSl3_, sx_lc, sx_pairs0, sx_pairs, kP1_, kP2_, kP3_, sx_dict, eqD_int, neD_int, addD_int, subD_int, ltD_int, leD_int, gtD_int, geD_int, intD_int, intD_bl, ix_t0, ix_t1, ix_t2, ix_t3, lenD_tup, tupleD_tup, listD_tup, List.getElem?_cons_zero, List.getElem?_cons_succ, List.set_cons_zero, List.set_cons_succ, List.length_cons, List.length_nil, Nat.zero_add, Nat.reduceAdd, Nat.reduceSub, Nat.reduceMul, decide_true, decide_false, Bool.not_true, Bool.not_false, Int.reduceMul, Int.reduceAdd, Int.reduceSub, Int.reduceNeg, Int.reduceLT, Int.reduceLE, Int.reducePow, Int.reduceEq, Int.reduceNe, Nat.reduceLeDiff, Nat.reduceLT, Bool.and_true, Bool.true_and, Bool.and_self, ↓reduceIte, Bool.false_eq_true, sx_mt, kMt1_, kMt2_, sx_isL, kIsL_ref, kIsL2_, absD_int, minD_int, maxD_int, negD_int, isi_tup_tuple, isi_int_int, isi_int_bool, kWh_t, kWh_f, nc1, nc2, nc3, nc4, nc5, nc6, nc7, nc8, nc9, nc10, nc11, nc12, nc13, nc14, nc15, nc16, mulD_int, mulD_intL, kRg1_, kRg2_, i62_eq, i63_eq, i64_eq, LIM, List.length_append, at_k, at_k0, set_k, set_k0, kDict_eq, kDict2_, keyP_str, keyP_int, allO_nil, allO_c, kAll_, mO_some, ixD_ref, kIx_lst, kIx_dK, kIx_dT, kIt_ref, kItr_, kFor_ref, kLoopL_, lenD_ref, kLen_lst, kLen_dK, kLen_dT, tupleD_ref, kTuple_, listD_ref, kList_, setD_ref, kSet_lst, kSetL_, kSet_dK, kSetK_, kSet_dT, kSetT_, appendD_ref, kApp_, addD_ref, kAddL_, mulD_ref, kMulL_, slD_ref, kSlice_, slD_tup, maxD_ref, minD_ref, kOnInts_, Option.bind_some, Option.map_some, maxOf, minOf, List.foldl_cons, List.foldl_nil, mergeD, putD, valD, List.any_cons, List.any_nil, Sum.inr.injEq, Sum.inl.injEq, Bool.or_false, Bool.false_or, Bool.or_true, List.find?_cons, List.find?_nil, keyK_str, keyK_int, intK_int, List.map_cons, List.map_nil, List.cons_append, List.nil_append, List.replicate, List.append_assoc, d1, d2, d3, d4, d6, kCall_ x1, add_tup hl2]
          unfold m__law_led_stages_l1 at y
          simp only [ledR, if_neg e, if_neg hlt, stL, List.map_append, List.append_assoc, List.cons_append, List.nil_append] at y ⊢
          exact y
theorem oled_ok {m p q : Nat} {S : List LO} (hm : m ≤ 900) (hp : p ≤ m) (hq : q ≤ m) : ∃ g, Run F__law_led_stages [.int (m : Int), .int (p : Int), .int (q : Int)] S (stD (ledR m q m p)) (S ++ g) := by
  obtain ⟨p', x', g', y⟩ := oled_loop (S := S) hm (show q ≤ 900 by omega) m p 0 [] none [] (by omega) (by omega) (by simp; omega) (by omega) hp hq
  refine run_ex rfl ⟨g', [some (.int (m : Int)), p', some (.int (q : Int)), some (.tup (stL (ledR m q m p))), x'], ?_⟩
  rw [List.append_nil, List.nil_append] at y
  have r1 := fun s => rg1 (p := m) (show m ≤ 1000 by omega) s
  unfold m__law_led_stages startE
  simp only [bind_ret, sx_seq, kSeq_nx, kSeq_rt, kSeq_bk, kSeq_ct, sx_next, sx_break, sx_cont, sx_drop, kDrop_, sx_retS, kRetS_, sx_if, kIf_t, kIf_f, sx_asg, kAsg_, kNx_, sx_nm, sx_var, kVar_, sx_ret, sx_op, kOp1_, kOp2_, sx_un, kUn_, sx_nil, sx_cons, kCons1_, kCons2_, sx_tup, sx_lst, kTup_, kLst_, sx_fn, kFn_, sx_call, sx_bool, kBool_, sx_tru, kTru_bl, sx_and, sx_or, sx_not, kAnd_t, kAnd_f, kOr_t, kOr_f, kNot_, sx_andV, sx_orV, sx_notV, kAndV_t, kAndV_f, kOrV_t, kOrV_f, kNotV_, sx_ifE, kIfE_t, kIfE_f, sx_chain, kCh1_, kCh2_, kCh3_t, kCh3_f, sx_gNil, sx_gCons, kG_, sx_gTup, gT_nm, gT_tup, gTs_nil, gTs_cons, sx_gSub, kSub1_, kSub2_, sx_par, kPar_, sx_par3, kPar3_, sx_it, kIt_tup, sx_rg1, sx_rg2, sx_for, kFor_rg, kFor_tp, sx_loopT, sx_loopT0, sx_loopR0, kGo_, kTurn_nx, kTurn_ct, kTurn_bk, kTurn_rt, sx_noPart, sx_part, kPart_, sx_sl, kSl1_, kSl2_, kSl3_, sx_lc, sx_pairs0, sx_pairs, kP1_, kP2_, kP3_, sx_dict, eqD_int, neD_int, addD_int, subD_int, ltD_int, leD_int, gtD_int, geD_int, intD_int, intD_bl, ix_t0, ix_t1, ix_t2, ix_t3, lenD_tup, tupleD_tup, listD_tup, List.getElem?_cons_zero, List.getElem?_cons_succ, List.set_cons_zero, List.set_cons_succ, List.length_cons, List.length_nil, Nat.zero_add, Nat.reduceAdd, Nat.reduceSub, Nat.reduceMul, decide_true, decide_false, Bool.not_true, Bool.not_false, Int.reduceMul, Int.reduceAdd, Int.reduceSub, Int.reduceNeg, Int.reduceLT, Int.reduceLE, Int.reducePow, Int.reduceEq, Int.reduceNe, Nat.reduceLeDiff, Nat.reduceLT, Bool.and_true, Bool.true_and, Bool.and_self, ↓reduceIte, Bool.false_eq_true, sx_mt, kMt1_, kMt2_, sx_isL, kIsL_ref, kIsL2_, absD_int, minD_int, maxD_int, negD_int, isi_tup_tuple, isi_int_int, isi_int_bool, kWh_t, kWh_f, nc1, nc2, nc3, nc4, nc5, nc6, nc7, nc8, nc9, nc10, nc11, nc12, nc13, nc14, nc15, nc16, mulD_int, mulD_intL, kRg1_, kRg2_, i62_eq, i63_eq, i64_eq, LIM, List.length_append, at_k, at_k0, set_k, set_k0, kDict_eq, kDict2_, keyP_str, keyP_int, allO_nil, allO_c, kAll_, mO_some, ixD_ref, kIx_lst, kIx_dK, kIx_dT, kIt_ref, kItr_, kFor_ref, kLoopL_, lenD_ref, kLen_lst, kLen_dK, kLen_dT, tupleD_ref, kTuple_, listD_ref, kList_, setD_ref, kSet_lst, kSetL_, kSet_dK, kSetK_, kSet_dT, kSetT_, appendD_ref, kApp_, addD_ref, kAddL_, mulD_ref, kMulL_, slD_ref, kSlice_, slD_tup, maxD_ref, minD_ref, kOnInts_, Option.bind_some, Option.map_some, maxOf, minOf, List.foldl_cons, List.foldl_nil, mergeD, putD, valD, List.any_cons, List.any_nil, Sum.inr.injEq, Sum.inl.injEq, Bool.or_false, Bool.false_or, Bool.or_true, List.find?_cons, List.find?_nil, keyK_str, keyK_int, intK_int, List.map_cons, List.map_nil, List.cons_append, List.nil_append, List.replicate, List.append_assoc, r1, Int.natCast_zero, Int.ofNat_zero]
  rw [y]
  simp only [bind_ret, sx_seq, kSeq_nx, kSeq_rt, kSeq_bk, kSeq_ct, sx_next, sx_break, sx_cont, sx_drop, kDrop_, sx_retS, kRetS_, sx_if, kIf_t, kIf_f, sx_asg, kAsg_, kNx_, sx_nm, sx_var, kVar_, sx_ret, sx_op, kOp1_, kOp2_, sx_un, kUn_, sx_nil, sx_cons, kCons1_, kCons2_, sx_tup, sx_lst, kTup_, kLst_, sx_fn, kFn_, sx_call, sx_bool, kBool_, sx_tru, kTru_bl, sx_and, sx_or, sx_not, kAnd_t, kAnd_f, kOr_t, kOr_f, kNot_, sx_andV, sx_orV, sx_notV, kAndV_t, kAndV_f, kOrV_t, kOrV_f, kNotV_, sx_ifE, kIfE_t, kIfE_f, sx_chain, kCh1_, kCh2_, kCh3_t, kCh3_f, sx_gNil, sx_gCons, kG_, sx_gTup, gT_nm, gT_tup, gTs_nil, gTs_cons, sx_gSub, kSub1_, kSub2_, sx_par, kPar_, sx_par3, kPar3_, sx_it, kIt_tup, sx_rg1, sx_rg2, sx_for, kFor_rg, kFor_tp, sx_loopT, sx_loopT0, sx_loopR0, kGo_, kTurn_nx, kTurn_ct, kTurn_bk, kTurn_rt, sx_noPart, sx_part, kPart_, sx_sl, kSl1_, kSl2_, kSl3_, sx_lc, sx_pairs0, sx_pairs, kP1_, kP2_, kP3_, sx_dict, eqD_int, neD_int, addD_int, subD_int, ltD_int, leD_int, gtD_int, geD_int, intD_int, intD_bl, ix_t0, ix_t1, ix_t2, ix_t3, lenD_tup, tupleD_tup, listD_tup, List.getElem?_cons_zero, List.getElem?_cons_succ, List.set_cons_zero, List.set_cons_succ, List.length_cons, List.length_nil, Nat.zero_add, Nat.reduceAdd, Nat.reduceSub, Nat.reduceMul, decide_true, decide_false, Bool.not_true, Bool.not_false, Int.reduceMul, Int.reduceAdd, Int.reduceSub, Int.reduceNeg, Int.reduceLT, Int.reduceLE, Int.reducePow, Int.reduceEq, Int.reduceNe, Nat.reduceLeDiff, Nat.reduceLT, Bool.and_true, Bool.true_and, Bool.and_self, ↓reduceIte, Bool.false_eq_true, sx_mt, kMt1_, kMt2_, sx_isL, kIsL_ref, kIsL2_, absD_int, minD_int, maxD_int, negD_int, isi_tup_tuple, isi_int_int, isi_int_bool, kWh_t, kWh_f, nc1, nc2, nc3, nc4, nc5, nc6, nc7, nc8, nc9, nc10, nc11, nc12, nc13, nc14, nc15, nc16, mulD_int, mulD_intL, kRg1_, kRg2_, i62_eq, i63_eq, i64_eq, LIM, List.length_append, at_k, at_k0, set_k, set_k0, kDict_eq, kDict2_, keyP_str, keyP_int, allO_nil, allO_c, kAll_, mO_some, ixD_ref, kIx_lst, kIx_dK, kIx_dT, kIt_ref, kItr_, kFor_ref, kLoopL_, lenD_ref, kLen_lst, kLen_dK, kLen_dT, tupleD_ref, kTuple_, listD_ref, kList_, setD_ref, kSet_lst, kSetL_, kSet_dK, kSetK_, kSet_dT, kSetT_, appendD_ref, kApp_, addD_ref, kAddL_, mulD_ref, kMulL_, slD_ref, kSlice_, slD_tup, maxD_ref, minD_ref, kOnInts_, Option.bind_some, Option.map_some, maxOf, minOf, List.foldl_cons, List.foldl_nil, mergeD, putD, valD, List.any_cons, List.any_nil, Sum.inr.injEq, Sum.inl.injEq, Bool.or_false, Bool.false_or, Bool.or_true, List.find?_cons, List.find?_nil, keyK_str, keyK_int, intK_int, List.map_cons, List.map_nil, List.cons_append, List.nil_append, List.replicate, List.append_assoc, stD]
/-! ### rows of bits -/
abbrev bt (r : List Bool) : D := .tup (r.map bD)
def two (rs : List (List Bool)) : List (List Bool) := rs.flatMap fun r => [r ++ [false], r ++ [true]]
def bitR : Nat → List (List Bool)
  | 0 => [[]]
  | n + 1 => two (bitR n)
theorem two_len : ∀ rs : List (List Bool), (two rs).length = 2 * rs.length
  | [] => rfl
  | r :: rs => by
    have := two_len rs
    unfold two at this ⊢
    rw [List.flatMap_cons, List.length_append, this]
    simp
    omega
theorem bitR_len : ∀ n, (bitR n).length = 2 ^ n
  | 0 => rfl
  | n + 1 => by rw [bitR, two_len, bitR_len n, Nat.pow_succ]; omega
theorem bitR_mem : ∀ n, ∀ r ∈ bitR n, r.length = n
  | 0, r, h => by
    simp [bitR] at h
    subst h
    rfl
  | n + 1, r, h => by
    simp only [bitR, two, List.mem_flatMap] at h
    obtain ⟨q, hq, h⟩ := h
    have := bitR_mem n q hq
    simp at h
    rcases h with rfl | rfl <;> simp [this]
theorem rows_in {S : List LO} {M0 L0 : Option D} {rows : List (List Bool)} {j : Nat} (hr : ∀ r ∈ rows, r.length ≤ 100) : ∀ (k i l : Nat) (acc : List (List Bool)) (x : Option D) (g : List LO), k + i = rows.length → (S ++ g)[j]? = some (.lst (rows.map bt)) → (S ++ g)[l]? = some (.lst (acc.map bt)) → acc.length + 2 * k ≤ 100000 →
    ∃ l' x' g', loopL (gNm 4) m__law_bit_rows_l1 j k i ⟨[M0, some (.ref j), L0, some (.ref l), x], S ++ g⟩ = .ret .nx ⟨[M0, some (.ref j), L0, some (.ref l'), x'], S ++ g'⟩ ∧ (S ++ g')[l']? = some (.lst ((acc ++ two (rows.drop i)).map bt))
  | 0, i, l, acc, x, g, hk, hj, hl, _ => by
    refine ⟨l, x, g, sx_loopL0 hj (by simp; omega), ?_⟩
    rw [List.drop_eq_nil_of_le (by omega)]
    simpa [two] using hl
  | k + 1, i, l, acc, x, g, hk, hj, hl, hb => by
    have hi : i < rows.length := by omega
    have hx : (rows.map bt)[i]? = some (bt rows[i]) := by simp [hi]
    have hr1 := hr rows[i] (List.getElem_mem hi)
    have a0 : ((rows[i]).map bD).length + [D.int 0].length ≤ LIM := by simp [LIM]; omega
    have a1 : ((rows[i]).map bD).length + [D.int 1].length ≤ LIM := by simp [LIM]; omega
    have a2 : (acc.map bt).length + [D.tup ((rows[i]).map bD ++ [D.int 0]), D.tup ((rows[i]).map bD ++ [D.int 1])].length ≤ LIM := by simp [LIM]; omega
    have e2 : acc.map bt ++ [D.tup ((rows[i]).map bD ++ [D.int 0]), D.tup ((rows[i]).map bD ++ [D.int 1])] = (acc ++ [rows[i] ++ [false], rows[i] ++ [true]]).map bt := by simp [bt]
    obtain ⟨G, hG⟩ : ∃ G, G = g ++ [.lst [D.tup ((rows[i]).map bD ++ [D.int 0]), D.tup ((rows[i]).map bD ++ [D.int 1])], .lst ((acc ++ [rows[i] ++ [false], rows[i] ++ [true]]).map bt)] := ⟨_, rfl⟩
    have hj2 : (S ++ G)[j]? = some (.lst (rows.map bt)) := by rw [hG, ← List.append_assoc]; exact at_old hj
    have hl2 : (S ++ G)[(S ++ g).length + 1]? = some (.lst ((acc ++ [rows[i] ++ [false], rows[i] ++ [true]]).map bt)) := by rw [hG, ← List.append_assoc]; exact at_end1
    obtain ⟨l', x', g', y, hf⟩ := rows_in (S := S) (M0 := M0) (L0 := L0) hr k (i + 1) ((S ++ g).length + 1) (acc ++ [rows[i] ++ [false], rows[i] ++ [true]]) (some (bt rows[i])) G (by omega) hj2 hl2 (by simp; omega)
    refine ⟨l', x', g', ?_, ?_⟩
    · rw [sx_loopL hj hx]
      have old : ∀ (o : List LO), ((S ++ g) ++ o)[l]? = some (.lst (acc.map bt)) := fun o => at_old hl
      have aG : ∀ (e : List (Option D)), addD (.ref l) (.ref (S ++ g).length) ⟨e, (S ++ g) ++ [.lst [D.tup ((rows[i]).map bD ++ [D.int 0]), D.tup ((rows[i]).map bD ++ [D.int 1])]]⟩ = .ret (.ref ((S ++ g).length + 1)) ⟨e, S ++ G⟩ := fun e => by
        rw [addD_ref, old, at_end, kAddL_ a2, e2, hG]
        simp [Nat.add_assoc]
      have s1 : m__law_bit_rows_l1 ⟨[M0, some (.ref j), L0, some (.ref l), some (bt rows[i])], S ++ g⟩ = .ret .nx ⟨[M0, some (.ref j), L0, some (.ref ((S ++ g).length + 1)), some (bt rows[i])], S ++ G⟩ := by
        generalize S ++ g = Z at *
        unfold m__law_bit_rows_l1
        simp only [bind_ret, sx_seq, kSeq_nx, kSeq_rt, kSeq_bk, kSeq_ct, sx_next, sx_break, sx_cont, sx_drop, kDrop_, sx_retS, kRetS_, sx_if, kIf_t, kIf_f, sx_asg, kAsg_, kNx_, sx_nm, sx_var, kVar_, sx_ret, sx_op, kOp1_, kOp2_, sx_un, kUn_, sx_nil, sx_cons, kCons1_, kCons2_, sx_tup, sx_lst, kTup_, kLst_, sx_fn, kFn_, sx_call, sx_bool, kBool_, sx_tru, kTru_bl, sx_and, sx_or, sx_not, kAnd_t, kAnd_f, kOr_t, kOr_f, kNot_, sx_andV, sx_orV, sx_notV, kAndV_t, kAndV_f, kOrV_t, kOrV_f, kNotV_, sx_ifE, kIfE_t, kIfE_f, sx_chain, kCh1_, kCh2_, kCh3_t, kCh3_f, sx_gNil, sx_gCons, kG_, sx_gTup, gT_nm, gT_tup, gTs_nil, gTs_cons, sx_gSub, kSub1_, kSub2_, sx_par, kPar_, sx_par3, kPar3_, sx_it, kIt_tup, sx_rg1, sx_rg2, sx_for, kFor_rg, kFor_tp, sx_loopT, sx_loopT0, sx_loopR0, kGo_, kTurn_nx, kTurn_ct, kTurn_bk, kTurn_rt, sx_noPart, sx_part, kPart_, sx_sl, kSl1_, kSl2_, kSl3_, sx_lc, sx_pairs0, sx_pairs, kP1_, kP2_, kP3_, sx_dict, eqD_int, neD_int, addD_int, subD_int, ltD_int, leD_int, gtD_int, geD_int, intD_int, intD_bl, ix_t0, ix_t1, ix_t2, ix_t3, lenD_tup, tupleD_tup, listD_tup, List.getElem?_cons_zero, List.getElem?_cons_succ, List.set_cons_zero, List.set_cons_succ, List.length_cons, List.length_nil, Nat.zero_add, Nat.reduceAdd, Nat.reduceSub, Nat.reduceMul, decide_true, decide_false, Bool.not_true, Bool.not_false, Int.reduceMul, Int.reduceAdd, Int.reduceSub, Int.reduceNeg, Int.reduceLT, Int.reduceLE, Int.reducePow, Int.reduceEq, Int.reduceNe, Nat.reduceLeDiff, Nat.reduceLT, Bool.and_true, Bool.true_and, Bool.and_self, ↓reduceIte, Bool.false_eq_true, sx_mt, kMt1_, kMt2_, sx_isL, kIsL_ref, kIsL2_, absD_int, minD_int, maxD_int, negD_int, isi_tup_tuple, isi_int_int, isi_int_bool, kWh_t, kWh_f, nc1, nc2, nc3, nc4, nc5, nc6, nc7, nc8, nc9, nc10, nc11, nc12, nc13, nc14, nc15, nc16, mulD_int, mulD_intL, kRg1_, kRg2_, i62_eq, i63_eq, i64_eq, LIM, List.length_append, at_k, at_k0, set_k, set_k0, kDict_eq, kDict2_, keyP_str, keyP_int, allO_nil, allO_c, kAll_, mO_some, ixD_ref, kIx_lst, kIx_dK, kIx_dT, kIt_ref, kItr_, kFor_ref, kLoopL_, lenD_ref, kLen_lst, kLen_dK, kLen_dT, tupleD_ref, kTuple_, listD_ref, kList_, setD_ref, kSet_lst, kSetL_, kSet_dK, kSetK_, kSet_dT, kSetT_, appendD_ref, kApp_, addD_ref, kAddL_, mulD_ref, kMulL_, slD_ref, kSlice_, slD_tup, maxD_ref, minD_ref, kOnInts_, Option.bind_some, Option.map_some, maxOf, minOf, List.foldl_cons, List.foldl_nil, mergeD, putD, valD, List.any_cons, List.any_nil, Sum.inr.injEq, Sum.inl.injEq, Bool.or_false, Bool.false_or, Bool.or_true, List.find?_cons, List.find?_nil, keyK_str, keyK_int, intK_int, List.map_cons, List.map_nil, List.cons_append, List.nil_append, List.replicate, List.append_assoc, add_tup a0, add_tup a1]
        simp only [bind_ret, sx_seq, kSeq_nx, kSeq_rt, kSeq_bk, kSeq_ct, sx_next, sx_break, sx_cont, sx_drop, kDrop_, sx_retS, kRetS_, sx_if, kIf_t, kIf_f, sx_asg, kAsg_, kNx_, sx_nm, sx_var, kVar_, sx_ret, sx_op, kOp1_, kOp2_, sx_un, kUn_, sx_nil, sx_cons, kCons1_, kCons2_, sx_tup, sx_lst, kTup_, kLst_, sx_fn, kFn_, sx_call, sx_bool, kBool_, sx_tru, kTru_bl, sx_and, sx_or, sx_not, kAnd_t, kAnd_f, kOr_t, kOr_f, kNot_, sx_andV, sx_orV, sx_notV, kAndV_t, kAndV_f, kOrV_t, kOrV_f, kNotV_, sx_ifE, kIfE_t, kIfE_f, sx_chain, kCh1_, kCh2_, kCh3_t, kCh3_f, sx_gNil, sx_gCons, kG_, sx_gTup, gT_nm, gT_tup, gTs_nil, gTs_cons, sx_gSub, kSub1_, kSub2_, sx_par, kPar_, sx_par3, kPar3_, sx_it, kIt_tup, sx_rg1, sx_rg2, sx_for, kFor_rg, kFor_tp, sx_loopT, sx_loopT0, sx_loopR0, kGo_, kTurn_nx, kTurn_ct, kTurn_bk, kTurn_rt, sx_noPart, sx_part, kPart_, sx_sl, kSl1_, kSl2_, kSl3_, sx_lc, sx_pairs0, sx_pairs, kP1_, kP2_, kP3_, sx_dict, eqD_int, neD_int, addD_int, subD_int, ltD_int, leD_int, gtD_int, geD_int, intD_int, intD_bl, ix_t0, ix_t1, ix_t2, ix_t3, lenD_tup, tupleD_tup, listD_tup, List.getElem?_cons_zero, List.getElem?_cons_succ, List.set_cons_zero, List.set_cons_succ, List.length_cons, List.length_nil, Nat.zero_add, Nat.reduceAdd, Nat.reduceSub, Nat.reduceMul, decide_true, decide_false, Bool.not_true, Bool.not_false, Int.reduceMul, Int.reduceAdd, Int.reduceSub, Int.reduceNeg, Int.reduceLT, Int.reduceLE, Int.reducePow, Int.reduceEq, Int.reduceNe, Nat.reduceLeDiff, Nat.reduceLT, Bool.and_true, Bool.true_and, Bool.and_self, ↓reduceIte, Bool.false_eq_true, sx_mt, kMt1_, kMt2_, sx_isL, kIsL_ref, kIsL2_, absD_int, minD_int, maxD_int, negD_int, isi_tup_tuple, isi_int_int, isi_int_bool, kWh_t, kWh_f, nc1, nc2, nc3, nc4, nc5, nc6, nc7, nc8, nc9, nc10, nc11, nc12, nc13, nc14, nc15, nc16, mulD_int, mulD_intL, kRg1_, kRg2_, i62_eq, i63_eq, i64_eq, LIM, List.length_append, at_k, at_k0, set_k, set_k0, kDict_eq, kDict2_, keyP_str, keyP_int, allO_nil, allO_c, kAll_, mO_some, ixD_ref, kIx_lst, kIx_dK, kIx_dT, kIt_ref, kItr_, kFor_ref, kLoopL_, lenD_ref, kLen_lst, kLen_dK, kLen_dT, tupleD_ref, kTuple_, listD_ref, kList_, setD_ref, kSet_lst, kSetL_, kSet_dK, kSetK_, kSet_dT, kSetT_, appendD_ref, kApp_, addD_ref, kAddL_, mulD_ref, kMulL_, slD_ref, kSlice_, slD_tup, maxD_ref, minD_ref, kOnInts_, Option.bind_some, Option.map_some, maxOf, minOf, List.foldl_cons, List.foldl_nil, mergeD, putD, valD, List.any_cons, List.any_nil, Sum.inr.injEq, Sum.inl.injEq, Bool.or_false, Bool.false_or, Bool.or_true, List.find?_cons, List.find?_nil, keyK_str, keyK_int, intK_int, List.map_cons, List.map_nil, List.cons_append, List.nil_append, List.replicate, List.append_assoc] at aG
        simp only [aG, bind_ret, sx_seq, kSeq_nx, kSeq_rt, kSeq_bk, kSeq_ct, sx_next, sx_break, sx_cont, sx_drop, kDrop_, sx_retS, kRetS_, sx_if, kIf_t, kIf_f, sx_asg, kAsg_, kNx_, sx_nm, sx_var, kVar_, sx_ret, sx_op, kOp1_, kOp2_, sx_un, kUn_, sx_nil, sx_cons, kCons1_, kCons2_, sx_tup, sx_lst, kTup_, kLst_, sx_fn, kFn_, sx_call, sx_bool, kBool_, sx_tru, kTru_bl, sx_and, sx_or, sx_not, kAnd_t, kAnd_f, kOr_t, kOr_f, kNot_, sx_andV, sx_orV, sx_notV, kAndV_t, kAndV_f, kOrV_t, kOrV_f, kNotV_, sx_ifE, kIfE_t, kIfE_f, sx_chain, kCh1_, kCh2_, kCh3_t, kCh3_f, sx_gNil, sx_gCons, kG_, sx_gTup, gT_nm, gT_tup, gTs_nil, gTs_cons, sx_gSub, kSub1_, kSub2_, sx_par, kPar_, sx_par3, kPar3_, sx_it, kIt_tup, sx_rg1, sx_rg2, sx_for, kFor_rg, kFor_tp, sx_loopT, sx_loopT0, sx_loopR0, kGo_, kTurn_nx, kTurn_ct, kTurn_bk, kTurn_rt, sx_noPart, sx_part, kPart_, sx_sl, kSl1_, kSl2_, kSl3_, sx_lc, sx_pairs0, sx_pairs, kP1_, kP2_, kP3_, sx_dict, eqD_int, neD_int, addD_int, subD_int, ltD_int, leD_int, gtD_int, geD_int, intD_int, intD_bl, ix_t0, ix_t1, ix_t2, ix_t3, lenD_tup, tupleD_tup, listD_tup, List.getElem?_cons_zero, List.getElem?_cons_succ, List.set_cons_zero, List.set_cons_succ, List.length_cons, List.length_nil, Nat.zero_add, Nat.reduceAdd, Nat.reduceSub, Nat.reduceMul, decide_true, decide_false, Bool.not_true, Bool.not_false, Int.reduceMul, Int.reduceAdd, Int.reduceSub, Int.reduceNeg, Int.reduceLT, Int.reduceLE, Int.reducePow, Int.reduceEq, Int.reduceNe, Nat.reduceLeDiff, Nat.reduceLT, Bool.and_true, Bool.true_and, Bool.and_self, ↓reduceIte, Bool.false_eq_true, sx_mt, kMt1_, kMt2_, sx_isL, kIsL_ref, kIsL2_, absD_int, minD_int, maxD_int, negD_int, isi_tup_tuple, isi_int_int, isi_int_bool, kWh_t, kWh_f, nc1, nc2, nc3, nc4, nc5, nc6, nc7, nc8, nc9, nc10, nc11, nc12, nc13, nc14, nc15, nc16, mulD_int, mulD_intL, kRg1_, kRg2_, i62_eq, i63_eq, i64_eq, LIM, List.length_append, at_k, at_k0, set_k, set_k0, kDict_eq, kDict2_, keyP_str, keyP_int, allO_nil, allO_c, kAll_, mO_some, ixD_ref, kIx_lst, kIx_dK, kIx_dT, kIt_ref, kItr_, kFor_ref, kLoopL_, lenD_ref, kLen_lst, kLen_dK, kLen_dT, tupleD_ref, kTuple_, listD_ref, kList_, setD_ref, kSet_lst, kSetL_, kSet_dK, kSetK_, kSet_dT, kSetT_, appendD_ref, kApp_, addD_ref, kAddL_, mulD_ref, kMulL_, slD_ref, kSlice_, slD_tup, maxD_ref, minD_ref, kOnInts_, Option.bind_some, Option.map_some, maxOf, minOf, List.foldl_cons, List.foldl_nil, mergeD, putD, valD, List.any_cons, List.any_nil, Sum.inr.injEq, Sum.inl.injEq, Bool.or_false, Bool.false_or, Bool.or_true, List.find?_cons, List.find?_nil, keyK_str, keyK_int, intK_int, List.map_cons, List.map_nil, List.cons_append, List.nil_append, List.replicate, List.append_assoc]
      rw [nm_r, bind_ret, kGo_]
      show ((m__law_bit_rows_l1 ⟨[M0, some (.ref j), L0, some (.ref l), some (bt rows[i])], S ++ g⟩).bind _) = _
      rw [s1, bind_ret, kTurn_nx]
      exact y
    · have e3 : two (rows.drop i) = (rows[i] ++ [false]) :: (rows[i] ++ [true]) :: two (rows.drop (i + 1)) := by
        rw [List.drop_eq_getElem_cons hi]
        unfold two
        rw [List.flatMap_cons]
        rfl
      rw [hf, e3, List.append_assoc]
      rfl
theorem rows_out {S : List LO} {M0 : Option D} : ∀ (n i : Nat) (k : Int) (j : Nat) (x y z : Option D) (g : List LO), n + i ≤ 10 → (S ++ g)[j]? = some (.lst ((bitR i).map bt)) →
    ∃ j' x' y' z' g', loopR (gNm 2) m__law_bit_rows_l2 n k ⟨[M0, some (.ref j), x, y, z], S ++ g⟩ = .ret .nx ⟨[M0, some (.ref j'), x', y', z'], S ++ g'⟩ ∧ (S ++ g')[j']? = some (.lst ((bitR (n + i)).map bt))
  | 0, i, k, j, x, y, z, g, _, hj => ⟨j, x, y, z, g, rfl, by rw [Nat.zero_add]; exact hj⟩
  | n + 1, i, k, j, x, y, z, g, hn, hj => by
    have hlen : (bitR i).length ≤ 1024 := by
      rw [bitR_len]
      exact Nat.pow_le_pow_right (by decide) (show i ≤ 10 by omega)
    have hj2 : (S ++ (g ++ [.lst []]))[j]? = some (.lst ((bitR i).map bt)) := by rw [← List.append_assoc]; exact at_old hj
    have hl2 : (S ++ (g ++ [.lst []]))[(S ++ g).length]? = some (.lst (([] : List (List Bool)).map bt)) := by rw [← List.append_assoc]; exact at_end
    obtain ⟨l', x', g', q, hf⟩ := rows_in (S := S) (M0 := M0) (L0 := some (.int k)) (rows := bitR i) (j := j) (fun r hr => by rw [bitR_mem i r hr]; omega) (bitR i).length 0 (S ++ g).length [] z (g ++ [.lst []]) (by omega) hj2 hl2 (by simp; omega)
    rw [List.nil_append, List.drop_zero] at hf
    obtain ⟨j', x2, y2, z2, g2, q2, hf2⟩ := rows_out (S := S) (M0 := M0) n (i + 1) (k + 1) l' (some (.int k)) (some (.ref l')) x' g' (by omega) hf
    refine ⟨j', x2, y2, z2, g2, ?_, by rw [show n + 1 + i = n + (i + 1) by omega]; exact hf2⟩
    rw [sx_loopR]
    have s1 : m__law_bit_rows_l2 ⟨[M0, some (.ref j), some (.int k), y, z], S ++ g⟩ = .ret .nx ⟨[M0, some (.ref l'), some (.int k), some (.ref l'), x'], S ++ g'⟩ := by
      rw [← List.append_assoc] at q hj2
      generalize S ++ g = Z at *
      unfold m__law_bit_rows_l2
      simp only [bind_ret, sx_seq, kSeq_nx, kSeq_rt, kSeq_bk, kSeq_ct, sx_next, sx_break, sx_cont, sx_drop, kDrop_, sx_retS, kRetS_, sx_if, kIf_t, kIf_f, sx_asg, kAsg_, kNx_, sx_nm, sx_var, kVar_, sx_ret, sx_op, kOp1_, kOp2_, sx_un, kUn_, sx_nil, sx_cons, kCons1_, kCons2_, sx_tup, sx_lst, kTup_, kLst_, sx_fn, kFn_, sx_call, sx_bool, kBool_, sx_tru, kTru_bl, sx_and, sx_or, sx_not, kAnd_t, kAnd_f, kOr_t, kOr_f, kNot_, sx_andV, sx_orV, sx_notV, kAndV_t, kAndV_f, kOrV_t, kOrV_f, kNotV_, sx_ifE, kIfE_t, kIfE_f, sx_chain, kCh1_, kCh2_, kCh3_t, kCh3_f, sx_gNil, sx_gCons, kG_, sx_gTup, gT_nm, gT_tup, gTs_nil, gTs_cons, sx_gSub, kSub1_, kSub2_, sx_par, kPar_, sx_par3, kPar3_, sx_it, kIt_tup, sx_rg1, sx_rg2, sx_for, kFor_rg, kFor_tp, sx_loopT, sx_loopT0, sx_loopR0, kGo_, kTurn_nx, kTurn_ct, kTurn_bk, kTurn_rt, sx_noPart, sx_part, kPart_, sx_sl, kSl1_, kSl2_, kSl3_, sx_lc, sx_pairs0, sx_pairs, kP1_, kP2_, kP3_, sx_dict, eqD_int, neD_int, addD_int, subD_int, ltD_int, leD_int, gtD_int, geD_int, intD_int, intD_bl, ix_t0, ix_t1, ix_t2, ix_t3, lenD_tup, tupleD_tup, listD_tup, List.getElem?_cons_zero, List.getElem?_cons_succ, List.set_cons_zero, List.set_cons_succ, List.length_cons, List.length_nil, Nat.zero_add, Nat.reduceAdd, Nat.reduceSub, Nat.reduceMul, decide_true, decide_false, Bool.not_true, Bool.not_false, Int.reduceMul, Int.reduceAdd, Int.reduceSub, Int.reduceNeg, Int.reduceLT, Int.reduceLE, Int.reducePow, Int.reduceEq, Int.reduceNe, Nat.reduceLeDiff, Nat.reduceLT, Bool.and_true, Bool.true_and, Bool.and_self, ↓reduceIte, Bool.false_eq_true, sx_mt, kMt1_, kMt2_, sx_isL, kIsL_ref, kIsL2_, absD_int, minD_int, maxD_int, negD_int, isi_tup_tuple, isi_int_int, isi_int_bool, kWh_t, kWh_f, nc1, nc2, nc3, nc4, nc5, nc6, nc7, nc8, nc9, nc10, nc11, nc12, nc13, nc14, nc15, nc16, mulD_int, mulD_intL, kRg1_, kRg2_, i62_eq, i63_eq, i64_eq, LIM, List.length_append, at_k, at_k0, set_k, set_k0, kDict_eq, kDict2_, keyP_str, keyP_int, allO_nil, allO_c, kAll_, mO_some, ixD_ref, kIx_lst, kIx_dK, kIx_dT, kIt_ref, kItr_, kFor_ref, kLoopL_, lenD_ref, kLen_lst, kLen_dK, kLen_dT, tupleD_ref, kTuple_, listD_ref, kList_, setD_ref, kSet_lst, kSetL_, kSet_dK, kSetK_, kSet_dT, kSetT_, appendD_ref, kApp_, addD_ref, kAddL_, mulD_ref, kMulL_, slD_ref, kSlice_, slD_tup, maxD_ref, minD_ref, kOnInts_, Option.bind_some, Option.map_some, maxOf, minOf, List.foldl_cons, List.foldl_nil, mergeD, putD, valD, List.any_cons, List.any_nil, Sum.inr.injEq, Sum.inl.injEq, Bool.or_false, Bool.false_or, Bool.or_true, List.find?_cons, List.find?_nil, keyK_str, keyK_int, intK_int, List.map_cons, List.map_nil, List.cons_append, List.nil_append, List.replicate, List.append_assoc, hj2, List.length_map] at q ⊢
      rw [q]
      simp only [bind_ret, sx_seq, kSeq_nx, kSeq_rt, kSeq_bk, kSeq_ct, sx_next, sx_break, sx_cont, sx_drop, kDrop_, sx_retS, kRetS_, sx_if, kIf_t, kIf_f, sx_asg, kAsg_, kNx_, sx_nm, sx_var, kVar_, sx_ret, sx_op, kOp1_, kOp2_, sx_un, kUn_, sx_nil, sx_cons, kCons1_, kCons2_, sx_tup, sx_lst, kTup_, kLst_, sx_fn, kFn_, sx_call, sx_bool, kBool_, sx_tru, kTru_bl, sx_and, sx_or, sx_not, kAnd_t, kAnd_f, kOr_t, kOr_f, kNot_, sx_andV, sx_orV, sx_notV, kAndV_t, kAndV_f, kOrV_t, kOrV_f, kNotV_, sx_ifE, kIfE_t, kIfE_f, sx_chain, kCh1_, kCh2_, kCh3_t, kCh3_f, sx_gNil, sx_gCons, kG_, sx_gTup, gT_nm, gT_tup, gTs_nil, gTs_cons, sx_gSub, kSub1_, kSub2_, sx_par, kPar_, sx_par3, kPar3_, sx_it, kIt_tup, sx_rg1, sx_rg2, sx_for, kFor_rg, kFor_tp, sx_loopT, sx_loopT0, sx_loopR0, kGo_, kTurn_nx, kTurn_ct, kTurn_bk, kTurn_rt, sx_noPart, sx_part, kPart_, sx_sl, kSl1_, kSl2_, kSl3_, sx_lc, sx_pairs0, sx_pairs, kP1_, kP2_, kP3_, sx_dict, eqD_int, neD_int, addD_int, subD_int, ltD_int, leD_int, gtD_int, geD_int, intD_int, intD_bl, ix_t0, ix_t1, ix_t2, ix_t3, lenD_tup, tupleD_tup, listD_tup, List.getElem?_cons_zero, List.getElem?_cons_succ, List.set_cons_zero, List.set_cons_succ, List.length_cons, List.length_nil, Nat.zero_add, Nat.reduceAdd, Nat.reduceSub, Nat.reduceMul, decide_true, decide_false, Bool.not_true, Bool.not_false, Int.reduceMul, Int.reduceAdd, Int.reduceSub, Int.reduceNeg, Int.reduceLT, Int.reduceLE, Int.reducePow, Int.reduceEq, Int.reduceNe, Nat.reduceLeDiff, Nat.reduceLT, Bool.and_true, Bool.true_and, Bool.and_self, ↓reduceIte, Bool.false_eq_true, sx_mt, kMt1_, kMt2_, sx_isL, kIsL_ref, kIsL2_, absD_int, minD_int, maxD_int, negD_int, isi_tup_tuple, isi_int_int, isi_int_bool, kWh_t, kWh_f, nc1, nc2, nc3, nc4, nc5, nc6, nc7, nc8, nc9, nc10, nc11, nc12, nc13, nc14, nc15, nc16, mulD_int, mulD_intL, kRg1_, kRg2_, i62_eq, i63_eq, i64_eq, LIM, List.length_append, at_k, at_k0, set_k, set_k0, kDict_eq, kDict2_, keyP_str, keyP_int, allO_nil, allO_c, kAll_, mO_some, ixD_ref, kIx_lst, kIx_dK, kIx_dT, kIt_ref, kItr_, kFor_ref, kLoopL_, lenD_ref, kLen_lst, kLen_dK, kLen_dT, tupleD_ref, kTuple_, listD_ref, kList_, setD_ref, kSet_lst, kSetL_, kSet_dK, kSetK_, kSet_dT, kSetT_, appendD_ref, kApp_, addD_ref, kAddL_, mulD_ref, kMulL_, slD_ref, kSlice_, slD_tup, maxD_ref, minD_ref, kOnInts_, Option.bind_some, Option.map_some, maxOf, minOf, List.foldl_cons, List.foldl_nil, mergeD, putD, valD, List.any_cons, List.any_nil, Sum.inr.injEq, Sum.inl.injEq, Bool.or_false, Bool.false_or, Bool.or_true, List.find?_cons, List.find?_nil, keyK_str, keyK_int, intK_int, List.map_cons, List.map_nil, List.cons_append, List.nil_append, List.replicate, List.append_assoc]
    rw [nm_r, bind_ret, kGo_]
    show ((m__law_bit_rows_l2 ⟨[M0, some (.ref j), some (.int k), y, z], S ++ g⟩).bind _) = _
    rw [s1, bind_ret, kTurn_nx]
    exact q2
theorem rows_ok {m : Nat} {S : List LO} (hm : m ≤ 10) : ∃ n g, Run F__law_bit_rows [.int (m : Int)] S (.ref n) (S ++ g) ∧ (S ++ g)[n]? = some (.lst ((bitR m).map bt)) := by
  obtain ⟨j', x', y', z', g', q, hf⟩ := rows_out (S := S) (M0 := some (.int (m : Int))) m 0 0 S.length none none none [.lst [.tup []]] (by omega) at_end
  refine ⟨j', g', run_fn rfl (e := [some (.int (m : Int)), some (.ref j'), x', y', z']) ?_, hf⟩
  have r1 := fun s => rg1 (p := m) (show m ≤ 1000 by omega) s
  unfold m__law_bit_rows startE
  simp only [bind_ret, sx_seq, kSeq_nx, kSeq_rt, kSeq_bk, kSeq_ct, sx_next, sx_break, sx_cont, sx_drop, kDrop_, sx_retS, kRetS_, sx_if, kIf_t, kIf_f, sx_asg, kAsg_, kNx_, sx_nm, sx_var, kVar_, sx_ret, sx_op, kOp1_, kOp2_, sx_un, kUn_, sx_nil, sx_cons, kCons1_, kCons2_, sx_tup, sx_lst, kTup_, kLst_, sx_fn, kFn_, sx_call, sx_bool, kBool_, sx_tru, kTru_bl, sx_and, sx_or, sx_not, kAnd_t, kAnd_f, kOr_t, kOr_f, kNot_, sx_andV, sx_orV, sx_notV, kAndV_t, kAndV_f, kOrV_t, kOrV_f, kNotV_, sx_ifE, kIfE_t, kIfE_f, sx_chain, kCh1_, kCh2_, kCh3_t, kCh3_f, sx_gNil, sx_gCons, kG_, sx_gTup, gT_nm, gT_tup, gTs_nil, gTs_cons, sx_gSub, kSub1_, kSub2_, sx_par, kPar_, sx_par3, kPar3_, sx_it, kIt_tup, sx_rg1, sx_rg2, sx_for, kFor_rg, kFor_tp, sx_loopT, sx_loopT0, sx_loopR0, kGo_, kTurn_nx, kTurn_ct, kTurn_bk, kTurn_rt, sx_noPart, sx_part, kPart_, sx_sl, kSl1_, kSl2_, kSl3_, sx_lc, sx_pairs0, sx_pairs, kP1_, kP2_, kP3_, sx_dict, eqD_int, neD_int, addD_int, subD_int, ltD_int, leD_int, gtD_int, geD_int, intD_int, intD_bl, ix_t0, ix_t1, ix_t2, ix_t3, lenD_tup, tupleD_tup, listD_tup, List.getElem?_cons_zero, List.getElem?_cons_succ, List.set_cons_zero, List.set_cons_succ, List.length_cons, List.length_nil, Nat.zero_add, Nat.reduceAdd, Nat.reduceSub, Nat.reduceMul, decide_true, decide_false, Bool.not_true, Bool.not_false, Int.reduceMul, Int.reduceAdd, Int.reduceSub, Int.reduceNeg, Int.reduceLT, Int.reduceLE, Int.reducePow, Int.reduceEq, Int.reduceNe, Nat.reduceLeDiff, Nat.reduceLT, Bool.and_true, Bool.true_and, Bool.and_self, ↓reduceIte, Bool.false_eq_true, sx_mt, kMt1_, kMt2_, sx_isL, kIsL_ref, kIsL2_, absD_int, minD_int, maxD_int, negD_int, isi_tup_tuple, isi_int_int, isi_int_bool, kWh_t, kWh_f, nc1, nc2, nc3, nc4, nc5, nc6, nc7, nc8, nc9, nc10, nc11, nc12, nc13, nc14, nc15, nc16, mulD_int, mulD_intL, kRg1_, kRg2_, i62_eq, i63_eq, i64_eq, LIM, List.length_append, at_k, at_k0, set_k, set_k0, kDict_eq, kDict2_, keyP_str, keyP_int, allO_nil, allO_c, kAll_, mO_some, ixD_ref, kIx_lst, kIx_dK, kIx_dT, kIt_ref, kItr_, kFor_ref, kLoopL_, lenD_ref, kLen_lst, kLen_dK, kLen_dT, tupleD_ref, kTuple_, listD_ref, kList_, setD_ref, kSet_lst, kSetL_, kSet_dK, kSetK_, kSet_dT, kSetT_, appendD_ref, kApp_, addD_ref, kAddL_, mulD_ref, kMulL_, slD_ref, kSlice_, slD_tup, maxD_ref, minD_ref, kOnInts_, Option.bind_some, Option.map_some, maxOf, minOf, List.foldl_cons, List.foldl_nil, mergeD, putD, valD, List.any_cons, List.any_nil, Sum.inr.injEq, Sum.inl.injEq, Bool.or_false, Bool.false_or, Bool.or_true, List.find?_cons, List.find?_nil, keyK_str, keyK_int, intK_int, List.map_cons, List.map_nil, List.cons_append, List.nil_append, List.replicate, List.append_assoc, r1, Int.natCast_zero, Int.ofNat_zero]
  rw [q]
  simp only [bind_ret, sx_seq, kSeq_nx, kSeq_rt, kSeq_bk, kSeq_ct, sx_next, sx_break, sx_cont, sx_drop, kDrop_, sx_retS, kRetS_, sx_if, kIf_t, kIf_f, sx_asg, kAsg_, kNx_, sx_nm, sx_var, kVar_, sx_ret, sx_op, kOp1_, kOp2_, sx_un, kUn_, sx_nil, sx_cons, kCons1_, kCons2_, sx_tup, sx_lst, kTup_, kLst_, sx_fn, kFn_, sx_call, sx_bool, kBool_, sx_tru, kTru_bl, sx_and, sx_or, sx_not, kAnd_t, kAnd_f, kOr_t, kOr_f, kNot_, sx_andV, sx_orV, sx_notV, kAndV_t, kAndV_f, kOrV_t, kOrV_f, kNotV_, sx_ifE, kIfE_t, kIfE_f, sx_chain, kCh1_, kCh2_, kCh3_t, kCh3_f, sx_gNil, sx_gCons, kG_, sx_gTup, gT_nm, gT_tup, gTs_nil, gTs_cons, sx_gSub, kSub1_, kSub2_, sx_par, kPar_, sx_par3, kPar3_, sx_it, kIt_tup, sx_rg1, sx_rg2, sx_for, kFor_rg, kFor_tp, sx_loopT, sx_loopT0, sx_loopR0, kGo_, kTurn_nx, kTurn_ct, kTurn_bk, kTurn_rt, sx_noPart, sx_part, kPart_, sx_sl, kSl1_, kSl2_, kSl3_, sx_lc, sx_pairs0, sx_pairs, kP1_, kP2_, kP3_, sx_dict, eqD_int, neD_int, addD_int, subD_int, ltD_int, leD_int, gtD_int, geD_int, intD_int, intD_bl, ix_t0, ix_t1, ix_t2, ix_t3, lenD_tup, tupleD_tup, listD_tup, List.getElem?_cons_zero, List.getElem?_cons_succ, List.set_cons_zero, List.set_cons_succ, List.length_cons, List.length_nil, Nat.zero_add, Nat.reduceAdd, Nat.reduceSub, Nat.reduceMul, decide_true, decide_false, Bool.not_true, Bool.not_false, Int.reduceMul, Int.reduceAdd, Int.reduceSub, Int.reduceNeg, Int.reduceLT, Int.reduceLE, Int.reducePow, Int.reduceEq, Int.reduceNe, Nat.reduceLeDiff, Nat.reduceLT, Bool.and_true, Bool.true_and, Bool.and_self, ↓reduceIte, Bool.false_eq_true, sx_mt, kMt1_, kMt2_, sx_isL, kIsL_ref, kIsL2_, absD_int, minD_int, maxD_int, negD_int, isi_tup_tuple, isi_int_int, isi_int_bool, kWh_t, kWh_f, nc1, nc2, nc3, nc4, nc5, nc6, nc7, nc8, nc9, nc10, nc11, nc12, nc13, nc14, nc15, nc16, mulD_int, mulD_intL, kRg1_, kRg2_, i62_eq, i63_eq, i64_eq, LIM, List.length_append, at_k, at_k0, set_k, set_k0, kDict_eq, kDict2_, keyP_str, keyP_int, allO_nil, allO_c, kAll_, mO_some, ixD_ref, kIx_lst, kIx_dK, kIx_dT, kIt_ref, kItr_, kFor_ref, kLoopL_, lenD_ref, kLen_lst, kLen_dK, kLen_dT, tupleD_ref, kTuple_, listD_ref, kList_, setD_ref, kSet_lst, kSetL_, kSet_dK, kSetK_, kSet_dT, kSetT_, appendD_ref, kApp_, addD_ref, kAddL_, mulD_ref, kMulL_, slD_ref, kSlice_, slD_tup, maxD_ref, minD_ref, kOnInts_, Option.bind_some, Option.map_some, maxOf, minOf, List.foldl_cons, List.foldl_nil, mergeD, putD, valD, List.any_cons, List.any_nil, Sum.inr.injEq, Sum.inl.injEq, Bool.or_false, Bool.false_or, Bool.or_true, List.find?_cons, List.find?_nil, keyK_str, keyK_int, intK_int, List.map_cons, List.map_nil, List.cons_append, List.nil_append, List.replicate, List.append_assoc]
/-! ### are they stages -/
def lowT (t : Tile) : Int := match t.1 with
  | 1 => (t.2 : Int) - 1
  | _ => (t.2 : Int)
def highT (t : Tile) : Int := match t.1 with
  | 0 => (t.2 : Int)
  | 1 => (t.2 : Int)
  | _ => (t.2 : Int) + 1
theorem rowsof_ok {t : Tile} {S : List LO} (hk : t.1 ≤ 6) : ∃ xs, Run F__law_rows_of [tD t] S (.ref S.length) (S ++ [.lst xs]) ∧ atI xs 0 = some (.int (lowT t)) ∧ atI xs (-1) = some (.int (highT t)) := by
  obtain ⟨k, r⟩ := t
  have m1 : ∀ (x : D), atI [x] (-1) = some x := fun x => rfl
  have m2 : ∀ (x y : D), atI [x, y] (-1) = some y := fun x y => rfl
  have hk : k = 0 ∨ k = 1 ∨ k = 2 ∨ k = 3 ∨ k = 4 ∨ k = 5 ∨ k = 6 := by simp at hk; omega
  rcases hk with rfl | rfl | rfl | rfl | rfl | rfl | rfl
  · refine ⟨[.int (r : Int)], run_fn rfl (e := [some (tD (0, r)), some (.str "wire"), some (.int (r : Int))]) ?_, at_0, m1 _⟩
    unfold m__law_rows_of startE tD
    simp only [bind_ret, sx_seq, kSeq_nx, kSeq_rt, kSeq_bk, kSeq_ct, sx_next, sx_break, sx_cont, sx_drop, kDrop_, sx_retS, kRetS_, sx_if, kIf_t, kIf_f, sx_asg, kAsg_, kNx_, sx_nm, sx_var, kVar_, sx_ret, sx_op, kOp1_, kOp2_, sx_un, kUn_, sx_nil, sx_cons, kCons1_, kCons2_, sx_tup, sx_lst, kTup_, kLst_, sx_fn, kFn_, sx_call, sx_bool, kBool_, sx_tru, kTru_bl, sx_and, sx_or, sx_not, kAnd_t, kAnd_f, kOr_t, kOr_f, kNot_, sx_andV, sx_orV, sx_notV, kAndV_t, kAndV_f, kOrV_t, kOrV_f, kNotV_, sx_ifE, kIfE_t, kIfE_f, sx_chain, kCh1_, kCh2_, kCh3_t, kCh3_f, sx_gNil, sx_gCons, kG_, sx_gTup, gT_nm, gT_tup, gTs_nil, gTs_cons, sx_gSub, kSub1_, kSub2_, sx_par, kPar_, sx_par3, kPar3_, sx_it, kIt_tup, sx_rg1, sx_rg2, sx_for, kFor_rg, kFor_tp, sx_loopT, sx_loopT0, sx_loopR0, kGo_, kTurn_nx, kTurn_ct, kTurn_bk, kTurn_rt, sx_noPart, sx_part, kPart_, sx_sl, kSl1_, kSl2_, kSl3_, sx_lc, sx_pairs0, sx_pairs, kP1_, kP2_, kP3_, sx_dict, eqD_int, neD_int, addD_int, subD_int, ltD_int, leD_int, gtD_int, geD_int, intD_int, intD_bl, ix_t0, ix_t1, ix_t2, ix_t3, lenD_tup, tupleD_tup, listD_tup, List.getElem?_cons_zero, List.getElem?_cons_succ, List.set_cons_zero, List.set_cons_succ, List.length_cons, List.length_nil, Nat.zero_add, Nat.reduceAdd, Nat.reduceSub, Nat.reduceMul, decide_true, decide_false, Bool.not_true, Bool.not_false, Int.reduceMul, Int.reduceAdd, Int.reduceSub, Int.reduceNeg, Int.reduceLT, Int.reduceLE, Int.reducePow, Int.reduceEq, Int.reduceNe, Nat.reduceLeDiff, Nat.reduceLT, Bool.and_true, Bool.true_and, Bool.and_self, ↓reduceIte, Bool.false_eq_true, sx_mt, kMt1_, kMt2_, sx_isL, kIsL_ref, kIsL2_, absD_int, minD_int, maxD_int, negD_int, isi_tup_tuple, isi_int_int, isi_int_bool, kWh_t, kWh_f, nc1, nc2, nc3, nc4, nc5, nc6, nc7, nc8, nc9, nc10, nc11, nc12, nc13, nc14, nc15, nc16, mulD_int, mulD_intL, kRg1_, kRg2_, i62_eq, i63_eq, i64_eq, LIM, List.length_append, at_k, at_k0, set_k, set_k0, kDict_eq, kDict2_, keyP_str, keyP_int, allO_nil, allO_c, kAll_, mO_some, ixD_ref, kIx_lst, kIx_dK, kIx_dT, kIt_ref, kItr_, kFor_ref, kLoopL_, lenD_ref, kLen_lst, kLen_dK, kLen_dT, tupleD_ref, kTuple_, listD_ref, kList_, setD_ref, kSet_lst, kSetL_, kSet_dK, kSetK_, kSet_dT, kSetT_, appendD_ref, kApp_, addD_ref, kAddL_, mulD_ref, kMulL_, slD_ref, kSlice_, slD_tup, maxD_ref, minD_ref, kOnInts_, Option.bind_some, Option.map_some, maxOf, minOf, List.foldl_cons, List.foldl_nil, mergeD, putD, valD, List.any_cons, List.any_nil, Sum.inr.injEq, Sum.inl.injEq, Bool.or_false, Bool.false_or, Bool.or_true, List.find?_cons, List.find?_nil, keyK_str, keyK_int, intK_int, List.map_cons, List.map_nil, List.cons_append, List.nil_append, List.replicate, List.append_assoc, eqD_str, neD_str, sh_one, sh_not, sh_and, sh_or, sh_xor, sh_but, sh_wire, sh_up, sh_down, sh_copy, sn_one_not, sn_one_and, sn_one_or, sn_one_xor, sn_one_but, sn_one_wire, sn_one_up, sn_one_down, sn_one_copy, sn_not_one, sn_not_and, sn_not_or, sn_not_xor, sn_not_but, sn_not_wire, sn_not_up, sn_not_down, sn_not_copy, sn_and_one, sn_and_not, sn_and_or, sn_and_xor, sn_and_but, sn_and_wire, sn_and_up, sn_and_down, sn_and_copy, sn_or_one, sn_or_not, sn_or_and, sn_or_xor, sn_or_but, sn_or_wire, sn_or_up, sn_or_down, sn_or_copy, sn_xor_one, sn_xor_not, sn_xor_and, sn_xor_or, sn_xor_but, sn_xor_wire, sn_xor_up, sn_xor_down, sn_xor_copy, sn_but_one, sn_but_not, sn_but_and, sn_but_or, sn_but_xor, sn_but_wire, sn_but_up, sn_but_down, sn_but_copy, sn_wire_one, sn_wire_not, sn_wire_and, sn_wire_or, sn_wire_xor, sn_wire_but, sn_wire_up, sn_wire_down, sn_wire_copy, sn_up_one, sn_up_not, sn_up_and, sn_up_or, sn_up_xor, sn_up_but, sn_up_wire, sn_up_down, sn_up_copy, sn_down_one, sn_down_not, sn_down_and, sn_down_or, sn_down_xor, sn_down_but, sn_down_wire, sn_down_up, sn_down_copy, sn_copy_one, sn_copy_not, sn_copy_and, sn_copy_or, sn_copy_xor, sn_copy_but, sn_copy_wire, sn_copy_up, sn_copy_down, kS]
  · refine ⟨[.int ((r : Int) - 1), .int (r : Int)], run_fn rfl (e := [some (tD (1, r)), some (.str "up"), some (.int (r : Int))]) ?_, at_0, m2 _ _⟩
    unfold m__law_rows_of startE tD
    simp only [bind_ret, sx_seq, kSeq_nx, kSeq_rt, kSeq_bk, kSeq_ct, sx_next, sx_break, sx_cont, sx_drop, kDrop_, sx_retS, kRetS_, sx_if, kIf_t, kIf_f, sx_asg, kAsg_, kNx_, sx_nm, sx_var, kVar_, sx_ret, sx_op, kOp1_, kOp2_, sx_un, kUn_, sx_nil, sx_cons, kCons1_, kCons2_, sx_tup, sx_lst, kTup_, kLst_, sx_fn, kFn_, sx_call, sx_bool, kBool_, sx_tru, kTru_bl, sx_and, sx_or, sx_not, kAnd_t, kAnd_f, kOr_t, kOr_f, kNot_, sx_andV, sx_orV, sx_notV, kAndV_t, kAndV_f, kOrV_t, kOrV_f, kNotV_, sx_ifE, kIfE_t, kIfE_f, sx_chain, kCh1_, kCh2_, kCh3_t, kCh3_f, sx_gNil, sx_gCons, kG_, sx_gTup, gT_nm, gT_tup, gTs_nil, gTs_cons, sx_gSub, kSub1_, kSub2_, sx_par, kPar_, sx_par3, kPar3_, sx_it, kIt_tup, sx_rg1, sx_rg2, sx_for, kFor_rg, kFor_tp, sx_loopT, sx_loopT0, sx_loopR0, kGo_, kTurn_nx, kTurn_ct, kTurn_bk, kTurn_rt, sx_noPart, sx_part, kPart_, sx_sl, kSl1_, kSl2_, kSl3_, sx_lc, sx_pairs0, sx_pairs, kP1_, kP2_, kP3_, sx_dict, eqD_int, neD_int, addD_int, subD_int, ltD_int, leD_int, gtD_int, geD_int, intD_int, intD_bl, ix_t0, ix_t1, ix_t2, ix_t3, lenD_tup, tupleD_tup, listD_tup, List.getElem?_cons_zero, List.getElem?_cons_succ, List.set_cons_zero, List.set_cons_succ, List.length_cons, List.length_nil, Nat.zero_add, Nat.reduceAdd, Nat.reduceSub, Nat.reduceMul, decide_true, decide_false, Bool.not_true, Bool.not_false, Int.reduceMul, Int.reduceAdd, Int.reduceSub, Int.reduceNeg, Int.reduceLT, Int.reduceLE, Int.reducePow, Int.reduceEq, Int.reduceNe, Nat.reduceLeDiff, Nat.reduceLT, Bool.and_true, Bool.true_and, Bool.and_self, ↓reduceIte, Bool.false_eq_true, sx_mt, kMt1_, kMt2_, sx_isL, kIsL_ref, kIsL2_, absD_int, minD_int, maxD_int, negD_int, isi_tup_tuple, isi_int_int, isi_int_bool, kWh_t, kWh_f, nc1, nc2, nc3, nc4, nc5, nc6, nc7, nc8, nc9, nc10, nc11, nc12, nc13, nc14, nc15, nc16, mulD_int, mulD_intL, kRg1_, kRg2_, i62_eq, i63_eq, i64_eq, LIM, List.length_append, at_k, at_k0, set_k, set_k0, kDict_eq, kDict2_, keyP_str, keyP_int, allO_nil, allO_c, kAll_, mO_some, ixD_ref, kIx_lst, kIx_dK, kIx_dT, kIt_ref, kItr_, kFor_ref, kLoopL_, lenD_ref, kLen_lst, kLen_dK, kLen_dT, tupleD_ref, kTuple_, listD_ref, kList_, setD_ref, kSet_lst, kSetL_, kSet_dK, kSetK_, kSet_dT, kSetT_, appendD_ref, kApp_, addD_ref, kAddL_, mulD_ref, kMulL_, slD_ref, kSlice_, slD_tup, maxD_ref, minD_ref, kOnInts_, Option.bind_some, Option.map_some, maxOf, minOf, List.foldl_cons, List.foldl_nil, mergeD, putD, valD, List.any_cons, List.any_nil, Sum.inr.injEq, Sum.inl.injEq, Bool.or_false, Bool.false_or, Bool.or_true, List.find?_cons, List.find?_nil, keyK_str, keyK_int, intK_int, List.map_cons, List.map_nil, List.cons_append, List.nil_append, List.replicate, List.append_assoc, eqD_str, neD_str, sh_one, sh_not, sh_and, sh_or, sh_xor, sh_but, sh_wire, sh_up, sh_down, sh_copy, sn_one_not, sn_one_and, sn_one_or, sn_one_xor, sn_one_but, sn_one_wire, sn_one_up, sn_one_down, sn_one_copy, sn_not_one, sn_not_and, sn_not_or, sn_not_xor, sn_not_but, sn_not_wire, sn_not_up, sn_not_down, sn_not_copy, sn_and_one, sn_and_not, sn_and_or, sn_and_xor, sn_and_but, sn_and_wire, sn_and_up, sn_and_down, sn_and_copy, sn_or_one, sn_or_not, sn_or_and, sn_or_xor, sn_or_but, sn_or_wire, sn_or_up, sn_or_down, sn_or_copy, sn_xor_one, sn_xor_not, sn_xor_and, sn_xor_or, sn_xor_but, sn_xor_wire, sn_xor_up, sn_xor_down, sn_xor_copy, sn_but_one, sn_but_not, sn_but_and, sn_but_or, sn_but_xor, sn_but_wire, sn_but_up, sn_but_down, sn_but_copy, sn_wire_one, sn_wire_not, sn_wire_and, sn_wire_or, sn_wire_xor, sn_wire_but, sn_wire_up, sn_wire_down, sn_wire_copy, sn_up_one, sn_up_not, sn_up_and, sn_up_or, sn_up_xor, sn_up_but, sn_up_wire, sn_up_down, sn_up_copy, sn_down_one, sn_down_not, sn_down_and, sn_down_or, sn_down_xor, sn_down_but, sn_down_wire, sn_down_up, sn_down_copy, sn_copy_one, sn_copy_not, sn_copy_and, sn_copy_or, sn_copy_xor, sn_copy_but, sn_copy_wire, sn_copy_up, sn_copy_down, kS]
  · refine ⟨[.int (r : Int), .int ((r : Int) + 1)], run_fn rfl (e := [some (tD (2, r)), some (.str "down"), some (.int (r : Int))]) ?_, at_0, m2 _ _⟩
    unfold m__law_rows_of startE tD
    simp only [bind_ret, sx_seq, kSeq_nx, kSeq_rt, kSeq_bk, kSeq_ct, sx_next, sx_break, sx_cont, sx_drop, kDrop_, sx_retS, kRetS_, sx_if, kIf_t, kIf_f, sx_asg, kAsg_, kNx_, sx_nm, sx_var, kVar_, sx_ret, sx_op, kOp1_, kOp2_, sx_un, kUn_, sx_nil, sx_cons, kCons1_, kCons2_, sx_tup, sx_lst, kTup_, kLst_, sx_fn, kFn_, sx_call, sx_bool, kBool_, sx_tru, kTru_bl, sx_and, sx_or, sx_not, kAnd_t, kAnd_f, kOr_t, kOr_f, kNot_, sx_andV, sx_orV, sx_notV, kAndV_t, kAndV_f, kOrV_t, kOrV_f, kNotV_, sx_ifE, kIfE_t, kIfE_f, sx_chain, kCh1_, kCh2_, kCh3_t, kCh3_f, sx_gNil, sx_gCons, kG_, sx_gTup, gT_nm, gT_tup, gTs_nil, gTs_cons, sx_gSub, kSub1_, kSub2_, sx_par, kPar_, sx_par3, kPar3_, sx_it, kIt_tup, sx_rg1, sx_rg2, sx_for, kFor_rg, kFor_tp, sx_loopT, sx_loopT0, sx_loopR0, kGo_, kTurn_nx, kTurn_ct, kTurn_bk, kTurn_rt, sx_noPart, sx_part, kPart_, sx_sl, kSl1_, kSl2_, kSl3_, sx_lc, sx_pairs0, sx_pairs, kP1_, kP2_, kP3_, sx_dict, eqD_int, neD_int, addD_int, subD_int, ltD_int, leD_int, gtD_int, geD_int, intD_int, intD_bl, ix_t0, ix_t1, ix_t2, ix_t3, lenD_tup, tupleD_tup, listD_tup, List.getElem?_cons_zero, List.getElem?_cons_succ, List.set_cons_zero, List.set_cons_succ, List.length_cons, List.length_nil, Nat.zero_add, Nat.reduceAdd, Nat.reduceSub, Nat.reduceMul, decide_true, decide_false, Bool.not_true, Bool.not_false, Int.reduceMul, Int.reduceAdd, Int.reduceSub, Int.reduceNeg, Int.reduceLT, Int.reduceLE, Int.reducePow, Int.reduceEq, Int.reduceNe, Nat.reduceLeDiff, Nat.reduceLT, Bool.and_true, Bool.true_and, Bool.and_self, ↓reduceIte, Bool.false_eq_true, sx_mt, kMt1_, kMt2_, sx_isL, kIsL_ref, kIsL2_, absD_int, minD_int, maxD_int, negD_int, isi_tup_tuple, isi_int_int, isi_int_bool, kWh_t, kWh_f, nc1, nc2, nc3, nc4, nc5, nc6, nc7, nc8, nc9, nc10, nc11, nc12, nc13, nc14, nc15, nc16, mulD_int, mulD_intL, kRg1_, kRg2_, i62_eq, i63_eq, i64_eq, LIM, List.length_append, at_k, at_k0, set_k, set_k0, kDict_eq, kDict2_, keyP_str, keyP_int, allO_nil, allO_c, kAll_, mO_some, ixD_ref, kIx_lst, kIx_dK, kIx_dT, kIt_ref, kItr_, kFor_ref, kLoopL_, lenD_ref, kLen_lst, kLen_dK, kLen_dT, tupleD_ref, kTuple_, listD_ref, kList_, setD_ref, kSet_lst, kSetL_, kSet_dK, kSetK_, kSet_dT, kSetT_, appendD_ref, kApp_, addD_ref, kAddL_, mulD_ref, kMulL_, slD_ref, kSlice_, slD_tup, maxD_ref, minD_ref, kOnInts_, Option.bind_some, Option.map_some, maxOf, minOf, List.foldl_cons, List.foldl_nil, mergeD, putD, valD, List.any_cons, List.any_nil, Sum.inr.injEq, Sum.inl.injEq, Bool.or_false, Bool.false_or, Bool.or_true, List.find?_cons, List.find?_nil, keyK_str, keyK_int, intK_int, List.map_cons, List.map_nil, List.cons_append, List.nil_append, List.replicate, List.append_assoc, eqD_str, neD_str, sh_one, sh_not, sh_and, sh_or, sh_xor, sh_but, sh_wire, sh_up, sh_down, sh_copy, sn_one_not, sn_one_and, sn_one_or, sn_one_xor, sn_one_but, sn_one_wire, sn_one_up, sn_one_down, sn_one_copy, sn_not_one, sn_not_and, sn_not_or, sn_not_xor, sn_not_but, sn_not_wire, sn_not_up, sn_not_down, sn_not_copy, sn_and_one, sn_and_not, sn_and_or, sn_and_xor, sn_and_but, sn_and_wire, sn_and_up, sn_and_down, sn_and_copy, sn_or_one, sn_or_not, sn_or_and, sn_or_xor, sn_or_but, sn_or_wire, sn_or_up, sn_or_down, sn_or_copy, sn_xor_one, sn_xor_not, sn_xor_and, sn_xor_or, sn_xor_but, sn_xor_wire, sn_xor_up, sn_xor_down, sn_xor_copy, sn_but_one, sn_but_not, sn_but_and, sn_but_or, sn_but_xor, sn_but_wire, sn_but_up, sn_but_down, sn_but_copy, sn_wire_one, sn_wire_not, sn_wire_and, sn_wire_or, sn_wire_xor, sn_wire_but, sn_wire_up, sn_wire_down, sn_wire_copy, sn_up_one, sn_up_not, sn_up_and, sn_up_or, sn_up_xor, sn_up_but, sn_up_wire, sn_up_down, sn_up_copy, sn_down_one, sn_down_not, sn_down_and, sn_down_or, sn_down_xor, sn_down_but, sn_down_wire, sn_down_up, sn_down_copy, sn_copy_one, sn_copy_not, sn_copy_and, sn_copy_or, sn_copy_xor, sn_copy_but, sn_copy_wire, sn_copy_up, sn_copy_down, kS]
  · refine ⟨[.int (r : Int), .int ((r : Int) + 1)], run_fn rfl (e := [some (tD (3, r)), some (.str "copy"), some (.int (r : Int))]) ?_, at_0, m2 _ _⟩
    unfold m__law_rows_of startE tD
    simp only [bind_ret, sx_seq, kSeq_nx, kSeq_rt, kSeq_bk, kSeq_ct, sx_next, sx_break, sx_cont, sx_drop, kDrop_, sx_retS, kRetS_, sx_if, kIf_t, kIf_f, sx_asg, kAsg_, kNx_, sx_nm, sx_var, kVar_, sx_ret, sx_op, kOp1_, kOp2_, sx_un, kUn_, sx_nil, sx_cons, kCons1_, kCons2_, sx_tup, sx_lst, kTup_, kLst_, sx_fn, kFn_, sx_call, sx_bool, kBool_, sx_tru, kTru_bl, sx_and, sx_or, sx_not, kAnd_t, kAnd_f, kOr_t, kOr_f, kNot_, sx_andV, sx_orV, sx_notV, kAndV_t, kAndV_f, kOrV_t, kOrV_f, kNotV_, sx_ifE, kIfE_t, kIfE_f, sx_chain, kCh1_, kCh2_, kCh3_t, kCh3_f, sx_gNil, sx_gCons, kG_, sx_gTup, gT_nm, gT_tup, gTs_nil, gTs_cons, sx_gSub, kSub1_, kSub2_, sx_par, kPar_, sx_par3, kPar3_, sx_it, kIt_tup, sx_rg1, sx_rg2, sx_for, kFor_rg, kFor_tp, sx_loopT, sx_loopT0, sx_loopR0, kGo_, kTurn_nx, kTurn_ct, kTurn_bk, kTurn_rt, sx_noPart, sx_part, kPart_, sx_sl, kSl1_, kSl2_, kSl3_, sx_lc, sx_pairs0, sx_pairs, kP1_, kP2_, kP3_, sx_dict, eqD_int, neD_int, addD_int, subD_int, ltD_int, leD_int, gtD_int, geD_int, intD_int, intD_bl, ix_t0, ix_t1, ix_t2, ix_t3, lenD_tup, tupleD_tup, listD_tup, List.getElem?_cons_zero, List.getElem?_cons_succ, List.set_cons_zero, List.set_cons_succ, List.length_cons, List.length_nil, Nat.zero_add, Nat.reduceAdd, Nat.reduceSub, Nat.reduceMul, decide_true, decide_false, Bool.not_true, Bool.not_false, Int.reduceMul, Int.reduceAdd, Int.reduceSub, Int.reduceNeg, Int.reduceLT, Int.reduceLE, Int.reducePow, Int.reduceEq, Int.reduceNe, Nat.reduceLeDiff, Nat.reduceLT, Bool.and_true, Bool.true_and, Bool.and_self, ↓reduceIte, Bool.false_eq_true, sx_mt, kMt1_, kMt2_, sx_isL, kIsL_ref, kIsL2_, absD_int, minD_int, maxD_int, negD_int, isi_tup_tuple, isi_int_int, isi_int_bool, kWh_t, kWh_f, nc1, nc2, nc3, nc4, nc5, nc6, nc7, nc8, nc9, nc10, nc11, nc12, nc13, nc14, nc15, nc16, mulD_int, mulD_intL, kRg1_, kRg2_, i62_eq, i63_eq, i64_eq, LIM, List.length_append, at_k, at_k0, set_k, set_k0, kDict_eq, kDict2_, keyP_str, keyP_int, allO_nil, allO_c, kAll_, mO_some, ixD_ref, kIx_lst, kIx_dK, kIx_dT, kIt_ref, kItr_, kFor_ref, kLoopL_, lenD_ref, kLen_lst, kLen_dK, kLen_dT, tupleD_ref, kTuple_, listD_ref, kList_, setD_ref, kSet_lst, kSetL_, kSet_dK, kSetK_, kSet_dT, kSetT_, appendD_ref, kApp_, addD_ref, kAddL_, mulD_ref, kMulL_, slD_ref, kSlice_, slD_tup, maxD_ref, minD_ref, kOnInts_, Option.bind_some, Option.map_some, maxOf, minOf, List.foldl_cons, List.foldl_nil, mergeD, putD, valD, List.any_cons, List.any_nil, Sum.inr.injEq, Sum.inl.injEq, Bool.or_false, Bool.false_or, Bool.or_true, List.find?_cons, List.find?_nil, keyK_str, keyK_int, intK_int, List.map_cons, List.map_nil, List.cons_append, List.nil_append, List.replicate, List.append_assoc, eqD_str, neD_str, sh_one, sh_not, sh_and, sh_or, sh_xor, sh_but, sh_wire, sh_up, sh_down, sh_copy, sn_one_not, sn_one_and, sn_one_or, sn_one_xor, sn_one_but, sn_one_wire, sn_one_up, sn_one_down, sn_one_copy, sn_not_one, sn_not_and, sn_not_or, sn_not_xor, sn_not_but, sn_not_wire, sn_not_up, sn_not_down, sn_not_copy, sn_and_one, sn_and_not, sn_and_or, sn_and_xor, sn_and_but, sn_and_wire, sn_and_up, sn_and_down, sn_and_copy, sn_or_one, sn_or_not, sn_or_and, sn_or_xor, sn_or_but, sn_or_wire, sn_or_up, sn_or_down, sn_or_copy, sn_xor_one, sn_xor_not, sn_xor_and, sn_xor_or, sn_xor_but, sn_xor_wire, sn_xor_up, sn_xor_down, sn_xor_copy, sn_but_one, sn_but_not, sn_but_and, sn_but_or, sn_but_xor, sn_but_wire, sn_but_up, sn_but_down, sn_but_copy, sn_wire_one, sn_wire_not, sn_wire_and, sn_wire_or, sn_wire_xor, sn_wire_but, sn_wire_up, sn_wire_down, sn_wire_copy, sn_up_one, sn_up_not, sn_up_and, sn_up_or, sn_up_xor, sn_up_but, sn_up_wire, sn_up_down, sn_up_copy, sn_down_one, sn_down_not, sn_down_and, sn_down_or, sn_down_xor, sn_down_but, sn_down_wire, sn_down_up, sn_down_copy, sn_copy_one, sn_copy_not, sn_copy_and, sn_copy_or, sn_copy_xor, sn_copy_but, sn_copy_wire, sn_copy_up, sn_copy_down, kS]
  · refine ⟨[.int (r : Int), .int ((r : Int) + 1)], run_fn rfl (e := [some (tD (4, r)), some (.str "or"), some (.int (r : Int))]) ?_, at_0, m2 _ _⟩
    unfold m__law_rows_of startE tD
    simp only [bind_ret, sx_seq, kSeq_nx, kSeq_rt, kSeq_bk, kSeq_ct, sx_next, sx_break, sx_cont, sx_drop, kDrop_, sx_retS, kRetS_, sx_if, kIf_t, kIf_f, sx_asg, kAsg_, kNx_, sx_nm, sx_var, kVar_, sx_ret, sx_op, kOp1_, kOp2_, sx_un, kUn_, sx_nil, sx_cons, kCons1_, kCons2_, sx_tup, sx_lst, kTup_, kLst_, sx_fn, kFn_, sx_call, sx_bool, kBool_, sx_tru, kTru_bl, sx_and, sx_or, sx_not, kAnd_t, kAnd_f, kOr_t, kOr_f, kNot_, sx_andV, sx_orV, sx_notV, kAndV_t, kAndV_f, kOrV_t, kOrV_f, kNotV_, sx_ifE, kIfE_t, kIfE_f, sx_chain, kCh1_, kCh2_, kCh3_t, kCh3_f, sx_gNil, sx_gCons, kG_, sx_gTup, gT_nm, gT_tup, gTs_nil, gTs_cons, sx_gSub, kSub1_, kSub2_, sx_par, kPar_, sx_par3, kPar3_, sx_it, kIt_tup, sx_rg1, sx_rg2, sx_for, kFor_rg, kFor_tp, sx_loopT, sx_loopT0, sx_loopR0, kGo_, kTurn_nx, kTurn_ct, kTurn_bk, kTurn_rt, sx_noPart, sx_part, kPart_, sx_sl, kSl1_, kSl2_, kSl3_, sx_lc, sx_pairs0, sx_pairs, kP1_, kP2_, kP3_, sx_dict, eqD_int, neD_int, addD_int, subD_int, ltD_int, leD_int, gtD_int, geD_int, intD_int, intD_bl, ix_t0, ix_t1, ix_t2, ix_t3, lenD_tup, tupleD_tup, listD_tup, List.getElem?_cons_zero, List.getElem?_cons_succ, List.set_cons_zero, List.set_cons_succ, List.length_cons, List.length_nil, Nat.zero_add, Nat.reduceAdd, Nat.reduceSub, Nat.reduceMul, decide_true, decide_false, Bool.not_true, Bool.not_false, Int.reduceMul, Int.reduceAdd, Int.reduceSub, Int.reduceNeg, Int.reduceLT, Int.reduceLE, Int.reducePow, Int.reduceEq, Int.reduceNe, Nat.reduceLeDiff, Nat.reduceLT, Bool.and_true, Bool.true_and, Bool.and_self, ↓reduceIte, Bool.false_eq_true, sx_mt, kMt1_, kMt2_, sx_isL, kIsL_ref, kIsL2_, absD_int, minD_int, maxD_int, negD_int, isi_tup_tuple, isi_int_int, isi_int_bool, kWh_t, kWh_f, nc1, nc2, nc3, nc4, nc5, nc6, nc7, nc8, nc9, nc10, nc11, nc12, nc13, nc14, nc15, nc16, mulD_int, mulD_intL, kRg1_, kRg2_, i62_eq, i63_eq, i64_eq, LIM, List.length_append, at_k, at_k0, set_k, set_k0, kDict_eq, kDict2_, keyP_str, keyP_int, allO_nil, allO_c, kAll_, mO_some, ixD_ref, kIx_lst, kIx_dK, kIx_dT, kIt_ref, kItr_, kFor_ref, kLoopL_, lenD_ref, kLen_lst, kLen_dK, kLen_dT, tupleD_ref, kTuple_, listD_ref, kList_, setD_ref, kSet_lst, kSetL_, kSet_dK, kSetK_, kSet_dT, kSetT_, appendD_ref, kApp_, addD_ref, kAddL_, mulD_ref, kMulL_, slD_ref, kSlice_, slD_tup, maxD_ref, minD_ref, kOnInts_, Option.bind_some, Option.map_some, maxOf, minOf, List.foldl_cons, List.foldl_nil, mergeD, putD, valD, List.any_cons, List.any_nil, Sum.inr.injEq, Sum.inl.injEq, Bool.or_false, Bool.false_or, Bool.or_true, List.find?_cons, List.find?_nil, keyK_str, keyK_int, intK_int, List.map_cons, List.map_nil, List.cons_append, List.nil_append, List.replicate, List.append_assoc, eqD_str, neD_str, sh_one, sh_not, sh_and, sh_or, sh_xor, sh_but, sh_wire, sh_up, sh_down, sh_copy, sn_one_not, sn_one_and, sn_one_or, sn_one_xor, sn_one_but, sn_one_wire, sn_one_up, sn_one_down, sn_one_copy, sn_not_one, sn_not_and, sn_not_or, sn_not_xor, sn_not_but, sn_not_wire, sn_not_up, sn_not_down, sn_not_copy, sn_and_one, sn_and_not, sn_and_or, sn_and_xor, sn_and_but, sn_and_wire, sn_and_up, sn_and_down, sn_and_copy, sn_or_one, sn_or_not, sn_or_and, sn_or_xor, sn_or_but, sn_or_wire, sn_or_up, sn_or_down, sn_or_copy, sn_xor_one, sn_xor_not, sn_xor_and, sn_xor_or, sn_xor_but, sn_xor_wire, sn_xor_up, sn_xor_down, sn_xor_copy, sn_but_one, sn_but_not, sn_but_and, sn_but_or, sn_but_xor, sn_but_wire, sn_but_up, sn_but_down, sn_but_copy, sn_wire_one, sn_wire_not, sn_wire_and, sn_wire_or, sn_wire_xor, sn_wire_but, sn_wire_up, sn_wire_down, sn_wire_copy, sn_up_one, sn_up_not, sn_up_and, sn_up_or, sn_up_xor, sn_up_but, sn_up_wire, sn_up_down, sn_up_copy, sn_down_one, sn_down_not, sn_down_and, sn_down_or, sn_down_xor, sn_down_but, sn_down_wire, sn_down_up, sn_down_copy, sn_copy_one, sn_copy_not, sn_copy_and, sn_copy_or, sn_copy_xor, sn_copy_but, sn_copy_wire, sn_copy_up, sn_copy_down, kS]
  · refine ⟨[.int (r : Int), .int ((r : Int) + 1)], run_fn rfl (e := [some (tD (5, r)), some (.str "xor"), some (.int (r : Int))]) ?_, at_0, m2 _ _⟩
    unfold m__law_rows_of startE tD
    simp only [bind_ret, sx_seq, kSeq_nx, kSeq_rt, kSeq_bk, kSeq_ct, sx_next, sx_break, sx_cont, sx_drop, kDrop_, sx_retS, kRetS_, sx_if, kIf_t, kIf_f, sx_asg, kAsg_, kNx_, sx_nm, sx_var, kVar_, sx_ret, sx_op, kOp1_, kOp2_, sx_un, kUn_, sx_nil, sx_cons, kCons1_, kCons2_, sx_tup, sx_lst, kTup_, kLst_, sx_fn, kFn_, sx_call, sx_bool, kBool_, sx_tru, kTru_bl, sx_and, sx_or, sx_not, kAnd_t, kAnd_f, kOr_t, kOr_f, kNot_, sx_andV, sx_orV, sx_notV, kAndV_t, kAndV_f, kOrV_t, kOrV_f, kNotV_, sx_ifE, kIfE_t, kIfE_f, sx_chain, kCh1_, kCh2_, kCh3_t, kCh3_f, sx_gNil, sx_gCons, kG_, sx_gTup, gT_nm, gT_tup, gTs_nil, gTs_cons, sx_gSub, kSub1_, kSub2_, sx_par, kPar_, sx_par3, kPar3_, sx_it, kIt_tup, sx_rg1, sx_rg2, sx_for, kFor_rg, kFor_tp, sx_loopT, sx_loopT0, sx_loopR0, kGo_, kTurn_nx, kTurn_ct, kTurn_bk, kTurn_rt, sx_noPart, sx_part, kPart_, sx_sl, kSl1_, kSl2_, kSl3_, sx_lc, sx_pairs0, sx_pairs, kP1_, kP2_, kP3_, sx_dict, eqD_int, neD_int, addD_int, subD_int, ltD_int, leD_int, gtD_int, geD_int, intD_int, intD_bl, ix_t0, ix_t1, ix_t2, ix_t3, lenD_tup, tupleD_tup, listD_tup, List.getElem?_cons_zero, List.getElem?_cons_succ, List.set_cons_zero, List.set_cons_succ, List.length_cons, List.length_nil, Nat.zero_add, Nat.reduceAdd, Nat.reduceSub, Nat.reduceMul, decide_true, decide_false, Bool.not_true, Bool.not_false, Int.reduceMul, Int.reduceAdd, Int.reduceSub, Int.reduceNeg, Int.reduceLT, Int.reduceLE, Int.reducePow, Int.reduceEq, Int.reduceNe, Nat.reduceLeDiff, Nat.reduceLT, Bool.and_true, Bool.true_and, Bool.and_self, ↓reduceIte, Bool.false_eq_true, sx_mt, kMt1_, kMt2_, sx_isL, kIsL_ref, kIsL2_, absD_int, minD_int, maxD_int, negD_int, isi_tup_tuple, isi_int_int, isi_int_bool, kWh_t, kWh_f, nc1, nc2, nc3, nc4, nc5, nc6, nc7, nc8, nc9, nc10, nc11, nc12, nc13, nc14, nc15, nc16, mulD_int, mulD_intL, kRg1_, kRg2_, i62_eq, i63_eq, i64_eq, LIM, List.length_append, at_k, at_k0, set_k, set_k0, kDict_eq, kDict2_, keyP_str, keyP_int, allO_nil, allO_c, kAll_, mO_some, ixD_ref, kIx_lst, kIx_dK, kIx_dT, kIt_ref, kItr_, kFor_ref, kLoopL_, lenD_ref, kLen_lst, kLen_dK, kLen_dT, tupleD_ref, kTuple_, listD_ref, kList_, setD_ref, kSet_lst, kSetL_, kSet_dK, kSetK_, kSet_dT, kSetT_, appendD_ref, kApp_, addD_ref, kAddL_, mulD_ref, kMulL_, slD_ref, kSlice_, slD_tup, maxD_ref, minD_ref, kOnInts_, Option.bind_some, Option.map_some, maxOf, minOf, List.foldl_cons, List.foldl_nil, mergeD, putD, valD, List.any_cons, List.any_nil, Sum.inr.injEq, Sum.inl.injEq, Bool.or_false, Bool.false_or, Bool.or_true, List.find?_cons, List.find?_nil, keyK_str, keyK_int, intK_int, List.map_cons, List.map_nil, List.cons_append, List.nil_append, List.replicate, List.append_assoc, eqD_str, neD_str, sh_one, sh_not, sh_and, sh_or, sh_xor, sh_but, sh_wire, sh_up, sh_down, sh_copy, sn_one_not, sn_one_and, sn_one_or, sn_one_xor, sn_one_but, sn_one_wire, sn_one_up, sn_one_down, sn_one_copy, sn_not_one, sn_not_and, sn_not_or, sn_not_xor, sn_not_but, sn_not_wire, sn_not_up, sn_not_down, sn_not_copy, sn_and_one, sn_and_not, sn_and_or, sn_and_xor, sn_and_but, sn_and_wire, sn_and_up, sn_and_down, sn_and_copy, sn_or_one, sn_or_not, sn_or_and, sn_or_xor, sn_or_but, sn_or_wire, sn_or_up, sn_or_down, sn_or_copy, sn_xor_one, sn_xor_not, sn_xor_and, sn_xor_or, sn_xor_but, sn_xor_wire, sn_xor_up, sn_xor_down, sn_xor_copy, sn_but_one, sn_but_not, sn_but_and, sn_but_or, sn_but_xor, sn_but_wire, sn_but_up, sn_but_down, sn_but_copy, sn_wire_one, sn_wire_not, sn_wire_and, sn_wire_or, sn_wire_xor, sn_wire_but, sn_wire_up, sn_wire_down, sn_wire_copy, sn_up_one, sn_up_not, sn_up_and, sn_up_or, sn_up_xor, sn_up_but, sn_up_wire, sn_up_down, sn_up_copy, sn_down_one, sn_down_not, sn_down_and, sn_down_or, sn_down_xor, sn_down_but, sn_down_wire, sn_down_up, sn_down_copy, sn_copy_one, sn_copy_not, sn_copy_and, sn_copy_or, sn_copy_xor, sn_copy_but, sn_copy_wire, sn_copy_up, sn_copy_down, kS]
  · refine ⟨[.int (r : Int), .int ((r : Int) + 1)], run_fn rfl (e := [some (tD (6, r)), some (.str "but"), some (.int (r : Int))]) ?_, at_0, m2 _ _⟩
    unfold m__law_rows_of startE tD
    simp only [bind_ret, sx_seq, kSeq_nx, kSeq_rt, kSeq_bk, kSeq_ct, sx_next, sx_break, sx_cont, sx_drop, kDrop_, sx_retS, kRetS_, sx_if, kIf_t, kIf_f, sx_asg, kAsg_, kNx_, sx_nm, sx_var, kVar_, sx_ret, sx_op, kOp1_, kOp2_, sx_un, kUn_, sx_nil, sx_cons, kCons1_, kCons2_, sx_tup, sx_lst, kTup_, kLst_, sx_fn, kFn_, sx_call, sx_bool, kBool_, sx_tru, kTru_bl, sx_and, sx_or, sx_not, kAnd_t, kAnd_f, kOr_t, kOr_f, kNot_, sx_andV, sx_orV, sx_notV, kAndV_t, kAndV_f, kOrV_t, kOrV_f, kNotV_, sx_ifE, kIfE_t, kIfE_f, sx_chain, kCh1_, kCh2_, kCh3_t, kCh3_f, sx_gNil, sx_gCons, kG_, sx_gTup, gT_nm, gT_tup, gTs_nil, gTs_cons, sx_gSub, kSub1_, kSub2_, sx_par, kPar_, sx_par3, kPar3_, sx_it, kIt_tup, sx_rg1, sx_rg2, sx_for, kFor_rg, kFor_tp, sx_loopT, sx_loopT0, sx_loopR0, kGo_, kTurn_nx, kTurn_ct, kTurn_bk, kTurn_rt, sx_noPart, sx_part, kPart_, sx_sl, kSl1_, kSl2_, kSl3_, sx_lc, sx_pairs0, sx_pairs, kP1_, kP2_, kP3_, sx_dict, eqD_int, neD_int, addD_int, subD_int, ltD_int, leD_int, gtD_int, geD_int, intD_int, intD_bl, ix_t0, ix_t1, ix_t2, ix_t3, lenD_tup, tupleD_tup, listD_tup, List.getElem?_cons_zero, List.getElem?_cons_succ, List.set_cons_zero, List.set_cons_succ, List.length_cons, List.length_nil, Nat.zero_add, Nat.reduceAdd, Nat.reduceSub, Nat.reduceMul, decide_true, decide_false, Bool.not_true, Bool.not_false, Int.reduceMul, Int.reduceAdd, Int.reduceSub, Int.reduceNeg, Int.reduceLT, Int.reduceLE, Int.reducePow, Int.reduceEq, Int.reduceNe, Nat.reduceLeDiff, Nat.reduceLT, Bool.and_true, Bool.true_and, Bool.and_self, ↓reduceIte, Bool.false_eq_true, sx_mt, kMt1_, kMt2_, sx_isL, kIsL_ref, kIsL2_, absD_int, minD_int, maxD_int, negD_int, isi_tup_tuple, isi_int_int, isi_int_bool, kWh_t, kWh_f, nc1, nc2, nc3, nc4, nc5, nc6, nc7, nc8, nc9, nc10, nc11, nc12, nc13, nc14, nc15, nc16, mulD_int, mulD_intL, kRg1_, kRg2_, i62_eq, i63_eq, i64_eq, LIM, List.length_append, at_k, at_k0, set_k, set_k0, kDict_eq, kDict2_, keyP_str, keyP_int, allO_nil, allO_c, kAll_, mO_some, ixD_ref, kIx_lst, kIx_dK, kIx_dT, kIt_ref, kItr_, kFor_ref, kLoopL_, lenD_ref, kLen_lst, kLen_dK, kLen_dT, tupleD_ref, kTuple_, listD_ref, kList_, setD_ref, kSet_lst, kSetL_, kSet_dK, kSetK_, kSet_dT, kSetT_, appendD_ref, kApp_, addD_ref, kAddL_, mulD_ref, kMulL_, slD_ref, kSlice_, slD_tup, maxD_ref, minD_ref, kOnInts_, Option.bind_some, Option.map_some, maxOf, minOf, List.foldl_cons, List.foldl_nil, mergeD, putD, valD, List.any_cons, List.any_nil, Sum.inr.injEq, Sum.inl.injEq, Bool.or_false, Bool.false_or, Bool.or_true, List.find?_cons, List.find?_nil, keyK_str, keyK_int, intK_int, List.map_cons, List.map_nil, List.cons_append, List.nil_append, List.replicate, List.append_assoc, eqD_str, neD_str, sh_one, sh_not, sh_and, sh_or, sh_xor, sh_but, sh_wire, sh_up, sh_down, sh_copy, sn_one_not, sn_one_and, sn_one_or, sn_one_xor, sn_one_but, sn_one_wire, sn_one_up, sn_one_down, sn_one_copy, sn_not_one, sn_not_and, sn_not_or, sn_not_xor, sn_not_but, sn_not_wire, sn_not_up, sn_not_down, sn_not_copy, sn_and_one, sn_and_not, sn_and_or, sn_and_xor, sn_and_but, sn_and_wire, sn_and_up, sn_and_down, sn_and_copy, sn_or_one, sn_or_not, sn_or_and, sn_or_xor, sn_or_but, sn_or_wire, sn_or_up, sn_or_down, sn_or_copy, sn_xor_one, sn_xor_not, sn_xor_and, sn_xor_or, sn_xor_but, sn_xor_wire, sn_xor_up, sn_xor_down, sn_xor_copy, sn_but_one, sn_but_not, sn_but_and, sn_but_or, sn_but_xor, sn_but_wire, sn_but_up, sn_but_down, sn_but_copy, sn_wire_one, sn_wire_not, sn_wire_and, sn_wire_or, sn_wire_xor, sn_wire_but, sn_wire_up, sn_wire_down, sn_wire_copy, sn_up_one, sn_up_not, sn_up_and, sn_up_or, sn_up_xor, sn_up_but, sn_up_wire, sn_up_down, sn_up_copy, sn_down_one, sn_down_not, sn_down_and, sn_down_or, sn_down_xor, sn_down_but, sn_down_wire, sn_down_up, sn_down_copy, sn_copy_one, sn_copy_not, sn_copy_and, sn_copy_or, sn_copy_xor, sn_copy_but, sn_copy_wire, sn_copy_up, sn_copy_down, kS]
theorem whole_ok {i : Int} {S : List LO} : Run F__law_is_whole [.int i] S (.bl true) S := by
  refine run_fn rfl (e := [some (.int i)]) ?_
  unfold m__law_is_whole startE
  simp only [bind_ret, sx_seq, kSeq_nx, kSeq_rt, kSeq_bk, kSeq_ct, sx_next, sx_break, sx_cont, sx_drop, kDrop_, sx_retS, kRetS_, sx_if, kIf_t, kIf_f, sx_asg, kAsg_, kNx_, sx_nm, sx_var, kVar_, sx_ret, sx_op, kOp1_, kOp2_, sx_un, kUn_, sx_nil, sx_cons, kCons1_, kCons2_, sx_tup, sx_lst, kTup_, kLst_, sx_fn, kFn_, sx_call, sx_bool, kBool_, sx_tru, kTru_bl, sx_and, sx_or, sx_not, kAnd_t, kAnd_f, kOr_t, kOr_f, kNot_, sx_andV, sx_orV, sx_notV, kAndV_t, kAndV_f, kOrV_t, kOrV_f, kNotV_, sx_ifE, kIfE_t, kIfE_f, sx_chain, kCh1_, kCh2_, kCh3_t, kCh3_f, sx_gNil, sx_gCons, kG_, sx_gTup, gT_nm, gT_tup, gTs_nil, gTs_cons, sx_gSub, kSub1_, kSub2_, sx_par, kPar_, sx_par3, kPar3_, sx_it, kIt_tup, sx_rg1, sx_rg2, sx_for, kFor_rg, kFor_tp, sx_loopT, sx_loopT0, sx_loopR0, kGo_, kTurn_nx, kTurn_ct, kTurn_bk, kTurn_rt, sx_noPart, sx_part, kPart_, sx_sl, kSl1_, kSl2_, kSl3_, sx_lc, sx_pairs0, sx_pairs, kP1_, kP2_, kP3_, sx_dict, eqD_int, neD_int, addD_int, subD_int, ltD_int, leD_int, gtD_int, geD_int, intD_int, intD_bl, ix_t0, ix_t1, ix_t2, ix_t3, lenD_tup, tupleD_tup, listD_tup, List.getElem?_cons_zero, List.getElem?_cons_succ, List.set_cons_zero, List.set_cons_succ, List.length_cons, List.length_nil, Nat.zero_add, Nat.reduceAdd, Nat.reduceSub, Nat.reduceMul, decide_true, decide_false, Bool.not_true, Bool.not_false, Int.reduceMul, Int.reduceAdd, Int.reduceSub, Int.reduceNeg, Int.reduceLT, Int.reduceLE, Int.reducePow, Int.reduceEq, Int.reduceNe, Nat.reduceLeDiff, Nat.reduceLT, Bool.and_true, Bool.true_and, Bool.and_self, ↓reduceIte, Bool.false_eq_true, sx_mt, kMt1_, kMt2_, sx_isL, kIsL_ref, kIsL2_, absD_int, minD_int, maxD_int, negD_int, isi_tup_tuple, isi_int_int, isi_int_bool, kWh_t, kWh_f, nc1, nc2, nc3, nc4, nc5, nc6, nc7, nc8, nc9, nc10, nc11, nc12, nc13, nc14, nc15, nc16, mulD_int, mulD_intL, kRg1_, kRg2_, i62_eq, i63_eq, i64_eq, LIM, List.length_append, at_k, at_k0, set_k, set_k0, kDict_eq, kDict2_, keyP_str, keyP_int, allO_nil, allO_c, kAll_, mO_some, ixD_ref, kIx_lst, kIx_dK, kIx_dT, kIt_ref, kItr_, kFor_ref, kLoopL_, lenD_ref, kLen_lst, kLen_dK, kLen_dT, tupleD_ref, kTuple_, listD_ref, kList_, setD_ref, kSet_lst, kSetL_, kSet_dK, kSetK_, kSet_dT, kSetT_, appendD_ref, kApp_, addD_ref, kAddL_, mulD_ref, kMulL_, slD_ref, kSlice_, slD_tup, maxD_ref, minD_ref, kOnInts_, Option.bind_some, Option.map_some, maxOf, minOf, List.foldl_cons, List.foldl_nil, mergeD, putD, valD, List.any_cons, List.any_nil, Sum.inr.injEq, Sum.inl.injEq, Bool.or_false, Bool.false_or, Bool.or_true, List.find?_cons, List.find?_nil, keyK_str, keyK_int, intK_int, List.map_cons, List.map_nil, List.cons_append, List.nil_append, List.replicate, List.append_assoc]
def areT (rows : Nat) : Int → List Tile → Bool
  | _, [] => true
  | last, t :: ts => decide (last < lowT t) && decide (highT t < rows) && decide (t.1 ≤ 6) && areT rows (highT t) ts
def kinds : List Str := ["wire", "up", "down", "copy", "or", "xor", "but"]
theorem kinds_sh : kinds.all (fun a => SeqAt.shaped (.str a)) = true := by decide +kernel
theorem kS_in {k : Nat} (hk : k ≤ 6) : (kinds.any fun b => decide (b = kS k)) = true := by
  have hk : k = 0 ∨ k = 1 ∨ k = 2 ∨ k = 3 ∨ k = 4 ∨ k = 5 ∨ k = 6 := by omega
  rcases hk with rfl | rfl | rfl | rfl | rfl | rfl | rfl <;> decide +kernel
theorem kS_sh (k : Nat) : SeqAt.shaped (.str (kS k)) = true := by
  unfold kS
  split <;> decide +kernel
theorem are_tile {V T x : Option D} {rows : Nat} {last : Int} {t : Tile} {S : List LO} (h1 : last < lowT t) (h2 : highT t < rows) (hk : t.1 ≤ 6) : ∃ x' g, m__law_are_stages_l1 ⟨[V, some (.int (rows : Int)), T, some (.int last), some (tD t), x], S⟩ = .ret .nx ⟨[V, some (.int (rows : Int)), T, some (.int (highT t)), some (tD t), x'], S ++ g⟩ := by
  have ki : ∀ (e : List (Option D)), inD true (.str (kS t.1)) (.ref S.length) ⟨e, S ++ [.lst [.str "wire", .str "up", .str "down", .str "copy", .str "or", .str "xor", .str "but"]]⟩ = .ret (.bl false) ⟨e, S ++ [.lst [.str "wire", .str "up", .str "down", .str "copy", .str "or", .str "xor", .str "but"]]⟩ := fun e => by
    refine (inD_strs (l := kinds) (n := S.length) at_end (kS_sh _) kinds_sh).trans ?_
    rw [kS_in hk]
    rfl
  obtain ⟨xs, q, a1, a2⟩ := rowsof_ok (S := S ++ [.lst [.str "wire", .str "up", .str "down", .str "copy", .str "or", .str "xor", .str "but"]]) hk
  have w := whole_ok (i := (t.2 : Int)) (S := S)
  have c1 : decide (lowT t ≤ last) = false := decide_eq_false (by omega)
  have c2 : decide ((rows : Int) ≤ highT t) = false := decide_eq_false (by omega)
  refine ⟨some (.ref (S.length + 1)), [.lst [.str "wire", .str "up", .str "down", .str "copy", .str "or", .str "xor", .str "but"], .lst xs], ?_⟩
  unfold m__law_are_stages_l1
  unfold tD at q ⊢
  simp only [bind_ret, sx_seq, kSeq_nx, kSeq_rt, kSeq_bk, kSeq_ct, sx_next, sx_break, sx_cont, sx_drop, kDrop_, sx_retS, kRetS_, sx_if, kIf_t, kIf_f, sx_asg, kAsg_, kNx_, sx_nm, sx_var, kVar_, sx_ret, sx_op, kOp1_, kOp2_, sx_un, kUn_, sx_nil, sx_cons, kCons1_, kCons2_, sx_tup, sx_lst, kTup_, kLst_, sx_fn, kFn_, sx_call, sx_bool, kBool_, sx_tru, kTru_bl, sx_and, sx_or, sx_not, kAnd_t, kAnd_f, kOr_t, kOr_f, kNot_, sx_andV, sx_orV, sx_notV, kAndV_t, kAndV_f, kOrV_t, kOrV_f, kNotV_, sx_ifE, kIfE_t, kIfE_f, sx_chain, kCh1_, kCh2_, kCh3_t, kCh3_f, sx_gNil, sx_gCons, kG_, sx_gTup, gT_nm, gT_tup, gTs_nil, gTs_cons, sx_gSub, kSub1_, kSub2_, sx_par, kPar_, sx_par3, kPar3_, sx_it, kIt_tup, sx_rg1, sx_rg2, sx_for, kFor_rg, kFor_tp, sx_loopT, sx_loopT0, sx_loopR0, kGo_, kTurn_nx, kTurn_ct, kTurn_bk, kTurn_rt, sx_noPart, sx_part, kPart_, sx_sl, kSl1_, kSl2_, kSl3_, sx_lc, sx_pairs0, sx_pairs, kP1_, kP2_, kP3_, sx_dict, eqD_int, neD_int, addD_int, subD_int, ltD_int, leD_int, gtD_int, geD_int, intD_int, intD_bl, ix_t0, ix_t1, ix_t2, ix_t3, lenD_tup, tupleD_tup, listD_tup, List.getElem?_cons_zero, List.getElem?_cons_succ, List.set_cons_zero, List.set_cons_succ, List.length_cons, List.length_nil, Nat.zero_add, Nat.reduceAdd, Nat.reduceSub, Nat.reduceMul, decide_true, decide_false, Bool.not_true, Bool.not_false, Int.reduceMul, Int.reduceAdd, Int.reduceSub, Int.reduceNeg, Int.reduceLT, Int.reduceLE, Int.reducePow, Int.reduceEq, Int.reduceNe, Nat.reduceLeDiff, Nat.reduceLT, Bool.and_true, Bool.true_and, Bool.and_self, ↓reduceIte, Bool.false_eq_true, sx_mt, kMt1_, kMt2_, sx_isL, kIsL_ref, kIsL2_, absD_int, minD_int, maxD_int, negD_int, isi_tup_tuple, isi_int_int, isi_int_bool, kWh_t, kWh_f, nc1, nc2, nc3, nc4, nc5, nc6, nc7, nc8, nc9, nc10, nc11, nc12, nc13, nc14, nc15, nc16, mulD_int, mulD_intL, kRg1_, kRg2_, i62_eq, i63_eq, i64_eq, LIM, List.length_append, at_k, at_k0, set_k, set_k0, kDict_eq, kDict2_, keyP_str, keyP_int, allO_nil, allO_c, kAll_, mO_some, ixD_ref, kIx_lst, kIx_dK, kIx_dT, kIt_ref, kItr_, kFor_ref, kLoopL_, lenD_ref, kLen_lst, kLen_dK, kLen_dT, tupleD_ref, kTuple_, listD_ref, kList_, setD_ref, kSet_lst, kSetL_, kSet_dK, kSetK_, kSet_dT, kSetT_, appendD_ref, kApp_, addD_ref, kAddL_, mulD_ref, kMulL_, slD_ref, kSlice_, slD_tup, maxD_ref, minD_ref, kOnInts_, Option.bind_some, Option.map_some, maxOf, minOf, List.foldl_cons, List.foldl_nil, mergeD, putD, valD, List.any_cons, List.any_nil, Sum.inr.injEq, Sum.inl.injEq, Bool.or_false, Bool.false_or, Bool.or_true, List.find?_cons, List.find?_nil, keyK_str, keyK_int, intK_int, List.map_cons, List.map_nil, List.cons_append, List.nil_append, List.replicate, List.append_assoc] at q
  simp only [bind_ret, sx_seq, kSeq_nx, kSeq_rt, kSeq_bk, kSeq_ct, sx_next, sx_break, sx_cont, sx_drop, kDrop_, sx_retS, kRetS_, sx_if, kIf_t, kIf_f, sx_asg, kAsg_, kNx_, sx_nm, sx_var, kVar_, sx_ret, sx_op, kOp1_, kOp2_, sx_un, kUn_, sx_nil, sx_cons, kCons1_, kCons2_, sx_tup, sx_lst, kTup_, kLst_, sx_fn, kFn_, sx_call, sx_bool, kBool_, sx_tru, kTru_bl, sx_and, sx_or, sx_not, kAnd_t, kAnd_f, kOr_t, kOr_f, kNot_, sx_andV, sx_orV, sx_notV, kAndV_t, kAndV_f, kOrV_t, kOrV_f, kNotV_, sx_ifE, kIfE_t, kIfE_f, sx_chain, kCh1_, kCh2_, kCh3_t, kCh3_f, sx_gNil, sx_gCons, kG_, sx_gTup, gT_nm, gT_tup, gTs_nil, gTs_cons, sx_gSub, kSub1_, kSub2_, sx_par, kPar_, sx_par3, kPar3_, sx_it, kIt_tup, sx_rg1, sx_rg2, sx_for, kFor_rg, kFor_tp, sx_loopT, sx_loopT0, sx_loopR0, kGo_, kTurn_nx, kTurn_ct, kTurn_bk, kTurn_rt, sx_noPart, sx_part, kPart_, sx_sl, kSl1_, kSl2_, kSl3_, sx_lc, sx_pairs0, sx_pairs, kP1_, kP2_, kP3_, sx_dict, eqD_int, neD_int, addD_int, subD_int, ltD_int, leD_int, gtD_int, geD_int, intD_int, intD_bl, ix_t0, ix_t1, ix_t2, ix_t3, lenD_tup, tupleD_tup, listD_tup, List.getElem?_cons_zero, List.getElem?_cons_succ, List.set_cons_zero, List.set_cons_succ, List.length_cons, List.length_nil, Nat.zero_add, Nat.reduceAdd, Nat.reduceSub, Nat.reduceMul, decide_true, decide_false, Bool.not_true, Bool.not_false, Int.reduceMul, Int.reduceAdd, Int.reduceSub, Int.reduceNeg, Int.reduceLT, Int.reduceLE, Int.reducePow, Int.reduceEq, Int.reduceNe, Nat.reduceLeDiff, Nat.reduceLT, Bool.and_true, Bool.true_and, Bool.and_self, ↓reduceIte, Bool.false_eq_true, sx_mt, kMt1_, kMt2_, sx_isL, kIsL_ref, kIsL2_, absD_int, minD_int, maxD_int, negD_int, isi_tup_tuple, isi_int_int, isi_int_bool, kWh_t, kWh_f, nc1, nc2, nc3, nc4, nc5, nc6, nc7, nc8, nc9, nc10, nc11, nc12, nc13, nc14, nc15, nc16, mulD_int, mulD_intL, kRg1_, kRg2_, i62_eq, i63_eq, i64_eq, LIM, List.length_append, at_k, at_k0, set_k, set_k0, kDict_eq, kDict2_, keyP_str, keyP_int, allO_nil, allO_c, kAll_, mO_some, ixD_ref, kIx_lst, kIx_dK, kIx_dT, kIt_ref, kItr_, kFor_ref, kLoopL_, lenD_ref, kLen_lst, kLen_dK, kLen_dT, tupleD_ref, kTuple_, listD_ref, kList_, setD_ref, kSet_lst, kSetL_, kSet_dK, kSetK_, kSet_dT, kSetT_, appendD_ref, kApp_, addD_ref, kAddL_, mulD_ref, kMulL_, slD_ref, kSlice_, slD_tup, maxD_ref, minD_ref, kOnInts_, Option.bind_some, Option.map_some, maxOf, minOf, List.foldl_cons, List.foldl_nil, mergeD, putD, valD, List.any_cons, List.any_nil, Sum.inr.injEq, Sum.inl.injEq, Bool.or_false, Bool.false_or, Bool.or_true, List.find?_cons, List.find?_nil, keyK_str, keyK_int, intK_int, List.map_cons, List.map_nil, List.cons_append, List.nil_append, List.replicate, List.append_assoc, kCall_ w, ki, kCall_ q, a1, a2, c1, c2]
theorem are_stage {V W : Option D} {rows : Nat} : ∀ (ts : List Tile) (S : List LO) (last : Int) (x y : Option D), areT rows last ts = true →
    ∃ last' x' y' g, loopT (gNm 4) m__law_are_stages_l1 (ts.map tD) ⟨[V, some (.int (rows : Int)), W, some (.int last), x, y], S⟩ = .ret .nx ⟨[V, some (.int (rows : Int)), W, some (.int last'), x', y'], S ++ g⟩
  | [], S, last, x, y, _ => ⟨last, x, y, [], by rw [List.append_nil]; rfl⟩
  | t :: ts, S, last, x, y, h => by
    simp only [areT, Bool.and_eq_true, decide_eq_true_eq] at h
    obtain ⟨⟨⟨h1, h2⟩, h3⟩, h4⟩ := h
    obtain ⟨y1, g1, q1⟩ := are_tile (V := V) (T := W) (x := y) (S := S) h1 h2 h3
    obtain ⟨last', x', y', g', q2⟩ := are_stage (V := V) (W := W) ts (S ++ g1) (highT t) (some (tD t)) y1 h4
    refine ⟨last', x', y', g1 ++ g', ?_⟩
    rw [List.map_cons, sx_loopT, nm_r, bind_ret, kGo_]
    show ((m__law_are_stages_l1 ⟨[V, some (.int (rows : Int)), W, some (.int last), some (tD t), y], S⟩).bind _) = _
    rw [q1, bind_ret, kTurn_nx, q2, List.append_assoc]
theorem are_loop {V : Option D} {rows : Nat} : ∀ (sts : List (List Tile)) (S : List LO) (a b c d : Option D), (sts.all fun ts => areT rows (-1) ts) = true →
    ∃ a' b' c' d' g, loopT (gNm 2) m__law_are_stages_l2 (sts.map fun ts => D.tup (ts.map tD)) ⟨[V, some (.int (rows : Int)), a, b, c, d], S⟩ = .ret .nx ⟨[V, some (.int (rows : Int)), a', b', c', d'], S ++ g⟩
  | [], S, a, b, c, d, _ => ⟨a, b, c, d, [], by rw [List.append_nil]; rfl⟩
  | ts :: sts, S, a, b, c, d, h => by
    simp only [List.all_cons, Bool.and_eq_true] at h
    obtain ⟨last', x', y', g1, q1⟩ := are_stage (V := V) (W := some (.tup (ts.map tD))) ts S (-1) c d h.1
    obtain ⟨a', b', c', d', g', q2⟩ := are_loop (V := V) sts (S ++ g1) (some (.tup (ts.map tD))) (some (.int last')) x' y' (by simpa using h.2)
    refine ⟨a', b', c', d', g1 ++ g', ?_⟩
    rw [List.map_cons, sx_loopT, nm_r, bind_ret, kGo_]
    have s1 : m__law_are_stages_l2 ⟨[V, some (.int (rows : Int)), some (.tup (ts.map tD)), b, c, d], S⟩ = .ret .nx ⟨[V, some (.int (rows : Int)), some (.tup (ts.map tD)), some (.int last'), x', y'], S ++ g1⟩ := by
      unfold m__law_are_stages_l2
      simp only [bind_ret, sx_seq, kSeq_nx, kSeq_rt, kSeq_bk, kSeq_ct, sx_next, sx_break, sx_cont, sx_drop, kDrop_, sx_retS, kRetS_, sx_if, kIf_t, kIf_f, sx_asg, kAsg_, kNx_, sx_nm, sx_var, kVar_, sx_ret, sx_op, kOp1_, kOp2_, sx_un, kUn_, sx_nil, sx_cons, kCons1_, kCons2_, sx_tup, sx_lst, kTup_, kLst_, sx_fn, kFn_, sx_call, sx_bool, kBool_, sx_tru, kTru_bl, sx_and, sx_or, sx_not, kAnd_t, kAnd_f, kOr_t, kOr_f, kNot_, sx_andV, sx_orV, sx_notV, kAndV_t, kAndV_f, kOrV_t, kOrV_f, kNotV_, sx_ifE, kIfE_t, kIfE_f, sx_chain, kCh1_, kCh2_, kCh3_t, kCh3_f, sx_gNil, sx_gCons, kG_, sx_gTup, gT_nm, gT_tup, gTs_nil, gTs_cons, sx_gSub, kSub1_, kSub2_, sx_par, kPar_, sx_par3, kPar3_, sx_it, kIt_tup, sx_rg1, sx_rg2, sx_for, kFor_rg, kFor_tp, sx_loopT, sx_loopT0, sx_loopR0, kGo_, kTurn_nx, kTurn_ct, kTurn_bk, kTurn_rt, sx_noPart, sx_part, kPart_, sx_sl, kSl1_, kSl2_, kSl3_, sx_lc, sx_pairs0, sx_pairs, kP1_, kP2_, kP3_, sx_dict, eqD_int, neD_int, addD_int, subD_int, ltD_int, leD_int, gtD_int, geD_int, intD_int, intD_bl, ix_t0, ix_t1, ix_t2, ix_t3, lenD_tup, tupleD_tup, listD_tup, List.getElem?_cons_zero, List.getElem?_cons_succ, List.set_cons_zero, List.set_cons_succ, List.length_cons, List.length_nil, Nat.zero_add, Nat.reduceAdd, Nat.reduceSub, Nat.reduceMul, decide_true, decide_false, Bool.not_true, Bool.not_false, Int.reduceMul, Int.reduceAdd, Int.reduceSub, Int.reduceNeg, Int.reduceLT, Int.reduceLE, Int.reducePow, Int.reduceEq, Int.reduceNe, Nat.reduceLeDiff, Nat.reduceLT, Bool.and_true, Bool.true_and, Bool.and_self, ↓reduceIte, Bool.false_eq_true, sx_mt, kMt1_, kMt2_, sx_isL, kIsL_ref, kIsL2_, absD_int, minD_int, maxD_int, negD_int, isi_tup_tuple, isi_int_int, isi_int_bool, kWh_t, kWh_f, nc1, nc2, nc3, nc4, nc5, nc6, nc7, nc8, nc9, nc10, nc11, nc12, nc13, nc14, nc15, nc16, mulD_int, mulD_intL, kRg1_, kRg2_, i62_eq, i63_eq, i64_eq, LIM, List.length_append, at_k, at_k0, set_k, set_k0, kDict_eq, kDict2_, keyP_str, keyP_int, allO_nil, allO_c, kAll_, mO_some, ixD_ref, kIx_lst, kIx_dK, kIx_dT, kIt_ref, kItr_, kFor_ref, kLoopL_, lenD_ref, kLen_lst, kLen_dK, kLen_dT, tupleD_ref, kTuple_, listD_ref, kList_, setD_ref, kSet_lst, kSetL_, kSet_dK, kSetK_, kSet_dT, kSetT_, appendD_ref, kApp_, addD_ref, kAddL_, mulD_ref, kMulL_, slD_ref, kSlice_, slD_tup, maxD_ref, minD_ref, kOnInts_, Option.bind_some, Option.map_some, maxOf, minOf, List.foldl_cons, List.foldl_nil, mergeD, putD, valD, List.any_cons, List.any_nil, Sum.inr.injEq, Sum.inl.injEq, Bool.or_false, Bool.false_or, Bool.or_true, List.find?_cons, List.find?_nil, keyK_str, keyK_int, intK_int, List.map_cons, List.map_nil, List.cons_append, List.nil_append, List.replicate, List.append_assoc]
      exact q1
    show ((m__law_are_stages_l2 ⟨[V, some (.int (rows : Int)), some (.tup (ts.map tD)), b, c, d], S⟩).bind _) = _
    rw [s1, bind_ret, kTurn_nx, q2, List.append_assoc]
theorem are_ok {sts : List (List Tile)} {rows : Nat} {S : List LO} (h : (sts.all fun ts => areT rows (-1) ts) = true) : ∃ g, Run F__law_are_stages [stD sts, .int (rows : Int)] S (.bl true) (S ++ g) := by
  obtain ⟨a', b', c', d', g, q⟩ := are_loop (V := some (stD sts)) sts S none none none none h
  refine run_ex rfl ⟨g, [some (stD sts), some (.int (rows : Int)), a', b', c', d'], ?_⟩
  unfold m__law_are_stages startE
  unfold stD at q ⊢
  simp only [bind_ret, sx_seq, kSeq_nx, kSeq_rt, kSeq_bk, kSeq_ct, sx_next, sx_break, sx_cont, sx_drop, kDrop_, sx_retS, kRetS_, sx_if, kIf_t, kIf_f, sx_asg, kAsg_, kNx_, sx_nm, sx_var, kVar_, sx_ret, sx_op, kOp1_, kOp2_, sx_un, kUn_, sx_nil, sx_cons, kCons1_, kCons2_, sx_tup, sx_lst, kTup_, kLst_, sx_fn, kFn_, sx_call, sx_bool, kBool_, sx_tru, kTru_bl, sx_and, sx_or, sx_not, kAnd_t, kAnd_f, kOr_t, kOr_f, kNot_, sx_andV, sx_orV, sx_notV, kAndV_t, kAndV_f, kOrV_t, kOrV_f, kNotV_, sx_ifE, kIfE_t, kIfE_f, sx_chain, kCh1_, kCh2_, kCh3_t, kCh3_f, sx_gNil, sx_gCons, kG_, sx_gTup, gT_nm, gT_tup, gTs_nil, gTs_cons, sx_gSub, kSub1_, kSub2_, sx_par, kPar_, sx_par3, kPar3_, sx_it, kIt_tup, sx_rg1, sx_rg2, sx_for, kFor_rg, kFor_tp, sx_loopT, sx_loopT0, sx_loopR0, kGo_, kTurn_nx, kTurn_ct, kTurn_bk, kTurn_rt, sx_noPart, sx_part, kPart_, sx_sl, kSl1_, kSl2_, kSl3_, sx_lc, sx_pairs0, sx_pairs, kP1_, kP2_, kP3_, sx_dict, eqD_int, neD_int, addD_int, subD_int, ltD_int, leD_int, gtD_int, geD_int, intD_int, intD_bl, ix_t0, ix_t1, ix_t2, ix_t3, lenD_tup, tupleD_tup, listD_tup, List.getElem?_cons_zero, List.getElem?_cons_succ, List.set_cons_zero, List.set_cons_succ, List.length_cons, List.length_nil, Nat.zero_add, Nat.reduceAdd, Nat.reduceSub, Nat.reduceMul, decide_true, decide_false, Bool.not_true, Bool.not_false, Int.reduceMul, Int.reduceAdd, Int.reduceSub, Int.reduceNeg, Int.reduceLT, Int.reduceLE, Int.reducePow, Int.reduceEq, Int.reduceNe, Nat.reduceLeDiff, Nat.reduceLT, Bool.and_true, Bool.true_and, Bool.and_self, ↓reduceIte, Bool.false_eq_true, sx_mt, kMt1_, kMt2_, sx_isL, kIsL_ref, kIsL2_, absD_int, minD_int, maxD_int, negD_int, isi_tup_tuple, isi_int_int, isi_int_bool, kWh_t, kWh_f, nc1, nc2, nc3, nc4, nc5, nc6, nc7, nc8, nc9, nc10, nc11, nc12, nc13, nc14, nc15, nc16, mulD_int, mulD_intL, kRg1_, kRg2_, i62_eq, i63_eq, i64_eq, LIM, List.length_append, at_k, at_k0, set_k, set_k0, kDict_eq, kDict2_, keyP_str, keyP_int, allO_nil, allO_c, kAll_, mO_some, ixD_ref, kIx_lst, kIx_dK, kIx_dT, kIt_ref, kItr_, kFor_ref, kLoopL_, lenD_ref, kLen_lst, kLen_dK, kLen_dT, tupleD_ref, kTuple_, listD_ref, kList_, setD_ref, kSet_lst, kSetL_, kSet_dK, kSetK_, kSet_dT, kSetT_, appendD_ref, kApp_, addD_ref, kAddL_, mulD_ref, kMulL_, slD_ref, kSlice_, slD_tup, maxD_ref, minD_ref, kOnInts_, Option.bind_some, Option.map_some, maxOf, minOf, List.foldl_cons, List.foldl_nil, mergeD, putD, valD, List.any_cons, List.any_nil, Sum.inr.injEq, Sum.inl.injEq, Bool.or_false, Bool.false_or, Bool.or_true, List.find?_cons, List.find?_nil, keyK_str, keyK_int, intK_int, List.map_cons, List.map_nil, List.cons_append, List.nil_append, List.replicate, List.append_assoc]
  rw [q]
  simp only [bind_ret, sx_seq, kSeq_nx, kSeq_rt, kSeq_bk, kSeq_ct, sx_next, sx_break, sx_cont, sx_drop, kDrop_, sx_retS, kRetS_, sx_if, kIf_t, kIf_f, sx_asg, kAsg_, kNx_, sx_nm, sx_var, kVar_, sx_ret, sx_op, kOp1_, kOp2_, sx_un, kUn_, sx_nil, sx_cons, kCons1_, kCons2_, sx_tup, sx_lst, kTup_, kLst_, sx_fn, kFn_, sx_call, sx_bool, kBool_, sx_tru, kTru_bl, sx_and, sx_or, sx_not, kAnd_t, kAnd_f, kOr_t, kOr_f, kNot_, sx_andV, sx_orV, sx_notV, kAndV_t, kAndV_f, kOrV_t, kOrV_f, kNotV_, sx_ifE, kIfE_t, kIfE_f, sx_chain, kCh1_, kCh2_, kCh3_t, kCh3_f, sx_gNil, sx_gCons, kG_, sx_gTup, gT_nm, gT_tup, gTs_nil, gTs_cons, sx_gSub, kSub1_, kSub2_, sx_par, kPar_, sx_par3, kPar3_, sx_it, kIt_tup, sx_rg1, sx_rg2, sx_for, kFor_rg, kFor_tp, sx_loopT, sx_loopT0, sx_loopR0, kGo_, kTurn_nx, kTurn_ct, kTurn_bk, kTurn_rt, sx_noPart, sx_part, kPart_, sx_sl, kSl1_, kSl2_, kSl3_, sx_lc, sx_pairs0, sx_pairs, kP1_, kP2_, kP3_, sx_dict, eqD_int, neD_int, addD_int, subD_int, ltD_int, leD_int, gtD_int, geD_int, intD_int, intD_bl, ix_t0, ix_t1, ix_t2, ix_t3, lenD_tup, tupleD_tup, listD_tup, List.getElem?_cons_zero, List.getElem?_cons_succ, List.set_cons_zero, List.set_cons_succ, List.length_cons, List.length_nil, Nat.zero_add, Nat.reduceAdd, Nat.reduceSub, Nat.reduceMul, decide_true, decide_false, Bool.not_true, Bool.not_false, Int.reduceMul, Int.reduceAdd, Int.reduceSub, Int.reduceNeg, Int.reduceLT, Int.reduceLE, Int.reducePow, Int.reduceEq, Int.reduceNe, Nat.reduceLeDiff, Nat.reduceLT, Bool.and_true, Bool.true_and, Bool.and_self, ↓reduceIte, Bool.false_eq_true, sx_mt, kMt1_, kMt2_, sx_isL, kIsL_ref, kIsL2_, absD_int, minD_int, maxD_int, negD_int, isi_tup_tuple, isi_int_int, isi_int_bool, kWh_t, kWh_f, nc1, nc2, nc3, nc4, nc5, nc6, nc7, nc8, nc9, nc10, nc11, nc12, nc13, nc14, nc15, nc16, mulD_int, mulD_intL, kRg1_, kRg2_, i62_eq, i63_eq, i64_eq, LIM, List.length_append, at_k, at_k0, set_k, set_k0, kDict_eq, kDict2_, keyP_str, keyP_int, allO_nil, allO_c, kAll_, mO_some, ixD_ref, kIx_lst, kIx_dK, kIx_dT, kIt_ref, kItr_, kFor_ref, kLoopL_, lenD_ref, kLen_lst, kLen_dK, kLen_dT, tupleD_ref, kTuple_, listD_ref, kList_, setD_ref, kSet_lst, kSetL_, kSet_dK, kSetK_, kSet_dT, kSetT_, appendD_ref, kApp_, addD_ref, kAddL_, mulD_ref, kMulL_, slD_ref, kSlice_, slD_tup, maxD_ref, minD_ref, kOnInts_, Option.bind_some, Option.map_some, maxOf, minOf, List.foldl_cons, List.foldl_nil, mergeD, putD, valD, List.any_cons, List.any_nil, Sum.inr.injEq, Sum.inl.injEq, Bool.or_false, Bool.false_or, Bool.or_true, List.find?_cons, List.find?_nil, keyK_str, keyK_int, intK_int, List.map_cons, List.map_nil, List.cons_append, List.nil_append, List.replicate, List.append_assoc]
end K21

set_option Elab.async false
set_option linter.all false
set_option maxRecDepth 1000000
set_option maxHeartbeats 4000000
namespace K21
open PySem PySem.Spec PyProof.Rows L2 Mz
/-! ### finite checks -/
def same (a b : List Bool) : Bool := decide (a = b)
def chkA (m : Nat) : Bool := (List.range m).all fun p => okStages (2 * m + 2) (doubledS m p) && (doubledS m p).all (fun ts => areT (2 * m + 2) (-1) ts) && (bitR m).all fun r => same (passB (slotB (2 * m + 2) r) (doubledS m p)) (slotB (2 * m + 2) (r.take (p + 1) ++ r.drop p))
def swp (r : List Bool) (l : Nat) : List Bool := r.take l ++ [bit r (l + 1), bit r l] ++ r.drop (l + 2)
def chkB (m : Nat) : Bool := (List.range (m - 1)).all fun l => okStages (2 * m + 2) (exS m l) && (exS m l).all (fun ts => areT (2 * m + 2) (-1) ts) && (bitR m).all fun r => same (passB (slotB (2 * m + 2) r) (exS m l)) (slotB (2 * m + 2) (swp r l))
def mov (r : List Bool) (p q : Nat) : List Bool := (r.take p ++ r.drop (p + 1)).take q ++ [bit r p] ++ (r.take p ++ r.drop (p + 1)).drop q
def chkC (m : Nat) : Bool := (List.range m).all fun p => (List.range m).all fun q => okStages (2 * m + 2) (ledR m q m p) && (ledR m q m p).all (fun ts => areT (2 * m + 2) (-1) ts)
def chkD (m : Nat) : Bool := (List.range (m - 1)).all fun l => [4, 5, 6].all fun k => okStages (2 * m + 2) (madeS m l k) && (madeS m l k).all (fun ts => areT (2 * m + 2) (-1) ts) && (bitR m).all fun r => same (passB (slotB (2 * m + 2) r) (madeS m l k)) (slotB (2 * m + 2) (r.take l ++ [gateB k (bit r l) (bit r (l + 1))] ++ r.drop (l + 2)))
def chkE (m : Nat) : Bool := (List.range m).all fun p => (List.range m).all fun q => (bitR m).all fun r =>
  if p < q then same (mov (swp r p) (p + 1) q) (mov r p q) && (bitR m).any (same (swp r p)) else if q < p then same (mov (swp r (p - 1)) (p - 1) q) (mov r p q) && (bitR m).any (same (swp r (p - 1))) else same (mov r p p) r
theorem okA : [2, 3, 4, 5, 6].all chkA = true := by decide +kernel
theorem okB : [2, 3, 4, 5, 6].all chkB = true := by decide +kernel
theorem okC : [2, 3, 4, 5, 6].all chkC = true := by decide +kernel
theorem okD : [2, 3, 4, 5, 6].all chkD = true := by decide +kernel
theorem okE : [2, 3, 4, 5, 6].all chkE = true := by decide +kernel
theorem of_ms {f : Nat → Bool} (h : [2, 3, 4, 5, 6].all f = true) {m : Nat} (h1 : 2 ≤ m) (h2 : m ≤ 6) : f m = true := by
  simp only [List.all_cons, List.all_nil, Bool.and_true, Bool.and_eq_true] at h
  have : m = 2 ∨ m = 3 ∨ m = 4 ∨ m = 5 ∨ m = 6 := by omega
  rcases this with rfl | rfl | rfl | rfl | rfl
  · exact h.1
  · exact h.2.1
  · exact h.2.2.1
  · exact h.2.2.2.1
  · exact h.2.2.2.2
theorem same_eq {a b : List Bool} (h : same a b = true) : a = b := of_decide_eq_true h
theorem fA {m p : Nat} (h1 : 2 ≤ m) (h2 : m ≤ 6) (hp : p < m) : okStages (2 * m + 2) (doubledS m p) = true ∧ ((doubledS m p).all fun ts => areT (2 * m + 2) (-1) ts) = true ∧ ∀ r ∈ bitR m, passB (slotB (2 * m + 2) r) (doubledS m p) = slotB (2 * m + 2) (r.take (p + 1) ++ r.drop p) := by
  have := List.all_eq_true.mp (of_ms okA h1 h2) p (by simpa using hp)
  simp only [Bool.and_eq_true] at this
  exact ⟨this.1.1, this.1.2, fun r hr => same_eq (List.all_eq_true.mp this.2 r hr)⟩
theorem fB {m l : Nat} (h1 : 2 ≤ m) (h2 : m ≤ 6) (hl : l < m - 1) : okStages (2 * m + 2) (exS m l) = true ∧ ((exS m l).all fun ts => areT (2 * m + 2) (-1) ts) = true ∧ ∀ r ∈ bitR m, passB (slotB (2 * m + 2) r) (exS m l) = slotB (2 * m + 2) (swp r l) := by
  have := List.all_eq_true.mp (of_ms okB h1 h2) l (by simpa using hl)
  simp only [Bool.and_eq_true] at this
  exact ⟨this.1.1, this.1.2, fun r hr => same_eq (List.all_eq_true.mp this.2 r hr)⟩
theorem fC {m p q : Nat} (h1 : 2 ≤ m) (h2 : m ≤ 6) (hp : p < m) (hq : q < m) : okStages (2 * m + 2) (ledR m q m p) = true ∧ ((ledR m q m p).all fun ts => areT (2 * m + 2) (-1) ts) = true := by
  have := List.all_eq_true.mp (List.all_eq_true.mp (of_ms okC h1 h2) p (by simpa using hp)) q (by simpa using hq)
  simpa only [Bool.and_eq_true] using this
theorem fD {m l k : Nat} (h1 : 2 ≤ m) (h2 : m ≤ 6) (hl : l < m - 1) (hk : k = 4 ∨ k = 5 ∨ k = 6) : okStages (2 * m + 2) (madeS m l k) = true ∧ ((madeS m l k).all fun ts => areT (2 * m + 2) (-1) ts) = true ∧ ∀ r ∈ bitR m, passB (slotB (2 * m + 2) r) (madeS m l k) = slotB (2 * m + 2) (r.take l ++ [gateB k (bit r l) (bit r (l + 1))] ++ r.drop (l + 2)) := by
  have := List.all_eq_true.mp (List.all_eq_true.mp (of_ms okD h1 h2) l (by simpa using hl)) k (by rcases hk with rfl | rfl | rfl <;> simp)
  simp only [Bool.and_eq_true] at this
  exact ⟨this.1.1, this.1.2, fun r hr => same_eq (List.all_eq_true.mp this.2 r hr)⟩
theorem fE {m p q : Nat} {r : List Bool} (h1 : 2 ≤ m) (h2 : m ≤ 6) (hp : p < m) (hq : q < m) (hr : r ∈ bitR m) :
    (p < q → mov (swp r p) (p + 1) q = mov r p q ∧ swp r p ∈ bitR m) ∧ (q < p → mov (swp r (p - 1)) (p - 1) q = mov r p q ∧ swp r (p - 1) ∈ bitR m) ∧ (p = q → mov r p q = r) := by
  have h := List.all_eq_true.mp (List.all_eq_true.mp (List.all_eq_true.mp (of_ms okE h1 h2) p (by simpa using hp)) q (by simpa using hq)) r hr
  have mem : ∀ x, (bitR m).any (same x) = true → x ∈ bitR m := fun x hx => by
    obtain ⟨y, hy, e⟩ := List.any_eq_true.mp hx
    rw [same_eq e]
    exact hy
  refine ⟨fun c => ?_, fun c => ?_, fun c => ?_⟩
  · rw [if_pos c, Bool.and_eq_true] at h
    exact ⟨same_eq h.1, mem _ h.2⟩
  · rw [if_neg (by omega), if_pos c, Bool.and_eq_true] at h
    exact ⟨same_eq h.1, mem _ h.2⟩
  · subst c
    rw [if_neg (by omega), if_neg (by omega)] at h
    exact same_eq h
theorem pass_append (bs : List Bool) (a b : List (List Tile)) : passB bs (a ++ b) = passB (passB bs a) b := List.foldl_append
theorem led_pass {m q : Nat} (h1 : 2 ≤ m) (h2 : m ≤ 6) (hq : q < m) : ∀ (n p : Nat) (r : List Bool), p < m → r ∈ bitR m → p ≤ q + n → q ≤ p + n → passB (slotB (2 * m + 2) r) (ledR m q n p) = slotB (2 * m + 2) (mov r p q)
  | 0, p, r, hp, hr, a, b => by
    rw [(fE h1 h2 hp hq hr).2.2 (by omega)]
    rfl
  | n + 1, p, r, hp, hr, a, b => by
    obtain ⟨e1, e2, e3⟩ := fE h1 h2 hp hq hr
    unfold ledR
    by_cases c : p = q
    · rw [if_pos c, e3 c]
      rfl
    · rw [if_neg c]
      by_cases d : p < q
      · rw [if_pos d, pass_append, (fB h1 h2 (by omega)).2.2 r hr, led_pass h1 h2 hq n (p + 1) _ (by omega) (e1 d).2 (by omega) (by omega), (e1 d).1]
      · rw [if_neg d, pass_append, (fB h1 h2 (by omega)).2.2 r hr, led_pass h1 h2 hq n (p - 1) _ (by omega) (e2 (by omega)).2 (by omega) (by omega), (e2 (by omega)).1]
end K21

set_option Elab.async false
set_option linter.all false
set_option maxRecDepth 100000
set_option maxHeartbeats 4000000
namespace K21
open PySem PySem.Spec PyProof.Rows L2 Mz
theorem cut_to {r : List Bool} {n : Nat} (h : n ≤ r.length) : cutD (r.map bD) none (some (n : Int)) = (r.take n).map bD := by
  unfold Mz.cutD
  rw [HT.sIx_none, HT.sIx_nat, List.length_map, Nat.min_eq_left h, List.map_take]
  simp
theorem cut_from {r : List Bool} {n : Nat} (h : n ≤ r.length) : cutD (r.map bD) (some (n : Int)) none = (r.drop n).map bD := by
  unfold Mz.cutD
  rw [HT.sIx_none, HT.sIx_nat, List.length_map, Nat.min_eq_left h, List.map_drop]
  rw [List.take_of_length_le (by simp)]
theorem cut_mid {r : List Bool} {n m : Nat} (h : n ≤ m) (h2 : m ≤ r.length) : cutD (r.map bD) (some (n : Int)) (some (m : Int)) = ((r.drop n).take (m - n)).map bD := by
  unfold Mz.cutD
  rw [HT.sIx_nat, HT.sIx_nat, List.length_map, Nat.min_eq_left h2, Nat.min_eq_left (Nat.le_trans h h2), List.map_take, List.map_drop]
theorem chk_ok {A rows b j : Nat} {EX : M D} {e : List (Option D)} {S S' : List LO} {sts : List (List Tile)} {r r2 : List Bool} (hA : e[A]? = some (some (stD sts))) (h6 : e[6]? = some (some (.int (rows : Int)))) (h15 : e[15]? = some (some (.ref b))) (hE : EX ⟨e, S⟩ = .ret (.ref j) ⟨e, S'⟩)
    (hb : S'[b]? = some (.lst (r.map bD))) (hj : S'[j]? = some (.lst (r2.map bD))) (hr : rows ≤ 1000) (l1 : 2 * r.length ≤ rows + 1) (l2 : 2 * r2.length ≤ rows + 1) (ht : okStages rows sts = true) (hp : passB (slotB rows r) sts = slotB rows r2) :
    ∃ g, mIfS (mNot (mTru (mCall F__law_leads (mCons (mVar A) (mCons (mVar 6) (mCons (mVar 15) (mCons EX mNil))))))) (mRetS (mRet (.bl false))) mNext ⟨e, S⟩ = .ret .nx ⟨e, S' ++ g⟩ := by
  obtain ⟨g, q⟩ := leads_ok hb hj hr l1 l2 ht hp
  refine ⟨g, ?_⟩
  simp only [bind_ret, sx_seq, kSeq_nx, kSeq_rt, kSeq_bk, kSeq_ct, sx_next, sx_break, sx_cont, sx_drop, kDrop_, sx_retS, kRetS_, sx_if, kIf_t, kIf_f, sx_asg, kAsg_, kNx_, sx_nm, sx_var, kVar_, sx_ret, sx_op, kOp1_, kOp2_, sx_un, kUn_, sx_nil, sx_cons, kCons1_, kCons2_, sx_tup, sx_lst, kTup_, kLst_, sx_fn, kFn_, sx_call, sx_bool, kBool_, sx_tru, kTru_bl, sx_and, sx_or, sx_not, kAnd_t, kAnd_f, kOr_t, kOr_f, kNot_, sx_andV, sx_orV, sx_notV, kAndV_t, kAndV_f, kOrV_t, kOrV_f, kNotV_, sx_ifE, kIfE_t, kIfE_f, sx_chain, kCh1_, kCh2_, kCh3_t, kCh3_f, sx_gNil, sx_gCons, kG_, sx_gTup, gT_nm, gT_tup, gTs_nil, gTs_cons, sx_gSub, kSub1_, kSub2_, sx_par, kPar_, sx_par3, kPar3_, sx_it, kIt_tup, sx_rg1, sx_rg2, sx_for, kFor_rg, kFor_tp, sx_loopT, sx_loopT0, sx_loopR0, kGo_, kTurn_nx, kTurn_ct, kTurn_bk, kTurn_rt, sx_noPart, sx_part, kPart_, sx_sl, kSl1_, kSl2_, kSl3_, sx_lc, sx_pairs0, sx_pairs, kP1_, kP2_, kP3_, sx_dict, eqD_int, neD_int, addD_int, subD_int, ltD_int, leD_int, gtD_int, geD_int, intD_int, intD_bl, ix_t0, ix_t1, ix_t2, ix_t3, lenD_tup, tupleD_tup, listD_tup, List.getElem?_cons_zero, List.getElem?_cons_succ, List.set_cons_zero, List.set_cons_succ, List.length_cons, List.length_nil, Nat.zero_add, Nat.reduceAdd, Nat.reduceSub, Nat.reduceMul, decide_true, decide_false, Bool.not_true, Bool.not_false, Int.reduceMul, Int.reduceAdd, Int.reduceSub, Int.reduceNeg, Int.reduceLT, Int.reduceLE, Int.reducePow, Int.reduceEq, Int.reduceNe, Nat.reduceLeDiff, Nat.reduceLT, Bool.and_true, Bool.true_and, Bool.and_self, ↓reduceIte, Bool.false_eq_true, sx_mt, kMt1_, kMt2_, sx_isL, kIsL_ref, kIsL2_, absD_int, minD_int, maxD_int, negD_int, isi_tup_tuple, isi_int_int, isi_int_bool, kWh_t, kWh_f, nc1, nc2, nc3, nc4, nc5, nc6, nc7, nc8, nc9, nc10, nc11, nc12, nc13, nc14, nc15, nc16, mulD_int, mulD_intL, kRg1_, kRg2_, i62_eq, i63_eq, i64_eq, LIM, List.length_append, at_k, at_k0, set_k, set_k0, kDict_eq, kDict2_, keyP_str, keyP_int, allO_nil, allO_c, kAll_, mO_some, ixD_ref, kIx_lst, kIx_dK, kIx_dT, kIt_ref, kItr_, kFor_ref, kLoopL_, lenD_ref, kLen_lst, kLen_dK, kLen_dT, tupleD_ref, kTuple_, listD_ref, kList_, setD_ref, kSet_lst, kSetL_, kSet_dK, kSetK_, kSet_dT, kSetT_, appendD_ref, kApp_, addD_ref, kAddL_, mulD_ref, kMulL_, slD_ref, kSlice_, slD_tup, maxD_ref, minD_ref, kOnInts_, Option.bind_some, Option.map_some, maxOf, minOf, List.foldl_cons, List.foldl_nil, mergeD, putD, valD, List.any_cons, List.any_nil, Sum.inr.injEq, Sum.inl.injEq, Bool.or_false, Bool.false_or, Bool.or_true, List.find?_cons, List.find?_nil, keyK_str, keyK_int, intK_int, List.map_cons, List.map_nil, List.cons_append, List.nil_append, List.replicate, List.append_assoc, hA, h6, h15, hE, kCall_ q]
theorem add_bits {n m : Nat} {e : List (Option D)} {st : List LO} {a b : List Bool} (h1 : st[n]? = some (.lst (a.map bD))) (h2 : st[m]? = some (.lst (b.map bD))) (hl : a.length + b.length ≤ 1000) : addD (.ref n) (.ref m) ⟨e, st⟩ = .ret (.ref st.length) ⟨e, st ++ [.lst ((a ++ b).map bD)]⟩ := by
  rw [addD_ref, h1, h2, kAddL_ (by simp [LIM]; omega), List.map_append]
theorem exp1 {e : List (Option D)} {S : List LO} {b p : Nat} {r : List Bool} (h4 : e[4]? = some (some (.int (p : Int)))) (h15 : e[15]? = some (some (.ref b))) (hb : S[b]? = some (.lst (r.map bD))) (hp : p < r.length) (hl : r.length ≤ 100) :
    ∃ j g, mOp addD (mSl (mVar 15) mNoPart (mPart (mOp addD (mVar 4) (mRet (.int 1))))) (mSl (mVar 15) (mPart (mVar 4)) mNoPart) ⟨e, S⟩ = .ret (.ref j) ⟨e, S ++ g⟩ ∧ (S ++ g)[j]? = some (.lst ((r.take (p + 1) ++ r.drop p).map bD)) := by
  have hb' : ∀ g : List LO, (S ++ g)[b]? = some (.lst (r.map bD)) := fun g => at_old hb
  have c1 : cutD (r.map bD) none (some ((p : Int) + 1)) = (r.take (p + 1)).map bD := cut_to (n := p + 1) (by omega)
  have c2 : cutD (r.map bD) (some (p : Int)) none = (r.drop p).map bD := cut_from (by omega)
  refine ⟨S.length + 2, [.lst ((r.take (p + 1)).map bD), .lst ((r.drop p).map bD), .lst ((r.take (p + 1) ++ r.drop p).map bD)], ?_, at_end2⟩
  have ad : ∀ e, addD (.ref S.length) (.ref (S.length + 1)) ⟨e, S ++ [.lst ((r.take (p + 1)).map bD), .lst ((r.drop p).map bD)]⟩ = .ret (.ref (S.length + 2)) ⟨e, S ++ [.lst ((r.take (p + 1)).map bD), .lst ((r.drop p).map bD), .lst ((r.take (p + 1) ++ r.drop p).map bD)]⟩ := fun e => by
    rw [add_bits at_end at_end1 (by simp; omega)]
    simp
  simp only [sx_op, sx_sl, sx_var, h15, kVar_, bind_ret, kSl1_, sx_noPart, kSl2_, sx_part, h4, kOp1_, sx_ret, kOp2_, addD_int, kPart_, kSl3_, slD_ref, hb, hb', kSlice_, c1, c2, List.append_assoc, List.cons_append, List.nil_append, List.length_append, List.length_cons, List.length_nil, Nat.zero_add, ad]
theorem exp2 {e : List (Option D)} {S : List LO} {b l : Nat} {r : List Bool} (h7 : e[7]? = some (some (.int (l : Int)))) (h15 : e[15]? = some (some (.ref b))) (hb : S[b]? = some (.lst (r.map bD))) (hp : l + 1 < r.length) (hl : r.length ≤ 100) :
    ∃ j g, mOp addD (mOp addD (mSl (mVar 15) mNoPart (mPart (mVar 7))) (mLst (mCons (mOp ixD (mVar 15) (mOp addD (mVar 7) (mRet (.int 1)))) (mCons (mOp ixD (mVar 15) (mVar 7)) mNil)))) (mSl (mVar 15) (mPart (mOp addD (mVar 7) (mRet (.int 2)))) mNoPart) ⟨e, S⟩ = .ret (.ref j) ⟨e, S ++ g⟩ ∧ (S ++ g)[j]? = some (.lst ((swp r l).map bD)) := by
  have hb' : ∀ g : List LO, (S ++ g)[b]? = some (.lst (r.map bD)) := fun g => at_old hb
  have c1 : cutD (r.map bD) none (some (l : Int)) = (r.take l).map bD := cut_to (by omega)
  have c2 : cutD (r.map bD) (some ((l : Int) + 2)) none = (r.drop (l + 2)).map bD := cut_from (n := l + 2) (by omega)
  have i0 : atI (r.map bD) (l : Int) = some (bD (bit r l)) := bit_at (by omega)
  have i1 : atI (r.map bD) ((l : Int) + 1) = some (bD (bit r (l + 1))) := bit_at1 hp
  have lk : [bD (bit r (l + 1)), bD (bit r l)].length ≤ LIM := Nat.le_of_ble_eq_true rfl
  refine ⟨S.length + 4, [.lst ((r.take l).map bD), .lst ([bit r (l + 1), bit r l].map bD), .lst ((r.take l ++ [bit r (l + 1), bit r l]).map bD), .lst ((r.drop (l + 2)).map bD), .lst ((swp r l).map bD)], ?_, at_end4⟩
  have ad1 : ∀ e, addD (.ref S.length) (.ref (S.length + 1)) ⟨e, S ++ [.lst ((r.take l).map bD), .lst [bD (bit r (l + 1)), bD (bit r l)]]⟩ = .ret (.ref (S.length + 2)) ⟨e, S ++ [.lst ((r.take l).map bD), .lst [bD (bit r (l + 1)), bD (bit r l)], .lst ((r.take l ++ [bit r (l + 1), bit r l]).map bD)]⟩ := fun e => by
    refine (add_bits (a := r.take l) (b := [bit r (l + 1), bit r l]) at_end at_end1 (by simp; omega)).trans ?_
    simp
  have ad2 : ∀ e, addD (.ref (S.length + 2)) (.ref (S.length + 3)) ⟨e, S ++ [.lst ((r.take l).map bD), .lst [bD (bit r (l + 1)), bD (bit r l)], .lst ((r.take l ++ [bit r (l + 1), bit r l]).map bD), .lst ((r.drop (l + 2)).map bD)]⟩ = .ret (.ref (S.length + 4)) ⟨e, S ++ [.lst ((r.take l).map bD), .lst [bD (bit r (l + 1)), bD (bit r l)], .lst ((r.take l ++ [bit r (l + 1), bit r l]).map bD), .lst ((r.drop (l + 2)).map bD), .lst ((swp r l).map bD)]⟩ := fun e => by
    refine (add_bits (a := r.take l ++ [bit r (l + 1), bit r l]) (b := r.drop (l + 2)) at_end2 at_end3 (by simp; omega)).trans ?_
    simp [swp]
  simp only [sx_op, sx_sl, sx_var, h15, kVar_, bind_ret, kSl1_, sx_noPart, kSl2_, sx_part, h7, kOp1_, sx_ret, kOp2_, addD_int, kPart_, kSl3_, slD_ref, hb, hb', kSlice_, c1, c2, sx_lst, sx_cons, kCons1_, kCons2_, sx_nil, ixD_ref, kIx_lst, i0, i1, mO_some, kLst_ lk, List.append_assoc, List.cons_append, List.nil_append, List.length_append, List.length_cons, List.length_nil, Nat.zero_add, ad1, ad2, List.map_cons, List.map_nil]
/-- the rest of the bits, then one put in -/
theorem exp3 {e : List (Option D)} {S : List LO} {b p : Nat} {r : List Bool} (h4 : e[4]? = some (some (.int (p : Int)))) (h15 : e[15]? = some (some (.ref b))) (hb : S[b]? = some (.lst (r.map bD))) (hp : p < r.length) (hl : r.length ≤ 100) :
    ∃ j g, mOp addD (mSl (mVar 15) mNoPart (mPart (mVar 4))) (mSl (mVar 15) (mPart (mOp addD (mVar 4) (mRet (.int 1)))) mNoPart) ⟨e, S⟩ = .ret (.ref j) ⟨e, S ++ g⟩ ∧ (S ++ g)[j]? = some (.lst ((r.take p ++ r.drop (p + 1)).map bD)) := by
  have hb' : ∀ g : List LO, (S ++ g)[b]? = some (.lst (r.map bD)) := fun g => at_old hb
  have c1 : cutD (r.map bD) none (some (p : Int)) = (r.take p).map bD := cut_to (by omega)
  have c2 : cutD (r.map bD) (some ((p : Int) + 1)) none = (r.drop (p + 1)).map bD := cut_from (n := p + 1) (by omega)
  refine ⟨S.length + 2, [.lst ((r.take p).map bD), .lst ((r.drop (p + 1)).map bD), .lst ((r.take p ++ r.drop (p + 1)).map bD)], ?_, at_end2⟩
  have ad : ∀ e, addD (.ref S.length) (.ref (S.length + 1)) ⟨e, S ++ [.lst ((r.take p).map bD), .lst ((r.drop (p + 1)).map bD)]⟩ = .ret (.ref (S.length + 2)) ⟨e, S ++ [.lst ((r.take p).map bD), .lst ((r.drop (p + 1)).map bD), .lst ((r.take p ++ r.drop (p + 1)).map bD)]⟩ := fun e => by
    rw [add_bits at_end at_end1 (by simp; omega)]
    simp
  simp only [sx_op, sx_sl, sx_var, h15, kVar_, bind_ret, kSl1_, sx_noPart, kSl2_, sx_part, h4, kOp1_, sx_ret, kOp2_, addD_int, kPart_, kSl3_, slD_ref, hb, hb', kSlice_, c1, c2, List.append_assoc, List.cons_append, List.nil_append, List.length_append, List.length_cons, List.length_nil, Nat.zero_add, ad]
/-- a list cut at n, one bit put in between (and from k on) -/
theorem exp4 {X : M D} {e : List (Option D)} {S : List LO} {b n k : Nat} {u : List Bool} {v : Bool} {P1 P2 : M (Option Int)} {V : Nat} (hV : e[V]? = some (some (.ref b))) (hb : S[b]? = some (.lst (u.map bD))) (h1 : ∀ S, P1 ⟨e, S⟩ = .ret (some (n : Int)) ⟨e, S⟩) (h2 : ∀ S, P2 ⟨e, S⟩ = .ret (some (k : Int)) ⟨e, S⟩)
    (hX : ∀ g, X ⟨e, S ++ g⟩ = .ret (bD v) ⟨e, S ++ g⟩) (hn : n ≤ u.length) (hk : k ≤ u.length) (hl : u.length ≤ 100) :
    ∃ j g, mOp addD (mOp addD (mSl (mVar V) mNoPart P1) (mLst (mCons X mNil))) (mSl (mVar V) P2 mNoPart) ⟨e, S⟩ = .ret (.ref j) ⟨e, S ++ g⟩ ∧ (S ++ g)[j]? = some (.lst ((u.take n ++ [v] ++ u.drop k).map bD)) := by
  have hb' : ∀ g : List LO, (S ++ g)[b]? = some (.lst (u.map bD)) := fun g => at_old hb
  have c1 : cutD (u.map bD) none (some (n : Int)) = (u.take n).map bD := cut_to hn
  have c2 : cutD (u.map bD) (some (k : Int)) none = (u.drop k).map bD := cut_from hk
  have lk : [bD v].length ≤ LIM := Nat.le_of_ble_eq_true rfl
  refine ⟨S.length + 4, [.lst ((u.take n).map bD), .lst ([v].map bD), .lst ((u.take n ++ [v]).map bD), .lst ((u.drop k).map bD), .lst ((u.take n ++ [v] ++ u.drop k).map bD)], ?_, at_end4⟩
  have ad1 : ∀ e, addD (.ref S.length) (.ref (S.length + 1)) ⟨e, S ++ [.lst ((u.take n).map bD), .lst [bD v]]⟩ = .ret (.ref (S.length + 2)) ⟨e, S ++ [.lst ((u.take n).map bD), .lst [bD v], .lst ((u.take n ++ [v]).map bD)]⟩ := fun e => by
    refine (add_bits (a := u.take n) (b := [v]) at_end at_end1 (by simp; omega)).trans ?_
    simp
  have ad2 : ∀ e, addD (.ref (S.length + 2)) (.ref (S.length + 3)) ⟨e, S ++ [.lst ((u.take n).map bD), .lst [bD v], .lst ((u.take n ++ [v]).map bD), .lst ((u.drop k).map bD)]⟩ = .ret (.ref (S.length + 4)) ⟨e, S ++ [.lst ((u.take n).map bD), .lst [bD v], .lst ((u.take n ++ [v]).map bD), .lst ((u.drop k).map bD), .lst ((u.take n ++ [v] ++ u.drop k).map bD)]⟩ := fun e => by
    refine (add_bits (a := u.take n ++ [v]) (b := u.drop k) at_end2 at_end3 (by simp; omega)).trans ?_
    simp
  simp only [sx_op, sx_sl, sx_var, hV, kVar_, bind_ret, kSl1_, sx_noPart, kSl2_, h1, h2, hX, kOp1_, sx_ret, kOp2_, kSl3_, slD_ref, hb, hb', kSlice_, c1, c2, sx_lst, sx_cons, kCons1_, kCons2_, sx_nil, kLst_ lk, List.append_assoc, List.cons_append, List.nil_append, List.length_append, List.length_cons, List.length_nil, Nat.zero_add, ad1, ad2, List.map_cons, List.map_nil]
abbrev eL (a0 a1 a2 : Option D) (m p q l k : Nat) (a13 a14 a15 a16 a17 : Option D) : List (Option D) := [a0, a1, a2, some (.int (m : Int)), some (.int (p : Int)), some (.int (q : Int)), some (.int ((2 * m + 2 : Nat) : Int)), some (.int (l : Int)), some (.str (kS k)),
  some (stD (doubledS m p)), some (stD (exS m l)), some (stD (ledR m q m p)), some (stD (madeS m l k)), a13, a14, a15, a16, a17]
theorem two_bits {r : List Bool} {l : Nat} (h : l + 1 < r.length) : atI (((r.drop l).take (l + 2 - l)).map bD) 0 = some (bD (bit r l)) ∧ atI (((r.drop l).take (l + 2 - l)).map bD) 1 = some (bD (bit r (l + 1))) := by
  have e : (r.drop l).take (l + 2 - l) = [bit r l, bit r (l + 1)] := by
    have hl : l < r.length := by omega
    have b0 : bit r l = r[l] := by unfold bit; simp [hl]
    have b1 : bit r (l + 1) = r[l + 1] := by unfold bit; simp [h]
    rw [b0, b1, show l + 2 - l = 2 by omega, List.drop_eq_getElem_cons hl, List.drop_eq_getElem_cons h]
    rfl
  rw [e]
  exact ⟨at_0, at_1⟩
theorem row_ok {m p q l k : Nat} {r : List Bool} (h1 : 2 ≤ m) (h2 : m ≤ 6) (hp : p < m) (hq : q < m) (hl : l < m - 1) (hk : k = 4 ∨ k = 5 ∨ k = 6) (hr : r ∈ bitR m) {a0 a1 a2 a13 a15 a16 a17 : Option D} {S : List LO} :
    ∃ b15 b16 b17 g, m_law_l2 ⟨eL a0 a1 a2 m p q l k a13 (some (bt r)) a15 a16 a17, S⟩ = .ret .nx ⟨eL a0 a1 a2 m p q l k a13 (some (bt r)) b15 b16 b17, S ++ g⟩ := by
  have rl : r.length = m := bitR_mem m r hr
  have R0 : 2 * m + 2 ≤ 1000 := by omega
  have R1 : 2 * r.length ≤ 2 * m + 2 + 1 := by omega
  have s1 : mAsg (mFn listD (mCons (mVar 14) mNil)) (gNm 15) ⟨eL a0 a1 a2 m p q l k a13 (some (bt r)) a15 a16 a17, S⟩ = .ret .nx ⟨eL a0 a1 a2 m p q l k a13 (some (bt r)) (some (.ref S.length)) a16 a17, S ++ [.lst (r.map bD)]⟩ :=
    asg_r ((fn1_r (var_r rfl)).trans listD_tup) nm_r
  obtain ⟨e1, he1⟩ : ∃ e1, e1 = eL a0 a1 a2 m p q l k a13 (some (bt r)) (some (.ref S.length)) a16 a17 := ⟨_, rfl⟩
  have hb1 : (S ++ [LO.lst (r.map bD)])[S.length]? = some (.lst (r.map bD)) := at_end
  -- the copies
  obtain ⟨j1, g1, x1, y1⟩ := exp1 (e := e1) (p := p) (by rw [he1]; rfl) (by rw [he1]; rfl) hb1 (by omega) (by omega)
  obtain ⟨g1', c1⟩ := chk_ok (A := 9) (e := e1) (rows := 2 * m + 2) (sts := doubledS m p) (by rw [he1]; rfl) (by rw [he1]; rfl) (by rw [he1]; rfl) x1 (at_old hb1) y1 R0 R1 (by simp; omega) (fA h1 h2 hp).1 ((fA h1 h2 hp).2.2 r hr)
  have hb2 := at_old (g := g1') (at_old (g := g1) hb1)
  -- the exchange
  obtain ⟨j2, g2, x2, y2⟩ := exp2 (e := e1) (l := l) (by rw [he1]; rfl) (by rw [he1]; rfl) hb2 (by omega) (by omega)
  obtain ⟨g2', c2⟩ := chk_ok (A := 10) (e := e1) (rows := 2 * m + 2) (sts := exS m l) (by rw [he1]; rfl) (by rw [he1]; rfl) (by rw [he1]; rfl) x2 (at_old hb2) y2 R0 R1 (by simp [swp]; omega) (fB h1 h2 hl).1 ((fB h1 h2 hl).2.2 r hr)
  have hb3 := at_old (g := g2') (at_old (g := g2) hb2)
  -- the rest
  obtain ⟨j3, g3, x3, y3⟩ := exp3 (e := e1) (p := p) (by rw [he1]; rfl) (by rw [he1]; rfl) hb3 (by omega) (by omega)
  have hb4 := at_old (g := g3) hb3
  have s3 := asg_r (g := gNm 16) x3 nm_r
  obtain ⟨e2, he2⟩ : ∃ e2, e2 = eL a0 a1 a2 m p q l k a13 (some (bt r)) (some (.ref S.length)) (some (.ref j3)) a17 := ⟨_, rfl⟩
  have he12 : e1.set 16 (some (.ref j3)) = e2 := by rw [he1, he2]; rfl
  have bx : ∀ g, mOp ixD (mVar 15) (mVar 4) ⟨e2, (((((S ++ [LO.lst (r.map bD)]) ++ g1) ++ g1') ++ g2) ++ g2') ++ g3 ++ g⟩ = .ret (bD (bit r p)) ⟨e2, (((((S ++ [LO.lst (r.map bD)]) ++ g1) ++ g1') ++ g2) ++ g2') ++ g3 ++ g⟩ := fun g =>
    (op_r (var_r (by rw [he2]; rfl)) (var_r (by rw [he2]; rfl))).trans (ix_lst (at_old hb4) (bit_at (by omega)))
  obtain ⟨j4, g4, x4, y4⟩ := exp4 (e := e2) (V := 16) (n := q) (k := q) (v := bit r p) (P1 := mPart (mVar 5)) (P2 := mPart (mVar 5)) (X := mOp ixD (mVar 15) (mVar 4)) (by rw [he2]; rfl) y3 (fun S => by rw [he2]; rfl) (fun S => by rw [he2]; rfl) bx (by simp; omega) (by simp; omega) (by simp; omega)
  obtain ⟨g4', c4⟩ := chk_ok (A := 11) (e := e2) (rows := 2 * m + 2) (sts := ledR m q m p) (r := r) (by rw [he2]; rfl) (by rw [he2]; rfl) (by rw [he2]; rfl) x4 (at_old hb4) y4 R0 R1 (by simp; omega) (fC h1 h2 hp hq).1 (led_pass h1 h2 hq m p r hp hr (by omega) (by omega))
  have hb5 := at_old (g := g4') (at_old (g := g4) hb4)
  -- the gate
  obtain ⟨Z, hZ⟩ : ∃ Z, Z = ((((((S ++ [LO.lst (r.map bD)]) ++ g1) ++ g1') ++ g2) ++ g2') ++ g3) ++ g4 ++ g4' := ⟨_, rfl⟩
  rw [← hZ] at hb5
  have tb := two_bits (r := r) (l := l) (by omega)
  obtain ⟨g5, q5⟩ := gate_ok (S := Z ++ [.lst (((r.drop l).take (l + 2 - l)).map bD)]) (i := Z.length) (r := 0) (r2 := 1) hk at_end tb.1 tb.2
  have cm : Mz.cutD (r.map bD) (some (l : Int)) (some ((l : Int) + 2)) = ((r.drop l).take (l + 2 - l)).map bD := cut_mid (m := l + 2) (by omega) (by omega)
  obtain ⟨e3, he3⟩ : ∃ e3, e3 = eL a0 a1 a2 m p q l k a13 (some (bt r)) (some (.ref S.length)) (some (.ref j3)) (some (bD (gateB k (bit r l) (bit r (l + 1))))) := ⟨_, rfl⟩
  have s5 : mAsg (mCall F__law_gate (mCons (mTup (mCons (mVar 8) (mCons (mRet (.int 0)) (mCons (mRet (.int 1)) mNil)))) (mCons (mSl (mVar 15) (mPart (mVar 7)) (mPart (mOp addD (mVar 7) (mRet (.int 2))))) mNil))) (gNm 17) ⟨e2, Z⟩ = .ret .nx ⟨e3, (Z ++ [.lst (((r.drop l).take (l + 2 - l)).map bD)]) ++ g5⟩ := by
    rw [he2, he3]
    simp only [bind_ret, sx_seq, kSeq_nx, kSeq_rt, kSeq_bk, kSeq_ct, sx_next, sx_break, sx_cont, sx_drop, kDrop_, sx_retS, kRetS_, sx_if, kIf_t, kIf_f, sx_asg, kAsg_, kNx_, sx_nm, sx_var, kVar_, sx_ret, sx_op, kOp1_, kOp2_, sx_un, kUn_, sx_nil, sx_cons, kCons1_, kCons2_, sx_tup, sx_lst, kTup_, kLst_, sx_fn, kFn_, sx_call, sx_bool, kBool_, sx_tru, kTru_bl, sx_and, sx_or, sx_not, kAnd_t, kAnd_f, kOr_t, kOr_f, kNot_, sx_andV, sx_orV, sx_notV, kAndV_t, kAndV_f, kOrV_t, kOrV_f, kNotV_, sx_ifE, kIfE_t, kIfE_f, sx_chain, kCh1_, kCh2_, kCh3_t, kCh3_f, sx_gNil, sx_gCons, kG_, sx_gTup, gT_nm, gT_tup, gTs_nil, gTs_cons, sx_gSub, kSub1_, kSub2_, sx_par, kPar_, sx_par3, kPar3_, sx_it, kIt_tup, sx_rg1, sx_rg2, sx_for, kFor_rg, kFor_tp, sx_loopT, sx_loopT0, sx_loopR0, kGo_, kTurn_nx, kTurn_ct, kTurn_bk, kTurn_rt, sx_noPart, sx_part, kPart_, sx_sl, kSl1_, kSl2_, kSl3_, sx_lc, sx_pairs0, sx_pairs, kP1_, kP2_, kP3_, sx_dict, eqD_int, neD_int, addD_int, subD_int, ltD_int, leD_int, gtD_int, geD_int, intD_int, intD_bl, ix_t0, ix_t1, ix_t2, ix_t3, lenD_tup, tupleD_tup, listD_tup, List.getElem?_cons_zero, List.getElem?_cons_succ, List.set_cons_zero, List.set_cons_succ, List.length_cons, List.length_nil, Nat.zero_add, Nat.reduceAdd, Nat.reduceSub, Nat.reduceMul, decide_true, decide_false, Bool.not_true, Bool.not_false, Int.reduceMul, Int.reduceAdd, Int.reduceSub, Int.reduceNeg, Int.reduceLT, Int.reduceLE, Int.reducePow, Int.reduceEq, Int.reduceNe, Nat.reduceLeDiff, Nat.reduceLT, Bool.and_true, Bool.true_and, Bool.and_self, ↓reduceIte, Bool.false_eq_true, sx_mt, kMt1_, kMt2_, sx_isL, kIsL_ref, kIsL2_, absD_int, minD_int, maxD_int, negD_int, isi_tup_tuple, isi_int_int, isi_int_bool, kWh_t, kWh_f, nc1, nc2, nc3, nc4, nc5, nc6, nc7, nc8, nc9, nc10, nc11, nc12, nc13, nc14, nc15, nc16, mulD_int, mulD_intL, kRg1_, kRg2_, i62_eq, i63_eq, i64_eq, LIM, List.length_append, at_k, at_k0, set_k, set_k0, kDict_eq, kDict2_, keyP_str, keyP_int, allO_nil, allO_c, kAll_, mO_some, ixD_ref, kIx_lst, kIx_dK, kIx_dT, kIt_ref, kItr_, kFor_ref, kLoopL_, lenD_ref, kLen_lst, kLen_dK, kLen_dT, tupleD_ref, kTuple_, listD_ref, kList_, setD_ref, kSet_lst, kSetL_, kSet_dK, kSetK_, kSet_dT, kSetT_, appendD_ref, kApp_, addD_ref, kAddL_, mulD_ref, kMulL_, slD_ref, kSlice_, slD_tup, maxD_ref, minD_ref, kOnInts_, Option.bind_some, Option.map_some, maxOf, minOf, List.foldl_cons, List.foldl_nil, mergeD, putD, valD, List.any_cons, List.any_nil, Sum.inr.injEq, Sum.inl.injEq, Bool.or_false, Bool.false_or, Bool.or_true, List.find?_cons, List.find?_nil, keyK_str, keyK_int, intK_int, List.map_cons, List.map_nil, List.cons_append, List.nil_append, List.replicate, List.append_assoc] at q5
    simp only [bind_ret, sx_seq, kSeq_nx, kSeq_rt, kSeq_bk, kSeq_ct, sx_next, sx_break, sx_cont, sx_drop, kDrop_, sx_retS, kRetS_, sx_if, kIf_t, kIf_f, sx_asg, kAsg_, kNx_, sx_nm, sx_var, kVar_, sx_ret, sx_op, kOp1_, kOp2_, sx_un, kUn_, sx_nil, sx_cons, kCons1_, kCons2_, sx_tup, sx_lst, kTup_, kLst_, sx_fn, kFn_, sx_call, sx_bool, kBool_, sx_tru, kTru_bl, sx_and, sx_or, sx_not, kAnd_t, kAnd_f, kOr_t, kOr_f, kNot_, sx_andV, sx_orV, sx_notV, kAndV_t, kAndV_f, kOrV_t, kOrV_f, kNotV_, sx_ifE, kIfE_t, kIfE_f, sx_chain, kCh1_, kCh2_, kCh3_t, kCh3_f, sx_gNil, sx_gCons, kG_, sx_gTup, gT_nm, gT_tup, gTs_nil, gTs_cons, sx_gSub, kSub1_, kSub2_, sx_par, kPar_, sx_par3, kPar3_, sx_it, kIt_tup, sx_rg1, sx_rg2, sx_for, kFor_rg, kFor_tp, sx_loopT, sx_loopT0, sx_loopR0, kGo_, kTurn_nx, kTurn_ct, kTurn_bk, kTurn_rt, sx_noPart, sx_part, kPart_, sx_sl, kSl1_, kSl2_, kSl3_, sx_lc, sx_pairs0, sx_pairs, kP1_, kP2_, kP3_, sx_dict, eqD_int, neD_int, addD_int, subD_int, ltD_int, leD_int, gtD_int, geD_int, intD_int, intD_bl, ix_t0, ix_t1, ix_t2, ix_t3, lenD_tup, tupleD_tup, listD_tup, List.getElem?_cons_zero, List.getElem?_cons_succ, List.set_cons_zero, List.set_cons_succ, List.length_cons, List.length_nil, Nat.zero_add, Nat.reduceAdd, Nat.reduceSub, Nat.reduceMul, decide_true, decide_false, Bool.not_true, Bool.not_false, Int.reduceMul, Int.reduceAdd, Int.reduceSub, Int.reduceNeg, Int.reduceLT, Int.reduceLE, Int.reducePow, Int.reduceEq, Int.reduceNe, Nat.reduceLeDiff, Nat.reduceLT, Bool.and_true, Bool.true_and, Bool.and_self, ↓reduceIte, Bool.false_eq_true, sx_mt, kMt1_, kMt2_, sx_isL, kIsL_ref, kIsL2_, absD_int, minD_int, maxD_int, negD_int, isi_tup_tuple, isi_int_int, isi_int_bool, kWh_t, kWh_f, nc1, nc2, nc3, nc4, nc5, nc6, nc7, nc8, nc9, nc10, nc11, nc12, nc13, nc14, nc15, nc16, mulD_int, mulD_intL, kRg1_, kRg2_, i62_eq, i63_eq, i64_eq, LIM, List.length_append, at_k, at_k0, set_k, set_k0, kDict_eq, kDict2_, keyP_str, keyP_int, allO_nil, allO_c, kAll_, mO_some, ixD_ref, kIx_lst, kIx_dK, kIx_dT, kIt_ref, kItr_, kFor_ref, kLoopL_, lenD_ref, kLen_lst, kLen_dK, kLen_dT, tupleD_ref, kTuple_, listD_ref, kList_, setD_ref, kSet_lst, kSetL_, kSet_dK, kSetK_, kSet_dT, kSetT_, appendD_ref, kApp_, addD_ref, kAddL_, mulD_ref, kMulL_, slD_ref, kSlice_, slD_tup, maxD_ref, minD_ref, kOnInts_, Option.bind_some, Option.map_some, maxOf, minOf, List.foldl_cons, List.foldl_nil, mergeD, putD, valD, List.any_cons, List.any_nil, Sum.inr.injEq, Sum.inl.injEq, Bool.or_false, Bool.false_or, Bool.or_true, List.find?_cons, List.find?_nil, keyK_str, keyK_int, intK_int, List.map_cons, List.map_nil, List.cons_append, List.nil_append, List.replicate, List.append_assoc, hb5, cm, kCall_ q5]
  have hb6 : ((Z ++ [.lst (((r.drop l).take (l + 2 - l)).map bD)]) ++ g5)[S.length]? = some (.lst (r.map bD)) := at_old (at_old hb5)
  obtain ⟨j6, g6, x6, y6⟩ := exp4 (e := e3) (V := 15) (n := l) (k := l + 2) (v := gateB k (bit r l) (bit r (l + 1))) (P1 := mPart (mVar 7)) (P2 := mPart (mOp addD (mVar 7) (mRet (.int 2)))) (X := mVar 17) (by rw [he3]; rfl) hb6 (fun S => by rw [he3]; rfl) (fun S => by rw [he3]; rfl) (fun g => by rw [he3]; rfl) (by omega) (by omega) (by omega)
  obtain ⟨g6', c6⟩ := chk_ok (A := 12) (e := e3) (rows := 2 * m + 2) (sts := madeS m l k) (r := r) (by rw [he3]; rfl) (by rw [he3]; rfl) (by rw [he3]; rfl) x6 (at_old hb6) y6 R0 R1 (by simp; omega) (fD h1 h2 hl hk).1 ((fD h1 h2 hl hk).2.2 r hr)
  refine ⟨some (.ref S.length), some (.ref j3), some (bD (gateB k (bit r l) (bit r (l + 1)))), [LO.lst (r.map bD)] ++ g1 ++ g1' ++ g2 ++ g2' ++ g3 ++ g4 ++ g4' ++ [.lst (((r.drop l).take (l + 2 - l)).map bD)] ++ g5 ++ g6 ++ g6', ?_⟩
  unfold m_law_l2
  rw [seq_r s1, ← he1, seq_r c1, seq_r c2, seq_r s3, he12, seq_r c4, ← hZ, seq_r s5, c6, hZ, he3]
  simp only [List.append_assoc]
end K21

set_option Elab.async false
set_option linter.all false
set_option maxRecDepth 100000
set_option maxHeartbeats 4000000
namespace K21
open PySem PySem.Spec PyProof.Rows L2 Mz
/-! ### equality of stages -/
def tP (t : Tile) : PyData := .tuple [.str (kS t.1), .int (t.2 : Int)]
def stP (sts : List (List Tile)) : PyData := .tuple (sts.map fun ts => .tuple (ts.map tP))
theorem toP_st (st : List LO) (sts : List (List Tile)) : toP st 66 (stD sts) = some (stP sts) := by
  show (allO (toP st 65) (sts.map fun ts => D.tup (ts.map tD))).map PyData.tuple = _
  rw [allO_map (f := toP st 65) (g := fun ts : List Tile => D.tup (ts.map tD)) (h := fun ts => PyData.tuple (ts.map tP)) (fun ts => by
    show (allO (toP st 64) (ts.map tD)).map PyData.tuple = _
    rw [allO_map (f := toP st 64) (g := tD) (h := tP) (fun t => rfl)]
    rfl)]
  rfl
theorem lay_t (t : Tile) : (tP t).canLay0 = true := by
  have := SeqAt.canLay_of_shaped (kS_sh t.1)
  simp [tP, PyData.canLay0, PyData.canLayAll0, this] at this ⊢
  simpa [PyData.canLay0] using this
theorem lay_ts : ∀ ts : List Tile, PyData.canLayAll0 (ts.map tP) = true
  | [] => by simp [PyData.canLayAll0]
  | t :: ts => by simp [PyData.canLayAll0, lay_t, lay_ts ts]
theorem lay_sts : ∀ sts : List (List Tile), PyData.canLayAll0 (sts.map fun ts => PyData.tuple (ts.map tP)) = true
  | [] => by simp [PyData.canLayAll0]
  | ts :: sts => by
    have := lay_sts sts
    simp [PyData.canLayAll0, PyData.canLay0, lay_ts, this]
theorem dep_ts : ∀ ts : List Tile, PyData.depthAll (ts.map tP) ≤ 1
  | [] => by simp [PyData.depthAll]
  | t :: ts => by
    have := dep_ts ts
    simp [PyData.depthAll, tP, PyData.depth, this]
theorem dep_sts : ∀ sts : List (List Tile), PyData.depthAll (sts.map fun ts => PyData.tuple (ts.map tP)) ≤ 2
  | [] => by simp [PyData.depthAll]
  | ts :: sts => by
    have h1 := dep_sts sts
    have h2 := dep_ts ts
    simp only [List.map_cons, PyData.depthAll, PyData.depth]
    omega
theorem sh_st (sts : List (List Tile)) : SeqAt.shaped (stP sts) = true := by
  have h := dep_sts sts
  unfold SeqAt.shaped stP
  rw [Bool.and_eq_true]
  refine ⟨?_, decide_eq_true ?_⟩
  · simp only [PyData.canLay0]
    exact lay_sts sts
  · simp only [PyData.depth]
    omega
theorem ne_st {e : List (Option D)} {st : List LO} (sts : List (List Tile)) : neD (stD sts) (stD sts) ⟨e, st⟩ = .ret (.bl false) ⟨e, st⟩ := neD_same (toP_st _ _) (toP_st _ _) (sh_st _)
theorem eq_st {e : List (Option D)} {st : List LO} (sts : List (List Tile)) : eqD (stD sts) (stD sts) ⟨e, st⟩ = .ret (.bl true) ⟨e, st⟩ := eqD_same (toP_st _ _) (toP_st _ _) (sh_st _)
/-! ### the loops of a lap -/
theorem are_step {e : List (Option D)} {S : List LO} {rows : Nat} {sts : List (List Tile)} (h13 : e[13]? = some (some (stD sts))) (h6 : e[6]? = some (some (.int (rows : Int)))) (h : (sts.all fun ts => areT rows (-1) ts) = true) : ∃ g, m_law_l1 ⟨e, S⟩ = .ret .nx ⟨e, S ++ g⟩ := by
  obtain ⟨g, q⟩ := are_ok (S := S) h
  refine ⟨g, ?_⟩
  unfold m_law_l1
  simp only [bind_ret, sx_seq, kSeq_nx, kSeq_rt, kSeq_bk, kSeq_ct, sx_next, sx_break, sx_cont, sx_drop, kDrop_, sx_retS, kRetS_, sx_if, kIf_t, kIf_f, sx_asg, kAsg_, kNx_, sx_nm, sx_var, kVar_, sx_ret, sx_op, kOp1_, kOp2_, sx_un, kUn_, sx_nil, sx_cons, kCons1_, kCons2_, sx_tup, sx_lst, kTup_, kLst_, sx_fn, kFn_, sx_call, sx_bool, kBool_, sx_tru, kTru_bl, sx_and, sx_or, sx_not, kAnd_t, kAnd_f, kOr_t, kOr_f, kNot_, sx_andV, sx_orV, sx_notV, kAndV_t, kAndV_f, kOrV_t, kOrV_f, kNotV_, sx_ifE, kIfE_t, kIfE_f, sx_chain, kCh1_, kCh2_, kCh3_t, kCh3_f, sx_gNil, sx_gCons, kG_, sx_gTup, gT_nm, gT_tup, gTs_nil, gTs_cons, sx_gSub, kSub1_, kSub2_, sx_par, kPar_, sx_par3, kPar3_, sx_it, kIt_tup, sx_rg1, sx_rg2, sx_for, kFor_rg, kFor_tp, sx_loopT, sx_loopT0, sx_loopR0, kGo_, kTurn_nx, kTurn_ct, kTurn_bk, kTurn_rt, sx_noPart, sx_part, kPart_, sx_sl, kSl1_, kSl2_, kSl3_, sx_lc, sx_pairs0, sx_pairs, kP1_, kP2_, kP3_, sx_dict, eqD_int, neD_int, addD_int, subD_int, ltD_int, leD_int, gtD_int, geD_int, intD_int, intD_bl, ix_t0, ix_t1, ix_t2, ix_t3, lenD_tup, tupleD_tup, listD_tup, List.getElem?_cons_zero, List.getElem?_cons_succ, List.set_cons_zero, List.set_cons_succ, List.length_cons, List.length_nil, Nat.zero_add, Nat.reduceAdd, Nat.reduceSub, Nat.reduceMul, decide_true, decide_false, Bool.not_true, Bool.not_false, Int.reduceMul, Int.reduceAdd, Int.reduceSub, Int.reduceNeg, Int.reduceLT, Int.reduceLE, Int.reducePow, Int.reduceEq, Int.reduceNe, Nat.reduceLeDiff, Nat.reduceLT, Bool.and_true, Bool.true_and, Bool.and_self, ↓reduceIte, Bool.false_eq_true, sx_mt, kMt1_, kMt2_, sx_isL, kIsL_ref, kIsL2_, absD_int, minD_int, maxD_int, negD_int, isi_tup_tuple, isi_int_int, isi_int_bool, kWh_t, kWh_f, nc1, nc2, nc3, nc4, nc5, nc6, nc7, nc8, nc9, nc10, nc11, nc12, nc13, nc14, nc15, nc16, mulD_int, mulD_intL, kRg1_, kRg2_, i62_eq, i63_eq, i64_eq, LIM, List.length_append, at_k, at_k0, set_k, set_k0, kDict_eq, kDict2_, keyP_str, keyP_int, allO_nil, allO_c, kAll_, mO_some, ixD_ref, kIx_lst, kIx_dK, kIx_dT, kIt_ref, kItr_, kFor_ref, kLoopL_, lenD_ref, kLen_lst, kLen_dK, kLen_dT, tupleD_ref, kTuple_, listD_ref, kList_, setD_ref, kSet_lst, kSetL_, kSet_dK, kSetK_, kSet_dT, kSetT_, appendD_ref, kApp_, addD_ref, kAddL_, mulD_ref, kMulL_, slD_ref, kSlice_, slD_tup, maxD_ref, minD_ref, kOnInts_, Option.bind_some, Option.map_some, maxOf, minOf, List.foldl_cons, List.foldl_nil, mergeD, putD, valD, List.any_cons, List.any_nil, Sum.inr.injEq, Sum.inl.injEq, Bool.or_false, Bool.false_or, Bool.or_true, List.find?_cons, List.find?_nil, keyK_str, keyK_int, intK_int, List.map_cons, List.map_nil, List.cons_append, List.nil_append, List.replicate, List.append_assoc, h13, h6, kCall_ q]
theorem rows_loop {m p q l k j : Nat} (h1 : 2 ≤ m) (h2 : m ≤ 6) (hp : p < m) (hq : q < m) (hl : l < m - 1) (hk : k = 4 ∨ k = 5 ∨ k = 6) {a0 a1 a2 a13 : Option D} : ∀ (n i : Nat) (a14 a15 a16 a17 : Option D) (S : List LO), n + i = (bitR m).length → S[j]? = some (.lst ((bitR m).map bt)) →
    ∃ b14 b15 b16 b17 g, loopL (gNm 14) m_law_l2 j n i ⟨eL a0 a1 a2 m p q l k a13 a14 a15 a16 a17, S⟩ = .ret .nx ⟨eL a0 a1 a2 m p q l k a13 b14 b15 b16 b17, S ++ g⟩
  | 0, i, a14, a15, a16, a17, S, hn, hj => ⟨a14, a15, a16, a17, [], by rw [List.append_nil]; exact sx_loopL0 hj (by simp; omega)⟩
  | n + 1, i, a14, a15, a16, a17, S, hn, hj => by
    have hi : i < (bitR m).length := by omega
    have hx : ((bitR m).map bt)[i]? = some (bt (bitR m)[i]) := by simp [hi]
    obtain ⟨b15, b16, b17, g1, q1⟩ := row_ok (q := q) h1 h2 hp hq hl hk (List.getElem_mem hi) (a0 := a0) (a1 := a1) (a2 := a2) (a13 := a13) (a15 := a15) (a16 := a16) (a17 := a17) (S := S)
    obtain ⟨c14, c15, c16, c17, g2, q2⟩ := rows_loop h1 h2 hp hq hl hk (a0 := a0) (a1 := a1) (a2 := a2) (a13 := a13) n (i + 1) (some (bt (bitR m)[i])) b15 b16 b17 (S ++ g1) (by omega) (at_old hj)
    refine ⟨c14, c15, c16, c17, g1 ++ g2, ?_⟩
    rw [sx_loopL hj hx, nm_r, bind_ret, kGo_]
    show ((m_law_l2 ⟨eL a0 a1 a2 m p q l k a13 (some (bt (bitR m)[i])) a15 a16 a17, S⟩).bind _) = _
    rw [q1, bind_ret, kTurn_nx, q2, List.append_assoc]
theorem rest_ok {m p q l k : Nat} (h1 : 2 ≤ m) (h2 : m ≤ 6) (hp : p < m) (hq : q < m) (hl : l < m - 1) (hk : k = 4 ∨ k = 5 ∨ k = 6) {a0 a1 a2 a13 a14 a15 a16 a17 : Option D} {S : List LO} :
    ∃ b13 b14 b15 b16 b17 g, (mSeq (mIfS (mOr (mBool (mOp neD (mVar 9) (mCall F__law_doubled_stages (mCons (mVar 3) (mCons (mVar 4) mNil))))) (mBool (mOp neD (mVar 10) (mCall F__law_own_exchanged (mCons (mVar 3) (mCons (mVar 7) mNil)))))) (mRetS (mRet (.bl false))) mNext)
    (mSeq (mIfS (mOr (mBool (mOp neD (mVar 11) (mCall F__law_led_stages (mCons (mVar 3) (mCons (mVar 4) (mCons (mVar 5) mNil)))))) (mBool (mOp neD (mVar 12) (mCall F__law_made_stages (mCons (mVar 3) (mCons (mVar 7) (mCons (mVar 8) mNil))))))) (mRetS (mRet (.bl false))) mNext)
    (mSeq (mFor (mIt (mLst (mCons (mVar 9) (mCons (mVar 10) (mCons (mVar 11) (mCons (mVar 12) mNil)))))) (gNm 13) m_law_l1)
    (mFor (mIt (mCall F__law_bit_rows (mCons (mVar 3) mNil))) (gNm 14) m_law_l2)))) ⟨eL a0 a1 a2 m p q l k a13 a14 a15 a16 a17, S⟩ = .ret .nx ⟨eL a0 a1 a2 m p q l k b13 b14 b15 b16 b17, S ++ g⟩ := by
  obtain ⟨g1, q1⟩ := odoubled_ok (m := m) (p := p) (S := S) (by omega) (by omega)
  obtain ⟨g2, q2⟩ := oexch_ok (m := m) (p := l) (S := S ++ g1) (by omega) (by omega)
  obtain ⟨g3, q3⟩ := oled_ok (m := m) (p := p) (q := q) (S := S ++ g1 ++ g2) (by omega) (by omega) (by omega)
  obtain ⟨g4, q4⟩ := omade_ok (m := m) (p := l) (k := k) (S := S ++ g1 ++ g2 ++ g3) (by omega) (by omega)
  obtain ⟨e, he⟩ : ∃ e, e = eL a0 a1 a2 m p q l k a13 a14 a15 a16 a17 := ⟨_, rfl⟩
  have v3 : e[3]? = some (some (.int (m : Int))) := by rw [he]; rfl
  have v4 : e[4]? = some (some (.int (p : Int))) := by rw [he]; rfl
  have v5 : e[5]? = some (some (.int (q : Int))) := by rw [he]; rfl
  have v7 : e[7]? = some (some (.int (l : Int))) := by rw [he]; rfl
  have v8 : e[8]? = some (some (.str (kS k))) := by rw [he]; rfl
  have v9 : e[9]? = some (some (stD (doubledS m p))) := by rw [he]; rfl
  have v10 : e[10]? = some (some (stD (exS m l))) := by rw [he]; rfl
  have v11 : e[11]? = some (some (stD (ledR m q m p))) := by rw [he]; rfl
  have v12 : e[12]? = some (some (stD (madeS m l k))) := by rw [he]; rfl
  have i1 : mIfS (mOr (mBool (mOp neD (mVar 9) (mCall F__law_doubled_stages (mCons (mVar 3) (mCons (mVar 4) mNil))))) (mBool (mOp neD (mVar 10) (mCall F__law_own_exchanged (mCons (mVar 3) (mCons (mVar 7) mNil)))))) (mRetS (mRet (.bl false))) mNext ⟨e, S⟩ = .ret .nx ⟨e, S ++ g1 ++ g2⟩ := by
    simp only [bind_ret, sx_seq, kSeq_nx, kSeq_rt, kSeq_bk, kSeq_ct, sx_next, sx_break, sx_cont, sx_drop, kDrop_, sx_retS, kRetS_, sx_if, kIf_t, kIf_f, sx_asg, kAsg_, kNx_, sx_nm, sx_var, kVar_, sx_ret, sx_op, kOp1_, kOp2_, sx_un, kUn_, sx_nil, sx_cons, kCons1_, kCons2_, sx_tup, sx_lst, kTup_, kLst_, sx_fn, kFn_, sx_call, sx_bool, kBool_, sx_tru, kTru_bl, sx_and, sx_or, sx_not, kAnd_t, kAnd_f, kOr_t, kOr_f, kNot_, sx_andV, sx_orV, sx_notV, kAndV_t, kAndV_f, kOrV_t, kOrV_f, kNotV_, sx_ifE, kIfE_t, kIfE_f, sx_chain, kCh1_, kCh2_, kCh3_t, kCh3_f, sx_gNil, sx_gCons, kG_, sx_gTup, gT_nm, gT_tup, gTs_nil, gTs_cons, sx_gSub, kSub1_, kSub2_, sx_par, kPar_, sx_par3, kPar3_, sx_it, kIt_tup, sx_rg1, sx_rg2, sx_for, kFor_rg, kFor_tp, sx_loopT, sx_loopT0, sx_loopR0, kGo_, kTurn_nx, kTurn_ct, kTurn_bk, kTurn_rt, sx_noPart, sx_part, kPart_, sx_sl, kSl1_, kSl2_, kSl3_, sx_lc, sx_pairs0, sx_pairs, kP1_, kP2_, kP3_, sx_dict, eqD_int, neD_int, addD_int, subD_int, ltD_int, leD_int, gtD_int, geD_int, intD_int, intD_bl, ix_t0, ix_t1, ix_t2, ix_t3, lenD_tup, tupleD_tup, listD_tup, List.getElem?_cons_zero, List.getElem?_cons_succ, List.set_cons_zero, List.set_cons_succ, List.length_cons, List.length_nil, Nat.zero_add, Nat.reduceAdd, Nat.reduceSub, Nat.reduceMul, decide_true, decide_false, Bool.not_true, Bool.not_false, Int.reduceMul, Int.reduceAdd, Int.reduceSub, Int.reduceNeg, Int.reduceLT, Int.reduceLE, Int.reducePow, Int.reduceEq, Int.reduceNe, Nat.reduceLeDiff, Nat.reduceLT, Bool.and_true, Bool.true_and, Bool.and_self, ↓reduceIte, Bool.false_eq_true, sx_mt, kMt1_, kMt2_, sx_isL, kIsL_ref, kIsL2_, absD_int, minD_int, maxD_int, negD_int, isi_tup_tuple, isi_int_int, isi_int_bool, kWh_t, kWh_f, nc1, nc2, nc3, nc4, nc5, nc6, nc7, nc8, nc9, nc10, nc11, nc12, nc13, nc14, nc15, nc16, mulD_int, mulD_intL, kRg1_, kRg2_, i62_eq, i63_eq, i64_eq, LIM, List.length_append, at_k, at_k0, set_k, set_k0, kDict_eq, kDict2_, keyP_str, keyP_int, allO_nil, allO_c, kAll_, mO_some, ixD_ref, kIx_lst, kIx_dK, kIx_dT, kIt_ref, kItr_, kFor_ref, kLoopL_, lenD_ref, kLen_lst, kLen_dK, kLen_dT, tupleD_ref, kTuple_, listD_ref, kList_, setD_ref, kSet_lst, kSetL_, kSet_dK, kSetK_, kSet_dT, kSetT_, appendD_ref, kApp_, addD_ref, kAddL_, mulD_ref, kMulL_, slD_ref, kSlice_, slD_tup, maxD_ref, minD_ref, kOnInts_, Option.bind_some, Option.map_some, maxOf, minOf, List.foldl_cons, List.foldl_nil, mergeD, putD, valD, List.any_cons, List.any_nil, Sum.inr.injEq, Sum.inl.injEq, Bool.or_false, Bool.false_or, Bool.or_true, List.find?_cons, List.find?_nil, keyK_str, keyK_int, intK_int, List.map_cons, List.map_nil, List.cons_append, List.nil_append, List.replicate, List.append_assoc] at q1 q2 ⊢
    simp only [bind_ret, sx_seq, kSeq_nx, kSeq_rt, kSeq_bk, kSeq_ct, sx_next, sx_break, sx_cont, sx_drop, kDrop_, sx_retS, kRetS_, sx_if, kIf_t, kIf_f, sx_asg, kAsg_, kNx_, sx_nm, sx_var, kVar_, sx_ret, sx_op, kOp1_, kOp2_, sx_un, kUn_, sx_nil, sx_cons, kCons1_, kCons2_, sx_tup, sx_lst, kTup_, kLst_, sx_fn, kFn_, sx_call, sx_bool, kBool_, sx_tru, kTru_bl, sx_and, sx_or, sx_not, kAnd_t, kAnd_f, kOr_t, kOr_f, kNot_, sx_andV, sx_orV, sx_notV, kAndV_t, kAndV_f, kOrV_t, kOrV_f, kNotV_, sx_ifE, kIfE_t, kIfE_f, sx_chain, kCh1_, kCh2_, kCh3_t, kCh3_f, sx_gNil, sx_gCons, kG_, sx_gTup, gT_nm, gT_tup, gTs_nil, gTs_cons, sx_gSub, kSub1_, kSub2_, sx_par, kPar_, sx_par3, kPar3_, sx_it, kIt_tup, sx_rg1, sx_rg2, sx_for, kFor_rg, kFor_tp, sx_loopT, sx_loopT0, sx_loopR0, kGo_, kTurn_nx, kTurn_ct, kTurn_bk, kTurn_rt, sx_noPart, sx_part, kPart_, sx_sl, kSl1_, kSl2_, kSl3_, sx_lc, sx_pairs0, sx_pairs, kP1_, kP2_, kP3_, sx_dict, eqD_int, neD_int, addD_int, subD_int, ltD_int, leD_int, gtD_int, geD_int, intD_int, intD_bl, ix_t0, ix_t1, ix_t2, ix_t3, lenD_tup, tupleD_tup, listD_tup, List.getElem?_cons_zero, List.getElem?_cons_succ, List.set_cons_zero, List.set_cons_succ, List.length_cons, List.length_nil, Nat.zero_add, Nat.reduceAdd, Nat.reduceSub, Nat.reduceMul, decide_true, decide_false, Bool.not_true, Bool.not_false, Int.reduceMul, Int.reduceAdd, Int.reduceSub, Int.reduceNeg, Int.reduceLT, Int.reduceLE, Int.reducePow, Int.reduceEq, Int.reduceNe, Nat.reduceLeDiff, Nat.reduceLT, Bool.and_true, Bool.true_and, Bool.and_self, ↓reduceIte, Bool.false_eq_true, sx_mt, kMt1_, kMt2_, sx_isL, kIsL_ref, kIsL2_, absD_int, minD_int, maxD_int, negD_int, isi_tup_tuple, isi_int_int, isi_int_bool, kWh_t, kWh_f, nc1, nc2, nc3, nc4, nc5, nc6, nc7, nc8, nc9, nc10, nc11, nc12, nc13, nc14, nc15, nc16, mulD_int, mulD_intL, kRg1_, kRg2_, i62_eq, i63_eq, i64_eq, LIM, List.length_append, at_k, at_k0, set_k, set_k0, kDict_eq, kDict2_, keyP_str, keyP_int, allO_nil, allO_c, kAll_, mO_some, ixD_ref, kIx_lst, kIx_dK, kIx_dT, kIt_ref, kItr_, kFor_ref, kLoopL_, lenD_ref, kLen_lst, kLen_dK, kLen_dT, tupleD_ref, kTuple_, listD_ref, kList_, setD_ref, kSet_lst, kSetL_, kSet_dK, kSetK_, kSet_dT, kSetT_, appendD_ref, kApp_, addD_ref, kAddL_, mulD_ref, kMulL_, slD_ref, kSlice_, slD_tup, maxD_ref, minD_ref, kOnInts_, Option.bind_some, Option.map_some, maxOf, minOf, List.foldl_cons, List.foldl_nil, mergeD, putD, valD, List.any_cons, List.any_nil, Sum.inr.injEq, Sum.inl.injEq, Bool.or_false, Bool.false_or, Bool.or_true, List.find?_cons, List.find?_nil, keyK_str, keyK_int, intK_int, List.map_cons, List.map_nil, List.cons_append, List.nil_append, List.replicate, List.append_assoc, v3, v4, v7, v9, v10, kCall_ q1, kCall_ q2, ne_st]
  have i2 : mIfS (mOr (mBool (mOp neD (mVar 11) (mCall F__law_led_stages (mCons (mVar 3) (mCons (mVar 4) (mCons (mVar 5) mNil)))))) (mBool (mOp neD (mVar 12) (mCall F__law_made_stages (mCons (mVar 3) (mCons (mVar 7) (mCons (mVar 8) mNil))))))) (mRetS (mRet (.bl false))) mNext ⟨e, S ++ g1 ++ g2⟩ = .ret .nx ⟨e, S ++ g1 ++ g2 ++ g3 ++ g4⟩ := by
    generalize S ++ g1 ++ g2 = Z at *
    simp only [bind_ret, sx_seq, kSeq_nx, kSeq_rt, kSeq_bk, kSeq_ct, sx_next, sx_break, sx_cont, sx_drop, kDrop_, sx_retS, kRetS_, sx_if, kIf_t, kIf_f, sx_asg, kAsg_, kNx_, sx_nm, sx_var, kVar_, sx_ret, sx_op, kOp1_, kOp2_, sx_un, kUn_, sx_nil, sx_cons, kCons1_, kCons2_, sx_tup, sx_lst, kTup_, kLst_, sx_fn, kFn_, sx_call, sx_bool, kBool_, sx_tru, kTru_bl, sx_and, sx_or, sx_not, kAnd_t, kAnd_f, kOr_t, kOr_f, kNot_, sx_andV, sx_orV, sx_notV, kAndV_t, kAndV_f, kOrV_t, kOrV_f, kNotV_, sx_ifE, kIfE_t, kIfE_f, sx_chain, kCh1_, kCh2_, kCh3_t, kCh3_f, sx_gNil, sx_gCons, kG_, sx_gTup, gT_nm, gT_tup, gTs_nil, gTs_cons, sx_gSub, kSub1_, kSub2_, sx_par, kPar_, sx_par3, kPar3_, sx_it, kIt_tup, sx_rg1, sx_rg2, sx_for, kFor_rg, kFor_tp, sx_loopT, sx_loopT0, sx_loopR0, kGo_, kTurn_nx, kTurn_ct, kTurn_bk, kTurn_rt, sx_noPart, sx_part, kPart_, sx_sl, kSl1_, kSl2_, kSl3_, sx_lc, sx_pairs0, sx_pairs, kP1_, kP2_, kP3_, sx_dict, eqD_int, neD_int, addD_int, subD_int, ltD_int, leD_int, gtD_int, geD_int, intD_int, intD_bl, ix_t0, ix_t1, ix_t2, ix_t3, lenD_tup, tupleD_tup, listD_tup, List.getElem?_cons_zero, List.getElem?_cons_succ, List.set_cons_zero, List.set_cons_succ, List.length_cons, List.length_nil, Nat.zero_add, Nat.reduceAdd, Nat.reduceSub, Nat.reduceMul, decide_true, decide_false, Bool.not_true, Bool.not_false, Int.reduceMul, Int.reduceAdd, Int.reduceSub, Int.reduceNeg, Int.reduceLT, Int.reduceLE, Int.reducePow, Int.reduceEq, Int.reduceNe, Nat.reduceLeDiff, Nat.reduceLT, Bool.and_true, Bool.true_and, Bool.and_self, ↓reduceIte, Bool.false_eq_true, sx_mt, kMt1_, kMt2_, sx_isL, kIsL_ref, kIsL2_, absD_int, minD_int, maxD_int, negD_int, isi_tup_tuple, isi_int_int, isi_int_bool, kWh_t, kWh_f, nc1, nc2, nc3, nc4, nc5, nc6, nc7, nc8, nc9, nc10, nc11, nc12, nc13, nc14, nc15, nc16, mulD_int, mulD_intL, kRg1_, kRg2_, i62_eq, i63_eq, i64_eq, LIM, List.length_append, at_k, at_k0, set_k, set_k0, kDict_eq, kDict2_, keyP_str, keyP_int, allO_nil, allO_c, kAll_, mO_some, ixD_ref, kIx_lst, kIx_dK, kIx_dT, kIt_ref, kItr_, kFor_ref, kLoopL_, lenD_ref, kLen_lst, kLen_dK, kLen_dT, tupleD_ref, kTuple_, listD_ref, kList_, setD_ref, kSet_lst, kSetL_, kSet_dK, kSetK_, kSet_dT, kSetT_, appendD_ref, kApp_, addD_ref, kAddL_, mulD_ref, kMulL_, slD_ref, kSlice_, slD_tup, maxD_ref, minD_ref, kOnInts_, Option.bind_some, Option.map_some, maxOf, minOf, List.foldl_cons, List.foldl_nil, mergeD, putD, valD, List.any_cons, List.any_nil, Sum.inr.injEq, Sum.inl.injEq, Bool.or_false, Bool.false_or, Bool.or_true, List.find?_cons, List.find?_nil, keyK_str, keyK_int, intK_int, List.map_cons, List.map_nil, List.cons_append, List.nil_append, List.replicate, List.append_assoc] at q3 q4 ⊢
    simp only [bind_ret, sx_seq, kSeq_nx, kSeq_rt, kSeq_bk, kSeq_ct, sx_next, sx_break, sx_cont, sx_drop, kDrop_, sx_retS, kRetS_, sx_if, kIf_t, kIf_f, sx_asg, kAsg_, kNx_, sx_nm, sx_var, kVar_, sx_ret, sx_op, kOp1_, kOp2_, sx_un, kUn_, sx_nil, sx_cons, kCons1_, kCons2_, sx_tup, sx_lst, kTup_, kLst_, sx_fn, kFn_, sx_call, sx_bool, kBool_, sx_tru, kTru_bl, sx_and, sx_or, sx_not, kAnd_t, kAnd_f, kOr_t, kOr_f, kNot_, sx_andV, sx_orV, sx_notV, kAndV_t, kAndV_f, kOrV_t, kOrV_f, kNotV_, sx_ifE, kIfE_t, kIfE_f, sx_chain, kCh1_, kCh2_, kCh3_t, kCh3_f, sx_gNil, sx_gCons, kG_, sx_gTup, gT_nm, gT_tup, gTs_nil, gTs_cons, sx_gSub, kSub1_, kSub2_, sx_par, kPar_, sx_par3, kPar3_, sx_it, kIt_tup, sx_rg1, sx_rg2, sx_for, kFor_rg, kFor_tp, sx_loopT, sx_loopT0, sx_loopR0, kGo_, kTurn_nx, kTurn_ct, kTurn_bk, kTurn_rt, sx_noPart, sx_part, kPart_, sx_sl, kSl1_, kSl2_, kSl3_, sx_lc, sx_pairs0, sx_pairs, kP1_, kP2_, kP3_, sx_dict, eqD_int, neD_int, addD_int, subD_int, ltD_int, leD_int, gtD_int, geD_int, intD_int, intD_bl, ix_t0, ix_t1, ix_t2, ix_t3, lenD_tup, tupleD_tup, listD_tup, List.getElem?_cons_zero, List.getElem?_cons_succ, List.set_cons_zero, List.set_cons_succ, List.length_cons, List.length_nil, Nat.zero_add, Nat.reduceAdd, Nat.reduceSub, Nat.reduceMul, decide_true, decide_false, Bool.not_true, Bool.not_false, Int.reduceMul, Int.reduceAdd, Int.reduceSub, Int.reduceNeg, Int.reduceLT, Int.reduceLE, Int.reducePow, Int.reduceEq, Int.reduceNe, Nat.reduceLeDiff, Nat.reduceLT, Bool.and_true, Bool.true_and, Bool.and_self, ↓reduceIte, Bool.false_eq_true, sx_mt, kMt1_, kMt2_, sx_isL, kIsL_ref, kIsL2_, absD_int, minD_int, maxD_int, negD_int, isi_tup_tuple, isi_int_int, isi_int_bool, kWh_t, kWh_f, nc1, nc2, nc3, nc4, nc5, nc6, nc7, nc8, nc9, nc10, nc11, nc12, nc13, nc14, nc15, nc16, mulD_int, mulD_intL, kRg1_, kRg2_, i62_eq, i63_eq, i64_eq, LIM, List.length_append, at_k, at_k0, set_k, set_k0, kDict_eq, kDict2_, keyP_str, keyP_int, allO_nil, allO_c, kAll_, mO_some, ixD_ref, kIx_lst, kIx_dK, kIx_dT, kIt_ref, kItr_, kFor_ref, kLoopL_, lenD_ref, kLen_lst, kLen_dK, kLen_dT, tupleD_ref, kTuple_, listD_ref, kList_, setD_ref, kSet_lst, kSetL_, kSet_dK, kSetK_, kSet_dT, kSetT_, appendD_ref, kApp_, addD_ref, kAddL_, mulD_ref, kMulL_, slD_ref, kSlice_, slD_tup, maxD_ref, minD_ref, kOnInts_, Option.bind_some, Option.map_some, maxOf, minOf, List.foldl_cons, List.foldl_nil, mergeD, putD, valD, List.any_cons, List.any_nil, Sum.inr.injEq, Sum.inl.injEq, Bool.or_false, Bool.false_or, Bool.or_true, List.find?_cons, List.find?_nil, keyK_str, keyK_int, intK_int, List.map_cons, List.map_nil, List.cons_append, List.nil_append, List.replicate, List.append_assoc, v3, v4, v5, v7, v8, v11, v12, kCall_ q3, kCall_ q4, ne_st]
  obtain ⟨Z, hZ⟩ : ∃ Z, Z = S ++ g1 ++ g2 ++ g3 ++ g4 := ⟨_, rfl⟩
  -- are they stages
  have lk : [stD (doubledS m p), stD (exS m l), stD (ledR m q m p), stD (madeS m l k)].length ≤ LIM := Nat.le_of_ble_eq_true rfl
  have hL : (Z ++ [LO.lst [stD (doubledS m p), stD (exS m l), stD (ledR m q m p), stD (madeS m l k)]])[Z.length]? = some (.lst [stD (doubledS m p), stD (exS m l), stD (ledR m q m p), stD (madeS m l k)]) := at_end
  have eset : ∀ (x y : Option D), (eL a0 a1 a2 m p q l k x a14 a15 a16 a17).set 13 y = eL a0 a1 a2 m p q l k y a14 a15 a16 a17 := fun x y => rfl
  obtain ⟨w1, r1⟩ := are_step (e := eL a0 a1 a2 m p q l k (some (stD (doubledS m p))) a14 a15 a16 a17) (S := Z ++ [LO.lst [stD (doubledS m p), stD (exS m l), stD (ledR m q m p), stD (madeS m l k)]]) (rows := 2 * m + 2) rfl rfl (fA h1 h2 hp).2.1
  have hL1 := at_old (g := w1) hL
  obtain ⟨w2, r2⟩ := are_step (e := eL a0 a1 a2 m p q l k (some (stD (exS m l))) a14 a15 a16 a17) (S := Z ++ [LO.lst [stD (doubledS m p), stD (exS m l), stD (ledR m q m p), stD (madeS m l k)]] ++ w1) (rows := 2 * m + 2) rfl rfl (fB h1 h2 hl).2.1
  have hL2 := at_old (g := w2) hL1
  obtain ⟨w3, r3⟩ := are_step (e := eL a0 a1 a2 m p q l k (some (stD (ledR m q m p))) a14 a15 a16 a17) (S := Z ++ [LO.lst [stD (doubledS m p), stD (exS m l), stD (ledR m q m p), stD (madeS m l k)]] ++ w1 ++ w2) (rows := 2 * m + 2) rfl rfl (fC h1 h2 hp hq).2
  have hL3 := at_old (g := w3) hL2
  obtain ⟨w4, r4⟩ := are_step (e := eL a0 a1 a2 m p q l k (some (stD (madeS m l k))) a14 a15 a16 a17) (S := Z ++ [LO.lst [stD (doubledS m p), stD (exS m l), stD (ledR m q m p), stD (madeS m l k)]] ++ w1 ++ w2 ++ w3) (rows := 2 * m + 2) rfl rfl (fD h1 h2 hl hk).2.1
  have hL4 := at_old (g := w4) hL3
  have i3 : mFor (mIt (mLst (mCons (mVar 9) (mCons (mVar 10) (mCons (mVar 11) (mCons (mVar 12) mNil)))))) (gNm 13) m_law_l1 ⟨e, Z⟩ = .ret .nx ⟨eL a0 a1 a2 m p q l k (some (stD (madeS m l k))) a14 a15 a16 a17, Z ++ [LO.lst [stD (doubledS m p), stD (exS m l), stD (ledR m q m p), stD (madeS m l k)]] ++ w1 ++ w2 ++ w3 ++ w4⟩ := by
    rw [sx_for]
    have hi : mIt (mLst (mCons (mVar 9) (mCons (mVar 10) (mCons (mVar 11) (mCons (mVar 12) mNil))))) ⟨e, Z⟩ = .ret (.ls Z.length) ⟨e, Z ++ [LO.lst [stD (doubledS m p), stD (exS m l), stD (ledR m q m p), stD (madeS m l k)]]⟩ := by
      simp only [sx_it, sx_lst, sx_cons, sx_var, v9, v10, v11, v12, kVar_, bind_ret, kCons1_, kCons2_, sx_nil, kLst_ lk]
      exact kIt_lst hL
    rw [hi, bind_ret, kFor_ls hL, he]
    show loopL (gNm 13) m_law_l1 Z.length 4 0 _ = _
    rw [sx_loopL hL rfl, nm_r, bind_ret, kGo_, eset, r1, bind_ret, kTurn_nx, sx_loopL hL1 rfl, nm_r, bind_ret, kGo_, eset, r2, bind_ret, kTurn_nx, sx_loopL hL2 rfl, nm_r, bind_ret, kGo_, eset, r3, bind_ret, kTurn_nx, sx_loopL hL3 rfl, nm_r, bind_ret, kGo_, eset, r4, bind_ret, kTurn_nx]
    exact sx_loopL0 hL4 (Nat.le_refl _)
  obtain ⟨Y, hY⟩ : ∃ Y, Y = Z ++ [LO.lst [stD (doubledS m p), stD (exS m l), stD (ledR m q m p), stD (madeS m l k)]] ++ w1 ++ w2 ++ w3 ++ w4 := ⟨_, rfl⟩
  obtain ⟨j, g5, q5, hj⟩ := rows_ok (m := m) (S := Y) (by omega)
  obtain ⟨b14, b15, b16, b17, g6, q6⟩ := rows_loop h1 h2 hp hq hl hk (a0 := a0) (a1 := a1) (a2 := a2) (a13 := some (stD (madeS m l k))) (bitR m).length 0 a14 a15 a16 a17 (Y ++ g5) (by omega) hj
  have i4 : mFor (mIt (mCall F__law_bit_rows (mCons (mVar 3) mNil))) (gNm 14) m_law_l2 ⟨eL a0 a1 a2 m p q l k (some (stD (madeS m l k))) a14 a15 a16 a17, Y⟩ = .ret .nx ⟨eL a0 a1 a2 m p q l k (some (stD (madeS m l k))) b14 b15 b16 b17, Y ++ g5 ++ g6⟩ := by
    rw [sx_for]
    have hi : mIt (mCall F__law_bit_rows (mCons (mVar 3) mNil)) ⟨eL a0 a1 a2 m p q l k (some (stD (madeS m l k))) a14 a15 a16 a17, Y⟩ = .ret (.ls j) ⟨eL a0 a1 a2 m p q l k (some (stD (madeS m l k))) a14 a15 a16 a17, Y ++ g5⟩ := by
      have v : (eL a0 a1 a2 m p q l k (some (stD (madeS m l k))) a14 a15 a16 a17)[3]? = some (some (.int (m : Int))) := rfl
      simp only [sx_it, sx_call, sx_cons, sx_var, v, kVar_, bind_ret, kCons1_, kCons2_, sx_nil, kCall_ q5]
      exact kIt_lst hj
    rw [hi, bind_ret, kFor_ls hj, List.length_map]
    exact q6
  refine ⟨some (stD (madeS m l k)), b14, b15, b16, b17, g1 ++ g2 ++ g3 ++ g4 ++ ([LO.lst [stD (doubledS m p), stD (exS m l), stD (ledR m q m p), stD (madeS m l k)]] ++ w1 ++ w2 ++ w3 ++ w4) ++ g5 ++ g6, ?_⟩
  rw [← he, seq_r i1, seq_r i2, ← hZ, seq_r i3, ← hY, i4, hY, hZ]
  simp only [List.append_assoc]
end K21

set_option Elab.async false
set_option linter.all false
set_option maxRecDepth 100000
set_option maxHeartbeats 400000
namespace K21
open PySem PySem.Spec PyProof.Rows L2 Mz
structure PenAt (S : List LO) (k : Nat) : Prop where
  p : S[0]? = some (.pen k 1)
  c : S[1]? = some .cel
theorem PenAt.set {S : List LO} {k : Nat} (h : PenAt S k) (j : Nat) : PenAt (S.set 0 (.pen j 1)) j :=
  ⟨by rw [List.getElem?_set_self (List.getElem?_eq_some_iff.mp h.p).1], by rw [List.getElem?_set_ne (by decide)]; exact h.c⟩
theorem PenAt.more {S : List LO} {k : Nat} (h : PenAt S k) (g : List LO) : PenAt (S ++ g) k := ⟨at_old h.p, at_old h.c⟩
theorem drawF_eq {S : List LO} {k m : Nat} (h : PenAt S k) (m0 : 0 < m) (m1 : m < 1000) (hk : k < 1000) : drawF [.ref 0, .int (m : Int)] S = .draw m fun i => .ret (.int (i : Int)) ⟨[], S.set 0 (.pen (k + 1) 1)⟩ := by
  unfold drawF
  simp only [h.p, h.c]
  rw [if_pos ⟨by omega, by omega, by omega⟩, Int.toNat_natCast]
theorem draw_all {e : List (Option D)} {S : List LO} {k m : Nat} {P : D → LS → Prop} {E : Ex → LS → Prop} {a : M D} (h : PenAt S k) (m0 : 0 < m) (m1 : m < 1000) (hk : k < 1000) (v1 : e[1]? = some (some (.ref 0))) (ha : a ⟨e, S⟩ = .ret (.int (m : Int)) ⟨e, S⟩)
    (hP : ∀ i, i < m → P (.int (i : Int)) ⟨e, S.set 0 (.pen (k + 1) 1)⟩) : (mCall F__law_draw (mCons (mVar 1) (mCons a mNil)) ⟨e, S⟩).all P E := by
  have q : mCall F__law_draw (mCons (mVar 1) (mCons a mNil)) ⟨e, S⟩ = .draw m fun i => .ret (.int (i : Int)) ⟨e, S.set 0 (.pen (k + 1) 1)⟩ := by
    rw [sx_call, sx_cons, sx_var, v1, kVar_, bind_ret, kCons1_, sx_cons, ha, bind_ret, kCons1_, sx_nil, bind_ret, kCons2_, bind_ret, kCons2_, bind_ret]
    unfold kCall
    show (drawF [.ref 0, .int (m : Int)] S).setEnv e = _
    rw [drawF_eq h m0 m1 hk]
    rfl
  rw [q]
  exact hP
theorem pick_all {e : List (Option D)} {S : List LO} {k n : Nat} {P : D → LS → Prop} {E : Ex → LS → Prop} (h : PenAt S k) (hk : k < 1000) (hn : S[n]? = some (.lst [.str "or", .str "xor", .str "but"]))
    (hP : ∀ c, c = 4 ∨ c = 5 ∨ c = 6 → P (.str (kS c)) ⟨e, S.set 0 (.pen (k + 1) 1)⟩) : (kCall [] F__law_pick [.ref 0, .ref n] ⟨e, S⟩).all P E := by
  have n0 : 0 ≠ n := fun z => by subst z; rw [h.p] at hn; cases hn
  have q : kCall [] F__law_pick [.ref 0, .ref n] ⟨e, S⟩ = .draw 3 fun i => ((mO (atI [D.str "or", D.str "xor", D.str "but"] (i : Int)) ⟨[some (.ref 0), some (.ref n)], S.set 0 (.pen (k + 1) 1)⟩ : T D).bind fun d s => .ret d ⟨e, s.st⟩) := by
    unfold kCall F__law_pick fnM
    rw [if_pos (show [D.ref 0, D.ref n].length = 2 from rfl)]
    have d : drawF [.ref 0, .int (3 : Int)] S = .draw 3 fun i => .ret (.int (i : Int)) ⟨[], S.set 0 (.pen (k + 1) 1)⟩ := drawF_eq (m := 3) h (by decide) (by decide) hk
    have q1 : m__law_pick ⟨startE 2 2 [.ref 0, .ref n], S⟩ = .draw 3 fun i => (mO (atI [D.str "or", D.str "xor", D.str "but"] (i : Int)) ⟨[some (.ref 0), some (.ref n)], S.set 0 (.pen (k + 1) 1)⟩ : T D).bind kRetS := by
      unfold m__law_pick startE
      simp only [bind_ret, sx_seq, kSeq_nx, kSeq_rt, kSeq_bk, kSeq_ct, sx_next, sx_break, sx_cont, sx_drop, kDrop_, sx_retS, kRetS_, sx_if, kIf_t, kIf_f, sx_asg, kAsg_, kNx_, sx_nm, sx_var, kVar_, sx_ret, sx_op, kOp1_, kOp2_, sx_un, kUn_, sx_nil, sx_cons, kCons1_, kCons2_, sx_tup, sx_lst, kTup_, kLst_, sx_fn, kFn_, sx_call, sx_bool, kBool_, sx_tru, kTru_bl, sx_and, sx_or, sx_not, kAnd_t, kAnd_f, kOr_t, kOr_f, kNot_, sx_andV, sx_orV, sx_notV, kAndV_t, kAndV_f, kOrV_t, kOrV_f, kNotV_, sx_ifE, kIfE_t, kIfE_f, sx_chain, kCh1_, kCh2_, kCh3_t, kCh3_f, sx_gNil, sx_gCons, kG_, sx_gTup, gT_nm, gT_tup, gTs_nil, gTs_cons, sx_gSub, kSub1_, kSub2_, sx_par, kPar_, sx_par3, kPar3_, sx_it, kIt_tup, sx_rg1, sx_rg2, sx_for, kFor_rg, kFor_tp, sx_loopT, sx_loopT0, sx_loopR0, kGo_, kTurn_nx, kTurn_ct, kTurn_bk, kTurn_rt, sx_noPart, sx_part, kPart_, sx_sl, kSl1_, kSl2_, kSl3_, sx_lc, sx_pairs0, sx_pairs, kP1_, kP2_, kP3_, sx_dict, eqD_int, neD_int, addD_int, subD_int, ltD_int, leD_int, gtD_int, geD_int, intD_int, intD_bl, ix_t0, ix_t1, ix_t2, ix_t3, lenD_tup, tupleD_tup, listD_tup, List.getElem?_cons_zero, List.getElem?_cons_succ, List.set_cons_zero, List.set_cons_succ, List.length_cons, List.length_nil, Nat.zero_add, Nat.reduceAdd, Nat.reduceSub, Nat.reduceMul, decide_true, decide_false, Bool.not_true, Bool.not_false, Int.reduceMul, Int.reduceAdd, Int.reduceSub, Int.reduceNeg, Int.reduceLT, Int.reduceLE, Int.reducePow, Int.reduceEq, Int.reduceNe, Nat.reduceLeDiff, Nat.reduceLT, Bool.and_true, Bool.true_and, Bool.and_self, ↓reduceIte, Bool.false_eq_true, sx_mt, kMt1_, kMt2_, sx_isL, kIsL_ref, kIsL2_, absD_int, minD_int, maxD_int, negD_int, isi_tup_tuple, isi_int_int, isi_int_bool, kWh_t, kWh_f, nc1, nc2, nc3, nc4, nc5, nc6, nc7, nc8, nc9, nc10, nc11, nc12, nc13, nc14, nc15, nc16, mulD_int, mulD_intL, kRg1_, kRg2_, i62_eq, i63_eq, i64_eq, LIM, List.length_append, at_k, at_k0, set_k, set_k0, kDict_eq, kDict2_, keyP_str, keyP_int, allO_nil, allO_c, kAll_, mO_some, ixD_ref, kIx_lst, kIx_dK, kIx_dT, kIt_ref, kItr_, kFor_ref, kLoopL_, lenD_ref, kLen_lst, kLen_dK, kLen_dT, tupleD_ref, kTuple_, listD_ref, kList_, setD_ref, kSet_lst, kSetL_, kSet_dK, kSetK_, kSet_dT, kSetT_, appendD_ref, kApp_, addD_ref, kAddL_, mulD_ref, kMulL_, slD_ref, kSlice_, slD_tup, maxD_ref, minD_ref, kOnInts_, Option.bind_some, Option.map_some, maxOf, minOf, List.foldl_cons, List.foldl_nil, mergeD, putD, valD, List.any_cons, List.any_nil, Sum.inr.injEq, Sum.inl.injEq, Bool.or_false, Bool.false_or, Bool.or_true, List.find?_cons, List.find?_nil, keyK_str, keyK_int, intK_int, List.map_cons, List.map_nil, List.cons_append, List.nil_append, List.replicate, List.append_assoc, hn, kCall, F__law_draw, d, T.setEnv, bind_draw, List.getElem?_set_ne n0]
    show T.setEnv e (T.bind (m__law_pick ⟨startE 2 2 [.ref 0, .ref n], S⟩) _) = _
    rw [q1, bind_draw]
    show T.draw 3 _ = T.draw 3 _
    congr 1
    funext i
    dsimp only
    generalize atI [D.str "or", D.str "xor", D.str "but"] (i : Int) = o
    cases o with
    | none => rfl
    | some d => rfl
  rw [q]
  intro i hi
  have : i = 0 ∨ i = 1 ∨ i = 2 := by omega
  rcases this with rfl | rfl | rfl
  · exact hP 4 (.inl rfl)
  · exact hP 5 (.inr (.inl rfl))
  · exact hP 6 (.inr (.inr rfl))
theorem all_seq {a b : M Fl} {s : LS} {P : Fl → LS → Prop} {E : Ex → LS → Prop} (h : (a s).all (fun f s1 => f = .nx ∧ (b s1).all P E) E) : (mSeq a b s).all P E := by
  rw [sx_seq, T.all_bind]
  refine T.all_mono (fun f s1 p => ?_) (fun _ _ q => q) h
  obtain ⟨rfl, p⟩ := p
  exact p
theorem A1_all {e : List (Option D)} {S : List LO} {k : Nat} {P : Fl → LS → Prop} {E : Ex → LS → Prop} (h : PenAt S k) (hk : k < 1000) (v1 : e[1]? = some (some (.ref 0))) (hP : ∀ i, i < 5 → ∀ e', e' = e.set 3 (some (.int ((i + 2 : Nat) : Int))) → P .nx ⟨e', S.set 0 (.pen (k + 1) 1)⟩) :
    (mAsg (mOp addD (mRet (.int 2)) (mCall F__law_draw (mCons (mVar 1) (mCons (mRet (.int 5)) mNil)))) (gNm 3) ⟨e, S⟩).all P E := by
  rw [sx_asg, T.all_bind, sx_op, sx_ret, bind_ret, kOp1_, T.all_bind]
  refine draw_all (m := 5) h (by decide) (by decide) hk v1 rfl fun i hi => ?_
  have e1 : (2 : Int) + (i : Int) = ((i + 2 : Nat) : Int) := by omega
  show (kAsg (gNm 3) (.int (2 + (i : Int))) _).all P E
  rw [e1]
  exact hP i hi _ rfl
theorem A2_all {e : List (Option D)} {S : List LO} {k m : Nat} {P : Fl → LS → Prop} {E : Ex → LS → Prop} (h : PenAt S k) (hk : k < 900) (m0 : 0 < m) (m1 : m < 100) (v1 : e[1]? = some (some (.ref 0))) (v3 : e[3]? = some (some (.int (m : Int))))
    (hP : ∀ i, i < m → ∀ j, j < m → ∀ S', PenAt S' (k + 2) → ∀ e', e' = ((e.set 4 (some (.int (i : Int)))).set 5 (some (.int (j : Int)))).set 6 (some (.int ((2 * m + 2 : Nat) : Int))) → P .nx ⟨e', S'⟩) :
    (mPar3 4 5 6 (mCons (mCall F__law_draw (mCons (mVar 1) (mCons (mVar 3) mNil))) (mCons (mCall F__law_draw (mCons (mVar 1) (mCons (mVar 3) mNil))) (mCons (mOp addD (mOp mulD (mRet (.int 2)) (mVar 3)) (mRet (.int 2))) mNil))) ⟨e, S⟩).all P E := by
  rw [sx_par3, T.all_bind, sx_cons, T.all_bind]
  refine draw_all h m0 (by omega) (by omega) v1 (by rw [sx_var, v3]; rfl) fun i hi => ?_
  rw [kCons1_, T.all_bind, sx_cons, T.all_bind]
  refine draw_all (h.set _) m0 (by omega) (by omega) v1 (by rw [sx_var, v3]; rfl) fun j hj => ?_
  have e1 : 2 * (m : Int) + 2 = ((2 * m + 2 : Nat) : Int) := by omega
  have := hP i hi j hj _ ((h.set (k + 1)).set (k + 1 + 1)) _ rfl
  rw [← e1] at this
  simp only [bind_ret, sx_seq, kSeq_nx, kSeq_rt, kSeq_bk, kSeq_ct, sx_next, sx_break, sx_cont, sx_drop, kDrop_, sx_retS, kRetS_, sx_if, kIf_t, kIf_f, sx_asg, kAsg_, kNx_, sx_nm, sx_var, kVar_, sx_ret, sx_op, kOp1_, kOp2_, sx_un, kUn_, sx_nil, sx_cons, kCons1_, kCons2_, sx_tup, sx_lst, kTup_, kLst_, sx_fn, kFn_, sx_call, sx_bool, kBool_, sx_tru, kTru_bl, sx_and, sx_or, sx_not, kAnd_t, kAnd_f, kOr_t, kOr_f, kNot_, sx_andV, sx_orV, sx_notV, kAndV_t, kAndV_f, kOrV_t, kOrV_f, kNotV_, sx_ifE, kIfE_t, kIfE_f, sx_chain, kCh1_, kCh2_, kCh3_t, kCh3_f, sx_gNil, sx_gCons, kG_, sx_gTup, gT_nm, gT_tup, gTs_nil, gTs_cons, sx_gSub, kSub1_, kSub2_, sx_par, kPar_, sx_par3, kPar3_, sx_it, kIt_tup, sx_rg1, sx_rg2, sx_for, kFor_rg, kFor_tp, sx_loopT, sx_loopT0, sx_loopR0, kGo_, kTurn_nx, kTurn_ct, kTurn_bk, kTurn_rt, sx_noPart, sx_part, kPart_, sx_sl, kSl1_, kSl2_, kSl3_, sx_lc, sx_pairs0, sx_pairs, kP1_, kP2_, kP3_, sx_dict, eqD_int, neD_int, addD_int, subD_int, ltD_int, leD_int, gtD_int, geD_int, intD_int, intD_bl, ix_t0, ix_t1, ix_t2, ix_t3, lenD_tup, tupleD_tup, listD_tup, List.getElem?_cons_zero, List.getElem?_cons_succ, List.set_cons_zero, List.set_cons_succ, List.length_cons, List.length_nil, Nat.zero_add, Nat.reduceAdd, Nat.reduceSub, Nat.reduceMul, decide_true, decide_false, Bool.not_true, Bool.not_false, Int.reduceMul, Int.reduceAdd, Int.reduceSub, Int.reduceNeg, Int.reduceLT, Int.reduceLE, Int.reducePow, Int.reduceEq, Int.reduceNe, Nat.reduceLeDiff, Nat.reduceLT, Bool.and_true, Bool.true_and, Bool.and_self, ↓reduceIte, Bool.false_eq_true, sx_mt, kMt1_, kMt2_, sx_isL, kIsL_ref, kIsL2_, absD_int, minD_int, maxD_int, negD_int, isi_tup_tuple, isi_int_int, isi_int_bool, kWh_t, kWh_f, nc1, nc2, nc3, nc4, nc5, nc6, nc7, nc8, nc9, nc10, nc11, nc12, nc13, nc14, nc15, nc16, mulD_int, mulD_intL, kRg1_, kRg2_, i62_eq, i63_eq, i64_eq, LIM, List.length_append, at_k, at_k0, set_k, set_k0, kDict_eq, kDict2_, keyP_str, keyP_int, allO_nil, allO_c, kAll_, mO_some, ixD_ref, kIx_lst, kIx_dK, kIx_dT, kIt_ref, kItr_, kFor_ref, kLoopL_, lenD_ref, kLen_lst, kLen_dK, kLen_dT, tupleD_ref, kTuple_, listD_ref, kList_, setD_ref, kSet_lst, kSetL_, kSet_dK, kSetK_, kSet_dT, kSetT_, appendD_ref, kApp_, addD_ref, kAddL_, mulD_ref, kMulL_, slD_ref, kSlice_, slD_tup, maxD_ref, minD_ref, kOnInts_, Option.bind_some, Option.map_some, maxOf, minOf, List.foldl_cons, List.foldl_nil, mergeD, putD, valD, List.any_cons, List.any_nil, Sum.inr.injEq, Sum.inl.injEq, Bool.or_false, Bool.false_or, Bool.or_true, List.find?_cons, List.find?_nil, keyK_str, keyK_int, intK_int, List.map_cons, List.map_nil, List.cons_append, List.nil_append, List.replicate, List.append_assoc, v3]
  exact this
theorem A3_all {e : List (Option D)} {S : List LO} {k m : Nat} {P : Fl → LS → Prop} {E : Ex → LS → Prop} (h : PenAt S k) (hk : k < 900) (m0 : 2 ≤ m) (m1 : m < 100) (v1 : e[1]? = some (some (.ref 0))) (v3 : e[3]? = some (some (.int (m : Int))))
    (hP : ∀ i, i < m - 1 → ∀ c, c = 4 ∨ c = 5 ∨ c = 6 → ∀ S', PenAt S' (k + 2) → ∀ e', e' = (e.set 7 (some (.int (i : Int)))).set 8 (some (.str (kS c))) → P .nx ⟨e', S'⟩) :
    (mPar 7 8 (mCons (mCall F__law_draw (mCons (mVar 1) (mCons (mOp subD (mVar 3) (mRet (.int 1))) mNil))) (mCons (mCall F__law_pick (mCons (mVar 1) (mCons (mLst (mCons (mRet (.str "or")) (mCons (mRet (.str "xor")) (mCons (mRet (.str "but")) mNil)))) mNil))) mNil)) ⟨e, S⟩).all P E := by
  rw [sx_par, T.all_bind, sx_cons, T.all_bind]
  have e1 : (m : Int) - 1 = ((m - 1 : Nat) : Int) := by omega
  refine draw_all (m := m - 1) h (by omega) (by omega) (by omega) v1 (by
    rw [sx_op, sx_var, v3, kVar_, bind_ret, kOp1_, sx_ret, bind_ret, kOp2_, subD_int, e1]) fun i hi => ?_
  rw [kCons1_, T.all_bind, sx_cons, T.all_bind]
  have q : mCall F__law_pick (mCons (mVar 1) (mCons (mLst (mCons (mRet (.str "or")) (mCons (mRet (.str "xor")) (mCons (mRet (.str "but")) mNil)))) mNil)) ⟨e, S.set 0 (.pen (k + 1) 1)⟩ = kCall [] F__law_pick [.ref 0, .ref (S.set 0 (.pen (k + 1) 1)).length] ⟨e, S.set 0 (.pen (k + 1) 1) ++ [.lst [.str "or", .str "xor", .str "but"]]⟩ := by
    generalize S.set 0 (.pen (k + 1) 1) = Z
    simp only [bind_ret, sx_seq, kSeq_nx, kSeq_rt, kSeq_bk, kSeq_ct, sx_next, sx_break, sx_cont, sx_drop, kDrop_, sx_retS, kRetS_, sx_if, kIf_t, kIf_f, sx_asg, kAsg_, kNx_, sx_nm, sx_var, kVar_, sx_ret, sx_op, kOp1_, kOp2_, sx_un, kUn_, sx_nil, sx_cons, kCons1_, kCons2_, sx_tup, sx_lst, kTup_, kLst_, sx_fn, kFn_, sx_call, sx_bool, kBool_, sx_tru, kTru_bl, sx_and, sx_or, sx_not, kAnd_t, kAnd_f, kOr_t, kOr_f, kNot_, sx_andV, sx_orV, sx_notV, kAndV_t, kAndV_f, kOrV_t, kOrV_f, kNotV_, sx_ifE, kIfE_t, kIfE_f, sx_chain, kCh1_, kCh2_, kCh3_t, kCh3_f, sx_gNil, sx_gCons, kG_, sx_gTup, gT_nm, gT_tup, gTs_nil, gTs_cons, sx_gSub, kSub1_, kSub2_, sx_par, kPar_, sx_par3, kPar3_, sx_it, kIt_tup, sx_rg1, sx_rg2, sx_for, kFor_rg, kFor_tp, sx_loopT, sx_loopT0, sx_loopR0, kGo_, kTurn_nx, kTurn_ct, kTurn_bk, kTurn_rt, sx_noPart, sx_part, kPart_, sx_sl, kSl1_, kSl2_, kSl3_, sx_lc, sx_pairs0, sx_pairs, kP1_, kP2_, kP3_, sx_dict, eqD_int, neD_int, addD_int, subD_int, ltD_int, leD_int, gtD_int, geD_int, intD_int, intD_bl, ix_t0, ix_t1, ix_t2, ix_t3, lenD_tup, tupleD_tup, listD_tup, List.getElem?_cons_zero, List.getElem?_cons_succ, List.set_cons_zero, List.set_cons_succ, List.length_cons, List.length_nil, Nat.zero_add, Nat.reduceAdd, Nat.reduceSub, Nat.reduceMul, decide_true, decide_false, Bool.not_true, Bool.not_false, Int.reduceMul, Int.reduceAdd, Int.reduceSub, Int.reduceNeg, Int.reduceLT, Int.reduceLE, Int.reducePow, Int.reduceEq, Int.reduceNe, Nat.reduceLeDiff, Nat.reduceLT, Bool.and_true, Bool.true_and, Bool.and_self, ↓reduceIte, Bool.false_eq_true, sx_mt, kMt1_, kMt2_, sx_isL, kIsL_ref, kIsL2_, absD_int, minD_int, maxD_int, negD_int, isi_tup_tuple, isi_int_int, isi_int_bool, kWh_t, kWh_f, nc1, nc2, nc3, nc4, nc5, nc6, nc7, nc8, nc9, nc10, nc11, nc12, nc13, nc14, nc15, nc16, mulD_int, mulD_intL, kRg1_, kRg2_, i62_eq, i63_eq, i64_eq, LIM, List.length_append, at_k, at_k0, set_k, set_k0, kDict_eq, kDict2_, keyP_str, keyP_int, allO_nil, allO_c, kAll_, mO_some, ixD_ref, kIx_lst, kIx_dK, kIx_dT, kIt_ref, kItr_, kFor_ref, kLoopL_, lenD_ref, kLen_lst, kLen_dK, kLen_dT, tupleD_ref, kTuple_, listD_ref, kList_, setD_ref, kSet_lst, kSetL_, kSet_dK, kSetK_, kSet_dT, kSetT_, appendD_ref, kApp_, addD_ref, kAddL_, mulD_ref, kMulL_, slD_ref, kSlice_, slD_tup, maxD_ref, minD_ref, kOnInts_, Option.bind_some, Option.map_some, maxOf, minOf, List.foldl_cons, List.foldl_nil, mergeD, putD, valD, List.any_cons, List.any_nil, Sum.inr.injEq, Sum.inl.injEq, Bool.or_false, Bool.false_or, Bool.or_true, List.find?_cons, List.find?_nil, keyK_str, keyK_int, intK_int, List.map_cons, List.map_nil, List.cons_append, List.nil_append, List.replicate, List.append_assoc, v1]
  rw [q]
  refine pick_all ((h.set (k + 1)).more _) (by omega) at_end fun c hc => ?_
  have := hP i hi c hc _ (((h.set (k + 1)).more [.lst [.str "or", .str "xor", .str "but"]]).set (k + 1 + 1)) _ rfl
  exact this
/-- between two laps -/
structure LapS (k : Nat) (f : Fl) (s : LS) : Prop where
  nx : f = .nx
  env : ∃ a0 a2 a3 a4 a5 a6 a7 a8 a9 a10 a11 a12 a13 a14 a15 a16 a17 : Option D, s.env = [a0, some (.ref 0), a2, a3, a4, a5, a6, a7, a8, a9, a10, a11, a12, a13, a14, a15, a16, a17]
  st : PenAt s.st k
theorem lap_ok {k : Nat} (hk : k < 800) {S : List LO} (h : PenAt S k) (a0 a2 a3 a4 a5 a6 a7 a8 a9 a10 a11 a12 a13 a14 a15 a16 a17 : Option D) {E : Ex → LS → Prop} :
    (m_law_l3 ⟨[a0, some (.ref 0), a2, a3, a4, a5, a6, a7, a8, a9, a10, a11, a12, a13, a14, a15, a16, a17], S⟩).all (LapS (k + 5)) E := by
  obtain ⟨e0, he0⟩ : ∃ e0 : List (Option D), e0 = [a0, some (.ref 0), a2, a3, a4, a5, a6, a7, a8, a9, a10, a11, a12, a13, a14, a15, a16, a17] := ⟨_, rfl⟩
  rw [← he0]
  unfold m_law_l3
  refine all_seq (A1_all h (by omega) (by rw [he0]; rfl) fun i hi e1 he1 => ⟨rfl, ?_⟩)
  obtain ⟨m, hm⟩ : ∃ m, m = i + 2 := ⟨_, rfl⟩
  rw [← hm, he0] at he1
  refine all_seq (A2_all (m := m) (h.set (k + 1)) (by omega) (by omega) (by omega) (by rw [he1]; rfl) (by rw [he1]; rfl) fun p hp q hq S1 h1 e2 he2 => ⟨rfl, ?_⟩)
  rw [he1] at he2
  refine all_seq (A3_all (m := m) h1 (by omega) (by omega) (by omega) (by rw [he2]; rfl) (by rw [he2]; rfl) fun l hl c hc S2 h2 e3 he3 => ⟨rfl, ?_⟩)
  rw [he2] at he3
  have m2 : 2 ≤ m := by omega
  have m6 : m ≤ 6 := by omega
  obtain ⟨g1, q1⟩ := doubled_ok (m := m) (p := p) (S := S2) (by omega) (by omega)
  obtain ⟨g2, q2⟩ := exch_ok (m := m) (p := l) (S := S2 ++ g1) (by omega) (by omega)
  obtain ⟨g3, q3⟩ := led_ok (m := m) (p := p) (q := q) (S := S2 ++ g1 ++ g2) (by omega) (by omega) (by omega)
  obtain ⟨g4, q4⟩ := made_ok (m := m) (p := l) (k := c) (S := S2 ++ g1 ++ g2 ++ g3) (by omega) (by omega)
  have he : e3 = [a0, some (.ref 0), a2, some (.int (m : Int)), some (.int (p : Int)), some (.int (q : Int)), some (.int ((2 * m + 2 : Nat) : Int)), some (.int (l : Int)), some (.str (kS c)), a9, a10, a11, a12, a13, a14, a15, a16, a17] := he3
  clear he3 he2 he1 he0
  have v3 : e3[3]? = some (some (.int (m : Int))) := by rw [he]; rfl
  have v4 : e3[4]? = some (some (.int (p : Int))) := by rw [he]; rfl
  have v5 : e3[5]? = some (some (.int (q : Int))) := by rw [he]; rfl
  have v7 : e3[7]? = some (some (.int (l : Int))) := by rw [he]; rfl
  have v8 : e3[8]? = some (some (.str (kS c))) := by rw [he]; rfl
  have es : (((e3.set 9 (some (stD (doubledS m p)))).set 10 (some (stD (exS m l)))).set 11 (some (stD (ledR m q m p)))).set 12 (some (stD (madeS m l c))) = eL a0 (some (.ref 0)) a2 m p q l c a13 a14 a15 a16 a17 := by rw [he]; rfl
  have s1 : mAsg (mTup (mCons (mCall F_doubled (mCons (mVar 3) (mCons (mVar 4) mNil))) (mCons (mCall F_exchanged (mCons (mVar 3) (mCons (mVar 7) mNil))) (mCons (mCall F_led (mCons (mVar 3) (mCons (mVar 4) (mCons (mVar 5) mNil)))) (mCons (mCall F_made_at (mCons (mVar 3) (mCons (mVar 7) (mCons (mVar 8) mNil)))) mNil))))) (gTupM 4 (gCons (gNm 9) (gCons (gNm 10) (gCons (gNm 11) (gCons (gNm 12) gNil))))) ⟨e3, S2⟩ =
      .ret .nx ⟨eL a0 (some (.ref 0)) a2 m p q l c a13 a14 a15 a16 a17, S2 ++ g1 ++ g2 ++ g3 ++ g4⟩ := by
    rw [← es]
    simp only [bind_ret, sx_seq, kSeq_nx, kSeq_rt, kSeq_bk, kSeq_ct, sx_next, sx_break, sx_cont, sx_drop, kDrop_, sx_retS, kRetS_, sx_if, kIf_t, kIf_f, sx_asg, kAsg_, kNx_, sx_nm, sx_var, kVar_, sx_ret, sx_op, kOp1_, kOp2_, sx_un, kUn_, sx_nil, sx_cons, kCons1_, kCons2_, sx_tup, sx_lst, kTup_, kLst_, sx_fn, kFn_, sx_call, sx_bool, kBool_, sx_tru, kTru_bl, sx_and, sx_or, sx_not, kAnd_t, kAnd_f, kOr_t, kOr_f, kNot_, sx_andV, sx_orV, sx_notV, kAndV_t, kAndV_f, kOrV_t, kOrV_f, kNotV_, sx_ifE, kIfE_t, kIfE_f, sx_chain, kCh1_, kCh2_, kCh3_t, kCh3_f, sx_gNil, sx_gCons, kG_, sx_gTup, gT_nm, gT_tup, gTs_nil, gTs_cons, sx_gSub, kSub1_, kSub2_, sx_par, kPar_, sx_par3, kPar3_, sx_it, kIt_tup, sx_rg1, sx_rg2, sx_for, kFor_rg, kFor_tp, sx_loopT, sx_loopT0, sx_loopR0, kGo_, kTurn_nx, kTurn_ct, kTurn_bk, kTurn_rt, sx_noPart, sx_part, kPart_, sx_sl, kSl1_, kSl2_, kSl3_, sx_lc, sx_pairs0, sx_pairs, kP1_, kP2_, kP3_, sx_dict, eqD_int, neD_int, addD_int, subD_int, ltD_int, leD_int, gtD_int, geD_int, intD_int, intD_bl, ix_t0, ix_t1, ix_t2, ix_t3, lenD_tup, tupleD_tup, listD_tup, List.getElem?_cons_zero, List.getElem?_cons_succ, List.set_cons_zero, List.set_cons_succ, List.length_cons, List.length_nil, Nat.zero_add, Nat.reduceAdd, Nat.reduceSub, Nat.reduceMul, decide_true, decide_false, Bool.not_true, Bool.not_false, Int.reduceMul, Int.reduceAdd, Int.reduceSub, Int.reduceNeg, Int.reduceLT, Int.reduceLE, Int.reducePow, Int.reduceEq, Int.reduceNe, Nat.reduceLeDiff, Nat.reduceLT, Bool.and_true, Bool.true_and, Bool.and_self, ↓reduceIte, Bool.false_eq_true, sx_mt, kMt1_, kMt2_, sx_isL, kIsL_ref, kIsL2_, absD_int, minD_int, maxD_int, negD_int, isi_tup_tuple, isi_int_int, isi_int_bool, kWh_t, kWh_f, nc1, nc2, nc3, nc4, nc5, nc6, nc7, nc8, nc9, nc10, nc11, nc12, nc13, nc14, nc15, nc16, mulD_int, mulD_intL, kRg1_, kRg2_, i62_eq, i63_eq, i64_eq, LIM, List.length_append, at_k, at_k0, set_k, set_k0, kDict_eq, kDict2_, keyP_str, keyP_int, allO_nil, allO_c, kAll_, mO_some, ixD_ref, kIx_lst, kIx_dK, kIx_dT, kIt_ref, kItr_, kFor_ref, kLoopL_, lenD_ref, kLen_lst, kLen_dK, kLen_dT, tupleD_ref, kTuple_, listD_ref, kList_, setD_ref, kSet_lst, kSetL_, kSet_dK, kSetK_, kSet_dT, kSetT_, appendD_ref, kApp_, addD_ref, kAddL_, mulD_ref, kMulL_, slD_ref, kSlice_, slD_tup, maxD_ref, minD_ref, kOnInts_, Option.bind_some, Option.map_some, maxOf, minOf, List.foldl_cons, List.foldl_nil, mergeD, putD, valD, List.any_cons, List.any_nil, Sum.inr.injEq, Sum.inl.injEq, Bool.or_false, Bool.false_or, Bool.or_true, List.find?_cons, List.find?_nil, keyK_str, keyK_int, intK_int, List.map_cons, List.map_nil, List.cons_append, List.nil_append, List.replicate, List.append_assoc] at q1 q2 q3 q4 ⊢
    simp only [bind_ret, sx_seq, kSeq_nx, kSeq_rt, kSeq_bk, kSeq_ct, sx_next, sx_break, sx_cont, sx_drop, kDrop_, sx_retS, kRetS_, sx_if, kIf_t, kIf_f, sx_asg, kAsg_, kNx_, sx_nm, sx_var, kVar_, sx_ret, sx_op, kOp1_, kOp2_, sx_un, kUn_, sx_nil, sx_cons, kCons1_, kCons2_, sx_tup, sx_lst, kTup_, kLst_, sx_fn, kFn_, sx_call, sx_bool, kBool_, sx_tru, kTru_bl, sx_and, sx_or, sx_not, kAnd_t, kAnd_f, kOr_t, kOr_f, kNot_, sx_andV, sx_orV, sx_notV, kAndV_t, kAndV_f, kOrV_t, kOrV_f, kNotV_, sx_ifE, kIfE_t, kIfE_f, sx_chain, kCh1_, kCh2_, kCh3_t, kCh3_f, sx_gNil, sx_gCons, kG_, sx_gTup, gT_nm, gT_tup, gTs_nil, gTs_cons, sx_gSub, kSub1_, kSub2_, sx_par, kPar_, sx_par3, kPar3_, sx_it, kIt_tup, sx_rg1, sx_rg2, sx_for, kFor_rg, kFor_tp, sx_loopT, sx_loopT0, sx_loopR0, kGo_, kTurn_nx, kTurn_ct, kTurn_bk, kTurn_rt, sx_noPart, sx_part, kPart_, sx_sl, kSl1_, kSl2_, kSl3_, sx_lc, sx_pairs0, sx_pairs, kP1_, kP2_, kP3_, sx_dict, eqD_int, neD_int, addD_int, subD_int, ltD_int, leD_int, gtD_int, geD_int, intD_int, intD_bl, ix_t0, ix_t1, ix_t2, ix_t3, lenD_tup, tupleD_tup, listD_tup, List.getElem?_cons_zero, List.getElem?_cons_succ, List.set_cons_zero, List.set_cons_succ, List.length_cons, List.length_nil, Nat.zero_add, Nat.reduceAdd, Nat.reduceSub, Nat.reduceMul, decide_true, decide_false, Bool.not_true, Bool.not_false, Int.reduceMul, Int.reduceAdd, Int.reduceSub, Int.reduceNeg, Int.reduceLT, Int.reduceLE, Int.reducePow, Int.reduceEq, Int.reduceNe, Nat.reduceLeDiff, Nat.reduceLT, Bool.and_true, Bool.true_and, Bool.and_self, ↓reduceIte, Bool.false_eq_true, sx_mt, kMt1_, kMt2_, sx_isL, kIsL_ref, kIsL2_, absD_int, minD_int, maxD_int, negD_int, isi_tup_tuple, isi_int_int, isi_int_bool, kWh_t, kWh_f, nc1, nc2, nc3, nc4, nc5, nc6, nc7, nc8, nc9, nc10, nc11, nc12, nc13, nc14, nc15, nc16, mulD_int, mulD_intL, kRg1_, kRg2_, i62_eq, i63_eq, i64_eq, LIM, List.length_append, at_k, at_k0, set_k, set_k0, kDict_eq, kDict2_, keyP_str, keyP_int, allO_nil, allO_c, kAll_, mO_some, ixD_ref, kIx_lst, kIx_dK, kIx_dT, kIt_ref, kItr_, kFor_ref, kLoopL_, lenD_ref, kLen_lst, kLen_dK, kLen_dT, tupleD_ref, kTuple_, listD_ref, kList_, setD_ref, kSet_lst, kSetL_, kSet_dK, kSetK_, kSet_dT, kSetT_, appendD_ref, kApp_, addD_ref, kAddL_, mulD_ref, kMulL_, slD_ref, kSlice_, slD_tup, maxD_ref, minD_ref, kOnInts_, Option.bind_some, Option.map_some, maxOf, minOf, List.foldl_cons, List.foldl_nil, mergeD, putD, valD, List.any_cons, List.any_nil, Sum.inr.injEq, Sum.inl.injEq, Bool.or_false, Bool.false_or, Bool.or_true, List.find?_cons, List.find?_nil, keyK_str, keyK_int, intK_int, List.map_cons, List.map_nil, List.cons_append, List.nil_append, List.replicate, List.append_assoc, v3, v4, v5, v7, v8, kCall_ q1, kCall_ q2, kCall_ q3, kCall_ q4]
  obtain ⟨b13, b14, b15, b16, b17, g5, q5⟩ := rest_ok m2 m6 hp hq hl hc (a0 := a0) (a1 := some (.ref 0)) (a2 := a2) (a13 := a13) (a14 := a14) (a15 := a15) (a16 := a16) (a17 := a17) (S := S2 ++ g1 ++ g2 ++ g3 ++ g4)
  have fin : ∀ (t : M Fl), t ⟨eL a0 (some (.ref 0)) a2 m p q l c a13 a14 a15 a16 a17, S2 ++ g1 ++ g2 ++ g3 ++ g4⟩ = .ret .nx ⟨eL a0 (some (.ref 0)) a2 m p q l c b13 b14 b15 b16 b17, S2 ++ g1 ++ g2 ++ g3 ++ g4 ++ g5⟩ → (t ⟨eL a0 (some (.ref 0)) a2 m p q l c a13 a14 a15 a16 a17, S2 ++ g1 ++ g2 ++ g3 ++ g4⟩).all (LapS (k + 5)) E := fun t ht => by
    rw [ht]
    refine ⟨rfl, ⟨_, _, _, _, _, _, _, _, _, _, _, _, _, _, _, _, _, rfl⟩, ?_⟩
    exact ((((h2.more g1).more g2).more g3).more g4).more g5
  rw [seq_r s1]
  exact fin _ q5
theorem laps_ok {E : Ex → LS → Prop} : ∀ (n k : Nat) (i : Int) (S : List LO), k + 5 * n < 700 → PenAt S k → ∀ (a0 a2 a3 a4 a5 a6 a7 a8 a9 a10 a11 a12 a13 a14 a15 a16 a17 : Option D),
    (loopR (gNm 2) m_law_l3 n i ⟨[a0, some (.ref 0), a2, a3, a4, a5, a6, a7, a8, a9, a10, a11, a12, a13, a14, a15, a16, a17], S⟩).all (fun f s => f = .nx ∧ s.env.length = 18) E
  | 0, k, i, S, _, h, a0, a2, a3, a4, a5, a6, a7, a8, a9, a10, a11, a12, a13, a14, a15, a16, a17 => ⟨rfl, rfl⟩
  | n + 1, k, i, S, hn, h, a0, a2, a3, a4, a5, a6, a7, a8, a9, a10, a11, a12, a13, a14, a15, a16, a17 => by
    rw [sx_loopR, nm_r, bind_ret, kGo_, T.all_bind]
    refine T.all_mono (fun f s p => ?_) (fun _ _ q => q) (lap_ok (k := k) (by omega) h a0 (some (.int i)) a3 a4 a5 a6 a7 a8 a9 a10 a11 a12 a13 a14 a15 a16 a17)
    obtain ⟨rfl, ⟨b0, b2, b3, b4, b5, b6, b7, b8, b9, b10, b11, b12, b13, b14, b15, b16, b17, he⟩, hS⟩ := p
    obtain ⟨en, st⟩ := s
    cases he
    exact laps_ok n (k + 5) (i + 1) st (by omega) hS b0 b2 b3 b4 b5 b6 b7 b8 b9 b10 b11 b12 b13 b14 b15 b16 b17
theorem last_ok {e : List (Option D)} {S : List LO} : ∃ g, mRetS (mOp eqD (mCall F_doubled (mCons (mRet (.int 1)) (mCons (mRet (.int 0)) mNil))) (mTup (mCons (mTup (mCons (mTup (mCons (mRet (.str "copy")) (mCons (mRet (.int 0)) mNil))) mNil)) (mCons (mTup (mCons (mTup (mCons (mRet (.str "wire")) (mCons (mRet (.int 0)) mNil))) (mCons (mTup (mCons (mRet (.str "down")) (mCons (mRet (.int 1)) mNil))) mNil))) mNil)))) ⟨e, S⟩ = .ret (.rt (.bl true)) ⟨e, S ++ g⟩ := by
  obtain ⟨g, q⟩ := doubled_ok (m := 1) (p := 0) (S := S) (by decide) (by decide)
  refine ⟨g, ?_⟩
  have q' : Run F_doubled [.int 1, .int 0] S (stD (doubledS 1 0)) (S ++ g) := q
  have t : D.tup [.tup [.tup [.str "copy", .int 0]], .tup [.tup [.str "wire", .int 0], .tup [.str "down", .int 1]]] = stD (doubledS 1 0) := rfl
  simp only [bind_ret, sx_seq, kSeq_nx, kSeq_rt, kSeq_bk, kSeq_ct, sx_next, sx_break, sx_cont, sx_drop, kDrop_, sx_retS, kRetS_, sx_if, kIf_t, kIf_f, sx_asg, kAsg_, kNx_, sx_nm, sx_var, kVar_, sx_ret, sx_op, kOp1_, kOp2_, sx_un, kUn_, sx_nil, sx_cons, kCons1_, kCons2_, sx_tup, sx_lst, kTup_, kLst_, sx_fn, kFn_, sx_call, sx_bool, kBool_, sx_tru, kTru_bl, sx_and, sx_or, sx_not, kAnd_t, kAnd_f, kOr_t, kOr_f, kNot_, sx_andV, sx_orV, sx_notV, kAndV_t, kAndV_f, kOrV_t, kOrV_f, kNotV_, sx_ifE, kIfE_t, kIfE_f, sx_chain, kCh1_, kCh2_, kCh3_t, kCh3_f, sx_gNil, sx_gCons, kG_, sx_gTup, gT_nm, gT_tup, gTs_nil, gTs_cons, sx_gSub, kSub1_, kSub2_, sx_par, kPar_, sx_par3, kPar3_, sx_it, kIt_tup, sx_rg1, sx_rg2, sx_for, kFor_rg, kFor_tp, sx_loopT, sx_loopT0, sx_loopR0, kGo_, kTurn_nx, kTurn_ct, kTurn_bk, kTurn_rt, sx_noPart, sx_part, kPart_, sx_sl, kSl1_, kSl2_, kSl3_, sx_lc, sx_pairs0, sx_pairs, kP1_, kP2_, kP3_, sx_dict, eqD_int, neD_int, addD_int, subD_int, ltD_int, leD_int, gtD_int, geD_int, intD_int, intD_bl, ix_t0, ix_t1, ix_t2, ix_t3, lenD_tup, tupleD_tup, listD_tup, List.getElem?_cons_zero, List.getElem?_cons_succ, List.set_cons_zero, List.set_cons_succ, List.length_cons, List.length_nil, Nat.zero_add, Nat.reduceAdd, Nat.reduceSub, Nat.reduceMul, decide_true, decide_false, Bool.not_true, Bool.not_false, Int.reduceMul, Int.reduceAdd, Int.reduceSub, Int.reduceNeg, Int.reduceLT, Int.reduceLE, Int.reducePow, Int.reduceEq, Int.reduceNe, Nat.reduceLeDiff, Nat.reduceLT, Bool.and_true, Bool.true_and, Bool.and_self, ↓reduceIte, Bool.false_eq_true, sx_mt, kMt1_, kMt2_, sx_isL, kIsL_ref, kIsL2_, absD_int, minD_int, maxD_int, negD_int, isi_tup_tuple, isi_int_int, isi_int_bool, kWh_t, kWh_f, nc1, nc2, nc3, nc4, nc5, nc6, nc7, nc8, nc9, nc10, nc11, nc12, nc13, nc14, nc15, nc16, mulD_int, mulD_intL, kRg1_, kRg2_, i62_eq, i63_eq, i64_eq, LIM, List.length_append, at_k, at_k0, set_k, set_k0, kDict_eq, kDict2_, keyP_str, keyP_int, allO_nil, allO_c, kAll_, mO_some, ixD_ref, kIx_lst, kIx_dK, kIx_dT, kIt_ref, kItr_, kFor_ref, kLoopL_, lenD_ref, kLen_lst, kLen_dK, kLen_dT, tupleD_ref, kTuple_, listD_ref, kList_, setD_ref, kSet_lst, kSetL_, kSet_dK, kSetK_, kSet_dT, kSetT_, appendD_ref, kApp_, addD_ref, kAddL_, mulD_ref, kMulL_, slD_ref, kSlice_, slD_tup, maxD_ref, minD_ref, kOnInts_, Option.bind_some, Option.map_some, maxOf, minOf, List.foldl_cons, List.foldl_nil, mergeD, putD, valD, List.any_cons, List.any_nil, Sum.inr.injEq, Sum.inl.injEq, Bool.or_false, Bool.false_or, Bool.or_true, List.find?_cons, List.find?_nil, keyK_str, keyK_int, intK_int, List.map_cons, List.map_nil, List.cons_append, List.nil_append, List.replicate, List.append_assoc, kCall_ q', t, eq_st]
theorem keeps : Keeps F_law := by
  intro ns hl
  unfold F_law fnM
  rw [if_pos (show [D.scr ns].length = 1 from rfl), T.all_bind]
  have s1 : mAsg (mCall F__law_pen (mCons (mVar 0) mNil)) (gNm 1) ⟨startE 1 18 [.scr ns], []⟩ = .ret .nx ⟨[some (.scr ns), some (.ref 0), none, none, none, none, none, none, none, none, none, none, none, none, none, none, none, none], [.pen 0 1, .cel]⟩ := rfl
  have f1 : ∀ (e : List (Option D)) (S : List LO), mFor (mRg1 (mCons (mRet (.int 3)) mNil)) (gNm 2) m_law_l3 ⟨e, S⟩ = loopR (gNm 2) m_law_l3 3 0 ⟨e, S⟩ := fun e S => rfl
  unfold m_law
  rw [seq_r s1]
  refine all_seq ?_
  rw [f1]
  refine T.all_mono (fun f s p => ?_) (fun _ _ q => q) (laps_ok 3 0 0 [.pen 0 1, .cel] (by decide) ⟨rfl, rfl⟩ _ _ _ _ _ _ _ _ _ _ _ _ _ _ _ _ _)
  obtain ⟨rfl, _⟩ := p
  refine ⟨rfl, ?_⟩
  obtain ⟨e, S⟩ := s
  obtain ⟨g, q⟩ := last_ok (e := e) (S := S)
  rw [q]
  rfl
end K21

set_option Elab.async false
set_option linter.all false
set_option maxRecDepth 100000
set_option maxHeartbeats 4000000
open PySem PySem.W PyProof.Rows in
set_option maxRecDepth 100000 in
set_option maxHeartbeats 0 in
theorem PySem.Challenge.cw_sparkboard_k21_whole_exchanges_and_copie_holds : PySem.Challenge.rw_sparkboard_k21_whole_exchanges_and_copie.Holds := by
  w_on; o_law; k_head; (case hw => w_witness2)
  k_fill
  refine Mz.walkM (l := PySem.Challenge.rw_sparkboard_k21_whole_exchanges_and_copie) (k := 6) K21.keeps rfl rfl ⟨rfl, by decide, by decide⟩ (fun w h Y => PySem.W.kIn_of Y) ?F
  case F =>
    intro w mg fa h KX G hmg
    refine' K21.all_mk KX G hmg ?a0 ?l0 ?c0 ?k0 ?a1 ?l1 ?c1 ?k1 ?a2 ?l2 ?c2 ?k2 ?a3 ?l3 ?c3 ?k3 ?a4 ?l4 ?c4 ?k4 ?a5 ?l5 ?c5 ?k5 ?a6 ?l6 ?c6 ?k6 ?a7 ?l7 ?c7 ?k7 ?a8 ?l8 ?c8 ?k8 ?a9 ?l9 ?c9 ?k9 ?a10 ?l10 ?c10 ?k10 ?a11 ?l11 ?c11 ?k11 ?a12 ?l12 ?c12 ?k12 ?a13 ?l13 ?c13 ?k13 ?a14 ?l14 ?c14 ?k14 ?a15 ?l15 ?c15 ?k15 ?a16 ?l16 ?c16 ?k16 ?a17 ?l17 ?c17 ?k17 ?a18 ?l18 ?c18 ?k18 ?a19 ?l19 ?c19 ?k19 ?a20 ?l20 ?c20 ?k20 ?z_int ?z_list ?z_len ?z_range ?z_tuple ?z_min ?z_abs ?z_isinstance ?z_bool ?z_max
    (case a0 => k_is)
    (case l0 => k_is)
    (case c0 => k_is)
    (case k0 => k_is)
    (case a1 => k_is)
    (case l1 => k_is)
    (case c1 => k_is)
    (case k1 => k_is)
    (case a2 => k_is)
    (case l2 => k_is)
    (case c2 => k_is)
    (case k2 => k_is)
    (case a3 => k_is)
    (case l3 => k_is)
    (case c3 => k_is)
    (case k3 => k_is)
    (case a4 => k_is)
    (case l4 => k_is)
    (case c4 => k_is)
    (case k4 => k_is)
    (case a5 => k_is)
    (case l5 => k_is)
    (case c5 => k_is)
    (case k5 => k_is)
    (case a6 => k_is)
    (case l6 => k_is)
    (case c6 => k_is)
    (case k6 => k_is)
    (case a7 => k_is)
    (case l7 => k_is)
    (case c7 => k_is)
    (case k7 => k_is)
    (case a8 => k_is)
    (case l8 => k_is)
    (case c8 => k_is)
    (case k8 => k_is)
    (case a9 => k_is)
    (case l9 => k_is)
    (case c9 => k_is)
    (case k9 => k_is)
    (case a10 => k_is)
    (case l10 => k_is)
    (case c10 => k_is)
    (case k10 => k_is)
    (case a11 => k_is)
    (case l11 => k_is)
    (case c11 => k_is)
    (case k11 => k_is)
    (case a12 => k_is)
    (case l12 => k_is)
    (case c12 => k_is)
    (case k12 => k_is)
    (case a13 => k_is)
    (case l13 => k_is)
    (case c13 => k_is)
    (case k13 => k_is)
    (case a14 => k_is)
    (case l14 => k_is)
    (case c14 => k_is)
    (case k14 => k_is)
    (case a15 => k_is)
    (case l15 => k_is)
    (case c15 => k_is)
    (case k15 => k_is)
    (case a16 => k_is)
    (case l16 => k_is)
    (case c16 => k_is)
    (case k16 => k_is)
    (case a17 => k_is)
    (case l17 => k_is)
    (case c17 => k_is)
    (case k17 => k_is)
    (case a18 => k_is)
    (case l18 => k_is)
    (case c18 => k_is)
    (case k18 => k_is)
    (case a19 => k_is)
    (case l19 => k_is)
    (case c19 => k_is)
    (case k19 => k_is)
    (case a20 => k_is)
    (case l20 => k_is)
    (case c20 => k_is)
    (case k20 => k_is)
    (case z_int => k_is)
    (case z_list => k_is)
    (case z_len => k_is)
    (case z_range => k_is)
    (case z_tuple => k_is)
    (case z_min => k_is)
    (case z_abs => k_is)
    (case z_isinstance => k_is)
    (case z_bool => k_is)
    (case z_max => k_is)


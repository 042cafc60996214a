import PyProof.Rows.All
import Wide.All
import OpenK.AllK
import Wide.FinOn
import HandS.ForMost
import HandS.Evl
import HandS.Star
import KE.DataFind
import KE.DataCmp
import KE.DataMinMax
import KE.DataAny
import HandS.TupAny
import HandS.IsInst
import HandS.SortInts
import KE.SortData
import HandS.Style
import HandS.WordsExc
import HandS.WordsDict
import HandS.DictComp
import HandS.OwnEq
import PyProof.InstNe
import HandS.Conv
import HandS.More
import HandS.HeadHook3
import HandS.TupLen
import HandS.Zip
import PySem.Challenge.RW_leastcases_k29_cuts_in_order
set_option Elab.async false
set_option linter.all false
set_option maxRecDepth 100000
/-! PyD: plain values for a program's heap. D: a value as data; R: a heap's value reads as it; what stays through a step. -/
namespace PyD
open PySem L2

/-- a value as data. loc i: the i-th cell (a thing that changes); ins c: an instance of class number c, its attributes in the class's order -/
inductive D where
  | non
  | bl (b : Bool)
  | int (i : Int)
  | str (x : Str)
  | tup (xs : List D)
  /-- a tuple of the module -/
  | ktp (xs : List D)
  | lst (xs : List D)
  | ins (c : Nat) (fs : List D)
  | dct (ks xs : List D)
  /-- keys: tuples of ints and texts -/
  | dcT (ks : List (List Key)) (xs : List D)
  | cls (c : Nat)
  | loc (i : Nat)

/-- where a program's classes stand, their attributes' names -/
structure Lk where
  K : PySem.W.Frag
  cA : Nat → Addr
  flds : Nat → List Str

/-- a dict's key as data -/
def keyD : Key → D
  | .inl i => .int i
  | .inr x => .str x
variable (L : Lk)
mutual
/-- v reads as d: cells at μ, all else in G -/
def R (μ : List Addr) (G : Hp) : D → V → Prop
  | .non, v => v = .non
  | .bl b, v => v = .bl b
  | .int i, v => v = .int i
  | .str x, v => v = .str x
  | .tup ds, v => ∃ a vs, v = .ref a ∧ G a = some (.tup vs) ∧ Rs μ G ds vs
  | .ktp ds, v => ∃ a vs, v = .ref a ∧ SqT L.K G a vs ∧ Rs μ G ds vs
  | .lst ds, v => ∃ a vs, v = .ref a ∧ SqL L.K G a vs ∧ Rs μ G ds vs
  | .ins c ds, v => ∃ a dx vs, v = .ref a ∧ G a = some (.ins (L.cA c) dx ((L.flds c).zip vs)) ∧ vs.length ≤ (L.flds c).length ∧ Rs μ G ds vs
  | .dct ks xs, v => ∃ a kvs, v = .ref a ∧ G a = some (.dK kvs) ∧ kvs.map (fun p => keyD p.1) = ks ∧ Rs μ G xs (kvs.map (·.2))
  | .dcT ks xs, v => ∃ a kvs, v = .ref a ∧ G a = some (.dT kvs) ∧ kvs.map (·.1) = ks ∧ Rs μ G xs (kvs.map (·.2))
  | .cls c, v => v = .ref (L.cA c)
  | .loc i, v => ∃ a, μ[i]? = some a ∧ v = .ref a
def Rs (μ : List Addr) (G : Hp) : List D → List V → Prop
  | [], vs => vs = []
  | d :: ds, vs => ∃ v ws, vs = v :: ws ∧ R μ G d v ∧ Rs μ G ds ws
end

/-- G is part of H -/
abbrev Sub (G H : Hp) : Prop := ∀ a o, G a = some o → H a = some o

variable {L}
theorem rdSub {G H : Hp} (s : Sub G H) {a : Addr} {u : HO} (h : Rd G a u) : Rd H a u := by
  rcases h with h | ⟨o, h⟩
  · exact .inl (s a _ h)
  · exact .inr ⟨o, s a _ h⟩
theorem sqlSub {K : PySem.W.Frag} {G H : Hp} (s : Sub G H) {a : Addr} {xs : List V} (h : SqL K G a xs) : SqL K H a xs := by
  rcases h with h | h
  · exact .inl (rdSub s h)
  · exact .inr h
theorem sqtSub {K : PySem.W.Frag} {G H : Hp} (s : Sub G H) {a : Addr} {xs : List V} (h : SqT K G a xs) : SqT K H a xs := by
  rcases h with h | h
  · exact .inl (rdSub s h)
  · exact .inr h
theorem Sub.trans {A B C : Hp} (h : Sub A B) (k : Sub B C) : Sub A C := fun a o e => k a o (h a o e)
theorem Sub.refl (A : Hp) : Sub A A := fun _ _ e => e

section
variable {μ μ' : List Addr} {G G' H : Hp}
mutual
theorem R.mono (m : ∀ (i : Nat) (a : Addr), μ[i]? = some a → μ'[i]? = some a) (s : Sub G G') : ∀ (d : D) (v : V), R L μ G d v → R L μ' G' d v
  | .non, v, h => by unfold R at h ⊢; exact h
  | .bl b, v, h => by unfold R at h ⊢; exact h
  | .int i, v, h => by unfold R at h ⊢; exact h
  | .str x, v, h => by unfold R at h ⊢; exact h
  | .tup ds, v, h => by
    unfold R at h ⊢
    obtain ⟨a, vs, e, q, r⟩ := h
    exact ⟨a, vs, e, s _ _ q, Rs.mono m s ds vs r⟩
  | .ktp ds, v, h => by
    unfold R at h ⊢
    obtain ⟨a, vs, e, q, r⟩ := h
    exact ⟨a, vs, e, sqtSub s q, Rs.mono m s ds vs r⟩
  | .lst ds, v, h => by
    unfold R at h ⊢
    obtain ⟨a, vs, e, q, r⟩ := h
    exact ⟨a, vs, e, sqlSub s q, Rs.mono m s ds vs r⟩
  | .ins c ds, v, h => by
    unfold R at h ⊢
    obtain ⟨a, dx, vs, e, q, l, r⟩ := h
    exact ⟨a, dx, vs, e, s _ _ q, l, Rs.mono m s ds vs r⟩
  | .dct ks xs, v, h => by
    unfold R at h ⊢
    obtain ⟨a, kvs, e, q, k, r⟩ := h
    exact ⟨a, kvs, e, s _ _ q, k, Rs.mono m s xs _ r⟩
  | .dcT ks xs, v, h => by
    unfold R at h ⊢
    obtain ⟨a, kvs, e, q, k, r⟩ := h
    exact ⟨a, kvs, e, s _ _ q, k, Rs.mono m s xs _ r⟩
  | .cls c, v, h => by unfold R at h ⊢; exact h
  | .loc i, v, h => by
    unfold R at h ⊢
    obtain ⟨a, e, q⟩ := h
    exact ⟨a, m i a e, q⟩
theorem Rs.mono (m : ∀ (i : Nat) (a : Addr), μ[i]? = some a → μ'[i]? = some a) (s : Sub G G') : ∀ (ds : List D) (vs : List V), Rs L μ G ds vs → Rs L μ' G' ds vs
  | [], vs, h => by unfold Rs at h ⊢; exact h
  | d :: ds, vs, h => by
    unfold Rs at h ⊢
    obtain ⟨v, ws, e, r, t⟩ := h
    exact ⟨v, ws, e, R.mono m s d v r, Rs.mono m s ds ws t⟩
end
theorem R.sub (s : Sub G G') {d : D} {v : V} (h : R L μ G d v) : R L μ G' d v := R.mono (fun _ _ e => e) s d v h
theorem Rs.sub (s : Sub G G') {ds : List D} {vs : List V} (h : Rs L μ G ds vs) : Rs L μ G' ds vs := Rs.mono (fun _ _ e => e) s ds vs h
theorem Rs.length : ∀ {ds : List D} {vs : List V}, Rs L μ G ds vs → vs.length = ds.length
  | [], vs, h => by unfold Rs at h; subst h; rfl
  | d :: ds, vs, h => by
    unfold Rs at h
    obtain ⟨v, ws, e, _, t⟩ := h
    subst e
    rw [List.length_cons, List.length_cons, Rs.length t]
theorem Rs.nil : Rs L μ G [] [] := by unfold Rs; rfl
theorem Rs.cons {d : D} {v : V} {ds : List D} {vs : List V} (h : R L μ G d v) (t : Rs L μ G ds vs) : Rs L μ G (d :: ds) (v :: vs) := by unfold Rs; exact ⟨v, vs, rfl, h, t⟩
theorem Rs.nil_inv {vs : List V} (h : Rs L μ G [] vs) : vs = [] := by unfold Rs at h; exact h
theorem Rs.cons_inv {d : D} {ds : List D} {vs : List V} (h : Rs L μ G (d :: ds) vs) : ∃ v ws, vs = v :: ws ∧ R L μ G d v ∧ Rs L μ G ds ws := by unfold Rs at h; exact h
theorem Rs.append : ∀ {ds es : List D} {vs ws : List V}, Rs L μ G ds vs → Rs L μ G es ws → Rs L μ G (ds ++ es) (vs ++ ws)
  | [], es, vs, ws, h, k => by
    have := h.nil_inv
    subst this
    exact k
  | d :: ds, es, vs, ws, h, k => by
    obtain ⟨v, us, e, r, t⟩ := h.cons_inv
    subst e
    exact Rs.cons r (Rs.append t k)
theorem Rs.get : ∀ {ds : List D} {vs : List V} {i : Nat} {d : D}, Rs L μ G ds vs → ds[i]? = some d → ∃ v, vs[i]? = some v ∧ R L μ G d v
  | [], vs, i, d, h, e => by simp at e
  | d :: ds, vs, 0, d', h, e => by
    obtain ⟨v, us, e1, r, t⟩ := h.cons_inv
    subst e1
    simp at e
    subst e
    exact ⟨v, rfl, r⟩
  | d :: ds, vs, i + 1, d', h, e => by
    obtain ⟨v, us, e1, r, t⟩ := h.cons_inv
    subst e1
    obtain ⟨u, h1, h2⟩ := Rs.get (i := i) t (by simpa using e)
    exact ⟨u, by simpa using h1, h2⟩
theorem Rs.set : ∀ {ds : List D} {vs : List V} (i : Nat) {d : D} {v : V}, Rs L μ G ds vs → R L μ G d v → Rs L μ G (ds.set i d) (vs.set i v)
  | [], vs, i, d, v, h, r => by
    have := h.nil_inv
    subst this
    simpa using h
  | d :: ds, vs, 0, d', v, h, r => by
    obtain ⟨u, us, e1, _, t⟩ := h.cons_inv
    subst e1
    exact Rs.cons r t
  | d :: ds, vs, i + 1, d', v, h, r => by
    obtain ⟨u, us, e1, r1, t⟩ := h.cons_inv
    subst e1
    exact Rs.cons r1 (Rs.set i t r)
theorem Rs.take : ∀ {ds : List D} {vs : List V} (n : Nat), Rs L μ G ds vs → Rs L μ G (ds.take n) (vs.take n)
  | _, _, 0, h => Rs.nil
  | [], vs, n + 1, h => by
    have := h.nil_inv
    subst this
    exact Rs.nil
  | d :: ds, vs, n + 1, h => by
    obtain ⟨u, us, e1, r1, t⟩ := h.cons_inv
    subst e1
    exact Rs.cons r1 (Rs.take n t)
theorem Rs.drop : ∀ {ds : List D} {vs : List V} (n : Nat), Rs L μ G ds vs → Rs L μ G (ds.drop n) (vs.drop n)
  | _, _, 0, h => h
  | [], vs, n + 1, h => by
    have := h.nil_inv
    subst this
    exact Rs.nil
  | d :: ds, vs, n + 1, h => by
    obtain ⟨u, us, e1, r1, t⟩ := h.cons_inv
    subst e1
    exact Rs.drop n t
theorem Rs.reverse {ds : List D} {vs : List V} (h : Rs L μ G ds vs) : Rs L μ G ds.reverse vs.reverse := by
  induction ds generalizing vs with
  | nil =>
    have := h.nil_inv
    subst this
    exact Rs.nil
  | cons d ds ih =>
    obtain ⟨u, us, e1, r1, t⟩ := h.cons_inv
    subst e1
    rw [List.reverse_cons, List.reverse_cons]
    exact (ih t).append (Rs.cons r1 Rs.nil)
end

/-- an object at p that is not in G: its content reads as d, from G -/
def Top (L : Lk) (μ : List Addr) (G H : Hp) : D → Addr → Prop
  | .lst ds, p => ∃ vs, H p = some (.lst vs) ∧ Rs L μ G ds vs
  | .ins c ds, p => ∃ dx vs, H p = some (.ins (L.cA c) dx ((L.flds c).zip vs)) ∧ vs.length ≤ (L.flds c).length ∧ Rs L μ G ds vs
  | .dct ks xs, p => ∃ kvs, H p = some (.dK kvs) ∧ kvs.map (fun p => keyD p.1) = ks ∧ Rs L μ G xs (kvs.map (·.2))
  | .dcT ks xs, p => ∃ kvs, H p = some (.dT kvs) ∧ kvs.map (·.1) = ks ∧ Rs L μ G xs (kvs.map (·.2))
  | _, _ => False

/-- the state: G known and still; the cells S at μ -/
structure Stt (L : Lk) (μ : List Addr) (S : List D) (G H : Hp) : Prop where
  sub : Sub G H
  tk : ∀ a vs, H a = some (.tup vs) → G a = some (.tup vs)
  len : μ.length = S.length
  nd : ∀ (i j : Nat) (a : Addr), μ[i]? = some a → μ[j]? = some a → i = j
  cell : ∀ (i : Nat) (a : Addr) (d : D), μ[i]? = some a → S[i]? = some d → G a = none ∧ Top L μ G H d a

/-- a step: G grows by new things, what was held stays but the cells -/
structure Ext (μ : List Addr) (G H : Hp) (μ' : List Addr) (G' H' : Hp) : Prop where
  c : ∃ t, μ' = μ ++ t ∧ ∀ a ∈ t, H a = none
  g : Sub G G'
  h : ∀ a o, H a = some o → a ∉ μ → H' a = some o
  n : ∀ a, H a ≠ none → G a = none → G' a = none
  m : ∀ a, H a ≠ none → H' a ≠ none
theorem Ext.refl (μ : List Addr) (G H : Hp) : Ext μ G H μ G H := ⟨⟨[], by simp, fun a m => nomatch m⟩, fun _ _ e => e, fun _ _ e _ => e, fun _ _ e => e, fun _ e => e⟩
theorem Ext.out {μ μ' : List Addr} {G H G' H' : Hp} (a : Ext μ G H μ' G' H') {x : Addr} {o : HO} (e : H x = some o) (m : x ∉ μ) : x ∉ μ' := by
  obtain ⟨t, rfl, ht⟩ := a.c
  intro z
  rcases List.mem_append.mp z with z | z
  · exact m z
  · rw [ht x z] at e; cases e
theorem Ext.trans {μ μ1 μ2 : List Addr} {G H G1 H1 G2 H2 : Hp} (a : Ext μ G H μ1 G1 H1) (b : Ext μ1 G1 H1 μ2 G2 H2) : Ext μ G H μ2 G2 H2 := by
  refine ⟨?_, a.g.trans b.g, fun x o e m => b.h x o (a.h x o e m) (a.out e m), fun x e n => b.n x (a.m x e) (a.n x e n), fun x e => b.m x (a.m x e)⟩
  obtain ⟨t, e1, h1⟩ := a.c
  obtain ⟨u, e2, h2⟩ := b.c
  refine ⟨t ++ u, by rw [e2, e1, List.append_assoc], fun x m => ?_⟩
  rcases List.mem_append.mp m with m | m
  · exact h1 x m
  · cases e : H x with
    | none => rfl
    | some o => exact absurd (h2 x m) (a.m x (by rw [e]; exact fun z => nomatch z))
theorem Ext.pre {μ μ' : List Addr} {G H G' H' : Hp} (a : Ext μ G H μ' G' H') (i : Nat) (x : Addr) (e : μ[i]? = some x) : μ'[i]? = some x := by
  obtain ⟨t, e1, h1⟩ := a.c
  rw [e1, List.getElem?_append_left (List.getElem?_eq_some_iff.mp e).1]
  exact e
theorem R.ext {L : Lk} {μ μ' : List Addr} {G H G' H' : Hp} {d : D} {v : V} (h : R L μ G d v) (e : Ext μ G H μ' G' H') : R L μ' G' d v := R.mono e.pre e.g d v h
theorem Rs.ext {L : Lk} {μ μ' : List Addr} {G H G' H' : Hp} {d : List D} {v : List V} (h : Rs L μ G d v) (e : Ext μ G H μ' G' H') : Rs L μ' G' d v := Rs.mono e.pre e.g d v h

/-- a local's content -/
inductive Sl where
  /-- nothing is known -/
  | emp
  /-- a value -/
  | val (d : D)
  /-- a thing that no one else holds -/
  | own (d : D)

structure Rel (L : Lk) (μ : List Addr) (G H : Hp) (σ : St) (ρ : List Sl) (π : Nat → Option Addr) : Prop where
  val : ∀ (i : Nat) (d : D), ρ[i]? = some (.val d) → ∃ v, σ[i]? = some (some v) ∧ R L μ G d v
  own : ∀ (i : Nat) (d : D), ρ[i]? = some (.own d) → ∃ p, π i = some p ∧ σ[i]? = some (some (.ref p)) ∧ Top L μ G H d p ∧ G p = none ∧ p ∉ μ
  inj : ∀ (i j : Nat) (p : Addr), π i = some p → π j = some p → i = j
  only : ∀ (i : Nat) (p : Addr), π i = some p → ∃ d, ρ[i]? = some (.own d)
  len : ρ.length = σ.length

theorem Top.ext {μ μ' : List Addr} {G H G' H' : Hp} (e : Ext μ G H μ' G' H') : ∀ {d : D} {p : Addr}, Top L μ G H d p → p ∉ μ → Top L μ' G' H' d p
  | .lst ds, p, ⟨vs, h, r⟩, m => ⟨vs, e.h _ _ h m, r.ext e⟩
  | .ins c ds, p, ⟨dx, vs, h, l, r⟩, m => ⟨dx, vs, e.h _ _ h m, l, r.ext e⟩
  | .non, _, h, _ => h.elim
  | .bl _, _, h, _ => h.elim
  | .int _, _, h, _ => h.elim
  | .str _, _, h, _ => h.elim
  | .tup _, _, h, _ => h.elim
  | .ktp _, _, h, _ => h.elim
  | .dct ks xs, p, ⟨kvs, h, k, r⟩, m => ⟨kvs, e.h _ _ h m, k, r.ext e⟩
  | .dcT ks xs, p, ⟨kvs, h, k, r⟩, m => ⟨kvs, e.h _ _ h m, k, r.ext e⟩
  | .cls _, _, h, _ => h.elim
  | .loc _, _, h, _ => h.elim
theorem Top.some {μ : List Addr} {G H : Hp} : ∀ {d : D} {p : Addr}, Top L μ G H d p → ∃ o, H p = some o
  | .lst ds, p, ⟨vs, h, r⟩ => ⟨_, h⟩
  | .ins c ds, p, ⟨dx, vs, h, l, r⟩ => ⟨_, h⟩
  | .non, _, h => h.elim
  | .bl _, _, h => h.elim
  | .int _, _, h => h.elim
  | .str _, _, h => h.elim
  | .tup _, _, h => h.elim
  | .ktp _, _, h => h.elim
  | .dct ks xs, p, ⟨kvs, h, k, r⟩ => ⟨_, h⟩
  | .dcT ks xs, p, ⟨kvs, h, k, r⟩ => ⟨_, h⟩
  | .cls _, _, h => h.elim
  | .loc _, _, h => h.elim
theorem Top.sub {μ : List Addr} {G H G' H' : Hp} (g : Sub G G') {p : Addr} (e : H' p = H p) : ∀ {d : D}, Top L μ G H d p → Top L μ G' H' d p
  | .lst ds, ⟨vs, h, r⟩ => ⟨vs, e.trans h, r.sub g⟩
  | .ins c ds, ⟨dx, vs, h, l, r⟩ => ⟨dx, vs, e.trans h, l, r.sub g⟩
  | .non, h => h.elim
  | .bl _, h => h.elim
  | .int _, h => h.elim
  | .str _, h => h.elim
  | .tup _, h => h.elim
  | .ktp _, h => h.elim
  | .dct ks xs, ⟨kvs, h, k, r⟩ => ⟨kvs, e.trans h, k, r.sub g⟩
  | .dcT ks xs, ⟨kvs, h, k, r⟩ => ⟨kvs, e.trans h, k, r.sub g⟩
  | .cls _, h => h.elim
  | .loc _, h => h.elim
theorem Rel.ext {μ μ' : List Addr} {G H G' H' : Hp} {σ : St} {ρ : List Sl} {π : Nat → Option Addr} (r : Rel L μ G H σ ρ π) (e : Ext μ G H μ' G' H') : Rel L μ' G' H' σ ρ π :=
  ⟨fun i d h => let ⟨v, a, b⟩ := r.val i d h; ⟨v, a, b.ext e⟩,
   fun i d h => by
     obtain ⟨p, a, b, t, n, m⟩ := r.own i d h
     obtain ⟨o, q⟩ := t.some
     exact ⟨p, a, b, t.ext e m, e.n p (by rw [q]; exact fun z => nomatch z) n, e.out q m⟩, r.inj, r.only, r.len⟩

end PyD

/-! PyD: outcomes, and what a judgement of the layer asks when a code's answer is known. -/
namespace PyD
open PySem L2

/-- what a code answers over the cells S: a value and the cells behind it; an exception of class number c; nothing that is told -/
inductive Out (α : Type) where
  | ok (a : α) (S : List D)
  | exc (c : Nat) (fs : List D) (S : List D)
  | bad
def Out.bind {α β : Type} (o : Out α) (f : α → List D → Out β) : Out β := match o with
  | .ok a S => f a S
  | .exc c fs S => .exc c fs S
  | .bad => .bad
abbrev Ef (α : Type) := List Sl → List D → Out α

variable (L : Lk)
/-- an exception's object reads as class number c with the attributes fs -/
def ExcR (μ : List Addr) (G H : Hp) (c : Nat) (fs : List D) (cls : Value) (d : Option Addr) : Prop :=
  cls = .ref (L.cA c) ∧ match d with
    | none => fs = []
    | some x => ∃ vs, H x = some (.xd ((L.flds c).zip vs)) ∧ vs.length ≤ (L.flds c).length ∧ Rs L μ G fs vs
/-- behind an outcome, K; where it is an exception, E -/
def Post {α : Type} (E : XK) (μ : List Addr) (G H : Hp) (o : Out α) (K : α → List D → List Addr → Hp → Hp → Prop) : Prop := match o with
  | .ok a S => ∀ μ' G' H', Ext μ G H μ' G' H' → Stt L μ' S G' H' → K a S μ' G' H'
  | .exc c fs S => ∀ cls d μ' G' H', Ext μ G H μ' G' H' → Stt L μ' S G' H' → ExcR L μ' G' H' c fs cls d → E cls d H'
  | .bad => False
/-- a value that is only looked at: known, or a thing that no one else holds -/
def RT (μ : List Addr) (G H : Hp) (d : D) (v : V) : Prop := R L μ G d v ∨ ∃ p, v = .ref p ∧ Top L μ G H d p ∧ G p = none ∧ p ∉ μ

variable {L}
section
variable {α β : Type} {E : XK} {μ μ' : List Addr} {G H G' H' : Hp} {S : List D} {σ : St} {ρ : List Sl} {π : Nat → Option Addr}
theorem Post.imp {o : Out α} {K K' : α → List D → List Addr → Hp → Hp → Prop} (h : Post L E μ G H o K) (k : ∀ a S μ' G' H', Ext μ G H μ' G' H' → Stt L μ' S G' H' → K a S μ' G' H' → K' a S μ' G' H') : Post L E μ G H o K' := by
  cases o with
  | ok a S => exact fun μ' G' H' e s => k a S μ' G' H' e s (h μ' G' H' e s)
  | exc c fs S => exact h
  | bad => exact h
theorem Post.ext {o : Out α} {K : α → List D → List Addr → Hp → Hp → Prop} (h : Post L E μ G H o K) (e : Ext μ G H μ' G' H') : Post L E μ' G' H' o K := by
  cases o with
  | ok a S => exact fun μ2 G2 H2 e2 s => h μ2 G2 H2 (e.trans e2) s
  | exc c fs S => exact fun cls d μ2 G2 H2 e2 s r => h cls d μ2 G2 H2 (e.trans e2) s r
  | bad => exact h
theorem Post.split {o : Out α} {f : α → List D → Out β} {K : β → List D → List Addr → Hp → Hp → Prop} (h : Post L E μ G H (o.bind f) K) :
    Post L E μ G H o (fun a S μ' G' H' => Post L E μ' G' H' (f a S) K) := by
  cases o with
  | ok a S => exact fun μ' G' H' e s => Post.ext h e
  | exc c fs S => exact h
  | bad => exact h
theorem RT.of {d : D} {v : V} (h : R L μ G d v) : RT L μ G H d v := .inl h
theorem RT.ext {d : D} {v : V} (h : RT L μ G H d v) (e : Ext μ G H μ' G' H') : RT L μ' G' H' d v := by
  rcases h with h | ⟨p, a, t, n, m⟩
  · exact .inl (h.ext e)
  · obtain ⟨o, q⟩ := t.some
    exact .inr ⟨p, a, t.ext e m, e.n p (by rw [q]; exact fun z => nomatch z) n, e.out q m⟩

variable (L)
/-- a code whose answer is known: a value -/
def tO (W : WX) (f : Ef D) : TE := fun σ H Q => ∃ μ S G ρ π, Stt L μ S G H ∧ Rel L μ G H σ ρ π ∧ Post L (fun c d H' => W c d σ H') μ G H (f ρ S) (fun d _ μ' G' H' => ∀ v, R L μ' G' d v → Q v H')
/-- .. a value that is only looked at -/
def tB (W : WX) (f : Ef D) : TE := fun σ H Q => ∃ μ S G ρ π, Stt L μ S G H ∧ Rel L μ G H σ ρ π ∧ Post L (fun c d H' => W c d σ H') μ G H (f ρ S) (fun d _ μ' G' H' => ∀ v, RT L μ' G' H' d v → Q v H')
/-- .. a new list that no one holds -/
def tF (W : WX) (f : Ef D) : TE := fun σ H Q => ∃ μ S G ρ π, Stt L μ S G H ∧ Rel L μ G H σ ρ π ∧ Post L (fun c d H' => W c d σ H') μ G H (f ρ S)
  (fun d _ μ' G' H' => ∀ p, Top L μ' G' H' d p → G' p = none → H p = none → p ∉ μ' → Q (.ref p) H')
/-- .. several values -/
def tA (W : WX) (f : Ef (List D)) : TA := fun σ H Q => ∃ μ S G ρ π, Stt L μ S G H ∧ Rel L μ G H σ ρ π ∧ Post L (fun c d H' => W c d σ H') μ G H (f ρ S) (fun ds _ μ' G' H' => ∀ vs, Rs L μ' G' ds vs → Q vs H')
/-- .. a test -/
def tT (W : WX) (f : Ef Bool) : TT := fun σ H Q => ∃ μ S G ρ π, Stt L μ S G H ∧ Rel L μ G H σ ρ π ∧ Post L (fun c d H' => W c d σ H') μ G H (f ρ S) (fun b _ _ _ H' => Q b H')
variable {L}

theorem _root_.L2.PE.to {X : Cx} {e : Expr} {t t' : TE} (h : PE X e t) (k : ∀ σ H Q, t' σ H Q → t σ H Q) : PE X e t' := ⟨fun pins s σ H Q I q => h.run pins s σ H Q I (k σ H Q q)⟩
theorem _root_.L2.PT.to {X : Cx} {e : Expr} {t t' : TT} (h : PT X e t) (k : ∀ σ H Q, t' σ H Q → t σ H Q) : PT X e t' := ⟨fun pins s σ H Q I q => h.run pins s σ H Q I (k σ H Q q)⟩
theorem _root_.L2.PW.to {X : Cx} {e : Expr} {t t' : TT} (h : PW X e t) (k : ∀ σ H Q, t' σ H Q → t σ H Q) : PW X e t' := ⟨fun wh pins s σ H Q I q => h.run wh pins s σ H Q I (k σ H Q q)⟩
theorem _root_.L2.PA.to {X : Cx} {es : List Expr} {t t' : TA} (h : PA X es t) (k : ∀ σ H Q, t' σ H Q → t σ H Q) : PA X es t' := ⟨fun pos pins s σ H Q I q => h.run pos pins s σ H Q I (k σ H Q q)⟩
theorem _root_.L2.PS.to {X : Cx} {e : Stmt} {t t' : TS} (h : PS X e t) (k : ∀ D σ H, t' D σ H → t D σ H) : PS X e t' := ⟨fun pins s σ H D I q => h.run pins s σ H D I (k D σ H q)⟩
theorem _root_.L2.PSs.to {X : Cx} {e : List Stmt} {t t' : TS} (h : PSs X e t) (k : ∀ D σ H, t' D σ H → t D σ H) : PSs X e t' := ⟨fun pins s σ H D I q => h.run pins s σ H D I (k D σ H q)⟩

variable {W : WX}
theorem tB_tO {f : Ef D} {Q : VK} (h : tB L W f σ H Q) : tO L W f σ H Q := by
  obtain ⟨μ, S, G, ρ, π, st, rel, p⟩ := h
  exact ⟨μ, S, G, ρ, π, st, rel, p.imp fun a S μ' G' H' _ _ k v r => k v (.of r)⟩

/-! ### atoms -/
def fVar (i : Nat) : Ef D := fun ρ S => match ρ[i]? with
  | some (.val d) => .ok d S
  | _ => .bad
/-- looked at only -/
def fLook (i : Nat) : Ef D := fun ρ S => match ρ[i]? with
  | some (.val d) => .ok d S
  | some (.own d) => .ok d S
  | _ => .bad
def fLit (d : D) : Ef D := fun _ S => .ok d S
theorem to_var {i : Nat} {Q : VK} (h : tO L W (fVar i) σ H Q) : tVar i σ H Q := by
  obtain ⟨μ, S, G, ρ, π, st, rel, p⟩ := h
  unfold fVar at p
  split at p
  · rename_i d e
    obtain ⟨v, e1, r⟩ := rel.val i d e
    exact ⟨v, e1, p μ G H (.refl _ _ _) st v r⟩
  · exact p.elim
theorem to_look {i : Nat} {Q : VK} (h : tB L W (fLook i) σ H Q) : tVar i σ H Q := by
  obtain ⟨μ, S, G, ρ, π, st, rel, p⟩ := h
  unfold fLook at p
  split at p
  · rename_i d e
    obtain ⟨v, e1, r⟩ := rel.val i d e
    exact ⟨v, e1, p μ G H (.refl _ _ _) st v (.inl r)⟩
  · rename_i d e
    obtain ⟨a, e0, e1, t, n, m⟩ := rel.own i d e
    exact ⟨_, e1, p μ G H (.refl _ _ _) st _ (.inr ⟨a, rfl, t, n, m⟩)⟩
  · exact p.elim
theorem to_lit {d : D} {v : V} {Q : VK} (hv : ∀ μ G, R L μ G d v) (h : tO L W (fLit d) σ H Q) : tC v σ H Q := by
  obtain ⟨μ, S, G, ρ, π, st, rel, p⟩ := h
  exact p μ G H (.refl _ _ _) st v (hv μ G)

/-! ### operations -/
def fTwo (op : D → D → List D → Out D) (fa fb : Ef D) : Ef D := fun ρ S => (fa ρ S).bind fun x S1 => (fb ρ S1).bind fun y S2 => op x y S2
def fOne (op : D → List D → Out D) (fa : Ef D) : Ef D := fun ρ S => (fa ρ S).bind fun x S1 => op x S1
variable (L)
/-- an operation on two values that are looked at -/
def rTwo (op : D → D → List D → Out D) : R2 := fun v u H Q => ∃ E μ S G x y, Stt L μ S G H ∧ RT L μ G H x v ∧ RT L μ G H y u ∧ Post L E μ G H (op x y S) (fun d _ μ' G' H' => ∀ w, R L μ' G' d w → Q w H')
def rOne (op : D → List D → Out D) : V → Hp → VK → Prop := fun v H Q => ∃ E μ S G x, Stt L μ S G H ∧ RT L μ G H x v ∧ Post L E μ G H (op x S) (fun d _ μ' G' H' => ∀ w, R L μ' G' d w → Q w H')
variable {L}
theorem to_two {op : D → D → List D → Out D} {fa fb : Ef D} {Q : VK} (h : tO L W (fTwo op fa fb) σ H Q) : tOp (rTwo L op) (tB L W fa) (tB L W fb) σ H Q := by
  obtain ⟨μ, S, G, ρ, π, st, rel, p⟩ := h
  refine ⟨μ, S, G, ρ, π, st, rel, p.split.imp fun x S1 μ1 G1 H1 e1 st1 p1 v rv => ?_⟩
  refine ⟨μ1, S1, G1, ρ, π, st1, rel.ext e1, p1.split.imp fun y S2 μ2 G2 H2 e2 st2 p2 u ru => ?_⟩
  exact ⟨_, μ2, S2, G2, x, y, st2, rv.ext e2, ru, p2⟩
theorem to_one {op : D → List D → Out D} {fa : Ef D} {Q : VK} (h : tO L W (fOne op fa) σ H Q) : tUn (rOne L op) (tB L W fa) σ H Q := by
  obtain ⟨μ, S, G, ρ, π, st, rel, p⟩ := h
  refine ⟨μ, S, G, ρ, π, st, rel, p.split.imp fun x S1 μ1 G1 H1 e1 st1 p1 v rv => ?_⟩
  exact ⟨_, μ1, S1, G1, x, st1, rv, p1⟩
end
end PyD

/-! PyD: operations on values: what they answer on data, and that the layer's operations do the same. -/
namespace PyD
open PySem L2

abbrev LIM : Nat := 16777216
theorem lim_eq : sizeLine = LIM := sizeLine_eq

section
variable {L : Lk} {E : XK} {μ : List Addr} {G G' H H' : Hp} {S : List D}

/-! ### looking at a value -/
/-- a cell's content, any other value itself -/
def dr (S : List D) : D → D
  | .loc i => S.getD i .non
  | .ktp ds => .tup ds
  | d => d
/-- what v shows: a value's own reading, or an object whose content is d -/
inductive Vw (L : Lk) (μ : List Addr) (G H : Hp) (d : D) (v : V) : Prop where
  | val (h : R L μ G d v) (n : ∀ i, d ≠ .loc i) : Vw L μ G H d v
  | top (p : Addr) (e : v = .ref p) (t : Top L μ G H d p) : Vw L μ G H d v
  | kt (a : Addr) (vs : List V) (ds : List D) (hd : d = .tup ds) (e : v = .ref a) (q : SqT L.K G a vs) (r : Rs L μ G ds vs) : Vw L μ G H d v
theorem RT.vw (st : Stt L μ S G H) {d : D} {v : V} (h : RT L μ G H d v) : Vw L μ G H (dr S d) v := by
  rcases h with h | ⟨p, e, t, n, m⟩
  · cases d with
    | loc i =>
      unfold R at h
      obtain ⟨a, e, q⟩ := h
      subst q
      have hi : i < S.length := by rw [← st.len]; exact (List.getElem?_eq_some_iff.mp e).1
      have e2 : S[i]? = some (S.getD i .non) := by rw [List.getD_eq_getElem?_getD, List.getElem?_eq_getElem hi]; rfl
      exact .top a rfl (st.cell i a _ e e2).2
    | ktp ds =>
      unfold R at h
      obtain ⟨a, vs, e, q, r⟩ := h
      exact .kt a vs ds rfl e q r
    | _ => exact .val h fun i z => nomatch z
  · cases d with
    | loc i => exact t.elim
    | ktp _ => exact t.elim
    | _ => exact .top p e t
/-- a tuple of the module -/
def isKt : D → Bool
  | .ktp _ => true
  | _ => false
/-- a tuple, not of the module: its own reading -/
theorem RT.nokt (st : Stt L μ S G H) {x : D} {v : V} {ds : List D} (h : RT L μ G H x v) (k : isKt x = false) (e : dr S x = .tup ds) : R L μ G (.tup ds) v := by
  rcases h with h | ⟨p, e', t, n, m⟩
  · cases x with
    | loc i =>
      unfold R at h
      obtain ⟨a, ea, q⟩ := h
      have hi : i < S.length := by rw [← st.len]; exact (List.getElem?_eq_some_iff.mp ea).1
      have e2 : S[i]? = some (S.getD i .non) := by rw [List.getD_eq_getElem?_getD, List.getElem?_eq_getElem hi]; rfl
      have t := (st.cell i a _ ea e2).2
      have e3 : S.getD i .non = .tup ds := e
      rw [e3] at t
      exact t.elim
    | ktp _ => cases k
    | tup _ => cases e; exact h
    | _ => cases e
  · cases x with
    | loc _ => exact t.elim
    | tup _ => exact t.elim
    | ktp _ => exact t.elim
    | _ => cases e
theorem Vw.ints {i : Int} {v : V} (h : Vw L μ G H (.int i) v) : v = .int i := by
  cases h with
  | val h n => unfold R at h; exact h
  | top p e t => exact t.elim
  | kt _ _ _ hd => cases hd
theorem Vw.strs {i : Str} {v : V} (h : Vw L μ G H (.str i) v) : v = .str i := by
  cases h with
  | val h n => unfold R at h; exact h
  | top p e t => exact t.elim
  | kt _ _ _ hd => cases hd
theorem Vw.bls {i : Bool} {v : V} (h : Vw L μ G H (.bl i) v) : v = .bl i := by
  cases h with
  | val h n => unfold R at h; exact h
  | top p e t => exact t.elim
  | kt _ _ _ hd => cases hd
theorem Vw.nons {v : V} (h : Vw L μ G H .non v) : v = .non := by
  cases h with
  | val h n => unfold R at h; exact h
  | top p e t => exact t.elim
  | kt _ _ _ hd => cases hd
theorem Vw.lsts (s : Sub G H) {ds : List D} {v : V} (h : Vw L μ G H (.lst ds) v) : ∃ a vs, v = .ref a ∧ SqL L.K H a vs ∧ Rs L μ G ds vs := by
  cases h with
  | val h n =>
    unfold R at h
    obtain ⟨a, vs, e, q, r⟩ := h
    exact ⟨a, vs, e, sqlSub s q, r⟩
  | top p e t =>
    obtain ⟨vs, h, r⟩ := t
    exact ⟨p, vs, e, SqL.of h, r⟩
  | kt _ _ _ hd => cases hd
theorem Vw.tups (s : Sub G H) {ds : List D} {v : V} (h : Vw L μ G H (.tup ds) v) : ∃ a vs, v = .ref a ∧ SqT L.K H a vs ∧ Rs L μ G ds vs := by
  cases h with
  | val h n =>
    unfold R at h
    obtain ⟨a, vs, e, q, r⟩ := h
    exact ⟨a, vs, e, SqT.of (s _ _ q), r⟩
  | top p e t => exact t.elim
  | kt a vs ds hd e q r => cases hd; exact ⟨a, vs, e, sqtSub s q, r⟩
theorem Vw.inss (s : Sub G H) {c : Nat} {ds : List D} {v : V} (h : Vw L μ G H (.ins c ds) v) : ∃ a dx vs, v = .ref a ∧ H a = some (.ins (L.cA c) dx ((L.flds c).zip vs)) ∧ vs.length ≤ (L.flds c).length ∧ Rs L μ G ds vs := by
  cases h with
  | val h n =>
    unfold R at h
    obtain ⟨a, dx, vs, e, q, l, r⟩ := h
    exact ⟨a, dx, vs, e, s _ _ q, l, r⟩
  | top p e t =>
    obtain ⟨dx, vs, h, l, r⟩ := t
    exact ⟨p, dx, vs, e, h, l, r⟩
  | kt _ _ _ hd => cases hd

/-! ### new things -/
theorem Stt.fresh (st : Stt L μ S G H) {p : Addr} (h : H p = none) : G p = none ∧ p ∉ μ := by
  refine ⟨?_, fun m => ?_⟩
  · cases e : G p with
    | none => rfl
    | some o => rw [st.sub p o e] at h; cases h
  · obtain ⟨i, hi, e⟩ := List.getElem_of_mem m
    have e1 : μ[i]? = some p := by rw [List.getElem?_eq_getElem hi, e]
    have hs : i < S.length := by rw [← st.len]; exact hi
    obtain ⟨o, q⟩ := (st.cell i p S[i] e1 (List.getElem?_eq_getElem hs)).2.some
    rw [q] at h; cases h
/-- a new thing, known -/
theorem Stt.put (st : Stt L μ S G H) {p : Addr} {o : HO} (h : H p = none) : Ext μ G H μ (upd G p o) (upd H p o) ∧ Stt L μ S (upd G p o) (upd H p o) := by
  obtain ⟨g, m⟩ := st.fresh h
  have sg : Sub G (upd G p o) := fun a u e => by rw [upd_ne (ne_of_none e g)]; exact e
  refine ⟨⟨⟨[], by simp, fun a m => nomatch m⟩, sg, fun a u e _ => by rw [upd_ne (ne_of_none e h)]; exact e, fun a e n => ?_, fun a e => ?_⟩, ⟨fun a u e => ?_, fun a vs e => ?_, st.len, st.nd, fun i a d e1 e2 => ?_⟩⟩
  · have ne : a ≠ p := fun z => e (z ▸ h)
    rw [upd_ne ne]; exact n
  · have ne : a ≠ p := fun z => e (z ▸ h)
    rw [upd_ne ne]; exact e
  · by_cases z : a = p
    · subst z; rw [upd_same] at e ⊢; exact e
    · rw [upd_ne z] at e ⊢; exact st.sub a u e
  · by_cases z : a = p
    · subst z; rw [upd_same] at e ⊢; exact e
    · rw [upd_ne z] at e ⊢; exact st.tk a vs e
  · obtain ⟨n, t⟩ := st.cell i a d e1 e2
    have ne : a ≠ p := fun z => m (z ▸ List.mem_of_getElem? e1)
    exact ⟨by rw [upd_ne ne]; exact n, t.sub sg (by rw [upd_ne ne])⟩
/-- a new thing, not known -/
theorem Stt.lay (st : Stt L μ S G H) {p : Addr} {o : HO} (h : H p = none) (nt : ∀ vs, o ≠ .tup vs := by intro vs z; cases z) : Ext μ G H μ G (upd H p o) ∧ Stt L μ S G (upd H p o) := by
  obtain ⟨g, m⟩ := st.fresh h
  refine ⟨⟨⟨[], by simp, fun a m => nomatch m⟩, .refl _, fun a u e _ => by rw [upd_ne (ne_of_none e h)]; exact e, fun a e n => n, fun a e => ?_⟩, ⟨fun a u e => ?_, fun a vs e => ?_, st.len, st.nd, fun i a d e1 e2 => ?_⟩⟩
  · have ne : a ≠ p := fun z => e (z ▸ h)
    rw [upd_ne ne]; exact e
  · rw [upd_ne (ne_of_none e g)]; exact st.sub a u e
  · by_cases z : a = p
    · subst z; rw [upd_same] at e; exact absurd (Option.some.inj e) (nt vs)
    · rw [upd_ne z] at e; exact st.tk a vs e
  · obtain ⟨n, t⟩ := st.cell i a d e1 e2
    have ne : a ≠ p := fun z => m (z ▸ List.mem_of_getElem? e1)
    exact ⟨n, t.sub (.refl _) (by rw [upd_ne ne])⟩
/-- a thing that no one else holds becomes known -/
theorem Stt.keep (st : Stt L μ S G H) {μ0 : List Addr} {G0 H0 : Hp} (e0 : Ext μ0 G0 H0 μ G H) {p : Addr} {o : HO} (hp : H p = some o) (g : G p = none) (m : p ∉ μ) (h0 : H0 p = none) : Ext μ0 G0 H0 μ (upd G p o) H ∧ Stt L μ S (upd G p o) H := by
  have sg : Sub G (upd G p o) := fun a u e => by rw [upd_ne (ne_of_none e g)]; exact e
  refine ⟨⟨e0.c, e0.g.trans sg, e0.h, fun a e n => ?_, e0.m⟩, ⟨fun a u e => ?_, fun a vs e => ?_, st.len, st.nd, fun i a d e1 e2 => ?_⟩⟩
  · have ne : a ≠ p := fun z => e (z ▸ h0)
    rw [upd_ne ne]; exact e0.n a e n
  · by_cases z : a = p
    · subst z; rw [upd_same] at e; rw [← e]; exact hp
    · rw [upd_ne z] at e; exact st.sub a u e
  · by_cases z : a = p
    · subst z; rw [hp] at e; rw [upd_same]; exact e
    · rw [upd_ne z]; exact st.tk a vs e
  · obtain ⟨n, t⟩ := st.cell i a d e1 e2
    have ne : a ≠ p := fun z => m (z ▸ List.mem_of_getElem? e1)
    exact ⟨by rw [upd_ne ne]; exact n, t.sub sg rfl⟩
theorem Rs.tup_new {p : Addr} {ds : List D} {vs : List V} (g : G p = none) (r : Rs L μ G ds vs) : R L μ (upd G p (.tup vs)) (.tup ds) (.ref p) := by
  unfold R
  exact ⟨p, vs, rfl, upd_same, r.sub fun a u e => by rw [upd_ne (ne_of_none e g)]; exact e⟩
theorem Rs.lst_new {p : Addr} {ds : List D} {vs : List V} (g : G p = none) (r : Rs L μ G ds vs) : R L μ (upd G p (.lst vs)) (.lst ds) (.ref p) := by
  unfold R
  exact ⟨p, vs, rfl, SqL.of upd_same, r.sub fun a u e => by rw [upd_ne (ne_of_none e g)]; exact e⟩
/-- a new list, as a value -/
theorem tO_tF {σ : St} {W : WX} {f : Ef D} {Q : VK} (h : tO L W f σ H Q) : tF L W f σ H Q := by
  obtain ⟨μ, S, G, ρ, π, st, rel, p⟩ := h
  refine ⟨μ, S, G, ρ, π, st, rel, ?_⟩
  generalize f ρ S = o at p
  cases o with
  | exc c fs S' => exact p
  | bad => exact p
  | ok d S' =>
    intro μ' G' H' e s a t g n m
    cases d with
    | lst ds =>
      obtain ⟨vs, hp, r⟩ := t
      obtain ⟨e2, s2⟩ := s.keep e hp g m n
      exact p _ _ H' e2 s2 (.ref a) (r.lst_new g)
    | ins c ds =>
      obtain ⟨dx, vs, hp, l, r⟩ := t
      obtain ⟨e2, s2⟩ := s.keep e hp g m n
      refine p _ _ H' e2 s2 (.ref a) ?_
      unfold R
      exact ⟨a, dx, vs, rfl, upd_same, l, r.sub fun a u e => by rw [upd_ne (ne_of_none e g)]; exact e⟩
    | dct ks xs =>
      obtain ⟨kvs, hp, hk, r⟩ := t
      obtain ⟨e2, s2⟩ := s.keep e hp g m n
      refine p _ _ H' e2 s2 (.ref a) ?_
      unfold R
      exact ⟨a, kvs, rfl, upd_same, hk, r.sub fun a u e => by rw [upd_ne (ne_of_none e g)]; exact e⟩
    | dcT ks xs =>
      obtain ⟨kvs, hp, hk, r⟩ := t
      obtain ⟨e2, s2⟩ := s.keep e hp g m n
      refine p _ _ H' e2 s2 (.ref a) ?_
      unfold R
      exact ⟨a, kvs, rfl, upd_same, hk, r.sub fun a u e => by rw [upd_ne (ne_of_none e g)]; exact e⟩
    | _ => exact t.elim

/-! ### data without instances -/
mutual
def toP : D → PyData
  | .non => .none
  | .bl b => .bool b
  | .int i => .int i
  | .str x => .str x
  | .tup ds => .tuple (toPs ds)
  | .lst ds => .list (toPs ds)
  | _ => .none
def toPs : List D → List PyData
  | [] => []
  | d :: ds => toP d :: toPs ds
end
mutual
def plain : D → Bool
  | .non => true
  | .bl _ => true
  | .int _ => true
  | .str _ => true
  | .tup ds => plains ds
  | .lst ds => plains ds
  | _ => false
def plains : List D → Bool
  | [] => true
  | d :: ds => plain d && plains ds
end
mutual
theorem R.dp (s : Sub G H) : ∀ (d : D) (v : V), plain d = true → R L μ G d v → Dp L.K H v (toP d)
  | .non, v, _, h => by unfold R at h; subst h; unfold toP; exact .non
  | .bl b, v, _, h => by unfold R at h; subst h; unfold toP; exact .bl b
  | .int b, v, _, h => by unfold R at h; subst h; unfold toP; exact .int b
  | .str b, v, _, h => by unfold R at h; subst h; unfold toP; exact .str b
  | .tup ds, v, p, h => by
    unfold R at h
    unfold plain at p
    obtain ⟨a, vs, e, q, r⟩ := h
    subst e
    unfold toP
    exact .tup (SqT.of (s _ _ q)) (Rs.dp s ds vs p r)
  | .ktp _, v, p, h => by simp [plain] at p
  | .lst ds, v, p, h => by
    unfold R at h
    unfold plain at p
    obtain ⟨a, vs, e, q, r⟩ := h
    subst e
    unfold toP
    exact .lst (sqlSub s q) (Rs.dp s ds vs p r)
  | .ins _ _, v, p, h => by simp [plain] at p
  | .dct _ _, v, p, h => by simp [plain] at p
  | .dcT _ _, v, p, h => by simp [plain] at p
  | .cls _, v, p, h => by simp [plain] at p
  | .loc _, v, p, h => by simp [plain] at p
theorem Rs.dp (s : Sub G H) : ∀ (ds : List D) (vs : List V), plains ds = true → Rs L μ G ds vs → DpAll L.K H vs (toPs ds)
  | [], vs, _, h => by
    have := h.nil_inv
    subst this
    unfold toPs
    exact .nil
  | d :: ds, vs, p, h => by
    obtain ⟨v, ws, e, r, t⟩ := h.cons_inv
    subst e
    simp only [plains, Bool.and_eq_true] at p
    unfold toPs
    exact .cons (R.dp s d v p.1 r) (Rs.dp s ds ws p.2 t)
end
mutual
theorem toP_plain : ∀ d : D, plain d = true → (toP d).plain = true
  | .non, _ => rfl
  | .bl _, _ => rfl
  | .int _, _ => rfl
  | .str _, _ => rfl
  | .tup ds, p => by
    simp only [plain] at p
    simp only [toP, PyData.plain]
    exact toPs_plain ds p
  | .lst ds, p => by
    simp only [plain] at p
    simp only [toP, PyData.plain]
    exact toPs_plain ds p
  | .ins _ _, p => by simp [plain] at p
  | .dct _ _, p => by simp [plain] at p
  | .dcT _ _, p => by simp [plain] at p
  | .ktp _, p => by simp [plain] at p
  | .cls _, p => by simp [plain] at p
  | .loc _, p => by simp [plain] at p
theorem toPs_plain : ∀ ds : List D, plains ds = true → PyData.plainAll (toPs ds) = true
  | [], _ => rfl
  | d :: ds, p => by
    simp only [plains, Bool.and_eq_true] at p
    simp only [toPs, PyData.plainAll, Bool.and_eq_true]
    exact ⟨toP_plain d p.1, toPs_plain ds p.2⟩
end
theorem Vw.dp (s : Sub G H) {d : D} {v : V} (p : plain d = true) (h : Vw L μ G H d v) : Dp L.K H v (toP d) := by
  cases h with
  | val h n => exact h.dp s d v p
  | top a e t =>
    subst e
    cases d with
    | lst ds =>
      obtain ⟨vs, h, r⟩ := t
      unfold toP
      unfold plain at p
      exact .lst (SqL.of h) (r.dp s ds vs p)
    | ins c ds => simp [plain] at p
    | dct ks xs => simp [plain] at p
    | dcT ks xs => simp [plain] at p
    | _ => exact t.elim
  | kt a vs ds hd e q r =>
    subst e hd
    unfold toP
    unfold plain at p
    exact .tup (sqtSub s q) (r.dp s ds vs p)
theorem plain_ne {d : D} (p : plain d = true) : ∀ i, d ≠ .loc i := fun i z => by subst z; simp [plain] at p
end
end PyD

/-! PyD: arithmetic, comparisons, membership, places. -/
namespace PyD
open PySem L2

/-- b or nothing told -/
def okB (b : Option Bool) (S : List D) : Out D := match b with
  | some b => .ok (.bl b) S
  | none => .bad
def small64 (i : Int) : Bool := decide (-(2 ^ 64) < i) && decide (i < 2 ^ 64)
def opAdd (x y : D) (S : List D) : Out D := match dr S x, dr S y with
  | .int i, .int j => .ok (.int (i + j)) S
  | .str a, .str b => if a.length + b.length ≤ LIM then .ok (.str (a ++ b)) S else .bad
  | .lst a, .lst b => if a.length + b.length ≤ LIM then .ok (.lst (a ++ b)) S else .bad
  | .tup a, .tup b => if isKt x || isKt y then .bad else if a.length + b.length ≤ LIM then .ok (.tup (a ++ b)) S else .bad
  | _, _ => .bad
def opSub (x y : D) (S : List D) : Out D := match x, y with
  | .int i, .int j => .ok (.int (i - j)) S
  | _, _ => .bad
def opMul (x y : D) (S : List D) : Out D := match x, y with
  | .int i, .int j => if small64 i || small64 j then .ok (.int (i * j)) S else .bad
  | _, _ => .bad
def opDiv (x y : D) (S : List D) : Out D := match x, y with
  | .int i, .int j => if 0 < j ∧ j < 1073741824 then .ok (.int (i / j)) S else .bad
  | _, _ => .bad
def opMod (x y : D) (S : List D) : Out D := match x, y with
  | .int i, .int j => if 0 < j then .ok (.int (i % j)) S else .bad
  | _, _ => .bad
def opPow (x y : D) (S : List D) : Out D := match x, y with
  | .int i, .int j => if 0 ≤ j ∧ j ≤ 1000000 ∧ small64 i = true then .ok (.int (i ^ j.toNat)) S else .bad
  | _, _ => .bad
/-- two lists of different length -/
def apart : D → D → Bool
  | .lst xs, .lst ys => !decide (xs.length = ys.length)
  | _, _ => false
def isNon : D → Bool
  | .non => true
  | _ => false
/-- == of data -/
def eqP (x y : D) : Option Bool := match x, y with
  | .int i, .int j => some (decide (i = j))
  | x, y => if plain x && plain y && decide ((toP x).depth ≤ 100) then some (PyData.eqv (toP x) (toP y)) else if apart x y then some false else none
def opEq (x y : D) (S : List D) : Out D := okB (eqP (dr S x) (dr S y)) S
def opNe (x y : D) (S : List D) : Out D := okB ((eqP (dr S x) (dr S y)).map not) S
def ltP (x y : D) : Option Bool := match x, y with
  | .int i, .int j => some (decide (i < j))
  | x, y => if plain x && plain y && decide ((toP x).depth ≤ 100) && PySem.W.alike (toP x) (toP y) && !isNon x then some (PySem.W.dataLt (toP x) (toP y)) else none
def opLt (x y : D) (S : List D) : Out D := okB (ltP (dr S x) (dr S y)) S
def opGt (x y : D) (S : List D) : Out D := okB (ltP (dr S y) (dr S x)) S
def opLe (x y : D) (S : List D) : Out D := okB ((ltP (dr S y) (dr S x)).map not) S
def opGe (x y : D) (S : List D) : Out D := okB ((ltP (dr S x) (dr S y)).map not) S

section
variable {L : Lk} {X : Cx} {k : Nat}
/-- what an operation's rule has in hand -/
def KO (L : Lk) (Q : VK) (d : D) (S : List D) (μ' : List Addr) (G' H' : Hp) : Prop := ∀ w, R L μ' G' d w → Q w H'
theorem opr_of {f : Value → Value → Sem Value} {op : D → D → List D → Out D}
    (h : ∀ {pins : List (Addr × Obj)} {s : Shared} {σ : St} {H : Hp} {x y : D} {v u : V} {a b : Value} {E : XK} {μ : List Addr} {S : List D} {G : Hp} {Q : VK}, Inv X pins σ H s → RelV v a → RelV u b → Stt L μ S G H →
      Vw L μ G H (dr S x) v → Vw L μ G H (dr S y) u → RT L μ G H x v → RT L μ G H y u → Post L E μ G H (op x y S) (KO L Q) → wpAny (model X.prog X.w) X.A (f a b) (EP X pins σ Q) X.xe s) : OpR X f (rTwo L op) := by
  intro pins s σ H v u a b Q I ra rb hh
  obtain ⟨E, μ, S, G, x, y, st, rx, ry, p⟩ := hh
  exact h I ra rb st (rx.vw st) (ry.vw st) rx ry p
variable {pins : List (Addr × Obj)} {s : Shared} {σ : St} {H : Hp} {E : XK} {μ : List Addr} {S : List D} {G : Hp} {Q : VK}
theorem ko_int {i : Int} (st : Stt L μ S G H) (p : Post L E μ G H (.ok (.int i) S) (KO L Q)) : Q (.int i) H := p μ G H (.refl _ _ _) st _ (by unfold R; rfl)
theorem ko_bl {i : Bool} (st : Stt L μ S G H) (p : Post L E μ G H (.ok (.bl i) S) (KO L Q)) : Q (.bl i) H := p μ G H (.refl _ _ _) st _ (by unfold R; rfl)
theorem ko_str {i : Str} (st : Stt L μ S G H) (p : Post L E μ G H (.ok (.str i) S) (KO L Q)) : Q (.str i) H := p μ G H (.refl _ _ _) st _ (by unfold R; rfl)
theorem ko_non (st : Stt L μ S G H) (p : Post L E μ G H (.ok .non S) (KO L Q)) : Q .non H := p μ G H (.refl _ _ _) st _ (by unfold R; rfl)
theorem ko_old {d : D} {v : V} (st : Stt L μ S G H) (r : R L μ G d v) (p : Post L E μ G H (.ok d S) (KO L Q)) : Q v H := p μ G H (.refl _ _ _) st _ r
theorem ko_tup {ds : List D} {vs : List V} (st : Stt L μ S G H) (r : Rs L μ G ds vs) (p : Post L E μ G H (.ok (.tup ds) S) (KO L Q)) : ∀ a, H a = none → Q (.ref a) (upd H a (.tup vs)) := fun a h => by
  obtain ⟨e, st2⟩ := st.put (o := .tup vs) h
  exact p _ _ _ e st2 _ (r.tup_new (st.fresh h).1)
theorem ko_lst {ds : List D} {vs : List V} (st : Stt L μ S G H) (r : Rs L μ G ds vs) (p : Post L E μ G H (.ok (.lst ds) S) (KO L Q)) : ∀ a, H a = none → Q (.ref a) (upd H a (.lst vs)) := fun a h => by
  obtain ⟨e, st2⟩ := st.put (o := .lst vs) h
  exact p _ _ _ e st2 _ (r.lst_new (st.fresh h).1)
theorem Vw.ofR {x : D} {v : V} (r : R L μ G x v) (n : ∀ i, x ≠ .loc i) : Vw L μ G H x v := .val r n

theorem small64_ok {i : Int} (h : small64 i = true) : -(2 ^ 64) < i ∧ i < 2 ^ 64 := by
  unfold small64 at h
  simp only [Bool.and_eq_true, decide_eq_true_eq] at h
  exact h
/-- operations on two ints -/
theorem intsIn {f : Value → Value → Sem Value} {op : D → D → List D → Out D} {C : Int → Int → Prop} {g : Int → Int → Int} (hop : ∀ x y S, (∃ i j, x = .int i ∧ y = .int j ∧ C i j ∧ op x y S = .ok (.int (g i j)) S) ∨ op x y S = .bad)
    (h : OpR X f (rI C fun i j => .int (g i j))) : OpR X f (rTwo L op) := opr_of fun {pins s σ H x y v u a b E μ S G Q} I ra rb st vx vy rx ry p => by
  rcases hop x y S with ⟨i, j, rfl, rfl, c, e⟩ | e
  · rw [e] at p
    exact h pins s σ H v u a b Q I ra rb ⟨i, j, vx.ints, vy.ints, c, ko_int st p⟩
  · rw [e] at p
    exact p.elim
theorem so_sub : OpR X (binaryOp .Sub) (rTwo L opSub) := intsIn (C := fun _ _ => True) (g := fun i j => i - j) (fun x y S => by
  unfold opSub
  split
  · exact .inl ⟨_, _, rfl, rfl, trivial, rfl⟩
  · exact .inr rfl) fun pins s σ H x y v u Q I rx ry ⟨i, j, a, b, _, q⟩ => op_sub pins s σ H x y v u Q I rx ry ⟨i, j, a, b, q⟩
theorem so_mul : OpR X (binaryOp .Mult) (rTwo L opMul) := intsIn (C := CMul) (g := fun i j => i * j) (fun x y S => by
  unfold opMul
  split
  · split
    · rename_i h
      refine .inl ⟨_, _, rfl, rfl, ?_, rfl⟩
      rcases Bool.or_eq_true_iff.mp h with h | h
      · exact .inl (small64_ok h)
      · exact .inr (small64_ok h)
    · exact .inr rfl
  · exact .inr rfl) op_mul
theorem so_div : OpR X (binaryOp .FloorDiv) (rTwo L opDiv) := intsIn (C := CDiv) (g := fun i j => i / j) (fun x y S => by
  unfold opDiv
  split
  · split
    · rename_i h
      exact .inl ⟨_, _, rfl, rfl, h, rfl⟩
    · exact .inr rfl
  · exact .inr rfl) op_fdiv
theorem so_mod : OpR X (binaryOp .Mod) (rTwo L opMod) := intsIn (C := fun _ j => 0 < j) (g := fun i j => i % j) (fun x y S => by
  unfold opMod
  split
  · split
    · rename_i h
      exact .inl ⟨_, _, rfl, rfl, h, rfl⟩
    · exact .inr rfl
  · exact .inr rfl) op_mod
theorem so_pow : OpR X (binaryOp .Pow) (rTwo L opPow) := intsIn (C := CPow) (g := fun i j => i ^ j.toNat) (fun x y S => by
  unfold opPow
  split
  · split
    · rename_i h
      refine .inl ⟨_, _, rfl, rfl, ⟨h.1, h.2.1, ?_⟩, rfl⟩
      have := small64_ok h.2.2
      omega
    · exact .inr rfl
  · exact .inr rfl) op_pow
theorem cat_lists {l b : Addr} {xs ys : List V} (I : Inv X pins σ H s) (hl : SqL X.K H l xs) (hb : SqL X.K H b ys) (hz : xs.length + ys.length ≤ sizeLine) (q : ∀ p, H p = none → Q (.ref p) (upd H p (.lst (xs ++ ys)))) :
    wpAny (model X.prog X.w) X.A (binaryOp .Add (.ref l) (.ref b)) (EP X pins σ Q) X.xe s := by
  obtain ⟨its, r, ⟨⟨cls, dd, data, sl⟩, n, ho, hc, _, hd⟩, _⟩ := I.list hl
  obtain ⟨its2, r2, ⟨⟨cls2, dd2, data2, sl2⟩, n2, ho2, hc2, _, hd2⟩, _⟩ := I.list hb
  simp only at hc hd hc2 hd2
  subst hc hd hc2 hd2
  have e : its.toArray ++ its2.toArray = (its ++ its2).toArray := by simp
  refine PySem.concat_meets ⟨_, ho, rfl⟩ ⟨_, ho2, rfl⟩ PySem.noFill_list_add PySem.seq_list_add PySem.F.slot_list_add PySem.F.entry_list_add (PySem.F.args_list_add_2 _ _)
    (PyProof.Rows.list_addW l b its.toArray its2.toArray n n2 dd dd2 sl sl2 (by rw [List.size_toArray, List.size_toArray, ← r.length, ← r2.length]; exact hz)) ⟨ho, ho2, ?_⟩
  rw [e]
  exact ⟨.ref _, _, I.lnew (t' := s.toks) (r.append r2) (by rw [List.length_append]; omega), rfl, q _ I.fresh⟩
theorem so_add (hK : X.K = L.K) : OpR X (binaryOp .Add) (rTwo L opAdd) := opr_of fun {pins s σ H x y v u a b E μ S G Q} I ra rb st vx vy rx ry p => by
  unfold opAdd at p
  split at p
  · rename_i e1 e2
    rw [e1] at vx; rw [e2] at vy
    exact op_add pins s σ H v u a b Q I ra rb ⟨_, _, vx.ints, vy.ints, ko_int st p⟩
  · rename_i e1 e2
    rw [e1] at vx; rw [e2] at vy
    split at p
    · rename_i hz
      exact op_add_str pins s σ H v u a b Q I ra rb ⟨_, _, vx.strs, vy.strs, by rw [lim_eq]; exact hz, ko_str st p⟩
    · exact p.elim
  · rename_i e1 e2
    rw [e1] at vx; rw [e2] at vy
    split at p
    · rename_i hz
      obtain ⟨l, xs, rfl, q1, r1⟩ := vx.lsts st.sub
      obtain ⟨l2, ys, rfl, q2, r2⟩ := vy.lsts st.sub
      cases ra
      cases rb
      exact cat_lists I (by rw [hK]; exact q1) (by rw [hK]; exact q2) (by rw [r1.length, r2.length, lim_eq]; exact hz) (ko_lst st (r1.append r2) p)
    · exact p.elim
  · rename_i e1 e2
    rw [e1] at vx; rw [e2] at vy
    split at p
    · exact p.elim
    rename_i hk
    rw [Bool.not_eq_true, Bool.or_eq_false_iff] at hk
    split at p
    · rename_i hz
      obtain ⟨l, xs, rfl, q1, r1⟩ := vx.tups st.sub
      obtain ⟨l2, ys, rfl, q2, r2⟩ := vy.tups st.sub
      refine op_catA pins s σ H _ _ a b Q I ra rb ⟨l, l2, xs, ys, rfl, rfl, by rw [hK]; exact q1, by rw [hK]; exact q2, by rw [r1.length, r2.length, lim_eq]; exact hz, fun z => ?_, fun _ z => ?_, fun _ _ => ko_tup st (r1.append r2) p⟩
      · have z1 := r1.length
        rw [z] at z1
        have z2 := List.length_eq_zero_iff.mp z1.symm
        rw [z2] at p
        exact ko_old st (ry.nokt st hk.2 e2) p
      · have z1 := r2.length
        rw [z] at z1
        have z2 := List.length_eq_zero_iff.mp z1.symm
        rw [z2, List.append_nil] at p
        exact ko_old st (rx.nokt st hk.1 e1) p
    · exact p.elim
  · exact p.elim
end
end PyD

/-! PyD: comparisons, membership, places, slices. -/
namespace PyD
open PySem L2

/-- x in xs, of data -/
def inP (x c : D) : Option Bool := match c with
  | .lst ys => if plain x && plains ys && decide ((toP x).depth ≤ 100) then some ((toPs ys).any fun y => PyData.eqv y (toP x)) else none
  | .tup ys => if plain x && plains ys && decide ((toP x).depth ≤ 100) then some ((toPs ys).any fun y => PyData.eqv y (toP x)) else none
  | _ => none
def opIn (x y : D) (S : List D) : Out D := okB (inP (dr S x) (dr S y)) S
def opNotIn (x y : D) (S : List D) : Out D := okB ((inP (dr S x) (dr S y)).map not) S
/-- x is None -/
def opIsN (x y : D) (S : List D) : Out D := match y with
  | .non => .ok (.bl (isNon x)) S
  | _ => .bad
def opNotN (x y : D) (S : List D) : Out D := match y with
  | .non => .ok (.bl (!isNon x)) S
  | _ => .bad
def okD (d : Option D) (S : List D) : Out D := match d with
  | some d => .ok d S
  | none => .bad
/-- xs[i] -/
def opIx (x y : D) (S : List D) : Out D := match dr S x, y with
  | .lst xs, .int i => okD (atI xs i) S
  | .tup xs, .int i => okD (atI xs i) S
  | _, _ => .bad
def cutD (xs : List D) (lo hi : Option Int) : List D := (xs.drop (HT.sIx xs.length 0 lo)).take (HT.sIx xs.length xs.length hi - HT.sIx xs.length 0 lo)
/-- xs[lo:hi] -/
def opSl (x : D) (lo hi : Option Int) (S : List D) : Out D := match dr S x with
  | .lst xs => .ok (.lst (cutD xs lo hi)) S
  | .tup xs => if isKt x then .bad else .ok (.tup (cutD xs lo hi)) S
  | _ => .bad

section
variable {L : Lk} {X : Cx} {k : Nat}
variable {pins : List (Addr × Obj)} {s : Shared} {σ : St} {H : Hp} {E : XK} {μ : List Addr} {S : List D} {G : Hp} {Q : VK}
theorem _root_.L2.Room.u {k : Nat} {A : Around} (r : Room k A) {n m : Nat} (h : n ≤ 100) : A.units + 1 + min n m < cLine := by
  have := r.un
  omega
theorem _root_.L2.Room.u' {k : Nat} {A : Around} (r : Room k A) {n m : Nat} (h : n ≤ 100) : A.units + 1 + min m n < cLine := by
  have := r.un
  omega
theorem Vw.reads (hK : X.K = L.K) (I : Inv X pins σ H s) (st : Stt L μ S G H) {d : D} {v : V} {u : Value} (h : Vw L μ G H d v) (p : plain d = true) (r : RelV v u) : ∃ as, Reads s.heap u (toP d) as :=
  Dp.reads I _ v u (by rw [hK]; exact h.dp st.sub p) r
theorem apart_cases {x y : D} (h : apart x y = true) : ∃ xs ys, x = .lst xs ∧ y = .lst ys ∧ xs.length ≠ ys.length := by
  unfold apart at h
  split at h
  · rename_i xs ys
    exact ⟨xs, ys, rfl, rfl, fun e => by simp [e] at h⟩
  · cases h
/-- what eqP tells -/
theorem eqP_cases (x y : D) (b : Bool) (h : eqP x y = some b) : (∃ i j, x = .int i ∧ y = .int j ∧ b = decide (i = j)) ∨
    (plain x = true ∧ plain y = true ∧ (toP x).depth ≤ 100 ∧ b = PyData.eqv (toP x) (toP y)) ∨ ∃ xs ys, x = .lst xs ∧ y = .lst ys ∧ xs.length ≠ ys.length ∧ b = false := by
  unfold eqP at h
  split at h
  · rename_i i j
    exact .inl ⟨i, j, rfl, rfl, (Option.some.inj h).symm⟩
  · split at h
    · rename_i c
      simp only [Bool.and_eq_true, decide_eq_true_eq] at c
      exact .inr (.inl ⟨c.1.1, c.1.2, c.2, (Option.some.inj h).symm⟩)
    · split at h
      · rename_i c
        obtain ⟨xs, ys, e1, e2, ne⟩ := apart_cases c
        exact .inr (.inr ⟨xs, ys, e1, e2, ne, (Option.some.inj h).symm⟩)
      · cases h
theorem fin_b {b c : Bool} {V' : Value} (I : Inv X pins σ H s) (q : Q (.bl b) H) (e : c = b) (hv : V' = .bool c) : EP X pins σ Q V' s := by
  subst e hv
  exact ⟨.bl _, H, I, rfl, q⟩
theorem len_ne {a b : Addr} {xs ys : List V} {us ws : List Value} (r : Vals xs us) (r2 : Vals ys ws) (h : xs.length ≠ ys.length) : (us.toArray.size != ws.toArray.size) = true := by
  rw [List.size_toArray, List.size_toArray, ← r.length, ← r2.length]
  simpa using h
theorem okB_some {o : Option Bool} {K : D → List D → List Addr → Hp → Hp → Prop} (h : Post L E μ G H (okB o S) K) : ∃ b, o = some b ∧ Post L E μ G H (.ok (.bl b) S) K := by
  cases o with
  | none => exact h.elim
  | some b => exact ⟨b, rfl, h⟩
theorem isL_of {h : Heap} {a : Addr} {its : Array Value} (x : PySem.PlainL h a its) : h.IsList a its := by
  obtain ⟨o, m, e, c, d, q⟩ := x
  exact ⟨o, e, c, m, q⟩
theorem so_eq (hK : X.K = L.K) (hr : Room k X.A) : OpR X (compareOp .Eq) (rTwo L opEq) := opr_of fun {pins s σ H x y v u a b E μ S G Q} I ra rb st vx vy rx ry p => by
  obtain ⟨c, e, q⟩ := okB_some p
  have q := ko_bl st q
  rcases eqP_cases _ _ _ e with ⟨i, j, e1, e2, e3⟩ | ⟨p1, p2, d, e3⟩ | ⟨xs, ys, e1, e2, ne, e3⟩
  · rw [e1] at vx; rw [e2] at vy
    subst e3
    refine op_eq pins s σ H v u a b Q I ra rb ⟨by rw [vx.ints, vy.ints]; rfl, ?_⟩
    rw [vx.ints, vy.ints, show decide (V.int i = V.int j) = decide (i = j) by simp]
    exact q
  · obtain ⟨as, r1⟩ := vx.reads hK I st p1 ra
    obtain ⟨bs, r2⟩ := vy.reads hK I st p2 rb
    have hu := hr.u (m := (toP (dr S y)).depth) d
    exact PySem.SeqAt.eq_plain r1 r2 (toP_plain _ p1) (toP_plain _ p2) (by omega) (fin_b I q e3.symm rfl)
  · rw [e1] at vx; rw [e2] at vy
    obtain ⟨l, vs, rfl, q1, w1⟩ := vx.lsts st.sub
    obtain ⟨l2, us, rfl, q2, w2⟩ := vy.lsts st.sub
    cases ra
    cases rb
    obtain ⟨its, z1, pl1, _⟩ := I.list (by rw [hK]; exact q1)
    obtain ⟨its2, z2, pl2, _⟩ := I.list (by rw [hK]; exact q2)
    have hu := hr.units0
    exact PySem.SeqAt.RcAt.lists_lengths (isL_of pl1) (isL_of pl2) (len_ne (a := l) (b := l2) z1 z2 (by rw [w1.length, w2.length]; exact ne)) hu _ _ _ _ (fin_b I q e3.symm rfl)
theorem so_ne (hK : X.K = L.K) (hr : Room k X.A) : OpR X (compareOp .NotEq) (rTwo L opNe) := opr_of fun {pins s σ H x y v u a b E μ S G Q} I ra rb st vx vy rx ry p => by
  obtain ⟨c', e, q⟩ := okB_some p
  have q := ko_bl st q
  obtain ⟨c, e', ec⟩ := Option.map_eq_some_iff.mp e
  clear e
  subst ec
  have e := e'
  rcases eqP_cases _ _ _ e with ⟨i, j, e1, e2, e3⟩ | ⟨p1, p2, d, e3⟩ | ⟨xs, ys, e1, e2, ne, e3⟩
  · rw [e1] at vx; rw [e2] at vy
    subst e3
    refine op_ne pins s σ H v u a b Q I ra rb ⟨by rw [vx.ints, vy.ints]; rfl, ?_⟩
    rw [vx.ints, vy.ints, show decide (V.int i = V.int j) = decide (i = j) by simp]
    exact q
  · obtain ⟨as, r1⟩ := vx.reads hK I st p1 ra
    obtain ⟨bs, r2⟩ := vy.reads hK I st p2 rb
    have hu := hr.u (m := (toP (dr S y)).depth) d
    exact PySem.SeqAt.ne_plain r1 r2 (toP_plain _ p1) (toP_plain _ p2) (by omega) (fin_b I q (congrArg not e3.symm) rfl)
  · rw [e1] at vx; rw [e2] at vy
    obtain ⟨l, vs, rfl, q1, w1⟩ := vx.lsts st.sub
    obtain ⟨l2, us, rfl, q2, w2⟩ := vy.lsts st.sub
    cases ra
    cases rb
    obtain ⟨its, z1, pl1, _⟩ := I.list (by rw [hK]; exact q1)
    obtain ⟨its2, z2, pl2, _⟩ := I.list (by rw [hK]; exact q2)
    have hu := hr.units0
    exact PySem.SeqAt.RcNeAt.lists_lengths (isL_of pl1) (isL_of pl2) (len_ne (a := l) (b := l2) z1 z2 (by rw [w1.length, w2.length]; exact ne)) hu _ _ _ _ (fin_b I q (by rw [e3]; rfl) rfl)
theorem ltP_cases (x y : D) (b : Bool) (h : ltP x y = some b) : (∃ i j, x = .int i ∧ y = .int j ∧ b = decide (i < j)) ∨
    (plain x = true ∧ plain y = true ∧ (toP x).depth ≤ 100 ∧ PySem.W.alike (toP x) (toP y) = true ∧ toP x ≠ .none ∧ b = PySem.W.dataLt (toP x) (toP y)) := by
  unfold ltP at h
  split at h
  · rename_i i j
    exact .inl ⟨i, j, rfl, rfl, (Option.some.inj h).symm⟩
  · by_cases c : (plain x && plain y && decide ((toP x).depth ≤ 100) && PySem.W.alike (toP x) (toP y) && !isNon x) = true
    · rw [if_pos c] at h
      simp only [Bool.and_eq_true, decide_eq_true_eq, Bool.not_eq_true'] at c
      refine .inr ⟨c.1.1.1.1, c.1.1.1.2, c.1.1.2, c.1.2, ?_, (Option.some.inj h).symm⟩
      intro z
      cases x with
      | non => exact absurd c.2 (by simp [isNon])
      | bl _ => simp [toP] at z
      | int _ => simp [toP] at z
      | str _ => simp [toP] at z
      | tup _ => simp [toP] at z
      | lst _ => simp [toP] at z
      | _ => exact absurd c.1.1.1.1 (by simp [plain])
    · rw [if_neg c] at h
      cases h
theorem so_lt (hK : X.K = L.K) (hr : Room k X.A) : OpR X (compareOp .Lt) (rTwo L opLt) := opr_of fun {pins s σ H x y v u a b E μ S G Q} I ra rb st vx vy rx ry p => by
  obtain ⟨c, e, q⟩ := okB_some p
  have q := ko_bl st q
  rcases ltP_cases _ _ _ e with ⟨i, j, e1, e2, e3⟩ | ⟨p1, p2, d, al, nn, e3⟩
  · rw [e1] at vx; rw [e2] at vy
    subst e3
    exact op_lt pins s σ H v u a b Q I ra rb ⟨i, j, vx.ints, vy.ints, q⟩
  · obtain ⟨as, r1⟩ := vx.reads hK I st p1 ra
    obtain ⟨bs, r2⟩ := vy.reads hK I st p2 rb
    have hu := hr.u (m := (toP (dr S y)).depth) d
    exact PySem.W.lt_data r1 r2 al nn (by omega) (fin_b I q e3.symm rfl)
theorem so_gt (hK : X.K = L.K) (hr : Room k X.A) : OpR X (compareOp .Gt) (rTwo L opGt) := opr_of fun {pins s σ H x y v u a b E μ S G Q} I ra rb st vx vy rx ry p => by
  obtain ⟨c, e, q⟩ := okB_some p
  have q := ko_bl st q
  rcases ltP_cases _ _ _ e with ⟨i, j, e1, e2, e3⟩ | ⟨p1, p2, d, al, nn, e3⟩
  · rw [e1] at vy; rw [e2] at vx
    subst e3
    exact op_gt pins s σ H v u a b Q I ra rb ⟨j, i, vx.ints, vy.ints, q⟩
  · obtain ⟨as, r1⟩ := vx.reads hK I st p2 ra
    obtain ⟨bs, r2⟩ := vy.reads hK I st p1 rb
    have hu := hr.u (m := (toP (dr S x)).depth) d
    have n2 := PySem.W.ne_none_both al nn
    rw [PySem.W.alike_comm] at al
    exact PySem.W.gt_data r1 r2 al n2 (by omega) (fin_b I q e3.symm rfl)
theorem so_le (hK : X.K = L.K) (hr : Room k X.A) : OpR X (compareOp .LtE) (rTwo L opLe) := opr_of fun {pins s σ H x y v u a b E μ S G Q} I ra rb st vx vy rx ry p => by
  obtain ⟨c', e0, q⟩ := okB_some p
  have q := ko_bl st q
  obtain ⟨c, e, ec⟩ := Option.map_eq_some_iff.mp e0
  subst ec
  rcases ltP_cases _ _ _ e with ⟨i, j, e1, e2, e3⟩ | ⟨p1, p2, d, al, nn, e3⟩
  · rw [e1] at vy; rw [e2] at vx
    refine op_le pins s σ H v u a b Q I ra rb ⟨j, i, vx.ints, vy.ints, ?_⟩
    have : decide (j ≤ i) = !c := by rw [e3]; by_cases h : i < j <;> simp [h] <;> omega
    show Q (.bl (decide (j ≤ i))) H
    rw [this]
    exact q
  · obtain ⟨as, r1⟩ := vx.reads hK I st p2 ra
    obtain ⟨bs, r2⟩ := vy.reads hK I st p1 rb
    have hu := hr.u (m := (toP (dr S x)).depth) d
    have n2 := PySem.W.ne_none_both al nn
    rw [PySem.W.alike_comm] at al
    exact PySem.W.le_data r1 r2 al n2 (by omega) (fin_b I q (congrArg not e3.symm) rfl)
theorem so_ge (hK : X.K = L.K) (hr : Room k X.A) : OpR X (compareOp .GtE) (rTwo L opGe) := opr_of fun {pins s σ H x y v u a b E μ S G Q} I ra rb st vx vy rx ry p => by
  obtain ⟨c', e0, q⟩ := okB_some p
  have q := ko_bl st q
  obtain ⟨c, e, ec⟩ := Option.map_eq_some_iff.mp e0
  subst ec
  rcases ltP_cases _ _ _ e with ⟨i, j, e1, e2, e3⟩ | ⟨p1, p2, d, al, nn, e3⟩
  · rw [e1] at vx; rw [e2] at vy
    refine op_ge pins s σ H v u a b Q I ra rb ⟨i, j, vx.ints, vy.ints, ?_⟩
    have : decide (j ≤ i) = !c := by rw [e3]; by_cases h : i < j <;> simp [h] <;> omega
    show Q (.bl (decide (j ≤ i))) H
    rw [this]
    exact q
  · obtain ⟨as, r1⟩ := vx.reads hK I st p1 ra
    obtain ⟨bs, r2⟩ := vy.reads hK I st p2 rb
    have hu := hr.u (m := (toP (dr S y)).depth) d
    exact PySem.W.ge_data r1 r2 al nn (by omega) (fin_b I q (congrArg not e3.symm) rfl)
theorem inP_cases (x c : D) (b : Bool) (h : inP x c = some b) : ∃ ys, (c = .lst ys ∨ c = .tup ys) ∧ plain x = true ∧ plains ys = true ∧ (toP x).depth ≤ 100 ∧ b = (toPs ys).any fun y => PyData.eqv y (toP x) := by
  unfold inP at h
  split at h
  · rename_i ys
    split at h
    · rename_i c
      simp only [Bool.and_eq_true, decide_eq_true_eq] at c
      exact ⟨ys, .inl rfl, c.1.1, c.1.2, c.2, (Option.some.inj h).symm⟩
    · cases h
  · rename_i ys
    split at h
    · rename_i c
      simp only [Bool.and_eq_true, decide_eq_true_eq] at c
      exact ⟨ys, .inr rfl, c.1.1, c.1.2, c.2, (Option.some.inj h).symm⟩
    · cases h
  · cases h
theorem so_in (hK : X.K = L.K) (hr : Room k X.A) : OpR X (compareOp .In) (rTwo L opIn) := opr_of fun {pins s σ H x y v u a b E μ S G Q} I ra rb st vx vy rx ry p => by
  obtain ⟨c, e, q⟩ := okB_some p
  have q := ko_bl st q
  obtain ⟨ys, hc, p1, p2, d, e3⟩ := inP_cases _ _ _ e
  obtain ⟨as, r1⟩ := vx.reads hK I st p1 ra
  have hu := hr.u' (m := PyData.depthAll (toPs ys)) d
  rcases hc with hc | hc
  · rw [hc] at vy
    obtain ⟨bs, r2⟩ := vy.reads hK I st (by simpa [plain] using p2) rb
    exact PySem.SeqAt.in_list_data (by simpa [toP] using r2) r1 (toPs_plain _ p2) (toP_plain _ p1) hu (fin_b I q e3.symm rfl)
  · rw [hc] at vy
    obtain ⟨bs, r2⟩ := vy.reads hK I st (by simpa [plain] using p2) rb
    exact PySem.SeqAt.in_tuple_data (by simpa [toP] using r2) r1 (toPs_plain _ p2) (toP_plain _ p1) hu (fin_b I q e3.symm rfl)
theorem so_notIn (hK : X.K = L.K) (hr : Room k X.A) : OpR X (compareOp .NotIn) (rTwo L opNotIn) := opr_of fun {pins s σ H x y v u a b E μ S G Q} I ra rb st vx vy rx ry p => by
  obtain ⟨c', e0, q⟩ := okB_some p
  have q := ko_bl st q
  obtain ⟨c, e, ec⟩ := Option.map_eq_some_iff.mp e0
  subst ec
  obtain ⟨ys, hc, p1, p2, d, e3⟩ := inP_cases _ _ _ e
  obtain ⟨as, r1⟩ := vx.reads hK I st p1 ra
  have hu := hr.u' (m := PyData.depthAll (toPs ys)) d
  rcases hc with hc | hc
  · rw [hc] at vy
    obtain ⟨bs, r2⟩ := vy.reads hK I st (by simpa [plain] using p2) rb
    exact PySem.SeqAt.notIn_list_data (by simpa [toP] using r2) r1 (toPs_plain _ p2) (toP_plain _ p1) hu (fin_b I q (congrArg not e3.symm) rfl)
  · rw [hc] at vy
    obtain ⟨bs, r2⟩ := vy.reads hK I st (by simpa [plain] using p2) rb
    exact PySem.SeqAt.notIn_tuple_data (by simpa [toP] using r2) r1 (toPs_plain _ p2) (toP_plain _ p1) hu (fin_b I q (congrArg not e3.symm) rfl)
theorem RT.isNon {d : D} {v : V} (h : RT L μ G H d v) : decide (v = .non) = isNon d := by
  rcases h with h | ⟨p, e, t, _, _⟩
  · cases d with
    | non => unfold R at h; subst h; rfl
    | bl _ => unfold R at h; subst h; rfl
    | int _ => unfold R at h; subst h; rfl
    | str _ => unfold R at h; subst h; rfl
    | tup _ => unfold R at h; obtain ⟨a, vs, e, _⟩ := h; subst e; rfl
    | lst _ => unfold R at h; obtain ⟨a, vs, e, _⟩ := h; subst e; rfl
    | ins _ _ => unfold R at h; obtain ⟨a, dx, vs, e, _⟩ := h; subst e; rfl
    | dct _ _ => unfold R at h; obtain ⟨a, kvs, e, _⟩ := h; subst e; rfl
    | dcT _ _ => unfold R at h; obtain ⟨a, kvs, e, _⟩ := h; subst e; rfl
    | ktp _ => unfold R at h; obtain ⟨a, vs, e, _⟩ := h; subst e; rfl
    | cls _ => unfold R at h; subst h; rfl
    | loc _ => unfold R at h; obtain ⟨a, _, e⟩ := h; subst e; rfl
  · subst e
    cases d with
    | lst _ => rfl
    | ins _ _ => rfl
    | dct _ _ => rfl
    | dcT _ _ => rfl
    | _ => exact t.elim
theorem so_isN : OpR X (compareOp .Is) (rTwo L opIsN) := opr_of fun {pins s σ H x y v u a b E μ S G Q} I ra rb st vx vy rx ry p => by
  unfold opIsN at p
  split at p
  · have e : u = .non := vy.nons
    refine op_isN pins s σ H v u a b Q I ra rb ⟨e, ?_⟩
    rw [rx.isNon]
    exact ko_bl st p
  · exact p.elim
theorem so_notN : OpR X (compareOp .IsNot) (rTwo L opNotN) := opr_of fun {pins s σ H x y v u a b E μ S G Q} I ra rb st vx vy rx ry p => by
  unfold opNotN at p
  split at p
  · have e : u = .non := vy.nons
    refine op_notN pins s σ H v u a b Q I ra rb ⟨e, ?_⟩
    rw [rx.isNon]
    exact ko_bl st p
  · exact p.elim
end
end PyD

/-! PyD: places, slices, len, list, tuple, fields, displays. -/
namespace PyD
open PySem L2

section
variable {L : Lk} {X : Cx} {k : Nat}
variable {pins : List (Addr × Obj)} {s : Shared} {σ : St} {H : Hp} {E : XK} {μ : List Addr} {S : List D} {G : Hp} {Q : VK}
theorem atI_rs {ds : List D} {vs : List V} {i : Int} {d : D} (r : Rs L μ G ds vs) (h : atI ds i = some d) : ∃ v, atI vs i = some v ∧ R L μ G d v := by
  unfold atI at h ⊢
  rw [r.length]
  cases e : ixN ds.length i with
  | none => rw [e] at h; cases h
  | some j =>
    rw [e] at h
    exact r.get h
theorem okD_some {o : Option D} {K : D → List D → List Addr → Hp → Hp → Prop} (h : Post L E μ G H (okD o S) K) : ∃ b, o = some b ∧ Post L E μ G H (.ok b S) K := by
  cases o with
  | none => exact h.elim
  | some b => exact ⟨b, rfl, h⟩
theorem so_ix (hK : X.K = L.K) : IxR X (rTwo L opIx) := by
  intro value slice pins s σ H v u a b Q I ra rb hh hs
  obtain ⟨E, μ, S, G, x, y, st, rx, ry, p⟩ := hh
  have vx := rx.vw st
  have vy := ry.vw st
  unfold opIx at p
  split at p
  · rename_i xs i e1
    rw [e1] at vx
    obtain ⟨d, e, p⟩ := okD_some p
    obtain ⟨l, vs, rfl, q1, w1⟩ := vx.lsts st.sub
    obtain ⟨z, ez, rz⟩ := atI_rs w1 e
    exact ix_list value slice pins s σ H _ u a b Q I ra rb ⟨l, vs, i, z, rfl, vy.ints, by rw [hK]; exact q1, ez, ko_old st rz p⟩ hs
  · rename_i xs i e1
    rw [e1] at vx
    obtain ⟨d, e, p⟩ := okD_some p
    obtain ⟨l, vs, rfl, q1, w1⟩ := vx.tups st.sub
    obtain ⟨z, ez, rz⟩ := atI_rs w1 e
    exact ix_tup value slice pins s σ H _ u a b Q I ra rb ⟨l, vs, i, z, rfl, vy.ints, by rw [hK]; exact q1, ez, ko_old st rz p⟩ hs
  · exact p.elim
theorem to_ix {W : WX} {a b : Expr} {pos : Pos} {fa fb : Ef D} (hK : X.K = L.K) (ha : PE X a (tB L W fa)) (hb : PE X b (tB L W fb)) (hs : PlainIx b) : PE X (.Subscript a b pos) (tO L W (fTwo opIx fa fb)) :=
  (pe_ix (so_ix hK) ha hb hs).to fun _ _ _ h => to_two h

/-! ### slices -/
theorem cut_rs {ds : List D} {vs : List V} (r : Rs L μ G ds vs) (lo hi : Option Int) : Rs L μ G (cutD ds lo hi) (cutV vs lo hi) := by
  unfold cutD cutV
  rw [r.length]
  exact (r.drop _).take _
theorem cut_whole {ds : List D} {lo hi : Option Int} (h : HT.sIx ds.length 0 lo = 0 ∧ HT.sIx ds.length ds.length hi = ds.length) : cutD ds lo hi = ds := by
  unfold cutD
  rw [h.1, h.2, List.drop_zero, Nat.sub_zero, List.take_length]
variable (L)
def rSlO : V → Option Int → Option Int → Hp → VK → Prop := fun v lo hi H Q => ∃ E μ S G x, Stt L μ S G H ∧ RT L μ G H x v ∧ Post L E μ G H (opSl x lo hi S) (fun d _ μ' G' H' => ∀ w, R L μ' G' d w → Q w H')
variable {L}
theorem so_sl (hK : X.K = L.K) : SlR X (rSlO L) := by
  intro pins s σ H v a vl vu lo hi sl Q I ra hs pl pu hh
  obtain ⟨E, μ, S, G, x, st, rx, p⟩ := hh
  have vx := rx.vw st
  unfold opSl at p
  split at p
  · rename_i xs e1
    rw [e1] at vx
    obtain ⟨l, vs, rfl, q1, w1⟩ := vx.lsts st.sub
    exact sl_list pins s σ H _ a vl vu lo hi sl Q I ra hs pl pu ⟨l, vs, rfl, by rw [hK]; exact q1, ko_lst st (cut_rs w1 lo hi) p⟩
  · rename_i xs e1
    rw [e1] at vx
    split at p
    · exact p.elim
    rename_i hk
    rw [Bool.not_eq_true] at hk
    obtain ⟨l, vs, rfl, q1, w1⟩ := vx.tups st.sub
    refine sl_tupA pins s σ H _ a vl vu lo hi sl Q I ra hs pl pu ⟨l, vs, rfl, by rw [hK]; exact q1, fun hw => ?_, fun _ => ko_tup st (cut_rs w1 lo hi) p⟩
    rw [w1.length] at hw
    rw [cut_whole hw] at p
    exact ko_old st (rx.nokt st hk e1) p
  · exact p.elim
/-- a bound of a slice -/
def fPart (f : Option (Ef D)) : Ef (Option Int) := fun ρ S => match f with
  | none => .ok none S
  | some f => (f ρ S).bind fun d S1 => match d with
    | .int i => .ok (some i) S1
    | _ => .bad
def fSl (fa : Ef D) (lo hi : Option (Ef D)) : Ef D := fun ρ S => (fa ρ S).bind fun x S1 => (fPart lo ρ S1).bind fun l S2 => (fPart hi ρ S2).bind fun u S3 => opSl x l u S3
variable (L)
def tP (W : WX) (f : Option (Ef D)) : TO := fun σ H Q => ∃ μ S G ρ π, Stt L μ S G H ∧ Rel L μ G H σ ρ π ∧ Post L (fun c d H' => W c d σ H') μ G H (fPart f ρ S) (fun i _ _ _ H' => Q i H')
variable {L}
theorem po_no {W : WX} : PO X none (tP L W none) := ⟨fun pins s σ H Q I h => po_none.run pins s σ H Q I (by
  obtain ⟨μ, S, G, ρ, π, st, rel, p⟩ := h
  exact p μ G H (.refl _ _ _) st)⟩
theorem po_yes {W : WX} {e : Expr} {f : Ef D} (he : PE X e (tO L W f)) : PO X (some e) (tP L W (some f)) := ⟨fun pins s σ H Q I h => (po_some he).run pins s σ H Q I (by
  obtain ⟨μ, S, G, ρ, π, st, rel, p⟩ := h
  refine ⟨μ, S, G, ρ, π, st, rel, (Post.split p).imp fun x S1 μ1 G1 H1 e1 st1 p1 v rv => ?_⟩
  cases x with
  | int i => unfold R at rv; exact ⟨i, rv, p1 μ1 G1 H1 (.refl _ _ _) st1⟩
  | _ => exact p1.elim)⟩
theorem to_slice {W : WX} {a : Expr} {lo hi : Option Expr} {p2 pos : Pos} {fa : Ef D} {fl fh : Option (Ef D)} (hK : X.K = L.K) (ha : PE X a (tB L W fa)) (hl : PO X lo (tP L W fl)) (hh : PO X hi (tP L W fh)) :
    PE X (.Subscript a (.Slice lo hi none p2) pos) (tO L W (fSl fa fl fh)) := (pe_slice (so_sl hK) ha hl hh).to fun σ H Q h => by
  obtain ⟨μ, S, G, ρ, π, st, rel, p⟩ := h
  refine ⟨μ, S, G, ρ, π, st, rel, p.split.imp fun x S1 μ1 G1 H1 e1 st1 p1 v rv => ?_⟩
  refine ⟨μ1, S1, G1, ρ, π, st1, rel.ext e1, p1.split.imp fun l S2 μ2 G2 H2 e2 st2 p2 => ?_⟩
  refine ⟨μ2, S2, G2, ρ, π, st2, (rel.ext e1).ext e2, p2.split.imp fun u S3 μ3 G3 H3 e3 st3 p3 => ?_⟩
  exact ⟨_, μ3, S3, G3, x, st3, (rv.ext e2).ext e3, p3⟩

/-! ### argument lists -/
def fNil : Ef (List D) := fun _ S => .ok [] S
def fCons (fa : Ef D) (fr : Ef (List D)) : Ef (List D) := fun ρ S => (fa ρ S).bind fun x S1 => (fr ρ S1).bind fun xs S2 => .ok (x :: xs) S2
def items (S : List D) (d : D) : Option (List D) := match dr S d with
  | .lst xs => some xs
  | .tup xs => some xs
  | _ => none
def fStar (fa : Ef D) (fr : Ef (List D)) : Ef (List D) := fun ρ S => (fa ρ S).bind fun x S1 => match items S1 x with
  | some xs => (fr ρ S1).bind fun ys S2 => .ok (xs ++ ys) S2
  | none => .bad
variable {W : WX}
theorem to_nil : PA X [] (tA L W fNil) := pa_nil.to fun σ H Q h => by
  obtain ⟨μ, S, G, ρ, π, st, rel, p⟩ := h
  exact p μ G H (.refl _ _ _) st [] Rs.nil
theorem to_cons {e : Expr} {es : List Expr} {fa : Ef D} {fr : Ef (List D)} (ha : PE X e (tO L W fa)) (hr : PA X es (tA L W fr)) (hs : starEach (e :: es) X.env = (false, eval e X.env) :: starEach es X.env) : PA X (e :: es) (tA L W (fCons fa fr)) :=
  (pa_cons ha hr hs).to fun σ H Q h => by
    obtain ⟨μ, S, G, ρ, π, st, rel, p⟩ := h
    refine ⟨μ, S, G, ρ, π, st, rel, p.split.imp fun x S1 μ1 G1 H1 e1 st1 p1 v rv => ?_⟩
    refine ⟨μ1, S1, G1, ρ, π, st1, rel.ext e1, p1.split.imp fun xs S2 μ2 G2 H2 e2 st2 p2 vs rvs => ?_⟩
    exact p2 μ2 G2 H2 (.refl _ _ _) st2 _ (Rs.cons (rv.ext e2) rvs)
theorem items_vw {x : D} {xs : List D} {v : V} (st : Stt L μ S G H) (h : items S x = some xs) (vx : Vw L μ G H (dr S x) v) : ∃ a vs, v = .ref a ∧ (SqT L.K H a vs ∨ SqL L.K H a vs) ∧ Rs L μ G xs vs := by
  unfold items at h
  split at h
  · rename_i e1
    cases h
    rw [e1] at vx
    obtain ⟨l, vs, e, q1, w1⟩ := vx.lsts st.sub
    exact ⟨l, vs, e, .inr q1, w1⟩
  · rename_i e1
    cases h
    rw [e1] at vx
    obtain ⟨l, vs, e, q1, w1⟩ := vx.tups st.sub
    exact ⟨l, vs, e, .inl q1, w1⟩
  · cases h
theorem to_star {e : Expr} {es : List Expr} {ps : Pos} {fa : Ef D} {fr : Ef (List D)} (hK : X.K = L.K) (ha : PE X e (tB L W fa)) (hr : PA X es (tA L W fr)) (hs : starEach (.Starred e ps :: es) X.env = (true, eval e X.env) :: starEach es X.env) : PA X (.Starred e ps :: es) (tA L W (fStar fa fr)) :=
  (StX.pa_star ha hr hs).to fun σ H Q h => by
    obtain ⟨μ, S, G, ρ, π, st, rel, p⟩ := h
    refine ⟨μ, S, G, ρ, π, st, rel, p.split.imp fun x S1 μ1 G1 H1 e1 st1 p1 v rv => ?_⟩
    cases ei : items S1 x with
    | none => rw [ei] at p1; exact p1.elim
    | some xs =>
      rw [ei] at p1
      obtain ⟨a, vs, e, q1, w1⟩ := items_vw st1 ei (rv.vw st1)
      refine ⟨a, vs, e, by rw [hK]; exact q1, ?_⟩
      refine ⟨μ1, S1, G1, ρ, π, st1, rel.ext e1, p1.split.imp fun ys S2 μ2 G2 H2 e2 st2 p2 us rus => ?_⟩
      exact p2 μ2 G2 H2 (.refl _ _ _) st2 _ ((w1.ext e2).append rus)

/-! ### displays -/
def fTup (fl : Ef (List D)) : Ef D := fun ρ S => (fl ρ S).bind fun xs S1 => if xs.length ≤ LIM then .ok (.tup xs) S1 else .bad
def fLst (fl : Ef (List D)) : Ef D := fun ρ S => (fl ρ S).bind fun xs S1 => if xs.length ≤ LIM then .ok (.lst xs) S1 else .bad
theorem to_tup {es : List Expr} {c : Nat} {pos : Pos} {fl : Ef (List D)} {x1 : _} (h : PA X es (tA L W fl)) : PE X (.Tuple es x1 pos) (tO L W (fTup fl)) := (pe_tup h).to fun σ H Q h => by
  obtain ⟨μ, S, G, ρ, π, st, rel, p⟩ := h
  refine ⟨μ, S, G, ρ, π, st, rel, p.split.imp fun xs S1 μ1 G1 H1 e1 st1 p1 vs rvs => ?_⟩
  split at p1
  · rename_i hz
    exact ⟨by rw [rvs.length, lim_eq]; exact hz, ko_tup st1 rvs p1⟩
  · exact p1.elim
theorem to_lstF {es : List Expr} {pos : Pos} {fl : Ef (List D)} (h : PA X es (tA L W fl)) : PE X (.List es pos) (tF L W (fLst fl)) := (pe_lst h).to fun σ H Q h => by
  obtain ⟨μ, S, G, ρ, π, st, rel, p⟩ := h
  refine ⟨μ, S, G, ρ, π, st, rel, p.split.imp fun xs S1 μ1 G1 H1 e1 st1 p1 vs rvs => ?_⟩
  split at p1
  · rename_i hz
    refine ⟨by rw [rvs.length, lim_eq]; exact hz, fun a ha => ?_⟩
    obtain ⟨e2, st2⟩ := st1.lay (o := .lst vs) ha
    obtain ⟨g, m⟩ := st1.fresh ha
    refine p1 _ _ _ e2 st2 a ⟨vs, upd_same, rvs⟩ g ?_ m
    cases q : H a with
    | none => rfl
    | some o => exact absurd ha (e1.m a (by rw [q]; exact fun z => nomatch z))
  · exact p1.elim
end
end PyD

/-! PyD: calls of built-ins. -/
namespace PyD
open PySem L2

def opLen (x : D) (S : List D) : Out D := match dr S x with
  | .lst xs => .ok (.int xs.length) S
  | .tup xs => .ok (.int xs.length) S
  | .str x => if x.length ≤ LIM then .ok (.int x.length) S else .bad
  | _ => .bad
def opList (x : D) (S : List D) : Out D := match items S x with
  | some xs => .ok (.lst xs) S
  | none => .bad
def opTuple (x : D) (S : List D) : Out D := if isKt x then .bad else match items S x with
  | some xs => .ok (.tup xs) S
  | none => .bad
def opInt (x : D) (S : List D) : Out D := match x with
  | .int i => .ok (.int i) S
  | .bl b => .ok (.int (if b then 1 else 0)) S
  | _ => .bad
def bools : List D → Option (List Bool)
  | [] => some []
  | .bl b :: ds => (bools ds).map (b :: ·)
  | _ :: _ => none
def intsOf : List D → Option (List Int)
  | [] => some []
  | .int b :: ds => (intsOf ds).map (b :: ·)
  | _ :: _ => none
def opAny (x : D) (S : List D) : Out D := match dr S x with
  | .lst xs => okB ((bools xs).map (·.any id)) S
  | _ => .bad
def opAll (x : D) (S : List D) : Out D := match dr S x with
  | .lst xs => okB ((bools xs).map (·.all id)) S
  | _ => .bad
def opSum (x : D) (S : List D) : Out D := match dr S x with
  | .lst xs => okD ((intsOf xs).map fun ns => .int ns.sum) S
  | _ => .bad
section
variable {L : Lk} {X : Cx} {k : Nat}
variable {pins : List (Addr × Obj)} {s : Shared} {σ : St} {H : Hp} {E : XK} {μ : List Addr} {S : List D} {G : Hp} {Q : VK}
variable (L)
def rC1 (op : D → List D → Out D) : List V → Hp → VK → Prop := fun vs H Q => ∃ v, vs = [v] ∧ rOne L op v H Q
/-- .. a new list -/
def rC1F (op : D → List D → Out D) : List V → Hp → VK → Prop := fun vs H Q => ∃ v, vs = [v] ∧ ∃ E μ S G x, Stt L μ S G H ∧ RT L μ G H x v ∧ Post L E μ G H (op x S) (fun d _ μ' G' H' => ∀ p, Top L μ' G' H' d p → G' p = none → H p = none → p ∉ μ' → Q (.ref p) H')
variable {L} {W : WX}
theorem to_call1 {op : D → List D → Out D} {fa : Ef D} {Q : VK} (h : tO L W (fOne op fa) σ H Q) : tCB (rC1 L op) (tCons (tB L W fa) tNil) σ H Q := by
  obtain ⟨μ, S, G, ρ, π, st, rel, p⟩ := h
  refine ⟨μ, S, G, ρ, π, st, rel, p.split.imp fun x S1 μ1 G1 H1 e1 st1 p1 v rv => ?_⟩
  exact ⟨v, rfl, _, μ1, S1, G1, x, st1, rv, p1⟩
theorem to_call1F {op : D → List D → Out D} {fa : Ef D} {Q : VK} (h : tF L W (fOne op fa) σ H Q) : tCB (rC1F L op) (tCons (tB L W fa) tNil) σ H Q := by
  obtain ⟨μ, S, G, ρ, π, st, rel, p⟩ := h
  refine ⟨μ, S, G, ρ, π, st, rel, p.split.imp fun x S1 μ1 G1 H1 e1 st1 p1 v rv => ?_⟩
  refine ⟨v, rfl, _, μ1, S1, G1, x, st1, rv, p1.imp fun d S2 μ2 G2 H2 e2 st2 q a t g n m => q a t g ?_ m⟩
  cases z : H a with
  | none => rfl
  | some o => exact absurd n (e1.m a (by rw [z]; exact fun z => nomatch z))
theorem cr_of {f : Value} {op : D → List D → Out D}
    (h : ∀ {pins : List (Addr × Obj)} {s : Shared} {σ : St} {H : Hp} {x : D} {v : V} {a : Value} {E : XK} {μ : List Addr} {S : List D} {G : Hp} {Q : VK}, Inv X pins σ H s → Vals [v] [a] → Stt L μ S G H →
      Vw L μ G H (dr S x) v → RT L μ G H x v → Post L E μ G H (op x S) (KO L Q) → wpAny (model X.prog X.w) X.A (call f [a]) (EP X pins σ Q) X.xe s) : CallR X f (rC1 L op) := by
  intro pins s σ H vs us Q I r hh
  obtain ⟨v, rfl, E, μ, S, G, x, st, rx, p⟩ := hh
  obtain ⟨u, rfl, ru⟩ := vals1 r
  exact h I r st (rx.vw st) rx p
theorem so_len (hK : X.K = L.K) : CallR X (.builtin "len") (rC1 L opLen) := cr_of fun {pins s σ H x v a E μ S G Q} I r st vx rx p => by
  unfold opLen at p
  split at p
  · rename_i e1
    rw [e1] at vx
    obtain ⟨l, vs, rfl, q1, w1⟩ := vx.lsts st.sub
    exact call_len_seq pins s σ H _ _ Q I r ⟨l, vs, rfl, .inl (by rw [hK]; exact q1), by rw [w1.length]; exact ko_int st p⟩
  · rename_i e1
    rw [e1] at vx
    obtain ⟨l, vs, rfl, q1, w1⟩ := vx.tups st.sub
    exact call_len_seq pins s σ H _ _ Q I r ⟨l, vs, rfl, .inr (by rw [hK]; exact q1), by rw [w1.length]; exact ko_int st p⟩
  · rename_i z e1
    rw [e1] at vx
    split at p
    · rename_i hz
      exact call_len_str pins s σ H _ _ Q I r ⟨z, by rw [vx.strs], by rw [lim_eq]; exact hz, ko_int st p⟩
    · exact p.elim
  · exact p.elim
theorem so_tuple (hK : X.K = L.K) : CallR X (.type "tuple") (rC1 L opTuple) := cr_of fun {pins s σ H x v a E μ S G Q} I r st vx rx p => by
  unfold opTuple items at p
  split at p
  · exact p.elim
  rename_i hk
  rw [Bool.not_eq_true] at hk
  cases e : dr S x with
  | lst xs =>
    rw [e] at vx p
    obtain ⟨l, vs, rfl, q1, w1⟩ := vx.lsts st.sub
    exact call_tuple_of pins s σ H _ _ Q I r ⟨l, vs, rfl, .inl ⟨by rw [hK]; exact q1, ko_tup st w1 p⟩⟩
  | tup xs =>
    rw [e] at vx p
    obtain ⟨l, vs, rfl, q1, w1⟩ := vx.tups st.sub
    refine call_tuple_of pins s σ H _ _ Q I r ⟨l, vs, rfl, .inr ⟨by rw [hK]; exact q1, ?_⟩⟩
    exact ko_old st (rx.nokt st hk e) p
  | _ => rw [e] at p; exact p.elim
theorem so_int : CallR X (.type "int") (rC1 L opInt) := cr_of fun {pins s σ H x v a E μ S G Q} I r st vx rx p => by
  unfold opInt at p
  split at p
  · rename_i i
    exact call_int1 pins s σ H _ _ Q I r (.inl ⟨i, by rw [vx.ints], ko_int st p⟩)
  · rename_i b
    exact call_int1 pins s σ H _ _ Q I r (.inr ⟨b, by rw [vx.bls], ko_int st p⟩)
  · exact p.elim
theorem bools_rs : ∀ {ds : List D} {vs : List V} {bs : List Bool}, bools ds = some bs → Rs L μ G ds vs → vs = bs.map V.bl
  | [], vs, bs, h, r => by
    cases h
    exact r.nil_inv
  | d :: ds, vs, bs, h, r => by
    obtain ⟨v, ws, rfl, rv, rt⟩ := r.cons_inv
    cases d with
    | bl b =>
      obtain ⟨cs, e, rfl⟩ := Option.map_eq_some_iff.mp h
      rw [bools_rs e rt]
      unfold R at rv
      rw [rv]
      rfl
    | _ => cases h
theorem ints_rs : ∀ {ds : List D} {vs : List V} {bs : List Int}, intsOf ds = some bs → Rs L μ G ds vs → vs = bs.map V.int
  | [], vs, bs, h, r => by
    cases h
    exact r.nil_inv
  | d :: ds, vs, bs, h, r => by
    obtain ⟨v, ws, rfl, rv, rt⟩ := r.cons_inv
    cases d with
    | int b =>
      obtain ⟨cs, e, rfl⟩ := Option.map_eq_some_iff.mp h
      rw [ints_rs e rt]
      unfold R at rv
      rw [rv]
      rfl
    | _ => cases h
theorem so_any (hK : X.K = L.K) (hc : X.calm = true) : CallR X (.builtin "any") (rC1 L opAny) := cr_of fun {pins s σ H x v a E μ S G Q} I r st vx rx p => by
  unfold opAny at p
  split at p
  · rename_i e1
    rw [e1] at vx
    obtain ⟨b, e, p⟩ := okB_some p
    obtain ⟨bs, eb, rfl⟩ := Option.map_eq_some_iff.mp e
    obtain ⟨l, vs, rfl, q1, w1⟩ := vx.lsts st.sub
    have := bools_rs eb w1
    subst this
    exact cr_any hc pins s σ H _ _ Q I r ⟨l, bs, rfl, by rw [hK]; exact q1, ko_bl st p⟩
  · exact p.elim
theorem so_all (hK : X.K = L.K) (hc : X.calm = true) : CallR X (.builtin "all") (rC1 L opAll) := cr_of fun {pins s σ H x v a E μ S G Q} I r st vx rx p => by
  unfold opAll at p
  split at p
  · rename_i e1
    rw [e1] at vx
    obtain ⟨b, e, p⟩ := okB_some p
    obtain ⟨bs, eb, rfl⟩ := Option.map_eq_some_iff.mp e
    obtain ⟨l, vs, rfl, q1, w1⟩ := vx.lsts st.sub
    have := bools_rs eb w1
    subst this
    exact cr_all hc pins s σ H _ _ Q I r ⟨l, bs, rfl, by rw [hK]; exact q1, ko_bl st p⟩
  · exact p.elim
theorem so_sum (hK : X.K = L.K) (hc : X.calm = true) : CallR X (.builtin "sum") (rC1 L opSum) := cr_of fun {pins s σ H x v a E μ S G Q} I r st vx rx p => by
  unfold opSum at p
  split at p
  · rename_i e1
    rw [e1] at vx
    obtain ⟨b, e, p⟩ := okD_some p
    obtain ⟨bs, eb, rfl⟩ := Option.map_eq_some_iff.mp e
    obtain ⟨l, vs, rfl, q1, w1⟩ := vx.lsts st.sub
    have := ints_rs eb w1
    subst this
    exact cr_sum hc pins s σ H _ _ Q I r ⟨l, bs, rfl, by rw [hK]; exact q1, ko_int st p⟩
  · exact p.elim
theorem ko_lstF {ds : List D} {vs : List V} (st : Stt L μ S G H) (r : Rs L μ G ds vs) (p : Post L E μ G H (.ok (.lst ds) S) (fun d _ μ' G' H' => ∀ p, Top L μ' G' H' d p → G' p = none → H p = none → p ∉ μ' → Q (.ref p) H')) : ∀ a, H a = none → Q (.ref a) (upd H a (.lst vs)) := fun a ha => by
  obtain ⟨e2, st2⟩ := st.lay (o := .lst vs) ha
  obtain ⟨g, m⟩ := st.fresh ha
  exact p _ _ _ e2 st2 a ⟨vs, upd_same, r⟩ g ha m
theorem so_list (hK : X.K = L.K) : CallR X (.type "list") (rC1F L opList) := by
  intro pins s σ H vs us Q I r hh
  obtain ⟨v, rfl, E, μ, S, G, x, st, rx, p⟩ := hh
  unfold opList at p
  cases e : items S x with
  | none => rw [e] at p; exact p.elim
  | some xs =>
    rw [e] at p
    obtain ⟨l, ws, rfl, q1, w1⟩ := items_vw st e (rx.vw st)
    refine call_list_of pins s σ H _ _ Q I r ⟨l, ws, rfl, ?_, ko_lstF st w1 p⟩
    rw [hK]
    exact q1.symm
end
end PyD

/-! PyD: calls of the text's own defs, instances made, their attributes, methods. -/
namespace PyD
open PySem L2

/-- a def's answer: from its arguments and the cells -/
abbrev Cl := List D → List D → Out D
section
variable {L : Lk} {X : Cx} {k : Nat}
variable {pins : List (Addr × Obj)} {s : Shared} {σ : St} {H : Hp} {E : XK} {μ : List Addr} {S : List D} {G : Hp} {Q : VK} {W : WX}
/-- the heap but for the thing at x -/
def hidA (x : Addr) (H : Hp) : Hp := fun a => if a = x then none else H a
variable (L)
/-- what a def promises when its answer is known -/
def spD (n : Nat) (c : Cl) : Sp := fun vs H Q E => ∃ μ S G ds, Stt L μ S G H ∧ Rs L μ G ds vs ∧ vs.length = n ∧ Post L E μ G H (c ds S) (KO L Q)
/-- what an __init__ promises: its answer is the instance -/
def spI (n : Nat) (cn : Nat) (c : Cl) : Sp := fun vs H Q E => ∃ μ S G ds x dx ws, vs = .ref x :: ws ∧ Stt L μ S G H ∧ Rs L μ G ds ws ∧ vs.length = n ∧ H x = some (.ins (L.cA cn) dx []) ∧ G x = none ∧ x ∉ μ ∧
  Post L E μ G (hidA x H) (c ds S) (fun d _ μ' G' H' => Top L μ' G' H' d x → G' x = none → x ∉ μ' → Q .non H')
variable {L}
/-- the callee runs; an exception is in this body's air -/
theorem run_fnW {f : Addr} {fd : FuncData} {ps : List Str} {sp : Sp} {ds : List Value} {dvs : List V} {us : List Value} {vs : List V} (F : FnOk X.prog X.w X.K X.mg X.base (CX X.prog X.w) k f fd ps sp) (hr : Room k X.A) (hb : Binds X.K fd ps ds) (hd : Vals dvs ds)
    (tk : Takes X W) (I : Inv X pins σ H s) (r : Vals vs us) (h : sp (vs ++ dvs) H Q (fun c d H' => W c d σ H')) : wpAny (model X.prog X.w) X.A (call (.ref f) us) (EP X pins σ Q) X.xe s := by
  have r2 : Vals (vs ++ dvs) (us ++ ds) := r.append hd
  have hl : (us ++ ds).length = ps.length := by rw [← r2.length]; exact F.len _ _ _ _ h
  refine wpAny_call (codeAny_mono (F.run X.A X.stack s H ⟨us, []⟩ (us ++ ds) (vs ++ dvs) Q _ hr I.env0 (hb s us I.kIn hl) r2 h) fun r s' hq => ?_)
  cases r with
  | error e => exact tk e s' (XE.of_call I (fun _ _ _ z => z) hq)
  | ok fl =>
    cases fl with
    | ret u => exact I.after hq
    | next => exact False.elim hq
    | brk => exact False.elim hq
    | cont => exact False.elim hq
/-- no stars in the list -/
def plainArgs : List Expr → Bool
  | [] => true
  | .Starred _ _ :: _ => false
  | _ :: r => plainArgs r
theorem star_cons {e : Expr} {es : List Expr} {env : Env} (h : plainArgs (e :: es) = true) : starEach (e :: es) env = (false, eval e env) :: starEach es env := by
  cases e <;> first | rfl | exact absurd h (by simp [plainArgs])
theorem plain_tail {e : Expr} {es : List Expr} (h : plainArgs (e :: es) = true) : plainArgs es = true := by
  cases e <;> first | exact h | exact absurd h (by simp [plainArgs])
theorem star_none {pos : Pos} {env : Env} : ∀ {es : List Expr}, plainArgs es = true → (backTo pos (starEach es env)).any (·.1) = false
  | [], _ => by unfold starEach backTo; rfl
  | e :: es, h => by
    rw [star_cons h]
    unfold backTo
    rw [List.map_cons, List.any_cons]
    exact star_none (plain_tail h)
def fCall (n : Nat) (c : Cl) (fl : Ef (List D)) : Ef D := fun ρ S => (fl ρ S).bind fun ds S1 => if ds.length = n then c ds S1 else .bad
theorem call_sp {n : Nat} {c : Cl} {fl : Ef (List D)} {Q : VK} (h : tO L W (fCall n c fl) σ H Q) : tA L W fl σ H fun vs H1 => spD L n c (vs ++ []) H1 Q (fun c d H' => W c d σ H') := by
  obtain ⟨μ, S, G, ρ, π, st, rel, q⟩ := h
  refine ⟨μ, S, G, ρ, π, st, rel, (Post.split q).imp fun ds S1 μ1 G1 H1 e1 st1 p1 vs rv => ?_⟩
  show spD L n c (vs ++ []) H1 Q _
  rw [List.append_nil]
  split at p1
  · rename_i hn
    exact ⟨μ1, S1, G1, ds, st1, rv, rv.length.trans hn, p1⟩
  · exact p1.elim
theorem nil_tA {K : List V → Hp → Prop} (h : tA L W fNil σ H K) : K [] H := by
  obtain ⟨μ, S, G, ρ, π, st, rel, p⟩ := h
  exact p μ G H (.refl _ _ _) st [] Rs.nil
theorem to_call {f : Addr} {fd : FuncData} {ps : List Str} {n : Nat} {c : Cl} {x : Str} {p pos : Pos} {e : Expr} {es : List Expr} {fl : Ef (List D)} (F : FnOk X.prog X.w X.K X.mg X.base (CX X.prog X.w) k f fd ps (spD L n c)) (hr : Room k X.A) (hb : Binds X.K fd ps [])
    (tk : Takes X W) (hg : Gl X x) (hm : X.mg x = some (.ref f)) (hk : PySem.W.keepIn X.K (.ref f) = true) (hdb : (x == ("__debug__" : Str)) = false) (ha : PA X (e :: es) (tA L W fl)) (hp : plainArgs (e :: es) = true) :
    PE X (.Call (.Name x p) (e :: es) [] pos) (tO L W (fCall n c fl)) := by
  refine ⟨fun pins s σ H Q I h => ?_⟩
  refine wpAny_Call_Name_kw (ld_glob I hg hm ?_ hdb)
  refine PySem.W.callWith_K (h₀ := X.base) I.ok.mod.kin hk (thn (ha.run pos pins s σ H _ I (call_sp h)) fun us s1 ⟨vs, H1, I1, r, q⟩ => ⟨I1.kIn, ?_⟩) (star_cons hp) (star_none (plain_tail hp))
  exact run_fnW F hr hb .nil tk I1 r q
theorem to_call0 {f : Addr} {fd : FuncData} {ps : List Str} {n : Nat} {c : Cl} {x : Str} {p pos : Pos} (F : FnOk X.prog X.w X.K X.mg X.base (CX X.prog X.w) k f fd ps (spD L n c)) (hr : Room k X.A) (hb : Binds X.K fd ps [])
    (tk : Takes X W) (hg : Gl X x) (hm : X.mg x = some (.ref f)) (hk : PySem.W.keepIn X.K (.ref f) = true) (hdb : (x == ("__debug__" : Str)) = false) :
    PE X (.Call (.Name x p) [] [] pos) (tO L W (fCall n c fNil)) := by
  refine ⟨fun pins s σ H Q I h => ?_⟩
  refine wpAny_Call_Name_kw (ld_glob I hg hm ?_ hdb)
  exact PySem.W.callWith_K0 I.kIn hk (run_fnW (us := []) F hr hb .nil tk I .nil (nil_tA (call_sp h)))

/-! ### instances: attributes, methods, new ones -/
/-- the attribute numbered by its place -/
def fFld (at_ : Nat → Option Nat) (fa : Ef D) : Ef D := fun ρ S => (fa ρ S).bind fun x S1 => match dr S1 x with
  | .ins c fs => match at_ c with
    | some i => okD fs[i]? S1
    | none => .bad
  | _ => .bad
theorem zip_look {fs : List Str} {vs : List V} {i : Nat} {x : Str} {v : V} (nd : fs.Nodup) (h : fs[i]? = some x) (hv : vs[i]? = some v) : (fs.zip vs).lookup x = some v := by
  induction fs generalizing vs i with
  | nil => simp at h
  | cons f fs ih =>
    cases vs with
    | nil => simp at hv
    | cons w ws =>
      cases i with
      | zero =>
        simp at h hv
        subst h hv
        simp [List.zip_cons_cons, List.lookup]
      | succ i =>
        have ne : x ≠ f := fun e => by
          subst e
          exact (List.nodup_cons.mp nd).1 (List.mem_of_getElem? (by simpa using h))
        rw [List.zip_cons_cons]
        have : (x == f) = false := by simpa using ne
        simp only [List.lookup, this]
        exact ih (List.nodup_cons.mp nd).2 (by simpa using h) (by simpa using hv)
theorem zip_none {fs : List Str} {vs : List V} {x : Str} (h : x ∉ fs) : (fs.zip vs).lookup x = none := by
  induction fs generalizing vs with
  | nil => rfl
  | cons f fs ih =>
    cases vs with
    | nil => rfl
    | cons w ws =>
      have ne : (x == f) = false := beq_eq_false_iff_ne.mpr fun e => h (by rw [e]; exact List.mem_cons_self)
      rw [List.zip_cons_cons]
      simp only [List.lookup, ne]
      exact ih fun m => h (List.mem_cons_of_mem _ m)
/-- what the text's classes must have: at_ tells the places of the attribute x -/
structure AtOk (L : Lk) (X : Cx) (x : Str) (at_ : Nat → Option Nat) : Prop where
  look : ∀ c i, at_ c = some i → (L.flds c)[i]? = some x ∧ (L.flds c).Nodup ∧ Cls X.K (L.cA c) ∧ NoAttr X.K (L.cA c) x
theorem to_fld {a : Expr} {x : Str} {pos : Pos} {at_ : Nat → Option Nat} {fa : Ef D} (hA : AtOk L X x at_) (ha : PE X a (tB L W fa)) (hb : attributeBase a x X.env (eval a X.env) = eval a X.env) : PE X (.Attribute a x pos) (tO L W (fFld at_ fa)) :=
  (pe_fld ha hb).to fun σ H Q h => by
    obtain ⟨μ, S, G, ρ, π, st, rel, p⟩ := h
    refine ⟨μ, S, G, ρ, π, st, rel, p.split.imp fun y S1 μ1 G1 H1 e1 st1 p1 v rv => ?_⟩
    have vy := rv.vw st1
    split at p1
    · rename_i c fs e
      rw [e] at vy
      split at p1
      · rename_i i ei
        obtain ⟨d, ed, p1⟩ := okD_some p1
        obtain ⟨l1, l2, l3, l4⟩ := hA.look c i ei
        obtain ⟨b, dx, vs, rfl, hb, hl, rs⟩ := vy.inss st1.sub
        obtain ⟨z, ez, rz⟩ := rs.get ed
        exact ⟨b, _, dx, _, z, rfl, hb, l3, l4, zip_look l2 l1 ez, ko_old st1 rz p1⟩
      · exact p1.elim
    · exact p1.elim
/-- o.m(..): mt tells each class's def for it -/
def fMeth (mt : Nat → Option (Nat × Cl)) (fa : Ef D) (fl : Ef (List D)) : Ef D := fun ρ S => (fa ρ S).bind fun x S1 => match dr S1 x with
  | .ins c _ => match mt c with
    | some (n, cl) => (fl ρ S1).bind fun ds S2 => if (x :: ds).length = n then cl (x :: ds) S2 else .bad
    | none => .bad
  | _ => .bad
/-- what the text's classes must have for the method m -/
structure MtOk (L : Lk) (X : Cx) (k : Nat) (m : Str) (mt : Nat → Option (Nat × Cl)) : Prop where
  look : ∀ c n cl, mt c = some (n, cl) → ∃ f fd ps, Cls X.K (L.cA c) ∧ Meth X.K (L.cA c) m f ∧ m ∉ L.flds c ∧ FnOk X.prog X.w X.K X.mg X.base (CX X.prog X.w) k f fd ps (spD L n cl) ∧ Binds X.K fd ps []
/-- a new instance -/
def fMake (n : Nat) (c : Cl) (fl : Ef (List D)) : Ef D := fun ρ S => (fl ρ S).bind fun ds S1 => if ds.length + 1 = n then c ds S1 else .bad
theorem make_sp {cn n : Nat} {c : Cl} {fl : Ef (List D)} {Q : VK} (hc : ∀ ds S d S', c ds S = .ok d S' → ∃ fs, d = .ins cn fs) (h : tO L W (fMake n c fl) σ H Q) : tA L W fl σ H fun vs H1 => ∀ x dx, H1 x = none → H1 dx = none → dx ≠ x →
    spI L n cn c (.ref x :: (vs ++ [])) (upd (upd H1 dx (.own x)) x (.ins (L.cA cn) dx [])) (fun v H2 => v = .non ∧ Q (.ref x) H2) (fun c d H' => W c d σ H') := by
  obtain ⟨μ, S, G, ρ, π, st, rel, q⟩ := h
  refine ⟨μ, S, G, ρ, π, st, rel, (Post.split q).imp fun ds S1 μ1 G1 H1 e1 st1 p1 vs rv x dx nx nd ne => ?_⟩
  rw [List.append_nil]
  split at p1
  · rename_i hn
    obtain ⟨e2, st2⟩ := st1.lay (o := .own x) nd
    have nx2 : (upd H1 dx (.own x)) x = none := by rw [upd_ne (Ne.symm ne)]; exact nx
    obtain ⟨e3, st3⟩ := st2.lay (o := .ins (L.cA cn) dx []) nx2
    obtain ⟨g, m⟩ := st2.fresh nx2
    refine ⟨μ1, S1, G1, ds, x, dx, vs, rfl, st3, rv, by rw [List.length_cons, rv.length]; exact hn, upd_same, g, m, ?_⟩
    have eh : hidA x (upd (upd H1 dx (.own x)) x (.ins (L.cA cn) dx [])) = upd H1 dx (.own x) := by
      funext a
      unfold hidA
      by_cases z : a = x
      · rw [if_pos z, z]; exact nx2.symm
      · rw [if_neg z, upd_ne z]
    rw [eh]
    have p2 := Post.ext p1 e2
    cases e : c ds S1 with
    | bad => rw [e] at p1; exact p1
    | exc a b d => rw [e] at p2; exact p2
    | ok d S2 =>
      rw [e] at p1
      obtain ⟨fs, rfl⟩ := hc _ _ _ _ e
      intro μ2 G2 H2 e4 st4 t gn mn
      obtain ⟨dx', ws, hx, hl, rs⟩ := t
      have e5 := e2.trans e4
      obtain ⟨e6, st6⟩ := st4.keep e5 hx gn mn nx
      refine ⟨rfl, p1 _ _ _ e6 st6 (.ref x) ?_⟩
      unfold R
      exact ⟨x, dx', ws, rfl, upd_same, hl, rs.sub fun a u e => by rw [upd_ne (ne_of_none e gn)]; exact e⟩
  · exact p1.elim
end
end PyD

/-! PyD: method calls. -/
namespace PyD
open PySem L2

/-- not a call of a name without arguments (super() is read otherwise) -/
def notSuper : Expr → Bool
  | .Call (.Name _ _) [] [] _ => false
  | _ => true
theorem base_of {o : Expr} {x : Str} {env : Env} {w : Sem Value} (h : notSuper o = true) : attributeBase o x env w = w := by
  unfold attributeBase
  split
  · exact absurd h (by simp [notSuper])
  · rfl
section
variable {L : Lk} {X : Cx} {k : Nat}
variable {pins : List (Addr × Obj)} {s : Shared} {σ : St} {H : Hp} {E : XK} {μ : List Addr} {S : List D} {G : Hp} {Q : VK} {W : WX}
theorem plain_all {pos : Pos} {env : Env} : ∀ {es : List Expr}, plainArgs es = true → (backTo pos (starEach es env)).all (fun x => !x.1) = true
  | [], _ => by unfold starEach backTo; rfl
  | e :: es, h => by
    rw [star_cons h]
    unfold backTo
    rw [List.map_cons, List.all_cons]
    exact plain_all (plain_tail h)
theorem meth_eq {o : Expr} {m : Str} {apos pos : Pos} {es : List Expr} {env : Env} (ho : notSuper o = true) (hp : plainArgs es = true) (hn : es.length < 30) (hl : (apos.endLine == pos.line) = true) :
    eval (.Call (.Attribute o m apos) es [] pos) env = (do
      let ov ← eval o env
      standAt apos.atName
      let (f, first) ← holding [ov] (getMethod ov m (do return (← importBound o env).getD true))
      callWith pos f first (backTo pos (starEach es env)) (backToKw pos (keywordEach [] env))) := by
  have hf : methodCallForm (es.length + ([] : List Keyword).length) (backTo pos (starEach es env)) (backToKw pos (keywordEach [] env)) = true := by
    unfold methodCallForm
    rw [plain_all hp]
    simp [keywordEach, backToKw]
    exact hn
  show (attributeBase o m env (eval o env) >>= fun ov => standAt apos.atName >>= fun _ => methodCall o m apos pos env ov (es.length + ([] : List Keyword).length) (backTo pos (starEach es env)) (backToKw pos (keywordEach [] env))) = _
  rw [base_of ho]
  unfold methodCall methodCallPos calleeOf
  rw [hf, hl]
  rfl
theorem to_meth {o e : Expr} {m : Str} {apos pos : Pos} {es : List Expr} {fa : Ef D} {fl : Ef (List D)} {mt : Nat → Option (Nat × Cl)} (hM : MtOk L X k m mt) (hr : Room k X.A) (tk : Takes X W) (ho : PE X o (tO L W fa)) (ha : PA X (e :: es) (tA L W fl))
    (h1 : notSuper o = true) (hp : plainArgs (e :: es) = true) (hn : (e :: es).length < 30) (hl : (apos.endLine == pos.line) = true) : PE X (.Call (.Attribute o m apos) (e :: es) [] pos) (tO L W (fMeth mt fa fl)) := by
  refine ⟨fun pins s σ H Q I h => ?_⟩
  obtain ⟨μ, S, G, ρ, π, st, rel, p⟩ := h
  refine PySem.W.methodCall_KW (thn (ho.run pins s σ H _ I ⟨μ, S, G, ρ, π, st, rel, p.split.imp fun x S1 μ1 G1 H1 e1 st1 p1 v rv => (show ∃ a c n cl f fd ps dx vs, v = V.ref a ∧ H1 a = some (.ins (L.cA c) dx ((L.flds c).zip vs)) ∧ Cls X.K (L.cA c) ∧ Meth X.K (L.cA c) m f ∧ m ∉ L.flds c ∧ FnOk X.prog X.w X.K X.mg X.base (CX X.prog X.w) k f fd ps (spD L n cl) ∧ Binds X.K fd ps [] ∧
      tA L W fl σ H1 (fun ws H2 => spD L n cl (v :: (ws ++ [])) H2 Q (fun c d H' => W c d σ H')) from ?_)⟩) fun u s1 ⟨x, H1, I1, rx, a, c, n, cl, f, fd, ps, dx, vs, ex, hx, c1, c2, c3, c4, c5, q⟩ => ?_) (meth_eq h1 hp hn hl)
  · split at p1
    · rename_i c fs e
      split at p1
      · rename_i n cl em
        obtain ⟨f, fd, ps, c1, c2, c3, c4, c5⟩ := hM.look c n cl em
        have vx := RT.vw st1 (.inl rv)
        rw [e] at vx
        obtain ⟨a, dx, vs, rfl, ha, hl, rs⟩ := vx.inss st1.sub
        refine ⟨a, c, n, cl, f, fd, ps, dx, vs, rfl, ha, c1, c2, c3, c4, c5, μ1, S1, G1, ρ, π, st1, rel.ext e1, p1.split.imp fun ds S2 μ2 G2 H2 e2 st2 p2 ws rws => ?_⟩
        split at p2
        · rename_i hn
          refine ⟨μ2, S2, G2, x :: ds, st2, Rs.cons (rv.ext e2) (by rw [List.append_nil]; exact rws), ?_, p2⟩
          rw [List.append_nil, List.length_cons, rws.length]
          exact hn
        · exact p2.elim
      · exact p1.elim
    · exact p1.elim
  · subst ex
    obtain rfl : u = Value.ref a := rx
    refine getmeth_ok I1 hx c1 c2 (zip_none c3) ?_
    refine PySem.W.callWith_K (first := [.ref a]) (h₀ := X.base) I.ok.mod.kin c2.kp (thn (ha.run pos pins s1 σ H1 _ I1 q) fun us s2 ⟨ws, H2, I2, r, q2⟩ => ⟨I2.kIn, ?_⟩) (star_cons hp) (star_none (plain_tail hp))
    exact run_fnW (us := .ref a :: us) (vs := .ref a :: ws) c4 hr c5 .nil tk I2 (.cons rfl r) q2
theorem to_meth0 {o : Expr} {m : Str} {apos pos : Pos} {fa : Ef D} {mt : Nat → Option (Nat × Cl)} (hM : MtOk L X k m mt) (hr : Room k X.A) (tk : Takes X W) (ho : PE X o (tO L W fa))
    (h1 : notSuper o = true) (hl : (apos.endLine == pos.line) = true) : PE X (.Call (.Attribute o m apos) [] [] pos) (tO L W (fMeth mt fa fNil)) := by
  refine ⟨fun pins s σ H Q I h => ?_⟩
  obtain ⟨μ, S, G, ρ, π, st, rel, p⟩ := h
  refine PySem.W.methodCall_KW (thn (ho.run pins s σ H _ I ⟨μ, S, G, ρ, π, st, rel, p.split.imp fun x S1 μ1 G1 H1 e1 st1 p1 v rv => (show ∃ a c n cl f fd ps dx vs, v = V.ref a ∧ H1 a = some (.ins (L.cA c) dx ((L.flds c).zip vs)) ∧ Cls X.K (L.cA c) ∧ Meth X.K (L.cA c) m f ∧ m ∉ L.flds c ∧ FnOk X.prog X.w X.K X.mg X.base (CX X.prog X.w) k f fd ps (spD L n cl) ∧ Binds X.K fd ps [] ∧
      spD L n cl [v] H1 Q (fun c d H' => W c d σ H') from ?_)⟩) fun u s1 ⟨x, H1, I1, rx, a, c, n, cl, f, fd, ps, dx, vs, ex, hx, c1, c2, c3, c4, c5, q⟩ => ?_) (meth_eq h1 rfl (by decide) hl)
  · split at p1
    · rename_i c fs e
      split at p1
      · rename_i n cl em
        obtain ⟨f, fd, ps, c1, c2, c3, c4, c5⟩ := hM.look c n cl em
        have vx := RT.vw st1 (.inl rv)
        rw [e] at vx
        obtain ⟨a, dx, vs, rfl, ha, hl, rs⟩ := vx.inss st1.sub
        refine ⟨a, c, n, cl, f, fd, ps, dx, vs, rfl, ha, c1, c2, c3, c4, c5, ?_⟩
        have p2 := p1.split μ1 G1 H1 (.refl _ _ _) st1
        dsimp only [fNil] at p2
        split at p2
        · rename_i hn
          exact ⟨μ1, S1, G1, [x], st1, Rs.cons rv Rs.nil, hn, p2⟩
        · exact p2.elim
      · exact p1.elim
    · exact p1.elim
  · subst ex
    obtain rfl : u = Value.ref a := rx
    refine getmeth_ok I1 hx c1 c2 (zip_none c3) ?_
    exact PySem.W.callWith_K0 (first := [.ref a]) I1.kIn c2.kp (run_fnW (us := [.ref a]) (vs := [.ref a]) c4 hr c5 .nil tk I1 (.cons rfl .nil) q)

/-! ### making -/
theorem run_makeW {C f : Addr} {fd : FuncData} {ps : List Str} {sp : Sp} {ds : List Value} {dvs : List V} {us : List Value} {vs : List V} (M : Mk X.K C f) (F : FnOk X.prog X.w X.K X.mg X.base (CX X.prog X.w) k f fd ps sp) (hr : Room (k + 1) X.A) (hb : Binds X.K fd ps ds) (hd : Vals dvs ds)
    (tk : Takes X W) (I : Inv X pins σ H s) (r : Vals vs us)
    (h : ∀ x dx, H x = none → H dx = none → dx ≠ x → sp (.ref x :: (vs ++ dvs)) (upd (upd H dx (.own x)) x (.ins C dx [])) (fun v H2 => v = .non ∧ Q (.ref x) H2) (fun c d H' => W c d σ H')) :
    wpAny (model X.prog X.w) X.A (call (.ref C) us) (EP X pins σ Q) X.xe s := by
  have hq := h (s.heap.objs.size + 1) s.heap.objs.size (I.hok.fresh (Nat.le_succ _)) (I.hok.fresh (Nat.le_refl _)) (Nat.ne_of_lt (Nat.lt_succ_self _))
  have I2 := Inv.made (C := C) I
  have r2 : Vals (V.ref (s.heap.objs.size + 1) :: (vs ++ dvs)) (Value.ref (s.heap.objs.size + 1) :: (us ++ ds)) := .cons rfl (r.append hd)
  have hl : (Value.ref (s.heap.objs.size + 1) :: us ++ ds).length = ps.length := by
    have e := r2.length
    rw [F.len _ _ _ _ hq] at e
    exact e.symm
  refine wpAny_call (make_map (f := f) I.kIn M.makes M.init (beq_iff_eq.mp M.fn) (codeAny_mono (F.run _ X.stack _ _ ⟨Value.ref (s.heap.objs.size + 1) :: us, []⟩ (Value.ref (s.heap.objs.size + 1) :: (us ++ ds)) _ _ _ (hr.make C us [])
    (I2.env0.make C us []) (hb _ (Value.ref (s.heap.objs.size + 1) :: us) I2.kIn hl) r2 hq) fun r s' hq' => ?_))
  cases r with
  | error e => exact tk e s' (XE.of_call I2 (fun _ _ _ z => z) hq')
  | ok fl =>
    cases fl with
    | ret u =>
      obtain ⟨v, H', I3, rv, ev, q3⟩ := I2.after hq'
      subst ev
      exact ⟨rv, ⟨V.ref (s.heap.objs.size + 1), H', I3, rfl, q3⟩⟩
    | next => exact False.elim hq'
    | brk => exact False.elim hq'
    | cont => exact False.elim hq'
theorem to_make {C f : Addr} {cn n : Nat} {c : Cl} {fd : FuncData} {ps : List Str} {x : Str} {p pos : Pos} {e : Expr} {es : List Expr} {fl : Ef (List D)} (hC : C = L.cA cn) (M : Mk X.K C f) (F : FnOk X.prog X.w X.K X.mg X.base (CX X.prog X.w) k f fd ps (spI L n cn c)) (hr : Room (k + 1) X.A)
    (hb : Binds X.K fd ps []) (tk : Takes X W) (hc : ∀ ds S d S', c ds S = .ok d S' → ∃ fs, d = .ins cn fs) (hg : Gl X x) (hm : X.mg x = some (.ref C)) (hdb : (x == ("__debug__" : Str)) = false) (ha : PA X (e :: es) (tA L W fl)) (hp : plainArgs (e :: es) = true) :
    PE X (.Call (.Name x p) (e :: es) [] pos) (tO L W (fMake n c fl)) := by
  subst hC
  refine ⟨fun pins s σ H Q I h => ?_⟩
  refine wpAny_Call_Name_kw (ld_glob I hg hm ?_ hdb)
  refine PySem.W.callWith_K (h₀ := X.base) I.ok.mod.kin M.kp (thn (ha.run pos pins s σ H _ I (make_sp hc h)) fun us s1 ⟨vs, H1, I1, r, q⟩ => ⟨I1.kIn, ?_⟩) (star_cons hp) (star_none (plain_tail hp))
  exact run_makeW M F hr hb .nil tk I1 r q
end
end PyD

/-! PyD: what is walked; list comprehensions. -/
namespace PyD
open PySem L2

/-- a target: a name's slot, several in a tuple -/
inductive Tg where
  | one (j : Nat)
  | many (js : List Nat)
  | two (a b : Tg)
def setMany : List Nat → List D → List Sl → Option (List Sl)
  | [], [], ρ => some ρ
  | j :: js, d :: ds, ρ => setMany js ds (ρ.set j (.val d))
  | _, _, _ => none
def bindT : Tg → D → List Sl → Option (List Sl)
  | .one j, d, ρ => some (ρ.set j (.val d))
  | .many js, .tup ds, ρ => setMany js ds ρ
  | .two a b, .tup [x, y], ρ => match bindT a x ρ with
    | some ρ1 => bindT b y ρ1
    | none => none
  | _, _, _ => none
/-- the slots forgotten -/
def wipeR (ρ : List Sl) : List Nat → List Sl
  | [] => ρ
  | v :: vs => (wipeR ρ vs).set v .emp
/-- no exception in here -/
def calmly {α : Type} : Out α → Out α
  | .exc _ _ _ => .bad
  | o => o
def lcLoop (tg : Tg) (c : Ef Bool) (e : Ef D) (ρ : List Sl) : List D → List D → Out (List D)
  | [], S => .ok [] S
  | x :: xs, S => match bindT tg x ρ with
    | none => .bad
    | some ρ1 => match c ρ1 S with
      | .ok true S1 => match e ρ1 S1 with
        | .ok y S2 => match lcLoop tg c e ρ xs S2 with
          | .ok ys S3 => .ok (y :: ys) S3
          | _ => .bad
        | _ => .bad
      | .ok false S1 => lcLoop tg c e ρ xs S1
      | _ => .bad
/-- [e for tg in it if c] -/
def fLc (tg : Tg) (vs : List Nat) (it : Ef (List D)) (c : Ef Bool) (e : Ef D) : Ef D := fun ρ S => (it ρ S).bind fun ds S1 => match lcLoop tg c e (wipeR ρ vs) ds S1 with
  | .ok ys S2 => if ys.length ≤ LIM then .ok (.lst ys) S2 else .bad
  | _ => .bad

section
variable {L : Lk} {X : Cx} {k : Nat}
variable {pins : List (Addr × Obj)} {s : Shared} {σ : St} {H : Hp} {E : XK} {μ : List Addr} {S : List D} {G : Hp} {Q : VK} {W : WX} {ρ : List Sl} {π : Nat → Option Addr}
/-- nothing may be raised -/
def WF : WX := fun _ _ _ _ => False
/-- what a turn gives: the item as it is, or in a new tuple -/
def Gives (L : Lk) (μ : List Addr) (G H : Hp) (d : D) (x : V) (H' : Hp) : Prop := (H' = H ∧ R L μ G d x) ∨ (∃ T ws es, x = .ref T ∧ H T = none ∧ H' = upd H T (.tup ws) ∧ d = .tup es ∧ Rs L μ G es ws) ∨
  ∃ T1 T2 ws es n, x = .ref T2 ∧ T1 ≠ T2 ∧ H T1 = none ∧ H T2 = none ∧ H' = upd (upd H T1 (.tup ws)) T2 (.tup [.int n, .ref T1]) ∧ d = .tup [.int n, .tup es] ∧ Rs L μ G es ws
/-- what is walked gives these, whatever is made meanwhile -/
def Yld (L : Lk) (J : It) (μ1 : List Addr) (G1 H1 : Hp) (ds : List D) : Prop := ∀ i μ G H, Ext μ1 G1 H1 μ G H → Sub G H →
  (i < ds.length → J.go i H) ∧ (ds.length ≤ i → J.stop i H) ∧ ∀ x H', i < ds.length → J.yld i H x H' → ∃ d, ds[i]? = some d ∧ Gives L μ G H d x H'
/-- .. whatever is done meanwhile -/
def YldG (L : Lk) (J : It) (μ1 : List Addr) (G1 : Hp) (ds : List D) : Prop := ∀ i μ G H, (∀ (i : Nat) (a : Addr), μ1[i]? = some a → μ[i]? = some a) → Sub G1 G → Sub G H →
  (i < ds.length → J.go i H) ∧ (ds.length ≤ i → J.stop i H) ∧ ∀ x H', i < ds.length → J.yld i H x H' → ∃ d, ds[i]? = some d ∧ Gives L μ G H d x H'
theorem YldG.yld {J : It} {μ1 : List Addr} {G1 H1 : Hp} {ds : List D} (h : YldG L J μ1 G1 ds) : Yld L J μ1 G1 H1 ds := fun i μ G H e s => h i μ G H e.pre e.g s
variable (L)
/-- a walk whose items are known: in a comprehension; in a loop -/
def tI (W : WX) (f : Ef (List D)) : TI := fun σ H R => ∃ μ S G ρ π, Stt L μ S G H ∧ Rel L μ G H σ ρ π ∧ Post L (fun c d H' => W c d σ H') μ G H (f ρ S) (fun ds _ μ' G' H' => ∀ J, Yld L J μ' G' H' ds → R J H')
def tIG (W : WX) (f : Ef (List D)) : TI := fun σ H R => ∃ μ S G ρ π, Stt L μ S G H ∧ Rel L μ G H σ ρ π ∧ Post L (fun c d H' => W c d σ H') μ G H (f ρ S) (fun ds _ μ' G' H' => ∀ J, YldG L J μ' G' ds → R J H')
variable {L}
theorem _root_.L2.PI.to {tg it : Expr} {t t' : TI} (h : PI X tg it t) (k : ∀ σ H Q, t' σ H Q → t σ H Q) : PI X tg it t' := ⟨fun pins s σ H R I q => h.run pins s σ H R I (k σ H R q)⟩
theorem tI_tIG {f : Ef (List D)} {R : It → Hp → Prop} (h : tI L W f σ H R) : tIG L W f σ H R := by
  obtain ⟨μ, S, G, ρ, π, st, rel, p⟩ := h
  exact ⟨μ, S, G, ρ, π, st, rel, p.imp fun ds S' μ' G' H' _ _ q J y => q J y.yld⟩

/-! ### slots -/
theorem wipe_R : ∀ (vs : List Nat) {i : Nat}, i ∉ vs → (wipeR ρ vs)[i]? = ρ[i]?
  | [], _, _ => rfl
  | v :: vs, i, h => by
    have h1 : v ≠ i := fun e => h (by rw [e]; exact List.mem_cons_self)
    unfold wipeR
    rw [List.getElem?_set_ne h1]
    exact wipe_R vs fun m => h (List.mem_cons_of_mem _ m)
theorem wipe_in : ∀ (vs : List Nat) {i : Nat} {x : Sl}, i ∈ vs → (wipeR ρ vs)[i]? = some x → x = .emp
  | [], _, _, h, _ => nomatch h
  | v :: vs, i, x, h, e => by
    unfold wipeR at e
    by_cases z : v = i
    · subst z
      by_cases hv : v < (wipeR ρ vs).length
      · rw [List.getElem?_set_self hv] at e; exact (Option.some.inj e).symm
      · rw [List.getElem?_eq_none (by simpa using hv)] at e; cases e
    · rw [List.getElem?_set_ne z] at e
      rcases List.mem_cons.mp h with h | h
      · exact absurd h.symm z
      · exact wipe_in vs h e
theorem wipeR_len : ∀ (vs : List Nat), (wipeR ρ vs).length = ρ.length
  | [] => rfl
  | v :: vs => by unfold wipeR; rw [List.length_set, wipeR_len vs]
theorem Rel.wipe (r : Rel L μ G H σ ρ π) (vs : List Nat) : Rel L μ G H (wipe σ vs) (wipeR ρ vs) (fun i => if i ∈ vs then none else π i) := by
  refine ⟨fun i d e => ?_, fun i d e => ?_, fun i j p e1 e2 => ?_, fun i p e => ?_, ?_⟩
  · by_cases z : i ∈ vs
    · cases wipe_in vs z e
    · rw [wipe_R vs z] at e
      rw [L2.wipe_out z]
      exact r.val i d e
  · by_cases z : i ∈ vs
    · cases wipe_in vs z e
    · rw [wipe_R vs z] at e
      rw [L2.wipe_out z]
      try dsimp only
      rw [if_neg z]
      exact r.own i d e
  · try dsimp only at e1 e2
    split at e1
    · cases e1
    · split at e2
      · cases e2
      · exact r.inj i j p e1 e2
  · try dsimp only at e
    split at e
    · cases e
    · rename_i z
      obtain ⟨d, q⟩ := r.only i p e
      exact ⟨d, by rw [wipe_R vs z]; exact q⟩
  · rw [wipeR_len, wipe_length]; exact r.len
/-- a value stored -/
theorem Rel.put (r : Rel L μ G H σ ρ π) {d : D} {v : V} (i : Nat) (h : R L μ G d v) : Rel L μ G H (σ.set i (some v)) (ρ.set i (.val d)) (fun j => if j = i then none else π j) := by
  refine ⟨fun j d' e => ?_, fun j d' e => ?_, fun j l p e1 e2 => ?_, fun j p e => ?_, by rw [List.length_set, List.length_set]; exact r.len⟩
  · by_cases z : i = j
    · subst z
      have hi : i < ρ.length := by have := (List.getElem?_eq_some_iff.mp e).1; simpa using this
      rw [List.getElem?_set_self hi] at e
      cases e
      exact ⟨v, List.getElem?_set_self (by rw [← r.len]; exact hi), h⟩
    · rw [List.getElem?_set_ne z] at e ⊢
      exact r.val j d' e
  · by_cases z : i = j
    · subst z
      have hi : i < ρ.length := by have := (List.getElem?_eq_some_iff.mp e).1; simpa using this
      rw [List.getElem?_set_self hi] at e
      cases e
    · rw [List.getElem?_set_ne z] at e ⊢
      try dsimp only
      rw [if_neg (Ne.symm z)]
      exact r.own j d' e
  · try dsimp only at e1 e2
    split at e1
    · cases e1
    · split at e2
      · cases e2
      · exact r.inj j l p e1 e2
  · try dsimp only at e
    split at e
    · cases e
    · rename_i z
      obtain ⟨d', q⟩ := r.only j p e
      exact ⟨d', by rw [List.getElem?_set_ne (Ne.symm z)]; exact q⟩
end
end PyD

/-! PyD: targets; list comprehensions. -/
namespace PyD
open PySem L2
section
variable {L : Lk} {X : Cx} {k : Nat}
variable {pins : List (Addr × Obj)} {s : Shared} {σ : St} {H : Hp} {E : XK} {μ : List Addr} {S : List D} {G : Hp} {Q : VK} {W : WX} {ρ : List Sl} {π : Nat → Option Addr}
/-- the layer's reading of a target -/
def gOf (K : PySem.W.Frag) : Tg → TG
  | .one j => gName j
  | .two a b => gTup K 2 (gCons (gOf K a) (gCons (gOf K b) gNil))
  | .many js => gTup K js.length (js.foldr (fun j t => gCons (gName j) t) gNil)
theorem set_many : ∀ {js : List Nat} {ds : List D} {ρ ρ1 : List Sl} {σ : St} {π : Nat → Option Addr} {vs : List V} {P : St → Hp → Prop}, setMany js ds ρ = some ρ1 → Rs L μ G ds vs → Rel L μ G H σ ρ π →
    (∀ σ1 π1, Rel L μ G H σ1 ρ1 π1 → (∀ i, i ∉ js → σ1[i]? = σ[i]?) → σ1.length = σ.length → (∀ i p, π1 i = some p → π i = some p) → P σ1 H) → (js.foldr (fun j t => gCons (gName j) t) gNil : TGs) vs σ H P
  | [], [], ρ, ρ1, σ, π, vs, P, h, r, rel, k => by
    cases h
    have := r.nil_inv
    subst this
    exact ⟨rfl, k σ π rel (fun _ _ => rfl) rfl fun _ _ e => e⟩
  | [], _ :: _, ρ, ρ1, σ, π, vs, P, h, r, rel, k => by cases h
  | _ :: _, [], ρ, ρ1, σ, π, vs, P, h, r, rel, k => by cases h
  | j :: js, d :: ds, ρ, ρ1, σ, π, vs, P, h, r, rel, k => by
    obtain ⟨v, ws, rfl, rv, rt⟩ := r.cons_inv
    refine ⟨v, ws, rfl, ?_⟩
    show (js.foldr (fun j t => gCons (gName j) t) gNil : TGs) ws (σ.set j (some v)) H P
    refine set_many (σ := σ.set j (some v)) h rt (rel.put j rv) fun σ1 π1 r1 e1 e2 e3 => k σ1 π1 r1 (fun i m => ?_) (by rw [e2, List.length_set]) fun i p e => ?_
    · rw [e1 i fun z => m (List.mem_cons_of_mem _ z), List.getElem?_set_ne]
      exact fun z => m (by rw [z]; exact List.mem_cons_self)
    · have := e3 i p e
      split at this
      · cases this
      · exact this
def tgSlots : Tg → List Nat
  | .one j => [j]
  | .many js => js
  | .two a b => tgSlots a ++ tgSlots b
theorem bind_two {a b : Tg} {d : D} {ρ ρ1 : List Sl} (h : bindT (.two a b) d ρ = some ρ1) : ∃ x y ρ', d = .tup [x, y] ∧ bindT a x ρ = some ρ' ∧ bindT b y ρ' = some ρ1 := by
  cases d with
  | tup ds =>
    cases ds with
    | nil => simp [bindT] at h
    | cons x ds =>
      cases ds with
      | nil => simp [bindT] at h
      | cons y ds =>
        cases ds with
        | cons _ _ => simp [bindT] at h
        | nil =>
          rw [bindT] at h
          cases e : bindT a x ρ with
          | none => rw [e] at h; cases h
          | some ρ' => rw [e] at h; exact ⟨x, y, ρ', rfl, e, h⟩
  | _ => simp [bindT] at h
/-- the item bound -/
theorem bind_ok {K : PySem.W.Frag} (hK : K = L.K) (s : Sub G H) : ∀ (tg : Tg) {d : D} {ρ ρ1 : List Sl} {v : V} {σ : St} {π : Nat → Option Addr} {P : St → Hp → Prop} (h : bindT tg d ρ = some ρ1) (r : R L μ G d v) (rel : Rel L μ G H σ ρ π)
    (k : ∀ σ1 π1, Rel L μ G H σ1 ρ1 π1 → (∀ i, i ∉ tgSlots tg → σ1[i]? = σ[i]?) → σ1.length = σ.length → (∀ i p, π1 i = some p → π i = some p) → P σ1 H), gOf K tg v σ H P
  | .one j, d, ρ, ρ1, v, σ, π, P, h, r, rel, k => by
    unfold bindT at h
    cases h
    refine k _ _ (rel.put j r) (fun i m => ?_) (by rw [List.length_set]) fun i p e => ?_
    · rw [List.getElem?_set_ne]
      exact fun z => m (by rw [z]; exact List.mem_cons_self)
    · split at e
      · cases e
      · exact e
  | .many js, d, ρ, ρ1, v, σ, π, P, h, r, rel, k => by
    cases d with
    | tup ds =>
      unfold bindT at h
      unfold R at r
      obtain ⟨a, vs, e, q, rs⟩ := r
      have hl : ∀ {js : List Nat} {ds : List D} {ρ ρ1 : List Sl}, setMany js ds ρ = some ρ1 → js.length = ds.length := by
        intro js
        induction js with
        | nil => intro ds ρ ρ1 h; cases ds with
          | nil => rfl
          | cons _ _ => cases h
        | cons j js ih => intro ds ρ ρ1 h; cases ds with
          | nil => cases h
          | cons d ds => rw [List.length_cons, List.length_cons, ih h]
      exact ⟨a, vs, e, by rw [hK]; exact SqT.of (s _ _ q), by rw [rs.length]; exact (hl h).symm, set_many h rs rel k⟩
    | _ => simp [bindT] at h
  | .two a b, d, ρ, ρ1, v, σ, π, P, h, r, rel, k => by
    obtain ⟨x, y, ρ', rfl, h1, h2⟩ := bind_two h
    unfold R at r
    obtain ⟨c, vs, e, q, rs⟩ := r
    obtain ⟨vx, ws, rfl, rx, rt⟩ := rs.cons_inv
    obtain ⟨vy, us, rfl, ry, rn⟩ := rt.cons_inv
    have := rn.nil_inv
    subst this
    refine ⟨c, _, e, by rw [hK]; exact SqT.of (s _ _ q), rfl, vx, [vy], rfl, ?_⟩
    refine bind_ok hK s a h1 rx rel fun σ1 π1 rel1 k1 k2 k3 => ?_
    refine ⟨vy, [], rfl, ?_⟩
    refine bind_ok hK s b h2 ry rel1 fun σ2 π2 rel2 l1 l2 l3 => ?_
    refine ⟨rfl, k σ2 π2 rel2 (fun i m => ?_) (l2.trans k2) fun i p e => k3 i p (l3 i p e)⟩
    rw [l1 i fun z => m (List.mem_append_right _ z), k1 i fun z => m (List.mem_append_left _ z)]
/-- .. from what a turn gives -/
theorem gives_ok {tg : Tg} {d : D} {ρ1 : List Sl} {x : V} {H' : Hp} {K : PySem.W.Frag} {P : St → Hp → Prop} (hK : K = L.K) (st : Stt L μ S G H) (h : bindT tg d ρ = some ρ1) (g : Gives L μ G H d x H') (rel : Rel L μ G H σ ρ π)
    (k : ∀ G' σ1 π1, Ext μ G H μ G' H' → Stt L μ S G' H' → Rel L μ G' H' σ1 ρ1 π1 → (∀ i, i ∉ tgSlots tg → σ1[i]? = σ[i]?) → σ1.length = σ.length → (∀ i p, π1 i = some p → π i = some p) → P σ1 H') : gOf K tg x σ H' P := by
  rcases g with ⟨e, r⟩ | ⟨T, ws, es, rfl, hT, rfl, rfl, rs⟩ | ⟨T1, T2, ws, es, n, rfl, ne, h1, h2, rfl, rfl, rs⟩
  · subst e
    exact bind_ok hK st.sub tg h r rel fun σ1 π1 => k G σ1 π1 (.refl _ _ _) st
  · obtain ⟨e2, st2⟩ := st.put (o := .tup ws) hT
    exact bind_ok hK st2.sub tg h (rs.tup_new (st.fresh hT).1) (rel.ext e2) fun σ1 π1 => k _ σ1 π1 e2 st2
  · obtain ⟨e2, st2⟩ := st.put (o := .tup ws) h1
    have r1 := rs.tup_new (st.fresh h1).1
    obtain ⟨e3, st3⟩ := st2.put (o := .tup [.int n, .ref T1]) (p := T2) (by rw [upd_ne ne.symm]; exact h2)
    have rs2 : Rs L μ (upd G T1 (.tup ws)) [.int n, .tup es] [.int n, .ref T1] := Rs.cons (by unfold R; rfl) (Rs.cons r1 Rs.nil)
    exact bind_ok hK st3.sub tg h (rs2.tup_new (st2.fresh (by rw [upd_ne ne.symm]; exact h2)).1) ((rel.ext e2).ext e3) fun σ1 π1 => k _ σ1 π1 (e2.trans e3) st3

/-- the slots of the block's own names -/
theorem wipe_same {σ σ1 : St} {vs : List Nat} (h : ∀ i, i ∉ vs → σ1[i]? = (wipe σ vs)[i]?) (hl : σ1.length = (wipe σ vs).length) : wipe σ1 vs = wipe σ vs := by
  apply List.ext_getElem?
  intro i
  by_cases m : i ∈ vs
  · have f : ∀ (τ : St), (wipe τ vs)[i]? = if i < τ.length then some none else none := by
      intro τ
      by_cases q : i < τ.length
      · rw [if_pos q]
        cases e : (wipe τ vs)[i]? with
        | none =>
          have := List.getElem?_eq_none_iff.mp e
          rw [wipe_length] at this
          omega
        | some y =>
          cases y with
          | none => rfl
          | some z => exact absurd m (wipe_some e).2
      · rw [if_neg q]
        exact List.getElem?_eq_none (by rw [wipe_length]; omega)
    rw [f, f, hl, wipe_length]
  · rw [L2.wipe_out m, h i m]

theorem Stt.upd (st : Stt L μ S G H) {p : Addr} {o : HO} (g : G p = none) (m : p ∉ μ) (nt : ∀ vs, o ≠ .tup vs := by intro vs z; cases z) : Stt L μ S G (upd H p o) := by
  refine ⟨fun a u e => ?_, fun a vs e => ?_, st.len, st.nd, fun i a d e1 e2 => ?_⟩
  · rw [upd_ne (ne_of_none e g)]; exact st.sub a u e
  · by_cases z : a = p
    · subst z; rw [upd_same] at e; exact absurd (Option.some.inj e) (nt vs)
    · rw [upd_ne z] at e; exact st.tk a vs e
  · obtain ⟨n, t⟩ := st.cell i a d e1 e2
    have ne : a ≠ p := fun z => m (z ▸ List.mem_of_getElem? e1)
    exact ⟨n, t.sub (.refl _) (by rw [upd_ne ne])⟩
theorem Ext.upd {μ0 : List Addr} {G0 H0 : Hp} (e : Ext μ0 G0 H0 μ G H) {p : Addr} {o : HO} (h0 : H0 p = none) : Ext μ0 G0 H0 μ G (upd H p o) :=
  ⟨e.c, e.g, fun a u q m => by rw [upd_ne (ne_of_none q h0)]; exact e.h a u q m, e.n, fun a q => by
    have ne : a ≠ p := fun z => q (z ▸ h0)
    rw [upd_ne ne]; exact e.m a q⟩
/-- the invariant of a comprehension's loop -/
def LcI (L : Lk) (tg : Tg) (c : Ef Bool) (e : Ef D) (ρ : List Sl) (ds : List D) (μ1 : List Addr) (G1 H1 : Hp) (Dl : Addr) (fin : List D) (Sf : List D) (i m : Nat) (H : Hp) : Prop :=
  m = ds.length - i ∧ i ≤ ds.length ∧ ∃ μ G S acc vs ys, Ext μ1 G1 H1 μ G H ∧ Stt L μ S G H ∧ H Dl = some (.lst vs) ∧ Rs L μ G acc vs ∧ G Dl = none ∧ Dl ∉ μ ∧ lcLoop tg c e ρ (ds.drop i) S = .ok ys Sf ∧ acc ++ ys = fin
theorem drop_get {α : Type} {l : List α} {i : Nat} {x : α} (h : l[i]? = some x) : l.drop i = x :: l.drop (i + 1) := by
  obtain ⟨hi, e⟩ := List.getElem?_eq_some_iff.mp h
  rw [List.drop_eq_getElem_cons hi, e]
theorem to_lc {tg : Tg} {vs : List Nat} {it : Ef (List D)} {c : Ef Bool} {e : Ef D} {K : PySem.W.Frag} (hK : K = L.K) (hv : ∀ i ∈ tgSlots tg, i ∈ vs) (h : tF L W (fLc tg vs it c e) σ H Q) :
    tLc (tI L W it) (gOf K tg) (tT L WF c) (tO L WF e) vs σ H Q := by
  obtain ⟨μ, S, G, ρ, π, st, rel, p⟩ := h
  refine ⟨μ, S, G, ρ, π, st, rel, (Post.split p).imp fun ds S1 μ1 G1 H1 e1 st1 p1 J y Dl hD => ?_⟩
  cases hl : lcLoop tg c e (wipeR ρ vs) ds S1 with
  | bad => rw [hl] at p1; exact p1.elim
  | exc _ _ _ => rw [hl] at p1; exact p1.elim
  | ok fin Sf =>
    rw [hl] at p1
    have hz : fin.length ≤ LIM := by
      by_cases z : fin.length ≤ LIM
      · exact z
      · exact (show False by dsimp only at p1; rw [if_neg z] at p1; exact p1).elim
    dsimp only at p1
    rw [if_pos hz] at p1
    have rel1 := (rel.ext e1).wipe vs
    obtain ⟨g1, m1⟩ := st1.fresh hD
    obtain ⟨eD, stD⟩ := st1.lay (o := .lst []) hD
    refine ⟨LcI L tg c e (wipeR ρ vs) ds μ1 G1 H1 Dl fin Sf, ⟨_, rfl, Nat.zero_le _, μ1, G1, S1, [], [], fin, eD, stD, upd_same, Rs.nil, g1, m1, hl, rfl⟩, ?_⟩
    rintro i m H2 ⟨rfl, hi, μ2, G2, S2, acc, ws, ys, e2, st2, hL, ra, g2, m2, hrest, hfin⟩
    obtain ⟨y1, y2, y3⟩ := y i μ2 G2 H2 e2 st2.sub
    by_cases hlt : i < ds.length
    · refine .inr ⟨y1 hlt, fun H' => ∃ m', m' < ds.length - i ∧ LcI L tg c e (wipeR ρ vs) ds μ1 G1 H1 Dl fin Sf (i + 1) m' H', fun H' q => q, fun x H3 gx => ?_⟩
      obtain ⟨d, ed, gv⟩ := y3 x H3 hlt gx
      rw [drop_get ed] at hrest
      unfold lcLoop at hrest
      cases hb : bindT tg d (wipeR ρ vs) with
      | none => rw [hb] at hrest; cases hrest
      | some ρ1 =>
        rw [hb] at hrest
        dsimp only at hrest
        refine gives_ok (S := S2) hK st2 hb gv (rel1.ext e2) fun G3 σ1 π1 e3 st3 rel3 k1 k2 k3 => ⟨wipe_same (fun j hj => k1 j fun z => hj (hv j z)) k2, ?_⟩
        have hL3 : H3 Dl = some (.lst ws) := e3.h _ _ hL m2
        have g3 : G3 Dl = none := e3.n _ (by rw [hL]; exact fun z => nomatch z) g2
        cases hc : c ρ1 S2 with
        | bad => rw [hc] at hrest; cases hrest
        | exc _ _ _ => rw [hc] at hrest; cases hrest
        | ok b S3 =>
          rw [hc] at hrest
          refine ⟨μ2, S2, G3, ρ1, π1, st3, rel3, ?_⟩
          rw [hc]
          intro μ4 G4 H4 e4 st4
          have hL4 : H4 Dl = some (.lst ws) := e4.h _ _ hL3 m2
          have g4 : G4 Dl = none := e4.n _ (by rw [hL3]; exact fun z => nomatch z) g3
          have m4 : Dl ∉ μ4 := e4.out hL3 m2
          cases b with
          | false =>
            dsimp only at hrest
            show ∃ m', m' < ds.length - i ∧ LcI L tg c e (wipeR ρ vs) ds μ1 G1 H1 Dl fin Sf (i + 1) m' H4
            exact ⟨ds.length - (i + 1), by omega, rfl, hlt, μ4, G4, S3, acc, ws, ys, (e2.trans e3).trans e4, st4, hL4, (ra.ext e3).ext e4, g4, m4, hrest, hfin⟩
          | true =>
            dsimp only at hrest
            cases he : e ρ1 S3 with
            | bad => rw [he] at hrest; cases hrest
            | exc _ _ _ => rw [he] at hrest; cases hrest
            | ok y S4 =>
              rw [he] at hrest
              dsimp only at hrest
              cases hr : lcLoop tg c e (wipeR ρ vs) (ds.drop (i + 1)) S4 with
              | bad => rw [hr] at hrest; cases hrest
              | exc _ _ _ => rw [hr] at hrest; cases hrest
              | ok zs S5 =>
                rw [hr] at hrest
                cases hrest
                show tO L WF e σ1 H4 _
                refine ⟨μ4, S3, G4, ρ1, π1, st4, rel3.ext e4, ?_⟩
                rw [he]
                intro μ5 G5 H5 e5 st5 v rv
                have hL5 : H5 Dl = some (.lst ws) := e5.h _ _ hL4 m4
                have g5 : G5 Dl = none := e5.n _ (by rw [hL4]; exact fun z => nomatch z) g4
                have m5 : Dl ∉ μ5 := e5.out hL4 m4
                have ra5 := ((ra.ext e3).ext e4).ext e5
                have hlen : ws.length < sizeLine := by
                  rw [ra.length, lim_eq]
                  have := congrArg List.length hfin
                  rw [List.length_append, List.length_cons] at this
                  omega
                refine ⟨ws, hL5, hlen, ds.length - (i + 1), by omega, rfl, hlt, μ5, G5, S4, acc ++ [y], ws ++ [v], zs, (((e2.trans e3).trans e4).trans e5).upd hD, st5.upd g5 m5, upd_same, ra5.append (Rs.cons rv Rs.nil), g5, m5, hr, by rw [List.append_assoc]; exact hfin⟩
    · refine .inl ⟨y2 (by omega), ?_⟩
      have e0 : ds.drop i = [] := List.drop_eq_nil_iff.mpr (by omega)
      rw [e0] at hrest
      unfold lcLoop at hrest
      cases hrest
      rw [List.append_nil] at hfin
      subst hfin
      refine p1 _ _ _ e2 st2 Dl ⟨ws, hL, ra⟩ g2 ?_ m2
      cases q : H Dl with
      | none => rfl
      | some o => exact absurd hD (e1.m Dl (by rw [q]; exact fun z => nomatch z))
end
end PyD

/-! PyD: sources of loops and comprehensions. -/
namespace PyD
open PySem L2
section
variable {L : Lk} {X : Cx} {k : Nat}
variable {pins : List (Addr × Obj)} {s : Shared} {σ : St} {H : Hp} {E : XK} {μ : List Addr} {S : List D} {G : Hp} {Q : VK} {W : WX} {ρ : List Sl} {π : Nat → Option Addr}
/-- the items of a list or tuple -/
def fItems (fa : Ef D) : Ef (List D) := fun ρ S => (fa ρ S).bind fun x S1 => match items S1 x with
  | some xs => .ok xs S1
  | none => .bad
def iSeq (K : PySem.W.Frag) (tl : TE) : TI := fun σ H R => tl σ H fun x H1 => (∃ a xs, x = .ref a ∧ SqL K H1 a xs ∧ R (Itl K a) H1) ∨ (∃ a xs, x = .ref a ∧ SqT K H1 a xs ∧ R (Itt K a) H1)
theorem pi_seq {tg l : Expr} {tl : TE} (hl : PE X l tl) : PI X tg l (iSeq X.K tl) := by
  refine ⟨fun pins s σ H R I h => ?_⟩
  refine thn (hl.run pins s σ H _ I h) fun v s1 ⟨x, H1, I1, r1, q1⟩ => ?_
  rcases q1 with ⟨a, xs, e, hq, q⟩ | ⟨a, xs, e, hq, q⟩
  · subst e
    cases r1
    obtain ⟨its, rv, p, hz⟩ := I1.list hq
    refine wpAny_pyIter_list p.isList ?_
    refine ⟨s1.heap.objs.size, [s1.heap.objs.size], _, _, H1, rfl, I1.kept (t' := s1.toks) fun b o e => Heap.get?_push_of_some _ e, turn_list a _, ⟨_, Heap.get?_push_size _ rfl, rfl, rfl⟩, fun b hb => ?_, q⟩
    have e : b = s1.heap.objs.size := by simpa using hb
    subst e
    exact I1.fpOk (Nat.le_refl _) (I1.hok.fresh (Nat.le_refl _))
  · subst e
    cases r1
    obtain ⟨its, rv, p, hz⟩ := I1.tuple hq
    refine wpAny_pyIter_tuple (show s1.heap.IsTuple a its.toArray from p) ?_
    refine ⟨s1.heap.objs.size, [s1.heap.objs.size], _, _, H1, rfl, I1.kept (t' := s1.toks) fun b o e => Heap.get?_push_of_some _ e, turn_tuple a _, ⟨_, Heap.get?_push_size _ rfl, rfl, rfl⟩, fun b hb => ?_, q⟩
    have e : b = s1.heap.objs.size := by simpa using hb
    subst e
    exact I1.fpOk (Nat.le_refl _) (I1.hok.fresh (Nat.le_refl _))
theorem yldG_l {a : Addr} {xs : List V} {ds : List D} (hK : X.K = L.K) (h : SqL L.K G a xs) (r : Rs L μ G ds xs) : YldG L (Itl X.K a) μ G ds := fun i μ' G' H' hm s1 s2 => by
  have h1 : SqL X.K H' a xs := by rw [hK]; exact sqlSub (s1.trans s2) h
  refine ⟨fun hi => ?_, fun hi => ⟨xs, h1, by rw [r.length]; exact hi⟩, fun x H2 _ ⟨e, y⟩ => ?_⟩
  · have hi' : i < xs.length := by rw [r.length]; exact hi
    exact ⟨xs, xs[i], h1, List.getElem?_eq_getElem hi'⟩
  · have hx := y xs h1
    have hi : i < ds.length := by rw [← r.length]; exact (List.getElem?_eq_some_iff.mp hx).1
    obtain ⟨v, e1, e2⟩ := r.get (List.getElem?_eq_getElem hi)
    rw [hx] at e1
    cases e1
    exact ⟨_, List.getElem?_eq_getElem hi, .inl ⟨e, R.mono hm s1 _ _ e2⟩⟩
theorem yldG_t {a : Addr} {xs : List V} {ds : List D} (hK : X.K = L.K) (h : SqT L.K G a xs) (r : Rs L μ G ds xs) : YldG L (Itt X.K a) μ G ds := fun i μ' G' H' hm s1 s2 => by
  have h1 : SqT X.K H' a xs := by rw [hK]; exact sqtSub (s1.trans s2) h
  refine ⟨fun hi => ?_, fun hi => ⟨xs, h1, by rw [r.length]; exact hi⟩, fun x H2 _ ⟨e, y⟩ => ?_⟩
  · have hi' : i < xs.length := by rw [r.length]; exact hi
    exact ⟨xs, xs[i], h1, List.getElem?_eq_getElem hi'⟩
  · have hx := y xs h1
    have hi : i < ds.length := by rw [← r.length]; exact (List.getElem?_eq_some_iff.mp hx).1
    obtain ⟨v, e1, e2⟩ := r.get (List.getElem?_eq_getElem hi)
    rw [hx] at e1
    cases e1
    exact ⟨_, List.getElem?_eq_getElem hi, .inl ⟨e, R.mono hm s1 _ _ e2⟩⟩
/-- a list that no one else holds (or a cell): in a comprehension nothing changes it -/
theorem yld_top {a : Addr} {xs : List V} {ds : List D} (hK : X.K = L.K) (h : H a = some (.lst xs)) (m : a ∉ μ) (r : Rs L μ G ds xs) : Yld L (Itl X.K a) μ G H ds := fun i μ' G' H' e s2 => by
  have h1 : SqL X.K H' a xs := .inl (.inl (e.h _ _ h m))
  refine ⟨fun hi => ?_, fun hi => ⟨xs, h1, by rw [r.length]; exact hi⟩, fun x H2 _ ⟨e', y⟩ => ?_⟩
  · have hi' : i < xs.length := by rw [r.length]; exact hi
    exact ⟨xs, xs[i], h1, List.getElem?_eq_getElem hi'⟩
  · have hx := y xs h1
    have hi : i < ds.length := by rw [← r.length]; exact (List.getElem?_eq_some_iff.mp hx).1
    obtain ⟨v, e1, e2⟩ := r.get (List.getElem?_eq_getElem hi)
    rw [hx] at e1
    cases e1
    exact ⟨_, List.getElem?_eq_getElem hi, .inl ⟨e', e2.ext e⟩⟩
theorem ti_seqG {tg l : Expr} {fa : Ef D} (hK : X.K = L.K) (hl : PE X l (tO L W fa)) (hn : True) : PI X tg l (tIG L W (fun ρ S => (fa ρ S).bind fun x S1 => match x with | .lst xs => .ok xs S1 | .tup xs => .ok xs S1 | _ => .bad)) := (pi_seq hl).to fun σ H Rk h => by
  obtain ⟨μ, S, G, ρ, π, st, rel, p⟩ := h
  refine ⟨μ, S, G, ρ, π, st, rel, p.split.imp fun x S1 μ1 G1 H1 e1 st1 p1 v rv => ?_⟩
  cases x with
  | lst xs =>
    unfold R at rv
    obtain ⟨a, vs, e, q, r⟩ := rv
    exact .inl ⟨a, vs, e, by rw [hK]; exact sqlSub st1.sub q, p1 μ1 G1 H1 (.refl _ _ _) st1 _ (yldG_l hK q r)⟩
  | tup xs =>
    unfold R at rv
    obtain ⟨a, vs, e, q, r⟩ := rv
    exact .inr ⟨a, vs, e, by rw [hK]; exact SqT.of (st1.sub _ _ q), p1 μ1 G1 H1 (.refl _ _ _) st1 _ (yldG_t hK (SqT.of q) r)⟩
  | _ => exact p1.elim
/-- the items of what is known: in a loop -/
def fItemsG (fa : Ef D) : Ef (List D) := fun ρ S => (fa ρ S).bind fun x S1 => match x with
  | .lst xs => .ok xs S1
  | .tup xs => .ok xs S1
  | _ => .bad
theorem to_itemsG {tg l : Expr} {fa : Ef D} (hK : X.K = L.K) (hl : PE X l (tO L W fa)) : PI X tg l (tIG L W (fItemsG fa)) := ti_seqG hK hl trivial
/-- in a comprehension: a thing that no one else holds, too -/
theorem to_items {tg l : Expr} {fa : Ef D} (hK : X.K = L.K) (hl : PE X l (tB L W fa)) : PI X tg l (tI L W (fItemsG fa)) := (pi_seq hl).to fun σ H Rk h => by
  obtain ⟨μ, S, G, ρ, π, st, rel, p⟩ := h
  refine ⟨μ, S, G, ρ, π, st, rel, p.split.imp fun x S1 μ1 G1 H1 e1 st1 p1 v rv => ?_⟩
  rcases rv with rv | ⟨a, e, t, n, m⟩
  · cases x with
    | lst xs =>
      unfold R at rv
      obtain ⟨a, vs, e, q, r⟩ := rv
      exact .inl ⟨a, vs, e, by rw [hK]; exact sqlSub st1.sub q, p1 μ1 G1 H1 (.refl _ _ _) st1 _ (yldG_l hK q r).yld⟩
    | tup xs =>
      unfold R at rv
      obtain ⟨a, vs, e, q, r⟩ := rv
      exact .inr ⟨a, vs, e, by rw [hK]; exact SqT.of (st1.sub _ _ q), p1 μ1 G1 H1 (.refl _ _ _) st1 _ (yldG_t hK (SqT.of q) r).yld⟩
    | _ => exact p1.elim
  · cases x with
    | lst xs =>
      obtain ⟨vs, h, r⟩ := t
      exact .inl ⟨a, vs, e, .inl (.inl h), p1 μ1 G1 H1 (.refl _ _ _) st1 _ (yld_top hK h m r)⟩
    | ins c xs => exact p1.elim
    | dct ks xs => exact p1.elim
    | dcT ks xs => exact p1.elim
    | _ => exact t.elim

/-! ### range, enumerate, zip -/
def ints0 (lo : Int) : Nat → List D
  | 0 => []
  | n + 1 => .int lo :: ints0 (lo + 1) n
theorem ints0_len (n : Nat) : ∀ lo : Int, (ints0 lo n).length = n := by
  induction n with
  | zero => intro lo; rfl
  | succ n ih => intro lo; unfold ints0; rw [List.length_cons, ih]
theorem ints0_get (n : Nat) : ∀ (lo : Int) (i : Nat), i < n → (ints0 lo n)[i]? = some (.int (lo + i)) := by
  induction n with
  | zero => intro lo i h; omega
  | succ n ih =>
    intro lo i h
    unfold ints0
    cases i with
    | zero => simp
    | succ i =>
      rw [List.getElem?_cons_succ, ih (lo + 1) i (by omega)]
      congr 2
      omega
def big62 (i : Int) : Bool := decide (-(2 ^ 62) ≤ i) && decide (i < 2 ^ 62)
def fRng1 (fa : Ef D) : Ef (List D) := fun ρ S => (fa ρ S).bind fun x S1 => match x with
  | .int n => if big62 n then .ok (ints0 0 n.toNat) S1 else .bad
  | _ => .bad
def fRng2 (fa fb : Ef D) : Ef (List D) := fun ρ S => (fa ρ S).bind fun x S1 => (fb ρ S1).bind fun y S2 => match x, y with
  | .int i, .int j => if big62 i && big62 j then .ok (ints0 i (j - i).toNat) S2 else .bad
  | _, _ => .bad
theorem big62_ok {i : Int} (h : big62 i = true) : -(2 ^ 62) ≤ i ∧ i < 2 ^ 62 := by
  unfold big62 at h
  simp only [Bool.and_eq_true, decide_eq_true_eq] at h
  exact h
theorem yld_r (lo : Int) (n : Nat) (μ1 : List Addr) (G1 : Hp) : YldG L (Itr lo n) μ1 G1 (ints0 lo n) := fun i μ G H _ _ _ => by
  refine ⟨fun h => by rw [ints0_len] at h; exact h, fun h => by rw [ints0_len] at h; exact h, fun x H' h ⟨e, y⟩ => ?_⟩
  rw [ints0_len] at h
  exact ⟨_, ints0_get n lo i h, .inl ⟨e, by unfold R; exact y⟩⟩
theorem to_rng1 {tg a : Expr} {p pos : Pos} {fa : Ef D} (hg : Gl X "range") (hm : X.mg "range" = none) (ha : PE X a (tO L W fa)) (hp : plainArgs [a] = true) : PI X tg (.Call (.Name "range" p) [a] [] pos) (tIG L W (fRng1 fa)) :=
  (pi_range1 hg hm (pa_cons ha pa_nil (star_cons hp)) (star_cons hp)).to fun σ H Rk h => by
    obtain ⟨μ, S, G, ρ, π, st, rel, q⟩ := h
    refine ⟨μ, S, G, ρ, π, st, rel, q.split.imp fun x S1 μ1 G1 H1 e1 st1 p1 v rv => ?_⟩
    cases x with
    | int n =>
      unfold R at rv
      by_cases hb : big62 n = true
      · dsimp only at p1
        rw [if_pos hb] at p1
        exact ⟨n, by rw [rv], (big62_ok hb).1, (big62_ok hb).2, p1 μ1 G1 H1 (.refl _ _ _) st1 _ (yld_r 0 n.toNat _ _)⟩
      · dsimp only at p1
        rw [if_neg hb] at p1
        exact p1.elim
    | _ => exact p1.elim
theorem to_rng2 {tg a b : Expr} {p pos : Pos} {fa fb : Ef D} (hg : Gl X "range") (hm : X.mg "range" = none) (ha : PE X a (tO L W fa)) (hb : PE X b (tO L W fb)) (hp : plainArgs [a, b] = true) : PI X tg (.Call (.Name "range" p) [a, b] [] pos) (tIG L W (fRng2 fa fb)) :=
  (pi_range2 hg hm (pa_cons ha (pa_cons hb pa_nil (star_cons (plain_tail hp))) (star_cons hp)) (by rw [star_cons hp, star_cons (plain_tail hp)]; rfl) (star_cons (plain_tail hp))).to fun σ H Rk h => by
    obtain ⟨μ, S, G, ρ, π, st, rel, q⟩ := h
    refine ⟨μ, S, G, ρ, π, st, rel, q.split.imp fun x S1 μ1 G1 H1 e1 st1 p1 v rv => ?_⟩
    refine ⟨μ1, S1, G1, ρ, π, st1, rel.ext e1, p1.split.imp fun y S2 μ2 G2 H2 e2 st2 p2 u ru => ?_⟩
    cases x with
    | int i =>
      cases y with
      | int j =>
        unfold R at rv ru
        by_cases hb : (big62 i && big62 j) = true
        · dsimp only at p2
          rw [if_pos hb] at p2
          obtain ⟨b1, b2⟩ := Bool.and_eq_true_iff.mp hb
          exact ⟨i, j, by rw [rv, ru], ⟨(big62_ok b1).1, (big62_ok b1).2, (big62_ok b2).1, (big62_ok b2).2⟩, p2 μ2 G2 H2 (.refl _ _ _) st2 _ (yld_r i (j - i).toNat _ _)⟩
        · dsimp only at p2
          rw [if_neg hb] at p2
          exact p2.elim
      | _ => exact p2.elim
    | _ => exact p2.elim
/-- (i, x) for each -/
def pairs0 : Nat → List D → List D
  | _, [] => []
  | i, x :: xs => .tup [.int i, x] :: pairs0 (i + 1) xs
theorem pairs0_len : ∀ (xs : List D) (i : Nat), (pairs0 i xs).length = xs.length
  | [], _ => rfl
  | x :: xs, i => by unfold pairs0; rw [List.length_cons, List.length_cons, pairs0_len]
theorem pairs0_get : ∀ (xs : List D) (k i : Nat) (d : D), xs[i]? = some d → (pairs0 k xs)[i]? = some (.tup [.int ((k + i : Nat) : Int), d])
  | [], _, _, _, h => by simp at h
  | x :: xs, k, 0, d, h => by
    simp at h
    subst h
    unfold pairs0
    simp
  | x :: xs, k, i + 1, d, h => by
    unfold pairs0
    rw [List.getElem?_cons_succ, pairs0_get xs (k + 1) i d (by simpa using h)]
    have : k + 1 + i = k + (i + 1) := by omega
    rw [this]
def fEnum (fa : Ef D) : Ef (List D) := fun ρ S => (fa ρ S).bind fun x S1 => match x with
  | .lst xs => .ok (pairs0 0 xs) S1
  | _ => .bad
theorem to_enum {a : Expr} {elts : List Expr} {kk : Nat} {p pos tpos : Pos} {fa : Ef D} (hK : X.K = L.K) (hg : Gl X "enumerate") (hm : X.mg "enumerate" = none) (ha : PE X a (tO L W fa)) (hp : plainArgs [a] = true) :
    PI X (.Tuple elts kk tpos) (.Call (.Name "enumerate" p) [a] [] pos) (tIG L W (fEnum fa)) :=
  (pi_enum hg hm (pa_cons ha pa_nil (star_cons hp)) (star_cons hp)).to fun σ H Rk h => by
    obtain ⟨μ, S, G, ρ, π, st, rel, q⟩ := h
    refine ⟨μ, S, G, ρ, π, st, rel, q.split.imp fun x S1 μ1 G1 H1 e1 st1 p1 v rv => ?_⟩
    cases x with
    | lst xs =>
      unfold R at rv
      obtain ⟨b, vs, e, hq, r⟩ := rv
      refine ⟨b, vs, by rw [e], by rw [hK]; exact sqlSub st1.sub hq, p1 μ1 G1 H1 (.refl _ _ _) st1 _ fun i μ' G' H' hm s1 s2 => ?_⟩
      have h1 : SqL X.K H' b vs := by rw [hK]; exact sqlSub (s1.trans s2) hq
      refine ⟨fun hi => ?_, fun hi => ⟨vs, h1, by rw [r.length]; rw [pairs0_len] at hi; exact hi⟩, fun x H2 hi ⟨T, y, e1, hT, e2, hy⟩ => ?_⟩
      · have hi' : i < vs.length := by rw [r.length]; rw [pairs0_len] at hi; exact hi
        exact ⟨vs, vs[i], h1, List.getElem?_eq_getElem hi'⟩
      · rw [pairs0_len] at hi
        obtain ⟨z, ez, rz⟩ := r.get (List.getElem?_eq_getElem hi)
        have := hy vs h1
        rw [ez] at this
        cases this
        refine ⟨_, pairs0_get xs 0 i _ (List.getElem?_eq_getElem hi), .inr (.inl ⟨T, _, _, e1, hT, e2, rfl, ?_⟩)⟩
        refine Rs.cons (by unfold R; simp) (Rs.cons (R.mono hm s1 _ _ rz) Rs.nil)
    | _ => exact p1.elim
end
end PyD

/-! PyD: tests, and, or, not, if-else. -/
namespace PyD
open PySem L2
section
variable {L : Lk} {X : Cx} {k : Nat}
variable {pins : List (Addr × Obj)} {s : Shared} {σ : St} {H : Hp} {E : XK} {μ : List Addr} {S : List D} {G : Hp} {Q : VK} {W : WX} {ρ : List Sl} {π : Nat → Option Addr}
/-- a value's truth; tm tells each class's __bool__ -/
def truD (tm : Nat → Option Cl) (x : D) (S : List D) : Out Bool := match dr S x with
  | .non => .ok false S
  | .bl b => .ok b S
  | .int i => .ok (i != 0) S
  | .str x => if x.length ≤ LIM then .ok ((x.length : Int) != 0) S else .bad
  | .lst xs => .ok (!xs.isEmpty) S
  | .tup xs => .ok (!xs.isEmpty) S
  | .ins c _ => match tm c with
    | some cl => (cl [x] S).bind fun d S1 => match d with
      | .bl b => .ok b S1
      | _ => .bad
    | none => .bad
  | _ => .bad
def fTru (tm : Nat → Option Cl) (fa : Ef D) : Ef Bool := fun ρ S => (fa ρ S).bind fun x S1 => truD tm x S1
/-- what the text's classes must have for truth -/
structure TmOk (L : Lk) (X : Cx) (k : Nat) (tm : Nat → Option Cl) : Prop where
  look : ∀ c cl, tm c = some cl → ∃ f fd ps, PySem.W.findIn X.K (.ref (L.cA c)) "__bool__" = some (some (.ref f)) ∧ PySem.W.isFn X.K (.ref f) = true ∧ FnOk X.prog X.w X.K X.mg X.base (CX X.prog X.w) k f fd ps (spD L 1 cl) ∧ Binds X.K fd ps []
def rTru (L : Lk) (W : WX) (tm : Nat → Option Cl) : St → V → Hp → (Bool → Hp → Prop) → Prop := fun σ v H Q => ∃ μ S G x, Stt L μ S G H ∧ R L μ G x v ∧ Post L (fun c d H' => W c d σ H') μ G H (truD tm x S) (fun b _ _ _ H' => Q b H')
theorem empty_rs {ds : List D} {vs : List V} (r : Rs L μ G ds vs) : vs.isEmpty = ds.isEmpty := by
  cases ds with
  | nil => rw [r.nil_inv]; rfl
  | cons d ds => obtain ⟨v, ws, e, _⟩ := r.cons_inv; rw [e]; rfl
theorem tru_run {tm : Nat → Option Cl} {v : V} {u : Value} {Q : Bool → Hp → Prop} (hK : X.K = L.K) (hr : Room k X.A) (tk : Takes X W) (hT : TmOk L X k tm) (I : Inv X pins σ H s) (rv : RelV v u) (h : rTru L W tm σ v H Q) :
    wpAny (model X.prog X.w) X.A (truthy u) (TP X pins σ Q) X.xe s := by
  obtain ⟨μ, S, G, x, st, rx, p⟩ := h
  have vx := RT.vw st (.inl rx)
  have plain : ∀ b, TruV X.K v H b → truD tm x S = .ok b S → wpAny (model X.prog X.w) X.A (truthy u) (TP X pins σ Q) X.xe s := fun b t e => by
    rw [e] at p
    exact tru_ok pins s σ H v u Q I rv ⟨b, t, p μ G H (.refl _ _ _) st⟩
  unfold truD at plain p
  cases e : dr S x with
  | non => rw [e] at plain vx; exact plain false (by rw [vx.nons]; rfl) rfl
  | bl b => rw [e] at plain vx; exact plain b (by rw [vx.bls]; rfl) rfl
  | int i => rw [e] at plain vx; exact plain _ (by rw [vx.ints]; rfl) rfl
  | str y =>
    rw [e] at plain vx p
    by_cases hz : y.length ≤ LIM
    · dsimp only at plain
      rw [if_pos hz] at plain
      exact plain _ (by rw [vx.strs]; exact ⟨by rw [lim_eq]; exact hz, rfl⟩) rfl
    · dsimp only at p
      rw [if_neg hz] at p
      exact p.elim
  | lst xs =>
    rw [e] at plain vx
    obtain ⟨l, vs, rfl, q1, w1⟩ := vx.lsts st.sub
    exact plain _ (.inl ⟨vs, by rw [hK]; exact q1, by rw [empty_rs w1]⟩) rfl
  | tup xs =>
    rw [e] at plain vx
    obtain ⟨l, vs, rfl, q1, w1⟩ := vx.tups st.sub
    exact plain _ (.inr (.inl ⟨vs, by rw [hK]; exact q1, by rw [empty_rs w1]⟩)) rfl
  | ins c fs =>
    rw [e] at vx p
    dsimp only at p
    cases em : tm c with
    | none => rw [em] at p; exact p.elim
    | some cl =>
      rw [em] at p
      obtain ⟨f, fd, ps, c1, c2, c3, c4⟩ := hT.look c cl em
      obtain ⟨a, dx, vs, rfl, ha, hl, rs⟩ := vx.inss st.sub
      cases rv
      obtain ⟨mA, O, _⟩ := ins_get I.hok ha
      obtain ⟨od, J, _⟩ := O.look
      obtain ⟨m, hF⟩ := I.fr
      refine PySem.W.truthy_K hF I.ok.mod.kin J c1 c2 ?_
      refine thn (run_fnW (Q := fun w H' => ∃ b, w = .bl b ∧ Q b H') (us := [.ref a]) (vs := [.ref a]) c3 hr c4 .nil tk I (.cons rfl .nil) ?_) fun r s' ⟨w, H', I', rw', b, ew, q⟩ => ?_
      · refine ⟨μ, S, G, [x], st, Rs.cons rx Rs.nil, rfl, (Post.split p).imp fun d S1 μ1 G1 H1 e1 st1 p1 w rw' => ?_⟩
        cases d with
        | bl b => unfold R at rw'; exact ⟨b, rw', p1 μ1 G1 H1 (.refl _ _ _) st1⟩
        | _ => exact p1.elim
      · subst ew
        cases rw'
        exact ⟨H', I', q⟩
  | _ => rw [e] at p; exact p.elim
/-- an expression whose test is its value's truth -/
def plainTest : Expr → Bool
  | .UnaryOp .Not _ _ => false
  | .BoolOp _ _ _ => false
  | .IfExp _ _ _ _ => false
  | .Compare _ _ _ _ => false
  | _ => true
theorem test_of {a : Expr} {env : Env} {whole : Sem Value} (h : plainTest a = true) : isTrue a env whole = (do let v ← whole; standAt a.pos; holding [v] (truthy v)) := by
  cases a with
  | UnaryOp op _ _ => cases op <;> first | rfl | exact nomatch h
  | BoolOp _ _ _ => exact nomatch h
  | IfExp _ _ _ _ => exact nomatch h
  | Compare _ _ _ _ => exact nomatch h
  | _ => rfl
theorem to_tru {a : Expr} {tm : Nat → Option Cl} {fa : Ef D} (hK : X.K = L.K) (hr : Room k X.A) (tk : Takes X W) (hT : TmOk L X k tm) (h : plainTest a = true) (ha : PE X a (tO L W fa)) : PT X a (tT L W (fTru tm fa)) := by
  refine ⟨fun pins s σ H Q I hw => ?_⟩
  have hA : tO L W fa σ H fun x H1 => rTru L W tm σ x H1 Q := by
    obtain ⟨μ, S, G, ρ, π, st, rel, p⟩ := hw
    exact ⟨μ, S, G, ρ, π, st, rel, p.split.imp fun x S1 μ1 G1 H1 e1 st1 p1 v rv => ⟨μ1, S1, G1, x, st1, rv, p1⟩⟩
  exact PyProof.Rows.isTrue_plain (thn (ha.run pins s σ H _ I hA) fun v s1 ⟨x, H1, I1, r1, q1⟩ => tru_run hK hr tk hT I1 r1 q1) (test_of h)
/-- a comparison as a test: its value is a bool -/
def fBl (fa : Ef D) : Ef Bool := fun ρ S => (fa ρ S).bind fun x S1 => match x with
  | .bl b => .ok b S1
  | _ => .bad
theorem fbl_tO {fa : Ef D} {Q : Bool → Hp → Prop} (hw : tT L W (fBl fa) σ H Q) : tO L W fa σ H fun x H1 => ∃ b, x = .bl b ∧ Q b H1 := by
  obtain ⟨μ, S, G, ρ, π, st, rel, p⟩ := hw
  refine ⟨μ, S, G, ρ, π, st, rel, (Post.split p).imp fun x S1 μ1 G1 H1 e1 st1 p1 v rv => ?_⟩
  cases x with
  | bl b => unfold R at rv; exact ⟨b, rv, p1 μ1 G1 H1 (.refl _ _ _) st1⟩
  | _ => exact p1.elim
theorem to_cmpT {op : CmpOp} {o : D → D → List D → Out D} {a b : Expr} {pos : Pos} {fa fb : Ef D} (ho : OpR X (compareOp op) (rTwo L o)) (ha : PE X a (tB L W fa)) (hb : PE X b (tB L W fb)) (hm : behindInMarks op b = false) :
    PT X (.Compare a [op] [b] pos) (tT L W (fBl (fTwo o fa fb))) := (pt_cmpR ho ha hb hm).to fun σ H Q h => by
  have := to_two (fbl_tO h)
  exact this
theorem to_cmp {op : CmpOp} {o : D → D → List D → Out D} {a b : Expr} {pos : Pos} {fa fb : Ef D} (ho : OpR X (compareOp op) (rTwo L o)) (ha : PE X a (tB L W fa)) (hb : PE X b (tB L W fb)) (hm : behindInMarks op b = false) :
    PE X (.Compare a [op] [b] pos) (tO L W (fTwo o fa fb)) := (pe_cmpR ho ha hb hm).to fun σ H Q h => to_two h
/-- a op b op' c -/
def fChain (o o' : D → D → List D → Out D) (fa fb fc : Ef D) : Ef D := fun ρ S => (fa ρ S).bind fun x S1 => (fb ρ S1).bind fun y S2 => (o x y S2).bind fun r S3 => match r with
  | .bl true => (fc ρ S3).bind fun z S4 => o' y z S4
  | .bl false => .ok (.bl false) S3
  | _ => .bad
theorem rTwo_split {o : D → D → List D → Out D} {K : D → List D → List Addr → Hp → Hp → Prop} {x y : D} {v u : V} (st : Stt L μ S G H) (r1 : RT L μ G H x v) (r2 : RT L μ G H y u) (p : Post L E μ G H (o x y S) K) {Q : VK} (k : ∀ d S' μ' G' H', Ext μ G H μ' G' H' → Stt L μ' S' G' H' → K d S' μ' G' H' → ∀ w, R L μ' G' d w → Q w H') : rTwo L o v u H Q :=
  ⟨E, μ, S, G, x, y, st, r1, r2, p.imp k⟩
theorem chain_tO {o o' : D → D → List D → Out D} {fa fb fc : Ef D} {Q : VK} (h : tO L W (fChain o o' fa fb fc) σ H Q) : tChain (rTwo L o) (rTwo L o') (tB L W fa) (tB L W fb) (tB L W fc) σ H Q := by
  obtain ⟨μ, S, G, ρ, π, st, rel, p⟩ := h
  refine ⟨μ, S, G, ρ, π, st, rel, (Post.split p).imp fun x S1 μ1 G1 H1 e1 st1 p1 v rv => ?_⟩
  refine ⟨μ1, S1, G1, ρ, π, st1, rel.ext e1, p1.split.imp fun y S2 μ2 G2 H2 e2 st2 p2 u ru => ?_⟩
  refine rTwo_split st2 (rv.ext e2) ru p2.split fun r S3 μ3 G3 H3 e3 st3 p3 w rw' => ?_
  cases r with
  | bl b =>
    unfold R at rw'
    refine ⟨b, rw', ?_⟩
    cases b with
    | true =>
      rw [if_pos rfl]
      refine ⟨μ3, S3, G3, ρ, π, st3, ((rel.ext e1).ext e2).ext e3, Post.imp (Post.split p3) fun z S4 μ4 G4 H4 e4 st4 p4 z' rz => ?_⟩
      exact ⟨_, μ4, S4, G4, y, z, st4, (ru.ext e3).ext e4, rz, p4⟩
    | false =>
      rw [if_neg Bool.false_ne_true]
      exact p3 μ3 G3 H3 (.refl _ _ _) st3 _ (by unfold R; rfl)
  | _ => exact p3.elim
theorem to_chain {op op' : CmpOp} {o o' : D → D → List D → Out D} {a b c : Expr} {pos : Pos} {fa fb fc : Ef D} (ho : OpR X (compareOp op) (rTwo L o)) (ho' : OpR X (compareOp op') (rTwo L o')) (ha : PE X a (tB L W fa)) (hb : PE X b (tB L W fb)) (hc : PE X c (tB L W fc)) (hm : lastMarks [op, op'] [b, c] = false) :
    PE X (.Compare a [op, op'] [b, c] pos) (tO L W (fChain o o' fa fb fc)) := (pe_chain ho ho' ha hb hc hm).to fun σ H Q h => chain_tO h
theorem to_chainT {op op' : CmpOp} {o o' : D → D → List D → Out D} {a b c : Expr} {pos : Pos} {fa fb fc : Ef D} (ho : OpR X (compareOp op) (rTwo L o)) (ho' : OpR X (compareOp op') (rTwo L o')) (ha : PE X a (tB L W fa)) (hb : PE X b (tB L W fb)) (hc : PE X c (tB L W fc)) (hm : lastMarks [op, op'] [b, c] = false) :
    PT X (.Compare a [op, op'] [b, c] pos) (tT L W (fBl (fChain o o' fa fb fc))) := (pt_chain ho ho' ha hb hc hm).to fun σ H Q h => chain_tO (fbl_tO h)
/-! and, or, not as tests -/
def fAndT (f g : Ef Bool) : Ef Bool := fun ρ S => (f ρ S).bind fun b S1 => if b then g ρ S1 else .ok false S1
def fOrT (f g : Ef Bool) : Ef Bool := fun ρ S => (f ρ S).bind fun b S1 => if b then .ok true S1 else g ρ S1
def fNotT (f : Ef Bool) : Ef Bool := fun ρ S => (f ρ S).bind fun b S1 => .ok (!b) S1
theorem to_andT {a b : Expr} {rest : List Expr} {pos : Pos} {f g : Ef Bool} (ha : PT X a (tT L W f)) (hb : PW X (.BoolOp .And (b :: rest) pos) (tT L W g)) : PW X (.BoolOp .And (a :: b :: rest) pos) (tT L W (fAndT f g)) := (pw_and ha hb).to fun σ H Q h => by
  obtain ⟨μ, S, G, ρ, π, st, rel, p⟩ := h
  refine ⟨μ, S, G, ρ, π, st, rel, (Post.split p).imp fun x S1 μ1 G1 H1 e1 st1 p1 => ?_⟩
  cases x with
  | true => rw [if_pos rfl]; exact ⟨μ1, S1, G1, ρ, π, st1, rel.ext e1, p1⟩
  | false => rw [if_neg Bool.false_ne_true]; exact p1 μ1 G1 H1 (.refl _ _ _) st1
theorem to_orT {a b : Expr} {rest : List Expr} {pos : Pos} {f g : Ef Bool} (ha : PT X a (tT L W f)) (hb : PW X (.BoolOp .Or (b :: rest) pos) (tT L W g)) : PW X (.BoolOp .Or (a :: b :: rest) pos) (tT L W (fOrT f g)) := (pw_or ha hb).to fun σ H Q h => by
  obtain ⟨μ, S, G, ρ, π, st, rel, p⟩ := h
  refine ⟨μ, S, G, ρ, π, st, rel, (Post.split p).imp fun x S1 μ1 G1 H1 e1 st1 p1 => ?_⟩
  cases x with
  | true => rw [if_pos rfl]; exact p1 μ1 G1 H1 (.refl _ _ _) st1
  | false => rw [if_neg Bool.false_ne_true]; exact ⟨μ1, S1, G1, ρ, π, st1, rel.ext e1, p1⟩
theorem to_notT {a : Expr} {pos : Pos} {f : Ef Bool} (ha : PT X a (tT L W f)) : PT X (.UnaryOp .Not a pos) (tT L W (fNotT f)) := (pt_not ha).to fun σ H Q h => by
  obtain ⟨μ, S, G, ρ, π, st, rel, p⟩ := h
  exact ⟨μ, S, G, ρ, π, st, rel, (Post.split p).imp fun x S1 μ1 G1 H1 e1 st1 p1 => p1 μ1 G1 H1 (.refl _ _ _) st1⟩
/-! .. as values -/
def fAndV (f g : Ef D) : Ef D := fun ρ S => (f ρ S).bind fun b S1 => match b with
  | .bl true => g ρ S1
  | .bl false => .ok (.bl false) S1
  | _ => .bad
def fOrV (f g : Ef D) : Ef D := fun ρ S => (f ρ S).bind fun b S1 => match b with
  | .bl true => .ok (.bl true) S1
  | .bl false => g ρ S1
  | _ => .bad
theorem to_andV {a b : Expr} {rest : List Expr} {pos : Pos} {f g : Ef D} (ha : PE X a (tO L W f)) (hb : PE X (.BoolOp .And (b :: rest) pos) (tO L W g)) : PE X (.BoolOp .And (a :: b :: rest) pos) (tO L W (fAndV f g)) := (pe_and ha hb).to fun σ H Q h => by
  obtain ⟨μ, S, G, ρ, π, st, rel, p⟩ := h
  refine ⟨μ, S, G, ρ, π, st, rel, (Post.split p).imp fun x S1 μ1 G1 H1 e1 st1 p1 v rv => ?_⟩
  cases x with
  | bl b =>
    unfold R at rv
    refine ⟨b, rv, ?_⟩
    cases b with
    | true => rw [if_pos rfl]; exact ⟨μ1, S1, G1, ρ, π, st1, rel.ext e1, p1⟩
    | false => rw [if_neg Bool.false_ne_true]; exact p1 μ1 G1 H1 (.refl _ _ _) st1 _ (by unfold R; rfl)
  | _ => exact p1.elim
theorem to_orV {a b : Expr} {rest : List Expr} {pos : Pos} {f g : Ef D} (ha : PE X a (tO L W f)) (hb : PE X (.BoolOp .Or (b :: rest) pos) (tO L W g)) : PE X (.BoolOp .Or (a :: b :: rest) pos) (tO L W (fOrV f g)) := (pe_or ha hb).to fun σ H Q h => by
  obtain ⟨μ, S, G, ρ, π, st, rel, p⟩ := h
  refine ⟨μ, S, G, ρ, π, st, rel, (Post.split p).imp fun x S1 μ1 G1 H1 e1 st1 p1 v rv => ?_⟩
  cases x with
  | bl b =>
    unfold R at rv
    refine ⟨b, rv, ?_⟩
    cases b with
    | true => rw [if_pos rfl]; exact p1 μ1 G1 H1 (.refl _ _ _) st1 _ (by unfold R; rfl)
    | false => rw [if_neg Bool.false_ne_true]; exact ⟨μ1, S1, G1, ρ, π, st1, rel.ext e1, p1⟩
  | _ => exact p1.elim
end
end PyD

/-! PyD: statements. -/
namespace PyD
open PySem L2

/-- how a statement ends -/
inductive OutS where
  | nx (ρ : List Sl) (S : List D)
  | rt (d : D) (S : List D)
  | bk (ρ : List Sl) (S : List D)
  | ct (ρ : List Sl) (S : List D)
  | exc (c : Nat) (fs : List D) (ρ : List Sl) (S : List D)
  | bad
abbrev Es := List Sl → List D → OutS

variable (L : Lk)
/-- the state in a body that was entered at μ0, G0, H0: the locals ρ, the cells S -/
def At (μ0 : List Addr) (G0 H0 : Hp) (σ : St) (H : Hp) (ρ : List Sl) (S : List D) : Prop :=
  ∃ μ G π, Ext μ0 G0 H0 μ G H ∧ Stt L μ S G H ∧ Rel L μ G H σ ρ π ∧ ∀ i p, π i = some p → H0 p = none
def AtV (μ0 : List Addr) (G0 H0 : Hp) (H : Hp) (d : D) (v : V) (S : List D) : Prop :=
  ∃ μ G, Ext μ0 G0 H0 μ G H ∧ Stt L μ S G H ∧ R L μ G d v
def PostS (E : Ends) (W : WX) (μ0 : List Addr) (G0 H0 : Hp) (o : OutS) : Prop := match o with
  | .nx ρ S => ∀ σ H, At L μ0 G0 H0 σ H ρ S → E.nx σ H
  | .rt d S => ∀ v H, AtV L μ0 G0 H0 H d v S → E.rt v H
  | .bk ρ S => ∀ σ H, At L μ0 G0 H0 σ H ρ S → E.bk σ H
  | .ct ρ S => ∀ σ H, At L μ0 G0 H0 σ H ρ S → E.ct σ H
  | .exc c fs ρ S => ∀ cls d σ μ G H π, Ext μ0 G0 H0 μ G H → Stt L μ S G H → Rel L μ G H σ ρ π → (∀ i p, π i = some p → H0 p = none) → ExcR L μ G H c fs cls d → W cls d σ H
  | .bad => False
def tS (W : WX) (f : Es) : TS := fun E σ H => ∃ μ0 G0 H0 ρ S, At L μ0 G0 H0 σ H ρ S ∧ PostS L E W μ0 G0 H0 (f ρ S)
variable {L}
section
variable {X : Cx} {k : Nat}
variable {pins : List (Addr × Obj)} {s : Shared} {σ : St} {H : Hp} {μ μ0 : List Addr} {S : List D} {G G0 H0 : Hp} {Q : VK} {W : WX} {ρ : List Sl} {π : Nat → Option Addr} {E : Ends}
def sSeq (f g : Es) : Es := fun ρ S => match f ρ S with
  | .nx ρ1 S1 => g ρ1 S1
  | o => o
def sSkip : Es := fun ρ S => .nx ρ S
theorem to_skip (h : tS L W sSkip E σ H) : tNext E σ H := by
  obtain ⟨μ0, G0, H0, ρ, S, a, p⟩ := h
  exact p σ H a
theorem to_seq {f g : Es} (h : tS L W (sSeq f g) E σ H) : tSeq (tS L W f) (tS L W g) E σ H := by
  obtain ⟨μ0, G0, H0, ρ, S, a, p⟩ := h
  refine ⟨μ0, G0, H0, ρ, S, a, ?_⟩
  unfold sSeq at p
  cases e : f ρ S with
  | nx ρ1 S1 =>
    rw [e] at p
    exact fun σ' H' a' => ⟨μ0, G0, H0, ρ1, S1, a', p⟩
  | rt d S => rw [e] at p; exact p
  | bk ρ S => rw [e] at p; exact p
  | ct ρ S => rw [e] at p; exact p
  | exc c fs ρ S => rw [e] at p; exact p
  | bad => rw [e] at p; exact p
/-- an expression, then what its answer is used for -/
def sE {α : Type} (f : Ef α) (k : α → List Sl → List D → OutS) : Es := fun ρ S => match f ρ S with
  | .ok a S1 => k a ρ S1
  | .exc c fs S1 => .exc c fs ρ S1
  | .bad => .bad
/-- .. what the expression's rule is handed -/
theorem sE_split {α : Type} {f : Ef α} {k : α → List Sl → List D → OutS} (h : tS L W (sE f k) E σ H) :
    ∃ μ0 G0 H0 ρ S μ G π, Ext μ0 G0 H0 μ G H ∧ Stt L μ S G H ∧ Rel L μ G H σ ρ π ∧ (∀ i p, π i = some p → H0 p = none) ∧
      Post L (fun c d H' => W c d σ H') μ G H (f ρ S) (fun a S1 μ1 G1 H1 => Ext μ0 G0 H0 μ1 G1 H1 ∧ PostS L E W μ0 G0 H0 (k a ρ S1)) := by
  obtain ⟨μ0, G0, H0, ρ, S, ⟨μ, G, π, e0, st, rel, fr⟩, p⟩ := h
  refine ⟨μ0, G0, H0, ρ, S, μ, G, π, e0, st, rel, fr, ?_⟩
  unfold sE at p
  cases e : f ρ S with
  | ok a S1 =>
    rw [e] at p
    exact fun μ1 G1 H1 e1 st1 => ⟨e0.trans e1, p⟩
  | exc c fs S1 =>
    rw [e] at p
    exact fun cls d μ1 G1 H1 e1 st1 r => p cls d σ μ1 G1 H1 π (e0.trans e1) st1 (rel.ext e1) fr r
  | bad => rw [e] at p; exact p
def sRet (f : Ef D) : Es := sE f fun d _ S => .rt d S
theorem to_ret {f : Ef D} (h : tS L W (sRet f) E σ H) : tRet (tO L W f) E σ H := by
  obtain ⟨μ0, G0, H0, ρ, S, μ, G, π, e0, st, rel, fr, p⟩ := sE_split h
  exact ⟨μ, S, G, ρ, π, st, rel, p.imp fun d S1 μ1 G1 H1 e1 st1 ⟨e2, q⟩ v rv => q v H1 ⟨μ1, G1, e2, st1, rv⟩⟩
def sRetN : Es := fun _ S => .rt .non S
theorem to_retN (h : tS L W sRetN E σ H) : tRetN E σ H := by
  obtain ⟨μ0, G0, H0, ρ, S, ⟨μ, G, π, e0, st, rel, fr⟩, p⟩ := h
  exact p .non H ⟨μ, G, e0, st, by unfold R; rfl⟩
def sDrop (f : Ef D) : Es := sE f fun _ ρ S => .nx ρ S
theorem to_drop {f : Ef D} (h : tS L W (sDrop f) E σ H) : tDrop (tO L W f) E σ H := by
  obtain ⟨μ0, G0, H0, ρ, S, μ, G, π, e0, st, rel, fr, p⟩ := sE_split h
  exact ⟨μ, S, G, ρ, π, st, rel, p.imp fun d S1 μ1 G1 H1 e1 st1 ⟨e2, q⟩ v rv => q σ H1 ⟨μ1, G1, π, e2, st1, rel.ext e1, fr⟩⟩
def sIf (c : Ef Bool) (f g : Es) : Es := sE c fun b ρ S => if b then f ρ S else g ρ S
theorem to_if {c : Ef Bool} {f g : Es} (h : tS L W (sIf c f g) E σ H) : tIfS (tT L W c) (tS L W f) (tS L W g) E σ H := by
  obtain ⟨μ0, G0, H0, ρ, S, μ, G, π, e0, st, rel, fr, p⟩ := sE_split h
  refine ⟨μ, S, G, ρ, π, st, rel, p.imp fun b S1 μ1 G1 H1 e1 st1 ⟨e2, q⟩ => ?_⟩
  have a1 : At L μ0 G0 H0 σ H1 ρ S1 := ⟨μ1, G1, π, e2, st1, rel.ext e1, fr⟩
  cases b with
  | true =>
    show tS L W f E σ H1
    rw [if_pos rfl] at q
    exact ⟨μ0, G0, H0, ρ, S1, a1, q⟩
  | false =>
    show tS L W g E σ H1
    rw [if_neg Bool.false_ne_true] at q
    exact ⟨μ0, G0, H0, ρ, S1, a1, q⟩
/-- a stored value keeps the frame's things apart -/
theorem fresh_put {i : Nat} (fr : ∀ i p, π i = some p → H0 p = none) : ∀ j p, (if j = i then none else π j) = some p → H0 p = none := fun j p e => by
  split at e
  · cases e
  · exact fr j p e
/-- x = e, a value -/
def sAsg (i : Nat) (f : Ef D) : Es := sE f fun d ρ S => .nx (ρ.set i (.val d)) S
theorem to_asg {i : Nat} {f : Ef D} (h : tS L W (sAsg i f) E σ H) : tAsg (tO L W f) (gName i) E σ H := by
  obtain ⟨μ0, G0, H0, ρ, S, μ, G, π, e0, st, rel, fr, p⟩ := sE_split h
  exact ⟨μ, S, G, ρ, π, st, rel, p.imp fun d S1 μ1 G1 H1 e1 st1 ⟨e2, q⟩ v rv => q _ H1 ⟨μ1, G1, _, e2, st1, (rel.ext e1).put i rv, fresh_put fr⟩⟩
/-- a thing that no one else holds, stored -/
theorem Rel.own1 (r : Rel L μ G H σ ρ π) {d : D} {p : Addr} (i : Nat) (h : Top L μ G H d p) (g : G p = none) (m : p ∉ μ) (ne : ∀ j, π j ≠ some p) : Rel L μ G H (σ.set i (some (.ref p))) (ρ.set i (.own d)) (fun j => if j = i then (if i < ρ.length then some p else none) else π j) := by
  refine ⟨fun j d' e => ?_, fun j d' e => ?_, fun j l q e1 e2 => ?_, fun j q e => ?_, by rw [List.length_set, List.length_set]; exact r.len⟩
  · by_cases z : i = j
    · subst z
      have hi : i < ρ.length := by have := (List.getElem?_eq_some_iff.mp e).1; simpa using this
      rw [List.getElem?_set_self hi] at e
      cases e
    · rw [List.getElem?_set_ne z] at e ⊢
      exact r.val j d' e
  · by_cases z : i = j
    · subst z
      have hi : i < ρ.length := by have := (List.getElem?_eq_some_iff.mp e).1; simpa using this
      rw [List.getElem?_set_self hi] at e
      cases e
      exact ⟨p, by rw [if_pos rfl, if_pos hi], List.getElem?_set_self (by rw [← r.len]; exact hi), h, g, m⟩
    · rw [List.getElem?_set_ne z] at e ⊢
      rw [if_neg (Ne.symm z)]
      exact r.own j d' e
  · by_cases z1 : j = i
    · rw [if_pos z1] at e1
      split at e1
      · cases e1
        by_cases z2 : l = i
        · rw [z1, z2]
        · rw [if_neg z2] at e2
          exact absurd e2 (ne l)
      · cases e1
    · rw [if_neg z1] at e1
      by_cases z2 : l = i
      · rw [if_pos z2] at e2
        split at e2
        · cases e2
          exact absurd e1 (ne j)
        · cases e2
      · rw [if_neg z2] at e2
        exact r.inj j l q e1 e2
  · by_cases z : j = i
    · rw [if_pos z] at e
      split at e
      · rename_i hi
        subst z
        exact ⟨d, List.getElem?_set_self hi⟩
      · cases e
    · rw [if_neg z] at e
      obtain ⟨d', q'⟩ := r.only j q e
      exact ⟨d', by rw [List.getElem?_set_ne (Ne.symm z)]; exact q'⟩
theorem Rel.ne_fresh (r : Rel L μ G H σ ρ π) {p : Addr} (h : H p = none) : ∀ j, π j ≠ some p := fun j e => by
  obtain ⟨d, q⟩ := r.only j p e
  obtain ⟨p', a, _, t, _, _⟩ := r.own j d q
  rw [e] at a
  cases a
  obtain ⟨o, q⟩ := t.some
  rw [q] at h
  cases h
/-- x = e, a new thing that this frame alone holds -/
def sOwn (i : Nat) (f : Ef D) : Es := sE f fun d ρ S => .nx (ρ.set i (.own d)) S
theorem to_own {i : Nat} {f : Ef D} (h : tS L W (sOwn i f) E σ H) : tAsg (tF L W f) (gName i) E σ H := by
  obtain ⟨μ0, G0, H0, ρ, S, μ, G, π, e0, st, rel, fr, p⟩ := sE_split h
  refine ⟨μ, S, G, ρ, π, st, rel, p.imp fun d S1 μ1 G1 H1 e1 st1 ⟨e2, q⟩ a t g n m => q _ H1 ⟨μ1, G1, _, e2, st1, (rel.ext e1).own1 i t g m (rel.ne_fresh n), fun j p e => ?_⟩⟩
  split at e
  · split at e
    · cases e
      cases z : H0 a with
      | none => rfl
      | some o => exact absurd n (e0.m a (by rw [z]; exact fun z => nomatch z))
    · cases e
  · exact fr j p e
/-- x = e, a new thing that may be handed on and changes: a cell -/
def sCell (i : Nat) (f : Ef D) : Es := sE f fun d ρ S => .nx (ρ.set i (.val (.loc S.length))) (S ++ [d])
theorem Stt.cell1 (st : Stt L μ S G H) {d : D} {p : Addr} (t : Top L μ G H d p) (g : G p = none) (m : p ∉ μ) : Stt L (μ ++ [p]) (S ++ [d]) G H := by
  have pre : ∀ (i : Nat) (a : Addr), μ[i]? = some a → (μ ++ [p])[i]? = some a := fun i a e => by rw [List.getElem?_append_left (List.getElem?_eq_some_iff.mp e).1]; exact e
  have up : ∀ {d : D} {a : Addr}, Top L μ G H d a → Top L (μ ++ [p]) G H d a := fun {d a} t => by
    cases d with
    | lst ds => obtain ⟨vs, h, r⟩ := t; exact ⟨vs, h, Rs.mono pre (.refl _) _ _ r⟩
    | ins c ds => obtain ⟨dx, vs, h, l, r⟩ := t; exact ⟨dx, vs, h, l, Rs.mono pre (.refl _) _ _ r⟩
    | dct ks xs => obtain ⟨kvs, h, hk, r⟩ := t; exact ⟨kvs, h, hk, Rs.mono pre (.refl _) _ _ r⟩
    | dcT ks xs => obtain ⟨kvs, h, hk, r⟩ := t; exact ⟨kvs, h, hk, Rs.mono pre (.refl _) _ _ r⟩
    | _ => exact t.elim
  refine ⟨st.sub, st.tk, by rw [List.length_append, List.length_append, st.len]; rfl, fun i j a e1 e2 => ?_, fun i a d' e1 e2 => ?_⟩
  · have cs : ∀ {i : Nat} {a : Addr}, (μ ++ [p])[i]? = some a → (μ[i]? = some a) ∨ (i = μ.length ∧ a = p) := fun {i a} e => by
      by_cases hi : i < μ.length
      · rw [List.getElem?_append_left hi] at e; exact .inl e
      · rw [List.getElem?_append_right (by omega)] at e
        have hz : i - μ.length = 0 := by
          have := (List.getElem?_eq_some_iff.mp e).1
          simp at this
          omega
        rw [hz] at e
        simp at e
        exact .inr ⟨by omega, e.symm⟩
    rcases cs e1 with h1 | ⟨h1, h1'⟩
    · rcases cs e2 with h2 | ⟨h2, h2'⟩
      · exact st.nd i j a h1 h2
      · subst h2'; exact absurd (List.mem_of_getElem? h1) m
    · rcases cs e2 with h2 | ⟨h2, h2'⟩
      · subst h1'; exact absurd (List.mem_of_getElem? h2) m
      · omega
  · by_cases hi : i < μ.length
    · rw [List.getElem?_append_left hi] at e1
      rw [List.getElem?_append_left (by rw [← st.len]; exact hi)] at e2
      obtain ⟨n, t'⟩ := st.cell i a d' e1 e2
      exact ⟨n, up t'⟩
    · rw [List.getElem?_append_right (by omega)] at e1
      rw [List.getElem?_append_right (by rw [← st.len]; omega)] at e2
      have hz : i - μ.length = 0 := by
        have := (List.getElem?_eq_some_iff.mp e1).1
        simp at this
        omega
      rw [hz] at e1
      rw [← st.len, hz] at e2
      simp at e1 e2
      subst e1 e2
      exact ⟨g, up t⟩
theorem to_cell {i : Nat} {f : Ef D} (h : tS L W (sCell i f) E σ H) : tAsg (tF L W f) (gName i) E σ H := by
  obtain ⟨μ0, G0, H0, ρ, S, μ, G, π, e0, st, rel, fr, p⟩ := sE_split h
  refine ⟨μ, S, G, ρ, π, st, rel, p.imp fun d S1 μ1 G1 H1 e1 st1 ⟨e2, q⟩ a t g n m => ?_⟩
  have h0 : H0 a = none := by
    cases z : H0 a with
    | none => rfl
    | some o => exact absurd n (e0.m a (by rw [z]; exact fun z => nomatch z))
  have e3 : Ext μ0 G0 H0 (μ1 ++ [a]) G1 H1 := by
    obtain ⟨t', c1, c2⟩ := e2.c
    refine ⟨⟨t' ++ [a], by rw [c1, List.append_assoc], fun x hx => ?_⟩, e2.g, e2.h, e2.n, e2.m⟩
    rcases List.mem_append.mp hx with hx | hx
    · exact c2 x hx
    · rw [List.mem_singleton.mp hx]; exact h0
  have r1 := rel.ext e1
  have r2 : Rel L (μ1 ++ [a]) G1 H1 σ ρ π := ⟨fun j d' e => by
      obtain ⟨v, a1, a2⟩ := r1.val j d' e
      exact ⟨v, a1, R.mono (fun i b e => by rw [List.getElem?_append_left (List.getElem?_eq_some_iff.mp e).1]; exact e) (.refl _) _ _ a2⟩,
    fun j d' e => by
      obtain ⟨p', a1, a2, a3, a4, a5⟩ := r1.own j d' e
      refine ⟨p', a1, a2, ?_, a4, fun z => ?_⟩
      · cases d' with
        | lst ds => obtain ⟨vs, h, r⟩ := a3; exact ⟨vs, h, Rs.mono (fun i b e => by rw [List.getElem?_append_left (List.getElem?_eq_some_iff.mp e).1]; exact e) (.refl _) _ _ r⟩
        | ins c ds => obtain ⟨dx, vs, h, l, r⟩ := a3; exact ⟨dx, vs, h, l, Rs.mono (fun i b e => by rw [List.getElem?_append_left (List.getElem?_eq_some_iff.mp e).1]; exact e) (.refl _) _ _ r⟩
        | dct ks xs => obtain ⟨kvs, h, hk, r⟩ := a3; exact ⟨kvs, h, hk, Rs.mono (fun i b e => by rw [List.getElem?_append_left (List.getElem?_eq_some_iff.mp e).1]; exact e) (.refl _) _ _ r⟩
        | dcT ks xs => obtain ⟨kvs, h, hk, r⟩ := a3; exact ⟨kvs, h, hk, Rs.mono (fun i b e => by rw [List.getElem?_append_left (List.getElem?_eq_some_iff.mp e).1]; exact e) (.refl _) _ _ r⟩
        | _ => exact a3.elim
      · rcases List.mem_append.mp z with z | z
        · exact a5 z
        · rw [List.mem_singleton.mp z] at a1
          exact rel.ne_fresh n j a1, r1.inj, r1.only, r1.len⟩
  refine q _ H1 ⟨μ1 ++ [a], G1, _, e3, st1.cell1 t g m, r2.put i ?_, fresh_put fr⟩
  unfold R
  exact ⟨a, by rw [← st1.len]; simp, rfl⟩
end
end PyD

/-! PyD: loops. -/
namespace PyD
open PySem L2
section
variable {L : Lk} {X : Cx} {k : Nat}
variable {pins : List (Addr × Obj)} {s : Shared} {σ : St} {H H1 : Hp} {μ μ0 μ1 : List Addr} {S : List D} {G G0 H0 G1 : Hp} {Q : VK} {W : WX} {ρ : List Sl} {π : Nat → Option Addr} {E : Ends}
/-- the heap without this frame's own things -/
noncomputable def lessOwn (π : Nat → Option Addr) (H : Hp) : Hp := fun a => open Classical in if ∃ i, π i = some a then none else H a
theorem less_none {i : Nat} {p : Addr} (h : π i = some p) : lessOwn π H p = none := if_pos ⟨i, h⟩
theorem less_some {a : Addr} {o : HO} (h : lessOwn π H a = some o) : H a = some o := by
  unfold lessOwn at h
  split at h
  · cases h
  · exact h
theorem base_up (e0 : Ext μ0 G0 H0 μ1 G1 H1) (fr : ∀ i p, π i = some p → H0 p = none) : Ext μ0 G0 H0 μ1 G1 (lessOwn π H1) := by
  have ne : ∀ a, H0 a ≠ none → ¬ ∃ i, π i = some a := fun a h ⟨i, e⟩ => h (fr i a e)
  refine ⟨e0.c, e0.g, fun a o e m => ?_, e0.n, fun a h => ?_⟩
  · unfold lessOwn
    rw [if_neg (ne a (by rw [e]; exact fun z => nomatch z))]
    exact e0.h a o e m
  · unfold lessOwn
    rw [if_neg (ne a h)]
    exact e0.m a h
theorem base_here : Ext μ1 G1 (lessOwn π H1) μ1 G1 H1 :=
  ⟨⟨[], by simp, fun a m => nomatch m⟩, .refl _, fun a o e _ => less_some e, fun a _ n => n, fun a h => by
    cases e : lessOwn π H1 a with
    | none => exact absurd e h
    | some o => rw [less_some e]; exact fun z => nomatch z⟩
theorem At.up {μ2 : List Addr} {G2 H2 : Hp} (b : Ext μ0 G0 H0 μ1 G1 H1) (a : At L μ1 G1 H1 σ H ρ S) : At L μ0 G0 H0 σ H ρ S := by
  obtain ⟨μ, G, π, e, st, rel, fr⟩ := a
  refine ⟨μ, G, π, b.trans e, st, rel, fun i p h => ?_⟩
  cases z : H0 p with
  | none => rfl
  | some o => exact absurd (fr i p h) (b.m p (by rw [z]; exact fun z => nomatch z))
theorem PostS.up {o : OutS} (b : Ext μ0 G0 H0 μ1 G1 H1) (p : PostS L E W μ0 G0 H0 o) : PostS L E W μ1 G1 H1 o := by
  cases o with
  | nx ρ S => exact fun σ H a => p σ H (At.up (μ2 := []) (G2 := G0) (H2 := H0) b a)
  | bk ρ S => exact fun σ H a => p σ H (At.up (μ2 := []) (G2 := G0) (H2 := H0) b a)
  | ct ρ S => exact fun σ H a => p σ H (At.up (μ2 := []) (G2 := G0) (H2 := H0) b a)
  | rt d S => exact fun v H ⟨μ, G, e, st, r⟩ => p v H ⟨μ, G, b.trans e, st, r⟩
  | exc c fs ρ S => exact fun cls d σ μ G H π e st rel fr r => p cls d σ μ G H π (b.trans e) st rel (fun i q h => by
      cases z : H0 q with
      | none => rfl
      | some o => exact absurd (fr i q h) (b.m q (by rw [z]; exact fun z => nomatch z))) r
  | bad => exact p
def forL (tg : Tg) (body : Es) : List D → List Sl → List D → OutS
  | [], ρ, S => .nx ρ S
  | x :: xs, ρ, S => match bindT tg x ρ with
    | none => .bad
    | some ρ1 => match body ρ1 S with
      | .nx ρ2 S2 => forL tg body xs ρ2 S2
      | .ct ρ2 S2 => forL tg body xs ρ2 S2
      | .bk ρ2 S2 => .nx ρ2 S2
      | .rt d S2 => .rt d S2
      | .exc c fs ρ2 S2 => .exc c fs ρ2 S2
      | .bad => .bad
def sFor (it : Ef (List D)) (tg : Tg) (body : Es) : Es := sE it fun ds ρ S => forL tg body ds ρ S
theorem to_for {it : Ef (List D)} {tg : Tg} {body : Es} {K : PySem.W.Frag} (hK : K = L.K) (h : tS L W (sFor it tg body) E σ H) : tFor (tIG L W it) (gOf K tg) (tS L W body) E σ H := by
  obtain ⟨μ0, G0, H0, ρ, S, μ, G, π, e0, st, rel, fr, p⟩ := sE_split h
  refine ⟨μ, S, G, ρ, π, st, rel, p.imp fun ds S1 μ1 G1 H1 e1 st1 ⟨e2, q⟩ J y => ?_⟩
  have b := base_up (π := π) e2 fr
  have q := q.up b
  have a1 : At L μ1 G1 (lessOwn π H1) σ H1 ρ S1 := ⟨μ1, G1, π, base_here, st1, rel.ext e1, fun i p e => less_none e⟩
  generalize lessOwn π H1 = HB at q a1
  refine ⟨fun i m σ H => m = ds.length - i ∧ i ≤ ds.length ∧ ∃ ρ S, At L μ1 G1 HB σ H ρ S ∧ PostS L E W μ1 G1 HB (forL tg body (ds.drop i) ρ S), ⟨_, rfl, Nat.zero_le _, ρ, S1, a1, q⟩, ?_⟩
  rintro i m σ2 H2 ⟨rfl, hi, ρ2, S2, ⟨μ2, G2, π2, e3, st2, rel2, fr2⟩, q2⟩
  obtain ⟨y1, y2, y3⟩ := y i μ2 G2 H2 e3.pre e3.g st2.sub
  by_cases hlt : i < ds.length
  · refine .inr ⟨y1 hlt, fun σ' H' => ∃ m', m' < ds.length - i ∧ m' = ds.length - (i + 1) ∧ i + 1 ≤ ds.length ∧ ∃ ρ S, At L μ1 G1 HB σ' H' ρ S ∧ PostS L E W μ1 G1 HB (forL tg body (ds.drop (i + 1)) ρ S), fun σ' H' q => q, fun x H3 gx => ?_⟩
    obtain ⟨d, ed, gv⟩ := y3 x H3 hlt gx
    rw [drop_get ed] at q2
    unfold forL at q2
    cases hb : bindT tg d ρ2 with
    | none => rw [hb] at q2; exact q2.elim
    | some ρ3 =>
      rw [hb] at q2
      refine gives_ok (S := S2) hK st2 hb gv rel2 fun G3 σ3 π3 e4 st3 rel3 k1 k2 k3 => ?_
      refine ⟨μ1, G1, HB, ρ3, S2, ⟨μ2, G3, π3, e3.trans e4, st3, rel3, fun i p e => fr2 i p (k3 i p e)⟩, ?_⟩
      dsimp only at q2
      cases ho : body ρ3 S2 with
      | nx ρ4 S4 => rw [ho] at q2; exact fun σ' H' a => ⟨_, by omega, rfl, hlt, ρ4, S4, a, q2⟩
      | ct ρ4 S4 => rw [ho] at q2; exact fun σ' H' a => ⟨_, by omega, rfl, hlt, ρ4, S4, a, q2⟩
      | bk ρ4 S4 => rw [ho] at q2; exact q2
      | rt d S4 => rw [ho] at q2; exact q2
      | exc c fs ρ4 S4 => rw [ho] at q2; exact q2
      | bad => rw [ho] at q2; exact q2
  · refine .inl ⟨y2 (by omega), ?_⟩
    have e0 : ds.drop i = [] := List.drop_eq_nil_iff.mpr (by omega)
    rw [e0] at q2
    exact q2 σ2 H2 ⟨μ2, G2, π2, e3, st2, rel2, fr2⟩
/-- while c: body, at most n turns -/
def whlN (c : Ef Bool) (body : Es) : Nat → List Sl → List D → OutS
  | 0, _, _ => .bad
  | n + 1, ρ, S => match c ρ S with
    | .ok true S1 => match body ρ S1 with
      | .nx ρ2 S2 => whlN c body n ρ2 S2
      | .ct ρ2 S2 => whlN c body n ρ2 S2
      | .bk ρ2 S2 => .nx ρ2 S2
      | .rt d S2 => .rt d S2
      | .exc c fs ρ2 S2 => .exc c fs ρ2 S2
      | .bad => .bad
    | .ok false S1 => .nx ρ S1
    | .exc c fs S1 => .exc c fs ρ S1
    | .bad => .bad
def sWhl (n : Nat) (c : Ef Bool) (body : Es) : Es := whlN c body n
theorem to_whl {n : Nat} {c : Ef Bool} {body : Es} (h : tS L W (sWhl n c body) E σ H) : tWhile (tT L W c) (tS L W body) E σ H := by
  obtain ⟨μ0, G0, H0, ρ, S, a, p⟩ := h
  refine ⟨fun m σ H => ∃ ρ S, At L μ0 G0 H0 σ H ρ S ∧ PostS L E W μ0 G0 H0 (whlN c body m ρ S), ⟨n, ρ, S, a, p⟩, ?_⟩
  rintro m σ1 H1 ⟨ρ1, S1, ⟨μ1, G1, π1, e1, st1, rel1, fr1⟩, q⟩
  cases m with
  | zero => exact q.elim
  | succ m =>
    unfold whlN at q
    refine ⟨μ1, S1, G1, ρ1, π1, st1, rel1, ?_⟩
    cases hc : c ρ1 S1 with
    | bad => rw [hc] at q; exact q.elim
    | exc cn fs S2 => rw [hc] at q; exact fun cls d μ2 G2 H2 e2 st2 r => q cls d σ1 μ2 G2 H2 π1 (e1.trans e2) st2 (rel1.ext e2) fr1 r
    | ok b S2 =>
      rw [hc] at q
      intro μ2 G2 H2 e2 st2
      have a2 : At L μ0 G0 H0 σ1 H2 ρ1 S2 := ⟨μ2, G2, π1, e1.trans e2, st2, rel1.ext e2, fr1⟩
      cases b with
      | false => exact q σ1 H2 a2
      | true =>
        dsimp only at q
        show ∃ N : St → Hp → Prop, (∀ σ' H', N σ' H' → ∃ m', m' < m + 1 ∧ ∃ ρ S, At L μ0 G0 H0 σ' H' ρ S ∧ PostS L E W μ0 G0 H0 (whlN c body m' ρ S)) ∧ tS L W body { E with nx := N, ct := N, bk := E.nx } σ1 H2
        refine ⟨fun σ' H' => ∃ ρ S, At L μ0 G0 H0 σ' H' ρ S ∧ PostS L E W μ0 G0 H0 (whlN c body m ρ S), fun σ' H' z => ⟨m, Nat.lt_succ_self _, z⟩, μ0, G0, H0, ρ1, S2, a2, ?_⟩
        cases ho : body ρ1 S2 with
        | nx ρ4 S4 => rw [ho] at q; exact fun σ' H' a => ⟨ρ4, S4, a, q⟩
        | ct ρ4 S4 => rw [ho] at q; exact fun σ' H' a => ⟨ρ4, S4, a, q⟩
        | bk ρ4 S4 => rw [ho] at q; exact q
        | rt d S4 => rw [ho] at q; exact q
        | exc c fs ρ4 S4 => rw [ho] at q; exact q
        | bad => rw [ho] at q; exact q
def sBrk : Es := fun ρ S => .bk ρ S
def sCnt : Es := fun ρ S => .ct ρ S
theorem to_brk (h : tS L W sBrk E σ H) : tBreak E σ H := by
  obtain ⟨μ0, G0, H0, ρ, S, a, p⟩ := h
  exact p σ H a
theorem to_cnt (h : tS L W sCnt E σ H) : tCont E σ H := by
  obtain ⟨μ0, G0, H0, ρ, S, a, p⟩ := h
  exact p σ H a
end
end PyD

/-! PyD: statements that change things. -/
namespace PyD
open PySem L2
theorem iadd_gen (l : Addr) (items : Array Value) (n : Nat) (b : Addr) (items2 : Array Value) (n2 : Nat) (dd2 : Option Addr) (sl2 : Array (Option Value)) (hs0 : ¬(!items.isEmpty && Builtin.List.listTooLong (items.size + items2.size)) = true) (hs1 : items.size ≤ sizeLine) (hs2 : items.size + items2.size ≤ sizeLine + 1) :
    Meets (Builtin.«list.__iadd__» ⟨[.ref l, .ref b], []⟩) (fun _ R s => s.heap.get? l = some { cls := .type "list", dict := none, data := .seq items n, slots := #[] } ∧ s.heap.get? b = some { cls := .type "list", dict := dd2, data := .seq items2 n2, slots := sl2 } ∧ R (.ok (.ret (Value.ref l))) { s with heap := s.heap.update l (Obj.mapSeq fun x => x ++ items2), toks := s.toks }) :=
  .of_wp fun prog w A R s h => by
    obtain ⟨hp, g, d, tk, os⟩ := s; obtain ⟨hl, hb, h⟩ := h; have f1 := AutoSeq1.idx_int; have f2 := AutoSeq1.sub_tuple_tuple; have f3 := AutoSeq1.sub_list_list; have f4 := AutoSeq1.sub_tuple_list; have f5 := AutoSeq1.sub_list_tuple;
    have hz' : (items ++ items2).size ≤ sizeLine + 1 := by rw [Array.size_append]; exact hs2
    wp_walk using (wpAny_updateSeq hl rfl (hz := hs1) (_hz' := hz')), AutoSeq1.wpAny_loadPart' hl, AutoSeq1.wpAny_loadPart' hb; exact ⟨_, rfl, h⟩
section
variable {L : Lk} {X : Cx} {k : Nat}
variable {pins : List (Addr × Obj)} {s : Shared} {σ : St} {H H1 : Hp} {μ μ0 μ1 : List Addr} {S : List D} {G G0 H0 G1 : Hp} {Q : VK} {W : WX} {ρ : List Sl} {π : Nat → Option Addr} {E : Ends}
def rExt3 (K : PySem.W.Frag) : V → V → Hp → VK → Prop := fun x y H Q => ∃ l b xs zs, x = .ref l ∧ y = .ref b ∧ H l = some (.lst xs) ∧ SqL K H b zs ∧ xs.length + zs.length ≤ sizeLine ∧ Q (.ref l) (upd H l (.lst (xs ++ zs)))
theorem iop_ext3 : PIp X .Add (rExt3 X.K) := by
  intro pins s σ H x y v u Q I rx ry h
  obtain ⟨l, b, xs, zs, rfl, rfl, hH, hB, hz, q⟩ := h
  cases rx
  cases ry
  obtain ⟨z, its, n, r, hl, e⟩ := I.lstM hH
  obtain ⟨its2, r2, ⟨⟨cls2, dd2, data2, sl2⟩, n2, e2, hc2, hdd2, hd2⟩, _⟩ := I.list hB
  simp only at hc2 hd2
  subst hc2 hd2
  have hl2 : zs.length = its2.length := r2.length
  have hsz : its.toArray.size + its2.toArray.size ≤ sizeLine := by rw [List.size_toArray, List.size_toArray]; omega
  have hlong : ¬ (!its.toArray.isEmpty && Builtin.List.listTooLong (its.toArray.size + its2.toArray.size)) = true := by
    rw [notLongL hsz, Bool.and_false]
    exact Bool.false_ne_true
  refine iadd_road ⟨_, e, rfl⟩ ⟨_, e2, rfl⟩ (PySem.call_meets PySem.F.slot_list_iadd ⟨_, e, rfl⟩ PySem.F.entry_list_iadd (PySem.F.args_list_iadd_2 _ _)
    (iadd_gen l its.toArray n b its2.toArray n2 dd2 sl2 hlong (by rw [List.size_toArray]; omega) (by omega)) ⟨e, e2, ?_⟩)
  refine ⟨.ref l, _, I.lset (its' := its ++ its2) (t' := s.toks) hH e (by simp) (r.append r2) ?_, rfl, q⟩
  rw [List.length_append]
  omega

theorem Top.nt {d : D} {p : Addr} {o : HO} (t : Top L μ G (upd H p o) d p) : ∀ vs, o ≠ .tup vs := fun vs z => by
  subst z
  cases d with
  | lst _ => obtain ⟨_, h, _⟩ := t; rw [upd_same] at h; cases h
  | ins _ _ => obtain ⟨_, _, h, _⟩ := t; rw [upd_same] at h; cases h
  | dct _ _ => obtain ⟨_, h, _⟩ := t; rw [upd_same] at h; cases h
  | dcT _ _ => obtain ⟨_, h, _⟩ := t; rw [upd_same] at h; cases h
  | _ => exact t.elim
/-- a thing of this frame's own changes -/
theorem mut_own {i : Nat} {d : D} (e0 : Ext μ0 G0 H0 μ G H) (st : Stt L μ S G H) (rel : Rel L μ G H σ ρ π) (fr : ∀ i p, π i = some p → H0 p = none) (e : ρ[i]? = some (.own d)) :
    ∃ p, σ[i]? = some (some (.ref p)) ∧ Top L μ G H d p ∧ G p = none ∧ p ∉ μ ∧ ∀ o d', Top L μ G (upd H p o) d' p → At L μ0 G0 H0 σ (upd H p o) (ρ.set i (.own d')) S := by
  obtain ⟨p, a, b, t, n, m⟩ := rel.own i d e
  refine ⟨p, b, t, n, m, fun o d' t' => ⟨μ, G, π, e0.upd (fr i p a), st.upd n m (Top.nt t'), ⟨fun j x ej => ?_, fun j x ej => ?_, rel.inj, fun j q ej => ?_, by rw [List.length_set]; exact rel.len⟩, fr⟩⟩
  · by_cases z : i = j
    · subst z
      rw [List.getElem?_set_self (List.getElem?_eq_some_iff.mp e).1] at ej
      cases ej
    · rw [List.getElem?_set_ne z] at ej
      exact rel.val j x ej
  · by_cases z : i = j
    · subst z
      rw [List.getElem?_set_self (List.getElem?_eq_some_iff.mp e).1] at ej
      cases ej
      exact ⟨p, a, b, t', n, m⟩
    · rw [List.getElem?_set_ne z] at ej
      obtain ⟨q, c1, c2, c3, c4, c5⟩ := rel.own j x ej
      have ne : q ≠ p := fun w => z (rel.inj i j p a (w ▸ c1))
      exact ⟨q, c1, c2, c3.sub (.refl _) (by rw [upd_ne ne]), c4, c5⟩
  · obtain ⟨d2, q2⟩ := rel.only j q ej
    by_cases z : i = j
    · subst z
      exact ⟨d', List.getElem?_set_self (List.getElem?_eq_some_iff.mp e).1⟩
    · exact ⟨d2, by rw [List.getElem?_set_ne z]; exact q2⟩
/-- a cell changes -/
theorem mut_cell {j : Nat} {d : D} {a : Addr} (e0 : Ext μ0 G0 H0 μ G H) (st : Stt L μ S G H) (rel : Rel L μ G H σ ρ π) (fr : ∀ i p, π i = some p → H0 p = none) (ea : μ[j]? = some a) (e : S[j]? = some d) :
    Top L μ G H d a ∧ ∀ o d', Top L μ G (upd H a o) d' a → At L μ0 G0 H0 σ (upd H a o) ρ (S.set j d') := by
  obtain ⟨n, t⟩ := st.cell j a d ea e
  have ma : a ∈ μ := List.mem_of_getElem? ea
  refine ⟨t, fun o d' t' => ⟨μ, G, π, ⟨e0.c, e0.g, fun x u q m => ?_, e0.n, fun x q => ?_⟩, ⟨fun x u q => ?_, fun x vs q => ?_, by rw [List.length_set]; exact st.len, st.nd, fun i b x e1 e2 => ?_⟩, ⟨rel.val, fun i x ei => ?_, rel.inj, rel.only, rel.len⟩, fr⟩⟩
  · have ne : x ≠ a := fun z => by
      subst z
      exact e0.out q m ma
    rw [upd_ne ne]
    exact e0.h x u q m
  · by_cases z : x = a
    · subst z; rw [upd_same]; exact fun z => nomatch z
    · rw [upd_ne z]; exact e0.m x q
  · rw [upd_ne (ne_of_none q n)]; exact st.sub x u q
  · by_cases z : x = a
    · subst z; rw [upd_same] at q; exact absurd (Option.some.inj q) (Top.nt t' vs)
    · rw [upd_ne z] at q; exact st.tk x vs q
  · by_cases z : j = i
    · subst z
      rw [ea] at e1
      cases e1
      rw [List.getElem?_set_self (List.getElem?_eq_some_iff.mp e).1] at e2
      cases e2
      exact ⟨n, t'⟩
    · rw [List.getElem?_set_ne z] at e2
      obtain ⟨n2, t2⟩ := st.cell i b x e1 e2
      have ne : b ≠ a := fun w => z (st.nd j i a ea (w ▸ e1))
      exact ⟨n2, t2.sub (.refl _) (by rw [upd_ne ne])⟩
  · obtain ⟨q, c1, c2, c3, c4, c5⟩ := rel.own i x ei
    have ne : q ≠ a := fun w => c5 (w ▸ ma)
    exact ⟨q, c1, c2, c3.sub (.refl _) (by rw [upd_ne ne]), c4, c5⟩
/-- a statement whose expression is seen once the slot is known -/
theorem sE_at {α : Type} {f : Ef α} {k : α → List Sl → List D → OutS} (h : ∃ μ0 G0 H0 ρ S, At L μ0 G0 H0 σ H ρ S ∧ PostS L E W μ0 G0 H0 (sE f k ρ S)) : tS L W (sE f k) E σ H := h
/-- x.append(e), x this frame's own -/
def sApp (i : Nat) (f : Ef D) : Es := fun ρ S => match ρ[i]? with
  | some (.own (.lst ds)) => sE f (fun d ρ S => if ds.length < LIM then .nx (ρ.set i (.own (.lst (ds ++ [d])))) S else .bad) ρ S
  | _ => .bad
theorem sApp_cases {i : Nat} {f : Ef D} (h : tS L W (sApp i f) E σ H) : ∃ ds μ0 G0 H0 ρ S μ G π, ρ[i]? = some (.own (.lst ds)) ∧ Ext μ0 G0 H0 μ G H ∧ Stt L μ S G H ∧ Rel L μ G H σ ρ π ∧ (∀ i p, π i = some p → H0 p = none) ∧
    Post L (fun c d H' => W c d σ H') μ G H (f ρ S) (fun a S1 μ1 G1 H1 => Ext μ0 G0 H0 μ1 G1 H1 ∧ PostS L E W μ0 G0 H0 (if ds.length < LIM then .nx (ρ.set i (.own (.lst (ds ++ [a])))) S1 else .bad)) := by
  obtain ⟨μ0, G0, H0, ρ, S, a, p⟩ := h
  unfold sApp at p
  split at p
  · rename_i ds e
    obtain ⟨μ, G, π, e0, st, rel, fr⟩ := a
    refine ⟨ds, μ0, G0, H0, ρ, S, μ, G, π, e, e0, st, rel, fr, ?_⟩
    unfold sE at p
    cases ef : f ρ S with
    | ok a S1 =>
      rw [ef] at p
      exact fun μ1 G1 H1 e1 st1 => ⟨e0.trans e1, p⟩
    | exc c fs S1 =>
      rw [ef] at p
      exact fun cls d μ1 G1 H1 e1 st1 r => p cls d σ μ1 G1 H1 π (e0.trans e1) st1 (rel.ext e1) fr r
    | bad => rw [ef] at p; exact p
  · exact p.elim
theorem to_app {i : Nat} {f : Ef D} {K : PySem.W.Frag} (h : tS L W (sApp i f) E σ H) : tDrop (tBM K "list" rAppend (tVar i) (tCons (tO L W f) tNil)) E σ H := by
  obtain ⟨ds, μ0, G0, H0, ρ, S, μ, G, π, eo, e0, st, rel, fr, p⟩ := sApp_cases h
  obtain ⟨q, a, b, t, n, m⟩ := rel.own i _ eo
  obtain ⟨vs0, hq0, _⟩ := t
  refine ⟨.ref q, b, .inl ⟨rfl, vs0, .inl (.inl hq0)⟩, μ, S, G, ρ, π, st, rel, p.imp fun d S1 μ1 G1 H1 e1 st1 ⟨e2, p1⟩ v rv => ?_⟩
  obtain ⟨q2, b2, t2, n2, m2, mu⟩ := mut_own e2 st1 (rel.ext e1) fr eo
  rw [b] at b2
  cases b2
  obtain ⟨vs, hq, rs⟩ := t2
  split at p1
  · rename_i hz
    refine ⟨q, vs, v, rfl, rfl, hq, by rw [rs.length, lim_eq]; exact hz, ?_⟩
    exact p1 σ _ (mu _ (.lst (ds ++ [d])) ⟨vs ++ [v], upd_same, rs.append (Rs.cons rv Rs.nil)⟩)
  · exact p1.elim
/-- x += e, x this frame's own list -/
def sExt (i : Nat) (f : Ef D) : Es := fun ρ S => match ρ[i]? with
  | some (.own (.lst ds)) => sE f (fun d ρ S => match d with
    | .lst es => if ds.length + es.length ≤ LIM then .nx (ρ.set i (.own (.lst (ds ++ es)))) S else .bad
    | _ => .bad) ρ S
  | _ => .bad
theorem to_ext {i : Nat} {f : Ef D} {K : PySem.W.Frag} (hK : K = L.K) (h : tS L W (sExt i f) E σ H) : tAug i (tO L W f) (rExt3 K) E σ H := by
  obtain ⟨μ0, G0, H0, ρ, S, ⟨μ, G, π, e0, st, rel, fr⟩, p⟩ := h
  unfold sExt at p
  split at p
  · rename_i ds eo
    obtain ⟨q, a, b, t, n, m⟩ := rel.own i _ eo
    refine ⟨.ref q, b, μ, S, G, ρ, π, st, rel, ?_⟩
    unfold sE at p
    cases ef : f ρ S with
    | bad => rw [ef] at p; exact p
    | exc c fs S1 =>
      rw [ef] at p
      exact fun cls d μ1 G1 H1 e1 st1 r => p cls d σ μ1 G1 H1 π (e0.trans e1) st1 (rel.ext e1) fr r
    | ok d S1 =>
      rw [ef] at p
      intro μ1 G1 H1 e1 st1 v rv
      obtain ⟨q2, b2, t2, n2, m2, mu⟩ := mut_own (e0.trans e1) st1 (rel.ext e1) fr eo
      rw [b] at b2
      cases b2
      obtain ⟨vs, hq, rs⟩ := t2
      cases d with
      | lst es =>
        dsimp only at p
        split at p
        · rename_i hz
          unfold R at rv
          obtain ⟨l, ws, e, hl, rw'⟩ := rv
          refine ⟨q, l, vs, ws, rfl, e, hq, by rw [hK]; exact sqlSub st1.sub hl, by rw [rs.length, rw'.length, lim_eq]; exact hz, ?_⟩
          have hs : (σ.set i (some (V.ref q))) = σ := by
            apply List.ext_getElem?
            intro j
            by_cases z : i = j
            · subst z
              rw [List.getElem?_set_self (List.getElem?_eq_some_iff.mp b).1, b]
            · rw [List.getElem?_set_ne z]
          show E.nx (List.set σ i (some (V.ref q))) (upd H1 q (.lst (vs ++ ws)))
          rw [hs]
          exact p σ _ (mu _ (.lst (ds ++ es)) ⟨vs ++ ws, upd_same, rs.append rw'⟩)
        · exact p.elim
      | _ => exact p.elim
  · exact p.elim
/-- x op= e, ints -/
def sAugI (i : Nat) (g : Int → Int → Int) (f : Ef D) : Es := fun ρ S => match ρ[i]? with
  | some (.val (.int a)) => sE f (fun d ρ S => match d with
    | .int b => .nx (ρ.set i (.val (.int (g a b)))) S
    | _ => .bad) ρ S
  | _ => .bad
theorem to_augI {i : Nat} {g : Int → Int → Int} {f : Ef D} (h : tS L W (sAugI i g f) E σ H) : tAug i (tO L W f) (ipI g) E σ H := by
  obtain ⟨μ0, G0, H0, ρ, S, ⟨μ, G, π, e0, st, rel, fr⟩, p⟩ := h
  unfold sAugI at p
  split at p
  · rename_i a eo
    obtain ⟨v, b, rv⟩ := rel.val i _ eo
    unfold R at rv
    subst rv
    refine ⟨.int a, b, μ, S, G, ρ, π, st, rel, ?_⟩
    unfold sE at p
    cases ef : f ρ S with
    | bad => rw [ef] at p; exact p
    | exc c fs S1 =>
      rw [ef] at p
      exact fun cls d μ1 G1 H1 e1 st1 r => p cls d σ μ1 G1 H1 π (e0.trans e1) st1 (rel.ext e1) fr r
    | ok d S1 =>
      rw [ef] at p
      intro μ1 G1 H1 e1 st1 v rv
      cases d with
      | int c =>
        unfold R at rv
        subst rv
        exact ⟨a, c, rfl, rfl, p _ H1 ⟨μ1, G1, _, e0.trans e1, st1, (rel.ext e1).put i (by unfold R; rfl), fresh_put fr⟩⟩
      | _ => exact p.elim
  · exact p.elim
/-- c[n] += m: c a cell's list, n and m written ints -/
def sAugC (i : Nat) (n : Nat) (m : Int) : Es := fun ρ S => match ρ[i]? with
  | some (.val (.loc j)) => match S[j]? with
    | some (.lst ds) => match ds[n]? with
      | some (.int a) => .nx ρ (S.set j (.lst (ds.set n (.int (a + m)))))
      | _ => .bad
    | _ => .bad
  | _ => .bad
theorem to_augC {i n : Nat} {m : Int} {tget : V → V → Hp → VK → Prop} (hg : ∀ p vs (z : V) (H : Hp) (Q : VK), H p = some (.lst vs) → vs[n]? = some z → Q z H → tget (.ref p) (.int n) H Q) (h : tS L W (sAugC i n m) E σ H) :
    tAugS (tVar i) (tC (.int n)) (tC (.int m)) tget (ipI fun i j => i + j) rSetL E σ H := by
  obtain ⟨μ0, G0, H0, ρ, S, ⟨μ, G, π, e0, st, rel, fr⟩, p⟩ := h
  unfold sAugC at p
  split at p
  · rename_i j eo
    obtain ⟨v, b, rv⟩ := rel.val i _ eo
    unfold R at rv
    obtain ⟨a, ea, rfl⟩ := rv
    split at p
    · rename_i ds es
      split at p
      · rename_i c ec
        obtain ⟨t, mu⟩ := mut_cell e0 st rel fr ea es
        obtain ⟨vs, hq, rs⟩ := t
        obtain ⟨z, ez, rz⟩ := rs.get ec
        unfold R at rz
        subst rz
        refine ⟨.ref a, b, hg a vs _ H _ hq ez ⟨c, m, rfl, rfl, a, vs, n, n, rfl, rfl, hq, ?_, ?_⟩⟩
        · have hn := (List.getElem?_eq_some_iff.mp ez).1
          unfold ixN
          rw [if_pos (by omega), if_pos (by omega)]
          simp
        · exact p σ _ (mu _ (.lst (ds.set n (.int (c + m)))) ⟨vs.set n (.int (c + m)), upd_same, rs.set n (by unfold R; rfl)⟩)
      · exact p.elim
    · exact p.elim
  · exact p.elim
/-- self.x = e in an __init__: the next attribute -/
def sFldI (i : Nat) (c : Nat) (n : Nat) (f : Ef D) : Es := sE f fun d ρ S => match ρ[i]? with
  | some (.own (.ins c' fs)) => if c' = c ∧ fs.length = n then .nx (ρ.set i (.own (.ins c (fs ++ [d])))) S else .bad
  | _ => .bad
theorem putF_zip {fs : List Str} {vs : List V} {x : Str} {v : V} (nd : fs.Nodup) (h : fs[vs.length]? = some x) : putF x v (fs.zip vs) = fs.zip (vs ++ [v]) := by
  induction fs generalizing vs with
  | nil => simp at h
  | cons f fs ih =>
    cases vs with
    | nil =>
      simp at h
      subst h
      simp [putF]
    | cons w ws =>
      have hx : fs[ws.length]? = some x := by simpa using h
      have ne : ¬ f = x := fun e => (List.nodup_cons.mp nd).1 (e ▸ List.mem_of_getElem? hx)
      rw [List.zip_cons_cons, List.cons_append, List.zip_cons_cons]
      show (if f = x then _ else _) = _
      rw [if_neg ne, ih (List.nodup_cons.mp nd).2 hx]
theorem to_fldI {i c n : Nat} {x : Str} {f : Ef D} {K : PySem.W.Frag} (hl : (L.flds c)[n]? = some x) (nd : (L.flds c).Nodup) (hc : Cls K (L.cA c)) (hn : NoAttr K (L.cA c) x) (hz : (L.flds c).length < 1000) (h : tS L W (sFldI i c n f) E σ H) :
    sFld K (tVar i) (tO L W f) x E σ H := by
  obtain ⟨μ0, G0, H0, ρ, S, μ, G, π, e0, st, rel, fr, p⟩ := sE_split h
  refine ⟨μ, S, G, ρ, π, st, rel, p.imp fun d S1 μ1 G1 H1 e1 st1 ⟨e2, p1⟩ v rv => ?_⟩
  split at p1
  · rename_i c' fs eo
    split at p1
    · rename_i hcn
      obtain ⟨rfl, hn'⟩ := hcn
      obtain ⟨q, b, t, n2, m2, mu⟩ := mut_own e2 st1 (rel.ext e1) fr eo
      obtain ⟨dx, vs, hq, hlen, rs⟩ := t
      have hv : vs.length = n := by rw [rs.length]; exact hn'
      refine ⟨.ref q, b, q, _, dx, _, rfl, hq, hc, hn, ?_, ?_⟩
      · rw [List.length_zip]; omega
      · rw [putF_zip nd (by rw [hv]; exact hl)]
        refine p1 σ _ (mu _ (.ins c' (fs ++ [d])) ⟨dx, vs ++ [v], upd_same, ?_, rs.append (Rs.cons rv Rs.nil)⟩)
        rw [List.length_append, List.length_singleton, hv]
        exact (List.getElem?_eq_some_iff.mp hl).1
    · exact p1.elim
  · exact p1.elim
/-- c.x = e, c a cell's instance: the next attribute -/
def sFldC (i : Nat) (c : Nat) (n : Nat) (f : Ef D) : Es := sE f fun d ρ S => match ρ[i]? with
  | some (.val (.loc j)) => match S[j]? with
    | some (.ins c' fs) => if c' = c ∧ fs.length = n then .nx ρ (S.set j (.ins c (fs ++ [d]))) else .bad
    | _ => .bad
  | _ => .bad
theorem to_fldC {i c n : Nat} {x : Str} {f : Ef D} {K : PySem.W.Frag} (hl : (L.flds c)[n]? = some x) (nd : (L.flds c).Nodup) (hc : Cls K (L.cA c)) (hn : NoAttr K (L.cA c) x) (hz : (L.flds c).length < 1000) (h : tS L W (sFldC i c n f) E σ H) :
    sFld K (tVar i) (tO L W f) x E σ H := by
  obtain ⟨μ0, G0, H0, ρ, S, μ, G, π, e0, st, rel, fr, p⟩ := sE_split h
  refine ⟨μ, S, G, ρ, π, st, rel, p.imp fun d S1 μ1 G1 H1 e1 st1 ⟨e2, p1⟩ v rv => ?_⟩
  split at p1
  · rename_i j eo
    obtain ⟨u, b, ru⟩ := (rel.ext e1).val i _ eo
    unfold R at ru
    obtain ⟨a, ea, rfl⟩ := ru
    split at p1
    · rename_i c' fs es
      split at p1
      · rename_i hcn
        obtain ⟨rfl, hn'⟩ := hcn
        obtain ⟨t, mu⟩ := mut_cell e2 st1 (rel.ext e1) fr ea es
        obtain ⟨dx, vs, hq, hlen, rs⟩ := t
        have hv : vs.length = n := by rw [rs.length]; exact hn'
        refine ⟨.ref a, b, a, _, dx, _, rfl, hq, hc, hn, ?_, ?_⟩
        · rw [List.length_zip]; omega
        · rw [putF_zip nd (by rw [hv]; exact hl)]
          refine p1 σ _ (mu _ (.ins c' (fs ++ [d])) ⟨dx, vs ++ [v], upd_same, ?_, rs.append (Rs.cons rv Rs.nil)⟩)
          rw [List.length_append, List.length_singleton, hv]
          exact (List.getElem?_eq_some_iff.mp hl).1
      · exact p1.elim
    · exact p1.elim
  · exact p1.elim
end
end PyD

/-! PyD: a def keeps its promise. -/
namespace PyD
open PySem L2
mutual
/-- no cell from n on stands in it -/
def locsB (n : Nat) : D → Bool
  | .tup ds => locsBs n ds
  | .lst ds => locsBs n ds
  | .ins _ ds => locsBs n ds
  | .loc i => decide (i < n)
  | .dct ks xs => locsBs n ks && locsBs n xs
  | .dcT _ xs => locsBs n xs
  | .ktp ds => locsBs n ds
  | _ => true
def locsBs (n : Nat) : List D → Bool
  | [] => true
  | d :: ds => locsB n d && locsBs n ds
end
mutual
def noKt : D → Bool
  | .tup ds => noKts ds
  | .lst ds => noKts ds
  | .ins _ ds => noKts ds
  | .dct _ xs => noKts xs
  | .dcT _ xs => noKts xs
  | .ktp _ => false
  | _ => true
def noKts : List D → Bool
  | [] => true
  | d :: ds => noKt d && noKts ds
end
/-- every cell's content may be told without the new cells -/
def locsS (n : Nat) (S : List D) : Bool := locsBs n (S.take n)
mutual
/-- the new cells told by what they hold -/
def thaw (n : Nat) (S : List D) : D → D
  | .tup ds => .tup (thaws n S ds)
  | .lst ds => .lst (thaws n S ds)
  | .ins c ds => .ins c (thaws n S ds)
  | .loc i => if i < n then .loc i else S.getD i .non
  | .dct ks xs => .dct ks (thaws n S xs)
  | .dcT ks xs => .dcT ks (thaws n S xs)
  | .ktp ds => .ktp ds
  | d => d
def thaws (n : Nat) (S : List D) : List D → List D
  | [] => []
  | d :: ds => thaw n S d :: thaws n S ds
end
def dropD (n : Nat) (d : D) (S : List D) : Out D := if S.length = n then .ok d S else if locsB n d && locsS n S then .ok d (S.take n) else if locsBs n S && noKt d then .ok (thaw n S d) (S.take n) else .bad
def dropX (n : Nat) (c : Nat) (fs : List D) (S : List D) : Out D := if S.length = n then .exc c fs S else if locsBs n fs && locsS n S then .exc c fs (S.take n) else .bad
def endOf (n : Nat) (o : OutS) : Out D := match o with
  | .nx _ S => dropD n .non S
  | .rt d S => dropD n d S
  | .exc c fs _ S => dropX n c fs S
  | _ => .bad
def startR (ns : Nat) (ds : List D) : List Sl := ds.map .val ++ List.replicate (ns - ds.length) .emp
/-- a def of n parameters, ns names -/
def runFn (n ns : Nat) (body : Es) : Cl := fun ds S => if ds.length = n then endOf S.length (body (startR ns ds) S) else .bad
/-- an __init__ of n parameters (self too) of the class c: self is a cell meanwhile -/
def endI (n : Nat) (o : OutS) : Out D := match o with
  | .nx _ S => match S[n]? with
    | some d => if locsB n d && locsS n S then .ok d (S.take n) else .bad
    | none => .bad
  | .exc c fs _ S => if locsBs n fs && locsS n S then .exc c fs (S.take n) else .bad
  | _ => .bad
def runIn (c n ns : Nat) (body : Es) : Cl := fun ds S => if ds.length + 1 = n then endI S.length (body (.val (.loc S.length) :: startR (ns - 1) ds) (S ++ [.ins c []])) else .bad
section
variable {L : Lk} {X : Cx} {k : Nat}
variable {pins : List (Addr × Obj)} {s : Shared} {σ : St} {H H1 : Hp} {μ μ0 μ1 : List Addr} {S : List D} {G G0 H0 G1 : Hp} {Q : VK} {W : WX} {ρ : List Sl} {π : Nat → Option Addr}
mutual
theorem R.cut {n : Nat} (h : ∀ (i : Nat) (a : Addr), i < n → μ[i]? = some a → μ0[i]? = some a) : ∀ (d : D) (v : V), locsB n d = true → R L μ G d v → R L μ0 G d v
  | .non, v, _, r => by unfold R at r ⊢; exact r
  | .bl _, v, _, r => by unfold R at r ⊢; exact r
  | .int _, v, _, r => by unfold R at r ⊢; exact r
  | .str _, v, _, r => by unfold R at r ⊢; exact r
  | .cls _, v, _, r => by unfold R at r ⊢; exact r
  | .dct ks xs, v, l, r => by
    unfold R at r ⊢
    simp only [locsB, Bool.and_eq_true] at l
    obtain ⟨a, kvs, e, q, k, rs⟩ := r
    exact ⟨a, kvs, e, q, k, Rs.cut h xs _ l.2 rs⟩
  | .dcT ks xs, v, l, r => by
    unfold R at r ⊢
    unfold locsB at l
    obtain ⟨a, kvs, e, q, k, rs⟩ := r
    exact ⟨a, kvs, e, q, k, Rs.cut h xs _ l rs⟩
  | .tup ds, v, l, r => by
    unfold R at r ⊢
    unfold locsB at l
    obtain ⟨a, vs, e, q, rs⟩ := r
    exact ⟨a, vs, e, q, Rs.cut h ds vs l rs⟩
  | .ktp ds, v, l, r => by
    unfold R at r ⊢
    unfold locsB at l
    obtain ⟨a, vs, e, q, rs⟩ := r
    exact ⟨a, vs, e, q, Rs.cut h ds vs l rs⟩
  | .lst ds, v, l, r => by
    unfold R at r ⊢
    unfold locsB at l
    obtain ⟨a, vs, e, q, rs⟩ := r
    exact ⟨a, vs, e, q, Rs.cut h ds vs l rs⟩
  | .ins c ds, v, l, r => by
    unfold R at r ⊢
    unfold locsB at l
    obtain ⟨a, dx, vs, e, q, z, rs⟩ := r
    exact ⟨a, dx, vs, e, q, z, Rs.cut h ds vs l rs⟩
  | .loc i, v, l, r => by
    unfold R at r ⊢
    unfold locsB at l
    obtain ⟨a, e, q⟩ := r
    exact ⟨a, h i a (of_decide_eq_true l) e, q⟩
theorem Rs.cut {n : Nat} (h : ∀ (i : Nat) (a : Addr), i < n → μ[i]? = some a → μ0[i]? = some a) : ∀ (ds : List D) (vs : List V), locsBs n ds = true → Rs L μ G ds vs → Rs L μ0 G ds vs
  | [], vs, _, r => by unfold Rs at r ⊢; exact r
  | d :: ds, vs, l, r => by
    obtain ⟨v, ws, rfl, rv, rt⟩ := r.cons_inv
    simp only [locsBs, Bool.and_eq_true] at l
    exact Rs.cons (R.cut h d v l.1 rv) (Rs.cut h ds ws l.2 rt)
end
theorem cut_ok {n : Nat} {S' : List D} (e : Ext μ0 G0 H0 μ G H) (st : Stt L μ S' G H) (hn : μ0.length = n) (hl : locsS n S' = true) : Ext μ0 G0 H0 μ0 G H ∧ Stt L μ0 (S'.take n) G H := by
  have pre : ∀ (i : Nat) (a : Addr), i < n → μ[i]? = some a → μ0[i]? = some a := fun i a hi q => by
    obtain ⟨t, c1, _⟩ := e.c
    rw [c1, List.getElem?_append_left (by omega)] at q
    exact q
  refine ⟨⟨⟨[], by simp, fun a m => nomatch m⟩, e.g, e.h, e.n, e.m⟩, st.sub, st.tk, ?_, fun i j a e1 e2 => st.nd i j a (e.pre i a e1) (e.pre j a e2), fun i a d e1 e2 => ?_⟩
  · obtain ⟨t, c1, _⟩ := e.c
    have := st.len
    rw [c1, List.length_append] at this
    rw [List.length_take, hn]
    omega
  · have hi : i < n := by rw [← hn]; exact (List.getElem?_eq_some_iff.mp e1).1
    have e3 : S'[i]? = some d := by rw [List.getElem?_take_of_lt hi] at e2; exact e2
    obtain ⟨g, t⟩ := st.cell i a d (e.pre i a e1) e3
    have mem : ∀ {ds : List D} {d : D}, locsBs n ds = true → d ∈ ds → locsB n d = true := by
      intro ds
      induction ds with
      | nil => intro d _ m; cases m
      | cons x xs ih =>
        intro d l m
        simp only [locsBs, Bool.and_eq_true] at l
        rcases List.mem_cons.mp m with m | m
        · rw [m]; exact l.1
        · exact ih l.2 m
    have ld := mem hl (List.mem_of_getElem? e2)
    refine ⟨g, ?_⟩
    cases d with
    | lst ds =>
      obtain ⟨vs, h, r⟩ := t
      unfold locsB at ld
      exact ⟨vs, h, r.cut pre ds vs ld⟩
    | ins c ds =>
      obtain ⟨dx, vs, h, l, r⟩ := t
      unfold locsB at ld
      exact ⟨dx, vs, h, l, r.cut pre ds vs ld⟩
    | dct ks xs =>
      obtain ⟨kvs, h, hk, r⟩ := t
      simp only [locsB, Bool.and_eq_true] at ld
      exact ⟨kvs, h, hk, r.cut pre xs _ ld.2⟩
    | dcT ks xs =>
      obtain ⟨kvs, h, hk, r⟩ := t
      unfold locsB at ld
      exact ⟨kvs, h, hk, r.cut pre xs _ ld⟩
    | _ => exact t.elim
theorem ext_len {S' : List D} (e : Ext μ0 G0 H0 μ G H) (st : Stt L μ S' G H) (h : S'.length = μ0.length) : μ = μ0 := by
  obtain ⟨t, c1, _⟩ := e.c
  have := st.len
  rw [c1, List.length_append] at this
  have ht : t = [] := List.length_eq_zero_iff.mp (by omega)
  rw [c1, ht, List.append_nil]
theorem locs_get {n : Nat} : ∀ {ds : List D} {i : Nat} {d : D}, locsBs n ds = true → ds[i]? = some d → locsB n d = true
  | [], i, d, l, e => by simp at e
  | x :: xs, 0, d, l, e => by
    simp only [locsBs, Bool.and_eq_true] at l
    simp at e
    subst e
    exact l.1
  | x :: xs, i + 1, d, l, e => by
    simp only [locsBs, Bool.and_eq_true] at l
    exact locs_get l.2 (by simpa using e)
theorem locs_take {n m : Nat} : ∀ {ds : List D}, locsBs n ds = true → locsBs n (ds.take m) = true := by
  intro ds
  induction ds generalizing m with
  | nil => intro _; simp [locsBs]
  | cons x xs ih =>
    intro l
    cases m with
    | zero => simp [locsBs]
    | succ m =>
      simp only [locsBs, Bool.and_eq_true] at l
      rw [List.take_succ_cons]
      simp only [locsBs, Bool.and_eq_true]
      exact ⟨l.1, ih l.2⟩
mutual
theorem R.thaw {n : Nat} {S' : List D} {G2 : Hp} (hl : locsBs n S' = true) (sg : Sub G G2) (hc : ∀ (i : Nat) (a : Addr), n ≤ i → μ[i]? = some a → ∃ o, H a = some o ∧ G2 a = some o) (st : Stt L μ S' G H)
    (h : ∀ (i : Nat) (a : Addr), i < n → μ[i]? = some a → μ0[i]? = some a) : ∀ (d : D) (v : V), noKt d = true → R L μ G d v → R L μ0 G2 (thaw n S' d) v
  | .non, v, _, r => by unfold PyD.thaw; unfold R at r ⊢; exact r
  | .bl _, v, _, r => by unfold PyD.thaw; unfold R at r ⊢; exact r
  | .int _, v, _, r => by unfold PyD.thaw; unfold R at r ⊢; exact r
  | .str _, v, _, r => by unfold PyD.thaw; unfold R at r ⊢; exact r
  | .cls _, v, _, r => by unfold PyD.thaw; unfold R at r ⊢; exact r
  | .ktp ds, v, l, r => by simp [noKt] at l
  | .dct ks xs, v, l, r => by
    unfold PyD.thaw
    unfold R at r ⊢
    unfold noKt at l
    obtain ⟨a, kvs, e, q, k, rs⟩ := r
    exact ⟨a, kvs, e, sg _ _ q, k, Rs.thaw hl sg hc st h xs _ l rs⟩
  | .dcT ks xs, v, l, r => by
    unfold PyD.thaw
    unfold R at r ⊢
    unfold noKt at l
    obtain ⟨a, kvs, e, q, k, rs⟩ := r
    exact ⟨a, kvs, e, sg _ _ q, k, Rs.thaw hl sg hc st h xs _ l rs⟩
  | .tup ds, v, l, r => by
    unfold PyD.thaw
    unfold R at r ⊢
    unfold noKt at l
    obtain ⟨a, vs, e, q, rs⟩ := r
    exact ⟨a, vs, e, sg _ _ q, Rs.thaw hl sg hc st h ds vs l rs⟩
  | .lst ds, v, l, r => by
    unfold PyD.thaw
    unfold R at r ⊢
    unfold noKt at l
    obtain ⟨a, vs, e, q, rs⟩ := r
    exact ⟨a, vs, e, sqlSub sg q, Rs.thaw hl sg hc st h ds vs l rs⟩
  | .ins c ds, v, l, r => by
    unfold PyD.thaw
    unfold R at r ⊢
    unfold noKt at l
    obtain ⟨a, dx, vs, e, q, z, rs⟩ := r
    exact ⟨a, dx, vs, e, sg _ _ q, z, Rs.thaw hl sg hc st h ds vs l rs⟩
  | .loc i, v, l, r => by
    unfold R at r
    obtain ⟨a, e, rfl⟩ := r
    unfold PyD.thaw
    by_cases hi : i < n
    · rw [if_pos hi]
      unfold R
      exact ⟨a, h i a hi e, rfl⟩
    · rw [if_neg hi]
      have hi2 : i < S'.length := by rw [← st.len]; exact (List.getElem?_eq_some_iff.mp e).1
      have e2 : S'[i]? = some (S'.getD i .non) := by rw [List.getD_eq_getElem?_getD, List.getElem?_eq_getElem hi2]; rfl
      obtain ⟨g, t⟩ := st.cell i a _ e e2
      have lc := locs_get hl e2
      obtain ⟨o, ho, hg⟩ := hc i a (by omega) e
      generalize S'.getD i .non = c at t lc
      cases c with
      | lst ds =>
        obtain ⟨vs, q, rs⟩ := t
        rw [ho] at q
        cases q
        unfold locsB at lc
        unfold R
        exact ⟨a, vs, rfl, SqL.of hg, (rs.cut h ds vs lc).sub sg⟩
      | ins c ds =>
        obtain ⟨dx, vs, q, z, rs⟩ := t
        rw [ho] at q
        cases q
        unfold locsB at lc
        unfold R
        exact ⟨a, dx, vs, rfl, hg, z, (rs.cut h ds vs lc).sub sg⟩
      | dct ks xs =>
        obtain ⟨kvs, q, z, rs⟩ := t
        rw [ho] at q
        cases q
        simp only [locsB, Bool.and_eq_true] at lc
        unfold R
        exact ⟨a, kvs, rfl, hg, z, (rs.cut h xs _ lc.2).sub sg⟩
      | dcT ks xs =>
        obtain ⟨kvs, q, z, rs⟩ := t
        rw [ho] at q
        cases q
        unfold locsB at lc
        unfold R
        exact ⟨a, kvs, rfl, hg, z, (rs.cut h xs _ lc).sub sg⟩
      | _ => exact t.elim
theorem Rs.thaw {n : Nat} {S' : List D} {G2 : Hp} (hl : locsBs n S' = true) (sg : Sub G G2) (hc : ∀ (i : Nat) (a : Addr), n ≤ i → μ[i]? = some a → ∃ o, H a = some o ∧ G2 a = some o) (st : Stt L μ S' G H)
    (h : ∀ (i : Nat) (a : Addr), i < n → μ[i]? = some a → μ0[i]? = some a) : ∀ (ds : List D) (vs : List V), noKts ds = true → Rs L μ G ds vs → Rs L μ0 G2 (thaws n S' ds) vs
  | [], vs, _, r => by unfold PyD.thaws; unfold Rs at r ⊢; exact r
  | d :: ds, vs, l, r => by
    obtain ⟨v, ws, rfl, rv, rt⟩ := r.cons_inv
    simp only [noKts, Bool.and_eq_true] at l
    unfold PyD.thaws
    exact Rs.cons (R.thaw hl sg hc st h d v l.1 rv) (Rs.thaw hl sg hc st h ds ws l.2 rt)
end
/-- the heap that is known, the new cells too -/
noncomputable def thawG (n : Nat) (μ : List Addr) (G H : Hp) : Hp := fun a => open Classical in if a ∈ μ.drop n then H a else G a
theorem thaw_ok {n : Nat} {S' : List D} (e : Ext μ0 G0 H0 μ G H) (st : Stt L μ S' G H) (hn : μ0.length = n) (hl : locsS n S' = true) :
    Sub G (thawG n μ G H) ∧ Ext μ0 G0 H0 μ0 (thawG n μ G H) H ∧ Stt L μ0 (S'.take n) (thawG n μ G H) H ∧ ∀ (i : Nat) (a : Addr), n ≤ i → μ[i]? = some a → ∃ o, H a = some o ∧ thawG n μ G H a = some o := by
  obtain ⟨e1, st1⟩ := cut_ok e st hn hl
  have cellOf : ∀ a ∈ μ.drop n, ∃ i, n ≤ i ∧ μ[i]? = some a := fun a m => by
    obtain ⟨j, hj, q⟩ := List.getElem_of_mem m
    rw [List.getElem_drop] at q
    exact ⟨n + j, by omega, by rw [← q, List.getElem?_eq_getElem]⟩
  have none_of : ∀ a ∈ μ.drop n, G a = none ∧ ∃ o, H a = some o := fun a m => by
    obtain ⟨i, hi, q⟩ := cellOf a m
    have hi2 : i < S'.length := by rw [← st.len]; exact (List.getElem?_eq_some_iff.mp q).1
    obtain ⟨g, t⟩ := st.cell i a _ q (List.getElem?_eq_getElem hi2)
    exact ⟨g, t.some⟩
  have sg : Sub G (thawG n μ G H) := fun a o q => by
    unfold thawG
    split
    · rename_i m
      rw [(none_of a m).1] at q; cases q
    · exact q
  have mem0 : ∀ (i : Nat) (a : Addr), μ0[i]? = some a → a ∉ μ.drop n := fun i a q m => by
    obtain ⟨j, hj, q2⟩ := cellOf a m
    have := st.nd i j a (e.pre i a q) q2
    have hi := (List.getElem?_eq_some_iff.mp q).1
    omega
  refine ⟨sg, ⟨e1.c, e1.g.trans sg, e1.h, fun a q g => ?_, e1.m⟩, ⟨fun a o q => ?_, fun a vs q => sg _ _ (st1.tk a vs q), st1.len, st1.nd, fun i a d q1 q2 => ?_⟩, fun i a hi q => ?_⟩
  · have h1 := e1.n a q g
    unfold thawG
    split
    · rename_i m
      obtain ⟨j, hj, q2⟩ := cellOf a m
      obtain ⟨t, c1, c2⟩ := e.c
      have : a ∈ t := by
        rw [c1, List.getElem?_append_right (by omega)] at q2
        exact List.mem_of_getElem? q2
      exact absurd (c2 a this) q
    · exact h1
  · unfold thawG at q
    split at q
    · exact q
    · exact st1.sub a o q
  · obtain ⟨g, t⟩ := st1.cell i a d q1 q2
    refine ⟨?_, t.sub sg rfl⟩
    unfold thawG
    rw [if_neg (mem0 i a q1)]
    exact g
  · have m : a ∈ μ.drop n := by
      have hl := (List.getElem?_eq_some_iff.mp q)
      obtain ⟨h1, h2⟩ := hl
      exact List.mem_iff_getElem.mpr ⟨i - n, by rw [List.length_drop]; omega, by rw [List.getElem_drop, ← h2]; congr 1; omega⟩
    obtain ⟨_, o, ho⟩ := none_of a m
    refine ⟨o, ho, ?_⟩
    unfold thawG
    rw [if_pos m]
    exact ho
theorem dropD_ok {E : XK} {K : D → List D → List Addr → Hp → Hp → Prop} {n : Nat} {d : D} {S' : List D} (hn : μ0.length = n) (p : Post L E μ0 G0 H0 (dropD n d S') K) (e : Ext μ0 G0 H0 μ G H) (st : Stt L μ S' G H) :
    ∃ d' S2 G2, K d' S2 μ0 G2 H ∧ (∀ v, R L μ G d v → R L μ0 G2 d' v) ∧ (d = .non → d' = .non) := by
  unfold dropD at p
  split at p
  · rename_i h
    have := ext_len e st (by rw [h, hn])
    subst this
    exact ⟨d, S', G, p _ G H e st, fun _ r => r, fun z => z⟩
  · have pre : ∀ (i : Nat) (a : Addr), i < n → μ[i]? = some a → μ0[i]? = some a := fun i a hi q => by
      obtain ⟨t, c1, _⟩ := e.c
      rw [c1, List.getElem?_append_left (by omega)] at q
      exact q
    split at p
    · rename_i _ h
      obtain ⟨h1, h2⟩ := Bool.and_eq_true_iff.mp h
      obtain ⟨e2, st2⟩ := cut_ok e st hn h2
      exact ⟨d, S'.take n, G, p _ G H e2 st2, fun v r => r.cut pre d v h1, fun z => z⟩
    · split at p
      · rename_i _ _ h
        obtain ⟨h1, h2⟩ := Bool.and_eq_true_iff.mp h
        obtain ⟨sg, e2, st2, hc⟩ := thaw_ok e st hn (locs_take h1)
        exact ⟨_, S'.take n, _, p _ _ H e2 st2, fun v r => R.thaw h1 sg hc st pre d v h2 r, fun z => by rw [z]; rfl⟩
      · exact p.elim
theorem dropX_ok {E : XK} {K : D → List D → List Addr → Hp → Hp → Prop} {n c : Nat} {fs : List D} {S' : List D} (hn : μ0.length = n) (p : Post L E μ0 G0 H0 (dropX n c fs S') K) (e : Ext μ0 G0 H0 μ G H) (st : Stt L μ S' G H) {cls : Value} {d : Option Addr} (r : ExcR L μ G H c fs cls d) : E cls d H := by
  unfold dropX at p
  split at p
  · rename_i h
    have := ext_len e st (by rw [h, hn])
    subst this
    exact p cls d _ G H e st r
  · split at p
    · rename_i _ h
      obtain ⟨h1, h2⟩ := Bool.and_eq_true_iff.mp h
      obtain ⟨e2, st2⟩ := cut_ok e st hn h2
      have pre : ∀ (i : Nat) (a : Addr), i < n → μ[i]? = some a → μ0[i]? = some a := fun i a hi q => by
        obtain ⟨t, c1, _⟩ := e.c
        rw [c1, List.getElem?_append_left (by omega)] at q
        exact q
      refine p cls d _ G H e2 st2 ⟨r.1, ?_⟩
      cases d with
      | none => exact r.2
      | some x =>
        obtain ⟨vs, a1, a2, a3⟩ := r.2
        exact ⟨vs, a1, a2, a3.cut pre fs vs h1⟩
    · exact p.elim
/-- the locals at the entry -/
theorem start_get {N : Nat} {ds : List D} {i : Nat} {x : Sl} (e : (startR N ds)[i]? = some x) : (∃ d, x = .val d ∧ ds[i]? = some d) ∨ x = .emp := by
  unfold startR at e
  by_cases h : i < ds.length
  · rw [List.getElem?_append_left (by rw [List.length_map]; exact h), List.getElem?_map] at e
    obtain ⟨d, e1, e2⟩ := Option.map_eq_some_iff.mp e
    exact .inl ⟨d, e2.symm, e1⟩
  · rw [List.getElem?_append_right (by rw [List.length_map]; omega)] at e
    have := List.mem_of_getElem? e
    rw [List.mem_replicate] at this
    exact .inr this.2
theorem rel_start {N : List Str} {ds : List D} {vs : List V} (r : Rs L μ G ds vs) : Rel L μ G H (L2.start N vs) (startR N.length ds) (fun _ => none) := by
  refine ⟨fun i d e => ?_, fun i d e => ?_, fun i j p e => (nomatch e), fun i p e => (nomatch e), ?_⟩
  · rcases start_get e with ⟨d', e1, e2⟩ | e1
    · cases e1
      obtain ⟨v, h1, h2⟩ := r.get e2
      refine ⟨v, ?_, h2⟩
      unfold L2.start
      rw [List.getElem?_append_left (by rw [List.length_map]; exact (List.getElem?_eq_some_iff.mp h1).1), List.getElem?_map, h1]
      rfl
    · cases e1
  · rcases start_get e with ⟨d', e1, e2⟩ | e1
    · cases e1
    · cases e1
  · unfold startR L2.start
    rw [List.length_append, List.length_append, List.length_map, List.length_map, List.length_replicate, List.length_replicate, r.length]
/-- THE RULE for a def -/
theorem fn_ok {x qual : Str} {sd : Stmt} {f : Addr} {fd : FuncData} {N ps : List Str} {P : Program} {w : World} {mg : Str → Option Value} {base : Heap} {body : Es} (F : Fun L.K x qual sd f fd) (hS : FnScope N ps (defScope sd))
    (hb : ∀ X : Cx, X.prog = P → X.w = w → X.K = L.K → X.mg = mg → X.base = base → X.N = N → X.env.scope = defScope sd → X.calm = true → X.fn = (fun _ => true) → Room k X.A → PassesOwn (model X.prog X.w) X.A X.env X.xe → ∀ W, Takes X W → PSs X (defBody sd) (tS L W body)) :
    FnOk P w L.K mg base (CX P w) (k + 1) f fd ps (spD L ps.length (runFn ps.length N.length body)) := by
  refine F.okX hS (fun vs H Q E h => ?_) (fun cdv A outer s H vs Q E hr h => ?_)
  · obtain ⟨μ, S, G, ds, st, rs, hl, p⟩ := h
    exact hl
  · obtain ⟨μ, S, G, ds, st, rs, hl, p⟩ := h
    refine ⟨_, hb _ rfl rfl rfl rfl rfl rfl rfl rfl rfl hr (passes_of rfl) (fun cls d _ H => E cls d H) (takes_of rfl rfl rfl rfl), μ, G, H, startR N.length ds, S, ⟨μ, G, fun _ => none, .refl _ _ _, st, rel_start rs, fun i p e => nomatch e⟩, ?_⟩
    unfold runFn at p
    rw [if_pos (by rw [← rs.length]; exact hl)] at p
    cases e : body (startR N.length ds) S with
    | nx ρ S' =>
      rw [e] at p
      intro σ' H' ⟨μ', G', π', e1, st1, rel1, fr1⟩
      obtain ⟨d', S2, G2, q, c1, c2⟩ := dropD_ok st.len p e1 st1
      exact q .non (by rw [c2 rfl]; unfold R; rfl)
    | rt d S' =>
      rw [e] at p
      intro v H' ⟨μ', G', e1, st1, r1⟩
      obtain ⟨d', S2, G2, q, c1, c2⟩ := dropD_ok st.len p e1 st1
      exact q v (c1 v r1)
    | exc c fs ρ S' =>
      rw [e] at p
      exact fun cls d σ μ' G' H' π' e1 st1 rel1 fr1 r => dropX_ok st.len p e1 st1 r
    | bk ρ S' => rw [e] at p; exact p.elim
    | ct ρ S' => rw [e] at p; exact p.elim
    | bad => rw [e] at p; exact p.elim
/-- an __init__'s end: the cells but the ahead ones dropped -/
theorem cut_ini {n : Nat} {x : Addr} {S' : List D} (e : Ext (μ0 ++ [x]) G0 H0 μ G H) (st : Stt L μ S' G H) (hn : μ0.length = n) (hl : locsS n S' = true) : Ext μ0 G0 (hidA x H0) μ0 G H ∧ Stt L μ0 (S'.take n) G H := by
  have e2 : Ext μ0 G0 (hidA x H0) μ G H := by
    obtain ⟨t, c1, c2⟩ := e.c
    have hh : ∀ a o, hidA x H0 a = some o → H0 a = some o ∧ a ≠ x := fun a o q => by
      unfold hidA at q
      split at q
      · cases q
      · rename_i z; exact ⟨q, z⟩
    refine ⟨⟨[x] ++ t, by rw [c1, List.append_assoc], fun a m => ?_⟩, e.g, fun a o q m => ?_, fun a q => ?_, fun a q => ?_⟩
    · unfold hidA
      split
      · rfl
      · rename_i z
        rcases List.mem_append.mp m with m | m
        · exact absurd (List.mem_singleton.mp m) z
        · exact c2 a m
    · obtain ⟨q1, q2⟩ := hh a o q
      refine e.h a o q1 fun m2 => ?_
      rcases List.mem_append.mp m2 with m2 | m2
      · exact m m2
      · exact q2 (List.mem_singleton.mp m2)
    · refine e.n a fun z => q ?_
      unfold hidA
      split
      · rfl
      · exact z
    · refine e.m a fun z => q ?_
      unfold hidA
      split
      · rfl
      · exact z
  exact cut_ok e2 st hn hl
theorem init_ok {x qual : Str} {sd : Stmt} {f : Addr} {fd : FuncData} {N ps : List Str} {P : Program} {w : World} {mg : Str → Option Value} {base : Heap} {body : Es} {cn : Nat} (F : Fun L.K x qual sd f fd) (hS : FnScope N ps (defScope sd))
    (hb : ∀ X : Cx, X.prog = P → X.w = w → X.K = L.K → X.mg = mg → X.base = base → X.N = N → X.env.scope = defScope sd → X.calm = true → X.fn = (fun _ => true) → Room k X.A → PassesOwn (model X.prog X.w) X.A X.env X.xe → ∀ W, Takes X W → PSs X (defBody sd) (tS L W body)) :
    FnOk P w L.K mg base (CX P w) (k + 1) f fd ps (spI L ps.length cn (runIn cn ps.length N.length body)) := by
  refine F.okX hS (fun vs H Q E h => ?_) (fun cdv A outer s H vs Q E hr h => ?_)
  · obtain ⟨μ, S, G, ds, x, dx, ws, e, st, rs, hl, _⟩ := h
    exact hl
  · obtain ⟨μ, S, G, ds, x, dx, ws, rfl, st, rs, hl, hx, gx, mx, p⟩ := h
    have t0 : Top L μ G H (.ins cn []) x := ⟨dx, [], by rw [List.zip_nil_right]; exact hx, Nat.zero_le _, Rs.nil⟩
    have st1 := st.cell1 t0 gx mx
    have pre : ∀ (i : Nat) (a : Addr), μ[i]? = some a → (μ ++ [x])[i]? = some a := fun i a e => by rw [List.getElem?_append_left (List.getElem?_eq_some_iff.mp e).1]; exact e
    have r0 : R L (μ ++ [x]) G (.loc S.length) (.ref x) := by unfold R; exact ⟨x, by rw [← st.len]; simp, rfl⟩
    have r1 : Rs L (μ ++ [x]) G (.loc S.length :: ds) (.ref x :: ws) := Rs.cons r0 (Rs.mono pre (.refl _) _ _ rs)
    have hlen : ds.length + 1 = ps.length := by rw [← hl, List.length_cons, rs.length]
    have hs : startR N.length (.loc S.length :: ds) = .val (.loc S.length) :: startR (N.length - 1) ds := by
      unfold startR
      rw [List.map_cons, List.cons_append, List.length_cons, Nat.sub_sub, Nat.add_comm 1]
    refine ⟨_, hb _ rfl rfl rfl rfl rfl rfl rfl rfl rfl hr (passes_of rfl) (fun cls d _ H => E cls d H) (takes_of rfl rfl rfl rfl), μ ++ [x], G, H, startR N.length (.loc S.length :: ds), S ++ [.ins cn []], ⟨μ ++ [x], G, fun _ => none, .refl _ _ _, st1, rel_start r1, fun i p e => nomatch e⟩, ?_⟩
    unfold runIn at p
    rw [if_pos hlen] at p
    rw [hs]
    cases e : body (.val (.loc S.length) :: startR (N.length - 1) ds) (S ++ [.ins cn []]) with
    | nx ρ S' =>
      rw [e] at p
      intro σ' H' ⟨μ', G', π', e1, st', rel1, fr1⟩
      unfold endI at p
      dsimp only at p
      cases ed : S'[S.length]? with
      | none => rw [ed] at p; exact p.elim
      | some d =>
        rw [ed] at p
        dsimp only at p
        split at p
        · rename_i hh
          obtain ⟨h1, h2⟩ := Bool.and_eq_true_iff.mp hh
          obtain ⟨e2, st2⟩ := cut_ini e1 st' st.len h2
          have ex : μ'[S.length]? = some x := e1.pre _ _ (by rw [← st.len]; simp)
          obtain ⟨g', t'⟩ := st'.cell _ _ _ ex ed
          have cut : ∀ (i : Nat) (a : Addr), i < S.length → μ'[i]? = some a → μ[i]? = some a := fun i a hi q => by
            obtain ⟨t, c1, _⟩ := e1.c
            rw [c1, List.append_assoc, List.getElem?_append_left (by rw [st.len]; exact hi)] at q
            exact q
          refine p _ _ _ e2 st2 ?_ g' mx
          cases d with
          | lst ds =>
            obtain ⟨vs, h, r⟩ := t'
            unfold locsB at h1
            exact ⟨vs, h, r.cut cut ds vs h1⟩
          | ins c ds =>
            obtain ⟨dx, vs, h, l, r⟩ := t'
            unfold locsB at h1
            exact ⟨dx, vs, h, l, r.cut cut ds vs h1⟩
          | dct ks xs =>
            obtain ⟨kvs, h, hk, r⟩ := t'
            simp only [locsB, Bool.and_eq_true] at h1
            exact ⟨kvs, h, hk, r.cut cut xs _ h1.2⟩
          | dcT ks xs =>
            obtain ⟨kvs, h, hk, r⟩ := t'
            unfold locsB at h1
            exact ⟨kvs, h, hk, r.cut cut xs _ h1⟩
          | _ => exact t'.elim
        · exact p.elim
    | exc c fs ρ S' =>
      rw [e] at p
      intro cls d σ μ' G' H' π' e1 st' rel1 fr1 r
      unfold endI at p
      dsimp only at p
      split at p
      · rename_i hh
        obtain ⟨h1, h2⟩ := Bool.and_eq_true_iff.mp hh
        obtain ⟨e2, st2⟩ := cut_ini e1 st' st.len h2
        have cut : ∀ (i : Nat) (a : Addr), i < S.length → μ'[i]? = some a → μ[i]? = some a := fun i a hi q => by
          obtain ⟨t, c1, _⟩ := e1.c
          rw [c1, List.append_assoc, List.getElem?_append_left (by rw [st.len]; exact hi)] at q
          exact q
        refine p cls d _ G' H' e2 st2 ⟨r.1, ?_⟩
        cases d with
        | none => exact r.2
        | some x =>
          obtain ⟨vs, a1, a2, a3⟩ := r.2
          exact ⟨vs, a1, a2, a3.cut cut fs vs h1⟩
      · exact p.elim
    | rt d S' => rw [e] at p; exact p.elim
    | bk ρ S' => rw [e] at p; exact p.elim
    | ct ρ S' => rw [e] at p; exact p.elim
    | bad => rw [e] at p; exact p.elim
end
end PyD

/-! PyD: dicts. -/
namespace PyD
open PySem L2
def isKey : Key → D → Bool
  | .inl i, .int j => decide (i = j)
  | .inr x, .str y => decide (x = y)
  | _, _ => false
def keyOf : D → Option Key
  | .int i => some (.inl i)
  | .str x => some (.inr x)
  | _ => none
def dGet : List D → List D → Key → Option D
  | d :: ks, x :: xs, k => if isKey k d then some x else dGet ks xs k
  | _, _, _ => none
def dSet : List D → List D → Key → D → List D
  | d :: ks, x :: xs, k, v => (if isKey k d then v else x) :: dSet ks xs k v
  | _, _, _, _ => []
def dPut (ks xs : List D) (k : Key) (v : D) : List D × List D := if ks.any (isKey k) then (ks, dSet ks xs k v) else (ks ++ [keyD k], xs ++ [v])
section
variable {L : Lk} {X : Cx} {k : Nat}
variable {pins : List (Addr × Obj)} {s : Shared} {σ : St} {H : Hp} {E : XK} {μ : List Addr} {S : List D} {G : Hp} {Q : VK} {W : WX} {ρ : List Sl} {π : Nat → Option Addr}
theorem isKey_iff (a b : Key) : isKey a (keyD b) = decide (b = a) := by
  cases a <;> cases b <;> simp [isKey, keyD, eq_comm]
theorem keyOf_r {d : D} {key : Key} {v : V} (h : keyOf d = some key) (r : R L μ G d v) : v = kV key := by
  cases d with
  | int i => cases h; unfold R at r; exact r
  | str x => cases h; unfold R at r; exact r
  | _ => cases h
theorem keyOf_d {d : D} {key : Key} (h : keyOf d = some key) : keyD key = d := by
  cases d with
  | int i => cases h; rfl
  | str x => cases h; rfl
  | _ => cases h
theorem get_rs : ∀ {kvs : List (Key × V)} {xs : List D} {key : Key}, Rs L μ G xs (kvs.map (·.2)) →
    match dGet (kvs.map fun p => keyD p.1) xs key with
    | some d => ∃ v, valV kvs key = some v ∧ R L μ G d v
    | none => valV kvs key = none
  | [], xs, key, r => by
    cases xs with
    | nil => rfl
    | cons x xs => obtain ⟨v, ws, e, _⟩ := r.cons_inv; cases e
  | p :: kvs, xs, key, r => by
    cases xs with
    | nil => have := r.nil_inv; cases this
    | cons x xs =>
      obtain ⟨v, ws, e, rv, rt⟩ := r.cons_inv
      rw [List.map_cons] at e
      injection e with e1 e2
      subst e1 e2
      rw [List.map_cons]
      show match (if isKey key (keyD p.1) then some x else dGet _ xs key) with | some d => _ | none => _
      rw [isKey_iff]
      by_cases h : p.1 = key
      · rw [if_pos (decide_eq_true h)]
        exact ⟨p.2, valV_pos h, rv⟩
      · rw [if_neg (by rw [decide_eq_false h]; exact Bool.false_ne_true), valV_neg h]
        exact get_rs rt
theorem put_rs {kvs : List (Key × V)} {xs : List D} {key : Key} {d : D} {v : V} (r : Rs L μ G xs (kvs.map (·.2))) (rv : R L μ G d v) :
    (putK kvs key v).map (fun p => keyD p.1) = (dPut (kvs.map fun p => keyD p.1) xs key d).1 ∧ Rs L μ G (dPut (kvs.map fun p => keyD p.1) xs key d).2 ((putK kvs key v).map (·.2)) := by
  have ha : (kvs.map fun p => keyD p.1).any (isKey key) = kvs.any fun kv => decide (kv.1 = key) := by
    rw [List.any_map]
    congr 1
    funext p
    exact isKey_iff key p.1
  unfold dPut putK
  rw [ha]
  by_cases h : (kvs.any fun kv => decide (kv.1 = key)) = true
  · rw [if_pos h, if_pos h]
    constructor
    · rw [List.map_map]
      apply List.map_congr_left
      intro p _
      show keyD (if p.1 = key then (p.1, v) else p).1 = keyD p.1
      split <;> rfl
    · clear h ha
      induction kvs generalizing xs with
      | nil =>
        cases xs with
        | nil => exact Rs.nil
        | cons x xs => obtain ⟨v, ws, e, _⟩ := r.cons_inv; cases e
      | cons p kvs ih =>
        cases xs with
        | nil => have := r.nil_inv; cases this
        | cons x xs =>
          obtain ⟨u, ws, e, ru, rt⟩ := r.cons_inv
          rw [List.map_cons] at e
          injection e with e1 e2
          subst e1 e2
          rw [List.map_cons, List.map_cons, List.map_cons]
          show Rs L μ G ((if isKey key (keyD p.1) then d else x) :: dSet _ xs key d) _
          rw [isKey_iff]
          refine Rs.cons ?_ (ih rt)
          by_cases h : p.1 = key
          · rw [if_pos (decide_eq_true h), if_pos h]; exact rv
          · rw [if_neg (by rw [decide_eq_false h]; exact Bool.false_ne_true), if_neg h]; exact ru
  · rw [if_neg h, if_neg h]
    constructor
    · rw [List.map_append]; rfl
    · rw [List.map_append]
      exact r.append (Rs.cons rv Rs.nil)
theorem Vw.dcts (sb : Sub G H) {ks xs : List D} {v : V} (h : Vw L μ G H (.dct ks xs) v) : ∃ a kvs, v = .ref a ∧ H a = some (.dK kvs) ∧ kvs.map (fun p => keyD p.1) = ks ∧ Rs L μ G xs (kvs.map (·.2)) := by
  cases h with
  | val h n =>
    unfold R at h
    obtain ⟨a, kvs, e, q, k, r⟩ := h
    exact ⟨a, kvs, e, sb _ _ q, k, r⟩
  | top p e t =>
    obtain ⟨kvs, h, k, r⟩ := t
    exact ⟨p, kvs, e, h, k, r⟩
  | kt _ _ _ hd => cases hd
theorem Vw.dcTs (sb : Sub G H) {ks : List (List Key)} {xs : List D} {v : V} (h : Vw L μ G H (.dcT ks xs) v) : ∃ a kvs, v = .ref a ∧ H a = some (.dT kvs) ∧ kvs.map (·.1) = ks ∧ Rs L μ G xs (kvs.map (·.2)) := by
  cases h with
  | val h n =>
    unfold R at h
    obtain ⟨a, kvs, e, q, k, r⟩ := h
    exact ⟨a, kvs, e, sb _ _ q, k, r⟩
  | top p e t =>
    obtain ⟨kvs, h, k, r⟩ := t
    exact ⟨p, kvs, e, h, k, r⟩
  | kt _ _ _ hd => cases hd
/-- d[k] -/
def opDIx (x y : D) (S : List D) : Out D := match dr S x with
  | .dct ks xs => match keyOf y with
    | some k => okD (dGet ks xs k) S
    | none => .bad
  | _ => .bad
theorem to_dix {a b : Expr} {pos : Pos} {fa fb : Ef D} (hu : X.A.units + 1 < cLine) (ha : PE X a (tB L W fa)) (hb : PE X b (tO L W fb)) (hs : NoSl b) : PE X (.Subscript a b pos) (tO L W (fTwo opDIx fa fb)) :=
  (pe_dget hu ha hb hs).to fun σ H Q h => by
    obtain ⟨μ, S, G, ρ, π, st, rel, p⟩ := h
    refine ⟨μ, S, G, ρ, π, st, rel, p.split.imp fun x S1 μ1 G1 H1 e1 st1 p1 v rv => ?_⟩
    refine ⟨μ1, S1, G1, ρ, π, st1, rel.ext e1, p1.split.imp fun y S2 μ2 G2 H2 e2 st2 p2 u ru => ?_⟩
    have vx := (rv.ext e2).vw st2
    unfold opDIx at p2
    split at p2
    · rename_i ks xs e
      rw [e] at vx
      split at p2
      · rename_i key ek
        obtain ⟨d, ed, p2⟩ := okD_some p2
        obtain ⟨c, kvs, rfl, hc, hk, rs⟩ := vx.dcts st2.sub
        have g := get_rs (key := key) rs
        rw [hk, ed] at g
        obtain ⟨z, ez, rz⟩ := g
        refine ⟨c, z, rfl, ?_, ko_old st2 rz p2⟩
        rw [← ez, keyOf_r ek ru]
        exact DGet.k hc
      · exact p2.elim
    · exact p2.elim
def opDLen (x : D) (S : List D) : Out D := match dr S x with
  | .dct ks _ => .ok (.int ks.length) S
  | _ => .bad
theorem so_dlen : CallR X (.builtin "len") (rC1 L opDLen) := cr_of fun {pins s σ H x v a E μ S G Q} I r st vx rx p => by
  unfold opDLen at p
  split at p
  · rename_i ks xs e
    rw [e] at vx
    obtain ⟨c, kvs, rfl, hc, hk, rs⟩ := vx.dcts st.sub
    refine call_lenD pins s σ H _ _ Q I r ⟨c, kvs, rfl, hc, ?_⟩
    have : ks.length = kvs.length := by rw [← hk, List.length_map]
    rw [← this]
    exact ko_int st p
  · exact p.elim
/-- {a: b for tg in it if c} -/
def dcLoop (tg : Tg) (c : Ef Bool) (a b : Ef D) (ρ : List Sl) : List D → List D → List D → List D → Out (List D × List D)
  | [], ks, xs, S => .ok (ks, xs) S
  | x :: rest, ks, xs, S => match bindT tg x ρ with
    | none => .bad
    | some ρ1 => match c ρ1 S with
      | .ok true S1 => match a ρ1 S1 with
        | .ok y S2 => match b ρ1 S2 with
          | .ok z S3 => match keyOf y with
            | some k => dcLoop tg c a b ρ rest (dPut ks xs k z).1 (dPut ks xs k z).2 S3
            | none => .bad
          | _ => .bad
        | _ => .bad
      | .ok false S1 => dcLoop tg c a b ρ rest ks xs S1
      | _ => .bad
def fDc (tg : Tg) (vs : List Nat) (it : Ef (List D)) (c : Ef Bool) (a b : Ef D) : Ef D := fun ρ S => (it ρ S).bind fun ds S1 => if ds.length < LIM then (match dcLoop tg c a b (wipeR ρ vs) ds [] [] S1 with
  | .ok y S2 => .ok (.dct y.1 y.2) S2
  | _ => .bad) else .bad
def DcI (L : Lk) (tg : Tg) (c : Ef Bool) (a b : Ef D) (ρ : List Sl) (ds : List D) (μ1 : List Addr) (G1 H1 : Hp) (Dl : Addr) (fin : List D × List D) (Sf : List D) (i m : Nat) (H : Hp) : Prop :=
  m = ds.length - i ∧ i ≤ ds.length ∧ ∃ μ G S kvs xs, Ext μ1 G1 H1 μ G H ∧ Stt L μ S G H ∧ H Dl = some (.dK kvs) ∧ kvs.length ≤ i ∧ Rs L μ G xs (kvs.map (·.2)) ∧ G Dl = none ∧ Dl ∉ μ ∧ dcLoop tg c a b ρ (ds.drop i) (kvs.map fun p => keyD p.1) xs S = .ok fin Sf
theorem to_dc {tg : Tg} {vs : List Nat} {it : Ef (List D)} {c : Ef Bool} {a b : Ef D} {K : PySem.W.Frag} (hK : K = L.K) (hv : ∀ i ∈ tgSlots tg, i ∈ vs) (h : tF L W (fDc tg vs it c a b) σ H Q) :
    tDc (tI L W it) (gOf K tg) (tT L WF c) (tO L WF a) (tO L WF b) vs σ H Q := by
  obtain ⟨μ, S, G, ρ, π, st, rel, p⟩ := h
  refine ⟨μ, S, G, ρ, π, st, rel, (Post.split p).imp fun ds S1 μ1 G1 H1 e1 st1 p1 J y Dl hD => ?_⟩
  by_cases hlim : ds.length < LIM
  case neg => rw [if_neg hlim] at p1; exact p1.elim
  rw [if_pos hlim] at p1
  cases hl : dcLoop tg c a b (wipeR ρ vs) ds [] [] S1 with
  | bad => rw [hl] at p1; exact p1.elim
  | exc _ _ _ => rw [hl] at p1; exact p1.elim
  | ok fin Sf =>
    rw [hl] at p1
    dsimp only at p1
    have rel1 := (rel.ext e1).wipe vs
    obtain ⟨g1, m1⟩ := st1.fresh hD
    obtain ⟨eD, stD⟩ := st1.lay (o := .dK []) hD
    refine ⟨DcI L tg c a b (wipeR ρ vs) ds μ1 G1 H1 Dl fin Sf, ⟨_, rfl, Nat.zero_le _, μ1, G1, S1, [], [], eD, stD, upd_same, Nat.le_refl _, Rs.nil, g1, m1, hl⟩, ?_⟩
    rintro i m H2 ⟨rfl, hi, μ2, G2, S2, kvs, xs, e2, st2, hL, hkl, ra, g2, m2, hrest⟩
    obtain ⟨y1, y2, y3⟩ := y i μ2 G2 H2 e2 st2.sub
    by_cases hlt : i < ds.length
    · refine .inr ⟨y1 hlt, fun H' => ∃ m', m' < ds.length - i ∧ DcI L tg c a b (wipeR ρ vs) ds μ1 G1 H1 Dl fin Sf (i + 1) m' H', fun H' q => q, fun x H3 gx => ?_⟩
      obtain ⟨d, ed, gv⟩ := y3 x H3 hlt gx
      rw [drop_get ed] at hrest
      unfold dcLoop at hrest
      cases hb : bindT tg d (wipeR ρ vs) with
      | none => rw [hb] at hrest; cases hrest
      | some ρ1 =>
        rw [hb] at hrest
        dsimp only at hrest
        refine gives_ok (S := S2) hK st2 hb gv (rel1.ext e2) fun G3 σ1 π1 e3 st3 rel3 k1 k2 k3 => ⟨wipe_same (fun j hj => k1 j fun z => hj (hv j z)) k2, ?_⟩
        have hL3 := e3.h _ _ hL m2
        have g3 : G3 Dl = none := e3.n _ (by rw [hL]; exact fun z => nomatch z) g2
        cases hc : c ρ1 S2 with
        | bad => rw [hc] at hrest; cases hrest
        | exc _ _ _ => rw [hc] at hrest; cases hrest
        | ok bb S3 =>
          rw [hc] at hrest
          refine ⟨μ2, S2, G3, ρ1, π1, st3, rel3, ?_⟩
          rw [hc]
          intro μ4 G4 H4 e4 st4
          have hL4 := e4.h _ _ hL3 m2
          have g4 : G4 Dl = none := e4.n _ (by rw [hL3]; exact fun z => nomatch z) g3
          have m4 : Dl ∉ μ4 := e4.out hL3 m2
          cases bb with
          | false =>
            dsimp only at hrest
            show ∃ m', m' < ds.length - i ∧ DcI L tg c a b (wipeR ρ vs) ds μ1 G1 H1 Dl fin Sf (i + 1) m' H4
            exact ⟨ds.length - (i + 1), by omega, rfl, hlt, μ4, G4, S3, kvs, xs, (e2.trans e3).trans e4, st4, hL4, by omega, (ra.ext e3).ext e4, g4, m4, hrest⟩
          | true =>
            dsimp only at hrest
            cases he : a ρ1 S3 with
            | bad => rw [he] at hrest; cases hrest
            | exc _ _ _ => rw [he] at hrest; cases hrest
            | ok y S4 =>
              rw [he] at hrest
              dsimp only at hrest
              show tO L WF a σ1 H4 _
              refine ⟨μ4, S3, G4, ρ1, π1, st4, rel3.ext e4, ?_⟩
              rw [he]
              intro μ5 G5 H5 e5 st5 v rv
              have hL5 := e5.h _ _ hL4 m4
              have g5 : G5 Dl = none := e5.n _ (by rw [hL4]; exact fun z => nomatch z) g4
              have m5 : Dl ∉ μ5 := e5.out hL4 m4
              cases hz : b ρ1 S4 with
              | bad => rw [hz] at hrest; cases hrest
              | exc _ _ _ => rw [hz] at hrest; cases hrest
              | ok z S5 =>
                rw [hz] at hrest
                dsimp only at hrest
                refine ⟨μ5, S4, G5, ρ1, π1, st5, (rel3.ext e4).ext e5, ?_⟩
                rw [hz]
                intro μ6 G6 H6 e6 st6 w rw'
                cases hk : keyOf y with
                | none => rw [hk] at hrest; cases hrest
                | some key =>
                  rw [hk] at hrest
                  dsimp only at hrest
                  have hL6 := e6.h _ _ hL5 m5
                  have g6 : G6 Dl = none := e6.n _ (by rw [hL5]; exact fun z => nomatch z) g5
                  have m6 : Dl ∉ μ6 := e6.out hL5 m5
                  have ra6 := (((ra.ext e3).ext e4).ext e5).ext e6
                  obtain ⟨q1, q2⟩ := put_rs (key := key) ra6 rw'
                  refine ⟨kvs, key, keyOf_r hk rv, hL6, by rw [lim_eq]; omega, ds.length - (i + 1), by omega, rfl, hlt, μ6, G6, S5, putK kvs key w, (dPut (kvs.map fun p => keyD p.1) xs key z).2, ((((e2.trans e3).trans e4).trans e5).trans e6).upd hD, st6.upd g6 m6, upd_same, ?_, q2, g6, m6, by rw [q1]; exact hrest⟩
                  have := length_putK kvs key w
                  omega
    · refine .inl ⟨y2 (by omega), ?_⟩
      have e0 : ds.drop i = [] := List.drop_eq_nil_iff.mpr (by omega)
      rw [e0] at hrest
      unfold dcLoop at hrest
      cases hrest
      refine p1 _ _ _ e2 st2 Dl ⟨kvs, hL, rfl, ra⟩ g2 ?_ m2
      cases q : H Dl with
      | none => rfl
      | some o => exact absurd hD (e1.m Dl (by rw [q]; exact fun z => nomatch z))
end
end PyD

/-! PyD: list comprehensions of two clauses. -/
namespace PyD
open PySem L2
def lc2Loop (tg : Tg) (c : Ef Bool) (vs1 : List Nat) (it1 : Ef (List D)) (tg1 : Tg) (c1 : Ef Bool) (e : Ef D) (ρ : List Sl) : List D → List D → Out (List D)
  | [], S => .ok [] S
  | x :: xs, S => match bindT tg x ρ with
    | none => .bad
    | some ρ1 => match c ρ1 S with
      | .ok true S1 => match it1 ρ1 S1 with
        | .ok ds1 S2 => match lcLoop tg1 c1 e (wipeR ρ1 vs1) ds1 S2 with
          | .ok ys S3 => match lc2Loop tg c vs1 it1 tg1 c1 e ρ xs S3 with
            | .ok zs S4 => .ok (ys ++ zs) S4
            | _ => .bad
          | _ => .bad
        | _ => .bad
      | .ok false S1 => lc2Loop tg c vs1 it1 tg1 c1 e ρ xs S1
      | _ => .bad
def fLc2 (tg : Tg) (vs : List Nat) (it : Ef (List D)) (c : Ef Bool) (vs1 : List Nat) (it1 : Ef (List D)) (tg1 : Tg) (c1 : Ef Bool) (e : Ef D) : Ef D := fun ρ S => (it ρ S).bind fun ds S1 => match lc2Loop tg c vs1 it1 tg1 c1 e (wipeR ρ vs) ds S1 with
  | .ok ys S2 => if ys.length ≤ LIM then .ok (.lst ys) S2 else .bad
  | _ => .bad
section
variable {L : Lk} {X : Cx} {k : Nat}
variable {pins : List (Addr × Obj)} {s : Shared} {σ : St} {H : Hp} {E : XK} {μ : List Addr} {S : List D} {G : Hp} {Q : VK} {W : WX} {ρ : List Sl} {π : Nat → Option Addr}
def Lc2I (L : Lk) (lp : List D → List D → Out (List D)) (ds : List D) (μ1 : List Addr) (G1 H1 : Hp) (Dl : Addr) (fin : List D) (Sf : List D) (i m : Nat) (H : Hp) : Prop :=
  m = ds.length - i ∧ i ≤ ds.length ∧ ∃ μ G S acc vs ys, Ext μ1 G1 H1 μ G H ∧ Stt L μ S G H ∧ H Dl = some (.lst vs) ∧ Rs L μ G acc vs ∧ G Dl = none ∧ Dl ∉ μ ∧ lp (ds.drop i) S = .ok ys Sf ∧ acc ++ ys = fin
theorem to_lc2 {tg tg1 : Tg} {vs vs1 : List Nat} {it it1 : Ef (List D)} {c c1 : Ef Bool} {e : Ef D} {K : PySem.W.Frag} (hK : K = L.K) (hv : ∀ i ∈ tgSlots tg, i ∈ vs) (hv1 : ∀ i ∈ tgSlots tg1, i ∈ vs1) (h : tF L W (fLc2 tg vs it c vs1 it1 tg1 c1 e) σ H Q) :
    tLc2 (tI L W it) (gOf K tg) (tT L WF c) (tIG L WF it1) (gOf K tg1) (tT L WF c1) (tO L WF e) vs vs1 σ H Q := by
  obtain ⟨μ, S, G, ρ, π, st, rel, p⟩ := h
  refine ⟨μ, S, G, ρ, π, st, rel, (Post.split p).imp fun ds S1 μ1 G1 H1 e1 st1 p1 J y Dl hD => ?_⟩
  cases hl : lc2Loop tg c vs1 it1 tg1 c1 e (wipeR ρ vs) ds S1 with
  | bad => rw [hl] at p1; exact p1.elim
  | exc _ _ _ => rw [hl] at p1; exact p1.elim
  | ok fin Sf =>
    rw [hl] at p1
    have hz : fin.length ≤ LIM := by
      by_cases z : fin.length ≤ LIM
      · exact z
      · exact (show False by dsimp only at p1; rw [if_neg z] at p1; exact p1).elim
    dsimp only at p1
    rw [if_pos hz] at p1
    have rel1 := (rel.ext e1).wipe vs
    obtain ⟨g1, m1⟩ := st1.fresh hD
    obtain ⟨eD, stD⟩ := st1.lay (o := .lst []) hD
    refine ⟨Lc2I L (lc2Loop tg c vs1 it1 tg1 c1 e (wipeR ρ vs)) ds μ1 G1 H1 Dl fin Sf, ⟨_, rfl, Nat.zero_le _, μ1, G1, S1, [], [], fin, eD, stD, upd_same, Rs.nil, g1, m1, hl, rfl⟩, ?_⟩
    rintro i m H2 ⟨rfl, hi, μ2, G2, S2, acc, ws, ys, e2, st2, hL, ra, g2, m2, hrest, hfin⟩
    obtain ⟨y1, y2, y3⟩ := y i μ2 G2 H2 e2 st2.sub
    by_cases hlt : i < ds.length
    · refine .inr ⟨y1 hlt, fun H' => ∃ m', m' < ds.length - i ∧ Lc2I L (lc2Loop tg c vs1 it1 tg1 c1 e (wipeR ρ vs)) ds μ1 G1 H1 Dl fin Sf (i + 1) m' H', fun H' q => q, fun x H3 gx => ?_⟩
      obtain ⟨d, ed, gv⟩ := y3 x H3 hlt gx
      rw [drop_get ed] at hrest
      unfold lc2Loop at hrest
      cases hb : bindT tg d (wipeR ρ vs) with
      | none => rw [hb] at hrest; cases hrest
      | some ρ1 =>
        rw [hb] at hrest
        dsimp only at hrest
        refine gives_ok (S := S2) hK st2 hb gv (rel1.ext e2) fun G3 σ1 π1 e3 st3 rel3 k1 k2 k3 => ⟨wipe_same (fun j hj => k1 j fun z => hj (hv j z)) k2, ?_⟩
        have hL3 : H3 Dl = some (.lst ws) := e3.h _ _ hL m2
        have g3 : G3 Dl = none := e3.n _ (by rw [hL]; exact fun z => nomatch z) g2
        cases hc : c ρ1 S2 with
        | bad => rw [hc] at hrest; cases hrest
        | exc _ _ _ => rw [hc] at hrest; cases hrest
        | ok b S3 =>
          rw [hc] at hrest
          refine ⟨μ2, S2, G3, ρ1, π1, st3, rel3, ?_⟩
          rw [hc]
          intro μ4 G4 H4 e4 st4
          have hL4 : H4 Dl = some (.lst ws) := e4.h _ _ hL3 m2
          have g4 : G4 Dl = none := e4.n _ (by rw [hL3]; exact fun z => nomatch z) g3
          have m4 : Dl ∉ μ4 := e4.out hL3 m2
          cases b with
          | false =>
            dsimp only at hrest
            show ∃ m', m' < ds.length - i ∧ Lc2I L (lc2Loop tg c vs1 it1 tg1 c1 e (wipeR ρ vs)) ds μ1 G1 H1 Dl fin Sf (i + 1) m' H4
            exact ⟨ds.length - (i + 1), by omega, rfl, hlt, μ4, G4, S3, acc, ws, ys, (e2.trans e3).trans e4, st4, hL4, (ra.ext e3).ext e4, g4, m4, hrest, hfin⟩
          | true =>
            dsimp only at hrest
            show tIG L WF it1 σ1 H4 _
            cases hi1 : it1 ρ1 S3 with
            | bad => rw [hi1] at hrest; cases hrest
            | exc _ _ _ => rw [hi1] at hrest; cases hrest
            | ok ds1 S4 =>
              rw [hi1] at hrest
              dsimp only at hrest
              refine ⟨μ4, S3, G4, ρ1, π1, st4, rel3.ext e4, ?_⟩
              rw [hi1]
              intro μ5 G5 H5 e5 st5 J1 z
              have hL5 : H5 Dl = some (.lst ws) := e5.h _ _ hL4 m4
              have g5 : G5 Dl = none := e5.n _ (by rw [hL4]; exact fun z => nomatch z) g4
              have m5 : Dl ∉ μ5 := e5.out hL4 m4
              have rel5 := ((rel3.ext e4).ext e5).wipe vs1
              cases hin : lcLoop tg1 c1 e (wipeR ρ1 vs1) ds1 S4 with
              | bad => rw [hin] at hrest; cases hrest
              | exc _ _ _ => rw [hin] at hrest; cases hrest
              | ok yin S5 =>
                rw [hin] at hrest
                dsimp only at hrest
                cases hout : lc2Loop tg c vs1 it1 tg1 c1 e (wipeR ρ vs) (ds.drop (i + 1)) S5 with
                | bad => rw [hout] at hrest; cases hrest
                | exc _ _ _ => rw [hout] at hrest; cases hrest
                | ok zs S6 =>
                  rw [hout] at hrest
                  cases hrest
                  have e25 := ((e2.trans e3).trans e4).trans e5
                  have ra5 := ((ra.ext e3).ext e4).ext e5
                  -- the source of the second clause may not be the new list: what it gives stands while that grows
                  refine ⟨fun j n H => n = ds1.length - j ∧ j ≤ ds1.length ∧ ∃ μ G S acc1 us yj, Ext μ1 G1 H1 μ G H ∧ Ext μ5 G5 (fun a => if a = Dl then none else H5 a) μ G H ∧ Stt L μ S G H ∧ H Dl = some (.lst us) ∧ Rs L μ G acc1 us ∧ G Dl = none ∧ Dl ∉ μ ∧ lcLoop tg1 c1 e (wipeR ρ1 vs1) (ds1.drop j) S = .ok yj S5 ∧ acc1 ++ (yj ++ zs) = fin, ⟨_, rfl, Nat.zero_le _, μ5, G5, S4, acc, ws, yin, e25, ?_, st5, hL5, ra5, g5, m5, hin, hfin⟩, ?_⟩
                  · refine ⟨⟨[], by simp, fun a m => nomatch m⟩, .refl _, fun a o q _ => ?_, fun a _ n => n, fun a q => ?_⟩
                    · split at q
                      · cases q
                      · exact q
                    · intro w
                      split at q
                      · exact q rfl
                      · exact q w
                  have relB : Rel L μ5 G5 (fun a => if a = Dl then none else H5 a) (wipe σ1 vs1) (wipeR ρ1 vs1) (fun i => if i ∈ vs1 then none else π1 i) := by
                    refine ⟨rel5.val, fun i x ei => ?_, rel5.inj, rel5.only, rel5.len⟩
                    obtain ⟨q, c1, c2, c3, c4, c5⟩ := rel5.own i x ei
                    refine ⟨q, c1, c2, ?_, c4, c5⟩
                    have ne : q ≠ Dl := fun w => by
                      subst w
                      try dsimp only at c1
                      split at c1
                      · cases c1
                      · exact rel1.ne_fresh hD _ (k3 _ _ c1)
                    exact c3.sub (.refl _) (if_neg ne)
                  rintro j n H ⟨rfl, hj, μ6, G6, S7, acc1, us, yj, eA, eB, st6, hU, rU, g6, m6, hj1, hf⟩
                  obtain ⟨w1, w2, w3⟩ := z j μ6 G6 H eB.pre eB.g st6.sub
                  by_cases hjl : j < ds1.length
                  · refine .inr ⟨w1 hjl, fun H' => ∃ n', n' < ds1.length - j ∧ n' = ds1.length - (j + 1) ∧ j + 1 ≤ ds1.length ∧ ∃ μ G S acc1 us yj, Ext μ1 G1 H1 μ G H' ∧ Ext μ5 G5 (fun a => if a = Dl then none else H5 a) μ G H' ∧ Stt L μ S G H' ∧ H' Dl = some (.lst us) ∧ Rs L μ G acc1 us ∧ G Dl = none ∧ Dl ∉ μ ∧ lcLoop tg1 c1 e (wipeR ρ1 vs1) (ds1.drop (j + 1)) S = .ok yj S5 ∧ acc1 ++ (yj ++ zs) = fin, fun H' q => q, fun x H7 gx => ?_⟩
                    obtain ⟨d1, ed1, gv1⟩ := w3 x H7 hjl gx
                    rw [drop_get ed1] at hj1
                    unfold lcLoop at hj1
                    cases hb1 : bindT tg1 d1 (wipeR ρ1 vs1) with
                    | none => rw [hb1] at hj1; cases hj1
                    | some ρ2 =>
                      rw [hb1] at hj1
                      dsimp only at hj1
                      refine gives_ok (S := S7) hK st6 hb1 gv1 (relB.ext eB) fun G7 σ2 π2 e7 st7 rel7 l1 l2 l3 => ⟨wipe_same (fun i hi => l1 i fun z => hi (hv1 i z)) l2, ?_⟩
                      have hU7 := e7.h _ _ hU m6
                      have g7 : G7 Dl = none := e7.n _ (by rw [hU]; exact fun z => nomatch z) g6
                      cases hc1 : c1 ρ2 S7 with
                      | bad => rw [hc1] at hj1; cases hj1
                      | exc _ _ _ => rw [hc1] at hj1; cases hj1
                      | ok b1 S8 =>
                        rw [hc1] at hj1
                        refine ⟨μ6, S7, G7, ρ2, π2, st7, rel7, ?_⟩
                        rw [hc1]
                        intro μ8 G8 H8 e8 st8
                        have hU8 := e8.h _ _ hU7 m6
                        have g8 : G8 Dl = none := e8.n _ (by rw [hU7]; exact fun z => nomatch z) g7
                        have m8 : Dl ∉ μ8 := e8.out hU7 m6
                        have eA8 := (eA.trans e7).trans e8
                        have eB8 := (eB.trans e7).trans e8
                        have rU8 := (rU.ext e7).ext e8
                        cases b1 with
                        | false =>
                          dsimp only at hj1
                          exact ⟨ds1.length - (j + 1), by omega, rfl, hjl, μ8, G8, S8, acc1, us, yj, eA8, eB8, st8, hU8, rU8, g8, m8, hj1, hf⟩
                        | true =>
                          dsimp only at hj1
                          cases he : e ρ2 S8 with
                          | bad => rw [he] at hj1; cases hj1
                          | exc _ _ _ => rw [he] at hj1; cases hj1
                          | ok y S9 =>
                            rw [he] at hj1
                            dsimp only at hj1
                            cases hr : lcLoop tg1 c1 e (wipeR ρ1 vs1) (ds1.drop (j + 1)) S9 with
                            | bad => rw [hr] at hj1; cases hj1
                            | exc _ _ _ => rw [hr] at hj1; cases hj1
                            | ok yk S10 =>
                              rw [hr] at hj1
                              cases hj1
                              show tO L WF e σ2 H8 _
                              refine ⟨μ8, S8, G8, ρ2, π2, st8, rel7.ext e8, ?_⟩
                              rw [he]
                              intro μ9 G9 H9 e9 st9 v rv
                              have hU9 := e9.h _ _ hU8 m8
                              have g9 : G9 Dl = none := e9.n _ (by rw [hU8]; exact fun z => nomatch z) g8
                              have m9 : Dl ∉ μ9 := e9.out hU8 m8
                              have rU9 := rU8.ext e9
                              have hlen : us.length < sizeLine := by
                                rw [rU.length, lim_eq]
                                have := congrArg List.length hf
                                rw [List.length_append, List.length_append, List.length_cons] at this
                                omega
                              refine ⟨us, hU9, hlen, ds1.length - (j + 1), by omega, rfl, hjl, μ9, G9, S9, acc1 ++ [y], us ++ [v], yk, (eA8.trans e9).upd hD, (eB8.trans e9).upd (if_pos rfl), st9.upd g9 m9, upd_same, rU9.append (Rs.cons rv Rs.nil), g9, m9, hr, by rw [List.append_assoc]; exact hf⟩
                  · refine .inl ⟨w2 (by omega), ?_⟩
                    have e0 : ds1.drop j = [] := List.drop_eq_nil_iff.mpr (by omega)
                    rw [e0] at hj1
                    unfold lcLoop at hj1
                    cases hj1
                    exact ⟨ds.length - (i + 1), by omega, rfl, hlt, μ6, G6, S5, acc1, us, zs, eA, st6, hU, rU, g6, m6, hout, by simpa using hf⟩
    · refine .inl ⟨y2 (by omega), ?_⟩
      have e0 : ds.drop i = [] := List.drop_eq_nil_iff.mpr (by omega)
      rw [e0] at hrest
      unfold lc2Loop at hrest
      cases hrest
      rw [List.append_nil] at hfin
      subst hfin
      refine p1 _ _ _ e2 st2 Dl ⟨ws, hL, ra⟩ g2 ?_ m2
      cases q : H Dl with
      | none => rfl
      | some o => exact absurd hD (e1.m Dl (by rw [q]; exact fun z => nomatch z))
end
end PyD

/-! PyD: the remaining small words. -/
namespace PyD
open PySem L2
section
variable {L : Lk} {X : Cx} {k : Nat}
variable {pins : List (Addr × Obj)} {s : Shared} {σ : St} {H H1 : Hp} {μ μ0 μ1 : List Addr} {S : List D} {G G0 H0 G1 : Hp} {Q : VK} {W : WX} {ρ : List Sl} {π : Nat → Option Addr} {E : Ends}
/-- a if c else b -/
def fIfV (c : Ef Bool) (f g : Ef D) : Ef D := fun ρ S => (c ρ S).bind fun b S1 => if b then f ρ S1 else g ρ S1
theorem to_ifV {c a b : Expr} {pos : Pos} {fc : Ef Bool} {f g : Ef D} (hc : PT X c (tT L W fc)) (ha : PE X a (tO L W f)) (hb : PE X b (tO L W g)) : PE X (.IfExp c a b pos) (tO L W (fIfV fc f g)) := (pe_ifExp hc ha hb).to fun σ H Q h => by
  obtain ⟨μ, S, G, ρ, π, st, rel, p⟩ := h
  refine ⟨μ, S, G, ρ, π, st, rel, (Post.split p).imp fun x S1 μ1 G1 H1 e1 st1 p1 => ?_⟩
  cases x with
  | true => rw [if_pos rfl]; exact ⟨μ1, S1, G1, ρ, π, st1, rel.ext e1, p1⟩
  | false => rw [if_neg Bool.false_ne_true]; exact ⟨μ1, S1, G1, ρ, π, st1, rel.ext e1, p1⟩
def fNotV (f : Ef D) : Ef D := fun ρ S => (f ρ S).bind fun b S1 => match b with
  | .bl b => .ok (.bl (!b)) S1
  | _ => .bad
theorem to_notV {a : Expr} {pos : Pos} {f : Ef D} (ha : PE X a (tO L W f)) : PE X (.UnaryOp .Not a pos) (tO L W (fNotV f)) := (pe_not ha).to fun σ H Q h => by
  obtain ⟨μ, S, G, ρ, π, st, rel, p⟩ := h
  refine ⟨μ, S, G, ρ, π, st, rel, (Post.split p).imp fun x S1 μ1 G1 H1 e1 st1 p1 v rv => ?_⟩
  cases x with
  | bl b =>
    unfold R at rv
    exact ⟨b, rv, p1 μ1 G1 H1 (.refl _ _ _) st1 _ (by unfold R; rfl)⟩
  | _ => exact p1.elim
/-! ### statements -/
/-- a, b = e -/
def sUnp (tg : Tg) (f : Ef D) : Es := sE f fun d ρ S => match bindT tg d ρ with
  | some ρ1 => .nx ρ1 S
  | none => .bad
theorem to_unp {tg : Tg} {f : Ef D} {K : PySem.W.Frag} (hK : K = L.K) (h : tS L W (sUnp tg f) E σ H) : tAsg (tO L W f) (gOf K tg) E σ H := by
  obtain ⟨μ0, G0, H0, ρ, S, μ, G, π, e0, st, rel, fr, p⟩ := sE_split h
  refine ⟨μ, S, G, ρ, π, st, rel, p.imp fun d S1 μ1 G1 H1 e1 st1 ⟨e2, q⟩ v rv => ?_⟩
  cases hb : bindT tg d ρ with
  | none => rw [hb] at q; exact q.elim
  | some ρ1 =>
    rw [hb] at q
    exact bind_ok hK st1.sub tg hb rv (rel.ext e1) fun σ1 π1 r1 _ _ k3 => q σ1 H1 ⟨μ1, G1, π1, e2, st1, r1, fun i p e => fr i p (k3 i p e)⟩
/-- a, b = x, y, plain local names -/
def sPar (i j : Nat) (fl : Ef (List D)) : Es := sE fl fun ds ρ S => match ds with
  | [d, e] => .nx ((ρ.set i (.val d)).set j (.val e)) S
  | _ => .bad
theorem to_par {i j : Nat} {fl : Ef (List D)} (h : tS L W (sPar i j fl) E σ H) : tPar i j (tA L W fl) E σ H := by
  obtain ⟨μ0, G0, H0, ρ, S, μ, G, π, e0, st, rel, fr, p⟩ := sE_split h
  refine ⟨μ, S, G, ρ, π, st, rel, p.imp fun ds S1 μ1 G1 H1 e1 st1 ⟨e2, q⟩ vs rv => ?_⟩
  split at q
  · rename_i d e
    obtain ⟨v, ws, rfl, r1, rv⟩ := rv.cons_inv
    obtain ⟨w, us, rfl, r2, rv⟩ := rv.cons_inv
    have := rv.nil_inv
    subst this
    exact ⟨v, w, rfl, q _ H1 ⟨μ1, G1, _, e2, st1, ((rel.ext e1).put i r1).put j r2, fresh_put (fresh_put fr)⟩⟩
  · exact q.elim
def sPar3 (i j l : Nat) (fl : Ef (List D)) : Es := sE fl fun ds ρ S => match ds with
  | [d, e, f] => .nx (((ρ.set i (.val d)).set j (.val e)).set l (.val f)) S
  | _ => .bad
theorem to_par3 {i j l : Nat} {fl : Ef (List D)} (h : tS L W (sPar3 i j l fl) E σ H) : tPar3 i j l (tA L W fl) E σ H := by
  obtain ⟨μ0, G0, H0, ρ, S, μ, G, π, e0, st, rel, fr, p⟩ := sE_split h
  refine ⟨μ, S, G, ρ, π, st, rel, p.imp fun ds S1 μ1 G1 H1 e1 st1 ⟨e2, q⟩ vs rv => ?_⟩
  split at q
  · rename_i d e f
    obtain ⟨v, ws, rfl, r1, rv⟩ := rv.cons_inv
    obtain ⟨w, us, rfl, r2, rv⟩ := rv.cons_inv
    obtain ⟨x, ys, rfl, r3, rv⟩ := rv.cons_inv
    have := rv.nil_inv
    subst this
    exact ⟨v, w, x, rfl, q _ H1 ⟨μ1, G1, _, e2, st1, (((rel.ext e1).put i r1).put j r2).put l r3, fresh_put (fresh_put (fresh_put fr))⟩⟩
  · exact q.elim
/-- return x, x this frame's own thing -/
def sRetO (i : Nat) : Es := fun ρ S => match ρ[i]? with
  | some (.own d) => .rt d S
  | _ => .bad
theorem to_retO {i : Nat} (h : tS L W (sRetO i) E σ H) : tRet (tVar i) E σ H := by
  obtain ⟨μ0, G0, H0, ρ, S, ⟨μ, G, π, e0, st, rel, fr⟩, p⟩ := h
  unfold sRetO at p
  split at p
  · rename_i d eo
    obtain ⟨a, ea, es, t, n, m⟩ := rel.own i d eo
    refine ⟨_, es, ?_⟩
    have h0 := fr i a ea
    cases d with
    | lst ds =>
      obtain ⟨vs, hp, r⟩ := t
      obtain ⟨e2, s2⟩ := st.keep e0 hp n m h0
      exact p _ H ⟨μ, _, e2, s2, r.lst_new n⟩
    | ins c ds =>
      obtain ⟨dx, vs, hp, l, r⟩ := t
      obtain ⟨e2, s2⟩ := st.keep e0 hp n m h0
      refine p _ H ⟨μ, _, e2, s2, ?_⟩
      unfold R
      exact ⟨a, dx, vs, rfl, upd_same, l, r.sub fun a u e => by rw [upd_ne (ne_of_none e n)]; exact e⟩
    | dct ks xs =>
      obtain ⟨kvs, hp, hk, r⟩ := t
      obtain ⟨e2, s2⟩ := st.keep e0 hp n m h0
      refine p _ H ⟨μ, _, e2, s2, ?_⟩
      unfold R
      exact ⟨a, kvs, rfl, upd_same, hk, r.sub fun a u e => by rw [upd_ne (ne_of_none e n)]; exact e⟩
    | dcT ks xs =>
      obtain ⟨kvs, hp, hk, r⟩ := t
      obtain ⟨e2, s2⟩ := st.keep e0 hp n m h0
      refine p _ H ⟨μ, _, e2, s2, ?_⟩
      unfold R
      exact ⟨a, kvs, rfl, upd_same, hk, r.sub fun a u e => by rw [upd_ne (ne_of_none e n)]; exact e⟩
    | _ => exact t.elim
  · exact p.elim
/-- code that isn't come to -/
def sBad : Es := fun _ _ => .bad
theorem to_bad (h : tS L W sBad E σ H) : tNever E σ H := by
  obtain ⟨μ0, G0, H0, ρ, S, a, p⟩ := h
  exact p
/-- name = [..] with its name -/
theorem to_asgF {i : Nat} {f : Ef D} (h : tS L W (sAsg i f) E σ H) : tF L W f σ H fun x H1 => gName i x σ H1 E.nx := tO_tF (to_asg h)
theorem to_ownF {i : Nat} {f : Ef D} (h : tS L W (sOwn i f) E σ H) : tF L W f σ H fun x H1 => gName i x σ H1 E.nx := to_own h

/-! ### isinstance -/
inductive Kd where
  | non | bl | int | str | tup | lst | dct | ins (c : Nat)
def kdOf : D → Option Kd
  | .non => some .non
  | .bl _ => some .bl
  | .int _ => some .int
  | .str _ => some .str
  | .tup _ => some .tup
  | .lst _ => some .lst
  | .dct _ _ => some .dct
  | .ktp _ => none
  | .ins c _ => some (.ins c)
  | _ => none
def kdV (L : Lk) : Kd → Value
  | .non => .type "NoneType"
  | .bl => .type "bool"
  | .int => .type "int"
  | .str => .type "str"
  | .tup => .type "tuple"
  | .lst => .type "list"
  | .dct => .type "dict"
  | .ins c => .ref (L.cA c)
/-- what isinstance asks of an own class -/
structure InsOk (L : Lk) (K : PySem.W.Frag) (c : Nat) : Prop where
  cl : Cls K (L.cA c)
  ha : PySem.W.findIn K (.ref (L.cA c)) "__class__" = some (some (.builtin "object.__class__"))
  hn : PySem.W.specialIn K (.builtin "object.__class__") "__get__" = some (some (.builtin "getset_descriptor.__get__"))
  htk : PySem.W.takesIn K (.builtin "object.__class__") = some true
  hm : PySem.W.mroIn K (L.cA c) (.type "object") = some true
structure IsiOk (L : Lk) (K : PySem.W.Frag) (us : List Value) (r : Kd → Option Bool) : Prop where
  look : ∀ kd b, r kd = some b → PySem.W.kitAny K (kdV L kd) us = some b ∧ ∀ c, kd = .ins c → InsOk L K c
def opIsi (r : Kd → Option Bool) (x : D) (S : List D) : Out D := match kdOf (dr S x) with
  | some kd => okB (r kd) S
  | none => .bad
theorem rd_ty {K : PySem.W.Frag} {a : Addr} {vs : List V} (h : SqL K H a vs) : TyX K H (.ref a) (.type "list") := by
  rcases h with (h | ⟨o, h⟩) | ⟨o, its, n, hk, hc, _⟩
  · exact .base (.lst h)
  · exact .base (.frz h)
  · exact .kList hk hc
theorem rdt_ty {K : PySem.W.Frag} {a : Addr} {vs : List V} (h : SqT K H a vs) : TyX K H (.ref a) (.type "tuple") := by
  rcases h with (h | ⟨o, h⟩) | ⟨o, its, n, hk, hc, _⟩
  · exact .base (.tup h)
  · exact .fTuple h
  · exact .kTuple hk hc
theorem Vw.ty {K : PySem.W.Frag} (hK : K = L.K) (st : Stt L μ S G H) {d : D} {v : V} {kd : Kd} (h : Vw L μ G H d v) (e : kdOf d = some kd) (hi : ∀ c, kd = .ins c → InsOk L K c) : TyX K H v (kdV L kd) := by
  cases d with
  | non => cases e; rw [h.nons]; exact .base .non
  | bl b => cases e; rw [h.bls]; exact .base (.bl b)
  | int b => cases e; rw [h.ints]; exact .base (.int b)
  | str b => cases e; rw [h.strs]; exact .base (.str b)
  | tup ds =>
    cases e
    obtain ⟨a, vs, rfl, q, _⟩ := h.tups st.sub
    exact rdt_ty (by rw [hK]; exact q)
  | lst ds =>
    cases e
    obtain ⟨a, vs, rfl, q, _⟩ := h.lsts st.sub
    exact rd_ty (by rw [hK]; exact q)
  | ins c ds =>
    cases e
    obtain ⟨a, dx, vs, rfl, q, _, _⟩ := h.inss st.sub
    have z := hi c rfl
    exact .base (.ins q z.cl z.ha z.hn z.htk z.hm)
  | dct ks xs =>
    cases e
    obtain ⟨a, kvs, rfl, q, _, _⟩ := h.dcts st.sub
    exact .base (.dK q)
  | dcT ks xs => cases e
  | ktp ks => cases e
  | cls c => cases e
  | loc i => cases e
theorem kit_one {K : PySem.W.Frag} {t u : Value} {b : Bool} (h : PySem.W.kitAny K t [u] = some b) : PySem.W.kitOne K t u = some b := by
  unfold PySem.W.kitAny at h
  cases e : PySem.W.kitOne K t u with
  | none => rw [e] at h; cases h
  | some c =>
    rw [e] at h
    cases c with
    | true => cases h; rfl
    | false =>
      unfold PySem.W.kitAny at h
      exact h
/-- isinstance(x, c) -/
theorem to_isi {fa : Ef D} {r : Kd → Option Bool} {c : V} {u : Value} {K : PySem.W.Frag} (hK : K = L.K) (hc : ClsV c u) (ok : IsiOk L K [u] r) (h : tO L W (fOne (opIsi r) fa) σ H Q) : tCB (rIsi K) (tCons (tB L W fa) (tCons (tC c) tNil)) σ H Q := by
  obtain ⟨μ, S, G, ρ, π, st, rel, p⟩ := h
  refine ⟨μ, S, G, ρ, π, st, rel, p.split.imp fun x S1 μ1 G1 H1 e1 st1 p1 v rv => ?_⟩
  unfold opIsi at p1
  split at p1
  · rename_i kd ek
    obtain ⟨b, eb, p1⟩ := okB_some p1
    obtain ⟨k1, k2⟩ := ok.look kd b eb
    exact ⟨v, c, kdV L kd, u, b, rfl, hc, (rv.vw st1).ty hK st1 ek k2, kit_one k1, p1 μ1 G1 H1 (.refl _ _ _) st1 _ (by unfold R; rfl)⟩
  · exact p1.elim
/-- isinstance(x, (c, ..)) -/
def tCs : List V → TA
  | [] => tNil
  | c :: cs => tCons (tC c) (tCs cs)
theorem tcs_run : ∀ (cs : List V) {K : List V → Hp → Prop}, K cs H → tCs cs σ H K
  | [], _, h => h
  | c :: cs, K, h => by
    show tCs cs σ H fun xs H2 => K (c :: xs) H2
    exact tcs_run cs h
theorem to_isiT {fa : Ef D} {r : Kd → Option Bool} {cs : List V} {us : List Value} {K : PySem.W.Frag} (hK : K = L.K) (hc : Paired ClsV cs us) (hz : cs.length ≤ 100) (ok : IsiOk L K us r) (h : tO L W (fOne (opIsi r) fa) σ H Q) : tCB (rIsiT K) (tCons (tB L W fa) (tCons (tTup (tCs cs)) tNil)) σ H Q := by
  obtain ⟨μ, S, G, ρ, π, st, rel, p⟩ := h
  refine ⟨μ, S, G, ρ, π, st, rel, p.split.imp fun x S1 μ1 G1 H1 e1 st1 p1 v rv => ?_⟩
  show tTup (tCs cs) σ H1 _
  refine tcs_run cs ⟨by rw [lim_eq]; unfold LIM; omega, fun a ha => ?_⟩
  unfold opIsi at p1
  split at p1
  · rename_i kd ek
    obtain ⟨b, eb, p1⟩ := okB_some p1
    obtain ⟨k1, k2⟩ := ok.look kd b eb
    obtain ⟨e2, st2⟩ := st1.put (o := .tup cs) ha
    have rv2 := (rv.ext e2).vw st2
    exact ⟨v, a, cs, kdV L kd, us, b, rfl, upd_same, hc, rv2.ty hK st2 ek k2, k1, p1 μ1 _ _ e2 st2 _ (by unfold R; rfl)⟩
  · exact p1.elim
end
end PyD

/-! PyD: != by object's own way, calls from within a builtin. -/
namespace PyD
open PySem PySem.Spec L2
section
variable {prog : Program} {w : World} {A : Around} {E : Value → Shared → Prop} {s : Shared} {K : PySem.W.Frag} {x C f L0 : Addr} {h0 : Heap} {mF : Str → Option Value} {ox : Obj} {od : Option Obj}
theorem bound_slot {M : Model} {nm : Str} {id : String} {us : List Value} {Q : Option Value → Shared → Prop} (kin : K.In s.heap) (ia : PySem.W.InstAt s.heap x ox C od)
    (fi : PySem.W.findIn K (.ref C) nm = some (some (.builtin id))) (hb : ∀ v, bindSpecial (.builtin id) v = pure (.builtin id, [v]))
    (hq : wpAny M A (call (.builtin id) (.ref x :: us)) (fun v => Q (some v)) E s) : wpAny M A (callSpecialIfBound? (.ref x) nm us) Q E s := by
  have done1 : wpAny M A ((call (.builtin id) ([Value.ref x] ++ us)) >>= fun r => pure (some r)) Q E s := wpAny_bind (wpAny_mono hq (fun _ _ z => wpAny_pure z) fun _ _ z => z)
  simp only [callSpecialIfBound?, bindSpecialIfBound?]
  refine wpAny_holding (wpAny_bind (wpAny_bind (wpAny_bind ?_)))
  refine ia.type.here ((PySem.W.looks_findIn kin fi).here ?_)
  simp only [hb]
  refine wpAny_bind (wpAny_askSetting (wpAny_ite ?_))
  split
  · exact wpAny_bind (wpAny_pure (wpAny_pure done1))
  · refine wpAny_tryCatch (wpAny_bind (wpAny_pure ?_))
    exact wpAny_pure done1
theorem objNe_run {b : Value} {Q : Fin → Shared → Prop} (kin : K.In s.heap) (ia : PySem.W.InstAt s.heap x ox C od) (fi : PySem.W.findIn K (.ref C) "__eq__" = some (some (.ref f))) (hf : PySem.W.isFn K (.ref f) = true) (hu : A.units < cLine)
    (hq : wpAny (model prog w) A (call (.ref f) [.ref x, b]) (fun v s' => ∃ r, v = .bool r ∧ Q (.done (.ret (.bool (!r)))) s') E s) : wpAny (model prog w) A (Builtin.«object.__ne__» ⟨[.ref x, b], []⟩) Q E s := by
  unfold Builtin.«object.__ne__»
  refine wpAny_bind (wpAny_pure ?_)
  refine wpAny_bind (wpAny_cRoomFor hu ?_)
  refine wpAny_bind (PySem.W.ifBound_K kin ia fi hf (wpAny_mono hq (fun v s' z => ?_) fun _ _ z => z))
  obtain ⟨r, rfl, z⟩ := z
  exact wpAny_bind (wpAny_truthy_bool (wpAny_pure z))
/-- x != b, x of an own class that has its own __eq__ alone -/
theorem ne_own {b tb : Value} {Q : Value → Shared → Prop} (hu : A.units + 1 < cLine) (F : PyProof.Rows.Fr h0 L0 s.heap mF) (kin0 : K.In h0) (ia : PySem.W.InstAt s.heap x ox C od) (tbl : PySem.W.Looks (model prog w) s.heap (typeOf b) tb) (nf : PySem.W.notFirst K C tb = true)
    (fi : PySem.W.findIn K (.ref C) "__eq__" = some (some (.ref f))) (hf : PySem.W.isFn K (.ref f) = true) (fn : PySem.W.findIn K (.ref C) "__ne__" = some (some (.builtin "object.__ne__"))) (hm : PySem.W.mroIn K C (.type "object") = some true)
    (hq : wpAny (model prog w) A.in1 (call (.ref f) [.ref x, b]) (fun v s' => ∃ r, v = .bool r ∧ Q (.bool (!r)) s') E s) : wpAny (model prog w) A (richCompare .NotEq (.ref x) b) Q E s := by
  have kin := kin0.keeps F.keep
  have isO : PySem.W.Looks (model prog w) s.heap (isInstance (.ref x) (.type "object")) true := ia.type.andThen (PySem.W.looks_mroIn kin hm)
  have one : wpAny (model prog w) A (tryCompare (.ref x) "__ne__" b) (fun r s' => ∃ v, r = some v ∧ Q v s') E s := by
    unfold tryCompare
    refine wpAny_bind (bound_slot kin ia fn PySem.F.slot_object_ne.bind ?_)
    refine wpAny_call (codeAny_call_builtin PySem.F.slot_object_ne.plain PySem.F.cmpEntry_ne (PySem.W.check_slot PySem.F.cmpKind_ne PySem.F.cmpSplit_ne isO (PySem.F.cmpArgs_ne _ _) ?_))
    refine objNe_run (A := A.in1) kin ia fi hf hu (wpAny_mono hq (fun v s' z => ?_) fun _ _ z => z)
    obtain ⟨r, rfl, z⟩ := z
    first | exact ⟨r, rfl, wpAny_pure ⟨_, rfl, z⟩⟩ | exact ⟨r, rfl, ⟨_, rfl, z⟩⟩
  unfold richCompare
  simp only [oneThing_ref]
  refine wpAny_holding (wpAny_bind (wpAny_cRoomFor (Nat.lt_of_succ_lt hu) (wpAny_bind (ia.type.here (wpAny_bind (tbl.here ?_))))))
  have last : wpAny (model prog w) A (tryCompare (.ref x) (cmpInfo .NotEq).2.1 b) (fun r s' => ∃ v, r = some v ∧ Q v s') E s := one
  split
  · rename_i q
    have e : PySem.W.subIn K tb (.ref C) = some false := by
      rcases Bool.or_eq_true_iff.mp nf with z | z
      · rw [beq_iff_eq.mp z] at q
        simp at q
      · exact beq_iff_eq.mp z
    refine wpAny_bind ((PySem.W.looks_subIn kin e).here ?_)
    simp only [Bool.false_eq_true, if_false]
    refine wpAny_bind (wpAny_mono last (fun r s' ⟨v, e, z⟩ => ?_) fun _ _ z => z)
    subst e
    exact wpAny_pure z
  · refine wpAny_bind (wpAny_pure ?_)
    simp only [Bool.false_eq_true, if_false]
    refine wpAny_bind (wpAny_mono last (fun r s' ⟨v, e, z⟩ => ?_) fun _ _ z => z)
    subst e
    exact wpAny_pure z
end
section
variable {L : Lk} {X : Cx} {k n : Nat}
variable {pins : List (Addr × Obj)} {s : Shared} {σ : St} {H : Hp} {E : XK} {μ : List Addr} {S : List D} {G : Hp} {Q : VK} {W : WX}
/-- a def called from somewhere below -/
theorem run_fnA {A : Around} {f : Addr} {fd : FuncData} {ps : List Str} {sp : Sp} {us : List Value} {vs : List V} (F : FnOk X.prog X.w X.K X.mg X.base (CX X.prog X.w) n f fd ps sp) (sb : L2.Sub X n A) (hb : Binds X.K fd ps [])
    (tk : Takes X W) (I : Inv X pins σ H s) (r : Vals vs us) (h : sp vs H Q (fun c d H' => W c d σ H')) : wpAny (model X.prog X.w) A (call (.ref f) us) (EP X pins σ Q) X.xe s := by
  have e0 : Env0 X.prog X.w X.K X.mg X.base A X.stack s H := by
    obtain ⟨e1, e2, e3, e4, e5, e6, e7, e8⟩ := I.env0
    exact ⟨sb.fr.trans e1, e2, e3, e4, e5, e6, e7, e8⟩
  have hl : us.length = ps.length := by rw [← r.length]; exact F.len _ _ _ _ h
  have hz := hb s us I.kIn (by rw [List.append_nil]; exact hl)
  rw [List.append_nil] at hz
  refine wpAny_call (codeAny_mono (F.run A X.stack s H ⟨us, []⟩ us vs Q _ sb.room e0 hz r h) fun r s' hq => ?_)
  cases r with
  | error e => exact tk e s' (XE.of_call I (fun _ _ _ z => z) hq)
  | ok fl =>
    cases fl with
    | ret u => exact I.after hq
    | next => exact False.elim hq
    | brk => exact False.elim hq
    | cont => exact False.elim hq
end
end PyD

/-! PyD: the builtins' own loops over two lists, each step what it will. -/
namespace PyD
open PySem PySem.SeqAt
open AutoSeq1 (wpAny_loadPart')
open MeetsSeq MeetsSeq2 MeetsSeq3 SeqRoads2
section
variable {prog : Program} {w : World} {A : Around} {R : Result → Shared → Prop}
/-- both stand there, N items each -/
def Both (l b : Addr) (N : Nat) (s : Shared) : Prop := ∃ (xs ys : Array Value) (n n2 : Nat) (dd dd2 : Option Addr) (sl sl2 : Array (Option Value)), s.heap.get? l = some { cls := .type "list", dict := dd, data := .seq xs n, slots := sl } ∧ s.heap.get? b = some { cls := .type "list", dict := dd2, data := .seq ys n2, slots := sl2 } ∧ xs.size = N ∧ ys.size = N
/-- turn by turn: equal and on, or different and done -/
structure Two (prog : Program) (w : World) (A : Around) (E : Value → Shared → Prop) (l b : Addr) (N : Nat) (I : Nat → Shared → Prop) (Df : Shared → Prop) : Prop where
  turn : ∀ i s, I i s → i ≤ N → Both l b N s ∧ ∀ (xs ys : Array Value) (n n2 : Nat) (dd dd2 : Option Addr) (sl sl2 : Array (Option Value)), s.heap.get? l = some { cls := .type "list", dict := dd, data := .seq xs n, slots := sl } → s.heap.get? b = some { cls := .type "list", dict := dd2, data := .seq ys n2, slots := sl2 } → i < N → ∀ (h1 : i < xs.size) (h2 : i < ys.size),
    wpAny (model prog w) A.in1 (eqBool xs[i] ys[i]) (fun r s' => (r = true ∧ I (i + 1) s') ∨ (r = false ∧ Df s')) E s
  diff : ∀ s, Df s → Both l b N s

theorem eq_loop (l b : Addr) (N : Nat) (I : Nat → Shared → Prop) (Df : Shared → Prop) (T : Two prog w A (fun e s' => R (.error e) s') l b N I Df) (fin : ∀ s, I N s → R (.ok (.ret (.bool true))) s) (finD : ∀ s, Df s → R (.ok (.ret (.bool false))) s) (k : Nat) :
    ∀ i : Nat, N - i = k → i ≤ N → ∀ s, I i s → wpAny (model prog w) A.in1 (Builtin.«list.__eq__.loop» ⟨[.ref l, .ref b, rawInt i, rawInt 2], []⟩) (GQ.FinOf prog w A R) (fun e s' => R (.error e) s') s := by
  induction k with
  | zero =>
    intro i hk hi s hs
    obtain ⟨⟨xs, ys, n, n2, dd, dd2, sl, sl2, e1, e2, z1, z2⟩, _⟩ := T.turn _ _ hs hi
    have ei : i = N := by omega
    have hR := fin s (ei ▸ hs)
    obtain ⟨hp, g, d, tk, os⟩ := s
    wp_walk using wpAny_loadPart' e1, wpAny_loadPart' e2
    have q1 : xs[((i : Nat) : Int).toNat]? = none := by simp; omega
    have q2 : ys[((i : Nat) : Int).toNat]? = none := by simp; omega
    rw [q1, q2]
    wp_walk using wpAny_loadPart' e1, wpAny_loadPart' e2
    show R (.ok (.ret (.bool (xs.size == ys.size)))) _
    rw [z1, z2]
    simpa using hR
  | succ k ih =>
    intro i hk hi s hs
    have hlt : i < N := by omega
    obtain ⟨⟨xs, ys, n, n2, dd, dd2, sl, sl2, e1, e2, z1, z2⟩, go⟩ := T.turn _ _ hs hi
    have go := go xs ys n n2 dd dd2 sl sl2 e1 e2 hlt (by omega) (by omega)
    obtain ⟨hp, g, d, tk, os⟩ := s
    wp_walk using wpAny_loadPart' e1, wpAny_loadPart' e2
    have q1 : xs[((i : Nat) : Int).toNat]? = some (xs[i]'(by omega)) := by simp
    have q2 : ys[((i : Nat) : Int).toNat]? = some (ys[i]'(by omega)) := by simp
    rw [q1, q2]
    refine wpAny_bind (wpAny_mono go (fun r s2 z => ?_) fun _ _ z => z)
    rcases z with ⟨er, z⟩ | ⟨er, z⟩
    · subst er
      have nxt := ih (i + 1) (by omega) hlt s2 z
      obtain ⟨hp2, g2, d2, tk2, os2⟩ := s2
      wp_walk
      rw [show ((i : Int) + 1) = ((i + 1 : Nat) : Int) by omega]
      refine ⟨plainId_quiet plain_eq_loop _, codeAny_builtin entry_eq_loop ?_⟩
      rw [Around.under_plainId plain_eq_loop _]
      exact nxt
    · subst er
      have last := finD s2 z
      obtain ⟨xs', ys', m, m2, ee, ee2, tl, tl2, f1, f2, w1, w2⟩ := T.diff s2 z
      obtain ⟨hp2, g2, d2, tk2, os2⟩ := s2
      wp_walk using wpAny_loadPart' f1, wpAny_loadPart' f2
      have p1 : xs'[((i : Nat) : Int).toNat]? = some (xs'[i]'(by omega)) := by simp
      have p2 : ys'[((i : Nat) : Int).toNat]? = some (ys'[i]'(by omega)) := by simp
      rw [p1, p2]
      wp_walk
      exact last
theorem eq_list (l b : Addr) (N : Nat) (I : Nat → Shared → Prop) (Df : Shared → Prop) (T : Two prog w A (fun e s' => R (.error e) s') l b N I Df) (fin : ∀ s, I N s → R (.ok (.ret (.bool true))) s) (finD : ∀ s, Df s → R (.ok (.ret (.bool false))) s) {s : Shared} (hs : I 0 s) :
    wpAny (model prog w) A.in1 (Builtin.«list.__eq__» ⟨[.ref l, .ref b], []⟩) (GQ.FinOf prog w A R) (fun e s' => R (.error e) s') s := by
  have nxt := eq_loop (A := A) (R := R) l b N I Df T fin finD _ 0 rfl (Nat.zero_le _) s hs
  obtain ⟨⟨xs, ys, n, n2, dd, dd2, sl, sl2, e1, e2, z1, z2⟩, _⟩ := T.turn _ _ hs (Nat.zero_le _)
  obtain ⟨hp, g, d, tk, os⟩ := s
  have isL := AutoSeq1.sub_list_list
  have ne : ¬ (xs.size != ys.size) = true := by simp [z1, z2]
  wp_walk using wpAny_loadPart' e1, wpAny_loadPart' e2
  refine ⟨plainId_quiet plain_eq_loop _, codeAny_builtin entry_eq_loop ?_⟩
  rw [Around.under_plainId plain_eq_loop _]
  exact nxt

theorem ne_loop (l b : Addr) (N : Nat) (I : Nat → Shared → Prop) (Df : Shared → Prop) (T : Two prog w A (fun e s' => R (.error e) s') l b N I Df) (fin : ∀ s, I N s → R (.ok (.ret (.bool false))) s) (finD : ∀ s, Df s → R (.ok (.ret (.bool true))) s) (k : Nat) :
    ∀ i : Nat, N - i = k → i ≤ N → ∀ s, I i s → wpAny (model prog w) A.in1 (Builtin.«list.__eq__.loop» ⟨[.ref l, .ref b, rawInt i, rawInt 3], []⟩) (GQ.FinOf prog w A R) (fun e s' => R (.error e) s') s := by
  induction k with
  | zero =>
    intro i hk hi s hs
    obtain ⟨⟨xs, ys, n, n2, dd, dd2, sl, sl2, e1, e2, z1, z2⟩, _⟩ := T.turn _ _ hs hi
    have ei : i = N := by omega
    have hR := fin s (ei ▸ hs)
    obtain ⟨hp, g, d, tk, os⟩ := s
    wp_walk using wpAny_loadPart' e1, wpAny_loadPart' e2
    have q1 : xs[((i : Nat) : Int).toNat]? = none := by simp; omega
    have q2 : ys[((i : Nat) : Int).toNat]? = none := by simp; omega
    rw [q1, q2]
    wp_walk using wpAny_loadPart' e1, wpAny_loadPart' e2
    show R (.ok (.ret (.bool (xs.size != ys.size)))) _
    rw [z1, z2]
    simpa using hR
  | succ k ih =>
    intro i hk hi s hs
    have hlt : i < N := by omega
    obtain ⟨⟨xs, ys, n, n2, dd, dd2, sl, sl2, e1, e2, z1, z2⟩, go⟩ := T.turn _ _ hs hi
    have go := go xs ys n n2 dd dd2 sl sl2 e1 e2 hlt (by omega) (by omega)
    obtain ⟨hp, g, d, tk, os⟩ := s
    wp_walk using wpAny_loadPart' e1, wpAny_loadPart' e2
    have q1 : xs[((i : Nat) : Int).toNat]? = some (xs[i]'(by omega)) := by simp
    have q2 : ys[((i : Nat) : Int).toNat]? = some (ys[i]'(by omega)) := by simp
    rw [q1, q2]
    refine wpAny_bind (wpAny_mono go (fun r s2 z => ?_) fun _ _ z => z)
    rcases z with ⟨er, z⟩ | ⟨er, z⟩
    · subst er
      have nxt := ih (i + 1) (by omega) hlt s2 z
      obtain ⟨hp2, g2, d2, tk2, os2⟩ := s2
      wp_walk
      rw [show ((i : Int) + 1) = ((i + 1 : Nat) : Int) by omega]
      refine ⟨plainId_quiet plain_eq_loop _, codeAny_builtin entry_eq_loop ?_⟩
      rw [Around.under_plainId plain_eq_loop _]
      exact nxt
    · subst er
      have last := finD s2 z
      obtain ⟨xs', ys', m, m2, ee, ee2, tl, tl2, f1, f2, w1, w2⟩ := T.diff s2 z
      obtain ⟨hp2, g2, d2, tk2, os2⟩ := s2
      wp_walk using wpAny_loadPart' f1, wpAny_loadPart' f2
      have p1 : xs'[((i : Nat) : Int).toNat]? = some (xs'[i]'(by omega)) := by simp
      have p2 : ys'[((i : Nat) : Int).toNat]? = some (ys'[i]'(by omega)) := by simp
      rw [p1, p2]
      wp_walk
      exact last
theorem ne_list (l b : Addr) (N : Nat) (I : Nat → Shared → Prop) (Df : Shared → Prop) (T : Two prog w A (fun e s' => R (.error e) s') l b N I Df) (fin : ∀ s, I N s → R (.ok (.ret (.bool false))) s) (finD : ∀ s, Df s → R (.ok (.ret (.bool true))) s) {s : Shared} (hs : I 0 s) :
    wpAny (model prog w) A.in1 (Builtin.«list.__ne__» ⟨[.ref l, .ref b], []⟩) (GQ.FinOf prog w A R) (fun e s' => R (.error e) s') s := by
  have nxt := ne_loop (A := A) (R := R) l b N I Df T fin finD _ 0 rfl (Nat.zero_le _) s hs
  obtain ⟨⟨xs, ys, n, n2, dd, dd2, sl, sl2, e1, e2, z1, z2⟩, _⟩ := T.turn _ _ hs (Nat.zero_le _)
  obtain ⟨hp, g, d, tk, os⟩ := s
  have isL := AutoSeq1.sub_list_list
  have ne : ¬ (xs.size != ys.size) = true := by simp [z1, z2]
  wp_walk using wpAny_loadPart' e1, wpAny_loadPart' e2
  refine ⟨plainId_quiet plain_eq_loop _, codeAny_builtin entry_eq_loop ?_⟩
  rw [Around.under_plainId plain_eq_loop _]
  exact nxt

/-! in a list -/
/-- turn by turn: found and done, or on -/
structure Seek (prog : Program) (w : World) (A : Around) (E : Value → Shared → Prop) (l : Addr) (x : Value) (N : Nat) (I : Nat → Shared → Prop) (Fd : Shared → Prop) : Prop where
  turn : ∀ i s, I i s → i ≤ N → ∃ (xs : Array Value) (n : Nat) (dd : Option Addr) (sl : Array (Option Value)), s.heap.get? l = some { cls := .type "list", dict := dd, data := .seq xs n, slots := sl } ∧ xs.size = N ∧
    (i < N → ∀ (h1 : i < xs.size), wpAny (model prog w) A.in1 (eqBool xs[i] x) (fun r s' => (r = true ∧ Fd s') ∨ (r = false ∧ I (i + 1) s')) E s)
theorem in_loop (l : Addr) (x : Value) (N : Nat) (I : Nat → Shared → Prop) (Fd : Shared → Prop) (T : Seek prog w A (fun e s' => R (.error e) s') l x N I Fd) (fin : ∀ s, I N s → R (.ok (.ret (.bool false))) s) (finF : ∀ s, Fd s → R (.ok (.ret (.bool true))) s) (k : Nat) :
    ∀ i : Nat, N - i = k → i ≤ N → ∀ s, I i s → wpAny (model prog w) A.in1 (Builtin.«list.__contains__.loop» ⟨[.ref l, x, rawInt i], []⟩) (GQ.FinOf prog w A R) (fun e s' => R (.error e) s') s := by
  induction k with
  | zero =>
    intro i hk hi s hs
    obtain ⟨xs, n, dd, sl, e1, z1, _⟩ := T.turn _ _ hs hi
    have ei : i = N := by omega
    have hR := fin s (ei ▸ hs)
    obtain ⟨hp, g, d, tk, os⟩ := s
    wp_walk using wpAny_loadPart' e1
    have q1 : xs[((i : Nat) : Int).toNat]? = none := by simp; omega
    rw [q1]
    wp_walk
    exact hR
  | succ k ih =>
    intro i hk hi s hs
    have hlt : i < N := by omega
    obtain ⟨xs, n, dd, sl, e1, z1, go⟩ := T.turn _ _ hs hi
    have go := go hlt (by omega)
    obtain ⟨hp, g, d, tk, os⟩ := s
    wp_walk using wpAny_loadPart' e1
    have q1 : xs[((i : Nat) : Int).toNat]? = some (xs[i]'(by omega)) := by simp
    rw [q1]
    refine wpAny_bind (wpAny_mono go (fun r s2 z => ?_) fun _ _ z => z)
    rcases z with ⟨er, z⟩ | ⟨er, z⟩
    · subst er
      have last := finF s2 z
      obtain ⟨hp2, g2, d2, tk2, os2⟩ := s2
      wp_walk
      exact last
    · subst er
      have nxt := ih (i + 1) (by omega) hlt s2 z
      obtain ⟨hp2, g2, d2, tk2, os2⟩ := s2
      wp_walk
      rw [show ((i : Int) + 1) = ((i + 1 : Nat) : Int) by omega]
      refine ⟨plainId_quiet plain_contains_loop _, codeAny_builtin entry_contains_loop ?_⟩
      rw [Around.under_plainId plain_contains_loop _]
      exact nxt
theorem in_list (l : Addr) (x : Value) (N : Nat) (I : Nat → Shared → Prop) (Fd : Shared → Prop) (T : Seek prog w A (fun e s' => R (.error e) s') l x N I Fd) (fin : ∀ s, I N s → R (.ok (.ret (.bool false))) s) (finF : ∀ s, Fd s → R (.ok (.ret (.bool true))) s) {s : Shared} (hs : I 0 s) :
    wpAny (model prog w) A.in1 (Builtin.«list.__contains__» ⟨[.ref l, x], []⟩) (GQ.FinOf prog w A R) (fun e s' => R (.error e) s') s := by
  have nxt := in_loop (A := A) (R := R) l x N I Fd T fin finF _ 0 rfl (Nat.zero_le _) s hs
  obtain ⟨xs, n, dd, sl, e1, z1, _⟩ := T.turn _ _ hs (Nat.zero_le _)
  obtain ⟨hp, g, d, tk, os⟩ := s
  wp_walk using wpAny_loadPart' e1
  refine ⟨plainId_quiet plain_contains_loop _, codeAny_builtin entry_contains_loop ?_⟩
  rw [Around.under_plainId plain_contains_loop _]
  exact nxt

end
end PyD

/-! PyD: any, all over things that tell their own truth. -/
namespace PyD
open PySem PySem.Spec L2
section
variable {L : Lk} {X : Cx} {k n : Nat}
variable {pins : List (Addr × Obj)} {s : Shared} {σ : St} {H : Hp} {E : XK} {μ : List Addr} {S : List D} {G : Hp} {Q : VK} {W : WX} {tm : Nat → Option Cl}
def anyL (tm : Nat → Option Cl) : List D → List D → Out Bool
  | [], S => .ok false S
  | d :: ds, S => (truD tm d S).bind fun b S1 => if b then .ok true S1 else anyL tm ds S1
def allL (tm : Nat → Option Cl) : List D → List D → Out Bool
  | [], S => .ok true S
  | d :: ds, S => (truD tm d S).bind fun b S1 => if b then allL tm ds S1 else .ok false S1
/-- the body's own facts, somewhere below -/
abbrev at_ (X : Cx) (A : Around) : Cx := { X with A := A }
theorem inv_at {A : Around} (sb : L2.Sub X n A) (I : Inv X pins σ H s) : Inv (at_ X A) pins σ H s := by
  obtain ⟨ok, i1, i2, i3, i4, i5, i6, i7, i8, i9, i10⟩ := I
  obtain ⟨a1, a2, a3, a4, a5, a6, a7, a8, a9, a10, a11, a12, a13, a14, a15, a16, a17, a18⟩ := ok
  exact ⟨⟨a1, a2, a3, a4, a5, a6, a7, a8, fun _ => sb.room.hd, sb.fr.trans a10, a11, a12, a13, a14, a15, a16, a17, a18⟩, i1, i2, i3, i4, i5, i6, i7, i8, i9, i10⟩
theorem inv_back {A : Around} (ok0 : X.Ok) (I : Inv (at_ X A) pins σ H s) : Inv X pins σ H s := by
  obtain ⟨ok, i1, i2, i3, i4, i5, i6, i7, i8, i9, i10⟩ := I
  exact ⟨ok0, i1, i2, i3, i4, i5, i6, i7, i8, i9, i10⟩
theorem takes_at {A : Around} (ok0 : X.Ok) (tk : Takes X W) : Takes (at_ X A) W := fun u s' z => by
  obtain ⟨a, B, sI, pins, σ, H, cls, d, e, I, r⟩ := z
  exact tk u s' ⟨a, B, sI, pins, σ, H, cls, d, e, inv_back ok0 I, r⟩
theorem tru_at {A : Around} {v : V} {u : Value} {Q : Bool → Hp → Prop} (hK : X.K = L.K) (sb : L2.Sub X n A) (tk : Takes X W) (hT : TmOk L X n tm) (I : Inv X pins σ H s) (rv : RelV v u) (h : rTru L W tm σ v H Q) :
    wpAny (model X.prog X.w) A (truthy u) (TP X pins σ Q) X.xe s := by
  have z := tru_run (X := at_ X A) hK sb.room (takes_at I.ok tk) ⟨hT.look⟩ (inv_at sb I) rv h
  exact wpAny_mono z (fun b s' ⟨H', I', q⟩ => ⟨H', inv_back I.ok I', q⟩) fun _ _ z => z
/-- a list whose items are known through all that follows -/
def Src (L : Lk) (a : Addr) (ds : List D) (μ1 : List Addr) (G1 H1 : Hp) : Prop := ∀ μ G H, Ext μ1 G1 H1 μ G H → PyD.Sub G H → ∃ vs, SqL L.K H a vs ∧ Rs L μ G ds vs
def opAnyT (tm : Nat → Option Cl) (x : D) (S : List D) : Out D := match x with
  | .lst xs => (calmly (anyL tm xs S)).bind fun b S1 => .ok (.bl b) S1
  | _ => .bad
def opAllT (tm : Nat → Option Cl) (x : D) (S : List D) : Out D := match x with
  | .lst xs => (calmly (allL tm xs S)).bind fun b S1 => .ok (.bl b) S1
  | _ => .bad
theorem calm_post {α β : Type} {o : Out α} {f : α → List D → Out β} {K : β → List D → List Addr → Hp → Hp → Prop} {E' : XK} (h : Post L E μ G H ((calmly o).bind f) K) : Post L E' μ G H o (fun a S μ' G' H' => Post L E μ' G' H' (f a S) K) := by
  cases o with
  | ok a S => exact fun μ' G' H' e s => Post.ext h e
  | exc c fs S => exact h.elim
  | bad => exact h.elim
theorem src_vw {x : D} {xs : List D} {v : V} (st : Stt L μ S G H) (hx : x = .lst xs) (rx : RT L μ G H x v) : ∃ a, v = .ref a ∧ Src L a xs μ G H := by
  subst hx
  rcases rx with r | ⟨p, e, t, n, m⟩
  · unfold R at r
    obtain ⟨a, vs, e, q, rs⟩ := r
    exact ⟨a, e, fun μ' G' H' e' s' => ⟨vs, sqlSub (e'.g.trans s') q, rs.ext e'⟩⟩
  · obtain ⟨vs, h, rs⟩ := t
    exact ⟨p, e, fun μ' G' H' e' s' => ⟨vs, .inl (.inl (e'.h _ _ h m)), rs.ext e'⟩⟩

theorem any_loop {A : Around} (sb : L2.Sub X (n + 1) A) (hc : X.calm = true) (hK : X.K = L.K) (tk : Takes X W) (hT : TmOk L X n tm) {a it : Addr} {ds : List D} {μ1 : List Addr} {G1 H1 : Hp} (src : Src L a ds μ1 G1 H1) (k : Nat) :
    ∀ (i : Nat) (s : Shared) (μ : List Addr) (G : Hp) (S : List D) (H : Hp), ds.length - i = k → i ≤ ds.length → Inv X pins σ H s → FpOk X pins H it → s.heap.IsListIter it a i → Ext μ1 G1 H1 μ G H → Stt L μ S G H →
      Post L (fun c d H' => W c d σ H') μ G H (anyL tm (ds.drop i) S) (fun b _ _ _ H' => Q (.bl b) H') → codeAny (model X.prog X.w) A (.builtin "any.loop" ⟨[.ref it], []⟩) (wants (EP X pins σ Q) X.xe) s := by
  induction k with
  | zero =>
    intro i s μ G S H hk hi I fk st e0 stt p
    have ei : i = ds.length := by omega
    obtain ⟨vs, q, r⟩ := src μ G H e0 stt.sub
    obtain ⟨its, rv, pl, _⟩ := I.list (by rw [hK]; exact q)
    refine codeAny_builtin F.entry_any_loop ?_
    rw [Around.under_plainId F.plain_any_loop _]
    show wpAny _ A.in1 (pyNext (.ref it) >>= _) _ _ s
    obtain ⟨f0, f1, f2, f3, f4, f5⟩ := fk
    have hz := rv.length
    have hz2 := r.length
    refine wpAny_bind (wpAny_pyNext_list_end sb.room.hd st pl.isList (by simp; omega) fun h' eb => ?_)
    refine wpAny_bind (wpAny_rule (wpAny_pure ?_))
    rw [ei, List.drop_length] at p
    exact ⟨.bl false, H, I.turned (t' := s.toks) (fun b o hb e => eb b o hb e) f0 f1 f3 f4 f5, rfl, p μ G H (.refl _ _ _) stt⟩
  | succ k ih =>
    intro i s μ G S H hk hi I fk st e0 stt p
    have hlt : i < ds.length := by omega
    obtain ⟨vs, q, r⟩ := src μ G H e0 stt.sub
    obtain ⟨its, rv, pl, _⟩ := I.list (by rw [hK]; exact q)
    obtain ⟨x, ex, rx⟩ := r.get (List.getElem?_eq_getElem hlt)
    obtain ⟨u, eu, ru⟩ := rv.get ex
    refine codeAny_builtin F.entry_any_loop ?_
    rw [Around.under_plainId F.plain_any_loop _]
    show wpAny _ A.in1 (pyNext (.ref it) >>= _) _ _ s
    obtain ⟨f0, f1, f2, f3, f4, f5⟩ := id fk
    refine wpAny_bind (wpAny_pyNext_list_item st pl.isList (x := u) (by simpa using eu) fun h' st' sb' => ?_)
    have I1 : Inv X pins σ H { s with heap := h' } := I.turned (t' := s.toks) (fun b o hb e => (sb'.2 b hb).trans e) f0 f1 f3 f4 f5
    obtain ⟨o, eo, co, dto⟩ := id st'
    have I1' := I1.pinned (fp := [it]) (fun b hb => by rw [List.mem_singleton.mp hb]; exact fk) (fun b hb => by rw [List.mem_singleton.mp hb]; exact ⟨o, eo, fun v z => by rw [dto] at z; cases z⟩)
    have ed : ds.drop i = ds[i] :: ds.drop (i + 1) := drop_get (List.getElem?_eq_getElem hlt)
    rw [ed] at p
    have pz : Post L (fun c d H' => W c d σ H') μ G H (truD tm ds[i] S) (fun b S2 μ2 G2 H2 => Ext μ G H μ2 G2 H2 ∧ Stt L μ2 S2 G2 H2 ∧ Post L (fun c d H' => W c d σ H') μ2 G2 H2 (if b then .ok true S2 else anyL tm (ds.drop (i + 1)) S2) (fun b _ _ _ H' => Q (.bl b) H')) := by
      unfold anyL at p
      exact p.split.imp fun b S2 μ2 G2 H2 e2 st2 p2 => ⟨e2, st2, p2⟩
    have go := tru_at (A := A.in1) (Q := fun b H2 => ∃ S2 μ2 G2, Ext μ G H μ2 G2 H2 ∧ Stt L μ2 S2 G2 H2 ∧ Post L (fun c d H' => W c d σ H') μ2 G2 H2 (if b then .ok true S2 else anyL tm (ds.drop (i + 1)) S2) (fun b _ _ _ H' => Q (.bl b) H')) hK sb.in1 tk hT I1' ru
      ⟨μ, S, G, ds[i], stt, rx, pz.imp fun b S2 μ2 G2 H2 _ _ z => ⟨S2, μ2, G2, z⟩⟩
    refine wpAny_bind (wpAny_holding (wpAny_mono go (fun b s2 ⟨H2, I2, S2, μ2, G2, e2, st2, p2⟩ => ?_) fun _ _ z => z))
    refine wpAny_bind (wpAny_letGo ?_)
    have pin' := I2.pin (it, o) (List.mem_append_right _ (List.mem_append_right _ (mem_pinsAt (by simp) eo)))
    cases b with
    | true =>
      simp only [if_true]
      refine wpAny_bind (wpAny_rule (wpAny_pure ?_))
      exact ⟨.bl true, H2, I2.unpinned, rfl, p2 μ2 G2 H2 (.refl _ _ _) st2⟩
    | false =>
      simp only [Bool.false_eq_true, if_false]
      refine wpAny_pure ⟨plainId_quiet F.plain_any_loop _, ?_⟩
      refine ih (i + 1) _ μ2 G2 S2 H2 (by omega) hlt I2.unpinned ?_ ?_ (e0.trans e2) st2 p2
      · exact ⟨pin'.2.1, fk.2⟩
      · exact st'.at fun o q => by rw [q] at eo; cases eo; exact pin'.1
theorem so_anyT (hK : X.K = L.K) (hc : X.calm = true) (hr : Room (n + 2) X.A) (hT : TmOk L X n tm) : CallR X (.builtin "any") (rC1 L (opAnyT tm)) := by
  intro pins s σ H vs us Q I r hh
  obtain ⟨v, rfl, E, μ, S, G, x, st, rx, p⟩ := hh
  obtain ⟨u, rfl, ru⟩ := vals1 r
  have tk : Takes X WF := fun u s' z => by
    obtain ⟨a, B, sI, pins, σ, H, cls, d, e, I, _, _, _, _, _, _, w⟩ := z
    exact w.elim
  unfold opAnyT at p
  cases x with
  | lst xs =>
    obtain ⟨a, rfl, src⟩ := src_vw st rfl rx
    cases ru
    obtain ⟨ws, q, rs⟩ := src μ G H (.refl _ _ _) st.sub
    obtain ⟨its, rv, pl, _⟩ := I.list (by rw [hK]; exact q)
    refine call_function_tree F.kind_any F.plain_any F.entry_any (F.args_any1 _) ?_
    unfold Builtin.«any»
    refine wpAny_bind (m := oneArg "any" _) (wpAny_pure ?_)
    refine wpAny_bind (wpAny_pyIter_list pl.isList ?_)
    refine wpAny_pure ⟨plainId_quiet F.plain_any_loop _, ?_⟩
    have I2 := I.kept (t' := s.toks) (h' := s.heap.push { cls := .type "list_iterator", data := .fields #[.ref a, .int 0 0] }) fun b o e => Heap.get?_push_of_some _ e
    refine any_loop (L := L) (W := WF) (A := X.A) ⟨hr.mono (Nat.le_succ _), rfl⟩ hc hK tk hT src _ 0 _ μ G S H rfl (Nat.zero_le _) I2 (I.fpOk (Nat.le_refl _) (I.hok.fresh (Nat.le_refl _))) ⟨_, Heap.get?_push_size _ rfl, rfl, rfl⟩ (.refl _ _ _) st ?_
    exact (calm_post p).imp fun b S1 μ1 G1 H1 e1 st1 p1 => ko_bl st1 p1
  | _ => exact p.elim

theorem all_loop {A : Around} (sb : L2.Sub X (n + 1) A) (hc : X.calm = true) (hK : X.K = L.K) (tk : Takes X W) (hT : TmOk L X n tm) {a it : Addr} {ds : List D} {μ1 : List Addr} {G1 H1 : Hp} (src : Src L a ds μ1 G1 H1) (k : Nat) :
    ∀ (i : Nat) (s : Shared) (μ : List Addr) (G : Hp) (S : List D) (H : Hp), ds.length - i = k → i ≤ ds.length → Inv X pins σ H s → FpOk X pins H it → s.heap.IsListIter it a i → Ext μ1 G1 H1 μ G H → Stt L μ S G H →
      Post L (fun c d H' => W c d σ H') μ G H (allL tm (ds.drop i) S) (fun b _ _ _ H' => Q (.bl b) H') → codeAny (model X.prog X.w) A (.builtin "all.loop" ⟨[.ref it], []⟩) (wants (EP X pins σ Q) X.xe) s := by
  induction k with
  | zero =>
    intro i s μ G S H hk hi I fk st e0 stt p
    have ei : i = ds.length := by omega
    obtain ⟨vs, q, r⟩ := src μ G H e0 stt.sub
    obtain ⟨its, rv, pl, _⟩ := I.list (by rw [hK]; exact q)
    refine codeAny_builtin F.entry_all_loop ?_
    rw [Around.under_plainId F.plain_all_loop _]
    show wpAny _ A.in1 (pyNext (.ref it) >>= _) _ _ s
    obtain ⟨f0, f1, f2, f3, f4, f5⟩ := fk
    have hz := rv.length
    have hz2 := r.length
    refine wpAny_bind (wpAny_pyNext_list_end sb.room.hd st pl.isList (by simp; omega) fun h' eb => ?_)
    refine wpAny_bind (wpAny_rule (wpAny_pure ?_))
    rw [ei, List.drop_length] at p
    exact ⟨.bl true, H, I.turned (t' := s.toks) (fun b o hb e => eb b o hb e) f0 f1 f3 f4 f5, rfl, p μ G H (.refl _ _ _) stt⟩
  | succ k ih =>
    intro i s μ G S H hk hi I fk st e0 stt p
    have hlt : i < ds.length := by omega
    obtain ⟨vs, q, r⟩ := src μ G H e0 stt.sub
    obtain ⟨its, rv, pl, _⟩ := I.list (by rw [hK]; exact q)
    obtain ⟨x, ex, rx⟩ := r.get (List.getElem?_eq_getElem hlt)
    obtain ⟨u, eu, ru⟩ := rv.get ex
    refine codeAny_builtin F.entry_all_loop ?_
    rw [Around.under_plainId F.plain_all_loop _]
    show wpAny _ A.in1 (pyNext (.ref it) >>= _) _ _ s
    obtain ⟨f0, f1, f2, f3, f4, f5⟩ := id fk
    refine wpAny_bind (wpAny_pyNext_list_item st pl.isList (x := u) (by simpa using eu) fun h' st' sb' => ?_)
    have I1 : Inv X pins σ H { s with heap := h' } := I.turned (t' := s.toks) (fun b o hb e => (sb'.2 b hb).trans e) f0 f1 f3 f4 f5
    obtain ⟨o, eo, co, dto⟩ := id st'
    have I1' := I1.pinned (fp := [it]) (fun b hb => by rw [List.mem_singleton.mp hb]; exact fk) (fun b hb => by rw [List.mem_singleton.mp hb]; exact ⟨o, eo, fun v z => by rw [dto] at z; cases z⟩)
    have ed : ds.drop i = ds[i] :: ds.drop (i + 1) := drop_get (List.getElem?_eq_getElem hlt)
    rw [ed] at p
    have pz : Post L (fun c d H' => W c d σ H') μ G H (truD tm ds[i] S) (fun b S2 μ2 G2 H2 => Ext μ G H μ2 G2 H2 ∧ Stt L μ2 S2 G2 H2 ∧ Post L (fun c d H' => W c d σ H') μ2 G2 H2 (if b then allL tm (ds.drop (i + 1)) S2 else .ok false S2) (fun b _ _ _ H' => Q (.bl b) H')) := by
      unfold allL at p
      exact p.split.imp fun b S2 μ2 G2 H2 e2 st2 p2 => ⟨e2, st2, p2⟩
    have go := tru_at (A := A.in1) (Q := fun b H2 => ∃ S2 μ2 G2, Ext μ G H μ2 G2 H2 ∧ Stt L μ2 S2 G2 H2 ∧ Post L (fun c d H' => W c d σ H') μ2 G2 H2 (if b then allL tm (ds.drop (i + 1)) S2 else .ok false S2) (fun b _ _ _ H' => Q (.bl b) H')) hK sb.in1 tk hT I1' ru
      ⟨μ, S, G, ds[i], stt, rx, pz.imp fun b S2 μ2 G2 H2 _ _ z => ⟨S2, μ2, G2, z⟩⟩
    refine wpAny_bind (wpAny_holding (wpAny_mono go (fun b s2 ⟨H2, I2, S2, μ2, G2, e2, st2, p2⟩ => ?_) fun _ _ z => z))
    refine wpAny_bind (wpAny_letGo ?_)
    have pin' := I2.pin (it, o) (List.mem_append_right _ (List.mem_append_right _ (mem_pinsAt (by simp) eo)))
    cases b with
    | true =>
      simp only [if_true]
      refine wpAny_pure ⟨plainId_quiet F.plain_all_loop _, ?_⟩
      refine ih (i + 1) _ μ2 G2 S2 H2 (by omega) hlt I2.unpinned ?_ ?_ (e0.trans e2) st2 p2
      · exact ⟨pin'.2.1, fk.2⟩
      · exact st'.at fun o q => by rw [q] at eo; cases eo; exact pin'.1
    | false =>
      simp only [Bool.false_eq_true, if_false]
      refine wpAny_bind (wpAny_rule (wpAny_pure ?_))
      exact ⟨.bl false, H2, I2.unpinned, rfl, p2 μ2 G2 H2 (.refl _ _ _) st2⟩
theorem so_allT (hK : X.K = L.K) (hc : X.calm = true) (hr : Room (n + 2) X.A) (hT : TmOk L X n tm) : CallR X (.builtin "all") (rC1 L (opAllT tm)) := by
  intro pins s σ H vs us Q I r hh
  obtain ⟨v, rfl, E, μ, S, G, x, st, rx, p⟩ := hh
  obtain ⟨u, rfl, ru⟩ := vals1 r
  have tk : Takes X WF := fun u s' z => by
    obtain ⟨a, B, sI, pins, σ, H, cls, d, e, I, _, _, _, _, _, _, w⟩ := z
    exact w.elim
  unfold opAllT at p
  cases x with
  | lst xs =>
    obtain ⟨a, rfl, src⟩ := src_vw st rfl rx
    cases ru
    obtain ⟨ws, q, rs⟩ := src μ G H (.refl _ _ _) st.sub
    obtain ⟨its, rv, pl, _⟩ := I.list (by rw [hK]; exact q)
    refine call_function_tree F.kind_all F.plain_all F.entry_all (F.args_all1 _) ?_
    unfold Builtin.«all»
    refine wpAny_bind (m := oneArg "all" _) (wpAny_pure ?_)
    refine wpAny_bind (wpAny_pyIter_list pl.isList ?_)
    refine wpAny_pure ⟨plainId_quiet F.plain_all_loop _, ?_⟩
    have I2 := I.kept (t' := s.toks) (h' := s.heap.push { cls := .type "list_iterator", data := .fields #[.ref a, .int 0 0] }) fun b o e => Heap.get?_push_of_some _ e
    refine all_loop (L := L) (W := WF) (A := X.A) ⟨hr.mono (Nat.le_succ _), rfl⟩ hc hK tk hT src _ 0 _ μ G S H rfl (Nat.zero_le _) I2 (I.fpOk (Nat.le_refl _) (I.hok.fresh (Nat.le_refl _))) ⟨_, Heap.get?_push_size _ rfl, rfl, rfl⟩ (.refl _ _ _) st ?_
    exact (calm_post p).imp fun b S1 μ1 G1 H1 e1 st1 p1 => ko_bl st1 p1
  | _ => exact p.elim

end
end PyD

/-! PyD: ==, != and in where classes have their own ==. -/
namespace PyD
open PySem PySem.Spec L2
mutual
/-- no cell, no class, no dict in it; classes below nc -/
def still (nc : Nat) : D → Bool
  | .non => true
  | .bl _ => true
  | .int _ => true
  | .str _ => true
  | .tup ds => stills nc ds
  | .lst ds => stills nc ds
  | .ins c ds => decide (c < nc) && stills nc ds
  | _ => false
def stills (nc : Nat) : List D → Bool
  | [] => true
  | d :: ds => still nc d && stills nc ds
end
def toB (d : D) (S : List D) : Out Bool := match d with
  | .bl b => .ok b S
  | _ => .bad
/-- == by one's own way -/
def eqI (em : Nat → Option Cl) (x y : D) (S : List D) : Out Bool := match x, y with
  | .ins c _, .ins c' _ => match em c, em c' with
    | some cl, some _ => (calmly (cl [x, y] S)).bind toB
    | _, _ => .bad
  | _, _ => .bad
/-- == inside a list -/
def eqE (em : Nat → Option Cl) (nc : Nat) (x y : D) (S : List D) : Out Bool := match eqP x y with
  | some b => .ok b S
  | none => if still nc x && still nc y then eqI em x y S else .bad
def eqsL (em : Nat → Option Cl) (nc : Nat) : List D → List D → List D → Out Bool
  | [], [], S => .ok true S
  | x :: xs, y :: ys, S => (eqE em nc x y S).bind fun b S1 => if b then eqsL em nc xs ys S1 else .ok false S1
  | _, _, _ => .bad
def inL (em : Nat → Option Cl) (nc : Nat) (x : D) : List D → List D → Out Bool
  | [], S => .ok false S
  | y :: ys, S => (eqE em nc y x S).bind fun b S1 => if b then .ok true S1 else inL em nc x ys S1
def eqM (em : Nat → Option Cl) (nc : Nat) (x y : D) (S : List D) : Out Bool := match x, y with
  | .lst xs, .lst ys => if xs.length = ys.length then eqsL em nc xs ys S else .ok false S
  | x, y => eqI em x y S
def opEqM (em : Nat → Option Cl) (nc : Nat) (x y : D) (S : List D) : Out D := match eqP (dr S x) (dr S y) with
  | some b => .ok (.bl b) S
  | none => (eqM em nc x y S).bind fun b S1 => .ok (.bl b) S1
def opNeM (em : Nat → Option Cl) (nc : Nat) (x y : D) (S : List D) : Out D := match eqP (dr S x) (dr S y) with
  | some b => .ok (.bl (!b)) S
  | none => (eqM em nc x y S).bind fun b S1 => .ok (.bl (!b)) S1
def opInM (em : Nat → Option Cl) (nc : Nat) (x y : D) (S : List D) : Out D := match inP (dr S x) (dr S y) with
  | some b => .ok (.bl b) S
  | none => match y with
    | .lst ys => (inL em nc x ys S).bind fun b S1 => .ok (.bl b) S1
    | _ => .bad
def opNotInM (em : Nat → Option Cl) (nc : Nat) (x y : D) (S : List D) : Out D := match inP (dr S x) (dr S y) with
  | some b => .ok (.bl (!b)) S
  | none => match y with
    | .lst ys => (inL em nc x ys S).bind fun b S1 => .ok (.bl (!b)) S1
    | _ => .bad
/-- what the text's classes must have for == -/
structure EmOk (L : Lk) (X : Cx) (n nc : Nat) (em : Nat → Option Cl) : Prop where
  look : ∀ c cl, em c = some cl → ∃ f fd ps, PySem.W.findIn X.K (.ref (L.cA c)) "__eq__" = some (some (.ref f)) ∧ PySem.W.isFn X.K (.ref f) = true ∧ FnOk X.prog X.w X.K X.mg X.base (CX X.prog X.w) n f fd ps (spD L 2 cl) ∧ Binds X.K fd ps []
  ne : ∀ c cl, em c = some cl → PySem.W.findIn X.K (.ref (L.cA c)) "__ne__" = some (some (.builtin "object.__ne__")) ∧ PySem.W.mroIn X.K (L.cA c) (.type "object") = some true
  nf : ∀ c c' cl cl', em c = some cl → em c' = some cl' → PySem.W.notFirst X.K (L.cA c) (.ref (L.cA c')) = true
  refl : ∀ c cl fs S d S', em c = some cl → cl [.ins c fs, .ins c fs] S = .ok d S' → d = .bl true ∧ S' = S
  inj : ∀ c c', c < nc → c' < nc → L.cA c = L.cA c' → c = c'
section
variable {L : Lk} {X : Cx} {k n nc : Nat} {em : Nat → Option Cl}
variable {pins : List (Addr × Obj)} {s : Shared} {σ : St} {H : Hp} {E : XK} {μ : List Addr} {S : List D} {G : Hp} {Q : VK} {W : WX}
theorem tup_obj (hK : X.K = L.K) (I : Inv X pins σ H s) (sb : PyD.Sub G H) {a : Addr} {vs : List V} (h : SqT L.K G a vs) : ∃ o, s.heap.get? a = some o ∧ o.cls = .type "tuple" := by
  obtain ⟨its, r, ⟨o, e, c, _⟩, _⟩ := I.tuple (by rw [hK]; exact sqtSub sb h)
  exact ⟨o, e, c⟩
theorem lst_obj (hK : X.K = L.K) (I : Inv X pins σ H s) (sb : PyD.Sub G H) {a : Addr} {vs : List V} (h : SqL L.K G a vs) : ∃ o, s.heap.get? a = some o ∧ o.cls = .type "list" := by
  obtain ⟨its, r, ⟨o, m, e, c, _⟩, _⟩ := I.list (by rw [hK]; exact sqlSub sb h)
  exact ⟨o, e, c⟩
theorem ins_obj (I : Inv X pins σ H s) (sb : PyD.Sub G H) {a C dx : Addr} {fs : List (Str × V)} (h : G a = some (.ins C dx fs)) : ∃ o, s.heap.get? a = some o ∧ o.cls = .ref C := by
  obtain ⟨_, _, _, e, _⟩ := (show ObjOk X.prog X.w H s.heap a (.ins C dx fs) from I.hok a _ (sb _ _ h))
  exact ⟨_, e, rfl⟩
theorem zip_inj {fs : List Str} {vs ws : List V} (h1 : vs.length ≤ fs.length) (h2 : ws.length ≤ fs.length) (e : fs.zip vs = fs.zip ws) : vs = ws := by
  have z1 : (fs.zip vs).map Prod.snd = vs := List.map_snd_zip h1
  have z2 : (fs.zip ws).map Prod.snd = ws := List.map_snd_zip h2
  rw [← z1, ← z2, e]
mutual
/-- one value, one reading -/
theorem R.inj (hK : X.K = L.K) (ij : ∀ c c', c < nc → c' < nc → L.cA c = L.cA c' → c = c') (I : Inv X pins σ H s) (sb : PyD.Sub G H) : ∀ (d d' : D) (v : V), still nc d = true → still nc d' = true → R L μ G d v → R L μ G d' v → d = d'
  | .non, d', v, _, s2, h, k => by
    unfold R at h
    subst h
    cases d' <;> unfold R at k <;> first | rfl | (cases k; done) | (obtain ⟨a, vs, e, _⟩ := k; cases e; done) | (obtain ⟨a, dx, vs, e, _⟩ := k; cases e; done) | exact absurd s2 (by simp [still])
  | .bl b, d', v, _, s2, h, k => by
    unfold R at h
    subst h
    cases d' <;> unfold R at k <;> first | (cases k; rfl) | (cases k; done) | (obtain ⟨a, vs, e, _⟩ := k; cases e; done) | (obtain ⟨a, dx, vs, e, _⟩ := k; cases e; done) | exact absurd s2 (by simp [still])
  | .int b, d', v, _, s2, h, k => by
    unfold R at h
    subst h
    cases d' <;> unfold R at k <;> first | (cases k; rfl) | (cases k; done) | (obtain ⟨a, vs, e, _⟩ := k; cases e; done) | (obtain ⟨a, dx, vs, e, _⟩ := k; cases e; done) | exact absurd s2 (by simp [still])
  | .str b, d', v, _, s2, h, k => by
    unfold R at h
    subst h
    cases d' <;> unfold R at k <;> first | (cases k; rfl) | (cases k; done) | (obtain ⟨a, vs, e, _⟩ := k; cases e; done) | (obtain ⟨a, dx, vs, e, _⟩ := k; cases e; done) | exact absurd s2 (by simp [still])
  | .tup ds, d', v, s1, s2, h, k => by
    unfold R at h
    unfold still at s1
    obtain ⟨a, vs, rfl, q, r⟩ := h
    obtain ⟨o, eo, co⟩ := tup_obj hK I sb (SqT.of q)
    cases d' with
    | tup es =>
      unfold R at k
      unfold still at s2
      obtain ⟨a', vs', e, q', r'⟩ := k
      cases e
      have := I.tuple_inj (by rw [hK]; exact SqT.of (sb _ _ q)) (by rw [hK]; exact SqT.of (sb _ _ q'))
      subst this
      rw [Rs.inj hK ij I sb ds es vs s1 s2 r r']
    | lst es =>
      unfold R at k
      obtain ⟨a', vs', e, q', _⟩ := k
      cases e
      obtain ⟨o', eo', co'⟩ := lst_obj hK I sb q'
      rw [eo] at eo'; cases eo'
      rw [co] at co'; injection co' with z; exact absurd z (by decide)
    | ins c es =>
      unfold R at k
      obtain ⟨a', dx, vs', e, q', _⟩ := k
      cases e
      obtain ⟨o', eo', co'⟩ := ins_obj I sb q'
      rw [eo] at eo'; cases eo'
      rw [co] at co'; cases co'
    | non => unfold R at k; cases k
    | bl _ => unfold R at k; cases k
    | int _ => unfold R at k; cases k
    | str _ => unfold R at k; cases k
    | dct _ _ => exact absurd s2 (by simp [still])
    | dcT _ _ => exact absurd s2 (by simp [still])
    | ktp _ => exact absurd s2 (by simp [still])
    | cls _ => exact absurd s2 (by simp [still])
    | loc _ => exact absurd s2 (by simp [still])
  | .lst ds, d', v, s1, s2, h, k => by
    unfold R at h
    unfold still at s1
    obtain ⟨a, vs, rfl, q, r⟩ := h
    obtain ⟨o, eo, co⟩ := lst_obj hK I sb q
    cases d' with
    | lst es =>
      unfold R at k
      unfold still at s2
      obtain ⟨a', vs', e, q', r'⟩ := k
      cases e
      have := I.list_inj (by rw [hK]; exact sqlSub sb q) (by rw [hK]; exact sqlSub sb q')
      subst this
      rw [Rs.inj hK ij I sb ds es vs s1 s2 r r']
    | tup es =>
      unfold R at k
      obtain ⟨a', vs', e, q', _⟩ := k
      cases e
      obtain ⟨o', eo', co'⟩ := tup_obj hK I sb (SqT.of q')
      rw [eo] at eo'; cases eo'
      rw [co] at co'; injection co' with z; exact absurd z (by decide)
    | ins c es =>
      unfold R at k
      obtain ⟨a', dx, vs', e, q', _⟩ := k
      cases e
      obtain ⟨o', eo', co'⟩ := ins_obj I sb q'
      rw [eo] at eo'; cases eo'
      rw [co] at co'; cases co'
    | non => unfold R at k; cases k
    | bl _ => unfold R at k; cases k
    | int _ => unfold R at k; cases k
    | str _ => unfold R at k; cases k
    | dct _ _ => exact absurd s2 (by simp [still])
    | dcT _ _ => exact absurd s2 (by simp [still])
    | ktp _ => exact absurd s2 (by simp [still])
    | cls _ => exact absurd s2 (by simp [still])
    | loc _ => exact absurd s2 (by simp [still])
  | .ins c ds, d', v, s1, s2, h, k => by
    unfold R at h
    simp only [still, Bool.and_eq_true, decide_eq_true_eq] at s1
    obtain ⟨a, dx, vs, rfl, q, lv, r⟩ := h
    obtain ⟨o, eo, co⟩ := ins_obj I sb q
    cases d' with
    | ins c' es =>
      unfold R at k
      simp only [still, Bool.and_eq_true, decide_eq_true_eq] at s2
      obtain ⟨a', dx', vs', e, q', lv', r'⟩ := k
      cases e
      rw [q] at q'
      injection q' with q'
      injection q' with z1 z2 z3
      have := ij c c' s1.1 s2.1 z1
      subst this
      have := zip_inj lv lv' z3
      subst this
      rw [Rs.inj hK ij I sb ds es vs s1.2 s2.2 r r']
    | tup es =>
      unfold R at k
      obtain ⟨a', vs', e, q', _⟩ := k
      cases e
      obtain ⟨o', eo', co'⟩ := tup_obj hK I sb (SqT.of q')
      rw [eo] at eo'; cases eo'
      rw [co] at co'; cases co'
    | lst es =>
      unfold R at k
      obtain ⟨a', vs', e, q', _⟩ := k
      cases e
      obtain ⟨o', eo', co'⟩ := lst_obj hK I sb q'
      rw [eo] at eo'; cases eo'
      rw [co] at co'; cases co'
    | non => unfold R at k; cases k
    | bl _ => unfold R at k; cases k
    | int _ => unfold R at k; cases k
    | str _ => unfold R at k; cases k
    | dct _ _ => exact absurd s2 (by simp [still])
    | dcT _ _ => exact absurd s2 (by simp [still])
    | ktp _ => exact absurd s2 (by simp [still])
    | cls _ => exact absurd s2 (by simp [still])
    | loc _ => exact absurd s2 (by simp [still])
  | .dct _ _, d', v, s1, _, _, _ => absurd s1 (by simp [still])
  | .dcT _ _, d', v, s1, _, _, _ => absurd s1 (by simp [still])
  | .ktp _, d', v, s1, _, _, _ => absurd s1 (by simp [still])
  | .cls _, d', v, s1, _, _, _ => absurd s1 (by simp [still])
  | .loc _, d', v, s1, _, _, _ => absurd s1 (by simp [still])
theorem Rs.inj (hK : X.K = L.K) (ij : ∀ c c', c < nc → c' < nc → L.cA c = L.cA c' → c = c') (I : Inv X pins σ H s) (sb : PyD.Sub G H) : ∀ (ds es : List D) (vs : List V), stills nc ds = true → stills nc es = true → Rs L μ G ds vs → Rs L μ G es vs → ds = es
  | [], es, vs, _, _, h, k => by
    rw [h.nil_inv] at k
    cases es with
    | nil => rfl
    | cons e es => obtain ⟨v, ws, z, _⟩ := k.cons_inv; cases z
  | d :: ds, es, vs, s1, s2, h, k => by
    obtain ⟨v, ws, rfl, r, t⟩ := h.cons_inv
    cases es with
    | nil => have := k.nil_inv; cases this
    | cons e es =>
      obtain ⟨v', ws', z, r', t'⟩ := k.cons_inv
      cases z
      simp only [stills, Bool.and_eq_true] at s1 s2
      rw [R.inj hK ij I sb d e v s1.1 s2.1 r r', Rs.inj hK ij I sb ds es ws s1.2 s2.2 t t']
end
theorem takesWF : Takes X WF := fun u s' z => by
  obtain ⟨a, B, sI, pins, σ, H, cls, d, e, I, _, _, _, _, _, _, w⟩ := z
  exact w.elim
theorem thn' {M : Model} {A : Around} {α : Type} {m : Sem α} {P Q : α → Shared → Prop} {E' : Value → Shared → Prop} {s : Shared} (h : wpAny M A m P E' s) (k : ∀ a s', P a s' → Q a s') : wpAny M A m Q E' s := wpAny_mono h k fun _ _ z => z
/-- the call of one's own == -/
theorem own_eq {A : Around} (sb : L2.Sub X n A) {c : Nat} {cl : Cl} (hE : EmOk L X n nc em) (ec : em c = some cl) {x y : D} {v u : V} {a b : Value} {Q : Bool → Hp → Prop} (I : Inv X pins σ H s) (st : Stt L μ S G H) (rx : R L μ G x v) (ry : R L μ G y u) (ra : RelV v a) (rb : RelV u b)
    (p : Post L E μ G H ((calmly (cl [x, y] S)).bind toB) fun b _ _ _ H' => Q b H') : ∃ f, PySem.W.findIn X.K (.ref (L.cA c)) "__eq__" = some (some (.ref f)) ∧ PySem.W.isFn X.K (.ref f) = true ∧
      wpAny (model X.prog X.w) A (call (.ref f) [a, b]) (fun r s' => ∃ z, r = .bool z ∧ ∃ H', Inv X pins σ H' s' ∧ Q z H') X.xe s := by
  obtain ⟨f, fd, ps, e1, e2, F, hb⟩ := hE.look c cl ec
  refine ⟨f, e1, e2, ?_⟩
  have sp : spD L 2 cl [v, u] H (fun w H' => ∃ z, w = .bl z ∧ Q z H') (fun c d H' => WF c d σ H') := by
    refine ⟨μ, S, G, [x, y], st, Rs.cons rx (Rs.cons ry Rs.nil), rfl, (calm_post p).imp fun d S1 μ1 G1 H1 e1 st1 p1 w rw' => ?_⟩
    cases d with
    | bl z => unfold R at rw'; exact ⟨z, rw', p1 μ1 G1 H1 (.refl _ _ _) st1⟩
    | _ => exact p1.elim
  refine thn' (run_fnA F sb hb takesWF I (.cons ra (.cons rb .nil)) sp) fun r s' ⟨w, H', I', rw', z, ez, q⟩ => ?_
  subst ez
  cases rw'
  exact ⟨z, rfl, H', I', q⟩
theorem eqI_cases {x y : D} {K : Bool → List D → List Addr → Hp → Hp → Prop} (h : Post L E μ G H (eqI em x y S) K) : ∃ c fs c' fs' cl cl', x = .ins c fs ∧ y = .ins c' fs' ∧ em c = some cl ∧ em c' = some cl' ∧ Post L E μ G H ((calmly (cl [x, y] S)).bind toB) K := by
  unfold eqI at h
  split at h
  · rename_i c fs c' fs'
    split at h
    · rename_i cl cl' e1 e2
      exact ⟨c, fs, c', fs', cl, cl', rfl, rfl, e1, e2, h⟩
    · exact h.elim
  · exact h.elim
/-- x == y, both of own classes -/
theorem rc_eqI (hK : X.K = L.K) {A : Around} (sb : L2.Sub X n A) (hE : EmOk L X n nc em) {x y : D} {v u : V} {a b : Value} {Q : Bool → Hp → Prop} (I : Inv X pins σ H s) (st : Stt L μ S G H) (rx : R L μ G x v) (ry : R L μ G y u) (ra : RelV v a) (rb : RelV u b)
    (p : Post L E μ G H (eqI em x y S) fun b _ _ _ H' => Q b H') : wpAny (model X.prog X.w) A (richCompare .Eq a b) (fun r s' => ∃ z, r = .bool z ∧ ∃ H', Inv X pins σ H' s' ∧ Q z H') X.xe s := by
  obtain ⟨c, fs, c', fs', cl, cl', rfl, rfl, ec, ec', p⟩ := eqI_cases p
  obtain ⟨f, e1, e2, run⟩ := own_eq sb hE ec I st rx ry ra rb p
  unfold R at rx ry
  obtain ⟨x, dx, vs, rfl, hx, _, _⟩ := rx
  obtain ⟨y, dy, ws, rfl, hy, _, _⟩ := ry
  cases ra
  cases rb
  obtain ⟨mA, J, _⟩ := ins_get I.hok (st.sub _ _ hx)
  obtain ⟨mB, J', _⟩ := ins_get I.hok (st.sub _ _ hy)
  obtain ⟨od, J, _⟩ := J.look
  obtain ⟨od', J', _⟩ := J'.look
  obtain ⟨m, hF⟩ := I.fr
  refine PySem.W.cmp_K (op := .Eq) sb.room.units0 hF I.ok.mod.kin J J'.type (hE.nf c c' cl cl' ec ec') e1 e2 (thn' run fun r s' ⟨z, e, q⟩ => ?_)
  subst e
  exact ⟨z, rfl, q⟩
theorem rc_neI (hK : X.K = L.K) {A : Around} (sb : L2.Sub X (n + 1) A) (hE : EmOk L X n nc em) {x y : D} {v u : V} {a b : Value} {Q : Bool → Hp → Prop} (I : Inv X pins σ H s) (st : Stt L μ S G H) (rx : R L μ G x v) (ry : R L μ G y u) (ra : RelV v a) (rb : RelV u b)
    (p : Post L E μ G H (eqI em x y S) fun b _ _ _ H' => Q b H') : wpAny (model X.prog X.w) A (richCompare .NotEq a b) (fun r s' => ∃ z, r = .bool (!z) ∧ ∃ H', Inv X pins σ H' s' ∧ Q z H') X.xe s := by
  obtain ⟨c, fs, c', fs', cl, cl', rfl, rfl, ec, ec', p⟩ := eqI_cases p
  obtain ⟨f, e1, e2, run⟩ := own_eq sb.in1 hE ec I st rx ry ra rb p
  unfold R at rx ry
  obtain ⟨x, dx, vs, rfl, hx, _, _⟩ := rx
  obtain ⟨y, dy, ws, rfl, hy, _, _⟩ := ry
  cases ra
  cases rb
  obtain ⟨mA, J, _⟩ := ins_get I.hok (st.sub _ _ hx)
  obtain ⟨mB, J', _⟩ := ins_get I.hok (st.sub _ _ hy)
  obtain ⟨od, J, _⟩ := J.look
  obtain ⟨od', J', _⟩ := J'.look
  obtain ⟨m, hF⟩ := I.fr
  obtain ⟨n1, n2⟩ := hE.ne c cl ec
  have hu := sb.room.un
  refine ne_own (by omega) hF I.ok.mod.kin J J'.type (hE.nf c c' cl cl' ec ec') e1 e2 n1 n2 (thn' run fun r s' ⟨z, e, q⟩ => ?_)
  subst e
  exact ⟨z, rfl, z, rfl, q⟩
/-- == of two items -/
theorem eq_item (hK : X.K = L.K) {A : Around} (sb : L2.Sub X n A) (hE : EmOk L X n nc em) {x y : D} {v u : V} {a b : Value} {Q : Bool → Hp → Prop} (I : Inv X pins σ H s) (st : Stt L μ S G H) (rx : R L μ G x v) (ry : R L μ G y u) (ra : RelV v a) (rb : RelV u b)
    (p : Post L E μ G H (eqE em nc x y S) fun b _ _ _ H' => Q b H') : wpAny (model X.prog X.w) A (eqBool a b) (TP X pins σ Q) X.xe s := by
  unfold eqE at p
  cases e : eqP x y with
  | some k =>
    rw [e] at p
    have q := p μ G H (.refl _ _ _) st
    rcases eqP_cases _ _ _ e with ⟨i, j, rfl, rfl, rfl⟩ | ⟨p1, p2, d, rfl⟩ | ⟨xs, ys, rfl, rfl, ne, rfl⟩
    · unfold R at rx ry
      subst rx ry
      obtain ⟨t, rfl⟩ := ra
      obtain ⟨t', rfl⟩ := rb
      refine SeqAt.EqAt.int_int i t j t' _ _ _ _ ⟨H, I, ?_⟩
      rw [show (i == j) = decide (i = j) from rfl]
      exact q
    · obtain ⟨as, r1⟩ := (Vw.val rx (plain_ne p1)).reads hK I st p1 ra
      obtain ⟨bs, r2⟩ := (Vw.val ry (plain_ne p2)).reads hK I st p2 rb
      have hu := sb.room.u (m := (toP y).depth) d
      exact PySem.SeqAt.eqAt_plain _ _ A s a b _ _ r1 r2 (toP_plain _ p1) (toP_plain _ p2) (by omega) _ _ _ _ ⟨H, I, q⟩
    · unfold R at rx ry
      obtain ⟨l, vs, rfl, q1, w1⟩ := rx
      obtain ⟨l2, us, rfl, q2, w2⟩ := ry
      cases ra
      cases rb
      have g1 := sqlSub st.sub q1
      have g2 := sqlSub st.sub q2
      obtain ⟨its, z1, pl1, _⟩ := I.list (by rw [hK]; exact g1)
      obtain ⟨its2, z2, pl2, _⟩ := I.list (by rw [hK]; exact g2)
      have hne : l ≠ l2 := fun z => by
        subst z
        have := I.list_inj (by rw [hK]; exact g1) (by rw [hK]; exact g2)
        subst this
        exact ne (w1.length.symm.trans w2.length)
      refine PySem.SeqAt.EqAt.of_refs hne (PySem.SeqAt.RcAt.lists_lengths (isL_of pl1) (isL_of pl2) (len_ne (a := l) (b := l2) z1 z2 (by rw [w1.length, w2.length]; exact ne)) sb.room.units0) _ _ _ _ ⟨H, I, q⟩
  | none =>
    rw [e] at p
    dsimp only at p
    split at p
    · rename_i sl
      obtain ⟨s1, s2⟩ := Bool.and_eq_true_iff.mp sl
      have p0 := p
      obtain ⟨c, fs, c', fs', cl, cl', rfl, rfl, ec, ec', p⟩ := eqI_cases p
      have rx' := rx
      have ry' := ry
      unfold R at rx' ry'
      obtain ⟨l, dx, vs, e1, _⟩ := rx'
      obtain ⟨l2, dy, ws, e2, _⟩ := ry'
      by_cases hab : l = l2
      · subst hab
        subst e1
        subst e2
        have ex := R.inj hK hE.inj I st.sub _ _ _ s1 s2 rx ry
        cases ex
        cases ra
        cases rb
        refine PySem.SeqAt.EqAt.same _ _ _ _ _ ⟨H, I, ?_⟩
        cases ez : cl [.ins c fs, .ins c fs] S with
        | bad => rw [ez] at p; exact p.elim
        | exc _ _ _ => rw [ez] at p; exact p.elim
        | ok d S' =>
          obtain ⟨rfl, rfl⟩ := hE.refl c cl fs S d S' ec ez
          rw [ez] at p
          exact p μ G H (.refl _ _ _) st
      · subst e1
        subst e2
        have run := rc_eqI hK sb hE I st rx ry ra rb p0
        cases ra
        cases rb
        exact GQ.eqBool_refG hab (thn' run fun r s' ⟨z, e, H', I', q⟩ => ⟨z, e, H', I', q⟩)
    · exact p.elim
end
end PyD

/-! PyD: the compare words with one's own ==. -/
namespace PyD
open PySem PySem.Spec L2
section
variable {L : Lk} {X : Cx} {k n nc : Nat} {em : Nat → Option Cl}
variable {pins : List (Addr × Obj)} {s : Shared} {σ : St} {H : Hp} {E : XK} {μ : List Addr} {S : List D} {G : Hp} {Q : VK} {W : WX}
/-- an operation on two values -/
def rTwoR (L : Lk) (op : D → D → List D → Out D) : R2 := fun v u H Q => ∃ E μ S G x y, Stt L μ S G H ∧ R L μ G x v ∧ R L μ G y u ∧ Post L E μ G H (op x y S) (KO L Q)
theorem to_twoR {op : D → D → List D → Out D} {fa fb : Ef D} {Q : VK} (h : tO L W (fTwo op fa fb) σ H Q) : tOp (rTwoR L op) (tO L W fa) (tO L W fb) σ H Q := by
  obtain ⟨μ, S, G, ρ, π, st, rel, p⟩ := h
  refine ⟨μ, S, G, ρ, π, st, rel, p.split.imp fun x S1 μ1 G1 H1 e1 st1 p1 v rv => ?_⟩
  refine ⟨μ1, S1, G1, ρ, π, st1, rel.ext e1, p1.split.imp fun y S2 μ2 G2 H2 e2 st2 p2 u ru => ?_⟩
  exact ⟨_, μ2, S2, G2, x, y, st2, rv.ext e2, ru, p2⟩
theorem to_cmpR {op : CmpOp} {o : D → D → List D → Out D} {a b : Expr} {pos : Pos} {fa fb : Ef D} (ho : OpR X (compareOp op) (rTwoR L o)) (ha : PE X a (tO L W fa)) (hb : PE X b (tO L W fb)) (hm : behindInMarks op b = false) :
    PE X (.Compare a [op] [b] pos) (tO L W (fTwo o fa fb)) := (pe_cmpR ho ha hb hm).to fun σ H Q h => to_twoR h
theorem to_cmpRT {op : CmpOp} {o : D → D → List D → Out D} {a b : Expr} {pos : Pos} {fa fb : Ef D} (ho : OpR X (compareOp op) (rTwoR L o)) (ha : PE X a (tO L W fa)) (hb : PE X b (tO L W fb)) (hm : behindInMarks op b = false) :
    PT X (.Compare a [op] [b] pos) (tT L W (fBl (fTwo o fa fb))) := (pt_cmpR ho ha hb hm).to fun σ H Q h => to_twoR (fbl_tO h)
theorem eqM_cases {x y : D} {K : Bool → List D → List Addr → Hp → Hp → Prop} (h : Post L E μ G H (eqM em nc x y S) K) : (∃ xs ys, x = .lst xs ∧ y = .lst ys ∧ Post L E μ G H (if xs.length = ys.length then eqsL em nc xs ys S else .ok false S) K) ∨ Post L E μ G H (eqI em x y S) K := by
  unfold eqM at h
  split at h
  · rename_i xs ys
    exact .inl ⟨xs, ys, rfl, rfl, h⟩
  · exact .inr h
/-- a list whose items are known is the one that stands there -/
theorem at_list (hK : X.K = L.K) (I : Inv X pins σ H s) (sb : PyD.Sub G H) {l : Addr} {vs : List V} (q : SqL L.K G l vs) {xs : Array Value} {n : Nat} {dd : Option Addr} {sl : Array (Option Value)} (e : s.heap.get? l = some { cls := .type "list", dict := dd, data := .seq xs n, slots := sl }) : Vals vs xs.toList := by
  obtain ⟨its, r, ⟨o, m, e', c, d, z⟩, _⟩ := I.list (by rw [hK]; exact sqlSub sb q)
  rw [e] at e'
  cases e'
  injection z with z
  rw [z]
  exact r
theorem obj_list (hK : X.K = L.K) (I : Inv X pins σ H s) (sb : PyD.Sub G H) {l : Addr} {vs : List V} (q : SqL L.K G l vs) : ∃ (xs : Array Value) (n : Nat) (dd : Option Addr) (sl : Array (Option Value)), s.heap.get? l = some { cls := .type "list", dict := dd, data := .seq xs n, slots := sl } ∧ xs.size = vs.length := by
  obtain ⟨its, r, ⟨⟨cls, dd, dt, sl⟩, m, e', c, d, z⟩, _⟩ := I.list (by rw [hK]; exact sqlSub sb q)
  simp only at c z
  subst c z
  exact ⟨_, _, dd, sl, e', by rw [List.size_toArray, r.length]⟩
theorem rs_at {ds : List D} {vs : List V} {xs : Array Value} (r : Rs L μ G ds vs) (rv : Vals vs xs.toList) {i : Nat} (h : i < xs.size) (h' : i < ds.length) : ∃ v, R L μ G ds[i] v ∧ RelV v xs[i] := by
  obtain ⟨v, e1, e2⟩ := r.get (List.getElem?_eq_getElem h')
  obtain ⟨u, e3, e4⟩ := rv.get e1
  refine ⟨v, e2, ?_⟩
  have : xs[i]? = some u := by rw [← Array.getElem?_toList]; exact e3
  rw [Array.getElem?_eq_getElem h] at this
  rw [Option.some.inj this]
  exact e4
/-- what the walk over two lists keeps -/
def TwoI (L : Lk) (X : Cx) (em : Nat → Option Cl) (nc : Nat) (pins : List (Addr × Obj)) (σ : St) (E : XK) (μ1 : List Addr) (G1 H1 : Hp) (xs ys : List D) (K : Bool → Hp → Prop) (i : Nat) (s : Shared) : Prop :=
  ∃ μ G S H, Inv X pins σ H s ∧ Ext μ1 G1 H1 μ G H ∧ Stt L μ S G H ∧ Post L E μ G H (eqsL em nc (xs.drop i) (ys.drop i) S) (fun b _ _ _ H' => K b H')
def TwoD (L : Lk) (X : Cx) (pins : List (Addr × Obj)) (σ : St) (μ1 : List Addr) (G1 H1 : Hp) (K : Bool → Hp → Prop) (s : Shared) : Prop := ∃ H, Inv X pins σ H s ∧ (∃ G, PyD.Sub G1 G ∧ PyD.Sub G H) ∧ K false H
theorem two_fin {μ1 : List Addr} {G1 H1 : Hp} {xs ys : List D} {K : Bool → Hp → Prop} (hl : xs.length = ys.length) (h : TwoI L X em nc pins σ E μ1 G1 H1 xs ys K ys.length s) : ∃ H', Inv X pins σ H' s ∧ K true H' := by
  obtain ⟨μ, G, S, H, I, e, st, p⟩ := h
  rw [List.drop_length, ← hl, List.drop_length] at p
  exact ⟨H, I, p μ G H (.refl _ _ _) st⟩
theorem two_ok (hK : X.K = L.K) (hr : Room (n + 1) X.A) (hE : EmOk L X n nc em) {xs ys : List D} {v u : V} {a b : Value} {K : Bool → Hp → Prop} (I : Inv X pins σ H s) (st : Stt L μ S G H) (rx : R L μ G (.lst xs) v) (ry : R L μ G (.lst ys) u) (ra : RelV v a) (rb : RelV u b) (hl : xs.length = ys.length)
    (p : Post L E μ G H (eqsL em nc xs ys S) fun b _ _ _ H' => K b H') : ∃ l l2, a = .ref l ∧ b = .ref l2 ∧ s.TypeIs (.ref l) "list" ∧ s.TypeIs (.ref l2) "list" ∧
      Two X.prog X.w X.A X.xe l l2 ys.length (TwoI L X em nc pins σ E μ G H xs ys K) (TwoD L X pins σ μ G H K) ∧ TwoI L X em nc pins σ E μ G H xs ys K 0 s := by
  unfold R at rx ry
  obtain ⟨l, vs, rfl, q1, w1⟩ := rx
  obtain ⟨l2, us, rfl, q2, w2⟩ := ry
  cases ra
  cases rb
  have ty : ∀ {l : Addr} {vs : List V}, SqL L.K G l vs → s.TypeIs (.ref l) "list" := fun q => by
    obtain ⟨xs, n, dd, sl, e, _⟩ := obj_list hK I st.sub q
    exact ⟨_, e, rfl⟩
  have both : ∀ {s' : Shared} {G' H' : Hp}, Inv X pins σ H' s' → PyD.Sub G G' → PyD.Sub G' H' → Both l l2 ys.length s' := fun I' s1 s2 => by
    obtain ⟨xa, n, dd, sl, e, z⟩ := obj_list hK I' (s1.trans s2) q1
    obtain ⟨ya, n2, dd2, sl2, e2, z2⟩ := obj_list hK I' (s1.trans s2) q2
    exact ⟨xa, ya, n, n2, dd, dd2, sl, sl2, e, e2, by rw [z, w1.length, hl], by rw [z2, w2.length]⟩
  refine ⟨l, l2, rfl, rfl, ty q1, ty q2, ⟨fun i s1 hi hle => ?_, fun s1 hd => ?_⟩, ⟨μ, G, S, H, I, .refl _ _ _, st, p⟩⟩
  · obtain ⟨μ1, G1, S1, H1, I1, e1, st1, p1⟩ := hi
    refine ⟨both I1 e1.g st1.sub, fun xa ya n n2 dd dd2 sl sl2 ex ey hlt h1 h2 => ?_⟩
    have v1 := at_list hK I1 (e1.g.trans st1.sub) q1 ex
    have v2 := at_list hK I1 (e1.g.trans st1.sub) q2 ey
    obtain ⟨x, rx, qx⟩ := rs_at (w1.ext e1) v1 h1 (by rw [hl]; exact hlt)
    obtain ⟨y, ry, qy⟩ := rs_at (w2.ext e1) v2 h2 hlt
    rw [drop_get (List.getElem?_eq_getElem (by rw [hl]; exact hlt)), drop_get (List.getElem?_eq_getElem hlt)] at p1
    unfold eqsL at p1
    have p2 := Post.imp (Post.split p1) (K' := fun b S2 μ2 G2 H2 => (fun b H2 => ∃ μ2 G2 S2, Ext μ1 G1 H1 μ2 G2 H2 ∧ Stt L μ2 S2 G2 H2 ∧ Post L E μ2 G2 H2 (if b then eqsL em nc (xs.drop (i + 1)) (ys.drop (i + 1)) S2 else .ok false S2) (fun b _ _ _ H' => K b H')) b H2) fun b S2 μ2 G2 H2 e2 st2 z => ⟨μ2, G2, S2, e2, st2, z⟩
    refine thn' (eq_item (A := X.A.in1) hK ⟨hr.in1, rfl⟩ hE I1 st1 rx ry qx qy p2) fun r s2 ⟨H2, I2, μ2, G2, S2, e2, st2, z⟩ => ?_
    cases r with
    | true => exact .inl ⟨rfl, μ2, G2, S2, H2, I2, e1.trans e2, st2, z⟩
    | false => exact .inr ⟨rfl, H2, I2, ⟨G2, (e1.trans e2).g, st2.sub⟩, z μ2 G2 H2 (.refl _ _ _) st2⟩
  · obtain ⟨H1, I1, ⟨G1, s1, s2⟩, _⟩ := hd
    exact both I1 s1 s2
def SeekI (L : Lk) (X : Cx) (em : Nat → Option Cl) (nc : Nat) (pins : List (Addr × Obj)) (σ : St) (E : XK) (μ1 : List Addr) (G1 H1 : Hp) (x : D) (ys : List D) (K : Bool → Hp → Prop) (i : Nat) (s : Shared) : Prop :=
  ∃ μ G S H, Inv X pins σ H s ∧ Ext μ1 G1 H1 μ G H ∧ Stt L μ S G H ∧ Post L E μ G H (inL em nc x (ys.drop i) S) (fun b _ _ _ H' => K b H')
theorem seek_fin {μ1 : List Addr} {G1 H1 : Hp} {x : D} {ys : List D} {K : Bool → Hp → Prop} (h : SeekI L X em nc pins σ E μ1 G1 H1 x ys K ys.length s) : ∃ H', Inv X pins σ H' s ∧ K false H' := by
  obtain ⟨μ, G, S, H, I, e, st, p⟩ := h
  rw [List.drop_length] at p
  exact ⟨H, I, p μ G H (.refl _ _ _) st⟩
theorem seek_ok (hK : X.K = L.K) (hr : Room (n + 1) X.A) (hE : EmOk L X n nc em) {x : D} {ys : List D} {v u : V} {a b : Value} {K : Bool → Hp → Prop} (I : Inv X pins σ H s) (st : Stt L μ S G H) (rx : R L μ G x v) (ry : R L μ G (.lst ys) u) (ra : RelV v a) (rb : RelV u b)
    (p : Post L E μ G H (inL em nc x ys S) fun b _ _ _ H' => K b H') : ∃ l, u = .ref l ∧ b = .ref l ∧ s.TypeIs (.ref l) "list" ∧
      Seek X.prog X.w X.A X.xe l a ys.length (SeekI L X em nc pins σ E μ G H x ys K) (fun s' => ∃ H', Inv X pins σ H' s' ∧ K true H') ∧ SeekI L X em nc pins σ E μ G H x ys K 0 s := by
  unfold R at ry
  obtain ⟨l2, us, rfl, q2, w2⟩ := ry
  cases rb
  obtain ⟨_, _, dd0, sl0, e0, _⟩ := obj_list hK I st.sub q2
  refine ⟨l2, rfl, rfl, ⟨_, e0, rfl⟩, ⟨fun i s1 hi hle => ?_⟩, ⟨μ, G, S, H, I, .refl _ _ _, st, p⟩⟩
  obtain ⟨μ1, G1, S1, H1, I1, e1, st1, p1⟩ := hi
  obtain ⟨ya, n2, dd2, sl2, ey, z2⟩ := obj_list hK I1 (e1.g.trans st1.sub) q2
  refine ⟨ya, n2, dd2, sl2, ey, by rw [z2, w2.length], fun hlt h2 => ?_⟩
  have v2 := at_list hK I1 (e1.g.trans st1.sub) q2 ey
  obtain ⟨y, ry, qy⟩ := rs_at (w2.ext e1) v2 h2 hlt
  rw [drop_get (List.getElem?_eq_getElem hlt)] at p1
  unfold inL at p1
  have p2 := Post.imp (Post.split p1) (K' := fun b S2 μ2 G2 H2 => (fun b H2 => ∃ μ2 G2 S2, Ext μ1 G1 H1 μ2 G2 H2 ∧ Stt L μ2 S2 G2 H2 ∧ Post L E μ2 G2 H2 (if b then .ok true S2 else inL em nc x (ys.drop (i + 1)) S2) (fun b _ _ _ H' => K b H')) b H2) fun b S2 μ2 G2 H2 e2 st2 z => ⟨μ2, G2, S2, e2, st2, z⟩
  refine thn' (eq_item (A := X.A.in1) hK ⟨hr.in1, rfl⟩ hE I1 st1 ry (rx.ext e1) qy ra p2) fun r s2 ⟨H2, I2, μ2, G2, S2, e2, st2, z⟩ => ?_
  cases r with
  | true => exact .inl ⟨rfl, H2, I2, z μ2 G2 H2 (.refl _ _ _) st2⟩
  | false => exact .inr ⟨rfl, μ2, G2, S2, H2, I2, e1.trans e2, st2, z⟩

theorem so_eqM (hK : X.K = L.K) (hr : Room (n + 1) X.A) (hE : EmOk L X n nc em) : OpR X (compareOp .Eq) (rTwoR L (opEqM em nc)) := by
  intro pins s σ H v u a b Q I ra rb hh
  obtain ⟨E, μ, S, G, x, y, st, rx, ry, p⟩ := hh
  unfold opEqM at p
  cases e : eqP (dr S x) (dr S y) with
  | some c =>
    rw [e] at p
    refine so_eq hK hr pins s σ H v u a b Q I ra rb ⟨E, μ, S, G, x, y, st, .of rx, .of ry, ?_⟩
    unfold opEq
    rw [e]
    exact p
  | none =>
    rw [e] at p
    have p1 : Post L E μ G H (eqM em nc x y S) (fun b _ _ _ H' => Q (.bl b) H') := p.split.imp fun b S1 μ1 G1 H1 e1 st1 p1 => ko_bl st1 p1
    clear p
    rcases eqM_cases p1 with ⟨xs, ys, rfl, rfl, p2⟩ | p2
    · by_cases hl : xs.length = ys.length
      · rw [if_pos hl] at p2
        obtain ⟨l, l2, rfl, rfl, ta, tb, T⟩ := two_ok hK hr hE I st rx ry ra rb hl p2
        show wpAny _ _ (richCompare .Eq (Value.ref l) (Value.ref l2)) _ _ _
        refine wpAny_richCompare_same_room (op := .Eq) ta tb PySem.F.slot_list_eq (GQ.call_here PySem.F.slot_list_eq ta PySem.F.entry_list_eq (PySem.F.args_list_eq_2 _ _) ?_) hr.units0
        refine eq_list (R := wants (fun v s' => v ≠ .notImplemented ∧ EP X pins σ Q v s') X.xe) l l2 ys.length _ _ T.1 (fun s' q => ⟨(fun z => nomatch z), ?_⟩) (fun s' q => ⟨(fun z => nomatch z), ?_⟩) T.2
        · obtain ⟨H', I', q⟩ := two_fin hl q
          exact ⟨.bl true, H', I', rfl, q⟩
        · obtain ⟨H', I', _, q⟩ := q
          exact ⟨.bl false, H', I', rfl, q⟩
      · exact absurd e (by
          have : apart (.lst xs) (.lst ys) = true := by simp [apart, hl]
          show eqP (.lst xs) (.lst ys) ≠ none
          unfold eqP
          split
          · exact fun z => nomatch z
          · split
            · exact fun z => nomatch z
            · exact fun z => nomatch z)
    · show wpAny _ _ (richCompare .Eq a b) _ _ _
      refine thn' (rc_eqI hK ⟨hr.mono (Nat.le_succ _), rfl⟩ hE I st rx ry ra rb p2) fun r s' ⟨z, e, H', I', q⟩ => ?_
      subst e
      exact ⟨.bl (z), H', I', rfl, q⟩

theorem so_neM (hK : X.K = L.K) (hr : Room (n + 1) X.A) (hE : EmOk L X n nc em) : OpR X (compareOp .NotEq) (rTwoR L (opNeM em nc)) := by
  intro pins s σ H v u a b Q I ra rb hh
  obtain ⟨E, μ, S, G, x, y, st, rx, ry, p⟩ := hh
  unfold opNeM at p
  cases e : eqP (dr S x) (dr S y) with
  | some c =>
    rw [e] at p
    refine so_ne hK hr pins s σ H v u a b Q I ra rb ⟨E, μ, S, G, x, y, st, .of rx, .of ry, ?_⟩
    unfold opNe
    rw [e]
    exact p
  | none =>
    rw [e] at p
    have p1 : Post L E μ G H (eqM em nc x y S) (fun b _ _ _ H' => Q (.bl (!b)) H') := p.split.imp fun b S1 μ1 G1 H1 e1 st1 p1 => ko_bl st1 p1
    clear p
    rcases eqM_cases p1 with ⟨xs, ys, rfl, rfl, p2⟩ | p2
    · by_cases hl : xs.length = ys.length
      · rw [if_pos hl] at p2
        obtain ⟨l, l2, rfl, rfl, ta, tb, T⟩ := two_ok hK hr hE I st rx ry ra rb hl p2
        show wpAny _ _ (richCompare .NotEq (Value.ref l) (Value.ref l2)) _ _ _
        refine wpAny_richCompare_same_room (op := .NotEq) ta tb PySem.F.slot_list_ne (GQ.call_here PySem.F.slot_list_ne ta PySem.F.entry_list_ne (PySem.F.args_list_ne_2 _ _) ?_) hr.units0
        refine ne_list (R := wants (fun v s' => v ≠ .notImplemented ∧ EP X pins σ Q v s') X.xe) l l2 ys.length _ _ T.1 (fun s' q => ⟨(fun z => nomatch z), ?_⟩) (fun s' q => ⟨(fun z => nomatch z), ?_⟩) T.2
        · obtain ⟨H', I', q⟩ := two_fin hl q
          exact ⟨.bl false, H', I', rfl, q⟩
        · obtain ⟨H', I', _, q⟩ := q
          exact ⟨.bl true, H', I', rfl, q⟩
      · exact absurd e (by
          have : apart (.lst xs) (.lst ys) = true := by simp [apart, hl]
          show eqP (.lst xs) (.lst ys) ≠ none
          unfold eqP
          split
          · exact fun z => nomatch z
          · split
            · exact fun z => nomatch z
            · exact fun z => nomatch z)
    · show wpAny _ _ (richCompare .NotEq a b) _ _ _
      refine thn' (rc_neI hK ⟨hr, rfl⟩ hE I st rx ry ra rb p2) fun r s' ⟨z, e, H', I', q⟩ => ?_
      subst e
      exact ⟨.bl (!z), H', I', rfl, q⟩

theorem so_inM (hK : X.K = L.K) (hr : Room (n + 1) X.A) (hE : EmOk L X n nc em) : OpR X (compareOp .In) (rTwoR L (opInM em nc)) := by
  intro pins s σ H v u a b Q I ra rb hh
  obtain ⟨E, μ, S, G, x, y, st, rx, ry, p⟩ := hh
  unfold opInM at p
  cases e : inP (dr S x) (dr S y) with
  | some c =>
    rw [e] at p
    refine so_in hK hr pins s σ H v u a b Q I ra rb ⟨E, μ, S, G, x, y, st, .of rx, .of ry, ?_⟩
    unfold opIn
    rw [e]
    exact p
  | none =>
    rw [e] at p
    dsimp only at p
    split at p
    · rename_i ys
      have p1 : Post L E μ G H (inL em nc x ys S) (fun b _ _ _ H' => Q (.bl b) H') := p.split.imp fun b S1 μ1 G1 H1 e1 st1 p1 => ko_bl st1 p1
      obtain ⟨l, rfl, rfl, ta, T⟩ := seek_ok hK hr hE I st rx ry ra rb p1
      show wpAny (model X.prog X.w) X.A (do return Value.bool (← contains (Value.ref l) a)) _ _ _
      refine wpAny_bind (wpAny_contains_slot ta PySem.F.slot_list_contains (thn' (GQ.call_here (Q := fun v s' => ∃ b, v = .bool b ∧ ∃ H', Inv X pins σ H' s' ∧ Q (.bl b) H') PySem.F.slot_list_contains ta PySem.F.entry_list_contains (PySem.F.args_list_contains_2 _ _) ?_) fun w s' hw => ?_))
      · refine in_list (R := wants (fun v s' => ∃ b, v = .bool b ∧ ∃ H', Inv X pins σ H' s' ∧ Q (.bl b) H') X.xe) l a ys.length _ _ T.1 (fun s' q => ?_) (fun s' q => ?_) T.2
        · obtain ⟨H', I', q⟩ := seek_fin q
          exact ⟨false, rfl, H', I', q⟩
        · obtain ⟨H', I', q⟩ := q
          exact ⟨true, rfl, H', I', q⟩
      · obtain ⟨b, rfl, H', I', q⟩ := hw
        exact wpAny_truthy_bool (wpAny_pure ⟨(.bl b), H', I', rfl, q⟩)
    · exact p.elim

theorem so_notInM (hK : X.K = L.K) (hr : Room (n + 1) X.A) (hE : EmOk L X n nc em) : OpR X (compareOp .NotIn) (rTwoR L (opNotInM em nc)) := by
  intro pins s σ H v u a b Q I ra rb hh
  obtain ⟨E, μ, S, G, x, y, st, rx, ry, p⟩ := hh
  unfold opNotInM at p
  cases e : inP (dr S x) (dr S y) with
  | some c =>
    rw [e] at p
    refine so_notIn hK hr pins s σ H v u a b Q I ra rb ⟨E, μ, S, G, x, y, st, .of rx, .of ry, ?_⟩
    unfold opNotIn
    rw [e]
    exact p
  | none =>
    rw [e] at p
    dsimp only at p
    split at p
    · rename_i ys
      have p1 : Post L E μ G H (inL em nc x ys S) (fun b _ _ _ H' => Q (.bl (!b)) H') := p.split.imp fun b S1 μ1 G1 H1 e1 st1 p1 => ko_bl st1 p1
      obtain ⟨l, rfl, rfl, ta, T⟩ := seek_ok hK hr hE I st rx ry ra rb p1
      show wpAny (model X.prog X.w) X.A (do return Value.bool (!(← contains (Value.ref l) a))) _ _ _
      refine wpAny_bind (wpAny_contains_slot ta PySem.F.slot_list_contains (thn' (GQ.call_here (Q := fun v s' => ∃ b, v = .bool b ∧ ∃ H', Inv X pins σ H' s' ∧ Q (.bl (!b)) H') PySem.F.slot_list_contains ta PySem.F.entry_list_contains (PySem.F.args_list_contains_2 _ _) ?_) fun w s' hw => ?_))
      · refine in_list (R := wants (fun v s' => ∃ b, v = .bool b ∧ ∃ H', Inv X pins σ H' s' ∧ Q (.bl (!b)) H') X.xe) l a ys.length _ _ T.1 (fun s' q => ?_) (fun s' q => ?_) T.2
        · obtain ⟨H', I', q⟩ := seek_fin q
          exact ⟨false, rfl, H', I', q⟩
        · obtain ⟨H', I', q⟩ := q
          exact ⟨true, rfl, H', I', q⟩
      · obtain ⟨b, rfl, H', I', q⟩ := hw
        exact wpAny_truthy_bool (wpAny_pure ⟨(.bl (!b)), H', I', rfl, q⟩)
    · exact p.elim

end
end PyD

/-! PyD: sorted. -/
namespace PySem.W
open PySem PySem.Calls PyProof.Rows PySem.SeqAt
section
variable {prog : Program} {w : World} {A : Around} {E : Value → Shared → Prop} {s : Shared}
/-- one tuple against another, as sorting compares keys of one type -/
theorem pyd_tupLt {xs ys : List PyData} {a b : Value} {as bs : List Addr} {Q : Bool → Shared → Prop} (ra : Reads s.heap a (.tuple xs) as) (rb : Reads s.heap b (.tuple ys) bs) (hal : alikeAll xs ys = true)
    (hu : A.units + min (PyData.tuple xs).depth (PyData.tuple ys).depth < cLine) (hq : Q (dataLt (.tuple xs) (.tuple ys)) s) : wpAny (model prog w) A (oneLt' true a b) Q E s := by
  cases ra with
  | @tuple l o vs n _ as1 a1 a2 a3 a4 =>
    cases rb with
    | @tuple l' o' vs' n' _ bs1 b1 b2 b3 b4 =>
      have z1 : vs.size = xs.length := by simpa using ReadsAll.length _ _ _ a4
      have z2 : vs'.size = ys.length := by simpa using ReadsAll.length _ _ _ b4
      rw [dataLt_tuple, ← firstLt_toks xs ys hal, ← z1, ← z2] at hq
      obtain ⟨ca, da, ta, sa⟩ := o
      obtain ⟨cb, db, tb, sb⟩ := o'
      simp only at a2 a3 b2 b3
      subst a2 a3 b2 b3
      rw [oneLt'_eq]
      simp only [if_true]
      refine wpAny_bind (wpAny_cRoomFor (room_here hu) ?_)
      refine wpAny_bind (wpAny_callSpecialIfBound?_slot (T := "tuple") ⟨_, a1, rfl⟩ F.slot_tuple_lt (call_meets F.slot_tuple_lt ⟨_, a1, rfl⟩ F.entry_tuple_lt (F.args_tuple_lt_2 _ _)
        (tuple_ltAt l l' vs vs' n n' da db sa sb (pairEq xs ys) (fun j => dataLt (xs.getD j .none) (ys.getD j .none))) ⟨a1, b1, fun j j1 j2 => ?_, fun j j1 j2 hj => ?_, ?_⟩))
      · have e1 := eqAt_alikeAll xs ys A.in1 s vs.toList vs'.toList _ _ a4 b4 hal (room_in hu) j (by simpa using j1) (by simpa using j2)
        simpa using e1
      · have e1 := rcLt_alikeAll xs ys A.in1 s vs.toList vs'.toList _ _ a4 b4 hal (room_in hu) j (by simpa using j1) (by simpa using j2) hj
        simpa using e1
      · exact wpAny_truthy_bool hq
/-- the first items of tuples, the first of which is empty -/
theorem pyd_firsts {M : Model} : ∀ (vs : List Value) (ds : List PyData) {Q : List (Option Value) → Shared → Prop}, EachIs (fun v d => ∃ as, Reads s.heap v d as) vs ds → (∀ d, d ∈ ds → ∃ xs, d = .tuple xs) →
    (∀ fs : List (Option Value), (∀ r, ds = .tuple [] :: r → ∃ fr, fs = none :: fr) → Q fs s) → wpAny M A (vs.mapM firstOfTuple') Q E s
  | [], [], Q, .nil, _, h => by
    rw [List.mapM_nil]
    exact wpAny_pure (h [] fun r z => nomatch z)
  | v :: vs, d :: ds, Q, .cons ⟨as, r⟩ t, ht, h => by
    obtain ⟨xs, rfl⟩ := ht d (List.mem_cons_self ..)
    rw [List.mapM_cons]
    cases r with
    | @tuple a o ys n _ _ ho hc hd hr =>
      refine wpAny_bind ?_
      rw [kas_first_eq]
      refine wpAny_bind (Looks.here (show Looks M s.heap (typeOf (.ref a)) o.cls from (Looks.ld ho).andThen .now) ?_)
      rw [hc, if_neg (by first | decide | simp)]
      refine wpAny_bind (listItems_at ho hd (wpAny_pure ?_))
      refine wpAny_bind (pyd_firsts vs ds (Q := fun fs s' => wpAny M A (pure (ys[0]? :: fs)) Q E s') t (fun d m => ht d (List.mem_cons_of_mem _ m)) fun fs _ => wpAny_pure (h _ fun r z => ?_))
      injection z with z1 z2
      injection z1 with z1
      subst z1
      have e0 : ys = #[] := by
        have := ReadsAll.length _ _ _ hr
        simpa using this
      rw [e0]
      exact ⟨fs, rfl⟩
/-- tuples, the first of which is empty, can be sorted -/
theorem pyd_sortsAt {vs : List Value} {ds : List PyData} (e : EachIs (fun v d => ∃ as, Reads s.heap v d as) vs ds) (hal : AllAlike ds) (hk : ∃ r, ds = .tuple [] :: r) (hu : ∀ d, d ∈ ds → A.units + d.depth < cLine) : SortsAt prog w A s (dataKind s.heap ds) vs := by
  obtain ⟨r0, e0⟩ := hk
  have allT : ∀ d, d ∈ ds → ∃ xs, d = .tuple xs := fun d hd => by
    have q := hal d hd (.tuple []) (by rw [e0]; exact List.mem_cons_self ..)
    cases d with
    | tuple xs => exact ⟨xs, rfl⟩
    | _ => exact absurd q (by simp [alike])
  refine ⟨fun v hv => ?_, oneType', ?_, fun h2 E Q hq => ?_⟩
  · obtain ⟨d, hd, as, r⟩ := e.left v hv
    exact ⟨_, dataKind_some hal hd r⟩
  · intro E x y a b Q ha hb hq
    obtain ⟨d, as, hd, ra, rfl⟩ := dataKind_inv ha
    obtain ⟨d', as', hd', rb, rfl⟩ := dataKind_inv hb
    have hdd := hal d hd d' hd'
    obtain ⟨xs, rfl⟩ := allT d hd
    obtain ⟨ys, rfl⟩ := allT d' hd'
    rw [keyLt'_oneType]
    exact pyd_tupLt ra rb (by simpa [alike] using hdd) (Nat.lt_of_le_of_lt (Nat.add_le_add_left (Nat.min_le_left _ _) _) (hu _ hd)) hq
  · rw [keyKind'_eq, List.mapM_toArray, map_eq_pure_bind]
    refine wpAny_bind (wpAny_bind (pyd_firsts vs ds e allT fun fs hf => wpAny_pure ?_))
    obtain ⟨fr, rfl⟩ := hf r0 e0
    rw [if_neg (by simp), if_neg (by simp)]
    rw [oneTypeOnly'_eq, List.mapM_toArray, map_eq_pure_bind]
    refine wpAny_bind (wpAny_bind (wpAny_bind (kas_mapM (r := Value.type "tuple") vs (fun v hv Q' hq' => ?_) (wpAny_pure ?_))))
    · obtain ⟨d, hd, as, r⟩ := e.left v hv
      obtain ⟨xs, rfl⟩ := allT d hd
      exact (looks_reads r).here hq'
    · have every : ((List.map (fun _ => Value.type "tuple") vs).toArray.all fun x => x == Value.type "tuple") = true := by simp
      have one : (List.map (fun _ => Value.type "tuple") vs).toArray[0]? = some (Value.type "tuple") := by
        cases vs with
        | nil => exact absurd h2 (by simp)
        | cons _ _ => simp
      rw [one]
      simp only [every, if_true]
      exact wpAny_pure (wpAny_pure hq)
end
end PySem.W
namespace PyD
open PySem PySem.Spec L2
/-- all of one shape -/
def alikes (ds : List D) : Bool := ds.all fun a => ds.all fun b => PySem.W.alike (toP a) (toP b)
/-- what sorting asks of the first -/
def kindS : List D → Bool
  | [] => true
  | .tup [] :: _ => true
  | .tup _ :: ds => ds.all fun d => match d with
    | .tup (_ :: _) => true
    | _ => false
  | .non :: _ => false
  | _ => true
def leD (a b : D) : Bool := !PySem.W.dataLt (toP b) (toP a)
def opSorted (x : D) (S : List D) : Out D := match dr S x with
  | .lst xs => if plains xs && alikes xs && kindS xs && xs.all (fun d => decide ((toP d).depth ≤ 100)) && decide (xs.length ≤ LIM) then .ok (.lst (xs.mergeSort leD)) S else .bad
  | _ => .bad
section
variable {L : Lk} {X : Cx} {k n nc : Nat} {em : Nat → Option Cl}
variable {pins : List (Addr × Obj)} {s : Shared} {σ : St} {H : Hp} {E : XK} {μ : List Addr} {S : List D} {G : Hp} {Q : VK} {W : WX}
theorem plains_mem {ds : List D} (h : plains ds = true) : ∀ d ∈ ds, plain d = true := by
  induction ds with
  | nil => intro d m; cases m
  | cons x xs ih =>
    intro d m
    simp only [plains, Bool.and_eq_true] at h
    rcases List.mem_cons.mp m with e | m
    · rw [e]; exact h.1
    · exact ih h.2 d m
theorem each_of {ds : List D} {vs : List V} {us : List Value} (r : Rs L μ G ds vs) (rv : Vals vs us) : PySem.W.EachIs (fun u d => ∃ v, RelV v u ∧ R L μ G d v) us ds := by
  induction ds generalizing vs us with
  | nil =>
    rw [r.nil_inv] at rv
    cases rv
    exact .nil
  | cons d ds ih =>
    obtain ⟨v, ws, rfl, h, t⟩ := r.cons_inv
    cases rv with
    | cons q qs => exact .cons ⟨v, q, h⟩ (ih t qs)
theorem each_back {ds : List D} {us : List Value} (e : PySem.W.EachIs (fun u d => ∃ v, RelV v u ∧ R L μ G d v) us ds) : ∃ vs, Vals vs us ∧ Rs L μ G ds vs := by
  induction ds generalizing us with
  | nil => cases e; exact ⟨[], .nil, Rs.nil⟩
  | cons d ds ih =>
    cases e with
    | cons h t =>
      obtain ⟨v, q, r⟩ := h
      obtain ⟨vs, qs, rs⟩ := ih t
      exact ⟨v :: vs, .cons q qs, Rs.cons r rs⟩
theorem kind_sort {ds : List D} (h : kindS ds = true) (hal : alikes ds = true) (hp : plains ds = true) : (∃ r, ds.map toP = .tuple [] :: r) ∨ PySem.W.Sortable (ds.map toP) := by
  cases ds with
  | nil => exact .inr (.inl fun d m => by simp at m)
  | cons d ds =>
    have al : ∀ e ∈ ds, PySem.W.alike (toP d) (toP e) = true := fun e m => by
      have := List.all_eq_true.mp hal d (List.mem_cons_self ..)
      exact List.all_eq_true.mp this e (List.mem_cons_of_mem _ m)
    simp only [plains, Bool.and_eq_true] at hp
    have oth : (toP d ≠ .none) → (∀ xs, toP d ≠ .tuple xs) → PySem.W.Sortable ((d :: ds).map toP) := fun n1 n2 => .inr fun e m => by
      obtain ⟨c, hc, rfl⟩ := List.mem_map.mp m
      rcases List.mem_cons.mp hc with z | hc
      · rw [z]; exact ⟨n1, n2⟩
      · have q := al c hc
        generalize toP d = u at q n1 n2
        generalize toP c = v at q
        refine ⟨fun z => ?_, fun xs z => ?_⟩
        · subst z
          cases u <;> first | exact n1 rfl | exact absurd q (by simp [PySem.W.alike])
        · subst z
          cases u <;> first | exact n2 _ rfl | exact absurd q (by simp [PySem.W.alike])
    cases d with
    | tup xs =>
      cases xs with
      | nil => exact .inl ⟨ds.map toP, by simp [toP, toPs]⟩
      | cons x xs =>
        refine .inr (.inl fun e m => ?_)
        obtain ⟨c, hc, rfl⟩ := List.mem_map.mp m
        rcases List.mem_cons.mp hc with z | hc
        · rw [z]; exact ⟨toP x, toPs xs, by simp [toP, toPs]⟩
        · have := List.all_eq_true.mp (show (ds.all fun d => match d with | .tup (_ :: _) => true | _ => false) = true from h) c hc
          split at this
          · rename_i y ys _
            exact ⟨toP y, toPs ys, by simp [toP, toPs]⟩
          · cases this
    | non => exact nomatch h
    | bl b => exact .inr (oth (by simp [toP]) (by simp [toP]))
    | int b => exact .inr (oth (by simp [toP]) (by simp [toP]))
    | str b => exact .inr (oth (by simp [toP]) (by simp [toP]))
    | lst b => exact .inr (oth (by simp [toP]) (by simp [toP]))
    | ins c b => exact absurd hp.1 (by simp [plain])
    | dct c b => exact absurd hp.1 (by simp [plain])
    | dcT c b => exact absurd hp.1 (by simp [plain])
    | ktp c => exact absurd hp.1 (by simp [plain])
    | cls c => exact absurd hp.1 (by simp [plain])
    | loc c => exact absurd hp.1 (by simp [plain])
theorem so_sorted (hK : X.K = L.K) (hr : Room k X.A) : CallR X (.builtin "sorted") (rC1F L opSorted) := by
  intro pins s σ H vs us Q I r hh
  obtain ⟨v, rfl, E, μ, S, G, x, st, rx, p⟩ := hh
  obtain ⟨u, rfl, ru⟩ := vals1 r
  have vx := rx.vw st
  unfold opSorted at p
  split at p
  · rename_i xs e
    rw [e] at vx
    split at p
    · rename_i hc
      simp only [Bool.and_eq_true, decide_eq_true_eq] at hc
      obtain ⟨⟨⟨⟨c1, c2⟩, c3⟩, c4⟩, c5⟩ := hc
      obtain ⟨l, ws, rfl, q, w1⟩ := vx.lsts st.sub
      cases ru
      obtain ⟨its, rv, pl, hz⟩ := I.list (by rw [hK]; exact q)
      have e1 := each_of w1 rv
      have rd : PySem.W.EachIs (fun v d => ∃ as, Reads s.heap v (toP d) as) its xs := by
        refine (PySem.W.each_mem e1).mono fun u d ⟨⟨v, qv, rv⟩, hd⟩ => ?_
        have pd := plains_mem c1 d hd
        exact (Vw.val rv (plain_ne pd)).reads hK I st pd qv
      have hal : PySem.W.AllAlike (xs.map toP) := fun d hd d' hd' => by
        obtain ⟨a, ha, rfl⟩ := List.mem_map.mp hd
        obtain ⟨b, hb, rfl⟩ := List.mem_map.mp hd'
        exact List.all_eq_true.mp (List.all_eq_true.mp c2 a ha) b hb
      have hL : xs.length ≤ sizeLine := by rw [lim_eq]; exact c5
      have hu : ∀ d, d ∈ xs → X.A.units + 2 + (toP d).depth < cLine := fun d hd => by
        have := List.all_eq_true.mp c4 d hd
        have h1 : (toP d).depth ≤ 100 := of_decide_eq_true this
        have := hr.un
        omega
      have fin : ∀ out : List Value, PySem.W.EachIs (fun u d => ∃ v, RelV v u ∧ R L μ G d v) out (xs.mergeSort (PySem.W.dataLe false toP)) → EP X pins σ Q (.ref (s.heap.objs.size + 1)) { s with heap := PyProof.Rows.sortedAll s.heap its (List.toArray out) } := fun out eo => by
        obtain ⟨vs, qs, rs⟩ := each_back eo
        obtain ⟨n, hn⟩ := PyProof.Rows.sortedAll_at s.heap its out.toArray
        have hf : H (s.heap.objs.size + 1) = none := I.hok.fresh (Nat.le_succ _)
        have hle : PySem.W.dataLe false toP = leD := by
          funext a b
          rw [PySem.W.dataLe_eq]
          rfl
        refine ⟨.ref (s.heap.objs.size + 1), upd H (s.heap.objs.size + 1) (.lst vs), I.laid (t' := s.toks) (fun b o q => PyProof.Rows.sortedAll_old q) (Nat.le_succ _) ⟨?_, out, n, qs, hn⟩, rfl, ?_⟩
        · rw [rs.length, List.length_mergeSort]
          exact hL
        · rw [hle] at rs
          exact ko_lstF st rs p _ hf
      rcases kind_sort c3 c2 c1 with hk | hk
      · have rd' : PySem.W.EachIs (fun v d => ∃ as, Reads (PySem.W.sortingHeap (PySem.W.copyHeap s.heap its) (s.heap.objs.size + 1) its) v (toP d) as) its xs := rd.mono fun _ _ ⟨as, r⟩ => ⟨as, PyProof.Rows.Reads.keeps (fun _ _ => PySem.W.sorting_copy_old) r⟩
        refine PySem.W.sorted_vals pl.isList (PySem.W.pyd_sortsAt (s := { s with heap := PySem.W.sortingHeap (PySem.W.copyHeap s.heap its) (s.heap.objs.size + 1) its }) (PySem.W.each_map (R := fun v d => ∃ as, Reads (PySem.W.sortingHeap (PySem.W.copyHeap s.heap its) (s.heap.objs.size + 1) its) v d as) toP rd') hal hk (PySem.W.bound_map hu)) (by rw [e1.length]; exact hL) ?_
        exact fin _ (PySem.W.sortVals_data false e1 rd' hal)
      · exact PySem.W.sorted_data pl.isList e1 rd hal hk hL hu fun out _ eo => fin out eo
    · exact p.elim
  · exact p.elim
end
end PyD

/-! PyD: ranges in lists, index, a module's table. -/
namespace PyD
open PySem PySem.Spec L2
section
variable {L : Lk} {X : Cx} {k n nc : Nat}
variable {pins : List (Addr × Obj)} {s : Shared} {σ : St} {H : Hp} {E : XK} {μ : List Addr} {S : List D} {G : Hp} {Q : VK} {W : WX}
theorem rs_rg : ∀ (n : Nat) (lo : Int), Rs L μ G (ints0 lo n) ((List.range n).map fun i => V.int (lo + (i : Nat)))
  | 0, _ => Rs.nil
  | n + 1, lo => by
    rw [List.range_succ_eq_map, List.map_cons, List.map_map]
    unfold ints0
    refine Rs.cons (by unfold R; simp) ?_
    have := rs_rg n (lo + 1)
    have e : ((fun i : Nat => V.int (lo + (i : Nat))) ∘ Nat.succ) = fun i : Nat => V.int (lo + 1 + (i : Nat)) := by
      funext i
      show V.int (lo + ((i + 1 : Nat) : Int)) = _
      congr 1
      omega
    rw [e]
    exact this
theorem rg_rs (a b : Int) : Rs L μ G (ints0 a (b - a).toNat) (rgV a b) := rs_rg _ _
def rgok (a b : Int) : Bool := decide (-16777216 ≤ a) && decide (a ≤ 16777216) && decide (-16777216 ≤ b) && decide (b ≤ 16777216) && decide (b - a ≤ 16777216)
theorem rgok_ok {a b : Int} (h : rgok a b = true) : RgOk a b := by
  unfold rgok at h
  simp only [Bool.and_eq_true, decide_eq_true_eq] at h
  exact ⟨by omega, by omega, by omega, by omega, by omega⟩
/-- list(range(e)), tuple(range(e)) -/
def fRgL (fa : Ef D) : Ef D := fun ρ S => (fa ρ S).bind fun x S1 => match x with
  | .int n => if rgok 0 n then .ok (.lst (ints0 0 n.toNat)) S1 else .bad
  | _ => .bad
def fRgT (fa : Ef D) : Ef D := fun ρ S => (fa ρ S).bind fun x S1 => match x with
  | .int n => if rgok 0 n then .ok (.tup (ints0 0 n.toNat)) S1 else .bad
  | _ => .bad
def fRgL2 (fa fb : Ef D) : Ef D := fun ρ S => (fa ρ S).bind fun x S1 => (fb ρ S1).bind fun y S2 => match x, y with
  | .int m, .int n => if rgok m n then .ok (.lst (ints0 m (n - m).toNat)) S2 else .bad
  | _, _ => .bad
theorem to_rgL {a : Expr} {p p2 pos pos2 : Pos} {fa : Ef D} (hc : X.calm = true) (hg : Gl X "list") (hm : X.mg "list" = none) (hg2 : Gl X "range") (hm2 : X.mg "range" = none) (ha : PE X a (tO L W fa)) (hp : plainArgs [a] = true) :
    PE X (.Call (.Name "list" p) [.Call (.Name "range" p2) [a] [] pos2] [] pos) (tF L W (fRgL fa)) := (pe_listRg hc hg hm (prg_1 hg2 hm2 ha (star_cons hp)) (star_cons rfl)).to fun σ H Q h => by
  obtain ⟨μ, S, G, ρ, π, st, rel, q⟩ := h
  refine ⟨μ, S, G, ρ, π, st, rel, q.split.imp fun x S1 μ1 G1 H1 e1 st1 p1 v rv => ?_⟩
  cases x with
  | int n =>
    unfold R at rv
    by_cases hb : rgok 0 n = true
    · dsimp only at p1
      rw [if_pos hb] at p1
      refine ⟨n, rv, rgok_ok hb, fun a ha => ?_⟩
      have r := rg_rs (L := L) (μ := μ1) (G := G1) 0 n
      rw [Int.sub_zero] at r
      obtain ⟨e2, st2⟩ := st1.lay (o := .lst (rgV 0 n)) ha
      obtain ⟨g, m⟩ := st1.fresh ha
      refine p1 _ _ _ e2 st2 a ⟨_, upd_same, r⟩ g ?_ m
      cases z : H a with
      | none => rfl
      | some o => exact absurd ha (e1.m a (by rw [z]; exact fun z => nomatch z))
    · dsimp only at p1
      rw [if_neg hb] at p1
      exact p1.elim
  | _ => exact p1.elim
theorem to_rgT {a : Expr} {p p2 pos pos2 : Pos} {fa : Ef D} (hc : X.calm = true) (hg : Gl X "tuple") (hm : X.mg "tuple" = none) (hg2 : Gl X "range") (hm2 : X.mg "range" = none) (ha : PE X a (tO L W fa)) (hp : plainArgs [a] = true) :
    PE X (.Call (.Name "tuple" p) [.Call (.Name "range" p2) [a] [] pos2] [] pos) (tO L W (fRgT fa)) := (pe_tupRg hc hg hm (prg_1 hg2 hm2 ha (star_cons hp)) (star_cons rfl)).to fun σ H Q h => by
  obtain ⟨μ, S, G, ρ, π, st, rel, q⟩ := h
  refine ⟨μ, S, G, ρ, π, st, rel, q.split.imp fun x S1 μ1 G1 H1 e1 st1 p1 v rv => ?_⟩
  cases x with
  | int n =>
    unfold R at rv
    by_cases hb : rgok 0 n = true
    · dsimp only at p1
      rw [if_pos hb] at p1
      have r := rg_rs (L := L) (μ := μ1) (G := G1) 0 n
      rw [Int.sub_zero] at r
      exact ⟨n, rv, rgok_ok hb, ko_tup st1 r p1⟩
    · dsimp only at p1
      rw [if_neg hb] at p1
      exact p1.elim
  | _ => exact p1.elim

/-! ### index -/
def idxI (n : Int) : List Int → Nat → Option Nat
  | [], _ => none
  | m :: ms, j => if m = n then some j else idxI n ms (j + 1)
def opIdx (x y : D) (S : List D) : Out D := match x, y with
  | .lst ds, .int n => match intsOf ds with
    | some ns => match idxI n ns 0 with
      | some j => .ok (.int (j : Nat)) S
      | none => .bad
    | none => .bad
  | _, _ => .bad
def fIdx (fo fa : Ef D) : Ef D := fun ρ S => (fo ρ S).bind fun x S1 => match x with
  | .lst ds => (fa ρ S1).bind fun y S2 => opIdx (.lst ds) y S2
  | _ => .bad
theorem idxI_at : ∀ {ns : List Int} {n : Int} {k j : Nat}, idxI n ns k = some j → k ≤ j ∧ ns[j - k]? = some n ∧ ∀ m z, m < j - k → ns[m]? = some z → z ≠ n
  | [], n, k, j, h => by cases h
  | m :: ms, n, k, j, h => by
    unfold idxI at h
    split at h
    · rename_i e
      cases h
      subst e
      exact ⟨Nat.le_refl _, by simp, fun i z hi => by omega⟩
    · rename_i e
      obtain ⟨h1, h2, h3⟩ := idxI_at h
      have ej : j - k = (j - (k + 1)) + 1 := by omega
      refine ⟨by omega, by rw [ej, List.getElem?_cons_succ]; exact h2, fun i z hi hz => ?_⟩
      cases i with
      | zero => simp at hz; subst hz; exact e
      | succ i => exact h3 i z (by omega) (by simpa using hz)
theorem to_idx {o a : Expr} {apos cpos : Pos} {fo fa : Ef D} (hK : X.K = L.K) (ho : PE X o (tB L W fo)) (ha : PE X a (tB L W fa)) (hb : notSuper o = true) (hp : plainArgs [a] = true) (hl : (apos.endLine == cpos.line) = true)
    (hfew : ((backTo cpos (starEach [a] X.env)).all (fun x => !x.1) && (backToKw cpos (keywordEach [] X.env)).all (fun x => x.1.isSome) && decide ([a].length + ([] : List Keyword).length + (if ([] : List Keyword).isEmpty then 0 else 1) < 30)) = true) :
    PE X (.Call (.Attribute o "index" apos) [a] [] cpos) (tO L W (fIdx fo fa)) :=
  (pe_bm PySem.F.plainAttrs_list PySem.F.slot_list_index PySem.F.type_list_index mt_index ho (pa_cons ha pa_nil (star_cons hp)) (base_of hb) hfew hl (star_cons hp) (star_none (plain_tail hp))).to fun σ H Q h => by
    obtain ⟨μ, S, G, ρ, π, st, rel, p⟩ := h
    refine ⟨μ, S, G, ρ, π, st, rel, p.split.imp fun x S1 μ1 G1 H1 e1 st1 p1 v rv => ?_⟩
    split at p1
    · rename_i ds
      have vx := rv.vw st1
      obtain ⟨a, vs, rfl, q, _⟩ := Vw.lsts st1.sub vx
      refine ⟨.inl ⟨rfl, vs, by rw [hK]; exact q⟩, μ1, S1, G1, ρ, π, st1, rel.ext e1, p1.split.imp fun y S2 μ2 G2 H2 e2 st2 p2 u ru => ?_⟩
      have rv2 := (rv.ext e2).vw st2
      obtain ⟨a', vs', e3, q', w'⟩ := Vw.lsts st2.sub rv2
      cases e3
      unfold opIdx at p2
      split at p2
      · rename_i ds' n e4
        cases e4
        split at p2
        · rename_i ns en
          split at p2
          · rename_i j ej
            have hy : u = .int n := Vw.ints (ru.vw st2)
            have hv := ints_rs en w'
            obtain ⟨_, i2, i3⟩ := idxI_at ej
            rw [Nat.sub_zero] at i2 i3
            refine ⟨a, vs', u, j, .int n, rfl, rfl, by rw [hK]; exact q', by rw [hy]; rfl, ?_, ?_, by rw [hy]; simp [eqV], fun m z hm hz => ?_, p2 μ2 G2 H2 (.refl _ _ _) st2 _ (by unfold R; rfl)⟩
            · rw [hv]
              exact List.all_eq_true.mpr fun z hz => by obtain ⟨i, _, rfl⟩ := List.mem_map.mp hz; rfl
            · rw [hv, List.getElem?_map, i2]
              rfl
            · rw [hv, List.getElem?_map] at hz
              obtain ⟨i, hi, rfl⟩ := Option.map_eq_some_iff.mp hz
              have ne := i3 m i hm hi
              rw [hy]
              simpa [eqV] using ne
          · exact p2.elim
        · exact p2.elim
      · exact p2.elim
    · exact p1.elim
/-! ### a table of the module, text keys -/
structure KdOk (L : Lk) (X : Cx) (d : Addr) (tab : List (Str × D)) : Prop where
  look : ∀ z r, tab.lookup z = some r → ∃ v, KDct X.K X.w d z v ∧ ∀ μ G, R L μ G r v
def fKd (tab : List (Str × D)) (fb : Ef D) : Ef D := fun ρ S => (fb ρ S).bind fun y S1 => match y with
  | .str z => okD (tab.lookup z) S1
  | _ => .bad
theorem to_kd {x : Str} {b : Expr} {p pos : Pos} {d : Addr} {tab : List (Str × D)} {fb : Ef D} (ok : KdOk L X d tab) (hg : Gl X x) (hm : X.mg x = some (.ref d)) (hdb : (x == ("__debug__" : Str)) = false) (hb : PE X b (tO L W fb)) (hs : PlainIx b) :
    PE X (.Subscript (.Name x p) b pos) (tO L W (fKd tab fb)) := (pe_ix ix_kdict (pe_glob (v := .ref d) hg hm rfl hdb) hb hs).to fun σ H Q h => by
  obtain ⟨μ, S, G, ρ, π, st, rel, q⟩ := h
  show tO L W fb σ H _
  refine ⟨μ, S, G, ρ, π, st, rel, q.split.imp fun y S1 μ1 G1 H1 e1 st1 p1 v rv => ?_⟩
  split at p1
  · rename_i z
    obtain ⟨r, er, p1⟩ := okD_some p1
    obtain ⟨w, kd, hr⟩ := ok.look z r er
    unfold R at rv
    exact ⟨d, z, w, rfl, rv, kd, p1 μ1 G1 H1 (.refl _ _ _) st1 w (hr μ1 G1)⟩
  · exact p1.elim
end
end PyD

/-! PyD: bool(x). -/
namespace PyD
open PySem PySem.Spec L2
section
variable {prog : Program} {w : World} {A : Around} {E : Value → Shared → Prop} {s : Shared}
theorem bool_new {x : Value} {Q1 : Value → Shared → Prop} (h : wpAny (model prog w) A.in1 (truthy x) (fun b s' => Q1 (.bool b) s') E s) :
    codeAny (model prog w) A (.call (.builtin "bool.__new__") ⟨[.type "bool", x], []⟩) (wants Q1 E) s := by
  have pl : plainId "bool.__new__" = true := by decide +kernel
  refine codeAny_of_tree ?_
  show wpAny _ A.in1 (do checkBuiltinCall "bool.__new__" ⟨[Value.type "bool", x], []⟩; again (.builtin "bool.__new__" ⟨[Value.type "bool", x], []⟩)) _ _ s
  refine wpAny_bind (wpAny_of_eq (PySem.F.newCall_bool_1 _) (wpAny_pure ⟨plainId_quiet pl _, codeAny_builtin PySem.F.entry_bool_new ?_⟩))
  rw [Around.under_plainId pl _]
  have f1 := PySem.F.conv_sub_bool
  obtain ⟨hp, g, d, tk, os⟩ := s
  repeat (any_goals (first | assumption | (refine wpAny_bind (m := truthy x) (wpAny_mono h (fun b s' q => ?_) fun _ _ z => z)) | wp_step))
  all_goals first | exact wpAny_pure ⟨_, rfl, q⟩ | exact ⟨_, rfl, q⟩ | exact q | skip
theorem call_boolT {x : Value} {Q : Value → Shared → Prop} (h : wpAny (model prog w) A.in1.in1 (truthy x) (fun b s' => Q (.bool b) s') E s) : wpAny (model prog w) A (call (.type "bool") [x]) Q E s := by
  refine callType_codes (Q₁ := fun obj s1 => s1.TypeIs obj "bool" ∧ Q obj s1) PySem.F.called_bool (PySem.F.typeCall_bool_1 _) PySem.F.entry_object_init (bool_new (A := A.in1) (wpAny_mono h (fun b s' q => ⟨show s'.TypeIs (.bool b) "bool" from (by first | exact PySem.F.typeIs_bool s' b | exact SeqAt.typeIs_bool' s' b | rfl | exact trivial), q⟩) fun _ _ z => z)) fun obj s1 h1 => ?_
  exact ⟨h1.1, PySem.F.args_object_init_2 obj _, object_init_meets PySem.F.called_bool.init.lookup PySem.F.called_bool.made (by decide) prog w A.in1 _ s1 ⟨h1.1, rfl, h1.2⟩⟩
end
section
variable {L : Lk} {X : Cx} {k n nc : Nat} {tm : Nat → Option Cl}
variable {pins : List (Addr × Obj)} {s : Shared} {σ : St} {H : Hp} {E : XK} {μ : List Addr} {S : List D} {G : Hp} {Q : VK} {W : WX}
def opBool (tm : Nat → Option Cl) (x : D) (S : List D) : Out D := (calmly (truD tm x S)).bind fun b S1 => .ok (.bl b) S1
/-- bool(x) -/
theorem so_bool (hK : X.K = L.K) (hr : Room (n + 2) X.A) (hT : TmOk L X n tm) {fa : Ef D} {Q : VK} (h : tO L W (fOne (opBool tm) fa) σ H Q) : tCB (fun vs H Q => ∃ v, vs = [v] ∧ ∃ σ, rTru L WF tm σ v H fun b H' => Q (.bl b) H') (tCons (tO L W fa) tNil) σ H Q := by
  obtain ⟨μ, S, G, ρ, π, st, rel, p⟩ := h
  refine ⟨μ, S, G, ρ, π, st, rel, p.split.imp fun x S1 μ1 G1 H1 e1 st1 p1 v rv => ?_⟩
  refine ⟨v, rfl, σ, μ1, S1, G1, x, st1, rv, ?_⟩
  unfold opBool at p1
  exact (calm_post p1).imp fun b S2 μ2 G2 H2 e2 st2 p2 => p2 μ2 G2 H2 (.refl _ _ _) st2 _ (by unfold R; rfl)
theorem cr_bool (hK : X.K = L.K) (hr : Room (n + 2) X.A) (hT : TmOk L X n tm) : CallR X (.type "bool") (fun vs H Q => ∃ v, vs = [v] ∧ ∃ σ, rTru L WF tm σ v H fun b H' => Q (.bl b) H') := by
  intro pins s σ H vs us Q I r hh
  obtain ⟨v, rfl, σ', hh⟩ := hh
  obtain ⟨u, rfl, ru⟩ := vals1 r
  refine call_boolT (thn' (tru_at (W := WF) (A := X.A.in1.in1) hK ⟨hr.in1.in1, rfl⟩ takesWF hT I ru (σ := σ) hh) fun b s' ⟨H', I', q⟩ => ?_)
  exact ⟨.bl b, H', I', rfl, q⟩
end
end PyD

/-! PyD: the words, as the printer writes them. -/
namespace PyD
open PySem PySem.Spec L2
/-- what is known where a piece of a def's text runs -/
structure Cc (L : Lk) (P : Program) (w : World) (mg : Str → Option Value) (base : Heap) (k : Nat) (N : List Str) (sc : Scope) (fo : Str → Bool) (X : Cx) : Prop where
  pr : X.prog = P
  wd : X.w = w
  K : X.K = L.K
  mg : X.mg = mg
  bs : X.base = base
  N : X.N = N
  sc : X.env.scope = sc
  calm : X.calm = true
  fo : ∀ x, fo x = true → X.fn x = true ∨ X.env.scope.names.lookup x = some .local
  rm : Room k X.A
  nd : X.N.Nodup
def visB (sc : Scope) (x : Str) : Bool := match sc.names.lookup x with
  | some .local => true
  | some .cell => true
  | some .free => true
  | _ => false
def locB (sc : Scope) (x : Str) : Bool := match sc.names.lookup x with
  | some .local => true
  | some .cell => true
  | _ => false
def glb (sc : Scope) (x : Str) : Bool := decide (sc.names.lookup x = some .globalImplicit) && !(x == ("__debug__" : Str)) && !decide (x = "__name__")
def ndb (x : Str) : Bool := !(x == ("__debug__" : Str)) && !(x == ("__classdict__" : Str))
/-- a def, by its answer -/
structure Df (L : Lk) (P : Program) (w : World) (mg : Str → Option Value) (base : Heap) (k : Nat) (f : Addr) (n : Nat) (cl : Cl) : Prop where
  ex : ∃ fd ps, FnOk P w L.K mg base (CX P w) k f fd ps (spD L n cl) ∧ Binds L.K fd ps []
/-- an __init__ -/
structure Di (L : Lk) (P : Program) (w : World) (mg : Str → Option Value) (base : Heap) (k : Nat) (f : Addr) (n cn : Nat) (cl : Cl) : Prop where
  ex : ∃ fd ps, FnOk P w L.K mg base (CX P w) k f fd ps (spI L n cn cl) ∧ Binds L.K fd ps []
section
variable {L : Lk} {P : Program} {w : World} {mg : Str → Option Value} {base : Heap} {k j : Nat} {N : List Str} {sc : Scope} {fo : Str → Bool} {X : Cx} {W : WX} {pos p p2 : Pos}
theorem Df.mono {f : Addr} {n : Nat} {cl : Cl} (d : Df L P w mg base j f n cl) (h : j ≤ k) : Df L P w mg base k f n cl := let ⟨fd, ps, F, hb⟩ := d.ex; ⟨fd, ps, F.mono h, hb⟩
theorem Di.mono {f : Addr} {n cn : Nat} {cl : Cl} (d : Di L P w mg base j f n cn cl) (h : j ≤ k) : Di L P w mg base k f n cn cl := let ⟨fd, ps, F, hb⟩ := d.ex; ⟨fd, ps, F.mono h, hb⟩
theorem vis_of {x : Str} (h : visB sc x = true) : Vis sc x := by
  unfold visB at h
  split at h
  · rename_i e; exact .inl e
  · rename_i e; exact .inr (.inl e)
  · rename_i e; exact .inr (.inr e)
  · cases h
theorem loc_of {x : Str} (h : locB sc x = true) : Loc sc x := by
  unfold locB at h
  split at h
  · rename_i e; exact .inl e
  · rename_i e; exact .inr e
  · cases h
theorem gl_of {x : Str} (c : Cc L P w mg base k N sc fo X) (h : glb sc x = true) : Gl X x ∧ (x == ("__debug__" : Str)) = false ∧ x ≠ "__name__" := by
  unfold glb at h
  simp only [Bool.and_eq_true, decide_eq_true_eq, Bool.not_eq_true', decide_eq_false_iff_not] at h
  exact ⟨by unfold Gl Env.kindOf; rw [c.sc]; exact h.1.1, h.1.2, h.2⟩
theorem nd_of {x : Str} (h : ndb x = true) : (x == ("__debug__" : Str)) = false ∧ (x == ("__classdict__" : Str)) = false := by
  unfold ndb at h
  simp only [Bool.and_eq_true, Bool.not_eq_true'] at h
  exact h
/-! ### atoms -/
theorem x_var (c : Cc L P w mg base k N sc fo X) {i : Nat} {x : Str} (hi : N[i]? = some x) (hv : visB sc x = true) (hd : ndb x = true) : PE X (.Name x pos) (tO L W (fVar i)) :=
  (pe_var (by rw [c.N]; exact hi) (by rw [c.sc]; exact vis_of hv) (nd_of hd).1 (nd_of hd).2).to fun _ _ _ h => to_var h
theorem x_look (c : Cc L P w mg base k N sc fo X) {i : Nat} {x : Str} (hi : N[i]? = some x) (hv : visB sc x = true) (hd : ndb x = true) : PE X (.Name x pos) (tB L W (fLook i)) :=
  (pe_var (by rw [c.N]; exact hi) (by rw [c.sc]; exact vis_of hv) (nd_of hd).1 (nd_of hd).2).to fun _ _ _ h => to_look h
theorem x_int {i : Int} {j : _} : PE X (.Constant (.int i) j pos) (tO L W (fLit (.int i))) := pe_int.to fun _ _ _ h => to_lit (fun _ _ => by unfold R; rfl) h
theorem x_bl {i : Bool} {j : _} : PE X (.Constant (.bool i) j pos) (tO L W (fLit (.bl i))) := pe_bl.to fun _ _ _ h => to_lit (fun _ _ => by unfold R; rfl) h
theorem x_non {j : _} : PE X (.Constant .none j pos) (tO L W (fLit .non)) := pe_non.to fun _ _ _ h => to_lit (fun _ _ => by unfold R; rfl) h
theorem x_str {i : Str} {j : _} : PE X (.Constant (.str i) j pos) (tO L W (fLit (.str i))) := pe_str.to fun _ _ _ h => to_lit (fun _ _ => by unfold R; rfl) h
/-- a constant of the module -/
structure Kn (L : Lk) (mg : Str → Option Value) (x : Str) (d : D) : Prop where
  ex : ∃ u v, mg x = some u ∧ RelV v u ∧ ∀ μ G, R L μ G d v
theorem x_con (c : Cc L P w mg base k N sc fo X) {x : Str} {d : D} (hk : Kn L mg x d) (hg : glb sc x = true) : PE X (.Name x pos) (tO L W (fLit d)) := by
  obtain ⟨u, v, e, r, hv⟩ := hk.ex
  obtain ⟨g1, g2, g3⟩ := gl_of c hg
  exact (pe_glob g1 (by rw [c.mg]; exact e) r g2).to fun _ _ _ h => to_lit hv h
/-- a value, to be looked at; a new thing, as a value -/
theorem x_B {e : Expr} {f : Ef D} (h : PE X e (tO L W f)) : PE X e (tB L W f) := h.to fun _ _ _ h => tB_tO h
theorem x_F {e : Expr} {f : Ef D} (h : PE X e (tF L W f)) : PE X e (tO L W f) := h.to fun _ _ _ h => tO_tF h
def fNeg (f : Ef D) : Ef D := fun ρ S => (f ρ S).bind fun x S1 => match x with
  | .int i => .ok (.int (-i)) S1
  | _ => .bad
theorem x_neg {e : Expr} {f : Ef D} (h : PE X e (tO L W f)) : PE X (.UnaryOp .USub e pos) (tO L W (fNeg f)) := (pe_un un_neg h).to fun σ H Q h => by
  obtain ⟨μ, S, G, ρ, π, st, rel, p⟩ := h
  refine ⟨μ, S, G, ρ, π, st, rel, (Post.split p).imp fun x S1 μ1 G1 H1 e1 st1 p1 v rv => ?_⟩
  cases x with
  | int i => unfold R at rv; exact ⟨i, rv, p1 μ1 G1 H1 (.refl _ _ _) st1 _ (by unfold R; rfl)⟩
  | _ => exact p1.elim
/-! ### operations -/
theorem x_add (c : Cc L P w mg base k N sc fo X) {a b : Expr} {f g : Ef D} (ha : PE X a (tB L W f)) (hb : PE X b (tB L W g)) : PE X (.BinOp a .Add b pos) (tO L W (fTwo opAdd f g)) := (pe_op (so_add c.K) ha hb).to fun _ _ _ h => to_two h
theorem x_sub (c : Cc L P w mg base k N sc fo X) {a b : Expr} {f g : Ef D} (ha : PE X a (tB L W f)) (hb : PE X b (tB L W g)) : PE X (.BinOp a .Sub b pos) (tO L W (fTwo opSub f g)) := (pe_op so_sub ha hb).to fun _ _ _ h => to_two h
theorem x_mul (c : Cc L P w mg base k N sc fo X) {a b : Expr} {f g : Ef D} (ha : PE X a (tB L W f)) (hb : PE X b (tB L W g)) : PE X (.BinOp a .Mult b pos) (tO L W (fTwo opMul f g)) := (pe_op so_mul ha hb).to fun _ _ _ h => to_two h
theorem x_div (c : Cc L P w mg base k N sc fo X) {a b : Expr} {f g : Ef D} (ha : PE X a (tB L W f)) (hb : PE X b (tB L W g)) : PE X (.BinOp a .FloorDiv b pos) (tO L W (fTwo opDiv f g)) := (pe_op so_div ha hb).to fun _ _ _ h => to_two h
theorem x_mod (c : Cc L P w mg base k N sc fo X) {a b : Expr} {f g : Ef D} (ha : PE X a (tB L W f)) (hb : PE X b (tB L W g)) : PE X (.BinOp a .Mod b pos) (tO L W (fTwo opMod f g)) := (pe_op so_mod ha hb).to fun _ _ _ h => to_two h
theorem x_pow (c : Cc L P w mg base k N sc fo X) {a b : Expr} {f g : Ef D} (ha : PE X a (tB L W f)) (hb : PE X b (tB L W g)) : PE X (.BinOp a .Pow b pos) (tO L W (fTwo opPow f g)) := (pe_op so_pow ha hb).to fun _ _ _ h => to_two h
theorem x_eq (c : Cc L P w mg base k N sc fo X) {a b : Expr} {f g : Ef D} (ha : PE X a (tB L W f)) (hb : PE X b (tB L W g)) (hm : behindInMarks .Eq b = false) : PE X (.Compare a [.Eq] [b] pos) (tO L W (fTwo opEq f g)) := to_cmp (so_eq c.K c.rm) ha hb hm
theorem t_eq (c : Cc L P w mg base k N sc fo X) {a b : Expr} {f g : Ef D} (ha : PE X a (tB L W f)) (hb : PE X b (tB L W g)) (hm : behindInMarks .Eq b = false) : PT X (.Compare a [.Eq] [b] pos) (tT L W (fBl (fTwo opEq f g))) := to_cmpT (so_eq c.K c.rm) ha hb hm
theorem x_ne (c : Cc L P w mg base k N sc fo X) {a b : Expr} {f g : Ef D} (ha : PE X a (tB L W f)) (hb : PE X b (tB L W g)) (hm : behindInMarks .NotEq b = false) : PE X (.Compare a [.NotEq] [b] pos) (tO L W (fTwo opNe f g)) := to_cmp (so_ne c.K c.rm) ha hb hm
theorem t_ne (c : Cc L P w mg base k N sc fo X) {a b : Expr} {f g : Ef D} (ha : PE X a (tB L W f)) (hb : PE X b (tB L W g)) (hm : behindInMarks .NotEq b = false) : PT X (.Compare a [.NotEq] [b] pos) (tT L W (fBl (fTwo opNe f g))) := to_cmpT (so_ne c.K c.rm) ha hb hm
theorem x_lt (c : Cc L P w mg base k N sc fo X) {a b : Expr} {f g : Ef D} (ha : PE X a (tB L W f)) (hb : PE X b (tB L W g)) (hm : behindInMarks .Lt b = false) : PE X (.Compare a [.Lt] [b] pos) (tO L W (fTwo opLt f g)) := to_cmp (so_lt c.K c.rm) ha hb hm
theorem t_lt (c : Cc L P w mg base k N sc fo X) {a b : Expr} {f g : Ef D} (ha : PE X a (tB L W f)) (hb : PE X b (tB L W g)) (hm : behindInMarks .Lt b = false) : PT X (.Compare a [.Lt] [b] pos) (tT L W (fBl (fTwo opLt f g))) := to_cmpT (so_lt c.K c.rm) ha hb hm
theorem x_gt (c : Cc L P w mg base k N sc fo X) {a b : Expr} {f g : Ef D} (ha : PE X a (tB L W f)) (hb : PE X b (tB L W g)) (hm : behindInMarks .Gt b = false) : PE X (.Compare a [.Gt] [b] pos) (tO L W (fTwo opGt f g)) := to_cmp (so_gt c.K c.rm) ha hb hm
theorem t_gt (c : Cc L P w mg base k N sc fo X) {a b : Expr} {f g : Ef D} (ha : PE X a (tB L W f)) (hb : PE X b (tB L W g)) (hm : behindInMarks .Gt b = false) : PT X (.Compare a [.Gt] [b] pos) (tT L W (fBl (fTwo opGt f g))) := to_cmpT (so_gt c.K c.rm) ha hb hm
theorem x_le (c : Cc L P w mg base k N sc fo X) {a b : Expr} {f g : Ef D} (ha : PE X a (tB L W f)) (hb : PE X b (tB L W g)) (hm : behindInMarks .LtE b = false) : PE X (.Compare a [.LtE] [b] pos) (tO L W (fTwo opLe f g)) := to_cmp (so_le c.K c.rm) ha hb hm
theorem t_le (c : Cc L P w mg base k N sc fo X) {a b : Expr} {f g : Ef D} (ha : PE X a (tB L W f)) (hb : PE X b (tB L W g)) (hm : behindInMarks .LtE b = false) : PT X (.Compare a [.LtE] [b] pos) (tT L W (fBl (fTwo opLe f g))) := to_cmpT (so_le c.K c.rm) ha hb hm
theorem x_ge (c : Cc L P w mg base k N sc fo X) {a b : Expr} {f g : Ef D} (ha : PE X a (tB L W f)) (hb : PE X b (tB L W g)) (hm : behindInMarks .GtE b = false) : PE X (.Compare a [.GtE] [b] pos) (tO L W (fTwo opGe f g)) := to_cmp (so_ge c.K c.rm) ha hb hm
theorem t_ge (c : Cc L P w mg base k N sc fo X) {a b : Expr} {f g : Ef D} (ha : PE X a (tB L W f)) (hb : PE X b (tB L W g)) (hm : behindInMarks .GtE b = false) : PT X (.Compare a [.GtE] [b] pos) (tT L W (fBl (fTwo opGe f g))) := to_cmpT (so_ge c.K c.rm) ha hb hm
theorem x_in (c : Cc L P w mg base k N sc fo X) {a b : Expr} {f g : Ef D} (ha : PE X a (tB L W f)) (hb : PE X b (tB L W g)) (hm : behindInMarks .In b = false) : PE X (.Compare a [.In] [b] pos) (tO L W (fTwo opIn f g)) := to_cmp (so_in c.K c.rm) ha hb hm
theorem t_in (c : Cc L P w mg base k N sc fo X) {a b : Expr} {f g : Ef D} (ha : PE X a (tB L W f)) (hb : PE X b (tB L W g)) (hm : behindInMarks .In b = false) : PT X (.Compare a [.In] [b] pos) (tT L W (fBl (fTwo opIn f g))) := to_cmpT (so_in c.K c.rm) ha hb hm
theorem x_notIn (c : Cc L P w mg base k N sc fo X) {a b : Expr} {f g : Ef D} (ha : PE X a (tB L W f)) (hb : PE X b (tB L W g)) (hm : behindInMarks .NotIn b = false) : PE X (.Compare a [.NotIn] [b] pos) (tO L W (fTwo opNotIn f g)) := to_cmp (so_notIn c.K c.rm) ha hb hm
theorem t_notIn (c : Cc L P w mg base k N sc fo X) {a b : Expr} {f g : Ef D} (ha : PE X a (tB L W f)) (hb : PE X b (tB L W g)) (hm : behindInMarks .NotIn b = false) : PT X (.Compare a [.NotIn] [b] pos) (tT L W (fBl (fTwo opNotIn f g))) := to_cmpT (so_notIn c.K c.rm) ha hb hm
theorem x_isN (c : Cc L P w mg base k N sc fo X) {a b : Expr} {f g : Ef D} (ha : PE X a (tB L W f)) (hb : PE X b (tB L W g)) (hm : behindInMarks .Is b = false) : PE X (.Compare a [.Is] [b] pos) (tO L W (fTwo opIsN f g)) := to_cmp so_isN ha hb hm
theorem t_isN (c : Cc L P w mg base k N sc fo X) {a b : Expr} {f g : Ef D} (ha : PE X a (tB L W f)) (hb : PE X b (tB L W g)) (hm : behindInMarks .Is b = false) : PT X (.Compare a [.Is] [b] pos) (tT L W (fBl (fTwo opIsN f g))) := to_cmpT so_isN ha hb hm
theorem x_notN (c : Cc L P w mg base k N sc fo X) {a b : Expr} {f g : Ef D} (ha : PE X a (tB L W f)) (hb : PE X b (tB L W g)) (hm : behindInMarks .IsNot b = false) : PE X (.Compare a [.IsNot] [b] pos) (tO L W (fTwo opNotN f g)) := to_cmp so_notN ha hb hm
theorem t_notN (c : Cc L P w mg base k N sc fo X) {a b : Expr} {f g : Ef D} (ha : PE X a (tB L W f)) (hb : PE X b (tB L W g)) (hm : behindInMarks .IsNot b = false) : PT X (.Compare a [.IsNot] [b] pos) (tT L W (fBl (fTwo opNotN f g))) := to_cmpT so_notN ha hb hm

/-! a op b op' c, of orders of ints -/
structure OrdR (L : Lk) (X : Cx) (op : CmpOp) (o : D → D → List D → Out D) : Prop where
  r : OpR X (compareOp op) (rTwo L o)
theorem r_eq (c : Cc L P w mg base k N sc fo X) : OrdR L X .Eq opEq := ⟨so_eq c.K c.rm⟩
theorem r_ne (c : Cc L P w mg base k N sc fo X) : OrdR L X .NotEq opNe := ⟨so_ne c.K c.rm⟩
theorem r_lt (c : Cc L P w mg base k N sc fo X) : OrdR L X .Lt opLt := ⟨so_lt c.K c.rm⟩
theorem r_gt (c : Cc L P w mg base k N sc fo X) : OrdR L X .Gt opGt := ⟨so_gt c.K c.rm⟩
theorem r_le (c : Cc L P w mg base k N sc fo X) : OrdR L X .LtE opLe := ⟨so_le c.K c.rm⟩
theorem r_ge (c : Cc L P w mg base k N sc fo X) : OrdR L X .GtE opGe := ⟨so_ge c.K c.rm⟩

theorem x_chain {op op' : CmpOp} {o o' : D → D → List D → Out D} {a b d : Expr} {f g h : Ef D} (r : OrdR L X op o) (r' : OrdR L X op' o') (ha : PE X a (tB L W f)) (hb : PE X b (tB L W g)) (hd : PE X d (tB L W h)) (hm : lastMarks [op, op'] [b, d] = false) :
    PE X (.Compare a [op, op'] [b, d] pos) (tO L W (fChain o o' f g h)) := to_chain r.r r'.r ha hb hd hm
theorem t_chain {op op' : CmpOp} {o o' : D → D → List D → Out D} {a b d : Expr} {f g h : Ef D} (r : OrdR L X op o) (r' : OrdR L X op' o') (ha : PE X a (tB L W f)) (hb : PE X b (tB L W g)) (hd : PE X d (tB L W h)) (hm : lastMarks [op, op'] [b, d] = false) :
    PT X (.Compare a [op, op'] [b, d] pos) (tT L W (fBl (fChain o o' f g h))) := to_chainT r.r r'.r ha hb hd hm
theorem x_ix (c : Cc L P w mg base k N sc fo X) {a b : Expr} {f g : Ef D} (ha : PE X a (tB L W f)) (hb : PE X b (tB L W g)) (hs : PlainIx b) : PE X (.Subscript a b pos) (tO L W (fTwo opIx f g)) := to_ix c.K ha hb hs
theorem x_dix (c : Cc L P w mg base k N sc fo X) {a b : Expr} {f g : Ef D} (ha : PE X a (tB L W f)) (hb : PE X b (tO L W g)) (hs : NoSl b) : PE X (.Subscript a b pos) (tO L W (fTwo opDIx f g)) := to_dix (by have := c.rm.units; omega) ha hb hs
theorem x_sl (c : Cc L P w mg base k N sc fo X) {a : Expr} {lo hi : Option Expr} {fa : Ef D} {fl fh : Option (Ef D)} (ha : PE X a (tB L W fa)) (hl : PO X lo (tP L W fl)) (hh : PO X hi (tP L W fh)) : PE X (.Subscript a (.Slice lo hi none p2) pos) (tO L W (fSl fa fl fh)) := to_slice c.K ha hl hh
/-- a table of the module, text keys -/
def KdP (L : Lk) (w : World) (d : Addr) (tab : List (Str × D)) : Prop := ∀ z r, tab.lookup z = some r → ∃ v, KDct L.K w d z v ∧ ∀ μ G, R L μ G r v
theorem x_kd (c : Cc L P w mg base k N sc fo X) {x : Str} {b : Expr} {d : Addr} {tab : List (Str × D)} {fb : Ef D} (ok : KdP L w d tab) (hm : mg x = some (.ref d)) (hg : glb sc x = true) (hb : PE X b (tO L W fb)) (hs : PlainIx b) : PE X (.Subscript (.Name x p) b pos) (tO L W (fKd tab fb)) := by
  obtain ⟨g1, g2, g3⟩ := gl_of c hg
  refine to_kd ⟨fun z r e => ?_⟩ g1 (by rw [c.mg]; exact hm) g2 hb hs
  obtain ⟨v, kd, hr⟩ := ok z r e
  exact ⟨v, by rw [c.K, c.wd]; exact kd, hr⟩
/-! ### argument lists, displays -/
theorem x_nil : PA X [] (tA L W fNil) := to_nil
theorem x_cons {e : Expr} {es : List Expr} {fa : Ef D} {fr : Ef (List D)} (ha : PE X e (tO L W fa)) (hr : PA X es (tA L W fr)) (hp : plainArgs [e] = true) : PA X (e :: es) (tA L W (fCons fa fr)) := to_cons ha hr (by
  cases e <;> first | rfl | exact absurd hp (by simp [plainArgs]))
theorem x_star (c : Cc L P w mg base k N sc fo X) {e : Expr} {es : List Expr} {fa : Ef D} {fr : Ef (List D)} (ha : PE X e (tB L W fa)) (hr : PA X es (tA L W fr)) : PA X (.Starred e p :: es) (tA L W (fStar fa fr)) := to_star c.K ha hr rfl
theorem x_tup {es : List Expr} {fl : Ef (List D)} {x1 : _} (h : PA X es (tA L W fl)) : PE X (.Tuple es x1 pos) (tO L W (fTup fl)) := to_tup (c := 0) h
theorem x_lst {es : List Expr} {fl : Ef (List D)} (h : PA X es (tA L W fl)) : PE X (.List es pos) (tF L W (fLst fl)) := to_lstF h
/-! ### builtins -/
theorem boot_ok {x : Str} {u : Value} (h : (match bootBuiltins x with | some v => v == u | none => false) = true) (hu : (u == u) = true) : True := trivial
theorem x_len (c : Cc L P w mg base k N sc fo X) {e : Expr} {fa : Ef D} (hm : mg "len" = none) (hg : glb sc "len" = true) (ha : PE X e (tB L W fa)) (hp : plainArgs [e] = true) : PE X (.Call (.Name "len" p) [e] [] pos) (tO L W (fOne opLen fa)) := by
  obtain ⟨g1, g2, g3⟩ := gl_of c hg
  exact (pe_callB (so_len c.K) g1 (by rw [c.mg]; exact hm) (by decide +kernel) (pa_cons ha pa_nil (star_cons hp)) g3 g2 (star_cons hp) (star_none (plain_tail hp))).to fun _ _ _ h => to_call1 h
theorem x_dlen (c : Cc L P w mg base k N sc fo X) {e : Expr} {fa : Ef D} (hm : mg "len" = none) (hg : glb sc "len" = true) (ha : PE X e (tB L W fa)) (hp : plainArgs [e] = true) : PE X (.Call (.Name "len" p) [e] [] pos) (tO L W (fOne opDLen fa)) := by
  obtain ⟨g1, g2, g3⟩ := gl_of c hg
  exact (pe_callB (so_dlen) g1 (by rw [c.mg]; exact hm) (by decide +kernel) (pa_cons ha pa_nil (star_cons hp)) g3 g2 (star_cons hp) (star_none (plain_tail hp))).to fun _ _ _ h => to_call1 h
theorem x_tuple (c : Cc L P w mg base k N sc fo X) {e : Expr} {fa : Ef D} (hm : mg "tuple" = none) (hg : glb sc "tuple" = true) (ha : PE X e (tB L W fa)) (hp : plainArgs [e] = true) : PE X (.Call (.Name "tuple" p) [e] [] pos) (tO L W (fOne opTuple fa)) := by
  obtain ⟨g1, g2, g3⟩ := gl_of c hg
  exact (pe_callTy (so_tuple c.K) g1 (by rw [c.mg]; exact hm) (by decide +kernel) (pa_cons ha pa_nil (star_cons hp)) g3 g2 (star_cons hp) (star_none (plain_tail hp))).to fun _ _ _ h => to_call1 h
theorem x_intc (c : Cc L P w mg base k N sc fo X) {e : Expr} {fa : Ef D} (hm : mg "int" = none) (hg : glb sc "int" = true) (ha : PE X e (tB L W fa)) (hp : plainArgs [e] = true) : PE X (.Call (.Name "int" p) [e] [] pos) (tO L W (fOne opInt fa)) := by
  obtain ⟨g1, g2, g3⟩ := gl_of c hg
  exact (pe_callTy (so_int) g1 (by rw [c.mg]; exact hm) (by decide +kernel) (pa_cons ha pa_nil (star_cons hp)) g3 g2 (star_cons hp) (star_none (plain_tail hp))).to fun _ _ _ h => to_call1 h
theorem x_sum (c : Cc L P w mg base k N sc fo X) {e : Expr} {fa : Ef D} (hm : mg "sum" = none) (hg : glb sc "sum" = true) (ha : PE X e (tB L W fa)) (hp : plainArgs [e] = true) : PE X (.Call (.Name "sum" p) [e] [] pos) (tO L W (fOne opSum fa)) := by
  obtain ⟨g1, g2, g3⟩ := gl_of c hg
  exact (pe_callB (so_sum c.K c.calm) g1 (by rw [c.mg]; exact hm) (by decide +kernel) (pa_cons ha pa_nil (star_cons hp)) g3 g2 (star_cons hp) (star_none (plain_tail hp))).to fun _ _ _ h => to_call1 h
theorem x_list (c : Cc L P w mg base k N sc fo X) {e : Expr} {fa : Ef D} (hm : mg "list" = none) (hg : glb sc "list" = true) (ha : PE X e (tB L W fa)) (hp : plainArgs [e] = true) : PE X (.Call (.Name "list" p) [e] [] pos) (tF L W (fOne opList fa)) := by
  obtain ⟨g1, g2, g3⟩ := gl_of c hg
  exact (pe_callTy (so_list c.K) g1 (by rw [c.mg]; exact hm) (by decide +kernel) (pa_cons ha pa_nil (star_cons hp)) g3 g2 (star_cons hp) (star_none (plain_tail hp))).to fun _ _ _ h => to_call1F h
theorem x_sorted (c : Cc L P w mg base k N sc fo X) {e : Expr} {fa : Ef D} (hm : mg "sorted" = none) (hg : glb sc "sorted" = true) (ha : PE X e (tB L W fa)) (hp : plainArgs [e] = true) : PE X (.Call (.Name "sorted" p) [e] [] pos) (tF L W (fOne opSorted fa)) := by
  obtain ⟨g1, g2, g3⟩ := gl_of c hg
  exact (pe_callB (so_sorted c.K c.rm) g1 (by rw [c.mg]; exact hm) (by decide +kernel) (pa_cons ha pa_nil (star_cons hp)) g3 g2 (star_cons hp) (star_none (plain_tail hp))).to fun _ _ _ h => to_call1F h

end
end PyD

/-! PyD: the words for calls, classes, comprehensions. -/
namespace PyD
open PySem PySem.Spec L2
section
variable {L : Lk} {P : Program} {w : World} {mg : Str → Option Value} {base : Heap} {k j : Nat} {N : List Str} {sc : Scope} {fo : Str → Bool} {X : Cx} {W : WX} {pos p p2 apos : Pos}
theorem Df.at (c : Cc L P w mg base k N sc fo X) {f : Addr} {n : Nat} {cl : Cl} (d : Df L P w mg base k f n cl) : ∃ fd ps, FnOk X.prog X.w X.K X.mg X.base (L2.CX X.prog X.w) k f fd ps (spD L n cl) ∧ Binds X.K fd ps [] := by
  rw [c.pr, c.wd, c.K, c.mg, c.bs]
  exact d.ex
theorem x_call (c : Cc L P w mg base k N sc fo X) (tk : Takes X W) {x : Str} {e : Expr} {es : List Expr} {fl : Ef (List D)} {f : Addr} {n : Nat} {cl : Cl} (d : Df L P w mg base j f n cl) (hj : j ≤ k) (hm : mg x = some (.ref f)) (hk : PySem.W.keepIn L.K (.ref f) = true) (hg : glb sc x = true) (ha : PA X (e :: es) (tA L W fl)) (hp : plainArgs (e :: es) = true) :
    PE X (.Call (.Name x p) (e :: es) [] pos) (tO L W (fCall n cl fl)) := by
  obtain ⟨fd, ps, F, hb⟩ := (d.mono hj).at c
  obtain ⟨g1, g2, g3⟩ := gl_of c hg
  exact to_call F c.rm hb tk g1 (by rw [c.mg]; exact hm) (by rw [c.K]; exact hk) g2 ha hp
theorem x_call0 (c : Cc L P w mg base k N sc fo X) (tk : Takes X W) {x : Str} {f : Addr} {n : Nat} {cl : Cl} (d : Df L P w mg base j f n cl) (hj : j ≤ k) (hm : mg x = some (.ref f)) (hk : PySem.W.keepIn L.K (.ref f) = true) (hg : glb sc x = true) :
    PE X (.Call (.Name x p) [] [] pos) (tO L W (fCall n cl fNil)) := by
  obtain ⟨fd, ps, F, hb⟩ := (d.mono hj).at c
  obtain ⟨g1, g2, g3⟩ := gl_of c hg
  exact to_call0 F c.rm hb tk g1 (by rw [c.mg]; exact hm) (by rw [c.K]; exact hk) g2
/-! ### classes -/
/-- a class's facts: its attributes -/
structure Ck (L : Lk) (c0 : Nat) (fs : List Str) : Prop where
  cl : Cls L.K (L.cA c0)
  fl : L.flds c0 = fs
  nd : fs.Nodup
  na : ∀ x ∈ fs, NoAttr L.K (L.cA c0) x
def noC {α : Type} : Nat → Option α := fun _ => none
def adC {α : Type} (c0 : Nat) (a : α) (r : Nat → Option α) : Nat → Option α := fun i => if i = c0 then some a else r i
def AtP (L : Lk) (x : Str) (a : Nat → Option Nat) : Prop := ∀ c i, a c = some i → (L.flds c)[i]? = some x ∧ (L.flds c).Nodup ∧ Cls L.K (L.cA c) ∧ NoAttr L.K (L.cA c) x
theorem at_no {x : Str} : AtP L x noC := fun _ _ h => nomatch h
theorem at_ad {x : Str} {c0 i0 : Nat} {fs : List Str} {a : Nat → Option Nat} (ck : Ck L c0 fs) (hi : fs[i0]? = some x) (h : AtP L x a) : AtP L x (adC c0 i0 a) := fun c i e => by
  unfold adC at e
  split at e
  · rename_i z
    cases e
    subst z
    rw [ck.fl]
    exact ⟨hi, ck.nd, ck.cl, ck.na x (List.mem_of_getElem? hi)⟩
  · exact h c i e
theorem x_fld (c : Cc L P w mg base k N sc fo X) {e : Expr} {x : Str} {a : Nat → Option Nat} {fa : Ef D} (hA : AtP L x a) (ha : PE X e (tB L W fa)) (hb : notSuper e = true) : PE X (.Attribute e x pos) (tO L W (fFld a fa)) :=
  to_fld ⟨by rw [c.K]; exact hA⟩ ha (base_of hb)
def MtP (L : Lk) (P : Program) (w : World) (mg : Str → Option Value) (base : Heap) (k : Nat) (m : Str) (mt : Nat → Option (Nat × Cl)) : Prop := ∀ c n cl, mt c = some (n, cl) → ∃ f, Cls L.K (L.cA c) ∧ Meth L.K (L.cA c) m f ∧ m ∉ L.flds c ∧ Df L P w mg base k f n cl
theorem mt_no {m : Str} : MtP L P w mg base k m noC := fun _ _ _ h => nomatch h
theorem mt_ad {m : Str} {c0 n : Nat} {cl : Cl} {fs : List Str} {f : Addr} {mt : Nat → Option (Nat × Cl)} (ck : Ck L c0 fs) (hm : Meth L.K (L.cA c0) m f) (hf : m ∉ fs) (d : Df L P w mg base j f n cl) (hj : j ≤ k) (h : MtP L P w mg base k m mt) : MtP L P w mg base k m (adC c0 (n, cl) mt) := fun c n' cl' e => by
  unfold adC at e
  split at e
  · rename_i z
    cases e
    subst z
    exact ⟨f, ck.cl, hm, by rw [ck.fl]; exact hf, d.mono hj⟩
  · exact h c n' cl' e
theorem MtP.ok (c : Cc L P w mg base k N sc fo X) {m : Str} {mt : Nat → Option (Nat × Cl)} (h : MtP L P w mg base k m mt) : MtOk L X k m mt := ⟨fun c0 n cl e => by
  obtain ⟨f, h1, h2, h3, d⟩ := h c0 n cl e
  obtain ⟨fd, ps, F, hb⟩ := d.at c
  exact ⟨f, fd, ps, by rw [c.K]; exact h1, by rw [c.K]; exact h2, h3, F, hb⟩⟩
theorem x_meth (c : Cc L P w mg base k N sc fo X) (tk : Takes X W) {o e : Expr} {m : Str} {es : List Expr} {fa : Ef D} {fl : Ef (List D)} {mt : Nat → Option (Nat × Cl)} (hM : MtP L P w mg base k m mt) (ho : PE X o (tO L W fa)) (ha : PA X (e :: es) (tA L W fl))
    (h1 : notSuper o = true) (hp : plainArgs (e :: es) = true) (hn : (e :: es).length < 30) (hl : (apos.endLine == pos.line) = true) : PE X (.Call (.Attribute o m apos) (e :: es) [] pos) (tO L W (fMeth mt fa fl)) := to_meth (hM.ok c) c.rm tk ho ha h1 hp hn hl
theorem x_meth0 (c : Cc L P w mg base k N sc fo X) (tk : Takes X W) {o : Expr} {m : Str} {fa : Ef D} {mt : Nat → Option (Nat × Cl)} (hM : MtP L P w mg base k m mt) (ho : PE X o (tO L W fa))
    (h1 : notSuper o = true) (hl : (apos.endLine == pos.line) = true) : PE X (.Call (.Attribute o m apos) [] [] pos) (tO L W (fMeth mt fa fNil)) := to_meth0 (hM.ok c) c.rm tk ho h1 hl
/-- making an instance -/
theorem x_make (c : Cc L P w mg base k N sc fo X) (tk : Takes X W) {x : Str} {e : Expr} {es : List Expr} {fl : Ef (List D)} {f : Addr} {n cn : Nat} {cl : Cl} (M : Mk L.K (L.cA cn) f) (d : Di L P w mg base j f n cn cl) (hj : j < k) (hc : ∀ ds S d S', cl ds S = .ok d S' → ∃ fs, d = .ins cn fs)
    (hm : mg x = some (.ref (L.cA cn))) (hg : glb sc x = true) (ha : PA X (e :: es) (tA L W fl)) (hp : plainArgs (e :: es) = true) : PE X (.Call (.Name x p) (e :: es) [] pos) (tO L W (fMake n cl fl)) := by
  obtain ⟨g1, g2, g3⟩ := gl_of c hg
  obtain ⟨fd, ps, F, hb⟩ := d.ex
  have F' : FnOk X.prog X.w X.K X.mg X.base (L2.CX X.prog X.w) j f fd ps (spI L n cn cl) := by rw [c.pr, c.wd, c.K, c.mg, c.bs]; exact F
  exact to_make rfl (by rw [c.K]; exact M) F' (c.rm.mono hj) (by rw [c.K]; exact hb) tk hc g1 (by rw [c.mg]; exact hm) g2 ha hp
/-! ### truth -/
def TmP (L : Lk) (P : Program) (w : World) (mg : Str → Option Value) (base : Heap) (k : Nat) (tm : Nat → Option Cl) : Prop := ∀ c cl, tm c = some cl → ∃ f, PySem.W.findIn L.K (.ref (L.cA c)) "__bool__" = some (some (.ref f)) ∧ PySem.W.isFn L.K (.ref f) = true ∧ Df L P w mg base k f 1 cl
theorem tm_no : TmP L P w mg base k noC := fun _ _ h => nomatch h
theorem tm_ad {c0 : Nat} {cl : Cl} {f : Addr} {tm : Nat → Option Cl} (h1 : PySem.W.findIn L.K (.ref (L.cA c0)) "__bool__" = some (some (.ref f))) (h2 : PySem.W.isFn L.K (.ref f) = true) (d : Df L P w mg base j f 1 cl) (hj : j ≤ k) (h : TmP L P w mg base k tm) : TmP L P w mg base k (adC c0 cl tm) := fun c cl' e => by
  unfold adC at e
  split at e
  · rename_i z
    cases e
    subst z
    exact ⟨f, h1, h2, d.mono hj⟩
  · exact h c cl' e
theorem TmP.ok (c : Cc L P w mg base k N sc fo X) {tm : Nat → Option Cl} (hj : j ≤ k) (h : TmP L P w mg base j tm) : TmOk L X j tm := ⟨fun c0 cl e => by
  obtain ⟨f, h1, h2, d⟩ := h c0 cl e
  obtain ⟨fd, ps, F, hb⟩ := d.ex
  exact ⟨f, fd, ps, by rw [c.K]; exact h1, by rw [c.K]; exact h2, by rw [c.pr, c.wd, c.K, c.mg, c.bs]; exact F, by rw [c.K]; exact hb⟩⟩
theorem t_tru (c : Cc L P w mg base k N sc fo X) (tk : Takes X W) {e : Expr} {tm : Nat → Option Cl} {fa : Ef D} (hT : TmP L P w mg base j tm) (hj : j ≤ k) (h : plainTest e = true) (ha : PE X e (tO L W fa)) : PT X e (tT L W (fTru tm fa)) :=
  to_tru c.K (c.rm.mono hj) tk (hT.ok c hj) h ha
theorem t_not {a : Expr} {f : Ef Bool} (ha : PT X a (tT L W f)) : PT X (.UnaryOp .Not a pos) (tT L W (fNotT f)) := to_notT ha
theorem w_and {a b : Expr} {rest : List Expr} {f g : Ef Bool} (ha : PT X a (tT L W f)) (hb : PW X (.BoolOp .And (b :: rest) pos) (tT L W g)) : PW X (.BoolOp .And (a :: b :: rest) pos) (tT L W (fAndT f g)) := to_andT ha hb
theorem w_or {a b : Expr} {rest : List Expr} {f g : Ef Bool} (ha : PT X a (tT L W f)) (hb : PW X (.BoolOp .Or (b :: rest) pos) (tT L W g)) : PW X (.BoolOp .Or (a :: b :: rest) pos) (tT L W (fOrT f g)) := to_orT ha hb
theorem v_one {op : BoolOp} {a : Expr} {t : TE} (ha : PE X a t) : PE X (.BoolOp op [a] pos) t := pe_one ha
theorem x_any (c : Cc L P w mg base k N sc fo X) {e : Expr} {fa : Ef D} {tm : Nat → Option Cl} (hT : TmP L P w mg base j tm) (hj : j + 2 ≤ k) (hm : mg "any" = none) (hg : glb sc "any" = true) (ha : PE X e (tB L W fa)) (hp : plainArgs [e] = true) : PE X (.Call (.Name "any" p) [e] [] pos) (tO L W (fOne (opAnyT tm) fa)) := by
  obtain ⟨g1, g2, g3⟩ := gl_of c hg
  exact (pe_callB (so_anyT c.K c.calm (c.rm.mono hj) (hT.ok c (by omega))) g1 (by rw [c.mg]; exact hm) (by decide +kernel) (pa_cons ha pa_nil (star_cons hp)) g3 g2 (star_cons hp) (star_none (plain_tail hp))).to fun _ _ _ h => to_call1 h
theorem x_all (c : Cc L P w mg base k N sc fo X) {e : Expr} {fa : Ef D} {tm : Nat → Option Cl} (hT : TmP L P w mg base j tm) (hj : j + 2 ≤ k) (hm : mg "all" = none) (hg : glb sc "all" = true) (ha : PE X e (tB L W fa)) (hp : plainArgs [e] = true) : PE X (.Call (.Name "all" p) [e] [] pos) (tO L W (fOne (opAllT tm) fa)) := by
  obtain ⟨g1, g2, g3⟩ := gl_of c hg
  exact (pe_callB (so_allT c.K c.calm (c.rm.mono hj) (hT.ok c (by omega))) g1 (by rw [c.mg]; exact hm) (by decide +kernel) (pa_cons ha pa_nil (star_cons hp)) g3 g2 (star_cons hp) (star_none (plain_tail hp))).to fun _ _ _ h => to_call1 h
theorem x_bool (c : Cc L P w mg base k N sc fo X) {e : Expr} {fa : Ef D} {tm : Nat → Option Cl} (hT : TmP L P w mg base j tm) (hj : j + 2 ≤ k) (hm : mg "bool" = none) (hg : glb sc "bool" = true) (ha : PE X e (tO L W fa)) (hp : plainArgs [e] = true) : PE X (.Call (.Name "bool" p) [e] [] pos) (tO L W (fOne (opBool tm) fa)) := by
  obtain ⟨g1, g2, g3⟩ := gl_of c hg
  exact (pe_callTy (cr_bool c.K (c.rm.mono hj) (hT.ok c (by omega))) g1 (by rw [c.mg]; exact hm) (by decide +kernel) (pa_cons ha pa_nil (star_cons hp)) g3 g2 (star_cons hp) (star_none (plain_tail hp))).to fun _ _ _ h => so_bool c.K (c.rm.mono hj) (hT.ok c (by omega)) h
/-! ### one's own == -/
structure EmP (L : Lk) (P : Program) (w : World) (mg : Str → Option Value) (base : Heap) (k nc : Nat) (em : Nat → Option Cl) : Prop where
  look : ∀ c cl, em c = some cl → ∃ f, PySem.W.findIn L.K (.ref (L.cA c)) "__eq__" = some (some (.ref f)) ∧ PySem.W.isFn L.K (.ref f) = true ∧ Df L P w mg base k f 2 cl
  ne : ∀ c cl, em c = some cl → PySem.W.findIn L.K (.ref (L.cA c)) "__ne__" = some (some (.builtin "object.__ne__")) ∧ PySem.W.mroIn L.K (L.cA c) (.type "object") = some true
  nf : ∀ c c' cl cl', em c = some cl → em c' = some cl' → PySem.W.notFirst L.K (L.cA c) (.ref (L.cA c')) = true
  refl : ∀ c cl fs S d S', em c = some cl → cl [.ins c fs, .ins c fs] S = .ok d S' → d = .bl true ∧ S' = S
  inj : ∀ c c', c < nc → c' < nc → L.cA c = L.cA c' → c = c'
theorem EmP.ok (c : Cc L P w mg base k N sc fo X) {em : Nat → Option Cl} {nc : Nat} (h : EmP L P w mg base j nc em) : EmOk L X j nc em := ⟨fun c0 cl e => by
  obtain ⟨f, h1, h2, d⟩ := h.look c0 cl e
  obtain ⟨fd, ps, F, hb⟩ := d.ex
  exact ⟨f, fd, ps, by rw [c.K]; exact h1, by rw [c.K]; exact h2, by rw [c.pr, c.wd, c.K, c.mg, c.bs]; exact F, by rw [c.K]; exact hb⟩,
  by rw [c.K]; exact h.ne, by rw [c.K]; exact h.nf, h.refl, h.inj⟩
theorem x_eqM (c : Cc L P w mg base k N sc fo X) {a b : Expr} {f g : Ef D} {em : Nat → Option Cl} {nc : Nat} (hE : EmP L P w mg base j nc em) (hj : j + 1 ≤ k) (ha : PE X a (tO L W f)) (hb : PE X b (tO L W g)) (hm : behindInMarks .Eq b = false) : PE X (.Compare a [.Eq] [b] pos) (tO L W (fTwo (opEqM em nc) f g)) := to_cmpR (so_eqM c.K (c.rm.mono hj) (hE.ok c)) ha hb hm
theorem t_eqM (c : Cc L P w mg base k N sc fo X) {a b : Expr} {f g : Ef D} {em : Nat → Option Cl} {nc : Nat} (hE : EmP L P w mg base j nc em) (hj : j + 1 ≤ k) (ha : PE X a (tO L W f)) (hb : PE X b (tO L W g)) (hm : behindInMarks .Eq b = false) : PT X (.Compare a [.Eq] [b] pos) (tT L W (fBl (fTwo (opEqM em nc) f g))) := to_cmpRT (so_eqM c.K (c.rm.mono hj) (hE.ok c)) ha hb hm
theorem x_neM (c : Cc L P w mg base k N sc fo X) {a b : Expr} {f g : Ef D} {em : Nat → Option Cl} {nc : Nat} (hE : EmP L P w mg base j nc em) (hj : j + 1 ≤ k) (ha : PE X a (tO L W f)) (hb : PE X b (tO L W g)) (hm : behindInMarks .NotEq b = false) : PE X (.Compare a [.NotEq] [b] pos) (tO L W (fTwo (opNeM em nc) f g)) := to_cmpR (so_neM c.K (c.rm.mono hj) (hE.ok c)) ha hb hm
theorem t_neM (c : Cc L P w mg base k N sc fo X) {a b : Expr} {f g : Ef D} {em : Nat → Option Cl} {nc : Nat} (hE : EmP L P w mg base j nc em) (hj : j + 1 ≤ k) (ha : PE X a (tO L W f)) (hb : PE X b (tO L W g)) (hm : behindInMarks .NotEq b = false) : PT X (.Compare a [.NotEq] [b] pos) (tT L W (fBl (fTwo (opNeM em nc) f g))) := to_cmpRT (so_neM c.K (c.rm.mono hj) (hE.ok c)) ha hb hm
theorem x_inM (c : Cc L P w mg base k N sc fo X) {a b : Expr} {f g : Ef D} {em : Nat → Option Cl} {nc : Nat} (hE : EmP L P w mg base j nc em) (hj : j + 1 ≤ k) (ha : PE X a (tO L W f)) (hb : PE X b (tO L W g)) (hm : behindInMarks .In b = false) : PE X (.Compare a [.In] [b] pos) (tO L W (fTwo (opInM em nc) f g)) := to_cmpR (so_inM c.K (c.rm.mono hj) (hE.ok c)) ha hb hm
theorem t_inM (c : Cc L P w mg base k N sc fo X) {a b : Expr} {f g : Ef D} {em : Nat → Option Cl} {nc : Nat} (hE : EmP L P w mg base j nc em) (hj : j + 1 ≤ k) (ha : PE X a (tO L W f)) (hb : PE X b (tO L W g)) (hm : behindInMarks .In b = false) : PT X (.Compare a [.In] [b] pos) (tT L W (fBl (fTwo (opInM em nc) f g))) := to_cmpRT (so_inM c.K (c.rm.mono hj) (hE.ok c)) ha hb hm
theorem x_notInM (c : Cc L P w mg base k N sc fo X) {a b : Expr} {f g : Ef D} {em : Nat → Option Cl} {nc : Nat} (hE : EmP L P w mg base j nc em) (hj : j + 1 ≤ k) (ha : PE X a (tO L W f)) (hb : PE X b (tO L W g)) (hm : behindInMarks .NotIn b = false) : PE X (.Compare a [.NotIn] [b] pos) (tO L W (fTwo (opNotInM em nc) f g)) := to_cmpR (so_notInM c.K (c.rm.mono hj) (hE.ok c)) ha hb hm
theorem t_notInM (c : Cc L P w mg base k N sc fo X) {a b : Expr} {f g : Ef D} {em : Nat → Option Cl} {nc : Nat} (hE : EmP L P w mg base j nc em) (hj : j + 1 ≤ k) (ha : PE X a (tO L W f)) (hb : PE X b (tO L W g)) (hm : behindInMarks .NotIn b = false) : PT X (.Compare a [.NotIn] [b] pos) (tT L W (fBl (fTwo (opNotInM em nc) f g))) := to_cmpRT (so_notInM c.K (c.rm.mono hj) (hE.ok c)) ha hb hm

/-! ### isinstance -/
/-- a class written in the text -/
structure Nc (mg : Str → Option Value) (x : Str) (c : V) (u : Value) : Prop where
  cv : ClsV c u
  at_ : mg x = some u ∨ (mg x = none ∧ bootBuiltins x = some u)
theorem x_cls (c : Cc L P w mg base k N sc fo X) {x : Str} {v : V} {u : Value} (h : Nc mg x v u) (hg : glb sc x = true) : PE X (.Name x p) (tC v) := by
  obtain ⟨g1, g2, g3⟩ := gl_of c hg
  have r : RelV v u := by
    cases h.cv with
    | ty n => rfl
    | own C => rfl
  rcases h.at_ with e | ⟨e, e2⟩
  · exact pe_glob g1 (by rw [c.mg]; exact e) r g2
  · exact pe_bltn g1 (by rw [c.mg]; exact e) e2 r g3 g2
theorem x_isi (c : Cc L P w mg base k N sc fo X) {a b : Expr} {fa : Ef D} {r : Kd → Option Bool} {v : V} {u : Value} (hb : PE X b (tC v)) (hc : ClsV v u) (ok : IsiOk L L.K [u] r) (hm : mg "isinstance" = none) (hg : glb sc "isinstance" = true) (ha : PE X a (tB L W fa)) (hp : plainArgs [a, b] = true) :
    PE X (.Call (.Name "isinstance" p) [a, b] [] pos) (tO L W (fOne (opIsi r) fa)) := by
  obtain ⟨g1, g2, g3⟩ := gl_of c hg
  exact (pe_callB call_isi g1 (by rw [c.mg]; exact hm) (by decide +kernel) (pa_cons ha (pa_cons hb pa_nil (star_cons (plain_tail hp))) (star_cons hp)) g3 g2 (star_cons hp) (star_none (plain_tail hp))).to fun _ _ _ h => to_isi c.K hc (by rw [c.K]; exact ok) h
theorem x_cs0 : PA X [] (tCs []) := pa_nil
theorem x_csA {a : Expr} {as : List Expr} {v : V} {vs : List V} (ha : PE X a (tC v)) (hr : PA X as (tCs vs)) (hp : plainArgs [a] = true) : PA X (a :: as) (tCs (v :: vs)) := pa_cons ha hr (by cases a <;> first | rfl | exact absurd hp (by simp [plainArgs]))
theorem x_isiT (c : Cc L P w mg base k N sc fo X) {a : Expr} {es : List Expr} {x1 : _} {fa : Ef D} {r : Kd → Option Bool} {vs : List V} {us : List Value} (hb : PA X es (tCs vs)) (hc : Paired ClsV vs us) (hz : vs.length ≤ 100) (ok : IsiOk L L.K us r) (hm : mg "isinstance" = none) (hg : glb sc "isinstance" = true) (ha : PE X a (tB L W fa)) (hp : plainArgs [a] = true) :
    PE X (.Call (.Name "isinstance" p) [a, .Tuple es x1 p2] [] pos) (tO L W (fOne (opIsi r) fa)) := by
  obtain ⟨g1, g2, g3⟩ := gl_of c hg
  have hp2 : plainArgs [a, .Tuple es x1 p2] = true := by cases a <;> first | rfl | exact absurd hp (by simp [plainArgs])
  exact (pe_callB call_isiT g1 (by rw [c.mg]; exact hm) (by decide +kernel) (pa_cons ha (pa_cons (pe_tup hb) pa_nil (star_cons (plain_tail hp2))) (star_cons hp2)) g3 g2 (star_cons hp2) (star_none (plain_tail hp2))).to fun _ _ _ h => to_isiT c.K hc hz (by rw [c.K]; exact ok) h
/-! ### what is walked -/
theorem i_seq (c : Cc L P w mg base k N sc fo X) {tg l : Expr} {fa : Ef D} (hl : PE X l (tO L W fa)) : PI X tg l (tIG L W (fItemsG fa)) := to_itemsG c.K hl
theorem i_look (c : Cc L P w mg base k N sc fo X) {tg l : Expr} {fa : Ef D} (hl : PE X l (tB L W fa)) : PI X tg l (tI L W (fItemsG fa)) := to_items c.K hl
theorem i_rng (c : Cc L P w mg base k N sc fo X) {tg a : Expr} {fa : Ef D} (hm : mg "range" = none) (hg : glb sc "range" = true) (ha : PE X a (tO L W fa)) (hp : plainArgs [a] = true) : PI X tg (.Call (.Name "range" p) [a] [] pos) (tIG L W (fRng1 fa)) := to_rng1 (gl_of c hg).1 (by rw [c.mg]; exact hm) ha hp
theorem i_rng2 (c : Cc L P w mg base k N sc fo X) {tg a b : Expr} {fa fb : Ef D} (hm : mg "range" = none) (hg : glb sc "range" = true) (ha : PE X a (tO L W fa)) (hb : PE X b (tO L W fb)) (hp : plainArgs [a, b] = true) : PI X tg (.Call (.Name "range" p) [a, b] [] pos) (tIG L W (fRng2 fa fb)) := to_rng2 (gl_of c hg).1 (by rw [c.mg]; exact hm) ha hb hp
theorem i_enum (c : Cc L P w mg base k N sc fo X) {a : Expr} {elts : List Expr} {kk : Nat} {fa : Ef D} (hm : mg "enumerate" = none) (hg : glb sc "enumerate" = true) (ha : PE X a (tO L W fa)) (hp : plainArgs [a] = true) : PI X (.Tuple elts kk p2) (.Call (.Name "enumerate" p) [a] [] pos) (tIG L W (fEnum fa)) := to_enum c.K (gl_of c hg).1 (by rw [c.mg]; exact hm) ha hp
theorem i_C {tg l : Expr} {f : Ef (List D)} (h : PI X tg l (tIG L W f)) : PI X tg l (tI L W f) := h.to fun _ _ _ h => tI_tIG h
theorem x_rgL (c : Cc L P w mg base k N sc fo X) {a : Expr} {fa : Ef D} {pos2 : Pos} (hm : mg "list" = none) (hg : glb sc "list" = true) (hm2 : mg "range" = none) (hg2 : glb sc "range" = true) (ha : PE X a (tO L W fa)) (hp : plainArgs [a] = true) : PE X (.Call (.Name "list" p) [.Call (.Name "range" p2) [a] [] pos2] [] pos) (tF L W (fRgL fa)) :=
  to_rgL c.calm (gl_of c hg).1 (by rw [c.mg]; exact hm) (gl_of c hg2).1 (by rw [c.mg]; exact hm2) ha hp
theorem x_rgT (c : Cc L P w mg base k N sc fo X) {a : Expr} {fa : Ef D} {pos2 : Pos} (hm : mg "tuple" = none) (hg : glb sc "tuple" = true) (hm2 : mg "range" = none) (hg2 : glb sc "range" = true) (ha : PE X a (tO L W fa)) (hp : plainArgs [a] = true) : PE X (.Call (.Name "tuple" p) [.Call (.Name "range" p2) [a] [] pos2] [] pos) (tO L W (fRgT fa)) :=
  to_rgT c.calm (gl_of c hg).1 (by rw [c.mg]; exact hm) (gl_of c hg2).1 (by rw [c.mg]; exact hm2) ha hp
/-! ### targets -/
theorem g_one (c : Cc L P w mg base k N sc fo X) {i : Nat} {x : Str} (hi : N[i]? = some x) (hx : locB sc x = true) (hf : fo x = true) : PG X (.Name x pos) (gOf L.K (.one i)) := pg_name c.nd (by rw [c.N]; exact hi) (by rw [c.sc]; exact loc_of hx) (c.fo x hf)
theorem g_nil : PGs X [] (([] : List Nat).foldr (fun j t => gCons (gName j) t) gNil) := pgs_nil
theorem g_cons (c : Cc L P w mg base k N sc fo X) {i : Nat} {js : List Nat} {x : Str} {es : List Expr} (hi : N[i]? = some x) (hx : locB sc x = true) (hf : fo x = true) (h : PGs X es (js.foldr (fun j t => gCons (gName j) t) gNil)) : PGs X (.Name x pos :: es) ((i :: js).foldr (fun j t => gCons (gName j) t) gNil) := pgs_cons (g_one c hi hx hf) h
theorem g_many (c : Cc L P w mg base k N sc fo X) {es : List Expr} {kk : Nat} {js : List Nat} (h : PGs X es (js.foldr (fun j t => gCons (gName j) t) gNil)) (hn : (assignEach es X.env).length = js.length) (hst : (assignEach es X.env).findIdx? (·.1) = none) : PG X (.Tuple es kk pos) (gOf L.K (.many js)) := by
  have z := pg_tup (pos := pos) (k := kk) c.calm h hn hst
  rw [c.K] at z
  exact z
/-! ### comprehensions -/
def fYes : Ef Bool := fun _ S => .ok true S
theorem f_no : PTs X [] (tT L W fYes) := ⟨fun pins s σ H Q I h => pts_nil.run pins s σ H Q I (by
  obtain ⟨μ, S, G, ρ, π, st, rel, p⟩ := h
  exact p μ G H (.refl _ _ _) st)⟩
theorem f_one {e : Expr} {f : Ef Bool} (h : PT X e (tT L W f)) : PTs X [e] (tT L W f) := pts_one h
/-- the block of a comprehension -/
theorem Cc.blk (c : Cc L P w mg base k N sc fo X) {scope : Scope} (s : Shared) (H : Hp) (C : Addr) (cl : List (Str × Addr)) (fp : List Addr) : Cc L P w mg base k N (relS scope sc) (locB scope) (X.blk s H scope (compEnvC scope cl C X.env) fp) :=
  ⟨c.pr, c.wd, c.K, c.mg, c.bs, c.N, by rw [← c.sc]; rfl, c.calm, fun x h => (by
    unfold locB at h
    split at h
    · rename_i e
      exact .inr (lookup_relS_keep (sc := X.env.scope) (k := .local) (by decide) e)
    · rename_i e
      exact .inl (by show (scope.names.lookup x == some NameKind.cell) = true; rw [e]; rfl)
    · exact Bool.noConfusion h), c.rm, c.nd⟩
theorem x_lc (c : Cc L P w mg base k N sc fo X) {elt tg iter : Expr} {ifs : List Expr} {scope : Scope} {own : List (Str × Nat)} {T : Tg} {fi : Ef (List D)} {fc : Ef Bool} {fe : Ef D} (hi : PI X tg iter (tI L W fi)) (ok : blkC N sc scope own = true) (hv : ∀ i ∈ tgSlots T, i ∈ own.map (·.2))
    (hb : ∀ X', Cc L P w mg base k N (relS scope sc) (locB scope) X' → PG X' tg (gOf L.K T) ∧ PTs X' ifs (tT L WF fc) ∧ PE X' elt (tO L WF fe)) (hs : ∀ x, foldedSetIterable iter X.env x = pure x) :
    PE X (.ListComp elt [⟨tg, iter, ifs, 0⟩] scope pos) (tF L W (fLc T (own.map (·.2)) fi fc fe)) :=
  (pe_lc c.calm c.nd hi (by rw [c.N, c.sc]; exact blkOk_by ok) (fun s H C cl fp => (hb _ (c.blk s H C cl fp)).1) (fun s H C cl fp => (hb _ (c.blk s H C cl fp)).2.1) (fun s H C cl fp => (hb _ (c.blk s H C cl fp)).2.2) hs).to fun _ _ _ h => to_lc rfl hv h
theorem x_lc2 (c : Cc L P w mg base k N sc fo X) {elt tg iter tg1 iter1 : Expr} {ifs ifs1 : List Expr} {scope : Scope} {own : List (Str × Nat)} {vs1 : List Nat} {T T1 : Tg} {fi fi1 : Ef (List D)} {fc fc1 : Ef Bool} {fe : Ef D} (hi : PI X tg iter (tI L W fi)) (ok : blkC N sc scope own = true) (hv : ∀ i ∈ tgSlots T, i ∈ own.map (·.2)) (hv1 : ∀ i ∈ tgSlots T1, i ∈ vs1) (hw : ∀ i ∈ vs1, i ∈ own.map (·.2))
    (hb : ∀ X', Cc L P w mg base k N (relS scope sc) (locB scope) X' → PG X' tg (gOf L.K T) ∧ PTs X' ifs (tT L WF fc) ∧ PI X' tg1 iter1 (tIG L WF fi1) ∧ PG X' tg1 (gOf L.K T1) ∧ PTs X' ifs1 (tT L WF fc1) ∧ PE X' elt (tO L WF fe)) (hs : ∀ x, foldedSetIterable iter X.env x = pure x) (hs1 : ∀ env x, foldedSetIterable iter1 env x = pure x) :
    PE X (.ListComp elt [⟨tg, iter, ifs, 0⟩, ⟨tg1, iter1, ifs1, 0⟩] scope pos) (tF L W (fLc2 T (own.map (·.2)) fi fc vs1 fi1 T1 fc1 fe)) :=
  (pe_lc2 c.calm c.nd hi (by rw [c.N, c.sc]; exact blkOk_by ok) hw (fun s H C cl fp => (hb _ (c.blk s H C cl fp)).1) (fun s H C cl fp => (hb _ (c.blk s H C cl fp)).2.1) (fun s H C cl fp => (hb _ (c.blk s H C cl fp)).2.2.1) (fun s H C cl fp => (hb _ (c.blk s H C cl fp)).2.2.2.1) (fun s H C cl fp => (hb _ (c.blk s H C cl fp)).2.2.2.2.1) (fun s H C cl fp => (hb _ (c.blk s H C cl fp)).2.2.2.2.2) hs hs1).to fun _ _ _ h => to_lc2 rfl hv hv1 h
theorem x_dc (c : Cc L P w mg base k N sc fo X) {kx vx tg iter : Expr} {ifs : List Expr} {scope : Scope} {own : List (Str × Nat)} {T : Tg} {fi : Ef (List D)} {fc : Ef Bool} {fk fv : Ef D} (hi : PI X tg iter (tI L W fi)) (ok : blkC N sc scope own = true) (hv : ∀ i ∈ tgSlots T, i ∈ own.map (·.2))
    (hb : ∀ X', Cc L P w mg base k N (relS scope sc) (locB scope) X' → PG X' tg (gOf L.K T) ∧ PTs X' ifs (tT L WF fc) ∧ PE X' kx (tO L WF fk) ∧ PE X' vx (tO L WF fv)) (hs : ∀ x, foldedSetIterable iter X.env x = pure x) :
    PE X (.DictComp kx vx [⟨tg, iter, ifs, 0⟩] scope pos) (tF L W (fDc T (own.map (·.2)) fi fc fk fv)) :=
  (pe_dc c.calm c.nd hi (by rw [c.N, c.sc]; exact blkOk_by ok) (fun s H C cl fp => (hb _ (c.blk s H C cl fp)).1) (fun s H C cl fp => (hb _ (c.blk s H C cl fp)).2.1) (fun s H C cl fp => (hb _ (c.blk s H C cl fp)).2.2.1) (fun s H C cl fp => (hb _ (c.blk s H C cl fp)).2.2.2) hs).to fun _ _ _ h => to_dc rfl hv h
end
end PyD

/-! PyD: the words for statements. -/
namespace PyD
open PySem PySem.Spec L2
/-- an env of that scope -/
def envS (sc : Scope) : Env := { (default : Env) with scope := sc }
section
variable {L : Lk} {P : Program} {w : World} {mg : Str → Option Value} {base : Heap} {k j : Nat} {N : List Str} {sc : Scope} {fo : Str → Bool} {X : Cx} {W : WX} {pos p p2 apos py spos pt : Pos}
theorem s_seq {a : Stmt} {r : List Stmt} {f g : Es} (h1 : PS X a (tS L W f)) (h2 : PSs X r (tS L W g)) : PSs X (a :: r) (tS L W (sSeq f g)) := (pss_cons h1 h2).to fun _ _ _ h => to_seq h
theorem s_one {a : Stmt} {f : Es} (h1 : PS X a (tS L W f)) : PSs X [a] (tS L W f) := pss_one h1
theorem s_end : PSs X [] (tS L W sSkip) := pss_nil.to fun _ _ _ h => to_skip h
theorem s_pass : PS X (.Pass pos) (tS L W sSkip) := ps_pass.to fun _ _ _ h => to_skip h
theorem s_bad {a : Stmt} : PS X a (tS L W sBad) := ps_never.to fun _ _ _ h => to_bad h
theorem s_ret {e : Expr} {f : Ef D} (he : PE X e (tO L W f)) : PS X (.Return (some e) pos) (tS L W (sRet f)) := (ps_ret he).to fun _ _ _ h => to_ret h
theorem s_retN : PS X (.Return none pos) (tS L W sRetN) := ps_retN.to fun _ _ _ h => to_retN h
theorem s_retO (c : Cc L P w mg base k N sc fo X) {i : Nat} {x : Str} (hi : N[i]? = some x) (hv : visB sc x = true) (hd : ndb x = true) : PS X (.Return (some (.Name x p)) pos) (tS L W (sRetO i)) :=
  (ps_ret (pe_var (by rw [c.N]; exact hi) (by rw [c.sc]; exact vis_of hv) (nd_of hd).1 (nd_of hd).2)).to fun _ _ _ h => to_retO h
theorem s_if {e : Expr} {a b : List Stmt} {fc : Ef Bool} {f g : Es} (hc : PT X e (tT L W fc)) (ha : PSs X a (tS L W f)) (hb : PSs X b (tS L W g)) : PS X (.If e a b pos) (tS L W (sIf fc f g)) := (ps_if hc ha hb).to fun _ _ _ h => to_if h
theorem s_drop {e : Expr} {f : Ef D} (he : PE X e (tO L W f)) (hs : swapsWith e none pos.line X.env = pure false) : PS X (.Expr e pos) (tS L W (sDrop f)) := (ps_expr he hs).to fun _ _ _ h => to_drop h
theorem s_for (c : Cc L P w mg base k N sc fo X) (hp : PassesOwn (model X.prog X.w) X.A X.env X.xe) {tg iter : Expr} {body : List Stmt} {T : Tg} {fi : Ef (List D)} {f : Es} (hi : PI X tg iter (tIG L W fi)) (hg : PG X tg (gOf L.K T)) (hb : PSs X body (tS L W f)) (hs : ∀ x, foldedSetIterable iter X.env x = pure x) : PS X (.For tg iter body [] pos) (tS L W (sFor fi T f)) :=
  (ps_for hp c.calm hi hg hb hs).to fun _ _ _ h => to_for rfl h
theorem s_whl (c : Cc L P w mg base k N sc fo X) (hp : PassesOwn (model X.prog X.w) X.A X.env X.xe) (n : Nat) {e : Expr} {body : List Stmt} {fc : Ef Bool} {f : Es} (hc : PT X e (tT L W fc)) (hb : PSs X body (tS L W f)) : PS X (.While e body [] pos) (tS L W (sWhl n fc f)) :=
  (ps_while hp hc hb).to fun _ _ _ h => to_whl (n := n) h
theorem s_brk : PS X (.Break pos) (tS L W sBrk) := ps_break.to fun _ _ _ h => to_brk h
theorem s_cnt : PS X (.Continue pos) (tS L W sCnt) := ps_continue.to fun _ _ _ h => to_cnt h
/-! ### stores -/
theorem n_set (c : Cc L P w mg base k N sc fo X) {i : Nat} {y : Str} {e : Expr} {te : TE} (hi : N[i]? = some y) (hx : locB sc y = true) (hf : fo y = true) (he : PE X e te) (hs : swapsWith e (some (.Name y py)) pos.line X.env = pure false) : PS X (.Assign [.Name y py] e pos) (tAsg te (gName i)) :=
  ps_set c.nd (by rw [c.N]; exact hi) (by rw [c.sc]; exact loc_of hx) he hs (c.fo y hf)
theorem s_asg (c : Cc L P w mg base k N sc fo X) {i : Nat} {y : Str} {e : Expr} {f : Ef D} (hi : N[i]? = some y) (hx : locB sc y = true) (hf : fo y = true) (he : PE X e (tO L W f)) (hs : swapsWith e (some (.Name y py)) pos.line X.env = pure false) : PS X (.Assign [.Name y py] e pos) (tS L W (sAsg i f)) :=
  (n_set c hi hx hf he hs).to fun _ _ _ h => to_asg h
theorem s_own (c : Cc L P w mg base k N sc fo X) {i : Nat} {y : Str} {e : Expr} {f : Ef D} (hi : N[i]? = some y) (hx : locB sc y = true) (hf : fo y = true) (he : PE X e (tF L W f)) (hs : swapsWith e (some (.Name y py)) pos.line X.env = pure false) : PS X (.Assign [.Name y py] e pos) (tS L W (sOwn i f)) :=
  (n_set c hi hx hf he hs).to fun _ _ _ h => to_own h
theorem s_cell (c : Cc L P w mg base k N sc fo X) {i : Nat} {y : Str} {e : Expr} {f : Ef D} (hi : N[i]? = some y) (hx : locB sc y = true) (hf : fo y = true) (he : PE X e (tF L W f)) (hs : swapsWith e (some (.Name y py)) pos.line X.env = pure false) : PS X (.Assign [.Name y py] e pos) (tS L W (sCell i f)) :=
  (n_set c hi hx hf he hs).to fun _ _ _ h => to_cell h
/-- name = a comprehension -/
theorem sw_lc {elt : Expr} {gs : List Comprehension} {scope : Scope} {y : Str} {l : Nat} {env : Env} : swapsWith (.ListComp elt gs scope pos) (some (.Name y py)) l env = pure (env.blockKind == .function && env.kindOf y == some .local && py.line == pos.line && !(scope.names.any fun (n, k) => n == y && (k == .local || k == .cell))) := rfl
theorem sw_dc {a b : Expr} {gs : List Comprehension} {scope : Scope} {y : Str} {l : Nat} {env : Env} : swapsWith (.DictComp a b gs scope pos) (some (.Name y py)) l env = pure (env.blockKind == .function && env.kindOf y == some .local && py.line == pos.line && !(scope.names.any fun (n, k) => n == y && (k == .local || k == .cell))) := rfl
theorem n_lc (c : Cc L P w mg base k N sc fo X) {i : Nat} {y : Str} {elt tg iter : Expr} {ifs : List Expr} {scope : Scope} {own : List (Str × Nat)} {T : Tg} {fi : Ef (List D)} {fc : Ef Bool} {fe : Ef D} (hi : N[i]? = some y) (hx : locB sc y = true) (hf : fo y = true) (hit : PI X tg iter (tI L W fi)) (ok : blkC N sc scope own = true)
    (hb : ∀ X', Cc L P w mg base k N (relS scope sc) (locB scope) X' → PG X' tg (gOf L.K T) ∧ PTs X' ifs (tT L WF fc) ∧ PE X' elt (tO L WF fe)) (hs : ∀ x, foldedSetIterable iter X.env x = pure x) :
    PS X (.Assign [.Name y py] (.ListComp elt [⟨tg, iter, ifs, 0⟩] scope pos) spos) (tAsg (tLc (tI L W fi) (gOf L.K T) (tT L WF fc) (tO L WF fe) (own.map (·.2))) (gName i)) := by
  have z := sw_lc (elt := elt) (gs := [⟨tg, iter, ifs, 0⟩]) (scope := scope) (pos := pos) (y := y) (py := py) (l := spos.line) (env := X.env)
  have okB : BlkOk X.N X.env.scope scope own := by rw [c.N, c.sc]; exact blkOk_by ok
  cases e : (X.env.blockKind == .function && X.env.kindOf y == some .local && py.line == pos.line && !(scope.names.any fun (n, k) => n == y && (k == .local || k == .cell))) with
  | true =>
    rw [e] at z
    simp only [Bool.and_eq_true] at e
    have hyl : X.env.scope.names.lookup y = some .local := beq_iff_eq.mp e.1.1.2
    exact ps_setLc c.calm c.nd (by rw [c.N]; exact hi) hyl z hit okB (fun s H C cl fp => (hb _ (c.blk s H C cl fp)).1) (fun s H C cl fp => (hb _ (c.blk s H C cl fp)).2.1) (fun s H C cl fp => (hb _ (c.blk s H C cl fp)).2.2) hs
  | false =>
    rw [e] at z
    exact n_set c hi hx hf (pe_lc c.calm c.nd hit okB (fun s H C cl fp => (hb _ (c.blk s H C cl fp)).1) (fun s H C cl fp => (hb _ (c.blk s H C cl fp)).2.1) (fun s H C cl fp => (hb _ (c.blk s H C cl fp)).2.2) hs) z
theorem s_lc (c : Cc L P w mg base k N sc fo X) {i : Nat} {y : Str} {elt tg iter : Expr} {ifs : List Expr} {scope : Scope} {own : List (Str × Nat)} {T : Tg} {fi : Ef (List D)} {fc : Ef Bool} {fe : Ef D} (hi : N[i]? = some y) (hx : locB sc y = true) (hf : fo y = true) (hit : PI X tg iter (tI L W fi)) (ok : blkC N sc scope own = true) (hv : ∀ i ∈ tgSlots T, i ∈ own.map (·.2))
    (hb : ∀ X', Cc L P w mg base k N (relS scope sc) (locB scope) X' → PG X' tg (gOf L.K T) ∧ PTs X' ifs (tT L WF fc) ∧ PE X' elt (tO L WF fe)) (hs : ∀ x, foldedSetIterable iter X.env x = pure x) :
    PS X (.Assign [.Name y py] (.ListComp elt [⟨tg, iter, ifs, 0⟩] scope pos) spos) (tS L W (sAsg i (fLc T (own.map (·.2)) fi fc fe))) := (n_lc c hi hx hf hit ok hb hs).to fun _ _ _ h => to_lc rfl hv (to_asgF h)
theorem s_lcO (c : Cc L P w mg base k N sc fo X) {i : Nat} {y : Str} {elt tg iter : Expr} {ifs : List Expr} {scope : Scope} {own : List (Str × Nat)} {T : Tg} {fi : Ef (List D)} {fc : Ef Bool} {fe : Ef D} (hi : N[i]? = some y) (hx : locB sc y = true) (hf : fo y = true) (hit : PI X tg iter (tI L W fi)) (ok : blkC N sc scope own = true) (hv : ∀ i ∈ tgSlots T, i ∈ own.map (·.2))
    (hb : ∀ X', Cc L P w mg base k N (relS scope sc) (locB scope) X' → PG X' tg (gOf L.K T) ∧ PTs X' ifs (tT L WF fc) ∧ PE X' elt (tO L WF fe)) (hs : ∀ x, foldedSetIterable iter X.env x = pure x) :
    PS X (.Assign [.Name y py] (.ListComp elt [⟨tg, iter, ifs, 0⟩] scope pos) spos) (tS L W (sOwn i (fLc T (own.map (·.2)) fi fc fe))) := (n_lc c hi hx hf hit ok hb hs).to fun _ _ _ h => to_lc rfl hv (to_ownF h)
theorem n_lc2 (c : Cc L P w mg base k N sc fo X) {i : Nat} {y : Str} {elt tg iter tg1 iter1 : Expr} {ifs ifs1 : List Expr} {scope : Scope} {own : List (Str × Nat)} {vs1 : List Nat} {T T1 : Tg} {fi fi1 : Ef (List D)} {fc fc1 : Ef Bool} {fe : Ef D} (hi : N[i]? = some y) (hx : locB sc y = true) (hf : fo y = true) (hit : PI X tg iter (tI L W fi)) (ok : blkC N sc scope own = true) (hw : ∀ i ∈ vs1, i ∈ own.map (·.2))
    (hb : ∀ X', Cc L P w mg base k N (relS scope sc) (locB scope) X' → PG X' tg (gOf L.K T) ∧ PTs X' ifs (tT L WF fc) ∧ PI X' tg1 iter1 (tIG L WF fi1) ∧ PG X' tg1 (gOf L.K T1) ∧ PTs X' ifs1 (tT L WF fc1) ∧ PE X' elt (tO L WF fe)) (hs : ∀ x, foldedSetIterable iter X.env x = pure x) (hs1 : ∀ env x, foldedSetIterable iter1 env x = pure x) :
    PS X (.Assign [.Name y py] (.ListComp elt [⟨tg, iter, ifs, 0⟩, ⟨tg1, iter1, ifs1, 0⟩] scope pos) spos) (tAsg (tLc2 (tI L W fi) (gOf L.K T) (tT L WF fc) (tIG L WF fi1) (gOf L.K T1) (tT L WF fc1) (tO L WF fe) (own.map (·.2)) vs1) (gName i)) := by
  have z := sw_lc (elt := elt) (gs := [⟨tg, iter, ifs, 0⟩, ⟨tg1, iter1, ifs1, 0⟩]) (scope := scope) (pos := pos) (y := y) (py := py) (l := spos.line) (env := X.env)
  have okB : BlkOk X.N X.env.scope scope own := by rw [c.N, c.sc]; exact blkOk_by ok
  cases e : (X.env.blockKind == .function && X.env.kindOf y == some .local && py.line == pos.line && !(scope.names.any fun (n, k) => n == y && (k == .local || k == .cell))) with
  | true =>
    rw [e] at z
    simp only [Bool.and_eq_true] at e
    have hyl : X.env.scope.names.lookup y = some .local := beq_iff_eq.mp e.1.1.2
    exact ps_setLc2 c.calm c.nd (by rw [c.N]; exact hi) hyl z hit okB hw (fun s H C cl fp => (hb _ (c.blk s H C cl fp)).1) (fun s H C cl fp => (hb _ (c.blk s H C cl fp)).2.1) (fun s H C cl fp => (hb _ (c.blk s H C cl fp)).2.2.1) (fun s H C cl fp => (hb _ (c.blk s H C cl fp)).2.2.2.1) (fun s H C cl fp => (hb _ (c.blk s H C cl fp)).2.2.2.2.1) (fun s H C cl fp => (hb _ (c.blk s H C cl fp)).2.2.2.2.2) hs hs1
  | false =>
    rw [e] at z
    exact n_set c hi hx hf (pe_lc2 c.calm c.nd hit okB hw (fun s H C cl fp => (hb _ (c.blk s H C cl fp)).1) (fun s H C cl fp => (hb _ (c.blk s H C cl fp)).2.1) (fun s H C cl fp => (hb _ (c.blk s H C cl fp)).2.2.1) (fun s H C cl fp => (hb _ (c.blk s H C cl fp)).2.2.2.1) (fun s H C cl fp => (hb _ (c.blk s H C cl fp)).2.2.2.2.1) (fun s H C cl fp => (hb _ (c.blk s H C cl fp)).2.2.2.2.2) hs hs1) z
theorem s_lc2 (c : Cc L P w mg base k N sc fo X) {i : Nat} {y : Str} {elt tg iter tg1 iter1 : Expr} {ifs ifs1 : List Expr} {scope : Scope} {own : List (Str × Nat)} {vs1 : List Nat} {T T1 : Tg} {fi fi1 : Ef (List D)} {fc fc1 : Ef Bool} {fe : Ef D} (hi : N[i]? = some y) (hx : locB sc y = true) (hf : fo y = true) (hit : PI X tg iter (tI L W fi)) (ok : blkC N sc scope own = true) (hv : ∀ i ∈ tgSlots T, i ∈ own.map (·.2)) (hv1 : ∀ i ∈ tgSlots T1, i ∈ vs1) (hw : ∀ i ∈ vs1, i ∈ own.map (·.2))
    (hb : ∀ X', Cc L P w mg base k N (relS scope sc) (locB scope) X' → PG X' tg (gOf L.K T) ∧ PTs X' ifs (tT L WF fc) ∧ PI X' tg1 iter1 (tIG L WF fi1) ∧ PG X' tg1 (gOf L.K T1) ∧ PTs X' ifs1 (tT L WF fc1) ∧ PE X' elt (tO L WF fe)) (hs : ∀ x, foldedSetIterable iter X.env x = pure x) (hs1 : ∀ env x, foldedSetIterable iter1 env x = pure x) :
    PS X (.Assign [.Name y py] (.ListComp elt [⟨tg, iter, ifs, 0⟩, ⟨tg1, iter1, ifs1, 0⟩] scope pos) spos) (tS L W (sAsg i (fLc2 T (own.map (·.2)) fi fc vs1 fi1 T1 fc1 fe))) := (n_lc2 c hi hx hf hit ok hw hb hs hs1).to fun _ _ _ h => to_lc2 rfl hv hv1 (to_asgF h)
/-- name = a dict comprehension, the name of a cell -/
theorem sw_dcF (c : Cc L P w mg base k N sc fo X) {a b : Expr} {gs : List Comprehension} {scope : Scope} {y : Str} {l : Nat} (h : decide (sc.names.lookup y = some .cell) = true) : swapsWith (.DictComp a b gs scope pos) (some (.Name y py)) l X.env = pure false := by
  rw [sw_dc]
  have e : X.env.kindOf y = some .cell := by unfold Env.kindOf; rw [c.sc]; exact of_decide_eq_true h
  rw [e]
  rw [show (some NameKind.cell == some NameKind.local) = false from rfl, Bool.and_false, Bool.false_and, Bool.false_and]
/-- a, b = e -/
theorem swapped_env {ts : List Expr} {v : Expr} {env : Env} : swappedStores ts v env = swappedStores ts v (envS env.scope) := rfl
theorem s_unp (c : Cc L P w mg base k N sc fo X) {es : List Expr} {kk : Nat} {e : Expr} {js : List Nat} {f : Ef D} (he : PE X e (tO L W f)) (hg : PG X (.Tuple es kk pt) (gOf L.K (.many js))) (hs : swapsWithSole [.Tuple es kk pt] e pos.line X.env = pure false) (hw : swappedStores [.Tuple es kk pt] e (envS sc) = pure none)
    (h1 : (assignEach [.Tuple es kk pt] X.env).map (·.2) = [assign (.Tuple es kk pt) X.env]) : PS X (.Assign [.Tuple es kk pt] e pos) (tS L W (sUnp (.many js) f)) :=
  (ps_asg he hg hs (by rw [swapped_env, c.sc]; exact hw) h1).to fun _ _ _ h => to_unp rfl h
theorem lcl_of {x : Str} (c : Cc L P w mg base k N sc fo X) (h : decide (sc.names.lookup x = some .local) = true) : X.env.scope.names.lookup x = some .local := by rw [c.sc]; exact of_decide_eq_true h
theorem s_par (c : Cc L P w mg base k N sc fo X) {i j : Nat} {x y : Str} {a b : Expr} {px py pt : Pos} {kt k2 pt2} {fl : Ef (List D)} (hi : N[i]? = some x) (hj : N[j]? = some y) (hij : i ≠ j) (hx : decide (sc.names.lookup x = some .local) = true) (hy : decide (sc.names.lookup y = some .local) = true) (ha : PA X [a, b] (tA L W fl))
    (hw : swappedStores [.Tuple [.Name x px, .Name y py] kt pt] (.Tuple [a, b] k2 pt2) (envS sc) = pure (some [x, y])) (hs : swapsWithSole [.Tuple [.Name x px, .Name y py] kt pt] (.Tuple [a, b] k2 pt2) pos.line X.env = pure false) :
    PS X (.Assign [.Tuple [.Name x px, .Name y py] kt pt] (.Tuple [a, b] k2 pt2) pos) (tS L W (sPar i j fl)) :=
  (ps_par c.calm c.nd (by rw [c.N]; exact hi) (by rw [c.N]; exact hj) hij (lcl_of c hx) (lcl_of c hy) ha (by rw [swapped_env, c.sc]; exact hw) hs).to fun _ _ _ h => to_par h
theorem s_par3 (c : Cc L P w mg base k N sc fo X) {i j l : Nat} {x y z : Str} {a b d : Expr} {px py pz pt : Pos} {kt k2 pt2} {fl : Ef (List D)} (hi : N[i]? = some x) (hj : N[j]? = some y) (hl : N[l]? = some z) (hij : i ≠ j) (hil : i ≠ l) (hjl : j ≠ l) (hx : decide (sc.names.lookup x = some .local) = true) (hy : decide (sc.names.lookup y = some .local) = true) (hz : decide (sc.names.lookup z = some .local) = true) (ha : PA X [a, b, d] (tA L W fl))
    (hw : swappedStores [.Tuple [.Name x px, .Name y py, .Name z pz] kt pt] (.Tuple [a, b, d] k2 pt2) (envS sc) = pure (some [x, y, z])) (hs : swapsWithSole [.Tuple [.Name x px, .Name y py, .Name z pz] kt pt] (.Tuple [a, b, d] k2 pt2) pos.line X.env = pure false) :
    PS X (.Assign [.Tuple [.Name x px, .Name y py, .Name z pz] kt pt] (.Tuple [a, b, d] k2 pt2) pos) (tS L W (sPar3 i j l fl)) :=
  (ps_par3 c.calm c.nd (by rw [c.N]; exact hi) (by rw [c.N]; exact hj) (by rw [c.N]; exact hl) hij hil hjl (lcl_of c hx) (lcl_of c hy) (lcl_of c hz) ha (by rw [swapped_env, c.sc]; exact hw) hs).to fun _ _ _ h => to_par3 h
/-! ### changes -/
theorem v_var (c : Cc L P w mg base k N sc fo X) {i : Nat} {x : Str} (hi : N[i]? = some x) (hv : visB sc x = true) (hd : ndb x = true) : PE X (.Name x pos) (tVar i) := pe_var (by rw [c.N]; exact hi) (by rw [c.sc]; exact vis_of hv) (nd_of hd).1 (nd_of hd).2
theorem s_app (c : Cc L P w mg base k N sc fo X) {i : Nat} {x : Str} {a : Expr} {f : Ef D} (hi : N[i]? = some x) (hv : visB sc x = true) (hd : ndb x = true) (ha : PE X a (tO L W f)) (hp : plainArgs [a] = true) (hl : (apos.endLine == p2.line) = true)
    (hfew : ((backTo p2 (starEach [a] X.env)).all (fun x => !x.1) && (backToKw p2 (keywordEach [] X.env)).all (fun x => x.1.isSome) && decide ([a].length + ([] : List Keyword).length + (if ([] : List Keyword).isEmpty then 0 else 1) < 30)) = true) (hs : swapsWith (.Call (.Attribute (.Name x p) "append" apos) [a] [] p2) none pos.line X.env = pure false) :
    PS X (.Expr (.Call (.Attribute (.Name x p) "append" apos) [a] [] p2) pos) (tS L W (sApp i f)) :=
  (ps_expr (pe_bm PySem.F.plainAttrs_list PySem.F.slot_list_append PySem.F.type_list_append mt_append (v_var c hi hv hd) (pa_cons ha pa_nil (star_cons hp)) rfl hfew hl (star_cons hp) (star_none (plain_tail hp))) hs).to fun _ _ _ h => to_app h
theorem s_ext (c : Cc L P w mg base k N sc fo X) {i : Nat} {y : Str} {e : Expr} {f : Ef D} (hi : N[i]? = some y) (hx : locB sc y = true) (hf : fo y = true) (he : PE X e (tO L W f)) : PS X (.AugAssign (.Name y py) .Add e pos) (tS L W (sExt i f)) :=
  (ps_aug c.nd (by rw [c.N]; exact hi) (by rw [c.sc]; exact loc_of hx) he iop_ext3 (c.fo y hf)).to fun _ _ _ h => to_ext c.K h
theorem s_addI (c : Cc L P w mg base k N sc fo X) {i : Nat} {y : Str} {e : Expr} {f : Ef D} (hi : N[i]? = some y) (hx : locB sc y = true) (hf : fo y = true) (he : PE X e (tO L W f)) : PS X (.AugAssign (.Name y py) .Add e pos) (tS L W (sAugI i (fun a b => a + b) f)) :=
  (ps_aug c.nd (by rw [c.N]; exact hi) (by rw [c.sc]; exact loc_of hx) he ip_add (c.fo y hf)).to fun _ _ _ h => to_augI h
theorem s_subI (c : Cc L P w mg base k N sc fo X) {i : Nat} {y : Str} {e : Expr} {f : Ef D} (hi : N[i]? = some y) (hx : locB sc y = true) (hf : fo y = true) (he : PE X e (tO L W f)) : PS X (.AugAssign (.Name y py) .Sub e pos) (tS L W (sAugI i (fun a b => a - b) f)) :=
  (ps_aug c.nd (by rw [c.N]; exact hi) (by rw [c.sc]; exact loc_of hx) he ip_sub (c.fo y hf)).to fun _ _ _ h => to_augI h
/-- xs[n], xs a list -/
def tGetL (K : PySem.W.Frag) : V → V → Hp → VK → Prop := fun x y H Q => ∃ (p : Addr) (xs : List V) (n : Nat) (v : V), x = .ref p ∧ y = .int n ∧ SqL K H p xs ∧ xs[n]? = some v ∧ Q v H
theorem get_l : PGet X (tGetL X.K) := by
  intro pins s σ H o i ov iv Q I ro ri h
  obtain ⟨p, xs, n, v, rfl, rfl, hq, e, q⟩ := h
  cases ro
  obtain ⟨t, rfl⟩ := ri
  obtain ⟨its, r, pl, hz⟩ := I.list hq
  obtain ⟨u, eu, ru⟩ := r.get e
  have hn : n < xs.length := (List.getElem?_eq_some_iff.mp e).1
  have := sizeLine_eq
  exact wpAny_getItem_list pl.isList (by omega) (by omega) (by simpa using eu) ⟨v, H, I, ru, q⟩
theorem s_augC (c : Cc L P w mg base k N sc fo X) {i n : Nat} {m : Int} {x : Str} {j1 j2 : _} {q1 q2 q3 : Pos} (hi : N[i]? = some x) (hv : visB sc x = true) (hd : ndb x = true) : PS X (.AugAssign (.Subscript (.Name x q1) (.Constant (.int (n : Nat)) j1 q2) q3) .Add (.Constant (.int m) j2 p) pos) (tS L W (sAugC i n m)) :=
  (ps_augS (v_var c hi hv hd) pe_int get_l pe_int ip_add set_list (by intros; rfl)).to fun _ _ _ h => to_augC (fun p vs z H Q hp e q => ⟨p, vs, n, z, rfl, rfl, .inl (.inl hp), e, q⟩) h
/-- self.x = e -/
theorem s_fldC (c : Cc L P w mg base k N sc fo X) {i c0 n : Nat} {x y : Str} {e : Expr} {f : Ef D} {fs : List Str} (ck : Ck L c0 fs) (hn : fs[n]? = some x) (hz : fs.length < 1000) (hi : N[i]? = some y) (hv : visB sc y = true) (hd : ndb y = true) (he : PE X e (tO L W f)) (hs : swapsWith e (some (.Attribute (.Name y p) x p2)) pos.line X.env = pure false) :
    PS X (.Assign [.Attribute (.Name y p) x p2] e pos) (tS L W (sFldC i c0 n f)) :=
  (ps_fld (v_var c hi hv hd) he hs).to fun _ _ _ h => to_fldC (by rw [ck.fl]; exact hn) (by rw [ck.fl]; exact ck.nd) (by rw [c.K]; exact ck.cl) (by rw [c.K]; exact ck.na x (List.mem_of_getElem? hn)) (by rw [ck.fl]; exact hz) h
/-! ### a def -/
theorem d_fn {x qual : Str} {sd : Stmt} {f : Addr} {N ps : List Str} {body : Es} (F : ∃ fd, Fun L.K x qual sd f fd ∧ Binds L.K fd ps []) (hS : FnScope N ps (defScope sd))
    (hb : ∀ X, Cc L P w mg base k N (defScope sd) (fun _ => true) X → PassesOwn (model X.prog X.w) X.A X.env X.xe → ∀ W, Takes X W → PSs X (defBody sd) (tS L W body)) : Df L P w mg base (k + 1) f ps.length (runFn ps.length N.length body) := by
  obtain ⟨fd, F, B⟩ := F
  exact ⟨fd, ps, fn_ok F hS fun X e1 e2 e3 e4 e5 e6 e7 e8 e9 hr hp W tk => hb X ⟨e1, e2, e3, e4, e5, e6, e7, e8, fun x _ => .inl (by rw [e9]), hr, by rw [e6]; exact hS.nd⟩ hp W tk, B⟩
theorem d_in {x qual : Str} {sd : Stmt} {f : Addr} {N ps : List Str} {body : Es} {cn : Nat} (F : ∃ fd, Fun L.K x qual sd f fd ∧ Binds L.K fd ps []) (hS : FnScope N ps (defScope sd))
    (hb : ∀ X, Cc L P w mg base k N (defScope sd) (fun _ => true) X → PassesOwn (model X.prog X.w) X.A X.env X.xe → ∀ W, Takes X W → PSs X (defBody sd) (tS L W body)) : Di L P w mg base (k + 1) f ps.length cn (runIn cn ps.length N.length body) := by
  obtain ⟨fd, F, B⟩ := F
  exact ⟨fd, ps, init_ok F hS fun X e1 e2 e3 e4 e5 e6 e7 e8 e9 hr hp W tk => hb X ⟨e1, e2, e3, e4, e5, e6, e7, e8, fun x _ => .inl (by rw [e9]), hr, by rw [e6]; exact hS.nd⟩ hp W tk, B⟩
end
end PyD

/-! PyD: facts of a text, how a law ends. -/
namespace PyD
open PySem PySem.Spec L2
/-- only what makes an instance of class cn -/
def insOnly (cn : Nat) (cl : Cl) : Cl := fun ds S => match cl ds S with
  | .ok (.ins c fs) S' => if c = cn then .ok (.ins c fs) S' else .bad
  | .ok _ _ => .bad
  | .exc c fs S' => .exc c fs S'
  | .bad => .bad
theorem insOnly_ins {cn : Nat} {cl : Cl} : ∀ ds S d S', insOnly cn cl ds S = .ok d S' → ∃ fs, d = .ins cn fs := fun ds S d S' h => by
  unfold insOnly at h
  split at h
  · rename_i c fs S1 e
    split at h
    · rename_i z
      cases h
      exact ⟨fs, by rw [z]⟩
    · cases h
  · cases h
  · cases h
  · cases h
section
variable {L : Lk} {P : Program} {w : World} {mg : Str → Option Value} {base : Heap} {k j : Nat}
theorem Di.ins {f : Addr} {n cn : Nat} {cl : Cl} (d : Di L P w mg base k f n cn cl) : Di L P w mg base k f n cn (insOnly cn cl) := by
  obtain ⟨fd, ps, F, hb⟩ := d.ex
  refine ⟨fd, ps, F.imp fun vs H Q E h => ?_, hb⟩
  obtain ⟨μ, S, G, ds, x, dx, ws, e1, e2, e3, e4, e5, e6, e7, p⟩ := h
  refine ⟨μ, S, G, ds, x, dx, ws, e1, e2, e3, e4, e5, e6, e7, ?_⟩
  unfold insOnly at p
  split at p
  · rename_i c fs S1 e
    rw [e]
    split at p
    · exact p
    · exact p.elim
  · exact p.elim
  · rename_i e
    rw [e]
    exact p
  · exact p.elim
theorem em_one {f : Addr} {cl : Cl} (h1 : PySem.W.findIn L.K (.ref (L.cA 0)) "__eq__" = some (some (.ref f))) (h2 : PySem.W.isFn L.K (.ref f) = true) (h3 : PySem.W.findIn L.K (.ref (L.cA 0)) "__ne__" = some (some (.builtin "object.__ne__"))) (h4 : PySem.W.mroIn L.K (L.cA 0) (.type "object") = some true)
    (h5 : PySem.W.notFirst L.K (L.cA 0) (.ref (L.cA 0)) = true) (h6 : ∀ fs S d S', cl [.ins 0 fs, .ins 0 fs] S = .ok d S' → d = .bl true ∧ S' = S) (dd : Df L P w mg base j f 2 cl) : EmP L P w mg base j 1 (adC 0 cl noC) := by
  have on : ∀ c cl', adC 0 cl noC c = some cl' → c = 0 ∧ cl' = cl := fun c cl' e => by
    unfold adC at e
    split at e
    · rename_i z; cases e; exact ⟨z, rfl⟩
    · cases e
  refine ⟨fun c cl' e => ?_, fun c cl' e => ?_, fun c c' cl1 cl2 e e' => ?_, fun c cl' fs S d S' e => ?_, fun c c' z z' _ => by omega⟩
  · obtain ⟨rfl, rfl⟩ := on c cl' e
    exact ⟨f, h1, h2, dd⟩
  · obtain ⟨rfl, rfl⟩ := on c cl' e
    exact ⟨h3, h4⟩
  · obtain ⟨rfl, rfl⟩ := on c cl1 e
    obtain ⟨rfl, rfl⟩ := on c' cl2 e'
    exact h5
  · obtain ⟨rfl, rfl⟩ := on c cl' e
    exact h6 fs S d S'
/-- a table's facts -/
theorem kd_of {d : Addr} {tab : List (Str × D)} {ks : List Str} (h : He.dicW L.K d = some (He.keysIn w.params ks)) (hv : ∀ z r, tab.lookup z = some r → ∃ u v, PySem.W.nsIn L.K d z = some (some u) ∧ RelV v u ∧ ∀ μ G, R L μ G r v) : KdP L w d tab := by
  obtain ⟨es, n, kd⟩ := He.dicW_ok h
  intro z r e
  obtain ⟨u, v, h1, h2, h3⟩ := hv z r e
  exact ⟨v, ⟨es, n, u, kd.at_, kd.lit, h1, h2⟩, h3⟩
theorem look_mem {tab : List (Str × D)} {z : Str} {r : D} : tab.lookup z = some r → (z, r) ∈ tab := by
  induction tab with
  | nil => intro h; cases h
  | cons p t ih =>
    obtain ⟨a, b⟩ := p
    intro h
    simp only [List.lookup] at h
    split at h
    · rename_i e
      cases h
      rw [beq_iff_eq.mp e]
      exact List.mem_cons_self
    · exact List.mem_cons_of_mem _ (ih h)
end
/-- the law's own def -/
theorem d_law {L : Lk} {P : Program} {w : World} {mg : Str → Option Value} {base : Heap} {k : Nat} {x qual : Str} {sd : Stmt} {f : Addr} {fd : FuncData} {N ps : List Str} {body : Es} (F : Fun L.K x qual sd f fd) (hS : FnScope N ps (defScope sd))
    (hb : ∀ X, Cc L P w mg base k N (defScope sd) (fun _ => true) X → PassesOwn (model X.prog X.w) X.A X.env X.xe → ∀ W, Takes X W → PSs X (defBody sd) (tS L W body)) : FnOk P w L.K mg base (L2.CX P w) (k + 1) f fd ps (spD L ps.length (runFn ps.length N.length body)) :=
  fn_ok F hS fun X e1 e2 e3 e4 e5 e6 e7 e8 e9 hr hp W tk => hb X ⟨e1, e2, e3, e4, e5, e6, e7, e8, fun x _ => .inl (by rw [e9]), hr, by rw [e6]; exact hS.nd⟩ hp W tk
/-- a law keeps itself: its spec from its answer -/
def spLaw (K : PySem.W.Frag) : Sp := fun vs H Q _ => ∃ (a : Addr) (ns : List Int), vs = [.ref a] ∧ SqL K H a (ns.map V.int) ∧ ns.length ≤ 63 ∧ ∀ H', Q (.bl true) H'
theorem law_sp {L : Lk} {P : Program} {w : World} {mg : Str → Option Value} {base : Heap} {k : Nat} {f : Addr} {fd : FuncData} {ps : List Str} {cl : Cl} (F : FnOk P w L.K mg base (L2.CX P w) k f fd ps (spD L 1 cl)) (h : ∀ ns : List Int, ns.length ≤ 63 → cl [.lst (ns.map .int)] [] = .ok (.bl true) []) :
    FnOk P w L.K mg base (L2.CX P w) k f fd ps (spLaw L.K) := F.imp fun vs H Q E hs => by
  obtain ⟨a, ns, rfl, hq, hl, q⟩ := hs
  have rs : ∀ ns : List Int, Rs L [] H (ns.map D.int) (ns.map V.int) := fun ns => by
    induction ns with
    | nil => exact Rs.nil
    | cons n ns ih => exact Rs.cons (by unfold R; rfl) ih
  refine ⟨[], [], H, [.lst (ns.map .int)], ⟨fun _ _ e => e, fun _ _ e => e, rfl, fun i j a e => by simp at e, fun i a d e => by simp at e⟩, Rs.cons ?_ Rs.nil, rfl, ?_⟩
  · unfold R
    exact ⟨a, _, rfl, hq, rs ns⟩
  · rw [h ns hl]
    intro μ' G' H' _ _ u ru
    unfold R at ru
    rw [ru]
    exact q H'
theorem walk {l : PySem.W.OpenLaw} {q : Program} {loose : List Str} {XP : (Str → Option Value) → Heap → Prop} {YP : World → Heap → Prop} {d : DefRec} {K : Params → PySem.W.Frag} {k : Nat} (hn : l.most = some 63) (hdf : d.params.defaults = []) (hr : Room k callerA)
    (hY : ∀ (w : World) (h : Heap), YP w h → (K w.params).In h)
    (F : ∀ (w : World) (mg : Str → Option Value) (fa : Addr) (h : Heap), (K w.params).In h → h.Ns mainGlobals mg → mg d.name = some (.ref fa) →
      ∃ fd : FuncData, (∀ (s : Shared) (u : Value), BindsTo s fd ⟨[u], []⟩ [("script", u)]) ∧ ∀ base : Heap, (K w.params).In base → base.Ns mainGlobals mg → FnOk l.prog w (K w.params) mg base (L2.CX l.prog w) k fa fd ["script"] (spLaw (K w.params))) :
    PySem.W.WalkO q loose XP YP l.row.toRowW d [] (fun f vs => PySem.call f vs) :=
  L2.walk_of (n := 63) (k := k) (x := "script") (CX := fun w => L2.CX l.prog w) (sp := fun w => spLaw (K w.params)) hn (by decide) hdf hr hY F (fun _ _ a ns hl _ hS => ⟨a, ns, rfl, hS, hl, fun _ => rfl⟩) fun _ _ _ _ _ z => by
    first | exact z | (obtain ⟨a, B, H', cls, d, e, _, _, _, _, _, _, zz⟩ := z; exact zz)
end PyD

/-! PyD: dicts whose keys are tuples. -/
namespace PyD
open PySem PySem.Spec L2
/-- a tuple of ints and texts as a key -/
def keysOf : List D → Option (List Key)
  | [] => some []
  | d :: ds => match keyOf d, keysOf ds with
    | some k, some ks => some (k :: ks)
    | _, _ => none
def keyT : D → Option (List Key)
  | .tup ds => keysOf ds
  | _ => none
def dGetT : List (List Key) → List D → List Key → Option D
  | k' :: ks, x :: xs, k => if k' = k then some x else dGetT ks xs k
  | _, _, _ => none
def dSetT : List (List Key) → List D → List Key → D → List D
  | k' :: ks, x :: xs, k, v => (if k' = k then v else x) :: dSetT ks xs k v
  | _, _, _, _ => []
def hasT (ks : List (List Key)) (k : List Key) : Bool := ks.any fun z => decide (z = k)
def dPutT (ks : List (List Key)) (xs : List D) (k : List Key) (v : D) : List (List Key) × List D := if hasT ks k then (ks, dSetT ks xs k v) else (ks ++ [k], xs ++ [v])
section
variable {L : Lk} {X : Cx} {k : Nat}
variable {pins : List (Addr × Obj)} {s : Shared} {σ : St} {H : Hp} {E : XK} {μ : List Addr} {S : List D} {G : Hp} {Q : VK} {W : WX} {ρ : List Sl} {π : Nat → Option Addr}
theorem keysOf_r : ∀ {ds : List D} {ks : List Key} {vs : List V}, keysOf ds = some ks → Rs L μ G ds vs → vs = ks.map kV
  | [], ks, vs, h, r => by cases h; exact r.nil_inv
  | d :: ds, ks, vs, h, r => by
    obtain ⟨v, ws, rfl, rv, rt⟩ := r.cons_inv
    unfold keysOf at h
    split at h
    · rename_i a b e1 e2
      cases h
      rw [keyOf_r e1 rv, keysOf_r e2 rt]
      rfl
    · cases h
theorem keysOf_d : ∀ {ds : List D} {ks : List Key}, keysOf ds = some ks → ks.map keyD = ds
  | [], ks, h => by cases h; rfl
  | d :: ds, ks, h => by
    unfold keysOf at h
    split at h
    · rename_i a b e1 e2
      cases h
      rw [List.map_cons, keyOf_d e1, keysOf_d e2]
    · cases h
/-- a key of a dict: its tuple stands there -/
theorem keyT_r {d : D} {ks : List Key} {v : V} (h : keyT d = some ks) (r : R L μ G d v) : ∃ b, v = .ref b ∧ G b = some (.tup (ks.map kV)) := by
  unfold keyT at h
  split at h
  · unfold R at r
    obtain ⟨a, vs, e, q, rs⟩ := r
    rw [keysOf_r h rs] at q
    exact ⟨a, e, q⟩
  · cases h
theorem keyT_rt {d : D} {ks : List Key} {v : V} (h : keyT d = some ks) (r : RT L μ G H d v) : ∃ b, v = .ref b ∧ G b = some (.tup (ks.map kV)) := by
  rcases r with r | ⟨p, e, t, _, _⟩
  · exact keyT_r h r
  · unfold keyT at h
    split at h
    · exact t.elim
    · cases h
theorem getT_rs : ∀ {kvs : List (List Key × V)} {xs : List D} {key : List Key}, Rs L μ G xs (kvs.map (·.2)) →
    match dGetT (kvs.map (·.1)) xs key with
    | some d => ∃ v, valV kvs key = some v ∧ R L μ G d v
    | none => valV kvs key = none
  | [], xs, key, r => by
    cases xs with
    | nil => rfl
    | cons x xs => obtain ⟨v, ws, e, _⟩ := r.cons_inv; cases e
  | p :: kvs, xs, key, r => by
    cases xs with
    | nil => have := r.nil_inv; cases this
    | cons x xs =>
      obtain ⟨v, ws, e, rv, rt⟩ := r.cons_inv
      rw [List.map_cons] at e
      injection e with e1 e2
      subst e1 e2
      rw [List.map_cons]
      show match (if p.1 = key then some x else dGetT _ xs key) with | some d => _ | none => _
      by_cases h : p.1 = key
      · rw [if_pos h]
        exact ⟨p.2, valV_pos h, rv⟩
      · rw [if_neg h, valV_neg h]
        exact getT_rs rt
theorem valT_some {kvs : List (List Key × V)} {key : List Key} : (valV kvs key).isSome = hasT (kvs.map (·.1)) key := by
  rw [← valV_any]
  unfold hasT
  rw [List.any_map]
  rfl
theorem putT_rs {kvs : List (List Key × V)} {xs : List D} {key : List Key} {d : D} {v : V} (r : Rs L μ G xs (kvs.map (·.2))) (rv : R L μ G d v) :
    (putK kvs key v).map (·.1) = (dPutT (kvs.map (·.1)) xs key d).1 ∧ Rs L μ G (dPutT (kvs.map (·.1)) xs key d).2 ((putK kvs key v).map (·.2)) := by
  have ha : hasT (kvs.map (·.1)) key = kvs.any fun kv => decide (kv.1 = key) := by rw [valV_any, valT_some]
  unfold dPutT putK
  rw [ha]
  by_cases h : (kvs.any fun kv => decide (kv.1 = key)) = true
  · rw [if_pos h, if_pos h]
    constructor
    · rw [List.map_map]
      apply List.map_congr_left
      intro p _
      show (if p.1 = key then (p.1, v) else p).1 = p.1
      split <;> rfl
    · clear h ha
      induction kvs generalizing xs with
      | nil =>
        cases xs with
        | nil => exact Rs.nil
        | cons x xs => obtain ⟨v, ws, e, _⟩ := r.cons_inv; cases e
      | cons p kvs ih =>
        cases xs with
        | nil => have := r.nil_inv; cases this
        | cons x xs =>
          obtain ⟨u, ws, e, ru, rt⟩ := r.cons_inv
          rw [List.map_cons] at e
          injection e with e1 e2
          subst e1 e2
          rw [List.map_cons, List.map_cons, List.map_cons]
          show Rs L μ G ((if p.1 = key then d else x) :: dSetT _ xs key d) _
          refine Rs.cons ?_ (ih rt)
          by_cases h : p.1 = key
          · rw [if_pos h, if_pos h]; exact rv
          · rw [if_neg h, if_neg h]; exact ru
  · rw [if_neg h, if_neg h]
    constructor
    · rw [List.map_append]; rfl
    · rw [List.map_append]
      exact r.append (Rs.cons rv Rs.nil)
/-! ### {} -/
def fDNewT : Ef D := fun _ S => .ok (.dcT [] []) S
theorem x_dnewT {pos : Pos} : PE X (.Dict [] [] pos) (tF L W fDNewT) := pe_dnewT.to fun σ H Q h => by
  obtain ⟨μ, S, G, ρ, π, st, rel, p⟩ := h
  intro a ha
  obtain ⟨e2, st2⟩ := st.lay (o := .dT []) ha
  obtain ⟨g, m⟩ := st.fresh ha
  exact p _ _ _ e2 st2 a ⟨[], upd_same, rfl, Rs.nil⟩ g ha m
/-! ### in, not in, len, list -/
def opInT (x y : D) (S : List D) : Out D := match dr S y with
  | .dcT ks _ => match keyT x with
    | some k => .ok (.bl (hasT ks k)) S
    | none => .bad
  | _ => .bad
def opNotInT (x y : D) (S : List D) : Out D := match dr S y with
  | .dcT ks _ => match keyT x with
    | some k => .ok (.bl (!hasT ks k)) S
    | none => .bad
  | _ => .bad
theorem so_inT (hr : Room k X.A) : OpR X (compareOp .In) (rTwo L opInT) := opr_of fun {pins s σ H x y v u a b E μ S G Q} I ra rb st vx vy rx ry p => by
  unfold opInT at p
  split at p
  · rename_i ks xs e1
    split at p
    · rename_i key ek
      rw [e1] at vy
      obtain ⟨c, kvs, rfl, hc, hk, rs⟩ := vy.dcTs st.sub
      obtain ⟨t, rfl, ht⟩ := keyT_rt ek rx
      have hb : b = Value.ref c := rb
      subst hb
      refine L2.d_in (y := .ref t) (by have := hr.units; omega) I (DGet.t hc (st.sub _ _ ht)) ra fun s3 I3 => ⟨.bl _, H, I3, rfl, ?_⟩
      rw [valT_some, hk]
      exact ko_bl st p
    · exact p.elim
  · exact p.elim
theorem so_notInT (hr : Room k X.A) : OpR X (compareOp .NotIn) (rTwo L opNotInT) := opr_of fun {pins s σ H x y v u a b E μ S G Q} I ra rb st vx vy rx ry p => by
  unfold opNotInT at p
  split at p
  · rename_i ks xs e1
    split at p
    · rename_i key ek
      rw [e1] at vy
      obtain ⟨c, kvs, rfl, hc, hk, rs⟩ := vy.dcTs st.sub
      obtain ⟨t, rfl, ht⟩ := keyT_rt ek rx
      have hb : b = Value.ref c := rb
      subst hb
      refine L2.d_notIn (y := .ref t) (by have := hr.units; omega) I (DGet.t hc (st.sub _ _ ht)) ra fun s3 I3 => ⟨.bl _, H, I3, rfl, ?_⟩
      rw [valT_some, hk]
      exact ko_bl st p
    · exact p.elim
  · exact p.elim
def opDLenT (x : D) (S : List D) : Out D := match dr S x with
  | .dcT ks _ => .ok (.int ks.length) S
  | _ => .bad
theorem so_dlenT : CallR X (.builtin "len") (rC1 L opDLenT) := cr_of fun {pins s σ H x v a E μ S G Q} I r st vx rx p => by
  unfold opDLenT at p
  split at p
  · rename_i ks xs e
    rw [e] at vx
    obtain ⟨c, kvs, rfl, hc, hk, rs⟩ := vx.dcTs st.sub
    refine call_len_dT pins s σ H _ _ Q I r ⟨c, kvs, rfl, hc, ?_⟩
    have : ks.length = kvs.length := by rw [← hk, List.length_map]
    rw [← this]
    exact ko_int st p
  · exact p.elim
def opListT (x : D) (S : List D) : Out D := match dr S x with
  | .dcT ks _ => .ok (.lst (ks.map fun k => .tup (k.map keyD))) S
  | _ => .bad
theorem keys_rs : ∀ {ks : List Key}, Rs L μ G (ks.map keyD) (ks.map kV)
  | [] => Rs.nil
  | k :: ks => Rs.cons (by cases k <;> (unfold keyD R; rfl)) keys_rs
theorem isKeys_rs (st : Stt L μ S G H) : ∀ {kvs : List (List Key × V)} {bs : List Addr}, IsKeys H kvs bs → Rs L μ G ((kvs.map (·.1)).map fun k => .tup (k.map keyD)) (bs.map V.ref)
  | [], bs, h => by cases h; exact Rs.nil
  | p :: kvs, bs, h => by
    cases h with
    | cons h t =>
      rw [List.map_cons, List.map_cons, List.map_cons]
      refine Rs.cons ?_ (isKeys_rs st t)
      unfold R
      exact ⟨_, _, rfl, st.tk _ _ h, keys_rs⟩
theorem so_listT (hc : X.calm = true) : CallR X (.type "list") (rC1F L opListT) := by
  intro pins s σ H vs us Q I r hh
  obtain ⟨v, rfl, E, μ, S, G, x, st, rx, p⟩ := hh
  unfold opListT at p
  split at p
  · rename_i ks xs e
    have vx := rx.vw st
    rw [e] at vx
    obtain ⟨c, kvs, rfl, hcc, hk, rs⟩ := vx.dcTs st.sub
    refine call_list_dT hc pins s σ H _ _ Q I r ⟨c, kvs, rfl, .inl hcc, fun q bs hq hb => ?_⟩
    have rk := isKeys_rs st hb
    rw [hk] at rk
    exact ko_lstF st rk p q hq
  · exact p.elim
end
section
variable {L : Lk} {P : Program} {w : World} {mg : Str → Option Value} {base : Heap} {k j : Nat} {N : List Str} {sc : Scope} {fo : Str → Bool} {X : Cx} {W : WX} {pos p p2 apos py spos pt : Pos}
theorem x_inT (c : Cc L P w mg base k N sc fo X) {a b : Expr} {f g : Ef D} (ha : PE X a (tB L W f)) (hb : PE X b (tB L W g)) (hm : behindInMarks .In b = false) : PE X (.Compare a [.In] [b] pos) (tO L W (fTwo opInT f g)) := to_cmp (so_inT c.rm) ha hb hm
theorem t_inT (c : Cc L P w mg base k N sc fo X) {a b : Expr} {f g : Ef D} (ha : PE X a (tB L W f)) (hb : PE X b (tB L W g)) (hm : behindInMarks .In b = false) : PT X (.Compare a [.In] [b] pos) (tT L W (fBl (fTwo opInT f g))) := to_cmpT (so_inT c.rm) ha hb hm
theorem x_notInT (c : Cc L P w mg base k N sc fo X) {a b : Expr} {f g : Ef D} (ha : PE X a (tB L W f)) (hb : PE X b (tB L W g)) (hm : behindInMarks .NotIn b = false) : PE X (.Compare a [.NotIn] [b] pos) (tO L W (fTwo opNotInT f g)) := to_cmp (so_notInT c.rm) ha hb hm
theorem t_notInT (c : Cc L P w mg base k N sc fo X) {a b : Expr} {f g : Ef D} (ha : PE X a (tB L W f)) (hb : PE X b (tB L W g)) (hm : behindInMarks .NotIn b = false) : PT X (.Compare a [.NotIn] [b] pos) (tT L W (fBl (fTwo opNotInT f g))) := to_cmpT (so_notInT c.rm) ha hb hm
theorem x_dlenT (c : Cc L P w mg base k N sc fo X) {e : Expr} {fa : Ef D} (hm : mg "len" = none) (hg : glb sc "len" = true) (ha : PE X e (tB L W fa)) (hp : plainArgs [e] = true) : PE X (.Call (.Name "len" p) [e] [] pos) (tO L W (fOne opDLenT fa)) := by
  obtain ⟨g1, g2, g3⟩ := gl_of c hg
  exact (pe_callB (so_dlenT) g1 (by rw [c.mg]; exact hm) (by decide +kernel) (pa_cons ha pa_nil (star_cons hp)) g3 g2 (star_cons hp) (star_none (plain_tail hp))).to fun _ _ _ h => to_call1 h
theorem x_listT (c : Cc L P w mg base k N sc fo X) {e : Expr} {fa : Ef D} (hm : mg "list" = none) (hg : glb sc "list" = true) (ha : PE X e (tB L W fa)) (hp : plainArgs [e] = true) : PE X (.Call (.Name "list" p) [e] [] pos) (tF L W (fOne opListT fa)) := by
  obtain ⟨g1, g2, g3⟩ := gl_of c hg
  exact (pe_callTy (so_listT c.calm) g1 (by rw [c.mg]; exact hm) (by decide +kernel) (pa_cons ha pa_nil (star_cons hp)) g3 g2 (star_cons hp) (star_none (plain_tail hp))).to fun _ _ _ h => to_call1F h
/-! ### d[k] = v, d this frame's own -/
def sPutT (i : Nat) (fk fv : Ef D) : Es := fun ρ S => match ρ[i]? with
  | some (.own (.dcT ks xs)) => sE fv (fun v ρ S1 => sE fk (fun y ρ S2 => match keyT y with
    | some key => if ks.length < LIM then .nx (ρ.set i (.own (.dcT (dPutT ks xs key v).1 (dPutT ks xs key v).2))) S2 else .bad
    | none => .bad) ρ S1) ρ S
  | _ => .bad
theorem to_putT {i : Nat} {fk fv : Ef D} {σ : St} {H : Hp} {E : Ends} (h : tS L W (sPutT i fk fv) E σ H) : sDPut (tVar i) (tO L W fk) (tO L W fv) E σ H := by
  obtain ⟨μ0, G0, H0, ρ, S, ⟨μ, G, π, e0, st, rel, fr⟩, p⟩ := h
  unfold sPutT at p
  split at p
  · rename_i ks xs eo
    refine ⟨μ, S, G, ρ, π, st, rel, ?_⟩
    unfold sE at p
    cases ev : fv ρ S with
    | bad => rw [ev] at p; exact p
    | exc c fs S1 =>
      rw [ev] at p
      exact fun cls d μ1 G1 H1 e1 st1 r => p cls d σ μ1 G1 H1 π (e0.trans e1) st1 (rel.ext e1) fr r
    | ok d S1 =>
      rw [ev] at p
      intro μ1 G1 H1 e1 st1 v rv
      obtain ⟨q, a, b, t, n, m⟩ := rel.own i _ eo
      refine ⟨.ref q, b, μ1, S1, G1, ρ, π, st1, rel.ext e1, ?_⟩
      dsimp only at p
      try unfold sE at p
      cases ek : fk ρ S1 with
      | bad => rw [ek] at p; exact p
      | exc c fs S2 =>
        rw [ek] at p
        exact fun cls d μ2 G2 H2 e2 st2 r => p cls d σ μ2 G2 H2 π ((e0.trans e1).trans e2) st2 ((rel.ext e1).ext e2) fr r
      | ok y S2 =>
        rw [ek] at p
        intro μ2 G2 H2 e2 st2 u ru
        dsimp only at p
        split at p
        · rename_i key eky
          split at p
          · rename_i hz
            obtain ⟨q2, b2, t2, n2, m2, mu⟩ := mut_own ((e0.trans e1).trans e2) st2 ((rel.ext e1).ext e2) fr eo
            rw [b] at b2
            cases b2
            obtain ⟨kvs, hq, hk, rs⟩ := t2
            obtain ⟨tb, rfl, ht⟩ := keyT_r eky ru
            have hl : kvs.length = ks.length := by rw [← hk, List.length_map]
            obtain ⟨z1, z2⟩ := putT_rs (key := key) rs (rv.ext e2)
            rw [hk] at z1 z2
            exact ⟨q, _, rfl, DPut.t hq (st2.sub _ _ ht) (by rw [lim_eq, hl]; exact hz), p σ _ (mu _ _ ⟨_, upd_same, z1, z2⟩)⟩
          · exact p.elim
        · exact p.elim
  · exact p.elim
theorem s_putT (c : Cc L P w mg base k N sc fo X) {i : Nat} {x : Str} {a b : Expr} {fk fv : Ef D} (hi : N[i]? = some x) (hv : visB sc x = true) (hd : ndb x = true) (ha : PE X a (tO L W fk)) (hb : PE X b (tO L W fv)) (hs : swapsWith b (some (.Subscript (.Name x p) a p2)) pos.line X.env = pure false) :
    PS X (.Assign [.Subscript (.Name x p) a p2] b pos) (tS L W (sPutT i fk fv)) :=
  (ps_dput (by have := c.rm.units; omega) (v_var c hi hv hd) ha hb hs).to fun _ _ _ h => to_putT h
end
end PyD

/-! PyD: new things as cells, what is done to cells, pairs of stores. -/
namespace PyD
open PySem PySem.Spec L2
section
variable {L : Lk} {X : Cx} {k : Nat}
variable {pins : List (Addr × Obj)} {s : Shared} {σ : St} {H : Hp} {E : XK} {μ μ0 : List Addr} {S : List D} {G G0 H0 : Hp} {Q : VK} {W : WX} {ρ : List Sl} {π : Nat → Option Addr}
/-- a new thing, as a cell -/
def fNew (f : Ef D) : Ef D := fun ρ S => (f ρ S).bind fun d S1 => .ok (.loc S1.length) (S1 ++ [d])
theorem Ext.cell1 (e : Ext μ0 G0 H0 μ G H) {a : Addr} (h : H0 a = none) : Ext μ0 G0 H0 (μ ++ [a]) G H := by
  obtain ⟨t, c1, c2⟩ := e.c
  refine ⟨⟨t ++ [a], by rw [c1, List.append_assoc], fun x hx => ?_⟩, e.g, e.h, e.n, e.m⟩
  rcases List.mem_append.mp hx with hx | hx
  · exact c2 x hx
  · rw [List.mem_singleton.mp hx]; exact h
theorem to_new {f : Ef D} (h : tO L W (fNew f) σ H Q) : tF L W f σ H Q := by
  obtain ⟨μ, S, G, ρ, π, st, rel, p⟩ := h
  refine ⟨μ, S, G, ρ, π, st, rel, ?_⟩
  unfold fNew at p
  cases e : f ρ S with
  | bad => rw [e] at p; exact p
  | exc c fs S1 => rw [e] at p; exact p
  | ok d S1 =>
    rw [e] at p
    intro μ1 G1 H1 e1 st1 a t g n m
    exact p _ _ _ (e1.cell1 n) (st1.cell1 t g m) _ (by unfold R; exact ⟨a, by rw [← st1.len]; simp, rfl⟩)
/-- a cell changes -/
theorem cell_upd {j : Nat} {d d' : D} {a : Addr} {o : HO} (e0 : Ext μ0 G0 H0 μ G H) (st : Stt L μ S G H) (ea : μ[j]? = some a) (e : S[j]? = some d) (t' : Top L μ G (upd H a o) d' a) :
    Ext μ0 G0 H0 μ G (upd H a o) ∧ Stt L μ (S.set j d') G (upd H a o) := by
  obtain ⟨n, t⟩ := st.cell j a d ea e
  have ma : a ∈ μ := List.mem_of_getElem? ea
  refine ⟨⟨e0.c, e0.g, fun x u q m => ?_, e0.n, fun x q => ?_⟩, ⟨fun x u q => ?_, fun x vs q => ?_, by rw [List.length_set]; exact st.len, st.nd, fun i b x e1 e2 => ?_⟩⟩
  · have ne : x ≠ a := fun z => by
      subst z
      exact e0.out q m ma
    rw [upd_ne ne]
    exact e0.h x u q m
  · by_cases z : x = a
    · subst z; rw [upd_same]; exact fun z => nomatch z
    · rw [upd_ne z]; exact e0.m x q
  · rw [upd_ne (ne_of_none q n)]; exact st.sub x u q
  · by_cases z : x = a
    · subst z; rw [upd_same] at q; exact absurd (Option.some.inj q) (Top.nt t' vs)
    · rw [upd_ne z] at q; exact st.tk x vs q
  · by_cases z : j = i
    · subst z
      rw [ea] at e1
      cases e1
      rw [List.getElem?_set_self (List.getElem?_eq_some_iff.mp e).1] at e2
      cases e2
      exact ⟨n, t'⟩
    · rw [List.getElem?_set_ne z] at e2
      obtain ⟨n2, t2⟩ := st.cell i b x e1 e2
      have ne : b ≠ a := fun w => z (st.nd i j b e1 (w ▸ ea)).symm
      exact ⟨n2, t2.sub (.refl _) (by rw [upd_ne ne])⟩
/-- c.pop(0) -/
def fPop (fo fa : Ef D) : Ef D := fun ρ S => (fo ρ S).bind fun x S1 => match x, S1[(match x with | .loc j => j | _ => 0)]? with
  | .loc j, some (.lst _) => (fa ρ S1).bind fun y S2 => match y, S2[j]? with
    | .int 0, some (.lst (z :: zs)) => .ok z (S2.set j (.lst zs))
    | _, _ => .bad
  | _, _ => .bad
theorem to_pop {fo fa : Ef D} {K : PySem.W.Frag} (h : tO L W (fPop fo fa) σ H Q) : tBM K "list" rPopAt (tO L W fo) (tCons (tO L W fa) tNil) σ H Q := by
  obtain ⟨μ, S, G, ρ, π, st, rel, p⟩ := h
  refine ⟨μ, S, G, ρ, π, st, rel, (Post.split p).imp fun x S1 μ1 G1 H1 e1 st1 p1 v rv => ?_⟩
  split at p1
  · rename_i j ds es
    unfold R at rv
    obtain ⟨a, ea, rfl⟩ := rv
    obtain ⟨g, t⟩ := st1.cell j a _ ea es
    obtain ⟨vs, hq, rs⟩ := t
    refine ⟨.inl ⟨rfl, vs, .inl (.inl hq)⟩, μ1, S1, G1, ρ, π, st1, rel.ext e1, (Post.split p1).imp fun y S2 μ2 G2 H2 e2 st2 p2 u ru => ?_⟩
    split at p2
    · rename_i z zs es2
      have ea2 := e2.pre j a ea
      obtain ⟨g2, t2⟩ := st2.cell j a _ ea2 es2
      obtain ⟨ws, hq2, rs2⟩ := t2
      obtain ⟨w, ws', rfl, rw', rt⟩ := rs2.cons_inv
      unfold R at ru
      have lw := rt.length
      obtain ⟨e3, st3⟩ := cell_upd (o := .lst ws') (d' := .lst zs) (.refl μ2 G2 H2) st2 ea2 es2 ⟨ws', upd_same, rt⟩
      refine ⟨a, w :: ws', 0, 0, w, rfl, by rw [ru], hq2, by omega, by omega, ?_, rfl, ?_⟩
      · unfold seqIndex?
        simp
      · exact p2 _ _ _ e3 st3 w rw'
    · exact p2.elim
  · exact p1.elim
/-- c.append(e) -/
def fAppC (fo fa : Ef D) : Ef D := fun ρ S => (fo ρ S).bind fun x S1 => match x, S1[(match x with | .loc j => j | _ => 0)]? with
  | .loc j, some (.lst _) => (fa ρ S1).bind fun y S2 => match S2[j]? with
    | some (.lst zs) => if zs.length < LIM then .ok .non (S2.set j (.lst (zs ++ [y]))) else .bad
    | _ => .bad
  | _, _ => .bad
theorem to_appC {fo fa : Ef D} {K : PySem.W.Frag} (h : tO L W (fAppC fo fa) σ H Q) : tBM K "list" rAppend (tO L W fo) (tCons (tO L W fa) tNil) σ H Q := by
  obtain ⟨μ, S, G, ρ, π, st, rel, p⟩ := h
  refine ⟨μ, S, G, ρ, π, st, rel, (Post.split p).imp fun x S1 μ1 G1 H1 e1 st1 p1 v rv => ?_⟩
  split at p1
  · rename_i j ds es
    unfold R at rv
    obtain ⟨a, ea, rfl⟩ := rv
    obtain ⟨g, t⟩ := st1.cell j a _ ea es
    obtain ⟨vs, hq, rs⟩ := t
    refine ⟨.inl ⟨rfl, vs, .inl (.inl hq)⟩, μ1, S1, G1, ρ, π, st1, rel.ext e1, (Post.split p1).imp fun y S2 μ2 G2 H2 e2 st2 p2 u ru => ?_⟩
    split at p2
    · rename_i zs es2
      split at p2
      · rename_i hz
        have ea2 := e2.pre j a ea
        obtain ⟨g2, t2⟩ := st2.cell j a _ ea2 es2
        obtain ⟨ws, hq2, rs2⟩ := t2
        obtain ⟨e3, st3⟩ := cell_upd (o := .lst (ws ++ [u])) (d' := .lst (zs ++ [y])) (.refl μ2 G2 H2) st2 ea2 es2 ⟨_, upd_same, rs2.append (Rs.cons ru Rs.nil)⟩
        exact ⟨a, ws, u, rfl, rfl, hq2, by rw [rs2.length, lim_eq]; exact hz, p2 _ _ _ e3 st3 _ (by unfold R; rfl)⟩
      · exact p2.elim
    · exact p2.elim
  · exact p1.elim
/-- a[i] = e, a a cell's list -/
def sSetC (fo fi fv : Ef D) : Es := sE fv fun v ρ S => sE fo (fun x ρ S1 => sE fi (fun y ρ S2 => match x, y with
  | .loc j, .int n => match S2[j]? with
    | some (.lst ds) => match ixN ds.length n with
      | some m => .nx ρ (S2.set j (.lst (ds.set m v)))
      | none => .bad
    | _ => .bad
  | _, _ => .bad) ρ S1) ρ S
theorem to_setC {fo fi fv : Ef D} {E : Ends} (h : tS L W (sSetC fo fi fv) E σ H) : tAsg (tO L W fv) (gSub (tO L W fo) (tO L W fi) rSetL) E σ H := by
  obtain ⟨μ0, G0, H0, ρ, S, μ, G, π, e0, st, rel, fr, p⟩ := sE_split h
  refine ⟨μ, S, G, ρ, π, st, rel, p.imp fun v S1 μ1 G1 H1 e1 st1 ⟨e2, q⟩ w rw' => ?_⟩
  have rel1 := rel.ext e1
  show tO L W fo σ H1 _
  refine ⟨μ1, S1, G1, ρ, π, st1, rel1, ?_⟩
  unfold sE at q
  cases ef : fo ρ S1 with
  | bad => rw [ef] at q; exact q
  | exc c fs S2 =>
    rw [ef] at q
    exact fun cls d μ2 G2 H2 e3 st2 r => q cls d σ μ2 G2 H2 π (e2.trans e3) st2 (rel1.ext e3) fr r
  | ok x S2 =>
    rw [ef] at q
    intro μ2 G2 H2 e3 st2 xv rx
    have rel2 := rel1.ext e3
    show tO L W fi σ H2 _
    refine ⟨μ2, S2, G2, ρ, π, st2, rel2, ?_⟩
    dsimp only at q
    cases eg : fi ρ S2 with
    | bad => rw [eg] at q; exact q
    | exc c fs S3 =>
      rw [eg] at q
      exact fun cls d μ3 G3 H3 e4 st3 r => q cls d σ μ3 G3 H3 π ((e2.trans e3).trans e4) st3 (rel2.ext e4) fr r
    | ok y S3 =>
      rw [eg] at q
      intro μ3 G3 H3 e4 st3 yv ry
      dsimp only at q
      split at q
      · rename_i j n
        split at q
        · rename_i ds es
          split at q
          · rename_i m em
            unfold R at ry
            have rx3 := rx.ext e4
            unfold R at rx3
            obtain ⟨a, ea, rfl⟩ := rx3
            obtain ⟨g, t⟩ := st3.cell j a _ ea es
            obtain ⟨vs, hq, rs⟩ := t
            have e5 := (e2.trans e3).trans e4
            obtain ⟨t2, mu⟩ := mut_cell e5 st3 (rel2.ext e4) fr ea es
            refine ⟨a, vs, n, m, rfl, ry, hq, by rw [rs.length]; exact em, ?_⟩
            exact q σ _ (mu _ _ ⟨_, upd_same, rs.set m ((rw'.ext e3).ext e4)⟩)
          · exact q.elim
        · exact q.elim
      · exact q.elim
/-- what a slot gets: a value, or a new thing of its own -/
def tX (L : Lk) (W : WX) (o : Bool) (f : Ef D) : TE := if o then tF L W f else tO L W f
def mkS (o : Bool) (d : D) : Sl := if o then .own d else .val d
/-- a, b = e, f -/
def sPar2 (i j : Nat) (o1 o2 : Bool) (f g : Ef D) : Es := sE f fun d ρ S => sE g (fun e ρ S => .nx ((ρ.set i (mkS o1 d)).set j (mkS o2 e)) S) ρ S
/-- v is what the slot gets -/
def Pend (L : Lk) (o : Bool) (μ : List Addr) (G H : Hp) (π : Nat → Option Addr) (H0 : Hp) (d : D) (v : V) : Prop := match o with
  | false => R L μ G d v
  | true => ∃ p, v = .ref p ∧ Top L μ G H d p ∧ G p = none ∧ p ∉ μ ∧ (∀ j, π j ≠ some p) ∧ H0 p = none
theorem Pend.ext {o : Bool} {d : D} {v : V} {H9 : Hp} {μ' : List Addr} {G' H' : Hp} (h : Pend L o μ G H π H9 d v) (e : Ext μ G H μ' G' H') : Pend L o μ' G' H' π H9 d v := by
  cases o with
  | false => exact R.ext h e
  | true =>
    obtain ⟨p, a, t, n, m, z1, z2⟩ := h
    obtain ⟨u, q⟩ := t.some
    exact ⟨p, a, t.ext e m, e.n p (by rw [q]; exact fun z => nomatch z) n, e.out q m, z1, z2⟩
theorem tX_of {o : Bool} {f : Ef D} {H9 : Hp} (st : Stt L μ S G H) (rel : Rel L μ G H σ ρ π) (e0 : ∀ p, H p = none → H9 p = none)
    (p : Post L (fun c d H' => W c d σ H') μ G H (f ρ S) (fun d S1 μ1 G1 H1 => ∀ v, Pend L o μ1 G1 H1 π H9 d v → (o = true → ∀ p, v = .ref p → H p = none) → Q v H1)) : tX L W o f σ H Q := by
  cases o with
  | false => exact ⟨μ, S, G, ρ, π, st, rel, p.imp fun d S1 μ1 G1 H1 e1 st1 q v rv => q v rv fun z => nomatch z⟩
  | true =>
    refine ⟨μ, S, G, ρ, π, st, rel, p.imp fun d S1 μ1 G1 H1 e1 st1 q a t g n m => q _ ⟨a, rfl, t, g, m, rel.ne_fresh n, e0 a n⟩ fun _ p e => ?_⟩
    cases e
    exact n
/-- a slot is given what it gets -/
theorem Rel.give (r : Rel L μ G H σ ρ π) (i : Nat) {o : Bool} {d : D} {v : V} {H9 : Hp} (h : Pend L o μ G H π H9 d v) (fr : ∀ i p, π i = some p → H9 p = none) :
    ∃ π', Rel L μ G H (σ.set i (some v)) (ρ.set i (mkS o d)) π' ∧ (∀ i p, π' i = some p → H9 p = none) ∧ ∀ j p, π' j = some p → π j = some p ∨ (o = true ∧ v = .ref p) := by
  cases o with
  | false =>
    refine ⟨_, r.put i h, fresh_put fr, fun j p e => ?_⟩
    split at e
    · cases e
    · exact .inl e
  | true =>
    obtain ⟨p, rfl, t, n, m, z1, z2⟩ := h
    refine ⟨_, r.own1 i t n m z1, fun j q e => ?_, fun j q e => ?_⟩
    · split at e
      · split at e
        · cases e; exact z2
        · cases e
      · exact fr j q e
    · split at e
      · split at e
        · cases e; exact .inr ⟨rfl, rfl⟩
        · cases e
      · exact .inl e
theorem to_par2 {i j : Nat} {o1 o2 : Bool} {f g : Ef D} {E : Ends} (h : tS L W (sPar2 i j o1 o2 f g) E σ H) : tPar i j (tCons (tX L W o1 f) (tCons (tX L W o2 g) tNil)) E σ H := by
  obtain ⟨μ0, G0, H0, ρ, S, μ, G, π, e0, st, rel, fr, p⟩ := sE_split h
  have up : ∀ {H1 : Hp} {μ1 : List Addr} {G1 : Hp}, Ext μ0 G0 H0 μ1 G1 H1 → ∀ p, H1 p = none → H0 p = none := fun {H1 μ1 G1} e p n => by
    cases z : H0 p with
    | none => rfl
    | some o => exact absurd n (e.m p (by rw [z]; exact fun z => nomatch z))
  refine tX_of st rel (up e0) (p.imp fun d S1 μ1 G1 H1 e1 st1 ⟨e2, q⟩ v pv _ => ?_)
  have rel1 := rel.ext e1
  show tX L W o2 g σ H1 _
  refine tX_of (H9 := H0) st1 rel1 (up e2) ?_
  unfold sE at q
  cases eg : g ρ S1 with
  | bad => rw [eg] at q; exact q
  | exc c fs S2 =>
    rw [eg] at q
    exact fun cls d μ2 G2 H2 e3 st2 r => q cls d σ μ2 G2 H2 π (e2.trans e3) st2 (rel1.ext e3) fr r
  | ok e S2 =>
    rw [eg] at q
    intro μ2 G2 H2 e3 st2 w pw hw
    refine ⟨v, w, rfl, ?_⟩
    obtain ⟨π1, r1, f1, c1⟩ := (rel1.ext e3).give i (pv.ext e3) fr
    have pw1 : Pend L o2 μ2 G2 H2 π1 H0 e w := by
      cases o2 with
      | false => exact pw
      | true =>
        obtain ⟨b, rfl, t, n, m, z1, z2⟩ := pw
        refine ⟨b, rfl, t, n, m, fun j z => ?_, z2⟩
        rcases c1 j b z with y | y
        · exact z1 j y
        · obtain ⟨ho, rfl⟩ := y
          subst ho
          have hb := hw rfl b rfl
          obtain ⟨b', eb, t', _⟩ := pv
          cases eb
          obtain ⟨o, z3⟩ := t'.some
          rw [hb] at z3; cases z3
    obtain ⟨π2, r2, f2, _⟩ := r1.give j pw1 f1
    exact q _ H2 ⟨μ2, G2, π2, e2.trans e3, st2, r2, f2⟩
/-- xs[::-1] -/
def opRev (x : D) (S : List D) : Out D := match dr S x with
  | .lst xs => .ok (.lst xs.reverse) S
  | _ => .bad
theorem to_rev {fa : Ef D} {K : PySem.W.Frag} (hK : K = L.K) (h : tF L W (fOne opRev fa) σ H Q) : tRevL K (tB L W fa) σ H Q := by
  obtain ⟨μ, S, G, ρ, π, st, rel, p⟩ := h
  refine ⟨μ, S, G, ρ, π, st, rel, p.split.imp fun x S1 μ1 G1 H1 e1 st1 p1 v rv => ?_⟩
  unfold opRev at p1
  split at p1
  · rename_i xs e
    have vx := rv.vw st1
    rw [e] at vx
    obtain ⟨a, vs, rfl, q, rs⟩ := vx.lsts st1.sub
    refine ⟨a, vs, rfl, by rw [hK]; exact q, fun b hb => ?_⟩
    obtain ⟨e2, st2⟩ := st1.lay (o := .lst vs.reverse) hb
    obtain ⟨g, m⟩ := st1.fresh hb
    refine p1 _ _ _ e2 st2 b ⟨_, upd_same, rs.reverse⟩ g ?_ m
    cases z : H b with
    | none => rfl
    | some o => exact absurd hb (e1.m b (by rw [z]; exact fun z => nomatch z))
  · exact p1.elim
/-- min of a list of ints -/
def minI : List Int → Option Int
  | [] => none
  | [a] => some a
  | a :: as => (minI as).map fun m => if a ≤ m then a else m
theorem minI_spec : ∀ {ns : List Int} {m : Int}, minI ns = some m → m ∈ ns ∧ ∀ y ∈ ns, m ≤ y
  | [], m, h => by cases h
  | [a], m, h => by
    cases h
    exact ⟨List.mem_cons_self, fun y hy => by rw [List.mem_singleton.mp hy]; exact Int.le_refl _⟩
  | a :: b :: as, m, h => by
    obtain ⟨m', e, rfl⟩ := Option.map_eq_some_iff.mp h
    obtain ⟨h1, h2⟩ := minI_spec e
    by_cases z : a ≤ m'
    · rw [if_pos z]
      refine ⟨List.mem_cons_self, fun y hy => ?_⟩
      rcases List.mem_cons.mp hy with rfl | hy
      · exact Int.le_refl _
      · exact Int.le_trans z (h2 y hy)
    · rw [if_neg z]
      refine ⟨List.mem_cons_of_mem _ h1, fun y hy => ?_⟩
      rcases List.mem_cons.mp hy with rfl | hy
      · omega
      · exact h2 y hy
def opMin (x : D) (S : List D) : Out D := match dr S x with
  | .lst xs => match intsOf xs with
    | some ns => match minI ns with
      | some m => .ok (.int m) S
      | none => .bad
    | none => .bad
  | _ => .bad
theorem so_min (hK : X.K = L.K) (hc : X.calm = true) : CallR X (.builtin "min") (rC1 L opMin) := cr_of fun {pins s σ H x v a E μ S G Q} I r st vx rx p => by
  unfold opMin at p
  split at p
  · rename_i e1
    rw [e1] at vx
    split at p
    · rename_i ns en
      split at p
      · rename_i m em
        obtain ⟨l, vs, rfl, q1, w1⟩ := vx.lsts st.sub
        have := ints_rs en w1
        subst this
        obtain ⟨h1, h2⟩ := minI_spec em
        refine cr_min hc pins s σ H _ _ Q I r ⟨l, ns, rfl, by rw [hK]; exact q1, List.length_pos_of_mem h1, fun m' g1 g2 => ?_⟩
        have : m' = m := Int.le_antisymm (g2 m h1) (h2 m' g1)
        rw [this]
        exact ko_int st p
      · exact p.elim
    · exact p.elim
  · exact p.elim
/-- (x, y) for each of two lists -/
def pairsZ : List D → List D → List D
  | x :: xs, y :: ys => .tup [x, y] :: pairsZ xs ys
  | _, _ => []
theorem pairsZ_len : ∀ (xs ys : List D), (pairsZ xs ys).length = min xs.length ys.length
  | [], ys => by cases ys <;> simp [pairsZ]
  | x :: xs, [] => by simp [pairsZ]
  | x :: xs, y :: ys => by unfold pairsZ; rw [List.length_cons, List.length_cons, List.length_cons, pairsZ_len]; omega
theorem pairsZ_get : ∀ {xs ys : List D} {i : Nat} {a b : D}, xs[i]? = some a → ys[i]? = some b → (pairsZ xs ys)[i]? = some (.tup [a, b])
  | [], _, _, _, _, h, _ => by simp at h
  | x :: xs, [], _, _, _, _, h => by simp at h
  | x :: xs, y :: ys, 0, a, b, h, k => by
    simp at h k
    subst h k
    rfl
  | x :: xs, y :: ys, i + 1, a, b, h, k => by
    unfold pairsZ
    rw [List.getElem?_cons_succ]
    exact pairsZ_get (by simpa using h) (by simpa using k)
def fZip (fl : Ef (List D)) : Ef (List D) := fun ρ S => (fl ρ S).bind fun xs S1 => match xs with
  | [.lst xs, .lst ys] => .ok (pairsZ xs ys) S1
  | _ => .bad
theorem to_zip {a b : Expr} {elts : List Expr} {kk : Nat} {p pos tpos : Pos} {fl : Ef (List D)} (hK : X.K = L.K) (hg : Gl X "zip") (hm : X.mg "zip" = none) (ha : PA X [a, b] (tA L W fl)) (hp : plainArgs [a, b] = true) :
    PI X (.Tuple elts kk tpos) (.Call (.Name "zip" p) [a, b] [] pos) (tIG L W (fZip fl)) :=
  (RZ.pi_zipA hg hm ha (star_cons hp) (star_none (plain_tail hp))).to fun σ H Rk h => by
    obtain ⟨μ, S, G, ρ, π, st, rel, q⟩ := h
    refine ⟨μ, S, G, ρ, π, st, rel, q.split.imp fun ds S1 μ1 G1 H1 e1 st1 p1 vs rv => ?_⟩
    split at p1
    · rename_i xs ys
      obtain ⟨v, ws, rfl, r1, rv⟩ := rv.cons_inv
      obtain ⟨w, us, rfl, r2, rv⟩ := rv.cons_inv
      have := rv.nil_inv
      subst this
      unfold R at r1 r2
      obtain ⟨b1, vx, rfl, q1, w1⟩ := r1
      obtain ⟨b2, vy, rfl, q2, w2⟩ := r2
      refine ⟨b1, b2, vx, vy, rfl, .inl ⟨by rw [hK]; exact sqlSub st1.sub q1, by rw [hK]; exact sqlSub st1.sub q2, p1 μ1 G1 H1 (.refl _ _ _) st1 _ fun i μ' G' H' hm s1 s2 => ?_⟩⟩
      have h1 : SqL X.K H' b1 vx := by rw [hK]; exact sqlSub (s1.trans s2) q1
      have h2 : SqL X.K H' b2 vy := by rw [hK]; exact sqlSub (s1.trans s2) q2
      have l1 := w1.length
      have l2 := w2.length
      have lz := pairsZ_len xs ys
      refine ⟨fun hi => ?_, fun hi => ⟨vx, vy, h1, h2, by omega⟩, fun x H2 hi ⟨T, y, z, e3, hT, e4, hy, hz⟩ => ?_⟩
      · exact ⟨vx, vy, vx[i]'(by omega), vy[i]'(by omega), h1, h2, List.getElem?_eq_getElem _, List.getElem?_eq_getElem _⟩
      · obtain ⟨u1, f1, r1⟩ := w1.get (i := i) (List.getElem?_eq_getElem (by omega))
        obtain ⟨u2, f2, r2⟩ := w2.get (i := i) (List.getElem?_eq_getElem (by omega))
        have g1 := hy vx h1
        have g2 := hz vy h2
        rw [f1] at g1
        rw [f2] at g2
        cases g1
        cases g2
        exact ⟨_, pairsZ_get (List.getElem?_eq_getElem _) (List.getElem?_eq_getElem _), .inr (.inl ⟨T, _, _, e3, hT, e4, rfl, Rs.cons (R.mono hm s1 _ _ r1) (Rs.cons (R.mono hm s1 _ _ r2) Rs.nil)⟩)⟩
    · exact p1.elim
end
end PyD

/-! PyD: more words. -/
namespace PyD
open PySem PySem.Spec L2
section
variable {L : Lk} {P : Program} {w : World} {mg : Str → Option Value} {base : Heap} {k j : Nat} {N : List Str} {sc : Scope} {fo : Str → Bool} {X : Cx} {W : WX} {pos p p2 apos py spos pt : Pos}
theorem x_new {e : Expr} {f : Ef D} (h : PE X e (tF L W f)) : PE X e (tO L W (fNew f)) := h.to fun _ _ _ h => to_new h
theorem x_pop (c : Cc L P w mg base k N sc fo X) {o a : Expr} {cpos : Pos} {fo' fa : Ef D} (ho : PE X o (tO L W fo')) (ha : PE X a (tO L W fa)) (hb : notSuper o = true) (hp : plainArgs [a] = true) (hl : (apos.endLine == cpos.line) = true)
    (hfew : ((backTo cpos (starEach [a] X.env)).all (fun x => !x.1) && (backToKw cpos (keywordEach [] X.env)).all (fun x => x.1.isSome) && decide ([a].length + ([] : List Keyword).length + (if ([] : List Keyword).isEmpty then 0 else 1) < 30)) = true) :
    PE X (.Call (.Attribute o "pop" apos) [a] [] cpos) (tO L W (fPop fo' fa)) :=
  (pe_bm PySem.F.plainAttrs_list PySem.F.slot_list_pop PySem.F.type_list_pop mt_popAt ho (pa_cons ha pa_nil (star_cons hp)) (base_of hb) hfew hl (star_cons hp) (star_none (plain_tail hp))).to fun _ _ _ h => to_pop h
theorem x_appC (c : Cc L P w mg base k N sc fo X) {o a : Expr} {cpos : Pos} {fo' fa : Ef D} (ho : PE X o (tO L W fo')) (ha : PE X a (tO L W fa)) (hb : notSuper o = true) (hp : plainArgs [a] = true) (hl : (apos.endLine == cpos.line) = true)
    (hfew : ((backTo cpos (starEach [a] X.env)).all (fun x => !x.1) && (backToKw cpos (keywordEach [] X.env)).all (fun x => x.1.isSome) && decide ([a].length + ([] : List Keyword).length + (if ([] : List Keyword).isEmpty then 0 else 1) < 30)) = true) :
    PE X (.Call (.Attribute o "append" apos) [a] [] cpos) (tO L W (fAppC fo' fa)) :=
  (pe_bm PySem.F.plainAttrs_list PySem.F.slot_list_append PySem.F.type_list_append mt_append ho (pa_cons ha pa_nil (star_cons hp)) (base_of hb) hfew hl (star_cons hp) (star_none (plain_tail hp))).to fun _ _ _ h => to_appC h
theorem x_rev (c : Cc L P w mg base k N sc fo X) {e : Expr} {fa : Ef D} {kk : _} {p3 : Pos} (ha : PE X e (tB L W fa)) : PE X (.Subscript e (.Slice none none (some (.UnaryOp .USub (.Constant (.int 1) kk p) p2)) p3) pos) (tF L W (fOne opRev fa)) := (pe_revL ha).to fun _ _ _ h => to_rev c.K h
theorem x_min (c : Cc L P w mg base k N sc fo X) {e : Expr} {fa : Ef D} (hm : mg "min" = none) (hg : glb sc "min" = true) (ha : PE X e (tB L W fa)) (hp : plainArgs [e] = true) : PE X (.Call (.Name "min" p) [e] [] pos) (tO L W (fOne opMin fa)) := by
  obtain ⟨g1, g2, g3⟩ := gl_of c hg
  exact (pe_callB (so_min c.K c.calm) g1 (by rw [c.mg]; exact hm) (by decide +kernel) (pa_cons ha pa_nil (star_cons hp)) g3 g2 (star_cons hp) (star_none (plain_tail hp))).to fun _ _ _ h => to_call1 h
theorem i_zip (c : Cc L P w mg base k N sc fo X) {a b : Expr} {elts : List Expr} {kk : Nat} {fl : Ef (List D)} (hm : mg "zip" = none) (hg : glb sc "zip" = true) (ha : PA X [a, b] (tA L W fl)) (hp : plainArgs [a, b] = true) : PI X (.Tuple elts kk p2) (.Call (.Name "zip" p) [a, b] [] pos) (tIG L W (fZip fl)) :=
  to_zip c.K (gl_of c hg).1 (by rw [c.mg]; exact hm) ha hp
theorem g_two (c : Cc L P w mg base k N sc fo X) {a b : Expr} {kk : Nat} {A B : Tg} (h : PGs X [a, b] (gCons (gOf L.K A) (gCons (gOf L.K B) gNil))) (hn : (assignEach [a, b] X.env).length = 2) (hst : (assignEach [a, b] X.env).findIdx? (·.1) = none) : PG X (.Tuple [a, b] kk pos) (gOf L.K (.two A B)) := by
  have z := pg_tup (pos := pos) (k := kk) c.calm h hn hst
  rw [c.K] at z
  exact z
/-- targets = e -/
theorem s_unpT (c : Cc L P w mg base k N sc fo X) {tg e : Expr} {T : Tg} {f : Ef D} (he : PE X e (tO L W f)) (hg : PG X tg (gOf L.K T)) (hs : swapsWithSole [tg] e pos.line X.env = pure false) (hw : swappedStores [tg] e (envS sc) = pure none)
    (h1 : (assignEach [tg] X.env).map (·.2) = [assign tg X.env]) : PS X (.Assign [tg] e pos) (tS L W (sUnp T f)) :=
  (ps_asg he hg hs (by rw [swapped_env, c.sc]; exact hw) h1).to fun _ _ _ h => to_unp rfl h
theorem s_setC (c : Cc L P w mg base k N sc fo X) {o i e : Expr} {fo' fi fv : Ef D} (ho : PE X o (tO L W fo')) (hi : PE X i (tO L W fi)) (he : PE X e (tO L W fv)) (hs : swapsWithSole [.Subscript o i p] e pos.line X.env = pure false) (hw : swappedStores [.Subscript o i p] e (envS sc) = pure none)
    (ha : ∀ v, assign (.Subscript o i p) X.env v = (do
      let ov ← holding [v] (eval o X.env)
      let iv ← holding [v, ov] (eval i X.env)
      standAt p
      holding [v, ov, iv] (setItem ov iv v)
      release [v, ov, iv] []))
    (h1 : (assignEach [.Subscript o i p] X.env).map (·.2) = [assign (.Subscript o i p) X.env]) : PS X (.Assign [.Subscript o i p] e pos) (tS L W (sSetC fo' fi fv)) :=
  (ps_asg he (pg_sub ho hi set_list ha) hs (by rw [swapped_env, c.sc]; exact hw) h1).to fun _ _ _ h => to_setC h
theorem y_val {e : Expr} {f : Ef D} (h : PE X e (tO L W f)) : PE X e (tX L W false f) := h
theorem y_own {e : Expr} {f : Ef D} (h : PE X e (tF L W f)) : PE X e (tX L W true f) := h
theorem s_par2 (c : Cc L P w mg base k N sc fo X) {i j : Nat} {x y : Str} {a b : Expr} {px py pt : Pos} {kt k2 pt2} {o1 o2 : Bool} {f g : Ef D} (hi : N[i]? = some x) (hj : N[j]? = some y) (hij : i ≠ j) (hx : decide (sc.names.lookup x = some .local) = true) (hy : decide (sc.names.lookup y = some .local) = true)
    (ha : PE X a (tX L W o1 f)) (hb : PE X b (tX L W o2 g)) (hp : plainArgs [a, b] = true)
    (hw : swappedStores [.Tuple [.Name x px, .Name y py] kt pt] (.Tuple [a, b] k2 pt2) (envS sc) = pure (some [x, y])) (hs : swapsWithSole [.Tuple [.Name x px, .Name y py] kt pt] (.Tuple [a, b] k2 pt2) pos.line X.env = pure false) :
    PS X (.Assign [.Tuple [.Name x px, .Name y py] kt pt] (.Tuple [a, b] k2 pt2) pos) (tS L W (sPar2 i j o1 o2 f g)) :=
  (ps_par c.calm c.nd (by rw [c.N]; exact hi) (by rw [c.N]; exact hj) hij (lcl_of c hx) (lcl_of c hy) (pa_cons ha (pa_cons hb pa_nil (star_cons (plain_tail hp))) (star_cons hp)) (by rw [swapped_env, c.sc]; exact hw) hs).to fun _ _ _ h => to_par2 h
/-! ### {k: v}, k a tuple -/
def tDispT1 (tk tv : TE) : TE := fun σ H Q => ∀ p, H p = none → tk σ (upd H p (.dT [])) fun x H1 => tv σ H1 fun y H2 => H2 p = some (.dT []) ∧ ∃ ks b, x = .ref b ∧ H2 b = some (.tup (ks.map kV)) ∧ Q (.ref p) (upd H2 p (.dT [(ks, y)]))
theorem pe_dispT1 {a b : Expr} {tk tv : TE} (hu : X.A.units + 1 < cLine) (hk : PE X a tk) (hv : PE X b tv) : PE X (.Dict [some a] [b] pos) (tDispT1 tk tv) := by
  refine ⟨fun pins s σ H Q I q => ?_⟩
  have hn := I.hok.fresh (Nat.le_refl s.heap.objs.size)
  have I1 := I.laid (a := s.heap.objs.size) (o := .dT []) (h' := s.heap.push { cls := .type "dict", data := .dict #[] }) (t' := s.toks) (fun _ _ q => Heap.get?_push_of_some _ q) (Nat.le_refl _) (dt_empty s.heap I.big)
  refine wpAny_Dict_any rfl rfl (by simp) (show 1 ≤ 15 by decide) (pairTrees_cons_walk (thn (hk.run pins _ σ _ _ I1 (q _ hn)) fun u s2 ⟨x, H1, I2, rx, q1⟩ => thn (hv.run pins s2 σ H1 _ I2 q1) fun r s3 ⟨y, H2, I3, ry, e, ks, t, ex, et, q2⟩ => pairTrees_nil_walk ?_))
  subst ex
  obtain rfl : u = Value.ref t := rx
  obtain ⟨z, hd, xs, rel, dd⟩ := dt_of I3.hok e
  unfold storeAll
  rw [List.forIn_cons]
  have hz : xs.length ≤ sizeLine := by rw [← Paired.length rel]; exact z
  refine wpAny_bind (wpAny_bind (wpAny_dictSet_heap (hsz := hz) (show (tupleKind (mixKind X.prog X.w)).room X.A from Nat.lt_of_succ_lt hu) (key_of I3.hok et) dd fun h' dd' hs => wpAny_pure ?_))
  simp only [List.forIn_nil]
  refine wpAny_pure ⟨.ref s.heap.objs.size, _, ?_, rfl, q2⟩
  obtain ⟨q, es, ep, hq, h2, h3, h4, _, h5⟩ := dd'
  refine d_write I3 (by rw [e]; exact True.intro) hs ⟨q, hq⟩ ⟨by rw [sizeLine_eq]; show 1 ≤ _; decide, hd, _, (rel.put ks et ry).keeps fun c ys ec => ?_, q, es, ep, hq, h2, h3, h4, h5⟩
  rw [upd_ne (ne_of ec e (fun z => nomatch z))]
  exact ec
def fDLitT (fk fv : Ef D) : Ef D := fun ρ S => (fk ρ S).bind fun y S1 => (fv ρ S1).bind fun v S2 => match keyT y with
  | some ks => .ok (.dcT [ks] [v]) S2
  | none => .bad
theorem to_dlitT {fk fv : Ef D} {σ : St} {H : Hp} {Q : VK} (h : tF L W (fDLitT fk fv) σ H Q) : tDispT1 (tO L W fk) (tO L W fv) σ H Q := by
  obtain ⟨μ, S, G, ρ, π, st, rel, q⟩ := h
  intro a ha
  obtain ⟨g0, m0⟩ := st.fresh ha
  obtain ⟨e0, st0⟩ := st.lay (o := .dT []) ha
  refine ⟨μ, S, G, ρ, π, st0, rel.ext e0, ?_⟩
  unfold fDLitT at q
  cases ek : fk ρ S with
  | bad => rw [ek] at q; exact q
  | exc c fs S1 => rw [ek] at q; exact fun cls d μ1 G1 H1 e1 st1 r => q cls d μ1 G1 H1 (e0.trans e1) st1 r
  | ok y S1 =>
    rw [ek] at q
    intro μ1 G1 H1 e1 st1 u ru
    refine ⟨μ1, S1, G1, ρ, π, st1, (rel.ext e0).ext e1, ?_⟩
    cases ev : fv ρ S1 with
    | bad => simp only [Out.bind, ev] at q; exact q
    | exc c fs S2 => simp only [Out.bind, ev] at q; exact fun cls d μ2 G2 H2 e2 st2 r => q cls d μ2 G2 H2 ((e0.trans e1).trans e2) st2 r
    | ok v S2 =>
      simp only [Out.bind, ev] at q
      intro μ2 G2 H2 e2 st2 w rw'
      have e12 := e1.trans e2
      have h2 : H2 a = some (.dT []) := e12.h a _ upd_same m0
      have g2 : G2 a = none := e12.n a (by rw [upd_same]; exact fun z => nomatch z) g0
      have m2 : a ∉ μ2 := e12.out upd_same m0
      refine ⟨h2, ?_⟩
      split at q
      · rename_i ks ek
        obtain ⟨t, rfl, ht⟩ := keyT_r ek (ru.ext e2)
        exact ⟨ks, t, rfl, st2.sub _ _ ht, q _ _ _ ((e0.trans e12).upd ha) (st2.upd g2 m2) a ⟨_, upd_same, rfl, Rs.cons rw' Rs.nil⟩ g2 ha m2⟩
      · exact q.elim
theorem x_dlitT (c : Cc L P w mg base k N sc fo X) {a b : Expr} {fk fv : Ef D} (ha : PE X a (tO L W fk)) (hb : PE X b (tO L W fv)) : PE X (.Dict [some a] [b] pos) (tF L W (fDLitT fk fv)) :=
  (pe_dispT1 (by have := c.rm.units; omega) ha hb).to fun _ _ _ h => to_dlitT h
end
end PyD

/-! enumerate(zip(a, b)) of two tuples, at the library's level: the zip keeps the pair that it gave out. -/
namespace EZ
open PySem PySem.Spec L2 PyProof.Rows
open RZ (nextOf_tuple_item nextOf_tuple_end call_zipT)
abbrev ZV (h : Heap) (z TI TO : Addr) (v : Value) (f : Bool) : Prop :=
  h.get? z = some { cls := .type "zip", dict := none, data := .fields #[v, .bool f, .bool false, .ref TI, .ref TO], slots := #[] }
def ZOk (v : Value) : Prop := v = .none ∨ ∃ T : Nat, v = rawInt (T : Int)
/-- a zip of two tuples: how far it is -/
def ZSt (h : Heap) (z TI TO i1 i2 l1 l2 : Addr) (k : Nat) : Prop :=
  (∃ v f, ZOk v ∧ ZV h z TI TO v f) ∧ IsPair h TI (.ref i1) (.ref i2) ∧ (∃ a b, IsPair h TO a b) ∧ h.IsTupleIter i1 l1 k ∧ h.IsTupleIter i2 l2 k
section
variable {prog : Program} {w : World} {A : Around} {E : Value → Shared → Prop} {s : Shared}
theorem ld_alive {a : Addr} {Q : Option Obj → Shared → Prop} (h : Q (s.heap.get? a) s) : wpAny (model prog w) A (loadIfAlive a) Q E s := fun _ _ _ => h
theorem own_ask {z TI TO : Addr} {v : Value} {f : Bool} {Q : Bool → Shared → Prop} (hz : ZV s.heap z TI TO v f) (hv : ZOk v) (h1 : Q true s) (h2 : ∀ h', ZV h' z TI TO v true → Heap.SameBut z s.heap h' → Q false { s with heap := h' }) :
    wpAny (model prog w) A (Builtin.SmallTypes.ownedTupleIsFree (.ref z)) Q E s := by
  unfold Builtin.SmallTypes.ownedTupleIsFree
  rcases hv with rfl | ⟨T, rfl⟩
  · exact wpAny_bind (wpAny_field hz rfl (x := .none) rfl (wpAny_pure h1))
  · refine wpAny_bind (wpAny_field hz rfl (x := rawInt T) rfl ?_)
    show wpAny _ _ (loadIfAlive ((T : Int).toNat) >>= _) _ _ _
    rw [Int.toNat_natCast]
    refine wpAny_bind (ld_alive ?_)
    cases e : s.heap.get? T with
    | none =>
      simp only [Option.isNone_none, if_true]
      exact wpAny_pure h1
    | some o =>
      simp only [Option.isNone_some, Bool.false_eq_true, if_false]
      refine wpAny_bind (wpAny_field hz rfl (x := .bool f) rfl ?_)
      cases f with
      | true =>
        rw [if_neg (show ¬ ((Value.bool true != Value.bool true) = true) from Bool.false_ne_true)]
        exact wpAny_pure (h2 s.heap hz (Heap.SameBut.refl _ _))
      | false =>
        rw [if_pos (show (Value.bool false != Value.bool true) = true from rfl)]
        exact wpAny_bind (wpAny_setField_rec hz (by simp) fun h₁ hz₁ hs₁ => wpAny_pure (h2 h₁ hz₁ hs₁))

theorem zip_item {z TI TO i1 i2 l1 l2 : Addr} {k : Nat} {xs ys : Array Value} {x y : Value} {Q : Value → Shared → Prop} (D : ZipApart z TI TO i1 i2 l1 l2)
    (st : ZSt s.heap z TI TO i1 i2 l1 l2 k) (hl1 : s.heap.IsTuple l1 xs) (hl2 : s.heap.IsTuple l2 ys) (hx : xs[k]? = some x) (hy : ys[k]? = some y)
    (hQ : ∀ h', ZSt h' z TI TO i1 i2 l1 l2 (k + 1) → IsPair h' s.heap.objs.size x y → h'.objs.size = s.heap.objs.size + 1 →
      (∀ c o, c ≠ z → c ≠ TO → c ≠ i1 → c ≠ i2 → s.heap.get? c = some o → h'.get? c = some o) → Q (.ref s.heap.objs.size) { s with heap := h' }) :
    wpAny (model prog w) A (Builtin.«zip.__next__» ⟨[.ref z], []⟩) (fun fin s' => ∃ v, fin = .done (.ret v) ∧ Q v s') E s := by
  obtain ⟨⟨v, f, hv, hz⟩, hTI, ⟨a, b, hTO⟩, h1, h2⟩ := st
  show wpAny _ _ (field (.ref z) 2 >>= _) _ _ _
  refine wpAny_bind (wpAny_field hz rfl (x := .bool false) rfl ?_)
  show wpAny _ _ (field (.ref z) 3 >>= _) _ _ _
  refine wpAny_bind (wpAny_field hz rfl (x := .ref TI) rfl ?_)
  refine wpAny_bind (wpAny_seqItems hTI rfl ?_)
  show wpAny _ _ (Builtin.SmallTypes.ownedTupleIsFree (.ref z) >>= _) _ _ _
  refine wpAny_bind (own_ask hz hv ?_ fun h₁ hz₁ hs₁ => ?_)
  · simp only [if_true]
    refine wpAny_bind (wpAny_rule ?_)
    refine wpAny_bind (wpAny_field hz rfl (x := .ref TO) rfl ?_)
    refine wpAny_bind (wpAny_setField_rec hz (by simp) fun h₁ hz₁ hs₁ => ?_)
    replace hz₁ : ZV h₁ z TI TO .ellipsis f := hz₁
    refine wpAny_bind ?_
    simp only [List.zipIdx_cons, List.zipIdx_nil, List.forIn_cons, List.forIn_nil]
    refine wpAny_bind (wpAny_bind (wpAny_onRaise ?_))
    show wpAny _ _ (Builtin.SmallTypes.nextOf (.ref i1) >>= _) _ _ _
    refine wpAny_bind (nextOf_tuple_item (s := { s with heap := h₁ }) (h1.extBut hs₁.extBut D.i1z) (hl1.extBut hs₁.extBut D.l1z) hx fun h₂ h1₂ hs₂ => wpAny_pure ?_)
    have hTO₂ : IsPair h₂ TO a b := hs₂.extBut _ _ D.TOi1 (hs₁.extBut _ _ D.TOz hTO)
    refine wpAny_bind (wpAny_seqItems hTO₂ rfl ?_)
    refine wpAny_bind (wpAny_updateSeq_pair (s := { s with heap := h₂ }) hTO₂ fun h₃ hTO₃ hs₃ => ?_)
    replace hTO₃ : IsPair h₃ TO x b := hTO₃
    refine wpAny_bind (wpAny_letGo (wpAny_pure ?_))
    refine wpAny_bind (wpAny_bind (wpAny_onRaise ?_))
    show wpAny _ _ (Builtin.SmallTypes.nextOf (.ref i2) >>= _) _ _ _
    refine wpAny_bind (nextOf_tuple_item (s := { s with heap := h₃ }) (((h2.extBut hs₁.extBut D.i2z).extBut hs₂.extBut D.i12.symm).extBut hs₃.extBut D.TOi2.symm)
      (((hl2.extBut hs₁.extBut D.l2z).extBut hs₂.extBut D.l2i1).extBut hs₃.extBut D.l2TO) hy fun h₄ h2₄ hs₄ => wpAny_pure ?_)
    have hTO₄ : IsPair h₄ TO x b := hs₄.extBut _ _ D.TOi2 hTO₃
    refine wpAny_bind (wpAny_seqItems hTO₄ rfl ?_)
    refine wpAny_bind (wpAny_updateSeq_pair (s := { s with heap := h₄ }) hTO₄ fun h₅ hTO₅ hs₅ => ?_)
    replace hTO₅ : IsPair h₅ TO x y := hTO₅
    refine wpAny_bind (wpAny_letGo (wpAny_pure (wpAny_pure ?_)))
    refine wpAny_bind (wpAny_seqItems hTO₅ rfl ?_)
    refine wpAny_bind (wpAny_newTuple ?_)
    have hsz : h₅.objs.size = s.heap.objs.size := by rw [hs₅.1, hs₄.1, hs₃.1, hs₂.1, hs₁.1]
    have hz₅ : ZV h₅ z TI TO .ellipsis f := hs₅.extBut _ _ D.TOz.symm (hs₄.extBut _ _ D.i2z.symm (hs₃.extBut _ _ D.TOz.symm (hs₂.extBut _ _ D.i1z.symm hz₁)))
    have hk₅ : ∀ c o, c ≠ z → c ≠ TO → c ≠ i1 → c ≠ i2 → s.heap.get? c = some o → h₅.get? c = some o := fun c o c1 c2 c3 c4 e =>
      hs₅.extBut _ _ c2 (hs₄.extBut _ _ c4 (hs₃.extBut _ _ c2 (hs₂.extBut _ _ c3 (hs₁.extBut _ _ c1 e))))
    have h1₅ : h₅.IsTupleIter i1 l1 (k + 1) := ((h1₂.extBut hs₃.extBut D.TOi1.symm).extBut hs₄.extBut D.i12).extBut hs₅.extBut D.TOi1.symm
    have h2₅ : h₅.IsTupleIter i2 l2 (k + 1) := h2₄.extBut hs₅.extBut D.TOi2.symm
    have hzlt : z < h₅.objs.size := Heap.lt_size hz₅
    show wpAny _ _ (Builtin.SmallTypes.ownedTupleHandOut (.ref z) (.ref h₅.objs.size) >>= _) _ _ _
    refine wpAny_bind ?_
    unfold Builtin.SmallTypes.ownedTupleHandOut
    have hz₆ : ZV (h₅.push { cls := .type "tuple", data := .seq #[x, y] }) z TI TO .ellipsis f := Heap.get?_push_of_some _ hz₅
    refine wpAny_bind (wpAny_setField_rec hz₆ (by simp) fun h₇ hz₇ hs₇ => ?_)
    replace hz₇ : ZV h₇ z TI TO (rawInt h₅.objs.size) f := hz₇
    refine wpAny_setField_rec hz₇ (by simp) fun h₈ hz₈ hs₈ => ?_
    replace hz₈ : ZV h₈ z TI TO (rawInt h₅.objs.size) false := hz₈
    have up : ∀ c o, c ≠ z → h₅.get? c = some o → h₈.get? c = some o := fun c o c1 e => hs₈.extBut _ _ c1 (hs₇.extBut _ _ c1 (Heap.get?_push_of_some _ e))
    have hT₈ : IsPair h₈ h₅.objs.size x y := hs₈.extBut _ _ (Nat.ne_of_gt hzlt) (hs₇.extBut _ _ (Nat.ne_of_gt hzlt) (Heap.get?_push_size _ rfl))
    have hz8 : h₈.objs.size = h₅.objs.size + 1 := by rw [hs₈.1, hs₇.1, Heap.size_push]
    have hTI₅ : IsPair h₅ TI (.ref i1) (.ref i2) := hk₅ _ _ D.TIz D.TITO D.TIi1 D.TIi2 hTI
    rw [hsz] at hT₈ hz8
    refine wpAny_pure ⟨_, rfl, ?_⟩
    show Q (.ref h₅.objs.size) _
    rw [hsz]
    exact hQ h₈ ⟨⟨_, _, .inr ⟨_, rfl⟩, hz₈⟩, up _ _ D.TIz hTI₅, ⟨_, _, up _ _ D.TOz hTO₅⟩, h1₅.at fun o e => up _ o D.i1z e, h2₅.at fun o e => up _ o D.i2z e⟩ hT₈ hz8 fun c o c1 c2 c3 c4 e => up c o c1 (hk₅ c o c1 c2 c3 c4 e)
  · simp only [Bool.false_eq_true, if_false]
    refine wpAny_bind ?_
    rw [← Array.forIn_toList]
    simp only [List.forIn_cons, List.forIn_nil]
    refine wpAny_bind (wpAny_bind (wpAny_holding ?_))
    show wpAny _ _ (Builtin.SmallTypes.nextOf (.ref i1) >>= _) _ _ _
    refine wpAny_bind (nextOf_tuple_item (s := { s with heap := h₁ }) (h1.extBut hs₁.extBut D.i1z) (hl1.extBut hs₁.extBut D.l1z) hx fun h₂ h1₂ hs₂ => wpAny_pure ?_)
    refine wpAny_pure ?_
    refine wpAny_bind (wpAny_bind (wpAny_holding ?_))
    show wpAny _ _ (Builtin.SmallTypes.nextOf (.ref i2) >>= _) _ _ _
    refine wpAny_bind (nextOf_tuple_item (s := { s with heap := h₂ }) ((h2.extBut hs₁.extBut D.i2z).extBut hs₂.extBut D.i12.symm) ((hl2.extBut hs₁.extBut D.l2z).extBut hs₂.extBut D.l2i1) hy fun h₃ h2₃ hs₃ => wpAny_pure ?_)
    refine wpAny_pure (wpAny_pure ?_)
    show wpAny _ _ (newTuple [x, y] >>= _) _ _ _
    refine wpAny_bind (wpAny_newTuple ?_)
    have hsz : h₃.objs.size = s.heap.objs.size := by rw [hs₃.1, hs₂.1, hs₁.1]
    have hz₃ : ZV h₃ z TI TO v true := hs₃.extBut _ _ D.i2z.symm (hs₂.extBut _ _ D.i1z.symm hz₁)
    have hk : ∀ c o, c ≠ z → c ≠ i1 → c ≠ i2 → s.heap.get? c = some o → h₃.get? c = some o := fun c o c1 c2 c3 e => hs₃.extBut _ _ c3 (hs₂.extBut _ _ c2 (hs₁.extBut _ _ c1 e))
    have h1₃ : h₃.IsTupleIter i1 l1 (k + 1) := h1₂.extBut hs₃.extBut D.i12
    refine wpAny_pure ⟨_, rfl, ?_⟩
    show Q (.ref h₃.objs.size) _
    have hp : IsPair (h₃.push { cls := .type "tuple", data := .seq #[x, y] }) h₃.objs.size x y := Heap.get?_push_size _ rfl
    have hz4 : (h₃.push { cls := .type "tuple", data := .seq #[x, y] }).objs.size = h₃.objs.size + 1 := Heap.size_push ..
    have hTI₃ := hk _ _ D.TIz D.TIi1 D.TIi2 hTI
    have hTO₃ := hk _ _ D.TOz D.TOi1 D.TOi2 hTO
    rw [hsz] at hp hz4 ⊢
    exact hQ _ ⟨⟨_, _, hv, Heap.get?_push_of_some _ hz₃⟩, Heap.get?_push_of_some _ hTI₃, ⟨_, _, Heap.get?_push_of_some _ hTO₃⟩, h1₃.at fun o e => Heap.get?_push_of_some _ e, h2₃.at fun o e => Heap.get?_push_of_some _ e⟩ hp hz4 fun c o c1 _ c2 c3 e => Heap.get?_push_of_some _ (hk c o c1 c2 c3 e)
end
end EZ

/-! enumerate(zip(a, b)) of two tuples. -/
namespace EZ
open PySem PySem.Spec L2 PyProof.Rows
open RZ (nextOf_tuple_item nextOf_tuple_end call_zipT)
section
variable {prog : Program} {w : World} {A : Around} {E : Value → Shared → Prop} {s : Shared}
theorem zip_end {z TI TO i1 i2 l1 l2 : Addr} {k : Nat} {xs ys : Array Value} {Q : Fin → Shared → Prop} (hh : A.handled = none) (D : ZipApart z TI TO i1 i2 l1 l2)
    (st : ZSt s.heap z TI TO i1 i2 l1 l2 k) (hl1 : s.heap.IsTuple l1 xs) (hl2 : s.heap.IsTuple l2 ys) (hend : xs[k]? = none ∨ ys[k]? = none)
    (hE : ∀ h' e, (∀ c o, c ≠ z → c ≠ TO → c ≠ i1 → c ≠ i2 → s.heap.get? c = some o → h'.get? c = some o) → (∃ o, h'.get? e = some o ∧ o.cls = .type "StopIteration") → E (.ref e) { s with heap := h' }) :
    wpAny (model prog w) A (Builtin.«zip.__next__» ⟨[.ref z], []⟩) Q E s := by
  obtain ⟨⟨v, f, hv, hz⟩, hTI, ⟨a, b, hTO⟩, h1, h2⟩ := st
  show wpAny _ _ (field (.ref z) 2 >>= _) _ _ _
  refine wpAny_bind (wpAny_field hz rfl (x := .bool false) rfl ?_)
  show wpAny _ _ (field (.ref z) 3 >>= _) _ _ _
  refine wpAny_bind (wpAny_field hz rfl (x := .ref TI) rfl ?_)
  refine wpAny_bind (wpAny_seqItems hTI rfl ?_)
  show wpAny _ _ (Builtin.SmallTypes.ownedTupleIsFree (.ref z) >>= _) _ _ _
  refine wpAny_bind (own_ask hz hv ?_ fun h₁ hz₁ hs₁ => ?_)
  · simp only [if_true]
    refine wpAny_bind (wpAny_rule ?_)
    refine wpAny_bind (wpAny_field hz rfl (x := .ref TO) rfl ?_)
    refine wpAny_bind (wpAny_setField_rec hz (by simp) fun h₁ hz₁ hs₁ => ?_)
    replace hz₁ : ZV h₁ z TI TO .ellipsis f := hz₁
    refine wpAny_bind ?_
    simp only [List.zipIdx_cons, List.zipIdx_nil, List.forIn_cons, List.forIn_nil]
    refine wpAny_bind (wpAny_bind (wpAny_onRaise ?_))
    show wpAny _ _ (Builtin.SmallTypes.nextOf (.ref i1) >>= _) _ _ _
    cases hx : xs[k]? with
    | none =>
      refine wpAny_bind (nextOf_tuple_end (s := { s with heap := h₁ }) hh (h1.extBut hs₁.extBut D.i1z) (hl1.extBut hs₁.extBut D.l1z) hx fun h₂ e hs₂ he => ?_)
      obtain ⟨oe, hoe, hce⟩ := he
      have hz₂ : ZV h₂ z TI TO .ellipsis f := hs₂ _ _ D.i1z.symm hz₁
      have hez : e ≠ z := fun x => by subst x; rw [hz₂] at hoe; cases hoe; simp at hce
      refine wpAny_setField_rec hz₂ (by simp) fun h₃ _ hs₃ => hE h₃ e (fun c o c1 _ c3 _ x => hs₃.extBut _ _ c1 (hs₂ _ _ c3 (hs₁.extBut _ _ c1 x))) ⟨oe, hs₃.extBut _ _ hez hoe, hce⟩
    | some x =>
      have hy : ys[k]? = none := by rcases hend with h | h; rw [hx] at h; cases h; exact h
      refine wpAny_bind (nextOf_tuple_item (s := { s with heap := h₁ }) (h1.extBut hs₁.extBut D.i1z) (hl1.extBut hs₁.extBut D.l1z) hx fun h₂ h1₂ hs₂ => wpAny_pure ?_)
      have hTO₂ : IsPair h₂ TO a b := hs₂.extBut _ _ D.TOi1 (hs₁.extBut _ _ D.TOz hTO)
      refine wpAny_bind (wpAny_seqItems hTO₂ rfl ?_)
      refine wpAny_bind (wpAny_updateSeq_pair (s := { s with heap := h₂ }) hTO₂ fun h₃ hTO₃ hs₃ => ?_)
      refine wpAny_bind (wpAny_letGo (wpAny_pure ?_))
      refine wpAny_bind (wpAny_bind (wpAny_onRaise ?_))
      show wpAny _ _ (Builtin.SmallTypes.nextOf (.ref i2) >>= _) _ _ _
      refine wpAny_bind (nextOf_tuple_end (s := { s with heap := h₃ }) hh (((h2.extBut hs₁.extBut D.i2z).extBut hs₂.extBut D.i12.symm).extBut hs₃.extBut D.TOi2.symm)
        (((hl2.extBut hs₁.extBut D.l2z).extBut hs₂.extBut D.l2i1).extBut hs₃.extBut D.l2TO) hy fun h₄ e hs₄ he => ?_)
      obtain ⟨oe, hoe, hce⟩ := he
      have hz₄ : ZV h₄ z TI TO .ellipsis f := hs₄ _ _ D.i2z.symm (hs₃.extBut _ _ D.TOz.symm (hs₂.extBut _ _ D.i1z.symm hz₁))
      have hez : e ≠ z := fun x => by subst x; rw [hz₄] at hoe; cases hoe; simp at hce
      refine wpAny_setField_rec hz₄ (by simp) fun h₅ _ hs₅ => hE h₅ e (fun c o c1 c2 c3 c4 x => hs₅.extBut _ _ c1 (hs₄ _ _ c4 (hs₃.extBut _ _ c2 (hs₂.extBut _ _ c3 (hs₁.extBut _ _ c1 x))))) ⟨oe, hs₅.extBut _ _ hez hoe, hce⟩
  · simp only [Bool.false_eq_true, if_false]
    refine wpAny_bind ?_
    rw [← Array.forIn_toList]
    simp only [List.forIn_cons, List.forIn_nil]
    refine wpAny_bind (wpAny_bind (wpAny_holding ?_))
    show wpAny _ _ (Builtin.SmallTypes.nextOf (.ref i1) >>= _) _ _ _
    cases hx : xs[k]? with
    | none =>
      refine wpAny_bind (nextOf_tuple_end (s := { s with heap := h₁ }) hh (h1.extBut hs₁.extBut D.i1z) (hl1.extBut hs₁.extBut D.l1z) hx fun h₂ e hs₂ he => ?_)
      exact hE h₂ e (fun c o c1 _ c2 _ x => hs₂ _ _ c2 (hs₁.extBut _ _ c1 x)) he
    | some x =>
      have hy : ys[k]? = none := by rcases hend with h | h; rw [hx] at h; cases h; exact h
      refine wpAny_bind (nextOf_tuple_item (s := { s with heap := h₁ }) (h1.extBut hs₁.extBut D.i1z) (hl1.extBut hs₁.extBut D.l1z) hx fun h₂ h1₂ hs₂ => wpAny_pure ?_)
      refine wpAny_pure ?_
      refine wpAny_bind (wpAny_bind (wpAny_holding ?_))
      show wpAny _ _ (Builtin.SmallTypes.nextOf (.ref i2) >>= _) _ _ _
      refine wpAny_bind (nextOf_tuple_end (s := { s with heap := h₂ }) hh ((h2.extBut hs₁.extBut D.i2z).extBut hs₂.extBut D.i12.symm) ((hl2.extBut hs₁.extBut D.l2z).extBut hs₂.extBut D.l2i1) hy fun h₃ e hs₃ he => ?_)
      exact hE h₃ e (fun c o c1 _ c2 c3 x => hs₃ _ _ c3 (hs₂.extBut _ _ c2 (hs₁.extBut _ _ c1 x))) he

theorem next_item {z TI TO i1 i2 l1 l2 : Addr} {k : Nat} {xs ys : Array Value} {x y : Value} {Q : Value → Shared → Prop} (D : ZipApart z TI TO i1 i2 l1 l2)
    (st : ZSt s.heap z TI TO i1 i2 l1 l2 k) (hl1 : s.heap.IsTuple l1 xs) (hl2 : s.heap.IsTuple l2 ys) (hx : xs[k]? = some x) (hy : ys[k]? = some y)
    (hQ : ∀ h', ZSt h' z TI TO i1 i2 l1 l2 (k + 1) → IsPair h' s.heap.objs.size x y → h'.objs.size = s.heap.objs.size + 1 →
      (∀ c o, c ≠ z → c ≠ TO → c ≠ i1 → c ≠ i2 → s.heap.get? c = some o → h'.get? c = some o) → Q (.ref s.heap.objs.size) { s with heap := h' }) :
    wpAny (model prog w) A (Builtin.SmallTypes.nextOf (.ref z)) Q E s := by
  obtain ⟨v, f, hv, hz⟩ := st.1
  have hT : s.TypeIs (.ref z) "zip" := ⟨_, hz, rfl⟩
  unfold Builtin.SmallTypes.nextOf
  refine wpAny_bind (wpAny_callSpecial?_slot (name := Str.ofString "__next__") hT F.slot_zip_next
    (wpAny_call_entry F.slot_zip_next hT F.entry_zip_next (zip_item D st hl1 hl2 hx hy fun h' a1 a2 a3 a4 => wpAny_pure (hQ h' a1 a2 a3 a4)) (F.args_zip_next_1 _)))
theorem next_end {z TI TO i1 i2 l1 l2 : Addr} {k : Nat} {xs ys : Array Value} {Q : Value → Shared → Prop} (hh : A.handled = none) (D : ZipApart z TI TO i1 i2 l1 l2)
    (st : ZSt s.heap z TI TO i1 i2 l1 l2 k) (hl1 : s.heap.IsTuple l1 xs) (hl2 : s.heap.IsTuple l2 ys) (hend : xs[k]? = none ∨ ys[k]? = none)
    (hE : ∀ h' e, (∀ c o, c ≠ z → c ≠ TO → c ≠ i1 → c ≠ i2 → s.heap.get? c = some o → h'.get? c = some o) → (∃ o, h'.get? e = some o ∧ o.cls = .type "StopIteration") → E (.ref e) { s with heap := h' }) :
    wpAny (model prog w) A (Builtin.SmallTypes.nextOf (.ref z)) Q E s := by
  obtain ⟨v, f, hv, hz⟩ := st.1
  have hT : s.TypeIs (.ref z) "zip" := ⟨_, hz, rfl⟩
  unfold Builtin.SmallTypes.nextOf
  exact wpAny_bind (wpAny_callSpecial?_slot (name := Str.ofString "__next__") hT F.slot_zip_next
    (wpAny_call_entry F.slot_zip_next hT F.entry_zip_next (zip_end hh D st hl1 hl2 hend hE) (F.args_zip_next_1 _)))

theorem enum_item {e z TI TO i1 i2 l1 l2 : Addr} {c : Int} {k : Nat} {xs ys : Array Value} {x y old : Value} {Q : Value → Shared → Prop} (D : ZipApart z TI TO i1 i2 l1 l2) (he : IsEnum s.heap e z c old) (ne : e ≠ z ∧ e ≠ TI ∧ e ≠ TO ∧ e ≠ i1 ∧ e ≠ i2)
    (st : ZSt s.heap z TI TO i1 i2 l1 l2 k) (hl1 : s.heap.IsTuple l1 xs) (hl2 : s.heap.IsTuple l2 ys) (hx : xs[k]? = some x) (hy : ys[k]? = some y)
    (hQ : ∀ h₂ h' tk, ZSt h₂ z TI TO i1 i2 l1 l2 (k + 1) → IsPair h₂ s.heap.objs.size x y → h₂.objs.size = s.heap.objs.size + 1 → (∀ c o, c ≠ z → c ≠ TO → c ≠ i1 → c ≠ i2 → s.heap.get? c = some o → h₂.get? c = some o) →
      IsEnumOut h' e z (c + 1) (.ref s.heap.objs.size) (s.heap.objs.size + 1) → h'.get? (s.heap.objs.size + 1) = some { cls := .type "tuple", data := .seq #[.int c tk, .ref s.heap.objs.size] } → h'.objs.size = s.heap.objs.size + 2 →
      (∀ b o, b ≠ e → h₂.get? b = some o → h'.get? b = some o) → Q (.ref (s.heap.objs.size + 1)) { s with heap := h', toks := tk + 1 }) :
    wpAny (model prog w) A (Builtin.«enumerate.__next__» ⟨[.ref e], []⟩) (fun fin s' => ∃ v, fin = .done (.ret v) ∧ Q v s') E s := by
  obtain ⟨hp, g, d, tk, os⟩ := s
  show wpAny _ _ (field (.ref e) 2 >>= _) _ _ _
  refine wpAny_bind (wpAny_field he rfl (x := .ref z) rfl ?_)
  refine wpAny_bind (next_item (s := ⟨hp, g, d, tk, os⟩) D st hl1 hl2 hx hy fun h₁ st₁ hP hz1 hk₁ => ?_)
  have he₁ : IsEnum h₁ e z c old := hk₁ _ _ ne.1 ne.2.2.1 ne.2.2.2.1 ne.2.2.2.2 he
  have hz1 : h₁.objs.size = hp.objs.size + 1 := hz1
  show wpAny _ _ (field (.ref e) 3 >>= _) _ _ ⟨h₁, g, d, tk, os⟩
  refine wpAny_bind (wpAny_field he₁ rfl (x := rawInt c) rfl ?_)
  show wpAny _ _ (field (.ref e) 4 >>= _) _ _ ⟨h₁, g, d, tk, os⟩
  refine wpAny_bind (wpAny_field he₁ rfl (x := .none) rfl ?_)
  show wpAny _ _ (mkInt c >>= _) _ _ ⟨h₁, g, d, tk, os⟩
  refine wpAny_bind (wpAny_mkInt ?_)
  show wpAny _ _ (setField (.ref e) 3 (rawInt (c + 1)) >>= _) _ _ ⟨h₁, g, d, tk + 1, os⟩
  refine wpAny_bind (wpAny_setField_rec he₁ (by simp) fun h₂ he₂ hs₂ => ?_)
  replace hs₂ : Heap.SameBut e h₁ h₂ := hs₂
  replace he₂ : IsEnum h₂ e z (c + 1) old := he₂
  show wpAny _ _ (setField (.ref e) 4 .none >>= _) _ _ ⟨h₂, g, d, tk + 1, os⟩
  refine wpAny_bind (wpAny_setField_rec he₂ (by simp) fun h₃ he₃ hs₃ => ?_)
  replace hs₃ : Heap.SameBut e h₂ h₃ := hs₃
  replace he₃ : IsEnum h₃ e z (c + 1) old := he₃
  show wpAny _ _ (newTuple [.int c tk, .ref hp.objs.size] >>= _) _ _ ⟨h₃, g, d, tk + 1, os⟩
  refine wpAny_bind (wpAny_newTuple ?_)
  have he₄ : IsEnum (h₃.push { cls := .type "tuple", data := .seq #[.int c tk, .ref hp.objs.size] }) e z (c + 1) old := Heap.get?_push_of_some _ he₃
  generalize hh₄ : h₃.push { cls := .type "tuple", data := .seq #[.int c tk, .ref hp.objs.size] } = h₄ at he₄
  have hsz : h₃.objs.size = hp.objs.size + 1 := by rw [hs₃.1, hs₂.1, hz1]
  have hel : e < hp.objs.size := Heap.lt_size he
  have ht₄ : h₄.get? (hp.objs.size + 1) = some { cls := .type "tuple", data := .seq #[.int c tk, .ref hp.objs.size] } := by rw [← hh₄, ← hsz]; exact Heap.get?_push_size _ rfl
  have hz₄ : h₄.objs.size = hp.objs.size + 2 := by rw [← hh₄, Heap.size_push, hsz]
  have hk₄ : ∀ b o, b ≠ e → h₁.get? b = some o → h₄.get? b = some o := fun b o hbe hb => by
    rw [← hh₄]; exact Heap.get?_push_of_some _ (hs₃.extBut b o hbe (hs₂.extBut b o hbe hb))
  show wpAny _ _ (Builtin.SmallTypes.ownedTupleIsFree (.ref e) >>= _) _ _ ⟨h₄, g, d, tk + 1, os⟩
  rw [hsz]
  clear hh₄ he₃ hs₃ he₂ hs₂ he₁ hsz h₃ h₂
  refine wpAny_bind ?_
  · unfold Builtin.SmallTypes.ownedTupleIsFree
    refine wpAny_bind (wpAny_field he₄ rfl (x := .none) rfl (wpAny_pure ?_))
    simp only [if_true]
    refine wpAny_bind (wpAny_rule ?_)
    refine wpAny_bind (wpAny_field he₄ rfl (x := old) rfl ?_)
    refine wpAny_bind (wpAny_setField_rec he₄ (by simp) fun h₅ he₅ hs₅ => ?_)
    replace hs₅ : Heap.SameBut e h₄ h₅ := hs₅
    replace he₅ : IsEnum h₅ e z (c + 1) (.ref hp.objs.size) := he₅
    show wpAny _ _ (Builtin.SmallTypes.ownedTupleHandOut (.ref e) (.ref (hp.objs.size + 1)) >>= _) _ _ ⟨h₅, g, d, tk + 1, os⟩
    refine wpAny_bind ?_
    · unfold Builtin.SmallTypes.ownedTupleHandOut
      refine wpAny_bind (wpAny_setField_rec he₅ (by simp) fun h₆ he₆ hs₆ => ?_)
      replace hs₆ : Heap.SameBut e h₅ h₆ := hs₆
      replace he₆ : IsEnumOut h₆ e z (c + 1) (.ref hp.objs.size) (hp.objs.size + 1) := he₆
      refine wpAny_setField_rec he₆ (by simp) fun h₇ he₇ hs₇ => ?_
      replace hs₇ : Heap.SameBut e h₆ h₇ := hs₇
      replace he₇ : IsEnumOut h₇ e z (c + 1) (.ref hp.objs.size) (hp.objs.size + 1) := he₇
      refine wpAny_bind (wpAny_letGo (wpAny_pure ⟨_, rfl, hQ h₁ h₇ tk st₁ hP hz1 hk₁ he₇ ?_ ?_ ?_⟩))
      · have ne1 : hp.objs.size + 1 ≠ e := Nat.ne_of_gt (Nat.lt_succ_of_lt hel)
        exact hs₇.extBut _ _ ne1 (hs₆.extBut _ _ ne1 (hs₅.extBut _ _ ne1 ht₄))
      · rw [hs₇.1, hs₆.1, hs₅.1, hz₄]
      · exact fun b o hbe hb => hs₇.extBut b o hbe (hs₆.extBut b o hbe (hs₅.extBut b o hbe (hk₄ b o hbe hb)))
theorem pyNext_item {e z TI TO i1 i2 l1 l2 : Addr} {c : Int} {k : Nat} {xs ys : Array Value} {x y old : Value} {Q : Option Value → Shared → Prop} (D : ZipApart z TI TO i1 i2 l1 l2) (he : IsEnum s.heap e z c old) (ne : e ≠ z ∧ e ≠ TI ∧ e ≠ TO ∧ e ≠ i1 ∧ e ≠ i2)
    (st : ZSt s.heap z TI TO i1 i2 l1 l2 k) (hl1 : s.heap.IsTuple l1 xs) (hl2 : s.heap.IsTuple l2 ys) (hx : xs[k]? = some x) (hy : ys[k]? = some y)
    (hQ : ∀ h₂ h' tk, ZSt h₂ z TI TO i1 i2 l1 l2 (k + 1) → IsPair h₂ s.heap.objs.size x y → h₂.objs.size = s.heap.objs.size + 1 → (∀ c o, c ≠ z → c ≠ TO → c ≠ i1 → c ≠ i2 → s.heap.get? c = some o → h₂.get? c = some o) →
      IsEnumOut h' e z (c + 1) (.ref s.heap.objs.size) (s.heap.objs.size + 1) → h'.get? (s.heap.objs.size + 1) = some { cls := .type "tuple", data := .seq #[.int c tk, .ref s.heap.objs.size] } → h'.objs.size = s.heap.objs.size + 2 →
      (∀ b o, b ≠ e → h₂.get? b = some o → h'.get? b = some o) → Q (some (.ref (s.heap.objs.size + 1))) { s with heap := h', toks := tk + 1 }) :
    wpAny (model prog w) A (pyNext (.ref e)) Q E s := by
  have hT : s.TypeIs (.ref e) "enumerate" := ⟨_, he, rfl⟩
  unfold pyNext
  exact wpAny_bind (wpAny_attempt (wpAny_callSpecial?_slot (name := Str.ofString "__next__") hT F.slot_enumerate_next
    (wpAny_call_entry F.slot_enumerate_next hT F.entry_enumerate_next
      (enum_item D he ne st hl1 hl2 hx hy fun h₂ h' tk a b c d k q r t => wpAny_pure (hQ h₂ h' tk a b c d k q r t)) (F.args_enumerate_next_1 _))))
theorem pyNext_end {e z TI TO i1 i2 l1 l2 : Addr} {c : Int} {k : Nat} {xs ys : Array Value} {old : Value} {Q : Option Value → Shared → Prop} (hh : A.handled = none) (D : ZipApart z TI TO i1 i2 l1 l2) (he : IsEnum s.heap e z c old)
    (st : ZSt s.heap z TI TO i1 i2 l1 l2 k) (hl1 : s.heap.IsTuple l1 xs) (hl2 : s.heap.IsTuple l2 ys) (hend : xs[k]? = none ∨ ys[k]? = none)
    (hQ : ∀ h', (∀ c o, c ≠ z → c ≠ TO → c ≠ i1 → c ≠ i2 → s.heap.get? c = some o → h'.get? c = some o) → Q none { s with heap := h' }) : wpAny (model prog w) A (pyNext (.ref e)) Q E s := by
  have hT : s.TypeIs (.ref e) "enumerate" := ⟨_, he, rfl⟩
  unfold pyNext
  refine wpAny_bind (wpAny_attempt (wpAny_callSpecial?_slot (name := Str.ofString "__next__") hT F.slot_enumerate_next
    (wpAny_call_entry F.slot_enumerate_next hT F.entry_enumerate_next ?_ (F.args_enumerate_next_1 _))))
  show wpAny _ _ (field (.ref e) 2 >>= _) _ _ _
  refine wpAny_bind (wpAny_field he rfl (x := .ref z) rfl ?_)
  refine wpAny_bind (next_end hh D st hl1 hl2 hend fun h' x he' hx' => ?_)
  obtain ⟨o, ho, hc⟩ := hx'
  refine wpAny_bind (wpAny_isInstance (T := "StopIteration") (b := true) ⟨o, ho, hc⟩ isSubtype_stop ?_)
  exact wpAny_pure (hQ _ he')
end
/-- enumerate(z) of a zip -/
theorem meets_enum_zip (z TI TO : Addr) :
    Meets (Builtin.«enumerate.__new__» ⟨[.type "enumerate", .ref z], []⟩) (fun _ R s => IsZip s.heap z TI TO .none ∧
      R (.ok (.ret (.ref s.heap.objs.size))) { s with heap := s.heap.push { cls := .type "enumerate", data := .fields #[.none, .bool false, .ref z, rawInt 0, .none, .none] } }) :=
  .of_wp fun prog w A R s h => by
    obtain ⟨hp, g, d, tk, os⟩ := s; obtain ⟨hz, h⟩ := h
    have hsub := sub_enumerate
    have q1 : ∀ {A' : Around} {E : Value → Shared → Prop} {Q : Value → Shared → Prop}, Q (.ref z) ⟨hp, g, d, tk, os⟩ → wpAny (model prog w) A' (pyIter (.ref z)) Q E ⟨hp, g, d, tk, os⟩ :=
      fun q => wpAny_pyIter_zip (s := ⟨hp, g, d, tk, os⟩) hz q
    wp_walk using q1
    refine wpAny_stack_any fun st => wpAny_pure ?_
    split
    · rename_i c _ _ _ _ _
      cases (c == Value.type "enumerate")
      · wp_walk using q1
        exact ⟨_, rfl, h⟩
      · wp_walk using q1
        exact ⟨_, rfl, h⟩
    · wp_walk using q1
      exact ⟨_, rfl, h⟩
theorem call_enum_zip {prog : Program} {w : World} {A : Around} {E : Value → Shared → Prop} {s : Shared} {z TI TO : Addr} {Q : Value → Shared → Prop} (hz : IsZip s.heap z TI TO .none)
    (h : ∀ h', IsEnum h' s.heap.objs.size z 0 .none → h'.objs.size = s.heap.objs.size + 1 → (∀ b o, s.heap.get? b = some o → h'.get? b = some o) → Q (.ref s.heap.objs.size) { s with heap := h' }) :
    wpAny (model prog w) A (call (.type "enumerate") [.ref z]) Q E s := by
  refine callType_new F.called_enumerate (by decide) (F.typeCall_enumerate_1 _) (F.newCall_enumerate_1 _) (fun obj => F.args_object_init_2 obj _) F.entry_enumerate_new
    (meets_enum_zip z TI TO) ⟨hz, ?_⟩
  have he : IsEnum (s.heap.push { cls := .type "enumerate", data := .fields #[.none, .bool false, .ref z, rawInt 0, .none, .none] }) s.heap.objs.size z 0 .none := Heap.get?_push_size _ rfl
  exact ⟨⟨_, he, rfl⟩, h _ he (Heap.size_push ..) fun b o x => Heap.get?_push_of_some _ x⟩
end EZ

/-! enumerate(zip(a, b)) of two tuples, walked. -/
namespace EZ
open PySem PySem.Spec L2 PyProof.Rows
open RZ (call_zipT)
/-- the tuples at a and b as they stand at each turn: (i, (x, y)), both pairs new -/
def Itez (K : PySem.W.Frag) (a b : Addr) : It :=
  ⟨fun i H => ∃ (xs ys : List V) (x y : V), SqT K H a xs ∧ SqT K H b ys ∧ xs[i]? = some x ∧ ys[i]? = some y,
    fun i H v H' => ∃ T1 T2 x y, v = .ref T2 ∧ T1 ≠ T2 ∧ H T1 = none ∧ H T2 = none ∧ H' = upd (upd H T1 (.tup [x, y])) T2 (.tup [.int (i : Nat), .ref T1]) ∧ (∀ xs, SqT K H a xs → xs[i]? = some x) ∧ ∀ ys, SqT K H b ys → ys[i]? = some y,
    fun i H => ∃ xs ys : List V, SqT K H a xs ∧ SqT K H b ys ∧ (xs.length ≤ i ∨ ys.length ≤ i)⟩
theorem turn_ez {P : Program} {w : World} {K : PySem.W.Frag} {elts : List Expr} {kk : Nat} {tpos : Pos} {a b e z TI TO i1 i2 : Addr} (D : ZipApart z TI TO i1 i2 a b) (ne : e ≠ z ∧ e ≠ TI ∧ e ≠ TO ∧ e ≠ i1 ∧ e ≠ i2) :
    Turn P w K (.Tuple elts kk tpos) (Itez K a b) [e, z, TI, TO, i1, i2] e (fun i h => (∃ old, IsEnum h e z ((i : Nat) : Int) old) ∧ ZSt h z TI TO i1 i2 a b i) where
  mem := by simp
  obj := fun i h st c hc => by
    obtain ⟨⟨old, he⟩, ⟨v, f, hv, hz⟩, hTI, ⟨x, y, hTO⟩, ⟨o1, e1, _, d1⟩, ⟨o2, e2, _, d2⟩⟩ := st
    have e' : c = e ∨ c = z ∨ c = TI ∨ c = TO ∨ c = i1 ∨ c = i2 := by simpa using hc
    rcases e' with q | q | q | q | q | q
    · rw [q]; exact ⟨_, he, fun v q => nomatch q⟩
    · rw [q]; exact ⟨_, hz, fun v q => nomatch q⟩
    · rw [q]; exact ⟨_, hTI, fun v q => nomatch q⟩
    · rw [q]; exact ⟨_, hTO, fun v q => nomatch q⟩
    · rw [q]; exact ⟨o1, e1, fun v q => by rw [d1] at q; cases q⟩
    · rw [q]; exact ⟨o2, e2, fun v q => by rw [d2] at q; cases q⟩
  keep := fun i h h' st k => by
    obtain ⟨⟨old, he⟩, ⟨v, f, hv, hz⟩, hTI, ⟨x, y, hTO⟩, h1, h2⟩ := st
    exact ⟨⟨old, k e (by simp) _ he⟩, ⟨v, f, hv, k z (by simp) _ hz⟩, k TI (by simp) _ hTI, ⟨x, y, k TO (by simp) _ hTO⟩, h1.at fun o q => k i1 (by simp) o q, h2.at fun o q => k i2 (by simp) o q⟩
  item := by
    intro X hP hw hK hc i pins s σ H E I hf st hg
    subst hP hw hK
    obtain ⟨⟨old, he⟩, zst⟩ := st
    obtain ⟨xs, ys, x, y, hqx, hqy, hx, hy⟩ := hg
    obtain ⟨its, rv, p, _⟩ := I.tuple hqx
    obtain ⟨its2, rv2, p2, _⟩ := I.tuple hqy
    obtain ⟨u, hu, ru⟩ := rv.get hx
    obtain ⟨u2, hu2, ru2⟩ := rv2.get hy
    refine pyNext_item D he ne zst p p2 (x := u) (y := u2) (by simpa using hu) (by simpa using hu2) fun h₂ h' tk zst2 hP1 hsz2 hk2 he' hT2 hsz' hk' => ?_
    refine ⟨_, rfl, wpAny_letOwnedTupleGo_enum (s := { s with heap := h', toks := tk + 1 }) he' fun h'' he'' sb => ?_⟩
    have hlt : ∀ c ∈ [e, z, TI, TO, i1, i2], c < s.heap.objs.size := fun c hc => by
      obtain ⟨⟨v, f, hv, hz⟩, hTI, ⟨x, y, hTO⟩, ⟨o1, e1, _⟩, ⟨o2, e2, _⟩⟩ := zst
      have e' : c = e ∨ c = z ∨ c = TI ∨ c = TO ∨ c = i1 ∨ c = i2 := by simpa using hc
      rcases e' with q | q | q | q | q | q
      · rw [q]; exact Heap.lt_size he
      · rw [q]; exact Heap.lt_size hz
      · rw [q]; exact Heap.lt_size hTI
      · rw [q]; exact Heap.lt_size hTO
      · rw [q]; exact Heap.lt_size e1
      · rw [q]; exact Heap.lt_size e2
    have hel := hlt e (by simp)
    -- the first pair
    have new1 : ObjOk X.prog X.w (upd H s.heap.objs.size (.tup [x, y])) h₂ s.heap.objs.size (.tup [x, y]) :=
      ⟨by show 2 ≤ sizeLine; decide, [u, u2], .cons ru (.cons ru2 .nil), ⟨_, hP1, rfl, _, rfl⟩⟩
    have I1 : Inv X pins σ (upd H s.heap.objs.size (.tup [x, y])) { s with heap := h₂ } :=
      I.turnedNew (t' := s.toks) (ch := [z, TI, TO, i1, i2]) (fun c o hb q => hk2 c o (fun q' => hb (by simp [q'])) (fun q' => hb (by simp [q'])) (fun q' => hb (by simp [q'])) (fun q' => hb (by simp [q'])) q) (fun c hc => hf c (List.mem_cons_of_mem _ hc)) (Nat.le_refl _) new1
    -- the second
    have hT3 : h''.get? (s.heap.objs.size + 1) = some { cls := .type "tuple", data := .seq #[.int i tk, .ref s.heap.objs.size] } := (sb.2 _ (Nat.ne_of_gt (Nat.lt_succ_of_lt hel))).trans hT2
    have new2 : ObjOk X.prog X.w (upd (upd H s.heap.objs.size (.tup [x, y])) (s.heap.objs.size + 1) (.tup [.int (i : Nat), .ref s.heap.objs.size])) h'' (s.heap.objs.size + 1) (.tup [.int (i : Nat), .ref s.heap.objs.size]) :=
      ⟨by show 2 ≤ sizeLine; decide, [.int i tk, .ref s.heap.objs.size], .cons ⟨_, rfl⟩ (.cons rfl .nil), ⟨_, hT3, rfl, _, rfl⟩⟩
    have fp1 : ∀ c ∈ [e], FpOk X pins (upd H s.heap.objs.size (.tup [x, y])) c := fun c hc => by
      have hce : c = e := by simpa using hc
      subst hce
      obtain ⟨f0, f1⟩ := hf c (by simp)
      exact ⟨by rw [upd_ne (Nat.ne_of_lt hel)]; exact f0, f1⟩
    have I2 : Inv X pins σ (upd (upd H s.heap.objs.size (.tup [x, y])) (s.heap.objs.size + 1) (.tup [.int (i : Nat), .ref s.heap.objs.size])) { s with heap := h'', toks := tk + 1 } :=
      I1.turnedNew (t' := tk + 1) (ch := [e]) (fun c o hb q => (sb.2 c (fun q' => hb (by simp [q']))).trans (hk' c o (fun q' => hb (by simp [q'])) q)) fp1 (by show h₂.objs.size ≤ _; rw [hsz2]; exact Nat.le_refl _) new2
    refine ⟨.ref (s.heap.objs.size + 1), _, I2, rfl, ⟨s.heap.objs.size, s.heap.objs.size + 1, x, y, rfl, (Nat.succ_ne_self _).symm, I.hok.fresh (Nat.le_refl _), I.hok.fresh (Nat.le_succ _), rfl, fun l hl => by rw [I.tuple_inj hl hqx]; exact hx, fun l hl => by rw [I.tuple_inj hl hqy]; exact hy⟩, ⟨⟨Value.ref s.heap.objs.size, ?_⟩, ?_⟩, fun c hcm => ?_⟩
    · have e1 : ((i + 1 : Nat) : Int) = (i : Int) + 1 := by omega
      rw [e1]; exact he''
    · have up : ∀ c o, c ≠ e → h₂.get? c = some o → h''.get? c = some o := fun c o hc q => (sb.2 c hc).trans (hk' c o hc q)
      obtain ⟨⟨v, f, hv, hz⟩, hTI, ⟨x, y, hTO⟩, h1, h2⟩ := zst2
      exact ⟨⟨v, f, hv, up _ _ ne.1.symm hz⟩, up _ _ ne.2.1.symm hTI, ⟨x, y, up _ _ ne.2.2.1.symm hTO⟩, h1.at fun o q => up _ o ne.2.2.2.1.symm q, h2.at fun o q => up _ o ne.2.2.2.2.symm q⟩
    · have hl := hlt c hcm
      rw [upd_ne (Nat.ne_of_lt (Nat.lt_succ_of_lt hl)), upd_ne (Nat.ne_of_lt hl)]
      exact (hf c hcm).1
  done := by
    intro X hP hw hK hc i pins s σ H E I hf st hg
    subst hP hw hK
    obtain ⟨⟨old, he⟩, zst⟩ := st
    obtain ⟨xs, ys, hqx, hqy, hend⟩ := hg
    obtain ⟨its, rv, p, _⟩ := I.tuple hqx
    obtain ⟨its2, rv2, p2, _⟩ := I.tuple hqy
    have l1 := rv.length
    have l2 := rv2.length
    have hn : its.toArray[i]? = none ∨ its2.toArray[i]? = none := by
      rcases hend with q | q
      · exact .inl (by simp; omega)
      · exact .inr (by simp; omega)
    exact pyNext_end (I.ok.hd hc) D he zst p p2 hn fun h' hk => ⟨rfl, I.turnedL (t' := s.toks) (ch := [e, z, TI, TO, i1, i2]) (fun c o hb q =>
      hk c o (fun q' => hb (by simp [q'])) (fun q' => hb (by simp [q'])) (fun q' => hb (by simp [q'])) (fun q' => hb (by simp [q'])) q) hf⟩
  self := fun A i s Q E st h => let ⟨⟨_, he⟩, _⟩ := st; wpAny_pyIter_enum he h
def iEZ (K : PySem.W.Frag) (ta : TA) : TI := fun σ H R => ta σ H fun vs H1 => ∃ a b xs ys, vs = [.ref a, .ref b] ∧ SqT K H1 a xs ∧ SqT K H1 b ys ∧ R (Itez K a b) H1
theorem pi_ez {X : Cx} {e e2 : Expr} {ta : TA} {p p2 pos pos2 tpos : Pos} {elts : List Expr} {kk : Nat} (hgE : Gl X "enumerate") (hmE : X.mg "enumerate" = none) (hg : Gl X "zip") (hm : X.mg "zip" = none) (ha : PA X [e, e2] ta)
    (hs : starEach [e, e2] X.env = (false, eval e X.env) :: starEach [e2] X.env := by rfl) (hpl : (backTo pos (starEach [e2] X.env)).any (·.1) = false := by rfl) :
    PI X (.Tuple elts kk tpos) (.Call (.Name "enumerate" p2) [.Call (.Name "zip" p) [e, e2] [] pos] [] pos2) (iEZ X.K ta) := by
  refine ⟨fun pins s σ H R I h => ?_⟩
  refine Call_ (ld_blt I hgE hmE boot_enumerate (PyProof.Rows.callWith_type1 ?_ rfl rfl))
  show wpAny _ _ (spliced ((false, eval (.Call (.Name "zip" p) [e, e2] [] pos) X.env) :: backTo pos2 (starEach [] X.env))) _ _ s
  refine Calls.spliced_cons ?_
  refine Call_ (ld_blt I hg hm PyProof.Rows.boot_zip (PyProof.Rows.callWith_type1 (thn (ha.run pos pins s σ H _ I h) fun us s1 ⟨vs, H1, I1, r1, q1⟩ => ?_) hs hpl))
  obtain ⟨a, b, xs, ys, ex, hqx, hqy, q⟩ := q1
  subst ex
  cases r1 with
  | cons r rr =>
    cases rr with
    | cons r' rr =>
      cases rr
      cases r
      cases r'
      obtain ⟨its, rv, p1, _⟩ := I1.tuple hqx
      obtain ⟨its2, rv2, p3, _⟩ := I1.tuple hqy
      obtain ⟨o1, ho1, _⟩ := id p1
      obtain ⟨o2, ho2, _⟩ := id p3
      refine call_zipT (show s1.heap.IsTuple a its.toArray from p1) (show s1.heap.IsTuple b its2.toArray from p3) fun h' hz hTI hTO h1 h2 hsz hk => ?_
      refine Calls.spliced_nil ?_
      refine call_enum_zip (s := { s1 with heap := h' }) hz fun h'' he hsz2 hk2 => wpAny_pyIter_enum he ?_
      have I2 : Inv X pins σ H1 { s1 with heap := h'' } := I1.kept (t' := s1.toks) fun b o e => hk2 b o (hk b o e)
      have D := PySem.W.ktu_apart s1.heap.objs.size a b (Heap.lt_size ho1) (Heap.lt_size ho2)
      have hE : h'.objs.size = s1.heap.objs.size + 5 := hsz
      refine ⟨h'.objs.size, [h'.objs.size, s1.heap.objs.size + 4, s1.heap.objs.size + 2, s1.heap.objs.size + 3, s1.heap.objs.size, s1.heap.objs.size + 1], _, _, H1, rfl, I2, turn_ez (a := a) (b := b) D ?_, ⟨⟨_, he⟩, ⟨.none, false, .inl rfl, hk2 _ _ hz⟩, hk2 _ _ hTI, ⟨_, _, hk2 _ _ hTO⟩, h1.at fun o q => hk2 _ o q, h2.at fun o q => hk2 _ o q⟩, fun c hcm => ?_, q⟩
      · rw [hE]
        have g : ∀ n m : Nat, n ≠ m → s1.heap.objs.size + n ≠ s1.heap.objs.size + m := fun n m h => by omega
        exact ⟨g 5 4 (by decide), g 5 2 (by decide), g 5 3 (by decide), g 5 0 (by decide), g 5 1 (by decide)⟩
      · have hle : s1.heap.objs.size ≤ c := by
          rw [hE] at hcm
          have e' : c = s1.heap.objs.size + 5 ∨ c = s1.heap.objs.size + 4 ∨ c = s1.heap.objs.size + 2 ∨ c = s1.heap.objs.size + 3 ∨ c = s1.heap.objs.size ∨ c = s1.heap.objs.size + 1 := by simpa using hcm
          rcases e' with z | z | z | z | z | z
          · rw [z]; exact Nat.le_add_right _ _
          · rw [z]; exact Nat.le_add_right _ _
          · rw [z]; exact Nat.le_add_right _ _
          · rw [z]; exact Nat.le_add_right _ _
          · rw [z]; exact Nat.le_refl _
          · rw [z]; exact Nat.le_add_right _ _
        exact I1.fpOk hle (I1.hok.fresh hle)
end EZ

/-! PyD: enumerate(zip(a, b)). -/
namespace PyD
open PySem PySem.Spec L2
section
variable {L : Lk} {X : Cx} {σ : St} {H : Hp} {μ : List Addr} {S : List D} {G : Hp} {W : WX} {ρ : List Sl} {π : Nat → Option Addr}
/-- (i, (x, y)) for each of two tuples -/
def fEZ (fl : Ef (List D)) : Ef (List D) := fun ρ S => (fl ρ S).bind fun xs S1 => match xs with
  | [.tup xs, .tup ys] => .ok (pairs0 0 (pairsZ xs ys)) S1
  | _ => .bad
theorem to_ez {a b : Expr} {elts : List Expr} {kk : Nat} {p p2 pos pos2 tpos : Pos} {fl : Ef (List D)} (hK : X.K = L.K) (hgE : Gl X "enumerate") (hmE : X.mg "enumerate" = none) (hg : Gl X "zip") (hm : X.mg "zip" = none) (ha : PA X [a, b] (tA L W fl)) (hp : plainArgs [a, b] = true) :
    PI X (.Tuple elts kk tpos) (.Call (.Name "enumerate" p2) [.Call (.Name "zip" p) [a, b] [] pos] [] pos2) (tIG L W (fEZ fl)) :=
  (EZ.pi_ez hgE hmE hg hm ha (star_cons hp) (star_none (plain_tail hp))).to fun σ H Rk h => by
    obtain ⟨μ, S, G, ρ, π, st, rel, q⟩ := h
    refine ⟨μ, S, G, ρ, π, st, rel, q.split.imp fun ds S1 μ1 G1 H1 e1 st1 p1 vs rv => ?_⟩
    split at p1
    · rename_i xs ys
      obtain ⟨v, ws, rfl, r1, rv⟩ := rv.cons_inv
      obtain ⟨w, us, rfl, r2, rv⟩ := rv.cons_inv
      have := rv.nil_inv
      subst this
      unfold R at r1 r2
      obtain ⟨b1, vx, rfl, q1, w1⟩ := r1
      obtain ⟨b2, vy, rfl, q2, w2⟩ := r2
      refine ⟨b1, b2, vx, vy, rfl, SqT.of (st1.sub _ _ q1), SqT.of (st1.sub _ _ q2), p1 μ1 G1 H1 (.refl _ _ _) st1 _ fun i μ' G' H' hm s1 s2 => ?_⟩
      have h1 : SqT X.K H' b1 vx := SqT.of (s2 _ _ (s1 _ _ q1))
      have h2 : SqT X.K H' b2 vy := SqT.of (s2 _ _ (s1 _ _ q2))
      have l1 := w1.length
      have l2 := w2.length
      have lz := pairsZ_len xs ys
      have lp := pairs0_len (pairsZ xs ys) 0
      refine ⟨fun hi => ?_, fun hi => ⟨vx, vy, h1, h2, by omega⟩, fun x H2 hi ⟨T1, T2, y, z, e3, ne, hT1, hT2, e4, hy, hz⟩ => ?_⟩
      · exact ⟨vx, vy, vx[i]'(by omega), vy[i]'(by omega), h1, h2, List.getElem?_eq_getElem _, List.getElem?_eq_getElem _⟩
      · obtain ⟨u1, f1, r1⟩ := w1.get (i := i) (List.getElem?_eq_getElem (by omega))
        obtain ⟨u2, f2, r2⟩ := w2.get (i := i) (List.getElem?_eq_getElem (by omega))
        have g1 := hy vx h1
        have g2 := hz vy h2
        rw [f1] at g1
        rw [f2] at g2
        cases g1
        cases g2
        refine ⟨.tup [.int ((0 + i : Nat) : Int), .tup [xs[i]'(by omega), ys[i]'(by omega)]], pairs0_get _ 0 i _ (pairsZ_get (List.getElem?_eq_getElem _) (List.getElem?_eq_getElem _)), .inr (.inr ⟨T1, T2, [y, z], [xs[i]'(by omega), ys[i]'(by omega)], ((i : Nat) : Int), e3, ne, hT1, hT2, e4, ?_, Rs.cons (R.mono hm s1 _ _ r1) (Rs.cons (R.mono hm s1 _ _ r2) Rs.nil)⟩)⟩
        rw [Nat.zero_add]
    · exact p1.elim
end
section
variable {L : Lk} {P : Program} {w : World} {mg : Str → Option Value} {base : Heap} {k j : Nat} {N : List Str} {sc : Scope} {fo : Str → Bool} {X : Cx} {W : WX} {pos p p2 apos py spos pt : Pos}
theorem i_ez (c : Cc L P w mg base k N sc fo X) {a b : Expr} {elts : List Expr} {kk : Nat} {pos2 p3 : Pos} {fl : Ef (List D)} (hmE : mg "enumerate" = none) (hgE : glb sc "enumerate" = true) (hm : mg "zip" = none) (hg : glb sc "zip" = true) (ha : PA X [a, b] (tA L W fl)) (hp : plainArgs [a, b] = true) :
    PI X (.Tuple elts kk p2) (.Call (.Name "enumerate" p3) [.Call (.Name "zip" p) [a, b] [] pos] [] pos2) (tIG L W (fEZ fl)) :=
  to_ez c.K (gl_of c hgE).1 (by rw [c.mg]; exact hmE) (gl_of c hg).1 (by rw [c.mg]; exact hm) ha hp
end
end PyD

namespace K29
open PySem PySem.Spec L2 PyD
def top (i : Nat) : Stmt := PySem.Challenge.pw_leastcases_k29_cuts_in_order.main.body.getD i (.Pass ⟨0, 0, 0, 0⟩)
abbrev s_is_row : Stmt := top 5
abbrev s_is_number : Stmt := top 6
abbrev s_is_below : Stmt := top 7
abbrev s_sets_of : Stmt := top 8
abbrev s_Alike_bool : Stmt := inClass (top 18) 1
abbrev s_Differs_bool : Stmt := inClass (top 19) 1
abbrev s_EndsLong_bool : Stmt := inClass (top 40) 1
abbrev s_EndsShort_bool : Stmt := inClass (top 39) 1
abbrev s_Longer_bool : Stmt := inClass (top 36) 1
abbrev s_Shortest_bool : Stmt := inClass (top 35) 1
abbrev s_is_answer : Stmt := top 16
abbrev s_Machine_init : Stmt := inClass (top 15) 0
abbrev s_Machine_commands : Stmt := inClass (top 15) 2
abbrev s_Machine_run : Stmt := inClass (top 15) 3
abbrev s_check_two : Stmt := top 17
abbrev s_Alike_init : Stmt := inClass (top 18) 0
abbrev s_Differs_init : Stmt := inClass (top 19) 0
abbrev s_fails : Stmt := top 20
abbrev s_judge_machine : Stmt := top 21
abbrev s_runs_of : Stmt := top 22
abbrev s_failing_runs : Stmt := top 23
abbrev s_check_failing : Stmt := top 27
abbrev s_check_ways : Stmt := top 28
abbrev s_tried : Stmt := top 30
abbrev s_shorter : Stmt := top 29
abbrev s_cut_down : Stmt := top 31
abbrev s_is_end : Stmt := top 32
abbrev s_least_parts : Stmt := top 33
abbrev s_matter : Stmt := top 34
abbrev s_Shortest_init : Stmt := inClass (top 35) 0
abbrev s_Longer_init : Stmt := inClass (top 36) 0
abbrev s_judge_run : Stmt := top 37
abbrev s_ends_of : Stmt := top 38
abbrev s_EndsShort_init : Stmt := inClass (top 39) 0
abbrev s_EndsShort_eq : Stmt := inClass (top 39) 2
abbrev s_EndsLong_init : Stmt := inClass (top 40) 0
abbrev s_judge_ways : Stmt := top 41
abbrev s_first_failure : Stmt := top 42
abbrev s_u_law_number : Stmt := top 44
abbrev s_u_law_take : Stmt := top 45
abbrev s_u_law_machine : Stmt := top 46
abbrev s_u_law_bent : Stmt := top 47
abbrev s_law : Stmt := top 48
def k_MOST_STATES : D := .int 8
def k_MOST_COMMANDS : D := .int 4
def k_MOST_RUN_machines : D := .int 12
def k_MOST_ANSWER : D := .int 1000
def k_WAYS : D := .ktp [.str "one", .str "half", .str "tail"]
def k_MOST_RUN_commands : D := .int 12
def a_rows : Nat → Option Nat := (adC 1 0 noC)
def a_run : Nat → Option Nat := (adC 3 0 (adC 5 0 (adC 6 0 noC)))
def a_runs : Nat → Option Nat := (adC 0 0 noC)
def isi_list_tuple : Kd → Option Bool
  | .non => some false
  | .bl => some false
  | .int => some false
  | .str => some false
  | .tup => some true
  | .lst => some true
  | .dct => some false
  | _ => none
def isi_int : Kd → Option Bool
  | .non => some false
  | .bl => some true
  | .int => some true
  | .str => some false
  | .tup => some false
  | .lst => some false
  | .dct => some false
  | _ => none
def isi_bool : Kd → Option Bool
  | .non => some false
  | .bl => some true
  | .int => some false
  | .str => some false
  | .tup => some false
  | .lst => some false
  | .dct => some false
  | _ => none
def isi_Machine : Kd → Option Bool
  | .ins 1 => some true
  | _ => none
def isi_str : Kd → Option Bool
  | .non => some false
  | .bl => some false
  | .int => some false
  | .str => some true
  | .tup => some false
  | .lst => some false
  | .dct => some false
  | _ => none
def isi_EndsShort : Kd → Option Bool
  | .ins 0 => some true
  | _ => none
abbrev N_is_row : List Str := ["thing"]
abbrev P_is_row : List Str := ["thing"]
def b_is_row_0 : Es := (sRet (fOne (opIsi isi_list_tuple) (fLook 0)))
def b_is_row : Es := b_is_row_0
def c_is_row : Cl := runFn 1 1 b_is_row
abbrev N_is_number : List Str := ["thing"]
abbrev P_is_number : List Str := ["thing"]
def b_is_number_0 : Es := (sRet (fAndV (fOne (opIsi isi_int) (fLook 0)) (fAndV (fNotV (fOne (opIsi isi_bool) (fLook 0))) (fTwo opGe (fLook 0) (fLit (.int 0))))))
def b_is_number : Es := b_is_number_0
def c_is_number : Cl := runFn 1 1 b_is_number
abbrev N_is_below : List Str := ["thing", "bound"]
abbrev P_is_below : List Str := ["thing", "bound"]
def b_is_below_0 : Es := (sRet (fAndV (fCall 1 c_is_number (fCons (fVar 0) fNil)) (fTwo opLt (fLook 0) (fLook 1))))
def b_is_below : Es := b_is_below_0
def c_is_below : Cl := runFn 2 2 b_is_below
abbrev N_sets_of : List Str := ["things", "found", "size", "one", "first", "row", "late"]
abbrev P_sets_of : List Str := ["things"]
def b_sets_of_0 : Es := (sOwn 1 (fLst (fCons (fTup fNil) fNil)))
def b_sets_of_1 : Es := (sFor (fRng1 (fOne opLen (fLook 0))) (.one 2) (sFor (fItemsG (fLc (.one 5) [5] (fItemsG (fLook 1)) (fBl (fTwo opEq (fOne opLen (fLook 5)) (fLook 2))) (fVar 5))) (.one 3) (sSeq (sAsg 4 (fIfV (fBl (fTwo opNe (fLook 3) (fTup fNil))) (fTwo opAdd (fIdx (fLook 0) (fTwo opIx (fLook 3) (fNeg (fLit (.int 1))))) (fLit (.int 1))) (fLit (.int 0))))
    (sExt 1 (fLc (.one 6) [6] (fItemsG (fSl (fLook 0) (some (fVar 4)) none)) fYes (fTup (fStar (fLook 3) (fCons (fVar 6) fNil))))))))
def b_sets_of_2 : Es := (sRetO 1)
def b_sets_of : Es := (sSeq b_sets_of_0 (sSeq b_sets_of_1 b_sets_of_2))
def c_sets_of : Cl := runFn 1 7 b_sets_of
abbrev N_Alike_bool : List Str := ["self"]
abbrev P_Alike_bool : List Str := ["self"]
def b_Alike_bool_0 : Es := (sRet (fLit (.bl true)))
def b_Alike_bool : Es := b_Alike_bool_0
def c_Alike_bool : Cl := runFn 1 1 b_Alike_bool
abbrev N_Differs_bool : List Str := ["self"]
abbrev P_Differs_bool : List Str := ["self"]
def b_Differs_bool_0 : Es := (sRet (fLit (.bl false)))
def b_Differs_bool : Es := b_Differs_bool_0
def c_Differs_bool : Cl := runFn 1 1 b_Differs_bool
abbrev N_EndsLong_bool : List Str := ["self"]
abbrev P_EndsLong_bool : List Str := ["self"]
def b_EndsLong_bool_0 : Es := (sRet (fLit (.bl false)))
def b_EndsLong_bool : Es := b_EndsLong_bool_0
def c_EndsLong_bool : Cl := runFn 1 1 b_EndsLong_bool
abbrev N_EndsShort_bool : List Str := ["self"]
abbrev P_EndsShort_bool : List Str := ["self"]
def b_EndsShort_bool_0 : Es := (sRet (fLit (.bl true)))
def b_EndsShort_bool : Es := b_EndsShort_bool_0
def c_EndsShort_bool : Cl := runFn 1 1 b_EndsShort_bool
abbrev N_Longer_bool : List Str := ["self"]
abbrev P_Longer_bool : List Str := ["self"]
def b_Longer_bool_0 : Es := (sRet (fLit (.bl false)))
def b_Longer_bool : Es := b_Longer_bool_0
def c_Longer_bool : Cl := runFn 1 1 b_Longer_bool
abbrev N_Shortest_bool : List Str := ["self"]
abbrev P_Shortest_bool : List Str := ["self"]
def b_Shortest_bool_0 : Es := (sRet (fLit (.bl true)))
def b_Shortest_bool : Es := b_Shortest_bool_0
def c_Shortest_bool : Cl := runFn 1 1 b_Shortest_bool
abbrev N_is_answer : List Str := ["pair", "many"]
abbrev P_is_answer : List Str := ["pair", "many"]
def b_is_answer_0 : Es := (sRet (fAndV (fCall 1 c_is_row (fCons (fVar 0) fNil)) (fAndV (fTwo opEq (fOne opLen (fLook 0)) (fLit (.int 2))) (fAndV (fCall 2 c_is_below (fCons (fTwo opIx (fLook 0) (fLit (.int 0))) (fCons (fLit k_MOST_ANSWER) fNil))) (fCall 2 c_is_below (fCons (fTwo opIx (fLook 0) (fLit (.int 1))) (fCons (fVar 1) fNil)))))))
def b_is_answer : Es := b_is_answer_0
def c_is_answer : Cl := runFn 2 2 b_is_answer
def tm : Nat → Option Cl := (adC 2 c_Alike_bool (adC 3 c_Differs_bool (adC 4 c_Shortest_bool (adC 5 c_Longer_bool (adC 0 c_EndsShort_bool (adC 6 c_EndsLong_bool noC))))))
abbrev N_Machine_init : List Str := ["self", "rows", "many", "state", "row", "command", "pair"]
abbrev P_Machine_init : List Str := ["self", "rows"]
def b_Machine_init_0 : Es := (sIf (fOrT (fNotT (fTru tm (fCall 1 c_is_row (fCons (fVar 1) fNil)))) (fOrT (fNotT (fBl (fChain opLe opLe (fLit (.int 1)) (fOne opLen (fLook 1)) (fLit k_MOST_STATES)))) (fNotT (fTru tm (fOne (opAllT tm) (fLc (.one 4) [4] (fItemsG (fLook 1)) fYes (fCall 1 c_is_row (fCons (fVar 4) fNil)))))))) sBad sSkip)
def b_Machine_init_1 : Es := (sAsg 2 (fOne opLen (fTwo opIx (fLook 1) (fLit (.int 0)))))
def b_Machine_init_2 : Es := (sIf (fNotT (fBl (fChain opLe opLe (fLit (.int 1)) (fLook 2) (fLit k_MOST_COMMANDS)))) sBad sSkip)
def b_Machine_init_3 : Es := (sFor (fEnum (fVar 1)) (.many [3, 4]) (sSeq (sIf (fBl (fTwo opNe (fOne opLen (fLook 4)) (fLook 2))) sBad sSkip)
    (sFor (fEnum (fVar 4)) (.many [5, 6]) (sIf (fNotT (fTru tm (fCall 2 c_is_answer (fCons (fVar 6) (fCons (fOne opLen (fLook 1)) fNil))))) sBad sSkip))))
def b_Machine_init_4 : Es := (sFldC 0 1 0 (fOne opTuple (fLc (.one 4) [4] (fItemsG (fLook 1)) fYes (fOne opTuple (fLc (.one 6) [6] (fItemsG (fLook 4)) fYes (fOne opTuple (fLook 6)))))))
def b_Machine_init : Es := (sSeq b_Machine_init_0 (sSeq b_Machine_init_1 (sSeq b_Machine_init_2 (sSeq b_Machine_init_3 b_Machine_init_4))))
def c_Machine_init : Cl := insOnly 1 (runIn 1 2 7 b_Machine_init)
abbrev N_Machine_commands : List Str := ["self"]
abbrev P_Machine_commands : List Str := ["self"]
def b_Machine_commands_0 : Es := (sRet (fOne opLen (fTwo opIx (fFld a_rows (fLook 0)) (fLit (.int 0)))))
def b_Machine_commands : Es := b_Machine_commands_0
def c_Machine_commands : Cl := runFn 1 1 b_Machine_commands
def mt_commands : Nat → Option (Nat × Cl) := (adC 1 (1, c_Machine_commands) noC)
abbrev N_Machine_run : List Str := ["self", "run", "state", "found", "command", "answer"]
abbrev P_Machine_run : List Str := ["self", "run"]
def b_Machine_run_0 : Es := (sIf (fNotT (fTru tm (fCall 1 c_is_row (fCons (fVar 1) fNil)))) sBad sSkip)
def b_Machine_run_1 : Es := (sPar2 2 3 false true (fLit (.int 0)) (fLst fNil))
def b_Machine_run_2 : Es := (sFor (fItemsG (fVar 1)) (.one 4) (sSeq (sIf (fNotT (fTru tm (fCall 2 c_is_below (fCons (fVar 4) (fCons (fMeth mt_commands (fVar 0) fNil) fNil))))) sBad sSkip)
    (sSeq (sUnp (.many [5, 2]) (fTwo opIx (fTwo opIx (fFld a_rows (fLook 0)) (fLook 2)) (fLook 4)))
    (sApp 3 (fVar 5)))))
def b_Machine_run_3 : Es := (sRet (fOne opTuple (fLook 3)))
def b_Machine_run : Es := (sSeq b_Machine_run_0 (sSeq b_Machine_run_1 (sSeq b_Machine_run_2 b_Machine_run_3)))
def c_Machine_run : Cl := runFn 2 6 b_Machine_run
abbrev N_check_two : List Str := ["model", "machine", "one"]
abbrev P_check_two : List Str := ["model", "machine"]
def b_check_two_0 : Es := (sFor (fItemsG (fTup (fCons (fVar 0) (fCons (fVar 1) fNil)))) (.one 2) (sIf (fNotT (fTru tm (fOne (opIsi isi_Machine) (fLook 2)))) sBad sSkip))
def b_check_two_1 : Es := (sIf (fBl (fTwo opNe (fMeth mt_commands (fVar 0) fNil) (fMeth mt_commands (fVar 1) fNil))) sBad sSkip)
def b_check_two : Es := (sSeq b_check_two_0 b_check_two_1)
def c_check_two : Cl := runFn 2 3 b_check_two
abbrev N_Alike_init : List Str := ["self", "pairs"]
abbrev P_Alike_init : List Str := ["self", "pairs"]
def b_Alike_init_0 : Es := (sFldC 0 2 0 (fVar 1))
def b_Alike_init : Es := b_Alike_init_0
def c_Alike_init : Cl := insOnly 2 (runIn 2 2 2 b_Alike_init)
abbrev N_Differs_init : List Str := ["self", "run"]
abbrev P_Differs_init : List Str := ["self", "run"]
def b_Differs_init_0 : Es := (sFldC 0 3 0 (fOne opTuple (fLook 1)))
def b_Differs_init : Es := b_Differs_init_0
def c_Differs_init : Cl := insOnly 3 (runIn 3 2 2 b_Differs_init)
def mt_run : Nat → Option (Nat × Cl) := (adC 1 (2, c_Machine_run) noC)
abbrev N_fails : List Str := ["model", "machine", "run"]
abbrev P_fails : List Str := ["model", "machine", "run"]
def b_fails_0 : Es := (sDrop (fCall 2 c_check_two (fCons (fVar 0) (fCons (fVar 1) fNil))))
def b_fails_1 : Es := (sRet (fTwo opNe (fMeth mt_run (fVar 0) (fCons (fVar 2) fNil)) (fMeth mt_run (fVar 1) (fCons (fVar 2) fNil))))
def b_fails : Es := (sSeq b_fails_0 b_fails_1)
def c_fails : Cl := runFn 3 3 b_fails
abbrev N_judge_machine : List Str := ["model", "machine", "line", "met", "one", "other", "run", "command", "mine", "theirs", "late"]
abbrev P_judge_machine : List Str := ["model", "machine"]
def b_judge_machine_0 : Es := (sDrop (fCall 2 c_check_two (fCons (fVar 0) (fCons (fVar 1) fNil))))
def b_judge_machine_1 : Es := (sPar2 2 3 false true (fNew (fLst (fCons (fTup (fCons (fTup (fCons (fLit (.int 0)) (fCons (fLit (.int 0)) fNil))) (fCons (fTup fNil) fNil))) fNil))) (fDLitT (fTup (fCons (fLit (.int 0)) (fCons (fLit (.int 0)) fNil))) (fLit (.bl true))))
def b_judge_machine_2 : Es := (sWhl 300 (fBl (fTwo opNe (fLook 2) (fLst fNil))) (sSeq (sUnp (.two (.many [4, 5]) (.one 6)) (fPop (fVar 2) (fLit (.int 0))))
    (sFor (fRng1 (fMeth mt_commands (fVar 0) fNil)) (.one 7) (sSeq (sPar 8 9 (fCons (fTwo opIx (fTwo opIx (fFld a_rows (fLook 0)) (fLook 4)) (fLook 7)) (fCons (fTwo opIx (fTwo opIx (fFld a_rows (fLook 1)) (fLook 5)) (fLook 7)) fNil)))
    (sSeq (sIf (fBl (fTwo opNe (fTwo opIx (fLook 8) (fLit (.int 0))) (fTwo opIx (fLook 9) (fLit (.int 0))))) (sRet (fMake 2 c_Differs_init (fCons (fTup (fStar (fLook 6) (fCons (fVar 7) fNil))) fNil))) sSkip)
    (sSeq (sAsg 10 (fTup (fCons (fTwo opIx (fLook 8) (fLit (.int 1))) (fCons (fTwo opIx (fLook 9) (fLit (.int 1))) fNil))))
    (sIf (fBl (fTwo opNotInT (fLook 10) (fLook 3))) (sSeq (sPutT 3 (fVar 10) (fLit (.bl true)))
    (sDrop (fAppC (fVar 2) (fTup (fCons (fVar 10) (fCons (fTup (fStar (fLook 6) (fCons (fVar 7) fNil))) fNil)))))) sSkip)))))))
def b_judge_machine_3 : Es := (sRet (fMake 2 c_Alike_init (fCons (fOne opDLenT (fLook 3)) fNil)))
def b_judge_machine : Es := (sSeq b_judge_machine_0 (sSeq b_judge_machine_1 (sSeq b_judge_machine_2 b_judge_machine_3)))
def c_judge_machine : Cl := runFn 2 11 b_judge_machine
abbrev N_runs_of : List Str := ["machine", "most", "found", "line", "turn", "run", "command"]
abbrev P_runs_of : List Str := ["machine", "most"]
def b_runs_of_0 : Es := (sIf (fNotT (fTru tm (fOne (opIsi isi_Machine) (fLook 0)))) sBad sSkip)
def b_runs_of_1 : Es := (sIf (fNotT (fTru tm (fCall 2 c_is_below (fCons (fVar 1) (fCons (fTwo opAdd (fLit k_MOST_RUN_machines) (fLit (.int 1))) fNil))))) sBad sSkip)
def b_runs_of_2 : Es := (sPar2 2 3 true false (fLst (fCons (fTup fNil) fNil)) (fLst (fCons (fTup fNil) fNil)))
def b_runs_of_3 : Es := (sFor (fRng1 (fVar 1)) (.one 4) (sSeq (sAsg 3 (fLc2 (.one 5) [5, 6] (fItemsG (fLook 3)) fYes [6] (fRng1 (fMeth mt_commands (fVar 0) fNil)) (.one 6) fYes (fTup (fStar (fLook 5) (fCons (fVar 6) fNil)))))
    (sSeq (sExt 2 (fVar 3))
    (sIf (fBl (fTwo opGt (fOne opLen (fLook 2)) (fLit (.int 20000)))) sBad sSkip))))
def b_runs_of_4 : Es := (sRetO 2)
def b_runs_of : Es := (sSeq b_runs_of_0 (sSeq b_runs_of_1 (sSeq b_runs_of_2 (sSeq b_runs_of_3 b_runs_of_4))))
def c_runs_of : Cl := runFn 2 7 b_runs_of
abbrev N_failing_runs : List Str := ["model", "machine", "most", "run"]
abbrev P_failing_runs : List Str := ["model", "machine", "most"]
def b_failing_runs_0 : Es := (sDrop (fCall 2 c_check_two (fCons (fVar 0) (fCons (fVar 1) fNil))))
def b_failing_runs_1 : Es := (sRet (fLc (.one 3) [3] (fItemsG (fCall 2 c_runs_of (fCons (fVar 0) (fCons (fVar 2) fNil)))) (fTru tm (fCall 3 c_fails (fCons (fVar 0) (fCons (fVar 1) (fCons (fVar 3) fNil))))) (fVar 3)))
def b_failing_runs : Es := (sSeq b_failing_runs_0 b_failing_runs_1)
def c_failing_runs : Cl := runFn 3 4 b_failing_runs
abbrev N_check_failing : List Str := ["model", "machine", "run"]
abbrev P_check_failing : List Str := ["model", "machine", "run"]
def b_check_failing_0 : Es := (sDrop (fCall 2 c_check_two (fCons (fVar 0) (fCons (fVar 1) fNil))))
def b_check_failing_1 : Es := (sDrop (fMeth mt_run (fVar 0) (fCons (fVar 2) fNil)))
def b_check_failing_2 : Es := (sIf (fOrT (fBl (fTwo opGt (fOne opLen (fLook 2)) (fLit k_MOST_RUN_commands))) (fNotT (fTru tm (fCall 3 c_fails (fCons (fVar 0) (fCons (fVar 1) (fCons (fVar 2) fNil))))))) sBad sSkip)
def b_check_failing : Es := (sSeq b_check_failing_0 (sSeq b_check_failing_1 b_check_failing_2))
def c_check_failing : Cl := runFn 3 3 b_check_failing
abbrev N_check_ways : List Str := ["ways", "way"]
abbrev P_check_ways : List Str := ["ways"]
def b_check_ways_0 : Es := (sIf (fOrT (fNotT (fTru tm (fCall 1 c_is_row (fCons (fVar 0) fNil)))) (fNotT (fTru tm (fOne (opAllT tm) (fLc (.one 1) [1] (fItemsG (fLook 0)) fYes (fAndV (fOne (opIsi isi_str) (fLook 1)) (fTwo opIn (fLook 1) (fLit k_WAYS)))))))) sBad sSkip)
def b_check_ways : Es := b_check_ways_0
def c_check_ways : Cl := runFn 1 2 b_check_ways
abbrev N_tried : List Str := ["way", "run", "at"]
abbrev P_tried : List Str := ["way", "run"]
def b_tried_0 : Es := (sIf (fBl (fTwo opEq (fLook 0) (fLit (.str "one")))) (sRet (fLc (.one 2) [2] (fRng1 (fOne opLen (fLook 1))) fYes (fTup (fStar (fSl (fLook 1) none (some (fVar 2))) (fStar (fSl (fLook 1) (some (fTwo opAdd (fLook 2) (fLit (.int 1)))) none) fNil))))) sSkip)
def b_tried_1 : Es := (sIf (fBl (fTwo opEq (fLook 0) (fLit (.str "half")))) (sRet (fLst (fCons (fSl (fLook 1) (some (fTwo opDiv (fOne opLen (fLook 1)) (fLit (.int 2)))) none) (fCons (fSl (fLook 1) none (some (fTwo opDiv (fOne opLen (fLook 1)) (fLit (.int 2))))) fNil)))) sSkip)
def b_tried_2 : Es := (sRet (fLc (.one 2) [2] (fRng1 (fOne opLen (fLook 1))) fYes (fSl (fLook 1) none (some (fVar 2)))))
def b_tried : Es := (sSeq b_tried_0 (sSeq b_tried_1 b_tried_2))
def c_tried : Cl := runFn 2 3 b_tried
abbrev N_shorter : List Str := ["ways", "run", "found", "way", "late"]
abbrev P_shorter : List Str := ["ways", "run"]
def b_shorter_0 : Es := (sOwn 2 fDNewT)
def b_shorter_1 : Es := (sFor (fItemsG (fVar 0)) (.one 3) (sFor (fItemsG (fCall 2 c_tried (fCons (fVar 3) (fCons (fOne opTuple (fLook 1)) fNil)))) (.one 4) (sIf (fBl (fTwo opLt (fOne opLen (fLook 4)) (fOne opLen (fLook 1)))) (sPutT 2 (fVar 4) (fLit (.bl true))) sSkip)))
def b_shorter_2 : Es := (sRet (fOne opListT (fLook 2)))
def b_shorter : Es := (sSeq b_shorter_0 (sSeq b_shorter_1 b_shorter_2))
def c_shorter : Cl := runFn 2 5 b_shorter
abbrev N_cut_down : List Str := ["model", "machine", "run", "ways", "found", "rows", "late"]
abbrev P_cut_down : List Str := ["model", "machine", "run", "ways"]
def b_cut_down_0 : Es := (sDrop (fCall 3 c_check_failing (fCons (fVar 0) (fCons (fVar 1) (fCons (fVar 2) fNil)))))
def b_cut_down_1 : Es := (sDrop (fCall 1 c_check_ways (fCons (fVar 3) fNil)))
def b_cut_down_2 : Es := (sOwn 4 (fLst (fCons (fOne opTuple (fLook 2)) fNil)))
def b_cut_down_3 : Es := (sWhl 100 (fTru tm (fLit (.bl true))) (sSeq (sAsg 5 (fLc (.one 6) [6] (fItemsG (fCall 2 c_shorter (fCons (fVar 3) (fCons (fTwo opIx (fLook 4) (fNeg (fLit (.int 1)))) fNil)))) (fTru tm (fCall 3 c_fails (fCons (fVar 0) (fCons (fVar 1) (fCons (fVar 6) fNil))))) (fVar 6)))
    (sSeq (sIf (fBl (fTwo opEq (fLook 5) (fLst fNil))) (sRetO 4) sSkip)
    (sApp 4 (fTwo opIx (fLook 5) (fLit (.int 0)))))))
def b_cut_down : Es := (sSeq b_cut_down_0 (sSeq b_cut_down_1 (sSeq b_cut_down_2 b_cut_down_3)))
def c_cut_down : Cl := runFn 4 7 b_cut_down
abbrev N_is_end : List Str := ["model", "machine", "run", "ways", "late"]
abbrev P_is_end : List Str := ["model", "machine", "run", "ways"]
def b_is_end_0 : Es := (sDrop (fCall 3 c_check_failing (fCons (fVar 0) (fCons (fVar 1) (fCons (fVar 2) fNil)))))
def b_is_end_1 : Es := (sDrop (fCall 1 c_check_ways (fCons (fVar 3) fNil)))
def b_is_end_2 : Es := (sRet (fNotV (fOne (opAnyT tm) (fLc (.one 4) [4] (fItemsG (fCall 2 c_shorter (fCons (fVar 3) (fCons (fVar 2) fNil)))) fYes (fCall 3 c_fails (fCons (fVar 0) (fCons (fVar 1) (fCons (fVar 4) fNil))))))))
def b_is_end : Es := (sSeq b_is_end_0 (sSeq b_is_end_1 b_is_end_2))
def c_is_end : Cl := runFn 4 5 b_is_end
abbrev N_least_parts : List Str := ["model", "machine", "run", "found", "some", "less", "at"]
abbrev P_least_parts : List Str := ["model", "machine", "run"]
def b_least_parts_0 : Es := (sDrop (fCall 3 c_check_failing (fCons (fVar 0) (fCons (fVar 1) (fCons (fVar 2) fNil)))))
def b_least_parts_1 : Es := (sOwn 3 (fLst fNil))
def b_least_parts_2 : Es := (sFor (fItemsG (fCall 1 c_sets_of (fCons (fRgL (fOne opLen (fLook 2))) fNil))) (.one 4) (sIf (fNotT (fTru tm (fOne (opAnyT tm) (fLc (.one 5) [5] (fItemsG (fLook 3)) fYes (fOne (opAllT tm) (fLc (.one 6) [6] (fItemsG (fLook 5)) fYes (fTwo opIn (fLook 6) (fLook 4)))))))) (sIf (fTru tm (fCall 3 c_fails (fCons (fVar 0) (fCons (fVar 1) (fCons (fLc (.one 6) [6] (fItemsG (fLook 4)) fYes (fTwo opIx (fLook 2) (fLook 6))) fNil))))) (sApp 3 (fVar 4)) sSkip) sSkip))
def b_least_parts_3 : Es := (sRetO 3)
def b_least_parts : Es := (sSeq b_least_parts_0 (sSeq b_least_parts_1 (sSeq b_least_parts_2 b_least_parts_3)))
def c_least_parts : Cl := runFn 3 7 b_least_parts
abbrev N_matter : List Str := ["model", "machine", "run", "rows", "at", "some"]
abbrev P_matter : List Str := ["model", "machine", "run"]
def b_matter_0 : Es := (sAsg 3 (fCall 3 c_least_parts (fCons (fVar 0) (fCons (fVar 1) (fCons (fVar 2) fNil)))))
def b_matter_1 : Es := (sRet (fLc (.one 4) [4] (fRng1 (fOne opLen (fLook 2))) (fTru tm (fOne (opAllT tm) (fLc (.one 5) [5] (fItemsG (fLook 3)) fYes (fTwo opIn (fLook 4) (fLook 5))))) (fVar 4)))
def b_matter : Es := (sSeq b_matter_0 b_matter_1)
def c_matter : Cl := runFn 3 6 b_matter
abbrev N_Shortest_init : List Str := ["self", "many"]
abbrev P_Shortest_init : List Str := ["self", "many"]
def b_Shortest_init_0 : Es := (sFldC 0 4 0 (fVar 1))
def b_Shortest_init : Es := b_Shortest_init_0
def c_Shortest_init : Cl := insOnly 4 (runIn 4 2 2 b_Shortest_init)
abbrev N_Longer_init : List Str := ["self", "run"]
abbrev P_Longer_init : List Str := ["self", "run"]
def b_Longer_init_0 : Es := (sFldC 0 5 0 (fOne opTuple (fLook 1)))
def b_Longer_init : Es := b_Longer_init_0
def c_Longer_init : Cl := insOnly 5 (runIn 5 2 2 b_Longer_init)
abbrev N_judge_run : List Str := ["model", "machine", "run", "best"]
abbrev P_judge_run : List Str := ["model", "machine", "run"]
def b_judge_run_0 : Es := (sDrop (fCall 3 c_check_failing (fCons (fVar 0) (fCons (fVar 1) (fCons (fVar 2) fNil)))))
def b_judge_run_1 : Es := (sAsg 3 (fFld a_run (fCall 2 c_judge_machine (fCons (fVar 0) (fCons (fVar 1) fNil)))))
def b_judge_run_2 : Es := (sRet (fIfV (fBl (fTwo opEq (fOne opLen (fLook 3)) (fOne opLen (fLook 2)))) (fMake 2 c_Shortest_init (fCons (fOne opLen (fLook 2)) fNil)) (fMake 2 c_Longer_init (fCons (fVar 3) fNil))))
def b_judge_run : Es := (sSeq b_judge_run_0 (sSeq b_judge_run_1 b_judge_run_2))
def c_judge_run : Cl := runFn 3 4 b_judge_run
abbrev N_ends_of : List Str := ["model", "machine", "most", "ways", "rows", "run"]
abbrev P_ends_of : List Str := ["model", "machine", "most", "ways"]
def b_ends_of_0 : Es := (sDrop (fCall 2 c_check_two (fCons (fVar 0) (fCons (fVar 1) fNil))))
def b_ends_of_1 : Es := (sDrop (fCall 1 c_check_ways (fCons (fVar 3) fNil)))
def b_ends_of_2 : Es := (sAsg 4 (fLc (.one 5) [5] (fItemsG (fCall 2 c_runs_of (fCons (fVar 0) (fCons (fVar 2) fNil)))) (fTru tm (fCall 3 c_fails (fCons (fVar 0) (fCons (fVar 1) (fCons (fVar 5) fNil))))) (fVar 5)))
def b_ends_of_3 : Es := (sRet (fLc (.one 5) [5] (fItemsG (fLook 4)) (fTru tm (fCall 4 c_is_end (fCons (fVar 0) (fCons (fVar 1) (fCons (fVar 5) (fCons (fVar 3) fNil)))))) (fVar 5)))
def b_ends_of : Es := (sSeq b_ends_of_0 (sSeq b_ends_of_1 (sSeq b_ends_of_2 b_ends_of_3)))
def c_ends_of : Cl := runFn 4 6 b_ends_of
abbrev N_EndsShort_init : List Str := ["self", "runs"]
abbrev P_EndsShort_init : List Str := ["self", "runs"]
def b_EndsShort_init_0 : Es := (sFldC 0 0 0 (fVar 1))
def b_EndsShort_init : Es := b_EndsShort_init_0
def c_EndsShort_init : Cl := insOnly 0 (runIn 0 2 2 b_EndsShort_init)
abbrev N_EndsShort_eq : List Str := ["self", "other"]
abbrev P_EndsShort_eq : List Str := ["self", "other"]
def b_EndsShort_eq_0 : Es := (sRet (fAndV (fOne (opIsi isi_EndsShort) (fLook 1)) (fTwo opEq (fFld a_runs (fLook 0)) (fFld a_runs (fLook 1)))))
def b_EndsShort_eq : Es := b_EndsShort_eq_0
def c_EndsShort_eq : Cl := runFn 2 2 b_EndsShort_eq
abbrev N_EndsLong_init : List Str := ["self", "run"]
abbrev P_EndsLong_init : List Str := ["self", "run"]
def b_EndsLong_init_0 : Es := (sFldC 0 6 0 (fOne opTuple (fLook 1)))
def b_EndsLong_init : Es := b_EndsLong_init_0
def c_EndsLong_init : Cl := insOnly 6 (runIn 6 2 2 b_EndsLong_init)
abbrev N_judge_ways : List Str := ["model", "machine", "most", "ways", "rows", "late", "run"]
abbrev P_judge_ways : List Str := ["model", "machine", "most", "ways"]
def b_judge_ways_0 : Es := (sAsg 4 (fCall 4 c_ends_of (fCons (fVar 0) (fCons (fVar 1) (fCons (fVar 2) (fCons (fVar 3) fNil))))))
def b_judge_ways_1 : Es := (sAsg 5 (fLc (.one 6) [6] (fItemsG (fLook 4)) (fBl (fTwo opGt (fOne opLen (fLook 6)) (fOne opLen (fTwo opIx (fLook 4) (fLit (.int 0)))))) (fVar 6)))
def b_judge_ways_2 : Es := (sIf (fBl (fTwo opNe (fLook 5) (fLst fNil))) (sRet (fMake 2 c_EndsLong_init (fCons (fTwo opIx (fLook 5) (fLit (.int 0))) fNil))) sSkip)
def b_judge_ways_3 : Es := (sRet (fMake 2 c_EndsShort_init (fCons (fOne opLen (fLc (.one 6) [6] (fItemsG (fCall 2 c_runs_of (fCons (fVar 0) (fCons (fVar 2) fNil)))) (fTru tm (fCall 3 c_fails (fCons (fVar 0) (fCons (fVar 1) (fCons (fVar 6) fNil))))) (fVar 6))) fNil)))
def b_judge_ways : Es := (sSeq b_judge_ways_0 (sSeq b_judge_ways_1 (sSeq b_judge_ways_2 b_judge_ways_3)))
def c_judge_ways : Cl := runFn 4 7 b_judge_ways
abbrev N_first_failure : List Str := ["model", "machine", "run", "at", "mine", "theirs"]
abbrev P_first_failure : List Str := ["model", "machine", "run"]
def b_first_failure_0 : Es := (sDrop (fCall 2 c_check_two (fCons (fVar 0) (fCons (fVar 1) fNil))))
def b_first_failure_1 : Es := (sFor (fEZ (fCons (fMeth mt_run (fVar 0) (fCons (fVar 2) fNil)) (fCons (fMeth mt_run (fVar 1) (fCons (fVar 2) fNil)) fNil))) (.two (.one 3) (.many [4, 5])) (sIf (fBl (fTwo opNe (fLook 4) (fLook 5))) (sRet (fVar 3)) sSkip))
def b_first_failure_2 : Es := (sRet (fLit .non))
def b_first_failure : Es := (sSeq b_first_failure_0 (sSeq b_first_failure_1 b_first_failure_2))
def c_first_failure : Cl := runFn 3 6 b_first_failure
abbrev N_u_law_number : List Str := ["script", "index", "cell", "turn", "rest", "step", "blend"]
abbrev P_u_law_number : List Str := ["script", "index"]
def b_u_law_number_0 : Es := (sUnp (.many [2, 3]) (fIfV (fBl (fTwo opNe (fLook 0) (fLst fNil))) (fTup (fCons (fTwo opIx (fLook 0) (fTwo opMod (fLook 1) (fOne opLen (fLook 0)))) (fCons (fTwo opDiv (fLook 1) (fOne opLen (fLook 0))) fNil))) (fTup (fCons (fLit (.int 12345)) (fCons (fLit (.int 0)) fNil)))))
def b_u_law_number_1 : Es := (sAsg 4 (fIfV (fBl (fTwo opLt (fLook 3) (fLit (.int 60)))) (fTwo opSub (fLook 2) (fTwo opPow (fLit (.int 10)) (fLit (.int 18)))) (fLit (.int 0))))
def b_u_law_number_2 : Es := (sFor (fRng1 (fTwo opMod (fOne opInt (fLook 3)) (fLit (.int 60)))) (.one 5) (sAsg 4 (fTwo opDiv (fLook 4) (fLit (.int 1009)))))
def b_u_law_number_3 : Es := (sIf (fBl (fTwo opGt (fLook 4) (fLit (.int 0)))) (sRet (fTwo opMod (fOne opInt (fLook 4)) (fLit (.int 1009)))) sSkip)
def b_u_law_number_4 : Es := (sAsg 6 (fTwo opMod (fTwo opAdd (fTwo opMul (fOne opInt (fTwo opAdd (fLook 2) (fTwo opMul (fLit (.int 977)) (fLook 1)))) (fLit (.int 48271))) (fTwo opMul (fLit (.int 31)) (fOne opLen (fLook 0)))) (fLit (.int 2147483647))))
def b_u_law_number_5 : Es := (sAsg 6 (fTwo opMod (fTwo opAdd (fTwo opMul (fLook 6) (fLook 6)) (fTwo opMul (fLit (.int 40503)) (fLook 1))) (fLit (.int 2147483629))))
def b_u_law_number_6 : Es := (sRet (fOne opInt (fTwo opMod (fTwo opAdd (fTwo opMul (fLook 6) (fLit (.int 69621))) (fTwo opDiv (fLook 6) (fLit (.int 977)))) (fLit (.int 2147483587)))))
def b_u_law_number : Es := (sSeq b_u_law_number_0 (sSeq b_u_law_number_1 (sSeq b_u_law_number_2 (sSeq b_u_law_number_3 (sSeq b_u_law_number_4 (sSeq b_u_law_number_5 b_u_law_number_6))))))
def c_u_law_number : Cl := runFn 2 7 b_u_law_number
abbrev N_u_law_take : List Str := ["draw", "many"]
abbrev P_u_law_take : List Str := ["draw", "many"]
def b_u_law_take_0 : Es := (sAugC 0 1 1)
def b_u_law_take_1 : Es := (sRet (fTwo opMod (fOne opInt (fCall 2 c_u_law_number (fCons (fTwo opIx (fLook 0) (fLit (.int 0))) (fCons (fOne opInt (fTwo opIx (fLook 0) (fLit (.int 1)))) fNil)))) (fLook 1)))
def b_u_law_take : Es := (sSeq b_u_law_take_0 b_u_law_take_1)
def c_u_law_take : Cl := runFn 2 2 b_u_law_take
abbrev N_u_law_machine : List Str := ["draw", "many", "commands", "state", "command"]
abbrev P_u_law_machine : List Str := ["draw", "many", "commands"]
def b_u_law_machine_0 : Es := (sRet (fLc (.one 3) [3] (fRng1 (fVar 1)) fYes (fLc (.one 4) [4] (fRng1 (fVar 2)) fYes (fTup (fCons (fCall 2 c_u_law_take (fCons (fVar 0) (fCons (fLit (.int 2)) fNil))) (fCons (fCall 2 c_u_law_take (fCons (fVar 0) (fCons (fVar 1) fNil))) fNil))))))
def b_u_law_machine : Es := b_u_law_machine_0
def c_u_law_machine : Cl := runFn 3 5 b_u_law_machine
abbrev N_u_law_bent : List Str := ["draw", "rows", "found", "turn", "state", "command", "row"]
abbrev P_u_law_bent : List Str := ["draw", "rows"]
def b_u_law_bent_0 : Es := (sOwn 2 (fLc (.one 6) [6] (fItemsG (fLook 1)) fYes (fNew (fOne opList (fLook 6)))))
def b_u_law_bent_1 : Es := (sFor (fRng1 (fTwo opAdd (fLit (.int 1)) (fCall 2 c_u_law_take (fCons (fVar 0) (fCons (fLit (.int 2)) fNil))))) (.one 3) (sSeq (sPar 4 5 (fCons (fCall 2 c_u_law_take (fCons (fVar 0) (fCons (fOne opLen (fLook 1)) fNil))) (fCons (fCall 2 c_u_law_take (fCons (fVar 0) (fCons (fOne opLen (fTwo opIx (fLook 1) (fLit (.int 0)))) fNil))) fNil)))
    (sSetC (fTwo opIx (fLook 2) (fLook 4)) (fVar 5) (fTup (fCons (fCall 2 c_u_law_take (fCons (fVar 0) (fCons (fLit (.int 2)) fNil))) (fCons (fCall 2 c_u_law_take (fCons (fVar 0) (fCons (fOne opLen (fLook 1)) fNil))) fNil))))))
def b_u_law_bent_2 : Es := (sRetO 2)
def b_u_law_bent : Es := (sSeq b_u_law_bent_0 (sSeq b_u_law_bent_1 b_u_law_bent_2))
def c_u_law_bent : Cl := runFn 2 7 b_u_law_bent
def em : Nat → Option Cl := (adC 0 c_EndsShort_eq noC)
abbrev N_law : List Str := ["script", "draw", "many", "commands", "most", "rows", "model", "machine", "ways", "some", "paper", "bad", "few", "whole", "tails", "singles", "run", "parts", "mine", "line", "way", "part", "at", "ahead", "late", "number"]
abbrev P_law : List Str := ["script"]
def b_law_0 : Es := (sCell 1 (fLst (fCons (fVar 0) (fCons (fLit (.int 0)) fNil))))
def b_law_1 : Es := (sPar3 2 3 4 (fCons (fTwo opAdd (fLit (.int 1)) (fCall 2 c_u_law_take (fCons (fVar 1) (fCons (fLit (.int 4)) fNil)))) (fCons (fTwo opAdd (fLit (.int 1)) (fCall 2 c_u_law_take (fCons (fVar 1) (fCons (fLit (.int 2)) fNil)))) (fCons (fTwo opAdd (fLit (.int 2)) (fCall 2 c_u_law_take (fCons (fVar 1) (fCons (fLit (.int 4)) fNil)))) fNil))))
def b_law_2 : Es := (sAsg 5 (fCall 3 c_u_law_machine (fCons (fVar 1) (fCons (fVar 2) (fCons (fVar 3) fNil)))))
def b_law_3 : Es := (sUnp (.many [6, 7]) (fTup (fCons (fMake 2 c_Machine_init (fCons (fVar 5) fNil)) (fCons (fMake 2 c_Machine_init (fCons (fCall 2 c_u_law_bent (fCons (fVar 1) (fCons (fVar 5) fNil))) fNil)) fNil))))
def b_law_4 : Es := (sAsg 8 (fLst (fCons (fLit (.str "one")) (fCons (fLit (.str "half")) (fCons (fLit (.str "tail")) fNil)))))
def b_law_5 : Es := (sAsg 9 (fLc (.one 20) [20] (fItemsG (fLook 8)) (fBl (fTwo opEq (fCall 2 c_u_law_take (fCons (fVar 1) (fCons (fLit (.int 2)) fNil))) (fLit (.int 0)))) (fVar 20)))
def b_law_6 : Es := (sAsg 10 (fCall 2 c_judge_machine (fCons (fVar 6) (fCons (fVar 7) fNil))))
def b_law_7 : Es := (sAsg 11 (fCall 3 c_failing_runs (fCons (fVar 6) (fCons (fVar 7) (fCons (fVar 4) fNil)))))
def b_law_8 : Es := (sUnp (.many [12, 13]) (fTup (fCons (fCall 4 c_ends_of (fCons (fVar 6) (fCons (fVar 7) (fCons (fVar 4) (fCons (fVar 9) fNil))))) (fCons (fCall 4 c_ends_of (fCons (fVar 6) (fCons (fVar 7) (fCons (fVar 4) (fCons (fVar 8) fNil))))) fNil))))
def b_law_9 : Es := (sIf (fOrT (fTru tm (fOne (opAnyT tm) (fLc (.one 16) [16] (fItemsG (fLook 13)) fYes (fTwo opNotIn (fLook 16) (fLook 12))))) (fOrT (fTru tm (fOne (opAnyT tm) (fLc (.one 16) [16] (fItemsG (fLook 12)) fYes (fTwo opNotIn (fLook 16) (fLook 11))))) (fOrT (fBl (fTwo opNe (fTwo opEq (fLook 11) (fLst fNil)) (fTwo opEq (fLook 13) (fLst fNil)))) (fAndT (fBl (fTwo opNe (fLook 11) (fLst fNil))) (fBl (fTwo opNe (fTwo opIx (fLook 13) (fLit (.int 0))) (fTwo opIx (fLook 11) (fLit (.int 0))))))))) (sRet (fLit (.bl false))) sSkip)
def b_law_10 : Es := (sIf (fOrT (fBl (fTwo opNe (fCall 4 c_ends_of (fCons (fVar 6) (fCons (fVar 7) (fCons (fVar 4) (fCons (fLst fNil) fNil))))) (fLook 11))) (fBl (fTwo opNe (fOne (opBool tm) (fCall 4 c_judge_ways (fCons (fVar 6) (fCons (fVar 7) (fCons (fVar 4) (fCons (fLst fNil) fNil)))))) (fOne (opAllT tm) (fLc (.one 16) [16] (fItemsG (fLook 11)) fYes (fTwo opEq (fOne opLen (fLook 16)) (fOne opLen (fTwo opIx (fLook 11) (fLit (.int 0)))))))))) (sRet (fLit (.bl false))) sSkip)
def b_law_11 : Es := (sIf (fAndT (fTru tm (fCall 4 c_judge_ways (fCons (fVar 6) (fCons (fVar 7) (fCons (fVar 4) (fCons (fVar 9) fNil)))))) (fNotT (fTru tm (fCall 4 c_judge_ways (fCons (fVar 6) (fCons (fVar 7) (fCons (fVar 4) (fCons (fVar 8) fNil)))))))) (sRet (fLit (.bl false))) sSkip)
def b_law_12 : Es := (sIf (fAndT (fTru tm (fCall 4 c_judge_ways (fCons (fVar 6) (fCons (fVar 7) (fCons (fVar 4) (fCons (fVar 8) fNil)))))) (fBl (fTwo (opNeM em 1) (fCall 4 c_judge_ways (fCons (fVar 6) (fCons (fVar 7) (fCons (fVar 4) (fCons (fVar 8) fNil))))) (fMake 2 c_EndsShort_init (fCons (fOne opLen (fLook 11)) fNil))))) (sRet (fLit (.bl false))) sSkip)
def b_law_13 : Es := (sIf (fOrT (fBl (fTwo opNe (fCall 4 c_ends_of (fCons (fVar 6) (fCons (fVar 7) (fCons (fVar 4) (fCons (fOne opRev (fLook 9)) fNil))))) (fLook 12))) (fBl (fTwo opNe (fCall 4 c_ends_of (fCons (fVar 6) (fCons (fVar 7) (fCons (fVar 4) (fCons (fTwo opAdd (fLook 9) (fLook 9)) fNil))))) (fLook 12)))) (sRet (fLit (.bl false))) sSkip)
def b_law_14 : Es := (sAsg 14 (fCall 4 c_ends_of (fCons (fVar 6) (fCons (fVar 7) (fCons (fVar 4) (fCons (fLst (fCons (fLit (.str "tail")) fNil)) fNil))))))
def b_law_15 : Es := (sIf (fBl (fTwo opNe (fLook 14) (fLc (.one 16) [16] (fItemsG (fLook 11)) (fBl (fTwo opEq (fCall 3 c_first_failure (fCons (fVar 6) (fCons (fVar 7) (fCons (fVar 16) fNil)))) (fTwo opSub (fOne opLen (fLook 16)) (fLit (.int 1))))) (fVar 16)))) (sRet (fLit (.bl false))) sSkip)
def b_law_16 : Es := (sAsg 15 (fCall 4 c_ends_of (fCons (fVar 6) (fCons (fVar 7) (fCons (fVar 4) (fCons (fLst (fCons (fLit (.str "one")) fNil)) fNil))))))
def b_law_17 : Es := (sFor (fItemsG (fSl (fLook 11) none (some (fLit (.int 14))))) (.one 16) (sSeq (sAsg 17 (fCall 3 c_least_parts (fCons (fVar 6) (fCons (fVar 7) (fCons (fVar 16) fNil)))))
    (sSeq (sIf (fOrT (fNotT (fTru tm (fOne (opAllT tm) (fLc (.one 21) [21] (fItemsG (fLook 17)) fYes (fCall 3 c_fails (fCons (fVar 6) (fCons (fVar 7) (fCons (fLc (.one 22) [22] (fItemsG (fLook 21)) fYes (fTwo opIx (fLook 16) (fLook 22))) fNil)))))))) (fBl (fTwo opEq (fLook 17) (fLst fNil)))) (sRet (fLit (.bl false))) sSkip)
    (sSeq (sIf (fBl (fTwo opNe (fTwo opIn (fLook 16) (fLook 15)) (fNotV (fOne (opAnyT tm) (fLc (.one 22) [22] (fRng1 (fOne opLen (fLook 16))) fYes (fCall 3 c_fails (fCons (fVar 6) (fCons (fVar 7) (fCons (fTwo opAdd (fSl (fLook 16) none (some (fVar 22))) (fSl (fLook 16) (some (fTwo opAdd (fLook 22) (fLit (.int 1)))) none)) fNil))))))))) (sRet (fLit (.bl false))) sSkip)
    (sSeq (sIf (fOrT (fBl (fTwo opNe (fCall 3 c_matter (fCons (fVar 6) (fCons (fVar 7) (fCons (fVar 16) fNil)))) (fLc (.one 22) [22] (fRng1 (fOne opLen (fLook 16))) (fNotT (fTru tm (fOne (opAnyT tm) (fLc (.one 21) [21] (fItemsG (fLook 17)) fYes (fTwo opNotIn (fLook 22) (fLook 21)))))) (fVar 22)))) (fBl (fTwo opLt (fOne opMin (fLc (.one 21) [21] (fItemsG (fLook 17)) fYes (fOne opLen (fLook 21)))) (fOne opLen (fFld a_run (fLook 10)))))) (sRet (fLit (.bl false))) sSkip)
    (sSeq (sFor (fItemsG (fTup (fCons (fVar 9) (fCons (fVar 8) (fCons (fLst (fCons (fLit (.str "one")) fNil)) fNil))))) (.one 18) (sSeq (sAsg 19 (fCall 4 c_cut_down (fCons (fVar 6) (fCons (fVar 7) (fCons (fVar 16) (fCons (fVar 18) fNil))))))
    (sSeq (sIf (fOrT (fBl (fTwo opNe (fTwo opIx (fLook 19) (fLit (.int 0))) (fLook 16))) (fOrT (fNotT (fTru tm (fCall 4 c_is_end (fCons (fVar 6) (fCons (fVar 7) (fCons (fTwo opIx (fLook 19) (fNeg (fLit (.int 1)))) (fCons (fVar 18) fNil))))))) (fTru tm (fOne (opAnyT tm) (fLc (.many [23, 24]) [23, 24] (fZip (fCons (fVar 19) (fCons (fSl (fLook 19) (some (fLit (.int 1))) none) fNil))) fYes (fOrV (fTwo opGe (fOne opLen (fLook 24)) (fOne opLen (fLook 23))) (fTwo opNotIn (fLook 24) (fCall 2 c_shorter (fCons (fVar 18) (fCons (fVar 23) fNil)))))))))) (sRet (fLit (.bl false))) sSkip)
    (sIf (fOrT (fBl (fTwo opNotIn (fTwo opIx (fLook 19) (fNeg (fLit (.int 1)))) (fCall 4 c_ends_of (fCons (fVar 6) (fCons (fVar 7) (fCons (fVar 4) (fCons (fVar 18) fNil))))))) (fOrT (fBl (fTwo opLt (fOne opLen (fTwo opIx (fLook 19) (fNeg (fLit (.int 1))))) (fOne opLen (fFld a_run (fLook 10))))) (fBl (fTwo opNe (fOne (opBool tm) (fCall 3 c_judge_run (fCons (fVar 6) (fCons (fVar 7) (fCons (fTwo opIx (fLook 19) (fNeg (fLit (.int 1)))) fNil))))) (fTwo opEq (fOne opLen (fTwo opIx (fLook 19) (fNeg (fLit (.int 1))))) (fOne opLen (fFld a_run (fLook 10)))))))) (sRet (fLit (.bl false))) sSkip))))
    (sIf (fBl (fTwo opNe (fTwo opIx (fCall 4 c_cut_down (fCons (fVar 6) (fCons (fVar 7) (fCons (fVar 16) (fCons (fLst (fCons (fLit (.str "tail")) fNil)) fNil))))) (fNeg (fLit (.int 1)))) (fSl (fLook 16) none (some (fTwo opAdd (fCall 3 c_first_failure (fCons (fVar 6) (fCons (fVar 7) (fCons (fVar 16) fNil)))) (fLit (.int 1))))))) (sRet (fLit (.bl false))) sSkip)))))))
def b_law_18 : Es := (sFor (fItemsG (fSl (fCall 2 c_runs_of (fCons (fVar 6) (fCons (fVar 4) fNil))) none (some (fLit (.int 40))))) (.one 16) (sIf (fOrT (fBl (fTwo opNe (fTwo opIn (fLook 16) (fLook 11)) (fCall 3 c_fails (fCons (fVar 6) (fCons (fVar 7) (fCons (fVar 16) fNil)))))) (fBl (fTwo opNe (fTwo opIsN (fCall 3 c_first_failure (fCons (fVar 6) (fCons (fVar 7) (fCons (fVar 16) fNil)))) (fLit .non)) (fTwo opNotIn (fLook 16) (fLook 11))))) (sRet (fLit (.bl false))) sSkip))
def b_law_19 : Es := (sIf (fOrT (fAndT (fTru tm (fVar 10)) (fBl (fTwo opNe (fLook 11) (fLst fNil)))) (fAndT (fNotT (fTru tm (fVar 10))) (fAndT (fBl (fTwo opLe (fOne opLen (fFld a_run (fLook 10))) (fLook 4))) (fOrT (fBl (fTwo opEq (fLook 11) (fLst fNil))) (fBl (fTwo opNe (fOne opLen (fTwo opIx (fLook 11) (fLit (.int 0)))) (fOne opLen (fFld a_run (fLook 10))))))))) (sRet (fLit (.bl false))) sSkip)
def b_law_20 : Es := (sFor (fItemsG (fCall 2 c_shorter (fCons (fVar 8) (fCons (fRgT (fLit (.int 3))) fNil)))) (.one 16) (sIf (fOrT (fBl (fTwo opGt (fOne opLen (fLook 16)) (fLit (.int 2)))) (fTru tm (fOne (opAnyT tm) (fLc (.one 25) [25] (fItemsG (fLook 16)) fYes (fTwo opNotIn (fLook 25) (fTup (fCons (fLit (.int 0)) (fCons (fLit (.int 1)) (fCons (fLit (.int 2)) fNil))))))))) (sRet (fLit (.bl false))) sSkip))
def b_law_21 : Es := (sRet (fAndV (fTwo opEq (fCall 2 c_shorter (fCons (fLst (fCons (fLit (.str "tail")) fNil)) (fCons (fTup (fCons (fLit (.int 0)) (fCons (fLit (.int 0)) fNil))) fNil))) (fLst (fCons (fTup fNil) (fCons (fTup (fCons (fLit (.int 0)) fNil)) fNil)))) (fAndV (fTwo opEq (fCall 2 c_shorter (fCons (fLst (fCons (fLit (.str "one")) fNil)) (fCons (fTup (fCons (fLit (.int 0)) (fCons (fLit (.int 0)) fNil))) fNil))) (fLst (fCons (fTup (fCons (fLit (.int 0)) fNil)) fNil))) (fTwo opEq (fCall 2 c_shorter (fCons (fLst (fCons (fLit (.str "half")) fNil)) (fCons (fTup (fCons (fLit (.int 0)) (fCons (fLit (.int 1)) (fCons (fLit (.int 2)) fNil)))) fNil))) (fLst (fCons (fTup (fCons (fLit (.int 1)) (fCons (fLit (.int 2)) fNil))) (fCons (fTup (fCons (fLit (.int 0)) fNil)) fNil)))))))
def b_law : Es := (sSeq b_law_0 (sSeq b_law_1 (sSeq b_law_2 (sSeq b_law_3 (sSeq b_law_4 (sSeq b_law_5 (sSeq b_law_6 (sSeq b_law_7 (sSeq b_law_8 (sSeq b_law_9 (sSeq b_law_10 (sSeq b_law_11 (sSeq b_law_12 (sSeq b_law_13 (sSeq b_law_14 (sSeq b_law_15 (sSeq b_law_16 (sSeq b_law_17 (sSeq b_law_18 (sSeq b_law_19 (sSeq b_law_20 b_law_21)))))))))))))))))))))
def c_law : Cl := runFn 1 26 b_law
end K29

/-! what evaluators answer: rules for putting answers together. -/
namespace K29
open PySem PySem.Spec L2 PyD
theorem dr_non {S : List D} : dr S .non = .non := rfl
theorem dr_bl {S : List D} {b : Bool} : dr S (.bl b) = .bl b := rfl
theorem dr_int {S : List D} {b : Int} : dr S (.int b) = .int b := rfl
theorem dr_str {S : List D} {b : Str} : dr S (.str b) = .str b := rfl
theorem dr_tup {S b : List D} : dr S (.tup b) = .tup b := rfl
theorem dr_lst {S b : List D} : dr S (.lst b) = .lst b := rfl
theorem dr_ins {S b : List D} {c : Nat} : dr S (.ins c b) = .ins c b := rfl
theorem dr_dct {S b c : List D} : dr S (.dct b c) = .dct b c := rfl
theorem dr_cls {S : List D} {c : Nat} : dr S (.cls c) = .cls c := rfl
theorem eqv_self : ∀ x : D, plain x = true → PyData.eqv (toP x) (toP x) = true := fun x h => PySem.SeqAt.eqv_refl_plain _ (toP_plain x h)
theorem eqP_self {x : D} {b : Bool} (h : eqP x x = some b) : b = true := by
  rcases eqP_cases _ _ _ h with ⟨i, j, e1, e2, e3⟩ | ⟨p1, p2, d, e3⟩ | ⟨xs, ys, e1, e2, ne, e3⟩
  · rw [e1] at e2; cases e2; simpa using e3
  · rw [e3]; exact eqv_self x p1
  · rw [e1] at e2; cases e2; exact absurd rfl ne
theorem fn_rt {n ns : Nat} {body : Es} {ds S : List D} {d : D} (hl : ds.length = n) (h : body (startR ns ds) S = .rt d S) : runFn n ns body ds S = .ok d S := by
  unfold runFn
  rw [if_pos hl, h]
  exact if_pos rfl
theorem fn_nx {n ns : Nat} {body : Es} {ds S : List D} {ρ : List Sl} (hl : ds.length = n) (h : body (startR ns ds) S = .nx ρ S) : runFn n ns body ds S = .ok .non S := by
  unfold runFn
  rw [if_pos hl, h]
  exact if_pos rfl
theorem fn_rt' {n ns : Nat} {body : Es} {ds S S' : List D} {d : D} (hl : ds.length = n) (h : body (startR ns ds) S = .rt d S') (hS : S'.length = S.length) : runFn n ns body ds S = .ok d S' := by
  unfold runFn
  rw [if_pos hl, h]
  exact if_pos hS
theorem atI_nat {xs : List D} {k : Nat} {d : D} (h : xs[k]? = some d) : atI xs (k : Int) = some d := by
  have hk := (List.getElem?_eq_some_iff.mp h).1
  unfold atI ixN
  rw [if_pos (by omega), if_pos (by omega)]
  simpa using h
theorem lc_map {α : Type} {tg : Tg} {c : Ef Bool} {e : Ef D} {ρ : List Sl} {S : List D} {enc : α → D} {p : α → Bool} {g : α → D} : ∀ xs : List α, (∀ x ∈ xs, ∃ ρ1, bindT tg (enc x) ρ = some ρ1 ∧ c ρ1 S = .ok (p x) S ∧ (p x = true → e ρ1 S = .ok (g x) S)) →
    lcLoop tg c e ρ (xs.map enc) S = .ok ((xs.filter p).map g) S
  | [], _ => rfl
  | x :: xs, h => by
    obtain ⟨ρ1, h1, h2, h3⟩ := h x List.mem_cons_self
    have ih := lc_map xs fun y m => h y (List.mem_cons_of_mem _ m)
    rw [List.map_cons]
    unfold lcLoop
    rw [h1]
    dsimp only
    rw [h2]
    cases hp : p x with
    | true =>
      rw [List.filter_cons_of_pos hp]
      dsimp only
      rw [h3 hp]
      dsimp only
      rw [ih]
      rfl
    | false =>
      rw [List.filter_cons_of_neg (by rw [hp]; exact Bool.false_ne_true)]
      exact ih
theorem lc_all {α : Type} {tg : Tg} {e : Ef D} {ρ : List Sl} {S : List D} {enc : α → D} {g : α → D} {xs : List α} (h : ∀ x ∈ xs, ∃ ρ1, bindT tg (enc x) ρ = some ρ1 ∧ e ρ1 S = .ok (g x) S) :
    lcLoop tg fYes e ρ (xs.map enc) S = .ok (xs.map g) S := by
  have := lc_map (c := fYes) (p := fun _ => true) xs (fun x m => by
    obtain ⟨ρ1, h1, h2⟩ := h x m
    exact ⟨ρ1, h1, rfl, fun _ => h2⟩) (tg := tg) (e := e) (ρ := ρ) (S := S) (enc := enc) (g := g)
  rw [this, List.filter_eq_self.mpr fun _ _ => rfl]
theorem any_bl {tm : Nat → Option Cl} {S : List D} : ∀ bs : List Bool, anyL tm (bs.map .bl) S = .ok (bs.any id) S
  | [] => rfl
  | b :: bs => by
    rw [List.map_cons]
    unfold anyL
    cases b with
    | true => rfl
    | false => exact any_bl bs
theorem all_bl {tm : Nat → Option Cl} {S : List D} : ∀ bs : List Bool, allL tm (bs.map .bl) S = .ok (bs.all id) S
  | [] => rfl
  | b :: bs => by
    rw [List.map_cons]
    unfold allL
    cases b with
    | false => rfl
    | true => exact all_bl bs
theorem any_ok {α : Type} {tm : Nat → Option Cl} {S : List D} {xs : List α} {p : α → Bool} : opAnyT tm (.lst (xs.map fun x => .bl (p x))) S = .ok (.bl (xs.any p)) S := by
  unfold opAnyT
  dsimp only
  rw [show (xs.map fun x => D.bl (p x)) = (xs.map p).map .bl by rw [List.map_map]; rfl, any_bl]
  show Out.ok (D.bl ((xs.map p).any id)) S = _
  rw [List.any_map]
  rfl
theorem all_ok {α : Type} {tm : Nat → Option Cl} {S : List D} {xs : List α} {p : α → Bool} : opAllT tm (.lst (xs.map fun x => .bl (p x))) S = .ok (.bl (xs.all p)) S := by
  unfold opAllT
  dsimp only
  rw [show (xs.map fun x => D.bl (p x)) = (xs.map p).map .bl by rw [List.map_map]; rfl, all_bl]
  show Out.ok (D.bl ((xs.map p).all id)) S = _
  rw [List.all_map]
  rfl
def natD (k : Nat) : D := .int (k : Int)
def rowD (xs : List Nat) : D := .tup (xs.map natD)
theorem ints_nat : ∀ (n k : Nat), ints0 (k : Int) n = ((List.range n).map fun i => natD (k + i))
  | 0, _ => rfl
  | n + 1, k => by
    unfold ints0
    rw [List.range_succ_eq_map, List.map_cons, List.map_map, show ((k : Int) + 1) = ((k + 1 : Nat) : Int) by omega, ints_nat n (k + 1)]
    congr 1
    apply List.map_congr_left
    intro i _
    show natD (k + 1 + i) = natD (k + (i + 1))
    congr 1
    omega
theorem ints0_nat (n : Nat) : ints0 0 n = (List.range n).map natD := by
  have := ints_nat n 0
  rw [show ((0 : Nat) : Int) = 0 from rfl] at this
  rw [this]
  apply List.map_congr_left
  intro i _
  rw [Nat.zero_add]
theorem rg_ok {n : Nat} (h : n ≤ 4) : rgok 0 (n : Int) = true := by
  unfold rgok
  simp only [Bool.and_eq_true, decide_eq_true_eq]
  exact ⟨⟨⟨⟨by omega, by omega⟩, by omega⟩, by omega⟩, by omega⟩
theorem rgL_ok {n : Nat} {fa : Ef D} {ρ : List Sl} {S S' : List D} (h : fa ρ S = .ok (.int (n : Int)) S') (hn : n ≤ 4) : fRgL fa ρ S = .ok (.lst ((List.range n).map natD)) S' := by
  unfold fRgL
  rw [h]
  show (if rgok 0 (n : Int) then _ else _) = _
  rw [if_pos (rg_ok hn), Int.toNat_natCast, ints0_nat]
theorem big_ok {i : Int} (h1 : -1000 ≤ i) (h2 : i ≤ 1000) : big62 i = true := by
  have a : (-(2 ^ 62) : Int) ≤ -1000 := by decide
  have b : (1000 : Int) < 2 ^ 62 := by decide
  unfold big62
  rw [decide_eq_true (Int.le_trans a h1), decide_eq_true (Int.lt_of_le_of_lt h2 b)]
  rfl
theorem rng_eq {n : Int} {b : Bool} {fa : Ef D} {ρ : List Sl} {S S' : List D} (h : fa ρ S = .ok (.int n) S') (hb : big62 n = b) : fRng1 fa ρ S = if b then .ok (ints0 0 n.toNat) S' else .bad := by
  subst hb
  unfold fRng1
  rw [h]
  rfl
theorem rng_ok {n : Nat} {fa : Ef D} {ρ : List Sl} {S S' : List D} (h : fa ρ S = .ok (.int (n : Int)) S') (hn : n ≤ 1000) : fRng1 fa ρ S = .ok ((List.range n).map natD) S' := by
  rw [rng_eq h (big_ok (by omega) (by omega)), if_pos rfl, Int.toNat_natCast, ints0_nat]
def Gd (S : List D) : Prop := locsBs S.length S = true
theorem locs_app {n : Nat} : ∀ (xs ys : List D), locsBs n (xs ++ ys) = (locsBs n xs && locsBs n ys)
  | [], _ => rfl
  | x :: xs, ys => by
    show (locsB n x && locsBs n (xs ++ ys)) = (locsB n x && locsBs n xs && locsBs n ys)
    rw [locs_app xs ys, Bool.and_assoc]
theorem gd_take {S : List D} {d : D} (h : Gd S) : locsS S.length (S ++ [d]) = true := by
  unfold locsS
  rw [List.take_left']
  · exact h
  · rfl
theorem in_nx {c n ns : Nat} {body : Es} {ds S : List D} {d : D} {ρ : List Sl} {fs : List D} (hS : Gd S) (hl : ds.length + 1 = n) (hd : d = .ins c fs) (hb : locsB S.length d = true) (h : body (.val (.loc S.length) :: startR (ns - 1) ds) (S ++ [.ins c []]) = .nx ρ (S ++ [d])) : insOnly c (runIn c n ns body) ds S = .ok d S := by
  have e : runIn c n ns body ds S = .ok d S := by
    unfold runIn
    rw [if_pos hl, h]
    unfold endI
    have e1 : (S ++ [d])[S.length]? = some d := by simp
    dsimp only
    rw [e1]
    dsimp only
    rw [hb, gd_take hS, Bool.and_true, if_pos rfl, List.take_left']
    rfl
  unfold insOnly
  rw [e, hd]
  exact if_pos rfl
theorem fld1 {c : Nat} {f : Ef D} {ρ : List Sl} {S : List D} {d : D} (h : f (.val (.loc S.length) :: ρ) (S ++ [.ins c []]) = .ok d (S ++ [.ins c []])) : sFldC 0 c 0 f (.val (.loc S.length) :: ρ) (S ++ [.ins c []]) = .nx (.val (.loc S.length) :: ρ) (S ++ [.ins c [d]]) := by
  unfold sFldC sE
  rw [h]
  simp
theorem locs_nat {n : Nat} : ∀ xs : List Nat, locsBs n (xs.map natD) = true
  | [] => rfl
  | x :: xs => by show (true && locsBs n (xs.map natD)) = true; rw [locs_nat xs]; rfl
theorem locs_row {n : Nat} (xs : List Nat) : locsB n (rowD xs) = true := locs_nat xs
theorem fLc_ok {tg : Tg} {vs : List Nat} {it : Ef (List D)} {c : Ef Bool} {e : Ef D} {ρ : List Sl} {S S1 S2 ds ys : List D} (hi : it ρ S = .ok ds S1) (hl : lcLoop tg c e (wipeR ρ vs) ds S1 = .ok ys S2) (hz : ys.length ≤ LIM) : fLc tg vs it c e ρ S = .ok (.lst ys) S2 := by
  unfold fLc
  rw [hi]
  dsimp only [Out.bind]
  rw [hl]
  exact if_pos hz
theorem one_ok {op : D → List D → Out D} {fa : Ef D} {ρ : List Sl} {S S1 : List D} {x : D} (h : fa ρ S = .ok x S1) : fOne op fa ρ S = op x S1 := by
  unfold fOne
  rw [h]
  rfl
theorem two_ok {op : D → D → List D → Out D} {fa fb : Ef D} {ρ : List Sl} {S S1 S2 : List D} {x y : D} (h : fa ρ S = .ok x S1) (h2 : fb ρ S1 = .ok y S2) : fTwo op fa fb ρ S = op x y S2 := by
  unfold fTwo
  rw [h]
  show (fb ρ S1).bind _ = _
  rw [h2]
  rfl
theorem make1 {cl : Cl} {fa : Ef D} {ρ : List Sl} {S S1 : List D} {x : D} (h : fa ρ S = .ok x S1) : fMake 2 cl (fCons fa fNil) ρ S = cl [x] S1 := by
  unfold fMake fCons fNil
  rw [h]
  rfl
theorem call1 {cl : Cl} {fa : Ef D} {ρ : List Sl} {S S1 : List D} {x : D} (h : fa ρ S = .ok x S1) : fCall 1 cl (fCons fa fNil) ρ S = cl [x] S1 := by
  unfold fCall fCons fNil
  rw [h]
  rfl
theorem call2 {cl : Cl} {fa fb : Ef D} {ρ : List Sl} {S S1 S2 : List D} {x y : D} (h : fa ρ S = .ok x S1) (h2 : fb ρ S1 = .ok y S2) : fCall 2 cl (fCons fa (fCons fb fNil)) ρ S = cl [x, y] S2 := by
  unfold fCall fCons fNil
  rw [h]
  dsimp only [Out.bind]
  rw [h2]
  rfl
theorem call3 {cl : Cl} {fa fb fc : Ef D} {ρ : List Sl} {S S1 S2 S3 : List D} {x y z : D} (h : fa ρ S = .ok x S1) (h2 : fb ρ S1 = .ok y S2) (h3 : fc ρ S2 = .ok z S3) : fCall 3 cl (fCons fa (fCons fb (fCons fc fNil))) ρ S = cl [x, y, z] S3 := by
  unfold fCall fCons fNil
  rw [h]
  dsimp only [Out.bind]
  rw [h2]
  dsimp only
  rw [h3]
  rfl
theorem items_ok {fa : Ef D} {ρ : List Sl} {S S1 xs : List D} (h : fa ρ S = .ok (.lst xs) S1) : fItemsG fa ρ S = .ok xs S1 := by
  unfold fItemsG
  rw [h]
  rfl
section
variable {ρ : List Sl} {S : List D}
theorem two_to {op : D → D → List D → Out D} {fa fb : Ef D} {x y : D} {o : Out D} (h : fa ρ S = .ok x S) (h2 : fb ρ S = .ok y S) (h3 : op x y S = o) : fTwo op fa fb ρ S = o := (two_ok h h2).trans h3
theorem one_to {op : D → List D → Out D} {fa : Ef D} {x : D} {o : Out D} (h : fa ρ S = .ok x S) (h3 : op x S = o) : fOne op fa ρ S = o := (one_ok h).trans h3
theorem to1 {cl : Cl} {fa : Ef D} {x : D} {o : Out D} (h : fa ρ S = .ok x S) (h3 : cl [x] S = o) : fCall 1 cl (fCons fa fNil) ρ S = o := (call1 h).trans h3
theorem to2 {cl : Cl} {fa fb : Ef D} {x y : D} {o : Out D} (h : fa ρ S = .ok x S) (h2 : fb ρ S = .ok y S) (h3 : cl [x, y] S = o) : fCall 2 cl (fCons fa (fCons fb fNil)) ρ S = o := (call2 h h2).trans h3
theorem to3 {cl : Cl} {fa fb fc : Ef D} {x y z : D} {o : Out D} (h : fa ρ S = .ok x S) (h2 : fb ρ S = .ok y S) (h4 : fc ρ S = .ok z S) (h3 : cl [x, y, z] S = o) : fCall 3 cl (fCons fa (fCons fb (fCons fc fNil))) ρ S = o := (call3 h h2 h4).trans h3
theorem toM {cl : Cl} {fa : Ef D} {x : D} {o : Out D} (h : fa ρ S = .ok x S) (h3 : cl [x] S = o) : fMake 2 cl (fCons fa fNil) ρ S = o := (make1 h).trans h3
theorem andV_t {fa fb : Ef D} {S1 : List D} {o : Out D} (h : fa ρ S = .ok (.bl true) S1) (h2 : fb ρ S1 = o) : fAndV fa fb ρ S = o := by
  unfold fAndV
  rw [h]
  exact h2
theorem ifV_t {c : Ef Bool} {fa fb : Ef D} {S1 : List D} {o : Out D} (h : c ρ S = .ok true S1) (h2 : fa ρ S1 = o) : fIfV c fa fb ρ S = o := by
  unfold fIfV
  rw [h]
  exact h2
theorem ifV_f {c : Ef Bool} {fa fb : Ef D} {S1 : List D} {o : Out D} (h : c ρ S = .ok false S1) (h2 : fb ρ S1 = o) : fIfV c fa fb ρ S = o := by
  unfold fIfV
  rw [h]
  exact h2
theorem lit_ok {d : D} : fLit d ρ S = .ok d S := rfl
theorem seq_nx {f g : Es} {ρ1 : List Sl} {S1 : List D} (h : f ρ S = .nx ρ1 S1) : sSeq f g ρ S = g ρ1 S1 := by
  unfold sSeq
  rw [h]
theorem asg_ok {i : Nat} {f : Ef D} {d : D} {S1 : List D} (h : f ρ S = .ok d S1) : sAsg i f ρ S = .nx (ρ.set i (.val d)) S1 := by
  unfold sAsg sE
  rw [h]
theorem ret_ok {f : Ef D} {d : D} {S1 : List D} (h : f ρ S = .ok d S1) : sRet f ρ S = .rt d S1 := by
  unfold sRet sE
  rw [h]
theorem drop_ok {f : Ef D} {d : D} {S1 : List D} (h : f ρ S = .ok d S1) : sDrop f ρ S = .nx ρ S1 := by
  unfold sDrop sE
  rw [h]
theorem if_f {c : Ef Bool} {f : Es} {S1 : List D} (h : c ρ S = .ok false S1) : sIf c f sSkip ρ S = .nx ρ S1 := by
  unfold sIf sE
  rw [h]
  rfl
theorem if_t {c : Ef Bool} {f g : Es} {S1 : List D} (h : c ρ S = .ok true S1) : sIf c f g ρ S = f ρ S1 := by
  unfold sIf sE
  rw [h]
  rfl
theorem orT {a b : Ef Bool} {x y : Bool} (h : a ρ S = .ok x S) (h2 : b ρ S = .ok y S) : fOrT a b ρ S = .ok (x || y) S := by
  unfold fOrT
  rw [h]
  cases x
  · exact h2
  · rfl
theorem andT {a b : Ef Bool} {x y : Bool} (h : a ρ S = .ok x S) (h2 : b ρ S = .ok y S) : fAndT a b ρ S = .ok (x && y) S := by
  unfold fAndT
  rw [h]
  cases x
  · rfl
  · exact h2
theorem andT' {a b : Ef Bool} {x y : Bool} (h : a ρ S = .ok x S) (h2 : x = true → b ρ S = .ok y S) : fAndT a b ρ S = .ok (x && y) S := by
  unfold fAndT
  rw [h]
  cases x
  · rfl
  · exact h2 rfl
theorem notT {a : Ef Bool} {x : Bool} (h : a ρ S = .ok x S) : fNotT a ρ S = .ok (!x) S := by
  unfold fNotT
  rw [h]
  rfl
theorem tru_bl {a : Ef D} {x : Bool} {tm : Nat → Option Cl} (h : a ρ S = .ok (.bl x) S) : fTru tm a ρ S = .ok x S := by
  unfold fTru
  rw [h]
  rfl
theorem bl_ok {a : Ef D} {x : Bool} (h : a ρ S = .ok (.bl x) S) : fBl a ρ S = .ok x S := by
  unfold fBl
  rw [h]
  rfl
theorem notV_ok {a : Ef D} {x : Bool} (h : a ρ S = .ok (.bl x) S) : fNotV a ρ S = .ok (.bl (!x)) S := by
  unfold fNotV
  rw [h]
  rfl
theorem look_ok {i : Nat} {d : D} (h : ρ[i]? = some (.val d)) : fLook i ρ S = .ok d S := by
  unfold fLook
  rw [h]
theorem var_ok {i : Nat} {d : D} (h : ρ[i]? = some (.val d)) : fVar i ρ S = .ok d S := by
  unfold fVar
  rw [h]
theorem all_lc {α : Type} {tm : Nat → Option Cl} {tg : Tg} {vs : List Nat} {it : Ef (List D)} {e : Ef D} {xs : List α} {enc : α → D} {p : α → Bool} (hz : xs.length ≤ LIM) (hi : it ρ S = .ok (xs.map enc) S) (he : ∀ x ∈ xs, ∃ ρ1, bindT tg (enc x) (wipeR ρ vs) = some ρ1 ∧ e ρ1 S = .ok (.bl (p x)) S) : fOne (opAllT tm) (fLc tg vs it fYes e) ρ S = .ok (.bl (xs.all p)) S := by
  rw [one_ok (x := .lst (xs.map fun x => .bl (p x))) (S1 := S) (fLc_ok hi (lc_all he) (by rw [List.length_map]; exact hz))]
  exact all_ok
theorem any_lc {α : Type} {tm : Nat → Option Cl} {tg : Tg} {vs : List Nat} {it : Ef (List D)} {e : Ef D} {xs : List α} {enc : α → D} {p : α → Bool} (hz : xs.length ≤ LIM) (hi : it ρ S = .ok (xs.map enc) S) (he : ∀ x ∈ xs, ∃ ρ1, bindT tg (enc x) (wipeR ρ vs) = some ρ1 ∧ e ρ1 S = .ok (.bl (p x)) S) : fOne (opAnyT tm) (fLc tg vs it fYes e) ρ S = .ok (.bl (xs.any p)) S := by
  rw [one_ok (x := .lst (xs.map fun x => .bl (p x))) (S1 := S) (fLc_ok hi (lc_all he) (by rw [List.length_map]; exact hz))]
  exact any_ok
theorem flt_lc {α : Type} {tg : Tg} {vs : List Nat} {it : Ef (List D)} {c : Ef Bool} {e : Ef D} {xs : List α} {enc g : α → D} {p : α → Bool} (hz : xs.length ≤ LIM) (hi : it ρ S = .ok (xs.map enc) S) (he : ∀ x ∈ xs, ∃ ρ1, bindT tg (enc x) (wipeR ρ vs) = some ρ1 ∧ c ρ1 S = .ok (p x) S ∧ (p x = true → e ρ1 S = .ok (g x) S)) : fLc tg vs it c e ρ S = .ok (.lst ((xs.filter p).map g)) S :=
  fLc_ok hi (lc_map xs he) (by rw [List.length_map]; exact Nat.le_trans (List.length_filter_le _ _) hz)
theorem map_lc {α : Type} {tg : Tg} {vs : List Nat} {it : Ef (List D)} {e : Ef D} {xs : List α} {enc g : α → D} (hz : xs.length ≤ LIM) (hi : it ρ S = .ok (xs.map enc) S) (he : ∀ x ∈ xs, ∃ ρ1, bindT tg (enc x) (wipeR ρ vs) = some ρ1 ∧ e ρ1 S = .ok (g x) S) : fLc tg vs it fYes e ρ S = .ok (.lst (xs.map g)) S :=
  fLc_ok hi (lc_all he) (by rw [List.length_map]; exact hz)
theorem itemsT_ok {fa : Ef D} {S1 xs : List D} (h : fa ρ S = .ok (.tup xs) S1) : fItemsG fa ρ S = .ok xs S1 := by
  unfold fItemsG
  rw [h]
  rfl
theorem all_true {α : Type} (xs : List α) : xs.all (fun _ => true) = true := by simp
theorem andT_f {a b : Ef Bool} {x : Bool} (h : a ρ S = .ok x S) (h2 : x = true → b ρ S = .ok false S) : fAndT a b ρ S = .ok false S := by
  rw [andT' h h2, Bool.and_false]
theorem cons_ok {fa : Ef D} {fr : Ef (List D)} {x : D} {xs S1 S2 : List D} (h : fa ρ S = .ok x S1) (h2 : fr ρ S1 = .ok xs S2) : fCons fa fr ρ S = .ok (x :: xs) S2 := by
  unfold fCons
  rw [h]
  dsimp only [Out.bind]
  rw [h2]
theorem tup_ok {fl : Ef (List D)} {xs S1 : List D} (h : fl ρ S = .ok xs S1) (hz : xs.length ≤ LIM) : fTup fl ρ S = .ok (.tup xs) S1 := by
  unfold fTup
  rw [h]
  exact if_pos hz
theorem unp_ok {tg : Tg} {fa : Ef D} {d : D} {S1 : List D} {ρ1 : List Sl} (h : fa ρ S = .ok d S1) (h2 : bindT tg d ρ = some ρ1) : sUnp tg fa ρ S = .nx ρ1 S1 := by
  unfold sUnp sE
  rw [h]
  dsimp only
  rw [h2]
theorem for_ok {it : Ef (List D)} {tg : Tg} {body : Es} {ds S1 : List D} (h : it ρ S = .ok ds S1) : sFor it tg body ρ S = forL tg body ds ρ S1 := by
  unfold sFor sE
  rw [h]
theorem orT_f {a b : Ef Bool} (h : a ρ S = .ok false S) (h2 : b ρ S = .ok false S) : fOrT a b ρ S = .ok false S := orT h h2
end
theorem toPs_nat : ∀ ns : List Nat, toPs (ns.map natD) = ns.map fun x : Nat => PyData.int (x : Int)
  | [] => rfl
  | n :: ns => by
    rw [List.map_cons, List.map_cons]
    show PyData.int n :: toPs _ = _
    rw [toPs_nat ns]
theorem plains_nat : ∀ ns : List Nat, plains (ns.map natD) = true
  | [] => rfl
  | n :: ns => by
    rw [List.map_cons]
    show (true && plains _) = true
    rw [plains_nat ns]
    rfl
theorem plain_row (s : List Nat) : plain (rowD s) = true := plains_nat s
theorem plains_rows : ∀ L : List (List Nat), plains (L.map rowD) = true
  | [] => rfl
  | n :: ns => by
    rw [List.map_cons]
    show (plain (rowD n) && plains _) = true
    rw [plains_rows ns, plain_row]
    rfl
theorem depth_nats : ∀ ns : List Nat, PyData.depthAll (ns.map fun x : Nat => PyData.int (x : Int)) = 0
  | [] => by simp [PyData.depthAll]
  | n :: ns => by
    rw [List.map_cons, PyData.depthAll, depth_nats ns]
    simp [PyData.depth]
theorem depth_row (s : List Nat) : (toP (rowD s)).depth = 1 := by
  show (PyData.tuple (toPs (s.map natD))).depth = 1
  rw [toPs_nat]
  simp [PyData.depth, depth_nats]
theorem depth_lst (s : List Nat) : (toP (.lst (s.map natD))).depth = 1 := by
  show (PyData.list (toPs (s.map natD))).depth = 1
  rw [toPs_nat]
  simp [PyData.depth, depth_nats]
theorem depth_rows : ∀ L : List (List Nat), PyData.depthAll (toPs (L.map rowD)) ≤ 1
  | [] => by simp [toPs, PyData.depthAll]
  | s :: L => by
    rw [List.map_cons]
    show PyData.depthAll (toP (rowD s) :: toPs (L.map rowD)) ≤ 1
    rw [PyData.depthAll, depth_row]
    exact Nat.max_le.mpr ⟨Nat.le_refl _, depth_rows L⟩
theorem depth_lrows (L : List (List Nat)) : (toP (.lst (L.map rowD))).depth ≤ 100 := by
  show (PyData.list (toPs (L.map rowD))).depth ≤ 100
  have := depth_rows L
  simp only [PyData.depth]
  omega
theorem eqvAll_nat : ∀ a b : List Nat, PyData.eqvAll (a.map fun x : Nat => PyData.int (x : Int)) (b.map fun x : Nat => PyData.int (x : Int)) = decide (a = b)
  | [], [] => by simp [PyData.eqvAll]
  | [], y :: b => by simp [PyData.eqvAll]
  | x :: a, [] => by simp [PyData.eqvAll]
  | x :: a, y :: b => by
    rw [List.map_cons, List.map_cons, PySem.W.eqv_all_cons, eqvAll_nat a b]
    rw [show PyData.eqv (.int (x : Int)) (.int (y : Int)) = decide (x = y) by
      rw [Bool.eq_iff_iff]
      simp [PyData.eqv]
      try omega]
    rw [Bool.eq_iff_iff]
    simp
theorem eqv_row (a b : List Nat) : PyData.eqv (toP (rowD a)) (toP (rowD b)) = decide (a = b) := by
  show PyData.eqv (.tuple (toPs (a.map natD))) (.tuple (toPs (b.map natD))) = _
  rw [toPs_nat, toPs_nat, ← eqvAll_nat]
  simp [PyData.eqv]
theorem any_rows (s : List Nat) : ∀ L : List (List Nat), (toPs (L.map rowD)).any (fun y => PyData.eqv y (toP (rowD s))) = L.contains s
  | [] => rfl
  | t :: L => by
    rw [List.map_cons]
    show (PyData.eqv (toP (rowD t)) (toP (rowD s)) || (toPs (L.map rowD)).any _) = _
    rw [any_rows s L, eqv_row, List.contains_cons]
    congr 1
    rw [Bool.eq_iff_iff, decide_eq_true_eq, beq_iff_eq]
    exact ⟨fun e => e.symm, fun e => e.symm⟩
theorem in_rows (s : List Nat) (L : List (List Nat)) : inP (rowD s) (.lst (L.map rowD)) = some (L.contains s) := by
  unfold inP
  dsimp only
  rw [plain_row, plains_rows, decide_eq_true (by rw [depth_row]; decide), any_rows]
  rfl
theorem any_nats (k : Nat) : ∀ s : List Nat, (toPs (s.map natD)).any (fun y => PyData.eqv y (toP (natD k))) = s.contains k
  | [] => rfl
  | t :: s => by
    rw [List.map_cons]
    show (PyData.eqv (.int (t : Int)) (.int (k : Int)) || (toPs (s.map natD)).any _) = _
    rw [any_nats k s, List.contains_cons]
    congr 1
    rw [Bool.eq_iff_iff, beq_iff_eq]
    simp [PyData.eqv]
    exact ⟨fun e => by omega, fun e => by omega⟩
theorem in_nats (k : Nat) (s : List Nat) : inP (natD k) (rowD s) = some (s.contains k) := by
  unfold inP rowD
  dsimp only
  rw [show plain (natD k) = true from rfl, plains_nat, decide_eq_true (show (toP (natD k)).depth ≤ 100 by show (PyData.int (k : Int)).depth ≤ 100; simp [PyData.depth]), any_nats]
  rfl
theorem opIn_row {k : Nat} {s : List Nat} {S : List D} : opIn (natD k) (rowD s) S = .ok (.bl (s.contains k)) S := by
  show okB (inP (natD k) (rowD s)) S = _
  rw [in_nats]
  rfl
theorem opIn_rows {s : List Nat} {L : List (List Nat)} {S : List D} : opIn (rowD s) (.lst (L.map rowD)) S = .ok (.bl (L.contains s)) S := by
  show okB (inP (rowD s) (.lst (L.map rowD))) S = _
  rw [in_rows]
  rfl
theorem opNotIn_rows {s : List Nat} {L : List (List Nat)} {S : List D} : opNotIn (rowD s) (.lst (L.map rowD)) S = .ok (.bl (!L.contains s)) S := by
  show okB ((inP (rowD s) (.lst (L.map rowD))).map not) S = _
  rw [in_rows]
  rfl
theorem eqP_same {x : D} (p : plain x = true) (d : (toP x).depth ≤ 100) : eqP x x = some true := by
  cases x with
  | int i => exact congrArg some (decide_eq_true rfl)
  | _ =>
    unfold eqP
    dsimp only
    rw [p, decide_eq_true d, eqv_self _ p]
    rfl
theorem ne_same {x : D} {S : List D} (hd : dr S x = x) (p : plain x = true) (d : (toP x).depth ≤ 100) : opNe x x S = .ok (.bl false) S := by
  unfold opNe
  rw [hd, eqP_same p d]
  rfl
theorem lc2_all {α : Type} {tg : Tg} {vs1 : List Nat} {it1 : Ef (List D)} {tg1 : Tg} {e : Ef D} {ρ : List Sl} {S : List D} {enc : α → D} {ys : α → List D} : ∀ xs : List α, (∀ x ∈ xs, ∃ ρ1 ds, bindT tg (enc x) ρ = some ρ1 ∧ it1 ρ1 S = .ok ds S ∧ lcLoop tg1 fYes e (wipeR ρ1 vs1) ds S = .ok (ys x) S) →
    lc2Loop tg fYes vs1 it1 tg1 fYes e ρ (xs.map enc) S = .ok (xs.flatMap ys) S
  | [], _ => rfl
  | x :: xs, h => by
    obtain ⟨ρ1, ds, h1, h2, h3⟩ := h x List.mem_cons_self
    rw [List.map_cons]
    unfold lc2Loop
    rw [h1]
    dsimp only [fYes]
    rw [h2]
    dsimp only
    rw [show lcLoop tg1 fYes e (wipeR ρ1 vs1) ds S = _ from h3]
    dsimp only
    rw [lc2_all xs fun y m => h y (List.mem_cons_of_mem _ m)]
    rfl
theorem at0 {x : D} {xs : List D} : atI (x :: xs) 0 = some x := atI_nat (k := 0) rfl
theorem at1 {x y : D} {xs : List D} : atI (x :: y :: xs) 1 = some y := atI_nat (k := 1) rfl
end K29

/-! K29: machines: their runs, where two answer otherwise. -/
namespace K29
open PySem PySem.Spec L2 PyD
theorem eqP_row (a b : List Nat) : eqP (rowD a) (rowD b) = some (decide (a = b)) := by
  show (if plain (rowD a) && plain (rowD b) && decide ((toP (rowD a)).depth ≤ 100) then some (PyData.eqv (toP (rowD a)) (toP (rowD b))) else if apart (rowD a) (rowD b) then some false else none) = _
  rw [plain_row, plain_row, depth_row, eqv_row]
  rfl
theorem opNe_row {a b : List Nat} {S : List D} : opNe (rowD a) (rowD b) S = .ok (.bl (!decide (a = b))) S := by
  show okB ((eqP (rowD a) (rowD b)).map not) S = _
  rw [eqP_row]
  rfl
theorem opEq_row {a b : List Nat} {S : List D} : opEq (rowD a) (rowD b) S = .ok (.bl (decide (a = b))) S := by
  show okB (eqP (rowD a) (rowD b)) S = _
  rw [eqP_row]
  rfl
theorem eqP_nat (a b : Nat) : eqP (natD a) (natD b) = some (decide (a = b)) := by
  show some (decide ((a : Int) = (b : Int))) = _
  congr 1
  rw [Bool.eq_iff_iff]
  simp
  try omega
theorem opNe_nat {a b : Nat} {S : List D} : opNe (natD a) (natD b) S = .ok (.bl (!decide (a = b))) S := by
  show okB ((eqP (natD a) (natD b)).map not) S = _
  rw [eqP_nat]
  rfl
theorem opEq_nat {a b : Nat} {S : List D} : opEq (natD a) (natD b) S = .ok (.bl (decide (a = b))) S := by
  show okB (eqP (natD a) (natD b)) S = _
  rw [eqP_nat]
  rfl
theorem is_row_T {xs S : List D} : c_is_row [.tup xs] S = .ok (.bl true) S := fn_rt rfl rfl
theorem is_row_L {xs S : List D} : c_is_row [.lst xs] S = .ok (.bl true) S := fn_rt rfl rfl
theorem is_number_ok {i : Int} {S : List D} : c_is_number [.int i] S = .ok (.bl (decide (0 ≤ i))) S := by
  refine fn_rt rfl ?_
  simp [b_is_number, b_is_number_0, isi_int, isi_bool, PyD.opGe, PyD.ltP, runFn, endOf, dropD, startR, sSeq, sE, sRet, sRetN, sDrop, sIf, sAsg, sOwn, sUnp, sPar, sRetO, sSkip, sBad, Out.bind, fTwo, fOne, fVar, fLook, fLit, fCall, fMeth, fFld, fCons, fNil, fTup, fLst, fIfV, fNotV, fAndV, fOrV, fAndT, fOrT, fNotT, fBl, fTru, fChain, opIsi, kdOf, okB, okD, dr_non, dr_bl, dr_int, dr_str, dr_tup, dr_lst, dr_ins, dr_dct, dr_cls, bindT, setMany, truD, fYes, adC, noC, LIM]
  by_cases h : i < 0 <;> simp [h] <;> omega
theorem is_below_ok {i n : Int} {S : List D} : c_is_below [.int i, .int n] S = .ok (.bl (decide (0 ≤ i) && decide (i < n))) S := by
  refine fn_rt rfl ?_
  simp [b_is_below, b_is_below_0, is_number_ok, PyD.opLt, PyD.ltP, runFn, endOf, dropD, startR, sSeq, sE, sRet, sRetN, sDrop, sIf, sAsg, sOwn, sUnp, sPar, sRetO, sSkip, sBad, Out.bind, fTwo, fOne, fVar, fLook, fLit, fCall, fMeth, fFld, fCons, fNil, fTup, fLst, fIfV, fNotV, fAndV, fOrV, fAndT, fOrT, fNotT, fBl, fTru, fChain, opIsi, kdOf, okB, okD, dr_non, dr_bl, dr_int, dr_str, dr_tup, dr_lst, dr_ins, dr_dct, dr_cls, bindT, setMany, truD, fYes, adC, noC, LIM]
  by_cases h : 0 ≤ i <;> simp [h]
theorem below_nat {k n : Nat} {S : List D} : c_is_below [natD k, natD n] S = .ok (.bl (decide (k < n))) S := by
  refine is_below_ok.trans ?_
  congr 2
  rw [Bool.eq_iff_iff]
  simp
theorem ix_T {xs : List D} {k : Nat} {d : D} {S : List D} (h : xs[k]? = some d) : opIx (.tup xs) (natD k) S = .ok d S := by
  show okD (atI xs (k : Int)) S = _
  rw [atI_nat h]
  rfl
theorem ix_L {xs : List D} {k : Nat} {d : D} {S : List D} (h : xs[k]? = some d) : opIx (.lst xs) (natD k) S = .ok d S := by
  show okD (atI xs (k : Int)) S = _
  rw [atI_nat h]
  rfl
/-! ### machines -/
abbrev Mc := List (List (Nat × Nat))
def pairD (p : Nat × Nat) : D := .tup [natD p.1, natD p.2]
def rowM (r : List (Nat × Nat)) : D := .tup (r.map pairD)
def machD (M : Mc) : D := .ins 1 [.tup (M.map rowM)]
/-- n states, c commands -/
structure Ok (n c : Nat) (M : Mc) : Prop where
  len : M.length = n
  hi : n ≤ 4
  lo : 1 ≤ n
  c1 : 1 ≤ c
  c2 : c ≤ 2
  row : ∀ r ∈ M, r.length = c
  cell : ∀ r ∈ M, ∀ p ∈ r, p.1 < 1000 ∧ p.2 < n
def cellM (M : Mc) (s k : Nat) : Nat × Nat := (M.getD s []).getD k (0, 0)
section
variable {n c : Nat} {M : Mc}
theorem Ok.at_ (h : Ok n c M) {s : Nat} (hs : s < n) : (M.map rowM)[s]? = some (rowM (M.getD s [])) := by
  have hl : s < M.length := by rw [h.len]; exact hs
  rw [List.getElem?_map, List.getElem?_eq_getElem hl, List.getD_eq_getElem?_getD, List.getElem?_eq_getElem hl]
  rfl
theorem Ok.mem (h : Ok n c M) {s : Nat} (hs : s < n) : M.getD s [] ∈ M := by
  have hl : s < M.length := by rw [h.len]; exact hs
  rw [List.getD_eq_getElem?_getD, List.getElem?_eq_getElem hl]
  exact List.getElem_mem hl
theorem Ok.rlen (h : Ok n c M) {s : Nat} (hs : s < n) : (M.getD s []).length = c := h.row _ (h.mem hs)
theorem Ok.cat (h : Ok n c M) {s k : Nat} (hs : s < n) (hk : k < c) : ((M.getD s []).map pairD)[k]? = some (pairD (cellM M s k)) := by
  have hl : k < (M.getD s []).length := by rw [h.rlen hs]; exact hk
  unfold cellM
  rw [List.getElem?_map, List.getElem?_eq_getElem hl, List.getD_eq_getElem?_getD (l := M.getD s []), List.getElem?_eq_getElem hl]
  rfl
theorem Ok.cmem (h : Ok n c M) {s k : Nat} (hs : s < n) (hk : k < c) : cellM M s k ∈ M.getD s [] := by
  have hl : k < (M.getD s []).length := by rw [h.rlen hs]; exact hk
  unfold cellM
  rw [List.getD_eq_getElem?_getD (l := M.getD s []), List.getElem?_eq_getElem hl]
  exact List.getElem_mem hl
theorem Ok.nx (h : Ok n c M) {s k : Nat} (hs : s < n) (hk : k < c) : (cellM M s k).2 < n := (h.cell _ (h.mem hs) _ (h.cmem hs hk)).2
def stM (M : Mc) : Nat → List Nat → Nat
  | s, [] => s
  | s, k :: ks => stM M (cellM M s k).2 ks
def runM (M : Mc) : Nat → List Nat → List Nat
  | _, [] => []
  | s, k :: ks => (cellM M s k).1 :: runM M (cellM M s k).2 ks
theorem runM_len : ∀ (q : List Nat) (s : Nat), (runM M s q).length = q.length
  | [], _ => rfl
  | k :: ks, s => by unfold runM; rw [List.length_cons, List.length_cons, runM_len]
variable {ρ : List Sl} {S : List D}
theorem fld_rows {i : Nat} {fo : Ef D} (h : fo ρ S = .ok (machD M) S) : fFld a_rows fo ρ S = .ok (.tup (M.map rowM)) S := by
  unfold fFld
  rw [h]
  rfl
theorem commands_ok (h : Ok n c M) : c_Machine_commands [machD M] S = .ok (natD c) S := by
  refine fn_rt rfl (ret_ok (one_to (two_to (fld_rows (i := 0) (M := M) rfl) rfl (ix_T (k := 0) (h.at_ h.lo))) ?_))
  show Out.ok (D.int (((M.getD 0 []).map pairD).length : Nat)) S = _
  rw [List.length_map, h.rlen h.lo]
  rfl
theorem meth0 {mt : Nat → Option (Nat × Cl)} {fo : Ef D} {cl : Cl} {cn : Nat} {fs : List D} {o : Out D} (h : fo ρ S = .ok (.ins cn fs) S) (hm : mt cn = some (1, cl)) (h2 : cl [.ins cn fs] S = o) : fMeth mt fo fNil ρ S = o := by
  unfold fMeth
  rw [h]
  show (match mt cn with | some (n, cl) => _ | none => _) = _
  rw [hm]
  exact h2
theorem meth1 {mt : Nat → Option (Nat × Cl)} {fo fa : Ef D} {cl : Cl} {cn : Nat} {fs : List D} {x : D} {o : Out D} (h : fo ρ S = .ok (.ins cn fs) S) (hm : mt cn = some (2, cl)) (ha : fa ρ S = .ok x S) (h2 : cl [.ins cn fs, x] S = o) : fMeth mt fo (fCons fa fNil) ρ S = o := by
  unfold fMeth
  rw [h]
  show (match mt cn with | some (n, cl) => _ | none => _) = _
  rw [hm]
  unfold fCons fNil
  show Out.bind (Out.bind (fa ρ S) _) _ = _
  rw [ha]
  exact h2
theorem cmd_ok (h : Ok n c M) {fo : Ef D} (h0 : fo ρ S = .ok (machD M) S) : fMeth mt_commands fo fNil ρ S = .ok (natD c) S := meth0 h0 rfl (commands_ok h)
/-- a run, in a list or a tuple -/
def IsRun (d : D) (q : List Nat) : Prop := d = .tup (q.map natD) ∨ d = .lst (q.map natD)
theorem run_items {d : D} {q : List Nat} {fa : Ef D} (h : IsRun d q) (h0 : fa ρ S = .ok d S) : fItemsG fa ρ S = .ok (q.map natD) S := by
  rcases h with rfl | rfl
  · exact itemsT_ok h0
  · exact items_ok h0
theorem run_row {d : D} {q : List Nat} (h : IsRun d q) : c_is_row [d] S = .ok (.bl true) S := by
  rcases h with rfl | rfl
  · exact is_row_T
  · exact is_row_L
theorem app_ok {i : Nat} {f : Ef D} {ds : List D} {d : D} (h : ρ[i]? = some (.own (.lst ds))) (hz : ds.length < LIM) (h2 : f ρ S = .ok d S) : sApp i f ρ S = .nx (ρ.set i (.own (.lst (ds ++ [d])))) S := by
  unfold sApp
  rw [h]
  dsimp only
  unfold sE
  rw [h2]
  exact if_pos hz
theorem run_loop (h : Ok n c M) {d : D} : ∀ (q : List Nat) (s : Nat) (acc : List Nat) (a4 a5 : Sl), s < n → (∀ k ∈ q, k < c) → acc.length + q.length ≤ LIM → ∃ b4 b5,
    forL (.one 4) (sSeq (sIf (fNotT (fTru tm (fCall 2 c_is_below (fCons (fVar 4) (fCons (fMeth mt_commands (fVar 0) fNil) fNil))))) sBad sSkip)
    (sSeq (sUnp (.many [5, 2]) (fTwo opIx (fTwo opIx (fFld a_rows (fLook 0)) (fLook 2)) (fLook 4)))
    (sApp 3 (fVar 5)))) (q.map natD) [.val (machD M), .val d, .val (natD s), .own (.lst (acc.map natD)), a4, a5] S = .nx [.val (machD M), .val d, .val (natD (stM M s q)), .own (.lst ((acc ++ runM M s q).map natD)), b4, b5] S
  | [], s, acc, a4, a5, _, _, _ => ⟨a4, a5, by unfold runM; rw [List.append_nil]; rfl⟩
  | k :: q, s, acc, a4, a5, hs, hk, hz => by
    have hkc := hk k List.mem_cons_self
    rw [List.length_cons] at hz
    obtain ⟨b4, b5, ih⟩ := run_loop h q (cellM M s k).2 (acc ++ [(cellM M s k).1]) (.val (natD k)) (.val (natD (cellM M s k).1)) (h.nx hs hkc) (fun x m => hk x (List.mem_cons_of_mem _ m)) (by rw [List.length_append, List.length_singleton]; omega)
    refine ⟨b4, b5, ?_⟩
    have hb : (sSeq (sIf (fNotT (fTru tm (fCall 2 c_is_below (fCons (fVar 4) (fCons (fMeth mt_commands (fVar 0) fNil) fNil))))) sBad sSkip)
    (sSeq (sUnp (.many [5, 2]) (fTwo opIx (fTwo opIx (fFld a_rows (fLook 0)) (fLook 2)) (fLook 4)))
    (sApp 3 (fVar 5)))) [.val (machD M), .val d, .val (natD s), .own (.lst (acc.map natD)), .val (natD k), a5] S = .nx [.val (machD M), .val d, .val (natD (cellM M s k).2), .own (.lst ((acc ++ [(cellM M s k).1]).map natD)), .val (natD k), .val (natD (cellM M s k).1)] S := by
      have e1 : sIf (fNotT (fTru tm (fCall 2 c_is_below (fCons (fVar 4) (fCons (fMeth mt_commands (fVar 0) fNil) fNil))))) sBad sSkip [.val (machD M), .val d, .val (natD s), .own (.lst (acc.map natD)), .val (natD k), a5] S = .nx [.val (machD M), .val d, .val (natD s), .own (.lst (acc.map natD)), .val (natD k), a5] S := by
        refine if_f (notT (x := true) (tru_bl (to2 (x := natD k) (y := natD c) rfl (cmd_ok h rfl) (below_nat.trans ?_))))
        rw [decide_eq_true hkc]
      have e2 : sUnp (.many [5, 2]) (fTwo opIx (fTwo opIx (fFld a_rows (fLook 0)) (fLook 2)) (fLook 4)) [.val (machD M), .val d, .val (natD s), .own (.lst (acc.map natD)), .val (natD k), a5] S = .nx [.val (machD M), .val d, .val (natD (cellM M s k).2), .own (.lst (acc.map natD)), .val (natD k), .val (natD (cellM M s k).1)] S :=
        unp_ok (d := pairD (cellM M s k)) (two_to (two_to (fld_rows (i := 0) (M := M) rfl) rfl (ix_T (h.at_ hs))) rfl (ix_T (h.cat hs hkc))) rfl
      have e3 : sApp 3 (fVar 5) [.val (machD M), .val d, .val (natD (cellM M s k).2), .own (.lst (acc.map natD)), .val (natD k), .val (natD (cellM M s k).1)] S = .nx [.val (machD M), .val d, .val (natD (cellM M s k).2), .own (.lst ((acc ++ [(cellM M s k).1]).map natD)), .val (natD k), .val (natD (cellM M s k).1)] S := by
        refine (app_ok (ds := acc.map natD) (d := natD (cellM M s k).1) rfl (by rw [List.length_map]; omega) rfl).trans ?_
        rw [List.map_append]
        rfl
      exact (seq_nx e1).trans ((seq_nx e2).trans e3)
    rw [List.map_cons]
    unfold forL
    dsimp only [bindT, List.set]
    rw [hb]
    dsimp only
    rw [ih, List.append_assoc]
    rfl
theorem run_ok (h : Ok n c M) {d : D} {q : List Nat} (hd : IsRun d q) (hq : ∀ k ∈ q, k < c) (hz : q.length ≤ LIM) : c_Machine_run [machD M, d] S = .ok (rowD (runM M 0 q)) S := by
  have e0 : b_Machine_run_0 (startR 6 [machD M, d]) S = .nx [.val (machD M), .val d, .emp, .emp, .emp, .emp] S := if_f (notT (x := true) (tru_bl (to1 (x := d) rfl (run_row hd))))
  have e1 : b_Machine_run_1 [.val (machD M), .val d, .emp, .emp, .emp, .emp] S = .nx [.val (machD M), .val d, .val (natD 0), .own (.lst ([].map natD)), .emp, .emp] S := rfl
  obtain ⟨b4, b5, e2⟩ := run_loop (S := S) h (d := d) q 0 [] .emp .emp h.lo hq (by simpa using hz)
  refine fn_rt rfl ((seq_nx e0).trans ((seq_nx e1).trans ((seq_nx ((for_ok (run_items hd rfl)).trans e2)).trans (ret_ok (one_to rfl ?_)))))
  rfl
theorem run_call (h : Ok n c M) {d : D} {q : List Nat} (hd : IsRun d q) (hq : ∀ k ∈ q, k < c) (hz : q.length ≤ LIM) {fo fa : Ef D} (h0 : fo ρ S = .ok (machD M) S) (h1 : fa ρ S = .ok d S) : fMeth mt_run fo (fCons fa fNil) ρ S = .ok (rowD (runM M 0 q)) S := meth1 h0 rfl h1 (run_ok h hd hq hz)
theorem isi_mach : opIsi isi_Machine (machD M) S = .ok (.bl true) S := rfl
end
section
variable {n n' c : Nat} {M N : Mc} {ρ : List Sl} {S : List D}
theorem check_two_ok (h : Ok n c M) (h' : Ok n' c N) : c_check_two [machD M, machD N] S = .ok .non S := by
  have e0 : b_check_two_0 (startR 3 [machD M, machD N]) S = .nx [.val (machD M), .val (machD N), .val (machD N)] S := rfl
  refine fn_nx (ρ := [.val (machD M), .val (machD N), .val (machD N)]) rfl ((seq_nx e0).trans ?_)
  refine if_f (bl_ok (two_to (cmd_ok h rfl) (cmd_ok h' rfl) (opNe_nat.trans ?_)))
  rw [decide_eq_true rfl]
  rfl
/-- the two answer a run otherwise -/
def failsB (M N : Mc) (q : List Nat) : Bool := !decide (runM M 0 q = runM N 0 q)
theorem fails_ok (h : Ok n c M) (h' : Ok n' c N) {d : D} {q : List Nat} (hd : IsRun d q) (hq : ∀ k ∈ q, k < c) (hz : q.length ≤ LIM) : c_fails [machD M, machD N, d] S = .ok (.bl (failsB M N q)) S := by
  have e0 : b_fails_0 (startR 3 [machD M, machD N, d]) S = .nx [.val (machD M), .val (machD N), .val d] S := drop_ok (to2 rfl rfl (check_two_ok h h'))
  exact fn_rt rfl ((seq_nx e0).trans (ret_ok (two_to (run_call h hd hq hz rfl rfl) (run_call h' hd hq hz rfl rfl) opNe_row)))
end
end K29

/-! K29: all runs; failing ones; what is tried. -/
namespace K29
open PySem PySem.Spec L2 PyD
theorem cut_lo {os : List Nat} {k : Nat} : cutD (os.map natD) none (some (k : Int)) = (os.take k).map natD := by
  unfold cutD
  rw [HT.sIx_none, HT.sIx_nat, List.length_map, List.drop_zero, Nat.sub_zero, ← List.map_take]
  congr 1
  rw [List.take_eq_take_iff]
  omega
theorem cut_hi {os : List Nat} {k : Nat} (h : k ≤ os.length) : cutD (os.map natD) (some (k : Int)) none = (os.drop k).map natD := by
  unfold cutD
  rw [HT.sIx_none, HT.sIx_nat, List.length_map, ← List.map_drop, ← List.map_take]
  congr 1
  rw [Nat.min_eq_left h, List.take_of_length_le (by rw [List.length_drop]; exact Nat.le_refl _)]
theorem len_row {q : List Nat} {S : List D} : opLen (rowD q) S = .ok (natD q.length) S := by
  show Out.ok (D.int ((q.map natD).length : Nat)) S = _
  rw [List.length_map]
  rfl
theorem len_lst {xs S : List D} : opLen (.lst xs) S = .ok (natD xs.length) S := rfl
theorem gt_nat {a b : Nat} {S : List D} : PyD.opGt (natD a) (natD b) S = .ok (.bl (decide (b < a))) S := by
  show Out.ok (D.bl (decide ((b : Int) < (a : Int)))) S = _
  congr 2
  rw [Bool.eq_iff_iff]
  simp
theorem lt_nat {a b : Nat} {S : List D} : PyD.opLt (natD a) (natD b) S = .ok (.bl (decide (a < b))) S := by
  show Out.ok (D.bl (decide ((a : Int) < (b : Int)))) S = _
  congr 2
  rw [Bool.eq_iff_iff]
  simp
theorem ge_nat {a b : Nat} {S : List D} : PyD.opGe (natD a) (natD b) S = .ok (.bl (decide (b ≤ a))) S := by
  show Out.ok (D.bl (!decide ((a : Int) < (b : Int)))) S = _
  congr 2
  rw [Bool.eq_iff_iff]
  simp
theorem le_nat {a b : Nat} {S : List D} : PyD.opLe (natD a) (natD b) S = .ok (.bl (decide (a ≤ b))) S := by
  show Out.ok (D.bl (!decide ((b : Int) < (a : Int)))) S = _
  congr 2
  rw [Bool.eq_iff_iff]
  simp
theorem add_nat {a b : Nat} {S : List D} : opAdd (natD a) (natD b) S = .ok (natD (a + b)) S := rfl
theorem fLc2_ok {tg : Tg} {vs : List Nat} {it : Ef (List D)} {c : Ef Bool} {vs1 : List Nat} {it1 : Ef (List D)} {tg1 : Tg} {c1 : Ef Bool} {e : Ef D} {ρ : List Sl} {S S1 S2 ds ys : List D} (hi : it ρ S = .ok ds S1) (hl : lc2Loop tg c vs1 it1 tg1 c1 e (wipeR ρ vs) ds S1 = .ok ys S2) (hz : ys.length ≤ LIM) : fLc2 tg vs it c vs1 it1 tg1 c1 e ρ S = .ok (.lst ys) S2 := by
  unfold fLc2
  rw [hi]
  dsimp only [Out.bind]
  rw [hl]
  exact if_pos hz
/-! ### all runs -/
def lev (c : Nat) : Nat → List (List Nat)
  | 0 => [[]]
  | j + 1 => (lev c j).flatMap fun r => (List.range c).map fun x => r ++ [x]
def upto (c : Nat) : Nat → List (List Nat)
  | 0 => [[]]
  | j + 1 => upto c j ++ lev c (j + 1)
theorem flat_len {α β : Type} {g : α → List β} {m : Nat} : ∀ xs : List α, (∀ x ∈ xs, (g x).length = m) → (xs.flatMap g).length = xs.length * m
  | [], _ => by simp
  | x :: xs, h => by
    rw [List.flatMap_cons, List.length_append, h x List.mem_cons_self, flat_len xs fun y m => h y (List.mem_cons_of_mem _ m), List.length_cons, Nat.add_mul]
    omega
theorem lev_len (c : Nat) : ∀ j, (lev c j).length = c ^ j
  | 0 => rfl
  | j + 1 => by
    unfold lev
    rw [flat_len (m := c) _ fun r _ => by rw [List.length_map, List.length_range], lev_len c j, Nat.pow_succ]
theorem lev_le {c j : Nat} (hc : c ≤ 2) (hj : j ≤ 5) : (lev c j).length ≤ 32 := by
  rw [lev_len]
  exact Nat.le_trans (Nat.pow_le_pow_left hc j) (Nat.le_trans (Nat.pow_le_pow_right (by decide) hj) (by decide))
theorem upto_le {c : Nat} (hc : c ≤ 2) : ∀ j, j ≤ 5 → (upto c j).length ≤ 1 + 32 * j
  | 0, _ => by show 1 ≤ 1 + 32 * 0; decide
  | j + 1, hj => by
    unfold upto
    rw [List.length_append]
    have h1 := upto_le hc j (by omega)
    have h2 := lev_le hc hj
    omega
theorem mem_lev {c : Nat} : ∀ {j : Nat} {q : List Nat}, q ∈ lev c j ↔ q.length = j ∧ ∀ x ∈ q, x < c
  | 0, q => by
    unfold lev
    rw [List.mem_singleton]
    constructor
    · rintro rfl; exact ⟨rfl, fun x m => nomatch m⟩
    · intro h; exact List.length_eq_zero_iff.mp h.1
  | j + 1, q => by
    unfold lev
    rw [List.mem_flatMap]
    constructor
    · rintro ⟨r, hr, hq⟩
      obtain ⟨x, hx, rfl⟩ := List.mem_map.mp hq
      obtain ⟨h1, h2⟩ := mem_lev.mp hr
      refine ⟨by rw [List.length_append, h1]; rfl, fun y m => ?_⟩
      rcases List.mem_append.mp m with m | m
      · exact h2 y m
      · rw [List.mem_singleton.mp m]; exact List.mem_range.mp hx
    · rintro ⟨h1, h2⟩
      have hne : q ≠ [] := fun z => by rw [z] at h1; cases h1
      have e := List.dropLast_concat_getLast hne
      refine ⟨q.dropLast, mem_lev.mpr ⟨by rw [List.length_dropLast, h1]; rfl, fun x m => h2 x (List.dropLast_subset q m)⟩, List.mem_map.mpr ⟨q.getLast hne, List.mem_range.mpr (h2 _ (List.getLast_mem hne)), e⟩⟩
theorem mem_upto {c : Nat} : ∀ {j : Nat} {q : List Nat}, q ∈ upto c j ↔ q.length ≤ j ∧ ∀ x ∈ q, x < c
  | 0, q => by
    unfold upto
    rw [List.mem_singleton]
    constructor
    · rintro rfl; exact ⟨Nat.le_refl _, fun x m => nomatch m⟩
    · intro h; exact List.length_eq_zero_iff.mp (by omega)
  | j + 1, q => by
    unfold upto
    rw [List.mem_append, mem_upto, mem_lev]
    constructor
    · rintro (⟨h1, h2⟩ | ⟨h1, h2⟩)
      · exact ⟨by omega, h2⟩
      · exact ⟨by omega, h2⟩
    · rintro ⟨h1, h2⟩
      by_cases z : q.length = j + 1
      · exact .inr ⟨z, h2⟩
      · exact .inl ⟨by omega, h2⟩
theorem upto_sorted {c : Nat} : ∀ j, (upto c j).Pairwise fun a b => a.length ≤ b.length
  | 0 => List.pairwise_singleton _ _
  | j + 1 => by
    unfold upto
    rw [List.pairwise_append]
    refine ⟨upto_sorted j, ?_, fun a ha b hb => ?_⟩
    · refine List.pairwise_of_forall_mem_list fun a ha b hb => ?_
      rw [(mem_lev.mp ha).1, (mem_lev.mp hb).1]
      exact Nat.le_refl _
    · have h1 := (mem_upto.mp ha).1
      have h2 := (mem_lev.mp hb).1
      omega
section
variable {n n' c : Nat} {M N : Mc} {ρ : List Sl} {S : List D}
theorem ext_ok {i : Nat} {f : Ef D} {ds es : List D} (h : ρ[i]? = some (.own (.lst ds))) (h2 : f ρ S = .ok (.lst es) S) (hz : ds.length + es.length ≤ LIM) : sExt i f ρ S = .nx (ρ.set i (.own (.lst (ds ++ es)))) S := by
  unfold sExt
  rw [h]
  dsimp only
  unfold sE
  rw [h2]
  exact if_pos hz
theorem runs_loop (h : Ok n c M) {m : D} : ∀ (ts : List D) (j : Nat) (a4 : Sl), j + ts.length ≤ 5 → ∃ b4, forL (.one 4) (sSeq (sAsg 3 (fLc2 (.one 5) [5, 6] (fItemsG (fLook 3)) fYes [6] (fRng1 (fMeth mt_commands (fVar 0) fNil)) (.one 6) fYes (fTup (fStar (fLook 5) (fCons (fVar 6) fNil)))))
    (sSeq (sExt 2 (fVar 3))
    (sIf (fBl (fTwo opGt (fOne opLen (fLook 2)) (fLit (.int 20000)))) sBad sSkip))) ts [.val (machD M), .val m, .own (.lst ((upto c j).map rowD)), .val (.lst ((lev c j).map rowD)), a4, .emp, .emp] S = .nx [.val (machD M), .val m, .own (.lst ((upto c (j + ts.length)).map rowD)), .val (.lst ((lev c (j + ts.length)).map rowD)), b4, .emp, .emp] S
  | [], j, a4, _ => ⟨a4, rfl⟩
  | t :: ts, j, a4, hj => by
    rw [List.length_cons] at hj
    obtain ⟨b4, ih⟩ := runs_loop h ts (j + 1) (.val t) (by omega)
    refine ⟨b4, ?_⟩
    have hl1 := lev_le (j := j) h.c2 (by omega)
    have hl2 := lev_le (j := j + 1) h.c2 (by omega)
    have hu := upto_le h.c2 j (by omega)
    have hlc : fLc2 (.one 5) [5, 6] (fItemsG (fLook 3)) fYes [6] (fRng1 (fMeth mt_commands (fVar 0) fNil)) (.one 6) fYes (fTup (fStar (fLook 5) (fCons (fVar 6) fNil))) [.val (machD M), .val m, .own (.lst ((upto c j).map rowD)), .val (.lst ((lev c j).map rowD)), .val t, .emp, .emp] S = .ok (.lst ((lev c (j + 1)).map rowD)) S := by
      have e : (lev c (j + 1)).map rowD = (lev c j).flatMap fun r => (List.range c).map fun x => rowD (r ++ [x]) := by
        show ((lev c j).flatMap fun r => (List.range c).map fun x => r ++ [x]).map rowD = _
        rw [List.map_flatMap]
        congr 1
        funext r
        rw [List.map_map]
        rfl
      rw [e]
      refine fLc2_ok (S1 := S) (ds := (lev c j).map rowD) rfl (lc2_all (enc := rowD) (ys := fun r => (List.range c).map fun x => rowD (r ++ [x])) _ fun r hr => ⟨[.val (machD M), .val m, .own (.lst ((upto c j).map rowD)), .val (.lst ((lev c j).map rowD)), .val t, .val (rowD r), .emp], (List.range c).map natD, rfl, rng_ok (cmd_ok h rfl) (by have := h.c2; omega), lc_all (xs := List.range c) (enc := natD) (g := fun x => rowD (r ++ [x])) fun x hx => ⟨[.val (machD M), .val m, .own (.lst ((upto c j).map rowD)), .val (.lst ((lev c j).map rowD)), .val t, .val (rowD r), .val (natD x)], rfl, ?_⟩⟩) (by rw [← e, List.length_map]; exact Nat.le_trans hl2 (by decide))
      have hrl := (mem_lev.mp hr).1
      show fTup (fStar (fLook 5) (fCons (fVar 6) fNil)) _ S = .ok (.tup ((r ++ [x]).map natD)) S
      rw [List.map_append]
      refine tup_ok (xs := r.map natD ++ [natD x]) rfl ?_
      rw [List.length_append, List.length_map, hrl]
      show j + 1 ≤ LIM
      exact Nat.le_trans (show j + 1 ≤ 6 by omega) (by decide)
    have e1 : sAsg 3 (fLc2 (.one 5) [5, 6] (fItemsG (fLook 3)) fYes [6] (fRng1 (fMeth mt_commands (fVar 0) fNil)) (.one 6) fYes (fTup (fStar (fLook 5) (fCons (fVar 6) fNil)))) [.val (machD M), .val m, .own (.lst ((upto c j).map rowD)), .val (.lst ((lev c j).map rowD)), .val t, .emp, .emp] S = .nx [.val (machD M), .val m, .own (.lst ((upto c j).map rowD)), .val (.lst ((lev c (j + 1)).map rowD)), .val t, .emp, .emp] S := asg_ok hlc
    have e2 : sExt 2 (fVar 3) [.val (machD M), .val m, .own (.lst ((upto c j).map rowD)), .val (.lst ((lev c (j + 1)).map rowD)), .val t, .emp, .emp] S = .nx [.val (machD M), .val m, .own (.lst ((upto c (j + 1)).map rowD)), .val (.lst ((lev c (j + 1)).map rowD)), .val t, .emp, .emp] S := by
      refine (ext_ok (ds := (upto c j).map rowD) (es := (lev c (j + 1)).map rowD) rfl rfl (by rw [List.length_map, List.length_map]; exact Nat.le_trans (show _ ≤ 1 + 32 * j + 32 by omega) (Nat.le_trans (show _ ≤ 300 by omega) (by decide)))).trans ?_
      rw [← List.map_append]
      rfl
    have e3 : sIf (fBl (fTwo opGt (fOne opLen (fLook 2)) (fLit (.int 20000)))) sBad sSkip [.val (machD M), .val m, .own (.lst ((upto c (j + 1)).map rowD)), .val (.lst ((lev c (j + 1)).map rowD)), .val t, .emp, .emp] S = .nx [.val (machD M), .val m, .own (.lst ((upto c (j + 1)).map rowD)), .val (.lst ((lev c (j + 1)).map rowD)), .val t, .emp, .emp] S := by
      refine if_f (bl_ok (two_to (one_to rfl len_lst) rfl ((gt_nat (b := 20000)).trans ?_)))
      have := upto_le h.c2 (j + 1) (by omega)
      rw [List.length_map, decide_eq_false (by omega)]
    unfold forL
    dsimp only [bindT, List.set]
    rw [(seq_nx e1).trans ((seq_nx e2).trans e3)]
    dsimp only
    rw [ih, List.length_cons, show j + (ts.length + 1) = j + 1 + ts.length by omega]
theorem runs_ok (h : Ok n c M) {m : Nat} (hm : m ≤ 5) : c_runs_of [machD M, natD m] S = .ok (.lst ((upto c m).map rowD)) S := by
  have e0 : b_runs_of_0 (startR 7 [machD M, natD m]) S = .nx [.val (machD M), .val (natD m), .emp, .emp, .emp, .emp, .emp] S := rfl
  have e1 : b_runs_of_1 [.val (machD M), .val (natD m), .emp, .emp, .emp, .emp, .emp] S = .nx [.val (machD M), .val (natD m), .emp, .emp, .emp, .emp, .emp] S := by
    refine if_f (notT (x := true) (tru_bl (to2 (x := natD m) (y := natD 13) rfl rfl (below_nat.trans ?_))))
    rw [decide_eq_true (show m < 13 by omega)]
  have e2 : b_runs_of_2 [.val (machD M), .val (natD m), .emp, .emp, .emp, .emp, .emp] S = .nx [.val (machD M), .val (natD m), .own (.lst ((upto c 0).map rowD)), .val (.lst ((lev c 0).map rowD)), .emp, .emp, .emp] S := rfl
  obtain ⟨b4, e3⟩ := runs_loop (S := S) h (m := natD m) ((List.range m).map natD) 0 .emp (by rw [List.length_map, List.length_range]; omega)
  rw [List.length_map, List.length_range, Nat.zero_add] at e3
  have hr : fRng1 (fVar 1) [.val (machD M), .val (natD m), .own (.lst ((upto c 0).map rowD)), .val (.lst ((lev c 0).map rowD)), .emp, .emp, .emp] S = .ok ((List.range m).map natD) S := rng_ok rfl (by omega)
  exact fn_rt rfl ((seq_nx e0).trans ((seq_nx e1).trans ((seq_nx e2).trans ((seq_nx ((for_ok hr).trans e3)).trans rfl))))
/-- runs that fail -/
def badL (M N : Mc) (c m : Nat) : List (List Nat) := (upto c m).filter (failsB M N)
theorem upto_lim {m : Nat} (hc : c ≤ 2) (hm : m ≤ 5) : (upto c m).length ≤ LIM := Nat.le_trans (upto_le hc m hm) (Nat.le_trans (show 1 + 32 * m ≤ 161 by omega) (by decide))
theorem len_lim {m : Nat} {q : List Nat} (hm : m ≤ 5) (h : q ∈ upto c m) : q.length ≤ LIM := Nat.le_trans (mem_upto.mp h).1 (Nat.le_trans hm (by decide))
theorem isR {q : List Nat} : IsRun (rowD q) q := .inl rfl
theorem bad_lc (h : Ok n c M) (h' : Ok n' c N) {m i j k : Nat} {tl : List Sl} (hm : m ≤ 5) (h0 : ∀ q, bindT (.one i) (rowD q) (wipeR ρ [i]) = some (ρ.set i (.val (rowD q)))) (hi : ∀ q : D, (ρ.set i (.val q))[i]? = some (.val q)) (a : ρ[j]? = some (.val (machD M))) (b : ρ[k]? = some (.val (machD N))) (hj : i ≠ j) (hk : i ≠ k) {it : Ef (List D)} (hit : it ρ S = .ok ((upto c m).map rowD) S) :
    fLc (.one i) [i] it (fTru tm (fCall 3 c_fails (fCons (fVar j) (fCons (fVar k) (fCons (fVar i) fNil))))) (fVar i) ρ S = .ok (.lst ((badL M N c m).map rowD)) S := by
  refine flt_lc (enc := rowD) (g := rowD) (p := failsB M N) (upto_lim h.c2 hm) hit fun q hq => ⟨_, h0 q, ?_, fun _ => var_ok (hi _)⟩
  refine tru_bl (to3 (x := machD M) (y := machD N) (z := rowD q) (var_ok ?_) (var_ok ?_) (var_ok (hi _)) (fails_ok h h' isR (mem_upto.mp hq).2 (len_lim hm hq)))
  · rw [List.getElem?_set_ne hj]; exact a
  · rw [List.getElem?_set_ne hk]; exact b
theorem failing_ok (h : Ok n c M) (h' : Ok n' c N) {m : Nat} (hm : m ≤ 5) : c_failing_runs [machD M, machD N, natD m] S = .ok (.lst ((badL M N c m).map rowD)) S := by
  have e0 : b_failing_runs_0 (startR 4 [machD M, machD N, natD m]) S = .nx [.val (machD M), .val (machD N), .val (natD m), .emp] S := drop_ok (to2 rfl rfl (check_two_ok h h'))
  exact fn_rt rfl ((seq_nx e0).trans (ret_ok (bad_lc h h' (tl := []) hm (fun _ => rfl) (fun _ => rfl) rfl rfl (by decide) (by decide) (items_ok (to2 rfl rfl (runs_ok h hm))))))
theorem run_len {d : D} {q : List Nat} (h : IsRun d q) : opLen d S = .ok (natD q.length) S := by
  rcases h with rfl | rfl
  · exact len_row
  · show Out.ok (D.int ((q.map natD).length : Nat)) S = _
    rw [List.length_map]
    rfl
theorem check_failing_ok (h : Ok n c M) (h' : Ok n' c N) {d : D} {q : List Nat} (hd : IsRun d q) (hq : ∀ k ∈ q, k < c) (hz : q.length ≤ 12) (hf : failsB M N q = true) : c_check_failing [machD M, machD N, d] S = .ok .non S := by
  have hz' : q.length ≤ LIM := Nat.le_trans hz (by decide)
  have e0 : b_check_failing_0 (startR 3 [machD M, machD N, d]) S = .nx [.val (machD M), .val (machD N), .val d] S := drop_ok (to2 rfl rfl (check_two_ok h h'))
  have e1 : b_check_failing_1 [.val (machD M), .val (machD N), .val d] S = .nx [.val (machD M), .val (machD N), .val d] S := drop_ok (run_call h hd hq hz' rfl rfl)
  refine fn_nx rfl ((seq_nx e0).trans ((seq_nx e1).trans (if_f ?_)))
  refine orT (x := false) (y := false) (bl_ok (two_to (one_to rfl (run_len hd)) rfl ((gt_nat (b := 12)).trans ?_))) (notT (x := true) (tru_bl (to3 rfl rfl rfl ((fails_ok h h' hd hq hz').trans (by rw [hf])))))
  rw [decide_eq_false (by omega)]
/-! ### ways -/
inductive Wy where
  | one | half | tail
  deriving DecidableEq
def wyS : Wy → Str
  | .one => "one"
  | .half => "half"
  | .tail => "tail"
def wyD (w : Wy) : D := .str (wyS w)
def waysD (ws : List Wy) : D := .lst (ws.map wyD)
theorem isi_wy (w : Wy) : opIsi isi_str (wyD w) S = .ok (.bl true) S := rfl
theorem in_ways (w : Wy) : opIn (wyD w) k_WAYS S = .ok (.bl true) S := by cases w <;> rfl
theorem check_ways_ok {ws : List Wy} (hz : ws.length ≤ LIM) : c_check_ways [waysD ws] S = .ok .non S := by
  have hl : fOne (opAllT tm) (fLc (.one 1) [1] (fItemsG (fLook 0)) fYes (fAndV (fOne (opIsi isi_str) (fLook 1)) (fTwo opIn (fLook 1) (fLit k_WAYS)))) [.val (waysD ws), .emp] S = .ok (.bl (ws.all fun _ => true)) S :=
    all_lc (enc := wyD) hz (items_ok rfl) fun w _ => ⟨[.val (waysD ws), .val (wyD w)], rfl, andV_t (one_to rfl (isi_wy w)) (two_to rfl rfl (in_ways w))⟩
  rw [all_true] at hl
  refine fn_nx rfl (ρ := [.val (waysD ws), .emp]) (if_f ?_)
  have h0 : fTru tm (fCall 1 c_is_row (fCons (fVar 0) fNil)) [.val (waysD ws), .emp] S = .ok true S := tru_bl (to1 rfl is_row_L)
  exact orT (x := false) (y := false) (notT h0) (notT (tru_bl hl))
/-- what a way tries -/
def triedL : Wy → List Nat → List (List Nat)
  | .one, q => (List.range q.length).map fun i => q.take i ++ q.drop (i + 1)
  | .half, q => [q.drop (q.length / 2), q.take (q.length / 2)]
  | .tail, q => (List.range q.length).map fun i => q.take i
theorem eq_wy (w : Wy) (x : Wy) : opEq (wyD w) (wyD x) S = .ok (.bl (decide (w = x))) S := by cases w <;> cases x <;> rfl
theorem slice_lo {i : Nat} {q : List Nat} {fb : Ef D} {k : Nat} (h0 : ρ[i]? = some (.val (rowD q))) (hb : fb ρ S = .ok (natD k) S) : fSl (fLook i) none (some fb) ρ S = .ok (rowD (q.take k)) S := by
  unfold fSl
  rw [look_ok h0]
  dsimp only [Out.bind, fPart]
  rw [hb]
  show Out.ok (D.tup (cutD (q.map natD) none (some (k : Int)))) S = _
  rw [cut_lo]
  rfl
theorem slice_hi {i : Nat} {q : List Nat} {fb : Ef D} {k : Nat} (h0 : ρ[i]? = some (.val (rowD q))) (hb : fb ρ S = .ok (natD k) S) (hk : k ≤ q.length) : fSl (fLook i) (some fb) none ρ S = .ok (rowD (q.drop k)) S := by
  unfold fSl
  rw [look_ok h0]
  dsimp only [Out.bind, fPart]
  rw [hb]
  show Out.ok (D.tup (cutD (q.map natD) (some (k : Int)) none)) S = _
  rw [cut_hi hk]
  rfl
theorem star_ok {fa : Ef D} {fr : Ef (List D)} {xs ys : List D} (h : fa ρ S = .ok (.tup xs) S) (h2 : fr ρ S = .ok ys S) : fStar fa fr ρ S = .ok (xs ++ ys) S := by
  unfold fStar
  rw [h]
  show Out.bind (fr ρ S) _ = _
  rw [h2]
  rfl
theorem nil_ok : fNil ρ S = .ok [] S := rfl
theorem half_nat {q : List Nat} {S : List D} : opDiv (natD q.length) (.int 2) S = .ok (natD (q.length / 2)) S := rfl
theorem tried_ok {w : Wy} {q : List Nat} (hz : q.length ≤ 1000) : c_tried [wyD w, rowD q] S = .ok (.lst ((triedL w q).map rowD)) S := by
  refine fn_rt rfl ?_
  have hL : q.length ≤ LIM := Nat.le_trans hz (by decide)
  have hr : ∀ ρ : List Sl, ρ[1]? = some (.val (rowD q)) → fRng1 (fOne opLen (fLook 1)) ρ S = .ok ((List.range q.length).map natD) S := fun ρ h => rng_ok (one_to (look_ok h) len_row) hz
  have no : ∀ (x : Wy) (f g : Es), w ≠ x → sSeq (sIf (fBl (fTwo opEq (fLook 0) (fLit (wyD x)))) f sSkip) g [.val (wyD w), .val (rowD q), .emp] S = g [.val (wyD w), .val (rowD q), .emp] S := fun x f g ne => by
    refine seq_nx (if_f (bl_ok (two_to rfl rfl ((eq_wy w x).trans ?_))))
    rw [decide_eq_false ne]
  have yes : ∀ (f g : Es) (d : D), f [.val (wyD w), .val (rowD q), .emp] S = .rt d S → sSeq (sIf (fBl (fTwo opEq (fLook 0) (fLit (wyD w)))) f sSkip) g [.val (wyD w), .val (rowD q), .emp] S = .rt d S := fun f g d h => by
    unfold sSeq
    rw [if_t (bl_ok (two_to rfl rfl ((eq_wy w w).trans (by rw [decide_eq_true rfl])))), h]
  cases w with
  | one =>
    refine yes _ _ _ (ret_ok ?_)
    rw [show (triedL .one q).map rowD = (List.range q.length).map fun i => rowD (q.take i ++ q.drop (i + 1)) by unfold triedL; rw [List.map_map]; rfl]
    refine map_lc (enc := natD) (g := fun i => rowD (q.take i ++ q.drop (i + 1))) (by rw [List.length_range]; exact hL) (hr _ rfl) fun i hi => ⟨[.val (wyD .one), .val (rowD q), .val (natD i)], rfl, ?_⟩
    have hi := List.mem_range.mp hi
    refine (tup_ok (xs := (q.take i).map natD ++ ((q.drop (i + 1)).map natD ++ [])) (S1 := S) (star_ok (slice_lo rfl rfl) (star_ok (slice_hi (k := i + 1) rfl (two_to rfl rfl (add_nat (b := 1))) hi) nil_ok)) ?_).trans ?_
    · rw [List.append_nil, List.length_append, List.length_map, List.length_map, List.length_take, List.length_drop]
      omega
    · rw [List.append_nil, ← List.map_append]
      rfl
  | half =>
    refine (no .one _ _ (by decide)).trans (yes _ _ _ (ret_ok ?_))
    have h1 := slice_hi (S := S) (i := 1) (q := q) (fb := fTwo opDiv (fOne opLen (fLook 1)) (fLit (.int 2))) (k := q.length / 2) (ρ := [.val (wyD .half), .val (rowD q), .emp]) rfl (two_to (one_to rfl len_row) rfl half_nat) (Nat.div_le_self _ _)
    have h2 := slice_lo (S := S) (i := 1) (q := q) (fb := fTwo opDiv (fOne opLen (fLook 1)) (fLit (.int 2))) (k := q.length / 2) (ρ := [.val (wyD .half), .val (rowD q), .emp]) rfl (two_to (one_to rfl len_row) rfl half_nat)
    unfold fLst
    rw [cons_ok h1 (cons_ok h2 nil_ok)]
    rfl
  | tail =>
    refine (no .one _ _ (by decide)).trans ((no .half _ _ (by decide)).trans (ret_ok ?_))
    rw [show (triedL .tail q).map rowD = (List.range q.length).map fun i => rowD (q.take i) by unfold triedL; rw [List.map_map]; rfl]
    exact map_lc (enc := natD) (g := fun i => rowD (q.take i)) (by rw [List.length_range]; exact hL) (hr _ rfl) fun i hi => ⟨[.val (wyD .tail), .val (rowD q), .val (natD i)], rfl, slice_lo rfl rfl⟩
end
end K29

/-! K29: shorter runs, cuts, least parts, ends. -/
namespace K29
open PySem PySem.Spec L2 PyD
/-! ### lists of runs, equal -/
theorem eqvAll_rows : ∀ A B : List (List Nat), PyData.eqvAll (toPs (A.map rowD)) (toPs (B.map rowD)) = decide (A = B)
  | [], [] => by simp [toPs, PyData.eqvAll]
  | [], b :: B => by simp [toPs, PyData.eqvAll]
  | a :: A, [] => by simp [toPs, PyData.eqvAll]
  | a :: A, b :: B => by
    rw [List.map_cons, List.map_cons]
    show PyData.eqvAll (toP (rowD a) :: toPs (A.map rowD)) (toP (rowD b) :: toPs (B.map rowD)) = _
    rw [PySem.W.eqv_all_cons, eqvAll_rows A B, eqv_row]
    rw [Bool.eq_iff_iff]
    simp
theorem eqP_rows (A B : List (List Nat)) : eqP (.lst (A.map rowD)) (.lst (B.map rowD)) = some (decide (A = B)) := by
  show (if plains (A.map rowD) && plains (B.map rowD) && decide ((toP (.lst (A.map rowD))).depth ≤ 100) then some (PyData.eqv (.list (toPs (A.map rowD))) (.list (toPs (B.map rowD)))) else _) = _
  rw [plains_rows, plains_rows, decide_eq_true (depth_lrows A)]
  show some (PyData.eqv (.list (toPs (A.map rowD))) (.list (toPs (B.map rowD)))) = _
  rw [← eqvAll_rows]
  simp [PyData.eqv]
theorem opEq_rows {A B : List (List Nat)} {S : List D} : opEq (.lst (A.map rowD)) (.lst (B.map rowD)) S = .ok (.bl (decide (A = B))) S := by
  show okB (eqP (.lst (A.map rowD)) (.lst (B.map rowD))) S = _
  rw [eqP_rows]
  rfl
theorem opNe_rows {A B : List (List Nat)} {S : List D} : opNe (.lst (A.map rowD)) (.lst (B.map rowD)) S = .ok (.bl (!decide (A = B))) S := by
  show okB ((eqP (.lst (A.map rowD)) (.lst (B.map rowD))).map not) S = _
  rw [eqP_rows]
  rfl
theorem at_last {xs : List D} {x : D} : atI (xs ++ [x]) (-1) = some x := by
  unfold atI ixN
  rw [if_neg (by omega), if_pos (by rw [List.length_append, List.length_singleton]; omega)]
  show (xs ++ [x])[((-1 : Int) + ((xs ++ [x]).length : Nat)).toNat]? = some x
  rw [List.length_append, List.length_singleton, show ((-1 : Int) + ((xs.length + 1 : Nat) : Int)).toNat = xs.length by omega]
  simp
/-! ### shorter runs -/
def keyR (q : List Nat) : List Key := q.map fun k : Nat => (.inl (k : Int) : Key)
theorem keyR_inj : ∀ {a b : List Nat}, keyR a = keyR b → a = b
  | [], [], _ => rfl
  | [], b :: bs, h => by cases h
  | a :: as, [], h => by cases h
  | a :: as, b :: bs, h => by
    unfold keyR at h
    rw [List.map_cons, List.map_cons] at h
    injection h with h1 h2
    injection h1 with h1
    rw [keyR_inj h2, show a = b by omega]
theorem keysOf_nat : ∀ q : List Nat, keysOf (q.map natD) = some (keyR q)
  | [] => rfl
  | k :: q => by
    rw [List.map_cons]
    unfold keysOf
    rw [keysOf_nat q]
    rfl
theorem keyT_row (q : List Nat) : keyT (rowD q) = some (keyR q) := keysOf_nat q
theorem keyD_row (q : List Nat) : D.tup ((keyR q).map keyD) = rowD q := by
  unfold keyR rowD
  rw [List.map_map]
  rfl
theorem has_row (L : List (List Nat)) (q : List Nat) : hasT (L.map keyR) (keyR q) = L.contains q := by
  unfold hasT
  rw [List.any_map, Bool.eq_iff_iff, List.any_eq_true, List.contains_iff_mem]
  constructor
  · rintro ⟨z, hz, h⟩
    rw [← keyR_inj (of_decide_eq_true h)]
    exact hz
  · intro h
    exact ⟨q, h, decide_eq_true rfl⟩
def tr (L : List (List Nat)) : List D := L.map fun _ => .bl true
theorem set_tr (k : List Key) : ∀ L : List (List Nat), dSetT (L.map keyR) (tr L) k (.bl true) = tr L
  | [] => rfl
  | q :: L => by
    show (if keyR q = k then D.bl true else D.bl true) :: dSetT (L.map keyR) (tr L) k (.bl true) = D.bl true :: tr L
    rw [set_tr k L]
    split <;> rfl
def addK (L : List (List Nat)) (q : List Nat) : List (List Nat) := if L.contains q then L else L ++ [q]
theorem put_row (L : List (List Nat)) (q : List Nat) : dPutT (L.map keyR) (tr L) (keyR q) (.bl true) = ((addK L q).map keyR, tr (addK L q)) := by
  unfold dPutT addK
  rw [has_row]
  split
  · rw [set_tr]
  · unfold tr
    rw [List.map_append, List.map_append]
    rfl
def dcR (L : List (List Nat)) : D := .dcT (L.map keyR) (tr L)
theorem addK_le (L : List (List Nat)) (q : List Nat) : (addK L q).length ≤ L.length + 1 := by
  unfold addK
  split
  · omega
  · rw [List.length_append]; exact Nat.le_refl _
/-- runs shorter than q -/
def keepL (q : List Nat) (T : List (List Nat)) : List (List Nat) := T.filter fun t => decide (t.length < q.length)
def shL (ws : List Wy) (q : List Nat) : List (List Nat) := (ws.flatMap fun w => keepL q (triedL w q)).foldl addK []
theorem mem_fold (x : List Nat) : ∀ (T L : List (List Nat)), x ∈ T.foldl addK L ↔ x ∈ L ∨ x ∈ T
  | [], L => by simp
  | t :: T, L => by
    rw [List.foldl_cons, mem_fold x T (addK L t), List.mem_cons]
    unfold addK
    split
    · rename_i h
      have := List.contains_iff_mem.mp h
      constructor
      · rintro (h | h)
        · exact .inl h
        · exact .inr (.inr h)
      · rintro (h | rfl | h)
        · exact .inl h
        · exact .inl this
        · exact .inr h
    · rw [List.mem_append, List.mem_singleton, or_assoc]
theorem mem_sh {ws : List Wy} {q x : List Nat} : x ∈ shL ws q ↔ (∃ w ∈ ws, x ∈ triedL w q) ∧ x.length < q.length := by
  unfold shL
  rw [mem_fold]
  simp only [List.not_mem_nil, false_or, List.mem_flatMap, keepL, List.mem_filter, decide_eq_true_eq]
  constructor
  · rintro ⟨w, hw, h1, h2⟩; exact ⟨⟨w, hw, h1⟩, h2⟩
  · rintro ⟨⟨w, hw, h1⟩, h2⟩; exact ⟨w, hw, h1, h2⟩
theorem tried_sub {w : Wy} {q x : List Nat} (h : x ∈ triedL w q) : ∀ k ∈ x, k ∈ q := by
  intro k hk
  cases w with
  | one =>
    obtain ⟨i, _, rfl⟩ := List.mem_map.mp h
    rcases List.mem_append.mp hk with m | m
    · exact List.mem_of_mem_take m
    · exact List.mem_of_mem_drop m
  | half =>
    rcases List.mem_cons.mp h with rfl | h
    · exact List.mem_of_mem_drop hk
    · rw [List.mem_singleton.mp h] at hk
      exact List.mem_of_mem_take hk
  | tail =>
    obtain ⟨i, _, rfl⟩ := List.mem_map.mp h
    exact List.mem_of_mem_take hk
theorem tried_len (w : Wy) (q : List Nat) : (triedL w q).length ≤ q.length + 2 := by
  cases w with
  | one => unfold triedL; rw [List.length_map, List.length_range]; omega
  | half => show 2 ≤ _; omega
  | tail => unfold triedL; rw [List.length_map, List.length_range]; omega
theorem fold_le : ∀ (T L : List (List Nat)), (T.foldl addK L).length ≤ L.length + T.length
  | [], L => by simp
  | t :: T, L => by
    rw [List.foldl_cons, List.length_cons]
    have h1 := fold_le T (addK L t)
    have h2 := addK_le L t
    omega
section
variable {n n' c : Nat} {M N : Mc} {ρ : List Sl} {S : List D}
theorem putT_ok {i : Nat} {fk fv : Ef D} {L : List (List Nat)} {q : List Nat} (h : ρ[i]? = some (.own (dcR L))) (hv : fv ρ S = .ok (.bl true) S) (hk : fk ρ S = .ok (rowD q) S) (hz : L.length < LIM) : sPutT i fk fv ρ S = .nx (ρ.set i (.own (dcR (addK L q)))) S := by
  unfold sPutT
  rw [h]
  dsimp only [dcR]
  unfold sE
  rw [hv]
  dsimp only
  rw [hk]
  dsimp only
  rw [keyT_row]
  dsimp only
  rw [List.length_map, if_pos hz, put_row]
theorem sh_in {d : D} {q : List Nat} {a3 : Sl} : ∀ (T L : List (List Nat)) (a4 : Sl), L.length + T.length ≤ LIM → ∃ b4, forL (.one 4) (sIf (fBl (fTwo opLt (fOne opLen (fLook 4)) (fOne opLen (fLook 1)))) (sPutT 2 (fVar 4) (fLit (.bl true))) sSkip) (T.map rowD) [.val d, .val (rowD q), .own (dcR L), a3, a4] S = .nx [.val d, .val (rowD q), .own (dcR ((keepL q T).foldl addK L)), a3, b4] S
  | [], L, a4, _ => ⟨a4, rfl⟩
  | t :: T, L, a4, hz => by
    rw [List.length_cons] at hz
    have hl : fBl (fTwo opLt (fOne opLen (fLook 4)) (fOne opLen (fLook 1))) [.val d, .val (rowD q), .own (dcR L), a3, .val (rowD t)] S = .ok (decide (t.length < q.length)) S := bl_ok (two_to (one_to rfl len_row) (one_to rfl len_row) lt_nat)
    by_cases h : t.length < q.length
    · obtain ⟨b4, ih⟩ := sh_in T (addK L t) (.val (rowD t)) (by have := addK_le L t; omega)
      refine ⟨b4, ?_⟩
      rw [decide_eq_true h] at hl
      have e : keepL q (t :: T) = t :: keepL q T := by unfold keepL; rw [List.filter_cons, if_pos (decide_eq_true h)]
      rw [e, List.foldl_cons, List.map_cons]
      unfold forL
      dsimp only [bindT, List.set]
      rw [(if_t hl).trans (putT_ok (L := L) (q := t) rfl rfl rfl (by omega))]
      exact ih
    · obtain ⟨b4, ih⟩ := sh_in T L (.val (rowD t)) (by omega)
      refine ⟨b4, ?_⟩
      rw [decide_eq_false h] at hl
      have e : keepL q (t :: T) = keepL q T := by unfold keepL; rw [List.filter_cons, if_neg (by rw [decide_eq_false h]; exact Bool.false_ne_true)]
      rw [e, List.map_cons]
      unfold forL
      dsimp only [bindT, List.set]
      rw [if_f hl]
      exact ih
theorem tup_self {q : List Nat} : opTuple (rowD q) S = .ok (rowD q) S := rfl
theorem sh_out {d : D} {q : List Nat} (hq : q.length ≤ 1000) : ∀ (ws : List Wy) (L : List (List Nat)) (a3 a4 : Sl), L.length + ws.length * (q.length + 2) ≤ LIM → ∃ b3 b4, forL (.one 3) (sFor (fItemsG (fCall 2 c_tried (fCons (fVar 3) (fCons (fOne opTuple (fLook 1)) fNil)))) (.one 4) (sIf (fBl (fTwo opLt (fOne opLen (fLook 4)) (fOne opLen (fLook 1)))) (sPutT 2 (fVar 4) (fLit (.bl true))) sSkip)) (ws.map wyD) [.val d, .val (rowD q), .own (dcR L), a3, a4] S = .nx [.val d, .val (rowD q), .own (dcR ((ws.flatMap fun w => keepL q (triedL w q)).foldl addK L)), b3, b4] S
  | [], L, a3, a4, _ => ⟨a3, a4, rfl⟩
  | w :: ws, L, a3, a4, hz => by
    rw [List.length_cons, Nat.add_mul] at hz
    have ht := tried_len w q
    obtain ⟨b4, h1⟩ := sh_in (S := S) (d := d) (q := q) (a3 := .val (wyD w)) (triedL w q) L a4 (by omega)
    obtain ⟨c3, c4, ih⟩ := sh_out (d := d) hq ws ((keepL q (triedL w q)).foldl addK L) (.val (wyD w)) b4 (by
      have h2 := fold_le (keepL q (triedL w q)) L
      have h3 : (keepL q (triedL w q)).length ≤ (triedL w q).length := List.length_filter_le _ _
      omega)
    refine ⟨c3, c4, ?_⟩
    rw [List.flatMap_cons, List.foldl_append, List.map_cons]
    unfold forL
    dsimp only [bindT, List.set]
    have hb : sFor (fItemsG (fCall 2 c_tried (fCons (fVar 3) (fCons (fOne opTuple (fLook 1)) fNil)))) (.one 4) (sIf (fBl (fTwo opLt (fOne opLen (fLook 4)) (fOne opLen (fLook 1)))) (sPutT 2 (fVar 4) (fLit (.bl true))) sSkip) [.val d, .val (rowD q), .own (dcR L), .val (wyD w), a4] S = .nx [.val d, .val (rowD q), .own (dcR ((keepL q (triedL w q)).foldl addK L)), .val (wyD w), b4] S := by
      refine (for_ok (ds := (triedL w q).map rowD) (S1 := S) (items_ok (to2 (x := wyD w) (y := rowD q) rfl (one_to (x := rowD q) rfl tup_self) (tried_ok hq)))).trans h1
    rw [hb]
    exact ih
theorem shorter_ok {ws : List Wy} {q : List Nat} (hq : q.length ≤ 1000) (hw : ws.length ≤ 1000) : c_shorter [waysD ws, rowD q] S = .ok (.lst ((shL ws q).map rowD)) S := by
  have e0 : b_shorter_0 (startR 5 [waysD ws, rowD q]) S = .nx [.val (waysD ws), .val (rowD q), .own (dcR []), .emp, .emp] S := rfl
  obtain ⟨b3, b4, e1⟩ := sh_out (S := S) (d := waysD ws) hq ws [] .emp .emp (by
    show 0 + _ ≤ LIM
    have : ws.length * (q.length + 2) ≤ 1000 * 1002 := Nat.mul_le_mul hw (by omega)
    exact Nat.le_trans (show 0 + ws.length * (q.length + 2) ≤ 1002000 by omega) (by decide))
  refine fn_rt rfl ((seq_nx e0).trans ((seq_nx ((for_ok (items_ok rfl)).trans e1)).trans (ret_ok (one_to rfl ?_))))
  show Out.ok (D.lst (((shL ws q).map keyR).map fun k => .tup (k.map keyD))) S = _
  rw [List.map_map]
  congr 2
  apply List.map_congr_left
  intro x _
  exact keyD_row x
/-! ### ends -/
def endB (M N : Mc) (ws : List Wy) (q : List Nat) : Bool := !(shL ws q).any (failsB M N)
theorem sh_c {ws : List Wy} {q x : List Nat} (hq : ∀ k ∈ q, k < c) (h : x ∈ shL ws q) : ∀ k ∈ x, k < c := fun k m => by
  obtain ⟨⟨w, _, h1⟩, _⟩ := mem_sh.mp h
  exact hq k (tried_sub h1 k m)
theorem sh_lt {ws : List Wy} {q x : List Nat} (h : x ∈ shL ws q) : x.length < q.length := (mem_sh.mp h).2
theorem sh_lim {ws : List Wy} {q : List Nat} (hq : q.length ≤ 12) (hw : ws.length ≤ 1000) : (shL ws q).length ≤ LIM := by
  have h1 := fold_le (ws.flatMap fun w => keepL q (triedL w q)) []
  have h2 : ∀ ws : List Wy, (ws.flatMap fun w => keepL q (triedL w q)).length ≤ ws.length * 14 := fun ws => by
    induction ws with
    | nil => simp
    | cons w ws ih =>
      rw [List.flatMap_cons, List.length_append, List.length_cons, Nat.add_mul]
      have h3 : (keepL q (triedL w q)).length ≤ (triedL w q).length := List.length_filter_le _ _
      have := tried_len w q
      omega
  have h3 := h2 ws
  have h4 : (shL ws q).length ≤ 14000 := by
    unfold shL
    rw [List.length_nil] at h1
    omega
  exact Nat.le_trans h4 (by decide)
theorem is_end_ok (h : Ok n c M) (h' : Ok n' c N) {ws : List Wy} {q : List Nat} (hq : ∀ k ∈ q, k < c) (hz : q.length ≤ 12) (hf : failsB M N q = true) (hw : ws.length ≤ 1000) : c_is_end [machD M, machD N, rowD q, waysD ws] S = .ok (.bl (endB M N ws q)) S := by
  have e0 : b_is_end_0 (startR 5 [machD M, machD N, rowD q, waysD ws]) S = .nx [.val (machD M), .val (machD N), .val (rowD q), .val (waysD ws), .emp] S := drop_ok (to3 rfl rfl rfl (check_failing_ok h h' isR hq hz hf))
  have e1 : b_is_end_1 [.val (machD M), .val (machD N), .val (rowD q), .val (waysD ws), .emp] S = .nx [.val (machD M), .val (machD N), .val (rowD q), .val (waysD ws), .emp] S := drop_ok (to1 rfl (check_ways_ok (Nat.le_trans hw (by decide))))
  refine fn_rt rfl ((seq_nx e0).trans ((seq_nx e1).trans (ret_ok (notV_ok ?_))))
  exact any_lc (enc := rowD) (sh_lim hz hw) (items_ok (to2 rfl rfl (shorter_ok (by omega) hw))) fun x hx => ⟨[.val (machD M), .val (machD N), .val (rowD q), .val (waysD ws), .val (rowD x)], rfl, to3 rfl rfl rfl (fails_ok h h' isR (sh_c hq hx) (Nat.le_trans (show x.length ≤ 12 by have := sh_lt hx; omega) (by decide)))⟩
def endsL (M N : Mc) (c m : Nat) (ws : List Wy) : List (List Nat) := (badL M N c m).filter (endB M N ws)
theorem mem_bad {m : Nat} {q : List Nat} : q ∈ badL M N c m ↔ (q.length ≤ m ∧ ∀ x ∈ q, x < c) ∧ failsB M N q = true := by
  unfold badL
  rw [List.mem_filter, mem_upto]
theorem bad_lim {m : Nat} (hc : c ≤ 2) (hm : m ≤ 5) : (badL M N c m).length ≤ LIM := Nat.le_trans (List.length_filter_le _ _) (upto_lim hc hm)
theorem ends_ok (h : Ok n c M) (h' : Ok n' c N) {m : Nat} (hm : m ≤ 5) {ws : List Wy} (hw : ws.length ≤ 1000) : c_ends_of [machD M, machD N, natD m, waysD ws] S = .ok (.lst ((endsL M N c m ws).map rowD)) S := by
  have e0 : b_ends_of_0 (startR 6 [machD M, machD N, natD m, waysD ws]) S = .nx [.val (machD M), .val (machD N), .val (natD m), .val (waysD ws), .emp, .emp] S := drop_ok (to2 rfl rfl (check_two_ok h h'))
  have e1 : b_ends_of_1 [.val (machD M), .val (machD N), .val (natD m), .val (waysD ws), .emp, .emp] S = .nx [.val (machD M), .val (machD N), .val (natD m), .val (waysD ws), .emp, .emp] S := drop_ok (to1 rfl (check_ways_ok (Nat.le_trans hw (by decide))))
  have e2 : b_ends_of_2 [.val (machD M), .val (machD N), .val (natD m), .val (waysD ws), .emp, .emp] S = .nx [.val (machD M), .val (machD N), .val (natD m), .val (waysD ws), .val (.lst ((badL M N c m).map rowD)), .emp] S :=
    asg_ok (bad_lc h h' (tl := []) hm (fun _ => rfl) (fun _ => rfl) rfl rfl (by decide) (by decide) (items_ok (to2 rfl rfl (runs_ok h hm))))
  refine fn_rt rfl ((seq_nx e0).trans ((seq_nx e1).trans ((seq_nx e2).trans (ret_ok ?_))))
  refine flt_lc (enc := rowD) (g := rowD) (p := endB M N ws) (bad_lim h.c2 hm) (items_ok rfl) fun q hq => ⟨[.val (machD M), .val (machD N), .val (natD m), .val (waysD ws), .val (.lst ((badL M N c m).map rowD)), .val (rowD q)], rfl, tru_bl ?_, fun _ => rfl⟩
  obtain ⟨⟨q1, q2⟩, q3⟩ := mem_bad.mp hq
  have : fCall 4 c_is_end (fCons (fVar 0) (fCons (fVar 1) (fCons (fVar 5) (fCons (fVar 3) fNil)))) [.val (machD M), .val (machD N), .val (natD m), .val (waysD ws), .val (.lst ((badL M N c m).map rowD)), .val (rowD q)] S = c_is_end [machD M, machD N, rowD q, waysD ws] S := rfl
  rw [this]
  exact is_end_ok h h' q2 (by omega) q3 hw
/-! ### cut down -/
def cutF (M N : Mc) (ws : List Wy) : Nat → List Nat → List (List Nat)
  | 0, q => [q]
  | k + 1, q => match (shL ws q).filter (failsB M N) with
    | [] => [q]
    | r :: _ => q :: cutF M N ws k r
theorem cut_loop (h : Ok n c M) (h' : Ok n' c N) {ws : List Wy} {d : D} (hw : ws.length ≤ 1000) : ∀ (k : Nat) (q : List Nat) (acc : List (List Nat)) (a5 : Sl), q.length < k → q.length ≤ 12 → (∀ x ∈ q, x < c) → acc.length + k ≤ 1000 →
    whlN (fTru tm (fLit (.bl true))) (sSeq (sAsg 5 (fLc (.one 6) [6] (fItemsG (fCall 2 c_shorter (fCons (fVar 3) (fCons (fTwo opIx (fLook 4) (fNeg (fLit (.int 1)))) fNil)))) (fTru tm (fCall 3 c_fails (fCons (fVar 0) (fCons (fVar 1) (fCons (fVar 6) fNil))))) (fVar 6)))
    (sSeq (sIf (fBl (fTwo opEq (fLook 5) (fLst fNil))) (sRetO 4) sSkip)
    (sApp 4 (fTwo opIx (fLook 5) (fLit (.int 0)))))) k [.val (machD M), .val (machD N), .val d, .val (waysD ws), .own (.lst ((acc ++ [q]).map rowD)), a5, .emp] S = .rt (.lst ((acc ++ cutF M N ws k q).map rowD)) S
  | 0, q, acc, a5, hk, _, _, _ => by omega
  | k + 1, q, acc, a5, hk, hz, hq, ha => by
    have hl : fLc (.one 6) [6] (fItemsG (fCall 2 c_shorter (fCons (fVar 3) (fCons (fTwo opIx (fLook 4) (fNeg (fLit (.int 1)))) fNil)))) (fTru tm (fCall 3 c_fails (fCons (fVar 0) (fCons (fVar 1) (fCons (fVar 6) fNil))))) (fVar 6) [.val (machD M), .val (machD N), .val d, .val (waysD ws), .own (.lst ((acc ++ [q]).map rowD)), a5, .emp] S = .ok (.lst (((shL ws q).filter (failsB M N)).map rowD)) S := by
      refine flt_lc (enc := rowD) (g := rowD) (p := failsB M N) (sh_lim hz hw) (items_ok (to2 (x := waysD ws) (y := rowD q) rfl (two_to (x := .lst ((acc ++ [q]).map rowD)) (y := .int (-1)) rfl rfl ?_) (shorter_ok (by omega) hw))) fun x hx => ⟨[.val (machD M), .val (machD N), .val d, .val (waysD ws), .own (.lst ((acc ++ [q]).map rowD)), a5, .val (rowD x)], rfl, tru_bl (to3 rfl rfl rfl (fails_ok h h' isR (sh_c hq hx) (Nat.le_trans (show x.length ≤ 12 by have := sh_lt hx; omega) (by decide)))), fun _ => rfl⟩
      show okD (atI ((acc ++ [q]).map rowD) (-1)) S = _
      rw [List.map_append]
      show okD (atI (acc.map rowD ++ [rowD q]) (-1)) S = _
      rw [at_last]
      rfl
    have e1 := asg_ok (i := 5) hl
    unfold whlN
    rw [show fTru tm (fLit (.bl true)) [.val (machD M), .val (machD N), .val d, .val (waysD ws), .own (.lst ((acc ++ [q]).map rowD)), a5, .emp] S = .ok true S from rfl]
    dsimp only
    rw [seq_nx e1]
    dsimp only [List.set]
    cases er : (shL ws q).filter (failsB M N) with
    | nil =>
      have e2 : fBl (fTwo opEq (fLook 5) (fLst fNil)) [.val (machD M), .val (machD N), .val d, .val (waysD ws), .own (.lst ((acc ++ [q]).map rowD)), .val (.lst (([] : List (List Nat)).map rowD)), .emp] S = .ok true S := bl_ok rfl
      unfold sSeq
      rw [if_t e2]
      unfold cutF
      rw [er]
      rfl
    | cons r rs =>
      have e2 : fBl (fTwo opEq (fLook 5) (fLst fNil)) [.val (machD M), .val (machD N), .val d, .val (waysD ws), .own (.lst ((acc ++ [q]).map rowD)), .val (.lst ((r :: rs).map rowD)), .emp] S = .ok false S := bl_ok (two_to rfl rfl ((opEq_rows (A := r :: rs) (B := [])).trans (by rw [decide_eq_false (by simp)])))
      have e3 : sApp 4 (fTwo opIx (fLook 5) (fLit (.int 0))) [.val (machD M), .val (machD N), .val d, .val (waysD ws), .own (.lst ((acc ++ [q]).map rowD)), .val (.lst ((r :: rs).map rowD)), .emp] S = .nx [.val (machD M), .val (machD N), .val d, .val (waysD ws), .own (.lst (((acc ++ [q]) ++ [r]).map rowD)), .val (.lst ((r :: rs).map rowD)), .emp] S := by
        refine (app_ok (ds := (acc ++ [q]).map rowD) (d := rowD r) rfl ?_ (two_to rfl rfl (ix_L (k := 0) rfl))).trans ?_
        · rw [List.length_map, List.length_append, List.length_singleton]
          exact Nat.lt_of_le_of_lt (show acc.length + 1 ≤ 1000 by omega) (by decide)
        · exact congrArg (fun z => OutS.nx [.val (machD M), .val (machD N), .val d, .val (waysD ws), .own (.lst z), .val (.lst ((r :: rs).map rowD)), .emp] S) (List.map_append (f := rowD) (l₁ := acc ++ [q]) (l₂ := [r])).symm
      rw [(seq_nx (if_f e2)).trans e3]
      dsimp only
      have hr : r ∈ shL ws q := (List.mem_filter.mp (er ▸ List.mem_cons_self)).1
      have hrl := sh_lt hr
      rw [cut_loop h h' hw k r (acc ++ [q]) (.val (.lst ((r :: rs).map rowD))) (by omega) (by omega) (sh_c hq hr) (by rw [List.length_append, List.length_singleton]; omega)]
      unfold cutF
      rw [er, List.append_assoc]
      cases k <;> rfl
def cutL (M N : Mc) (ws : List Wy) (q : List Nat) : List (List Nat) := cutF M N ws 100 q
theorem cut_ok (h : Ok n c M) (h' : Ok n' c N) {ws : List Wy} {q : List Nat} (hq : ∀ k ∈ q, k < c) (hz : q.length ≤ 12) (hf : failsB M N q = true) (hw : ws.length ≤ 1000) : c_cut_down [machD M, machD N, rowD q, waysD ws] S = .ok (.lst ((cutL M N ws q).map rowD)) S := by
  have e0 : b_cut_down_0 (startR 7 [machD M, machD N, rowD q, waysD ws]) S = .nx [.val (machD M), .val (machD N), .val (rowD q), .val (waysD ws), .emp, .emp, .emp] S := drop_ok (to3 rfl rfl rfl (check_failing_ok h h' isR hq hz hf))
  have e1 : b_cut_down_1 [.val (machD M), .val (machD N), .val (rowD q), .val (waysD ws), .emp, .emp, .emp] S = .nx [.val (machD M), .val (machD N), .val (rowD q), .val (waysD ws), .emp, .emp, .emp] S := drop_ok (to1 rfl (check_ways_ok (Nat.le_trans hw (by decide))))
  have e2 : b_cut_down_2 [.val (machD M), .val (machD N), .val (rowD q), .val (waysD ws), .emp, .emp, .emp] S = .nx [.val (machD M), .val (machD N), .val (rowD q), .val (waysD ws), .own (.lst (([] ++ [q]).map rowD)), .emp, .emp] S := rfl
  exact fn_rt rfl ((seq_nx e0).trans ((seq_nx e1).trans ((seq_nx e2).trans (cut_loop h h' hw 100 q [] .emp (by omega) hz hq (by decide)))))
/-! ### least parts -/
def setsN : Nat → List (List Nat)
  | 1 => [[], [0]]
  | 2 => [[], [0], [1], [0, 1]]
  | 3 => [[], [0], [1], [2], [0, 1], [0, 2], [1, 2], [0, 1, 2]]
  | 4 => [[], [0], [1], [2], [3], [0, 1], [0, 2], [0, 3], [1, 2], [1, 3], [2, 3], [0, 1, 2], [0, 1, 3], [0, 2, 3], [1, 2, 3], [0, 1, 2, 3]]
  | 5 => [[], [0], [1], [2], [3], [4], [0, 1], [0, 2], [0, 3], [0, 4], [1, 2], [1, 3], [1, 4], [2, 3], [2, 4], [3, 4], [0, 1, 2], [0, 1, 3], [0, 1, 4], [0, 2, 3], [0, 2, 4], [0, 3, 4], [1, 2, 3], [1, 2, 4], [1, 3, 4], [2, 3, 4], [0, 1, 2, 3], [0, 1, 2, 4], [0, 1, 3, 4], [0, 2, 3, 4], [1, 2, 3, 4], [0, 1, 2, 3, 4]]
  | _ => []
theorem sets_ok {n : Nat} {S : List D} (h1 : 1 ≤ n) (h2 : n ≤ 5) : c_sets_of [.lst ((List.range n).map natD)] S = .ok (.lst ((setsN n).map rowD)) S := by
  have e : n = 1 ∨ n = 2 ∨ n = 3 ∨ n = 4 ∨ n = 5 := by omega
  rcases e with rfl | rfl | rfl | rfl | rfl
  · exact fn_rt rfl rfl
  · exact fn_rt rfl rfl
  · exact fn_rt rfl rfl
  · exact fn_rt rfl rfl
  · exact fn_rt rfl rfl
end
end K29

/-! K29: least parts, what matters, first failures, answers about ends. -/
namespace K29
open PySem PySem.Spec L2 PyD
section
variable {n n' c : Nat} {M N : Mc} {ρ : List Sl} {S : List D}
theorem sets_lt : ∀ n, n ≤ 5 → ∀ s ∈ setsN n, ∀ x ∈ s, x < n := by
  intro n h
  have e : n = 0 ∨ n = 1 ∨ n = 2 ∨ n = 3 ∨ n = 4 ∨ n = 5 := by omega
  rcases e with rfl | rfl | rfl | rfl | rfl | rfl <;> decide +kernel
theorem sets_le : ∀ n, n ≤ 5 → ∀ s ∈ setsN n, s.length ≤ 5 := by
  intro n h
  have e : n = 0 ∨ n = 1 ∨ n = 2 ∨ n = 3 ∨ n = 4 ∨ n = 5 := by omega
  rcases e with rfl | rfl | rfl | rfl | rfl | rfl <;> decide +kernel
theorem sets_len : ∀ n, n ≤ 5 → (setsN n).length ≤ 32 := by
  intro n h
  have e : n = 0 ∨ n = 1 ∨ n = 2 ∨ n = 3 ∨ n = 4 ∨ n = 5 := by omega
  rcases e with rfl | rfl | rfl | rfl | rfl | rfl <;> decide +kernel
theorem sets_all : ∀ n, 1 ≤ n → n ≤ 5 → List.range n ∈ setsN n := by
  intro n h0 h
  have e : n = 1 ∨ n = 2 ∨ n = 3 ∨ n = 4 ∨ n = 5 := by omega
  rcases e with rfl | rfl | rfl | rfl | rfl <;> decide +kernel
/-- the commands at some places -/
def pick (q s : List Nat) : List Nat := s.map fun i => q.getD i 0
theorem pick_lc {q s : List Nat} {i j k : Nat} (hs : ∀ x ∈ s, x < q.length) (hl : s.length ≤ LIM) (h0 : ∀ x, bindT (.one i) (natD x) (wipeR ρ [i]) = some (ρ.set i (.val (natD x)))) (hi : ∀ x : D, (ρ.set i (.val x))[i]? = some (.val x)) (hj : ρ[j]? = some (.val (rowD s))) (hk : ρ[k]? = some (.val (rowD q))) (ik : i ≠ k) :
    fLc (.one i) [i] (fItemsG (fLook j)) fYes (fTwo opIx (fLook k) (fLook i)) ρ S = .ok (.lst ((pick q s).map natD)) S := by
  unfold pick
  rw [List.map_map]
  refine map_lc (enc := natD) (g := fun x => natD (q.getD x 0)) hl (itemsT_ok (look_ok hj)) fun x hx => ⟨_, h0 x, two_to (x := rowD q) (y := natD x) (look_ok (by rw [List.getElem?_set_ne ik]; exact hk)) (look_ok (hi _)) (ix_T ?_)⟩
  have := hs x hx
  rw [List.getElem?_map, List.getD_eq_getElem?_getD, List.getElem?_eq_getElem this]
  rfl
/-- no part found lies in s -/
def newB (acc : List (List Nat)) (s : List Nat) : Bool := !acc.any fun less => less.all fun i => s.contains i
def leastF (M N : Mc) (q : List Nat) : List (List Nat) → List (List Nat) → List (List Nat)
  | [], acc => acc
  | s :: ss, acc => leastF M N q ss (if newB acc s && failsB M N (pick q s) then acc ++ [s] else acc)
def leastL (M N : Mc) (q : List Nat) : List (List Nat) := leastF M N q (setsN q.length) []
theorem pick_c {q s : List Nat} (hq : ∀ x ∈ q, x < c) (hs : ∀ x ∈ s, x < q.length) : ∀ x ∈ pick q s, x < c := fun x m => by
  unfold pick at m
  obtain ⟨i, hi, rfl⟩ := List.mem_map.mp m
  have := hs i hi
  rw [List.getD_eq_getElem?_getD, List.getElem?_eq_getElem this]
  exact hq _ (List.getElem_mem this)
theorem pick_len (q s : List Nat) : (pick q s).length = s.length := by unfold pick; rw [List.length_map]
theorem least_loop (h : Ok n c M) (h' : Ok n' c N) {q : List Nat} (hq : ∀ x ∈ q, x < c) : ∀ (ss acc : List (List Nat)) (a4 : Sl), (∀ s ∈ ss, s.length ≤ 5 ∧ ∀ x ∈ s, x < q.length) → (∀ s ∈ acc, s.length ≤ 5) → acc.length + ss.length ≤ 1000 → ∃ b4,
    forL (.one 4) (sIf (fNotT (fTru tm (fOne (opAnyT tm) (fLc (.one 5) [5] (fItemsG (fLook 3)) fYes (fOne (opAllT tm) (fLc (.one 6) [6] (fItemsG (fLook 5)) fYes (fTwo opIn (fLook 6) (fLook 4)))))))) (sIf (fTru tm (fCall 3 c_fails (fCons (fVar 0) (fCons (fVar 1) (fCons (fLc (.one 6) [6] (fItemsG (fLook 4)) fYes (fTwo opIx (fLook 2) (fLook 6))) fNil))))) (sApp 3 (fVar 4)) sSkip) sSkip) (ss.map rowD) [.val (machD M), .val (machD N), .val (rowD q), .own (.lst (acc.map rowD)), a4, .emp, .emp] S =
      .nx [.val (machD M), .val (machD N), .val (rowD q), .own (.lst ((leastF M N q ss acc).map rowD)), b4, .emp, .emp] S
  | [], acc, a4, _, _, _ => ⟨a4, rfl⟩
  | s :: ss, acc, a4, hs, ha, hz => by
    rw [List.length_cons] at hz
    obtain ⟨hs1, hs2⟩ := hs s List.mem_cons_self
    have hn : fNotT (fTru tm (fOne (opAnyT tm) (fLc (.one 5) [5] (fItemsG (fLook 3)) fYes (fOne (opAllT tm) (fLc (.one 6) [6] (fItemsG (fLook 5)) fYes (fTwo opIn (fLook 6) (fLook 4))))))) [.val (machD M), .val (machD N), .val (rowD q), .own (.lst (acc.map rowD)), .val (rowD s), .emp, .emp] S = .ok (newB acc s) S :=
      notT (tru_bl (any_lc (enc := rowD) (p := fun less => less.all fun i => s.contains i) (Nat.le_trans (show acc.length ≤ 1000 by omega) (by decide)) (items_ok rfl) fun less hl => ⟨[.val (machD M), .val (machD N), .val (rowD q), .own (.lst (acc.map rowD)), .val (rowD s), .val (rowD less), .emp], rfl,
        all_lc (enc := natD) (p := fun i => s.contains i) (Nat.le_trans (ha less hl) (by decide)) (itemsT_ok rfl) fun i _ => ⟨[.val (machD M), .val (machD N), .val (rowD q), .own (.lst (acc.map rowD)), .val (rowD s), .val (rowD less), .val (natD i)], rfl, two_to rfl rfl opIn_row⟩⟩))
    have hf : fTru tm (fCall 3 c_fails (fCons (fVar 0) (fCons (fVar 1) (fCons (fLc (.one 6) [6] (fItemsG (fLook 4)) fYes (fTwo opIx (fLook 2) (fLook 6))) fNil)))) [.val (machD M), .val (machD N), .val (rowD q), .own (.lst (acc.map rowD)), .val (rowD s), .emp, .emp] S = .ok (failsB M N (pick q s)) S :=
      tru_bl (to3 rfl rfl (pick_lc hs2 (Nat.le_trans hs1 (by decide)) (fun _ => rfl) (fun _ => rfl) rfl rfl (by decide)) (fails_ok h h' (.inr rfl) (pick_c hq hs2) (by rw [pick_len]; exact Nat.le_trans hs1 (by decide))))
    have step : ∀ acc', (if newB acc s && failsB M N (pick q s) then acc ++ [s] else acc) = acc' → (sIf (fNotT (fTru tm (fOne (opAnyT tm) (fLc (.one 5) [5] (fItemsG (fLook 3)) fYes (fOne (opAllT tm) (fLc (.one 6) [6] (fItemsG (fLook 5)) fYes (fTwo opIn (fLook 6) (fLook 4)))))))) (sIf (fTru tm (fCall 3 c_fails (fCons (fVar 0) (fCons (fVar 1) (fCons (fLc (.one 6) [6] (fItemsG (fLook 4)) fYes (fTwo opIx (fLook 2) (fLook 6))) fNil))))) (sApp 3 (fVar 4)) sSkip) sSkip) [.val (machD M), .val (machD N), .val (rowD q), .own (.lst (acc.map rowD)), .val (rowD s), .emp, .emp] S = .nx [.val (machD M), .val (machD N), .val (rowD q), .own (.lst (acc'.map rowD)), .val (rowD s), .emp, .emp] S := by
      intro acc' e
      cases e1 : newB acc s with
      | false =>
        rw [e1] at hn e
        subst e
        exact if_f hn
      | true =>
        rw [e1] at hn e
        rw [if_t hn]
        cases e2 : failsB M N (pick q s) with
        | false =>
          rw [e2] at hf e
          subst e
          exact if_f hf
        | true =>
          rw [e2] at hf e
          subst e
          rw [if_t hf]
          refine (app_ok (ds := acc.map rowD) (d := rowD s) rfl (by rw [List.length_map]; exact Nat.lt_of_le_of_lt (show acc.length ≤ 999 by omega) (by decide)) rfl).trans ?_
          exact congrArg (fun z => OutS.nx [.val (machD M), .val (machD N), .val (rowD q), .own (.lst z), .val (rowD s), .emp, .emp] S) (List.map_append (f := rowD) (l₁ := acc) (l₂ := [s])).symm
    obtain ⟨b4, ih⟩ := least_loop h h' hq ss (if newB acc s && failsB M N (pick q s) then acc ++ [s] else acc) (.val (rowD s)) (fun x m => hs x (List.mem_cons_of_mem _ m)) (by
      intro x m
      split at m
      · rcases List.mem_append.mp m with m | m
        · exact ha x m
        · rw [List.mem_singleton.mp m]; exact hs1
      · exact ha x m) (by
      split
      · rw [List.length_append, List.length_singleton]; omega
      · omega)
    refine ⟨b4, ?_⟩
    rw [List.map_cons]
    unfold forL
    dsimp only [bindT, List.set]
    rw [step _ rfl]
    exact ih
theorem rgL5 {n : Nat} {fa : Ef D} {S' : List D} (h : fa ρ S = .ok (.int (n : Int)) S') (hn : n ≤ 1000) : fRgL fa ρ S = .ok (.lst ((List.range n).map natD)) S' := by
  unfold fRgL
  rw [h]
  show (if rgok 0 (n : Int) then _ else _) = _
  rw [if_pos, Int.toNat_natCast, ints0_nat]
  unfold rgok
  simp only [Bool.and_eq_true, decide_eq_true_eq]
  omega
theorem forL_nx {tg : Tg} {body : Es} {x : D} {xs : List D} {ρ1 ρ2 : List Sl} {S2 : List D} (h : bindT tg x ρ = some ρ1) (hb : body ρ1 S = .nx ρ2 S2) : forL tg body (x :: xs) ρ S = forL tg body xs ρ2 S2 := by
  rw [forL, h]
  dsimp only
  rw [hb]
theorem forL_rt {tg : Tg} {body : Es} {x d : D} {xs : List D} {ρ1 : List Sl} {S2 : List D} (h : bindT tg x ρ = some ρ1) (hb : body ρ1 S = .rt d S2) : forL tg body (x :: xs) ρ S = .rt d S2 := by
  rw [forL, h]
  dsimp only
  rw [hb]
theorem seq_rt {f g : Es} {d : D} {S1 : List D} (h : f ρ S = .rt d S1) : sSeq f g ρ S = .rt d S1 := by
  unfold sSeq
  rw [h]
theorem least_ok (h : Ok n c M) (h' : Ok n' c N) {q : List Nat} (hq : ∀ x ∈ q, x < c) (h1 : 1 ≤ q.length) (h5 : q.length ≤ 5) (hf : failsB M N q = true) : c_least_parts [machD M, machD N, rowD q] S = .ok (.lst ((leastL M N q).map rowD)) S := by
  have e0 : b_least_parts_0 (startR 7 [machD M, machD N, rowD q]) S = .nx [.val (machD M), .val (machD N), .val (rowD q), .emp, .emp, .emp, .emp] S := drop_ok (to3 rfl rfl rfl (check_failing_ok h h' isR hq (by omega) hf))
  have e1 : b_least_parts_1 [.val (machD M), .val (machD N), .val (rowD q), .emp, .emp, .emp, .emp] S = .nx [.val (machD M), .val (machD N), .val (rowD q), .own (.lst (([] : List (List Nat)).map rowD)), .emp, .emp, .emp] S := rfl
  obtain ⟨b4, e2⟩ := least_loop (S := S) h h' hq (setsN q.length) [] .emp (fun s m => ⟨sets_le _ h5 s m, sets_lt _ h5 s m⟩) (fun s m => nomatch m) (by have := sets_len _ h5; rw [List.length_nil]; omega)
  refine fn_rt rfl ((seq_nx e0).trans ((seq_nx e1).trans ((seq_nx ((for_ok (items_ok (to1 (x := .lst ((List.range q.length).map natD)) ?_ (sets_ok h1 h5)))).trans e2)).trans rfl)))
  exact rgL5 (one_to rfl len_row) (by omega)
def matterL (M N : Mc) (q : List Nat) : List Nat := (List.range q.length).filter fun i => (leastL M N q).all fun s => s.contains i
theorem leastF_le : ∀ (ss acc : List (List Nat)) (q : List Nat), (leastF M N q ss acc).length ≤ acc.length + ss.length
  | [], acc, q => by unfold leastF; simp
  | s :: ss, acc, q => by
    unfold leastF
    have := leastF_le ss (if newB acc s && failsB M N (pick q s) then acc ++ [s] else acc) q
    rw [List.length_cons]
    split at this
    · rename_i h
      rw [if_pos h]
      rw [List.length_append, List.length_singleton] at this
      omega
    · rename_i h
      rw [if_neg h]
      omega
theorem least_lim {q : List Nat} (h5 : q.length ≤ 5) : (leastL M N q).length ≤ LIM := by
  have h1 := leastF_le (M := M) (N := N) (setsN q.length) [] q
  have h2 := sets_len _ h5
  exact Nat.le_trans (show (leastL M N q).length ≤ 32 by unfold leastL; rw [List.length_nil] at h1; omega) (by decide)
theorem matter_ok (h : Ok n c M) (h' : Ok n' c N) {q : List Nat} (hq : ∀ x ∈ q, x < c) (h1 : 1 ≤ q.length) (h5 : q.length ≤ 5) (hf : failsB M N q = true) : c_matter [machD M, machD N, rowD q] S = .ok (.lst ((matterL M N q).map natD)) S := by
  have e0 : b_matter_0 (startR 6 [machD M, machD N, rowD q]) S = .nx [.val (machD M), .val (machD N), .val (rowD q), .val (.lst ((leastL M N q).map rowD)), .emp, .emp] S := asg_ok (to3 rfl rfl rfl (least_ok h h' hq h1 h5 hf))
  refine fn_rt rfl ((seq_nx e0).trans (ret_ok ?_))
  exact flt_lc (enc := natD) (g := natD) (p := fun i => (leastL M N q).all fun s => s.contains i) (by rw [List.length_range]; exact Nat.le_trans h5 (by decide)) (rng_ok (one_to rfl len_row) (by omega)) fun i _ => ⟨[.val (machD M), .val (machD N), .val (rowD q), .val (.lst ((leastL M N q).map rowD)), .val (natD i), .emp], rfl,
    tru_bl (all_lc (enc := rowD) (p := fun s => s.contains i) (least_lim h5) (items_ok rfl) fun s _ => ⟨[.val (machD M), .val (machD N), .val (rowD q), .val (.lst ((leastL M N q).map rowD)), .val (natD i), .val (rowD s)], rfl, two_to rfl rfl opIn_row⟩), fun _ => rfl⟩
/-! ### first failure -/
def ffL : Nat → List Nat → List Nat → Option Nat
  | i, a :: as, b :: bs => if a = b then ffL (i + 1) as bs else some i
  | _, _, _ => none
def ffO (M N : Mc) (q : List Nat) : Option Nat := ffL 0 (runM M 0 q) (runM N 0 q)
def optD : Option Nat → D
  | none => .non
  | some i => natD i
theorem ff_loop {m1 m2 d : D} : ∀ (as bs : List Nat) (i : Nat) (a3 a4 a5 : Sl),
    (∃ ρ', forL (.two (.one 3) (.many [4, 5])) (sIf (fBl (fTwo opNe (fLook 4) (fLook 5))) (sRet (fVar 3)) sSkip) (pairs0 i (pairsZ (as.map natD) (bs.map natD))) [.val m1, .val m2, .val d, a3, a4, a5] S = .nx ρ' S ∧ ffL i as bs = none) ∨
    ∃ j, forL (.two (.one 3) (.many [4, 5])) (sIf (fBl (fTwo opNe (fLook 4) (fLook 5))) (sRet (fVar 3)) sSkip) (pairs0 i (pairsZ (as.map natD) (bs.map natD))) [.val m1, .val m2, .val d, a3, a4, a5] S = .rt (natD j) S ∧ ffL i as bs = some j
  | [], bs, i, a3, a4, a5 => .inl ⟨[.val m1, .val m2, .val d, a3, a4, a5], by cases bs <;> rfl, by cases bs <;> rfl⟩
  | a :: as, [], i, a3, a4, a5 => .inl ⟨_, rfl, rfl⟩
  | a :: as, b :: bs, i, a3, a4, a5 => by
    have hc : fBl (fTwo opNe (fLook 4) (fLook 5)) [.val m1, .val m2, .val d, .val (natD i), .val (natD a), .val (natD b)] S = .ok (!decide (a = b)) S := bl_ok (two_to rfl rfl opNe_nat)
    have hb : bindT (.two (.one 3) (.many [4, 5])) (.tup [.int (i : Int), .tup [natD a, natD b]]) [.val m1, .val m2, .val d, a3, a4, a5] = some [.val m1, .val m2, .val d, .val (natD i), .val (natD a), .val (natD b)] := rfl
    rw [show pairs0 i (pairsZ ((a :: as).map natD) ((b :: bs).map natD)) = .tup [.int (i : Int), .tup [natD a, natD b]] :: pairs0 (i + 1) (pairsZ (as.map natD) (bs.map natD)) from rfl]
    unfold ffL
    by_cases e : a = b
    · rw [decide_eq_true e] at hc
      rw [if_pos e, forL_nx hb (if_f hc)]
      exact ff_loop as bs (i + 1) _ _ _
    · rw [decide_eq_false e] at hc
      rw [if_neg e]
      exact .inr ⟨i, forL_rt hb ((if_t hc).trans rfl), rfl⟩
theorem ff_ok (h : Ok n c M) (h' : Ok n' c N) {q : List Nat} (hq : ∀ x ∈ q, x < c) (hz : q.length ≤ LIM) : c_first_failure [machD M, machD N, rowD q] S = .ok (optD (ffO M N q)) S := by
  have e0 : b_first_failure_0 (startR 6 [machD M, machD N, rowD q]) S = .nx [.val (machD M), .val (machD N), .val (rowD q), .emp, .emp, .emp] S := drop_ok (to2 rfl rfl (check_two_ok h h'))
  have hz2 : fEZ (fCons (fMeth mt_run (fVar 0) (fCons (fVar 2) fNil)) (fCons (fMeth mt_run (fVar 1) (fCons (fVar 2) fNil)) fNil)) [.val (machD M), .val (machD N), .val (rowD q), .emp, .emp, .emp] S = .ok (pairs0 0 (pairsZ ((runM M 0 q).map natD) ((runM N 0 q).map natD))) S := by
    unfold fEZ
    rw [cons_ok (run_call h isR hq hz rfl rfl) (cons_ok (run_call h' isR hq hz rfl rfl) nil_ok)]
    rfl
  refine fn_rt rfl ((seq_nx e0).trans ?_)
  unfold ffO
  rcases ff_loop (S := S) (m1 := machD M) (m2 := machD N) (d := rowD q) (runM M 0 q) (runM N 0 q) 0 .emp .emp .emp with ⟨ρ', h1, h2⟩ | ⟨j, h1, h2⟩
  · rw [h2]
    exact (seq_nx ((for_ok hz2).trans h1)).trans rfl
  · rw [h2]
    exact seq_rt ((for_ok hz2).trans h1)
/-! ### answers about ends -/
theorem new1 {cn ns : Nat} {f : Ef D} {x : D} {d : D} (hS : Gd S) (hb : locsB S.length d = true) (h : f (.val (.loc S.length) :: [.val x]) (S ++ [.ins cn []]) = .ok d (S ++ [.ins cn []])) : insOnly cn (runIn cn 2 2 (sFldC 0 cn 0 f)) [x] S = .ok (.ins cn [d]) S :=
  in_nx (fs := [d]) hS rfl rfl (by show (locsB S.length d && true) = true; rw [hb]; rfl) (show sFldC 0 cn 0 f (.val (.loc S.length) :: [.val x]) (S ++ [.ins cn []]) = _ from fld1 h)
theorem short_new {k : Nat} (hS : Gd S) : c_EndsShort_init [natD k] S = .ok (.ins 0 [natD k]) S := new1 (ns := 2) hS rfl rfl
theorem alike_new {k : Nat} (hS : Gd S) : c_Alike_init [natD k] S = .ok (.ins 2 [natD k]) S := new1 (ns := 2) hS rfl rfl
theorem differs_new {q : List Nat} (hS : Gd S) : c_Differs_init [rowD q] S = .ok (.ins 3 [rowD q]) S := new1 (ns := 2) hS (locs_row q) rfl
theorem shortest_new {k : Nat} (hS : Gd S) : c_Shortest_init [natD k] S = .ok (.ins 4 [natD k]) S := new1 (ns := 2) hS rfl rfl
theorem longer_new {q : List Nat} (hS : Gd S) : c_Longer_init [rowD q] S = .ok (.ins 5 [rowD q]) S := new1 (ns := 2) hS (locs_row q) rfl
theorem long_new {q : List Nat} (hS : Gd S) : c_EndsLong_init [rowD q] S = .ok (.ins 6 [rowD q]) S := new1 (ns := 2) hS (locs_row q) rfl
def lateL (L : List (List Nat)) : List (List Nat) := L.filter fun q => decide ((L.headD []).length < q.length)
def waysA (M N : Mc) (c m : Nat) (ws : List Wy) : D := match lateL (endsL M N c m ws) with
  | [] => .ins 0 [natD (badL M N c m).length]
  | q :: _ => .ins 6 [rowD q]
theorem judge_ways_ok (h : Ok n c M) (h' : Ok n' c N) (hS : Gd S) {m : Nat} (hm : m ≤ 5) {ws : List Wy} (hw : ws.length ≤ 1000) : c_judge_ways [machD M, machD N, natD m, waysD ws] S = .ok (waysA M N c m ws) S := by
  have hel : (endsL M N c m ws).length ≤ LIM := Nat.le_trans (List.length_filter_le _ _) (bad_lim h.c2 hm)
  have e0 : b_judge_ways_0 (startR 7 [machD M, machD N, natD m, waysD ws]) S = .nx [.val (machD M), .val (machD N), .val (natD m), .val (waysD ws), .val (.lst ((endsL M N c m ws).map rowD)), .emp, .emp] S := by
    refine asg_ok (i := 4) (d := .lst ((endsL M N c m ws).map rowD)) ?_
    exact ends_ok h h' hm hw
  have e1 : b_judge_ways_1 [.val (machD M), .val (machD N), .val (natD m), .val (waysD ws), .val (.lst ((endsL M N c m ws).map rowD)), .emp, .emp] S = .nx [.val (machD M), .val (machD N), .val (natD m), .val (waysD ws), .val (.lst ((endsL M N c m ws).map rowD)), .val (.lst ((lateL (endsL M N c m ws)).map rowD)), .emp] S := by
    refine asg_ok (flt_lc (enc := rowD) (g := rowD) (p := fun q => decide (((endsL M N c m ws).headD []).length < q.length)) hel (items_ok rfl) fun q hq => ⟨[.val (machD M), .val (machD N), .val (natD m), .val (waysD ws), .val (.lst ((endsL M N c m ws).map rowD)), .emp, .val (rowD q)], rfl, bl_ok (two_to (one_to rfl len_row) (one_to (x := rowD ((endsL M N c m ws).headD [])) (two_to rfl rfl (ix_L (k := 0) ?_)) len_row) gt_nat), fun _ => rfl⟩)
    cases e : endsL M N c m ws with
    | nil => rw [e] at hq; cases hq
    | cons x xs => rfl
  refine fn_rt rfl ((seq_nx e0).trans ((seq_nx e1).trans ?_))
  unfold waysA
  cases el : lateL (endsL M N c m ws) with
  | cons q qs =>
    have hc : fBl (fTwo opNe (fLook 5) (fLst fNil)) [.val (machD M), .val (machD N), .val (natD m), .val (waysD ws), .val (.lst ((endsL M N c m ws).map rowD)), .val (.lst ((q :: qs).map rowD)), .emp] S = .ok true S := bl_ok (two_to rfl rfl ((opNe_rows (A := q :: qs) (B := [])).trans (by rw [decide_eq_false (by simp)]; rfl)))
    unfold sSeq
    rw [show b_judge_ways_2 [.val (machD M), .val (machD N), .val (natD m), .val (waysD ws), .val (.lst ((endsL M N c m ws).map rowD)), .val (.lst ((q :: qs).map rowD)), .emp] S = .rt (.ins 6 [rowD q]) S from (if_t hc).trans (ret_ok (toM (x := rowD q) (two_to rfl rfl (ix_L (k := 0) rfl)) (long_new hS)))]
  | nil =>
    have hc : fBl (fTwo opNe (fLook 5) (fLst fNil)) [.val (machD M), .val (machD N), .val (natD m), .val (waysD ws), .val (.lst ((endsL M N c m ws).map rowD)), .val (.lst (([] : List (List Nat)).map rowD)), .emp] S = .ok false S := bl_ok rfl
    refine (seq_nx (if_f hc)).trans (ret_ok (toM (x := natD (badL M N c m).length) (one_to (x := .lst ((badL M N c m).map rowD)) ?_ ?_) (short_new hS)))
    · exact bad_lc h h' (tl := []) hm (fun _ => rfl) (fun _ => rfl) rfl rfl (by decide) (by decide) (items_ok (to2 rfl rfl (runs_ok h hm)))
    · rw [len_lst, List.length_map]
end
end K29

/-! K29: the judge of two machines, turn by turn. -/
namespace K29
open PySem PySem.Spec L2 PyD
abbrev Ent := (Nat × Nat) × List Nat
def pl (p : Nat × Nat) : List Nat := [p.1, p.2]
def entD (e : Ent) : D := .tup [rowD (pl e.1), rowD e.2]
def scan (M N : Mc) (p : Nat × Nat) (r : List Nat) : List Nat → List Ent → List (Nat × Nat) → Sum (List Nat) (List Ent × List (Nat × Nat))
  | [], line, met => .inr (line, met)
  | k :: ks, line, met =>
    if (cellM M p.1 k).1 = (cellM N p.2 k).1 then
      if met.contains ((cellM M p.1 k).2, (cellM N p.2 k).2) then scan M N p r ks line met
      else scan M N p r ks (line ++ [(((cellM M p.1 k).2, (cellM N p.2 k).2), r ++ [k])]) (met ++ [((cellM M p.1 k).2, (cellM N p.2 k).2)])
    else .inl (r ++ [k])
def bfs (M N : Mc) (c : Nat) : Nat → List Ent → List (Nat × Nat) → Option (Sum (List Nat) Nat)
  | 0, _, _ => none
  | _ + 1, [], met => some (.inr met.length)
  | f + 1, (p, r) :: rest, met => match scan M N p r (List.range c) rest met with
    | .inl run => some (.inl run)
    | .inr (l, m) => bfs M N c f l m
/-! ### entries as data -/
theorem plain_ents : ∀ L : List Ent, plains (L.map entD) = true
  | [] => rfl
  | e :: L => by
    rw [List.map_cons]
    show (plain (entD e) && plains _) = true
    rw [plain_ents L]
    show ((plain (rowD (pl e.1)) && (plain (rowD e.2) && true)) && true) = true
    rw [plain_row, plain_row]
    rfl
theorem depth_ent (e : Ent) : (toP (entD e)).depth = 2 := by
  show (PyData.tuple [toP (rowD (pl e.1)), toP (rowD e.2)]).depth = 2
  simp [PyData.depth, PyData.depthAll, depth_row]
theorem depth_ents : ∀ L : List Ent, PyData.depthAll (toPs (L.map entD)) ≤ 2
  | [] => by simp [toPs, PyData.depthAll]
  | e :: L => by
    rw [List.map_cons]
    show PyData.depthAll (toP (entD e) :: toPs (L.map entD)) ≤ 2
    rw [PyData.depthAll, depth_ent]
    exact Nat.max_le.mpr ⟨Nat.le_refl _, depth_ents L⟩
theorem eqP_ents (L : List Ent) : eqP (.lst (L.map entD)) (.lst []) = some L.isEmpty := by
  show (if plains (L.map entD) && plains [] && decide ((toP (.lst (L.map entD))).depth ≤ 100) then some (PyData.eqv (.list (toPs (L.map entD))) (.list (toPs []))) else _) = _
  have hd : (toP (.lst (L.map entD))).depth ≤ 100 := by
    show (PyData.list (toPs (L.map entD))).depth ≤ 100
    have := depth_ents L
    simp only [PyData.depth]
    omega
  rw [plain_ents, decide_eq_true hd]
  show some (PyData.eqv (.list (toPs (L.map entD))) (.list [])) = _
  cases L with
  | nil => simp [toPs, PyData.eqv, PyData.eqvAll]
  | cons e L =>
    show some (PyData.eqv (.list (toP (entD e) :: toPs (L.map entD))) (.list [])) = _
    simp [PyData.eqv, PyData.eqvAll]
theorem locs_row' {n : Nat} (q : List Nat) : locsB n (rowD q) = true := locs_row q
theorem locs_ents {n : Nat} : ∀ L : List Ent, locsBs n (L.map entD) = true
  | [] => rfl
  | e :: L => by
    rw [List.map_cons]
    show (locsB n (entD e) && locsBs n _) = true
    rw [locs_ents L]
    show ((locsB n (rowD (pl e.1)) && (locsB n (rowD e.2) && true)) && true) = true
    rw [locs_row, locs_row]
    rfl
mutual
theorem locs_up {n m : Nat} (h : n ≤ m) : ∀ d : D, locsB n d = true → locsB m d = true
  | .non, _ => rfl
  | .bl _, _ => rfl
  | .int _, _ => rfl
  | .str _, _ => rfl
  | .cls _, _ => rfl
  | .tup ds, l => by unfold locsB at l ⊢; exact locs_ups h ds l
  | .ktp ds, l => by unfold locsB at l ⊢; exact locs_ups h ds l
  | .lst ds, l => by unfold locsB at l ⊢; exact locs_ups h ds l
  | .ins _ ds, l => by unfold locsB at l ⊢; exact locs_ups h ds l
  | .dcT _ ds, l => by unfold locsB at l ⊢; exact locs_ups h ds l
  | .dct ks ds, l => by
    simp only [locsB, Bool.and_eq_true] at l ⊢
    exact ⟨locs_ups h ks l.1, locs_ups h ds l.2⟩
  | .loc i, l => by
    simp only [locsB, decide_eq_true_eq] at l ⊢
    omega
theorem locs_ups {n m : Nat} (h : n ≤ m) : ∀ ds : List D, locsBs n ds = true → locsBs m ds = true
  | [], _ => rfl
  | d :: ds, l => by
    simp only [locsBs, Bool.and_eq_true] at l ⊢
    exact ⟨locs_up h d l.1, locs_ups h ds l.2⟩
end
theorem gd_cell {S : List D} {d : D} (h : Gd S) (hd : locsB S.length d = true) : Gd (S ++ [d]) := by
  unfold Gd
  rw [locs_app, List.length_append, List.length_singleton]
  rw [locs_ups (Nat.le_succ _) S h]
  show (true && (locsB _ d && true)) = true
  rw [locs_up (Nat.le_succ _) d hd]
  rfl
section
variable {n n' c : Nat} {M N : Mc} {ρ : List Sl} {S S0 : List D} {x y : D}
theorem cell_get : (S0 ++ [x])[S0.length]? = some x := by simp
theorem cell_set : (S0 ++ [x]).set S0.length y = S0 ++ [y] := by simp
theorem cell_getD : (S0 ++ [x]).getD S0.length .non = x := by simp
theorem fn_drop {k ns : Nat} {body : Es} {ds : List D} {d : D} (hS : Gd S0) (hl : ds.length = k) (hd : locsB S0.length d = true) (h : body (startR ns ds) S0 = .rt d (S0 ++ [x])) : runFn k ns body ds S0 = .ok d S0 := by
  unfold runFn
  rw [if_pos hl, h]
  show dropD S0.length d (S0 ++ [x]) = _
  unfold dropD
  rw [if_neg (by rw [List.length_append, List.length_singleton]; omega), hd, gd_take hS, Bool.and_true, if_pos rfl, List.take_left']
  rfl
theorem pop_ok {i : Nat} {z : D} {zs : List D} (h : ρ[i]? = some (.val (.loc S0.length))) : fPop (fVar i) (fLit (.int 0)) ρ (S0 ++ [.lst (z :: zs)]) = .ok z (S0 ++ [.lst zs]) := by
  simp [fPop, var_ok h, Out.bind, fLit, cell_set]
theorem appC_ok {i : Nat} {fa : Ef D} {zs : List D} (h : ρ[i]? = some (.val (.loc S0.length))) (h2 : fa ρ (S0 ++ [.lst zs]) = .ok y (S0 ++ [.lst zs])) (hz : zs.length < LIM) : fAppC (fVar i) fa ρ (S0 ++ [.lst zs]) = .ok .non (S0 ++ [.lst (zs ++ [y])]) := by
  simp [fAppC, var_ok h, Out.bind, h2, hz, cell_set]
theorem par_ok {i j : Nat} {fl : Ef (List D)} {d e : D} {S1 : List D} (h : fl ρ S = .ok [d, e] S1) : sPar i j fl ρ S = .nx ((ρ.set i (.val d)).set j (.val e)) S1 := by
  unfold sPar sE
  rw [h]
theorem notInT_ok {L : List (List Nat)} {q : List Nat} : opNotInT (rowD q) (dcR L) S = .ok (.bl (!L.contains q)) S := by
  unfold opNotInT
  show (match keyT (rowD q) with | some k => Out.ok (D.bl (!hasT (L.map keyR) k)) S | none => Out.bad) = _
  rw [keyT_row]
  dsimp only
  rw [has_row]
theorem contains_pl (met : List (Nat × Nat)) (p : Nat × Nat) : (met.map pl).contains (pl p) = met.contains p := by
  rw [Bool.eq_iff_iff, List.contains_iff_mem, List.contains_iff_mem, List.mem_map]
  constructor
  · rintro ⟨a, ha, e⟩
    unfold pl at e
    injection e with e1 e2
    injection e2 with e2 _
    rw [show p = a from Prod.ext e1.symm e2.symm]
    exact ha
  · intro h; exact ⟨p, h, rfl⟩
theorem addK_pl {met : List (Nat × Nat)} {p : Nat × Nat} (h : met.contains p = false) : addK (met.map pl) (pl p) = (met ++ [p]).map pl := by
  unfold addK
  rw [contains_pl, h, List.map_append]
  rfl
theorem row_snoc {r : List Nat} {k : Nat} {i j : Nat} (h0 : ρ[i]? = some (.val (rowD r))) (h1 : ρ[j]? = some (.val (natD k))) (hz : r.length + 1 ≤ LIM) : fTup (fStar (fLook i) (fCons (fVar j) fNil)) ρ S = .ok (rowD (r ++ [k])) S := by
  refine (tup_ok (star_ok (look_ok h0) (cons_ok (var_ok h1) nil_ok)) ?_).trans ?_
  · rw [List.length_append, List.length_map]; exact hz
  · rw [show rowD (r ++ [k]) = .tup (r.map natD ++ [natD k]) from congrArg D.tup (List.map_append (f := natD) (l₁ := r) (l₂ := [k]))]
def bodyJ : Es := (sSeq (sPar 8 9 (fCons (fTwo opIx (fTwo opIx (fFld a_rows (fLook 0)) (fLook 4)) (fLook 7)) (fCons (fTwo opIx (fTwo opIx (fFld a_rows (fLook 1)) (fLook 5)) (fLook 7)) fNil)))
    (sSeq (sIf (fBl (fTwo opNe (fTwo opIx (fLook 8) (fLit (.int 0))) (fTwo opIx (fLook 9) (fLit (.int 0))))) (sRet (fMake 2 c_Differs_init (fCons (fTup (fStar (fLook 6) (fCons (fVar 7) fNil))) fNil))) sSkip)
    (sSeq (sAsg 10 (fTup (fCons (fTwo opIx (fLook 8) (fLit (.int 1))) (fCons (fTwo opIx (fLook 9) (fLit (.int 1))) fNil))))
    (sIf (fBl (fTwo opNotInT (fLook 10) (fLook 3))) (sSeq (sPutT 3 (fVar 10) (fLit (.bl true)))
    (sDrop (fAppC (fVar 2) (fTup (fCons (fVar 10) (fCons (fTup (fStar (fLook 6) (fCons (fVar 7) fNil))) fNil)))))) sSkip))))
def wbodyJ : Es := (sSeq (sUnp (.two (.many [4, 5]) (.one 6)) (fPop (fVar 2) (fLit (.int 0))))
    (sFor (fRng1 (fMeth mt_commands (fVar 0) fNil)) (.one 7) bodyJ))
theorem whl_nx {cc : Ef Bool} {body : Es} {f : Nat} {ρ2 : List Sl} {S1 S2 : List D} (h : cc ρ S = .ok true S1) (hb : body ρ S1 = .nx ρ2 S2) : whlN cc body (f + 1) ρ S = whlN cc body f ρ2 S2 := by
  rw [whlN, h]
  dsimp only
  rw [hb]
theorem whl_rt {cc : Ef Bool} {body : Es} {f : Nat} {d : D} {S1 S2 : List D} (h : cc ρ S = .ok true S1) (hb : body ρ S1 = .rt d S2) : whlN cc body (f + 1) ρ S = .rt d S2 := by
  rw [whlN, h]
  dsimp only
  rw [hb]
theorem whl_end {cc : Ef Bool} {body : Es} {f : Nat} {S1 : List D} (h : cc ρ S = .ok false S1) : whlN cc body (f + 1) ρ S = .nx ρ S1 := by
  rw [whlN, h]
theorem scan_loop (h : Ok n c M) (h' : Ok n' c N) (hS : Gd S0) {p : Nat × Nat} {r : List Nat} (p1 : p.1 < n) (p2 : p.2 < n') (hr : r.length + 1 ≤ 1000) : ∀ (ks : List Nat) (line : List Ent) (met : List (Nat × Nat)) (a7 a8 a9 a10 : Sl), (∀ k ∈ ks, k < c) → line.length + ks.length ≤ 1000 → met.length + ks.length ≤ 1000 →
    match scan M N p r ks line met with
    | .inl run => ∃ l, forL (.one 7) bodyJ (ks.map natD) [.val (machD M), .val (machD N), .val (.loc S0.length), .own (dcR (met.map pl)), .val (natD p.1), .val (natD p.2), .val (rowD r), a7, a8, a9, a10] (S0 ++ [.lst (line.map entD)]) = .rt (.ins 3 [rowD run]) (S0 ++ [l])
    | .inr (l, m) => ∃ b7 b8 b9 b10, forL (.one 7) bodyJ (ks.map natD) [.val (machD M), .val (machD N), .val (.loc S0.length), .own (dcR (met.map pl)), .val (natD p.1), .val (natD p.2), .val (rowD r), a7, a8, a9, a10] (S0 ++ [.lst (line.map entD)]) = .nx [.val (machD M), .val (machD N), .val (.loc S0.length), .own (dcR (m.map pl)), .val (natD p.1), .val (natD p.2), .val (rowD r), b7, b8, b9, b10] (S0 ++ [.lst (l.map entD)])
  | [], line, met, a7, a8, a9, a10, _, _, _ => ⟨a7, a8, a9, a10, rfl⟩
  | k :: ks, line, met, a7, a8, a9, a10, hk, hl, hm => by
    have hkc := hk k List.mem_cons_self
    rw [List.length_cons] at hl hm
    have hSl : Gd (S0 ++ [.lst (line.map entD)]) := gd_cell hS (locs_ents line)
    have e1 : sPar 8 9 (fCons (fTwo opIx (fTwo opIx (fFld a_rows (fLook 0)) (fLook 4)) (fLook 7)) (fCons (fTwo opIx (fTwo opIx (fFld a_rows (fLook 1)) (fLook 5)) (fLook 7)) fNil)) [.val (machD M), .val (machD N), .val (.loc S0.length), .own (dcR (met.map pl)), .val (natD p.1), .val (natD p.2), .val (rowD r), .val (natD k), a8, a9, a10] (S0 ++ [.lst (line.map entD)]) = .nx [.val (machD M), .val (machD N), .val (.loc S0.length), .own (dcR (met.map pl)), .val (natD p.1), .val (natD p.2), .val (rowD r), .val (natD k), .val (pairD (cellM M p.1 k)), .val (pairD (cellM N p.2 k)), a10] (S0 ++ [.lst (line.map entD)]) :=
      par_ok (cons_ok (two_to (two_to (fld_rows (i := 0) (M := M) rfl) rfl (ix_T (h.at_ p1))) rfl (ix_T (h.cat p1 hkc))) (cons_ok (two_to (two_to (fld_rows (i := 0) (M := N) rfl) rfl (ix_T (h'.at_ p2))) rfl (ix_T (h'.cat p2 hkc))) nil_ok))
    have hc : fBl (fTwo opNe (fTwo opIx (fLook 8) (fLit (.int 0))) (fTwo opIx (fLook 9) (fLit (.int 0)))) [.val (machD M), .val (machD N), .val (.loc S0.length), .own (dcR (met.map pl)), .val (natD p.1), .val (natD p.2), .val (rowD r), .val (natD k), .val (pairD (cellM M p.1 k)), .val (pairD (cellM N p.2 k)), a10] (S0 ++ [.lst (line.map entD)]) = .ok (!decide ((cellM M p.1 k).1 = (cellM N p.2 k).1)) (S0 ++ [.lst (line.map entD)]) :=
      bl_ok (two_to (two_to rfl rfl (ix_T (k := 0) rfl)) (two_to rfl rfl (ix_T (k := 0) rfl)) opNe_nat)
    have hb : bindT (.one 7) (natD k) [.val (machD M), .val (machD N), .val (.loc S0.length), .own (dcR (met.map pl)), .val (natD p.1), .val (natD p.2), .val (rowD r), a7, a8, a9, a10] = some [.val (machD M), .val (machD N), .val (.loc S0.length), .own (dcR (met.map pl)), .val (natD p.1), .val (natD p.2), .val (rowD r), .val (natD k), a8, a9, a10] := rfl
    unfold scan
    by_cases ea : (cellM M p.1 k).1 = (cellM N p.2 k).1
    · rw [if_pos ea]
      rw [decide_eq_true ea] at hc
      have e3 : sAsg 10 (fTup (fCons (fTwo opIx (fLook 8) (fLit (.int 1))) (fCons (fTwo opIx (fLook 9) (fLit (.int 1))) fNil))) [.val (machD M), .val (machD N), .val (.loc S0.length), .own (dcR (met.map pl)), .val (natD p.1), .val (natD p.2), .val (rowD r), .val (natD k), .val (pairD (cellM M p.1 k)), .val (pairD (cellM N p.2 k)), a10] (S0 ++ [.lst (line.map entD)]) = .nx [.val (machD M), .val (machD N), .val (.loc S0.length), .own (dcR (met.map pl)), .val (natD p.1), .val (natD p.2), .val (rowD r), .val (natD k), .val (pairD (cellM M p.1 k)), .val (pairD (cellM N p.2 k)), .val (rowD (pl ((cellM M p.1 k).2, (cellM N p.2 k).2)))] (S0 ++ [.lst (line.map entD)]) :=
        asg_ok (tup_ok (cons_ok (two_to rfl rfl (ix_T (k := 1) rfl)) (cons_ok (two_to rfl rfl (ix_T (k := 1) rfl)) nil_ok)) (by show 2 ≤ LIM; decide))
      have hn : fBl (fTwo opNotInT (fLook 10) (fLook 3)) [.val (machD M), .val (machD N), .val (.loc S0.length), .own (dcR (met.map pl)), .val (natD p.1), .val (natD p.2), .val (rowD r), .val (natD k), .val (pairD (cellM M p.1 k)), .val (pairD (cellM N p.2 k)), .val (rowD (pl ((cellM M p.1 k).2, (cellM N p.2 k).2)))] (S0 ++ [.lst (line.map entD)]) = .ok (!met.contains ((cellM M p.1 k).2, (cellM N p.2 k).2)) (S0 ++ [.lst (line.map entD)]) :=
        bl_ok (two_to rfl rfl (notInT_ok.trans (by rw [contains_pl])))
      cases em : met.contains ((cellM M p.1 k).2, (cellM N p.2 k).2) with
      | true =>
        rw [em] at hn
        have step : bodyJ [.val (machD M), .val (machD N), .val (.loc S0.length), .own (dcR (met.map pl)), .val (natD p.1), .val (natD p.2), .val (rowD r), .val (natD k), a8, a9, a10] (S0 ++ [.lst (line.map entD)]) = .nx [.val (machD M), .val (machD N), .val (.loc S0.length), .own (dcR (met.map pl)), .val (natD p.1), .val (natD p.2), .val (rowD r), .val (natD k), .val (pairD (cellM M p.1 k)), .val (pairD (cellM N p.2 k)), .val (rowD (pl ((cellM M p.1 k).2, (cellM N p.2 k).2)))] (S0 ++ [.lst (line.map entD)]) := by unfold bodyJ; exact (seq_nx e1).trans ((seq_nx (if_f hc)).trans ((seq_nx e3).trans (if_f hn)))
        rw [if_pos rfl, List.map_cons, forL_nx hb step]
        exact scan_loop h h' hS p1 p2 hr ks line met _ _ _ _ (fun x m => hk x (List.mem_cons_of_mem _ m)) (by omega) (by omega)
      | false =>
        rw [em] at hn
        have e4 : sPutT 3 (fVar 10) (fLit (.bl true)) [.val (machD M), .val (machD N), .val (.loc S0.length), .own (dcR (met.map pl)), .val (natD p.1), .val (natD p.2), .val (rowD r), .val (natD k), .val (pairD (cellM M p.1 k)), .val (pairD (cellM N p.2 k)), .val (rowD (pl ((cellM M p.1 k).2, (cellM N p.2 k).2)))] (S0 ++ [.lst (line.map entD)]) = .nx [.val (machD M), .val (machD N), .val (.loc S0.length), .own (dcR ((met ++ [((cellM M p.1 k).2, (cellM N p.2 k).2)]).map pl)), .val (natD p.1), .val (natD p.2), .val (rowD r), .val (natD k), .val (pairD (cellM M p.1 k)), .val (pairD (cellM N p.2 k)), .val (rowD (pl ((cellM M p.1 k).2, (cellM N p.2 k).2)))] (S0 ++ [.lst (line.map entD)]) := by
          refine (putT_ok (L := met.map pl) (q := pl ((cellM M p.1 k).2, (cellM N p.2 k).2)) rfl rfl rfl (by rw [List.length_map]; exact Nat.lt_of_le_of_lt (show met.length ≤ 1000 by omega) (by decide))).trans ?_
          rw [addK_pl em]
          rfl
        have e5 : sDrop (fAppC (fVar 2) (fTup (fCons (fVar 10) (fCons (fTup (fStar (fLook 6) (fCons (fVar 7) fNil))) fNil)))) [.val (machD M), .val (machD N), .val (.loc S0.length), .own (dcR ((met ++ [((cellM M p.1 k).2, (cellM N p.2 k).2)]).map pl)), .val (natD p.1), .val (natD p.2), .val (rowD r), .val (natD k), .val (pairD (cellM M p.1 k)), .val (pairD (cellM N p.2 k)), .val (rowD (pl ((cellM M p.1 k).2, (cellM N p.2 k).2)))] (S0 ++ [.lst (line.map entD)]) = .nx [.val (machD M), .val (machD N), .val (.loc S0.length), .own (dcR ((met ++ [((cellM M p.1 k).2, (cellM N p.2 k).2)]).map pl)), .val (natD p.1), .val (natD p.2), .val (rowD r), .val (natD k), .val (pairD (cellM M p.1 k)), .val (pairD (cellM N p.2 k)), .val (rowD (pl ((cellM M p.1 k).2, (cellM N p.2 k).2)))] (S0 ++ [.lst ((line ++ [(((cellM M p.1 k).2, (cellM N p.2 k).2), r ++ [k])]).map entD)]) := by
          rw [show (line ++ [(((cellM M p.1 k).2, (cellM N p.2 k).2), r ++ [k])]).map entD = line.map entD ++ [entD (((cellM M p.1 k).2, (cellM N p.2 k).2), r ++ [k])] from List.map_append]
          exact drop_ok (appC_ok (y := entD (((cellM M p.1 k).2, (cellM N p.2 k).2), r ++ [k])) rfl (tup_ok (cons_ok (var_ok rfl) (cons_ok (row_snoc (r := r) (k := k) rfl rfl (Nat.le_trans hr (by decide))) nil_ok)) (by show 2 ≤ LIM; decide)) (by rw [List.length_map]; exact Nat.lt_of_le_of_lt (show line.length ≤ 1000 by omega) (by decide)))
        have step : bodyJ [.val (machD M), .val (machD N), .val (.loc S0.length), .own (dcR (met.map pl)), .val (natD p.1), .val (natD p.2), .val (rowD r), .val (natD k), a8, a9, a10] (S0 ++ [.lst (line.map entD)]) = .nx [.val (machD M), .val (machD N), .val (.loc S0.length), .own (dcR ((met ++ [((cellM M p.1 k).2, (cellM N p.2 k).2)]).map pl)), .val (natD p.1), .val (natD p.2), .val (rowD r), .val (natD k), .val (pairD (cellM M p.1 k)), .val (pairD (cellM N p.2 k)), .val (rowD (pl ((cellM M p.1 k).2, (cellM N p.2 k).2)))] (S0 ++ [.lst ((line ++ [(((cellM M p.1 k).2, (cellM N p.2 k).2), r ++ [k])]).map entD)]) := by unfold bodyJ; exact (seq_nx e1).trans ((seq_nx (if_f hc)).trans ((seq_nx e3).trans ((if_t hn).trans ((seq_nx e4).trans e5))))
        rw [if_neg Bool.false_ne_true, List.map_cons, forL_nx hb step]
        exact scan_loop h h' hS p1 p2 hr ks _ _ _ _ _ _ (fun x m => hk x (List.mem_cons_of_mem _ m)) (by rw [List.length_append, List.length_singleton]; omega) (by rw [List.length_append, List.length_singleton]; omega)
    · rw [if_neg ea]
      rw [decide_eq_false ea] at hc
      have step : bodyJ [.val (machD M), .val (machD N), .val (.loc S0.length), .own (dcR (met.map pl)), .val (natD p.1), .val (natD p.2), .val (rowD r), .val (natD k), a8, a9, a10] (S0 ++ [.lst (line.map entD)]) = .rt (.ins 3 [rowD (r ++ [k])]) (S0 ++ [.lst (line.map entD)]) := by
        unfold bodyJ
        exact (seq_nx e1).trans (seq_rt ((if_t hc).trans (ret_ok (toM (row_snoc (r := r) (k := k) rfl rfl (Nat.le_trans hr (by decide))) (differs_new hSl)))))
      exact ⟨_, by rw [List.map_cons, forL_rt hb step]⟩
theorem scan_in {p : Nat × Nat} {r : List Nat} (h : Ok n c M) (h' : Ok n' c N) (p1 : p.1 < n) (p2 : p.2 < n') : ∀ (ks : List Nat) (line : List Ent) (met : List (Nat × Nat)) (l : List Ent) (m : List (Nat × Nat)), (∀ k ∈ ks, k < c) → scan M N p r ks line met = .inr (l, m) → l.length ≤ line.length + ks.length ∧ m.length ≤ met.length + ks.length ∧ ∀ e ∈ l, e ∈ line ∨ (e.1.1 < n ∧ e.1.2 < n' ∧ e.2.length = r.length + 1)
  | [], line, met, l, m, _, e => by
    unfold scan at e
    cases e
    exact ⟨Nat.le_refl _, Nat.le_refl _, fun e m => .inl m⟩
  | k :: ks, line, met, l, m, hk, e => by
    have hkc := hk k List.mem_cons_self
    have hk' : ∀ x ∈ ks, x < c := fun x m => hk x (List.mem_cons_of_mem _ m)
    unfold scan at e
    split at e
    · split at e
      · obtain ⟨h1, h2, h3⟩ := scan_in h h' p1 p2 ks line met l m hk' e
        exact ⟨by rw [List.length_cons]; omega, by rw [List.length_cons]; omega, h3⟩
      · obtain ⟨h1, h2, h3⟩ := scan_in h h' p1 p2 ks _ _ l m hk' e
        rw [List.length_append, List.length_singleton] at h1 h2
        refine ⟨by rw [List.length_cons]; omega, by rw [List.length_cons]; omega, fun x hx => ?_⟩
        rcases h3 x hx with z | z
        · rcases List.mem_append.mp z with z | z
          · exact .inl z
          · rw [List.mem_singleton.mp z]
            exact .inr ⟨h.nx p1 hkc, h'.nx p2 hkc, by rw [List.length_append]; rfl⟩
        · exact .inr z
    · cases e
def paperD : Sum (List Nat) Nat → D
  | .inl run => .ins 3 [rowD run]
  | .inr k => .ins 2 [natD k]
theorem ne_line {i : Nat} {line : List Ent} (h : ρ[i]? = some (.val (.loc S0.length))) : fBl (fTwo opNe (fLook i) (fLst fNil)) ρ (S0 ++ [.lst (line.map entD)]) = .ok (!line.isEmpty) (S0 ++ [.lst (line.map entD)]) := by
  refine bl_ok (two_to (look_ok h) rfl ?_)
  show okB ((eqP ((S0 ++ [D.lst (line.map entD)]).getD S0.length .non) (.lst [])).map not) _ = _
  rw [cell_getD, eqP_ents]
  rfl
theorem bfs_loop (h : Ok n c M) (h' : Ok n' c N) (hS : Gd S0) : ∀ (f : Nat) (line : List Ent) (met : List (Nat × Nat)) (a4 a5 a6 a7 a8 a9 a10 : Sl) (res : Sum (List Nat) Nat), line.length + 2 * f ≤ 1000 → met.length + 2 * f ≤ 1000 → (∀ e ∈ line, e.1.1 < n ∧ e.1.2 < n' ∧ e.2.length + f ≤ 1000) → bfs M N c f line met = some res →
    (∃ l, sSeq (sWhl f (fBl (fTwo opNe (fLook 2) (fLst fNil))) wbodyJ) b_judge_machine_3 [.val (machD M), .val (machD N), .val (.loc S0.length), .own (dcR (met.map pl)), a4, a5, a6, a7, a8, a9, a10] (S0 ++ [.lst (line.map entD)]) = .rt (paperD res) (S0 ++ [l]))
  | 0, line, met, a4, a5, a6, a7, a8, a9, a10, res, _, _, _, e => by cases e
  | f + 1, [], met, a4, a5, a6, a7, a8, a9, a10, res, hl, hm, hi, e => by
    unfold bfs at e
    cases e
    have e0 : sWhl (f + 1) (fBl (fTwo opNe (fLook 2) (fLst fNil))) wbodyJ [.val (machD M), .val (machD N), .val (.loc S0.length), .own (dcR (met.map pl)), a4, a5, a6, a7, a8, a9, a10] (S0 ++ [.lst (([] : List Ent).map entD)]) = .nx [.val (machD M), .val (machD N), .val (.loc S0.length), .own (dcR (met.map pl)), a4, a5, a6, a7, a8, a9, a10] (S0 ++ [.lst (([] : List Ent).map entD)]) := by
      exact whl_end (ne_line rfl)
    refine ⟨.lst (([] : List Ent).map entD), (seq_nx e0).trans (ret_ok (toM (x := natD met.length) (one_to rfl ?_) (alike_new (gd_cell hS (show locsB S0.length (.lst []) = true from rfl)))))⟩
    show Out.ok (D.int (((met.map pl).map keyR).length : Nat)) _ = _
    rw [List.length_map, List.length_map]
    rfl
  | f + 1, (p, r) :: rest, met, a4, a5, a6, a7, a8, a9, a10, res, hl, hm, hi, e => by
    obtain ⟨p1, p2, hr⟩ := hi (p, r) List.mem_cons_self
    rw [List.length_cons] at hl
    have e1 : sUnp (.two (.many [4, 5]) (.one 6)) (fPop (fVar 2) (fLit (.int 0))) [.val (machD M), .val (machD N), .val (.loc S0.length), .own (dcR (met.map pl)), a4, a5, a6, a7, a8, a9, a10] (S0 ++ [.lst (((p, r) :: rest).map entD)]) = .nx [.val (machD M), .val (machD N), .val (.loc S0.length), .own (dcR (met.map pl)), .val (natD p.1), .val (natD p.2), .val (rowD r), a7, a8, a9, a10] (S0 ++ [.lst (rest.map entD)]) :=
      unp_ok (d := entD (p, r)) (pop_ok rfl) rfl
    have hrg : fRng1 (fMeth mt_commands (fVar 0) fNil) [.val (machD M), .val (machD N), .val (.loc S0.length), .own (dcR (met.map pl)), .val (natD p.1), .val (natD p.2), .val (rowD r), a7, a8, a9, a10] (S0 ++ [.lst (rest.map entD)]) = .ok ((List.range c).map natD) (S0 ++ [.lst (rest.map entD)]) := rng_ok (cmd_ok h rfl) (by have := h.c2; omega)
    have hs := scan_loop h h' hS p1 p2 (r := r) (by simp only at hr; omega) (List.range c) rest met a7 a8 a9 a10 (fun k m => List.mem_range.mp m) (by rw [List.length_range]; have := h.c2; omega) (by rw [List.length_range]; have := h.c2; omega)
    unfold bfs at e
    cases es : scan M N p r (List.range c) rest met with
    | inl run =>
      rw [es] at e hs
      cases e
      obtain ⟨l, hs⟩ := hs
      refine ⟨l, ?_⟩
      exact seq_rt (whl_rt (ne_line rfl) (by unfold wbodyJ; exact (seq_nx e1).trans ((for_ok hrg).trans hs)))
    | inr lm =>
      obtain ⟨l, m⟩ := lm
      rw [es] at e hs
      obtain ⟨b7, b8, b9, b10, hs⟩ := hs
      obtain ⟨i1, i2, i3⟩ := scan_in h h' p1 p2 _ _ _ l m (fun k m => List.mem_range.mp m) es
      rw [List.length_range] at i1 i2
      have hc2 := h.c2
      obtain ⟨l', ih⟩ := bfs_loop h h' hS f l m (.val (natD p.1)) (.val (natD p.2)) (.val (rowD r)) b7 b8 b9 b10 res (by omega) (by omega) (fun x hx => by
        rcases i3 x hx with z | ⟨z1, z2, z3⟩
        · obtain ⟨y1, y2, y3⟩ := hi x (List.mem_cons_of_mem _ z)
          exact ⟨y1, y2, by omega⟩
        · exact ⟨z1, z2, by simp only at hr; omega⟩) e
      refine ⟨l', ?_⟩
      rw [← ih]
      unfold sSeq
      show (match whlN (fBl (fTwo opNe (fLook 2) (fLst fNil))) wbodyJ (f + 1) [.val (machD M), .val (machD N), .val (.loc S0.length), .own (dcR (met.map pl)), a4, a5, a6, a7, a8, a9, a10] (S0 ++ [.lst (((p, r) :: rest).map entD)]) with | .nx ρ1 S1 => b_judge_machine_3 ρ1 S1 | o => o) = _
      rw [whl_nx (ne_line rfl) (by unfold wbodyJ; exact (seq_nx e1).trans ((for_ok hrg).trans hs))]
      rfl
theorem judge_ok (h : Ok n c M) (h' : Ok n' c N) (hS : Gd S0) {res : Sum (List Nat) Nat} (e : bfs M N c 300 [((0, 0), [])] [(0, 0)] = some res) : c_judge_machine [machD M, machD N] S0 = .ok (paperD res) S0 := by
  have e0 : b_judge_machine_0 (startR 11 [machD M, machD N]) S0 = .nx [.val (machD M), .val (machD N), .emp, .emp, .emp, .emp, .emp, .emp, .emp, .emp, .emp] S0 := drop_ok (to2 rfl rfl (check_two_ok h h'))
  have e1 : b_judge_machine_1 [.val (machD M), .val (machD N), .emp, .emp, .emp, .emp, .emp, .emp, .emp, .emp, .emp] S0 = .nx [.val (machD M), .val (machD N), .val (.loc S0.length), .own (dcR ([(0, 0)].map pl)), .emp, .emp, .emp, .emp, .emp, .emp, .emp] (S0 ++ [.lst ([((0, 0), [])].map entD)]) := rfl
  obtain ⟨l, e2⟩ := bfs_loop h h' hS 300 [((0, 0), [])] [(0, 0)] .emp .emp .emp .emp .emp .emp .emp res (by decide) (by decide) (fun x hx => by rw [List.mem_singleton.mp hx]; exact ⟨h.lo, h'.lo, by decide⟩) e
  refine fn_drop hS rfl ?_ ((seq_nx e0).trans ((seq_nx e1).trans e2))
  cases res with
  | inl run => show (locsB _ (rowD run) && true) = true; rw [locs_row]; rfl
  | inr k => rfl
end
end K29

/-! K29: the judge finds a shortest failing run, or there is none. -/
namespace K29
open PySem PySem.Spec L2 PyD
theorem nodup_le {α : Type} [DecidableEq α] : ∀ (l L : List α), l.Nodup → (∀ x ∈ l, x ∈ L) → l.length ≤ L.length
  | [], L, _, _ => Nat.zero_le _
  | x :: l, L, nd, h => by
    obtain ⟨n1, n2⟩ := List.nodup_cons.mp nd
    have hx := h x List.mem_cons_self
    have ih := nodup_le l (L.erase x) n2 fun y hy => (List.mem_erase_of_ne (fun e : y = x => n1 (by rw [← e]; exact hy))).mpr (h y (List.mem_cons_of_mem _ hy))
    rw [List.length_erase_of_mem hx] at ih
    have := List.length_pos_of_mem hx
    rw [List.length_cons]
    omega
def okq (c : Nat) (q : List Nat) : Prop := ∀ k ∈ q, k < c
theorem okq_snoc {c : Nat} {q : List Nat} {k : Nat} : okq c (q ++ [k]) ↔ okq c q ∧ k < c := by
  unfold okq
  constructor
  · intro h
    exact ⟨fun x m => h x (List.mem_append_left _ m), h k (List.mem_append_right _ List.mem_cons_self)⟩
  · rintro ⟨h1, h2⟩ x m
    rcases List.mem_append.mp m with m | m
    · exact h1 x m
    · rw [List.mem_singleton.mp m]; exact h2
theorem snoc_ind {P : List Nat → Prop} (h0 : P []) (h1 : ∀ q k, P q → P (q ++ [k])) : ∀ q, P q := fun q => by
  have : ∀ r : List Nat, P r.reverse := fun r => by
    induction r with
    | nil => exact h0
    | cons k r ih => rw [List.reverse_cons]; exact h1 _ _ ih
  have := this q.reverse
  rwa [List.reverse_reverse] at this
theorem st_snoc {M : Mc} {k : Nat} : ∀ (q : List Nat) (s : Nat), stM M s (q ++ [k]) = (cellM M (stM M s q) k).2
  | [], s => rfl
  | x :: q, s => st_snoc q _
theorem run_snoc {M : Mc} {k : Nat} : ∀ (q : List Nat) (s : Nat), runM M s (q ++ [k]) = runM M s q ++ [(cellM M (stM M s q) k).1]
  | [], s => rfl
  | x :: q, s => by
    rw [List.cons_append]
    unfold runM
    rw [run_snoc q, List.cons_append]
    rfl
section
variable (M N : Mc)
def pr (q : List Nat) : Nat × Nat := (stM M 0 q, stM N 0 q)
/-- at this pair a command is answered alike -/
def same (p : Nat × Nat) (k : Nat) : Prop := (cellM M p.1 k).1 = (cellM N p.2 k).1
def suc (p : Nat × Nat) (k : Nat) : Nat × Nat := ((cellM M p.1 k).2, (cellM N p.2 k).2)
def closed (c : Nat) (p : Nat × Nat) (met : List (Nat × Nat)) : Prop := ∀ k, k < c → same M N p k ∧ suc M N p k ∈ met
variable {M N}
theorem pr_snoc {q : List Nat} {k : Nat} : pr M N (q ++ [k]) = suc M N (pr M N q) k := by unfold pr suc; rw [st_snoc, st_snoc]
theorem fl_snoc {q : List Nat} {k : Nat} : failsB M N (q ++ [k]) = true ↔ failsB M N q = true ∨ ¬ same M N (pr M N q) k := by
  unfold failsB same pr
  rw [run_snoc, run_snoc]
  have hl : (runM M 0 q).length = (runM N 0 q).length := by rw [runM_len, runM_len]
  simp only [Bool.not_eq_true', decide_eq_false_iff_not]
  constructor
  · intro h
    by_cases e : runM M 0 q = runM N 0 q
    · refine .inr fun z => h ?_
      have z' : (cellM M (stM M 0 q) k).1 = (cellM N (stM N 0 q) k).1 := z
      rw [e, z']
    · exact .inl e
  · rintro (h | h) z
    · exact h (List.append_inj z hl).1
    · have := (List.append_inj z hl).2
      injection this with this
      exact h this
theorem fl_nil : failsB M N [] = false := rfl
theorem closed_mono {c : Nat} {p : Nat × Nat} {met m : List (Nat × Nat)} (h : closed M N c p met) (s : ∀ x ∈ met, x ∈ m) : closed M N c p m := fun k hk => ⟨(h k hk).1, s _ (h k hk).2⟩
theorem scan_spec {p : Nat × Nat} {r : List Nat} : ∀ (ks : List Nat) (line : List Ent) (met : List (Nat × Nat)), met.Nodup →
    match scan M N p r ks line met with
    | .inl run => ∃ k ∈ ks, run = r ++ [k] ∧ ¬ same M N p k
    | .inr (l, m) => (∀ k ∈ ks, same M N p k ∧ suc M N p k ∈ m) ∧ m.Nodup ∧ ∃ new : List Ent, l = line ++ new ∧ m = met ++ new.map (·.1) ∧ ∀ e ∈ new, e.1 ∉ met ∧ ∃ k ∈ ks, e = (suc M N p k, r ++ [k])
  | [], line, met, nd => ⟨fun k m => (nomatch m), nd, [], by simp, by simp, fun e m => nomatch m⟩
  | k :: ks, line, met, nd => by
    unfold scan
    by_cases ea : (cellM M p.1 k).1 = (cellM N p.2 k).1
    · rw [if_pos ea]
      by_cases em : met.contains ((cellM M p.1 k).2, (cellM N p.2 k).2) = true
      · rw [if_pos em]
        have ih := scan_spec (p := p) (r := r) ks line met nd
        cases es : scan M N p r ks line met with
        | inl run =>
          rw [es] at ih
          obtain ⟨x, hx, h⟩ := ih
          exact ⟨x, List.mem_cons_of_mem _ hx, h⟩
        | inr lm =>
          obtain ⟨l, m⟩ := lm
          rw [es] at ih
          obtain ⟨h1, h2, new, h3, h4, h5⟩ := ih
          refine ⟨fun x hx => ?_, h2, new, h3, h4, fun e he => ?_⟩
          · rcases List.mem_cons.mp hx with rfl | hx
            · refine ⟨ea, ?_⟩
              rw [h4]
              exact List.mem_append_left _ (List.contains_iff_mem.mp em)
            · exact h1 x hx
          · obtain ⟨g1, x, hx, g2⟩ := h5 e he
            exact ⟨g1, x, List.mem_cons_of_mem _ hx, g2⟩
      · rw [if_neg em]
        have nm : suc M N p k ∉ met := fun z => em (List.contains_iff_mem.mpr z)
        have nd2 : (met ++ [suc M N p k]).Nodup := by
          rw [List.nodup_append]
          refine ⟨nd, List.nodup_cons.mpr ⟨(fun z => nomatch z), List.nodup_nil⟩, fun a ha b hb e => ?_⟩
          rw [List.mem_singleton.mp hb] at e
          exact nm (e ▸ ha)
        have ih := scan_spec (p := p) (r := r) ks (line ++ [(suc M N p k, r ++ [k])]) (met ++ [suc M N p k]) nd2
        show match scan M N p r ks (line ++ [(suc M N p k, r ++ [k])]) (met ++ [suc M N p k]) with | .inl run => _ | .inr (l, m) => _
        cases es : scan M N p r ks (line ++ [(suc M N p k, r ++ [k])]) (met ++ [suc M N p k]) with
        | inl run =>
          rw [es] at ih
          obtain ⟨x, hx, h⟩ := ih
          exact ⟨x, List.mem_cons_of_mem _ hx, h⟩
        | inr lm =>
          obtain ⟨l, m⟩ := lm
          rw [es] at ih
          obtain ⟨h1, h2, new, h3, h4, h5⟩ := ih
          refine ⟨fun x hx => ?_, h2, (suc M N p k, r ++ [k]) :: new, ?_, ?_, fun e he => ?_⟩
          · rcases List.mem_cons.mp hx with rfl | hx
            · refine ⟨ea, ?_⟩
              rw [h4]
              exact List.mem_append_left _ (List.mem_append_right _ List.mem_cons_self)
            · exact h1 x hx
          · rw [h3, List.append_assoc]; rfl
          · rw [h4, List.append_assoc]; rfl
          · rcases List.mem_cons.mp he with rfl | he
            · exact ⟨nm, k, List.mem_cons_self, rfl⟩
            · obtain ⟨g1, x, hx, g2⟩ := h5 e he
              exact ⟨fun z => g1 (List.mem_append_left _ z), x, List.mem_cons_of_mem _ hx, g2⟩
    · rw [if_neg ea]
      exact ⟨k, List.mem_cons_self, rfl, ea⟩
/-- what holds at each turn -/
structure Iv (M N : Mc) (n n' c : Nat) (line : List Ent) (met : List (Nat × Nat)) : Prop where
  a : ∀ e ∈ line, okq c e.2 ∧ pr M N e.2 = e.1 ∧ failsB M N e.2 = false ∧ e.1 ∈ met ∧ ∀ q, okq c q → pr M N q = e.1 → e.2.length ≤ q.length
  b : ∀ p ∈ met, (∃ r, (p, r) ∈ line) ∨ closed M N c p met
  s : line.Pairwise fun x y => x.2.length ≤ y.2.length
  w : ∀ e ∈ line, ∀ e' ∈ line, e'.2.length ≤ e.2.length + 1
  k2 : ∀ q, okq c q → (∀ e ∈ line, q.length < e.2.length) → closed M N c (pr M N q) met
  z : (0, 0) ∈ met
  nd : met.Nodup
  bd : ∀ p ∈ met, p.1 < n ∧ p.2 < n'
variable {n n' c : Nat} {line : List Ent} {met : List (Nat × Nat)}
theorem Iv.k (I : Iv M N n n' c line met) : ∀ q, okq c q → (∀ e ∈ line, q.length ≤ e.2.length) → pr M N q ∈ met ∧ failsB M N q = false := by
  refine snoc_ind (fun _ _ => ⟨I.z, fl_nil⟩) fun q k ih hq hl => ?_
  obtain ⟨h1, h2⟩ := okq_snoc.mp hq
  have hl' : ∀ e ∈ line, q.length < e.2.length := fun e m => by
    have := hl e m
    rw [List.length_append, List.length_singleton] at this
    omega
  obtain ⟨i1, i2⟩ := ih h1 fun e m => Nat.le_of_lt (hl' e m)
  obtain ⟨c1, c2⟩ := I.k2 q h1 hl' k h2
  refine ⟨by rw [pr_snoc]; exact c2, ?_⟩
  cases e : failsB M N (q ++ [k]) with
  | false => rfl
  | true =>
    rcases fl_snoc.mp e with z | z
    · rw [i2] at z; cases z
    · exact absurd c1 z
theorem Iv.next (h : Ok n c M) (h' : Ok n' c N) {p : Nat × Nat} {r : List Nat} {rest l : List Ent} {m : List (Nat × Nat)} (I : Iv M N n n' c ((p, r) :: rest) met) (es : scan M N p r (List.range c) rest met = .inr (l, m)) :
    Iv M N n n' c l m ∧ ∃ x, l.length = rest.length + x ∧ m.length = met.length + x := by
  have sp := scan_spec (M := M) (N := N) (p := p) (r := r) (List.range c) rest met I.nd
  rw [es] at sp
  obtain ⟨h1, h2, new, h3, h4, h5⟩ := sp
  have h1 : closed M N c p m := fun k hk => h1 k (List.mem_range.mpr hk)
  have sub : ∀ x ∈ met, x ∈ m := fun x hx => by rw [h4]; exact List.mem_append_left _ hx
  obtain ⟨a1, a2, a3, a4, a5⟩ := I.a (p, r) List.mem_cons_self
  simp only at a1 a2 a3 a4 a5
  have hs := List.pairwise_cons.mp I.s
  have hge : ∀ e ∈ rest, r.length ≤ e.2.length := fun e he => hs.1 e he
  have hle : ∀ e ∈ rest, e.2.length ≤ r.length + 1 := fun e he => I.w (p, r) List.mem_cons_self e (List.mem_cons_of_mem _ he)
  have hnew : ∀ e ∈ new, e.2.length = r.length + 1 := fun e he => by
    obtain ⟨_, k, _, rfl⟩ := h5 e he
    rw [List.length_append]; rfl
  have lmem : ∀ e, e ∈ l ↔ e ∈ rest ∨ e ∈ new := fun e => by rw [h3, List.mem_append]
  have lge : ∀ e ∈ l, r.length ≤ e.2.length ∧ e.2.length ≤ r.length + 1 := fun e he => by
    rcases (lmem e).mp he with z | z
    · exact ⟨hge e z, hle e z⟩
    · rw [hnew e z]; exact ⟨by omega, by omega⟩
  have hb : ∀ q ∈ m, (∃ x, (q, x) ∈ l) ∨ closed M N c q m := fun q hq => by
    rw [h4] at hq
    rcases List.mem_append.mp hq with z | z
    · rcases I.b q z with ⟨x, hx⟩ | hx
      · rcases List.mem_cons.mp hx with e | hx
        · injection e with e1 e2
          rw [e1]
          exact .inr h1
        · exact .inl ⟨x, (lmem _).mpr (.inl hx)⟩
      · exact .inr (closed_mono hx sub)
    · obtain ⟨e, he, rfl⟩ := List.mem_map.mp z
      exact .inl ⟨e.2, (lmem _).mpr (.inr he)⟩
  have hbd : ∀ q ∈ m, q.1 < n ∧ q.2 < n' := fun q hq => by
    rw [h4] at hq
    rcases List.mem_append.mp hq with z | z
    · exact I.bd q z
    · obtain ⟨e, he, rfl⟩ := List.mem_map.mp z
      obtain ⟨_, k, hk, rfl⟩ := h5 e he
      have hk := List.mem_range.mp hk
      obtain ⟨b1, b2⟩ := I.bd p a4
      exact ⟨h.nx b1 hk, h'.nx b2 hk⟩
  refine ⟨⟨fun e he => ?_, hb, ?_, fun e he e' he' => ?_, fun q hq hl => ?_, sub _ I.z, h2, hbd⟩, new.length, by rw [h3, List.length_append], by rw [h4, List.length_append, List.length_map]⟩
  · rcases (lmem e).mp he with z | z
    · obtain ⟨b1, b2, b3, b4, b5⟩ := I.a e (List.mem_cons_of_mem _ z)
      exact ⟨b1, b2, b3, sub _ b4, b5⟩
    · have hn := hnew e z
      have hem : e.1 ∈ m := by rw [h4]; exact List.mem_append_right _ (List.mem_map.mpr ⟨e, z, rfl⟩)
      obtain ⟨g1, k, hk, rfl⟩ := h5 e z
      have hk := List.mem_range.mp hk
      refine ⟨okq_snoc.mpr ⟨a1, hk⟩, ?_, ?_, hem, fun q hq e => ?_⟩
      · show pr M N (r ++ [k]) = suc M N p k
        rw [pr_snoc, a2]
      · show failsB M N (r ++ [k]) = false
        cases e : failsB M N (r ++ [k]) with
        | false => rfl
        | true =>
          rcases fl_snoc.mp e with z | z
          · rw [a3] at z; cases z
          · rw [a2] at z
            exact absurd (h1 k hk).1 z
      · rw [hn]
        by_cases hlt : q.length ≤ r.length
        · have := (I.k q hq fun e he => by
            rcases List.mem_cons.mp he with rfl | he
            · exact hlt
            · exact Nat.le_trans hlt (hge e he)).1
          rw [e] at this
          exact absurd this g1
        · omega
  · rw [h3, List.pairwise_append]
    refine ⟨hs.2, List.pairwise_of_forall_mem_list fun x hx y hy => ?_, fun x hx y hy => ?_⟩
    · rw [hnew x hx, hnew y hy]; exact Nat.le_refl _
    · rw [hnew y hy]; exact hle x hx
  · have := lge e he
    have := lge e' he'
    omega
  · by_cases hlt : q.length ≤ r.length
    · have hk := (I.k q hq fun e he => by
        rcases List.mem_cons.mp he with rfl | he
        · exact hlt
        · exact Nat.le_trans hlt (hge e he)).1
      rcases I.b _ hk with ⟨x, hx⟩ | hx
      · have hmin := (I.a _ hx).2.2.2.2 q hq rfl
        simp only at hmin
        rcases List.mem_cons.mp hx with e | hx
        · injection e with e1 e2
          rw [e1]
          exact h1
        · have := hl _ ((lmem _).mpr (.inl hx))
          simp only at this
          omega
      · exact closed_mono hx sub
    · have hnil : l = [] := by
        cases e : l with
        | nil => rfl
        | cons x xs =>
          have hx : x ∈ l := by rw [e]; exact List.mem_cons_self
          have := hl x hx
          have := (lge x hx).2
          omega
      have all : ∀ q' ∈ m, closed M N c q' m := fun q' hq' => by
        rcases hb q' hq' with ⟨x, hx⟩ | hx
        · rw [hnil] at hx; cases hx
        · exact hx
      have mem : ∀ q, okq c q → pr M N q ∈ m := snoc_ind (fun _ => sub _ I.z) fun q k ih hq => by
        obtain ⟨g1, g2⟩ := okq_snoc.mp hq
        rw [pr_snoc]
        exact (all _ (ih g1) k g2).2
      exact all _ (mem q hq)
/-- what the judge's answer tells -/
def Told (M N : Mc) (c : Nat) : Sum (List Nat) Nat → Prop
  | .inl run => okq c run ∧ failsB M N run = true ∧ ∀ q, okq c q → failsB M N q = true → run.length ≤ q.length
  | .inr _ => ∀ q, okq c q → failsB M N q = false
theorem met_le (h : Ok n c M) (h' : Ok n' c N) (I : Iv M N n n' c line met) : met.length ≤ 16 := by
  have := nodup_le met ((List.range n).flatMap fun a => (List.range n').map fun b => (a, b)) I.nd fun x hx => by
    obtain ⟨b1, b2⟩ := I.bd x hx
    exact List.mem_flatMap.mpr ⟨x.1, List.mem_range.mpr b1, List.mem_map.mpr ⟨x.2, List.mem_range.mpr b2, rfl⟩⟩
  rw [flat_len (m := n') _ fun _ _ => by rw [List.length_map, List.length_range], List.length_range] at this
  exact Nat.le_trans this (Nat.mul_le_mul h.hi h'.hi)
theorem bfs_spec (h : Ok n c M) (h' : Ok n' c N) : ∀ (f : Nat) (line : List Ent) (met : List (Nat × Nat)), Iv M N n n' c line met → line.length + 2 * (16 - met.length) < f → ∃ res, bfs M N c f line met = some res ∧ Told M N c res
  | 0, line, met, _, hf => by omega
  | f + 1, [], met, I, hf => ⟨.inr met.length, rfl, fun q hq => (I.k q hq fun e m => nomatch m).2⟩
  | f + 1, (p, r) :: rest, met, I, hf => by
    unfold bfs
    have hs := List.pairwise_cons.mp I.s
    cases es : scan M N p r (List.range c) rest met with
    | inl run =>
      have sp := scan_spec (M := M) (N := N) (p := p) (r := r) (List.range c) rest met I.nd
      rw [es] at sp
      obtain ⟨k, hk, rfl, hne⟩ := sp
      obtain ⟨a1, a2, a3, a4, a5⟩ := I.a (p, r) List.mem_cons_self
      refine ⟨_, rfl, okq_snoc.mpr ⟨a1, List.mem_range.mp hk⟩, fl_snoc.mpr (.inr (by rw [a2]; exact hne)), fun q hq hfl => ?_⟩
      rw [List.length_append, List.length_singleton]
      by_cases hlt : q.length ≤ r.length
      · have := (I.k q hq fun e he => by
          rcases List.mem_cons.mp he with rfl | he
          · exact hlt
          · exact Nat.le_trans hlt (hs.1 e he)).2
        rw [hfl] at this
        cases this
      · omega
    | inr lm =>
      obtain ⟨l, m⟩ := lm
      obtain ⟨J, x, e1, e2⟩ := I.next h h' es
      have hm := met_le h h' J
      refine bfs_spec h h' f l m J ?_
      rw [List.length_cons] at hf
      omega
theorem judge_told (h : Ok n c M) (h' : Ok n' c N) : ∃ res, bfs M N c 300 [((0, 0), [])] [(0, 0)] = some res ∧ Told M N c res := by
  refine bfs_spec h h' 300 _ _ ⟨fun e m => ?_, fun p m => ?_, List.pairwise_singleton _ _, fun e m e' m' => ?_, fun q hq hl => ?_, List.mem_cons_self, List.nodup_cons.mpr ⟨(fun z => nomatch z), List.nodup_nil⟩, fun p m => ?_⟩ (by decide)
  · rw [List.mem_singleton.mp m]
    exact ⟨fun k m => (nomatch m), rfl, fl_nil, List.mem_cons_self, fun q _ _ => Nat.zero_le _⟩
  · rw [List.mem_singleton.mp m]
    exact .inl ⟨[], List.mem_cons_self⟩
  · rw [List.mem_singleton.mp m, List.mem_singleton.mp m']
    exact Nat.le_succ _
  · have := hl _ List.mem_cons_self
    exact absurd this (Nat.not_lt_zero _)
  · rw [List.mem_singleton.mp m]
    exact ⟨h.lo, h'.lo⟩
end
end K29

/-! K29: draws. -/
namespace K29
open PySem PySem.Spec L2 PyD
def scr (ns : List Int) : D := .lst (ns.map .int)
theorem plains_int : ∀ ns : List Int, plains (ns.map .int) = true
  | [] => rfl
  | n :: ns => by
    rw [List.map_cons]
    show (true && plains _) = true
    rw [plains_int ns]
    rfl
theorem depth_int : ∀ ns : List Int, PyData.depthAll (toPs (ns.map .int)) = 0
  | [] => by simp [toPs, PyData.depthAll]
  | n :: ns => by
    rw [List.map_cons]
    show PyData.depthAll (.int n :: toPs (ns.map .int)) = 0
    rw [PyData.depthAll, depth_int ns]
    simp [PyData.depth]
theorem ne_nil {n : Int} {ns : List Int} {S : List D} : opNe (scr (n :: ns)) (.lst []) S = .ok (.bl true) S := by
  have e : eqP (scr (n :: ns)) (.lst []) = some false := by
    unfold eqP scr
    dsimp only
    rw [show plain (.lst ((n :: ns).map .int)) = true from plains_int (n :: ns)]
    rw [decide_eq_true (show (toP (.lst ((n :: ns).map .int))).depth ≤ 100 by
      show (PyData.list (toPs ((n :: ns).map .int))).depth ≤ 100
      simp only [PyData.depth]
      rw [depth_int]
      decide)]
    show (if true && true && true then some (PyData.eqv (.list (.int n :: toPs (ns.map .int))) (.list [])) else _) = _
    simp [PyData.eqv, PyData.eqvAll]
  show okB ((eqP (scr (n :: ns)) (.lst [])).map not) S = _
  rw [e]
  rfl
theorem mod_ok {i m : Int} {S : List D} (h : 0 < m) : opMod (.int i) (.int m) S = .ok (.int (i % m)) S := if_pos h
theorem div_ok {i m : Int} {S : List D} (h : 0 < m) (h2 : m < 1073741824) : opDiv (.int i) (.int m) S = .ok (.int (i / m)) S := if_pos ⟨h, h2⟩
theorem ix_mod {n : Int} {ns : List Int} {i : Int} {S : List D} : ∃ c, opIx (scr (n :: ns)) (.int (i % ((n :: ns).length : Nat))) S = .ok (.int c) S := by
  have h1 : 0 ≤ i % ((n :: ns).length : Nat) := Int.emod_nonneg _ (by rw [List.length_cons]; omega)
  have h2 : i % ((n :: ns).length : Nat) < ((n :: ns).length : Nat) := Int.emod_lt_of_pos _ (by rw [List.length_cons]; omega)
  obtain ⟨k, hk⟩ := Int.eq_ofNat_of_zero_le h1
  rw [hk] at h2 ⊢
  have hk2 : k < (n :: ns).length := by omega
  refine ⟨(n :: ns)[k], ?_⟩
  show okD (atI ((n :: ns).map .int) (k : Int)) S = _
  rw [atI_nat (d := .int (n :: ns)[k]) (by rw [List.getElem?_map, List.getElem?_eq_getElem hk2]; rfl)]
  rfl
theorem num0 {ns : List Int} {i : Int} {S : List D} (hz : ns.length ≤ 63) : ∃ c t, b_u_law_number_0 [.val (scr ns), .val (.int i), .emp, .emp, .emp, .emp, .emp] S = .nx [.val (scr ns), .val (.int i), .val (.int c), .val (.int t), .emp, .emp, .emp] S := by
  cases ns with
  | nil => exact ⟨12345, 0, rfl⟩
  | cons n ns =>
    obtain ⟨c, hc⟩ := ix_mod (n := n) (ns := ns) (i := i) (S := S)
    refine ⟨c, i / ((n :: ns).length : Nat), ?_⟩
    have hl : fOne opLen (fLook 0) [.val (scr (n :: ns)), .val (.int i), .emp, .emp, .emp, .emp, .emp] S = .ok (.int ((n :: ns).length : Nat)) S := by
      refine one_to rfl ?_
      show Out.ok (D.int (((n :: ns).map D.int).length : Nat)) S = _
      rw [List.length_map]
    have hp : (0 : Int) < ((n :: ns).length : Nat) := by rw [List.length_cons]; omega
    have hu : fIfV (fBl (fTwo opNe (fLook 0) (fLst fNil))) (fTup (fCons (fTwo opIx (fLook 0) (fTwo opMod (fLook 1) (fOne opLen (fLook 0)))) (fCons (fTwo opDiv (fLook 1) (fOne opLen (fLook 0))) fNil))) (fTup (fCons (fLit (.int 12345)) (fCons (fLit (.int 0)) fNil))) [.val (scr (n :: ns)), .val (.int i), .emp, .emp, .emp, .emp, .emp] S = .ok (.tup [.int c, .int (i / ((n :: ns).length : Nat))]) S := by
      refine ifV_t (bl_ok (two_to rfl rfl ne_nil)) ?_
      have h1 := two_to (op := opIx) (fa := fLook 0) (fb := fTwo opMod (fLook 1) (fOne opLen (fLook 0))) (ρ := [.val (scr (n :: ns)), .val (.int i), .emp, .emp, .emp, .emp, .emp]) (S := S) rfl (two_to rfl hl (mod_ok hp)) hc
      have h2 := two_to (op := opDiv) (fa := fLook 1) (fb := fOne opLen (fLook 0)) (ρ := [.val (scr (n :: ns)), .val (.int i), .emp, .emp, .emp, .emp, .emp]) (S := S) rfl hl (div_ok hp (by omega))
      unfold fTup fCons fNil
      rw [h1]
      dsimp only [Out.bind]
      rw [h2]
      rfl
    unfold b_u_law_number_0 sUnp sE
    rw [hu]
    rfl
theorem lt_int {a b : Int} {S : List D} : PyD.opLt (.int a) (.int b) S = .ok (.bl (decide (a < b))) S := rfl
theorem gt_int {a b : Int} {S : List D} : PyD.opGt (.int a) (.int b) S = .ok (.bl (decide (b < a))) S := rfl
theorem add_int {a b : Int} {S : List D} : opAdd (.int a) (.int b) S = .ok (.int (a + b)) S := rfl
theorem mul_l {a b : Int} {S : List D} (h : PyD.small64 a = true) : opMul (.int a) (.int b) S = .ok (.int (a * b)) S := by
  unfold opMul
  dsimp only
  rw [h]
  rfl
theorem mul_r {a b : Int} {S : List D} (h : PyD.small64 b = true) : opMul (.int a) (.int b) S = .ok (.int (a * b)) S := by
  unfold opMul
  dsimp only
  rw [h, Bool.or_true]
  rfl
theorem small_ok {i : Int} (h1 : 0 ≤ i) (h2 : i < 2147483647) : PyD.small64 i = true := by
  unfold PyD.small64
  have a : (-(2 ^ 64) : Int) < 0 := by decide
  have b : (2147483647 : Int) < 2 ^ 64 := by decide
  rw [Bool.and_eq_true, decide_eq_true_eq, decide_eq_true_eq]
  exact ⟨by omega, by omega⟩
theorem int_int {a : Int} {S : List D} : opInt (.int a) S = .ok (.int a) S := rfl
theorem pow_ok {S : List D} : ∃ p, opPow (.int 10) (.int 18) S = .ok (.int p) S := ⟨10 ^ (18 : Int).toNat, by
  unfold opPow
  exact if_pos ⟨by decide, by decide, by decide⟩⟩
theorem num1 {s : D} {i c t : Int} {S : List D} : ∃ r, b_u_law_number_1 [.val s, .val (.int i), .val (.int c), .val (.int t), .emp, .emp, .emp] S = .nx [.val s, .val (.int i), .val (.int c), .val (.int t), .val (.int r), .emp, .emp] S := by
  obtain ⟨p, hp⟩ := pow_ok (S := S)
  have hl := lt_int (a := t) (b := 60) (S := S)
  cases e : decide (t < 60) with
  | true =>
    rw [e] at hl
    exact ⟨c - p, asg_ok (ifV_t (bl_ok (two_to rfl rfl hl)) (two_to rfl (two_to rfl rfl hp) rfl))⟩
  | false =>
    rw [e] at hl
    exact ⟨0, asg_ok (ifV_f (bl_ok (two_to rfl rfl hl)) rfl)⟩
theorem num2l {s : D} {i c t : Int} {S : List D} : ∀ (ds : List D) (r : Int) (a5 : Sl), ∃ r' b5, forL (.one 5) (sAsg 4 (fTwo opDiv (fLook 4) (fLit (.int 1009)))) ds [.val s, .val (.int i), .val (.int c), .val (.int t), .val (.int r), a5, .emp] S = .nx [.val s, .val (.int i), .val (.int c), .val (.int t), .val (.int r'), b5, .emp] S
  | [], r, a5 => ⟨r, a5, rfl⟩
  | d :: ds, r, a5 => by
    obtain ⟨r', b5, h⟩ := num2l ds (r / 1009) (.val d)
    refine ⟨r', b5, ?_⟩
    have hb : sAsg 4 (fTwo opDiv (fLook 4) (fLit (.int 1009))) [.val s, .val (.int i), .val (.int c), .val (.int t), .val (.int r), .val d, .emp] S = .nx [.val s, .val (.int i), .val (.int c), .val (.int t), .val (.int (r / 1009)), .val d, .emp] S := asg_ok (two_to rfl rfl (div_ok (by decide) (by decide)))
    unfold forL
    dsimp only [bindT, List.set]
    rw [hb]
    exact h
theorem num2 {s : D} {i c t r : Int} {S : List D} : ∃ r' b5, b_u_law_number_2 [.val s, .val (.int i), .val (.int c), .val (.int t), .val (.int r), .emp, .emp] S = .nx [.val s, .val (.int i), .val (.int c), .val (.int t), .val (.int r'), b5, .emp] S := by
  have h1 : 0 ≤ t % 60 := Int.emod_nonneg _ (by decide)
  have h2 : t % 60 < 60 := Int.emod_lt_of_pos _ (by decide)
  have hr := rng_eq (fa := fTwo opMod (fOne opInt (fLook 3)) (fLit (.int 60))) (ρ := [.val s, .val (.int i), .val (.int c), .val (.int t), .val (.int r), .emp, .emp]) (S := S) (S' := S) (n := t % 60) (two_to (one_to rfl rfl) rfl (mod_ok (by decide))) (big_ok (by omega) (by omega))
  obtain ⟨r', b5, h⟩ := num2l (s := s) (i := i) (c := c) (t := t) (S := S) (ints0 0 (t % 60).toNat) r .emp
  refine ⟨r', b5, ?_⟩
  unfold b_u_law_number_2 sFor sE
  rw [hr]
  exact h
theorem number_ok {ns : List Int} {i : Int} {S : List D} (hz : ns.length ≤ 63) : ∃ k, c_u_law_number [scr ns, .int i] S = .ok (.int k) S := by
  obtain ⟨c, t, h0⟩ := num0 (i := i) (S := S) hz
  obtain ⟨r, h1⟩ := num1 (s := scr ns) (i := i) (c := c) (t := t) (S := S)
  obtain ⟨r', b5, h2⟩ := num2 (s := scr ns) (i := i) (c := c) (t := t) (r := r) (S := S)
  have hg := gt_int (a := r') (b := 0) (S := S)
  cases e : decide (0 < r') with
  | true =>
    rw [e] at hg
    refine ⟨r' % 1009, fn_rt rfl ((seq_nx h0).trans ((seq_nx h1).trans ((seq_nx h2).trans ?_)))⟩
    unfold sSeq
    rw [show b_u_law_number_3 [.val (scr ns), .val (.int i), .val (.int c), .val (.int t), .val (.int r'), b5, .emp] S = .rt (.int (r' % 1009)) S from (if_t (bl_ok (two_to rfl rfl hg))).trans (ret_ok (two_to (one_to rfl rfl) rfl (mod_ok (by decide))))]
  | false =>
    rw [e] at hg
    have h3 : b_u_law_number_3 [.val (scr ns), .val (.int i), .val (.int c), .val (.int t), .val (.int r'), b5, .emp] S = .nx [.val (scr ns), .val (.int i), .val (.int c), .val (.int t), .val (.int r'), b5, .emp] S := if_f (bl_ok (two_to rfl rfl hg))
    have h4 : ∃ b : Int, (0 ≤ b ∧ b < 2147483647) ∧ b_u_law_number_4 [.val (scr ns), .val (.int i), .val (.int c), .val (.int t), .val (.int r'), b5, .emp] S = .nx [.val (scr ns), .val (.int i), .val (.int c), .val (.int t), .val (.int r'), b5, .val (.int b)] S := ⟨_, ⟨Int.emod_nonneg _ (by decide), Int.emod_lt_of_pos _ (by decide)⟩, asg_ok (two_to (two_to (two_to (one_to (two_to rfl (two_to rfl rfl (mul_l (by decide))) add_int) int_int) rfl (mul_r (by decide))) (two_to rfl (one_to rfl len_lst) (mul_l (by decide))) add_int) rfl (mod_ok (by decide)))⟩
    obtain ⟨b4, ⟨q1, q2⟩, h4⟩ := h4
    have h5 : ∃ b, b_u_law_number_5 [.val (scr ns), .val (.int i), .val (.int c), .val (.int t), .val (.int r'), b5, .val (.int b4)] S = .nx [.val (scr ns), .val (.int i), .val (.int c), .val (.int t), .val (.int r'), b5, .val (.int b)] S := ⟨_, asg_ok (two_to (two_to (two_to rfl rfl (mul_l (small_ok q1 q2))) (two_to rfl rfl (mul_l (by decide))) add_int) rfl (mod_ok (by decide)))⟩
    obtain ⟨b6, h5⟩ := h5
    have h6 : ∃ b, b_u_law_number_6 [.val (scr ns), .val (.int i), .val (.int c), .val (.int t), .val (.int r'), b5, .val (.int b6)] S = .rt (.int b) S := ⟨_, ret_ok (one_to (two_to (two_to (two_to rfl rfl (mul_r (by decide))) (two_to rfl rfl (div_ok (by decide) (by decide))) add_int) rfl (mod_ok (by decide))) int_int)⟩
    obtain ⟨b7, h6⟩ := h6
    exact ⟨b7, fn_rt rfl ((seq_nx h0).trans ((seq_nx h1).trans ((seq_nx h2).trans ((seq_nx h3).trans ((seq_nx h4).trans ((seq_nx h5).trans h6))))))⟩
/-- the cells of a law: the draw ahead of others -/
def Sj (ns : List Int) (j : Int) (T : List D) : List D := .lst [scr ns, .int j] :: T
theorem locs_int {n : Nat} : ∀ ns : List Int, locsBs n (ns.map .int) = true
  | [] => rfl
  | x :: xs => by
    rw [List.map_cons]
    show (true && locsBs n _) = true
    rw [locs_int xs]
    rfl
theorem locs_draw {n : Nat} {ns : List Int} {j : Int} : locsB n (.lst [scr ns, .int j]) = true := by
  show ((locsBs n (ns.map .int)) && (true && true)) = true
  rw [locs_int]
  rfl
theorem gd_Sj {ns : List Int} {j : Int} : Gd (Sj ns j []) := by
  show (locsB 1 (.lst [scr ns, .int j]) && true) = true
  rw [locs_draw]
  rfl
theorem take_ok {ns : List Int} {j : Int} {m : Nat} {T : List D} (hz : ns.length ≤ 63) (hm : 0 < m) : ∃ k, k < m ∧ c_u_law_take [.loc 0, natD m] (Sj ns j T) = .ok (natD k) (Sj ns (j + 1) T) := by
  obtain ⟨i, hi⟩ := number_ok (i := j + 1) (S := Sj ns (j + 1) T) hz
  have h1 : 0 ≤ i % (m : Int) := Int.emod_nonneg _ (by omega)
  have h2 : i % (m : Int) < m := Int.emod_lt_of_pos _ (by omega)
  obtain ⟨k, hk⟩ := Int.eq_ofNat_of_zero_le h1
  refine ⟨k, by omega, fn_rt' rfl (S' := Sj ns (j + 1) T) ?_ rfl⟩
  have e0 : b_u_law_take_0 (startR 2 [.loc 0, natD m]) (Sj ns j T) = .nx [.val (.loc 0), .val (natD m)] (Sj ns (j + 1) T) := rfl
  refine (seq_nx e0).trans (ret_ok ?_)
  refine two_to (x := .int i) (one_to (to2 (x := scr ns) (y := .int (j + 1)) ?_ ?_ hi) rfl) rfl ?_
  · refine two_to rfl rfl ?_
    show okD (atI [scr ns, .int (j + 1)] 0) _ = _
    rw [at0]
    rfl
  · refine one_to (x := .int (j + 1)) (two_to rfl rfl ?_) rfl
    show okD (atI [scr ns, .int (j + 1)] 1) _ = _
    rw [at1]
    rfl
  · refine (mod_ok (by omega)).trans ?_
    rw [hk]
    rfl
theorem takeC {ns : List Int} {j : Int} {m i : Nat} {ρ : List Sl} {fb : Ef D} {T : List D} (hz : ns.length ≤ 63) (hm : 0 < m) (h : ρ[i]? = some (.val (.loc 0))) (h2 : fb ρ (Sj ns j T) = .ok (natD m) (Sj ns j T)) : ∃ k, k < m ∧ fCall 2 c_u_law_take (fCons (fVar i) (fCons fb fNil)) ρ (Sj ns j T) = .ok (natD k) (Sj ns (j + 1) T) := by
  obtain ⟨k, hk, ht⟩ := take_ok (j := j) (T := T) hz hm
  exact ⟨k, hk, (call2 (var_ok h) h2).trans ht⟩
theorem lcS {β : Type} {ns : List Int} {tg : Tg} {e : Ef D} {ρ : List Sl} {enc : β → D} {Q : β → Prop} : ∀ (xs : List D) (j : Int), (∀ x ∈ xs, ∀ j, ∃ ρ1, bindT tg x ρ = some ρ1 ∧ ∃ g j', Q g ∧ e ρ1 (Sj ns j []) = .ok (enc g) (Sj ns j' [])) →
    ∃ (gs : List β) (j' : Int), gs.length = xs.length ∧ (∀ g ∈ gs, Q g) ∧ lcLoop tg fYes e ρ xs (Sj ns j []) = .ok (gs.map enc) (Sj ns j' [])
  | [], j, _ => ⟨[], j, rfl, by simp, rfl⟩
  | x :: xs, j, h => by
    obtain ⟨ρ1, h1, g, j1, q, h2⟩ := h x List.mem_cons_self j
    obtain ⟨gs, j2, hl, hq, h3⟩ := lcS xs j1 fun y m => h y (List.mem_cons_of_mem _ m)
    refine ⟨g :: gs, j2, by rw [List.length_cons, List.length_cons, hl], fun y m => ?_, ?_⟩
    · rcases List.mem_cons.mp m with rfl | m
      · exact q
      · exact hq y m
    · unfold lcLoop
      rw [h1]
      dsimp only [fYes]
      rw [h2]
      dsimp only
      rw [h3]
      rfl
theorem fLc_lcS {β : Type} {ns : List Int} {j : Int} {tg : Tg} {vs : List Nat} {it : Ef (List D)} {e : Ef D} {ρ : List Sl} {enc : β → D} {Q : β → Prop} {xs : List D} (hi : it ρ (Sj ns j []) = .ok xs (Sj ns j [])) (hl : xs.length ≤ LIM) (h : ∀ x ∈ xs, ∀ j, ∃ ρ1, bindT tg x (wipeR ρ vs) = some ρ1 ∧ ∃ g j', Q g ∧ e ρ1 (Sj ns j []) = .ok (enc g) (Sj ns j' [])) :
    ∃ (gs : List β) (j' : Int), gs.length = xs.length ∧ (∀ g ∈ gs, Q g) ∧ fLc tg vs it fYes e ρ (Sj ns j []) = .ok (.lst (gs.map enc)) (Sj ns j' []) := by
  obtain ⟨gs, j', h1, h2, h3⟩ := lcS xs j h
  exact ⟨gs, j', h1, h2, fLc_ok hi h3 (by rw [List.length_map, h1]; exact hl)⟩
end K29

/-! K29: the judge of runs; machines made, drawn, bent. -/
namespace K29
open PySem PySem.Spec L2 PyD
section
variable {n n' c : Nat} {M N : Mc} {ρ : List Sl} {S : List D}
theorem judge_run_ok (h : Ok n c M) (h' : Ok n' c N) (hS : Gd S) {run q : List Nat} (e : bfs M N c 300 [((0, 0), [])] [(0, 0)] = some (.inl run)) (hq : ∀ k ∈ q, k < c) (hz : q.length ≤ 12) (hf : failsB M N q = true) :
    c_judge_run [machD M, machD N, rowD q] S = .ok (if run.length = q.length then .ins 4 [natD q.length] else .ins 5 [rowD run]) S := by
  have e0 : b_judge_run_0 (startR 4 [machD M, machD N, rowD q]) S = .nx [.val (machD M), .val (machD N), .val (rowD q), .emp] S := drop_ok (to3 rfl rfl rfl (check_failing_ok h h' isR hq hz hf))
  have e1 : b_judge_run_1 [.val (machD M), .val (machD N), .val (rowD q), .emp] S = .nx [.val (machD M), .val (machD N), .val (rowD q), .val (rowD run)] S := by
    refine asg_ok (i := 3) (d := rowD run) ?_
    unfold fFld
    rw [to2 (x := machD M) (y := machD N) (o := .ok (.ins 3 [rowD run]) S) rfl rfl (judge_ok h h' hS e)]
    rfl
  refine fn_rt rfl ((seq_nx e0).trans ((seq_nx e1).trans (ret_ok ?_)))
  have hc : fBl (fTwo opEq (fOne opLen (fLook 3)) (fOne opLen (fLook 2))) [.val (machD M), .val (machD N), .val (rowD q), .val (rowD run)] S = .ok (decide (run.length = q.length)) S := bl_ok (two_to (one_to rfl len_row) (one_to rfl len_row) opEq_nat)
  by_cases z : run.length = q.length
  · rw [decide_eq_true z] at hc
    rw [if_pos z]
    exact ifV_t hc (toM (one_to rfl len_row) (shortest_new hS))
  · rw [decide_eq_false z] at hc
    rw [if_neg z]
    exact ifV_f hc (toM rfl (longer_new hS))
/-! ### a machine out of rows -/
def rawR (r : List (Nat × Nat)) : D := .lst (r.map pairD)
def rawD (M : Mc) : D := .lst (M.map rawR)
theorem is_answer_ok {p : Nat × Nat} {k : Nat} (h1 : p.1 < 1000) (h2 : p.2 < k) : c_is_answer [pairD p, natD k] S = .ok (.bl true) S := by
  refine fn_rt rfl (ret_ok (andV_t (to1 rfl is_row_T) (andV_t (two_to (one_to (x := pairD p) rfl rfl) rfl (show opEq (natD 2) (natD 2) S = .ok (.bl true) S from opEq_nat.trans (by rw [decide_eq_true rfl]))) (andV_t (to2 (x := natD p.1) (y := natD 1000) (two_to rfl rfl (ix_T (k := 0) rfl)) rfl (below_nat.trans (by rw [decide_eq_true h1]))) (to2 (x := natD p.2) (y := natD k) (two_to rfl rfl (ix_T (k := 1) rfl)) rfl (below_nat.trans (by rw [decide_eq_true h2])))))))
theorem chain_ok {o o' : D → D → List D → Out D} {fa fb fc : Ef D} {x y z : D} {b : Bool} (ha : fa ρ S = .ok x S) (hb : fb ρ S = .ok y S) (h1 : o x y S = .ok (.bl true) S) (hc : fc ρ S = .ok z S) (h2 : o' y z S = .ok (.bl b) S) : fChain o o' fa fb fc ρ S = .ok (.bl b) S := by
  unfold fChain
  rw [ha]
  dsimp only [Out.bind]
  rw [hb]
  dsimp only
  rw [h1]
  dsimp only
  rw [hc]
  exact h2
theorem lenL {xs : List D} {k : Nat} {fa : Ef D} (h : fa ρ S = .ok (.lst xs) S) (hk : xs.length = k) : fOne opLen fa ρ S = .ok (natD k) S := one_to h (by rw [len_lst, hk])
theorem init_in {d0 d1 : D} {k m : Nat} {a3 a4 : Sl} {rows : D} (hk : opLen rows S = .ok (natD m) S) : ∀ (r : List (Nat × Nat)) (i : Nat) (a5 a6 : Sl), (∀ p ∈ r, p.1 < 1000 ∧ p.2 < m) → ∃ b5 b6, forL (.many [5, 6]) (sIf (fNotT (fTru tm (fCall 2 c_is_answer (fCons (fVar 6) (fCons (fOne opLen (fLook 1)) fNil))))) sBad sSkip) (pairs0 i (r.map pairD)) [.val d0, .val rows, .val d1, a3, a4, a5, a6] S = .nx [.val d0, .val rows, .val d1, a3, a4, b5, b6] S
  | [], i, a5, a6, _ => ⟨a5, a6, rfl⟩
  | p :: r, i, a5, a6, h => by
    obtain ⟨h1, h2⟩ := h p List.mem_cons_self
    obtain ⟨b5, b6, ih⟩ := init_in (d0 := d0) (d1 := d1) (k := k) (a3 := a3) (a4 := a4) hk r (i + 1) (.val (natD i)) (.val (pairD p)) (fun x m => h x (List.mem_cons_of_mem _ m))
    refine ⟨b5, b6, ?_⟩
    rw [List.map_cons, show pairs0 i (pairD p :: r.map pairD) = .tup [natD i, pairD p] :: pairs0 (i + 1) (r.map pairD) from rfl]
    rw [forL_nx (ρ1 := [.val d0, .val rows, .val d1, a3, a4, .val (natD i), .val (pairD p)]) rfl (if_f (notT (x := true) (tru_bl (to2 (x := pairD p) (y := natD m) rfl (one_to rfl hk) (is_answer_ok h1 h2)))))]
    exact ih
theorem init_out {d0 : D} {m c : Nat} {rows : D} (hk : opLen rows S = .ok (natD m) S) : ∀ (L : Mc) (i : Nat) (a3 a4 a5 a6 : Sl), (∀ r ∈ L, r.length = c ∧ ∀ p ∈ r, p.1 < 1000 ∧ p.2 < m) → ∃ b3 b4 b5 b6, forL (.many [3, 4]) (sSeq (sIf (fBl (fTwo opNe (fOne opLen (fLook 4)) (fLook 2))) sBad sSkip)
    (sFor (fEnum (fVar 4)) (.many [5, 6]) (sIf (fNotT (fTru tm (fCall 2 c_is_answer (fCons (fVar 6) (fCons (fOne opLen (fLook 1)) fNil))))) sBad sSkip))) (pairs0 i (L.map rawR)) [.val d0, .val rows, .val (natD c), a3, a4, a5, a6] S = .nx [.val d0, .val rows, .val (natD c), b3, b4, b5, b6] S
  | [], i, a3, a4, a5, a6, _ => ⟨a3, a4, a5, a6, rfl⟩
  | r :: L, i, a3, a4, a5, a6, h => by
    obtain ⟨h1, h2⟩ := h r List.mem_cons_self
    obtain ⟨c5, c6, hi⟩ := init_in (S := S) (d0 := d0) (d1 := natD c) (k := 0) (a3 := .val (natD i)) (a4 := .val (rawR r)) hk r 0 a5 a6 h2
    obtain ⟨b3, b4, b5, b6, ih⟩ := init_out (d0 := d0) (c := c) hk L (i + 1) (.val (natD i)) (.val (rawR r)) c5 c6 (fun x m => h x (List.mem_cons_of_mem _ m))
    refine ⟨b3, b4, b5, b6, ?_⟩
    have e1 : sIf (fBl (fTwo opNe (fOne opLen (fLook 4)) (fLook 2))) sBad sSkip [.val d0, .val rows, .val (natD c), .val (natD i), .val (rawR r), a5, a6] S = .nx [.val d0, .val rows, .val (natD c), .val (natD i), .val (rawR r), a5, a6] S := by
      refine if_f (bl_ok (two_to (lenL (xs := r.map pairD) rfl (by rw [List.length_map, h1])) rfl (opNe_nat.trans ?_)))
      rw [decide_eq_true rfl]
      rfl
    have e2 : sFor (fEnum (fVar 4)) (.many [5, 6]) (sIf (fNotT (fTru tm (fCall 2 c_is_answer (fCons (fVar 6) (fCons (fOne opLen (fLook 1)) fNil))))) sBad sSkip) [.val d0, .val rows, .val (natD c), .val (natD i), .val (rawR r), a5, a6] S = .nx [.val d0, .val rows, .val (natD c), .val (natD i), .val (rawR r), c5, c6] S := (for_ok (ds := pairs0 0 (r.map pairD)) (S1 := S) rfl).trans hi
    rw [List.map_cons, show pairs0 i (rawR r :: L.map rawR) = .tup [natD i, rawR r] :: pairs0 (i + 1) (L.map rawR) from rfl]
    rw [forL_nx (ρ1 := [.val d0, .val rows, .val (natD c), .val (natD i), .val (rawR r), a5, a6]) rfl ((seq_nx e1).trans e2)]
    exact ih
theorem locs_pairs {k : Nat} : ∀ r : List (Nat × Nat), locsBs k (r.map pairD) = true
  | [] => rfl
  | p :: r => by
    rw [List.map_cons]
    show (true && locsBs k _) = true
    rw [locs_pairs r]
    rfl
theorem locs_rowsM {k : Nat} : ∀ M : Mc, locsBs k (M.map rowM) = true
  | [] => rfl
  | r :: M => by
    rw [List.map_cons]
    show (locsBs k (r.map pairD) && locsBs k _) = true
    rw [locs_rowsM M, locs_pairs]
    rfl
theorem locs_raw {k : Nat} : ∀ M : Mc, locsBs k (M.map rawR) = true
  | [] => rfl
  | r :: M => by
    rw [List.map_cons]
    show (locsBs k (r.map pairD) && locsBs k _) = true
    rw [locs_raw M, locs_pairs]
    rfl
theorem machine_ok (h : Ok n c M) (hS : Gd S) : c_Machine_init [rawD M] S = .ok (machD M) S := by
  have hM : M.length ≤ 1000 := by rw [h.len]; have := h.hi; omega
  have hrw : ∀ r ∈ M, r.length = c ∧ ∀ p ∈ r, p.1 < 1000 ∧ p.2 < n := fun r m => ⟨h.row r m, h.cell r m⟩
  have e0 : b_Machine_init_0 [.val (.loc S.length), .val (rawD M), .emp, .emp, .emp, .emp, .emp] (S ++ [.ins 1 []]) = .nx [.val (.loc S.length), .val (rawD M), .emp, .emp, .emp, .emp, .emp] (S ++ [.ins 1 []]) := by
    have hl : fOne (opAllT tm) (fLc (.one 4) [4] (fItemsG (fLook 1)) fYes (fCall 1 c_is_row (fCons (fVar 4) fNil))) [.val (.loc S.length), .val (rawD M), .emp, .emp, .emp, .emp, .emp] (S ++ [.ins 1 []]) = .ok (.bl (M.all fun _ => true)) (S ++ [.ins 1 []]) :=
      all_lc (enc := rawR) (Nat.le_trans hM (by decide)) (items_ok rfl) fun r _ => ⟨[.val (.loc S.length), .val (rawD M), .emp, .emp, .val (rawR r), .emp, .emp], rfl, to1 rfl is_row_L⟩
    rw [all_true] at hl
    refine if_f (orT (x := false) (y := false) (notT (x := true) (tru_bl (to1 rfl is_row_L))) (orT (x := false) (y := false) (notT (x := true) (bl_ok (chain_ok (x := natD 1) (z := natD 8) rfl (lenL (k := n) rfl (by rw [List.length_map]; exact h.len)) (le_nat.trans (by rw [decide_eq_true h.lo])) rfl (le_nat.trans (by rw [decide_eq_true (show n ≤ 8 by have := h.hi; omega)]))))) (notT (x := true) (tru_bl hl))))
  have e1 : b_Machine_init_1 [.val (.loc S.length), .val (rawD M), .emp, .emp, .emp, .emp, .emp] (S ++ [.ins 1 []]) = .nx [.val (.loc S.length), .val (rawD M), .val (natD c), .emp, .emp, .emp, .emp] (S ++ [.ins 1 []]) := by
    refine asg_ok (i := 2) (d := natD c) (lenL (xs := (M.getD 0 []).map pairD) (two_to rfl rfl (ix_L (k := 0) ?_)) (by rw [List.length_map]; exact h.rlen h.lo))
    have hl : 0 < M.length := by rw [h.len]; exact h.lo
    rw [List.getElem?_map, List.getElem?_eq_getElem hl, List.getD_eq_getElem?_getD, List.getElem?_eq_getElem hl]
    rfl
  have e2 : b_Machine_init_2 [.val (.loc S.length), .val (rawD M), .val (natD c), .emp, .emp, .emp, .emp] (S ++ [.ins 1 []]) = .nx [.val (.loc S.length), .val (rawD M), .val (natD c), .emp, .emp, .emp, .emp] (S ++ [.ins 1 []]) :=
    if_f (notT (x := true) (bl_ok (chain_ok (x := natD 1) (y := natD c) (z := natD 4) rfl rfl (le_nat.trans (by rw [decide_eq_true h.c1])) rfl (le_nat.trans (by rw [decide_eq_true (show c ≤ 4 by have := h.c2; omega)])))))
  obtain ⟨b3, b4, b5, b6, e3⟩ := init_out (S := S ++ [.ins 1 []]) (d0 := .loc S.length) (m := n) (c := c) (rows := rawD M) (by show Out.ok (natD (M.map rawR).length) _ = _; rw [List.length_map, h.len]) M 0 .emp .emp .emp .emp hrw
  have e4 : b_Machine_init_4 [.val (.loc S.length), .val (rawD M), .val (natD c), b3, b4, b5, b6] (S ++ [.ins 1 []]) = .nx [.val (.loc S.length), .val (rawD M), .val (natD c), b3, b4, b5, b6] (S ++ [.ins 1 [.tup (M.map rowM)]]) := by
    refine fld1 (one_to (x := .lst (M.map rowM)) (map_lc (enc := rawR) (g := rowM) (Nat.le_trans hM (by decide)) (items_ok rfl) fun r hr => ⟨[.val (.loc S.length), .val (rawD M), .val (natD c), b3, .val (rawR r), b5, b6], rfl, one_to (x := .lst (r.map pairD)) (map_lc (enc := pairD) (g := pairD) ?_ (items_ok rfl) fun p _ => ⟨[.val (.loc S.length), .val (rawD M), .val (natD c), b3, .val (rawR r), b5, .val (pairD p)], rfl, one_to rfl rfl⟩) rfl⟩) rfl)
    rw [h.row r hr]
    exact Nat.le_trans (show c ≤ 2 from h.c2) (show 2 ≤ LIM by decide)
  refine in_nx (d := machD M) (fs := [.tup (M.map rowM)]) hS rfl rfl ?_ ((seq_nx e0).trans ((seq_nx e1).trans ((seq_nx e2).trans ((seq_nx ((for_ok (ds := pairs0 0 (M.map rawR)) (S1 := S ++ [.ins 1 []]) rfl).trans e3)).trans e4))))
  show (locsBs S.length (M.map rowM) && true) = true
  rw [locs_rowsM]
  rfl
/-! ### drawn -/
/-- rows that may stand in a machine -/
structure Rw (n c : Nat) (M : Mc) : Prop where
  len : M.length = n
  row : ∀ r ∈ M, r.length = c
  cell : ∀ r ∈ M, ∀ p ∈ r, p.1 < 1000 ∧ p.2 < n
theorem Rw.ok (h : Rw n c M) (h1 : 1 ≤ n ∧ n ≤ 4) (h2 : 1 ≤ c ∧ c ≤ 2) : Ok n c M := ⟨h.len, h1.2, h1.1, h2.1, h2.2, h.row, h.cell⟩
end
section
variable {ns : List Int} {j : Int} {n c : Nat} {ρ : List Sl}
theorem drawn_ok (hz : ns.length ≤ 63) (hn : 1 ≤ n ∧ n ≤ 4) (hc : 1 ≤ c ∧ c ≤ 2) : ∃ M j', Rw n c M ∧ c_u_law_machine [.loc 0, natD n, natD c] (Sj ns j []) = .ok (rawD M) (Sj ns j' []) := by
  have hin : ∀ (s : Nat) (j : Int), ∃ (r : List (Nat × Nat)) (j' : Int), (r.length = c ∧ ∀ p ∈ r, p.1 < 1000 ∧ p.2 < n) ∧ fLc (.one 4) [4] (fRng1 (fVar 2)) fYes (fTup (fCons (fCall 2 c_u_law_take (fCons (fVar 0) (fCons (fLit (.int 2)) fNil))) (fCons (fCall 2 c_u_law_take (fCons (fVar 0) (fCons (fVar 1) fNil))) fNil))) [.val (.loc 0), .val (natD n), .val (natD c), .val (natD s), .emp] (Sj ns j []) = .ok (rawR r) (Sj ns j' []) := fun s j => by
    obtain ⟨gs, j', h1, h2, h3⟩ := fLc_lcS (ns := ns) (j := j) (tg := .one 4) (vs := [4]) (it := fRng1 (fVar 2)) (e := fTup (fCons (fCall 2 c_u_law_take (fCons (fVar 0) (fCons (fLit (.int 2)) fNil))) (fCons (fCall 2 c_u_law_take (fCons (fVar 0) (fCons (fVar 1) fNil))) fNil))) (ρ := [.val (.loc 0), .val (natD n), .val (natD c), .val (natD s), .emp]) (enc := pairD) (Q := fun p => p.1 < 1000 ∧ p.2 < n) (xs := (List.range c).map natD) (rng_ok rfl (by omega)) (by rw [List.length_map, List.length_range]; exact Nat.le_trans hc.2 (by decide)) (fun x hx j => by
      obtain ⟨k, _, rfl⟩ := List.mem_map.mp hx
      obtain ⟨a, ha, e1⟩ := takeC (ns := ns) (j := j) (m := 2) (i := 0) (fb := fLit (.int 2)) (ρ := [.val (.loc 0), .val (natD n), .val (natD c), .val (natD s), .val (natD k)]) (T := []) hz (by decide) rfl rfl
      obtain ⟨b, hb, e2⟩ := takeC (ns := ns) (j := j + 1) (m := n) (i := 0) (fb := fVar 1) (ρ := [.val (.loc 0), .val (natD n), .val (natD c), .val (natD s), .val (natD k)]) (T := []) hz hn.1 rfl rfl
      exact ⟨_, rfl, (a, b), j + 1 + 1, ⟨Nat.lt_trans ha (by decide), hb⟩, tup_ok (cons_ok e1 (cons_ok e2 nil_ok)) (by show 2 ≤ LIM; decide)⟩)
    rw [List.length_map, List.length_range] at h1
    exact ⟨gs, j', ⟨h1, h2⟩, h3⟩
  obtain ⟨M, j', h1, h2, h3⟩ := fLc_lcS (ns := ns) (j := j) (tg := .one 3) (vs := [3]) (it := fRng1 (fVar 1)) (e := fLc (.one 4) [4] (fRng1 (fVar 2)) fYes (fTup (fCons (fCall 2 c_u_law_take (fCons (fVar 0) (fCons (fLit (.int 2)) fNil))) (fCons (fCall 2 c_u_law_take (fCons (fVar 0) (fCons (fVar 1) fNil))) fNil)))) (ρ := [.val (.loc 0), .val (natD n), .val (natD c), .emp, .emp]) (enc := rawR) (Q := fun r => r.length = c ∧ ∀ p ∈ r, p.1 < 1000 ∧ p.2 < n) (xs := (List.range n).map natD) (rng_ok rfl (by omega)) (by rw [List.length_map, List.length_range]; exact Nat.le_trans hn.2 (by decide)) (fun x hx j => by
    obtain ⟨s, _, rfl⟩ := List.mem_map.mp hx
    obtain ⟨r, j', h1, h2⟩ := hin s j
    exact ⟨_, rfl, r, j', h1, h2⟩)
  rw [List.length_map, List.length_range] at h1
  refine ⟨M, j', ⟨h1, fun r m => (h2 r m).1, fun r m => (h2 r m).2⟩, ?_⟩
  have e : b_u_law_machine_0 [.val (.loc 0), .val (natD n), .val (natD c), .emp, .emp] (Sj ns j []) = .rt (.lst (M.map rawR)) (Sj ns j' []) := by
    unfold b_u_law_machine_0
    exact ret_ok h3
  exact fn_rt' (ns := 5) (body := b_u_law_machine) rfl e rfl
/-! ### bent -/
def locsN (i : Nat) : Nat → List D
  | 0 => []
  | k + 1 => .loc i :: locsN (i + 1) k
theorem locsN_len : ∀ (k i : Nat), (locsN i k).length = k
  | 0, _ => rfl
  | k + 1, i => by unfold locsN; rw [List.length_cons, locsN_len]
theorem locsN_get : ∀ (k i s : Nat), s < k → (locsN i k)[s]? = some (.loc (i + s))
  | 0, _, _, h => by omega
  | k + 1, i, 0, _ => rfl
  | k + 1, i, s + 1, h => by
    unfold locsN
    rw [List.getElem?_cons_succ, locsN_get k (i + 1) s (by omega), show i + 1 + s = i + (s + 1) by omega]
theorem cells_lc {d0 d1 : D} {tl : List Sl} : ∀ (M : Mc) (S : List D), lcLoop (.one 6) fYes (fNew (fOne opList (fLook 6))) [.val d0, .val d1, .emp, .emp, .emp, .emp, .emp] (M.map rawR) S = .ok (locsN S.length M.length) (S ++ M.map rawR)
  | [], S => by rw [List.map_nil, List.append_nil]; rfl
  | r :: M, S => by
    rw [List.map_cons]
    unfold lcLoop
    rw [show bindT (.one 6) (rawR r) [.val d0, .val d1, .emp, .emp, .emp, .emp, .emp] = some [.val d0, .val d1, .emp, .emp, .emp, .emp, .val (rawR r)] from rfl]
    dsimp only [fYes]
    rw [show fNew (fOne opList (fLook 6)) [.val d0, .val d1, .emp, .emp, .emp, .emp, .val (rawR r)] S = .ok (.loc S.length) (S ++ [rawR r]) from rfl]
    dsimp only
    rw [cells_lc (d0 := d0) (d1 := d1) (tl := tl) M (S ++ [rawR r]), List.length_append, List.length_singleton, List.append_assoc]
    rfl
theorem Rw.set {M : Mc} (h : Rw n c M) {s k : Nat} (hs : s < n) {p : Nat × Nat} (hp : p.1 < 1000 ∧ p.2 < n) : Rw n c (M.set s ((M.getD s []).set k p)) := by
  have hl : s < M.length := by rw [h.len]; exact hs
  have hm : M.getD s [] ∈ M := by
    rw [List.getD_eq_getElem?_getD, List.getElem?_eq_getElem hl]
    exact List.getElem_mem hl
  refine ⟨by rw [List.length_set]; exact h.len, fun r m => ?_, fun r m q hq => ?_⟩
  · rcases List.mem_or_eq_of_mem_set m with m | rfl
    · exact h.row r m
    · rw [List.length_set]; exact h.row _ hm
  · rcases List.mem_or_eq_of_mem_set m with m | rfl
    · exact h.cell r m q hq
    · rcases List.mem_or_eq_of_mem_set hq with z | rfl
      · exact h.cell _ hm q z
      · exact hp
theorem raw_set {M : Mc} {s k : Nat} {p : Nat × Nat} : (M.map rawR).set s (.lst (((M.getD s []).map pairD).set k (pairD p))) = (M.set s ((M.getD s []).set k p)).map rawR := by
  rw [List.map_set]
  congr 1
  show _ = D.lst (((M.getD s []).set k p).map pairD)
  rw [List.map_set]
theorem bent_loop {d1 : D} (hz : ns.length ≤ 63) (hn : 1 ≤ n ∧ n ≤ 4) (hc : 1 ≤ c ∧ c ≤ 2) (h1 : ∀ S, opLen d1 S = .ok (natD n) S) (h2 : ∀ (S : List D), ∃ r0, opIx d1 (natD 0) S = .ok r0 S ∧ opLen r0 S = .ok (natD c) S) : ∀ (ts : List D) (M : Mc) (j : Int) (a3 a4 a5 : Sl), Rw n c M → ∃ M' j' b3 b4 b5, Rw n c M' ∧
    forL (.one 3) (sSeq (sPar 4 5 (fCons (fCall 2 c_u_law_take (fCons (fVar 0) (fCons (fOne opLen (fLook 1)) fNil))) (fCons (fCall 2 c_u_law_take (fCons (fVar 0) (fCons (fOne opLen (fTwo opIx (fLook 1) (fLit (.int 0)))) fNil))) fNil)))
    (sSetC (fTwo opIx (fLook 2) (fLook 4)) (fVar 5) (fTup (fCons (fCall 2 c_u_law_take (fCons (fVar 0) (fCons (fLit (.int 2)) fNil))) (fCons (fCall 2 c_u_law_take (fCons (fVar 0) (fCons (fOne opLen (fLook 1)) fNil))) fNil))))) ts [.val (.loc 0), .val d1, .own (.lst (locsN 1 n)), a3, a4, a5, .emp] (Sj ns j (M.map rawR)) = .nx [.val (.loc 0), .val d1, .own (.lst (locsN 1 n)), b3, b4, b5, .emp] (Sj ns j' (M'.map rawR))
  | [], M, j, a3, a4, a5, h => ⟨M, j, a3, a4, a5, h, rfl⟩
  | t :: ts, M, j, a3, a4, a5, h => by
    obtain ⟨r0, hr1, hr2⟩ := h2 (Sj ns (j + 1) (M.map rawR))
    obtain ⟨s, hs, e1⟩ := takeC (ns := ns) (j := j) (m := n) (i := 0) (fb := fOne opLen (fLook 1)) (ρ := [.val (.loc 0), .val d1, .own (.lst (locsN 1 n)), .val t, a4, a5, .emp]) (T := M.map rawR) hz hn.1 rfl (one_to rfl (h1 _))
    obtain ⟨k, hk, e2⟩ := takeC (ns := ns) (j := j + 1) (m := c) (i := 0) (fb := fOne opLen (fTwo opIx (fLook 1) (fLit (.int 0)))) (ρ := [.val (.loc 0), .val d1, .own (.lst (locsN 1 n)), .val t, a4, a5, .emp]) (T := M.map rawR) hz hc.1 rfl (one_to (two_to rfl rfl hr1) hr2)
    have p1 := par_ok (i := 4) (j := 5) (cons_ok e1 (cons_ok e2 nil_ok))
    obtain ⟨a, ha, e3⟩ := takeC (ns := ns) (j := j + 1 + 1) (m := 2) (i := 0) (fb := fLit (.int 2)) (ρ := [.val (.loc 0), .val d1, .own (.lst (locsN 1 n)), .val t, .val (natD s), .val (natD k), .emp]) (T := M.map rawR) hz (by decide) rfl rfl
    obtain ⟨b, hb, e4⟩ := takeC (ns := ns) (j := j + 1 + 1 + 1) (m := n) (i := 0) (fb := fOne opLen (fLook 1)) (ρ := [.val (.loc 0), .val d1, .own (.lst (locsN 1 n)), .val t, .val (natD s), .val (natD k), .emp]) (T := M.map rawR) hz hn.1 rfl (one_to rfl (h1 _))
    have e5 : fTup (fCons (fCall 2 c_u_law_take (fCons (fVar 0) (fCons (fLit (.int 2)) fNil))) (fCons (fCall 2 c_u_law_take (fCons (fVar 0) (fCons (fOne opLen (fLook 1)) fNil))) fNil)) [.val (.loc 0), .val d1, .own (.lst (locsN 1 n)), .val t, .val (natD s), .val (natD k), .emp] (Sj ns (j + 1 + 1) (M.map rawR)) = .ok (pairD (a, b)) (Sj ns (j + 1 + 1 + 1 + 1) (M.map rawR)) := tup_ok (cons_ok e3 (cons_ok e4 nil_ok)) (by show 2 ≤ LIM; decide)
    have hsl : s < M.length := by rw [h.len]; exact hs
    have e6 : fTwo opIx (fLook 2) (fLook 4) [.val (.loc 0), .val d1, .own (.lst (locsN 1 n)), .val t, .val (natD s), .val (natD k), .emp] (Sj ns (j + 1 + 1 + 1 + 1) (M.map rawR)) = .ok (.loc (1 + s)) (Sj ns (j + 1 + 1 + 1 + 1) (M.map rawR)) := two_to rfl rfl (ix_L (locsN_get n 1 s hs))
    have hcell : (Sj ns (j + 1 + 1 + 1 + 1) (M.map rawR))[1 + s]? = some (rawR (M.getD s [])) := by
      show (D.lst [scr ns, .int (j + 1 + 1 + 1 + 1)] :: M.map rawR)[1 + s]? = _
      rw [Nat.add_comm, List.getElem?_cons_succ, List.getElem?_map, List.getElem?_eq_getElem hsl, List.getD_eq_getElem?_getD, List.getElem?_eq_getElem hsl]
      rfl
    have hix : ixN ((M.getD s []).map pairD).length (k : Int) = some k := by
      have hm : M.getD s [] ∈ M := by
        rw [List.getD_eq_getElem?_getD, List.getElem?_eq_getElem hsl]
        exact List.getElem_mem hsl
      unfold ixN
      rw [List.length_map, h.row _ hm, if_pos (by omega), if_pos (by omega)]
      simp
    have p2 : sSetC (fTwo opIx (fLook 2) (fLook 4)) (fVar 5) (fTup (fCons (fCall 2 c_u_law_take (fCons (fVar 0) (fCons (fLit (.int 2)) fNil))) (fCons (fCall 2 c_u_law_take (fCons (fVar 0) (fCons (fOne opLen (fLook 1)) fNil))) fNil))) [.val (.loc 0), .val d1, .own (.lst (locsN 1 n)), .val t, .val (natD s), .val (natD k), .emp] (Sj ns (j + 1 + 1) (M.map rawR)) = .nx [.val (.loc 0), .val d1, .own (.lst (locsN 1 n)), .val t, .val (natD s), .val (natD k), .emp] (Sj ns (j + 1 + 1 + 1 + 1) ((M.set s ((M.getD s []).set k (a, b))).map rawR)) := by
      unfold sSetC sE
      rw [e5]
      dsimp only
      rw [e6]
      dsimp only
      rw [show fVar 5 [.val (.loc 0), .val d1, .own (.lst (locsN 1 n)), .val t, .val (natD s), .val (natD k), .emp] (Sj ns (j + 1 + 1 + 1 + 1) (M.map rawR)) = .ok (.int (k : Int)) (Sj ns (j + 1 + 1 + 1 + 1) (M.map rawR)) from rfl]
      dsimp only
      rw [hcell]
      dsimp only [rawR]
      rw [hix]
      dsimp only
      rw [← raw_set]
      show OutS.nx _ ((D.lst [scr ns, .int (j + 1 + 1 + 1 + 1)] :: M.map rawR).set (1 + s) _) = _
      rw [Nat.add_comm, List.set_cons_succ]
      rfl
    obtain ⟨M', j', b3, b4, b5, g, ih⟩ := bent_loop (d1 := d1) hz hn hc h1 h2 ts (M.set s ((M.getD s []).set k (a, b))) (j + 1 + 1 + 1 + 1) (.val t) (.val (natD s)) (.val (natD k)) (h.set hs ⟨Nat.lt_trans ha (by decide), hb⟩)
    refine ⟨M', j', b3, b4, b5, g, ?_⟩
    rw [forL_nx (ρ1 := [.val (.loc 0), .val d1, .own (.lst (locsN 1 n)), .val t, a4, a5, .emp]) rfl ((seq_nx p1).trans p2)]
    exact ih
theorem thaw_locs {d : D} : ∀ (T : List D) (pre : List D), thaws 1 (d :: (pre ++ T)) (locsN (1 + pre.length) T.length) = T
  | [], pre => rfl
  | x :: T, pre => by
    have e : thaw 1 (d :: (pre ++ x :: T)) (.loc (1 + pre.length)) = x := by
      unfold thaw
      rw [if_neg (by omega), Nat.add_comm, List.getD_cons_succ, List.getD_eq_getElem?_getD, List.getElem?_append_right (Nat.le_refl _), Nat.sub_self]
      rfl
    show thaw 1 (d :: (pre ++ x :: T)) (.loc (1 + pre.length)) :: thaws 1 (d :: (pre ++ x :: T)) (locsN (1 + pre.length + 1) T.length) = _
    rw [e]
    have := thaw_locs (d := d) T (pre ++ [x])
    rw [List.length_append, List.length_singleton, List.append_assoc] at this
    rw [show 1 + pre.length + 1 = 1 + (pre.length + 1) by omega, show pre ++ x :: T = pre ++ ([x] ++ T) from rfl, this]
theorem noKt_locs : ∀ (k i : Nat), noKts (locsN i k) = true
  | 0, _ => rfl
  | k + 1, i => by
    show (true && noKts (locsN (i + 1) k)) = true
    rw [noKt_locs k]
    rfl
theorem locs_not : ∀ (k i : Nat), 1 ≤ i → 1 ≤ k → locsBs 1 (locsN i k) = false
  | 0, _, _, h => by omega
  | k + 1, i, hi, _ => by
    show (decide (i < 1) && _) = false
    rw [decide_eq_false (by omega)]
    rfl
theorem bent_ok (hz : ns.length ≤ 63) (hn : 1 ≤ n ∧ n ≤ 4) (hc : 1 ≤ c ∧ c ≤ 2) {M : Mc} (h : Rw n c M) : ∃ M' j', Rw n c M' ∧ c_u_law_bent [.loc 0, rawD M] (Sj ns j []) = .ok (rawD M') (Sj ns j' []) := by
  have hl0 : 0 < M.length := by rw [h.len]; exact hn.1
  have e0 : b_u_law_bent_0 (startR 7 [.loc 0, rawD M]) (Sj ns j []) = .nx [.val (.loc 0), .val (rawD M), .own (.lst (locsN 1 n)), .emp, .emp, .emp, .emp] (Sj ns j (M.map rawR)) := by
    have hl : fLc (.one 6) [6] (fItemsG (fLook 1)) fYes (fNew (fOne opList (fLook 6))) [.val (.loc 0), .val (rawD M), .emp, .emp, .emp, .emp, .emp] (Sj ns j []) = .ok (.lst (locsN 1 n)) (Sj ns j (M.map rawR)) := by
      have := cells_lc (d0 := .loc 0) (d1 := rawD M) (tl := []) M (Sj ns j [])
      rw [h.len] at this
      exact fLc_ok (items_ok rfl) this (by rw [locsN_len]; exact Nat.le_trans hn.2 (by decide))
    show sOwn 2 _ [.val (.loc 0), .val (rawD M), .emp, .emp, .emp, .emp, .emp] (Sj ns j []) = _
    unfold sOwn sE
    rw [hl]
    rfl
  obtain ⟨t, ht, e1⟩ := takeC (ns := ns) (j := j) (m := 2) (i := 0) (fb := fLit (.int 2)) (ρ := [.val (.loc 0), .val (rawD M), .own (.lst (locsN 1 n)), .emp, .emp, .emp, .emp]) (T := M.map rawR) hz (by decide) rfl rfl
  have hr : fRng1 (fTwo opAdd (fLit (.int 1)) (fCall 2 c_u_law_take (fCons (fVar 0) (fCons (fLit (.int 2)) fNil)))) [.val (.loc 0), .val (rawD M), .own (.lst (locsN 1 n)), .emp, .emp, .emp, .emp] (Sj ns j (M.map rawR)) = .ok ((List.range (1 + t)).map natD) (Sj ns (j + 1) (M.map rawR)) := rng_ok ((two_ok (x := natD 1) (S1 := Sj ns j (M.map rawR)) rfl e1).trans add_nat) (by omega)
  obtain ⟨M', j', b3, b4, b5, g, e2⟩ := bent_loop (ns := ns) (d1 := rawD M) hz hn hc (fun S => by show Out.ok (natD (M.map rawR).length) S = _; rw [List.length_map, h.len]) (fun S => ⟨rawR (M.getD 0 []), ix_L (k := 0) (by rw [List.getElem?_map, List.getElem?_eq_getElem hl0, List.getD_eq_getElem?_getD, List.getElem?_eq_getElem hl0]; rfl), by
    have hm : M.getD 0 [] ∈ M := by
      rw [List.getD_eq_getElem?_getD, List.getElem?_eq_getElem hl0]
      exact List.getElem_mem hl0
    show Out.ok (natD ((M.getD 0 []).map pairD).length) S = _
    rw [List.length_map, h.row _ hm]⟩) ((List.range (1 + t)).map natD) M (j + 1) .emp .emp .emp h
  refine ⟨M', j', g, ?_⟩
  have e3 : b_u_law_bent (startR 7 [.loc 0, rawD M]) (Sj ns j []) = .rt (.lst (locsN 1 n)) (Sj ns j' (M'.map rawR)) := (seq_nx e0).trans ((seq_nx ((for_ok hr).trans e2)).trans rfl)
  show runFn 2 7 b_u_law_bent [.loc 0, rawD M] (Sj ns j []) = _
  unfold runFn
  rw [if_pos (show [D.loc 0, rawD M].length = 2 from rfl), e3]
  show dropD 1 (.lst (locsN 1 n)) (Sj ns j' (M'.map rawR)) = _
  unfold dropD
  have hlen : (Sj ns j' (M'.map rawR)).length = 1 + n := by
    show (M'.map rawR).length + 1 = _
    rw [List.length_map, g.len, Nat.add_comm]
  rw [if_neg (by rw [hlen]; omega), show locsB 1 (.lst (locsN 1 n)) = false from locs_not n 1 (Nat.le_refl _) hn.1, Bool.false_and, if_neg Bool.false_ne_true]
  rw [if_pos (by
    rw [show noKt (.lst (locsN 1 n)) = true from noKt_locs n 1, Bool.and_true]
    show (locsB 1 (.lst [scr ns, .int j']) && locsBs 1 (M'.map rawR)) = true
    rw [locs_draw, locs_raw]
    rfl)]
  show Out.ok (D.lst (thaws 1 (.lst [scr ns, .int j'] :: M'.map rawR) (locsN 1 n))) _ = _
  have := thaw_locs (d := .lst [scr ns, .int j']) (M'.map rawR) []
  rw [List.length_map, g.len] at this
  rw [show thaws 1 (.lst [scr ns, .int j'] :: M'.map rawR) (locsN 1 n) = M'.map rawR from this]
  rfl
end
end K29

namespace K29
open PySem PySem.Spec L2 PyD
section
variable {M N : Mc} {n n' c m : Nat} {ws ws' : List Wy} {q x : List Nat}
theorem endB_iff : endB M N ws q = true ↔ ∀ w ∈ ws, ∀ x ∈ triedL w q, x.length < q.length → failsB M N x = false := by
  unfold endB
  rw [Bool.not_eq_true', List.any_eq_false]
  constructor
  · intro h w hw x hx hl
    exact Bool.eq_false_iff.mpr (h x (mem_sh.mpr ⟨⟨w, hw, hx⟩, hl⟩))
  · intro h x hx
    obtain ⟨⟨w, hw, hx⟩, hl⟩ := mem_sh.mp hx
    rw [h w hw x hx hl]
    exact Bool.false_ne_true
theorem endB_mono (s : ∀ w ∈ ws, w ∈ ws') (h : endB M N ws' q = true) : endB M N ws q = true := endB_iff.mpr fun w hw => endB_iff.mp h w (s w hw)
theorem endB_same (s : ∀ w, w ∈ ws ↔ w ∈ ws') : endB M N ws q = endB M N ws' q := Bool.eq_iff_iff.mpr ⟨endB_mono fun w h => (s w).mpr h, endB_mono fun w h => (s w).mp h⟩
theorem ends_same (s : ∀ w, w ∈ ws ↔ w ∈ ws') : endsL M N c m ws = endsL M N c m ws' := List.filter_congr fun q _ => endB_same s
theorem ends_nil : endsL M N c m [] = badL M N c m := List.filter_eq_self.mpr fun q _ => endB_iff.mpr fun w hw => nomatch hw
theorem mem_ends : q ∈ endsL M N c m ws ↔ q ∈ badL M N c m ∧ endB M N ws q = true := List.mem_filter
theorem bad_sorted : (badL M N c m).Pairwise fun a b => a.length ≤ b.length := (upto_sorted m).filter _
theorem bad_head {b : List Nat} {bs : List (List Nat)} (e : badL M N c m = b :: bs) : ∀ x ∈ badL M N c m, b.length ≤ x.length := by
  have := bad_sorted (M := M) (N := N) (c := c) (m := m)
  rw [e] at this ⊢
  intro x hx
  rcases List.mem_cons.mp hx with rfl | hx
  · exact Nat.le_refl _
  · exact (List.pairwise_cons.mp this).1 x hx
theorem head_end {b : List Nat} {bs : List (List Nat)} (e : badL M N c m = b :: bs) : endB M N ws b = true := endB_iff.mpr fun w _ x hx hl => by
  cases f : failsB M N x with
  | false => rfl
  | true =>
    have hb : b ∈ badL M N c m := by rw [e]; exact List.mem_cons_self
    obtain ⟨⟨h1, h2⟩, _⟩ := mem_bad.mp hb
    have := bad_head e x (mem_bad.mpr ⟨⟨by omega, fun k m => h2 k (tried_sub hx k m)⟩, f⟩)
    omega
theorem ends_cons {b : List Nat} {bs : List (List Nat)} (e : badL M N c m = b :: bs) : ∃ t, endsL M N c m ws = b :: t := ⟨bs.filter (endB M N ws), by
  unfold endsL
  rw [e, List.filter_cons_of_pos (head_end e)]⟩
theorem ends_nil' (e : badL M N c m = []) : endsL M N c m ws = [] := by
  unfold endsL
  rw [e]
  rfl
theorem late_nil {L : List (List Nat)} : lateL L = [] ↔ ∀ q ∈ L, ¬ (L.headD []).length < q.length := by
  unfold lateL
  rw [List.filter_eq_nil_iff]
  simp
theorem late_mono (s : ∀ w ∈ ws, w ∈ ws') (h : lateL (endsL M N c m ws) = []) : lateL (endsL M N c m ws') = [] := by
  cases e : badL M N c m with
  | nil => rw [ends_nil' e]; rfl
  | cons b bs =>
    obtain ⟨t, e1⟩ := ends_cons (ws := ws) e
    obtain ⟨t', e2⟩ := ends_cons (ws := ws') e
    rw [late_nil] at h ⊢
    intro q hq
    have := h q (mem_ends.mpr ⟨(mem_ends.mp hq).1, endB_mono s (mem_ends.mp hq).2⟩)
    rw [e1] at this
    rw [e2]
    exact this
theorem late_all : (lateL (badL M N c m)).isEmpty = (badL M N c m).all fun q => decide (q.length = ((badL M N c m).headD []).length) := by
  rw [Bool.eq_iff_iff, List.isEmpty_iff, late_nil, List.all_eq_true]
  cases e : badL M N c m with
  | nil => simp
  | cons b bs =>
    have hd := bad_head e
    rw [e] at hd
    constructor
    · intro h q hq
      have h1 := h q hq
      have h2 := hd q hq
      refine decide_eq_true (show q.length = b.length from ?_)
      have h1 : ¬ b.length < q.length := h1
      omega
    · intro h q hq
      have h1 : q.length = b.length := of_decide_eq_true (h q hq)
      show ¬ b.length < q.length
      omega
/-! ### first failures -/
theorem run_take : ∀ (q : List Nat) (s i : Nat), runM M s (q.take i) = (runM M s q).take i
  | [], s, i => by rw [List.take_nil]; unfold runM; rw [List.take_nil]
  | k :: q, s, 0 => rfl
  | k :: q, s, i + 1 => by
    rw [List.take_succ_cons]
    unfold runM
    rw [run_take, List.take_succ_cons]
theorem ff_spec : ∀ (as bs : List Nat) (i : Nat), as.length = bs.length → (ffL i as bs = none ∧ as = bs) ∨ ∃ k, ffL i as bs = some (i + k) ∧ k < as.length ∧ ∀ j, as.take j = bs.take j ↔ j ≤ k
  | [], [], i, _ => .inl ⟨by unfold ffL; rfl, rfl⟩
  | [], b :: bs, i, h => by cases h
  | a :: as, [], i, h => by cases h
  | a :: as, b :: bs, i, h => by
    unfold ffL
    by_cases e : a = b
    · rw [if_pos e, e]
      rcases ff_spec as bs (i + 1) (Nat.succ.inj h) with ⟨h1, h2⟩ | ⟨k, h1, h2, h3⟩
      · exact .inl ⟨h1, by rw [h2]⟩
      · refine .inr ⟨k + 1, by rw [h1]; congr 1; omega, Nat.succ_lt_succ h2, fun j => ?_⟩
        cases j with
        | zero => exact ⟨fun _ => Nat.zero_le _, fun _ => rfl⟩
        | succ j =>
          rw [List.take_succ_cons, List.take_succ_cons, List.cons.injEq, h3 j]
          omega
    · rw [if_neg e]
      refine .inr ⟨0, rfl, Nat.succ_pos _, fun j => ?_⟩
      cases j with
      | zero => exact ⟨fun _ => Nat.zero_le _, fun _ => rfl⟩
      | succ j =>
        rw [List.take_succ_cons, List.take_succ_cons, List.cons.injEq]
        constructor
        · intro h; exact absurd h.1 e
        · intro h; omega
theorem ffO_spec (q : List Nat) : (ffO M N q = none ∧ failsB M N q = false) ∨ ∃ k, ffO M N q = some k ∧ k < q.length ∧ failsB M N q = true ∧ ∀ j, failsB M N (q.take j) = decide (k < j) := by
  rcases ff_spec (runM M 0 q) (runM N 0 q) 0 (by rw [runM_len, runM_len]) with ⟨h1, h2⟩ | ⟨k, h1, h2, h3⟩
  · refine .inl ⟨h1, ?_⟩
    unfold failsB
    rw [decide_eq_true h2]
    rfl
  · have hf : ∀ j, failsB M N (q.take j) = decide (k < j) := fun j => by
      unfold failsB
      rw [run_take, run_take]
      by_cases z : j ≤ k
      · rw [decide_eq_true ((h3 j).mpr z), decide_eq_false (by omega)]
        rfl
      · rw [decide_eq_false (fun e => z ((h3 j).mp e)), decide_eq_true (by omega)]
        rfl
    rw [runM_len] at h2
    refine .inr ⟨k, by unfold ffO; rw [h1, Nat.zero_add], h2, ?_, hf⟩
    have := hf q.length
    rw [List.take_length, decide_eq_true h2] at this
    exact this
theorem tail_end {k : Nat} (hk : k < q.length) (hf : ∀ j, failsB M N (q.take j) = decide (k < j)) : endB M N [.tail] q = decide (k = q.length - 1) := by
  rw [Bool.eq_iff_iff, endB_iff, decide_eq_true_iff]
  constructor
  · intro h
    have := h .tail List.mem_cons_self (q.take (q.length - 1)) (List.mem_map.mpr ⟨_, List.mem_range.mpr (by omega), rfl⟩) (by rw [List.length_take]; omega)
    rw [hf] at this
    have := of_decide_eq_false this
    omega
  · intro h w hw x hx _
    rw [List.mem_singleton.mp hw] at hx
    obtain ⟨i, hi, rfl⟩ := List.mem_map.mp hx
    have := List.mem_range.mp hi
    rw [hf]
    exact decide_eq_false (by omega)
theorem one_end : endB M N [.one] q = !((List.range q.length).any fun i => failsB M N (q.take i ++ q.drop (i + 1))) := by
  rw [Bool.eq_iff_iff, endB_iff, Bool.not_eq_true', List.any_eq_false]
  constructor
  · intro h i hi
    have hi' := List.mem_range.mp hi
    have := h .one List.mem_cons_self (q.take i ++ q.drop (i + 1)) (List.mem_map.mpr ⟨_, hi, rfl⟩) (by rw [List.length_append, List.length_take, List.length_drop]; omega)
    rw [this]
    exact Bool.false_ne_true
  · intro h w hw x hx _
    rw [List.mem_singleton.mp hw] at hx
    obtain ⟨i, hi, rfl⟩ := List.mem_map.mp hx
    exact Bool.eq_false_iff.mpr (h i hi)
/-! ### least parts -/
theorem least_in : ∀ (ss acc : List (List Nat)), (∀ s ∈ acc, failsB M N (pick q s) = true ∧ s ∈ setsN q.length) → (∀ s ∈ ss, s ∈ setsN q.length) → ∀ s ∈ leastF M N q ss acc, failsB M N (pick q s) = true ∧ s ∈ setsN q.length
  | [], acc, h, _, s, m => by unfold leastF at m; exact h s m
  | s :: ss, acc, h, h2, r, m => by
    unfold leastF at m
    refine least_in ss _ ?_ (fun x hx => h2 x (List.mem_cons_of_mem _ hx)) r m
    intro x hx
    by_cases e : (newB acc s && failsB M N (pick q s)) = true
    · rw [if_pos e] at hx
      rcases List.mem_append.mp hx with hx | hx
      · exact h x hx
      · rw [List.mem_singleton.mp hx]
        exact ⟨(Bool.and_eq_true_iff.mp e).2, h2 _ List.mem_cons_self⟩
    · rw [if_neg e] at hx
      exact h x hx
theorem least_ne : ∀ (ss acc : List (List Nat)), (acc ≠ [] ∨ ∃ s ∈ ss, failsB M N (pick q s) = true) → leastF M N q ss acc ≠ []
  | [], acc, h => by
    rcases h with h | ⟨s, m, _⟩
    · unfold leastF; exact h
    · cases m
  | s :: ss, acc, h => by
    unfold leastF
    refine least_ne ss _ ?_
    by_cases e : (newB acc s && failsB M N (pick q s)) = true
    · rw [if_pos e]
      exact .inl (by simp)
    · rw [if_neg e]
      rcases h with h | ⟨r, m, f⟩
      · exact .inl h
      · rcases List.mem_cons.mp m with rfl | m
        · cases acc with
          | nil => exact absurd (show (newB [] r && failsB M N (pick q r)) = true by rw [f]; rfl) e
          | cons a as => exact .inl (by simp)
        · exact .inr ⟨r, m, f⟩
theorem pick_all : pick q (List.range q.length) = q := by
  unfold pick
  refine List.ext_getElem (by rw [List.length_map, List.length_range]) fun i h1 h2 => ?_
  rw [List.getElem_map, List.getElem_range, List.getD_eq_getElem?_getD, List.getElem?_eq_getElem h2]
  rfl
theorem leastL_in {s : List Nat} (h : s ∈ leastL M N q) : failsB M N (pick q s) = true ∧ s ∈ setsN q.length := least_in _ [] (fun _ m => nomatch m) (fun _ m => m) s h
theorem leastL_ne (h1 : 1 ≤ q.length) (h5 : q.length ≤ 5) (hf : failsB M N q = true) : leastL M N q ≠ [] := least_ne _ _ (.inr ⟨_, sets_all _ h1 h5, by rw [pick_all]; exact hf⟩)
/-! ### cut down -/
theorem cut_spec {P : List Nat → Prop} (hP : ∀ a b, P a → b ∈ shL ws a → P b) : ∀ (k : Nat) (q : List Nat), q.length < k → P q → failsB M N q = true → ∃ t p l, cutF M N ws k q = q :: t ∧ cutF M N ws k q = p ++ [l] ∧ (∀ z ∈ (q :: t).zip t, z.2.length < z.1.length ∧ z.2 ∈ shL ws z.1 ∧ P z.1) ∧ P l ∧ failsB M N l = true ∧ endB M N ws l = true ∧ (q :: t).length ≤ k
  | 0, q, h, _, _ => by omega
  | k + 1, q, h, hq, hf => by
    unfold cutF
    cases e : (shL ws q).filter (failsB M N) with
    | nil =>
      refine ⟨[], [], q, rfl, rfl, fun z hz => (nomatch hz), hq, hf, ?_, by show 1 ≤ k + 1; omega⟩
      unfold endB
      rw [Bool.not_eq_true', List.any_eq_false]
      exact List.filter_eq_nil_iff.mp e
    | cons r rs =>
      have hr : r ∈ (shL ws q).filter (failsB M N) := by rw [e]; exact List.mem_cons_self
      obtain ⟨hr, hrf⟩ := List.mem_filter.mp hr
      have hl := sh_lt hr
      obtain ⟨t, p, l, h1, h2, h3, h4, h5, h6, h7⟩ := cut_spec hP k r (by omega) (hP q r hq hr) hrf
      refine ⟨r :: t, q :: p, l, by show q :: cutF M N ws k r = _; rw [h1], by show q :: cutF M N ws k r = _; rw [h2]; rfl, ?_, h4, h5, h6, by rw [List.length_cons]; omega⟩
      intro z hz
      rw [List.zip_cons_cons] at hz
      rcases List.mem_cons.mp hz with rfl | hz
      · exact ⟨hl, hr, hq⟩
      · exact h3 z hz
theorem sh_tail {b : List Nat} (h : b ∈ shL [.tail] q) : ∃ i, b = q.take i := by
  obtain ⟨⟨w, hw, hb⟩, _⟩ := mem_sh.mp h
  rw [List.mem_singleton.mp hw] at hb
  obtain ⟨i, _, e⟩ := List.mem_map.mp hb
  exact ⟨i, e.symm⟩
theorem tail_cut {k i : Nat} {l : List Nat} (hk : k < q.length) (hf : ∀ j, failsB M N (q.take j) = decide (k < j)) (hl : l = q.take i) (h1 : failsB M N l = true) (h2 : endB M N [.tail] l = true) : l = q.take (k + 1) := by
  have hi : k < i := by
    rw [hl, hf] at h1
    exact of_decide_eq_true h1
  have hn : l.length = min i q.length := by rw [hl, List.length_take]
  by_cases z : k + 1 < l.length
  · have hx : l.take (k + 1) = q.take (k + 1) := by
      rw [hl, List.take_take, Nat.min_eq_left (by omega)]
    have := endB_iff.mp h2 .tail List.mem_cons_self (l.take (k + 1)) (List.mem_map.mpr ⟨_, List.mem_range.mpr z, rfl⟩) (by rw [List.length_take]; omega)
    rw [hx, hf] at this
    have := of_decide_eq_false this
    omega
  · have : l.length = k + 1 := by omega
    rw [← List.take_length (l := l), this, hl, List.take_take, Nat.min_eq_left (by omega)]
end
end K29

/-! K29: the law's first statements. -/
namespace K29
open PySem PySem.Spec L2 PyD
def allW : List Wy := [.one, .half, .tail]
def rowsD (L : List (List Nat)) : D := .lst (L.map rowD)
section
variable {M N : Mc} {n n' c m : Nat} {ws us : List Wy} {q x : List Nat} {ρ : List Sl} {S : List D} {ns : List Int}
theorem lc_yes {tg : Tg} {c : Ef Bool} {e : Ef D} {ρ ρ1 : List Sl} {x y : D} {xs ys S S1 S2 S3 : List D} (hb : bindT tg x ρ = some ρ1) (hc : c ρ1 S = .ok true S1) (he : e ρ1 S1 = .ok y S2) (hr : lcLoop tg c e ρ xs S2 = .ok ys S3) : lcLoop tg c e ρ (x :: xs) S = .ok (y :: ys) S3 := by
  unfold lcLoop
  rw [hb]
  dsimp only
  rw [hc]
  dsimp only
  rw [he]
  dsimp only
  rw [hr]
theorem lc_no {tg : Tg} {c : Ef Bool} {e : Ef D} {ρ ρ1 : List Sl} {x : D} {xs ys S S1 S3 : List D} (hb : bindT tg x ρ = some ρ1) (hc : c ρ1 S = .ok false S1) (hr : lcLoop tg c e ρ xs S1 = .ok ys S3) : lcLoop tg c e ρ (x :: xs) S = .ok ys S3 := by
  unfold lcLoop
  rw [hb]
  dsimp only
  rw [hc]
  exact hr
theorem ways_lc (hz : ns.length ≤ 63) {rows mo ma : D} {n c m : Nat} : ∀ (vs : List Wy) (j : Int), ∃ (us : List Wy) (j' : Int), us.length ≤ vs.length ∧ lcLoop (.one 20) (fBl (fTwo opEq (fCall 2 c_u_law_take (fCons (fVar 1) (fCons (fLit (.int 2)) fNil))) (fLit (.int 0)))) (fVar 20) [.val (scr ns), .val (.loc 0), .val (natD n), .val (natD c), .val (natD m), .val rows, .val mo, .val ma, .val (waysD allW), .emp, .emp, .emp, .emp, .emp, .emp, .emp, .emp, .emp, .emp, .emp, .emp, .emp, .emp, .emp, .emp, .emp] (vs.map wyD) (Sj ns j []) = .ok (us.map wyD) (Sj ns j' [])
  | [], j => ⟨[], j, Nat.le_refl _, rfl⟩
  | w :: vs, j => by
    obtain ⟨t, ht, e1⟩ := takeC (ns := ns) (j := j) (m := 2) (i := 1) (fb := fLit (.int 2)) (ρ := [.val (scr ns), .val (.loc 0), .val (natD n), .val (natD c), .val (natD m), .val rows, .val mo, .val ma, .val (waysD allW), .emp, .emp, .emp, .emp, .emp, .emp, .emp, .emp, .emp, .emp, .emp, .val (wyD w), .emp, .emp, .emp, .emp, .emp]) (T := []) hz (by decide) rfl rfl
    obtain ⟨us, j', hl, h3⟩ := ways_lc (rows := rows) (mo := mo) (ma := ma) (n := n) (c := c) (m := m) hz vs (j + 1)
    have e2 : fBl (fTwo opEq (fCall 2 c_u_law_take (fCons (fVar 1) (fCons (fLit (.int 2)) fNil))) (fLit (.int 0))) [.val (scr ns), .val (.loc 0), .val (natD n), .val (natD c), .val (natD m), .val rows, .val mo, .val ma, .val (waysD allW), .emp, .emp, .emp, .emp, .emp, .emp, .emp, .emp, .emp, .emp, .emp, .val (wyD w), .emp, .emp, .emp, .emp, .emp] (Sj ns j []) = .ok (decide (t = 0)) (Sj ns (j + 1) []) := by
      have := (two_ok (op := opEq) (y := natD 0) (fb := fLit (.int 0)) e1 rfl).trans opEq_nat
      unfold fBl
      rw [this]
      rfl
    by_cases z : t = 0
    · refine ⟨w :: us, j', Nat.succ_le_succ hl, ?_⟩
      rw [decide_eq_true z] at e2
      exact lc_yes rfl e2 rfl h3
    · refine ⟨us, j', Nat.le_succ_of_le hl, ?_⟩
      rw [decide_eq_false z] at e2
      exact lc_no rfl e2 h3
/-- the names after the draws -/
def st5 (ns : List Int) (n c m : Nat) (R M N : Mc) (ws : List Wy) (tl : List Sl) : List Sl := .val (scr ns) :: .val (.loc 0) :: .val (natD n) :: .val (natD c) :: .val (natD m) :: .val (rawD R) :: .val (machD M) :: .val (machD N) :: .val (waysD allW) :: .val (waysD ws) :: tl
theorem setup (hz : ns.length ≤ 63) : ∃ n c m M N ws j, Ok n c M ∧ Ok n c N ∧ m ≤ 5 ∧ ws.length ≤ 3 ∧ ∀ g : Es, (sSeq b_law_0 (sSeq b_law_1 (sSeq b_law_2 (sSeq b_law_3 (sSeq b_law_4 (sSeq b_law_5 g)))))) (startR 26 [scr ns]) [] = g (st5 ns n c m M M N ws (List.replicate 16 .emp)) (Sj ns j []) := by
  have e0 : b_law_0 (startR 26 [scr ns]) [] = .nx [.val (scr ns), .val (.loc 0), .emp, .emp, .emp, .emp, .emp, .emp, .emp, .emp, .emp, .emp, .emp, .emp, .emp, .emp, .emp, .emp, .emp, .emp, .emp, .emp, .emp, .emp, .emp, .emp] (Sj ns 0 []) := rfl
  obtain ⟨t1, g1, d1⟩ := takeC (ns := ns) (j := 0) (m := 4) (i := 1) (fb := fLit (.int 4)) (ρ := [.val (scr ns), .val (.loc 0), .emp, .emp, .emp, .emp, .emp, .emp, .emp, .emp, .emp, .emp, .emp, .emp, .emp, .emp, .emp, .emp, .emp, .emp, .emp, .emp, .emp, .emp, .emp, .emp]) (T := []) hz (by decide) rfl rfl
  obtain ⟨t2, g2, d2⟩ := takeC (ns := ns) (j := 0 + 1) (m := 2) (i := 1) (fb := fLit (.int 2)) (ρ := [.val (scr ns), .val (.loc 0), .emp, .emp, .emp, .emp, .emp, .emp, .emp, .emp, .emp, .emp, .emp, .emp, .emp, .emp, .emp, .emp, .emp, .emp, .emp, .emp, .emp, .emp, .emp, .emp]) (T := []) hz (by decide) rfl rfl
  obtain ⟨t3, g3, d3⟩ := takeC (ns := ns) (j := 0 + 1 + 1) (m := 4) (i := 1) (fb := fLit (.int 4)) (ρ := [.val (scr ns), .val (.loc 0), .emp, .emp, .emp, .emp, .emp, .emp, .emp, .emp, .emp, .emp, .emp, .emp, .emp, .emp, .emp, .emp, .emp, .emp, .emp, .emp, .emp, .emp, .emp, .emp]) (T := []) hz (by decide) rfl rfl
  have n1 : ∃ n, n = 1 + t1 := ⟨_, rfl⟩
  have n2 : ∃ c, c = 1 + t2 := ⟨_, rfl⟩
  have n3 : ∃ m, m = 2 + t3 := ⟨_, rfl⟩
  obtain ⟨n, hn⟩ := n1
  obtain ⟨c, hc⟩ := n2
  obtain ⟨m, hm⟩ := n3
  have e1 : b_law_1 [.val (scr ns), .val (.loc 0), .emp, .emp, .emp, .emp, .emp, .emp, .emp, .emp, .emp, .emp, .emp, .emp, .emp, .emp, .emp, .emp, .emp, .emp, .emp, .emp, .emp, .emp, .emp, .emp] (Sj ns 0 []) = .nx [.val (scr ns), .val (.loc 0), .val (natD n), .val (natD c), .val (natD m), .emp, .emp, .emp, .emp, .emp, .emp, .emp, .emp, .emp, .emp, .emp, .emp, .emp, .emp, .emp, .emp, .emp, .emp, .emp, .emp, .emp] (Sj ns (0 + 1 + 1 + 1) []) := by
    unfold b_law_1 sPar3 sE
    rw [cons_ok ((two_ok (op := opAdd) (x := natD 1) (fa := fLit (.int 1)) rfl d1).trans add_nat) (cons_ok ((two_ok (op := opAdd) (x := natD 1) (fa := fLit (.int 1)) rfl d2).trans add_nat) (cons_ok ((two_ok (op := opAdd) (x := natD 2) (fa := fLit (.int 2)) rfl d3).trans add_nat) nil_ok))]
    rw [hn, hc, hm]
    rfl
  obtain ⟨R, j1, hR, d4⟩ := drawn_ok (ns := ns) (j := 0 + 1 + 1 + 1) (n := n) (c := c) hz ⟨by omega, by omega⟩ ⟨by omega, by omega⟩
  have e2 : b_law_2 [.val (scr ns), .val (.loc 0), .val (natD n), .val (natD c), .val (natD m), .emp, .emp, .emp, .emp, .emp, .emp, .emp, .emp, .emp, .emp, .emp, .emp, .emp, .emp, .emp, .emp, .emp, .emp, .emp, .emp, .emp] (Sj ns (0 + 1 + 1 + 1) []) = .nx [.val (scr ns), .val (.loc 0), .val (natD n), .val (natD c), .val (natD m), .val (rawD R), .emp, .emp, .emp, .emp, .emp, .emp, .emp, .emp, .emp, .emp, .emp, .emp, .emp, .emp, .emp, .emp, .emp, .emp, .emp, .emp] (Sj ns j1 []) := asg_ok ((call3 (x := .loc 0) (y := natD n) (z := natD c) (S1 := Sj ns (0 + 1 + 1 + 1) []) (S2 := Sj ns (0 + 1 + 1 + 1) []) (S3 := Sj ns (0 + 1 + 1 + 1) []) rfl rfl rfl).trans d4)
  obtain ⟨N, j2, hN, d5⟩ := bent_ok (ns := ns) (j := j1) hz ⟨by omega, by omega⟩ ⟨by omega, by omega⟩ hR
  have hM : Ok n c R := hR.ok ⟨by omega, by omega⟩ ⟨by omega, by omega⟩
  have hN : Ok n c N := hN.ok ⟨by omega, by omega⟩ ⟨by omega, by omega⟩
  have e3 : b_law_3 [.val (scr ns), .val (.loc 0), .val (natD n), .val (natD c), .val (natD m), .val (rawD R), .emp, .emp, .emp, .emp, .emp, .emp, .emp, .emp, .emp, .emp, .emp, .emp, .emp, .emp, .emp, .emp, .emp, .emp, .emp, .emp] (Sj ns j1 []) = .nx [.val (scr ns), .val (.loc 0), .val (natD n), .val (natD c), .val (natD m), .val (rawD R), .val (machD R), .val (machD N), .emp, .emp, .emp, .emp, .emp, .emp, .emp, .emp, .emp, .emp, .emp, .emp, .emp, .emp, .emp, .emp, .emp, .emp] (Sj ns j2 []) := unp_ok (tup_ok (cons_ok (toM (x := rawD R) rfl (machine_ok hM gd_Sj)) (cons_ok ((make1 (x := rawD N) (S1 := Sj ns j2 []) ((call2 (x := .loc 0) (y := rawD R) (S1 := Sj ns j1 []) (S2 := Sj ns j1 []) rfl rfl).trans d5)).trans (machine_ok hN gd_Sj)) nil_ok)) (by show 2 ≤ LIM; decide)) rfl
  have e4 : b_law_4 [.val (scr ns), .val (.loc 0), .val (natD n), .val (natD c), .val (natD m), .val (rawD R), .val (machD R), .val (machD N), .emp, .emp, .emp, .emp, .emp, .emp, .emp, .emp, .emp, .emp, .emp, .emp, .emp, .emp, .emp, .emp, .emp, .emp] (Sj ns j2 []) = .nx [.val (scr ns), .val (.loc 0), .val (natD n), .val (natD c), .val (natD m), .val (rawD R), .val (machD R), .val (machD N), .val (waysD allW), .emp, .emp, .emp, .emp, .emp, .emp, .emp, .emp, .emp, .emp, .emp, .emp, .emp, .emp, .emp, .emp, .emp] (Sj ns j2 []) := rfl
  obtain ⟨ws, j3, hw, d6⟩ := ways_lc (rows := rawD R) (mo := machD R) (ma := machD N) (n := n) (c := c) (m := m) hz allW j2
  have e5 : b_law_5 [.val (scr ns), .val (.loc 0), .val (natD n), .val (natD c), .val (natD m), .val (rawD R), .val (machD R), .val (machD N), .val (waysD allW), .emp, .emp, .emp, .emp, .emp, .emp, .emp, .emp, .emp, .emp, .emp, .emp, .emp, .emp, .emp, .emp, .emp] (Sj ns j2 []) = .nx (st5 ns n c m R R N ws (List.replicate 16 .emp)) (Sj ns j3 []) := asg_ok (fLc_ok (items_ok rfl) d6 (by rw [List.length_map]; exact Nat.le_trans hw (show 3 ≤ LIM by decide)))
  exact ⟨n, c, m, R, N, ws, j3, hM, hN, by omega, hw, fun g => (seq_nx e0).trans ((seq_nx e1).trans ((seq_nx e2).trans ((seq_nx e3).trans ((seq_nx e4).trans (seq_nx e5)))))⟩
end
end K29

/-! K29: the law's statements about ends and judges. -/
namespace K29
open PySem PySem.Spec L2 PyD
theorem refl_EndsShort : ∀ fs S d S', c_EndsShort_eq [.ins 0 fs, .ins 0 fs] S = .ok d S' → d = .bl true ∧ S' = S := by
  intro fs S d S' h
  cases fs with
  | nil => simp [c_EndsShort_eq, b_EndsShort_eq, b_EndsShort_eq_0, isi_EndsShort, a_runs, runFn, endOf, dropD, startR, sSeq, sE, sRet, sRetN, sDrop, sIf, sAsg, sOwn, sUnp, sPar, sRetO, sSkip, sBad, Out.bind, fTwo, fOne, fVar, fLook, fLit, fCall, fMeth, fFld, fCons, fNil, fTup, fLst, fIfV, fNotV, fAndV, fOrV, fAndT, fOrT, fNotT, fBl, fTru, fChain, opIsi, kdOf, okB, okD, dr_non, dr_bl, dr_int, dr_str, dr_tup, dr_lst, dr_ins, dr_dct, dr_cls, bindT, setMany, truD, fYes, adC, noC, LIM] at h
  | cons x xs =>
    cases e : eqP (dr S x) (dr S x) with
    | none => simp [c_EndsShort_eq, b_EndsShort_eq, b_EndsShort_eq_0, isi_EndsShort, a_runs, opEq, e, runFn, endOf, dropD, startR, sSeq, sE, sRet, sRetN, sDrop, sIf, sAsg, sOwn, sUnp, sPar, sRetO, sSkip, sBad, Out.bind, fTwo, fOne, fVar, fLook, fLit, fCall, fMeth, fFld, fCons, fNil, fTup, fLst, fIfV, fNotV, fAndV, fOrV, fAndT, fOrT, fNotT, fBl, fTru, fChain, opIsi, kdOf, okB, okD, dr_non, dr_bl, dr_int, dr_str, dr_tup, dr_lst, dr_ins, dr_dct, dr_cls, bindT, setMany, truD, fYes, adC, noC, LIM] at h
    | some b =>
      have := eqP_self e
      subst this
      have h2 : c_EndsShort_eq [.ins 0 (x :: xs), .ins 0 (x :: xs)] S = .ok (.bl true) S := by
        refine fn_rt rfl ?_
        simp [b_EndsShort_eq, b_EndsShort_eq_0, isi_EndsShort, a_runs, opEq, e, runFn, endOf, dropD, startR, sSeq, sE, sRet, sRetN, sDrop, sIf, sAsg, sOwn, sUnp, sPar, sRetO, sSkip, sBad, Out.bind, fTwo, fOne, fVar, fLook, fLit, fCall, fMeth, fFld, fCons, fNil, fTup, fLst, fIfV, fNotV, fAndV, fOrV, fAndT, fOrT, fNotT, fBl, fTru, fChain, opIsi, kdOf, okB, okD, dr_non, dr_bl, dr_int, dr_str, dr_tup, dr_lst, dr_ins, dr_dct, dr_cls, bindT, setMany, truD, fYes, adC, noC, LIM]
      rw [h2] at h
      cases h
      exact ⟨rfl, rfl⟩
section
variable {n n' c m : Nat} {M N : Mc} {ws us : List Wy} {q x : List Nat} {ρ : List Sl} {S : List D} {s0 R tl sg : D} {res : Sum (List Nat) Nat}
theorem to4 {cl : Cl} {fa fb fc fd : Ef D} {x y z u : D} {o : Out D} (h : fa ρ S = .ok x S) (h2 : fb ρ S = .ok y S) (h4 : fc ρ S = .ok z S) (h5 : fd ρ S = .ok u S) (h3 : cl [x, y, z, u] S = o) : fCall 4 cl (fCons fa (fCons fb (fCons fc (fCons fd fNil)))) ρ S = o := by
  unfold fCall fCons fNil
  rw [h]
  dsimp only [Out.bind]
  rw [h2]
  dsimp only
  rw [h4]
  dsimp only
  rw [h5]
  exact h3
theorem orV {a b : Ef D} {x y : Bool} (h : a ρ S = .ok (.bl x) S) (h2 : b ρ S = .ok (.bl y) S) : fOrV a b ρ S = .ok (.bl (x || y)) S := by
  unfold fOrV
  rw [h]
  cases x with
  | true => rfl
  | false => exact h2
theorem opNe_bl {a b : Bool} : opNe (.bl a) (.bl b) S = .ok (.bl (a != b)) S := by cases a <;> cases b <;> rfl
theorem cutG_lo {xs : List D} {k : Nat} : cutD xs none (some (k : Int)) = xs.take k := by
  unfold cutD
  rw [HT.sIx_none, HT.sIx_nat, List.drop_zero, Nat.sub_zero]
  rw [List.take_eq_take_iff]
  omega
theorem cutG_hi {xs : List D} {k : Nat} (h : k ≤ xs.length) : cutD xs (some (k : Int)) none = xs.drop k := by
  unfold cutD
  rw [HT.sIx_none, HT.sIx_nat]
  rw [Nat.min_eq_left h, List.take_of_length_le (by rw [List.length_drop]; exact Nat.le_refl _)]
theorem sub_one {k : Nat} (h : 1 ≤ k) : opSub (natD k) (.int 1) S = .ok (natD (k - 1)) S := by
  show Out.ok (D.int ((k : Int) - 1)) S = .ok (D.int ((k - 1 : Nat) : Int)) S
  rw [Int.ofNat_sub h]
  rfl
theorem rev_ways : opRev (waysD ws) S = .ok (waysD ws.reverse) S := by
  show Out.ok (D.lst (ws.map wyD).reverse) S = _
  rw [← List.map_reverse]
  rfl
theorem add_ways (hw : ws.length ≤ 3) : opAdd (waysD ws) (waysD ws) S = .ok (waysD (ws ++ ws)) S := by
  show (if (ws.map wyD).length + (ws.map wyD).length ≤ LIM then Out.ok (D.lst (ws.map wyD ++ ws.map wyD)) S else .bad) = _
  rw [if_pos (by rw [List.length_map]; exact Nat.le_trans (show ws.length + ws.length ≤ 6 by omega) (by decide)), ← List.map_append]
  rfl
theorem short_b {x : D} : c_EndsShort_bool [x] S = .ok (.bl true) S := fn_rt rfl rfl
theorem long_b {x : D} : c_EndsLong_bool [x] S = .ok (.bl false) S := fn_rt rfl rfl
theorem alike_b {x : D} : c_Alike_bool [x] S = .ok (.bl true) S := fn_rt rfl rfl
theorem differs_b {x : D} : c_Differs_bool [x] S = .ok (.bl false) S := fn_rt rfl rfl
theorem shortest_b {x : D} : c_Shortest_bool [x] S = .ok (.bl true) S := fn_rt rfl rfl
theorem longer_b {x : D} : c_Longer_bool [x] S = .ok (.bl false) S := fn_rt rfl rfl
theorem tru_ins {cn : Nat} {fs : List D} {cl : Cl} {b : Bool} (h : tm cn = some cl) (h2 : cl [.ins cn fs] S = .ok (.bl b) S) : truD tm (.ins cn fs) S = .ok b S := by
  show (match tm cn with
    | some cl => (cl [.ins cn fs] S).bind fun d S1 => match d with
      | .bl b => Out.ok b S1
      | _ => .bad
    | none => .bad) = _
  rw [h]
  dsimp only
  rw [h2]
  rfl
theorem tru_ways : truD tm (waysA M N c m us) S = .ok (lateL (endsL M N c m us)).isEmpty S := by
  unfold waysA
  cases e : lateL (endsL M N c m us) with
  | nil => exact tru_ins rfl short_b
  | cons q qs => exact tru_ins rfl long_b
def papB : Sum (List Nat) Nat → Bool
  | .inl _ => false
  | .inr _ => true
theorem tru_paper : truD tm (paperD res) S = .ok (papB res) S := by
  cases res with
  | inl run => exact tru_ins rfl differs_b
  | inr k => exact tru_ins rfl alike_b
theorem tru_to {fa : Ef D} {x : D} {b : Bool} (h : fa ρ S = .ok x S) (h2 : truD tm x S = .ok b S) : fTru tm fa ρ S = .ok b S := by
  unfold fTru
  rw [h]
  exact h2
theorem bool_to {x : D} {b : Bool} (h : truD tm x S = .ok b S) : opBool tm x S = .ok (.bl b) S := by
  unfold opBool
  rw [h]
  rfl
theorem ne_short {k : Nat} : opNeM em 1 (.ins 0 [natD k]) (.ins 0 [natD k]) S = .ok (.bl false) S := by
  have h0 : b_EndsShort_eq_0 [.val (.ins 0 [natD k]), .val (.ins 0 [natD k])] S = .rt (.bl true) S := ret_ok (andV_t (S1 := S) rfl (two_to (x := natD k) (y := natD k) (fa := fFld a_runs (fLook 0)) (fb := fFld a_runs (fLook 1)) rfl rfl (opEq_nat.trans (by rw [decide_eq_true rfl]))))
  have h : c_EndsShort_eq [.ins 0 [natD k], .ins 0 [natD k]] S = .ok (.bl true) S := fn_rt (body := b_EndsShort_eq) rfl h0
  show ((calmly (c_EndsShort_eq [.ins 0 [natD k], .ins 0 [natD k]] S)).bind toB).bind (fun b S1 => Out.ok (D.bl (!b)) S1) = _
  rw [h]
  rfl
/-- the names after the judge and the ends -/
def st8 (s0 rows : D) (n c m : Nat) (M N : Mc) (ws : List Wy) (res : Sum (List Nat) Nat) (tl : List Sl) : List Sl := .val s0 :: .val (.loc 0) :: .val (natD n) :: .val (natD c) :: .val (natD m) :: .val rows :: .val (machD M) :: .val (machD N) :: .val (waysD allW) :: .val (waysD ws) :: .val (paperD res) :: .val (rowsD (badL M N c m)) :: .val (rowsD (endsL M N c m ws)) :: .val (rowsD (endsL M N c m allW)) :: tl
theorem ends_call (h : Ok n c M) (h' : Ok n c N) (hS : Gd S) (hm : m ≤ 5) (hw : ws.length ≤ 3) (hu : us.length ≤ 1000) {f : Ef D} {tl : List Sl} (hf : f (st8 s0 R n c m M N ws res tl) S = .ok (waysD us) S) : fCall 4 c_ends_of (fCons (fVar 6) (fCons (fVar 7) (fCons (fVar 4) (fCons f fNil)))) (st8 s0 R n c m M N ws res tl) S = .ok (rowsD (endsL M N c m us)) S :=
  to4 (x := machD M) (y := machD N) (z := natD m) (u := waysD us) rfl rfl rfl hf (ends_ok h h' hm hu)
theorem ways_call (h : Ok n c M) (h' : Ok n c N) (hS : Gd S) (hm : m ≤ 5) (hw : ws.length ≤ 3) (hu : us.length ≤ 1000) {f : Ef D} {tl : List Sl} (hf : f (st8 s0 R n c m M N ws res tl) S = .ok (waysD us) S) : fCall 4 c_judge_ways (fCons (fVar 6) (fCons (fVar 7) (fCons (fVar 4) (fCons f fNil)))) (st8 s0 R n c m M N ws res tl) S = .ok (waysA M N c m us) S :=
  to4 (x := machD M) (y := machD N) (z := natD m) (u := waysD us) rfl rfl rfl hf (judge_ways_ok h h' hS hm hu)
theorem fill {ns : List Int} {R : Mc} (h : Ok n c M) (h' : Ok n c N) (hS : Gd S) (hm : m ≤ 5) (hw : ws.length ≤ 3) (e : bfs M N c 300 [((0, 0), [])] [(0, 0)] = some res) (g : Es) : (sSeq b_law_6 (sSeq b_law_7 (sSeq b_law_8 g))) (st5 ns n c m R M N ws (List.replicate 16 .emp)) S = g (st8 (scr ns) (rawD R) n c m M N ws res [.emp, .emp, .emp, .emp, .emp, .emp, .emp, .emp, .emp, .emp, .emp, .emp]) S := by
  have e6 : b_law_6 (st5 ns n c m R M N ws (List.replicate 16 .emp)) S = .nx (st5 ns n c m R M N ws (.val (paperD res) :: List.replicate 15 .emp)) S := asg_ok (to2 (x := machD M) (y := machD N) rfl rfl (judge_ok h h' hS e))
  have e7 : b_law_7 (st5 ns n c m R M N ws (.val (paperD res) :: List.replicate 15 .emp)) S = .nx (st5 ns n c m R M N ws (.val (paperD res) :: .val (rowsD (badL M N c m)) :: List.replicate 14 .emp)) S := asg_ok (to3 (x := machD M) (y := machD N) (z := natD m) rfl rfl rfl (failing_ok h h' hm))
  have e8 : b_law_8 (st5 ns n c m R M N ws (.val (paperD res) :: .val (rowsD (badL M N c m)) :: List.replicate 14 .emp)) S = .nx (st8 (scr ns) (rawD R) n c m M N ws res [.emp, .emp, .emp, .emp, .emp, .emp, .emp, .emp, .emp, .emp, .emp, .emp]) S := unp_ok (tup_ok (cons_ok (to4 (x := machD M) (y := machD N) (z := natD m) (u := waysD ws) rfl rfl rfl rfl (ends_ok h h' hm (by omega))) (cons_ok (to4 (x := machD M) (y := machD N) (z := natD m) (u := waysD allW) rfl rfl rfl rfl (ends_ok h h' hm (by decide))) nil_ok)) (by show 2 ≤ LIM; decide)) rfl
  exact (seq_nx e6).trans ((seq_nx e7).trans (seq_nx e8))
theorem ends_le (h : Ok n c M) (hm : m ≤ 5) : (endsL M N c m us).length ≤ LIM := Nat.le_trans (List.length_filter_le _ _) (bad_lim h.c2 hm)
theorem any_no {A C : List (List Nat)} (h : ∀ x ∈ A, x ∈ C) : (A.any fun r => !C.contains r) = false := by
  rw [List.any_eq_false]
  intro x hx
  rw [List.contains_iff_mem.mpr (h x hx)]
  exact Bool.false_ne_true
theorem all_wy (w : Wy) : w ∈ allW := by cases w <;> decide
theorem i9 (h : Ok n c M) (h' : Ok n c N) (hS : Gd S) (hm : m ≤ 5) (hw : ws.length ≤ 3) : b_law_9 (st8 s0 R n c m M N ws res [.emp, .emp, .emp, .emp, .emp, .emp, .emp, .emp, .emp, .emp, .emp, .emp]) S = .nx (st8 s0 R n c m M N ws res [.emp, .emp, .emp, .emp, .emp, .emp, .emp, .emp, .emp, .emp, .emp, .emp]) S := by
  have a1 : fTru tm (fOne (opAnyT tm) (fLc (.one 16) [16] (fItemsG (fLook 13)) fYes (fTwo opNotIn (fLook 16) (fLook 12)))) (st8 s0 R n c m M N ws res [.emp, .emp, .emp, .emp, .emp, .emp, .emp, .emp, .emp, .emp, .emp, .emp]) S = .ok false S := tru_bl ((any_lc (enc := rowD) (xs := endsL M N c m allW) (p := fun r => !(endsL M N c m ws).contains r) (ends_le h hm) (items_ok rfl) fun r _ => ⟨(st8 s0 R n c m M N ws res [.emp, .emp, .val (rowD r), .emp, .emp, .emp, .emp, .emp, .emp, .emp, .emp, .emp]), rfl, two_to rfl rfl opNotIn_rows⟩).trans (by rw [any_no fun x hx => mem_ends.mpr ⟨(mem_ends.mp hx).1, endB_mono (fun w _ => all_wy w) (mem_ends.mp hx).2⟩]))
  have a2 : fTru tm (fOne (opAnyT tm) (fLc (.one 16) [16] (fItemsG (fLook 12)) fYes (fTwo opNotIn (fLook 16) (fLook 11)))) (st8 s0 R n c m M N ws res [.emp, .emp, .emp, .emp, .emp, .emp, .emp, .emp, .emp, .emp, .emp, .emp]) S = .ok false S := tru_bl ((any_lc (enc := rowD) (xs := endsL M N c m ws) (p := fun r => !(badL M N c m).contains r) (ends_le h hm) (items_ok rfl) fun r _ => ⟨(st8 s0 R n c m M N ws res [.emp, .emp, .val (rowD r), .emp, .emp, .emp, .emp, .emp, .emp, .emp, .emp, .emp]), rfl, two_to rfl rfl opNotIn_rows⟩).trans (by rw [any_no fun x hx => (mem_ends.mp hx).1]))
  have a3 : fBl (fTwo opNe (fTwo opEq (fLook 11) (fLst fNil)) (fTwo opEq (fLook 13) (fLst fNil))) (st8 s0 R n c m M N ws res [.emp, .emp, .emp, .emp, .emp, .emp, .emp, .emp, .emp, .emp, .emp, .emp]) S = .ok (decide (badL M N c m = []) != decide (endsL M N c m allW = [])) S := bl_ok (two_to (two_to rfl rfl (opEq_rows (B := []))) (two_to rfl rfl (opEq_rows (B := []))) opNe_bl)
  have a4 : fBl (fTwo opNe (fLook 11) (fLst fNil)) (st8 s0 R n c m M N ws res [.emp, .emp, .emp, .emp, .emp, .emp, .emp, .emp, .emp, .emp, .emp, .emp]) S = .ok (!decide (badL M N c m = [])) S := bl_ok (two_to rfl rfl (opNe_rows (B := [])))
  unfold b_law_9
  cases e : badL M N c m with
  | nil =>
    rw [ends_nil' e, e, decide_eq_true rfl] at a3
    rw [e, decide_eq_true rfl] at a4
    exact if_f (orT_f a1 (orT_f a2 (orT_f a3 (andT_f a4 fun z => nomatch z))))
  | cons b bs =>
    obtain ⟨t, e1⟩ := ends_cons (ws := allW) e
    have a5 : fBl (fTwo opNe (fTwo opIx (fLook 13) (fLit (.int 0))) (fTwo opIx (fLook 11) (fLit (.int 0)))) (st8 s0 R n c m M N ws res [.emp, .emp, .emp, .emp, .emp, .emp, .emp, .emp, .emp, .emp, .emp, .emp]) S = .ok false S := bl_ok ((two_to (two_to (y := natD 0) rfl rfl (ix_L (k := 0) (d := rowD b) (by rw [e1]; rfl))) (two_to (y := natD 0) rfl rfl (ix_L (k := 0) (d := rowD b) (by rw [e]; rfl))) opNe_row).trans (by rw [decide_eq_true rfl]; rfl))
    rw [e1, e, decide_eq_false (by simp), decide_eq_false (by simp)] at a3
    exact if_f (orT_f a1 (orT_f a2 (orT_f a3 (andT_f a4 fun _ => a5))))
theorem i10 (h : Ok n c M) (h' : Ok n c N) (hS : Gd S) (hm : m ≤ 5) (hw : ws.length ≤ 3) : b_law_10 (st8 s0 R n c m M N ws res [.emp, .emp, .emp, .emp, .emp, .emp, .emp, .emp, .emp, .emp, .emp, .emp]) S = .nx (st8 s0 R n c m M N ws res [.emp, .emp, .emp, .emp, .emp, .emp, .emp, .emp, .emp, .emp, .emp, .emp]) S := by
  have a1 : fBl (fTwo opNe (fCall 4 c_ends_of (fCons (fVar 6) (fCons (fVar 7) (fCons (fVar 4) (fCons (fLst fNil) fNil))))) (fLook 11)) (st8 s0 R n c m M N ws res [.emp, .emp, .emp, .emp, .emp, .emp, .emp, .emp, .emp, .emp, .emp, .emp]) S = .ok false S := bl_ok ((two_to (ends_call (us := []) h h' hS hm hw (by decide) rfl) rfl opNe_rows).trans (by rw [decide_eq_true ends_nil]; rfl))
  have a2 : fOne (opBool tm) (fCall 4 c_judge_ways (fCons (fVar 6) (fCons (fVar 7) (fCons (fVar 4) (fCons (fLst fNil) fNil))))) (st8 s0 R n c m M N ws res [.emp, .emp, .emp, .emp, .emp, .emp, .emp, .emp, .emp, .emp, .emp, .emp]) S = .ok (.bl (lateL (badL M N c m)).isEmpty) S := one_to (ways_call (us := []) h h' hS hm hw (by decide) rfl) (bool_to (tru_ways.trans (by rw [ends_nil])))
  have a3 : fOne (opAllT tm) (fLc (.one 16) [16] (fItemsG (fLook 11)) fYes (fTwo opEq (fOne opLen (fLook 16)) (fOne opLen (fTwo opIx (fLook 11) (fLit (.int 0)))))) (st8 s0 R n c m M N ws res [.emp, .emp, .emp, .emp, .emp, .emp, .emp, .emp, .emp, .emp, .emp, .emp]) S = .ok (.bl ((badL M N c m).all fun q => decide (q.length = ((badL M N c m).headD []).length))) S := all_lc (enc := rowD) (p := fun q => decide (q.length = ((badL M N c m).headD []).length)) (bad_lim h.c2 hm) (items_ok rfl) fun q hq => ⟨(st8 s0 R n c m M N ws res [.emp, .emp, .val (rowD q), .emp, .emp, .emp, .emp, .emp, .emp, .emp, .emp, .emp]), rfl, two_to (one_to rfl len_row) (one_to (two_to (y := natD 0) rfl rfl (ix_L (k := 0) (d := rowD ((badL M N c m).headD [])) (by
    cases e : badL M N c m with
    | nil => rw [e] at hq; cases hq
    | cons b bs => rfl))) len_row) opEq_nat⟩
  exact if_f (orT_f a1 (bl_ok ((two_to a2 a3 opNe_bl).trans (by rw [late_all, bne_self_eq_false]))))
theorem tru_call (h : Ok n c M) (h' : Ok n c N) (hS : Gd S) (hm : m ≤ 5) (hw : ws.length ≤ 3) (hu : us.length ≤ 1000) {f : Ef D} {tl : List Sl} (hf : f (st8 s0 R n c m M N ws res tl) S = .ok (waysD us) S) : fTru tm (fCall 4 c_judge_ways (fCons (fVar 6) (fCons (fVar 7) (fCons (fVar 4) (fCons f fNil))))) (st8 s0 R n c m M N ws res tl) S = .ok (lateL (endsL M N c m us)).isEmpty S := tru_to (ways_call h h' hS hm hw hu hf) tru_ways
theorem i11 (h : Ok n c M) (h' : Ok n c N) (hS : Gd S) (hm : m ≤ 5) (hw : ws.length ≤ 3) : b_law_11 (st8 s0 R n c m M N ws res [.emp, .emp, .emp, .emp, .emp, .emp, .emp, .emp, .emp, .emp, .emp, .emp]) S = .nx (st8 s0 R n c m M N ws res [.emp, .emp, .emp, .emp, .emp, .emp, .emp, .emp, .emp, .emp, .emp, .emp]) S := by
  refine if_f (andT_f (tru_call (us := ws) h h' hS hm hw (by omega) rfl) fun z => ?_)
  have z2 := late_mono (M := M) (N := N) (c := c) (m := m) (ws := ws) (ws' := allW) (fun w _ => all_wy w) (List.isEmpty_iff.mp z)
  exact (notT (tru_call (us := allW) h h' hS hm hw (by decide) rfl)).trans (by rw [z2]; rfl)
theorem i12 (h : Ok n c M) (h' : Ok n c N) (hS : Gd S) (hm : m ≤ 5) (hw : ws.length ≤ 3) : b_law_12 (st8 s0 R n c m M N ws res [.emp, .emp, .emp, .emp, .emp, .emp, .emp, .emp, .emp, .emp, .emp, .emp]) S = .nx (st8 s0 R n c m M N ws res [.emp, .emp, .emp, .emp, .emp, .emp, .emp, .emp, .emp, .emp, .emp, .emp]) S := by
  refine if_f (andT_f (tru_call (us := allW) h h' hS hm hw (by decide) rfl) fun z => ?_)
  have z := List.isEmpty_iff.mp z
  have e : waysA M N c m allW = .ins 0 [natD (badL M N c m).length] := by
    unfold waysA
    rw [z]
  refine bl_ok ((two_to (ways_call (us := allW) h h' hS hm hw (by decide) rfl) (toM (one_to rfl (len_lst.trans (by rw [List.length_map]))) (short_new hS)) ?_))
  rw [e]
  exact ne_short
theorem i13 (h : Ok n c M) (h' : Ok n c N) (hS : Gd S) (hm : m ≤ 5) (hw : ws.length ≤ 3) : b_law_13 (st8 s0 R n c m M N ws res [.emp, .emp, .emp, .emp, .emp, .emp, .emp, .emp, .emp, .emp, .emp, .emp]) S = .nx (st8 s0 R n c m M N ws res [.emp, .emp, .emp, .emp, .emp, .emp, .emp, .emp, .emp, .emp, .emp, .emp]) S := by
  refine if_f (orT_f (bl_ok ((two_to (ends_call (us := ws.reverse) h h' hS hm hw (by rw [List.length_reverse]; omega) (one_to rfl rev_ways)) rfl opNe_rows).trans ?_)) (bl_ok ((two_to (ends_call (us := ws ++ ws) h h' hS hm hw (by rw [List.length_append]; omega) (two_to rfl rfl (add_ways hw))) rfl opNe_rows).trans ?_)))
  · rw [decide_eq_true (ends_same fun w => List.mem_reverse)]; rfl
  · rw [decide_eq_true (ends_same fun w => by rw [List.mem_append, or_self])]; rfl
theorem i14 (h : Ok n c M) (h' : Ok n c N) (hS : Gd S) (hm : m ≤ 5) (hw : ws.length ≤ 3) : b_law_14 (st8 s0 R n c m M N ws res [.emp, .emp, .emp, .emp, .emp, .emp, .emp, .emp, .emp, .emp, .emp, .emp]) S = .nx (st8 s0 R n c m M N ws res [.val (rowsD (endsL M N c m [.tail])), .emp, .emp, .emp, .emp, .emp, .emp, .emp, .emp, .emp, .emp, .emp]) S := asg_ok (ends_call (us := [.tail]) h h' hS hm hw (by decide) rfl)
theorem i15 (h : Ok n c M) (h' : Ok n c N) (hS : Gd S) (hm : m ≤ 5) (hw : ws.length ≤ 3) : b_law_15 (st8 s0 R n c m M N ws res [.val (rowsD (endsL M N c m [.tail])), .emp, .emp, .emp, .emp, .emp, .emp, .emp, .emp, .emp, .emp, .emp]) S = .nx (st8 s0 R n c m M N ws res [.val (rowsD (endsL M N c m [.tail])), .emp, .emp, .emp, .emp, .emp, .emp, .emp, .emp, .emp, .emp, .emp]) S := by
  have a1 : fLc (.one 16) [16] (fItemsG (fLook 11)) (fBl (fTwo opEq (fCall 3 c_first_failure (fCons (fVar 6) (fCons (fVar 7) (fCons (fVar 16) fNil)))) (fTwo opSub (fOne opLen (fLook 16)) (fLit (.int 1))))) (fVar 16) (st8 s0 R n c m M N ws res [.val (rowsD (endsL M N c m [.tail])), .emp, .emp, .emp, .emp, .emp, .emp, .emp, .emp, .emp, .emp, .emp]) S = .ok (rowsD (endsL M N c m [.tail])) S := by
    refine flt_lc (enc := rowD) (g := rowD) (p := endB M N [.tail]) (bad_lim h.c2 hm) (items_ok rfl) fun q hq => ⟨(st8 s0 R n c m M N ws res [.val (rowsD (endsL M N c m [.tail])), .emp, .val (rowD q), .emp, .emp, .emp, .emp, .emp, .emp, .emp, .emp, .emp]), rfl, ?_, fun _ => rfl⟩
    obtain ⟨⟨h1, h2⟩, h3⟩ := mem_bad.mp hq
    rcases ffO_spec (M := M) (N := N) q with ⟨_, e⟩ | ⟨k, e, hk, _, hf⟩
    · rw [e] at h3; cases h3
    · rw [tail_end hk hf]
      exact bl_ok (two_to (to3 (x := machD M) (y := machD N) (z := rowD q) rfl rfl rfl ((ff_ok h h' h2 (Nat.le_trans h1 (Nat.le_trans hm (by decide)))).trans (by rw [e]; rfl))) (two_to (one_to rfl len_row) rfl (sub_one (by omega))) opEq_nat)
  exact if_f (bl_ok ((two_to rfl a1 opNe_rows).trans (by rw [decide_eq_true rfl]; rfl)))
theorem i16 (h : Ok n c M) (h' : Ok n c N) (hS : Gd S) (hm : m ≤ 5) (hw : ws.length ≤ 3) : b_law_16 (st8 s0 R n c m M N ws res [.val (rowsD (endsL M N c m [.tail])), .emp, .emp, .emp, .emp, .emp, .emp, .emp, .emp, .emp, .emp, .emp]) S = .nx (st8 s0 R n c m M N ws res [.val (rowsD (endsL M N c m [.tail])), .val (rowsD (endsL M N c m [.one])), .emp, .emp, .emp, .emp, .emp, .emp, .emp, .emp, .emp, .emp]) S := asg_ok (ends_call (us := [.one]) h h' hS hm hw (by decide) rfl)
end
end K29

/-! K29: the law's loop over the failing runs. -/
namespace K29
open PySem PySem.Spec L2 PyD
section
variable {n n' c m : Nat} {M N : Mc} {ws us : List Wy} {q x run : List Nat} {ρ : List Sl} {S : List D} {s0 R tl sg : D} {res : Sum (List Nat) Nat} {a16 a17 a18 a19 : Sl}
theorem ints_len : ∀ L : List (List Nat), intsOf (L.map fun s => natD s.length) = some (L.map fun s => (s.length : Int))
  | [] => rfl
  | s :: L => by
    show (intsOf (L.map fun s => natD s.length)).map _ = _
    rw [ints_len L]
    rfl
theorem min_some : ∀ (a : Int) (L : List Int), ∃ m, minI (a :: L) = some m
  | a, [] => ⟨a, rfl⟩
  | a, b :: L => by
    obtain ⟨m, e⟩ := min_some b L
    refine ⟨if a ≤ m then a else m, ?_⟩
    show (minI (b :: L)).map _ = _
    rw [e]
    rfl
theorem min_ok (L : List (List Nat)) (h : L ≠ []) : ∃ s ∈ L, opMin (.lst (L.map fun s => natD s.length)) S = .ok (natD s.length) S := by
  obtain ⟨m, e⟩ : ∃ m, minI (L.map fun s => (s.length : Int)) = some m := by
    cases L with
    | nil => exact absurd rfl h
    | cons a L => exact min_some _ _
  obtain ⟨s, hs, e2⟩ := List.mem_map.mp (minI_spec e).1
  refine ⟨s, hs, ?_⟩
  show (match intsOf (L.map fun s => natD s.length) with
    | some ns => match minI ns with
      | some m => Out.ok (D.int m) S
      | none => .bad
    | none => .bad) = _
  rw [ints_len]
  dsimp only
  rw [e, ← e2]
  rfl
theorem zip_rows : ∀ A C : List (List Nat), pairsZ (A.map rowD) (C.map rowD) = (A.zip C).map fun z => .tup [rowD z.1, rowD z.2]
  | [], C => by cases C <;> rfl
  | a :: A, [] => rfl
  | a :: A, b :: C => by
    rw [List.map_cons, List.map_cons, List.zip_cons_cons, List.map_cons]
    unfold pairsZ
    rw [zip_rows A C]
theorem add_rows {a b : List Nat} (hz : a.length + b.length ≤ LIM) : opAdd (rowD a) (rowD b) S = .ok (rowD (a ++ b)) S := by
  show (if (a.map natD).length + (b.map natD).length ≤ LIM then Out.ok (D.tup (a.map natD ++ b.map natD)) S else .bad) = _
  rw [List.length_map, List.length_map, if_pos hz, ← List.map_append]
  rfl
theorem opNotIn_row {k : Nat} {s : List Nat} : opNotIn (natD k) (rowD s) S = .ok (.bl (!s.contains k)) S := by
  show okB ((inP (natD k) (rowD s)).map not) S = _
  rw [in_nats]
  rfl
theorem ne_nats {s : List Nat} : opNe (.lst (s.map natD)) (.lst (s.map natD)) S = .ok (.bl false) S := ne_same rfl (plains_nat _) (by rw [depth_lst]; decide)
theorem lim5 {k : Nat} (h : k ≤ 5) : k ≤ LIM := Nat.le_trans h (by decide)
theorem fails_call (h : Ok n c M) (h' : Ok n c N) {tl : List Sl} {f : Ef D} {d : D} {q : List Nat} (hf : f (st8 s0 R n c m M N ws res tl) S = .ok d S) (hd : IsRun d q) (hq : ∀ k ∈ q, k < c) (hz : q.length ≤ LIM) : fCall 3 c_fails (fCons (fVar 6) (fCons (fVar 7) (fCons f fNil))) (st8 s0 R n c m M N ws res tl) S = .ok (.bl (failsB M N q)) S := to3 (x := machD M) (y := machD N) rfl rfl hf (fails_ok h h' hd hq hz)
theorem ff_call (h : Ok n c M) (h' : Ok n c N) {tl : List Sl} {f : Ef D} {q : List Nat} (hf : f (st8 s0 R n c m M N ws res tl) S = .ok (rowD q) S) (hq : ∀ k ∈ q, k < c) (hz : q.length ≤ LIM) : fCall 3 c_first_failure (fCons (fVar 6) (fCons (fVar 7) (fCons f fNil))) (st8 s0 R n c m M N ws res tl) S = .ok (optD (ffO M N q)) S := to3 (x := machD M) (y := machD N) rfl rfl hf (ff_ok h h' hq hz)
theorem cut_call (h : Ok n c M) (h' : Ok n c N) {tl : List Sl} {f g : Ef D} {q : List Nat} {us : List Wy} (hf : f (st8 s0 R n c m M N ws res tl) S = .ok (rowD q) S) (hg : g (st8 s0 R n c m M N ws res tl) S = .ok (waysD us) S) (hq : ∀ k ∈ q, k < c) (hz : q.length ≤ 12) (hb : failsB M N q = true) (hu : us.length ≤ 1000) : fCall 4 c_cut_down (fCons (fVar 6) (fCons (fVar 7) (fCons f (fCons g fNil)))) (st8 s0 R n c m M N ws res tl) S = .ok (rowsD (cutL M N us q)) S := to4 (x := machD M) (y := machD N) rfl rfl hf hg (cut_ok h h' hq hz hb hu)
/-- the parts fail, and there are parts -/
theorem j2 (h : Ok n c M) (h' : Ok n c N) (hS : Gd S) (hm : m ≤ 5) (hw : ws.length ≤ 3) (hq : q ∈ badL M N c m) : (sIf (fOrT (fNotT (fTru tm (fOne (opAllT tm) (fLc (.one 21) [21] (fItemsG (fLook 17)) fYes (fCall 3 c_fails (fCons (fVar 6) (fCons (fVar 7) (fCons (fLc (.one 22) [22] (fItemsG (fLook 21)) fYes (fTwo opIx (fLook 16) (fLook 22))) fNil)))))))) (fBl (fTwo opEq (fLook 17) (fLst fNil)))) (sRet (fLit (.bl false))) sSkip) (st8 s0 R n c m M N ws (.inl run) [.val (rowsD (endsL M N c m [.tail])), .val (rowsD (endsL M N c m [.one])), .val (rowD q), .val (rowsD (leastL M N q)), a18, a19, .emp, .emp, .emp, .emp, .emp, .emp]) S = .nx (st8 s0 R n c m M N ws (.inl run) [.val (rowsD (endsL M N c m [.tail])), .val (rowsD (endsL M N c m [.one])), .val (rowD q), .val (rowsD (leastL M N q)), a18, a19, .emp, .emp, .emp, .emp, .emp, .emp]) S := by
  obtain ⟨⟨h1, h2⟩, h3⟩ := mem_bad.mp hq
  have h5 : q.length ≤ 5 := Nat.le_trans h1 hm
  have h0 : 1 ≤ q.length := by
    cases q with
    | nil => cases h3
    | cons a q => exact Nat.succ_pos _
  refine if_f (orT_f ((notT (tru_bl (all_lc (enc := rowD) (xs := leastL M N q) (p := fun s => failsB M N (pick q s)) (least_lim h5) (items_ok rfl) fun s hs => ⟨(st8 s0 R n c m M N ws (.inl run) [.val (rowsD (endsL M N c m [.tail])), .val (rowsD (endsL M N c m [.one])), .val (rowD q), .val (rowsD (leastL M N q)), a18, a19, .emp, .val (rowD s), .emp, .emp, .emp, .emp]), rfl, ?_⟩))).trans ?_) (bl_ok ((two_to rfl rfl (opEq_rows (A := leastL M N q) (B := []))).trans (by rw [decide_eq_false (leastL_ne h0 h5 h3)]))))
  · have hl := sets_lt _ h5 _ (leastL_in hs).2
    exact fails_call h h' (q := pick q s) (pick_lc hl (lim5 (sets_le _ h5 _ (leastL_in hs).2)) (fun _ => rfl) (fun _ => rfl) rfl rfl (by decide)) (.inr rfl) (pick_c h2 hl) (by rw [pick_len]; exact lim5 (sets_le _ h5 _ (leastL_in hs).2))
  · rw [List.all_eq_true.mpr fun s hs => (leastL_in hs).1]
    rfl
/-- single cuts -/
theorem j3 (h : Ok n c M) (h' : Ok n c N) (hS : Gd S) (hm : m ≤ 5) (hw : ws.length ≤ 3) (hq : q ∈ badL M N c m) : (sIf (fBl (fTwo opNe (fTwo opIn (fLook 16) (fLook 15)) (fNotV (fOne (opAnyT tm) (fLc (.one 22) [22] (fRng1 (fOne opLen (fLook 16))) fYes (fCall 3 c_fails (fCons (fVar 6) (fCons (fVar 7) (fCons (fTwo opAdd (fSl (fLook 16) none (some (fVar 22))) (fSl (fLook 16) (some (fTwo opAdd (fLook 22) (fLit (.int 1)))) none)) fNil))))))))) (sRet (fLit (.bl false))) sSkip) (st8 s0 R n c m M N ws (.inl run) [.val (rowsD (endsL M N c m [.tail])), .val (rowsD (endsL M N c m [.one])), .val (rowD q), .val (rowsD (leastL M N q)), a18, a19, .emp, .emp, .emp, .emp, .emp, .emp]) S = .nx (st8 s0 R n c m M N ws (.inl run) [.val (rowsD (endsL M N c m [.tail])), .val (rowsD (endsL M N c m [.one])), .val (rowD q), .val (rowsD (leastL M N q)), a18, a19, .emp, .emp, .emp, .emp, .emp, .emp]) S := by
  obtain ⟨⟨h1, h2⟩, h3⟩ := mem_bad.mp hq
  have h5 : q.length ≤ 5 := Nat.le_trans h1 hm
  have a1 : (fOne (opAnyT tm) (fLc (.one 22) [22] (fRng1 (fOne opLen (fLook 16))) fYes (fCall 3 c_fails (fCons (fVar 6) (fCons (fVar 7) (fCons (fTwo opAdd (fSl (fLook 16) none (some (fVar 22))) (fSl (fLook 16) (some (fTwo opAdd (fLook 22) (fLit (.int 1)))) none)) fNil)))))) (st8 s0 R n c m M N ws (.inl run) [.val (rowsD (endsL M N c m [.tail])), .val (rowsD (endsL M N c m [.one])), .val (rowD q), .val (rowsD (leastL M N q)), a18, a19, .emp, .emp, .emp, .emp, .emp, .emp]) S = .ok (.bl ((List.range q.length).any fun i => failsB M N (q.take i ++ q.drop (i + 1)))) S := by
    refine any_lc (enc := natD) (p := fun i => failsB M N (q.take i ++ q.drop (i + 1))) (by rw [List.length_range]; exact lim5 h5) (rng_ok (one_to rfl len_row) (by omega)) fun i hi => ⟨(st8 s0 R n c m M N ws (.inl run) [.val (rowsD (endsL M N c m [.tail])), .val (rowsD (endsL M N c m [.one])), .val (rowD q), .val (rowsD (leastL M N q)), a18, a19, .emp, .emp, .val (natD i), .emp, .emp, .emp]), rfl, ?_⟩
    have hi := List.mem_range.mp hi
    refine fails_call h h' (q := q.take i ++ q.drop (i + 1)) (two_to (slice_lo rfl rfl) (slice_hi (k := i + 1) rfl (two_to (x := natD i) (y := natD 1) rfl rfl (add_nat (b := 1))) hi) (add_rows (lim5 ?_))) isR (fun k hk => ?_) (lim5 ?_)
    · rw [List.length_take, List.length_drop]; omega
    · rcases List.mem_append.mp hk with z | z
      · exact h2 k (List.mem_of_mem_take z)
      · exact h2 k (List.mem_of_mem_drop z)
    · rw [List.length_append, List.length_take, List.length_drop]; omega
  refine if_f (bl_ok ((two_to (two_to rfl rfl opIn_rows) (notV_ok a1) opNe_bl).trans ?_))
  rw [show (endsL M N c m [.one]).contains q = endB M N [.one] q by
    rw [Bool.eq_iff_iff, List.contains_iff_mem, mem_ends]
    exact ⟨fun z => z.2, fun z => ⟨hq, z⟩⟩, one_end, bne_self_eq_false]
/-- what matters, and the parts' least length -/
theorem j4 (h : Ok n c M) (h' : Ok n c N) (hS : Gd S) (hm : m ≤ 5) (hw : ws.length ≤ 3) (hT : Told M N c (.inl run)) (hq : q ∈ badL M N c m) : (sIf (fOrT (fBl (fTwo opNe (fCall 3 c_matter (fCons (fVar 6) (fCons (fVar 7) (fCons (fVar 16) fNil)))) (fLc (.one 22) [22] (fRng1 (fOne opLen (fLook 16))) (fNotT (fTru tm (fOne (opAnyT tm) (fLc (.one 21) [21] (fItemsG (fLook 17)) fYes (fTwo opNotIn (fLook 22) (fLook 21)))))) (fVar 22)))) (fBl (fTwo opLt (fOne opMin (fLc (.one 21) [21] (fItemsG (fLook 17)) fYes (fOne opLen (fLook 21)))) (fOne opLen (fFld a_run (fLook 10)))))) (sRet (fLit (.bl false))) sSkip) (st8 s0 R n c m M N ws (.inl run) [.val (rowsD (endsL M N c m [.tail])), .val (rowsD (endsL M N c m [.one])), .val (rowD q), .val (rowsD (leastL M N q)), a18, a19, .emp, .emp, .emp, .emp, .emp, .emp]) S = .nx (st8 s0 R n c m M N ws (.inl run) [.val (rowsD (endsL M N c m [.tail])), .val (rowsD (endsL M N c m [.one])), .val (rowD q), .val (rowsD (leastL M N q)), a18, a19, .emp, .emp, .emp, .emp, .emp, .emp]) S := by
  obtain ⟨⟨h1, h2⟩, h3⟩ := mem_bad.mp hq
  have h5 : q.length ≤ 5 := Nat.le_trans h1 hm
  have h0 : 1 ≤ q.length := by
    cases q with
    | nil => cases h3
    | cons a q => exact Nat.succ_pos _
  have a1 : (fLc (.one 22) [22] (fRng1 (fOne opLen (fLook 16))) (fNotT (fTru tm (fOne (opAnyT tm) (fLc (.one 21) [21] (fItemsG (fLook 17)) fYes (fTwo opNotIn (fLook 22) (fLook 21)))))) (fVar 22)) (st8 s0 R n c m M N ws (.inl run) [.val (rowsD (endsL M N c m [.tail])), .val (rowsD (endsL M N c m [.one])), .val (rowD q), .val (rowsD (leastL M N q)), a18, a19, .emp, .emp, .emp, .emp, .emp, .emp]) S = .ok (.lst (((List.range q.length).filter fun i => !(leastL M N q).any fun s => !s.contains i).map natD)) S :=
    flt_lc (enc := natD) (g := natD) (p := fun i => !(leastL M N q).any fun s => !s.contains i) (by rw [List.length_range]; exact lim5 h5) (rng_ok (one_to rfl len_row) (by omega)) fun i _ => ⟨(st8 s0 R n c m M N ws (.inl run) [.val (rowsD (endsL M N c m [.tail])), .val (rowsD (endsL M N c m [.one])), .val (rowD q), .val (rowsD (leastL M N q)), a18, a19, .emp, .emp, .val (natD i), .emp, .emp, .emp]), rfl, notT (tru_bl (any_lc (enc := rowD) (p := fun s => !s.contains i) (least_lim h5) (items_ok rfl) fun s _ => ⟨(st8 s0 R n c m M N ws (.inl run) [.val (rowsD (endsL M N c m [.tail])), .val (rowsD (endsL M N c m [.one])), .val (rowD q), .val (rowsD (leastL M N q)), a18, a19, .emp, .val (rowD s), .val (natD i), .emp, .emp, .emp]), rfl, two_to rfl rfl opNotIn_row⟩)), fun _ => rfl⟩
  have e1 : ((List.range q.length).filter fun i => !(leastL M N q).any fun s => !s.contains i) = matterL M N q := by
    unfold matterL
    refine List.filter_congr fun i _ => ?_
    rw [List.not_any_eq_all_not]
    simp
  rw [e1] at a1
  obtain ⟨s, hs, e2⟩ := min_ok (S := S) (leastL M N q) (leastL_ne h0 h5 h3)
  have hl := sets_lt _ h5 _ (leastL_in hs).2
  have hle : run.length ≤ s.length := by
    have := hT.2.2 (pick q s) (pick_c h2 hl) (leastL_in hs).1
    rw [pick_len] at this
    exact this
  refine if_f (orT_f (bl_ok ((two_to (to3 (x := machD M) (y := machD N) (z := rowD q) rfl rfl rfl (matter_ok h h' h2 h0 h5 h3)) a1 ne_nats))) (bl_ok ((two_to (one_to (map_lc (enc := rowD) (g := fun s => natD s.length) (least_lim h5) (items_ok rfl) fun s _ => ⟨(st8 s0 R n c m M N ws (.inl run) [.val (rowsD (endsL M N c m [.tail])), .val (rowsD (endsL M N c m [.one])), .val (rowD q), .val (rowsD (leastL M N q)), a18, a19, .emp, .val (rowD s), .emp, .emp, .emp, .emp]), rfl, one_to rfl len_row⟩) e2) (one_to (x := rowD run) rfl len_row) lt_nat).trans ?_)))
  rw [decide_eq_false (by omega)]
end
end K29

/-! K29: the law's loops, and the law. -/
namespace K29
open PySem PySem.Spec L2 PyD
section
variable {n n' c m : Nat} {M N : Mc} {ws us : List Wy} {q x run : List Nat} {ρ : List Sl} {S : List D} {s0 R tl sg : D} {res : Sum (List Nat) Nat} {a16 a17 a18 a19 : Sl}
theorem ix_last {p : List (List Nat)} {l : List Nat} : opIx (rowsD (p ++ [l])) (.int (-1)) S = .ok (rowD l) S := by
  show okD (atI ((p ++ [l]).map rowD) (-1)) S = _
  rw [List.map_append]
  show okD (atI (p.map rowD ++ [rowD l]) (-1)) S = _
  rw [at_last]
  rfl
theorem j5 (h : Ok n c M) (h' : Ok n c N) (hS : Gd S) (hm : m ≤ 5) (hw : ws.length ≤ 3) (e : bfs M N c 300 [((0, 0), [])] [(0, 0)] = some (.inl run)) (hT : Told M N c (.inl run)) (hu : us.length ≤ 3) (hq : q ∈ badL M N c m) : (sSeq (sAsg 19 (fCall 4 c_cut_down (fCons (fVar 6) (fCons (fVar 7) (fCons (fVar 16) (fCons (fVar 18) fNil))))))
    (sSeq (sIf (fOrT (fBl (fTwo opNe (fTwo opIx (fLook 19) (fLit (.int 0))) (fLook 16))) (fOrT (fNotT (fTru tm (fCall 4 c_is_end (fCons (fVar 6) (fCons (fVar 7) (fCons (fTwo opIx (fLook 19) (fNeg (fLit (.int 1)))) (fCons (fVar 18) fNil))))))) (fTru tm (fOne (opAnyT tm) (fLc (.many [23, 24]) [23, 24] (fZip (fCons (fVar 19) (fCons (fSl (fLook 19) (some (fLit (.int 1))) none) fNil))) fYes (fOrV (fTwo opGe (fOne opLen (fLook 24)) (fOne opLen (fLook 23))) (fTwo opNotIn (fLook 24) (fCall 2 c_shorter (fCons (fVar 18) (fCons (fVar 23) fNil)))))))))) (sRet (fLit (.bl false))) sSkip)
    (sIf (fOrT (fBl (fTwo opNotIn (fTwo opIx (fLook 19) (fNeg (fLit (.int 1)))) (fCall 4 c_ends_of (fCons (fVar 6) (fCons (fVar 7) (fCons (fVar 4) (fCons (fVar 18) fNil))))))) (fOrT (fBl (fTwo opLt (fOne opLen (fTwo opIx (fLook 19) (fNeg (fLit (.int 1))))) (fOne opLen (fFld a_run (fLook 10))))) (fBl (fTwo opNe (fOne (opBool tm) (fCall 3 c_judge_run (fCons (fVar 6) (fCons (fVar 7) (fCons (fTwo opIx (fLook 19) (fNeg (fLit (.int 1)))) fNil))))) (fTwo opEq (fOne opLen (fTwo opIx (fLook 19) (fNeg (fLit (.int 1))))) (fOne opLen (fFld a_run (fLook 10)))))))) (sRet (fLit (.bl false))) sSkip))) (st8 s0 R n c m M N ws (.inl run) [.val (rowsD (endsL M N c m [.tail])), .val (rowsD (endsL M N c m [.one])), .val (rowD q), .val (rowsD (leastL M N q)), .val (waysD us), a19, .emp, .emp, .emp, .emp, .emp, .emp]) S = .nx (st8 s0 R n c m M N ws (.inl run) [.val (rowsD (endsL M N c m [.tail])), .val (rowsD (endsL M N c m [.one])), .val (rowD q), .val (rowsD (leastL M N q)), .val (waysD us), .val (rowsD (cutL M N us q)), .emp, .emp, .emp, .emp, .emp, .emp]) S := by
  obtain ⟨⟨h1, h2⟩, h3⟩ := mem_bad.mp hq
  have h5 : q.length ≤ 5 := Nat.le_trans h1 hm
  obtain ⟨t, p, l, e1, e2, hz, ⟨hl, hlc⟩, hf, he, hn⟩ := cut_spec (M := M) (N := N) (ws := us) (P := fun x => x.length ≤ m ∧ ∀ k ∈ x, k < c) (fun a b ha hb => ⟨by have := sh_lt hb; have := ha.1; omega, sh_c ha.2 hb⟩) 100 q (by omega) ⟨h1, h2⟩ h3
  have hL : ∃ L, L = cutL M N us q := ⟨_, rfl⟩
  obtain ⟨L, hL⟩ := hL
  have e1 : L = q :: t := hL.trans e1
  have e2 : L = p ++ [l] := hL.trans e2
  have hle : run.length ≤ l.length := hT.2.2 l hlc hf
  have s1 : (sAsg 19 (fCall 4 c_cut_down (fCons (fVar 6) (fCons (fVar 7) (fCons (fVar 16) (fCons (fVar 18) fNil)))))) (st8 s0 R n c m M N ws (.inl run) [.val (rowsD (endsL M N c m [.tail])), .val (rowsD (endsL M N c m [.one])), .val (rowD q), .val (rowsD (leastL M N q)), .val (waysD us), a19, .emp, .emp, .emp, .emp, .emp, .emp]) S = .nx (st8 s0 R n c m M N ws (.inl run) [.val (rowsD (endsL M N c m [.tail])), .val (rowsD (endsL M N c m [.one])), .val (rowD q), .val (rowsD (leastL M N q)), .val (waysD us), .val (rowsD L), .emp, .emp, .emp, .emp, .emp, .emp]) S := by
    rw [hL]
    exact asg_ok (cut_call h h' (us := us) rfl rfl h2 (by omega) h3 (by omega))
  have last : fTwo opIx (fLook 19) (fNeg (fLit (.int 1))) (st8 s0 R n c m M N ws (.inl run) [.val (rowsD (endsL M N c m [.tail])), .val (rowsD (endsL M N c m [.one])), .val (rowD q), .val (rowsD (leastL M N q)), .val (waysD us), .val (rowsD L), .emp, .emp, .emp, .emp, .emp, .emp]) S = .ok (rowD l) S := two_to (x := rowsD L) (y := .int (-1)) rfl rfl (by rw [e2]; exact ix_last)
  have s2 : (sIf (fOrT (fBl (fTwo opNe (fTwo opIx (fLook 19) (fLit (.int 0))) (fLook 16))) (fOrT (fNotT (fTru tm (fCall 4 c_is_end (fCons (fVar 6) (fCons (fVar 7) (fCons (fTwo opIx (fLook 19) (fNeg (fLit (.int 1)))) (fCons (fVar 18) fNil))))))) (fTru tm (fOne (opAnyT tm) (fLc (.many [23, 24]) [23, 24] (fZip (fCons (fVar 19) (fCons (fSl (fLook 19) (some (fLit (.int 1))) none) fNil))) fYes (fOrV (fTwo opGe (fOne opLen (fLook 24)) (fOne opLen (fLook 23))) (fTwo opNotIn (fLook 24) (fCall 2 c_shorter (fCons (fVar 18) (fCons (fVar 23) fNil)))))))))) (sRet (fLit (.bl false))) sSkip) (st8 s0 R n c m M N ws (.inl run) [.val (rowsD (endsL M N c m [.tail])), .val (rowsD (endsL M N c m [.one])), .val (rowD q), .val (rowsD (leastL M N q)), .val (waysD us), .val (rowsD L), .emp, .emp, .emp, .emp, .emp, .emp]) S = .nx (st8 s0 R n c m M N ws (.inl run) [.val (rowsD (endsL M N c m [.tail])), .val (rowsD (endsL M N c m [.one])), .val (rowD q), .val (rowsD (leastL M N q)), .val (waysD us), .val (rowsD L), .emp, .emp, .emp, .emp, .emp, .emp]) S := by
    refine if_f (orT_f (bl_ok ((two_to (two_to (x := rowsD L) (y := natD 0) rfl rfl (ix_L (k := 0) (d := rowD q) (by rw [e1]; rfl))) rfl opNe_row).trans (by rw [decide_eq_true rfl]; rfl))) (orT_f ((notT (tru_bl (to4 (x := machD M) (y := machD N) (u := waysD us) rfl rfl last rfl (is_end_ok h h' hlc (by omega) hf (by omega))))).trans (by rw [he]; rfl)) ?_))
    refine tru_bl ((any_lc (enc := fun z : List Nat × List Nat => .tup [rowD z.1, rowD z.2]) (xs := (q :: t).zip t) (p := fun z => decide (z.1.length ≤ z.2.length) || !(shL us z.1).contains z.2) ?_ ?_ fun z hzm => ⟨(st8 s0 R n c m M N ws (.inl run) [.val (rowsD (endsL M N c m [.tail])), .val (rowsD (endsL M N c m [.one])), .val (rowD q), .val (rowsD (leastL M N q)), .val (waysD us), .val (rowsD L), .emp, .emp, .emp, .val (rowD z.1), .val (rowD z.2), .emp]), rfl, ?_⟩).trans ?_)
    · rw [List.length_zip]
      exact Nat.le_trans (Nat.min_le_left _ _) (Nat.le_trans hn (by decide))
    · rw [← zip_rows]
      have ht : t.length + 1 = L.length := by rw [e1]; rfl
      have s3 : fSl (fLook 19) (some (fLit (.int 1))) none (st8 s0 R n c m M N ws (.inl run) [.val (rowsD (endsL M N c m [.tail])), .val (rowsD (endsL M N c m [.one])), .val (rowD q), .val (rowsD (leastL M N q)), .val (waysD us), .val (rowsD L), .emp, .emp, .emp, .emp, .emp, .emp]) S = .ok (.lst (t.map rowD)) S := by
        show Out.ok (D.lst (cutD (L.map rowD) (some ((1 : Nat) : Int)) none)) S = _
        rw [cutG_hi (by rw [List.length_map]; omega), e1]
        rfl
      unfold fZip
      rw [cons_ok (x := .lst ((q :: t).map rowD)) (S1 := S) (by rw [← e1]; rfl) (cons_ok s3 nil_ok)]
      rfl
    · obtain ⟨z1, z2, z3, z4⟩ := hz z hzm
      exact orV (two_to (one_to rfl len_row) (one_to rfl len_row) ge_nat) (two_to rfl (to2 (x := waysD us) (y := rowD z.1) rfl rfl (shorter_ok (by omega) (by omega))) opNotIn_rows)
    · rw [show (((q :: t).zip t).any fun z => decide (z.1.length ≤ z.2.length) || !(shL us z.1).contains z.2) = false from List.any_eq_false.mpr fun z hzm => by
        obtain ⟨z1, z2, z3, z4⟩ := hz z hzm
        rw [decide_eq_false (by omega), List.contains_iff_mem.mpr z2]
        exact Bool.false_ne_true]
  have s3 : (sIf (fOrT (fBl (fTwo opNotIn (fTwo opIx (fLook 19) (fNeg (fLit (.int 1)))) (fCall 4 c_ends_of (fCons (fVar 6) (fCons (fVar 7) (fCons (fVar 4) (fCons (fVar 18) fNil))))))) (fOrT (fBl (fTwo opLt (fOne opLen (fTwo opIx (fLook 19) (fNeg (fLit (.int 1))))) (fOne opLen (fFld a_run (fLook 10))))) (fBl (fTwo opNe (fOne (opBool tm) (fCall 3 c_judge_run (fCons (fVar 6) (fCons (fVar 7) (fCons (fTwo opIx (fLook 19) (fNeg (fLit (.int 1)))) fNil))))) (fTwo opEq (fOne opLen (fTwo opIx (fLook 19) (fNeg (fLit (.int 1))))) (fOne opLen (fFld a_run (fLook 10)))))))) (sRet (fLit (.bl false))) sSkip) (st8 s0 R n c m M N ws (.inl run) [.val (rowsD (endsL M N c m [.tail])), .val (rowsD (endsL M N c m [.one])), .val (rowD q), .val (rowsD (leastL M N q)), .val (waysD us), .val (rowsD L), .emp, .emp, .emp, .emp, .emp, .emp]) S = .nx (st8 s0 R n c m M N ws (.inl run) [.val (rowsD (endsL M N c m [.tail])), .val (rowsD (endsL M N c m [.one])), .val (rowD q), .val (rowsD (leastL M N q)), .val (waysD us), .val (rowsD L), .emp, .emp, .emp, .emp, .emp, .emp]) S := by
    refine if_f (orT_f (bl_ok ((two_to last (ends_call (us := us) h h' hS hm hw (by omega) rfl) opNotIn_rows).trans (by rw [List.contains_iff_mem.mpr (mem_ends.mpr ⟨mem_bad.mpr ⟨⟨hl, hlc⟩, hf⟩, he⟩)]; rfl))) (orT_f (bl_ok ((two_to (one_to last len_row) (one_to (x := rowD run) rfl len_row) lt_nat).trans (by rw [decide_eq_false (by omega)]))) ?_))
    refine bl_ok ((two_to (one_to (to3 (x := machD M) (y := machD N) rfl rfl last (judge_run_ok h h' hS e hlc (by omega) hf)) (bool_to (b := decide (run.length = l.length)) ?_)) (two_to (one_to last len_row) (one_to (x := rowD run) rfl len_row) opEq_nat) opNe_bl).trans ?_)
    · by_cases z : run.length = l.length
      · rw [if_pos z, decide_eq_true z]
        exact tru_ins rfl shortest_b
      · rw [if_neg z, decide_eq_false z]
        exact tru_ins rfl longer_b
    · rw [show decide (l.length = run.length) = decide (run.length = l.length) from decide_eq_decide.mpr eq_comm, bne_self_eq_false]
  rw [← hL]
  exact (seq_nx s1).trans ((seq_nx s2).trans s3)
theorem j6 (h : Ok n c M) (h' : Ok n c N) (hS : Gd S) (hm : m ≤ 5) (hw : ws.length ≤ 3) (e : bfs M N c 300 [((0, 0), [])] [(0, 0)] = some (.inl run)) (hT : Told M N c (.inl run)) (hq : q ∈ badL M N c m) : (sIf (fBl (fTwo opNe (fTwo opIx (fCall 4 c_cut_down (fCons (fVar 6) (fCons (fVar 7) (fCons (fVar 16) (fCons (fLst (fCons (fLit (.str "tail")) fNil)) fNil))))) (fNeg (fLit (.int 1)))) (fSl (fLook 16) none (some (fTwo opAdd (fCall 3 c_first_failure (fCons (fVar 6) (fCons (fVar 7) (fCons (fVar 16) fNil)))) (fLit (.int 1))))))) (sRet (fLit (.bl false))) sSkip) (st8 s0 R n c m M N ws (.inl run) [.val (rowsD (endsL M N c m [.tail])), .val (rowsD (endsL M N c m [.one])), .val (rowD q), .val (rowsD (leastL M N q)), a18, a19, .emp, .emp, .emp, .emp, .emp, .emp]) S = .nx (st8 s0 R n c m M N ws (.inl run) [.val (rowsD (endsL M N c m [.tail])), .val (rowsD (endsL M N c m [.one])), .val (rowD q), .val (rowsD (leastL M N q)), a18, a19, .emp, .emp, .emp, .emp, .emp, .emp]) S := by
  obtain ⟨⟨h1, h2⟩, h3⟩ := mem_bad.mp hq
  have h5 : q.length ≤ 5 := Nat.le_trans h1 hm
  obtain ⟨t, p, l, e1, e2, hz, ⟨i, hi⟩, hf, he, hn⟩ := cut_spec (M := M) (N := N) (ws := [.tail]) (P := fun x => ∃ i, x = q.take i) (fun a b ha hb => by
    obtain ⟨i, hi⟩ := ha
    obtain ⟨j, hj⟩ := sh_tail hb
    exact ⟨min j i, by rw [hj, hi, List.take_take]⟩) 100 q (by omega) ⟨q.length, (List.take_length).symm⟩ h3
  rcases ffO_spec (M := M) (N := N) q with ⟨_, e0⟩ | ⟨k, ek, hk, _, hfk⟩
  · rw [e0] at h3; cases h3
  · have a1 : (fTwo opIx (fCall 4 c_cut_down (fCons (fVar 6) (fCons (fVar 7) (fCons (fVar 16) (fCons (fLst (fCons (fLit (.str "tail")) fNil)) fNil))))) (fNeg (fLit (.int 1)))) (st8 s0 R n c m M N ws (.inl run) [.val (rowsD (endsL M N c m [.tail])), .val (rowsD (endsL M N c m [.one])), .val (rowD q), .val (rowsD (leastL M N q)), a18, a19, .emp, .emp, .emp, .emp, .emp, .emp]) S = .ok (rowD l) S := two_to (y := .int (-1)) (cut_call h h' (us := [.tail]) rfl rfl h2 (by omega) h3 (by decide)) rfl (by rw [show cutL M N [.tail] q = p ++ [l] from e2]; exact ix_last)
    refine if_f (bl_ok ((two_to a1 (slice_lo (k := k + 1) rfl (two_to (x := natD k) (y := natD 1) ((ff_call h h' rfl h2 (lim5 h5)).trans (by rw [ek]; rfl)) rfl add_nat)) opNe_row).trans ?_))
    rw [tail_cut hk hfk hi hf he, decide_eq_true rfl]
    rfl
theorem turn (h : Ok n c M) (h' : Ok n c N) (hS : Gd S) (hm : m ≤ 5) (hw : ws.length ≤ 3) (e : bfs M N c 300 [((0, 0), [])] [(0, 0)] = some (.inl run)) (hT : Told M N c (.inl run)) (hq : q ∈ badL M N c m) : ∃ b18 b19, (sSeq (sAsg 17 (fCall 3 c_least_parts (fCons (fVar 6) (fCons (fVar 7) (fCons (fVar 16) fNil)))))
    (sSeq (sIf (fOrT (fNotT (fTru tm (fOne (opAllT tm) (fLc (.one 21) [21] (fItemsG (fLook 17)) fYes (fCall 3 c_fails (fCons (fVar 6) (fCons (fVar 7) (fCons (fLc (.one 22) [22] (fItemsG (fLook 21)) fYes (fTwo opIx (fLook 16) (fLook 22))) fNil)))))))) (fBl (fTwo opEq (fLook 17) (fLst fNil)))) (sRet (fLit (.bl false))) sSkip)
    (sSeq (sIf (fBl (fTwo opNe (fTwo opIn (fLook 16) (fLook 15)) (fNotV (fOne (opAnyT tm) (fLc (.one 22) [22] (fRng1 (fOne opLen (fLook 16))) fYes (fCall 3 c_fails (fCons (fVar 6) (fCons (fVar 7) (fCons (fTwo opAdd (fSl (fLook 16) none (some (fVar 22))) (fSl (fLook 16) (some (fTwo opAdd (fLook 22) (fLit (.int 1)))) none)) fNil))))))))) (sRet (fLit (.bl false))) sSkip)
    (sSeq (sIf (fOrT (fBl (fTwo opNe (fCall 3 c_matter (fCons (fVar 6) (fCons (fVar 7) (fCons (fVar 16) fNil)))) (fLc (.one 22) [22] (fRng1 (fOne opLen (fLook 16))) (fNotT (fTru tm (fOne (opAnyT tm) (fLc (.one 21) [21] (fItemsG (fLook 17)) fYes (fTwo opNotIn (fLook 22) (fLook 21)))))) (fVar 22)))) (fBl (fTwo opLt (fOne opMin (fLc (.one 21) [21] (fItemsG (fLook 17)) fYes (fOne opLen (fLook 21)))) (fOne opLen (fFld a_run (fLook 10)))))) (sRet (fLit (.bl false))) sSkip)
    (sSeq (sFor (fItemsG (fTup (fCons (fVar 9) (fCons (fVar 8) (fCons (fLst (fCons (fLit (.str "one")) fNil)) fNil))))) (.one 18) (sSeq (sAsg 19 (fCall 4 c_cut_down (fCons (fVar 6) (fCons (fVar 7) (fCons (fVar 16) (fCons (fVar 18) fNil))))))
    (sSeq (sIf (fOrT (fBl (fTwo opNe (fTwo opIx (fLook 19) (fLit (.int 0))) (fLook 16))) (fOrT (fNotT (fTru tm (fCall 4 c_is_end (fCons (fVar 6) (fCons (fVar 7) (fCons (fTwo opIx (fLook 19) (fNeg (fLit (.int 1)))) (fCons (fVar 18) fNil))))))) (fTru tm (fOne (opAnyT tm) (fLc (.many [23, 24]) [23, 24] (fZip (fCons (fVar 19) (fCons (fSl (fLook 19) (some (fLit (.int 1))) none) fNil))) fYes (fOrV (fTwo opGe (fOne opLen (fLook 24)) (fOne opLen (fLook 23))) (fTwo opNotIn (fLook 24) (fCall 2 c_shorter (fCons (fVar 18) (fCons (fVar 23) fNil)))))))))) (sRet (fLit (.bl false))) sSkip)
    (sIf (fOrT (fBl (fTwo opNotIn (fTwo opIx (fLook 19) (fNeg (fLit (.int 1)))) (fCall 4 c_ends_of (fCons (fVar 6) (fCons (fVar 7) (fCons (fVar 4) (fCons (fVar 18) fNil))))))) (fOrT (fBl (fTwo opLt (fOne opLen (fTwo opIx (fLook 19) (fNeg (fLit (.int 1))))) (fOne opLen (fFld a_run (fLook 10))))) (fBl (fTwo opNe (fOne (opBool tm) (fCall 3 c_judge_run (fCons (fVar 6) (fCons (fVar 7) (fCons (fTwo opIx (fLook 19) (fNeg (fLit (.int 1)))) fNil))))) (fTwo opEq (fOne opLen (fTwo opIx (fLook 19) (fNeg (fLit (.int 1))))) (fOne opLen (fFld a_run (fLook 10)))))))) (sRet (fLit (.bl false))) sSkip))))
    (sIf (fBl (fTwo opNe (fTwo opIx (fCall 4 c_cut_down (fCons (fVar 6) (fCons (fVar 7) (fCons (fVar 16) (fCons (fLst (fCons (fLit (.str "tail")) fNil)) fNil))))) (fNeg (fLit (.int 1)))) (fSl (fLook 16) none (some (fTwo opAdd (fCall 3 c_first_failure (fCons (fVar 6) (fCons (fVar 7) (fCons (fVar 16) fNil)))) (fLit (.int 1))))))) (sRet (fLit (.bl false))) sSkip)))))) (st8 s0 R n c m M N ws (.inl run) [.val (rowsD (endsL M N c m [.tail])), .val (rowsD (endsL M N c m [.one])), .val (rowD q), a17, a18, a19, .emp, .emp, .emp, .emp, .emp, .emp]) S = .nx (st8 s0 R n c m M N ws (.inl run) [.val (rowsD (endsL M N c m [.tail])), .val (rowsD (endsL M N c m [.one])), .val (rowD q), .val (rowsD (leastL M N q)), b18, b19, .emp, .emp, .emp, .emp, .emp, .emp]) S := by
  obtain ⟨⟨h1, h2⟩, h3⟩ := mem_bad.mp hq
  have h5 : q.length ≤ 5 := Nat.le_trans h1 hm
  have h0 : 1 ≤ q.length := by
    cases q with
    | nil => cases h3
    | cons a q => exact Nat.succ_pos _
  have s1 : (sAsg 17 (fCall 3 c_least_parts (fCons (fVar 6) (fCons (fVar 7) (fCons (fVar 16) fNil))))) (st8 s0 R n c m M N ws (.inl run) [.val (rowsD (endsL M N c m [.tail])), .val (rowsD (endsL M N c m [.one])), .val (rowD q), a17, a18, a19, .emp, .emp, .emp, .emp, .emp, .emp]) S = .nx (st8 s0 R n c m M N ws (.inl run) [.val (rowsD (endsL M N c m [.tail])), .val (rowsD (endsL M N c m [.one])), .val (rowD q), .val (rowsD (leastL M N q)), a18, a19, .emp, .emp, .emp, .emp, .emp, .emp]) S := asg_ok (to3 (x := machD M) (y := machD N) (z := rowD q) rfl rfl rfl (least_ok h h' h2 h0 h5 h3))
  have s5 : (sFor (fItemsG (fTup (fCons (fVar 9) (fCons (fVar 8) (fCons (fLst (fCons (fLit (.str "one")) fNil)) fNil))))) (.one 18) (sSeq (sAsg 19 (fCall 4 c_cut_down (fCons (fVar 6) (fCons (fVar 7) (fCons (fVar 16) (fCons (fVar 18) fNil))))))
    (sSeq (sIf (fOrT (fBl (fTwo opNe (fTwo opIx (fLook 19) (fLit (.int 0))) (fLook 16))) (fOrT (fNotT (fTru tm (fCall 4 c_is_end (fCons (fVar 6) (fCons (fVar 7) (fCons (fTwo opIx (fLook 19) (fNeg (fLit (.int 1)))) (fCons (fVar 18) fNil))))))) (fTru tm (fOne (opAnyT tm) (fLc (.many [23, 24]) [23, 24] (fZip (fCons (fVar 19) (fCons (fSl (fLook 19) (some (fLit (.int 1))) none) fNil))) fYes (fOrV (fTwo opGe (fOne opLen (fLook 24)) (fOne opLen (fLook 23))) (fTwo opNotIn (fLook 24) (fCall 2 c_shorter (fCons (fVar 18) (fCons (fVar 23) fNil)))))))))) (sRet (fLit (.bl false))) sSkip)
    (sIf (fOrT (fBl (fTwo opNotIn (fTwo opIx (fLook 19) (fNeg (fLit (.int 1)))) (fCall 4 c_ends_of (fCons (fVar 6) (fCons (fVar 7) (fCons (fVar 4) (fCons (fVar 18) fNil))))))) (fOrT (fBl (fTwo opLt (fOne opLen (fTwo opIx (fLook 19) (fNeg (fLit (.int 1))))) (fOne opLen (fFld a_run (fLook 10))))) (fBl (fTwo opNe (fOne (opBool tm) (fCall 3 c_judge_run (fCons (fVar 6) (fCons (fVar 7) (fCons (fTwo opIx (fLook 19) (fNeg (fLit (.int 1)))) fNil))))) (fTwo opEq (fOne opLen (fTwo opIx (fLook 19) (fNeg (fLit (.int 1))))) (fOne opLen (fFld a_run (fLook 10)))))))) (sRet (fLit (.bl false))) sSkip)))) (st8 s0 R n c m M N ws (.inl run) [.val (rowsD (endsL M N c m [.tail])), .val (rowsD (endsL M N c m [.one])), .val (rowD q), .val (rowsD (leastL M N q)), a18, a19, .emp, .emp, .emp, .emp, .emp, .emp]) S = .nx (st8 s0 R n c m M N ws (.inl run) [.val (rowsD (endsL M N c m [.tail])), .val (rowsD (endsL M N c m [.one])), .val (rowD q), .val (rowsD (leastL M N q)), .val (waysD [.one]), .val (rowsD (cutL M N [.one] q)), .emp, .emp, .emp, .emp, .emp, .emp]) S := (for_ok (ds := [waysD ws, waysD allW, waysD [.one]]) (S1 := S) rfl).trans ((forL_nx rfl (j5 (us := ws) h h' hS hm hw e hT hw hq)).trans ((forL_nx rfl (j5 (us := allW) h h' hS hm hw e hT (by decide) hq)).trans ((forL_nx rfl (j5 (us := [.one]) h h' hS hm hw e hT (by decide) hq)).trans rfl)))
  exact ⟨_, _, (seq_nx s1).trans ((seq_nx (j2 h h' hS hm hw hq)).trans ((seq_nx (j3 h h' hS hm hw hq)).trans ((seq_nx (j4 h h' hS hm hw hT hq)).trans ((seq_nx s5).trans (j6 h h' hS hm hw e hT hq)))))⟩
theorem turns (h : Ok n c M) (h' : Ok n c N) (hS : Gd S) (hm : m ≤ 5) (hw : ws.length ≤ 3) (e : bfs M N c 300 [((0, 0), [])] [(0, 0)] = some (.inl run)) (hT : Told M N c (.inl run)) : ∀ (L : List (List Nat)) (a16 a17 a18 a19 : Sl), (∀ q ∈ L, q ∈ badL M N c m) → ∃ b16 b17 b18 b19, forL (.one 16) (sSeq (sAsg 17 (fCall 3 c_least_parts (fCons (fVar 6) (fCons (fVar 7) (fCons (fVar 16) fNil)))))
    (sSeq (sIf (fOrT (fNotT (fTru tm (fOne (opAllT tm) (fLc (.one 21) [21] (fItemsG (fLook 17)) fYes (fCall 3 c_fails (fCons (fVar 6) (fCons (fVar 7) (fCons (fLc (.one 22) [22] (fItemsG (fLook 21)) fYes (fTwo opIx (fLook 16) (fLook 22))) fNil)))))))) (fBl (fTwo opEq (fLook 17) (fLst fNil)))) (sRet (fLit (.bl false))) sSkip)
    (sSeq (sIf (fBl (fTwo opNe (fTwo opIn (fLook 16) (fLook 15)) (fNotV (fOne (opAnyT tm) (fLc (.one 22) [22] (fRng1 (fOne opLen (fLook 16))) fYes (fCall 3 c_fails (fCons (fVar 6) (fCons (fVar 7) (fCons (fTwo opAdd (fSl (fLook 16) none (some (fVar 22))) (fSl (fLook 16) (some (fTwo opAdd (fLook 22) (fLit (.int 1)))) none)) fNil))))))))) (sRet (fLit (.bl false))) sSkip)
    (sSeq (sIf (fOrT (fBl (fTwo opNe (fCall 3 c_matter (fCons (fVar 6) (fCons (fVar 7) (fCons (fVar 16) fNil)))) (fLc (.one 22) [22] (fRng1 (fOne opLen (fLook 16))) (fNotT (fTru tm (fOne (opAnyT tm) (fLc (.one 21) [21] (fItemsG (fLook 17)) fYes (fTwo opNotIn (fLook 22) (fLook 21)))))) (fVar 22)))) (fBl (fTwo opLt (fOne opMin (fLc (.one 21) [21] (fItemsG (fLook 17)) fYes (fOne opLen (fLook 21)))) (fOne opLen (fFld a_run (fLook 10)))))) (sRet (fLit (.bl false))) sSkip)
    (sSeq (sFor (fItemsG (fTup (fCons (fVar 9) (fCons (fVar 8) (fCons (fLst (fCons (fLit (.str "one")) fNil)) fNil))))) (.one 18) (sSeq (sAsg 19 (fCall 4 c_cut_down (fCons (fVar 6) (fCons (fVar 7) (fCons (fVar 16) (fCons (fVar 18) fNil))))))
    (sSeq (sIf (fOrT (fBl (fTwo opNe (fTwo opIx (fLook 19) (fLit (.int 0))) (fLook 16))) (fOrT (fNotT (fTru tm (fCall 4 c_is_end (fCons (fVar 6) (fCons (fVar 7) (fCons (fTwo opIx (fLook 19) (fNeg (fLit (.int 1)))) (fCons (fVar 18) fNil))))))) (fTru tm (fOne (opAnyT tm) (fLc (.many [23, 24]) [23, 24] (fZip (fCons (fVar 19) (fCons (fSl (fLook 19) (some (fLit (.int 1))) none) fNil))) fYes (fOrV (fTwo opGe (fOne opLen (fLook 24)) (fOne opLen (fLook 23))) (fTwo opNotIn (fLook 24) (fCall 2 c_shorter (fCons (fVar 18) (fCons (fVar 23) fNil)))))))))) (sRet (fLit (.bl false))) sSkip)
    (sIf (fOrT (fBl (fTwo opNotIn (fTwo opIx (fLook 19) (fNeg (fLit (.int 1)))) (fCall 4 c_ends_of (fCons (fVar 6) (fCons (fVar 7) (fCons (fVar 4) (fCons (fVar 18) fNil))))))) (fOrT (fBl (fTwo opLt (fOne opLen (fTwo opIx (fLook 19) (fNeg (fLit (.int 1))))) (fOne opLen (fFld a_run (fLook 10))))) (fBl (fTwo opNe (fOne (opBool tm) (fCall 3 c_judge_run (fCons (fVar 6) (fCons (fVar 7) (fCons (fTwo opIx (fLook 19) (fNeg (fLit (.int 1)))) fNil))))) (fTwo opEq (fOne opLen (fTwo opIx (fLook 19) (fNeg (fLit (.int 1))))) (fOne opLen (fFld a_run (fLook 10)))))))) (sRet (fLit (.bl false))) sSkip))))
    (sIf (fBl (fTwo opNe (fTwo opIx (fCall 4 c_cut_down (fCons (fVar 6) (fCons (fVar 7) (fCons (fVar 16) (fCons (fLst (fCons (fLit (.str "tail")) fNil)) fNil))))) (fNeg (fLit (.int 1)))) (fSl (fLook 16) none (some (fTwo opAdd (fCall 3 c_first_failure (fCons (fVar 6) (fCons (fVar 7) (fCons (fVar 16) fNil)))) (fLit (.int 1))))))) (sRet (fLit (.bl false))) sSkip)))))) (L.map rowD) (st8 s0 R n c m M N ws (.inl run) [.val (rowsD (endsL M N c m [.tail])), .val (rowsD (endsL M N c m [.one])), a16, a17, a18, a19, .emp, .emp, .emp, .emp, .emp, .emp]) S = .nx (st8 s0 R n c m M N ws (.inl run) [.val (rowsD (endsL M N c m [.tail])), .val (rowsD (endsL M N c m [.one])), b16, b17, b18, b19, .emp, .emp, .emp, .emp, .emp, .emp]) S
  | [], a16, a17, a18, a19, _ => ⟨a16, a17, a18, a19, rfl⟩
  | q :: L, a16, a17, a18, a19, hq => by
    obtain ⟨b18, b19, e1⟩ := turn (s0 := s0) (R := R) (a17 := a17) (a18 := a18) (a19 := a19) h h' hS hm hw e hT (hq q List.mem_cons_self)
    obtain ⟨c16, c17, c18, c19, e2⟩ := turns h h' hS hm hw e hT L (.val (rowD q)) (.val (rowsD (leastL M N q))) b18 b19 fun x hx => hq x (List.mem_cons_of_mem _ hx)
    exact ⟨c16, c17, c18, c19, (forL_nx rfl e1).trans e2⟩
theorem i17 (h : Ok n c M) (h' : Ok n c N) (hS : Gd S) (hm : m ≤ 5) (hw : ws.length ≤ 3) (e : bfs M N c 300 [((0, 0), [])] [(0, 0)] = some res) (hT : Told M N c res) : ∃ b16 b17 b18 b19, b_law_17 (st8 s0 R n c m M N ws res [.val (rowsD (endsL M N c m [.tail])), .val (rowsD (endsL M N c m [.one])), .emp, .emp, .emp, .emp, .emp, .emp, .emp, .emp, .emp, .emp]) S = .nx (st8 s0 R n c m M N ws res [.val (rowsD (endsL M N c m [.tail])), .val (rowsD (endsL M N c m [.one])), b16, b17, b18, b19, .emp, .emp, .emp, .emp, .emp, .emp]) S := by
  have hi : (fItemsG (fSl (fLook 11) none (some (fLit (.int 14))))) (st8 s0 R n c m M N ws res [.val (rowsD (endsL M N c m [.tail])), .val (rowsD (endsL M N c m [.one])), .emp, .emp, .emp, .emp, .emp, .emp, .emp, .emp, .emp, .emp]) S = .ok (((badL M N c m).take 14).map rowD) S := items_ok (by
    show Out.ok (D.lst (cutD ((badL M N c m).map rowD) none (some ((14 : Nat) : Int)))) S = _
    rw [cutG_lo, List.map_take])
  cases res with
  | inl run =>
    obtain ⟨b16, b17, b18, b19, e2⟩ := turns (s0 := s0) (R := R) h h' hS hm hw e hT ((badL M N c m).take 14) .emp .emp .emp .emp fun q hq => List.mem_of_mem_take hq
    exact ⟨b16, b17, b18, b19, (for_ok hi).trans e2⟩
  | inr k =>
    have hb : badL M N c m = [] := by
      cases eb : badL M N c m with
      | nil => rfl
      | cons b bs =>
        have hq : b ∈ badL M N c m := by rw [eb]; exact List.mem_cons_self
        obtain ⟨⟨h1, h2⟩, h3⟩ := mem_bad.mp hq
        have := hT b h2
        rw [this] at h3
        cases h3
    refine ⟨.emp, .emp, .emp, .emp, (for_ok hi).trans ?_⟩
    rw [hb]
    rfl
theorem has_bad (hq : q ∈ upto c m) : (badL M N c m).contains q = failsB M N q := by
  obtain ⟨h1, h2⟩ := mem_upto.mp hq
  rw [Bool.eq_iff_iff, List.contains_iff_mem, mem_bad]
  exact ⟨fun z => z.2, fun z => ⟨⟨h1, h2⟩, z⟩⟩
theorem each (h : Ok n c M) (h' : Ok n c N) (hS : Gd S) (hm : m ≤ 5) (hw : ws.length ≤ 3) : ∀ (L : List (List Nat)) (a16 : Sl), (∀ q ∈ L, q ∈ upto c m) → ∃ b16, forL (.one 16) (sIf (fOrT (fBl (fTwo opNe (fTwo opIn (fLook 16) (fLook 11)) (fCall 3 c_fails (fCons (fVar 6) (fCons (fVar 7) (fCons (fVar 16) fNil)))))) (fBl (fTwo opNe (fTwo opIsN (fCall 3 c_first_failure (fCons (fVar 6) (fCons (fVar 7) (fCons (fVar 16) fNil)))) (fLit .non)) (fTwo opNotIn (fLook 16) (fLook 11))))) (sRet (fLit (.bl false))) sSkip) (L.map rowD) (st8 s0 R n c m M N ws res [.val (rowsD (endsL M N c m [.tail])), .val (rowsD (endsL M N c m [.one])), a16, a17, a18, a19, .emp, .emp, .emp, .emp, .emp, .emp]) S = .nx (st8 s0 R n c m M N ws res [.val (rowsD (endsL M N c m [.tail])), .val (rowsD (endsL M N c m [.one])), b16, a17, a18, a19, .emp, .emp, .emp, .emp, .emp, .emp]) S
  | [], a16, _ => ⟨a16, rfl⟩
  | q :: L, a16, hq => by
    obtain ⟨b16, e2⟩ := each h h' hS hm hw L (.val (rowD q)) fun x hx => hq x (List.mem_cons_of_mem _ hx)
    have hu := hq q List.mem_cons_self
    obtain ⟨h1, h2⟩ := mem_upto.mp hu
    have e1 : (sIf (fOrT (fBl (fTwo opNe (fTwo opIn (fLook 16) (fLook 11)) (fCall 3 c_fails (fCons (fVar 6) (fCons (fVar 7) (fCons (fVar 16) fNil)))))) (fBl (fTwo opNe (fTwo opIsN (fCall 3 c_first_failure (fCons (fVar 6) (fCons (fVar 7) (fCons (fVar 16) fNil)))) (fLit .non)) (fTwo opNotIn (fLook 16) (fLook 11))))) (sRet (fLit (.bl false))) sSkip) (st8 s0 R n c m M N ws res [.val (rowsD (endsL M N c m [.tail])), .val (rowsD (endsL M N c m [.one])), .val (rowD q), a17, a18, a19, .emp, .emp, .emp, .emp, .emp, .emp]) S = .nx (st8 s0 R n c m M N ws res [.val (rowsD (endsL M N c m [.tail])), .val (rowsD (endsL M N c m [.one])), .val (rowD q), a17, a18, a19, .emp, .emp, .emp, .emp, .emp, .emp]) S := by
      refine if_f (orT_f (bl_ok ((two_to (two_to rfl rfl opIn_rows) (fails_call h h' rfl isR h2 (len_lim hm hu)) opNe_bl).trans (by rw [has_bad hu, bne_self_eq_false]))) ?_)
      rcases ffO_spec (M := M) (N := N) q with ⟨e3, e0⟩ | ⟨k, e3, hk, e0, hfk⟩
      · exact bl_ok ((two_to (two_to (x := .non) (y := .non) ((ff_call h h' rfl h2 (len_lim hm hu)).trans (by rw [e3]; rfl)) rfl (show opIsN .non .non S = .ok (.bl true) S from rfl)) (two_to rfl rfl opNotIn_rows) opNe_bl).trans (by rw [has_bad hu, e0]; rfl))
      · exact bl_ok ((two_to (two_to (x := natD k) (y := .non) ((ff_call h h' rfl h2 (len_lim hm hu)).trans (by rw [e3]; rfl)) rfl (show opIsN (natD k) .non S = .ok (.bl false) S from rfl)) (two_to rfl rfl opNotIn_rows) opNe_bl).trans (by rw [has_bad hu, e0]; rfl))
    exact ⟨b16, (forL_nx rfl e1).trans e2⟩
theorem i18 (h : Ok n c M) (h' : Ok n c N) (hS : Gd S) (hm : m ≤ 5) (hw : ws.length ≤ 3) : ∃ b16, b_law_18 (st8 s0 R n c m M N ws res [.val (rowsD (endsL M N c m [.tail])), .val (rowsD (endsL M N c m [.one])), a16, a17, a18, a19, .emp, .emp, .emp, .emp, .emp, .emp]) S = .nx (st8 s0 R n c m M N ws res [.val (rowsD (endsL M N c m [.tail])), .val (rowsD (endsL M N c m [.one])), b16, a17, a18, a19, .emp, .emp, .emp, .emp, .emp, .emp]) S := by
  have hr : fCall 2 c_runs_of (fCons (fVar 6) (fCons (fVar 4) fNil)) (st8 s0 R n c m M N ws res [.val (rowsD (endsL M N c m [.tail])), .val (rowsD (endsL M N c m [.one])), a16, a17, a18, a19, .emp, .emp, .emp, .emp, .emp, .emp]) S = .ok (.lst ((upto c m).map rowD)) S := to2 (x := machD M) (y := natD m) rfl rfl (runs_ok h hm)
  have hi : (fItemsG (fSl (fCall 2 c_runs_of (fCons (fVar 6) (fCons (fVar 4) fNil))) none (some (fLit (.int 40))))) (st8 s0 R n c m M N ws res [.val (rowsD (endsL M N c m [.tail])), .val (rowsD (endsL M N c m [.one])), a16, a17, a18, a19, .emp, .emp, .emp, .emp, .emp, .emp]) S = .ok (((upto c m).take 40).map rowD) S := items_ok (by
    unfold fSl
    rw [hr]
    show Out.ok (D.lst (cutD ((upto c m).map rowD) none (some ((40 : Nat) : Int)))) S = _
    rw [cutG_lo, List.map_take])
  obtain ⟨b16, e2⟩ := each (s0 := s0) (R := R) (res := res) (a17 := a17) (a18 := a18) (a19 := a19) h h' hS hm hw ((upto c m).take 40) a16 fun q hq => List.mem_of_mem_take hq
  exact ⟨b16, (for_ok hi).trans e2⟩
theorem i19 (h : Ok n c M) (h' : Ok n c N) (hS : Gd S) (hm : m ≤ 5) (hw : ws.length ≤ 3) (e : bfs M N c 300 [((0, 0), [])] [(0, 0)] = some res) (hT : Told M N c res) : b_law_19 (st8 s0 R n c m M N ws res [.val (rowsD (endsL M N c m [.tail])), .val (rowsD (endsL M N c m [.one])), a16, a17, a18, a19, .emp, .emp, .emp, .emp, .emp, .emp]) S = .nx (st8 s0 R n c m M N ws res [.val (rowsD (endsL M N c m [.tail])), .val (rowsD (endsL M N c m [.one])), a16, a17, a18, a19, .emp, .emp, .emp, .emp, .emp, .emp]) S := by
  have hne : fBl (fTwo opNe (fLook 11) (fLst fNil)) (st8 s0 R n c m M N ws res [.val (rowsD (endsL M N c m [.tail])), .val (rowsD (endsL M N c m [.one])), a16, a17, a18, a19, .emp, .emp, .emp, .emp, .emp, .emp]) S = .ok (!decide (badL M N c m = [])) S := bl_ok (two_to rfl rfl (opNe_rows (B := [])))
  have htr : fTru tm (fVar 10) (st8 s0 R n c m M N ws res [.val (rowsD (endsL M N c m [.tail])), .val (rowsD (endsL M N c m [.one])), a16, a17, a18, a19, .emp, .emp, .emp, .emp, .emp, .emp]) S = .ok (papB res) S := tru_to rfl tru_paper
  unfold b_law_19
  cases res with
  | inl run =>
    refine if_f (orT_f (andT_f htr fun z => nomatch z) (andT_f (notT htr) fun _ => andT_f (bl_ok (two_to (one_to (x := rowD run) rfl len_row) rfl le_nat)) fun z => ?_))
    have z : run.length ≤ m := of_decide_eq_true z
    cases eb : badL M N c m with
    | nil =>
      have : run ∈ badL M N c m := mem_bad.mpr ⟨⟨z, hT.1⟩, hT.2.1⟩
      rw [eb] at this
      cases this
    | cons b bs =>
      have hr : run ∈ badL M N c m := mem_bad.mpr ⟨⟨z, hT.1⟩, hT.2.1⟩
      have hb : b ∈ badL M N c m := by rw [eb]; exact List.mem_cons_self
      obtain ⟨⟨h1, h2⟩, h3⟩ := mem_bad.mp hb
      have g1 := hT.2.2 b h2 h3
      have g2 := bad_head eb run hr
      refine orT_f (bl_ok ((two_to rfl rfl (opEq_rows (A := badL M N c m) (B := []))).trans (by rw [eb, decide_eq_false (by simp)]))) (bl_ok ((two_to (one_to (two_to (y := natD 0) rfl rfl (ix_L (k := 0) (d := rowD b) (by rw [eb]; rfl))) len_row) (one_to (x := rowD run) rfl len_row) opNe_nat).trans (by rw [decide_eq_true (by omega)]; rfl)))
  | inr k =>
    refine if_f (orT_f (andT_f htr fun _ => ?_) (andT_f (notT htr) fun z => nomatch z))
    rw [hne]
    cases eb : badL M N c m with
    | nil => rfl
    | cons b bs =>
      have hb : b ∈ badL M N c m := by rw [eb]; exact List.mem_cons_self
      obtain ⟨⟨h1, h2⟩, h3⟩ := mem_bad.mp hb
      have := hT b h2
      rw [this] at h3
      cases h3
theorem few (h : Ok n c M) (h' : Ok n c N) (hS : Gd S) (hm : m ≤ 5) (hw : ws.length ≤ 3) : ∀ (L : List (List Nat)) (a16 : Sl), (∀ q ∈ L, q.length ≤ 2 ∧ ∀ k ∈ q, k ∈ [0, 1, 2]) → ∃ b16, forL (.one 16) (sIf (fOrT (fBl (fTwo opGt (fOne opLen (fLook 16)) (fLit (.int 2)))) (fTru tm (fOne (opAnyT tm) (fLc (.one 25) [25] (fItemsG (fLook 16)) fYes (fTwo opNotIn (fLook 25) (fTup (fCons (fLit (.int 0)) (fCons (fLit (.int 1)) (fCons (fLit (.int 2)) fNil))))))))) (sRet (fLit (.bl false))) sSkip) (L.map rowD) (st8 s0 R n c m M N ws res [.val (rowsD (endsL M N c m [.tail])), .val (rowsD (endsL M N c m [.one])), a16, a17, a18, a19, .emp, .emp, .emp, .emp, .emp, .emp]) S = .nx (st8 s0 R n c m M N ws res [.val (rowsD (endsL M N c m [.tail])), .val (rowsD (endsL M N c m [.one])), b16, a17, a18, a19, .emp, .emp, .emp, .emp, .emp, .emp]) S
  | [], a16, _ => ⟨a16, rfl⟩
  | q :: L, a16, hq => by
    obtain ⟨b16, e2⟩ := few h h' hS hm hw L (.val (rowD q)) fun x hx => hq x (List.mem_cons_of_mem _ hx)
    obtain ⟨h1, h2⟩ := hq q List.mem_cons_self
    have e1 : (sIf (fOrT (fBl (fTwo opGt (fOne opLen (fLook 16)) (fLit (.int 2)))) (fTru tm (fOne (opAnyT tm) (fLc (.one 25) [25] (fItemsG (fLook 16)) fYes (fTwo opNotIn (fLook 25) (fTup (fCons (fLit (.int 0)) (fCons (fLit (.int 1)) (fCons (fLit (.int 2)) fNil))))))))) (sRet (fLit (.bl false))) sSkip) (st8 s0 R n c m M N ws res [.val (rowsD (endsL M N c m [.tail])), .val (rowsD (endsL M N c m [.one])), .val (rowD q), a17, a18, a19, .emp, .emp, .emp, .emp, .emp, .emp]) S = .nx (st8 s0 R n c m M N ws res [.val (rowsD (endsL M N c m [.tail])), .val (rowsD (endsL M N c m [.one])), .val (rowD q), a17, a18, a19, .emp, .emp, .emp, .emp, .emp, .emp]) S := by
      refine if_f (orT_f (bl_ok ((two_to (y := natD 2) (one_to (x := rowD q) rfl len_row) rfl gt_nat).trans (by rw [decide_eq_false (by omega)]))) (tru_bl ((any_lc (enc := natD) (xs := q) (p := fun k => ![0, 1, 2].contains k) (lim5 (by omega)) (itemsT_ok rfl) fun k hk => ⟨(st8 s0 R n c m M N ws res [.val (rowsD (endsL M N c m [.tail])), .val (rowsD (endsL M N c m [.one])), .val (rowD q), a17, a18, a19, .emp, .emp, .emp, .emp, .emp, .val (natD k)]), rfl, two_to (x := natD k) (y := rowD [0, 1, 2]) rfl rfl opNotIn_row⟩).trans ?_)))
      rw [List.any_eq_false.mpr fun k hk => by rw [List.contains_iff_mem.mpr (h2 k hk)]; exact Bool.false_ne_true]
    exact ⟨b16, (forL_nx rfl e1).trans e2⟩
theorem i20 (h : Ok n c M) (h' : Ok n c N) (hS : Gd S) (hm : m ≤ 5) (hw : ws.length ≤ 3) : ∃ b16, b_law_20 (st8 s0 R n c m M N ws res [.val (rowsD (endsL M N c m [.tail])), .val (rowsD (endsL M N c m [.one])), a16, a17, a18, a19, .emp, .emp, .emp, .emp, .emp, .emp]) S = .nx (st8 s0 R n c m M N ws res [.val (rowsD (endsL M N c m [.tail])), .val (rowsD (endsL M N c m [.one])), b16, a17, a18, a19, .emp, .emp, .emp, .emp, .emp, .emp]) S := by
  have hi : (fItemsG (fCall 2 c_shorter (fCons (fVar 8) (fCons (fRgT (fLit (.int 3))) fNil)))) (st8 s0 R n c m M N ws res [.val (rowsD (endsL M N c m [.tail])), .val (rowsD (endsL M N c m [.one])), a16, a17, a18, a19, .emp, .emp, .emp, .emp, .emp, .emp]) S = .ok ((shL allW [0, 1, 2]).map rowD) S := items_ok (to2 (x := waysD allW) (y := rowD [0, 1, 2]) rfl rfl (shorter_ok (by decide) (by decide)))
  obtain ⟨b16, e2⟩ := few (s0 := s0) (R := R) (res := res) (a17 := a17) (a18 := a18) (a19 := a19) h h' hS hm hw (shL allW [0, 1, 2]) a16 (by
    rw [show shL allW [0, 1, 2] = [[1, 2], [0, 2], [0, 1], [0], []] from rfl]
    decide)
  exact ⟨b16, (for_ok hi).trans e2⟩
theorem short_eq {us : List Wy} {q : List Nat} {C : List (List Nat)} {f g k : Ef D} (hf : f ρ S = .ok (waysD us) S) (hg : g ρ S = .ok (rowD q) S) (hk : k ρ S = .ok (rowsD C) S) (hu : us.length ≤ 3) (hq : q.length ≤ 3) (e : shL us q = C) : fTwo opEq (fCall 2 c_shorter (fCons f (fCons g fNil))) k ρ S = .ok (.bl true) S := two_to (to2 hf hg (shorter_ok (by omega) (by omega))) hk (opEq_rows.trans (by rw [decide_eq_true e]))
theorem i21 : b_law_21 (st8 s0 R n c m M N ws res [.val (rowsD (endsL M N c m [.tail])), .val (rowsD (endsL M N c m [.one])), a16, a17, a18, a19, .emp, .emp, .emp, .emp, .emp, .emp]) S = .rt (.bl true) S := ret_ok (andV_t (short_eq (us := [.tail]) (q := [0, 0]) (C := [[], [0]]) rfl rfl rfl (by decide) (by decide) rfl) (andV_t (short_eq (us := [.one]) (q := [0, 0]) (C := [[0]]) rfl rfl rfl (by decide) (by decide) rfl) (short_eq (us := [.half]) (q := [0, 1, 2]) (C := [[1, 2], [0]]) rfl rfl rfl (by decide) (by decide) rfl)))
end
theorem law_true (ns : List Int) (hz : ns.length ≤ 63) : c_law [.lst (ns.map .int)] [] = .ok (.bl true) [] := by
  obtain ⟨n, c, m, M, N, ws, j, h, h', hm, hw, e0⟩ := setup hz
  obtain ⟨res, e, hT⟩ := judge_told h h'
  have hS : Gd (Sj ns j []) := gd_Sj
  obtain ⟨b16, b17, b18, b19, e17⟩ := i17 (s0 := scr ns) (R := rawD M) h h' hS hm hw e hT
  obtain ⟨c16, e18⟩ := i18 (s0 := scr ns) (R := rawD M) (res := res) (a16 := b16) (a17 := b17) (a18 := b18) (a19 := b19) h h' hS hm hw
  obtain ⟨d16, e20⟩ := i20 (s0 := scr ns) (R := rawD M) (res := res) (a16 := c16) (a17 := b17) (a18 := b18) (a19 := b19) h h' hS hm hw
  refine fn_drop (S0 := []) rfl rfl rfl (?_ : b_law (startR 26 [scr ns]) [] = .rt (.bl true) (Sj ns j []))
  exact (e0 _).trans ((fill h h' hS hm hw e _).trans ((seq_nx (i9 h h' hS hm hw)).trans ((seq_nx (i10 h h' hS hm hw)).trans ((seq_nx (i11 h h' hS hm hw)).trans ((seq_nx (i12 h h' hS hm hw)).trans ((seq_nx (i13 h h' hS hm hw)).trans ((seq_nx (i14 h h' hS hm hw)).trans ((seq_nx (i15 h h' hS hm hw)).trans ((seq_nx (i16 h h' hS hm hw)).trans ((seq_nx e17).trans ((seq_nx e18).trans ((seq_nx (i19 h h' hS hm hw e hT)).trans ((seq_nx e20).trans i21)))))))))))))
end K29

namespace K29
open PySem PySem.Spec L2 PyD
structure Adr where
  mk ::
  is_row : Addr
  is_number : Addr
  is_below : Addr
  sets_of : Addr
  Alike_bool : Addr
  Differs_bool : Addr
  EndsLong_bool : Addr
  EndsShort_bool : Addr
  Longer_bool : Addr
  Shortest_bool : Addr
  is_answer : Addr
  Machine_init : Addr
  Machine_commands : Addr
  Machine_run : Addr
  check_two : Addr
  Alike_init : Addr
  Differs_init : Addr
  fails : Addr
  judge_machine : Addr
  runs_of : Addr
  failing_runs : Addr
  check_failing : Addr
  check_ways : Addr
  tried : Addr
  shorter : Addr
  cut_down : Addr
  is_end : Addr
  least_parts : Addr
  matter : Addr
  Shortest_init : Addr
  Longer_init : Addr
  judge_run : Addr
  ends_of : Addr
  EndsShort_init : Addr
  EndsShort_eq : Addr
  EndsLong_init : Addr
  judge_ways : Addr
  first_failure : Addr
  u_law_number : Addr
  u_law_take : Addr
  u_law_machine : Addr
  u_law_bent : Addr
  law : Addr
  C_EndsShort : Addr
  C_Machine : Addr
  C_Alike : Addr
  C_Differs : Addr
  C_Shortest : Addr
  C_Longer : Addr
  C_EndsLong : Addr
abbrev LL (K : PySem.W.Frag) (A : Adr) : Lk := ⟨K, fun i => match i with
  | 0 => A.C_EndsShort
  | 1 => A.C_Machine
  | 2 => A.C_Alike
  | 3 => A.C_Differs
  | 4 => A.C_Shortest
  | 5 => A.C_Longer
  | 6 => A.C_EndsLong
  | _ => 0, fun i => match i with
  | 0 => ["runs"]
  | 1 => ["rows"]
  | 2 => ["pairs"]
  | 3 => ["run"]
  | 4 => ["many"]
  | 5 => ["run"]
  | 6 => ["run"]
  | _ => []⟩
structure Txt (w : World) (K : PySem.W.Frag) (mg : Str → Option Value) (A : Adr) : Prop where
  h_is_row : ∃ fd, Fun K "is_row" "is_row" s_is_row A.is_row fd ∧ Binds K fd P_is_row []
  m_is_row : mg "is_row" = some (.ref A.is_row)
  kp_is_row : PySem.W.keepIn K (.ref A.is_row) = true
  h_is_number : ∃ fd, Fun K "is_number" "is_number" s_is_number A.is_number fd ∧ Binds K fd P_is_number []
  m_is_number : mg "is_number" = some (.ref A.is_number)
  kp_is_number : PySem.W.keepIn K (.ref A.is_number) = true
  h_is_below : ∃ fd, Fun K "is_below" "is_below" s_is_below A.is_below fd ∧ Binds K fd P_is_below []
  m_is_below : mg "is_below" = some (.ref A.is_below)
  kp_is_below : PySem.W.keepIn K (.ref A.is_below) = true
  h_sets_of : ∃ fd, Fun K "sets_of" "sets_of" s_sets_of A.sets_of fd ∧ Binds K fd P_sets_of []
  m_sets_of : mg "sets_of" = some (.ref A.sets_of)
  kp_sets_of : PySem.W.keepIn K (.ref A.sets_of) = true
  h_Alike_bool : ∃ fd, Fun K "__bool__" "Alike.__bool__" s_Alike_bool A.Alike_bool fd ∧ Binds K fd P_Alike_bool []
  kp_Alike_bool : PySem.W.keepIn K (.ref A.Alike_bool) = true
  h_Differs_bool : ∃ fd, Fun K "__bool__" "Differs.__bool__" s_Differs_bool A.Differs_bool fd ∧ Binds K fd P_Differs_bool []
  kp_Differs_bool : PySem.W.keepIn K (.ref A.Differs_bool) = true
  h_EndsLong_bool : ∃ fd, Fun K "__bool__" "EndsLong.__bool__" s_EndsLong_bool A.EndsLong_bool fd ∧ Binds K fd P_EndsLong_bool []
  kp_EndsLong_bool : PySem.W.keepIn K (.ref A.EndsLong_bool) = true
  h_EndsShort_bool : ∃ fd, Fun K "__bool__" "EndsShort.__bool__" s_EndsShort_bool A.EndsShort_bool fd ∧ Binds K fd P_EndsShort_bool []
  kp_EndsShort_bool : PySem.W.keepIn K (.ref A.EndsShort_bool) = true
  h_Longer_bool : ∃ fd, Fun K "__bool__" "Longer.__bool__" s_Longer_bool A.Longer_bool fd ∧ Binds K fd P_Longer_bool []
  kp_Longer_bool : PySem.W.keepIn K (.ref A.Longer_bool) = true
  h_Shortest_bool : ∃ fd, Fun K "__bool__" "Shortest.__bool__" s_Shortest_bool A.Shortest_bool fd ∧ Binds K fd P_Shortest_bool []
  kp_Shortest_bool : PySem.W.keepIn K (.ref A.Shortest_bool) = true
  h_is_answer : ∃ fd, Fun K "is_answer" "is_answer" s_is_answer A.is_answer fd ∧ Binds K fd P_is_answer []
  m_is_answer : mg "is_answer" = some (.ref A.is_answer)
  kp_is_answer : PySem.W.keepIn K (.ref A.is_answer) = true
  h_Machine_init : ∃ fd, Fun K "__init__" "Machine.__init__" s_Machine_init A.Machine_init fd ∧ Binds K fd P_Machine_init []
  kp_Machine_init : PySem.W.keepIn K (.ref A.Machine_init) = true
  h_Machine_commands : ∃ fd, Fun K "commands" "Machine.commands" s_Machine_commands A.Machine_commands fd ∧ Binds K fd P_Machine_commands []
  kp_Machine_commands : PySem.W.keepIn K (.ref A.Machine_commands) = true
  h_Machine_run : ∃ fd, Fun K "run" "Machine.run" s_Machine_run A.Machine_run fd ∧ Binds K fd P_Machine_run []
  kp_Machine_run : PySem.W.keepIn K (.ref A.Machine_run) = true
  h_check_two : ∃ fd, Fun K "check_two" "check_two" s_check_two A.check_two fd ∧ Binds K fd P_check_two []
  m_check_two : mg "check_two" = some (.ref A.check_two)
  kp_check_two : PySem.W.keepIn K (.ref A.check_two) = true
  h_Alike_init : ∃ fd, Fun K "__init__" "Alike.__init__" s_Alike_init A.Alike_init fd ∧ Binds K fd P_Alike_init []
  kp_Alike_init : PySem.W.keepIn K (.ref A.Alike_init) = true
  h_Differs_init : ∃ fd, Fun K "__init__" "Differs.__init__" s_Differs_init A.Differs_init fd ∧ Binds K fd P_Differs_init []
  kp_Differs_init : PySem.W.keepIn K (.ref A.Differs_init) = true
  h_fails : ∃ fd, Fun K "fails" "fails" s_fails A.fails fd ∧ Binds K fd P_fails []
  m_fails : mg "fails" = some (.ref A.fails)
  kp_fails : PySem.W.keepIn K (.ref A.fails) = true
  h_judge_machine : ∃ fd, Fun K "judge_machine" "judge_machine" s_judge_machine A.judge_machine fd ∧ Binds K fd P_judge_machine []
  m_judge_machine : mg "judge_machine" = some (.ref A.judge_machine)
  kp_judge_machine : PySem.W.keepIn K (.ref A.judge_machine) = true
  h_runs_of : ∃ fd, Fun K "runs_of" "runs_of" s_runs_of A.runs_of fd ∧ Binds K fd P_runs_of []
  m_runs_of : mg "runs_of" = some (.ref A.runs_of)
  kp_runs_of : PySem.W.keepIn K (.ref A.runs_of) = true
  h_failing_runs : ∃ fd, Fun K "failing_runs" "failing_runs" s_failing_runs A.failing_runs fd ∧ Binds K fd P_failing_runs []
  m_failing_runs : mg "failing_runs" = some (.ref A.failing_runs)
  kp_failing_runs : PySem.W.keepIn K (.ref A.failing_runs) = true
  h_check_failing : ∃ fd, Fun K "check_failing" "check_failing" s_check_failing A.check_failing fd ∧ Binds K fd P_check_failing []
  m_check_failing : mg "check_failing" = some (.ref A.check_failing)
  kp_check_failing : PySem.W.keepIn K (.ref A.check_failing) = true
  h_check_ways : ∃ fd, Fun K "check_ways" "check_ways" s_check_ways A.check_ways fd ∧ Binds K fd P_check_ways []
  m_check_ways : mg "check_ways" = some (.ref A.check_ways)
  kp_check_ways : PySem.W.keepIn K (.ref A.check_ways) = true
  h_tried : ∃ fd, Fun K "tried" "tried" s_tried A.tried fd ∧ Binds K fd P_tried []
  m_tried : mg "tried" = some (.ref A.tried)
  kp_tried : PySem.W.keepIn K (.ref A.tried) = true
  h_shorter : ∃ fd, Fun K "shorter" "shorter" s_shorter A.shorter fd ∧ Binds K fd P_shorter []
  m_shorter : mg "shorter" = some (.ref A.shorter)
  kp_shorter : PySem.W.keepIn K (.ref A.shorter) = true
  h_cut_down : ∃ fd, Fun K "cut_down" "cut_down" s_cut_down A.cut_down fd ∧ Binds K fd P_cut_down []
  m_cut_down : mg "cut_down" = some (.ref A.cut_down)
  kp_cut_down : PySem.W.keepIn K (.ref A.cut_down) = true
  h_is_end : ∃ fd, Fun K "is_end" "is_end" s_is_end A.is_end fd ∧ Binds K fd P_is_end []
  m_is_end : mg "is_end" = some (.ref A.is_end)
  kp_is_end : PySem.W.keepIn K (.ref A.is_end) = true
  h_least_parts : ∃ fd, Fun K "least_parts" "least_parts" s_least_parts A.least_parts fd ∧ Binds K fd P_least_parts []
  m_least_parts : mg "least_parts" = some (.ref A.least_parts)
  kp_least_parts : PySem.W.keepIn K (.ref A.least_parts) = true
  h_matter : ∃ fd, Fun K "matter" "matter" s_matter A.matter fd ∧ Binds K fd P_matter []
  m_matter : mg "matter" = some (.ref A.matter)
  kp_matter : PySem.W.keepIn K (.ref A.matter) = true
  h_Shortest_init : ∃ fd, Fun K "__init__" "Shortest.__init__" s_Shortest_init A.Shortest_init fd ∧ Binds K fd P_Shortest_init []
  kp_Shortest_init : PySem.W.keepIn K (.ref A.Shortest_init) = true
  h_Longer_init : ∃ fd, Fun K "__init__" "Longer.__init__" s_Longer_init A.Longer_init fd ∧ Binds K fd P_Longer_init []
  kp_Longer_init : PySem.W.keepIn K (.ref A.Longer_init) = true
  h_judge_run : ∃ fd, Fun K "judge_run" "judge_run" s_judge_run A.judge_run fd ∧ Binds K fd P_judge_run []
  m_judge_run : mg "judge_run" = some (.ref A.judge_run)
  kp_judge_run : PySem.W.keepIn K (.ref A.judge_run) = true
  h_ends_of : ∃ fd, Fun K "ends_of" "ends_of" s_ends_of A.ends_of fd ∧ Binds K fd P_ends_of []
  m_ends_of : mg "ends_of" = some (.ref A.ends_of)
  kp_ends_of : PySem.W.keepIn K (.ref A.ends_of) = true
  h_EndsShort_init : ∃ fd, Fun K "__init__" "EndsShort.__init__" s_EndsShort_init A.EndsShort_init fd ∧ Binds K fd P_EndsShort_init []
  kp_EndsShort_init : PySem.W.keepIn K (.ref A.EndsShort_init) = true
  h_EndsShort_eq : ∃ fd, Fun K "__eq__" "EndsShort.__eq__" s_EndsShort_eq A.EndsShort_eq fd ∧ Binds K fd P_EndsShort_eq []
  kp_EndsShort_eq : PySem.W.keepIn K (.ref A.EndsShort_eq) = true
  h_EndsLong_init : ∃ fd, Fun K "__init__" "EndsLong.__init__" s_EndsLong_init A.EndsLong_init fd ∧ Binds K fd P_EndsLong_init []
  kp_EndsLong_init : PySem.W.keepIn K (.ref A.EndsLong_init) = true
  h_judge_ways : ∃ fd, Fun K "judge_ways" "judge_ways" s_judge_ways A.judge_ways fd ∧ Binds K fd P_judge_ways []
  m_judge_ways : mg "judge_ways" = some (.ref A.judge_ways)
  kp_judge_ways : PySem.W.keepIn K (.ref A.judge_ways) = true
  h_first_failure : ∃ fd, Fun K "first_failure" "first_failure" s_first_failure A.first_failure fd ∧ Binds K fd P_first_failure []
  m_first_failure : mg "first_failure" = some (.ref A.first_failure)
  kp_first_failure : PySem.W.keepIn K (.ref A.first_failure) = true
  h_u_law_number : ∃ fd, Fun K "_law_number" "_law_number" s_u_law_number A.u_law_number fd ∧ Binds K fd P_u_law_number []
  m_u_law_number : mg "_law_number" = some (.ref A.u_law_number)
  kp_u_law_number : PySem.W.keepIn K (.ref A.u_law_number) = true
  h_u_law_take : ∃ fd, Fun K "_law_take" "_law_take" s_u_law_take A.u_law_take fd ∧ Binds K fd P_u_law_take []
  m_u_law_take : mg "_law_take" = some (.ref A.u_law_take)
  kp_u_law_take : PySem.W.keepIn K (.ref A.u_law_take) = true
  h_u_law_machine : ∃ fd, Fun K "_law_machine" "_law_machine" s_u_law_machine A.u_law_machine fd ∧ Binds K fd P_u_law_machine []
  m_u_law_machine : mg "_law_machine" = some (.ref A.u_law_machine)
  kp_u_law_machine : PySem.W.keepIn K (.ref A.u_law_machine) = true
  h_u_law_bent : ∃ fd, Fun K "_law_bent" "_law_bent" s_u_law_bent A.u_law_bent fd ∧ Binds K fd P_u_law_bent []
  m_u_law_bent : mg "_law_bent" = some (.ref A.u_law_bent)
  kp_u_law_bent : PySem.W.keepIn K (.ref A.u_law_bent) = true
  h_law : ∃ fd, Fun K "law" "law" s_law A.law fd ∧ Binds K fd P_law []
  m_law : mg "law" = some (.ref A.law)
  kp_law : PySem.W.keepIn K (.ref A.law) = true
  ck_EndsShort : Ck (LL K A) 0 ["runs"]
  m_EndsShort : mg "EndsShort" = some (.ref A.C_EndsShort)
  mk_EndsShort : Mk K A.C_EndsShort A.EndsShort_init
  ck_Machine : Ck (LL K A) 1 ["rows"]
  m_Machine : mg "Machine" = some (.ref A.C_Machine)
  mk_Machine : Mk K A.C_Machine A.Machine_init
  ck_Alike : Ck (LL K A) 2 ["pairs"]
  m_Alike : mg "Alike" = some (.ref A.C_Alike)
  mk_Alike : Mk K A.C_Alike A.Alike_init
  ck_Differs : Ck (LL K A) 3 ["run"]
  m_Differs : mg "Differs" = some (.ref A.C_Differs)
  mk_Differs : Mk K A.C_Differs A.Differs_init
  ck_Shortest : Ck (LL K A) 4 ["many"]
  m_Shortest : mg "Shortest" = some (.ref A.C_Shortest)
  mk_Shortest : Mk K A.C_Shortest A.Shortest_init
  ck_Longer : Ck (LL K A) 5 ["run"]
  m_Longer : mg "Longer" = some (.ref A.C_Longer)
  mk_Longer : Mk K A.C_Longer A.Longer_init
  ck_EndsLong : Ck (LL K A) 6 ["run"]
  m_EndsLong : mg "EndsLong" = some (.ref A.C_EndsLong)
  mk_EndsLong : Mk K A.C_EndsLong A.EndsLong_init
  me_Machine_commands : Meth K A.C_Machine "commands" A.Machine_commands
  me_Machine_run : Meth K A.C_Machine "run" A.Machine_run
  fb_Alike : PySem.W.findIn K (.ref A.C_Alike) "__bool__" = some (some (.ref A.Alike_bool))
  ib_Alike : PySem.W.isFn K (.ref A.Alike_bool) = true
  fb_Differs : PySem.W.findIn K (.ref A.C_Differs) "__bool__" = some (some (.ref A.Differs_bool))
  ib_Differs : PySem.W.isFn K (.ref A.Differs_bool) = true
  fb_Shortest : PySem.W.findIn K (.ref A.C_Shortest) "__bool__" = some (some (.ref A.Shortest_bool))
  ib_Shortest : PySem.W.isFn K (.ref A.Shortest_bool) = true
  fb_Longer : PySem.W.findIn K (.ref A.C_Longer) "__bool__" = some (some (.ref A.Longer_bool))
  ib_Longer : PySem.W.isFn K (.ref A.Longer_bool) = true
  fb_EndsShort : PySem.W.findIn K (.ref A.C_EndsShort) "__bool__" = some (some (.ref A.EndsShort_bool))
  ib_EndsShort : PySem.W.isFn K (.ref A.EndsShort_bool) = true
  fb_EndsLong : PySem.W.findIn K (.ref A.C_EndsLong) "__bool__" = some (some (.ref A.EndsLong_bool))
  ib_EndsLong : PySem.W.isFn K (.ref A.EndsLong_bool) = true
  fe_EndsShort : PySem.W.findIn K (.ref A.C_EndsShort) "__eq__" = some (some (.ref A.EndsShort_eq))
  ie_EndsShort : PySem.W.isFn K (.ref A.EndsShort_eq) = true
  fn_EndsShort : PySem.W.findIn K (.ref A.C_EndsShort) "__ne__" = some (some (.builtin "object.__ne__"))
  fo_EndsShort : PySem.W.mroIn K A.C_EndsShort (.type "object") = some true
  nf_EndsShort_EndsShort : PySem.W.notFirst K A.C_EndsShort (.ref A.C_EndsShort) = true
  z_all : mg "all" = none
  z_any : mg "any" = none
  z_bool : mg "bool" = none
  z_enumerate : mg "enumerate" = none
  z_int : mg "int" = none
  z_isinstance : mg "isinstance" = none
  z_len : mg "len" = none
  z_list : mg "list" = none
  z_min : mg "min" = none
  z_range : mg "range" = none
  z_tuple : mg "tuple" = none
  z_zip : mg "zip" = none
  nc_EndsShort : Nc mg "EndsShort" (.ref A.C_EndsShort) (.ref A.C_EndsShort)
  nc_Machine : Nc mg "Machine" (.ref A.C_Machine) (.ref A.C_Machine)
  nc_bool : Nc mg "bool" (.ty "bool") (.type "bool")
  nc_int : Nc mg "int" (.ty "int") (.type "int")
  nc_list : Nc mg "list" (.ty "list") (.type "list")
  nc_str : Nc mg "str" (.ty "str") (.type "str")
  nc_tuple : Nc mg "tuple" (.ty "tuple") (.type "tuple")
  isi_list_tuple : IsiOk (LL K A) K [.type "list", .type "tuple"] K29.isi_list_tuple
  isi_int : IsiOk (LL K A) K [.type "int"] K29.isi_int
  isi_bool : IsiOk (LL K A) K [.type "bool"] K29.isi_bool
  isi_Machine : IsiOk (LL K A) K [.ref A.C_Machine] K29.isi_Machine
  isi_str : IsiOk (LL K A) K [.type "str"] K29.isi_str
  isi_EndsShort : IsiOk (LL K A) K [.ref A.C_EndsShort] K29.isi_EndsShort
  k_MOST_STATES : Kn (LL K A) mg "MOST_STATES" K29.k_MOST_STATES
  k_MOST_COMMANDS : Kn (LL K A) mg "MOST_COMMANDS" K29.k_MOST_COMMANDS
  k_MOST_RUN_machines : Kn (LL K A) mg "MOST_RUN_machines" K29.k_MOST_RUN_machines
  k_MOST_ANSWER : Kn (LL K A) mg "MOST_ANSWER" K29.k_MOST_ANSWER
  k_WAYS : Kn (LL K A) mg "WAYS" K29.k_WAYS
  k_MOST_RUN_commands : Kn (LL K A) mg "MOST_RUN_commands" K29.k_MOST_RUN_commands
  at_rows : AtP (LL K A) "rows" a_rows
  at_run : AtP (LL K A) "run" a_run
  at_runs : AtP (LL K A) "runs" a_runs
section
variable {P : Program} {w : World} {K : PySem.W.Frag} {mg : Str → Option Value} {base : Heap} {A : Adr}
theorem S_is_row : FnScope N_is_row P_is_row (defScope s_is_row) := ⟨rfl, rfl, rfl, by decide +kernel, rfl, by decide +kernel, by decide +kernel⟩
theorem D_is_row (T : Txt w K mg A) : Df (LL K A) P w mg base 2 A.is_row 1 c_is_row := by
  exact d_fn (k := 1) T.h_is_row S_is_row fun X c hp W tk =>
    (s_one (s_ret (x_isiT c (x_csA (x_cls c T.nc_list (by decide +kernel)) (x_csA (x_cls c T.nc_tuple (by decide +kernel)) x_cs0 rfl) rfl) (.cons T.nc_list.cv (.cons T.nc_tuple.cv .nil)) (by decide) T.isi_list_tuple T.z_isinstance (by decide +kernel) (x_look c rfl (by decide +kernel) (by decide +kernel)) rfl)))
theorem S_is_number : FnScope N_is_number P_is_number (defScope s_is_number) := ⟨rfl, rfl, rfl, by decide +kernel, rfl, by decide +kernel, by decide +kernel⟩
theorem D_is_number (T : Txt w K mg A) : Df (LL K A) P w mg base 2 A.is_number 1 c_is_number := by
  exact d_fn (k := 1) T.h_is_number S_is_number fun X c hp W tk =>
    (s_one (s_ret (to_andV (x_isi c (x_cls c T.nc_int (by decide +kernel)) T.nc_int.cv T.isi_int T.z_isinstance (by decide +kernel) (x_look c rfl (by decide +kernel) (by decide +kernel)) rfl) (to_andV (to_notV (x_isi c (x_cls c T.nc_bool (by decide +kernel)) T.nc_bool.cv T.isi_bool T.z_isinstance (by decide +kernel) (x_look c rfl (by decide +kernel) (by decide +kernel)) rfl)) (v_one (x_ge c (x_look c rfl (by decide +kernel) (by decide +kernel)) (x_B x_int) rfl))))))
theorem S_is_below : FnScope N_is_below P_is_below (defScope s_is_below) := ⟨rfl, rfl, rfl, by decide +kernel, rfl, by decide +kernel, by decide +kernel⟩
theorem D_is_below (T : Txt w K mg A) : Df (LL K A) P w mg base 6 A.is_below 2 c_is_below := by
  have d_is_number := D_is_number (P := P) (base := base) T
  exact d_fn (k := 5) T.h_is_below S_is_below fun X c hp W tk =>
    (s_one (s_ret (to_andV (x_call c tk d_is_number (by decide) T.m_is_number T.kp_is_number (by decide +kernel) (x_cons (x_var c rfl (by decide +kernel) (by decide +kernel)) x_nil rfl) rfl) (v_one (x_lt c (x_look c rfl (by decide +kernel) (by decide +kernel)) (x_look c rfl (by decide +kernel) (by decide +kernel)) rfl)))))
theorem S_sets_of : FnScope N_sets_of P_sets_of (defScope s_sets_of) := ⟨rfl, rfl, rfl, by decide +kernel, rfl, by decide +kernel, by decide +kernel⟩
theorem D_sets_of (T : Txt w K mg A) : Df (LL K A) P w mg base 2 A.sets_of 1 c_sets_of := by
  exact d_fn (k := 1) T.h_sets_of S_sets_of fun X c hp W tk =>
    (s_seq (s_own c rfl (by decide +kernel) (by decide +kernel) (x_lst (x_cons (x_tup x_nil) x_nil rfl)) rfl)
    (s_seq (s_for c hp (i_rng c T.z_range (by decide +kernel) (x_len c T.z_len (by decide +kernel) (x_look c rfl (by decide +kernel) (by decide +kernel)) rfl) rfl) (g_one c rfl (by decide +kernel) (by decide +kernel)) (s_one (s_for c hp (i_seq c (x_F (x_lc c (own := [("row", 5)]) (T := (.one 5)) (i_look c (x_look c rfl (by decide +kernel) (by decide +kernel))) (by decide +kernel) (by decide) (fun X c => ⟨(g_one c rfl (by decide +kernel) (by decide +kernel)), (f_one (t_eq c (x_B (x_len c T.z_len (by decide +kernel) (x_look c rfl (by decide +kernel) (by decide +kernel)) rfl)) (x_look c rfl (by decide +kernel) (by decide +kernel)) rfl)), (x_var c rfl (by decide +kernel) (by decide +kernel))⟩) (fun _ => rfl)))) (g_one c rfl (by decide +kernel) (by decide +kernel)) (s_seq (s_asg c rfl (by decide +kernel) (by decide +kernel) (to_ifV (t_ne c (x_look c rfl (by decide +kernel) (by decide +kernel)) (x_B (x_tup x_nil)) rfl) (x_add c (x_B (to_idx c.K (x_look c rfl (by decide +kernel) (by decide +kernel)) (x_B (x_ix c (x_look c rfl (by decide +kernel) (by decide +kernel)) (x_B (x_neg x_int)) (fun _ _ => rfl))) rfl rfl rfl rfl)) (x_B x_int)) x_int) rfl)
    (s_one (s_ext c rfl (by decide +kernel) (by decide +kernel) (x_F (x_lc c (own := [("late", 6)]) (T := (.one 6)) (i_look c (x_B (x_sl c (x_look c rfl (by decide +kernel) (by decide +kernel)) (po_yes (x_var c rfl (by decide +kernel) (by decide +kernel))) po_no))) (by decide +kernel) (by decide) (fun X c => ⟨(g_one c rfl (by decide +kernel) (by decide +kernel)), f_no, (x_tup (x_star c (x_look c rfl (by decide +kernel) (by decide +kernel)) (x_cons (x_var c rfl (by decide +kernel) (by decide +kernel)) x_nil rfl)))⟩) (fun _ => rfl)))))) (fun _ => rfl))) (fun _ => rfl))
    (s_one (s_retO c rfl (by decide +kernel) (by decide +kernel)))))
theorem S_Alike_bool : FnScope N_Alike_bool P_Alike_bool (defScope s_Alike_bool) := ⟨rfl, rfl, rfl, by decide +kernel, rfl, by decide +kernel, by decide +kernel⟩
theorem D_Alike_bool (T : Txt w K mg A) : Df (LL K A) P w mg base 2 A.Alike_bool 1 c_Alike_bool := by
  exact d_fn (k := 1) T.h_Alike_bool S_Alike_bool fun X c hp W tk =>
    (s_one (s_ret x_bl))
theorem S_Differs_bool : FnScope N_Differs_bool P_Differs_bool (defScope s_Differs_bool) := ⟨rfl, rfl, rfl, by decide +kernel, rfl, by decide +kernel, by decide +kernel⟩
theorem D_Differs_bool (T : Txt w K mg A) : Df (LL K A) P w mg base 2 A.Differs_bool 1 c_Differs_bool := by
  exact d_fn (k := 1) T.h_Differs_bool S_Differs_bool fun X c hp W tk =>
    (s_one (s_ret x_bl))
theorem S_EndsLong_bool : FnScope N_EndsLong_bool P_EndsLong_bool (defScope s_EndsLong_bool) := ⟨rfl, rfl, rfl, by decide +kernel, rfl, by decide +kernel, by decide +kernel⟩
theorem D_EndsLong_bool (T : Txt w K mg A) : Df (LL K A) P w mg base 2 A.EndsLong_bool 1 c_EndsLong_bool := by
  exact d_fn (k := 1) T.h_EndsLong_bool S_EndsLong_bool fun X c hp W tk =>
    (s_one (s_ret x_bl))
theorem S_EndsShort_bool : FnScope N_EndsShort_bool P_EndsShort_bool (defScope s_EndsShort_bool) := ⟨rfl, rfl, rfl, by decide +kernel, rfl, by decide +kernel, by decide +kernel⟩
theorem D_EndsShort_bool (T : Txt w K mg A) : Df (LL K A) P w mg base 2 A.EndsShort_bool 1 c_EndsShort_bool := by
  exact d_fn (k := 1) T.h_EndsShort_bool S_EndsShort_bool fun X c hp W tk =>
    (s_one (s_ret x_bl))
theorem S_Longer_bool : FnScope N_Longer_bool P_Longer_bool (defScope s_Longer_bool) := ⟨rfl, rfl, rfl, by decide +kernel, rfl, by decide +kernel, by decide +kernel⟩
theorem D_Longer_bool (T : Txt w K mg A) : Df (LL K A) P w mg base 2 A.Longer_bool 1 c_Longer_bool := by
  exact d_fn (k := 1) T.h_Longer_bool S_Longer_bool fun X c hp W tk =>
    (s_one (s_ret x_bl))
theorem S_Shortest_bool : FnScope N_Shortest_bool P_Shortest_bool (defScope s_Shortest_bool) := ⟨rfl, rfl, rfl, by decide +kernel, rfl, by decide +kernel, by decide +kernel⟩
theorem D_Shortest_bool (T : Txt w K mg A) : Df (LL K A) P w mg base 2 A.Shortest_bool 1 c_Shortest_bool := by
  exact d_fn (k := 1) T.h_Shortest_bool S_Shortest_bool fun X c hp W tk =>
    (s_one (s_ret x_bl))
theorem S_is_answer : FnScope N_is_answer P_is_answer (defScope s_is_answer) := ⟨rfl, rfl, rfl, by decide +kernel, rfl, by decide +kernel, by decide +kernel⟩
theorem D_is_answer (T : Txt w K mg A) : Df (LL K A) P w mg base 10 A.is_answer 2 c_is_answer := by
  have d_is_below := D_is_below (P := P) (base := base) T
  have d_is_row := D_is_row (P := P) (base := base) T
  exact d_fn (k := 9) T.h_is_answer S_is_answer fun X c hp W tk =>
    (s_one (s_ret (to_andV (x_call c tk d_is_row (by decide) T.m_is_row T.kp_is_row (by decide +kernel) (x_cons (x_var c rfl (by decide +kernel) (by decide +kernel)) x_nil rfl) rfl) (to_andV (x_eq c (x_B (x_len c T.z_len (by decide +kernel) (x_look c rfl (by decide +kernel) (by decide +kernel)) rfl)) (x_B x_int) rfl) (to_andV (x_call c tk d_is_below (by decide) T.m_is_below T.kp_is_below (by decide +kernel) (x_cons (x_ix c (x_look c rfl (by decide +kernel) (by decide +kernel)) (x_B x_int) (fun _ _ => rfl)) (x_cons (x_con c T.k_MOST_ANSWER (by decide +kernel)) x_nil rfl) rfl) rfl) (v_one (x_call c tk d_is_below (by decide) T.m_is_below T.kp_is_below (by decide +kernel) (x_cons (x_ix c (x_look c rfl (by decide +kernel) (by decide +kernel)) (x_B x_int) (fun _ _ => rfl)) (x_cons (x_var c rfl (by decide +kernel) (by decide +kernel)) x_nil rfl) rfl) rfl)))))))
theorem tmP (T : Txt w K mg A) : TmP (LL K A) P w mg base 2 tm := (tm_ad (c0 := 2) T.fb_Alike T.ib_Alike (D_Alike_bool T) (by decide) (tm_ad (c0 := 3) T.fb_Differs T.ib_Differs (D_Differs_bool T) (by decide) (tm_ad (c0 := 4) T.fb_Shortest T.ib_Shortest (D_Shortest_bool T) (by decide) (tm_ad (c0 := 5) T.fb_Longer T.ib_Longer (D_Longer_bool T) (by decide) (tm_ad (c0 := 0) T.fb_EndsShort T.ib_EndsShort (D_EndsShort_bool T) (by decide) (tm_ad (c0 := 6) T.fb_EndsLong T.ib_EndsLong (D_EndsLong_bool T) (by decide) tm_no))))))
theorem S_Machine_init : FnScope N_Machine_init P_Machine_init (defScope s_Machine_init) := ⟨rfl, rfl, rfl, by decide +kernel, rfl, by decide +kernel, by decide +kernel⟩
theorem D_Machine_init (T : Txt w K mg A) : Di (LL K A) P w mg base 14 A.Machine_init 2 1 c_Machine_init := by
  have hT := tmP (P := P) (base := base) T
  have d_is_answer := D_is_answer (P := P) (base := base) T
  have d_is_row := D_is_row (P := P) (base := base) T
  exact (d_in (k := 13) T.h_Machine_init S_Machine_init fun X c hp W tk =>
    (s_seq (s_if (PW.pt (w_or (t_not (t_tru c tk hT (by decide) rfl (x_call c tk d_is_row (by decide) T.m_is_row T.kp_is_row (by decide +kernel) (x_cons (x_var c rfl (by decide +kernel) (by decide +kernel)) x_nil rfl) rfl))) (w_or (t_not (t_chain (r_le c) (r_le c) (x_B x_int) (x_B (x_len c T.z_len (by decide +kernel) (x_look c rfl (by decide +kernel) (by decide +kernel)) rfl)) (x_B (x_con c T.k_MOST_STATES (by decide +kernel))) rfl)) (pw_or1 (t_not (t_tru c tk hT (by decide) rfl (x_all c hT (by decide) T.z_all (by decide +kernel) (x_B (x_F (x_lc c (own := [("row", 4)]) (T := (.one 4)) (i_look c (x_look c rfl (by decide +kernel) (by decide +kernel))) (by decide +kernel) (by decide) (fun X c => ⟨(g_one c rfl (by decide +kernel) (by decide +kernel)), f_no, (x_call c takesWF d_is_row (by decide) T.m_is_row T.kp_is_row (by decide +kernel) (x_cons (x_var c rfl (by decide +kernel) (by decide +kernel)) x_nil rfl) rfl)⟩) (fun _ => rfl)))) rfl))))))) (s_one s_bad) s_end)
    (s_seq (s_asg c rfl (by decide +kernel) (by decide +kernel) (x_len c T.z_len (by decide +kernel) (x_B (x_ix c (x_look c rfl (by decide +kernel) (by decide +kernel)) (x_B x_int) (fun _ _ => rfl))) rfl) rfl)
    (s_seq (s_if (t_not (t_chain (r_le c) (r_le c) (x_B x_int) (x_look c rfl (by decide +kernel) (by decide +kernel)) (x_B (x_con c T.k_MOST_COMMANDS (by decide +kernel))) rfl)) (s_one s_bad) s_end)
    (s_seq (s_for c hp (i_enum c T.z_enumerate (by decide +kernel) (x_var c rfl (by decide +kernel) (by decide +kernel)) rfl) (g_many c (js := [3, 4]) (g_cons c rfl (by decide +kernel) (by decide +kernel) (g_cons c rfl (by decide +kernel) (by decide +kernel) g_nil)) rfl rfl) (s_seq (s_if (t_ne c (x_B (x_len c T.z_len (by decide +kernel) (x_look c rfl (by decide +kernel) (by decide +kernel)) rfl)) (x_look c rfl (by decide +kernel) (by decide +kernel)) rfl) (s_one s_bad) s_end)
    (s_one (s_for c hp (i_enum c T.z_enumerate (by decide +kernel) (x_var c rfl (by decide +kernel) (by decide +kernel)) rfl) (g_many c (js := [5, 6]) (g_cons c rfl (by decide +kernel) (by decide +kernel) (g_cons c rfl (by decide +kernel) (by decide +kernel) g_nil)) rfl rfl) (s_one (s_if (t_not (t_tru c tk hT (by decide) rfl (x_call c tk d_is_answer (by decide) T.m_is_answer T.kp_is_answer (by decide +kernel) (x_cons (x_var c rfl (by decide +kernel) (by decide +kernel)) (x_cons (x_len c T.z_len (by decide +kernel) (x_look c rfl (by decide +kernel) (by decide +kernel)) rfl) x_nil rfl) rfl) rfl))) (s_one s_bad) s_end)) (fun _ => rfl)))) (fun _ => rfl))
    (s_one (s_fldC c T.ck_Machine rfl (by decide) rfl (by decide +kernel) (by decide +kernel) (x_tuple c T.z_tuple (by decide +kernel) (x_B (x_F (x_lc c (own := [("row", 4)]) (T := (.one 4)) (i_look c (x_look c rfl (by decide +kernel) (by decide +kernel))) (by decide +kernel) (by decide) (fun X c => ⟨(g_one c rfl (by decide +kernel) (by decide +kernel)), f_no, (x_tuple c T.z_tuple (by decide +kernel) (x_B (x_F (x_lc c (own := [("pair", 6)]) (T := (.one 6)) (i_look c (x_look c rfl (by decide +kernel) (by decide +kernel))) (by decide +kernel) (by decide) (fun X c => ⟨(g_one c rfl (by decide +kernel) (by decide +kernel)), f_no, (x_tuple c T.z_tuple (by decide +kernel) (x_look c rfl (by decide +kernel) (by decide +kernel)) rfl)⟩) (fun _ => rfl)))) rfl)⟩) (fun _ => rfl)))) rfl) rfl))))))).ins
theorem in_Machine_init : ∀ ds S d S', c_Machine_init ds S = .ok d S' → ∃ fs, d = .ins 1 fs := insOnly_ins
theorem S_Machine_commands : FnScope N_Machine_commands P_Machine_commands (defScope s_Machine_commands) := ⟨rfl, rfl, rfl, by decide +kernel, rfl, by decide +kernel, by decide +kernel⟩
theorem D_Machine_commands (T : Txt w K mg A) : Df (LL K A) P w mg base 2 A.Machine_commands 1 c_Machine_commands := by
  exact d_fn (k := 1) T.h_Machine_commands S_Machine_commands fun X c hp W tk =>
    (s_one (s_ret (x_len c T.z_len (by decide +kernel) (x_B (x_ix c (x_B (x_fld c T.at_rows (x_look c rfl (by decide +kernel) (by decide +kernel)) rfl)) (x_B x_int) (fun _ _ => rfl))) rfl)))
theorem mtP_commands (T : Txt w K mg A) (k : Nat) (hk : 2 ≤ k) : MtP (LL K A) P w mg base k "commands" mt_commands := (mt_ad T.ck_Machine T.me_Machine_commands (by decide) (D_Machine_commands T) (Nat.le_trans (by decide) hk) mt_no)
theorem S_Machine_run : FnScope N_Machine_run P_Machine_run (defScope s_Machine_run) := ⟨rfl, rfl, rfl, by decide +kernel, rfl, by decide +kernel, by decide +kernel⟩
theorem D_Machine_run (T : Txt w K mg A) : Df (LL K A) P w mg base 10 A.Machine_run 2 c_Machine_run := by
  have hM_commands := mtP_commands (P := P) (base := base) T 9 (by decide)
  have hT := tmP (P := P) (base := base) T
  have d_is_below := D_is_below (P := P) (base := base) T
  have d_is_row := D_is_row (P := P) (base := base) T
  exact d_fn (k := 9) T.h_Machine_run S_Machine_run fun X c hp W tk =>
    (s_seq (s_if (t_not (t_tru c tk hT (by decide) rfl (x_call c tk d_is_row (by decide) T.m_is_row T.kp_is_row (by decide +kernel) (x_cons (x_var c rfl (by decide +kernel) (by decide +kernel)) x_nil rfl) rfl))) (s_one s_bad) s_end)
    (s_seq (s_par2 c rfl rfl (by decide) (by decide +kernel) (by decide +kernel) (y_val x_int) (y_own (x_lst x_nil)) rfl rfl rfl)
    (s_seq (s_for c hp (i_seq c (x_var c rfl (by decide +kernel) (by decide +kernel))) (g_one c rfl (by decide +kernel) (by decide +kernel)) (s_seq (s_if (t_not (t_tru c tk hT (by decide) rfl (x_call c tk d_is_below (by decide) T.m_is_below T.kp_is_below (by decide +kernel) (x_cons (x_var c rfl (by decide +kernel) (by decide +kernel)) (x_cons (x_meth0 c tk hM_commands (x_var c rfl (by decide +kernel) (by decide +kernel)) rfl rfl) x_nil rfl) rfl) rfl))) (s_one s_bad) s_end)
    (s_seq (s_unpT c (x_ix c (x_B (x_ix c (x_B (x_fld c T.at_rows (x_look c rfl (by decide +kernel) (by decide +kernel)) rfl)) (x_look c rfl (by decide +kernel) (by decide +kernel)) (fun _ _ => rfl))) (x_look c rfl (by decide +kernel) (by decide +kernel)) (fun _ _ => rfl)) (g_many c (js := [5, 2]) (g_cons c rfl (by decide +kernel) (by decide +kernel) (g_cons c rfl (by decide +kernel) (by decide +kernel) g_nil)) rfl rfl) rfl rfl rfl)
    (s_one (s_app c rfl (by decide +kernel) (by decide +kernel) (x_var c rfl (by decide +kernel) (by decide +kernel)) rfl rfl rfl rfl)))) (fun _ => rfl))
    (s_one (s_ret (x_tuple c T.z_tuple (by decide +kernel) (x_look c rfl (by decide +kernel) (by decide +kernel)) rfl))))))
theorem S_check_two : FnScope N_check_two P_check_two (defScope s_check_two) := ⟨rfl, rfl, rfl, by decide +kernel, rfl, by decide +kernel, by decide +kernel⟩
theorem D_check_two (T : Txt w K mg A) : Df (LL K A) P w mg base 6 A.check_two 2 c_check_two := by
  have hM_commands := mtP_commands (P := P) (base := base) T 5 (by decide)
  have hT := tmP (P := P) (base := base) T
  exact d_fn (k := 5) T.h_check_two S_check_two fun X c hp W tk =>
    (s_seq (s_for c hp (i_seq c (x_tup (x_cons (x_var c rfl (by decide +kernel) (by decide +kernel)) (x_cons (x_var c rfl (by decide +kernel) (by decide +kernel)) x_nil rfl) rfl))) (g_one c rfl (by decide +kernel) (by decide +kernel)) (s_one (s_if (t_not (t_tru c tk hT (by decide) rfl (x_isi c (x_cls c T.nc_Machine (by decide +kernel)) T.nc_Machine.cv T.isi_Machine T.z_isinstance (by decide +kernel) (x_look c rfl (by decide +kernel) (by decide +kernel)) rfl))) (s_one s_bad) s_end)) (fun _ => rfl))
    (s_one (s_if (t_ne c (x_B (x_meth0 c tk hM_commands (x_var c rfl (by decide +kernel) (by decide +kernel)) rfl rfl)) (x_B (x_meth0 c tk hM_commands (x_var c rfl (by decide +kernel) (by decide +kernel)) rfl rfl)) rfl) (s_one s_bad) s_end)))
theorem S_Alike_init : FnScope N_Alike_init P_Alike_init (defScope s_Alike_init) := ⟨rfl, rfl, rfl, by decide +kernel, rfl, by decide +kernel, by decide +kernel⟩
theorem D_Alike_init (T : Txt w K mg A) : Di (LL K A) P w mg base 2 A.Alike_init 2 2 c_Alike_init := by
  exact (d_in (k := 1) T.h_Alike_init S_Alike_init fun X c hp W tk =>
    (s_one (s_fldC c T.ck_Alike rfl (by decide) rfl (by decide +kernel) (by decide +kernel) (x_var c rfl (by decide +kernel) (by decide +kernel)) rfl))).ins
theorem in_Alike_init : ∀ ds S d S', c_Alike_init ds S = .ok d S' → ∃ fs, d = .ins 2 fs := insOnly_ins
theorem S_Differs_init : FnScope N_Differs_init P_Differs_init (defScope s_Differs_init) := ⟨rfl, rfl, rfl, by decide +kernel, rfl, by decide +kernel, by decide +kernel⟩
theorem D_Differs_init (T : Txt w K mg A) : Di (LL K A) P w mg base 2 A.Differs_init 2 3 c_Differs_init := by
  exact (d_in (k := 1) T.h_Differs_init S_Differs_init fun X c hp W tk =>
    (s_one (s_fldC c T.ck_Differs rfl (by decide) rfl (by decide +kernel) (by decide +kernel) (x_tuple c T.z_tuple (by decide +kernel) (x_look c rfl (by decide +kernel) (by decide +kernel)) rfl) rfl))).ins
theorem in_Differs_init : ∀ ds S d S', c_Differs_init ds S = .ok d S' → ∃ fs, d = .ins 3 fs := insOnly_ins
theorem mtP_run (T : Txt w K mg A) (k : Nat) (hk : 10 ≤ k) : MtP (LL K A) P w mg base k "run" mt_run := (mt_ad T.ck_Machine T.me_Machine_run (by decide) (D_Machine_run T) (Nat.le_trans (by decide) hk) mt_no)
theorem S_fails : FnScope N_fails P_fails (defScope s_fails) := ⟨rfl, rfl, rfl, by decide +kernel, rfl, by decide +kernel, by decide +kernel⟩
theorem D_fails (T : Txt w K mg A) : Df (LL K A) P w mg base 14 A.fails 3 c_fails := by
  have hM_run := mtP_run (P := P) (base := base) T 13 (by decide)
  have d_check_two := D_check_two (P := P) (base := base) T
  exact d_fn (k := 13) T.h_fails S_fails fun X c hp W tk =>
    (s_seq (s_drop (x_call c tk d_check_two (by decide) T.m_check_two T.kp_check_two (by decide +kernel) (x_cons (x_var c rfl (by decide +kernel) (by decide +kernel)) (x_cons (x_var c rfl (by decide +kernel) (by decide +kernel)) x_nil rfl) rfl) rfl) rfl)
    (s_one (s_ret (x_ne c (x_B (x_meth c tk hM_run (x_var c rfl (by decide +kernel) (by decide +kernel)) (x_cons (x_var c rfl (by decide +kernel) (by decide +kernel)) x_nil rfl) rfl rfl (by decide) rfl)) (x_B (x_meth c tk hM_run (x_var c rfl (by decide +kernel) (by decide +kernel)) (x_cons (x_var c rfl (by decide +kernel) (by decide +kernel)) x_nil rfl) rfl rfl (by decide) rfl)) rfl))))
theorem S_judge_machine : FnScope N_judge_machine P_judge_machine (defScope s_judge_machine) := ⟨rfl, rfl, rfl, by decide +kernel, rfl, by decide +kernel, by decide +kernel⟩
theorem D_judge_machine (T : Txt w K mg A) : Df (LL K A) P w mg base 10 A.judge_machine 2 c_judge_machine := by
  have hM_commands := mtP_commands (P := P) (base := base) T 9 (by decide)
  have d_Alike_init := D_Alike_init (P := P) (base := base) T
  have d_Differs_init := D_Differs_init (P := P) (base := base) T
  have d_check_two := D_check_two (P := P) (base := base) T
  exact d_fn (k := 9) T.h_judge_machine S_judge_machine fun X c hp W tk =>
    (s_seq (s_drop (x_call c tk d_check_two (by decide) T.m_check_two T.kp_check_two (by decide +kernel) (x_cons (x_var c rfl (by decide +kernel) (by decide +kernel)) (x_cons (x_var c rfl (by decide +kernel) (by decide +kernel)) x_nil rfl) rfl) rfl) rfl)
    (s_seq (s_par2 c rfl rfl (by decide) (by decide +kernel) (by decide +kernel) (y_val (x_new (x_lst (x_cons (x_tup (x_cons (x_tup (x_cons x_int (x_cons x_int x_nil rfl) rfl)) (x_cons (x_tup x_nil) x_nil rfl) rfl)) x_nil rfl)))) (y_own (x_dlitT c (x_tup (x_cons x_int (x_cons x_int x_nil rfl) rfl)) x_bl)) rfl rfl rfl)
    (s_seq (s_whl c hp 300 (t_ne c (x_look c rfl (by decide +kernel) (by decide +kernel)) (x_B (x_F (x_lst x_nil))) rfl) (s_seq (s_unpT c (x_pop c (x_var c rfl (by decide +kernel) (by decide +kernel)) x_int rfl rfl rfl rfl) (g_two c (pgs_cons (g_many c (js := [4, 5]) (g_cons c rfl (by decide +kernel) (by decide +kernel) (g_cons c rfl (by decide +kernel) (by decide +kernel) g_nil)) rfl rfl) (pgs_cons (g_one c rfl (by decide +kernel) (by decide +kernel)) pgs_nil)) rfl rfl) rfl rfl rfl)
    (s_one (s_for c hp (i_rng c T.z_range (by decide +kernel) (x_meth0 c tk hM_commands (x_var c rfl (by decide +kernel) (by decide +kernel)) rfl rfl) rfl) (g_one c rfl (by decide +kernel) (by decide +kernel)) (s_seq (s_par c rfl rfl (by decide) (by decide +kernel) (by decide +kernel) (x_cons (x_ix c (x_B (x_ix c (x_B (x_fld c T.at_rows (x_look c rfl (by decide +kernel) (by decide +kernel)) rfl)) (x_look c rfl (by decide +kernel) (by decide +kernel)) (fun _ _ => rfl))) (x_look c rfl (by decide +kernel) (by decide +kernel)) (fun _ _ => rfl)) (x_cons (x_ix c (x_B (x_ix c (x_B (x_fld c T.at_rows (x_look c rfl (by decide +kernel) (by decide +kernel)) rfl)) (x_look c rfl (by decide +kernel) (by decide +kernel)) (fun _ _ => rfl))) (x_look c rfl (by decide +kernel) (by decide +kernel)) (fun _ _ => rfl)) x_nil rfl) rfl) rfl rfl)
    (s_seq (s_if (t_ne c (x_B (x_ix c (x_look c rfl (by decide +kernel) (by decide +kernel)) (x_B x_int) (fun _ _ => rfl))) (x_B (x_ix c (x_look c rfl (by decide +kernel) (by decide +kernel)) (x_B x_int) (fun _ _ => rfl))) rfl) (s_one (s_ret (x_make c (cn := 3) tk T.mk_Differs d_Differs_init (by decide) in_Differs_init T.m_Differs (by decide +kernel) (x_cons (x_tup (x_star c (x_look c rfl (by decide +kernel) (by decide +kernel)) (x_cons (x_var c rfl (by decide +kernel) (by decide +kernel)) x_nil rfl))) x_nil rfl) rfl))) s_end)
    (s_seq (s_asg c rfl (by decide +kernel) (by decide +kernel) (x_tup (x_cons (x_ix c (x_look c rfl (by decide +kernel) (by decide +kernel)) (x_B x_int) (fun _ _ => rfl)) (x_cons (x_ix c (x_look c rfl (by decide +kernel) (by decide +kernel)) (x_B x_int) (fun _ _ => rfl)) x_nil rfl) rfl)) rfl)
    (s_one (s_if (t_notInT c (x_look c rfl (by decide +kernel) (by decide +kernel)) (x_look c rfl (by decide +kernel) (by decide +kernel)) rfl) (s_seq (s_putT c rfl (by decide +kernel) (by decide +kernel) (x_var c rfl (by decide +kernel) (by decide +kernel)) x_bl rfl)
    (s_one (s_drop (x_appC c (x_var c rfl (by decide +kernel) (by decide +kernel)) (x_tup (x_cons (x_var c rfl (by decide +kernel) (by decide +kernel)) (x_cons (x_tup (x_star c (x_look c rfl (by decide +kernel) (by decide +kernel)) (x_cons (x_var c rfl (by decide +kernel) (by decide +kernel)) x_nil rfl))) x_nil rfl) rfl)) rfl rfl rfl rfl) rfl))) s_end))))) (fun _ => rfl)))))
    (s_one (s_ret (x_make c (cn := 2) tk T.mk_Alike d_Alike_init (by decide) in_Alike_init T.m_Alike (by decide +kernel) (x_cons (x_dlenT c T.z_len (by decide +kernel) (x_look c rfl (by decide +kernel) (by decide +kernel)) rfl) x_nil rfl) rfl))))))
theorem S_runs_of : FnScope N_runs_of P_runs_of (defScope s_runs_of) := ⟨rfl, rfl, rfl, by decide +kernel, rfl, by decide +kernel, by decide +kernel⟩
theorem D_runs_of (T : Txt w K mg A) : Df (LL K A) P w mg base 10 A.runs_of 2 c_runs_of := by
  have hM_commands := mtP_commands (P := P) (base := base) T 9 (by decide)
  have hT := tmP (P := P) (base := base) T
  have d_is_below := D_is_below (P := P) (base := base) T
  exact d_fn (k := 9) T.h_runs_of S_runs_of fun X c hp W tk =>
    (s_seq (s_if (t_not (t_tru c tk hT (by decide) rfl (x_isi c (x_cls c T.nc_Machine (by decide +kernel)) T.nc_Machine.cv T.isi_Machine T.z_isinstance (by decide +kernel) (x_look c rfl (by decide +kernel) (by decide +kernel)) rfl))) (s_one s_bad) s_end)
    (s_seq (s_if (t_not (t_tru c tk hT (by decide) rfl (x_call c tk d_is_below (by decide) T.m_is_below T.kp_is_below (by decide +kernel) (x_cons (x_var c rfl (by decide +kernel) (by decide +kernel)) (x_cons (x_add c (x_B (x_con c T.k_MOST_RUN_machines (by decide +kernel))) (x_B x_int)) x_nil rfl) rfl) rfl))) (s_one s_bad) s_end)
    (s_seq (s_par2 c rfl rfl (by decide) (by decide +kernel) (by decide +kernel) (y_own (x_lst (x_cons (x_tup x_nil) x_nil rfl))) (y_val (x_F (x_lst (x_cons (x_tup x_nil) x_nil rfl)))) rfl rfl rfl)
    (s_seq (s_for c hp (i_rng c T.z_range (by decide +kernel) (x_var c rfl (by decide +kernel) (by decide +kernel)) rfl) (g_one c rfl (by decide +kernel) (by decide +kernel)) (s_seq (s_lc2 c (own := [("run", 5), ("command", 6)]) (T := (.one 5)) (T1 := (.one 6)) (vs1 := [6]) rfl (by decide +kernel) (by decide +kernel) (i_look c (x_look c rfl (by decide +kernel) (by decide +kernel))) (by decide +kernel) (by decide) (by decide) (by decide) (fun X c => ⟨(g_one c rfl (by decide +kernel) (by decide +kernel)), f_no, (i_rng c T.z_range (by decide +kernel) (x_meth0 c takesWF hM_commands (x_var c rfl (by decide +kernel) (by decide +kernel)) rfl rfl) rfl), (g_one c rfl (by decide +kernel) (by decide +kernel)), f_no, (x_tup (x_star c (x_look c rfl (by decide +kernel) (by decide +kernel)) (x_cons (x_var c rfl (by decide +kernel) (by decide +kernel)) x_nil rfl)))⟩) (fun _ => rfl) (fun _ _ => rfl))
    (s_seq (s_ext c rfl (by decide +kernel) (by decide +kernel) (x_var c rfl (by decide +kernel) (by decide +kernel)))
    (s_one (s_if (t_gt c (x_B (x_len c T.z_len (by decide +kernel) (x_look c rfl (by decide +kernel) (by decide +kernel)) rfl)) (x_B x_int) rfl) (s_one s_bad) s_end)))) (fun _ => rfl))
    (s_one (s_retO c rfl (by decide +kernel) (by decide +kernel)))))))
theorem S_failing_runs : FnScope N_failing_runs P_failing_runs (defScope s_failing_runs) := ⟨rfl, rfl, rfl, by decide +kernel, rfl, by decide +kernel, by decide +kernel⟩
theorem D_failing_runs (T : Txt w K mg A) : Df (LL K A) P w mg base 18 A.failing_runs 3 c_failing_runs := by
  have hT := tmP (P := P) (base := base) T
  have d_check_two := D_check_two (P := P) (base := base) T
  have d_fails := D_fails (P := P) (base := base) T
  have d_runs_of := D_runs_of (P := P) (base := base) T
  exact d_fn (k := 17) T.h_failing_runs S_failing_runs fun X c hp W tk =>
    (s_seq (s_drop (x_call c tk d_check_two (by decide) T.m_check_two T.kp_check_two (by decide +kernel) (x_cons (x_var c rfl (by decide +kernel) (by decide +kernel)) (x_cons (x_var c rfl (by decide +kernel) (by decide +kernel)) x_nil rfl) rfl) rfl) rfl)
    (s_one (s_ret (x_F (x_lc c (own := [("run", 3)]) (T := (.one 3)) (i_look c (x_B (x_call c tk d_runs_of (by decide) T.m_runs_of T.kp_runs_of (by decide +kernel) (x_cons (x_var c rfl (by decide +kernel) (by decide +kernel)) (x_cons (x_var c rfl (by decide +kernel) (by decide +kernel)) x_nil rfl) rfl) rfl))) (by decide +kernel) (by decide) (fun X c => ⟨(g_one c rfl (by decide +kernel) (by decide +kernel)), (f_one (t_tru c takesWF hT (by decide) rfl (x_call c takesWF d_fails (by decide) T.m_fails T.kp_fails (by decide +kernel) (x_cons (x_var c rfl (by decide +kernel) (by decide +kernel)) (x_cons (x_var c rfl (by decide +kernel) (by decide +kernel)) (x_cons (x_var c rfl (by decide +kernel) (by decide +kernel)) x_nil rfl) rfl) rfl) rfl))), (x_var c rfl (by decide +kernel) (by decide +kernel))⟩) (fun _ => rfl))))))
theorem S_check_failing : FnScope N_check_failing P_check_failing (defScope s_check_failing) := ⟨rfl, rfl, rfl, by decide +kernel, rfl, by decide +kernel, by decide +kernel⟩
theorem D_check_failing (T : Txt w K mg A) : Df (LL K A) P w mg base 18 A.check_failing 3 c_check_failing := by
  have hM_run := mtP_run (P := P) (base := base) T 17 (by decide)
  have hT := tmP (P := P) (base := base) T
  have d_check_two := D_check_two (P := P) (base := base) T
  have d_fails := D_fails (P := P) (base := base) T
  exact d_fn (k := 17) T.h_check_failing S_check_failing fun X c hp W tk =>
    (s_seq (s_drop (x_call c tk d_check_two (by decide) T.m_check_two T.kp_check_two (by decide +kernel) (x_cons (x_var c rfl (by decide +kernel) (by decide +kernel)) (x_cons (x_var c rfl (by decide +kernel) (by decide +kernel)) x_nil rfl) rfl) rfl) rfl)
    (s_seq (s_drop (x_meth c tk hM_run (x_var c rfl (by decide +kernel) (by decide +kernel)) (x_cons (x_var c rfl (by decide +kernel) (by decide +kernel)) x_nil rfl) rfl rfl (by decide) rfl) rfl)
    (s_one (s_if (PW.pt (w_or (t_gt c (x_B (x_len c T.z_len (by decide +kernel) (x_look c rfl (by decide +kernel) (by decide +kernel)) rfl)) (x_B (x_con c T.k_MOST_RUN_commands (by decide +kernel))) rfl) (pw_or1 (t_not (t_tru c tk hT (by decide) rfl (x_call c tk d_fails (by decide) T.m_fails T.kp_fails (by decide +kernel) (x_cons (x_var c rfl (by decide +kernel) (by decide +kernel)) (x_cons (x_var c rfl (by decide +kernel) (by decide +kernel)) (x_cons (x_var c rfl (by decide +kernel) (by decide +kernel)) x_nil rfl) rfl) rfl) rfl)))))) (s_one s_bad) s_end))))
theorem S_check_ways : FnScope N_check_ways P_check_ways (defScope s_check_ways) := ⟨rfl, rfl, rfl, by decide +kernel, rfl, by decide +kernel, by decide +kernel⟩
theorem D_check_ways (T : Txt w K mg A) : Df (LL K A) P w mg base 6 A.check_ways 1 c_check_ways := by
  have hT := tmP (P := P) (base := base) T
  have d_is_row := D_is_row (P := P) (base := base) T
  exact d_fn (k := 5) T.h_check_ways S_check_ways fun X c hp W tk =>
    (s_one (s_if (PW.pt (w_or (t_not (t_tru c tk hT (by decide) rfl (x_call c tk d_is_row (by decide) T.m_is_row T.kp_is_row (by decide +kernel) (x_cons (x_var c rfl (by decide +kernel) (by decide +kernel)) x_nil rfl) rfl))) (pw_or1 (t_not (t_tru c tk hT (by decide) rfl (x_all c hT (by decide) T.z_all (by decide +kernel) (x_B (x_F (x_lc c (own := [("way", 1)]) (T := (.one 1)) (i_look c (x_look c rfl (by decide +kernel) (by decide +kernel))) (by decide +kernel) (by decide) (fun X c => ⟨(g_one c rfl (by decide +kernel) (by decide +kernel)), f_no, (to_andV (x_isi c (x_cls c T.nc_str (by decide +kernel)) T.nc_str.cv T.isi_str T.z_isinstance (by decide +kernel) (x_look c rfl (by decide +kernel) (by decide +kernel)) rfl) (v_one (x_in c (x_look c rfl (by decide +kernel) (by decide +kernel)) (x_B (x_con c T.k_WAYS (by decide +kernel))) rfl)))⟩) (fun _ => rfl)))) rfl)))))) (s_one s_bad) s_end))
theorem S_tried : FnScope N_tried P_tried (defScope s_tried) := ⟨rfl, rfl, rfl, by decide +kernel, rfl, by decide +kernel, by decide +kernel⟩
theorem D_tried (T : Txt w K mg A) : Df (LL K A) P w mg base 2 A.tried 2 c_tried := by
  exact d_fn (k := 1) T.h_tried S_tried fun X c hp W tk =>
    (s_seq (s_if (t_eq c (x_look c rfl (by decide +kernel) (by decide +kernel)) (x_B x_str) rfl) (s_one (s_ret (x_F (x_lc c (own := [("at", 2)]) (T := (.one 2)) (i_C (i_rng c T.z_range (by decide +kernel) (x_len c T.z_len (by decide +kernel) (x_look c rfl (by decide +kernel) (by decide +kernel)) rfl) rfl)) (by decide +kernel) (by decide) (fun X c => ⟨(g_one c rfl (by decide +kernel) (by decide +kernel)), f_no, (x_tup (x_star c (x_B (x_sl c (x_look c rfl (by decide +kernel) (by decide +kernel)) po_no (po_yes (x_var c rfl (by decide +kernel) (by decide +kernel))))) (x_star c (x_B (x_sl c (x_look c rfl (by decide +kernel) (by decide +kernel)) (po_yes (x_add c (x_look c rfl (by decide +kernel) (by decide +kernel)) (x_B x_int))) po_no)) x_nil)))⟩) (fun _ => rfl))))) s_end)
    (s_seq (s_if (t_eq c (x_look c rfl (by decide +kernel) (by decide +kernel)) (x_B x_str) rfl) (s_one (s_ret (x_F (x_lst (x_cons (x_sl c (x_look c rfl (by decide +kernel) (by decide +kernel)) (po_yes (x_div c (x_B (x_len c T.z_len (by decide +kernel) (x_look c rfl (by decide +kernel) (by decide +kernel)) rfl)) (x_B x_int))) po_no) (x_cons (x_sl c (x_look c rfl (by decide +kernel) (by decide +kernel)) po_no (po_yes (x_div c (x_B (x_len c T.z_len (by decide +kernel) (x_look c rfl (by decide +kernel) (by decide +kernel)) rfl)) (x_B x_int)))) x_nil rfl) rfl))))) s_end)
    (s_one (s_ret (x_F (x_lc c (own := [("at", 2)]) (T := (.one 2)) (i_C (i_rng c T.z_range (by decide +kernel) (x_len c T.z_len (by decide +kernel) (x_look c rfl (by decide +kernel) (by decide +kernel)) rfl) rfl)) (by decide +kernel) (by decide) (fun X c => ⟨(g_one c rfl (by decide +kernel) (by decide +kernel)), f_no, (x_sl c (x_look c rfl (by decide +kernel) (by decide +kernel)) po_no (po_yes (x_var c rfl (by decide +kernel) (by decide +kernel))))⟩) (fun _ => rfl)))))))
theorem S_shorter : FnScope N_shorter P_shorter (defScope s_shorter) := ⟨rfl, rfl, rfl, by decide +kernel, rfl, by decide +kernel, by decide +kernel⟩
theorem D_shorter (T : Txt w K mg A) : Df (LL K A) P w mg base 6 A.shorter 2 c_shorter := by
  have d_tried := D_tried (P := P) (base := base) T
  exact d_fn (k := 5) T.h_shorter S_shorter fun X c hp W tk =>
    (s_seq (s_own c rfl (by decide +kernel) (by decide +kernel) x_dnewT rfl)
    (s_seq (s_for c hp (i_seq c (x_var c rfl (by decide +kernel) (by decide +kernel))) (g_one c rfl (by decide +kernel) (by decide +kernel)) (s_one (s_for c hp (i_seq c (x_call c tk d_tried (by decide) T.m_tried T.kp_tried (by decide +kernel) (x_cons (x_var c rfl (by decide +kernel) (by decide +kernel)) (x_cons (x_tuple c T.z_tuple (by decide +kernel) (x_look c rfl (by decide +kernel) (by decide +kernel)) rfl) x_nil rfl) rfl) rfl)) (g_one c rfl (by decide +kernel) (by decide +kernel)) (s_one (s_if (t_lt c (x_B (x_len c T.z_len (by decide +kernel) (x_look c rfl (by decide +kernel) (by decide +kernel)) rfl)) (x_B (x_len c T.z_len (by decide +kernel) (x_look c rfl (by decide +kernel) (by decide +kernel)) rfl)) rfl) (s_one (s_putT c rfl (by decide +kernel) (by decide +kernel) (x_var c rfl (by decide +kernel) (by decide +kernel)) x_bl rfl)) s_end)) (fun _ => rfl))) (fun _ => rfl))
    (s_one (s_ret (x_F (x_listT c T.z_list (by decide +kernel) (x_look c rfl (by decide +kernel) (by decide +kernel)) rfl))))))
theorem S_cut_down : FnScope N_cut_down P_cut_down (defScope s_cut_down) := ⟨rfl, rfl, rfl, by decide +kernel, rfl, by decide +kernel, by decide +kernel⟩
theorem D_cut_down (T : Txt w K mg A) : Df (LL K A) P w mg base 22 A.cut_down 4 c_cut_down := by
  have hT := tmP (P := P) (base := base) T
  have d_check_failing := D_check_failing (P := P) (base := base) T
  have d_check_ways := D_check_ways (P := P) (base := base) T
  have d_fails := D_fails (P := P) (base := base) T
  have d_shorter := D_shorter (P := P) (base := base) T
  exact d_fn (k := 21) T.h_cut_down S_cut_down fun X c hp W tk =>
    (s_seq (s_drop (x_call c tk d_check_failing (by decide) T.m_check_failing T.kp_check_failing (by decide +kernel) (x_cons (x_var c rfl (by decide +kernel) (by decide +kernel)) (x_cons (x_var c rfl (by decide +kernel) (by decide +kernel)) (x_cons (x_var c rfl (by decide +kernel) (by decide +kernel)) x_nil rfl) rfl) rfl) rfl) rfl)
    (s_seq (s_drop (x_call c tk d_check_ways (by decide) T.m_check_ways T.kp_check_ways (by decide +kernel) (x_cons (x_var c rfl (by decide +kernel) (by decide +kernel)) x_nil rfl) rfl) rfl)
    (s_seq (s_own c rfl (by decide +kernel) (by decide +kernel) (x_lst (x_cons (x_tuple c T.z_tuple (by decide +kernel) (x_look c rfl (by decide +kernel) (by decide +kernel)) rfl) x_nil rfl)) rfl)
    (s_one (s_whl c hp 100 (t_tru c tk hT (by decide) rfl x_bl) (s_seq (s_lc c (own := [("late", 6)]) (T := (.one 6)) rfl (by decide +kernel) (by decide +kernel) (i_look c (x_B (x_call c tk d_shorter (by decide) T.m_shorter T.kp_shorter (by decide +kernel) (x_cons (x_var c rfl (by decide +kernel) (by decide +kernel)) (x_cons (x_ix c (x_look c rfl (by decide +kernel) (by decide +kernel)) (x_B (x_neg x_int)) (fun _ _ => rfl)) x_nil rfl) rfl) rfl))) (by decide +kernel) (by decide) (fun X c => ⟨(g_one c rfl (by decide +kernel) (by decide +kernel)), (f_one (t_tru c takesWF hT (by decide) rfl (x_call c takesWF d_fails (by decide) T.m_fails T.kp_fails (by decide +kernel) (x_cons (x_var c rfl (by decide +kernel) (by decide +kernel)) (x_cons (x_var c rfl (by decide +kernel) (by decide +kernel)) (x_cons (x_var c rfl (by decide +kernel) (by decide +kernel)) x_nil rfl) rfl) rfl) rfl))), (x_var c rfl (by decide +kernel) (by decide +kernel))⟩) (fun _ => rfl))
    (s_seq (s_if (t_eq c (x_look c rfl (by decide +kernel) (by decide +kernel)) (x_B (x_F (x_lst x_nil))) rfl) (s_one (s_retO c rfl (by decide +kernel) (by decide +kernel))) s_end)
    (s_one (s_app c rfl (by decide +kernel) (by decide +kernel) (x_ix c (x_look c rfl (by decide +kernel) (by decide +kernel)) (x_B x_int) (fun _ _ => rfl)) rfl rfl rfl rfl)))))))))
theorem S_is_end : FnScope N_is_end P_is_end (defScope s_is_end) := ⟨rfl, rfl, rfl, by decide +kernel, rfl, by decide +kernel, by decide +kernel⟩
theorem D_is_end (T : Txt w K mg A) : Df (LL K A) P w mg base 22 A.is_end 4 c_is_end := by
  have hT := tmP (P := P) (base := base) T
  have d_check_failing := D_check_failing (P := P) (base := base) T
  have d_check_ways := D_check_ways (P := P) (base := base) T
  have d_fails := D_fails (P := P) (base := base) T
  have d_shorter := D_shorter (P := P) (base := base) T
  exact d_fn (k := 21) T.h_is_end S_is_end fun X c hp W tk =>
    (s_seq (s_drop (x_call c tk d_check_failing (by decide) T.m_check_failing T.kp_check_failing (by decide +kernel) (x_cons (x_var c rfl (by decide +kernel) (by decide +kernel)) (x_cons (x_var c rfl (by decide +kernel) (by decide +kernel)) (x_cons (x_var c rfl (by decide +kernel) (by decide +kernel)) x_nil rfl) rfl) rfl) rfl) rfl)
    (s_seq (s_drop (x_call c tk d_check_ways (by decide) T.m_check_ways T.kp_check_ways (by decide +kernel) (x_cons (x_var c rfl (by decide +kernel) (by decide +kernel)) x_nil rfl) rfl) rfl)
    (s_one (s_ret (to_notV (x_any c hT (by decide) T.z_any (by decide +kernel) (x_B (x_F (x_lc c (own := [("late", 4)]) (T := (.one 4)) (i_look c (x_B (x_call c tk d_shorter (by decide) T.m_shorter T.kp_shorter (by decide +kernel) (x_cons (x_var c rfl (by decide +kernel) (by decide +kernel)) (x_cons (x_var c rfl (by decide +kernel) (by decide +kernel)) x_nil rfl) rfl) rfl))) (by decide +kernel) (by decide) (fun X c => ⟨(g_one c rfl (by decide +kernel) (by decide +kernel)), f_no, (x_call c takesWF d_fails (by decide) T.m_fails T.kp_fails (by decide +kernel) (x_cons (x_var c rfl (by decide +kernel) (by decide +kernel)) (x_cons (x_var c rfl (by decide +kernel) (by decide +kernel)) (x_cons (x_var c rfl (by decide +kernel) (by decide +kernel)) x_nil rfl) rfl) rfl) rfl)⟩) (fun _ => rfl)))) rfl))))))
theorem S_least_parts : FnScope N_least_parts P_least_parts (defScope s_least_parts) := ⟨rfl, rfl, rfl, by decide +kernel, rfl, by decide +kernel, by decide +kernel⟩
theorem D_least_parts (T : Txt w K mg A) : Df (LL K A) P w mg base 22 A.least_parts 3 c_least_parts := by
  have hT := tmP (P := P) (base := base) T
  have d_check_failing := D_check_failing (P := P) (base := base) T
  have d_fails := D_fails (P := P) (base := base) T
  have d_sets_of := D_sets_of (P := P) (base := base) T
  exact d_fn (k := 21) T.h_least_parts S_least_parts fun X c hp W tk =>
    (s_seq (s_drop (x_call c tk d_check_failing (by decide) T.m_check_failing T.kp_check_failing (by decide +kernel) (x_cons (x_var c rfl (by decide +kernel) (by decide +kernel)) (x_cons (x_var c rfl (by decide +kernel) (by decide +kernel)) (x_cons (x_var c rfl (by decide +kernel) (by decide +kernel)) x_nil rfl) rfl) rfl) rfl) rfl)
    (s_seq (s_own c rfl (by decide +kernel) (by decide +kernel) (x_lst x_nil) rfl)
    (s_seq (s_for c hp (i_seq c (x_call c tk d_sets_of (by decide) T.m_sets_of T.kp_sets_of (by decide +kernel) (x_cons (x_F (x_rgL c T.z_list (by decide +kernel) T.z_range (by decide +kernel) (x_len c T.z_len (by decide +kernel) (x_look c rfl (by decide +kernel) (by decide +kernel)) rfl) rfl)) x_nil rfl) rfl)) (g_one c rfl (by decide +kernel) (by decide +kernel)) (s_one (s_if (t_not (t_tru c tk hT (by decide) rfl (x_any c hT (by decide) T.z_any (by decide +kernel) (x_B (x_F (x_lc c (own := [("less", 5)]) (T := (.one 5)) (i_look c (x_look c rfl (by decide +kernel) (by decide +kernel))) (by decide +kernel) (by decide) (fun X c => ⟨(g_one c rfl (by decide +kernel) (by decide +kernel)), f_no, (x_all c hT (by decide) T.z_all (by decide +kernel) (x_B (x_F (x_lc c (own := [("at", 6)]) (T := (.one 6)) (i_look c (x_look c rfl (by decide +kernel) (by decide +kernel))) (by decide +kernel) (by decide) (fun X c => ⟨(g_one c rfl (by decide +kernel) (by decide +kernel)), f_no, (x_in c (x_look c rfl (by decide +kernel) (by decide +kernel)) (x_look c rfl (by decide +kernel) (by decide +kernel)) rfl)⟩) (fun _ => rfl)))) rfl)⟩) (fun _ => rfl)))) rfl))) (s_one (s_if (t_tru c tk hT (by decide) rfl (x_call c tk d_fails (by decide) T.m_fails T.kp_fails (by decide +kernel) (x_cons (x_var c rfl (by decide +kernel) (by decide +kernel)) (x_cons (x_var c rfl (by decide +kernel) (by decide +kernel)) (x_cons (x_F (x_lc c (own := [("at", 6)]) (T := (.one 6)) (i_look c (x_look c rfl (by decide +kernel) (by decide +kernel))) (by decide +kernel) (by decide) (fun X c => ⟨(g_one c rfl (by decide +kernel) (by decide +kernel)), f_no, (x_ix c (x_look c rfl (by decide +kernel) (by decide +kernel)) (x_look c rfl (by decide +kernel) (by decide +kernel)) (fun _ _ => rfl))⟩) (fun _ => rfl))) x_nil rfl) rfl) rfl) rfl)) (s_one (s_app c rfl (by decide +kernel) (by decide +kernel) (x_var c rfl (by decide +kernel) (by decide +kernel)) rfl rfl rfl rfl)) s_end)) s_end)) (fun _ => rfl))
    (s_one (s_retO c rfl (by decide +kernel) (by decide +kernel))))))
theorem S_matter : FnScope N_matter P_matter (defScope s_matter) := ⟨rfl, rfl, rfl, by decide +kernel, rfl, by decide +kernel, by decide +kernel⟩
theorem D_matter (T : Txt w K mg A) : Df (LL K A) P w mg base 26 A.matter 3 c_matter := by
  have hT := tmP (P := P) (base := base) T
  have d_least_parts := D_least_parts (P := P) (base := base) T
  exact d_fn (k := 25) T.h_matter S_matter fun X c hp W tk =>
    (s_seq (s_asg c rfl (by decide +kernel) (by decide +kernel) (x_call c tk d_least_parts (by decide) T.m_least_parts T.kp_least_parts (by decide +kernel) (x_cons (x_var c rfl (by decide +kernel) (by decide +kernel)) (x_cons (x_var c rfl (by decide +kernel) (by decide +kernel)) (x_cons (x_var c rfl (by decide +kernel) (by decide +kernel)) x_nil rfl) rfl) rfl) rfl) rfl)
    (s_one (s_ret (x_F (x_lc c (own := [("at", 4)]) (T := (.one 4)) (i_C (i_rng c T.z_range (by decide +kernel) (x_len c T.z_len (by decide +kernel) (x_look c rfl (by decide +kernel) (by decide +kernel)) rfl) rfl)) (by decide +kernel) (by decide) (fun X c => ⟨(g_one c rfl (by decide +kernel) (by decide +kernel)), (f_one (t_tru c takesWF hT (by decide) rfl (x_all c hT (by decide) T.z_all (by decide +kernel) (x_B (x_F (x_lc c (own := [("some", 5)]) (T := (.one 5)) (i_look c (x_look c rfl (by decide +kernel) (by decide +kernel))) (by decide +kernel) (by decide) (fun X c => ⟨(g_one c rfl (by decide +kernel) (by decide +kernel)), f_no, (x_in c (x_look c rfl (by decide +kernel) (by decide +kernel)) (x_look c rfl (by decide +kernel) (by decide +kernel)) rfl)⟩) (fun _ => rfl)))) rfl))), (x_var c rfl (by decide +kernel) (by decide +kernel))⟩) (fun _ => rfl))))))
theorem S_Shortest_init : FnScope N_Shortest_init P_Shortest_init (defScope s_Shortest_init) := ⟨rfl, rfl, rfl, by decide +kernel, rfl, by decide +kernel, by decide +kernel⟩
theorem D_Shortest_init (T : Txt w K mg A) : Di (LL K A) P w mg base 2 A.Shortest_init 2 4 c_Shortest_init := by
  exact (d_in (k := 1) T.h_Shortest_init S_Shortest_init fun X c hp W tk =>
    (s_one (s_fldC c T.ck_Shortest rfl (by decide) rfl (by decide +kernel) (by decide +kernel) (x_var c rfl (by decide +kernel) (by decide +kernel)) rfl))).ins
theorem in_Shortest_init : ∀ ds S d S', c_Shortest_init ds S = .ok d S' → ∃ fs, d = .ins 4 fs := insOnly_ins
theorem S_Longer_init : FnScope N_Longer_init P_Longer_init (defScope s_Longer_init) := ⟨rfl, rfl, rfl, by decide +kernel, rfl, by decide +kernel, by decide +kernel⟩
theorem D_Longer_init (T : Txt w K mg A) : Di (LL K A) P w mg base 2 A.Longer_init 2 5 c_Longer_init := by
  exact (d_in (k := 1) T.h_Longer_init S_Longer_init fun X c hp W tk =>
    (s_one (s_fldC c T.ck_Longer rfl (by decide) rfl (by decide +kernel) (by decide +kernel) (x_tuple c T.z_tuple (by decide +kernel) (x_look c rfl (by decide +kernel) (by decide +kernel)) rfl) rfl))).ins
theorem in_Longer_init : ∀ ds S d S', c_Longer_init ds S = .ok d S' → ∃ fs, d = .ins 5 fs := insOnly_ins
theorem S_judge_run : FnScope N_judge_run P_judge_run (defScope s_judge_run) := ⟨rfl, rfl, rfl, by decide +kernel, rfl, by decide +kernel, by decide +kernel⟩
theorem D_judge_run (T : Txt w K mg A) : Df (LL K A) P w mg base 22 A.judge_run 3 c_judge_run := by
  have d_Longer_init := D_Longer_init (P := P) (base := base) T
  have d_Shortest_init := D_Shortest_init (P := P) (base := base) T
  have d_check_failing := D_check_failing (P := P) (base := base) T
  have d_judge_machine := D_judge_machine (P := P) (base := base) T
  exact d_fn (k := 21) T.h_judge_run S_judge_run fun X c hp W tk =>
    (s_seq (s_drop (x_call c tk d_check_failing (by decide) T.m_check_failing T.kp_check_failing (by decide +kernel) (x_cons (x_var c rfl (by decide +kernel) (by decide +kernel)) (x_cons (x_var c rfl (by decide +kernel) (by decide +kernel)) (x_cons (x_var c rfl (by decide +kernel) (by decide +kernel)) x_nil rfl) rfl) rfl) rfl) rfl)
    (s_seq (s_asg c rfl (by decide +kernel) (by decide +kernel) (x_fld c T.at_run (x_B (x_call c tk d_judge_machine (by decide) T.m_judge_machine T.kp_judge_machine (by decide +kernel) (x_cons (x_var c rfl (by decide +kernel) (by decide +kernel)) (x_cons (x_var c rfl (by decide +kernel) (by decide +kernel)) x_nil rfl) rfl) rfl)) rfl) rfl)
    (s_one (s_ret (to_ifV (t_eq c (x_B (x_len c T.z_len (by decide +kernel) (x_look c rfl (by decide +kernel) (by decide +kernel)) rfl)) (x_B (x_len c T.z_len (by decide +kernel) (x_look c rfl (by decide +kernel) (by decide +kernel)) rfl)) rfl) (x_make c (cn := 4) tk T.mk_Shortest d_Shortest_init (by decide) in_Shortest_init T.m_Shortest (by decide +kernel) (x_cons (x_len c T.z_len (by decide +kernel) (x_look c rfl (by decide +kernel) (by decide +kernel)) rfl) x_nil rfl) rfl) (x_make c (cn := 5) tk T.mk_Longer d_Longer_init (by decide) in_Longer_init T.m_Longer (by decide +kernel) (x_cons (x_var c rfl (by decide +kernel) (by decide +kernel)) x_nil rfl) rfl))))))
theorem S_ends_of : FnScope N_ends_of P_ends_of (defScope s_ends_of) := ⟨rfl, rfl, rfl, by decide +kernel, rfl, by decide +kernel, by decide +kernel⟩
theorem D_ends_of (T : Txt w K mg A) : Df (LL K A) P w mg base 26 A.ends_of 4 c_ends_of := by
  have hT := tmP (P := P) (base := base) T
  have d_check_two := D_check_two (P := P) (base := base) T
  have d_check_ways := D_check_ways (P := P) (base := base) T
  have d_fails := D_fails (P := P) (base := base) T
  have d_is_end := D_is_end (P := P) (base := base) T
  have d_runs_of := D_runs_of (P := P) (base := base) T
  exact d_fn (k := 25) T.h_ends_of S_ends_of fun X c hp W tk =>
    (s_seq (s_drop (x_call c tk d_check_two (by decide) T.m_check_two T.kp_check_two (by decide +kernel) (x_cons (x_var c rfl (by decide +kernel) (by decide +kernel)) (x_cons (x_var c rfl (by decide +kernel) (by decide +kernel)) x_nil rfl) rfl) rfl) rfl)
    (s_seq (s_drop (x_call c tk d_check_ways (by decide) T.m_check_ways T.kp_check_ways (by decide +kernel) (x_cons (x_var c rfl (by decide +kernel) (by decide +kernel)) x_nil rfl) rfl) rfl)
    (s_seq (s_lc c (own := [("run", 5)]) (T := (.one 5)) rfl (by decide +kernel) (by decide +kernel) (i_look c (x_B (x_call c tk d_runs_of (by decide) T.m_runs_of T.kp_runs_of (by decide +kernel) (x_cons (x_var c rfl (by decide +kernel) (by decide +kernel)) (x_cons (x_var c rfl (by decide +kernel) (by decide +kernel)) x_nil rfl) rfl) rfl))) (by decide +kernel) (by decide) (fun X c => ⟨(g_one c rfl (by decide +kernel) (by decide +kernel)), (f_one (t_tru c takesWF hT (by decide) rfl (x_call c takesWF d_fails (by decide) T.m_fails T.kp_fails (by decide +kernel) (x_cons (x_var c rfl (by decide +kernel) (by decide +kernel)) (x_cons (x_var c rfl (by decide +kernel) (by decide +kernel)) (x_cons (x_var c rfl (by decide +kernel) (by decide +kernel)) x_nil rfl) rfl) rfl) rfl))), (x_var c rfl (by decide +kernel) (by decide +kernel))⟩) (fun _ => rfl))
    (s_one (s_ret (x_F (x_lc c (own := [("run", 5)]) (T := (.one 5)) (i_look c (x_look c rfl (by decide +kernel) (by decide +kernel))) (by decide +kernel) (by decide) (fun X c => ⟨(g_one c rfl (by decide +kernel) (by decide +kernel)), (f_one (t_tru c takesWF hT (by decide) rfl (x_call c takesWF d_is_end (by decide) T.m_is_end T.kp_is_end (by decide +kernel) (x_cons (x_var c rfl (by decide +kernel) (by decide +kernel)) (x_cons (x_var c rfl (by decide +kernel) (by decide +kernel)) (x_cons (x_var c rfl (by decide +kernel) (by decide +kernel)) (x_cons (x_var c rfl (by decide +kernel) (by decide +kernel)) x_nil rfl) rfl) rfl) rfl) rfl))), (x_var c rfl (by decide +kernel) (by decide +kernel))⟩) (fun _ => rfl))))))))
theorem S_EndsShort_init : FnScope N_EndsShort_init P_EndsShort_init (defScope s_EndsShort_init) := ⟨rfl, rfl, rfl, by decide +kernel, rfl, by decide +kernel, by decide +kernel⟩
theorem D_EndsShort_init (T : Txt w K mg A) : Di (LL K A) P w mg base 2 A.EndsShort_init 2 0 c_EndsShort_init := by
  exact (d_in (k := 1) T.h_EndsShort_init S_EndsShort_init fun X c hp W tk =>
    (s_one (s_fldC c T.ck_EndsShort rfl (by decide) rfl (by decide +kernel) (by decide +kernel) (x_var c rfl (by decide +kernel) (by decide +kernel)) rfl))).ins
theorem in_EndsShort_init : ∀ ds S d S', c_EndsShort_init ds S = .ok d S' → ∃ fs, d = .ins 0 fs := insOnly_ins
theorem S_EndsShort_eq : FnScope N_EndsShort_eq P_EndsShort_eq (defScope s_EndsShort_eq) := ⟨rfl, rfl, rfl, by decide +kernel, rfl, by decide +kernel, by decide +kernel⟩
theorem D_EndsShort_eq (T : Txt w K mg A) : Df (LL K A) P w mg base 2 A.EndsShort_eq 2 c_EndsShort_eq := by
  exact d_fn (k := 1) T.h_EndsShort_eq S_EndsShort_eq fun X c hp W tk =>
    (s_one (s_ret (to_andV (x_isi c (x_cls c T.nc_EndsShort (by decide +kernel)) T.nc_EndsShort.cv T.isi_EndsShort T.z_isinstance (by decide +kernel) (x_look c rfl (by decide +kernel) (by decide +kernel)) rfl) (v_one (x_eq c (x_B (x_fld c T.at_runs (x_look c rfl (by decide +kernel) (by decide +kernel)) rfl)) (x_B (x_fld c T.at_runs (x_look c rfl (by decide +kernel) (by decide +kernel)) rfl)) rfl)))))
theorem S_EndsLong_init : FnScope N_EndsLong_init P_EndsLong_init (defScope s_EndsLong_init) := ⟨rfl, rfl, rfl, by decide +kernel, rfl, by decide +kernel, by decide +kernel⟩
theorem D_EndsLong_init (T : Txt w K mg A) : Di (LL K A) P w mg base 2 A.EndsLong_init 2 6 c_EndsLong_init := by
  exact (d_in (k := 1) T.h_EndsLong_init S_EndsLong_init fun X c hp W tk =>
    (s_one (s_fldC c T.ck_EndsLong rfl (by decide) rfl (by decide +kernel) (by decide +kernel) (x_tuple c T.z_tuple (by decide +kernel) (x_look c rfl (by decide +kernel) (by decide +kernel)) rfl) rfl))).ins
theorem in_EndsLong_init : ∀ ds S d S', c_EndsLong_init ds S = .ok d S' → ∃ fs, d = .ins 6 fs := insOnly_ins
theorem S_judge_ways : FnScope N_judge_ways P_judge_ways (defScope s_judge_ways) := ⟨rfl, rfl, rfl, by decide +kernel, rfl, by decide +kernel, by decide +kernel⟩
theorem D_judge_ways (T : Txt w K mg A) : Df (LL K A) P w mg base 30 A.judge_ways 4 c_judge_ways := by
  have hT := tmP (P := P) (base := base) T
  have d_EndsLong_init := D_EndsLong_init (P := P) (base := base) T
  have d_EndsShort_init := D_EndsShort_init (P := P) (base := base) T
  have d_ends_of := D_ends_of (P := P) (base := base) T
  have d_fails := D_fails (P := P) (base := base) T
  have d_runs_of := D_runs_of (P := P) (base := base) T
  exact d_fn (k := 29) T.h_judge_ways S_judge_ways fun X c hp W tk =>
    (s_seq (s_asg c rfl (by decide +kernel) (by decide +kernel) (x_call c tk d_ends_of (by decide) T.m_ends_of T.kp_ends_of (by decide +kernel) (x_cons (x_var c rfl (by decide +kernel) (by decide +kernel)) (x_cons (x_var c rfl (by decide +kernel) (by decide +kernel)) (x_cons (x_var c rfl (by decide +kernel) (by decide +kernel)) (x_cons (x_var c rfl (by decide +kernel) (by decide +kernel)) x_nil rfl) rfl) rfl) rfl) rfl) rfl)
    (s_seq (s_lc c (own := [("run", 6)]) (T := (.one 6)) rfl (by decide +kernel) (by decide +kernel) (i_look c (x_look c rfl (by decide +kernel) (by decide +kernel))) (by decide +kernel) (by decide) (fun X c => ⟨(g_one c rfl (by decide +kernel) (by decide +kernel)), (f_one (t_gt c (x_B (x_len c T.z_len (by decide +kernel) (x_look c rfl (by decide +kernel) (by decide +kernel)) rfl)) (x_B (x_len c T.z_len (by decide +kernel) (x_B (x_ix c (x_look c rfl (by decide +kernel) (by decide +kernel)) (x_B x_int) (fun _ _ => rfl))) rfl)) rfl)), (x_var c rfl (by decide +kernel) (by decide +kernel))⟩) (fun _ => rfl))
    (s_seq (s_if (t_ne c (x_look c rfl (by decide +kernel) (by decide +kernel)) (x_B (x_F (x_lst x_nil))) rfl) (s_one (s_ret (x_make c (cn := 6) tk T.mk_EndsLong d_EndsLong_init (by decide) in_EndsLong_init T.m_EndsLong (by decide +kernel) (x_cons (x_ix c (x_look c rfl (by decide +kernel) (by decide +kernel)) (x_B x_int) (fun _ _ => rfl)) x_nil rfl) rfl))) s_end)
    (s_one (s_ret (x_make c (cn := 0) tk T.mk_EndsShort d_EndsShort_init (by decide) in_EndsShort_init T.m_EndsShort (by decide +kernel) (x_cons (x_len c T.z_len (by decide +kernel) (x_B (x_F (x_lc c (own := [("run", 6)]) (T := (.one 6)) (i_look c (x_B (x_call c tk d_runs_of (by decide) T.m_runs_of T.kp_runs_of (by decide +kernel) (x_cons (x_var c rfl (by decide +kernel) (by decide +kernel)) (x_cons (x_var c rfl (by decide +kernel) (by decide +kernel)) x_nil rfl) rfl) rfl))) (by decide +kernel) (by decide) (fun X c => ⟨(g_one c rfl (by decide +kernel) (by decide +kernel)), (f_one (t_tru c takesWF hT (by decide) rfl (x_call c takesWF d_fails (by decide) T.m_fails T.kp_fails (by decide +kernel) (x_cons (x_var c rfl (by decide +kernel) (by decide +kernel)) (x_cons (x_var c rfl (by decide +kernel) (by decide +kernel)) (x_cons (x_var c rfl (by decide +kernel) (by decide +kernel)) x_nil rfl) rfl) rfl) rfl))), (x_var c rfl (by decide +kernel) (by decide +kernel))⟩) (fun _ => rfl)))) rfl) x_nil rfl) rfl))))))
theorem S_first_failure : FnScope N_first_failure P_first_failure (defScope s_first_failure) := ⟨rfl, rfl, rfl, by decide +kernel, rfl, by decide +kernel, by decide +kernel⟩
theorem D_first_failure (T : Txt w K mg A) : Df (LL K A) P w mg base 14 A.first_failure 3 c_first_failure := by
  have hM_run := mtP_run (P := P) (base := base) T 13 (by decide)
  have d_check_two := D_check_two (P := P) (base := base) T
  exact d_fn (k := 13) T.h_first_failure S_first_failure fun X c hp W tk =>
    (s_seq (s_drop (x_call c tk d_check_two (by decide) T.m_check_two T.kp_check_two (by decide +kernel) (x_cons (x_var c rfl (by decide +kernel) (by decide +kernel)) (x_cons (x_var c rfl (by decide +kernel) (by decide +kernel)) x_nil rfl) rfl) rfl) rfl)
    (s_seq (s_for c hp (i_ez c T.z_enumerate (by decide +kernel) T.z_zip (by decide +kernel) (x_cons (x_meth c tk hM_run (x_var c rfl (by decide +kernel) (by decide +kernel)) (x_cons (x_var c rfl (by decide +kernel) (by decide +kernel)) x_nil rfl) rfl rfl (by decide) rfl) (x_cons (x_meth c tk hM_run (x_var c rfl (by decide +kernel) (by decide +kernel)) (x_cons (x_var c rfl (by decide +kernel) (by decide +kernel)) x_nil rfl) rfl rfl (by decide) rfl) x_nil rfl) rfl) rfl) (g_two c (pgs_cons (g_one c rfl (by decide +kernel) (by decide +kernel)) (pgs_cons (g_many c (js := [4, 5]) (g_cons c rfl (by decide +kernel) (by decide +kernel) (g_cons c rfl (by decide +kernel) (by decide +kernel) g_nil)) rfl rfl) pgs_nil)) rfl rfl) (s_one (s_if (t_ne c (x_look c rfl (by decide +kernel) (by decide +kernel)) (x_look c rfl (by decide +kernel) (by decide +kernel)) rfl) (s_one (s_ret (x_var c rfl (by decide +kernel) (by decide +kernel)))) s_end)) (fun _ => rfl))
    (s_one (s_ret x_non))))
theorem S_u_law_number : FnScope N_u_law_number P_u_law_number (defScope s_u_law_number) := ⟨rfl, rfl, rfl, by decide +kernel, rfl, by decide +kernel, by decide +kernel⟩
theorem D_u_law_number (T : Txt w K mg A) : Df (LL K A) P w mg base 2 A.u_law_number 2 c_u_law_number := by
  exact d_fn (k := 1) T.h_u_law_number S_u_law_number fun X c hp W tk =>
    (s_seq (s_unpT c (to_ifV (t_ne c (x_look c rfl (by decide +kernel) (by decide +kernel)) (x_B (x_F (x_lst x_nil))) rfl) (x_tup (x_cons (x_ix c (x_look c rfl (by decide +kernel) (by decide +kernel)) (x_B (x_mod c (x_look c rfl (by decide +kernel) (by decide +kernel)) (x_B (x_len c T.z_len (by decide +kernel) (x_look c rfl (by decide +kernel) (by decide +kernel)) rfl)))) (fun _ _ => rfl)) (x_cons (x_div c (x_look c rfl (by decide +kernel) (by decide +kernel)) (x_B (x_len c T.z_len (by decide +kernel) (x_look c rfl (by decide +kernel) (by decide +kernel)) rfl))) x_nil rfl) rfl)) (x_tup (x_cons x_int (x_cons x_int x_nil rfl) rfl))) (g_many c (js := [2, 3]) (g_cons c rfl (by decide +kernel) (by decide +kernel) (g_cons c rfl (by decide +kernel) (by decide +kernel) g_nil)) rfl rfl) rfl rfl rfl)
    (s_seq (s_asg c rfl (by decide +kernel) (by decide +kernel) (to_ifV (t_lt c (x_look c rfl (by decide +kernel) (by decide +kernel)) (x_B x_int) rfl) (x_sub c (x_look c rfl (by decide +kernel) (by decide +kernel)) (x_B (x_pow c (x_B x_int) (x_B x_int)))) x_int) rfl)
    (s_seq (s_for c hp (i_rng c T.z_range (by decide +kernel) (x_mod c (x_B (x_intc c T.z_int (by decide +kernel) (x_look c rfl (by decide +kernel) (by decide +kernel)) rfl)) (x_B x_int)) rfl) (g_one c rfl (by decide +kernel) (by decide +kernel)) (s_one (s_asg c rfl (by decide +kernel) (by decide +kernel) (x_div c (x_look c rfl (by decide +kernel) (by decide +kernel)) (x_B x_int)) rfl)) (fun _ => rfl))
    (s_seq (s_if (t_gt c (x_look c rfl (by decide +kernel) (by decide +kernel)) (x_B x_int) rfl) (s_one (s_ret (x_mod c (x_B (x_intc c T.z_int (by decide +kernel) (x_look c rfl (by decide +kernel) (by decide +kernel)) rfl)) (x_B x_int)))) s_end)
    (s_seq (s_asg c rfl (by decide +kernel) (by decide +kernel) (x_mod c (x_B (x_add c (x_B (x_mul c (x_B (x_intc c T.z_int (by decide +kernel) (x_B (x_add c (x_look c rfl (by decide +kernel) (by decide +kernel)) (x_B (x_mul c (x_B x_int) (x_look c rfl (by decide +kernel) (by decide +kernel)))))) rfl)) (x_B x_int))) (x_B (x_mul c (x_B x_int) (x_B (x_len c T.z_len (by decide +kernel) (x_look c rfl (by decide +kernel) (by decide +kernel)) rfl)))))) (x_B x_int)) rfl)
    (s_seq (s_asg c rfl (by decide +kernel) (by decide +kernel) (x_mod c (x_B (x_add c (x_B (x_mul c (x_look c rfl (by decide +kernel) (by decide +kernel)) (x_look c rfl (by decide +kernel) (by decide +kernel)))) (x_B (x_mul c (x_B x_int) (x_look c rfl (by decide +kernel) (by decide +kernel)))))) (x_B x_int)) rfl)
    (s_one (s_ret (x_intc c T.z_int (by decide +kernel) (x_B (x_mod c (x_B (x_add c (x_B (x_mul c (x_look c rfl (by decide +kernel) (by decide +kernel)) (x_B x_int))) (x_B (x_div c (x_look c rfl (by decide +kernel) (by decide +kernel)) (x_B x_int))))) (x_B x_int))) rfl)))))))))
theorem S_u_law_take : FnScope N_u_law_take P_u_law_take (defScope s_u_law_take) := ⟨rfl, rfl, rfl, by decide +kernel, rfl, by decide +kernel, by decide +kernel⟩
theorem D_u_law_take (T : Txt w K mg A) : Df (LL K A) P w mg base 6 A.u_law_take 2 c_u_law_take := by
  have d_u_law_number := D_u_law_number (P := P) (base := base) T
  exact d_fn (k := 5) T.h_u_law_take S_u_law_take fun X c hp W tk =>
    (s_seq (s_augC c rfl (by decide +kernel) (by decide +kernel))
    (s_one (s_ret (x_mod c (x_B (x_intc c T.z_int (by decide +kernel) (x_B (x_call c tk d_u_law_number (by decide) T.m_u_law_number T.kp_u_law_number (by decide +kernel) (x_cons (x_ix c (x_look c rfl (by decide +kernel) (by decide +kernel)) (x_B x_int) (fun _ _ => rfl)) (x_cons (x_intc c T.z_int (by decide +kernel) (x_B (x_ix c (x_look c rfl (by decide +kernel) (by decide +kernel)) (x_B x_int) (fun _ _ => rfl))) rfl) x_nil rfl) rfl) rfl)) rfl)) (x_look c rfl (by decide +kernel) (by decide +kernel))))))
theorem S_u_law_machine : FnScope N_u_law_machine P_u_law_machine (defScope s_u_law_machine) := ⟨rfl, rfl, rfl, by decide +kernel, rfl, by decide +kernel, by decide +kernel⟩
theorem D_u_law_machine (T : Txt w K mg A) : Df (LL K A) P w mg base 10 A.u_law_machine 3 c_u_law_machine := by
  have d_u_law_take := D_u_law_take (P := P) (base := base) T
  exact d_fn (k := 9) T.h_u_law_machine S_u_law_machine fun X c hp W tk =>
    (s_one (s_ret (x_F (x_lc c (own := [("state", 3)]) (T := (.one 3)) (i_C (i_rng c T.z_range (by decide +kernel) (x_var c rfl (by decide +kernel) (by decide +kernel)) rfl)) (by decide +kernel) (by decide) (fun X c => ⟨(g_one c rfl (by decide +kernel) (by decide +kernel)), f_no, (x_F (x_lc c (own := [("command", 4)]) (T := (.one 4)) (i_C (i_rng c T.z_range (by decide +kernel) (x_var c rfl (by decide +kernel) (by decide +kernel)) rfl)) (by decide +kernel) (by decide) (fun X c => ⟨(g_one c rfl (by decide +kernel) (by decide +kernel)), f_no, (x_tup (x_cons (x_call c takesWF d_u_law_take (by decide) T.m_u_law_take T.kp_u_law_take (by decide +kernel) (x_cons (x_var c rfl (by decide +kernel) (by decide +kernel)) (x_cons x_int x_nil rfl) rfl) rfl) (x_cons (x_call c takesWF d_u_law_take (by decide) T.m_u_law_take T.kp_u_law_take (by decide +kernel) (x_cons (x_var c rfl (by decide +kernel) (by decide +kernel)) (x_cons (x_var c rfl (by decide +kernel) (by decide +kernel)) x_nil rfl) rfl) rfl) x_nil rfl) rfl))⟩) (fun _ => rfl)))⟩) (fun _ => rfl)))))
theorem S_u_law_bent : FnScope N_u_law_bent P_u_law_bent (defScope s_u_law_bent) := ⟨rfl, rfl, rfl, by decide +kernel, rfl, by decide +kernel, by decide +kernel⟩
theorem D_u_law_bent (T : Txt w K mg A) : Df (LL K A) P w mg base 10 A.u_law_bent 2 c_u_law_bent := by
  have d_u_law_take := D_u_law_take (P := P) (base := base) T
  exact d_fn (k := 9) T.h_u_law_bent S_u_law_bent fun X c hp W tk =>
    (s_seq (s_lcO c (own := [("row", 6)]) (T := (.one 6)) rfl (by decide +kernel) (by decide +kernel) (i_look c (x_look c rfl (by decide +kernel) (by decide +kernel))) (by decide +kernel) (by decide) (fun X c => ⟨(g_one c rfl (by decide +kernel) (by decide +kernel)), f_no, (x_new (x_list c T.z_list (by decide +kernel) (x_look c rfl (by decide +kernel) (by decide +kernel)) rfl))⟩) (fun _ => rfl))
    (s_seq (s_for c hp (i_rng c T.z_range (by decide +kernel) (x_add c (x_B x_int) (x_B (x_call c tk d_u_law_take (by decide) T.m_u_law_take T.kp_u_law_take (by decide +kernel) (x_cons (x_var c rfl (by decide +kernel) (by decide +kernel)) (x_cons x_int x_nil rfl) rfl) rfl))) rfl) (g_one c rfl (by decide +kernel) (by decide +kernel)) (s_seq (s_par c rfl rfl (by decide) (by decide +kernel) (by decide +kernel) (x_cons (x_call c tk d_u_law_take (by decide) T.m_u_law_take T.kp_u_law_take (by decide +kernel) (x_cons (x_var c rfl (by decide +kernel) (by decide +kernel)) (x_cons (x_len c T.z_len (by decide +kernel) (x_look c rfl (by decide +kernel) (by decide +kernel)) rfl) x_nil rfl) rfl) rfl) (x_cons (x_call c tk d_u_law_take (by decide) T.m_u_law_take T.kp_u_law_take (by decide +kernel) (x_cons (x_var c rfl (by decide +kernel) (by decide +kernel)) (x_cons (x_len c T.z_len (by decide +kernel) (x_B (x_ix c (x_look c rfl (by decide +kernel) (by decide +kernel)) (x_B x_int) (fun _ _ => rfl))) rfl) x_nil rfl) rfl) rfl) x_nil rfl) rfl) rfl rfl)
    (s_one (s_setC c (x_ix c (x_look c rfl (by decide +kernel) (by decide +kernel)) (x_look c rfl (by decide +kernel) (by decide +kernel)) (fun _ _ => rfl)) (x_var c rfl (by decide +kernel) (by decide +kernel)) (x_tup (x_cons (x_call c tk d_u_law_take (by decide) T.m_u_law_take T.kp_u_law_take (by decide +kernel) (x_cons (x_var c rfl (by decide +kernel) (by decide +kernel)) (x_cons x_int x_nil rfl) rfl) rfl) (x_cons (x_call c tk d_u_law_take (by decide) T.m_u_law_take T.kp_u_law_take (by decide +kernel) (x_cons (x_var c rfl (by decide +kernel) (by decide +kernel)) (x_cons (x_len c T.z_len (by decide +kernel) (x_look c rfl (by decide +kernel) (by decide +kernel)) rfl) x_nil rfl) rfl) rfl) x_nil rfl) rfl)) rfl rfl (fun _ => rfl) rfl))) (fun _ => rfl))
    (s_one (s_retO c rfl (by decide +kernel) (by decide +kernel)))))
theorem emP (T : Txt w K mg A) : EmP (LL K A) P w mg base 2 1 em := em_one T.fe_EndsShort T.ie_EndsShort T.fn_EndsShort T.fo_EndsShort T.nf_EndsShort_EndsShort refl_EndsShort (D_EndsShort_eq T)
theorem S_law : FnScope N_law P_law (defScope s_law) := ⟨rfl, rfl, rfl, by decide +kernel, rfl, by decide +kernel, by decide +kernel⟩
theorem F_law (T : Txt w K mg A) {fd : FuncData} (F : Fun K "law" "law" s_law A.law fd) : FnOk P w K mg base (L2.CX P w) 34 A.law fd P_law (spD (LL K A) 1 c_law) := by
  have hT := tmP (P := P) (base := base) T
  have hE := emP (P := P) (base := base) T
  have d_EndsShort_init := D_EndsShort_init (P := P) (base := base) T
  have d_Machine_init := D_Machine_init (P := P) (base := base) T
  have d_u_law_bent := D_u_law_bent (P := P) (base := base) T
  have d_u_law_machine := D_u_law_machine (P := P) (base := base) T
  have d_u_law_take := D_u_law_take (P := P) (base := base) T
  have d_cut_down := D_cut_down (P := P) (base := base) T
  have d_ends_of := D_ends_of (P := P) (base := base) T
  have d_failing_runs := D_failing_runs (P := P) (base := base) T
  have d_fails := D_fails (P := P) (base := base) T
  have d_first_failure := D_first_failure (P := P) (base := base) T
  have d_is_end := D_is_end (P := P) (base := base) T
  have d_judge_machine := D_judge_machine (P := P) (base := base) T
  have d_judge_run := D_judge_run (P := P) (base := base) T
  have d_judge_ways := D_judge_ways (P := P) (base := base) T
  have d_least_parts := D_least_parts (P := P) (base := base) T
  have d_matter := D_matter (P := P) (base := base) T
  have d_runs_of := D_runs_of (P := P) (base := base) T
  have d_shorter := D_shorter (P := P) (base := base) T
  exact PyD.d_law (L := LL K A) (k := 33) F S_law fun X c hp W tk =>
    (s_seq (s_cell c rfl (by decide +kernel) (by decide +kernel) (x_lst (x_cons (x_var c rfl (by decide +kernel) (by decide +kernel)) (x_cons x_int x_nil rfl) rfl)) rfl)
    (s_seq (s_par3 c rfl rfl rfl (by decide) (by decide) (by decide) (by decide +kernel) (by decide +kernel) (by decide +kernel) (x_cons (x_add c (x_B x_int) (x_B (x_call c tk d_u_law_take (by decide) T.m_u_law_take T.kp_u_law_take (by decide +kernel) (x_cons (x_var c rfl (by decide +kernel) (by decide +kernel)) (x_cons x_int x_nil rfl) rfl) rfl))) (x_cons (x_add c (x_B x_int) (x_B (x_call c tk d_u_law_take (by decide) T.m_u_law_take T.kp_u_law_take (by decide +kernel) (x_cons (x_var c rfl (by decide +kernel) (by decide +kernel)) (x_cons x_int x_nil rfl) rfl) rfl))) (x_cons (x_add c (x_B x_int) (x_B (x_call c tk d_u_law_take (by decide) T.m_u_law_take T.kp_u_law_take (by decide +kernel) (x_cons (x_var c rfl (by decide +kernel) (by decide +kernel)) (x_cons x_int x_nil rfl) rfl) rfl))) x_nil rfl) rfl) rfl) rfl rfl)
    (s_seq (s_asg c rfl (by decide +kernel) (by decide +kernel) (x_call c tk d_u_law_machine (by decide) T.m_u_law_machine T.kp_u_law_machine (by decide +kernel) (x_cons (x_var c rfl (by decide +kernel) (by decide +kernel)) (x_cons (x_var c rfl (by decide +kernel) (by decide +kernel)) (x_cons (x_var c rfl (by decide +kernel) (by decide +kernel)) x_nil rfl) rfl) rfl) rfl) rfl)
    (s_seq (s_unpT c (x_tup (x_cons (x_make c (cn := 1) tk T.mk_Machine d_Machine_init (by decide) in_Machine_init T.m_Machine (by decide +kernel) (x_cons (x_var c rfl (by decide +kernel) (by decide +kernel)) x_nil rfl) rfl) (x_cons (x_make c (cn := 1) tk T.mk_Machine d_Machine_init (by decide) in_Machine_init T.m_Machine (by decide +kernel) (x_cons (x_call c tk d_u_law_bent (by decide) T.m_u_law_bent T.kp_u_law_bent (by decide +kernel) (x_cons (x_var c rfl (by decide +kernel) (by decide +kernel)) (x_cons (x_var c rfl (by decide +kernel) (by decide +kernel)) x_nil rfl) rfl) rfl) x_nil rfl) rfl) x_nil rfl) rfl)) (g_many c (js := [6, 7]) (g_cons c rfl (by decide +kernel) (by decide +kernel) (g_cons c rfl (by decide +kernel) (by decide +kernel) g_nil)) rfl rfl) rfl rfl rfl)
    (s_seq (s_asg c rfl (by decide +kernel) (by decide +kernel) (x_F (x_lst (x_cons x_str (x_cons x_str (x_cons x_str x_nil rfl) rfl) rfl))) rfl)
    (s_seq (s_lc c (own := [("way", 20)]) (T := (.one 20)) rfl (by decide +kernel) (by decide +kernel) (i_look c (x_look c rfl (by decide +kernel) (by decide +kernel))) (by decide +kernel) (by decide) (fun X c => ⟨(g_one c rfl (by decide +kernel) (by decide +kernel)), (f_one (t_eq c (x_B (x_call c takesWF d_u_law_take (by decide) T.m_u_law_take T.kp_u_law_take (by decide +kernel) (x_cons (x_var c rfl (by decide +kernel) (by decide +kernel)) (x_cons x_int x_nil rfl) rfl) rfl)) (x_B x_int) rfl)), (x_var c rfl (by decide +kernel) (by decide +kernel))⟩) (fun _ => rfl))
    (s_seq (s_asg c rfl (by decide +kernel) (by decide +kernel) (x_call c tk d_judge_machine (by decide) T.m_judge_machine T.kp_judge_machine (by decide +kernel) (x_cons (x_var c rfl (by decide +kernel) (by decide +kernel)) (x_cons (x_var c rfl (by decide +kernel) (by decide +kernel)) x_nil rfl) rfl) rfl) rfl)
    (s_seq (s_asg c rfl (by decide +kernel) (by decide +kernel) (x_call c tk d_failing_runs (by decide) T.m_failing_runs T.kp_failing_runs (by decide +kernel) (x_cons (x_var c rfl (by decide +kernel) (by decide +kernel)) (x_cons (x_var c rfl (by decide +kernel) (by decide +kernel)) (x_cons (x_var c rfl (by decide +kernel) (by decide +kernel)) x_nil rfl) rfl) rfl) rfl) rfl)
    (s_seq (s_unpT c (x_tup (x_cons (x_call c tk d_ends_of (by decide) T.m_ends_of T.kp_ends_of (by decide +kernel) (x_cons (x_var c rfl (by decide +kernel) (by decide +kernel)) (x_cons (x_var c rfl (by decide +kernel) (by decide +kernel)) (x_cons (x_var c rfl (by decide +kernel) (by decide +kernel)) (x_cons (x_var c rfl (by decide +kernel) (by decide +kernel)) x_nil rfl) rfl) rfl) rfl) rfl) (x_cons (x_call c tk d_ends_of (by decide) T.m_ends_of T.kp_ends_of (by decide +kernel) (x_cons (x_var c rfl (by decide +kernel) (by decide +kernel)) (x_cons (x_var c rfl (by decide +kernel) (by decide +kernel)) (x_cons (x_var c rfl (by decide +kernel) (by decide +kernel)) (x_cons (x_var c rfl (by decide +kernel) (by decide +kernel)) x_nil rfl) rfl) rfl) rfl) rfl) x_nil rfl) rfl)) (g_many c (js := [12, 13]) (g_cons c rfl (by decide +kernel) (by decide +kernel) (g_cons c rfl (by decide +kernel) (by decide +kernel) g_nil)) rfl rfl) rfl rfl rfl)
    (s_seq (s_if (PW.pt (w_or (t_tru c tk hT (by decide) rfl (x_any c hT (by decide) T.z_any (by decide +kernel) (x_B (x_F (x_lc c (own := [("run", 16)]) (T := (.one 16)) (i_look c (x_look c rfl (by decide +kernel) (by decide +kernel))) (by decide +kernel) (by decide) (fun X c => ⟨(g_one c rfl (by decide +kernel) (by decide +kernel)), f_no, (x_notIn c (x_look c rfl (by decide +kernel) (by decide +kernel)) (x_look c rfl (by decide +kernel) (by decide +kernel)) rfl)⟩) (fun _ => rfl)))) rfl)) (w_or (t_tru c tk hT (by decide) rfl (x_any c hT (by decide) T.z_any (by decide +kernel) (x_B (x_F (x_lc c (own := [("run", 16)]) (T := (.one 16)) (i_look c (x_look c rfl (by decide +kernel) (by decide +kernel))) (by decide +kernel) (by decide) (fun X c => ⟨(g_one c rfl (by decide +kernel) (by decide +kernel)), f_no, (x_notIn c (x_look c rfl (by decide +kernel) (by decide +kernel)) (x_look c rfl (by decide +kernel) (by decide +kernel)) rfl)⟩) (fun _ => rfl)))) rfl)) (w_or (t_ne c (x_B (x_eq c (x_look c rfl (by decide +kernel) (by decide +kernel)) (x_B (x_F (x_lst x_nil))) rfl)) (x_B (x_eq c (x_look c rfl (by decide +kernel) (by decide +kernel)) (x_B (x_F (x_lst x_nil))) rfl)) rfl) (pw_or1 (PW.pt (w_and (t_ne c (x_look c rfl (by decide +kernel) (by decide +kernel)) (x_B (x_F (x_lst x_nil))) rfl) (pw_and1 (t_ne c (x_B (x_ix c (x_look c rfl (by decide +kernel) (by decide +kernel)) (x_B x_int) (fun _ _ => rfl))) (x_B (x_ix c (x_look c rfl (by decide +kernel) (by decide +kernel)) (x_B x_int) (fun _ _ => rfl))) rfl))))))))) (s_one (s_ret x_bl)) s_end)
    (s_seq (s_if (PW.pt (w_or (t_ne c (x_B (x_call c tk d_ends_of (by decide) T.m_ends_of T.kp_ends_of (by decide +kernel) (x_cons (x_var c rfl (by decide +kernel) (by decide +kernel)) (x_cons (x_var c rfl (by decide +kernel) (by decide +kernel)) (x_cons (x_var c rfl (by decide +kernel) (by decide +kernel)) (x_cons (x_F (x_lst x_nil)) x_nil rfl) rfl) rfl) rfl) rfl)) (x_look c rfl (by decide +kernel) (by decide +kernel)) rfl) (pw_or1 (t_ne c (x_B (x_bool c hT (by decide) T.z_bool (by decide +kernel) (x_call c tk d_judge_ways (by decide) T.m_judge_ways T.kp_judge_ways (by decide +kernel) (x_cons (x_var c rfl (by decide +kernel) (by decide +kernel)) (x_cons (x_var c rfl (by decide +kernel) (by decide +kernel)) (x_cons (x_var c rfl (by decide +kernel) (by decide +kernel)) (x_cons (x_F (x_lst x_nil)) x_nil rfl) rfl) rfl) rfl) rfl) rfl)) (x_B (x_all c hT (by decide) T.z_all (by decide +kernel) (x_B (x_F (x_lc c (own := [("run", 16)]) (T := (.one 16)) (i_look c (x_look c rfl (by decide +kernel) (by decide +kernel))) (by decide +kernel) (by decide) (fun X c => ⟨(g_one c rfl (by decide +kernel) (by decide +kernel)), f_no, (x_eq c (x_B (x_len c T.z_len (by decide +kernel) (x_look c rfl (by decide +kernel) (by decide +kernel)) rfl)) (x_B (x_len c T.z_len (by decide +kernel) (x_B (x_ix c (x_look c rfl (by decide +kernel) (by decide +kernel)) (x_B x_int) (fun _ _ => rfl))) rfl)) rfl)⟩) (fun _ => rfl)))) rfl)) rfl)))) (s_one (s_ret x_bl)) s_end)
    (s_seq (s_if (PW.pt (w_and (t_tru c tk hT (by decide) rfl (x_call c tk d_judge_ways (by decide) T.m_judge_ways T.kp_judge_ways (by decide +kernel) (x_cons (x_var c rfl (by decide +kernel) (by decide +kernel)) (x_cons (x_var c rfl (by decide +kernel) (by decide +kernel)) (x_cons (x_var c rfl (by decide +kernel) (by decide +kernel)) (x_cons (x_var c rfl (by decide +kernel) (by decide +kernel)) x_nil rfl) rfl) rfl) rfl) rfl)) (pw_and1 (t_not (t_tru c tk hT (by decide) rfl (x_call c tk d_judge_ways (by decide) T.m_judge_ways T.kp_judge_ways (by decide +kernel) (x_cons (x_var c rfl (by decide +kernel) (by decide +kernel)) (x_cons (x_var c rfl (by decide +kernel) (by decide +kernel)) (x_cons (x_var c rfl (by decide +kernel) (by decide +kernel)) (x_cons (x_var c rfl (by decide +kernel) (by decide +kernel)) x_nil rfl) rfl) rfl) rfl) rfl)))))) (s_one (s_ret x_bl)) s_end)
    (s_seq (s_if (PW.pt (w_and (t_tru c tk hT (by decide) rfl (x_call c tk d_judge_ways (by decide) T.m_judge_ways T.kp_judge_ways (by decide +kernel) (x_cons (x_var c rfl (by decide +kernel) (by decide +kernel)) (x_cons (x_var c rfl (by decide +kernel) (by decide +kernel)) (x_cons (x_var c rfl (by decide +kernel) (by decide +kernel)) (x_cons (x_var c rfl (by decide +kernel) (by decide +kernel)) x_nil rfl) rfl) rfl) rfl) rfl)) (pw_and1 (t_neM c hE (by decide) (x_call c tk d_judge_ways (by decide) T.m_judge_ways T.kp_judge_ways (by decide +kernel) (x_cons (x_var c rfl (by decide +kernel) (by decide +kernel)) (x_cons (x_var c rfl (by decide +kernel) (by decide +kernel)) (x_cons (x_var c rfl (by decide +kernel) (by decide +kernel)) (x_cons (x_var c rfl (by decide +kernel) (by decide +kernel)) x_nil rfl) rfl) rfl) rfl) rfl) (x_make c (cn := 0) tk T.mk_EndsShort d_EndsShort_init (by decide) in_EndsShort_init T.m_EndsShort (by decide +kernel) (x_cons (x_len c T.z_len (by decide +kernel) (x_look c rfl (by decide +kernel) (by decide +kernel)) rfl) x_nil rfl) rfl) rfl)))) (s_one (s_ret x_bl)) s_end)
    (s_seq (s_if (PW.pt (w_or (t_ne c (x_B (x_call c tk d_ends_of (by decide) T.m_ends_of T.kp_ends_of (by decide +kernel) (x_cons (x_var c rfl (by decide +kernel) (by decide +kernel)) (x_cons (x_var c rfl (by decide +kernel) (by decide +kernel)) (x_cons (x_var c rfl (by decide +kernel) (by decide +kernel)) (x_cons (x_F (x_rev c (x_look c rfl (by decide +kernel) (by decide +kernel)))) x_nil rfl) rfl) rfl) rfl) rfl)) (x_look c rfl (by decide +kernel) (by decide +kernel)) rfl) (pw_or1 (t_ne c (x_B (x_call c tk d_ends_of (by decide) T.m_ends_of T.kp_ends_of (by decide +kernel) (x_cons (x_var c rfl (by decide +kernel) (by decide +kernel)) (x_cons (x_var c rfl (by decide +kernel) (by decide +kernel)) (x_cons (x_var c rfl (by decide +kernel) (by decide +kernel)) (x_cons (x_add c (x_look c rfl (by decide +kernel) (by decide +kernel)) (x_look c rfl (by decide +kernel) (by decide +kernel))) x_nil rfl) rfl) rfl) rfl) rfl)) (x_look c rfl (by decide +kernel) (by decide +kernel)) rfl)))) (s_one (s_ret x_bl)) s_end)
    (s_seq (s_asg c rfl (by decide +kernel) (by decide +kernel) (x_call c tk d_ends_of (by decide) T.m_ends_of T.kp_ends_of (by decide +kernel) (x_cons (x_var c rfl (by decide +kernel) (by decide +kernel)) (x_cons (x_var c rfl (by decide +kernel) (by decide +kernel)) (x_cons (x_var c rfl (by decide +kernel) (by decide +kernel)) (x_cons (x_F (x_lst (x_cons x_str x_nil rfl))) x_nil rfl) rfl) rfl) rfl) rfl) rfl)
    (s_seq (s_if (t_ne c (x_look c rfl (by decide +kernel) (by decide +kernel)) (x_B (x_F (x_lc c (own := [("run", 16)]) (T := (.one 16)) (i_look c (x_look c rfl (by decide +kernel) (by decide +kernel))) (by decide +kernel) (by decide) (fun X c => ⟨(g_one c rfl (by decide +kernel) (by decide +kernel)), (f_one (t_eq c (x_B (x_call c takesWF d_first_failure (by decide) T.m_first_failure T.kp_first_failure (by decide +kernel) (x_cons (x_var c rfl (by decide +kernel) (by decide +kernel)) (x_cons (x_var c rfl (by decide +kernel) (by decide +kernel)) (x_cons (x_var c rfl (by decide +kernel) (by decide +kernel)) x_nil rfl) rfl) rfl) rfl)) (x_B (x_sub c (x_B (x_len c T.z_len (by decide +kernel) (x_look c rfl (by decide +kernel) (by decide +kernel)) rfl)) (x_B x_int))) rfl)), (x_var c rfl (by decide +kernel) (by decide +kernel))⟩) (fun _ => rfl)))) rfl) (s_one (s_ret x_bl)) s_end)
    (s_seq (s_asg c rfl (by decide +kernel) (by decide +kernel) (x_call c tk d_ends_of (by decide) T.m_ends_of T.kp_ends_of (by decide +kernel) (x_cons (x_var c rfl (by decide +kernel) (by decide +kernel)) (x_cons (x_var c rfl (by decide +kernel) (by decide +kernel)) (x_cons (x_var c rfl (by decide +kernel) (by decide +kernel)) (x_cons (x_F (x_lst (x_cons x_str x_nil rfl))) x_nil rfl) rfl) rfl) rfl) rfl) rfl)
    (s_seq (s_for c hp (i_seq c (x_sl c (x_look c rfl (by decide +kernel) (by decide +kernel)) po_no (po_yes x_int))) (g_one c rfl (by decide +kernel) (by decide +kernel)) (s_seq (s_asg c rfl (by decide +kernel) (by decide +kernel) (x_call c tk d_least_parts (by decide) T.m_least_parts T.kp_least_parts (by decide +kernel) (x_cons (x_var c rfl (by decide +kernel) (by decide +kernel)) (x_cons (x_var c rfl (by decide +kernel) (by decide +kernel)) (x_cons (x_var c rfl (by decide +kernel) (by decide +kernel)) x_nil rfl) rfl) rfl) rfl) rfl)
    (s_seq (s_if (PW.pt (w_or (t_not (t_tru c tk hT (by decide) rfl (x_all c hT (by decide) T.z_all (by decide +kernel) (x_B (x_F (x_lc c (own := [("part", 21)]) (T := (.one 21)) (i_look c (x_look c rfl (by decide +kernel) (by decide +kernel))) (by decide +kernel) (by decide) (fun X c => ⟨(g_one c rfl (by decide +kernel) (by decide +kernel)), f_no, (x_call c takesWF d_fails (by decide) T.m_fails T.kp_fails (by decide +kernel) (x_cons (x_var c rfl (by decide +kernel) (by decide +kernel)) (x_cons (x_var c rfl (by decide +kernel) (by decide +kernel)) (x_cons (x_F (x_lc c (own := [("at", 22)]) (T := (.one 22)) (i_look c (x_look c rfl (by decide +kernel) (by decide +kernel))) (by decide +kernel) (by decide) (fun X c => ⟨(g_one c rfl (by decide +kernel) (by decide +kernel)), f_no, (x_ix c (x_look c rfl (by decide +kernel) (by decide +kernel)) (x_look c rfl (by decide +kernel) (by decide +kernel)) (fun _ _ => rfl))⟩) (fun _ => rfl))) x_nil rfl) rfl) rfl) rfl)⟩) (fun _ => rfl)))) rfl))) (pw_or1 (t_eq c (x_look c rfl (by decide +kernel) (by decide +kernel)) (x_B (x_F (x_lst x_nil))) rfl)))) (s_one (s_ret x_bl)) s_end)
    (s_seq (s_if (t_ne c (x_B (x_in c (x_look c rfl (by decide +kernel) (by decide +kernel)) (x_look c rfl (by decide +kernel) (by decide +kernel)) rfl)) (x_B (to_notV (x_any c hT (by decide) T.z_any (by decide +kernel) (x_B (x_F (x_lc c (own := [("at", 22)]) (T := (.one 22)) (i_C (i_rng c T.z_range (by decide +kernel) (x_len c T.z_len (by decide +kernel) (x_look c rfl (by decide +kernel) (by decide +kernel)) rfl) rfl)) (by decide +kernel) (by decide) (fun X c => ⟨(g_one c rfl (by decide +kernel) (by decide +kernel)), f_no, (x_call c takesWF d_fails (by decide) T.m_fails T.kp_fails (by decide +kernel) (x_cons (x_var c rfl (by decide +kernel) (by decide +kernel)) (x_cons (x_var c rfl (by decide +kernel) (by decide +kernel)) (x_cons (x_add c (x_B (x_sl c (x_look c rfl (by decide +kernel) (by decide +kernel)) po_no (po_yes (x_var c rfl (by decide +kernel) (by decide +kernel))))) (x_B (x_sl c (x_look c rfl (by decide +kernel) (by decide +kernel)) (po_yes (x_add c (x_look c rfl (by decide +kernel) (by decide +kernel)) (x_B x_int))) po_no))) x_nil rfl) rfl) rfl) rfl)⟩) (fun _ => rfl)))) rfl))) rfl) (s_one (s_ret x_bl)) s_end)
    (s_seq (s_if (PW.pt (w_or (t_ne c (x_B (x_call c tk d_matter (by decide) T.m_matter T.kp_matter (by decide +kernel) (x_cons (x_var c rfl (by decide +kernel) (by decide +kernel)) (x_cons (x_var c rfl (by decide +kernel) (by decide +kernel)) (x_cons (x_var c rfl (by decide +kernel) (by decide +kernel)) x_nil rfl) rfl) rfl) rfl)) (x_B (x_F (x_lc c (own := [("at", 22)]) (T := (.one 22)) (i_C (i_rng c T.z_range (by decide +kernel) (x_len c T.z_len (by decide +kernel) (x_look c rfl (by decide +kernel) (by decide +kernel)) rfl) rfl)) (by decide +kernel) (by decide) (fun X c => ⟨(g_one c rfl (by decide +kernel) (by decide +kernel)), (f_one (t_not (t_tru c takesWF hT (by decide) rfl (x_any c hT (by decide) T.z_any (by decide +kernel) (x_B (x_F (x_lc c (own := [("part", 21)]) (T := (.one 21)) (i_look c (x_look c rfl (by decide +kernel) (by decide +kernel))) (by decide +kernel) (by decide) (fun X c => ⟨(g_one c rfl (by decide +kernel) (by decide +kernel)), f_no, (x_notIn c (x_look c rfl (by decide +kernel) (by decide +kernel)) (x_look c rfl (by decide +kernel) (by decide +kernel)) rfl)⟩) (fun _ => rfl)))) rfl)))), (x_var c rfl (by decide +kernel) (by decide +kernel))⟩) (fun _ => rfl)))) rfl) (pw_or1 (t_lt c (x_B (x_min c T.z_min (by decide +kernel) (x_B (x_F (x_lc c (own := [("part", 21)]) (T := (.one 21)) (i_look c (x_look c rfl (by decide +kernel) (by decide +kernel))) (by decide +kernel) (by decide) (fun X c => ⟨(g_one c rfl (by decide +kernel) (by decide +kernel)), f_no, (x_len c T.z_len (by decide +kernel) (x_look c rfl (by decide +kernel) (by decide +kernel)) rfl)⟩) (fun _ => rfl)))) rfl)) (x_B (x_len c T.z_len (by decide +kernel) (x_B (x_fld c T.at_run (x_look c rfl (by decide +kernel) (by decide +kernel)) rfl)) rfl)) rfl)))) (s_one (s_ret x_bl)) s_end)
    (s_seq (s_for c hp (i_seq c (x_tup (x_cons (x_var c rfl (by decide +kernel) (by decide +kernel)) (x_cons (x_var c rfl (by decide +kernel) (by decide +kernel)) (x_cons (x_F (x_lst (x_cons x_str x_nil rfl))) x_nil rfl) rfl) rfl))) (g_one c rfl (by decide +kernel) (by decide +kernel)) (s_seq (s_asg c rfl (by decide +kernel) (by decide +kernel) (x_call c tk d_cut_down (by decide) T.m_cut_down T.kp_cut_down (by decide +kernel) (x_cons (x_var c rfl (by decide +kernel) (by decide +kernel)) (x_cons (x_var c rfl (by decide +kernel) (by decide +kernel)) (x_cons (x_var c rfl (by decide +kernel) (by decide +kernel)) (x_cons (x_var c rfl (by decide +kernel) (by decide +kernel)) x_nil rfl) rfl) rfl) rfl) rfl) rfl)
    (s_seq (s_if (PW.pt (w_or (t_ne c (x_B (x_ix c (x_look c rfl (by decide +kernel) (by decide +kernel)) (x_B x_int) (fun _ _ => rfl))) (x_look c rfl (by decide +kernel) (by decide +kernel)) rfl) (w_or (t_not (t_tru c tk hT (by decide) rfl (x_call c tk d_is_end (by decide) T.m_is_end T.kp_is_end (by decide +kernel) (x_cons (x_var c rfl (by decide +kernel) (by decide +kernel)) (x_cons (x_var c rfl (by decide +kernel) (by decide +kernel)) (x_cons (x_ix c (x_look c rfl (by decide +kernel) (by decide +kernel)) (x_B (x_neg x_int)) (fun _ _ => rfl)) (x_cons (x_var c rfl (by decide +kernel) (by decide +kernel)) x_nil rfl) rfl) rfl) rfl) rfl))) (pw_or1 (t_tru c tk hT (by decide) rfl (x_any c hT (by decide) T.z_any (by decide +kernel) (x_B (x_F (x_lc c (own := [("ahead", 23), ("late", 24)]) (T := (.many [23, 24])) (i_C (i_zip c T.z_zip (by decide +kernel) (x_cons (x_var c rfl (by decide +kernel) (by decide +kernel)) (x_cons (x_sl c (x_look c rfl (by decide +kernel) (by decide +kernel)) (po_yes x_int) po_no) x_nil rfl) rfl) rfl)) (by decide +kernel) (by decide) (fun X c => ⟨(g_many c (js := [23, 24]) (g_cons c rfl (by decide +kernel) (by decide +kernel) (g_cons c rfl (by decide +kernel) (by decide +kernel) g_nil)) rfl rfl), f_no, (to_orV (x_ge c (x_B (x_len c T.z_len (by decide +kernel) (x_look c rfl (by decide +kernel) (by decide +kernel)) rfl)) (x_B (x_len c T.z_len (by decide +kernel) (x_look c rfl (by decide +kernel) (by decide +kernel)) rfl)) rfl) (v_one (x_notIn c (x_look c rfl (by decide +kernel) (by decide +kernel)) (x_B (x_call c takesWF d_shorter (by decide) T.m_shorter T.kp_shorter (by decide +kernel) (x_cons (x_var c rfl (by decide +kernel) (by decide +kernel)) (x_cons (x_var c rfl (by decide +kernel) (by decide +kernel)) x_nil rfl) rfl) rfl)) rfl)))⟩) (fun _ => rfl)))) rfl)))))) (s_one (s_ret x_bl)) s_end)
    (s_one (s_if (PW.pt (w_or (t_notIn c (x_B (x_ix c (x_look c rfl (by decide +kernel) (by decide +kernel)) (x_B (x_neg x_int)) (fun _ _ => rfl))) (x_B (x_call c tk d_ends_of (by decide) T.m_ends_of T.kp_ends_of (by decide +kernel) (x_cons (x_var c rfl (by decide +kernel) (by decide +kernel)) (x_cons (x_var c rfl (by decide +kernel) (by decide +kernel)) (x_cons (x_var c rfl (by decide +kernel) (by decide +kernel)) (x_cons (x_var c rfl (by decide +kernel) (by decide +kernel)) x_nil rfl) rfl) rfl) rfl) rfl)) rfl) (w_or (t_lt c (x_B (x_len c T.z_len (by decide +kernel) (x_B (x_ix c (x_look c rfl (by decide +kernel) (by decide +kernel)) (x_B (x_neg x_int)) (fun _ _ => rfl))) rfl)) (x_B (x_len c T.z_len (by decide +kernel) (x_B (x_fld c T.at_run (x_look c rfl (by decide +kernel) (by decide +kernel)) rfl)) rfl)) rfl) (pw_or1 (t_ne c (x_B (x_bool c hT (by decide) T.z_bool (by decide +kernel) (x_call c tk d_judge_run (by decide) T.m_judge_run T.kp_judge_run (by decide +kernel) (x_cons (x_var c rfl (by decide +kernel) (by decide +kernel)) (x_cons (x_var c rfl (by decide +kernel) (by decide +kernel)) (x_cons (x_ix c (x_look c rfl (by decide +kernel) (by decide +kernel)) (x_B (x_neg x_int)) (fun _ _ => rfl)) x_nil rfl) rfl) rfl) rfl) rfl)) (x_B (x_eq c (x_B (x_len c T.z_len (by decide +kernel) (x_B (x_ix c (x_look c rfl (by decide +kernel) (by decide +kernel)) (x_B (x_neg x_int)) (fun _ _ => rfl))) rfl)) (x_B (x_len c T.z_len (by decide +kernel) (x_B (x_fld c T.at_run (x_look c rfl (by decide +kernel) (by decide +kernel)) rfl)) rfl)) rfl)) rfl))))) (s_one (s_ret x_bl)) s_end)))) (fun _ => rfl))
    (s_one (s_if (t_ne c (x_B (x_ix c (x_B (x_call c tk d_cut_down (by decide) T.m_cut_down T.kp_cut_down (by decide +kernel) (x_cons (x_var c rfl (by decide +kernel) (by decide +kernel)) (x_cons (x_var c rfl (by decide +kernel) (by decide +kernel)) (x_cons (x_var c rfl (by decide +kernel) (by decide +kernel)) (x_cons (x_F (x_lst (x_cons x_str x_nil rfl))) x_nil rfl) rfl) rfl) rfl) rfl)) (x_B (x_neg x_int)) (fun _ _ => rfl))) (x_B (x_sl c (x_look c rfl (by decide +kernel) (by decide +kernel)) po_no (po_yes (x_add c (x_B (x_call c tk d_first_failure (by decide) T.m_first_failure T.kp_first_failure (by decide +kernel) (x_cons (x_var c rfl (by decide +kernel) (by decide +kernel)) (x_cons (x_var c rfl (by decide +kernel) (by decide +kernel)) (x_cons (x_var c rfl (by decide +kernel) (by decide +kernel)) x_nil rfl) rfl) rfl) rfl)) (x_B x_int))))) rfl) (s_one (s_ret x_bl)) s_end))))))) (fun _ => rfl))
    (s_seq (s_for c hp (i_seq c (x_sl c (x_B (x_call c tk d_runs_of (by decide) T.m_runs_of T.kp_runs_of (by decide +kernel) (x_cons (x_var c rfl (by decide +kernel) (by decide +kernel)) (x_cons (x_var c rfl (by decide +kernel) (by decide +kernel)) x_nil rfl) rfl) rfl)) po_no (po_yes x_int))) (g_one c rfl (by decide +kernel) (by decide +kernel)) (s_one (s_if (PW.pt (w_or (t_ne c (x_B (x_in c (x_look c rfl (by decide +kernel) (by decide +kernel)) (x_look c rfl (by decide +kernel) (by decide +kernel)) rfl)) (x_B (x_call c tk d_fails (by decide) T.m_fails T.kp_fails (by decide +kernel) (x_cons (x_var c rfl (by decide +kernel) (by decide +kernel)) (x_cons (x_var c rfl (by decide +kernel) (by decide +kernel)) (x_cons (x_var c rfl (by decide +kernel) (by decide +kernel)) x_nil rfl) rfl) rfl) rfl)) rfl) (pw_or1 (t_ne c (x_B (x_isN c (x_B (x_call c tk d_first_failure (by decide) T.m_first_failure T.kp_first_failure (by decide +kernel) (x_cons (x_var c rfl (by decide +kernel) (by decide +kernel)) (x_cons (x_var c rfl (by decide +kernel) (by decide +kernel)) (x_cons (x_var c rfl (by decide +kernel) (by decide +kernel)) x_nil rfl) rfl) rfl) rfl)) (x_B x_non) rfl)) (x_B (x_notIn c (x_look c rfl (by decide +kernel) (by decide +kernel)) (x_look c rfl (by decide +kernel) (by decide +kernel)) rfl)) rfl)))) (s_one (s_ret x_bl)) s_end)) (fun _ => rfl))
    (s_seq (s_if (PW.pt (w_or (PW.pt (w_and (t_tru c tk hT (by decide) rfl (x_var c rfl (by decide +kernel) (by decide +kernel))) (pw_and1 (t_ne c (x_look c rfl (by decide +kernel) (by decide +kernel)) (x_B (x_F (x_lst x_nil))) rfl)))) (pw_or1 (PW.pt (w_and (t_not (t_tru c tk hT (by decide) rfl (x_var c rfl (by decide +kernel) (by decide +kernel)))) (w_and (t_le c (x_B (x_len c T.z_len (by decide +kernel) (x_B (x_fld c T.at_run (x_look c rfl (by decide +kernel) (by decide +kernel)) rfl)) rfl)) (x_look c rfl (by decide +kernel) (by decide +kernel)) rfl) (pw_and1 (PW.pt (w_or (t_eq c (x_look c rfl (by decide +kernel) (by decide +kernel)) (x_B (x_F (x_lst x_nil))) rfl) (pw_or1 (t_ne c (x_B (x_len c T.z_len (by decide +kernel) (x_B (x_ix c (x_look c rfl (by decide +kernel) (by decide +kernel)) (x_B x_int) (fun _ _ => rfl))) rfl)) (x_B (x_len c T.z_len (by decide +kernel) (x_B (x_fld c T.at_run (x_look c rfl (by decide +kernel) (by decide +kernel)) rfl)) rfl)) rfl))))))))))) (s_one (s_ret x_bl)) s_end)
    (s_seq (s_for c hp (i_seq c (x_call c tk d_shorter (by decide) T.m_shorter T.kp_shorter (by decide +kernel) (x_cons (x_var c rfl (by decide +kernel) (by decide +kernel)) (x_cons (x_rgT c T.z_tuple (by decide +kernel) T.z_range (by decide +kernel) x_int rfl) x_nil rfl) rfl) rfl)) (g_one c rfl (by decide +kernel) (by decide +kernel)) (s_one (s_if (PW.pt (w_or (t_gt c (x_B (x_len c T.z_len (by decide +kernel) (x_look c rfl (by decide +kernel) (by decide +kernel)) rfl)) (x_B x_int) rfl) (pw_or1 (t_tru c tk hT (by decide) rfl (x_any c hT (by decide) T.z_any (by decide +kernel) (x_B (x_F (x_lc c (own := [("number", 25)]) (T := (.one 25)) (i_look c (x_look c rfl (by decide +kernel) (by decide +kernel))) (by decide +kernel) (by decide) (fun X c => ⟨(g_one c rfl (by decide +kernel) (by decide +kernel)), f_no, (x_notIn c (x_look c rfl (by decide +kernel) (by decide +kernel)) (x_B (x_tup (x_cons x_int (x_cons x_int (x_cons x_int x_nil rfl) rfl) rfl))) rfl)⟩) (fun _ => rfl)))) rfl))))) (s_one (s_ret x_bl)) s_end)) (fun _ => rfl))
    (s_one (s_ret (to_andV (x_eq c (x_B (x_call c tk d_shorter (by decide) T.m_shorter T.kp_shorter (by decide +kernel) (x_cons (x_F (x_lst (x_cons x_str x_nil rfl))) (x_cons (x_tup (x_cons x_int (x_cons x_int x_nil rfl) rfl)) x_nil rfl) rfl) rfl)) (x_B (x_F (x_lst (x_cons (x_tup x_nil) (x_cons (x_tup (x_cons x_int x_nil rfl)) x_nil rfl) rfl)))) rfl) (to_andV (x_eq c (x_B (x_call c tk d_shorter (by decide) T.m_shorter T.kp_shorter (by decide +kernel) (x_cons (x_F (x_lst (x_cons x_str x_nil rfl))) (x_cons (x_tup (x_cons x_int (x_cons x_int x_nil rfl) rfl)) x_nil rfl) rfl) rfl)) (x_B (x_F (x_lst (x_cons (x_tup (x_cons x_int x_nil rfl)) x_nil rfl)))) rfl) (v_one (x_eq c (x_B (x_call c tk d_shorter (by decide) T.m_shorter T.kp_shorter (by decide +kernel) (x_cons (x_F (x_lst (x_cons x_str x_nil rfl))) (x_cons (x_tup (x_cons x_int (x_cons x_int (x_cons x_int x_nil rfl) rfl) rfl)) x_nil rfl) rfl) rfl)) (x_B (x_F (x_lst (x_cons (x_tup (x_cons x_int (x_cons x_int x_nil rfl) rfl)) (x_cons (x_tup (x_cons x_int x_nil rfl)) x_nil rfl) rfl)))) rfl)))))))))))))))))))))))))))
end
set_option maxHeartbeats 0 in
theorem all_mk {P : Program} {w : World} {K : PySem.W.Frag} {h : Heap} {mg : Str → Option Value} {fa : Addr} (X : K.In h) (G : h.Ns mainGlobals mg) (hfa : mg "law" = some (.ref fa))
    {C_EndsShort : Addr}
    {C_Machine : Addr}
    {C_Alike : Addr}
    {C_Differs : Addr}
    {C_Shortest : Addr}
    {C_Longer : Addr}
    {C_EndsLong : Addr}
    {a_is_row : Addr} {od_is_row an_is_row : Option Addr} {sl_is_row : Array (Option Value)} {oc_is_row kV_is_row dc_is_row pm_is_row cd_is_row ct_is_row : Value}
    {a_is_number : Addr} {od_is_number an_is_number : Option Addr} {sl_is_number : Array (Option Value)} {oc_is_number kV_is_number dc_is_number pm_is_number cd_is_number ct_is_number : Value}
    {a_is_below : Addr} {od_is_below an_is_below : Option Addr} {sl_is_below : Array (Option Value)} {oc_is_below kV_is_below dc_is_below pm_is_below cd_is_below ct_is_below : Value}
    {a_sets_of : Addr} {od_sets_of an_sets_of : Option Addr} {sl_sets_of : Array (Option Value)} {oc_sets_of kV_sets_of dc_sets_of pm_sets_of cd_sets_of ct_sets_of : Value}
    {a_Alike_bool : Addr} {od_Alike_bool an_Alike_bool : Option Addr} {sl_Alike_bool : Array (Option Value)} {oc_Alike_bool kV_Alike_bool dc_Alike_bool pm_Alike_bool cd_Alike_bool ct_Alike_bool : Value}
    {a_Differs_bool : Addr} {od_Differs_bool an_Differs_bool : Option Addr} {sl_Differs_bool : Array (Option Value)} {oc_Differs_bool kV_Differs_bool dc_Differs_bool pm_Differs_bool cd_Differs_bool ct_Differs_bool : Value}
    {a_EndsLong_bool : Addr} {od_EndsLong_bool an_EndsLong_bool : Option Addr} {sl_EndsLong_bool : Array (Option Value)} {oc_EndsLong_bool kV_EndsLong_bool dc_EndsLong_bool pm_EndsLong_bool cd_EndsLong_bool ct_EndsLong_bool : Value}
    {a_EndsShort_bool : Addr} {od_EndsShort_bool an_EndsShort_bool : Option Addr} {sl_EndsShort_bool : Array (Option Value)} {oc_EndsShort_bool kV_EndsShort_bool dc_EndsShort_bool pm_EndsShort_bool cd_EndsShort_bool ct_EndsShort_bool : Value}
    {a_Longer_bool : Addr} {od_Longer_bool an_Longer_bool : Option Addr} {sl_Longer_bool : Array (Option Value)} {oc_Longer_bool kV_Longer_bool dc_Longer_bool pm_Longer_bool cd_Longer_bool ct_Longer_bool : Value}
    {a_Shortest_bool : Addr} {od_Shortest_bool an_Shortest_bool : Option Addr} {sl_Shortest_bool : Array (Option Value)} {oc_Shortest_bool kV_Shortest_bool dc_Shortest_bool pm_Shortest_bool cd_Shortest_bool ct_Shortest_bool : Value}
    {a_is_answer : Addr} {od_is_answer an_is_answer : Option Addr} {sl_is_answer : Array (Option Value)} {oc_is_answer kV_is_answer dc_is_answer pm_is_answer cd_is_answer ct_is_answer : Value}
    {a_Machine_init : Addr} {od_Machine_init an_Machine_init : Option Addr} {sl_Machine_init : Array (Option Value)} {oc_Machine_init kV_Machine_init dc_Machine_init pm_Machine_init cd_Machine_init ct_Machine_init : Value}
    {a_Machine_commands : Addr} {od_Machine_commands an_Machine_commands : Option Addr} {sl_Machine_commands : Array (Option Value)} {oc_Machine_commands kV_Machine_commands dc_Machine_commands pm_Machine_commands cd_Machine_commands ct_Machine_commands : Value}
    {a_Machine_run : Addr} {od_Machine_run an_Machine_run : Option Addr} {sl_Machine_run : Array (Option Value)} {oc_Machine_run kV_Machine_run dc_Machine_run pm_Machine_run cd_Machine_run ct_Machine_run : Value}
    {a_check_two : Addr} {od_check_two an_check_two : Option Addr} {sl_check_two : Array (Option Value)} {oc_check_two kV_check_two dc_check_two pm_check_two cd_check_two ct_check_two : Value}
    {a_Alike_init : Addr} {od_Alike_init an_Alike_init : Option Addr} {sl_Alike_init : Array (Option Value)} {oc_Alike_init kV_Alike_init dc_Alike_init pm_Alike_init cd_Alike_init ct_Alike_init : Value}
    {a_Differs_init : Addr} {od_Differs_init an_Differs_init : Option Addr} {sl_Differs_init : Array (Option Value)} {oc_Differs_init kV_Differs_init dc_Differs_init pm_Differs_init cd_Differs_init ct_Differs_init : Value}
    {a_fails : Addr} {od_fails an_fails : Option Addr} {sl_fails : Array (Option Value)} {oc_fails kV_fails dc_fails pm_fails cd_fails ct_fails : Value}
    {a_judge_machine : Addr} {od_judge_machine an_judge_machine : Option Addr} {sl_judge_machine : Array (Option Value)} {oc_judge_machine kV_judge_machine dc_judge_machine pm_judge_machine cd_judge_machine ct_judge_machine : Value}
    {a_runs_of : Addr} {od_runs_of an_runs_of : Option Addr} {sl_runs_of : Array (Option Value)} {oc_runs_of kV_runs_of dc_runs_of pm_runs_of cd_runs_of ct_runs_of : Value}
    {a_failing_runs : Addr} {od_failing_runs an_failing_runs : Option Addr} {sl_failing_runs : Array (Option Value)} {oc_failing_runs kV_failing_runs dc_failing_runs pm_failing_runs cd_failing_runs ct_failing_runs : Value}
    {a_check_failing : Addr} {od_check_failing an_check_failing : Option Addr} {sl_check_failing : Array (Option Value)} {oc_check_failing kV_check_failing dc_check_failing pm_check_failing cd_check_failing ct_check_failing : Value}
    {a_check_ways : Addr} {od_check_ways an_check_ways : Option Addr} {sl_check_ways : Array (Option Value)} {oc_check_ways kV_check_ways dc_check_ways pm_check_ways cd_check_ways ct_check_ways : Value}
    {a_tried : Addr} {od_tried an_tried : Option Addr} {sl_tried : Array (Option Value)} {oc_tried kV_tried dc_tried pm_tried cd_tried ct_tried : Value}
    {a_shorter : Addr} {od_shorter an_shorter : Option Addr} {sl_shorter : Array (Option Value)} {oc_shorter kV_shorter dc_shorter pm_shorter cd_shorter ct_shorter : Value}
    {a_cut_down : Addr} {od_cut_down an_cut_down : Option Addr} {sl_cut_down : Array (Option Value)} {oc_cut_down kV_cut_down dc_cut_down pm_cut_down cd_cut_down ct_cut_down : Value}
    {a_is_end : Addr} {od_is_end an_is_end : Option Addr} {sl_is_end : Array (Option Value)} {oc_is_end kV_is_end dc_is_end pm_is_end cd_is_end ct_is_end : Value}
    {a_least_parts : Addr} {od_least_parts an_least_parts : Option Addr} {sl_least_parts : Array (Option Value)} {oc_least_parts kV_least_parts dc_least_parts pm_least_parts cd_least_parts ct_least_parts : Value}
    {a_matter : Addr} {od_matter an_matter : Option Addr} {sl_matter : Array (Option Value)} {oc_matter kV_matter dc_matter pm_matter cd_matter ct_matter : Value}
    {a_Shortest_init : Addr} {od_Shortest_init an_Shortest_init : Option Addr} {sl_Shortest_init : Array (Option Value)} {oc_Shortest_init kV_Shortest_init dc_Shortest_init pm_Shortest_init cd_Shortest_init ct_Shortest_init : Value}
    {a_Longer_init : Addr} {od_Longer_init an_Longer_init : Option Addr} {sl_Longer_init : Array (Option Value)} {oc_Longer_init kV_Longer_init dc_Longer_init pm_Longer_init cd_Longer_init ct_Longer_init : Value}
    {a_judge_run : Addr} {od_judge_run an_judge_run : Option Addr} {sl_judge_run : Array (Option Value)} {oc_judge_run kV_judge_run dc_judge_run pm_judge_run cd_judge_run ct_judge_run : Value}
    {a_ends_of : Addr} {od_ends_of an_ends_of : Option Addr} {sl_ends_of : Array (Option Value)} {oc_ends_of kV_ends_of dc_ends_of pm_ends_of cd_ends_of ct_ends_of : Value}
    {a_EndsShort_init : Addr} {od_EndsShort_init an_EndsShort_init : Option Addr} {sl_EndsShort_init : Array (Option Value)} {oc_EndsShort_init kV_EndsShort_init dc_EndsShort_init pm_EndsShort_init cd_EndsShort_init ct_EndsShort_init : Value}
    {a_EndsShort_eq : Addr} {od_EndsShort_eq an_EndsShort_eq : Option Addr} {sl_EndsShort_eq : Array (Option Value)} {oc_EndsShort_eq kV_EndsShort_eq dc_EndsShort_eq pm_EndsShort_eq cd_EndsShort_eq ct_EndsShort_eq : Value}
    {a_EndsLong_init : Addr} {od_EndsLong_init an_EndsLong_init : Option Addr} {sl_EndsLong_init : Array (Option Value)} {oc_EndsLong_init kV_EndsLong_init dc_EndsLong_init pm_EndsLong_init cd_EndsLong_init ct_EndsLong_init : Value}
    {a_judge_ways : Addr} {od_judge_ways an_judge_ways : Option Addr} {sl_judge_ways : Array (Option Value)} {oc_judge_ways kV_judge_ways dc_judge_ways pm_judge_ways cd_judge_ways ct_judge_ways : Value}
    {a_first_failure : Addr} {od_first_failure an_first_failure : Option Addr} {sl_first_failure : Array (Option Value)} {oc_first_failure kV_first_failure dc_first_failure pm_first_failure cd_first_failure ct_first_failure : Value}
    {a_u_law_number : Addr} {od_u_law_number an_u_law_number : Option Addr} {sl_u_law_number : Array (Option Value)} {oc_u_law_number kV_u_law_number dc_u_law_number pm_u_law_number cd_u_law_number ct_u_law_number : Value}
    {a_u_law_take : Addr} {od_u_law_take an_u_law_take : Option Addr} {sl_u_law_take : Array (Option Value)} {oc_u_law_take kV_u_law_take dc_u_law_take pm_u_law_take cd_u_law_take ct_u_law_take : Value}
    {a_u_law_machine : Addr} {od_u_law_machine an_u_law_machine : Option Addr} {sl_u_law_machine : Array (Option Value)} {oc_u_law_machine kV_u_law_machine dc_u_law_machine pm_u_law_machine cd_u_law_machine ct_u_law_machine : Value}
    {a_u_law_bent : Addr} {od_u_law_bent an_u_law_bent : Option Addr} {sl_u_law_bent : Array (Option Value)} {oc_u_law_bent kV_u_law_bent dc_u_law_bent pm_u_law_bent cd_u_law_bent ct_u_law_bent : Value}
    {a_law : Addr} {od_law an_law : Option Addr} {sl_law : Array (Option Value)} {oc_law kV_law dc_law pm_law cd_law ct_law : Value}
    {tk_MOST_STATES : Tok}
    {tk_MOST_COMMANDS : Tok}
    {tk_MOST_RUN_machines : Tok}
    {tk_MOST_ANSWER : Tok}
    {a_WAYS : Addr} {dd_WAYS : Option Addr} {it_WAYS : Array Value} {n_WAYS : Nat} {sl_WAYS : Array (Option Value)}
    {tk_MOST_RUN_commands : Tok}
    (gc_EndsShort : PySem.W.nsIn K mainGlobals "EndsShort" = some (some (.ref C_EndsShort)))
    (gc_Machine : PySem.W.nsIn K mainGlobals "Machine" = some (some (.ref C_Machine)))
    (gc_Alike : PySem.W.nsIn K mainGlobals "Alike" = some (some (.ref C_Alike)))
    (gc_Differs : PySem.W.nsIn K mainGlobals "Differs" = some (some (.ref C_Differs)))
    (gc_Shortest : PySem.W.nsIn K mainGlobals "Shortest" = some (some (.ref C_Shortest)))
    (gc_Longer : PySem.W.nsIn K mainGlobals "Longer" = some (some (.ref C_Longer)))
    (gc_EndsLong : PySem.W.nsIn K mainGlobals "EndsLong" = some (some (.ref C_EndsLong)))
    (g_is_row : PySem.W.nsIn K mainGlobals "is_row" = some (some (.ref a_is_row)))
    (l_is_row : K.lookup a_is_row = some ⟨oc_is_row, od_is_row, .func (PySem.W.fnOf "is_row" "is_row" (defArgs s_is_row) (defBody s_is_row) (defScope s_is_row) .none kV_is_row dc_is_row pm_is_row an_is_row cd_is_row ct_is_row), sl_is_row⟩)
    (q_is_row : PySem.W.codeIn K cd_is_row "is_row" = true)
    (kp_is_row : PySem.W.keepIn K (.ref a_is_row) = true)
    (g_is_number : PySem.W.nsIn K mainGlobals "is_number" = some (some (.ref a_is_number)))
    (l_is_number : K.lookup a_is_number = some ⟨oc_is_number, od_is_number, .func (PySem.W.fnOf "is_number" "is_number" (defArgs s_is_number) (defBody s_is_number) (defScope s_is_number) .none kV_is_number dc_is_number pm_is_number an_is_number cd_is_number ct_is_number), sl_is_number⟩)
    (q_is_number : PySem.W.codeIn K cd_is_number "is_number" = true)
    (kp_is_number : PySem.W.keepIn K (.ref a_is_number) = true)
    (g_is_below : PySem.W.nsIn K mainGlobals "is_below" = some (some (.ref a_is_below)))
    (l_is_below : K.lookup a_is_below = some ⟨oc_is_below, od_is_below, .func (PySem.W.fnOf "is_below" "is_below" (defArgs s_is_below) (defBody s_is_below) (defScope s_is_below) .none kV_is_below dc_is_below pm_is_below an_is_below cd_is_below ct_is_below), sl_is_below⟩)
    (q_is_below : PySem.W.codeIn K cd_is_below "is_below" = true)
    (kp_is_below : PySem.W.keepIn K (.ref a_is_below) = true)
    (g_sets_of : PySem.W.nsIn K mainGlobals "sets_of" = some (some (.ref a_sets_of)))
    (l_sets_of : K.lookup a_sets_of = some ⟨oc_sets_of, od_sets_of, .func (PySem.W.fnOf "sets_of" "sets_of" (defArgs s_sets_of) (defBody s_sets_of) (defScope s_sets_of) .none kV_sets_of dc_sets_of pm_sets_of an_sets_of cd_sets_of ct_sets_of), sl_sets_of⟩)
    (q_sets_of : PySem.W.codeIn K cd_sets_of "sets_of" = true)
    (kp_sets_of : PySem.W.keepIn K (.ref a_sets_of) = true)
    (g_Alike_bool : PySem.W.findIn K (.ref C_Alike) "__bool__" = some (some (.ref a_Alike_bool)))
    (i_Alike_bool : PySem.W.isFn K (.ref a_Alike_bool) = true)
    (l_Alike_bool : K.lookup a_Alike_bool = some ⟨oc_Alike_bool, od_Alike_bool, .func (PySem.W.fnOf "__bool__" "Alike.__bool__" (defArgs s_Alike_bool) (defBody s_Alike_bool) (defScope s_Alike_bool) .none kV_Alike_bool dc_Alike_bool pm_Alike_bool an_Alike_bool cd_Alike_bool ct_Alike_bool), sl_Alike_bool⟩)
    (q_Alike_bool : PySem.W.codeIn K cd_Alike_bool "Alike.__bool__" = true)
    (kp_Alike_bool : PySem.W.keepIn K (.ref a_Alike_bool) = true)
    (g_Differs_bool : PySem.W.findIn K (.ref C_Differs) "__bool__" = some (some (.ref a_Differs_bool)))
    (i_Differs_bool : PySem.W.isFn K (.ref a_Differs_bool) = true)
    (l_Differs_bool : K.lookup a_Differs_bool = some ⟨oc_Differs_bool, od_Differs_bool, .func (PySem.W.fnOf "__bool__" "Differs.__bool__" (defArgs s_Differs_bool) (defBody s_Differs_bool) (defScope s_Differs_bool) .none kV_Differs_bool dc_Differs_bool pm_Differs_bool an_Differs_bool cd_Differs_bool ct_Differs_bool), sl_Differs_bool⟩)
    (q_Differs_bool : PySem.W.codeIn K cd_Differs_bool "Differs.__bool__" = true)
    (kp_Differs_bool : PySem.W.keepIn K (.ref a_Differs_bool) = true)
    (g_EndsLong_bool : PySem.W.findIn K (.ref C_EndsLong) "__bool__" = some (some (.ref a_EndsLong_bool)))
    (i_EndsLong_bool : PySem.W.isFn K (.ref a_EndsLong_bool) = true)
    (l_EndsLong_bool : K.lookup a_EndsLong_bool = some ⟨oc_EndsLong_bool, od_EndsLong_bool, .func (PySem.W.fnOf "__bool__" "EndsLong.__bool__" (defArgs s_EndsLong_bool) (defBody s_EndsLong_bool) (defScope s_EndsLong_bool) .none kV_EndsLong_bool dc_EndsLong_bool pm_EndsLong_bool an_EndsLong_bool cd_EndsLong_bool ct_EndsLong_bool), sl_EndsLong_bool⟩)
    (q_EndsLong_bool : PySem.W.codeIn K cd_EndsLong_bool "EndsLong.__bool__" = true)
    (kp_EndsLong_bool : PySem.W.keepIn K (.ref a_EndsLong_bool) = true)
    (g_EndsShort_bool : PySem.W.findIn K (.ref C_EndsShort) "__bool__" = some (some (.ref a_EndsShort_bool)))
    (i_EndsShort_bool : PySem.W.isFn K (.ref a_EndsShort_bool) = true)
    (l_EndsShort_bool : K.lookup a_EndsShort_bool = some ⟨oc_EndsShort_bool, od_EndsShort_bool, .func (PySem.W.fnOf "__bool__" "EndsShort.__bool__" (defArgs s_EndsShort_bool) (defBody s_EndsShort_bool) (defScope s_EndsShort_bool) .none kV_EndsShort_bool dc_EndsShort_bool pm_EndsShort_bool an_EndsShort_bool cd_EndsShort_bool ct_EndsShort_bool), sl_EndsShort_bool⟩)
    (q_EndsShort_bool : PySem.W.codeIn K cd_EndsShort_bool "EndsShort.__bool__" = true)
    (kp_EndsShort_bool : PySem.W.keepIn K (.ref a_EndsShort_bool) = true)
    (g_Longer_bool : PySem.W.findIn K (.ref C_Longer) "__bool__" = some (some (.ref a_Longer_bool)))
    (i_Longer_bool : PySem.W.isFn K (.ref a_Longer_bool) = true)
    (l_Longer_bool : K.lookup a_Longer_bool = some ⟨oc_Longer_bool, od_Longer_bool, .func (PySem.W.fnOf "__bool__" "Longer.__bool__" (defArgs s_Longer_bool) (defBody s_Longer_bool) (defScope s_Longer_bool) .none kV_Longer_bool dc_Longer_bool pm_Longer_bool an_Longer_bool cd_Longer_bool ct_Longer_bool), sl_Longer_bool⟩)
    (q_Longer_bool : PySem.W.codeIn K cd_Longer_bool "Longer.__bool__" = true)
    (kp_Longer_bool : PySem.W.keepIn K (.ref a_Longer_bool) = true)
    (g_Shortest_bool : PySem.W.findIn K (.ref C_Shortest) "__bool__" = some (some (.ref a_Shortest_bool)))
    (i_Shortest_bool : PySem.W.isFn K (.ref a_Shortest_bool) = true)
    (l_Shortest_bool : K.lookup a_Shortest_bool = some ⟨oc_Shortest_bool, od_Shortest_bool, .func (PySem.W.fnOf "__bool__" "Shortest.__bool__" (defArgs s_Shortest_bool) (defBody s_Shortest_bool) (defScope s_Shortest_bool) .none kV_Shortest_bool dc_Shortest_bool pm_Shortest_bool an_Shortest_bool cd_Shortest_bool ct_Shortest_bool), sl_Shortest_bool⟩)
    (q_Shortest_bool : PySem.W.codeIn K cd_Shortest_bool "Shortest.__bool__" = true)
    (kp_Shortest_bool : PySem.W.keepIn K (.ref a_Shortest_bool) = true)
    (g_is_answer : PySem.W.nsIn K mainGlobals "is_answer" = some (some (.ref a_is_answer)))
    (l_is_answer : K.lookup a_is_answer = some ⟨oc_is_answer, od_is_answer, .func (PySem.W.fnOf "is_answer" "is_answer" (defArgs s_is_answer) (defBody s_is_answer) (defScope s_is_answer) .none kV_is_answer dc_is_answer pm_is_answer an_is_answer cd_is_answer ct_is_answer), sl_is_answer⟩)
    (q_is_answer : PySem.W.codeIn K cd_is_answer "is_answer" = true)
    (kp_is_answer : PySem.W.keepIn K (.ref a_is_answer) = true)
    (g_Machine_init : PySem.W.findIn K (.ref C_Machine) "__init__" = some (some (.ref a_Machine_init)))
    (i_Machine_init : PySem.W.isFn K (.ref a_Machine_init) = true)
    (l_Machine_init : K.lookup a_Machine_init = some ⟨oc_Machine_init, od_Machine_init, .func (PySem.W.fnOf "__init__" "Machine.__init__" (defArgs s_Machine_init) (defBody s_Machine_init) (defScope s_Machine_init) .none kV_Machine_init dc_Machine_init pm_Machine_init an_Machine_init cd_Machine_init ct_Machine_init), sl_Machine_init⟩)
    (q_Machine_init : PySem.W.codeIn K cd_Machine_init "Machine.__init__" = true)
    (kp_Machine_init : PySem.W.keepIn K (.ref a_Machine_init) = true)
    (g_Machine_commands : PySem.W.findIn K (.ref C_Machine) "commands" = some (some (.ref a_Machine_commands)))
    (i_Machine_commands : PySem.W.isFn K (.ref a_Machine_commands) = true)
    (l_Machine_commands : K.lookup a_Machine_commands = some ⟨oc_Machine_commands, od_Machine_commands, .func (PySem.W.fnOf "commands" "Machine.commands" (defArgs s_Machine_commands) (defBody s_Machine_commands) (defScope s_Machine_commands) .none kV_Machine_commands dc_Machine_commands pm_Machine_commands an_Machine_commands cd_Machine_commands ct_Machine_commands), sl_Machine_commands⟩)
    (q_Machine_commands : PySem.W.codeIn K cd_Machine_commands "Machine.commands" = true)
    (kp_Machine_commands : PySem.W.keepIn K (.ref a_Machine_commands) = true)
    (g_Machine_run : PySem.W.findIn K (.ref C_Machine) "run" = some (some (.ref a_Machine_run)))
    (i_Machine_run : PySem.W.isFn K (.ref a_Machine_run) = true)
    (l_Machine_run : K.lookup a_Machine_run = some ⟨oc_Machine_run, od_Machine_run, .func (PySem.W.fnOf "run" "Machine.run" (defArgs s_Machine_run) (defBody s_Machine_run) (defScope s_Machine_run) .none kV_Machine_run dc_Machine_run pm_Machine_run an_Machine_run cd_Machine_run ct_Machine_run), sl_Machine_run⟩)
    (q_Machine_run : PySem.W.codeIn K cd_Machine_run "Machine.run" = true)
    (kp_Machine_run : PySem.W.keepIn K (.ref a_Machine_run) = true)
    (g_check_two : PySem.W.nsIn K mainGlobals "check_two" = some (some (.ref a_check_two)))
    (l_check_two : K.lookup a_check_two = some ⟨oc_check_two, od_check_two, .func (PySem.W.fnOf "check_two" "check_two" (defArgs s_check_two) (defBody s_check_two) (defScope s_check_two) .none kV_check_two dc_check_two pm_check_two an_check_two cd_check_two ct_check_two), sl_check_two⟩)
    (q_check_two : PySem.W.codeIn K cd_check_two "check_two" = true)
    (kp_check_two : PySem.W.keepIn K (.ref a_check_two) = true)
    (g_Alike_init : PySem.W.findIn K (.ref C_Alike) "__init__" = some (some (.ref a_Alike_init)))
    (i_Alike_init : PySem.W.isFn K (.ref a_Alike_init) = true)
    (l_Alike_init : K.lookup a_Alike_init = some ⟨oc_Alike_init, od_Alike_init, .func (PySem.W.fnOf "__init__" "Alike.__init__" (defArgs s_Alike_init) (defBody s_Alike_init) (defScope s_Alike_init) .none kV_Alike_init dc_Alike_init pm_Alike_init an_Alike_init cd_Alike_init ct_Alike_init), sl_Alike_init⟩)
    (q_Alike_init : PySem.W.codeIn K cd_Alike_init "Alike.__init__" = true)
    (kp_Alike_init : PySem.W.keepIn K (.ref a_Alike_init) = true)
    (g_Differs_init : PySem.W.findIn K (.ref C_Differs) "__init__" = some (some (.ref a_Differs_init)))
    (i_Differs_init : PySem.W.isFn K (.ref a_Differs_init) = true)
    (l_Differs_init : K.lookup a_Differs_init = some ⟨oc_Differs_init, od_Differs_init, .func (PySem.W.fnOf "__init__" "Differs.__init__" (defArgs s_Differs_init) (defBody s_Differs_init) (defScope s_Differs_init) .none kV_Differs_init dc_Differs_init pm_Differs_init an_Differs_init cd_Differs_init ct_Differs_init), sl_Differs_init⟩)
    (q_Differs_init : PySem.W.codeIn K cd_Differs_init "Differs.__init__" = true)
    (kp_Differs_init : PySem.W.keepIn K (.ref a_Differs_init) = true)
    (g_fails : PySem.W.nsIn K mainGlobals "fails" = some (some (.ref a_fails)))
    (l_fails : K.lookup a_fails = some ⟨oc_fails, od_fails, .func (PySem.W.fnOf "fails" "fails" (defArgs s_fails) (defBody s_fails) (defScope s_fails) .none kV_fails dc_fails pm_fails an_fails cd_fails ct_fails), sl_fails⟩)
    (q_fails : PySem.W.codeIn K cd_fails "fails" = true)
    (kp_fails : PySem.W.keepIn K (.ref a_fails) = true)
    (g_judge_machine : PySem.W.nsIn K mainGlobals "judge_machine" = some (some (.ref a_judge_machine)))
    (l_judge_machine : K.lookup a_judge_machine = some ⟨oc_judge_machine, od_judge_machine, .func (PySem.W.fnOf "judge_machine" "judge_machine" (defArgs s_judge_machine) (defBody s_judge_machine) (defScope s_judge_machine) .none kV_judge_machine dc_judge_machine pm_judge_machine an_judge_machine cd_judge_machine ct_judge_machine), sl_judge_machine⟩)
    (q_judge_machine : PySem.W.codeIn K cd_judge_machine "judge_machine" = true)
    (kp_judge_machine : PySem.W.keepIn K (.ref a_judge_machine) = true)
    (g_runs_of : PySem.W.nsIn K mainGlobals "runs_of" = some (some (.ref a_runs_of)))
    (l_runs_of : K.lookup a_runs_of = some ⟨oc_runs_of, od_runs_of, .func (PySem.W.fnOf "runs_of" "runs_of" (defArgs s_runs_of) (defBody s_runs_of) (defScope s_runs_of) .none kV_runs_of dc_runs_of pm_runs_of an_runs_of cd_runs_of ct_runs_of), sl_runs_of⟩)
    (q_runs_of : PySem.W.codeIn K cd_runs_of "runs_of" = true)
    (kp_runs_of : PySem.W.keepIn K (.ref a_runs_of) = true)
    (g_failing_runs : PySem.W.nsIn K mainGlobals "failing_runs" = some (some (.ref a_failing_runs)))
    (l_failing_runs : K.lookup a_failing_runs = some ⟨oc_failing_runs, od_failing_runs, .func (PySem.W.fnOf "failing_runs" "failing_runs" (defArgs s_failing_runs) (defBody s_failing_runs) (defScope s_failing_runs) .none kV_failing_runs dc_failing_runs pm_failing_runs an_failing_runs cd_failing_runs ct_failing_runs), sl_failing_runs⟩)
    (q_failing_runs : PySem.W.codeIn K cd_failing_runs "failing_runs" = true)
    (kp_failing_runs : PySem.W.keepIn K (.ref a_failing_runs) = true)
    (g_check_failing : PySem.W.nsIn K mainGlobals "check_failing" = some (some (.ref a_check_failing)))
    (l_check_failing : K.lookup a_check_failing = some ⟨oc_check_failing, od_check_failing, .func (PySem.W.fnOf "check_failing" "check_failing" (defArgs s_check_failing) (defBody s_check_failing) (defScope s_check_failing) .none kV_check_failing dc_check_failing pm_check_failing an_check_failing cd_check_failing ct_check_failing), sl_check_failing⟩)
    (q_check_failing : PySem.W.codeIn K cd_check_failing "check_failing" = true)
    (kp_check_failing : PySem.W.keepIn K (.ref a_check_failing) = true)
    (g_check_ways : PySem.W.nsIn K mainGlobals "check_ways" = some (some (.ref a_check_ways)))
    (l_check_ways : K.lookup a_check_ways = some ⟨oc_check_ways, od_check_ways, .func (PySem.W.fnOf "check_ways" "check_ways" (defArgs s_check_ways) (defBody s_check_ways) (defScope s_check_ways) .none kV_check_ways dc_check_ways pm_check_ways an_check_ways cd_check_ways ct_check_ways), sl_check_ways⟩)
    (q_check_ways : PySem.W.codeIn K cd_check_ways "check_ways" = true)
    (kp_check_ways : PySem.W.keepIn K (.ref a_check_ways) = true)
    (g_tried : PySem.W.nsIn K mainGlobals "tried" = some (some (.ref a_tried)))
    (l_tried : K.lookup a_tried = some ⟨oc_tried, od_tried, .func (PySem.W.fnOf "tried" "tried" (defArgs s_tried) (defBody s_tried) (defScope s_tried) .none kV_tried dc_tried pm_tried an_tried cd_tried ct_tried), sl_tried⟩)
    (q_tried : PySem.W.codeIn K cd_tried "tried" = true)
    (kp_tried : PySem.W.keepIn K (.ref a_tried) = true)
    (g_shorter : PySem.W.nsIn K mainGlobals "shorter" = some (some (.ref a_shorter)))
    (l_shorter : K.lookup a_shorter = some ⟨oc_shorter, od_shorter, .func (PySem.W.fnOf "shorter" "shorter" (defArgs s_shorter) (defBody s_shorter) (defScope s_shorter) .none kV_shorter dc_shorter pm_shorter an_shorter cd_shorter ct_shorter), sl_shorter⟩)
    (q_shorter : PySem.W.codeIn K cd_shorter "shorter" = true)
    (kp_shorter : PySem.W.keepIn K (.ref a_shorter) = true)
    (g_cut_down : PySem.W.nsIn K mainGlobals "cut_down" = some (some (.ref a_cut_down)))
    (l_cut_down : K.lookup a_cut_down = some ⟨oc_cut_down, od_cut_down, .func (PySem.W.fnOf "cut_down" "cut_down" (defArgs s_cut_down) (defBody s_cut_down) (defScope s_cut_down) .none kV_cut_down dc_cut_down pm_cut_down an_cut_down cd_cut_down ct_cut_down), sl_cut_down⟩)
    (q_cut_down : PySem.W.codeIn K cd_cut_down "cut_down" = true)
    (kp_cut_down : PySem.W.keepIn K (.ref a_cut_down) = true)
    (g_is_end : PySem.W.nsIn K mainGlobals "is_end" = some (some (.ref a_is_end)))
    (l_is_end : K.lookup a_is_end = some ⟨oc_is_end, od_is_end, .func (PySem.W.fnOf "is_end" "is_end" (defArgs s_is_end) (defBody s_is_end) (defScope s_is_end) .none kV_is_end dc_is_end pm_is_end an_is_end cd_is_end ct_is_end), sl_is_end⟩)
    (q_is_end : PySem.W.codeIn K cd_is_end "is_end" = true)
    (kp_is_end : PySem.W.keepIn K (.ref a_is_end) = true)
    (g_least_parts : PySem.W.nsIn K mainGlobals "least_parts" = some (some (.ref a_least_parts)))
    (l_least_parts : K.lookup a_least_parts = some ⟨oc_least_parts, od_least_parts, .func (PySem.W.fnOf "least_parts" "least_parts" (defArgs s_least_parts) (defBody s_least_parts) (defScope s_least_parts) .none kV_least_parts dc_least_parts pm_least_parts an_least_parts cd_least_parts ct_least_parts), sl_least_parts⟩)
    (q_least_parts : PySem.W.codeIn K cd_least_parts "least_parts" = true)
    (kp_least_parts : PySem.W.keepIn K (.ref a_least_parts) = true)
    (g_matter : PySem.W.nsIn K mainGlobals "matter" = some (some (.ref a_matter)))
    (l_matter : K.lookup a_matter = some ⟨oc_matter, od_matter, .func (PySem.W.fnOf "matter" "matter" (defArgs s_matter) (defBody s_matter) (defScope s_matter) .none kV_matter dc_matter pm_matter an_matter cd_matter ct_matter), sl_matter⟩)
    (q_matter : PySem.W.codeIn K cd_matter "matter" = true)
    (kp_matter : PySem.W.keepIn K (.ref a_matter) = true)
    (g_Shortest_init : PySem.W.findIn K (.ref C_Shortest) "__init__" = some (some (.ref a_Shortest_init)))
    (i_Shortest_init : PySem.W.isFn K (.ref a_Shortest_init) = true)
    (l_Shortest_init : K.lookup a_Shortest_init = some ⟨oc_Shortest_init, od_Shortest_init, .func (PySem.W.fnOf "__init__" "Shortest.__init__" (defArgs s_Shortest_init) (defBody s_Shortest_init) (defScope s_Shortest_init) .none kV_Shortest_init dc_Shortest_init pm_Shortest_init an_Shortest_init cd_Shortest_init ct_Shortest_init), sl_Shortest_init⟩)
    (q_Shortest_init : PySem.W.codeIn K cd_Shortest_init "Shortest.__init__" = true)
    (kp_Shortest_init : PySem.W.keepIn K (.ref a_Shortest_init) = true)
    (g_Longer_init : PySem.W.findIn K (.ref C_Longer) "__init__" = some (some (.ref a_Longer_init)))
    (i_Longer_init : PySem.W.isFn K (.ref a_Longer_init) = true)
    (l_Longer_init : K.lookup a_Longer_init = some ⟨oc_Longer_init, od_Longer_init, .func (PySem.W.fnOf "__init__" "Longer.__init__" (defArgs s_Longer_init) (defBody s_Longer_init) (defScope s_Longer_init) .none kV_Longer_init dc_Longer_init pm_Longer_init an_Longer_init cd_Longer_init ct_Longer_init), sl_Longer_init⟩)
    (q_Longer_init : PySem.W.codeIn K cd_Longer_init "Longer.__init__" = true)
    (kp_Longer_init : PySem.W.keepIn K (.ref a_Longer_init) = true)
    (g_judge_run : PySem.W.nsIn K mainGlobals "judge_run" = some (some (.ref a_judge_run)))
    (l_judge_run : K.lookup a_judge_run = some ⟨oc_judge_run, od_judge_run, .func (PySem.W.fnOf "judge_run" "judge_run" (defArgs s_judge_run) (defBody s_judge_run) (defScope s_judge_run) .none kV_judge_run dc_judge_run pm_judge_run an_judge_run cd_judge_run ct_judge_run), sl_judge_run⟩)
    (q_judge_run : PySem.W.codeIn K cd_judge_run "judge_run" = true)
    (kp_judge_run : PySem.W.keepIn K (.ref a_judge_run) = true)
    (g_ends_of : PySem.W.nsIn K mainGlobals "ends_of" = some (some (.ref a_ends_of)))
    (l_ends_of : K.lookup a_ends_of = some ⟨oc_ends_of, od_ends_of, .func (PySem.W.fnOf "ends_of" "ends_of" (defArgs s_ends_of) (defBody s_ends_of) (defScope s_ends_of) .none kV_ends_of dc_ends_of pm_ends_of an_ends_of cd_ends_of ct_ends_of), sl_ends_of⟩)
    (q_ends_of : PySem.W.codeIn K cd_ends_of "ends_of" = true)
    (kp_ends_of : PySem.W.keepIn K (.ref a_ends_of) = true)
    (g_EndsShort_init : PySem.W.findIn K (.ref C_EndsShort) "__init__" = some (some (.ref a_EndsShort_init)))
    (i_EndsShort_init : PySem.W.isFn K (.ref a_EndsShort_init) = true)
    (l_EndsShort_init : K.lookup a_EndsShort_init = some ⟨oc_EndsShort_init, od_EndsShort_init, .func (PySem.W.fnOf "__init__" "EndsShort.__init__" (defArgs s_EndsShort_init) (defBody s_EndsShort_init) (defScope s_EndsShort_init) .none kV_EndsShort_init dc_EndsShort_init pm_EndsShort_init an_EndsShort_init cd_EndsShort_init ct_EndsShort_init), sl_EndsShort_init⟩)
    (q_EndsShort_init : PySem.W.codeIn K cd_EndsShort_init "EndsShort.__init__" = true)
    (kp_EndsShort_init : PySem.W.keepIn K (.ref a_EndsShort_init) = true)
    (g_EndsShort_eq : PySem.W.findIn K (.ref C_EndsShort) "__eq__" = some (some (.ref a_EndsShort_eq)))
    (i_EndsShort_eq : PySem.W.isFn K (.ref a_EndsShort_eq) = true)
    (l_EndsShort_eq : K.lookup a_EndsShort_eq = some ⟨oc_EndsShort_eq, od_EndsShort_eq, .func (PySem.W.fnOf "__eq__" "EndsShort.__eq__" (defArgs s_EndsShort_eq) (defBody s_EndsShort_eq) (defScope s_EndsShort_eq) .none kV_EndsShort_eq dc_EndsShort_eq pm_EndsShort_eq an_EndsShort_eq cd_EndsShort_eq ct_EndsShort_eq), sl_EndsShort_eq⟩)
    (q_EndsShort_eq : PySem.W.codeIn K cd_EndsShort_eq "EndsShort.__eq__" = true)
    (kp_EndsShort_eq : PySem.W.keepIn K (.ref a_EndsShort_eq) = true)
    (g_EndsLong_init : PySem.W.findIn K (.ref C_EndsLong) "__init__" = some (some (.ref a_EndsLong_init)))
    (i_EndsLong_init : PySem.W.isFn K (.ref a_EndsLong_init) = true)
    (l_EndsLong_init : K.lookup a_EndsLong_init = some ⟨oc_EndsLong_init, od_EndsLong_init, .func (PySem.W.fnOf "__init__" "EndsLong.__init__" (defArgs s_EndsLong_init) (defBody s_EndsLong_init) (defScope s_EndsLong_init) .none kV_EndsLong_init dc_EndsLong_init pm_EndsLong_init an_EndsLong_init cd_EndsLong_init ct_EndsLong_init), sl_EndsLong_init⟩)
    (q_EndsLong_init : PySem.W.codeIn K cd_EndsLong_init "EndsLong.__init__" = true)
    (kp_EndsLong_init : PySem.W.keepIn K (.ref a_EndsLong_init) = true)
    (g_judge_ways : PySem.W.nsIn K mainGlobals "judge_ways" = some (some (.ref a_judge_ways)))
    (l_judge_ways : K.lookup a_judge_ways = some ⟨oc_judge_ways, od_judge_ways, .func (PySem.W.fnOf "judge_ways" "judge_ways" (defArgs s_judge_ways) (defBody s_judge_ways) (defScope s_judge_ways) .none kV_judge_ways dc_judge_ways pm_judge_ways an_judge_ways cd_judge_ways ct_judge_ways), sl_judge_ways⟩)
    (q_judge_ways : PySem.W.codeIn K cd_judge_ways "judge_ways" = true)
    (kp_judge_ways : PySem.W.keepIn K (.ref a_judge_ways) = true)
    (g_first_failure : PySem.W.nsIn K mainGlobals "first_failure" = some (some (.ref a_first_failure)))
    (l_first_failure : K.lookup a_first_failure = some ⟨oc_first_failure, od_first_failure, .func (PySem.W.fnOf "first_failure" "first_failure" (defArgs s_first_failure) (defBody s_first_failure) (defScope s_first_failure) .none kV_first_failure dc_first_failure pm_first_failure an_first_failure cd_first_failure ct_first_failure), sl_first_failure⟩)
    (q_first_failure : PySem.W.codeIn K cd_first_failure "first_failure" = true)
    (kp_first_failure : PySem.W.keepIn K (.ref a_first_failure) = true)
    (g_u_law_number : PySem.W.nsIn K mainGlobals "_law_number" = some (some (.ref a_u_law_number)))
    (l_u_law_number : K.lookup a_u_law_number = some ⟨oc_u_law_number, od_u_law_number, .func (PySem.W.fnOf "_law_number" "_law_number" (defArgs s_u_law_number) (defBody s_u_law_number) (defScope s_u_law_number) .none kV_u_law_number dc_u_law_number pm_u_law_number an_u_law_number cd_u_law_number ct_u_law_number), sl_u_law_number⟩)
    (q_u_law_number : PySem.W.codeIn K cd_u_law_number "_law_number" = true)
    (kp_u_law_number : PySem.W.keepIn K (.ref a_u_law_number) = true)
    (g_u_law_take : PySem.W.nsIn K mainGlobals "_law_take" = some (some (.ref a_u_law_take)))
    (l_u_law_take : K.lookup a_u_law_take = some ⟨oc_u_law_take, od_u_law_take, .func (PySem.W.fnOf "_law_take" "_law_take" (defArgs s_u_law_take) (defBody s_u_law_take) (defScope s_u_law_take) .none kV_u_law_take dc_u_law_take pm_u_law_take an_u_law_take cd_u_law_take ct_u_law_take), sl_u_law_take⟩)
    (q_u_law_take : PySem.W.codeIn K cd_u_law_take "_law_take" = true)
    (kp_u_law_take : PySem.W.keepIn K (.ref a_u_law_take) = true)
    (g_u_law_machine : PySem.W.nsIn K mainGlobals "_law_machine" = some (some (.ref a_u_law_machine)))
    (l_u_law_machine : K.lookup a_u_law_machine = some ⟨oc_u_law_machine, od_u_law_machine, .func (PySem.W.fnOf "_law_machine" "_law_machine" (defArgs s_u_law_machine) (defBody s_u_law_machine) (defScope s_u_law_machine) .none kV_u_law_machine dc_u_law_machine pm_u_law_machine an_u_law_machine cd_u_law_machine ct_u_law_machine), sl_u_law_machine⟩)
    (q_u_law_machine : PySem.W.codeIn K cd_u_law_machine "_law_machine" = true)
    (kp_u_law_machine : PySem.W.keepIn K (.ref a_u_law_machine) = true)
    (g_u_law_bent : PySem.W.nsIn K mainGlobals "_law_bent" = some (some (.ref a_u_law_bent)))
    (l_u_law_bent : K.lookup a_u_law_bent = some ⟨oc_u_law_bent, od_u_law_bent, .func (PySem.W.fnOf "_law_bent" "_law_bent" (defArgs s_u_law_bent) (defBody s_u_law_bent) (defScope s_u_law_bent) .none kV_u_law_bent dc_u_law_bent pm_u_law_bent an_u_law_bent cd_u_law_bent ct_u_law_bent), sl_u_law_bent⟩)
    (q_u_law_bent : PySem.W.codeIn K cd_u_law_bent "_law_bent" = true)
    (kp_u_law_bent : PySem.W.keepIn K (.ref a_u_law_bent) = true)
    (g_law : PySem.W.nsIn K mainGlobals "law" = some (some (.ref a_law)))
    (l_law : K.lookup a_law = some ⟨oc_law, od_law, .func (PySem.W.fnOf "law" "law" (defArgs s_law) (defBody s_law) (defScope s_law) .none kV_law dc_law pm_law an_law cd_law ct_law), sl_law⟩)
    (q_law : PySem.W.codeIn K cd_law "law" = true)
    (kp_law : PySem.W.keepIn K (.ref a_law) = true)
    (pg_EndsShort : PySem.W.plainGet K C_EndsShort Str.empty = true)
    (hd_EndsShort : PySem.W.hasDictIn K C_EndsShort = true)
    (po_EndsShort : PySem.W.plainOver K C_EndsShort = true)
    (sa_EndsShort : PySem.W.findIn K (.ref C_EndsShort) "__setattr__" = some (some (.builtin "object.__setattr__")))
    (mk_EndsShort : PySem.W.makesIn K C_EndsShort = true)
    (kc_EndsShort : PySem.W.keepIn K (.ref C_EndsShort) = true)
    (na_EndsShort_runs : PySem.W.findIn K (.ref C_EndsShort) "runs" = some none)
    (ha_EndsShort : PySem.W.findIn K (.ref C_EndsShort) "__class__" = some (some (.builtin "object.__class__")))
    (hm_EndsShort : PySem.W.mroIn K C_EndsShort (.type "object") = some true)
    (fn_EndsShort : PySem.W.findIn K (.ref C_EndsShort) "__ne__" = some (some (.builtin "object.__ne__")))
    (nf_EndsShort_EndsShort : PySem.W.notFirst K C_EndsShort (.ref C_EndsShort) = true)
    (pg_Machine : PySem.W.plainGet K C_Machine Str.empty = true)
    (hd_Machine : PySem.W.hasDictIn K C_Machine = true)
    (po_Machine : PySem.W.plainOver K C_Machine = true)
    (sa_Machine : PySem.W.findIn K (.ref C_Machine) "__setattr__" = some (some (.builtin "object.__setattr__")))
    (mk_Machine : PySem.W.makesIn K C_Machine = true)
    (kc_Machine : PySem.W.keepIn K (.ref C_Machine) = true)
    (na_Machine_rows : PySem.W.findIn K (.ref C_Machine) "rows" = some none)
    (ha_Machine : PySem.W.findIn K (.ref C_Machine) "__class__" = some (some (.builtin "object.__class__")))
    (hm_Machine : PySem.W.mroIn K C_Machine (.type "object") = some true)
    (pg_Alike : PySem.W.plainGet K C_Alike Str.empty = true)
    (hd_Alike : PySem.W.hasDictIn K C_Alike = true)
    (po_Alike : PySem.W.plainOver K C_Alike = true)
    (sa_Alike : PySem.W.findIn K (.ref C_Alike) "__setattr__" = some (some (.builtin "object.__setattr__")))
    (mk_Alike : PySem.W.makesIn K C_Alike = true)
    (kc_Alike : PySem.W.keepIn K (.ref C_Alike) = true)
    (na_Alike_pairs : PySem.W.findIn K (.ref C_Alike) "pairs" = some none)
    (pg_Differs : PySem.W.plainGet K C_Differs Str.empty = true)
    (hd_Differs : PySem.W.hasDictIn K C_Differs = true)
    (po_Differs : PySem.W.plainOver K C_Differs = true)
    (sa_Differs : PySem.W.findIn K (.ref C_Differs) "__setattr__" = some (some (.builtin "object.__setattr__")))
    (mk_Differs : PySem.W.makesIn K C_Differs = true)
    (kc_Differs : PySem.W.keepIn K (.ref C_Differs) = true)
    (na_Differs_run : PySem.W.findIn K (.ref C_Differs) "run" = some none)
    (pg_Shortest : PySem.W.plainGet K C_Shortest Str.empty = true)
    (hd_Shortest : PySem.W.hasDictIn K C_Shortest = true)
    (po_Shortest : PySem.W.plainOver K C_Shortest = true)
    (sa_Shortest : PySem.W.findIn K (.ref C_Shortest) "__setattr__" = some (some (.builtin "object.__setattr__")))
    (mk_Shortest : PySem.W.makesIn K C_Shortest = true)
    (kc_Shortest : PySem.W.keepIn K (.ref C_Shortest) = true)
    (na_Shortest_many : PySem.W.findIn K (.ref C_Shortest) "many" = some none)
    (pg_Longer : PySem.W.plainGet K C_Longer Str.empty = true)
    (hd_Longer : PySem.W.hasDictIn K C_Longer = true)
    (po_Longer : PySem.W.plainOver K C_Longer = true)
    (sa_Longer : PySem.W.findIn K (.ref C_Longer) "__setattr__" = some (some (.builtin "object.__setattr__")))
    (mk_Longer : PySem.W.makesIn K C_Longer = true)
    (kc_Longer : PySem.W.keepIn K (.ref C_Longer) = true)
    (na_Longer_run : PySem.W.findIn K (.ref C_Longer) "run" = some none)
    (pg_EndsLong : PySem.W.plainGet K C_EndsLong Str.empty = true)
    (hd_EndsLong : PySem.W.hasDictIn K C_EndsLong = true)
    (po_EndsLong : PySem.W.plainOver K C_EndsLong = true)
    (sa_EndsLong : PySem.W.findIn K (.ref C_EndsLong) "__setattr__" = some (some (.builtin "object.__setattr__")))
    (mk_EndsLong : PySem.W.makesIn K C_EndsLong = true)
    (kc_EndsLong : PySem.W.keepIn K (.ref C_EndsLong) = true)
    (na_EndsLong_run : PySem.W.findIn K (.ref C_EndsLong) "run" = some none)
    (hn : PySem.W.specialIn K (.builtin "object.__class__") "__get__" = some (some (.builtin "getset_descriptor.__get__")))
    (htk : PySem.W.takesIn K (.builtin "object.__class__") = some true)
    (z_all : PySem.W.nsIn K mainGlobals "all" = some none)
    (z_any : PySem.W.nsIn K mainGlobals "any" = some none)
    (z_bool : PySem.W.nsIn K mainGlobals "bool" = some none)
    (z_enumerate : PySem.W.nsIn K mainGlobals "enumerate" = some none)
    (z_int : PySem.W.nsIn K mainGlobals "int" = some none)
    (z_isinstance : PySem.W.nsIn K mainGlobals "isinstance" = some none)
    (z_len : PySem.W.nsIn K mainGlobals "len" = some none)
    (z_list : PySem.W.nsIn K mainGlobals "list" = some none)
    (z_min : PySem.W.nsIn K mainGlobals "min" = some none)
    (z_range : PySem.W.nsIn K mainGlobals "range" = some none)
    (z_str : PySem.W.nsIn K mainGlobals "str" = some none)
    (z_tuple : PySem.W.nsIn K mainGlobals "tuple" = some none)
    (z_zip : PySem.W.nsIn K mainGlobals "zip" = some none)
    (k_MOST_STATES : PySem.W.nsIn K mainGlobals "MOST_STATES" = some (some (.int 8 tk_MOST_STATES)))
    (k_MOST_COMMANDS : PySem.W.nsIn K mainGlobals "MOST_COMMANDS" = some (some (.int 4 tk_MOST_COMMANDS)))
    (k_MOST_RUN_machines : PySem.W.nsIn K mainGlobals "MOST_RUN_machines" = some (some (.int 12 tk_MOST_RUN_machines)))
    (k_MOST_ANSWER : PySem.W.nsIn K mainGlobals "MOST_ANSWER" = some (some (.int 1000 tk_MOST_ANSWER)))
    (k_WAYS : PySem.W.nsIn K mainGlobals "WAYS" = some (some (.ref a_WAYS)))
    (lk_WAYS : K.lookup a_WAYS = some ⟨.type "tuple", dd_WAYS, .seq it_WAYS n_WAYS, sl_WAYS⟩)
    (vl_WAYS : Vals [V.str "one", V.str "half", V.str "tail"] it_WAYS.toList)
    (k_MOST_RUN_commands : PySem.W.nsIn K mainGlobals "MOST_RUN_commands" = some (some (.int 12 tk_MOST_RUN_commands)))
    : ∃ fd : FuncData, (∀ (s : Shared) (v : Value), BindsTo s fd ⟨[v], []⟩ [("script", v)]) ∧ ∀ base : Heap, K.In base → base.Ns mainGlobals mg → FnOk P w K mg base (L2.CX P w) 34 fa fd ["script"] (spLaw K) := by
  have e := hfa.symm.trans (PySem.W.mg_of X G g_law)
  cases e
  let A : Adr := ⟨a_is_row, a_is_number, a_is_below, a_sets_of, a_Alike_bool, a_Differs_bool, a_EndsLong_bool, a_EndsShort_bool, a_Longer_bool, a_Shortest_bool, a_is_answer, a_Machine_init, a_Machine_commands, a_Machine_run, a_check_two, a_Alike_init, a_Differs_init, a_fails, a_judge_machine, a_runs_of, a_failing_runs, a_check_failing, a_check_ways, a_tried, a_shorter, a_cut_down, a_is_end, a_least_parts, a_matter, a_Shortest_init, a_Longer_init, a_judge_run, a_ends_of, a_EndsShort_init, a_EndsShort_eq, a_EndsLong_init, a_judge_ways, a_first_failure, a_u_law_number, a_u_law_take, a_u_law_machine, a_u_law_bent, fa, C_EndsShort, C_Machine, C_Alike, C_Differs, C_Shortest, C_Longer, C_EndsLong⟩
  have ck_EndsShort : Ck (LL K A) 0 ["runs"] := ⟨⟨pg_EndsShort, hd_EndsShort, po_EndsShort, sa_EndsShort⟩, rfl, by decide, fun x hx => by
    rcases List.mem_cons.mp hx with rfl | hx
    · exact na_EndsShort_runs
    cases hx⟩
  have io_EndsShort : InsOk (LL K A) K 0 := ⟨ck_EndsShort.cl, ha_EndsShort, hn, htk, hm_EndsShort⟩
  have ck_Machine : Ck (LL K A) 1 ["rows"] := ⟨⟨pg_Machine, hd_Machine, po_Machine, sa_Machine⟩, rfl, by decide, fun x hx => by
    rcases List.mem_cons.mp hx with rfl | hx
    · exact na_Machine_rows
    cases hx⟩
  have io_Machine : InsOk (LL K A) K 1 := ⟨ck_Machine.cl, ha_Machine, hn, htk, hm_Machine⟩
  have ck_Alike : Ck (LL K A) 2 ["pairs"] := ⟨⟨pg_Alike, hd_Alike, po_Alike, sa_Alike⟩, rfl, by decide, fun x hx => by
    rcases List.mem_cons.mp hx with rfl | hx
    · exact na_Alike_pairs
    cases hx⟩
  have ck_Differs : Ck (LL K A) 3 ["run"] := ⟨⟨pg_Differs, hd_Differs, po_Differs, sa_Differs⟩, rfl, by decide, fun x hx => by
    rcases List.mem_cons.mp hx with rfl | hx
    · exact na_Differs_run
    cases hx⟩
  have ck_Shortest : Ck (LL K A) 4 ["many"] := ⟨⟨pg_Shortest, hd_Shortest, po_Shortest, sa_Shortest⟩, rfl, by decide, fun x hx => by
    rcases List.mem_cons.mp hx with rfl | hx
    · exact na_Shortest_many
    cases hx⟩
  have ck_Longer : Ck (LL K A) 5 ["run"] := ⟨⟨pg_Longer, hd_Longer, po_Longer, sa_Longer⟩, rfl, by decide, fun x hx => by
    rcases List.mem_cons.mp hx with rfl | hx
    · exact na_Longer_run
    cases hx⟩
  have ck_EndsLong : Ck (LL K A) 6 ["run"] := ⟨⟨pg_EndsLong, hd_EndsLong, po_EndsLong, sa_EndsLong⟩, rfl, by decide, fun x hx => by
    rcases List.mem_cons.mp hx with rfl | hx
    · exact na_EndsLong_run
    cases hx⟩
  have T : Txt w K mg A := {
    h_is_row := ⟨_, fun_mk (st := s_is_row) l_is_row q_is_row kp_is_row, (fun_mk (st := s_is_row) l_is_row q_is_row kp_is_row).binds (ps := P_is_row) fun _ _ _ _ _ _ us hl => match us, hl with | [_], _ => rfl⟩
    m_is_row := PySem.W.mg_of X G g_is_row
    kp_is_row := kp_is_row
    h_is_number := ⟨_, fun_mk (st := s_is_number) l_is_number q_is_number kp_is_number, (fun_mk (st := s_is_number) l_is_number q_is_number kp_is_number).binds (ps := P_is_number) fun _ _ _ _ _ _ us hl => match us, hl with | [_], _ => rfl⟩
    m_is_number := PySem.W.mg_of X G g_is_number
    kp_is_number := kp_is_number
    h_is_below := ⟨_, fun_mk (st := s_is_below) l_is_below q_is_below kp_is_below, (fun_mk (st := s_is_below) l_is_below q_is_below kp_is_below).binds (ps := P_is_below) fun _ _ _ _ _ _ us hl => match us, hl with | [_, _], _ => rfl⟩
    m_is_below := PySem.W.mg_of X G g_is_below
    kp_is_below := kp_is_below
    h_sets_of := ⟨_, fun_mk (st := s_sets_of) l_sets_of q_sets_of kp_sets_of, (fun_mk (st := s_sets_of) l_sets_of q_sets_of kp_sets_of).binds (ps := P_sets_of) fun _ _ _ _ _ _ us hl => match us, hl with | [_], _ => rfl⟩
    m_sets_of := PySem.W.mg_of X G g_sets_of
    kp_sets_of := kp_sets_of
    h_Alike_bool := ⟨_, fun_mk (st := s_Alike_bool) l_Alike_bool q_Alike_bool kp_Alike_bool, (fun_mk (st := s_Alike_bool) l_Alike_bool q_Alike_bool kp_Alike_bool).binds (ps := P_Alike_bool) fun _ _ _ _ _ _ us hl => match us, hl with | [_], _ => rfl⟩
    kp_Alike_bool := kp_Alike_bool
    h_Differs_bool := ⟨_, fun_mk (st := s_Differs_bool) l_Differs_bool q_Differs_bool kp_Differs_bool, (fun_mk (st := s_Differs_bool) l_Differs_bool q_Differs_bool kp_Differs_bool).binds (ps := P_Differs_bool) fun _ _ _ _ _ _ us hl => match us, hl with | [_], _ => rfl⟩
    kp_Differs_bool := kp_Differs_bool
    h_EndsLong_bool := ⟨_, fun_mk (st := s_EndsLong_bool) l_EndsLong_bool q_EndsLong_bool kp_EndsLong_bool, (fun_mk (st := s_EndsLong_bool) l_EndsLong_bool q_EndsLong_bool kp_EndsLong_bool).binds (ps := P_EndsLong_bool) fun _ _ _ _ _ _ us hl => match us, hl with | [_], _ => rfl⟩
    kp_EndsLong_bool := kp_EndsLong_bool
    h_EndsShort_bool := ⟨_, fun_mk (st := s_EndsShort_bool) l_EndsShort_bool q_EndsShort_bool kp_EndsShort_bool, (fun_mk (st := s_EndsShort_bool) l_EndsShort_bool q_EndsShort_bool kp_EndsShort_bool).binds (ps := P_EndsShort_bool) fun _ _ _ _ _ _ us hl => match us, hl with | [_], _ => rfl⟩
    kp_EndsShort_bool := kp_EndsShort_bool
    h_Longer_bool := ⟨_, fun_mk (st := s_Longer_bool) l_Longer_bool q_Longer_bool kp_Longer_bool, (fun_mk (st := s_Longer_bool) l_Longer_bool q_Longer_bool kp_Longer_bool).binds (ps := P_Longer_bool) fun _ _ _ _ _ _ us hl => match us, hl with | [_], _ => rfl⟩
    kp_Longer_bool := kp_Longer_bool
    h_Shortest_bool := ⟨_, fun_mk (st := s_Shortest_bool) l_Shortest_bool q_Shortest_bool kp_Shortest_bool, (fun_mk (st := s_Shortest_bool) l_Shortest_bool q_Shortest_bool kp_Shortest_bool).binds (ps := P_Shortest_bool) fun _ _ _ _ _ _ us hl => match us, hl with | [_], _ => rfl⟩
    kp_Shortest_bool := kp_Shortest_bool
    h_is_answer := ⟨_, fun_mk (st := s_is_answer) l_is_answer q_is_answer kp_is_answer, (fun_mk (st := s_is_answer) l_is_answer q_is_answer kp_is_answer).binds (ps := P_is_answer) fun _ _ _ _ _ _ us hl => match us, hl with | [_, _], _ => rfl⟩
    m_is_answer := PySem.W.mg_of X G g_is_answer
    kp_is_answer := kp_is_answer
    h_Machine_init := ⟨_, fun_mk (st := s_Machine_init) l_Machine_init q_Machine_init kp_Machine_init, (fun_mk (st := s_Machine_init) l_Machine_init q_Machine_init kp_Machine_init).binds (ps := P_Machine_init) fun _ _ _ _ _ _ us hl => match us, hl with | [_, _], _ => rfl⟩
    kp_Machine_init := kp_Machine_init
    h_Machine_commands := ⟨_, fun_mk (st := s_Machine_commands) l_Machine_commands q_Machine_commands kp_Machine_commands, (fun_mk (st := s_Machine_commands) l_Machine_commands q_Machine_commands kp_Machine_commands).binds (ps := P_Machine_commands) fun _ _ _ _ _ _ us hl => match us, hl with | [_], _ => rfl⟩
    kp_Machine_commands := kp_Machine_commands
    h_Machine_run := ⟨_, fun_mk (st := s_Machine_run) l_Machine_run q_Machine_run kp_Machine_run, (fun_mk (st := s_Machine_run) l_Machine_run q_Machine_run kp_Machine_run).binds (ps := P_Machine_run) fun _ _ _ _ _ _ us hl => match us, hl with | [_, _], _ => rfl⟩
    kp_Machine_run := kp_Machine_run
    h_check_two := ⟨_, fun_mk (st := s_check_two) l_check_two q_check_two kp_check_two, (fun_mk (st := s_check_two) l_check_two q_check_two kp_check_two).binds (ps := P_check_two) fun _ _ _ _ _ _ us hl => match us, hl with | [_, _], _ => rfl⟩
    m_check_two := PySem.W.mg_of X G g_check_two
    kp_check_two := kp_check_two
    h_Alike_init := ⟨_, fun_mk (st := s_Alike_init) l_Alike_init q_Alike_init kp_Alike_init, (fun_mk (st := s_Alike_init) l_Alike_init q_Alike_init kp_Alike_init).binds (ps := P_Alike_init) fun _ _ _ _ _ _ us hl => match us, hl with | [_, _], _ => rfl⟩
    kp_Alike_init := kp_Alike_init
    h_Differs_init := ⟨_, fun_mk (st := s_Differs_init) l_Differs_init q_Differs_init kp_Differs_init, (fun_mk (st := s_Differs_init) l_Differs_init q_Differs_init kp_Differs_init).binds (ps := P_Differs_init) fun _ _ _ _ _ _ us hl => match us, hl with | [_, _], _ => rfl⟩
    kp_Differs_init := kp_Differs_init
    h_fails := ⟨_, fun_mk (st := s_fails) l_fails q_fails kp_fails, (fun_mk (st := s_fails) l_fails q_fails kp_fails).binds (ps := P_fails) fun _ _ _ _ _ _ us hl => match us, hl with | [_, _, _], _ => rfl⟩
    m_fails := PySem.W.mg_of X G g_fails
    kp_fails := kp_fails
    h_judge_machine := ⟨_, fun_mk (st := s_judge_machine) l_judge_machine q_judge_machine kp_judge_machine, (fun_mk (st := s_judge_machine) l_judge_machine q_judge_machine kp_judge_machine).binds (ps := P_judge_machine) fun _ _ _ _ _ _ us hl => match us, hl with | [_, _], _ => rfl⟩
    m_judge_machine := PySem.W.mg_of X G g_judge_machine
    kp_judge_machine := kp_judge_machine
    h_runs_of := ⟨_, fun_mk (st := s_runs_of) l_runs_of q_runs_of kp_runs_of, (fun_mk (st := s_runs_of) l_runs_of q_runs_of kp_runs_of).binds (ps := P_runs_of) fun _ _ _ _ _ _ us hl => match us, hl with | [_, _], _ => rfl⟩
    m_runs_of := PySem.W.mg_of X G g_runs_of
    kp_runs_of := kp_runs_of
    h_failing_runs := ⟨_, fun_mk (st := s_failing_runs) l_failing_runs q_failing_runs kp_failing_runs, (fun_mk (st := s_failing_runs) l_failing_runs q_failing_runs kp_failing_runs).binds (ps := P_failing_runs) fun _ _ _ _ _ _ us hl => match us, hl with | [_, _, _], _ => rfl⟩
    m_failing_runs := PySem.W.mg_of X G g_failing_runs
    kp_failing_runs := kp_failing_runs
    h_check_failing := ⟨_, fun_mk (st := s_check_failing) l_check_failing q_check_failing kp_check_failing, (fun_mk (st := s_check_failing) l_check_failing q_check_failing kp_check_failing).binds (ps := P_check_failing) fun _ _ _ _ _ _ us hl => match us, hl with | [_, _, _], _ => rfl⟩
    m_check_failing := PySem.W.mg_of X G g_check_failing
    kp_check_failing := kp_check_failing
    h_check_ways := ⟨_, fun_mk (st := s_check_ways) l_check_ways q_check_ways kp_check_ways, (fun_mk (st := s_check_ways) l_check_ways q_check_ways kp_check_ways).binds (ps := P_check_ways) fun _ _ _ _ _ _ us hl => match us, hl with | [_], _ => rfl⟩
    m_check_ways := PySem.W.mg_of X G g_check_ways
    kp_check_ways := kp_check_ways
    h_tried := ⟨_, fun_mk (st := s_tried) l_tried q_tried kp_tried, (fun_mk (st := s_tried) l_tried q_tried kp_tried).binds (ps := P_tried) fun _ _ _ _ _ _ us hl => match us, hl with | [_, _], _ => rfl⟩
    m_tried := PySem.W.mg_of X G g_tried
    kp_tried := kp_tried
    h_shorter := ⟨_, fun_mk (st := s_shorter) l_shorter q_shorter kp_shorter, (fun_mk (st := s_shorter) l_shorter q_shorter kp_shorter).binds (ps := P_shorter) fun _ _ _ _ _ _ us hl => match us, hl with | [_, _], _ => rfl⟩
    m_shorter := PySem.W.mg_of X G g_shorter
    kp_shorter := kp_shorter
    h_cut_down := ⟨_, fun_mk (st := s_cut_down) l_cut_down q_cut_down kp_cut_down, (fun_mk (st := s_cut_down) l_cut_down q_cut_down kp_cut_down).binds (ps := P_cut_down) fun _ _ _ _ _ _ us hl => match us, hl with | [_, _, _, _], _ => rfl⟩
    m_cut_down := PySem.W.mg_of X G g_cut_down
    kp_cut_down := kp_cut_down
    h_is_end := ⟨_, fun_mk (st := s_is_end) l_is_end q_is_end kp_is_end, (fun_mk (st := s_is_end) l_is_end q_is_end kp_is_end).binds (ps := P_is_end) fun _ _ _ _ _ _ us hl => match us, hl with | [_, _, _, _], _ => rfl⟩
    m_is_end := PySem.W.mg_of X G g_is_end
    kp_is_end := kp_is_end
    h_least_parts := ⟨_, fun_mk (st := s_least_parts) l_least_parts q_least_parts kp_least_parts, (fun_mk (st := s_least_parts) l_least_parts q_least_parts kp_least_parts).binds (ps := P_least_parts) fun _ _ _ _ _ _ us hl => match us, hl with | [_, _, _], _ => rfl⟩
    m_least_parts := PySem.W.mg_of X G g_least_parts
    kp_least_parts := kp_least_parts
    h_matter := ⟨_, fun_mk (st := s_matter) l_matter q_matter kp_matter, (fun_mk (st := s_matter) l_matter q_matter kp_matter).binds (ps := P_matter) fun _ _ _ _ _ _ us hl => match us, hl with | [_, _, _], _ => rfl⟩
    m_matter := PySem.W.mg_of X G g_matter
    kp_matter := kp_matter
    h_Shortest_init := ⟨_, fun_mk (st := s_Shortest_init) l_Shortest_init q_Shortest_init kp_Shortest_init, (fun_mk (st := s_Shortest_init) l_Shortest_init q_Shortest_init kp_Shortest_init).binds (ps := P_Shortest_init) fun _ _ _ _ _ _ us hl => match us, hl with | [_, _], _ => rfl⟩
    kp_Shortest_init := kp_Shortest_init
    h_Longer_init := ⟨_, fun_mk (st := s_Longer_init) l_Longer_init q_Longer_init kp_Longer_init, (fun_mk (st := s_Longer_init) l_Longer_init q_Longer_init kp_Longer_init).binds (ps := P_Longer_init) fun _ _ _ _ _ _ us hl => match us, hl with | [_, _], _ => rfl⟩
    kp_Longer_init := kp_Longer_init
    h_judge_run := ⟨_, fun_mk (st := s_judge_run) l_judge_run q_judge_run kp_judge_run, (fun_mk (st := s_judge_run) l_judge_run q_judge_run kp_judge_run).binds (ps := P_judge_run) fun _ _ _ _ _ _ us hl => match us, hl with | [_, _, _], _ => rfl⟩
    m_judge_run := PySem.W.mg_of X G g_judge_run
    kp_judge_run := kp_judge_run
    h_ends_of := ⟨_, fun_mk (st := s_ends_of) l_ends_of q_ends_of kp_ends_of, (fun_mk (st := s_ends_of) l_ends_of q_ends_of kp_ends_of).binds (ps := P_ends_of) fun _ _ _ _ _ _ us hl => match us, hl with | [_, _, _, _], _ => rfl⟩
    m_ends_of := PySem.W.mg_of X G g_ends_of
    kp_ends_of := kp_ends_of
    h_EndsShort_init := ⟨_, fun_mk (st := s_EndsShort_init) l_EndsShort_init q_EndsShort_init kp_EndsShort_init, (fun_mk (st := s_EndsShort_init) l_EndsShort_init q_EndsShort_init kp_EndsShort_init).binds (ps := P_EndsShort_init) fun _ _ _ _ _ _ us hl => match us, hl with | [_, _], _ => rfl⟩
    kp_EndsShort_init := kp_EndsShort_init
    h_EndsShort_eq := ⟨_, fun_mk (st := s_EndsShort_eq) l_EndsShort_eq q_EndsShort_eq kp_EndsShort_eq, (fun_mk (st := s_EndsShort_eq) l_EndsShort_eq q_EndsShort_eq kp_EndsShort_eq).binds (ps := P_EndsShort_eq) fun _ _ _ _ _ _ us hl => match us, hl with | [_, _], _ => rfl⟩
    kp_EndsShort_eq := kp_EndsShort_eq
    h_EndsLong_init := ⟨_, fun_mk (st := s_EndsLong_init) l_EndsLong_init q_EndsLong_init kp_EndsLong_init, (fun_mk (st := s_EndsLong_init) l_EndsLong_init q_EndsLong_init kp_EndsLong_init).binds (ps := P_EndsLong_init) fun _ _ _ _ _ _ us hl => match us, hl with | [_, _], _ => rfl⟩
    kp_EndsLong_init := kp_EndsLong_init
    h_judge_ways := ⟨_, fun_mk (st := s_judge_ways) l_judge_ways q_judge_ways kp_judge_ways, (fun_mk (st := s_judge_ways) l_judge_ways q_judge_ways kp_judge_ways).binds (ps := P_judge_ways) fun _ _ _ _ _ _ us hl => match us, hl with | [_, _, _, _], _ => rfl⟩
    m_judge_ways := PySem.W.mg_of X G g_judge_ways
    kp_judge_ways := kp_judge_ways
    h_first_failure := ⟨_, fun_mk (st := s_first_failure) l_first_failure q_first_failure kp_first_failure, (fun_mk (st := s_first_failure) l_first_failure q_first_failure kp_first_failure).binds (ps := P_first_failure) fun _ _ _ _ _ _ us hl => match us, hl with | [_, _, _], _ => rfl⟩
    m_first_failure := PySem.W.mg_of X G g_first_failure
    kp_first_failure := kp_first_failure
    h_u_law_number := ⟨_, fun_mk (st := s_u_law_number) l_u_law_number q_u_law_number kp_u_law_number, (fun_mk (st := s_u_law_number) l_u_law_number q_u_law_number kp_u_law_number).binds (ps := P_u_law_number) fun _ _ _ _ _ _ us hl => match us, hl with | [_, _], _ => rfl⟩
    m_u_law_number := PySem.W.mg_of X G g_u_law_number
    kp_u_law_number := kp_u_law_number
    h_u_law_take := ⟨_, fun_mk (st := s_u_law_take) l_u_law_take q_u_law_take kp_u_law_take, (fun_mk (st := s_u_law_take) l_u_law_take q_u_law_take kp_u_law_take).binds (ps := P_u_law_take) fun _ _ _ _ _ _ us hl => match us, hl with | [_, _], _ => rfl⟩
    m_u_law_take := PySem.W.mg_of X G g_u_law_take
    kp_u_law_take := kp_u_law_take
    h_u_law_machine := ⟨_, fun_mk (st := s_u_law_machine) l_u_law_machine q_u_law_machine kp_u_law_machine, (fun_mk (st := s_u_law_machine) l_u_law_machine q_u_law_machine kp_u_law_machine).binds (ps := P_u_law_machine) fun _ _ _ _ _ _ us hl => match us, hl with | [_, _, _], _ => rfl⟩
    m_u_law_machine := PySem.W.mg_of X G g_u_law_machine
    kp_u_law_machine := kp_u_law_machine
    h_u_law_bent := ⟨_, fun_mk (st := s_u_law_bent) l_u_law_bent q_u_law_bent kp_u_law_bent, (fun_mk (st := s_u_law_bent) l_u_law_bent q_u_law_bent kp_u_law_bent).binds (ps := P_u_law_bent) fun _ _ _ _ _ _ us hl => match us, hl with | [_, _], _ => rfl⟩
    m_u_law_bent := PySem.W.mg_of X G g_u_law_bent
    kp_u_law_bent := kp_u_law_bent
    h_law := ⟨_, fun_mk (st := s_law) l_law q_law kp_law, (fun_mk (st := s_law) l_law q_law kp_law).binds (ps := P_law) fun _ _ _ _ _ _ us hl => match us, hl with | [_], _ => rfl⟩
    m_law := PySem.W.mg_of X G g_law
    kp_law := kp_law
    ck_EndsShort := ck_EndsShort
    m_EndsShort := PySem.W.mg_of X G gc_EndsShort
    mk_EndsShort := ⟨mk_EndsShort, g_EndsShort_init, i_EndsShort_init, kc_EndsShort⟩
    ck_Machine := ck_Machine
    m_Machine := PySem.W.mg_of X G gc_Machine
    mk_Machine := ⟨mk_Machine, g_Machine_init, i_Machine_init, kc_Machine⟩
    ck_Alike := ck_Alike
    m_Alike := PySem.W.mg_of X G gc_Alike
    mk_Alike := ⟨mk_Alike, g_Alike_init, i_Alike_init, kc_Alike⟩
    ck_Differs := ck_Differs
    m_Differs := PySem.W.mg_of X G gc_Differs
    mk_Differs := ⟨mk_Differs, g_Differs_init, i_Differs_init, kc_Differs⟩
    ck_Shortest := ck_Shortest
    m_Shortest := PySem.W.mg_of X G gc_Shortest
    mk_Shortest := ⟨mk_Shortest, g_Shortest_init, i_Shortest_init, kc_Shortest⟩
    ck_Longer := ck_Longer
    m_Longer := PySem.W.mg_of X G gc_Longer
    mk_Longer := ⟨mk_Longer, g_Longer_init, i_Longer_init, kc_Longer⟩
    ck_EndsLong := ck_EndsLong
    m_EndsLong := PySem.W.mg_of X G gc_EndsLong
    mk_EndsLong := ⟨mk_EndsLong, g_EndsLong_init, i_EndsLong_init, kc_EndsLong⟩
    me_Machine_commands := ⟨g_Machine_commands, i_Machine_commands, kp_Machine_commands⟩
    me_Machine_run := ⟨g_Machine_run, i_Machine_run, kp_Machine_run⟩
    fb_Alike := g_Alike_bool
    ib_Alike := i_Alike_bool
    fb_Differs := g_Differs_bool
    ib_Differs := i_Differs_bool
    fb_Shortest := g_Shortest_bool
    ib_Shortest := i_Shortest_bool
    fb_Longer := g_Longer_bool
    ib_Longer := i_Longer_bool
    fb_EndsShort := g_EndsShort_bool
    ib_EndsShort := i_EndsShort_bool
    fb_EndsLong := g_EndsLong_bool
    ib_EndsLong := i_EndsLong_bool
    fe_EndsShort := g_EndsShort_eq
    ie_EndsShort := i_EndsShort_eq
    fn_EndsShort := fn_EndsShort
    fo_EndsShort := hm_EndsShort
    nf_EndsShort_EndsShort := nf_EndsShort_EndsShort
    z_all := PySem.W.mg_none_of X G z_all
    z_any := PySem.W.mg_none_of X G z_any
    z_bool := PySem.W.mg_none_of X G z_bool
    z_enumerate := PySem.W.mg_none_of X G z_enumerate
    z_int := PySem.W.mg_none_of X G z_int
    z_isinstance := PySem.W.mg_none_of X G z_isinstance
    z_len := PySem.W.mg_none_of X G z_len
    z_list := PySem.W.mg_none_of X G z_list
    z_min := PySem.W.mg_none_of X G z_min
    z_range := PySem.W.mg_none_of X G z_range
    z_tuple := PySem.W.mg_none_of X G z_tuple
    z_zip := PySem.W.mg_none_of X G z_zip
    nc_EndsShort := ⟨.own _, .inl (PySem.W.mg_of X G gc_EndsShort)⟩
    nc_Machine := ⟨.own _, .inl (PySem.W.mg_of X G gc_Machine)⟩
    nc_bool := ⟨.ty _, .inr ⟨PySem.W.mg_none_of X G z_bool, by decide +kernel⟩⟩
    nc_int := ⟨.ty _, .inr ⟨PySem.W.mg_none_of X G z_int, by decide +kernel⟩⟩
    nc_list := ⟨.ty _, .inr ⟨PySem.W.mg_none_of X G z_list, by decide +kernel⟩⟩
    nc_str := ⟨.ty _, .inr ⟨PySem.W.mg_none_of X G z_str, by decide +kernel⟩⟩
    nc_tuple := ⟨.ty _, .inr ⟨PySem.W.mg_none_of X G z_tuple, by decide +kernel⟩⟩
    isi_list_tuple := ⟨fun kd b e => by
      cases kd
      case non => cases e; exact ⟨(kitAny_cons (b := false) (kit_ty (by decide +kernel)) (fun _ => (kitAny_cons (b := false) (kit_ty (by decide +kernel)) (fun _ => kitAny_nil) (fun z => nomatch z))) (fun z => nomatch z)), fun c z => nomatch z⟩
      case bl => cases e; exact ⟨(kitAny_cons (b := false) (kit_ty (by decide +kernel)) (fun _ => (kitAny_cons (b := false) (kit_ty (by decide +kernel)) (fun _ => kitAny_nil) (fun z => nomatch z))) (fun z => nomatch z)), fun c z => nomatch z⟩
      case int => cases e; exact ⟨(kitAny_cons (b := false) (kit_ty (by decide +kernel)) (fun _ => (kitAny_cons (b := false) (kit_ty (by decide +kernel)) (fun _ => kitAny_nil) (fun z => nomatch z))) (fun z => nomatch z)), fun c z => nomatch z⟩
      case str => cases e; exact ⟨(kitAny_cons (b := false) (kit_ty (by decide +kernel)) (fun _ => (kitAny_cons (b := false) (kit_ty (by decide +kernel)) (fun _ => kitAny_nil) (fun z => nomatch z))) (fun z => nomatch z)), fun c z => nomatch z⟩
      case tup => cases e; exact ⟨(kitAny_cons (b := false) (kit_ty (by decide +kernel)) (fun _ => (kitAny_cons (b := true) (kit_ty (by decide +kernel)) (fun z => nomatch z) (fun _ => rfl))) (fun z => nomatch z)), fun c z => nomatch z⟩
      case lst => cases e; exact ⟨(kitAny_cons (b := true) (kit_ty (by decide +kernel)) (fun z => nomatch z) (fun _ => rfl)), fun c z => nomatch z⟩
      case dct => cases e; exact ⟨(kitAny_cons (b := false) (kit_ty (by decide +kernel)) (fun _ => (kitAny_cons (b := false) (kit_ty (by decide +kernel)) (fun _ => kitAny_nil) (fun z => nomatch z))) (fun z => nomatch z)), fun c z => nomatch z⟩
      case ins c => cases e⟩
    isi_int := ⟨fun kd b e => by
      cases kd
      case non => cases e; exact ⟨(kitAny_cons (b := false) (kit_ty (by decide +kernel)) (fun _ => kitAny_nil) (fun z => nomatch z)), fun c z => nomatch z⟩
      case bl => cases e; exact ⟨(kitAny_cons (b := true) (kit_ty (by decide +kernel)) (fun z => nomatch z) (fun _ => rfl)), fun c z => nomatch z⟩
      case int => cases e; exact ⟨(kitAny_cons (b := true) (kit_ty (by decide +kernel)) (fun z => nomatch z) (fun _ => rfl)), fun c z => nomatch z⟩
      case str => cases e; exact ⟨(kitAny_cons (b := false) (kit_ty (by decide +kernel)) (fun _ => kitAny_nil) (fun z => nomatch z)), fun c z => nomatch z⟩
      case tup => cases e; exact ⟨(kitAny_cons (b := false) (kit_ty (by decide +kernel)) (fun _ => kitAny_nil) (fun z => nomatch z)), fun c z => nomatch z⟩
      case lst => cases e; exact ⟨(kitAny_cons (b := false) (kit_ty (by decide +kernel)) (fun _ => kitAny_nil) (fun z => nomatch z)), fun c z => nomatch z⟩
      case dct => cases e; exact ⟨(kitAny_cons (b := false) (kit_ty (by decide +kernel)) (fun _ => kitAny_nil) (fun z => nomatch z)), fun c z => nomatch z⟩
      case ins c => cases e⟩
    isi_bool := ⟨fun kd b e => by
      cases kd
      case non => cases e; exact ⟨(kitAny_cons (b := false) (kit_ty (by decide +kernel)) (fun _ => kitAny_nil) (fun z => nomatch z)), fun c z => nomatch z⟩
      case bl => cases e; exact ⟨(kitAny_cons (b := true) (kit_ty (by decide +kernel)) (fun z => nomatch z) (fun _ => rfl)), fun c z => nomatch z⟩
      case int => cases e; exact ⟨(kitAny_cons (b := false) (kit_ty (by decide +kernel)) (fun _ => kitAny_nil) (fun z => nomatch z)), fun c z => nomatch z⟩
      case str => cases e; exact ⟨(kitAny_cons (b := false) (kit_ty (by decide +kernel)) (fun _ => kitAny_nil) (fun z => nomatch z)), fun c z => nomatch z⟩
      case tup => cases e; exact ⟨(kitAny_cons (b := false) (kit_ty (by decide +kernel)) (fun _ => kitAny_nil) (fun z => nomatch z)), fun c z => nomatch z⟩
      case lst => cases e; exact ⟨(kitAny_cons (b := false) (kit_ty (by decide +kernel)) (fun _ => kitAny_nil) (fun z => nomatch z)), fun c z => nomatch z⟩
      case dct => cases e; exact ⟨(kitAny_cons (b := false) (kit_ty (by decide +kernel)) (fun _ => kitAny_nil) (fun z => nomatch z)), fun c z => nomatch z⟩
      case ins c => cases e⟩
    isi_Machine := ⟨fun kd b e => by
      unfold K29.isi_Machine at e
      split at e
      · cases e
        exact ⟨kitAny_cons (b := true) (by unfold PySem.W.kitOne; rw [if_pos (by simp [kdV])]) (fun z => nomatch z) (fun _ => rfl), fun c z => by cases z; exact io_Machine⟩
      · cases e⟩
    isi_str := ⟨fun kd b e => by
      cases kd
      case non => cases e; exact ⟨(kitAny_cons (b := false) (kit_ty (by decide +kernel)) (fun _ => kitAny_nil) (fun z => nomatch z)), fun c z => nomatch z⟩
      case bl => cases e; exact ⟨(kitAny_cons (b := false) (kit_ty (by decide +kernel)) (fun _ => kitAny_nil) (fun z => nomatch z)), fun c z => nomatch z⟩
      case int => cases e; exact ⟨(kitAny_cons (b := false) (kit_ty (by decide +kernel)) (fun _ => kitAny_nil) (fun z => nomatch z)), fun c z => nomatch z⟩
      case str => cases e; exact ⟨(kitAny_cons (b := true) (kit_ty (by decide +kernel)) (fun z => nomatch z) (fun _ => rfl)), fun c z => nomatch z⟩
      case tup => cases e; exact ⟨(kitAny_cons (b := false) (kit_ty (by decide +kernel)) (fun _ => kitAny_nil) (fun z => nomatch z)), fun c z => nomatch z⟩
      case lst => cases e; exact ⟨(kitAny_cons (b := false) (kit_ty (by decide +kernel)) (fun _ => kitAny_nil) (fun z => nomatch z)), fun c z => nomatch z⟩
      case dct => cases e; exact ⟨(kitAny_cons (b := false) (kit_ty (by decide +kernel)) (fun _ => kitAny_nil) (fun z => nomatch z)), fun c z => nomatch z⟩
      case ins c => cases e⟩
    isi_EndsShort := ⟨fun kd b e => by
      unfold K29.isi_EndsShort at e
      split at e
      · cases e
        exact ⟨kitAny_cons (b := true) (by unfold PySem.W.kitOne; rw [if_pos (by simp [kdV])]) (fun z => nomatch z) (fun _ => rfl), fun c z => by cases z; exact io_EndsShort⟩
      · cases e⟩
    k_MOST_STATES := ⟨_, .int 8, PySem.W.mg_of X G k_MOST_STATES, ⟨tk_MOST_STATES, rfl⟩, fun μ G => by unfold K29.k_MOST_STATES R; rfl⟩
    k_MOST_COMMANDS := ⟨_, .int 4, PySem.W.mg_of X G k_MOST_COMMANDS, ⟨tk_MOST_COMMANDS, rfl⟩, fun μ G => by unfold K29.k_MOST_COMMANDS R; rfl⟩
    k_MOST_RUN_machines := ⟨_, .int 12, PySem.W.mg_of X G k_MOST_RUN_machines, ⟨tk_MOST_RUN_machines, rfl⟩, fun μ G => by unfold K29.k_MOST_RUN_machines R; rfl⟩
    k_MOST_ANSWER := ⟨_, .int 1000, PySem.W.mg_of X G k_MOST_ANSWER, ⟨tk_MOST_ANSWER, rfl⟩, fun μ G => by unfold K29.k_MOST_ANSWER R; rfl⟩
    k_WAYS := ⟨_, .ref a_WAYS, PySem.W.mg_of X G k_WAYS, rfl, fun μ G => by
      unfold K29.k_WAYS R
      exact ⟨a_WAYS, _, rfl, .inr ⟨_, it_WAYS, n_WAYS, lk_WAYS, rfl, rfl, by rw [lim_eq, ← Array.length_toList, ← vl_WAYS.length]; decide, vl_WAYS⟩, (Rs.cons (by unfold R; rfl) (Rs.cons (by unfold R; rfl) (Rs.cons (by unfold R; rfl) Rs.nil)))⟩⟩
    k_MOST_RUN_commands := ⟨_, .int 12, PySem.W.mg_of X G k_MOST_RUN_commands, ⟨tk_MOST_RUN_commands, rfl⟩, fun μ G => by unfold K29.k_MOST_RUN_commands R; rfl⟩
    at_rows := (at_ad ck_Machine rfl at_no)
    at_run := (at_ad ck_Differs rfl (at_ad ck_Longer rfl (at_ad ck_EndsLong rfl at_no)))
    at_runs := (at_ad ck_EndsShort rfl at_no)
  }
  refine ⟨_, fun s v => .of_eq rfl, fun base _ _ => law_sp (L := LL K A) (F_law (P := P) (base := base) T (fun_mk (st := s_law) l_law q_law kp_law)) law_true⟩
end K29

open PySem PySem.W PyProof.Rows in
set_option maxRecDepth 100000 in
set_option maxHeartbeats 0 in
theorem PySem.Challenge.cw_leastcases_k29_cuts_in_order_holds : PySem.Challenge.rw_leastcases_k29_cuts_in_order.Holds := by
  w_on; o_law; k_head; (case hw => w_witness2)
  k_fill
  refine PyD.walk (k := 34) (l := PySem.Challenge.rw_leastcases_k29_cuts_in_order) rfl rfl ⟨rfl, by decide, by decide⟩ (fun w h Y => PySem.W.kIn_of Y) ?F
  case F =>
    intro w mg fa h KX G hmg
    refine' K29.all_mk KX G hmg ?gc_EndsShort ?gc_Machine ?gc_Alike ?gc_Differs ?gc_Shortest ?gc_Longer ?gc_EndsLong ?g_is_row ?l_is_row ?q_is_row ?kp_is_row ?g_is_number ?l_is_number ?q_is_number ?kp_is_number ?g_is_below ?l_is_below ?q_is_below ?kp_is_below ?g_sets_of ?l_sets_of ?q_sets_of ?kp_sets_of ?g_Alike_bool ?i_Alike_bool ?l_Alike_bool ?q_Alike_bool ?kp_Alike_bool ?g_Differs_bool ?i_Differs_bool ?l_Differs_bool ?q_Differs_bool ?kp_Differs_bool ?g_EndsLong_bool ?i_EndsLong_bool ?l_EndsLong_bool ?q_EndsLong_bool ?kp_EndsLong_bool ?g_EndsShort_bool ?i_EndsShort_bool ?l_EndsShort_bool ?q_EndsShort_bool ?kp_EndsShort_bool ?g_Longer_bool ?i_Longer_bool ?l_Longer_bool ?q_Longer_bool ?kp_Longer_bool ?g_Shortest_bool ?i_Shortest_bool ?l_Shortest_bool ?q_Shortest_bool ?kp_Shortest_bool ?g_is_answer ?l_is_answer ?q_is_answer ?kp_is_answer ?g_Machine_init ?i_Machine_init ?l_Machine_init ?q_Machine_init ?kp_Machine_init ?g_Machine_commands ?i_Machine_commands ?l_Machine_commands ?q_Machine_commands ?kp_Machine_commands ?g_Machine_run ?i_Machine_run ?l_Machine_run ?q_Machine_run ?kp_Machine_run ?g_check_two ?l_check_two ?q_check_two ?kp_check_two ?g_Alike_init ?i_Alike_init ?l_Alike_init ?q_Alike_init ?kp_Alike_init ?g_Differs_init ?i_Differs_init ?l_Differs_init ?q_Differs_init ?kp_Differs_init ?g_fails ?l_fails ?q_fails ?kp_fails ?g_judge_machine ?l_judge_machine ?q_judge_machine ?kp_judge_machine ?g_runs_of ?l_runs_of ?q_runs_of ?kp_runs_of ?g_failing_runs ?l_failing_runs ?q_failing_runs ?kp_failing_runs ?g_check_failing ?l_check_failing ?q_check_failing ?kp_check_failing ?g_check_ways ?l_check_ways ?q_check_ways ?kp_check_ways ?g_tried ?l_tried ?q_tried ?kp_tried ?g_shorter ?l_shorter ?q_shorter ?kp_shorter ?g_cut_down ?l_cut_down ?q_cut_down ?kp_cut_down ?g_is_end ?l_is_end ?q_is_end ?kp_is_end ?g_least_parts ?l_least_parts ?q_least_parts ?kp_least_parts ?g_matter ?l_matter ?q_matter ?kp_matter ?g_Shortest_init ?i_Shortest_init ?l_Shortest_init ?q_Shortest_init ?kp_Shortest_init ?g_Longer_init ?i_Longer_init ?l_Longer_init ?q_Longer_init ?kp_Longer_init ?g_judge_run ?l_judge_run ?q_judge_run ?kp_judge_run ?g_ends_of ?l_ends_of ?q_ends_of ?kp_ends_of ?g_EndsShort_init ?i_EndsShort_init ?l_EndsShort_init ?q_EndsShort_init ?kp_EndsShort_init ?g_EndsShort_eq ?i_EndsShort_eq ?l_EndsShort_eq ?q_EndsShort_eq ?kp_EndsShort_eq ?g_EndsLong_init ?i_EndsLong_init ?l_EndsLong_init ?q_EndsLong_init ?kp_EndsLong_init ?g_judge_ways ?l_judge_ways ?q_judge_ways ?kp_judge_ways ?g_first_failure ?l_first_failure ?q_first_failure ?kp_first_failure ?g_u_law_number ?l_u_law_number ?q_u_law_number ?kp_u_law_number ?g_u_law_take ?l_u_law_take ?q_u_law_take ?kp_u_law_take ?g_u_law_machine ?l_u_law_machine ?q_u_law_machine ?kp_u_law_machine ?g_u_law_bent ?l_u_law_bent ?q_u_law_bent ?kp_u_law_bent ?g_law ?l_law ?q_law ?kp_law ?pg_EndsShort ?hd_EndsShort ?po_EndsShort ?sa_EndsShort ?mk_EndsShort ?kc_EndsShort ?na_EndsShort_runs ?ha_EndsShort ?hm_EndsShort ?fn_EndsShort ?nf_EndsShort_EndsShort ?pg_Machine ?hd_Machine ?po_Machine ?sa_Machine ?mk_Machine ?kc_Machine ?na_Machine_rows ?ha_Machine ?hm_Machine ?pg_Alike ?hd_Alike ?po_Alike ?sa_Alike ?mk_Alike ?kc_Alike ?na_Alike_pairs ?pg_Differs ?hd_Differs ?po_Differs ?sa_Differs ?mk_Differs ?kc_Differs ?na_Differs_run ?pg_Shortest ?hd_Shortest ?po_Shortest ?sa_Shortest ?mk_Shortest ?kc_Shortest ?na_Shortest_many ?pg_Longer ?hd_Longer ?po_Longer ?sa_Longer ?mk_Longer ?kc_Longer ?na_Longer_run ?pg_EndsLong ?hd_EndsLong ?po_EndsLong ?sa_EndsLong ?mk_EndsLong ?kc_EndsLong ?na_EndsLong_run ?hn ?htk ?z_all ?z_any ?z_bool ?z_enumerate ?z_int ?z_isinstance ?z_len ?z_list ?z_min ?z_range ?z_str ?z_tuple ?z_zip ?k_MOST_STATES ?k_MOST_COMMANDS ?k_MOST_RUN_machines ?k_MOST_ANSWER ?k_WAYS ?lk_WAYS ?vl_WAYS ?k_MOST_RUN_commands
    (case gc_EndsShort => k_is)
    (case gc_Machine => k_is)
    (case gc_Alike => k_is)
    (case gc_Differs => k_is)
    (case gc_Shortest => k_is)
    (case gc_Longer => k_is)
    (case gc_EndsLong => k_is)
    (case g_is_row => k_is)
    (case l_is_row => k_is)
    (case q_is_row => k_is)
    (case kp_is_row => k_is)
    (case g_is_number => k_is)
    (case l_is_number => k_is)
    (case q_is_number => k_is)
    (case kp_is_number => k_is)
    (case g_is_below => k_is)
    (case l_is_below => k_is)
    (case q_is_below => k_is)
    (case kp_is_below => k_is)
    (case g_sets_of => k_is)
    (case l_sets_of => k_is)
    (case q_sets_of => k_is)
    (case kp_sets_of => k_is)
    (case g_Alike_bool => k_is)
    (case i_Alike_bool => k_is)
    (case l_Alike_bool => k_is)
    (case q_Alike_bool => k_is)
    (case kp_Alike_bool => k_is)
    (case g_Differs_bool => k_is)
    (case i_Differs_bool => k_is)
    (case l_Differs_bool => k_is)
    (case q_Differs_bool => k_is)
    (case kp_Differs_bool => k_is)
    (case g_EndsLong_bool => k_is)
    (case i_EndsLong_bool => k_is)
    (case l_EndsLong_bool => k_is)
    (case q_EndsLong_bool => k_is)
    (case kp_EndsLong_bool => k_is)
    (case g_EndsShort_bool => k_is)
    (case i_EndsShort_bool => k_is)
    (case l_EndsShort_bool => k_is)
    (case q_EndsShort_bool => k_is)
    (case kp_EndsShort_bool => k_is)
    (case g_Longer_bool => k_is)
    (case i_Longer_bool => k_is)
    (case l_Longer_bool => k_is)
    (case q_Longer_bool => k_is)
    (case kp_Longer_bool => k_is)
    (case g_Shortest_bool => k_is)
    (case i_Shortest_bool => k_is)
    (case l_Shortest_bool => k_is)
    (case q_Shortest_bool => k_is)
    (case kp_Shortest_bool => k_is)
    (case g_is_answer => k_is)
    (case l_is_answer => k_is)
    (case q_is_answer => k_is)
    (case kp_is_answer => k_is)
    (case g_Machine_init => k_is)
    (case i_Machine_init => k_is)
    (case l_Machine_init => k_is)
    (case q_Machine_init => k_is)
    (case kp_Machine_init => k_is)
    (case g_Machine_commands => k_is)
    (case i_Machine_commands => k_is)
    (case l_Machine_commands => k_is)
    (case q_Machine_commands => k_is)
    (case kp_Machine_commands => k_is)
    (case g_Machine_run => k_is)
    (case i_Machine_run => k_is)
    (case l_Machine_run => k_is)
    (case q_Machine_run => k_is)
    (case kp_Machine_run => k_is)
    (case g_check_two => k_is)
    (case l_check_two => k_is)
    (case q_check_two => k_is)
    (case kp_check_two => k_is)
    (case g_Alike_init => k_is)
    (case i_Alike_init => k_is)
    (case l_Alike_init => k_is)
    (case q_Alike_init => k_is)
    (case kp_Alike_init => k_is)
    (case g_Differs_init => k_is)
    (case i_Differs_init => k_is)
    (case l_Differs_init => k_is)
    (case q_Differs_init => k_is)
    (case kp_Differs_init => k_is)
    (case g_fails => k_is)
    (case l_fails => k_is)
    (case q_fails => k_is)
    (case kp_fails => k_is)
    (case g_judge_machine => k_is)
    (case l_judge_machine => k_is)
    (case q_judge_machine => k_is)
    (case kp_judge_machine => k_is)
    (case g_runs_of => k_is)
    (case l_runs_of => k_is)
    (case q_runs_of => k_is)
    (case kp_runs_of => k_is)
    (case g_failing_runs => k_is)
    (case l_failing_runs => k_is)
    (case q_failing_runs => k_is)
    (case kp_failing_runs => k_is)
    (case g_check_failing => k_is)
    (case l_check_failing => k_is)
    (case q_check_failing => k_is)
    (case kp_check_failing => k_is)
    (case g_check_ways => k_is)
    (case l_check_ways => k_is)
    (case q_check_ways => k_is)
    (case kp_check_ways => k_is)
    (case g_tried => k_is)
    (case l_tried => k_is)
    (case q_tried => k_is)
    (case kp_tried => k_is)
    (case g_shorter => k_is)
    (case l_shorter => k_is)
    (case q_shorter => k_is)
    (case kp_shorter => k_is)
    (case g_cut_down => k_is)
    (case l_cut_down => k_is)
    (case q_cut_down => k_is)
    (case kp_cut_down => k_is)
    (case g_is_end => k_is)
    (case l_is_end => k_is)
    (case q_is_end => k_is)
    (case kp_is_end => k_is)
    (case g_least_parts => k_is)
    (case l_least_parts => k_is)
    (case q_least_parts => k_is)
    (case kp_least_parts => k_is)
    (case g_matter => k_is)
    (case l_matter => k_is)
    (case q_matter => k_is)
    (case kp_matter => k_is)
    (case g_Shortest_init => k_is)
    (case i_Shortest_init => k_is)
    (case l_Shortest_init => k_is)
    (case q_Shortest_init => k_is)
    (case kp_Shortest_init => k_is)
    (case g_Longer_init => k_is)
    (case i_Longer_init => k_is)
    (case l_Longer_init => k_is)
    (case q_Longer_init => k_is)
    (case kp_Longer_init => k_is)
    (case g_judge_run => k_is)
    (case l_judge_run => k_is)
    (case q_judge_run => k_is)
    (case kp_judge_run => k_is)
    (case g_ends_of => k_is)
    (case l_ends_of => k_is)
    (case q_ends_of => k_is)
    (case kp_ends_of => k_is)
    (case g_EndsShort_init => k_is)
    (case i_EndsShort_init => k_is)
    (case l_EndsShort_init => k_is)
    (case q_EndsShort_init => k_is)
    (case kp_EndsShort_init => k_is)
    (case g_EndsShort_eq => k_is)
    (case i_EndsShort_eq => k_is)
    (case l_EndsShort_eq => k_is)
    (case q_EndsShort_eq => k_is)
    (case kp_EndsShort_eq => k_is)
    (case g_EndsLong_init => k_is)
    (case i_EndsLong_init => k_is)
    (case l_EndsLong_init => k_is)
    (case q_EndsLong_init => k_is)
    (case kp_EndsLong_init => k_is)
    (case g_judge_ways => k_is)
    (case l_judge_ways => k_is)
    (case q_judge_ways => k_is)
    (case kp_judge_ways => k_is)
    (case g_first_failure => k_is)
    (case l_first_failure => k_is)
    (case q_first_failure => k_is)
    (case kp_first_failure => k_is)
    (case g_u_law_number => k_is)
    (case l_u_law_number => k_is)
    (case q_u_law_number => k_is)
    (case kp_u_law_number => k_is)
    (case g_u_law_take => k_is)
    (case l_u_law_take => k_is)
    (case q_u_law_take => k_is)
    (case kp_u_law_take => k_is)
    (case g_u_law_machine => k_is)
    (case l_u_law_machine => k_is)
    (case q_u_law_machine => k_is)
    (case kp_u_law_machine => k_is)
    (case g_u_law_bent => k_is)
    (case l_u_law_bent => k_is)
    (case q_u_law_bent => k_is)
    (case kp_u_law_bent => k_is)
    (case g_law => k_is)
    (case l_law => k_is)
    (case q_law => k_is)
    (case kp_law => k_is)
    (case pg_EndsShort => k_is)
    (case hd_EndsShort => k_is)
    (case po_EndsShort => k_is)
    (case sa_EndsShort => k_is)
    (case mk_EndsShort => k_is)
    (case kc_EndsShort => k_is)
    (case na_EndsShort_runs => k_is)
    (case ha_EndsShort => k_is)
    (case hm_EndsShort => k_is)
    (case fn_EndsShort => k_is)
    (case nf_EndsShort_EndsShort => k_is)
    (case pg_Machine => k_is)
    (case hd_Machine => k_is)
    (case po_Machine => k_is)
    (case sa_Machine => k_is)
    (case mk_Machine => k_is)
    (case kc_Machine => k_is)
    (case na_Machine_rows => k_is)
    (case ha_Machine => k_is)
    (case hm_Machine => k_is)
    (case pg_Alike => k_is)
    (case hd_Alike => k_is)
    (case po_Alike => k_is)
    (case sa_Alike => k_is)
    (case mk_Alike => k_is)
    (case kc_Alike => k_is)
    (case na_Alike_pairs => k_is)
    (case pg_Differs => k_is)
    (case hd_Differs => k_is)
    (case po_Differs => k_is)
    (case sa_Differs => k_is)
    (case mk_Differs => k_is)
    (case kc_Differs => k_is)
    (case na_Differs_run => k_is)
    (case pg_Shortest => k_is)
    (case hd_Shortest => k_is)
    (case po_Shortest => k_is)
    (case sa_Shortest => k_is)
    (case mk_Shortest => k_is)
    (case kc_Shortest => k_is)
    (case na_Shortest_many => k_is)
    (case pg_Longer => k_is)
    (case hd_Longer => k_is)
    (case po_Longer => k_is)
    (case sa_Longer => k_is)
    (case mk_Longer => k_is)
    (case kc_Longer => k_is)
    (case na_Longer_run => k_is)
    (case pg_EndsLong => k_is)
    (case hd_EndsLong => k_is)
    (case po_EndsLong => k_is)
    (case sa_EndsLong => k_is)
    (case mk_EndsLong => k_is)
    (case kc_EndsLong => k_is)
    (case na_EndsLong_run => k_is)
    (case hn => k_is)
    (case htk => k_is)
    (case z_all => k_is)
    (case z_any => k_is)
    (case z_bool => k_is)
    (case z_enumerate => k_is)
    (case z_int => k_is)
    (case z_isinstance => k_is)
    (case z_len => k_is)
    (case z_list => k_is)
    (case z_min => k_is)
    (case z_range => k_is)
    (case z_str => k_is)
    (case z_tuple => k_is)
    (case z_zip => k_is)
    (case k_MOST_STATES => k_is)
    (case k_MOST_COMMANDS => k_is)
    (case k_MOST_RUN_machines => k_is)
    (case k_MOST_ANSWER => k_is)
    (case k_WAYS => k_is)
    (case lk_WAYS => k_is)
    (case vl_WAYS => exact (.cons ⟨_, rfl⟩ (.cons ⟨_, rfl⟩ (.cons ⟨_, rfl⟩ .nil))))
    (case k_MOST_RUN_commands => k_is)
